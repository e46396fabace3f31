import PyProof.Rows.All
import Wide.All
import OpenK.AllK
import Wide.FinOn
import HandS.ForMost
import HandS.Deep
import HandS.TupAny
import HandS.Wide
import HandS.WideBits
import HandS.Conv
import HandS.DictTup
import HandS.IsInst
import HandS.Flow
import HandS.More
import HandS.TupLen
import HandS.WordsDict
import HandS.CallSlots
import PySem.Challenge.RW_pathshape_k11_names
set_option Elab.async false
set_option linter.all false
set_option maxRecDepth 100000
set_option maxHeartbeats 4000000
namespace PL
open PySem PySem.Spec PyProof.Rows L2

/-! ### data, store, outcomes -/
inductive Dv where
  | non | bl (b : Bool) | int (i : Int) | str (x : Str) | tup (ds : List Dv) | kt (ds : List Dv) | fl (ds : List Dv) | ref (l : Nat)
inductive Ob where
  | lst (ds : List Dv) | dk (kvs : List (L2.Key × Dv)) | dt (kvs : List (List L2.Key × Dv))
abbrev Sto := List Ob
abbrev Env := List (Option Dv)
structure Ex where
  cls : Str
  fs : Option (Str × Dv)
inductive Out (α : Type) where
  | ok (a : α) (S : Sto) | ex (x : Ex) (S : Sto) | no
def Out.bind {α β : Type} : Out α → (α → Sto → Out β) → Out β
  | .ok a S, f => f a S
  | .ex x S, _ => .ex x S
  | .no, _ => .no
@[simp] theorem Out.bind_ok {α β : Type} (a : α) (S : Sto) (f : α → Sto → Out β) : (Out.ok a S).bind f = f a S := rfl
@[simp] theorem Out.bind_ex {α β : Type} (x : Ex) (S : Sto) (f : α → Sto → Out β) : (Out.ex x S : Out α).bind f = .ex x S := rfl
@[simp] theorem Out.bind_no {α β : Type} (f : α → Sto → Out β) : (Out.no : Out α).bind f = .no := rfl
/-- what is raised here is not told -/
def Out.bindN {α β : Type} : Out α → (α → Sto → Out β) → Out β
  | .ok a S, f => f a S
  | _, _ => .no
@[simp] theorem Out.bindN_ok {α β : Type} (a : α) (S : Sto) (f : α → Sto → Out β) : (Out.ok a S).bindN f = f a S := rfl
abbrev RE := Env → Sto → Out Dv
abbrev RT := Env → Sto → Out Bool
abbrev RA := Env → Sto → Out (List Dv)

/-! ### what a value stands for -/
def TupAt (μ : List Addr) (H : Hp) (a : Addr) (vs : List V) : Prop := H a = some (.tup vs) ∧ a ∉ μ
def ConAt (K : PySem.W.Frag) (a : Addr) (vs : List V) : Prop :=
  ∃ (o : Obj) (its : Array Value) (n : Nat), K.lookup a = some o ∧ o.cls = .type "tuple" ∧ o.data = .seq its n ∧ its.size ≤ sizeLine ∧ Vals vs its.toList
def LisAt (K : PySem.W.Frag) (μ : List Addr) (H : Hp) (a : Addr) (vs : List V) : Prop :=
  ((∃ o, H a = some (.frz o (.lst vs))) ∧ a ∉ μ) ∨ ∃ (o : Obj) (its : Array Value) (n : Nat), K.lookup a = some o ∧ o.cls = .type "list" ∧ o.dict = none ∧ o.data = .seq its n ∧ its.size ≤ sizeLine ∧ Vals vs its.toList
inductive Rep (K : PySem.W.Frag) (μ : List Addr) (H : Hp) : V → Dv → Prop
  | non : Rep K μ H .non .non
  | bl (b : Bool) : Rep K μ H (.bl b) (.bl b)
  | int (i : Int) : Rep K μ H (.int i) (.int i)
  | str (x : Str) : Rep K μ H (.str x) (.str x)
  | ref {l : Nat} {a : Addr} : μ[l]? = some a → Rep K μ H (.ref a) (.ref l)
  | kt {a : Addr} {vs : List V} {ds : List Dv} : ConAt K a vs → vs.length = ds.length → (∀ (i : Nat) (v : V) (d : Dv), vs[i]? = some v → ds[i]? = some d → Rep K μ H v d) → Rep K μ H (.ref a) (.kt ds)
  | tup {a : Addr} {vs : List V} {ds : List Dv} : TupAt μ H a vs → vs.length = ds.length → (∀ (i : Nat) (v : V) (d : Dv), vs[i]? = some v → ds[i]? = some d → Rep K μ H v d) → Rep K μ H (.ref a) (.tup ds)
  | fl {a : Addr} {vs : List V} {ds : List Dv} : LisAt K μ H a vs → vs.length = ds.length → (∀ (i : Nat) (v : V) (d : Dv), vs[i]? = some v → ds[i]? = some d → Rep K μ H v d) → Rep K μ H (.ref a) (.fl ds)
def Reps (K : PySem.W.Frag) (μ : List Addr) (H : Hp) (vs : List V) (ds : List Dv) : Prop :=
  vs.length = ds.length ∧ ∀ (i : Nat) (v : V) (d : Dv), vs[i]? = some v → ds[i]? = some d → Rep K μ H v d

structure Step (μ : List Addr) (H : Hp) (μ' : List Addr) (H' : Hp) : Prop where
  pre : ∃ ν, μ' = μ ++ ν ∧ ∀ b ∈ ν, H b = none
  keep : ∀ b o, H b = some o → b ∉ μ → H' b = some o
  live : ∀ b, H b ≠ none → H' b ≠ none

def ObR (K : PySem.W.Frag) (μ : List Addr) (H : Hp) (a : Addr) : Ob → Prop
  | .lst ds => ∃ vs, H a = some (.lst vs) ∧ Reps K μ H vs ds
  | .dk kvs => ∃ ws, H a = some (.dK ws) ∧ ws.map (·.1) = kvs.map (·.1) ∧ Reps K μ H (ws.map (·.2)) (kvs.map (·.2))
  | .dt kvs => ∃ ws, H a = some (.dT ws) ∧ ws.map (·.1) = kvs.map (·.1) ∧ Reps K μ H (ws.map (·.2)) (kvs.map (·.2))
structure SimS (K : PySem.W.Frag) (μ : List Addr) (S : Sto) (H : Hp) : Prop where
  len : μ.length = S.length
  nd : μ.Nodup
  ob : ∀ (l : Nat) (a : Addr) (o : Ob), μ[l]? = some a → S[l]? = some o → ObR K μ H a o
def SimE (K : PySem.W.Frag) (μ : List Addr) (H : Hp) (ρ : Env) (σ : L2.St) : Prop :=
  ρ.length = σ.length ∧ ∀ (i : Nat) (d : Dv), ρ[i]? = some (some d) → ∃ v, σ[i]? = some (some v) ∧ Rep K μ H v d
def XRep (K : PySem.W.Frag) (mg : Str → Option Value) (μ : List Addr) (H : Hp) (x : Ex) (cls : Value) (d : Option Addr) : Prop :=
  mg x.cls = some cls ∧ ((x.fs = none ∧ d = none) ∨ ∃ f e dx v, x.fs = some (f, e) ∧ d = some dx ∧ H dx = some (.xd [(f, v)]) ∧ Rep K μ H v e)

/-! ### keeping -/
section
variable {K : PySem.W.Frag} {μ μ' μ1 μ2 : List Addr} {H H' H1 H2 : Hp} {v : V} {d : Dv} {vs : List V} {ds : List Dv} {a : Addr}
theorem Step.refl (μ : List Addr) (H : Hp) : Step μ H μ H := ⟨⟨[], by simp, fun _ h => nomatch h⟩, fun _ _ h _ => h, fun _ h => h⟩
theorem Step.nin (s : Step μ H μ' H') {o : HO} (h : H a = some o) (n : a ∉ μ) : a ∉ μ' := by
  obtain ⟨ν, e, f⟩ := s.pre
  rw [e]
  intro q
  rcases List.mem_append.mp q with q | q
  · exact n q
  · rw [f a q] at h; cases h
theorem Step.trans (s : Step μ H μ1 H1) (t : Step μ1 H1 μ2 H2) : Step μ H μ2 H2 := by
  refine ⟨?_, fun b o h n => t.keep b o (s.keep b o h n) (s.nin h n), fun b h => t.live b (s.live b h)⟩
  obtain ⟨ν, e, f⟩ := s.pre
  obtain ⟨ν', e', f'⟩ := t.pre
  refine ⟨ν ++ ν', by rw [e', e, List.append_assoc], fun b hb => ?_⟩
  rcases List.mem_append.mp hb with hb | hb
  · exact f b hb
  · cases q : H b with
    | none => rfl
    | some o => exact absurd (f' b hb) (s.live b (by rw [q]; exact fun z => nomatch z))
theorem Step.get (s : Step μ H μ' H') {l : Nat} (h : μ[l]? = some a) : μ'[l]? = some a := by
  obtain ⟨ν, e, _⟩ := s.pre
  rw [e, List.getElem?_append_left (List.getElem?_eq_some_iff.mp h).1]
  exact h
theorem TupAt.step (s : Step μ H μ' H') (h : TupAt μ H a vs) : TupAt μ' H' a vs := ⟨s.keep _ _ h.1 h.2, s.nin h.1 h.2⟩
theorem LisAt.step (s : Step μ H μ' H') (h : LisAt K μ H a vs) : LisAt K μ' H' a vs := by
  rcases h with ⟨⟨o, h⟩, n⟩ | h
  · exact .inl ⟨⟨o, s.keep _ _ h n⟩, s.nin h n⟩
  · exact .inr h
theorem Rep.step (s : Step μ H μ' H') (h : Rep K μ H v d) : Rep K μ' H' v d := by
  induction h with
  | non => exact .non
  | bl b => exact .bl b
  | int i => exact .int i
  | str x => exact .str x
  | ref h => exact .ref (s.get h)
  | kt h e _ ih => exact .kt h e fun i v d h1 h2 => ih i v d h1 h2
  | tup h e _ ih => exact .tup (h.step s) e fun i v d h1 h2 => ih i v d h1 h2
  | fl h e _ ih => exact .fl (h.step s) e fun i v d h1 h2 => ih i v d h1 h2
theorem Reps.step (s : Step μ H μ' H') (h : Reps K μ H vs ds) : Reps K μ' H' vs ds := ⟨h.1, fun i v d h1 h2 => (h.2 i v d h1 h2).step s⟩
theorem Reps.nil : Reps K μ H [] [] := ⟨rfl, fun i v d h => by simp at h⟩
theorem Reps.cons (t : Reps K μ H vs ds) (h : Rep K μ H v d) : Reps K μ H (v :: vs) (d :: ds) := by
  refine ⟨by simp [t.1], fun i v' d' h1 h2 => ?_⟩
  cases i with
  | zero => simp at h1 h2; subst h1; subst h2; exact h
  | succ i => exact t.2 i v' d' (by simpa using h1) (by simpa using h2)
theorem Reps.uncons {e : Dv} {es : List Dv} (t : Reps K μ H vs (e :: es)) : ∃ v ws, vs = v :: ws ∧ Rep K μ H v e ∧ Reps K μ H ws es := by
  cases vs with
  | nil => exact absurd t.1 (by simp)
  | cons v ws => exact ⟨v, ws, rfl, t.2 0 v e rfl rfl, by have := t.1; simpa using this, fun i v' d' h1 h2 => t.2 (i + 1) v' d' (by simpa using h1) (by simpa using h2)⟩
theorem Reps.un0 (t : Reps K μ H vs []) : vs = [] := List.eq_nil_of_length_eq_zero (by rw [t.1]; rfl)
theorem Reps.append {ws : List V} {es : List Dv} (h : Reps K μ H vs ds) (t : Reps K μ H ws es) : Reps K μ H (vs ++ ws) (ds ++ es) := by
  refine ⟨by simp [h.1, t.1], fun i v d h1 h2 => ?_⟩
  by_cases hi : i < vs.length
  · rw [List.getElem?_append_left hi] at h1
    rw [List.getElem?_append_left (by rw [← h.1]; exact hi)] at h2
    exact h.2 i v d h1 h2
  · rw [List.getElem?_append_right (by omega)] at h1
    rw [List.getElem?_append_right (by rw [← h.1]; omega), ← h.1] at h2
    exact t.2 _ v d h1 h2
theorem Rep.reps_cons (h : Rep K μ H v d) (t : Reps K μ H vs ds) : Reps K μ H (v :: vs) (d :: ds) := t.cons h
theorem Reps.one (h : Rep K μ H v d) : Reps K μ H [v] [d] := Reps.nil.cons h
theorem Reps.get (h : Reps K μ H vs ds) {i : Nat} (e : ds[i]? = some d) : ∃ v, vs[i]? = some v ∧ Rep K μ H v d := by
  have hi : i < vs.length := by rw [h.1]; exact (List.getElem?_eq_some_iff.mp e).1
  exact ⟨vs[i], List.getElem?_eq_getElem hi, h.2 i _ d (List.getElem?_eq_getElem hi) e⟩
theorem Reps.set (h : Reps K μ H vs ds) (r : Rep K μ H v d) (i : Nat) : Reps K μ H (vs.set i v) (ds.set i d) := by
  refine ⟨by simp [h.1], fun j v' d' h1 h2 => ?_⟩
  by_cases hj : i = j
  · subst hj
    have h3 : i < vs.length := by have := (List.getElem?_eq_some_iff.mp h1).1; simpa using this
    rw [List.getElem?_set_self h3] at h1
    rw [List.getElem?_set_self (by rw [← h.1]; exact h3)] at h2
    cases h1; cases h2; exact r
  · rw [List.getElem?_set_ne hj] at h1 h2
    exact h.2 j v' d' h1 h2
theorem Reps.sub (h : Reps K μ H vs ds) {ws : List V} {es : List Dv} (f : Nat → Nat) (hl : ws.length = es.length) (h1 : ∀ i, i < ws.length → ws[i]? = vs[f i]?) (h2 : ∀ i, i < ws.length → es[i]? = ds[f i]?) : Reps K μ H ws es :=
  ⟨hl, fun i v d e1 e2 => by
    have hi := (List.getElem?_eq_some_iff.mp e1).1
    exact h.2 (f i) v d ((h1 i hi).symm.trans e1) ((h2 i hi).symm.trans e2)⟩
theorem Reps.take (h : Reps K μ H vs ds) (n : Nat) : Reps K μ H (vs.take n) (ds.take n) :=
  h.sub id (by simp [h.1]) (fun i hi => by simp at hi; simp only [List.getElem?_take, id]; rw [if_pos (by omega)]) fun i hi => by simp at hi; simp only [List.getElem?_take, id]; rw [if_pos (by omega)]
theorem Reps.drop (h : Reps K μ H vs ds) (n : Nat) : Reps K μ H (vs.drop n) (ds.drop n) :=
  h.sub (fun i => n + i) (by simp [h.1]) (fun i _ => by simp [List.getElem?_drop]) fun i _ => by simp [List.getElem?_drop]
theorem Reps.rev (h : Reps K μ H vs ds) : Reps K μ H vs.reverse ds.reverse :=
  h.sub (fun i => vs.length - 1 - i) (by simp [h.1]) (fun i hi => by rw [List.getElem?_reverse (by simpa using hi)]) fun i hi => by
    rw [List.length_reverse] at hi
    rw [List.getElem?_reverse (by rw [← h.1]; exact hi), h.1]
theorem ObR.step (s : Step μ H μ' H') {o : Ob} {l : Nat} (h : ObR K μ H a o) (k : ∀ u, H a = some u → H' a = some u) : ObR K μ' H' a o := by
  cases o with
  | lst ds => obtain ⟨vs, e, r⟩ := h; exact ⟨vs, k _ e, r.step s⟩
  | dk kvs => obtain ⟨vs, e, q, r⟩ := h; exact ⟨vs, k _ e, q, r.step s⟩
  | dt kvs => obtain ⟨vs, e, q, r⟩ := h; exact ⟨vs, k _ e, q, r.step s⟩
theorem ObR.some {o : Ob} (h : ObR K μ H a o) : ∃ u, H a = some u := by
  cases o with
  | lst ds => obtain ⟨vs, e, _⟩ := h; exact ⟨_, e⟩
  | dk kvs => obtain ⟨vs, e, _⟩ := h; exact ⟨_, e⟩
  | dt kvs => obtain ⟨vs, e, _⟩ := h; exact ⟨_, e⟩
theorem SimE.step {ρ : Env} {σ : L2.St} (s : Step μ H μ' H') (h : SimE K μ H ρ σ) : SimE K μ' H' ρ σ :=
  ⟨h.1, fun i d e => let ⟨v, e', r⟩ := h.2 i d e; ⟨v, e', r.step s⟩⟩
variable {S : Sto} {o : Ob} {l : Nat} {p : Addr}
theorem SimS.at (h : SimS K μ S H) (e : S[l]? = some o) : ∃ a, μ[l]? = some a ∧ ObR K μ H a o := by
  have hl : l < μ.length := by rw [h.len]; exact (List.getElem?_eq_some_iff.mp e).1
  exact ⟨μ[l], List.getElem?_eq_getElem hl, h.ob l _ o (List.getElem?_eq_getElem hl) e⟩
theorem SimS.at' (h : SimS K μ S H) (e : S[l]? = some o) (q : μ[l]? = some a) : ObR K μ H a o := h.ob l a o q e
theorem SimS.tracked (h : SimS K μ S H) (m : a ∈ μ) : ∃ u, H a = some u := by
  obtain ⟨l, hl, e⟩ := List.getElem_of_mem m
  have hs : l < S.length := by rw [← h.len]; exact hl
  exact (h.ob l a S[l] (by rw [List.getElem?_eq_getElem hl, e]) (List.getElem?_eq_getElem hs)).some
theorem SimS.fresh (h : SimS K μ S H) (n : H p = none) : p ∉ μ := fun m => by
  obtain ⟨u, e⟩ := h.tracked m
  rw [n] at e; cases e
/-- something laid that is no store object -/
theorem step_lay (h : SimS K μ S H) (n : H p = none) (u : HO) : Step μ H μ (upd H p u) :=
  ⟨⟨[], by simp, fun _ h => nomatch h⟩, fun b o e _ => by rw [upd_ne (ne_of_none e n)]; exact e, fun b e => by
    by_cases hb : b = p
    · rw [hb, upd_same]; exact fun z => nomatch z
    · rw [upd_ne hb]; exact e⟩
theorem SimS.lay (h : SimS K μ S H) (n : H p = none) (u : HO) : SimS K μ S (upd H p u) :=
  ⟨h.len, h.nd, fun l a o e1 e2 => (h.ob l a o e1 e2).step (l := l) (step_lay h n u) fun w q => by rw [upd_ne (ne_of_none q n)]; exact q⟩
theorem step_new (h : SimS K μ S H) (n : H p = none) (u : HO) : Step μ H (μ ++ [p]) (upd H p u) :=
  ⟨⟨[p], rfl, fun b hb => by simp at hb; rw [hb]; exact n⟩, (step_lay h n u).keep, (step_lay h n u).live⟩
theorem SimS.new (h : SimS K μ S H) (n : H p = none) {u : HO} (r : ObR K (μ ++ [p]) (upd H p u) p o) : SimS K (μ ++ [p]) (S ++ [o]) (upd H p u) := by
  refine ⟨by simp [h.len], List.nodup_append.mpr ⟨h.nd, by simp, fun a ha b hb => ?_⟩, fun l a o' e1 e2 => ?_⟩
  · simp at hb; subst hb; exact fun z => h.fresh n (z ▸ ha)
  · by_cases hl : l < μ.length
    · rw [List.getElem?_append_left hl] at e1
      rw [List.getElem?_append_left (by rw [← h.len]; exact hl)] at e2
      exact (h.ob l a o' e1 e2).step (l := l) (step_new h n u) fun w q => by rw [upd_ne (ne_of_none q n)]; exact q
    · have hl2 : l = μ.length := by have := (List.getElem?_eq_some_iff.mp e1).1; simp at this; omega
      subst hl2
      rw [List.getElem?_append_right (Nat.le_refl _)] at e1
      rw [List.getElem?_append_right (by rw [h.len]; exact Nat.le_refl _), h.len] at e2
      simp at e1 e2
      subst e1; subst e2; exact r
theorem new_at (h : SimS K μ S H) (p : Addr) : (μ ++ [p])[S.length]? = some p := by rw [← h.len]; simp
theorem step_put (h : SimS K μ S H) (e : μ[l]? = some a) (u : HO) : Step μ H μ (upd H a u) :=
  ⟨⟨[], by simp, fun _ h => nomatch h⟩, fun b o q n => by rw [upd_ne (fun z => n (by rw [z]; exact List.mem_of_getElem? e))]; exact q, fun b q => by
    by_cases hb : b = a
    · rw [hb, upd_same]; exact fun z => nomatch z
    · rw [upd_ne hb]; exact q⟩
theorem SimS.put (h : SimS K μ S H) (e : μ[l]? = some a) {u : HO} (r : ObR K μ (upd H a u) a o) : SimS K μ (S.set l o) (upd H a u) := by
  refine ⟨by simp [h.len], h.nd, fun k b o' e1 e2 => ?_⟩
  by_cases hk : l = k
  · subst hk
    rw [e] at e1; cases e1
    have hl : l < S.length := by rw [← h.len]; exact (List.getElem?_eq_some_iff.mp e).1
    rw [List.getElem?_set_self hl] at e2
    cases e2; exact r
  · rw [List.getElem?_set_ne hk] at e2
    have hne : b ≠ a := fun z => by
      subst z
      have h1 := List.getElem?_eq_some_iff.mp e
      have h2 := List.getElem?_eq_some_iff.mp e1
      exact hk ((List.getElem_inj h.nd).mp (h1.2.trans h2.2.symm))
    exact (h.ob k b o' e1 e2).step (l := k) (step_put h e u) fun w q => by rw [upd_ne hne]; exact q
end

/-! ### sequences -/
def tupOf : Dv → Option (List Dv)
  | .tup ds => some ds
  | .kt ds => some ds
  | _ => none
def lstOf (S : Sto) : Dv → Option (List Dv)
  | .fl ds => some ds
  | .ref l => match S[l]? with
    | some (.lst ds) => some ds
    | _ => none
  | _ => none
section
variable {K : PySem.W.Frag} {μ : List Addr} {H : Hp} {v : V} {d : Dv} {ds : List Dv} {S : Sto}
theorem Rep.sqT (r : Rep K μ H v d) (e : tupOf d = some ds) : ∃ a vs, v = .ref a ∧ SqT K H a vs ∧ Reps K μ H vs ds := by
  cases r with
  | tup h l q => simp only [tupOf, Option.some.injEq] at e; subst e; exact ⟨_, _, rfl, .inl (.inl h.1), l, q⟩
  | kt h l q => simp only [tupOf, Option.some.injEq] at e; subst e; exact ⟨_, _, rfl, .inr h, l, q⟩
  | _ => simp [tupOf] at e
theorem Rep.sqL (hS : SimS K μ S H) (r : Rep K μ H v d) (e : lstOf S d = some ds) : ∃ a vs, v = .ref a ∧ SqL K H a vs ∧ Reps K μ H vs ds := by
  cases r with
  | fl h l q =>
    simp only [lstOf, Option.some.injEq] at e; subst e
    rcases h with ⟨⟨o, h⟩, _⟩ | h
    · exact ⟨_, _, rfl, .inl (.inr ⟨o, h⟩), l, q⟩
    · exact ⟨_, _, rfl, .inr h, l, q⟩
  | @ref l a h =>
    simp only [lstOf] at e
    split at e
    · rename_i es hs
      simp only [Option.some.injEq] at e; subst e
      obtain ⟨vs, e1, r⟩ := hS.at' hs h
      exact ⟨a, vs, rfl, .inl (.inl e1), r⟩
    · cases e
  | _ => simp [lstOf] at e
theorem Rep.lst {l : Nat} (hS : SimS K μ S H) (r : Rep K μ H v (.ref l)) (e : S[l]? = some (.lst ds)) : ∃ a vs, v = .ref a ∧ μ[l]? = some a ∧ H a = some (.lst vs) ∧ Reps K μ H vs ds := by
  cases r with
  | ref h => obtain ⟨vs, e1, r⟩ := hS.at' e h; exact ⟨_, vs, rfl, h, e1, r⟩
end

/-! ### outcomes, as the layer's readings -/
def Met {α β : Type} (RP : List Addr → Hp → β → α → Prop) (K : PySem.W.Frag) (mg : Str → Option Value) (W : Value → Option Addr → Hp → Prop) (μ : List Addr) (H : Hp) (o : Out α) (Q : β → Hp → Prop) : Prop :=
  match o with
  | .ok d S' => ∀ μ' H' v, SimS K μ' S' H' → Step μ H μ' H' → RP μ' H' v d → Q v H'
  | .ex x S' => ∀ μ' H' cls dd, SimS K μ' S' H' → Step μ H μ' H' → XRep K mg μ' H' x cls dd → W cls dd H'
  | .no => False
abbrev WX := Value → Option Addr → L2.St → Hp → Prop
abbrev WX.at (W : WX) (σ : L2.St) : Value → Option Addr → Hp → Prop := fun c d H => W c d σ H
def tG {α β : Type} (RP : List Addr → Hp → β → α → Prop) (K : PySem.W.Frag) (mg : Str → Option Value) (W : WX) (r : Env → Sto → Out α) (σ : L2.St) (H : Hp) (Q : β → Hp → Prop) : Prop :=
  ∃ μ ρ S, SimS K μ S H ∧ SimE K μ H ρ σ ∧ Met RP K mg (W.at σ) μ H (r ρ S) Q
def RBool (μ : List Addr) (H : Hp) (b b' : Bool) : Prop := b = b'
section
variable {K : PySem.W.Frag} {mg : Str → Option Value} {W : WX} {μ μ1 : List Addr} {H H1 : Hp} {ρ : Env} {σ : L2.St} {S : Sto}
theorem Met.step {α β : Type} {RP : List Addr → Hp → β → α → Prop} {Wx : Value → Option Addr → Hp → Prop} {o : Out α} {Q : β → Hp → Prop} (s : Step μ H μ1 H1) (h : Met RP K mg Wx μ H o Q) : Met RP K mg Wx μ1 H1 o Q := by
  cases o with
  | ok d S' => exact fun μ' H' v a b c => h μ' H' v a (s.trans b) c
  | ex x S' => exact fun μ' H' cl dd a b c => h μ' H' cl dd a (s.trans b) c
  | no => exact h
theorem Met.mono {α β : Type} {RP : List Addr → Hp → β → α → Prop} {Wx : Value → Option Addr → Hp → Prop} {o : Out α} {Q Q' : β → Hp → Prop} (h : Met RP K mg Wx μ H o Q) (q : ∀ v H', Q v H' → Q' v H') : Met RP K mg Wx μ H o Q' := by
  cases o with
  | ok d S' => exact fun μ' H' v a b c => q _ _ (h μ' H' v a b c)
  | ex x S' => exact h
  | no => exact h
theorem bnd {α β γ δ : Type} {R1 : List Addr → Hp → β → α → Prop} {R2 : List Addr → Hp → δ → γ → Prop} {r : Env → Sto → Out α} {f : α → Sto → Out γ} {Q : δ → Hp → Prop} (hS : SimS K μ S H) (hE : SimE K μ H ρ σ)
    (h : Met R2 K mg (W.at σ) μ H ((r ρ S).bind f) Q) : tG R1 K mg W r σ H (fun v H1 => ∃ μ1 S1 d, SimS K μ1 S1 H1 ∧ SimE K μ1 H1 ρ σ ∧ Step μ H μ1 H1 ∧ R1 μ1 H1 v d ∧ Met R2 K mg (W.at σ) μ1 H1 (f d S1) Q) := by
  refine ⟨μ, ρ, S, hS, hE, ?_⟩
  cases q : r ρ S with
  | ok d S1 =>
    rw [q] at h
    exact fun μ1 H1 v a b c => ⟨μ1, S1, d, a, hE.step b, b, c, h.step b⟩
  | ex x S1 => rw [q] at h; exact h
  | no => rw [q] at h; exact h
/-- an outcome that is at hand -/
theorem Met.ok {α β : Type} {RP : List Addr → Hp → β → α → Prop} {Wx : Value → Option Addr → Hp → Prop} {d : α} {Q : β → Hp → Prop} {v : β} (h : Met RP K mg Wx μ H (.ok d S) Q) (hS : SimS K μ S H) (r : RP μ H v d) : Q v H := h μ H v hS (.refl μ H) r
/-- a new store object -/
theorem Met.new {o : Ob} {u : HO} {p : Addr} {Wx : Value → Option Addr → Hp → Prop} {Q : V → Hp → Prop} (h : Met (Rep K) K mg Wx μ H (.ok (.ref S.length) (S ++ [o])) Q) (hS : SimS K μ S H) (n : H p = none) (r : ObR K (μ ++ [p]) (upd H p u) p o) : Q (.ref p) (upd H p u) :=
  h _ _ _ (hS.new n r) (step_new hS n u) (.ref (new_at hS p))
theorem Met.lst {ds : List Dv} {vs : List V} {p : Addr} {Wx : Value → Option Addr → Hp → Prop} {Q : V → Hp → Prop} (h : Met (Rep K) K mg Wx μ H (.ok (.ref S.length) (S ++ [.lst ds])) Q) (hS : SimS K μ S H) (n : H p = none) (r : Reps K μ H vs ds) : Q (.ref p) (upd H p (.lst vs)) :=
  h.new hS n ⟨vs, upd_same, r.step (step_new hS n _)⟩
theorem Met.tup {ds : List Dv} {vs : List V} {p : Addr} {Wx : Value → Option Addr → Hp → Prop} {Q : V → Hp → Prop} (h : Met (Rep K) K mg Wx μ H (.ok (.tup ds) S) Q) (hS : SimS K μ S H) (n : H p = none) (r : Reps K μ H vs ds) : Q (.ref p) (upd H p (.tup vs)) :=
  h _ _ _ (hS.lay n _) (step_lay hS n _) (.tup ⟨upd_same, hS.fresh n⟩ r.1 (r.step (step_lay hS n _)).2)
/-- a store object written -/
theorem Met.put {α β : Type} {RP : List Addr → Hp → β → α → Prop} {o : Ob} {u : HO} {a : Addr} {l : Nat} {Wx : Value → Option Addr → Hp → Prop} {Q : β → Hp → Prop} {d : α} {v : β} (h : Met RP K mg Wx μ H (.ok d (S.set l o)) Q) (hS : SimS K μ S H) (e : μ[l]? = some a) (r : ObR K μ (upd H a u) a o) (rv : RP μ (upd H a u) v d) : Q v (upd H a u) :=
  h _ _ _ (hS.put e r) (step_put hS e u) rv
end
end PL

namespace PL
open PySem PySem.Spec PyProof.Rows L2

/-! ### rules: from readings to outcomes -/
theorem PE.imp {X : Cx} {e : Expr} {t t' : TE} (h : PE X e t) (i : ∀ σ H Q, t' σ H Q → t σ H Q) : PE X e t' := ⟨fun pins s σ H Q I w => h.run pins s σ H Q I (i σ H Q w)⟩
theorem PT.imp {X : Cx} {e : Expr} {t t' : TT} (h : PT X e t) (i : ∀ σ H Q, t' σ H Q → t σ H Q) : PT X e t' := ⟨fun pins s σ H Q I w => h.run pins s σ H Q I (i σ H Q w)⟩
theorem PW.imp {X : Cx} {e : Expr} {t t' : TT} (h : PW X e t) (i : ∀ σ H Q, t' σ H Q → t σ H Q) : PW X e t' := ⟨fun wh pins s σ H Q I w => h.run wh pins s σ H Q I (i σ H Q w)⟩
theorem PA.imp {X : Cx} {e : List Expr} {t t' : TA} (h : PA X e t) (i : ∀ σ H Q, t' σ H Q → t σ H Q) : PA X e t' := ⟨fun ps pins s σ H Q I w => h.run ps pins s σ H Q I (i σ H Q w)⟩
theorem PE.or {X : Cx} {e : Expr} {t t' : TE} (h : PE X e t) (h' : PE X e t') : PE X e (fun σ H Q => t σ H Q ∨ t' σ H Q) :=
  ⟨fun pins s σ H Q I w => w.elim (h.run pins s σ H Q I) (h'.run pins s σ H Q I)⟩
theorem OpR.or {X : Cx} {f : Value → Value → Sem Value} {r r' : R2} (h : OpR X f r) (h' : OpR X f r') : OpR X f (fun x y H Q => r x y H Q ∨ r' x y H Q) :=
  fun pins s σ H x y v u Q I rx ry w => w.elim (h pins s σ H x y v u Q I rx ry) (h' pins s σ H x y v u Q I rx ry)
theorem CallR.or {X : Cx} {f : Value} {r r' : List V → Hp → VK → Prop} (h : CallR X f r) (h' : CallR X f r') : CallR X f (fun x H Q => r x H Q ∨ r' x H Q) :=
  fun pins s σ H x v Q I rx w => w.elim (h pins s σ H x v Q I rx) (h' pins s σ H x v Q I rx)
theorem tG.mono {α β : Type} {RP : List Addr → Hp → β → α → Prop} {K : PySem.W.Frag} {mg : Str → Option Value} {W : WX} {f : Env → Sto → Out α} {σ : L2.St} {H : Hp} {Q Q' : β → Hp → Prop}
    (h : tG RP K mg W f σ H Q) (q : ∀ v H', Q v H' → Q' v H') : tG RP K mg W f σ H Q' := let ⟨μ, ρ, S, a, b, c⟩ := h; ⟨μ, ρ, S, a, b, c.mono q⟩

abbrev SE (X : Cx) (W : WX) (e : Expr) (r : RE) : Prop := PE X e (tG (Rep X.K) X.K X.mg W r)
abbrev ST (X : Cx) (W : WX) (e : Expr) (r : RT) : Prop := PT X e (tG RBool X.K X.mg W r)
abbrev SW (X : Cx) (W : WX) (e : Expr) (r : RT) : Prop := PW X e (tG RBool X.K X.mg W r)
abbrev SA (X : Cx) (W : WX) (es : List Expr) (r : RA) : Prop := PA X es (tG (Reps X.K) X.K X.mg W r)

/-- how an operation on data is met by the layer's reading -/
def Op2 (K : PySem.W.Frag) (f : Dv → Dv → Sto → Out Dv) (r : R2) : Prop :=
  ∀ (mg : Str → Option Value) (Wx : Value → Option Addr → Hp → Prop) (μ : List Addr) (H : Hp) (S : Sto) (x y : V) (d e : Dv) (Q : VK), SimS K μ S H → Rep K μ H x d → Rep K μ H y e → Met (Rep K) K mg Wx μ H (f d e S) Q → r x y H Q
def OpL (K : PySem.W.Frag) (f : List Dv → Sto → Out Dv) (r : List V → Hp → VK → Prop) : Prop :=
  ∀ (mg : Str → Option Value) (Wx : Value → Option Addr → Hp → Prop) (μ : List Addr) (H : Hp) (S : Sto) (vs : List V) (ds : List Dv) (Q : VK), SimS K μ S H → Reps K μ H vs ds → Met (Rep K) K mg Wx μ H (f ds S) Q → r vs H Q
def OpM (K : PySem.W.Frag) (f : Dv → List Dv → Sto → Out Dv) (r : V → List V → Hp → VK → Prop) : Prop :=
  ∀ (mg : Str → Option Value) (Wx : Value → Option Addr → Hp → Prop) (μ : List Addr) (H : Hp) (S : Sto) (x : V) (vs : List V) (d : Dv) (ds : List Dv) (Q : VK), SimS K μ S H → Rep K μ H x d → Reps K μ H vs ds → Met (Rep K) K mg Wx μ H (f d ds S) Q → r x vs H Q

/-! ### terms -/
def eVar (i : Nat) : RE := fun ρ S => match ρ[i]? with
  | some (some d) => .ok d S
  | _ => .no
def eCon (d : Dv) : RE := fun _ S => .ok d S
def eBin (f : Dv → Dv → Sto → Out Dv) (a b : RE) : RE := fun ρ S => (a ρ S).bind fun x S1 => (b ρ S1).bind fun y S2 => f x y S2
def eUn (f : Dv → Sto → Out Dv) (a : RE) : RE := fun ρ S => (a ρ S).bind f
def aNil : RA := fun _ S => .ok [] S
def aCons (r : RE) (t : RA) : RA := fun ρ S => (r ρ S).bind fun d S1 => (t ρ S1).bind fun ds S2 => .ok (d :: ds) S2
def eCall (f : List Dv → Sto → Out Dv) (a : RA) : RE := fun ρ S => (a ρ S).bind f
def eMet (f : Dv → List Dv → Sto → Out Dv) (o : RE) (a : RA) : RE := fun ρ S => (o ρ S).bind fun d S1 => (a ρ S1).bind fun ds S2 => f d ds S2
def eTup (a : RA) : RE := fun ρ S => (a ρ S).bind fun ds S1 => if ds.length ≤ sizeLine then .ok (.tup ds) S1 else .no
def eLst (a : RA) : RE := fun ρ S => (a ρ S).bind fun ds S1 => if ds.length ≤ sizeLine then .ok (.ref S1.length) (S1 ++ [.lst ds]) else .no
def eNot (a : RE) : RE := fun ρ S => (a ρ S).bind fun d S1 => match d with
  | .bl b => .ok (.bl (!b)) S1
  | _ => .no
def eAnd (a b : RE) : RE := fun ρ S => (a ρ S).bind fun d S1 => match d with
  | .bl true => b ρ S1
  | .bl false => .ok (.bl false) S1
  | _ => .no
def eOr (a b : RE) : RE := fun ρ S => (a ρ S).bind fun d S1 => match d with
  | .bl true => .ok (.bl true) S1
  | .bl false => b ρ S1
  | _ => .no
def eIf (c : RT) (a b : RE) : RE := fun ρ S => (c ρ S).bind fun t S1 => if t = true then a ρ S1 else b ρ S1
def bTrue (d : Dv) (S : Sto) : Out Bool := match d with
  | .bl b => .ok b S
  | _ => .no
def cBl (a : RE) : RT := fun ρ S => (a ρ S).bind bTrue
def cAnd (a b : RT) : RT := fun ρ S => (a ρ S).bind fun t S1 => if t = true then b ρ S1 else .ok false S1
def cOr (a b : RT) : RT := fun ρ S => (a ρ S).bind fun t S1 => if t = true then .ok true S1 else b ρ S1
def cNot (a : RT) : RT := fun ρ S => (a ρ S).bind fun t S1 => .ok (!t) S1

section
variable {X : Cx} {W : WX} {a b c e : Expr} {es : List Expr} {ra rb rc : RE} {rs : RA} {ta tb : RT} {pos : Pos}
theorem se_var (i : Nat) {x : Str} (hN : X.N[i]? = some x := by rfl) (hv : Vis X.env.scope x := by first | exact Or.inl rfl | exact Or.inr (Or.inl rfl) | exact Or.inr (Or.inr rfl)) (hd : (x == ("__debug__" : Str)) = false := by decide)
    (hcd : (x == ("__classdict__" : Str)) = false := by decide) : SE X W (.Name x pos) (eVar i) := by
  refine PE.imp (pe_var hN hv hd hcd) fun σ H Q ⟨μ, ρ, S, hS, hE, h⟩ => ?_
  unfold eVar at h
  split at h
  · rename_i d hd
    obtain ⟨v, e1, r⟩ := hE.2 i d hd
    exact ⟨v, e1, h.ok hS r⟩
  · exact h.elim
theorem se_con {d : Dv} {v : V} (h : PE X e (tC v)) (r : ∀ μ H, Rep X.K μ H v d) : SE X W e (eCon d) :=
  PE.imp h fun σ H Q ⟨μ, ρ, S, hS, hE, h⟩ => show Q v H from h.ok hS (r μ H)
theorem se_int {i j} : SE X W (.Constant (.int i) j pos) (eCon (.int i)) := se_con pe_int fun _ _ => .int i
theorem se_bl {i j} : SE X W (.Constant (.bool i) j pos) (eCon (.bl i)) := se_con pe_bl fun _ _ => .bl i
theorem se_non {j} : SE X W (.Constant .none j pos) (eCon .non) := se_con pe_non fun _ _ => .non
theorem se_str {i j} : SE X W (.Constant (.str i) j pos) (eCon (.str i)) := se_con pe_str fun _ _ => .str i
theorem bnd2 {f : Dv → Dv → Sto → Out Dv} {r : R2} (hf : Op2 X.K f r) {σ : L2.St} {H : Hp} {Q : VK} (h : tG (Rep X.K) X.K X.mg W (eBin f ra rb) σ H Q) :
    tOp r (tG (Rep X.K) X.K X.mg W ra) (tG (Rep X.K) X.K X.mg W rb) σ H Q := by
  obtain ⟨μ, ρ, S, hS, hE, h⟩ := h
  refine (bnd hS hE h).mono fun x H1 ⟨μ1, S1, d, hS1, hE1, s1, rx, h1⟩ => ?_
  refine (bnd hS1 hE1 h1).mono fun y H2 ⟨μ2, S2, d2, hS2, hE2, s2, ry, h2⟩ => ?_
  exact hf _ _ μ2 H2 S2 x y d d2 Q hS2 (rx.step s2) ry h2
theorem se_bin {op : Operator} {f : Dv → Dv → Sto → Out Dv} {r : R2} (ho : OpR X (binaryOp op) r) (hf : Op2 X.K f r) (ha : SE X W a ra) (hb : SE X W b rb) : SE X W (.BinOp a op b pos) (eBin f ra rb) :=
  PE.imp (pe_op ho ha hb) fun _ _ _ h => bnd2 hf h
theorem se_cmp {op : CmpOp} {f : Dv → Dv → Sto → Out Dv} {r : R2} (ho : OpR X (compareOp op) r) (hf : Op2 X.K f r) (ha : SE X W a ra) (hb : SE X W b rb) (hm : behindInMarks op b = false) : SE X W (.Compare a [op] [b] pos) (eBin f ra rb) :=
  PE.imp (pe_cmpR ho ha hb hm) fun _ _ _ h => bnd2 hf h
theorem bTrue_met {K : PySem.W.Frag} {mg : Str → Option Value} {Wx : Value → Option Addr → Hp → Prop} {μ : List Addr} {H : Hp} {S : Sto} {v : V} {d : Dv} {Q : Bool → Hp → Prop} (hS : SimS K μ S H) (r : Rep K μ H v d) (h : Met RBool K mg Wx μ H (bTrue d S) Q) : ∃ k, v = .bl k ∧ Q k H := by
  cases r with
  | bl b => exact ⟨b, rfl, h.ok hS rfl⟩
  | _ => exact h.elim
theorem st_cmp {op : CmpOp} {f : Dv → Dv → Sto → Out Dv} {r : R2} (ho : OpR X (compareOp op) r) (hf : Op2 X.K f r) (ha : SE X W a ra) (hb : SE X W b rb) (hm : behindInMarks op b = false) : ST X W (.Compare a [op] [b] pos) (cBl (eBin f ra rb)) :=
  PT.imp (pt_cmpR ho ha hb hm) fun σ H Q ⟨μ, ρ, S, hS, hE, h⟩ => bnd2 hf ((bnd hS hE h).mono fun v H1 ⟨μ1, S1, d, hS1, hE1, s1, rv, h1⟩ => bTrue_met hS1 rv h1)
theorem st_bl (he : SE X W e ra) (hp : ∀ whole, isTrue e X.env whole = (do let v ← whole; standAt e.pos; holding [v] (truthy v)) := by intro _; rfl) : ST X W e (cBl ra) :=
  PT.imp (pt_val he hp) fun σ H Q ⟨μ, ρ, S, hS, hE, h⟩ => (bnd hS hE h).mono fun v H1 ⟨μ1, S1, d, hS1, hE1, s1, rv, h1⟩ => bTrue_met hS1 rv h1
theorem st_not (h : ST X W e ta) : ST X W (.UnaryOp .Not e pos) (cNot ta) :=
  PT.imp (pt_not h) fun σ H Q ⟨μ, ρ, S, hS, hE, h⟩ => (bnd (R1 := RBool) hS hE h).mono fun v H1 ⟨μ1, S1, d, hS1, hE1, s1, rv, h1⟩ => by
    cases (show v = d from rv)
    exact h1.ok hS1 rfl
theorem sw_one_and (h : ST X W e ta) : SW X W (.BoolOp .And [e] pos) ta := pw_and1 h
theorem sw_one_or (h : ST X W e ta) : SW X W (.BoolOp .Or [e] pos) ta := pw_or1 h
theorem sw_and (h : ST X W e ta) (t : SW X W (.BoolOp .And (b :: es) pos) tb) : SW X W (.BoolOp .And (e :: b :: es) pos) (cAnd ta tb) :=
  PW.imp (pw_and h t) fun σ H Q ⟨μ, ρ, S, hS, hE, h⟩ => (bnd (R1 := RBool) hS hE h).mono fun v H1 ⟨μ1, S1, d, hS1, hE1, s1, rv, h1⟩ => by
    cases (show v = d from rv)
    cases v with
    | true => exact ⟨μ1, ρ, S1, hS1, hE1, h1⟩
    | false => exact Met.ok (RP := RBool) h1 hS1 rfl
theorem sw_or (h : ST X W e ta) (t : SW X W (.BoolOp .Or (b :: es) pos) tb) : SW X W (.BoolOp .Or (e :: b :: es) pos) (cOr ta tb) :=
  PW.imp (pw_or h t) fun σ H Q ⟨μ, ρ, S, hS, hE, h⟩ => (bnd (R1 := RBool) hS hE h).mono fun v H1 ⟨μ1, S1, d, hS1, hE1, s1, rv, h1⟩ => by
    cases (show v = d from rv)
    cases v with
    | true => exact Met.ok (RP := RBool) h1 hS1 rfl
    | false => exact ⟨μ1, ρ, S1, hS1, hE1, h1⟩
theorem st_w (h : SW X W e ta) : ST X W e ta := PW.pt h
theorem se_not (h : SE X W e ra) : SE X W (.UnaryOp .Not e pos) (eNot ra) :=
  PE.imp (pe_not h) fun σ H Q ⟨μ, ρ, S, hS, hE, h⟩ => (bnd hS hE h).mono fun v H1 ⟨μ1, S1, d, hS1, hE1, s1, rv, h1⟩ => by
    cases rv with
    | bl b => exact ⟨b, rfl, Met.ok (RP := Rep X.K) h1 hS1 (.bl _)⟩
    | _ => exact h1.elim
theorem se_one {op} (h : SE X W e ra) : SE X W (.BoolOp op [e] pos) ra := pe_one h
theorem se_and (h : SE X W e ra) (t : SE X W (.BoolOp .And (b :: es) pos) rb) : SE X W (.BoolOp .And (e :: b :: es) pos) (eAnd ra rb) :=
  PE.imp (pe_and h t) fun σ H Q ⟨μ, ρ, S, hS, hE, h⟩ => (bnd hS hE h).mono fun v H1 ⟨μ1, S1, d, hS1, hE1, s1, rv, h1⟩ => by
    cases rv with
    | bl b => cases b with
      | true => exact ⟨true, rfl, ⟨μ1, ρ, S1, hS1, hE1, h1⟩⟩
      | false => exact ⟨false, rfl, Met.ok (RP := Rep X.K) h1 hS1 (.bl _)⟩
    | _ => exact h1.elim
theorem se_or (h : SE X W e ra) (t : SE X W (.BoolOp .Or (b :: es) pos) rb) : SE X W (.BoolOp .Or (e :: b :: es) pos) (eOr ra rb) :=
  PE.imp (pe_or h t) fun σ H Q ⟨μ, ρ, S, hS, hE, h⟩ => (bnd hS hE h).mono fun v H1 ⟨μ1, S1, d, hS1, hE1, s1, rv, h1⟩ => by
    cases rv with
    | bl b => cases b with
      | true => exact ⟨true, rfl, Met.ok (RP := Rep X.K) h1 hS1 (.bl _)⟩
      | false => exact ⟨false, rfl, ⟨μ1, ρ, S1, hS1, hE1, h1⟩⟩
    | _ => exact h1.elim
theorem se_if (hc : ST X W c ta) (ha : SE X W a ra) (hb : SE X W b rb) : SE X W (.IfExp c a b pos) (eIf ta ra rb) :=
  PE.imp (pe_ifExp hc ha hb) fun σ H Q ⟨μ, ρ, S, hS, hE, h⟩ => (bnd (R1 := RBool) hS hE h).mono fun v H1 ⟨μ1, S1, d, hS1, hE1, s1, rv, h1⟩ => by
    cases (show v = d from rv)
    cases v with
    | true => exact ⟨μ1, ρ, S1, hS1, hE1, h1⟩
    | false => exact ⟨μ1, ρ, S1, hS1, hE1, h1⟩
theorem sa_nil : SA X W [] aNil := PA.imp pa_nil fun σ H Q ⟨μ, ρ, S, hS, hE, h⟩ => Met.ok (RP := Reps X.K) h hS .nil
theorem sa_cons (h : SE X W e ra) (t : SA X W es rs) (hs : starEach (e :: es) X.env = (false, eval e X.env) :: starEach es X.env := by rfl) : SA X W (e :: es) (aCons ra rs) :=
  PA.imp (pa_cons h t hs) fun σ H Q ⟨μ, ρ, S, hS, hE, h⟩ => (bnd hS hE h).mono fun v H1 ⟨μ1, S1, d, hS1, hE1, s1, rv, h1⟩ =>
    (bnd (R1 := Reps X.K) hS1 hE1 h1).mono fun vs H2 ⟨μ2, S2, ds, hS2, hE2, s2, rvs, h2⟩ => h2.ok hS2 ((rv.step s2).reps_cons rvs)
theorem se_tup {k} (h : SA X W es rs) : SE X W (.Tuple es k pos) (eTup rs) :=
  PE.imp (pe_tup h) fun σ H Q ⟨μ, ρ, S, hS, hE, h⟩ => (bnd (R1 := Reps X.K) hS hE h).mono fun vs H1 ⟨μ1, S1, ds, hS1, hE1, s1, rv, h1⟩ => by
    split at h1
    · rename_i hz
      exact ⟨by rw [rv.1]; exact hz, fun p n => h1.tup hS1 n rv⟩
    · exact h1.elim
theorem se_lst (h : SA X W es rs) : SE X W (.List es pos) (eLst rs) :=
  PE.imp (pe_lst h) fun σ H Q ⟨μ, ρ, S, hS, hE, h⟩ => (bnd (R1 := Reps X.K) hS hE h).mono fun vs H1 ⟨μ1, S1, ds, hS1, hE1, s1, rv, h1⟩ => by
    split at h1
    · rename_i hz
      exact ⟨by rw [rv.1]; exact hz, fun p n => h1.lst hS1 n rv⟩
    · exact h1.elim
/-- a built-in by its name -/
theorem se_callB {id : String} {x : Str} {p : Pos} {f : List Dv → Sto → Out Dv} {r : List V → Hp → VK → Prop} (hc : CallR X (.builtin id) r) (hf : OpL X.K f r) (hg : Gl X x) (hm : X.mg x = none) (hv : bootBuiltins x = some (.builtin id)) (ha : SA X W (e :: es) rs)
    (hn : x ≠ "__name__" := by decide) (hdb : (x == ("__debug__" : Str)) = false := by decide) (he : starEach (e :: es) X.env = (false, eval e X.env) :: starEach es X.env := by rfl) (hpl : (backTo pos (starEach es X.env)).any (·.1) = false := by rfl) : SE X W (.Call (.Name x p) (e :: es) [] pos) (eCall f rs) :=
  PE.imp (pe_callB hc hg hm hv ha hn hdb he hpl) fun σ H Q ⟨μ, ρ, S, hS, hE, h⟩ => (bnd (R1 := Reps X.K) hS hE h).mono fun vs H1 ⟨μ1, S1, ds, hS1, hE1, s1, rv, h1⟩ => hf _ _ μ1 H1 S1 vs ds Q hS1 rv h1
theorem se_callTy {T : String} {x : Str} {p : Pos} {f : List Dv → Sto → Out Dv} {r : List V → Hp → VK → Prop} (hc : CallR X (.type T) r) (hf : OpL X.K f r) (hg : Gl X x) (hm : X.mg x = none) (hv : bootBuiltins x = some (.type T)) (ha : SA X W (e :: es) rs)
    (hn : x ≠ "__name__" := by decide) (hdb : (x == ("__debug__" : Str)) = false := by decide) (he : starEach (e :: es) X.env = (false, eval e X.env) :: starEach es X.env := by rfl) (hpl : (backTo pos (starEach es X.env)).any (·.1) = false := by rfl) : SE X W (.Call (.Name x p) (e :: es) [] pos) (eCall f rs) :=
  PE.imp (pe_callTy hc hg hm hv ha hn hdb he hpl) fun σ H Q ⟨μ, ρ, S, hS, hE, h⟩ => (bnd (R1 := Reps X.K) hS hE h).mono fun vs H1 ⟨μ1, S1, ds, hS1, hE1, s1, rv, h1⟩ => hf _ _ μ1 H1 S1 vs ds Q hS1 rv h1
end
end PL

namespace PL
open PySem PySem.Spec PyProof.Rows L2

/-! ### numbers, texts, sequences: what the operators do -/
noncomputable instance (i j : Int) : Decidable (CMul i j) := Classical.propDecidable _
noncomputable instance (i j : Int) : Decidable (CPow i j) := Classical.propDecidable _
noncomputable instance (i j : Int) : Decidable (CShl i j) := Classical.propDecidable _
def newL (ds : List Dv) (S : Sto) : Out Dv := .ok (.ref S.length) (S ++ [.lst ds])
def addD (x y : Dv) (S : Sto) : Out Dv := match x, y with
  | .int i, .int j => .ok (.int (i + j)) S
  | .str a, .str b => if a.length + b.length ≤ sizeLine then .ok (.str (a ++ b)) S else .no
  | .tup a, .tup b => if a.length + b.length ≤ sizeLine then .ok (.tup (a ++ b)) S else .no
  | .ref l, .ref m => match S[l]?, S[m]? with
    | some (.lst a), some (.lst b) => if a.length + b.length ≤ sizeLine then newL (a ++ b) S else .no
    | _, _ => .no
  | _, _ => .no
def subD (x y : Dv) (S : Sto) : Out Dv := match x, y with
  | .int i, .int j => .ok (.int (i - j)) S
  | _, _ => .no
noncomputable def mulD (x y : Dv) (S : Sto) : Out Dv := match x, y with
  | .int i, .int j => if CMul i j then .ok (.int (i * j)) S else .no
  | .ref l, .int k => match S[l]? with
    | some (.lst a) => @ite _ (-(2 ^ 63) ≤ k ∧ k < 2 ^ 63 ∧ a.length * k.toNat ≤ sizeLine) (Classical.propDecidable _) (newL (List.replicate k.toNat a).flatten S) .no
    | _ => .no
  | _, _ => .no
def fdivD (x y : Dv) (S : Sto) : Out Dv := match x, y with
  | .int i, .int j => if 0 < j ∧ j.natAbs.log2 < 9000 then .ok (.int (i / j)) S else .no
  | _, _ => .no
def modD (x y : Dv) (S : Sto) : Out Dv := match x, y with
  | .int i, .int j => if 0 < j then .ok (.int (i % j)) S else .no
  | _, _ => .no
noncomputable def powD (x y : Dv) (S : Sto) : Out Dv := match x, y with
  | .int i, .int j => if CPow i j then .ok (.int (i ^ j.toNat)) S else .no
  | _, _ => .no
noncomputable def shlD (x y : Dv) (S : Sto) : Out Dv := match x, y with
  | .int i, .int j => if CShl i j then .ok (.int (i * 2 ^ j.toNat)) S else .no
  | _, _ => .no
def shrD (x y : Dv) (S : Sto) : Out Dv := match x, y with
  | .int i, .int j => if 0 ≤ j then .ok (.int (i / 2 ^ j.toNat)) S else .no
  | _, _ => .no
def andD (x y : Dv) (S : Sto) : Out Dv := match x, y with
  | .int i, .int j => .ok (.int (Builtin.bitAnd i j)) S
  | _, _ => .no
def orD (x y : Dv) (S : Sto) : Out Dv := match x, y with
  | .int i, .int j => .ok (.int (Builtin.bitOr i j)) S
  | _, _ => .no
def xorD (x y : Dv) (S : Sto) : Out Dv := match x, y with
  | .int i, .int j => .ok (.int (Builtin.bitXor i j)) S
  | _, _ => .no
def ltD (x y : Dv) (S : Sto) : Out Dv := match x, y with
  | .int i, .int j => .ok (.bl (decide (i < j))) S
  | .str a, .str b => .ok (.bl (decide (a.cps.toList < b.cps.toList))) S
  | _, _ => .no
def leD (x y : Dv) (S : Sto) : Out Dv := match x, y with
  | .int i, .int j => .ok (.bl (decide (i ≤ j))) S
  | _, _ => .no
def gtD (x y : Dv) (S : Sto) : Out Dv := match x, y with
  | .int i, .int j => .ok (.bl (decide (j < i))) S
  | _, _ => .no
def geD (x y : Dv) (S : Sto) : Out Dv := match x, y with
  | .int i, .int j => .ok (.bl (decide (j ≤ i))) S
  | _, _ => .no
def isN (d : Dv) : Bool := match d with
  | .non => true
  | _ => false
def isD (x y : Dv) (S : Sto) : Out Dv := match y with
  | .non => .ok (.bl (isN x)) S
  | _ => .no
def isNotD (x y : Dv) (S : Sto) : Out Dv := match y with
  | .non => .ok (.bl (!isN x)) S
  | _ => .no
def negD (x : Dv) (S : Sto) : Out Dv := match x with
  | .int i => .ok (.int (-i)) S
  | _ => .no

section
variable {X : Cx} {K : PySem.W.Frag}
theorem op2I {C : Int → Int → Prop} [∀ i j, Decidable (C i j)] {g : Int → Int → V} {k : Int → Int → Dv} {f : Dv → Dv → Sto → Out Dv} (hf : ∀ x y S, f x y S = match x, y with | .int i, .int j => (if C i j then .ok (k i j) S else .no) | _, _ => .no)
    (hk : ∀ μ H i j, Rep K μ H (g i j) (k i j)) : Op2 K f (rI C g) := by
  intro mg Wx μ H S x y d e Q hS rx ry h
  rw [hf] at h
  cases rx <;> cases ry <;> first | exact h.elim | skip
  dsimp only at h
  split at h
  · rename_i hc; exact ⟨_, _, rfl, rfl, hc, h.ok hS (hk ..)⟩
  · exact h.elim
theorem op2I0 {g : Int → Int → V} {k : Int → Int → Dv} {f : Dv → Dv → Sto → Out Dv} (hf : ∀ x y S, f x y S = match x, y with | .int i, .int j => .ok (k i j) S | _, _ => .no)
    (hk : ∀ μ H i j, Rep K μ H (g i j) (k i j)) : Op2 K f (rI0 g) := by
  intro mg Wx μ H S x y d e Q hS rx ry h
  rw [hf] at h
  cases rx <;> cases ry <;> first | exact h.elim | exact ⟨_, _, rfl, rfl, h.ok hS (hk ..)⟩
theorem o_sub : Op2 K subD (rI0 fun i j => .int (i - j)) := op2I0 (fun x y S => rfl) fun _ _ _ _ => .int _
theorem o_and : Op2 K andD (rI0 fun i j => .int (Builtin.bitAnd i j)) := op2I0 (fun x y S => rfl) fun _ _ _ _ => .int _
theorem o_or : Op2 K orD (rI0 fun i j => .int (Builtin.bitOr i j)) := op2I0 (fun x y S => rfl) fun _ _ _ _ => .int _
theorem o_xor : Op2 K xorD (rI0 fun i j => .int (Builtin.bitXor i j)) := op2I0 (fun x y S => rfl) fun _ _ _ _ => .int _
theorem o_le : Op2 K leD (rI0 fun i j => .bl (decide (i ≤ j))) := op2I0 (fun x y S => rfl) fun _ _ _ _ => .bl _
theorem o_gt : Op2 K gtD (rI0 fun i j => .bl (decide (j < i))) := op2I0 (fun x y S => rfl) fun _ _ _ _ => .bl _
theorem o_ge : Op2 K geD (rI0 fun i j => .bl (decide (j ≤ i))) := op2I0 (fun x y S => rfl) fun _ _ _ _ => .bl _
theorem o_fdiv : Op2 K fdivD (rI CDivW fun i j => .int (i / j)) := op2I (C := fun _ j => 0 < j ∧ j.natAbs.log2 < 9000) (fun x y S => rfl) fun _ _ _ _ => .int _
theorem o_mod : Op2 K modD (rI (fun _ j => 0 < j) fun i j => .int (i % j)) := op2I (fun x y S => rfl) fun _ _ _ _ => .int _
theorem o_pow : Op2 K powD (rI CPow fun i j => .int (i ^ j.toNat)) := op2I (fun x y S => rfl) fun _ _ _ _ => .int _
theorem o_shl : Op2 K shlD (rI CShl fun i j => .int (i * 2 ^ j.toNat)) := op2I (fun x y S => rfl) fun _ _ _ _ => .int _
theorem o_shr : Op2 K shrD (rI (fun _ j => 0 ≤ j) fun i j => .int (i / 2 ^ j.toNat)) := op2I (C := fun _ j => 0 ≤ j) (fun x y S => rfl) fun _ _ _ _ => .int _
abbrev rAddS : R2 := fun x y H Q => ∃ i j, x = .str i ∧ y = .str j ∧ i.length + j.length ≤ sizeLine ∧ Q (.str (i ++ j)) H
abbrev rAddAll (K : PySem.W.Frag) : R2 := fun x y H Q => rI0 (fun i j => .int (i + j)) x y H Q ∨ (rAddS x y H Q ∨ (rCatA K x y H Q ∨ rCat x y H Q))
theorem op_addAll : OpR X (binaryOp .Add) (rAddAll X.K) := OpR.or op_add (OpR.or op_add_str (OpR.or op_catA op_cat))
theorem o_add : Op2 K addD (rAddAll K) := by
  intro mg Wx μ H S x y d e Q hS rx ry h
  cases rx with
  | int i => cases ry <;> first | exact h.elim | exact .inl ⟨_, _, rfl, rfl, h.ok hS (.int _)⟩
  | str a =>
    cases ry <;> first | exact h.elim | skip
    rename_i b
    unfold addD at h; dsimp only at h
    split at h
    · rename_i hz; exact .inr (.inl ⟨_, _, rfl, rfl, hz, h.ok hS (.str _)⟩)
    · exact h.elim
  | @tup a vs ds h1 l1 q1 =>
    cases ry <;> first | exact h.elim | skip
    rename_i b ws es h2 l2 q2
    unfold addD at h; dsimp only at h
    split at h
    · rename_i hz
      have r := Reps.append ⟨l1, q1⟩ ⟨l2, q2⟩
      refine .inr (.inr (.inl ⟨_, _, _, _, rfl, rfl, .of h1.1, .of h2.1, by rw [l1, l2]; exact hz, fun e => ?_, fun _ e => ?_, fun _ _ p n => h.tup hS n r⟩))
      · subst e
        have e2 : ds = [] := List.eq_nil_of_length_eq_zero l1.symm
        subst e2
        exact h.ok hS (.tup h2 l2 q2)
      · subst e
        have e2 : es = [] := List.eq_nil_of_length_eq_zero l2.symm
        subst e2
        rw [List.append_nil] at h
        exact h.ok hS (.tup h1 l1 q1)
    · exact h.elim
  | @ref l a h1 =>
    cases ry <;> first | exact h.elim | skip
    rename_i m b h2
    unfold addD at h; dsimp only at h
    split at h
    · rename_i as bs e1 e2
      split at h
      · rename_i hz
        obtain ⟨vs, g1, r1⟩ := hS.at' e1 h1
        obtain ⟨ws, g2, r2⟩ := hS.at' e2 h2
        exact .inr (.inr (.inr ⟨_, _, _, _, rfl, rfl, g1, g2, by rw [r1.1, r2.1]; exact hz, fun p n => h.lst hS n (r1.append r2)⟩))
      · exact h.elim
    · exact h.elim
  | _ => cases ry <;> exact h.elim
abbrev rMulAll : R2 := fun x y H Q => rI CMul (fun i j => .int (i * j)) x y H Q ∨ rRep x y H Q
theorem op_mulAll : OpR X (binaryOp .Mult) rMulAll := OpR.or op_mul op_rep
theorem reps_rep {μ : List Addr} {H : Hp} {vs : List V} {ds : List Dv} (r : Reps K μ H vs ds) : ∀ n : Nat, Reps K μ H (List.replicate n vs).flatten (List.replicate n ds).flatten
  | 0 => .nil
  | n + 1 => by
    rw [List.replicate_succ, List.replicate_succ, List.flatten_cons, List.flatten_cons]
    exact r.append (reps_rep r n)
abbrev rLtAll : R2 := fun x y H Q => rI0 (fun i j => .bl (decide (i < j))) x y H Q ∨ (∃ i j, x = .str i ∧ y = .str j ∧ Q (.bl (decide (i.cps.toList < j.cps.toList))) H)
theorem op_ltAll : OpR X (compareOp .Lt) rLtAll := OpR.or op_lt op_lt_str
theorem o_lt : Op2 K ltD rLtAll := by
  intro mg Wx μ H S x y d e Q hS rx ry h
  cases rx <;> cases ry <;> first | exact h.elim | exact .inl ⟨_, _, rfl, rfl, h.ok hS (.bl _)⟩ | exact .inr ⟨_, _, rfl, rfl, h.ok hS (.bl _)⟩
theorem isN_of {μ : List Addr} {H : Hp} {v : V} {d : Dv} (r : Rep K μ H v d) : isN d = decide (v = .non) := by
  cases r <;> rfl
theorem o_is : Op2 K isD (fun x y H Q => y = .non ∧ Q (.bl (decide (x = .non))) H) := by
  intro mg Wx μ H S x y d e Q hS rx ry h
  cases ry <;> first | exact h.elim | skip
  exact ⟨rfl, Met.ok (RP := Rep K) h hS (by rw [isN_of rx]; exact .bl _)⟩
theorem o_isNot : Op2 K isNotD (fun x y H Q => y = .non ∧ Q (.bl (!decide (x = .non))) H) := by
  intro mg Wx μ H S x y d e Q hS rx ry h
  cases ry <;> first | exact h.elim | skip
  exact ⟨rfl, Met.ok (RP := Rep K) h hS (by rw [isN_of rx]; exact .bl _)⟩
end
end PL

namespace PL
open PySem PySem.Spec PyProof.Rows L2

section
variable {X : Cx} {K : PySem.W.Frag}
theorem o_mul : Op2 K mulD rMulAll := by
  intro mg Wx μ H S x y d e Q hS rx ry h
  cases rx with
  | int i =>
    cases ry <;> first | exact h.elim | skip
    unfold mulD at h; dsimp only at h
    split at h
    · rename_i hc; exact .inl ⟨_, _, rfl, rfl, hc, h.ok hS (.int _)⟩
    · exact h.elim
  | @ref l a h1 =>
    cases ry <;> first | exact h.elim | skip
    unfold mulD at h; dsimp only at h
    split at h
    · rename_i as e1
      split at h
      · rename_i hc
        obtain ⟨vs, g1, r1⟩ := hS.at' e1 h1
        exact .inr ⟨_, _, _, rfl, rfl, g1, hc.1, hc.2.1, by rw [r1.1]; exact hc.2.2, fun p n => h.lst hS n (reps_rep r1 _)⟩
      · exact h.elim
    · exact h.elim
  | _ => cases ry <;> exact h.elim
end

/-! ### equality of data -/
mutual
def toP : Nat → Sto → Dv → Option PyData
  | 0, _, _ => none
  | _ + 1, _, .non => some .none
  | _ + 1, _, .bl b => some (.bool b)
  | _ + 1, _, .int i => some (.int i)
  | _ + 1, _, .str x => some (.str x)
  | n + 1, S, .tup ds => (toPs n S ds).map .tuple
  | n + 1, S, .kt ds => (toPs n S ds).map .tuple
  | n + 1, S, .fl ds => (toPs n S ds).map .list
  | n + 1, S, .ref l => match S[l]? with
    | some (.lst ds) => (toPs n S ds).map .list
    | _ => none
def toPs : Nat → Sto → List Dv → Option (List PyData)
  | _, _, [] => some []
  | n, S, d :: ds => match toP n S d, toPs n S ds with
    | some p, some ps => some (p :: ps)
    | _, _ => none
end
/-- == -/
def eqq (S : Sto) (x y : Dv) : Option Bool := match toP 40 S x, toP 40 S y with
  | some p, some q => if SeqAt.shaped p = true ∧ SeqAt.shaped q = true then some (PyData.eqv p q) else none
  | _, _ => none
def eqD (x y : Dv) (S : Sto) : Out Dv := match eqq S x y with
  | some b => .ok (.bl b) S
  | none => .no
def neD (x y : Dv) (S : Sto) : Out Dv := match eqq S x y with
  | some b => .ok (.bl (!b)) S
  | none => .no
section
variable {X : Cx} {K : PySem.W.Frag} {μ : List Addr} {H : Hp} {S : Sto}
mutual
theorem dp_of (hS : SimS K μ S H) : ∀ (n : Nat) (v : V) (d : Dv) (p : PyData), Rep K μ H v d → toP n S d = some p → Dp K H v p
  | 0, _, _, _, _, h => by simp [toP] at h
  | n + 1, v, .non, p, r, h => by cases r; simp [toP] at h; subst h; exact .non
  | n + 1, v, .bl b, p, r, h => by cases r; simp [toP] at h; subst h; exact .bl _
  | n + 1, v, .int b, p, r, h => by cases r; simp [toP] at h; subst h; exact .int _
  | n + 1, v, .str b, p, r, h => by cases r; simp [toP] at h; subst h; exact .str _
  | n + 1, v, .tup ds, p, r, h => by
    cases r with
    | tup h1 l1 q1 =>
      simp only [toP, Option.map_eq_some_iff] at h
      obtain ⟨ps, h, rfl⟩ := h
      exact .tup (.of h1.1) (dps_of hS n _ ds ps ⟨l1, q1⟩ h)
  | n + 1, v, .kt ds, p, r, h => by
    cases r with
    | kt h1 l1 q1 =>
      simp only [toP, Option.map_eq_some_iff] at h
      obtain ⟨ps, h, rfl⟩ := h
      exact .tup (.inr h1) (dps_of hS n _ ds ps ⟨l1, q1⟩ h)
  | n + 1, v, .fl ds, p, r, h => by
    obtain ⟨a, vs, e, hq, rr⟩ := r.sqL hS (ds := ds) rfl
    subst e
    simp only [toP, Option.map_eq_some_iff] at h
    obtain ⟨ps, h, rfl⟩ := h
    exact .lst hq (dps_of hS n _ ds ps rr h)
  | n + 1, v, .ref l, p, r, h => by
    simp only [toP] at h
    split at h
    · rename_i ds e
      obtain ⟨a, vs, e', hq, rr⟩ := r.sqL hS (ds := ds) (by simp [lstOf, e])
      subst e'
      simp only [Option.map_eq_some_iff] at h
      obtain ⟨ps, h, rfl⟩ := h
      exact .lst hq (dps_of hS n _ ds ps rr h)
    · cases h
theorem dps_of (hS : SimS K μ S H) : ∀ (n : Nat) (vs : List V) (ds : List Dv) (ps : List PyData), Reps K μ H vs ds → toPs n S ds = some ps → DpAll K H vs ps
  | n, vs, [], ps, r, h => by
    cases r.un0
    simp [toPs] at h; subst h; exact .nil
  | n, vs, d :: ds, ps, r, h => by
    obtain ⟨v, ws, rfl, r1, r2⟩ := r.uncons
    simp only [toPs] at h
    split at h
    · rename_i p qs e1 e2
      simp only [Option.some.injEq] at h; subst h
      exact .cons (dp_of hS n v d p r1 e1) (dps_of hS n ws ds qs r2 e2)
    · cases h
end
theorem eqq_some {x y : Dv} {b : Bool} (h : eqq S x y = some b) : ∃ p q, toP 40 S x = some p ∧ toP 40 S y = some q ∧ SeqAt.shaped p = true ∧ SeqAt.shaped q = true ∧ b = PyData.eqv p q := by
  unfold eqq at h
  split at h
  · rename_i p q e1 e2
    split at h
    · rename_i hc
      exact ⟨p, q, e1, e2, hc.1, hc.2, (Option.some.inj h).symm⟩
    · cases h
  · cases h
theorem o_eq : Op2 K eqD (rEqD K) := by
  intro mg Wx μ H S x y d e Q hS rx ry h
  unfold eqD at h
  split at h
  · rename_i b hb
    obtain ⟨p, q, e1, e2, s1, s2, rfl⟩ := eqq_some hb
    exact ⟨p, q, dp_of hS 40 _ _ _ rx e1, dp_of hS 40 _ _ _ ry e2, s1, s2, h.ok hS (.bl _)⟩
  · exact h.elim
theorem o_ne : Op2 K neD (rNeD K) := by
  intro mg Wx μ H S x y d e Q hS rx ry h
  unfold neD at h
  split at h
  · rename_i b hb
    obtain ⟨p, q, e1, e2, s1, s2, rfl⟩ := eqq_some hb
    exact ⟨p, q, dp_of hS 40 _ _ _ rx e1, dp_of hS 40 _ _ _ ry e2, s1, s2, h.ok hS (.bl _)⟩
  · exact h.elim
end

/-! ### keys -/
def keyOf : Dv → Option L2.Key
  | .int i => some (.inl i)
  | .str x => some (.inr x)
  | _ => none
def keysOf : List Dv → Option (List L2.Key)
  | [] => some []
  | d :: ds => match keyOf d, keysOf ds with
    | some k, some ks => some (k :: ks)
    | _, _ => none
def tkeyOf : Dv → Option (List L2.Key)
  | .tup ds => keysOf ds
  | _ => none
section
variable {κ : Type} [DecidableEq κ] {α : Type}
def gat : List (κ × α) → κ → Option α
  | [], _ => none
  | p :: r, k => if p.1 = k then some p.2 else gat r k
def gput (kvs : List (κ × α)) (k : κ) (v : α) : List (κ × α) :=
  if (kvs.any fun kv => decide (kv.1 = k)) = true then kvs.map (fun kv => if kv.1 = k then (kv.1, v) else kv) else kvs ++ [(k, v)]
end
section
variable {K : PySem.W.Frag} {μ : List Addr} {H : Hp} {S : Sto}
theorem keyOf_rep {v : V} {d : Dv} {k : L2.Key} (r : Rep K μ H v d) (h : keyOf d = some k) : v = kV k := by
  cases r <;> simp [keyOf] at h <;> (subst h; rfl)
theorem keysOf_rep : ∀ {vs : List V} {ds : List Dv} {ks : List L2.Key}, Reps K μ H vs ds → keysOf ds = some ks → vs = ks.map kV
  | vs, [], ks, r, h => by cases r.un0; simp [keysOf] at h; subst h; rfl
  | vs, d :: ds, ks, r, h => by
    obtain ⟨v, ws, rfl, r1, r2⟩ := r.uncons
    simp only [keysOf] at h
    split at h
    · rename_i k ks' e1 e2
      simp only [Option.some.injEq] at h; subst h
      rw [keyOf_rep r1 e1, keysOf_rep r2 e2]; rfl
    · cases h
theorem tkeyOf_rep {v : V} {d : Dv} {ks : List L2.Key} (r : Rep K μ H v d) (h : tkeyOf d = some ks) : ∃ b, v = .ref b ∧ H b = some (.tup (ks.map kV)) := by
  cases r with
  | tup h1 l q => exact ⟨_, rfl, by rw [h1.1, keysOf_rep ⟨l, q⟩ h]⟩
  | _ => simp [tkeyOf] at h
variable {κ : Type} [DecidableEq κ]
theorem gat_rep : ∀ {ws : List (κ × V)} {kvs : List (κ × Dv)} (k : κ), ws.map (·.1) = kvs.map (·.1) → Reps K μ H (ws.map (·.2)) (kvs.map (·.2)) →
    (gat kvs k = none ∧ valV ws k = none) ∨ ∃ d v, gat kvs k = some d ∧ valV ws k = some v ∧ Rep K μ H v d
  | [], [], k, _, _ => .inl ⟨rfl, rfl⟩
  | p :: ws, q :: kvs, k, h, r => by
    simp only [List.map_cons, List.cons.injEq] at h
    obtain ⟨v, vs, e, r1, r2⟩ := Reps.uncons r
    simp only [List.map_cons, List.cons.injEq] at e
    obtain ⟨rfl, rfl⟩ := e
    by_cases hk : q.1 = k
    · exact .inr ⟨q.2, p.2, by simp [gat, hk], valV_pos (h.1.trans hk), r1⟩
    · rcases gat_rep k h.2 r2 with ⟨e1, e2⟩ | ⟨d, v, e1, e2, e3⟩
      · exact .inl ⟨by simp [gat, hk, e1], by rw [valV_neg (by rw [h.1]; exact hk)]; exact e2⟩
      · exact .inr ⟨d, v, by simp [gat, hk, e1], by rw [valV_neg (by rw [h.1]; exact hk)]; exact e2, e3⟩
  | [], _ :: _, _, h, _ => by simp at h
  | _ :: _, [], _, h, _ => by simp at h
theorem any_keys {α β : Type} {k : κ} : ∀ {ws : List (κ × α)} {kvs : List (κ × β)}, ws.map (·.1) = kvs.map (·.1) → (ws.any fun kv => decide (kv.1 = k)) = kvs.any fun kv => decide (kv.1 = k)
  | [], [], _ => rfl
  | p :: ws, q :: kvs, h => by
    simp only [List.map_cons, List.cons.injEq] at h
    rw [List.any_cons, List.any_cons, any_keys h.2, h.1]
  | [], _ :: _, h => by simp at h
  | _ :: _, [], h => by simp at h
theorem repl_keys {α : Type} {k : κ} {v : α} (kvs : List (κ × α)) : (kvs.map fun kv => if kv.1 = k then (kv.1, v) else kv).map (·.1) = kvs.map (·.1) := by
  rw [List.map_map]
  refine List.map_congr_left fun p _ => ?_
  show (if p.1 = k then (p.1, v) else p).1 = p.1
  split <;> rfl
theorem repl_rep {k : κ} {v : V} {d : Dv} (rv : Rep K μ H v d) : ∀ {ws : List (κ × V)} {kvs : List (κ × Dv)}, ws.map (·.1) = kvs.map (·.1) → Reps K μ H (ws.map (·.2)) (kvs.map (·.2)) →
    Reps K μ H ((ws.map fun kv => if kv.1 = k then (kv.1, v) else kv).map (·.2)) ((kvs.map fun kv => if kv.1 = k then (kv.1, d) else kv).map (·.2))
  | [], [], _, _ => .nil
  | p :: ws, q :: kvs, h, r => by
    simp only [List.map_cons, List.cons.injEq] at h
    obtain ⟨u, us, e, r1, r2⟩ := Reps.uncons r
    simp only [List.map_cons, List.cons.injEq] at e
    obtain ⟨rfl, rfl⟩ := e
    simp only [List.map_cons]
    refine Reps.cons (repl_rep rv h.2 r2) ?_
    rw [h.1]
    split
    · exact rv
    · exact r1
  | [], _ :: _, h, _ => by simp at h
  | _ :: _, [], h, _ => by simp at h
theorem gput_rep {ws : List (κ × V)} {kvs : List (κ × Dv)} {k : κ} {v : V} {d : Dv} (h : ws.map (·.1) = kvs.map (·.1)) (r : Reps K μ H (ws.map (·.2)) (kvs.map (·.2))) (rv : Rep K μ H v d) :
    (putK ws k v).map (·.1) = (gput kvs k d).map (·.1) ∧ Reps K μ H ((putK ws k v).map (·.2)) ((gput kvs k d).map (·.2)) := by
  unfold putK gput
  rw [any_keys h]
  split
  · exact ⟨by rw [repl_keys, repl_keys, h], repl_rep rv h r⟩
  · exact ⟨by rw [List.map_append, List.map_append, h]; rfl, by rw [List.map_append, List.map_append]; exact r.append (.one rv)⟩
/-- what a dict tells of a key -/
def dget (S : Sto) (o k : Dv) : Option (Option Dv) := match o with
  | .ref l => match S[l]? with
    | some (.dk kvs) => (keyOf k).map (gat kvs)
    | some (.dt kvs) => (tkeyOf k).map (gat kvs)
    | _ => none
  | _ => none
theorem dget_rep {x y : V} {o k : Dv} {r : Option Dv} (hS : SimS K μ S H) (rx : Rep K μ H x o) (ry : Rep K μ H y k) (h : dget S o k = some r) :
    ∃ a u, x = .ref a ∧ DGet H a y u ∧ ((r = none ∧ u = none) ∨ ∃ d v, r = some d ∧ u = some v ∧ Rep K μ H v d) := by
  cases rx with
  | @ref l a hl =>
    simp only [dget] at h
    split at h
    · rename_i kvs e
      obtain ⟨ws, e1, e2, e3⟩ := hS.at' e hl
      simp only [Option.map_eq_some_iff] at h
      obtain ⟨κ, hk, h⟩ := h
      refine ⟨a, valV ws κ, rfl, ?_, ?_⟩
      · rw [keyOf_rep ry hk]; exact .k e1
      · rcases gat_rep κ e2 e3 with ⟨g1, g2⟩ | ⟨d, v, g1, g2, g3⟩
        · exact .inl ⟨h.symm.trans g1, g2⟩
        · exact .inr ⟨d, v, h.symm.trans g1, g2, g3⟩
    · rename_i kvs e
      obtain ⟨ws, e1, e2, e3⟩ := hS.at' e hl
      simp only [Option.map_eq_some_iff] at h
      obtain ⟨κ, hk, h⟩ := h
      obtain ⟨b, rfl, eb⟩ := tkeyOf_rep ry hk
      refine ⟨a, valV ws κ, rfl, .t e1 eb, ?_⟩
      rcases gat_rep κ e2 e3 with ⟨g1, g2⟩ | ⟨d, v, g1, g2, g3⟩
      · exact .inl ⟨h.symm.trans g1, g2⟩
      · exact .inr ⟨d, v, h.symm.trans g1, g2, g3⟩
    · cases h
  | _ => simp [dget] at h
/-- the store behind o[k] = d -/
def dput (S : Sto) (o k d : Dv) : Option Sto := match o with
  | .ref l => match S[l]? with
    | some (.dk kvs) => if kvs.length < sizeLine then (keyOf k).map fun κ => S.set l (.dk (gput kvs κ d)) else none
    | some (.dt kvs) => if kvs.length < sizeLine then (tkeyOf k).map fun κ => S.set l (.dt (gput kvs κ d)) else none
    | _ => none
  | _ => none
theorem dput_rep {x y v : V} {o k d : Dv} {S' : Sto} (hS : SimS K μ S H) (rx : Rep K μ H x o) (ry : Rep K μ H y k) (rv : Rep K μ H v d) (h : dput S o k d = some S') :
    ∃ a H', x = .ref a ∧ DPut H a y v H' ∧ SimS K μ S' H' ∧ Step μ H μ H' := by
  cases rx with
  | @ref l a hl =>
    simp only [dput] at h
    split at h
    · rename_i kvs e
      obtain ⟨ws, e1, e2, e3⟩ := hS.at' e hl
      split at h
      · rename_i hz
        simp only [Option.map_eq_some_iff] at h
        obtain ⟨κ, hk, rfl⟩ := h
        have hw : ws.length < sizeLine := by have := congrArg List.length e2; simp at this; omega
        refine ⟨a, _, rfl, ?_, hS.put hl (u := .dK (putK ws κ v)) ⟨_, upd_same, ?_⟩, step_put hS hl _⟩
        · rw [keyOf_rep ry hk]; exact .k e1 hw
        · obtain ⟨g1, g2⟩ := gput_rep (k := κ) e2 e3 rv
          exact ⟨g1, g2.step (step_put hS hl _)⟩
      · cases h
    · rename_i kvs e
      obtain ⟨ws, e1, e2, e3⟩ := hS.at' e hl
      split at h
      · rename_i hz
        simp only [Option.map_eq_some_iff] at h
        obtain ⟨κ, hk, rfl⟩ := h
        obtain ⟨b, rfl, eb⟩ := tkeyOf_rep ry hk
        have hw : ws.length < sizeLine := by have := congrArg List.length e2; simp at this; omega
        refine ⟨a, _, rfl, .t e1 eb hw, hS.put hl (u := .dT (putK ws κ v)) ⟨_, upd_same, ?_⟩, step_put hS hl _⟩
        obtain ⟨g1, g2⟩ := gput_rep (k := κ) e2 e3 rv
        exact ⟨g1, g2.step (step_put hS hl _)⟩
      · cases h
    · cases h
  | _ => simp [dput] at h
end

/-! ### subscripts -/
def idxD (o i : Dv) (S : Sto) : Out Dv := match i with
  | .int k => match o with
    | .str x => if x.length ≤ sizeLine then (match atI x.cps.toList k with | some c => .ok (.str ⟨#[c]⟩) S | none => .no) else .no
    | _ => match tupOf o with
      | some ds => (match atI ds k with | some d => .ok d S | none => .no)
      | none => match lstOf S o with
        | some ds => (match atI ds k with | some d => .ok d S | none => .no)
        | none => match dget S o i with
          | some (some d) => .ok d S
          | _ => .no
  | _ => match dget S o i with
    | some (some d) => .ok d S
    | _ => .no
abbrev rIxD : R2 := fun x y H Q => ∃ a v, x = .ref a ∧ DGet H a y (some v) ∧ Q v H
theorem ix_dict {X : Cx} (hu : X.A.units + 1 < cLine) : IxR X rIxD := by
  intro value slice pins s σ H x y v u Q I rx ry h hs
  obtain ⟨a, w, rfl, g, q⟩ := h
  cases rx
  exact tail_any (ops := [.ref a, u]) (dict_typeIs I g) PySem.F.slot_dict_getitem.lookup (d_getItem hu I g ry fun w' s3 I3 rw' => ⟨w, H, I3, rw', q⟩) hs
abbrev rIxAll (K : PySem.W.Frag) : R2 := fun x y H Q => rIx K x y H Q ∨ rIxD x y H Q
section
variable {X : Cx} {K : PySem.W.Frag} {W : WX} {a b : Expr} {ra rb : RE} {pos : Pos}
theorem atI_rep {μ : List Addr} {H : Hp} {vs : List V} {ds : List Dv} {k : Int} {d : Dv} (r : Reps K μ H vs ds) (h : atI ds k = some d) : ∃ v, atI vs k = some v ∧ Rep K μ H v d := by
  unfold atI at h ⊢
  rw [r.1]
  obtain ⟨j, e, h⟩ := Option.bind_eq_some_iff.mp h
  obtain ⟨v, e1, rv⟩ := r.get h
  exact ⟨v, by rw [e]; exact e1, rv⟩
theorem o_idx : Op2 K idxD (rIxAll K) := by
  intro mg Wx μ H S x y o i Q hS rx ry h
  have dict : ∀ (h : Met (Rep K) K mg Wx μ H (match dget S o i with | some (some d) => .ok d S | _ => .no) Q), rIxAll K x y H Q := fun h => by
    split at h
    · rename_i d e
      obtain ⟨a, u, ex, g, hh⟩ := dget_rep hS rx ry e
      rcases hh with ⟨z, _⟩ | ⟨d', v, e1, e2, r⟩
      · cases z
      · cases e1; subst e2
        exact .inr ⟨a, v, ex, g, h.ok hS r⟩
    · exact h.elim
  unfold idxD at h
  split at h
  · rename_i k
    cases ry
    split at h
    · rename_i z
      cases rx
      split at h
      · rename_i hz
        split at h
        · rename_i c e
          exact .inl (.inr (.inr ⟨_, _, c, rfl, rfl, hz, e, h.ok hS (.str _)⟩))
        · exact h.elim
      · exact h.elim
    · split at h
      · rename_i ds e
        obtain ⟨a, vs, rfl, hq, r⟩ := rx.sqT e
        split at h
        · rename_i d e2
          obtain ⟨v, e3, rv⟩ := atI_rep r e2
          exact .inl (.inr (.inl ⟨_, _, _, v, rfl, rfl, hq, e3, h.ok hS rv⟩))
        · exact h.elim
      · split at h
        · rename_i ds e
          obtain ⟨a, vs, rfl, hq, r⟩ := rx.sqL hS e
          split at h
          · rename_i d e2
            obtain ⟨v, e3, rv⟩ := atI_rep r e2
            exact .inl (.inl ⟨_, _, _, v, rfl, rfl, hq, e3, h.ok hS rv⟩)
          · exact h.elim
        · exact dict h
  · exact dict h
theorem se_ix (hu : X.A.units + 1 < cLine) (ha : SE X W a ra) (hb : SE X W b rb) (hs : PlainIx b := by exact fun _ _ => rfl) : SE X W (.Subscript a b pos) (eBin idxD ra rb) :=
  PE.imp (pe_ix (IxR.or ix_seq (ix_dict hu)) ha hb hs) fun _ _ _ h => bnd2 o_idx h
/-! ### slices -/
abbrev RO := Env → Sto → Out (Option Int)
def oNone : RO := fun _ S => .ok none S
def oSome (r : RE) : RO := fun ρ S => (r ρ S).bind fun d S1 => match d with
  | .int i => .ok (some i) S1
  | _ => .no
def cutD {α : Type} (ds : List α) (lo hi : Option Int) : List α := (ds.drop (HT.sIx ds.length 0 lo)).take (HT.sIx ds.length ds.length hi - HT.sIx ds.length 0 lo)
def sliD (o : Dv) (lo hi : Option Int) (S : Sto) : Out Dv := match o with
  | .str x => if x.length ≤ sizeLine then .ok (.str (cutS x lo hi)) S else .no
  | .tup ds => .ok (.tup (cutD ds lo hi)) S
  | _ => match lstOf S o with
    | some ds => newL (cutD ds lo hi) S
    | none => .no
def eSli (o : RE) (l h : RO) : RE := fun ρ S => (o ρ S).bind fun d S1 => (l ρ S1).bind fun lo S2 => (h ρ S2).bind fun hi S3 => sliD d lo hi S3
def RInt (μ : List Addr) (H : Hp) (b b' : Option Int) : Prop := b = b'
structure SO (X : Cx) (W : WX) (e : Option Expr) (r : RO) : Prop where
  po : PO X e (tG RInt X.K X.mg W r)
theorem so_none : SO X W none oNone := ⟨⟨fun pins s σ H Q I ⟨μ, ρ, S, hS, hE, h⟩ => po_none.run pins s σ H Q I (Met.ok (RP := RInt) h hS rfl)⟩⟩
theorem so_some {e : Expr} (h : SE X W e ra) : SO X W (some e) (oSome ra) := ⟨⟨fun pins s σ H Q I ⟨μ, ρ, S, hS, hE, hm⟩ => (po_some h).run pins s σ H Q I <|
  (bnd hS hE hm).mono fun v H1 ⟨μ1, S1, d, hS1, hE1, s1, rv, h1⟩ => by
    cases rv <;> first | exact h1.elim | exact ⟨_, rfl, Met.ok (RP := RInt) h1 hS1 rfl⟩⟩⟩
theorem cut_rep {μ : List Addr} {H : Hp} {vs : List V} {ds : List Dv} (r : Reps K μ H vs ds) (lo hi : Option Int) : Reps K μ H (cutV vs lo hi) (cutD ds lo hi) := by
  unfold cutV cutD
  rw [r.1]
  exact (r.drop _).take _
theorem cut_whole {α : Type} {ds : List α} {lo hi : Option Int} (h : HT.sIx ds.length 0 lo = 0 ∧ HT.sIx ds.length ds.length hi = ds.length) : cutD ds lo hi = ds := by
  unfold cutD
  rw [h.1, h.2]
  simp
theorem se_sli {lo hi : Option Expr} {rl rh : RO} {p2 : Pos} (ha : SE X W a ra) (hl : SO X W lo rl) (hh : SO X W hi rh) : SE X W (.Subscript a (.Slice lo hi none p2) pos) (eSli ra rl rh) :=
  PE.imp (pe_slice (SlR.or sl_str (SlR.or sl_tupA sl_list)) ha hl.po hh.po) fun σ H Q ⟨μ, ρ, S, hS, hE, h⟩ => (bnd hS hE h).mono fun v H1 ⟨μ1, S1, d, hS1, hE1, s1, rv, h1⟩ =>
    (bnd (R1 := RInt) hS1 hE1 h1).mono fun l H2 ⟨μ2, S2, l', hS2, hE2, s2, rl, h2⟩ => (bnd (R1 := RInt) hS2 hE2 h2).mono fun u H3 ⟨μ3, S3, u', hS3, hE3, s3, ru, h3⟩ => by
      cases (show l = l' from rl)
      cases (show u = u' from ru)
      have rv3 := (rv.step s2).step s3
      unfold sliD at h3
      split at h3
      · cases rv3
        split at h3
        · rename_i hz; exact .inl ⟨_, rfl, hz, h3.ok hS3 (.str _)⟩
        · exact h3.elim
      · cases rv3 with
        | tup t1 t2 t3 =>
          have r : Reps X.K μ3 H3 _ _ := ⟨t2, t3⟩
          refine .inr (.inl ⟨_, _, rfl, .of t1.1, fun w => ?_, fun _ p n => h3.tup hS3 n (cut_rep r _ _)⟩)
          rw [t2] at w
          rw [cut_whole w] at h3
          exact h3.ok hS3 (.tup t1 t2 t3)
      · split at h3
        · rename_i ds e
          obtain ⟨a, vs, rfl, hq, r⟩ := rv3.sqL hS3 e
          exact .inr (.inr ⟨a, vs, rfl, hq, fun p n => h3.lst hS3 n (cut_rep r _ _)⟩)
        · exact h3.elim
end
end PL

namespace PL
open PySem PySem.Spec PyProof.Rows L2

/-! ### built-ins -/
def kD : L2.Key → Dv
  | .inl i => .int i
  | .inr x => .str x
def intsOf : List Dv → Option (List Int)
  | [] => some []
  | .int i :: r => (intsOf r).map (i :: ·)
  | _ => none
def blsOf : List Dv → Option (List Bool)
  | [] => some []
  | .bl i :: r => (blsOf r).map (i :: ·)
  | _ => none
def strsOf : List Dv → Option (List Str)
  | [] => some []
  | .str i :: r => (strsOf r).map (i :: ·)
  | _ => none
def seqOf (S : Sto) (d : Dv) : Option (List Dv) := match tupOf d with
  | some ds => some ds
  | none => lstOf S d
def lenD (ds : List Dv) (S : Sto) : Out Dv := match ds with
  | [.str x] => if x.length ≤ sizeLine then .ok (.int x.length) S else .no
  | [d] => match seqOf S d with
    | some xs => .ok (.int xs.length) S
    | none => match d with
      | .ref l => match S[l]? with
        | some (.dk kvs) => .ok (.int kvs.length) S
        | some (.dt kvs) => .ok (.int kvs.length) S
        | _ => .no
      | _ => .no
  | _ => .no
def listD (ds : List Dv) (S : Sto) : Out Dv := match ds with
  | [d] => match seqOf S d with
    | some xs => newL xs S
    | none => match d with
      | .ref l => match S[l]? with
        | some (.dk kvs) => newL (kvs.map fun kv => kD kv.1) S
        | _ => .no
      | _ => .no
  | _ => .no
def tupleD (ds : List Dv) (S : Sto) : Out Dv := match ds with
  | [.tup xs] => .ok (.tup xs) S
  | [.kt xs] => .ok (.kt xs) S
  | [d] => match lstOf S d with
    | some xs => .ok (.tup xs) S
    | none => .no
  | _ => .no
def intD (ds : List Dv) (S : Sto) : Out Dv := match ds with
  | [.int i] => .ok (.int i) S
  | [.bl b] => .ok (.int (if b then 1 else 0)) S
  | [.str x] => match PySem.intText? x with
    | some n => if x.length ≤ 640 then .ok (.int n) S else .no
    | none => .no
  | _ => .no
def strD (ds : List Dv) (S : Sto) : Out Dv := match ds with
  | [.int i] => if i.natAbs.log2 < 1920 then .ok (.str (toString i)) S else .no
  | _ => .no
def absD (ds : List Dv) (S : Sto) : Out Dv := match ds with
  | [.int i] => .ok (.int (if i < 0 then -i else i)) S
  | _ => .no
def maxI : List Int → Option Int
  | [] => none
  | x :: r => some (r.foldl max x)
def minI : List Int → Option Int
  | [] => none
  | x :: r => some (r.foldl min x)
def max2D (ds : List Dv) (S : Sto) : Out Dv := match ds with
  | [.int i, .int j] => .ok (.int (max i j)) S
  | _ => .no
def min2D (ds : List Dv) (S : Sto) : Out Dv := match ds with
  | [.int i, .int j] => .ok (.int (min i j)) S
  | _ => .no
def maxD (ds : List Dv) (S : Sto) : Out Dv := match ds with
  | [d] => match (lstOf S d).bind intsOf with
    | some ns => match maxI ns with
      | some m => .ok (.int m) S
      | none => .no
    | none => .no
  | _ => .no
def minD (ds : List Dv) (S : Sto) : Out Dv := match ds with
  | [d] => match (lstOf S d).bind intsOf with
    | some ns => match minI ns with
      | some m => .ok (.int m) S
      | none => .no
    | none => .no
  | _ => .no
def sumD (ds : List Dv) (S : Sto) : Out Dv := match ds with
  | [d] => match (lstOf S d).bind intsOf with
    | some ns => .ok (.int ns.sum) S
    | none => .no
  | _ => .no
def anyD (ds : List Dv) (S : Sto) : Out Dv := match ds with
  | [d] => match (lstOf S d).bind blsOf with
    | some ns => .ok (.bl (ns.any id)) S
    | none => .no
  | _ => .no
section
variable {X : Cx} {K : PySem.W.Frag} {μ : List Addr} {H : Hp} {S : Sto}
theorem intsOf_rep : ∀ {vs : List V} {ds : List Dv} {ns : List Int}, Reps K μ H vs ds → intsOf ds = some ns → vs = ns.map V.int
  | vs, [], ks, r, h => by cases r.un0; simp [intsOf] at h; subst h; rfl
  | vs, d :: ds, ks, r, h => by
    obtain ⟨v, ws, rfl, r1, r2⟩ := r.uncons
    cases r1 <;> simp only [intsOf] at h <;> first | cases h | skip
    rw [Option.map_eq_some_iff] at h
    obtain ⟨ns, e, rfl⟩ := h
    rw [intsOf_rep r2 e]; rfl
theorem blsOf_rep : ∀ {vs : List V} {ds : List Dv} {ns : List Bool}, Reps K μ H vs ds → blsOf ds = some ns → vs = ns.map V.bl
  | vs, [], ks, r, h => by cases r.un0; simp [blsOf] at h; subst h; rfl
  | vs, d :: ds, ks, r, h => by
    obtain ⟨v, ws, rfl, r1, r2⟩ := r.uncons
    cases r1 <;> simp only [blsOf] at h <;> first | cases h | skip
    rw [Option.map_eq_some_iff] at h
    obtain ⟨ns, e, rfl⟩ := h
    rw [blsOf_rep r2 e]; rfl
theorem strsOf_rep : ∀ {vs : List V} {ds : List Dv} {ns : List Str}, Reps K μ H vs ds → strsOf ds = some ns → vs = ns.map V.str
  | vs, [], ks, r, h => by cases r.un0; simp [strsOf] at h; subst h; rfl
  | vs, d :: ds, ks, r, h => by
    obtain ⟨v, ws, rfl, r1, r2⟩ := r.uncons
    cases r1 <;> simp only [strsOf] at h <;> first | cases h | skip
    rw [Option.map_eq_some_iff] at h
    obtain ⟨ns, e, rfl⟩ := h
    rw [strsOf_rep r2 e]; rfl
theorem seq_rep {v : V} {d : Dv} {ds : List Dv} (hS : SimS K μ S H) (r : Rep K μ H v d) (e : seqOf S d = some ds) : ∃ a vs, v = .ref a ∧ (SqL K H a vs ∨ SqT K H a vs) ∧ Reps K μ H vs ds := by
  unfold seqOf at e
  split at e
  · rename_i xs e1
    cases e
    obtain ⟨a, vs, h1, h2, h3⟩ := r.sqT e1
    exact ⟨a, vs, h1, .inr h2, h3⟩
  · obtain ⟨a, vs, h1, h2, h3⟩ := r.sqL hS e
    exact ⟨a, vs, h1, .inl h2, h3⟩
theorem Reps.get1 {vs : List V} {d : Dv} (r : Reps K μ H vs [d]) : ∃ v, vs = [v] ∧ Rep K μ H v d := by
  obtain ⟨v, ws, rfl, r1, r2⟩ := r.uncons
  cases r2.un0
  exact ⟨v, rfl, r1⟩
theorem Reps.get2 {vs : List V} {d e : Dv} (r : Reps K μ H vs [d, e]) : ∃ v u, vs = [v, u] ∧ Rep K μ H v d ∧ Rep K μ H u e := by
  obtain ⟨v, ws, rfl, r1, r2⟩ := r.uncons
  obtain ⟨u, rfl, r3⟩ := r2.get1
  exact ⟨v, u, rfl, r1, r3⟩
theorem call_lenAll : CallR X (.builtin "len") (fun xs H Q => (∃ x n, xs = [x] ∧ LenV X.K x H n ∧ Q (.int n) H) ∨ ((∃ a kvs, xs = [V.ref a] ∧ H a = some (.dK kvs) ∧ Q (.int kvs.length) H) ∨ rLenT xs H Q)) := CallR.or call_len (CallR.or call_lenD call_len_dT)
theorem o_len : OpL K lenD (fun xs H Q => (∃ x n, xs = [x] ∧ LenV K x H n ∧ Q (.int n) H) ∨ ((∃ a kvs, xs = [V.ref a] ∧ H a = some (.dK kvs) ∧ Q (.int kvs.length) H) ∨ rLenT xs H Q)) := by
  intro mg Wx μ H S vs ds Q hS r h
  unfold lenD at h
  split at h
  · rename_i x
    obtain ⟨v, rfl, rv⟩ := r.get1
    cases rv
    split at h
    · rename_i hz; exact .inl ⟨_, _, rfl, ⟨hz, rfl⟩, h.ok hS (.int _)⟩
    · exact h.elim
  · rename_i d _
    obtain ⟨v, rfl, rv⟩ := r.get1
    split at h
    · rename_i xs e
      obtain ⟨a, vs, rfl, hq, rr⟩ := seq_rep hS rv e
      refine .inl ⟨_, vs.length, rfl, ?_, by rw [rr.1]; exact h.ok hS (.int _)⟩
      exact hq.imp (fun q => ⟨vs, q, rfl⟩) fun q => ⟨vs, q, rfl⟩
    · split at h
      · cases rv with
        | ref hl =>
          split at h
          · rename_i kvs e
            obtain ⟨ws, e1, e2, e3⟩ := hS.at' e hl
            have e4 : ws.length = kvs.length := by have := congrArg List.length e2; simpa using this
            exact .inr (.inl ⟨_, ws, rfl, e1, by rw [e4]; exact h.ok hS (.int _)⟩)
          · rename_i kvs e
            obtain ⟨ws, e1, e2, e3⟩ := hS.at' e hl
            have e4 : ws.length = kvs.length := by have := congrArg List.length e2; simpa using this
            exact .inr (.inr ⟨_, ws, rfl, e1, by rw [e4]; exact h.ok hS (.int _)⟩)
          · exact h.elim
      · exact h.elim
  · exact h.elim
abbrev rListAll (K : PySem.W.Frag) : List V → Hp → VK → Prop := fun xs H Q => (∃ p ys, xs = [.ref p] ∧ (SqL K H p ys ∨ SqT K H p ys) ∧ ∀ l, H l = none → Q (.ref l) (upd H l (.lst ys))) ∨ rListD xs H Q
theorem call_listAll (hc : X.calm = true) : CallR X (.type "list") (rListAll X.K) := CallR.or call_list_of (call_list_dK hc)
theorem rep_kV {μ : List Addr} {H : Hp} (k : L2.Key) : Rep K μ H (kV k) (kD k) := by
  cases k with
  | inl i => exact .int i
  | inr x => exact .str x
theorem reps_keys {μ : List Addr} {H : Hp} : ∀ {ws : List (L2.Key × V)} {kvs : List (L2.Key × Dv)}, ws.map (·.1) = kvs.map (·.1) → Reps K μ H (ws.map fun kv => kV kv.1) (kvs.map fun kv => kD kv.1)
  | [], [], _ => .nil
  | p :: ws, q :: kvs, h => by
    simp only [List.map_cons, List.cons.injEq] at h
    simp only [List.map_cons]
    rw [h.1]
    exact (reps_keys h.2).cons (rep_kV _)
  | [], _ :: _, h => by simp at h
  | _ :: _, [], h => by simp at h
theorem o_list : OpL K listD (rListAll K) := by
  intro mg Wx μ H S vs ds Q hS r h
  unfold listD at h
  split at h
  · rename_i d
    obtain ⟨v, rfl, rv⟩ := r.get1
    split at h
    · rename_i xs e
      obtain ⟨a, vs, rfl, hq, rr⟩ := seq_rep hS rv e
      exact .inl ⟨_, vs, rfl, hq, fun p n => h.lst hS n rr⟩
    · split at h
      · cases rv with
        | ref hl =>
          split at h
          · rename_i kvs e
            obtain ⟨ws, e1, e2, e3⟩ := hS.at' e hl
            exact .inr ⟨_, ws, rfl, e1, fun p n => h.lst hS n (reps_keys e2)⟩
          · exact h.elim
      · exact h.elim
  · exact h.elim
theorem o_tuple : OpL K tupleD (fun xs H Q => ∃ p ys, xs = [.ref p] ∧ ((SqL K H p ys ∧ ∀ l, H l = none → Q (.ref l) (upd H l (.tup ys))) ∨ (SqT K H p ys ∧ Q (.ref p) H))) := by
  intro mg Wx μ H S vs ds Q hS r h
  unfold tupleD at h
  split at h
  · obtain ⟨v, rfl, rv⟩ := r.get1
    cases rv with
    | tup t l q => exact ⟨_, _, rfl, .inr ⟨.of t.1, h.ok hS (.tup t l q)⟩⟩
  · obtain ⟨v, rfl, rv⟩ := r.get1
    cases rv with
    | kt t l q => exact ⟨_, _, rfl, .inr ⟨.inr t, h.ok hS (.kt t l q)⟩⟩
  · obtain ⟨v, rfl, rv⟩ := r.get1
    split at h
    · rename_i xs e
      obtain ⟨a, vs, rfl, hq, rr⟩ := rv.sqL hS e
      exact ⟨_, _, rfl, .inl ⟨hq, fun p n => h.tup hS n rr⟩⟩
    · exact h.elim
  · exact h.elim
abbrev rInt : List V → Hp → VK → Prop := fun xs H Q => ((∃ i, xs = [.int i] ∧ Q (.int i) H) ∨ ∃ k, xs = [.bl k] ∧ Q (.int (if k then 1 else 0)) H) ∨ (∃ a n, xs = [.str a] ∧ PySem.intText? a = some n ∧ a.length ≤ 640 ∧ Q (.int n) H)
theorem call_intAll : CallR X (.type "int") rInt := CallR.or call_int1 call_int_str
theorem o_int : OpL K intD rInt := by
  intro mg Wx μ H S vs ds Q hS r h
  unfold intD at h
  split at h
  · obtain ⟨v, rfl, rv⟩ := r.get1; cases rv; exact .inl (.inl ⟨_, rfl, h.ok hS (.int _)⟩)
  · obtain ⟨v, rfl, rv⟩ := r.get1; cases rv; exact .inl (.inr ⟨_, rfl, h.ok hS (.int _)⟩)
  · obtain ⟨v, rfl, rv⟩ := r.get1
    cases rv
    split at h
    · split at h
      · rename_i n e hz; exact .inr ⟨_, n, rfl, e, hz, h.ok hS (.int _)⟩
      · exact h.elim
    · exact h.elim
  · exact h.elim
theorem o_str : OpL K strD (fun xs H Q => ∃ i, xs = [.int i] ∧ i.natAbs.log2 < 1920 ∧ Q (.str (toString i)) H) := by
  intro mg Wx μ H S vs ds Q hS r h
  unfold strD at h
  split at h
  · obtain ⟨v, rfl, rv⟩ := r.get1
    cases rv
    split at h
    · rename_i hz; exact ⟨_, rfl, hz, h.ok hS (.str _)⟩
    · exact h.elim
  · exact h.elim
theorem o_abs : OpL K absD (fun xs H Q => ∃ i, xs = [.int i] ∧ Q (.int (if i < 0 then -i else i)) H) := by
  intro mg Wx μ H S vs ds Q hS r h
  unfold absD at h
  split at h
  · obtain ⟨v, rfl, rv⟩ := r.get1; cases rv; exact ⟨_, rfl, h.ok hS (.int _)⟩
  · exact h.elim
theorem o_max2 : OpL K max2D (fun xs H Q => ∃ i j, xs = [.int i, .int j] ∧ Q (.int (if j > i then j else i)) H) := by
  intro mg Wx μ H S vs ds Q hS r h
  unfold max2D at h
  split at h
  · rename_i i j
    obtain ⟨v, u, rfl, rv, ru⟩ := r.get2; cases rv; cases ru
    refine ⟨_, _, rfl, ?_⟩
    have e : max i j = if j > i then j else i := by split <;> omega
    rw [e] at h
    exact h.ok hS (.int _)
  · exact h.elim
theorem o_min2 : OpL K min2D (fun xs H Q => ∃ i j, xs = [.int i, .int j] ∧ Q (.int (if j < i then j else i)) H) := by
  intro mg Wx μ H S vs ds Q hS r h
  unfold min2D at h
  split at h
  · rename_i i j
    obtain ⟨v, u, rfl, rv, ru⟩ := r.get2; cases rv; cases ru
    refine ⟨_, _, rfl, ?_⟩
    have e : min i j = if j < i then j else i := by split <;> omega
    rw [e] at h
    exact h.ok hS (.int _)
  · exact h.elim
theorem foldmax_spec : ∀ (ns : List Int) (x : Int), (ns.foldl max x ∈ x :: ns) ∧ ∀ y ∈ x :: ns, y ≤ ns.foldl max x
  | [], x => by simp
  | y :: r, x => by
    obtain ⟨h1, h2⟩ := foldmax_spec r (max x y)
    have h3 := h2 (max x y) List.mem_cons_self
    rw [List.foldl_cons]
    refine ⟨?_, fun z hz => ?_⟩
    · rcases List.mem_cons.mp h1 with e | h1
      · rw [e]
        by_cases hxy : x ≤ y
        · rw [Int.max_eq_right hxy]; simp
        · rw [Int.max_eq_left (by omega)]; simp
      · exact List.mem_cons_of_mem _ (List.mem_cons_of_mem _ h1)
    · rcases List.mem_cons.mp hz with rfl | hz
      · omega
      · rcases List.mem_cons.mp hz with rfl | hz
        · omega
        · exact h2 z (List.mem_cons_of_mem _ hz)
theorem foldmin_spec : ∀ (ns : List Int) (x : Int), (ns.foldl min x ∈ x :: ns) ∧ ∀ y ∈ x :: ns, ns.foldl min x ≤ y
  | [], x => by simp
  | y :: r, x => by
    obtain ⟨h1, h2⟩ := foldmin_spec r (min x y)
    have h3 := h2 (min x y) List.mem_cons_self
    rw [List.foldl_cons]
    refine ⟨?_, fun z hz => ?_⟩
    · rcases List.mem_cons.mp h1 with e | h1
      · rw [e]
        by_cases hxy : x ≤ y
        · rw [Int.min_eq_left hxy]; simp
        · rw [Int.min_eq_right (by omega)]; simp
      · exact List.mem_cons_of_mem _ (List.mem_cons_of_mem _ h1)
    · rcases List.mem_cons.mp hz with rfl | hz
      · omega
      · rcases List.mem_cons.mp hz with rfl | hz
        · omega
        · exact h2 z (List.mem_cons_of_mem _ hz)
theorem maxI_spec (ns : List Int) (m : Int) (h : maxI ns = some m) : m ∈ ns ∧ ∀ y ∈ ns, y ≤ m := by
  cases ns with
  | nil => simp [maxI] at h
  | cons x r => simp only [maxI, Option.some.injEq] at h; subst h; exact foldmax_spec r x
theorem minI_spec (ns : List Int) (m : Int) (h : minI ns = some m) : m ∈ ns ∧ ∀ y ∈ ns, m ≤ y := by
  cases ns with
  | nil => simp [minI] at h
  | cons x r => simp only [minI, Option.some.injEq] at h; subst h; exact foldmin_spec r x
theorem o_max : OpL K maxD (rMax K) := by
  intro mg Wx μ H S vs ds Q hS r h
  unfold maxD at h
  split at h
  · obtain ⟨v, rfl, rv⟩ := r.get1
    split at h
    · rename_i ns e
      split at h
      · rename_i m em
        obtain ⟨es, e1, e2⟩ := Option.bind_eq_some_iff.mp e
        obtain ⟨a, us, rfl, hq, rr⟩ := rv.sqL hS e1
        cases intsOf_rep rr e2
        obtain ⟨h1, h2⟩ := maxI_spec ns m em
        refine ⟨a, ns, rfl, hq, List.length_pos_of_mem h1, fun m' hm' hle => ?_⟩
        have e3 : m = m' := Int.le_antisymm (hle _ h1) (h2 _ hm')
        subst e3
        exact h.ok hS (.int _)
      · exact h.elim
    · exact h.elim
  · exact h.elim
theorem o_min : OpL K minD (rMin K) := by
  intro mg Wx μ H S vs ds Q hS r h
  unfold minD at h
  split at h
  · obtain ⟨v, rfl, rv⟩ := r.get1
    split at h
    · rename_i ns e
      split at h
      · rename_i m em
        obtain ⟨es, e1, e2⟩ := Option.bind_eq_some_iff.mp e
        obtain ⟨a, us, rfl, hq, rr⟩ := rv.sqL hS e1
        cases intsOf_rep rr e2
        obtain ⟨h1, h2⟩ := minI_spec ns m em
        refine ⟨a, ns, rfl, hq, List.length_pos_of_mem h1, fun m' hm' hle => ?_⟩
        have e3 : m = m' := Int.le_antisymm (h2 _ hm') (hle _ h1)
        subst e3
        exact h.ok hS (.int _)
      · exact h.elim
    · exact h.elim
  · exact h.elim
theorem o_sum : OpL K sumD (rSum K) := by
  intro mg Wx μ H S vs ds Q hS r h
  unfold sumD at h
  split at h
  · obtain ⟨v, rfl, rv⟩ := r.get1
    split at h
    · rename_i ns e
      obtain ⟨es, e1, e2⟩ := Option.bind_eq_some_iff.mp e
      obtain ⟨a, us, rfl, hq, rr⟩ := rv.sqL hS e1
      cases intsOf_rep rr e2
      exact ⟨a, ns, rfl, hq, h.ok hS (.int _)⟩
    · exact h.elim
  · exact h.elim
theorem o_any : OpL K anyD (rAny K) := by
  intro mg Wx μ H S vs ds Q hS r h
  unfold anyD at h
  split at h
  · obtain ⟨v, rfl, rv⟩ := r.get1
    split at h
    · rename_i ns e
      obtain ⟨es, e1, e2⟩ := Option.bind_eq_some_iff.mp e
      obtain ⟨a, us, rfl, hq, rr⟩ := rv.sqL hS e1
      cases blsOf_rep rr e2
      exact ⟨a, ns, rfl, hq, h.ok hS (.bl _)⟩
    · exact h.elim
  · exact h.elim
end
end PL

namespace PL
open PySem PySem.Spec PyProof.Rows L2

/-! ### in -/
def flatD : Dv → Bool
  | .non => true
  | .bl _ => true
  | .int _ => true
  | .str _ => true
  | _ => false
def eqF : Dv → Dv → Bool
  | .non, .non => true
  | .bl a, .bl b => a == b
  | .bl a, .int b => (if a then 1 else 0) == b
  | .int a, .bl b => a == (if b then 1 else 0)
  | .int a, .int b => a == b
  | .str a, .str b => a == b
  | _, _ => false
def memq (S : Sto) (x y : Dv) : Option Bool := match y with
  | .str z => match x with
    | .str w => match w.cps.toList with
      | [c] => some (decide (c ∈ z.cps.toList))
      | _ => none
    | _ => none
  | _ => match tupOf y with
    | some ds => if flatD x = true ∧ ds.all flatD = true then some (ds.any fun d => eqF d x) else none
    | none => match lstOf S y with
      | some ds => match toP 40 S x, toPs 39 S ds with
        | some p, some qs => if SeqAt.shaped p = true ∧ SeqAt.shaped (.list qs) = true then some (qs.any fun z => PyData.eqv z p) else none
        | _, _ => none
      | none => match dget S y x with
        | some r => some r.isSome
        | none => none
def inD (x y : Dv) (S : Sto) : Out Dv := match memq S x y with
  | some b => .ok (.bl b) S
  | none => .no
def ninD (x y : Dv) (S : Sto) : Out Dv := match memq S x y with
  | some b => .ok (.bl (!b)) S
  | none => .no
abbrev rInAll (K : PySem.W.Frag) (g : Bool → Bool) : R2 := fun x y H Q =>
  (∃ (c : Nat) (z : Str), x = .str ⟨#[c]⟩ ∧ y = .str z ∧ Q (.bl (g (decide (c ∈ z.cps.toList)))) H) ∨
  ((∃ p xs, y = .ref p ∧ (SqL K H p xs ∨ SqT K H p xs) ∧ flatV x = true ∧ xs.all flatV = true ∧ Q (.bl (g (inV x xs))) H) ∨
  ((∃ d ds, Dp K H x d ∧ Dp K H y (.list ds) ∧ SeqAt.shaped d = true ∧ SeqAt.shaped (.list ds) = true ∧ Q (.bl (g (ds.any fun z => PyData.eqv z d))) H) ∨
  ∃ a o, y = .ref a ∧ DGet H a x o ∧ Q (.bl (g o.isSome)) H))
section
variable {X : Cx} {K : PySem.W.Frag} {μ : List Addr} {H : Hp} {S : Sto}
theorem op_inAll (hu : X.A.units + 65 < cLine) : OpR X (compareOp .In) (rInAll X.K id) :=
  OpR.or op_in_sign (OpR.or op_in_seq (OpR.or (op_inD hu) fun pins s σ H x y v u Q I rx ry ⟨a, o, ey, g, q⟩ => by
    subst ey
    obtain rfl : u = Value.ref a := ry
    exact d_in (by omega) I g rx fun s3 I3 => ⟨.bl o.isSome, H, I3, rfl, q⟩))
theorem op_ninAll (hu : X.A.units + 65 < cLine) : OpR X (compareOp .NotIn) (rInAll X.K not) :=
  OpR.or op_notIn_sign (OpR.or op_notIn_seq (OpR.or (op_notInD hu) fun pins s σ H x y v u Q I rx ry ⟨a, o, ey, g, q⟩ => by
    subst ey
    obtain rfl : u = Value.ref a := ry
    exact d_notIn (by omega) I g rx fun s3 I3 => ⟨.bl (!o.isSome), H, I3, rfl, q⟩))
theorem flat_rep {v : V} {d : Dv} (r : Rep K μ H v d) (f : flatD d = true) : flatV v = true := by
  cases r <;> first | rfl | simp [flatD] at f
theorem eqF_rep {v u : V} {d e : Dv} (r : Rep K μ H v d) (q : Rep K μ H u e) (f : flatD d = true) (g : flatD e = true) : eqV v u = eqF d e := by
  cases r <;> cases q <;> first | rfl | simp [flatD] at f | simp [flatD] at g
theorem anyF_rep {x : V} {d : Dv} (r : Rep K μ H x d) (f : flatD d = true) : ∀ {vs : List V} {ds : List Dv}, Reps K μ H vs ds → ds.all flatD = true → vs.all flatV = true ∧ inV x vs = ds.any fun e => eqF e d
  | vs, [], rr, _ => by cases rr.un0; exact ⟨rfl, rfl⟩
  | vs, e :: ds, rr, h => by
    obtain ⟨v, ws, rfl, r1, r2⟩ := rr.uncons
    rw [List.all_cons, Bool.and_eq_true] at h
    obtain ⟨h1, h2⟩ := anyF_rep r f r2 h.2
    refine ⟨by rw [List.all_cons, h1, flat_rep r1 h.1]; rfl, ?_⟩
    rw [List.any_cons, ← h2, ← eqF_rep r1 r h.1 f]
    rfl
theorem o_mem {g : Bool → Bool} {mg : Str → Option Value} {Wx : Value → Option Addr → Hp → Prop} {x y : V} {d e : Dv} {Q : VK} (hS : SimS K μ S H) (rx : Rep K μ H x d) (ry : Rep K μ H y e)
    (h : Met (Rep K) K mg Wx μ H (match memq S d e with | some b => .ok (.bl (g b)) S | none => .no) Q) : rInAll K g x y H Q := by
  split at h
  · rename_i b hb
    unfold memq at hb
    split at hb
    · cases ry
      split at hb
      · cases rx
        split at hb
        · rename_i w _ c e
          cases hb
          have ew : w = ⟨#[c]⟩ := by
            obtain ⟨w⟩ := w
            simp only [Str.mk.injEq]
            apply Array.toList_inj.mp
            rw [e]
          exact .inl ⟨c, _, by rw [ew], rfl, h.ok hS (.bl _)⟩
        · cases hb
      · cases hb
    · split at hb
      · rename_i ds e1
        split at hb
        · rename_i hf
          cases hb
          obtain ⟨a, vs, rfl, hq, rr⟩ := ry.sqT e1
          obtain ⟨h1, h2⟩ := anyF_rep rx hf.1 rr hf.2
          rw [← h2] at h
          exact .inr (.inl ⟨a, vs, rfl, .inr hq, flat_rep rx hf.1, h1, h.ok hS (.bl _)⟩)
        · cases hb
      · split at hb
        · rename_i ds e1
          split at hb
          · rename_i p qs e2 e3
            split at hb
            · rename_i hs
              cases hb
              obtain ⟨a, vs, rfl, hq, rr⟩ := ry.sqL hS e1
              exact .inr (.inr (.inl ⟨p, qs, dp_of hS 40 _ _ _ rx e2, .lst hq (dps_of hS 39 _ _ _ rr e3), hs.1, hs.2, h.ok hS (.bl _)⟩))
            · cases hb
          · cases hb
        · split at hb
          · rename_i r e1
            cases hb
            obtain ⟨a, u, ex, gg, hh⟩ := dget_rep hS ry rx e1
            refine .inr (.inr (.inr ⟨a, u, ex, gg, ?_⟩))
            rcases hh with ⟨rfl, rfl⟩ | ⟨d', v, rfl, rfl, _⟩ <;> exact h.ok hS (.bl _)
          · cases hb
  · exact h.elim
theorem o_in : Op2 K inD (rInAll K id) := fun mg Wx μ H S x y d e Q hS rx ry h => o_mem (g := id) hS rx ry h
theorem o_nin : Op2 K ninD (rInAll K not) := fun mg Wx μ H S x y d e Q hS rx ry h => o_mem (g := not) hS rx ry h
end

/-! ### isinstance -/
def tyN (S : Sto) : Dv → Option String
  | .non => some "NoneType"
  | .bl _ => some "bool"
  | .int _ => some "int"
  | .str _ => some "str"
  | .tup _ => some "tuple"
  | .kt _ => some "tuple"
  | .fl _ => some "list"
  | .ref l => match S[l]? with
    | some (.lst _) => some "list"
    | some (.dk _) => some "dict"
    | some (.dt _) => some "dict"
    | none => none
def isiB (a b : String) : Option Bool :=
  if a ∈ ["NoneType", "bool", "int", "str", "tuple", "list", "dict"] ∧ b ∈ ["bool", "int", "str", "tuple", "list", "dict"] then some (a == b || (a == "bool" && b == "int")) else none
theorem kit_all : ∀ a ∈ ["NoneType", "bool", "int", "str", "tuple", "list", "dict"], ∀ b ∈ ["bool", "int", "str", "tuple", "list", "dict"], kitB a b = some (a == b || (a == "bool" && b == "int")) := by decide +kernel
def isiD (T : String) (d : Dv) (S : Sto) : Out Dv := match (tyN S d).bind fun a => isiB a T with
  | some b => .ok (.bl b) S
  | none => .no
section
variable {X : Cx} {K : PySem.W.Frag} {W : WX} {e : Expr} {ra : RE} {pos p p2 : Pos}
theorem tyN_rep {μ : List Addr} {H : Hp} {S : Sto} {v : V} {d : Dv} {a : String} (hS : SimS K μ S H) (r : Rep K μ H v d) (h : tyN S d = some a) : TyX K H v (.type a) := by
  cases r with
  | non => cases h; exact .base .non
  | bl b => cases h; exact .base (.bl b)
  | int b => cases h; exact .base (.int b)
  | str b => cases h; exact .base (.str b)
  | tup t l q => cases h; exact .base (.tup t.1)
  | kt t l q => cases h; obtain ⟨o, its, n, e1, e2, _⟩ := t; exact .kTuple e1 e2
  | fl t l q =>
    cases h
    rcases t with ⟨⟨o, t⟩, _⟩ | ⟨o, its, n, e1, e2, _⟩
    · exact .base (.frz t)
    · exact .kList e1 e2
  | ref hl =>
    simp only [tyN] at h
    split at h
    · rename_i ds e; cases h; obtain ⟨ws, e1, _⟩ := hS.at' e hl; exact .base (.lst e1)
    · rename_i ds e; cases h; obtain ⟨ws, e1, _⟩ := hS.at' e hl; exact .base (.dK e1)
    · rename_i ds e; cases h; obtain ⟨ws, e1, _⟩ := hS.at' e hl; exact .base (.dT e1)
    · cases h
theorem se_isi {T : String} {t : Str} (hg : Gl X "isinstance") (hm : X.mg "isinstance" = none) (hgt : Gl X t) (hmt : X.mg t = none) (hbt : bootBuiltins t = some (.type T)) (he : SE X W e ra)
    (hn : t ≠ "__name__" := by decide) (hd : (t == ("__debug__" : Str)) = false := by decide)
    (hs1 : starEach [e, .Name t p2] X.env = (false, eval e X.env) :: starEach [.Name t p2] X.env := by rfl) (hs2 : starEach [.Name t p2] X.env = (false, eval (.Name t p2) X.env) :: starEach [] X.env := by rfl) (hpl : (backTo pos (starEach [.Name t p2] X.env)).any (·.1) = false := by rfl) :
    SE X W (.Call (.Name "isinstance" p) [e, .Name t p2] [] pos) (eUn (isiD T) ra) :=
  PE.imp (pe_callB call_isi hg hm (by decide +kernel) (pa_cons he (pa_cons (pe_bltn (v := .ty T) hgt hmt hbt rfl hn hd) pa_nil hs2) hs1) (by decide) (by decide) hs1 hpl) fun σ H Q ⟨μ, ρ, S, hS, hE, h⟩ =>
    (bnd hS hE h).mono fun v H1 ⟨μ1, S1, d, hS1, hE1, s1, rv, h1⟩ => by
      unfold isiD at h1
      split at h1
      · rename_i b hb
        obtain ⟨a, e1, e2⟩ := Option.bind_eq_some_iff.mp hb
        refine ⟨v, .ty T, .type a, .type T, b, rfl, .ty T, tyN_rep hS1 rv e1, kit_ty ?_, h1.ok hS1 (.bl _)⟩
        unfold isiB at e2
        split at e2
        · rename_i hm; rw [← e2]; exact kit_all a hm.1 T hm.2
        · cases e2
      · exact h1.elim
/-! ### chains, signs -/
def eChain (f g : Dv → Dv → Sto → Out Dv) (a b c : RE) : RE := fun ρ S => (a ρ S).bind fun x S1 => (b ρ S1).bind fun y S2 => (f x y S2).bind fun z S3 => match z with
  | .bl true => (c ρ S3).bind fun w S4 => g y w S4
  | .bl false => .ok (.bl false) S3
  | _ => .no
theorem bnd3 {rf rg : R2} {f g : Dv → Dv → Sto → Out Dv} {rb rc : RE} (hf : Op2 X.K f rf) (hg : Op2 X.K g rg) {σ : L2.St} {H : Hp} {Q : VK} (h : tG (Rep X.K) X.K X.mg W (eChain f g ra rb rc) σ H Q) :
    tChain rf rg (tG (Rep X.K) X.K X.mg W ra) (tG (Rep X.K) X.K X.mg W rb) (tG (Rep X.K) X.K X.mg W rc) σ H Q := by
  obtain ⟨μ, ρ, S, hS, hE, h⟩ := h
  refine (bnd hS hE h).mono fun x H1 ⟨μ1, S1, d, hS1, hE1, s1, rx, h1⟩ => ?_
  refine (bnd hS1 hE1 h1).mono fun y H2 ⟨μ2, S2, d2, hS2, hE2, s2, ry, h2⟩ => ?_
  obtain ⟨μ3, ρ3, S3, hS3, hE3, h3⟩ := bnd (r := fun ρ S => f d d2 S) (R1 := Rep X.K) hS2 hE2 h2
  refine hf X.mg (W.at σ) μ2 H2 S2 x y d d2 _ hS2 (rx.step s2) ry ?_
  cases q : f d d2 S2 with
  | no => rw [q] at h2; exact h2.elim
  | ex x S => rw [q] at h2; exact h2
  | ok z S3 =>
    rw [q] at h2
    intro μ3 H3 zv hS3 s3 rz
    have h3 := Met.step s3 h2
    simp only [Out.bind_ok] at h3
    cases rz <;> first | exact h3.elim | skip
    rename_i k
    refine ⟨k, rfl, ?_⟩
    cases k with
    | false => exact Met.ok (RP := Rep X.K) h3 hS3 (.bl _)
    | true =>
      have hE3 := (hE2.step s3)
      exact (bnd hS3 hE3 h3).mono fun w H4 ⟨μ4, S4, d4, hS4, hE4, s4, rw4, h4⟩ => hg _ _ μ4 H4 S4 y w d2 d4 Q hS4 ((ry.step s3).step s4) rw4 h4
theorem se_chain {op op' : CmpOp} {rf rg : R2} {f g : Dv → Dv → Sto → Out Dv} {a b c : Expr} {rb rc : RE} (ho : OpR X (compareOp op) rf) (hf : Op2 X.K f rf) (ho' : OpR X (compareOp op') rg) (hg : Op2 X.K g rg) (ha : SE X W a ra) (hb : SE X W b rb) (hc : SE X W c rc)
    (hm : lastMarks [op, op'] [b, c] = false := by with_unfolding_all rfl) : SE X W (.Compare a [op, op'] [b, c] pos) (eChain f g ra rb rc) :=
  PE.imp (pe_chain ho ho' ha hb hc hm) fun _ _ _ h => bnd3 hf hg h
theorem st_chain {op op' : CmpOp} {rf rg : R2} {f g : Dv → Dv → Sto → Out Dv} {a b c : Expr} {rb rc : RE} (ho : OpR X (compareOp op) rf) (hf : Op2 X.K f rf) (ho' : OpR X (compareOp op') rg) (hg : Op2 X.K g rg) (ha : SE X W a ra) (hb : SE X W b rb) (hc : SE X W c rc)
    (hm : lastMarks [op, op'] [b, c] = false := by with_unfolding_all rfl) : ST X W (.Compare a [op, op'] [b, c] pos) (cBl (eChain f g ra rb rc)) :=
  PT.imp (pt_chain ho ho' ha hb hc hm) fun σ H Q ⟨μ, ρ, S, hS, hE, h⟩ => bnd3 hf hg ((bnd hS hE h).mono fun v H1 ⟨μ1, S1, d, hS1, hE1, s1, rv, h1⟩ => bTrue_met hS1 rv h1)
theorem se_neg (h : SE X W e ra) : SE X W (.UnaryOp .USub e pos) (eUn negD ra) :=
  PE.imp (pe_un un_neg h) fun σ H Q ⟨μ, ρ, S, hS, hE, h⟩ => (bnd hS hE h).mono fun v H1 ⟨μ1, S1, d, hS1, hE1, s1, rv, h1⟩ => by
    cases rv <;> first | exact h1.elim | exact ⟨_, rfl, Met.ok (RP := Rep X.K) h1 hS1 (.int _)⟩
end
end PL

namespace PL
open PySem PySem.Spec PyProof.Rows L2

/-! ### methods -/
def tyQ (T : String) (d : Dv) (S : Sto) : Bool := match d with
  | .str _ => T == "str"
  | .fl _ => T == "list"
  | .ref l => match S[l]? with
    | some (.lst _) => T == "list"
    | some (.dk _) => T == "dict"
    | some (.dt _) => T == "dict"
    | none => false
  | _ => false
def eMeth (T : String) (f : Dv → List Dv → Sto → Out Dv) (o : RE) (a : RA) : RE := fun ρ S => (o ρ S).bind fun d S1 => if tyQ T d S1 = true then (a ρ S1).bind fun ds S2 => f d ds S2 else .no
def lmap (d : Dv) (S : Sto) (f : Nat → List Dv → Out Dv) : Out Dv := match d with
  | .ref l => match S[l]? with
    | some (.lst xs) => f l xs
    | _ => .no
  | _ => .no
def appendD (d : Dv) (ds : List Dv) (S : Sto) : Out Dv := match ds with
  | [y] => lmap d S fun l xs => if xs.length < sizeLine then .ok .non (S.set l (.lst (xs ++ [y]))) else .no
  | _ => .no
noncomputable def popD (d : Dv) (ds : List Dv) (S : Sto) : Out Dv := match ds with
  | [] => lmap d S fun l xs => match xs[xs.length - 1]? with
    | some y => .ok y (S.set l (.lst xs.dropLast))
    | none => .no
  | [.int i] => lmap d S fun l xs => @ite _ (-(2 ^ 63) ≤ i ∧ i < 2 ^ 63) (Classical.propDecidable _) (match seqIndex? i xs.length with
    | some k => match xs[k]? with
      | some y => .ok y (S.set l (.lst (xs.eraseIdx k)))
      | none => .no
    | none => .no) .no
  | _ => .no
def extendD (d : Dv) (ds : List Dv) (S : Sto) : Out Dv := match ds with
  | [e] => lmap d S fun l xs => match e with
    | .ref m => match S[m]? with
      | some (.lst zs) => if xs.length + zs.length ≤ sizeLine then .ok .non (S.set l (.lst (xs ++ zs))) else .no
      | _ => .no
    | _ => .no
  | _ => .no
def clearD (d : Dv) (ds : List Dv) (S : Sto) : Out Dv := match ds with
  | [] => lmap d S fun l _ => .ok .non (S.set l (.lst []))
  | _ => .no
noncomputable def insertD (d : Dv) (ds : List Dv) (S : Sto) : Out Dv := match ds with
  | [.int i, y] => lmap d S fun l xs => @ite _ (xs.length < sizeLine ∧ 0 ≤ i ∧ i < 2 ^ 63) (Classical.propDecidable _) (.ok .non (S.set l (.lst (xs.take i.toNat ++ [y] ++ xs.drop i.toNat)))) .no
  | _ => .no
def joinD (d : Dv) (ds : List Dv) (S : Sto) : Out Dv := match d, ds with
  | .str a, [e] => match (seqOf S e).bind strsOf with
    | some ys => if (ys.map (·.length)).sum + ys.length * a.length ≤ 16777216 then .ok (.str (Txt.join a ys)) S else .no
    | none => .no
  | _, _ => .no
def splitD (d : Dv) (ds : List Dv) (S : Sto) : Out Dv := match d, ds with
  | .str a, [.str b] => if (b.length == 0) = false ∧ a.length + 2 ≤ sizeLine then newL ((Txt.split a b).map .str) S else .no
  | _, _ => .no
def getD2 (d : Dv) (ds : List Dv) (S : Sto) : Out Dv := match ds with
  | [k, x] => match dget S d k with
    | some (some y) => .ok y S
    | some none => .ok x S
    | none => .no
  | _ => .no
section
variable {X : Cx} {K : PySem.W.Frag} {W : WX} {o e f : Expr} {es : List Expr} {ra rb rc : RE} {rs : RA} {apos cpos pos p : Pos}
theorem tyQ_rep {T : String} {μ : List Addr} {H : Hp} {S : Sto} {v : V} {d : Dv} (hS : SimS K μ S H) (r : Rep K μ H v d) (h : tyQ T d S = true) : tyV K T v H := by
  cases r with
  | str x => exact eq_of_beq h
  | fl t l q =>
    rcases t with ⟨⟨o, t⟩, _⟩ | t
    · exact .inl ⟨eq_of_beq h, _, .inl (.inr ⟨o, t⟩)⟩
    · exact .inl ⟨eq_of_beq h, _, .inr t⟩
  | ref hl =>
    simp only [tyQ] at h
    split at h
    · rename_i ds e; obtain ⟨ws, e1, _⟩ := hS.at' e hl; exact .inl ⟨eq_of_beq h, ws, .of e1⟩
    · rename_i ds e; obtain ⟨ws, e1, _⟩ := hS.at' e hl; exact .inr (.inr (.inl ⟨eq_of_beq h, .inl ⟨ws, e1⟩⟩))
    · rename_i ds e; obtain ⟨ws, e1, _⟩ := hS.at' e hl; exact .inr (.inr (.inl ⟨eq_of_beq h, .inr ⟨ws, e1⟩⟩))
    · cases h
  | _ => simp [tyQ] at h
theorem se_meth {T id : String} {name : Str} {g : Dv → List Dv → Sto → Out Dv} {r : V → List V → Hp → VK → Prop} (pa : PlainAttrs T) (slot : Slot T name id) (hty : typeOf (.builtin id) = pure (.type "method_descriptor")) (hm : MtR X id r) (hf : OpM X.K g r)
    (ho : SE X W o ra) (ha : SA X W (e :: es) rs) (hbase : attributeBase o name X.env (eval o X.env) = eval o X.env := by rfl)
    (hfew : ((backTo cpos (starEach (e :: es) X.env)).all (fun x => !x.1) && (backToKw cpos (keywordEach [] X.env)).all (fun x => x.1.isSome)
      && decide ((e :: es).length + ([] : List Keyword).length + (if ([] : List Keyword).isEmpty then 0 else 1) < 30)) = true := by rfl)
    (hline : (apos.endLine == cpos.line) = true := by rfl) (hs : starEach (e :: es) X.env = (false, eval e X.env) :: starEach es X.env := by rfl) (hplain : (backTo cpos (starEach es X.env)).any (·.1) = false := by rfl) :
    SE X W (.Call (.Attribute o name apos) (e :: es) [] cpos) (eMeth T g ra rs) :=
  PE.imp (pe_bm pa slot hty hm ho ha hbase hfew hline hs hplain) fun σ H Q ⟨μ, ρ, S, hS, hE, h⟩ => (bnd hS hE h).mono fun v H1 ⟨μ1, S1, d, hS1, hE1, s1, rv, h1⟩ => by
    split at h1
    · rename_i hq
      exact ⟨tyQ_rep hS1 rv hq, (bnd (R1 := Reps X.K) hS1 hE1 h1).mono fun vs H2 ⟨μ2, S2, ds, hS2, hE2, s2, rvs, h2⟩ => hf _ _ μ2 H2 S2 v vs d ds Q hS2 (rv.step s2) rvs h2⟩
    · exact h1.elim
theorem se_meth0 {T id : String} {name : Str} {g : Dv → List Dv → Sto → Out Dv} {r : V → List V → Hp → VK → Prop} (pa : PlainAttrs T) (slot : Slot T name id) (hty : typeOf (.builtin id) = pure (.type "method_descriptor")) (hm : MtR X id r) (hf : OpM X.K g r)
    (ho : SE X W o ra) (hbase : attributeBase o name X.env (eval o X.env) = eval o X.env := by rfl) (hline : (apos.endLine == cpos.line) = true := by rfl) :
    SE X W (.Call (.Attribute o name apos) [] [] cpos) (eMeth T g ra aNil) :=
  PE.imp (pe_bm0 pa slot hty hm ho hbase hline) fun σ H Q ⟨μ, ρ, S, hS, hE, h⟩ => (bnd hS hE h).mono fun v H1 ⟨μ1, S1, d, hS1, hE1, s1, rv, h1⟩ => by
    split at h1
    · rename_i hq
      exact ⟨tyQ_rep hS1 rv hq, hf _ _ μ1 H1 S1 v [] d [] Q hS1 rv .nil h1⟩
    · exact h1.elim
theorem lmap_met {mg : Str → Option Value} {Wx : Value → Option Addr → Hp → Prop} {μ : List Addr} {H : Hp} {S : Sto} {x : V} {d : Dv} {Q : VK} {g : Nat → List Dv → Out Dv} (hS : SimS K μ S H) (r : Rep K μ H x d) (h : Met (Rep K) K mg Wx μ H (lmap d S g) Q) :
    ∃ l a xs vs, x = .ref a ∧ μ[l]? = some a ∧ S[l]? = some (.lst xs) ∧ H a = some (.lst vs) ∧ Reps K μ H vs xs ∧ Met (Rep K) K mg Wx μ H (g l xs) Q := by
  unfold lmap at h
  split at h
  · rename_i l
    cases r with
    | ref hl =>
      split at h
      · rename_i xs e
        obtain ⟨vs, e1, rr⟩ := hS.at' e hl
        exact ⟨l, _, xs, vs, rfl, hl, e, e1, rr, h⟩
      · exact h.elim
  · exact h.elim
theorem putL {mg : Str → Option Value} {Wx : Value → Option Addr → Hp → Prop} {μ : List Addr} {H : Hp} {S : Sto} {l : Nat} {a : Addr} {d : Dv} {v : V} {ys : List Dv} {ws : List V} {Q : VK} (h : Met (Rep K) K mg Wx μ H (.ok d (S.set l (.lst ys))) Q) (hS : SimS K μ S H) (hl : μ[l]? = some a)
    (r : Reps K μ H ws ys) (rv : Rep K μ H v d) : Q v (upd H a (.lst ws)) := h.put hS hl ⟨ws, upd_same, r.step (step_put hS hl _)⟩ (rv.step (step_put hS hl _))
theorem o_append : OpM K appendD rAppend := by
  intro mg Wx μ H S x vs d ds Q hS rx rs h
  unfold appendD at h
  split at h
  · obtain ⟨y, rfl, ry⟩ := rs.get1
    obtain ⟨l, a, xs, us, rfl, hl, e, e1, rr, h⟩ := lmap_met hS rx h
    split at h
    · rename_i hz
      exact ⟨a, us, y, rfl, rfl, e1, by rw [rr.1]; exact hz, putL h hS hl (rr.append (.one ry)) .non⟩
    · exact h.elim
  · exact h.elim
theorem Reps.dropLast {μ : List Addr} {H : Hp} {vs : List V} {ds : List Dv} (r : Reps K μ H vs ds) : Reps K μ H vs.dropLast ds.dropLast := by
  rw [List.dropLast_eq_take, List.dropLast_eq_take, r.1]
  exact r.take _
theorem Reps.erase {μ : List Addr} {H : Hp} {vs : List V} {ds : List Dv} (r : Reps K μ H vs ds) (k : Nat) : Reps K μ H (vs.eraseIdx k) (ds.eraseIdx k) := by
  rw [List.eraseIdx_eq_take_drop_succ, List.eraseIdx_eq_take_drop_succ]
  exact (r.take _).append (r.drop _)
theorem o_pop : OpM K popD (fun x vs H Q => rPop x vs H Q ∨ rPopAt x vs H Q) := by
  intro mg Wx μ H S x vs d ds Q hS rx rs h
  unfold popD at h
  split at h
  · cases rs.un0
    obtain ⟨l, a, xs, us, rfl, hl, e, e1, rr, h⟩ := lmap_met hS rx h
    split at h
    · rename_i y ey
      obtain ⟨v, ev, rv⟩ := rr.get ey
      exact .inl ⟨a, us, v, rfl, rfl, e1, by rw [rr.1]; exact ev, putL h hS hl rr.dropLast rv⟩
    · exact h.elim
  · obtain ⟨y, rfl, ry⟩ := rs.get1
    cases ry
    obtain ⟨l, a, xs, us, rfl, hl, e, e1, rr, h⟩ := lmap_met hS rx h
    split at h
    · rename_i hz
      split at h
      · rename_i k ek
        split at h
        · rename_i y ey
          obtain ⟨v, ev, rv⟩ := rr.get ey
          exact .inr ⟨a, us, _, k, v, rfl, rfl, e1, hz.1, hz.2, by rw [rr.1]; exact ek, ev, putL h hS hl (rr.erase k) rv⟩
        · exact h.elim
      · exact h.elim
    · exact h.elim
  · exact h.elim
theorem mt_popAll : MtR X "list.pop" (fun x vs H Q => rPop x vs H Q ∨ rPopAt x vs H Q) := MtR.or mt_pop mt_popAt
theorem o_extend : OpM K extendD rExtend := by
  intro mg Wx μ H S x vs d ds Q hS rx rs h
  unfold extendD at h
  split at h
  · obtain ⟨y, rfl, ry⟩ := rs.get1
    obtain ⟨l, a, xs, us, rfl, hl, e, e1, rr, h⟩ := lmap_met hS rx h
    split at h
    · cases ry with
      | ref hm =>
        split at h
        · rename_i zs e2
          obtain ⟨ws, e3, r3⟩ := hS.at' e2 hm
          split at h
          · rename_i hz
            exact ⟨a, _, us, ws, rfl, rfl, e1, e3, by rw [rr.1, r3.1]; exact hz, putL h hS hl (rr.append r3) .non⟩
          · exact h.elim
        · exact h.elim
    · exact h.elim
  · exact h.elim
theorem o_clear : OpM K clearD rClear := by
  intro mg Wx μ H S x vs d ds Q hS rx rs h
  unfold clearD at h
  split at h
  · cases rs.un0
    obtain ⟨l, a, xs, us, rfl, hl, e, e1, rr, h⟩ := lmap_met hS rx h
    exact ⟨a, us, rfl, rfl, e1, putL h hS hl .nil .non⟩
  · exact h.elim
theorem o_insert : OpM K insertD (fun x vs H Q => ∃ (l : Addr) (xs : List V) (i : Int) (y : V), x = .ref l ∧ vs = [.int i, y] ∧ H l = some (.lst xs) ∧ xs.length < sizeLine ∧ 0 ≤ i ∧ i < 2 ^ 63 ∧ Q .non (upd H l (.lst (xs.take i.toNat ++ [y] ++ xs.drop i.toNat)))) := by
  intro mg Wx μ H S x vs d ds Q hS rx rs h
  unfold insertD at h
  split at h
  · obtain ⟨i, y, rfl, ri, ry⟩ := rs.get2
    cases ri
    obtain ⟨l, a, xs, us, rfl, hl, e, e1, rr, h⟩ := lmap_met hS rx h
    split at h
    · rename_i hz
      exact ⟨a, us, _, y, rfl, rfl, e1, by rw [rr.1]; exact hz.1, hz.2.1, hz.2.2, putL h hS hl (((rr.take _).append (.one ry)).append (rr.drop _)) .non⟩
    · exact h.elim
  · exact h.elim
theorem reps_strs {μ : List Addr} {H : Hp} : ∀ ys : List Str, Reps K μ H (ys.map V.str) (ys.map Dv.str)
  | [] => .nil
  | y :: ys => (reps_strs ys).cons (.str y)
theorem o_join : OpM K joinD (fun x xs H Q => ∃ a p, ∃ ys : List Str, x = .str a ∧ xs = [.ref p] ∧ (SqL K H p (ys.map V.str) ∨ SqT K H p (ys.map V.str)) ∧ (ys.map (·.length)).sum + ys.length * a.length ≤ 16777216 ∧ Q (.str (Txt.join a ys)) H) := by
  intro mg Wx μ H S x vs d ds Q hS rx rs h
  unfold joinD at h
  split at h
  · cases rx
    obtain ⟨y, rfl, ry⟩ := rs.get1
    split at h
    · rename_i ys e
      obtain ⟨es, e1, e2⟩ := Option.bind_eq_some_iff.mp e
      obtain ⟨a, us, rfl, hq, rr⟩ := seq_rep hS ry e1
      cases strsOf_rep rr e2
      split at h
      · rename_i hz; exact ⟨_, a, ys, rfl, rfl, hq, hz, h.ok hS (.str _)⟩
      · exact h.elim
    · exact h.elim
  · exact h.elim
theorem o_split : OpM K splitD (fun x xs H Q => ∃ a b, x = .str a ∧ xs = [.str b] ∧ (b.length == 0) = false ∧ a.length + 2 ≤ sizeLine ∧ rNewStrs (Txt.split a b) H Q) := by
  intro mg Wx μ H S x vs d ds Q hS rx rs h
  unfold splitD at h
  split at h
  · cases rx
    obtain ⟨y, rfl, ry⟩ := rs.get1
    cases ry
    split at h
    · rename_i hz; exact ⟨_, _, rfl, rfl, hz.1, hz.2, fun p n => h.lst hS n (reps_strs _)⟩
    · exact h.elim
  · exact h.elim
/-- o.get(k, x) -/
def eGet2 (o k x : RE) : RE := fun ρ S => (o ρ S).bind fun d S1 => if tyQ "dict" d S1 = true then (k ρ S1).bind fun y S2 => (x ρ S2).bind fun z S3 => getD2 d [y, z] S3 else .no
theorem se_get2 (hu : X.A.units + 1 < cLine) (ho : SE X W o ra) (he : SE X W e rb) (hf : SE X W f rc) (m : M2 X o "get" apos e f cpos) : SE X W (.Call (.Attribute o "get" apos) [e, f] [] cpos) (eGet2 ra rb rc) :=
  PE.imp (pe_dget2 hu ho he hf m) fun σ H Q ⟨μ, ρ, S, hS, hE, h⟩ => (bnd hS hE h).mono fun v H1 ⟨μ1, S1, d, hS1, hE1, s1, rv, h1⟩ => by
    split at h1
    · rename_i hq
      have ty := tyQ_rep hS1 rv hq
      cases rv with
      | @ref l a hl =>
        refine ⟨a, rfl, ?_, ?_⟩
        · rcases ty with ⟨z, _⟩ | ⟨z, _⟩ | ⟨_, ⟨kvs, z⟩ | ⟨kvs, z⟩⟩ | ⟨z, _⟩
          · simp at z
          · simp at z
          · exact .inl ⟨kvs, .inl z⟩
          · exact .inr ⟨kvs, .inl z⟩
          · simp at z
        · refine (bnd hS1 hE1 h1).mono fun y H2 ⟨μ2, S2, d2, hS2, hE2, s2, ry, h2⟩ => ?_
          refine (bnd hS2 hE2 h2).mono fun z H3 ⟨μ3, S3, d3, hS3, hE3, s3, rz, h3⟩ => ?_
          unfold getD2 at h3
          simp only at h3
          have rl : Rep X.K μ3 H3 (.ref a) (.ref l) := (Rep.ref hl).step (s2.trans s3)
          split at h3
          · rename_i y' e1
            obtain ⟨a', u, ex, g, hh⟩ := dget_rep hS3 rl (ry.step s3) e1
            cases ex
            rcases hh with ⟨w, _⟩ | ⟨d', v', e2, e3, r⟩
            · cases w
            · cases e2; subst e3; exact ⟨_, g, h3.ok hS3 r⟩
          · rename_i e1
            obtain ⟨a', u, ex, g, hh⟩ := dget_rep hS3 rl (ry.step s3) e1
            cases ex
            rcases hh with ⟨_, w⟩ | ⟨d', v', e2, e3, r⟩
            · subst w; exact ⟨_, g, h3.ok hS3 rz⟩
            · cases e2
          · exact h3.elim
      | str x => simp [tyQ] at hq
      | fl t l q => simp [tyQ] at hq
      | _ => simp [tyQ] at hq
    · exact h1.elim
/-! ### dicts made -/
def eNewK : RE := fun _ S => .ok (.ref S.length) (S ++ [.dk []])
def eNewT : RE := fun _ S => .ok (.ref S.length) (S ++ [.dt []])
theorem se_newK : SE X W (.Dict [] [] pos) eNewK := PE.imp pe_dnewK fun σ H Q ⟨μ, ρ, S, hS, hE, h⟩ p n => Met.new (o := .dk []) h hS n ⟨[], upd_same, rfl, .nil⟩
theorem se_newT : SE X W (.Dict [] [] pos) eNewT := PE.imp pe_dnewT fun σ H Q ⟨μ, ρ, S, hS, hE, h⟩ p n => Met.new (o := .dt []) h hS n ⟨[], upd_same, rfl, .nil⟩
/-! ### own defs -/
def spD (K : PySem.W.Frag) (mg : Str → Option Value) (F : List Dv → Sto → Out Dv) (n : Nat) : Sp := fun vs H Q E => ∃ μ S ds, ds.length = n ∧ SimS K μ S H ∧ Reps K μ H vs ds ∧ Met (Rep K) K mg E μ H (F ds S) Q
def eOwn (n : Nat) (F : List Dv → Sto → Out Dv) (a : RA) : RE := fun ρ S => (a ρ S).bind fun ds S1 => if ds.length = n then F ds S1 else .no
theorem se_own {CX : CXT} {k n : Nat} {fa : Addr} {fd : FuncData} {ps : List Str} {x : Str} {F : List Dv → Sto → Out Dv} (G : FnOk X.prog X.w X.K X.mg X.base CX k fa fd ps (spD X.K X.mg F n)) (hr : Room k X.A) (hg : Gl X x) (hm : X.mg x = some (.ref fa)) (hk : PySem.W.keepIn X.K (.ref fa) = true)
    (hb : Binds X.K fd ps []) (hx : ∀ σ, PassesAt CX X σ (W.at σ)) (ha : SA X W (e :: es) rs) (hdb : (x == ("__debug__" : Str)) = false := by decide) (he : starEach (e :: es) X.env = (false, eval e X.env) :: starEach es X.env := by rfl) (hpl : (backTo pos (starEach es X.env)).any (·.1) = false := by rfl) :
    SE X W (.Call (.Name x p) (e :: es) [] pos) (eOwn n F rs) :=
  PE.imp (pe_callSD (E := fun σ => W.at σ) G hr hg hm hk hb .nil hx ha hdb he hpl) fun σ H Q ⟨μ, ρ, S, hS, hE, h⟩ => (bnd (R1 := Reps X.K) hS hE h).mono fun vs H1 ⟨μ1, S1, ds, hS1, hE1, s1, rv, h1⟩ => by
    split at h1
    · rename_i hn
      rw [List.append_nil]
      exact ⟨μ1, S1, ds, hn, hS1, rv, h1⟩
    · exact h1.elim
theorem se_own0 {CX : CXT} {k : Nat} {fa : Addr} {fd : FuncData} {ps : List Str} {x : Str} {F : List Dv → Sto → Out Dv} (G : FnOk X.prog X.w X.K X.mg X.base CX k fa fd ps (spD X.K X.mg F 0)) (hr : Room k X.A) (hg : Gl X x) (hm : X.mg x = some (.ref fa)) (hk : PySem.W.keepIn X.K (.ref fa) = true)
    (hb : Binds X.K fd ps []) (hx : ∀ σ, PassesAt CX X σ (W.at σ)) (hdb : (x == ("__debug__" : Str)) = false := by decide) : SE X W (.Call (.Name x p) [] [] pos) (eOwn 0 F aNil) := by
  refine ⟨fun pins s σ H Q I ⟨μ, ρ, S, hS, hE, h⟩ => ?_⟩
  refine wpAny_Call_Name_kw (ld_glob I hg hm ?_ hdb)
  exact PySem.W.callWith_K0 I.kIn hk (run_fnSD (dvs := []) (ds := []) (E := fun σ => W.at σ) (us := []) G hr hb .nil (hx σ) I .nil ⟨μ, S, [], rfl, hS, .nil, h⟩)
end
end PL

namespace PL
open PySem PySem.Spec PyProof.Rows L2

/-! ### statements: outcomes -/
inductive Fl where
  | nx (ρ : Env) | rt (d : Dv) | bk (ρ : Env) | ct (ρ : Env)
inductive OutS where
  | fl (f : Fl) (S : Sto) | ex (x : Ex) (ρ : Env) (S : Sto) | no
abbrev RC := Env → Sto → OutS
def MetS (K : PySem.W.Frag) (mg : Str → Option Value) (W : WX) (μ : List Addr) (H : Hp) (o : OutS) (D : Ends) : Prop :=
  match o with
  | .fl (.nx ρ') S' => ∀ μ' σ' H', SimS K μ' S' H' → SimE K μ' H' ρ' σ' → Step μ H μ' H' → D.nx σ' H'
  | .fl (.rt d) S' => ∀ μ' v H', SimS K μ' S' H' → Step μ H μ' H' → Rep K μ' H' v d → D.rt v H'
  | .fl (.bk ρ') S' => ∀ μ' σ' H', SimS K μ' S' H' → SimE K μ' H' ρ' σ' → Step μ H μ' H' → D.bk σ' H'
  | .fl (.ct ρ') S' => ∀ μ' σ' H', SimS K μ' S' H' → SimE K μ' H' ρ' σ' → Step μ H μ' H' → D.ct σ' H'
  | .ex x ρ' S' => ∀ μ' σ' H' cls d, SimS K μ' S' H' → SimE K μ' H' ρ' σ' → Step μ H μ' H' → XRep K mg μ' H' x cls d → W cls d σ' H'
  | .no => False
def tS (K : PySem.W.Frag) (mg : Str → Option Value) (W : WX) (c : RC) : TS := fun D σ H => ∃ μ ρ S, SimS K μ S H ∧ SimE K μ H ρ σ ∧ MetS K mg W μ H (c ρ S) D
abbrev SC (X : Cx) (W : WX) (st : Stmt) (c : RC) : Prop := PS X st (tS X.K X.mg W c)
abbrev SCs (X : Cx) (W : WX) (st : List Stmt) (c : RC) : Prop := PSs X st (tS X.K X.mg W c)
theorem PS.imp {X : Cx} {e : Stmt} {t t' : TS} (h : PS X e t) (i : ∀ D σ H, t' D σ H → t D σ H) : PS X e t' := ⟨fun pins s σ H D I w => h.run pins s σ H D I (i D σ H w)⟩
theorem PSs.imp {X : Cx} {e : List Stmt} {t t' : TS} (h : PSs X e t) (i : ∀ D σ H, t' D σ H → t D σ H) : PSs X e t' := ⟨fun pins s σ H D I w => h.run pins s σ H D I (i D σ H w)⟩
section
variable {K : PySem.W.Frag} {mg : Str → Option Value} {W : WX} {μ μ1 : List Addr} {H H1 : Hp} {ρ : Env} {σ : L2.St} {S : Sto} {D D' : Ends}
theorem MetS.step {o : OutS} (s : Step μ H μ1 H1) (h : MetS K mg W μ H o D) : MetS K mg W μ1 H1 o D := by
  cases o with
  | fl f S' =>
    cases f with
    | nx ρ' => exact fun μ' σ' H' a b c => h μ' σ' H' a b (s.trans c)
    | rt d => exact fun μ' σ' H' a b c => h μ' σ' H' a (s.trans b) c
    | bk ρ' => exact fun μ' σ' H' a b c => h μ' σ' H' a b (s.trans c)
    | ct ρ' => exact fun μ' σ' H' a b c => h μ' σ' H' a b (s.trans c)
  | ex x ρ' S' => exact fun μ' σ' H' cl dd a b c d => h μ' σ' H' cl dd a b (s.trans c) d
  | no => exact h
def bindS {α : Type} (o : Out α) (ρ : Env) (f : α → Sto → OutS) : OutS := match o with
  | .ok a S => f a S
  | .ex x S => .ex x ρ S
  | .no => .no
@[simp] theorem bindS_ok {α : Type} (a : α) (S : Sto) (ρ : Env) (f : α → Sto → OutS) : bindS (.ok a S) ρ f = f a S := rfl
@[simp] theorem bindS_ex {α : Type} (x : Ex) (S : Sto) (ρ : Env) (f : α → Sto → OutS) : bindS (.ex x S : Out α) ρ f = .ex x ρ S := rfl
@[simp] theorem bindS_no {α : Type} (ρ : Env) (f : α → Sto → OutS) : bindS (.no : Out α) ρ f = .no := rfl
theorem bndS {α β : Type} {R1 : List Addr → Hp → β → α → Prop} {r : Env → Sto → Out α} {f : α → Sto → OutS} (hS : SimS K μ S H) (hE : SimE K μ H ρ σ)
    (h : MetS K mg W μ H (bindS (r ρ S) ρ f) D) : tG R1 K mg W r σ H (fun v H1 => ∃ μ1 S1 d, SimS K μ1 S1 H1 ∧ SimE K μ1 H1 ρ σ ∧ Step μ H μ1 H1 ∧ R1 μ1 H1 v d ∧ MetS K mg W μ1 H1 (f d S1) D) := by
  refine ⟨μ, ρ, S, hS, hE, ?_⟩
  cases q : r ρ S with
  | ok d S1 =>
    rw [q] at h
    exact fun μ1 H1 v a b c => ⟨μ1, S1, d, a, hE.step b, b, c, h.step b⟩
  | ex x S1 =>
    rw [q] at h
    exact fun μ1 H1 cl dd a b c => h μ1 σ H1 cl dd a (hE.step b) b c
  | no => rw [q] at h; exact h
end

/-! ### statements -/
def cNil : RC := fun ρ S => .fl (.nx ρ) S
def cSeq (a b : RC) : RC := fun ρ S => match a ρ S with
  | .fl (.nx ρ') S' => b ρ' S'
  | o => o
def cExpr (e : RE) : RC := fun ρ S => bindS (e ρ S) ρ fun _ S1 => .fl (.nx ρ) S1
def cSet (i : Nat) (e : RE) : RC := fun ρ S => bindS (e ρ S) ρ fun d S1 => .fl (.nx (ρ.set i (some d))) S1
def cRet (e : RE) : RC := fun ρ S => bindS (e ρ S) ρ fun d S1 => .fl (.rt d) S1
def cRetN : RC := fun ρ S => .fl (.rt .non) S
def cIf (t : RT) (a b : RC) : RC := fun ρ S => bindS (t ρ S) ρ fun c S1 => if c = true then a ρ S1 else b ρ S1
def cBrk : RC := fun ρ S => .fl (.bk ρ) S
def cCt : RC := fun ρ S => .fl (.ct ρ) S
def cNo : RC := fun _ _ => .no
inductive Tg where
  | nm (i : Nat) | tp (ts : List Tg)
mutual
def Tg.set : Tg → Dv → Env → Option Env
  | .nm i, d, ρ => some (ρ.set i (some d))
  | .tp ts, d, ρ => match tupOf d with
    | some ds => Tg.sets ts ds ρ
    | none => none
def Tg.sets : List Tg → List Dv → Env → Option Env
  | [], [], ρ => some ρ
  | t :: ts, d :: ds, ρ => match t.set d ρ with
    | some ρ' => Tg.sets ts ds ρ'
    | none => none
  | _, _, _ => none
def Tg.slots : Tg → List Nat
  | .nm i => [i]
  | .tp ts => Tg.slotss ts
def Tg.slotss : List Tg → List Nat
  | [] => []
  | t :: ts => t.slots ++ Tg.slotss ts
end
def cAsg (t : Tg) (e : RE) : RC := fun ρ S => bindS (e ρ S) ρ fun d S1 => match t.set d ρ with
  | some ρ' => .fl (.nx ρ') S1
  | none => .no
/-- o[k] = d -/
def putD (o k d : Dv) (S : Sto) : Option Sto := match o, k with
  | .ref l, .int i => match S[l]? with
    | some (.lst xs) => match ixN xs.length i with
      | some j => some (S.set l (.lst (xs.set j d)))
      | none => none
    | _ => dput S o k d
  | _, _ => dput S o k d
def cPut (o k v : RE) : RC := fun ρ S => bindS (v ρ S) ρ fun d S1 => bindS (o ρ S1) ρ fun x S2 => bindS (k ρ S2) ρ fun y S3 => match putD x y d S3 with
  | some S4 => .fl (.nx ρ) S4
  | none => .no
def cAug (i : Nat) (f : Dv → Dv → Sto → Out Dv) (e : RE) : RC := fun ρ S => bindS (eBin f (eVar i) e ρ S) ρ fun d S1 => .fl (.nx (ρ.set i (some d))) S1

section
variable {X : Cx} {W : WX} {e o k v : Expr} {re ro rk rv : RE} {rt : RT} {st : Stmt} {sts : List Stmt} {a b : RC} {pos pos' : Pos}
theorem scs_nil : SCs X W [] cNil := PSs.imp pss_nil fun D σ H ⟨μ, ρ, S, hS, hE, h⟩ => h μ σ H hS hE (.refl μ H)
theorem scs_cons (h : SC X W st a) (t : SCs X W sts b) : SCs X W (st :: sts) (cSeq a b) :=
  PSs.imp (pss_cons h t) fun D σ H ⟨μ, ρ, S, hS, hE, h⟩ => ⟨μ, ρ, S, hS, hE, by
    unfold cSeq at h
    cases q : a ρ S with
    | fl f S1 =>
      rw [q] at h
      cases f with
      | nx ρ1 => exact fun μ' σ' H' x y z => ⟨μ', ρ1, S1, x, y, h.step z⟩
      | rt d => exact h
      | bk ρ1 => exact h
      | ct ρ1 => exact h
    | ex x ρ1 S1 => rw [q] at h; exact h
    | no => rw [q] at h; exact h⟩
theorem scs_one (h : SC X W st a) : SCs X W [st] a := pss_one h
theorem sc_pass : SC X W (.Pass pos) cNil := PS.imp ps_pass fun D σ H ⟨μ, ρ, S, hS, hE, h⟩ => h μ σ H hS hE (.refl μ H)
theorem sc_break : SC X W (.Break pos) cBrk := PS.imp ps_break fun D σ H ⟨μ, ρ, S, hS, hE, h⟩ => h μ σ H hS hE (.refl μ H)
theorem sc_cont : SC X W (.Continue pos) cCt := PS.imp ps_continue fun D σ H ⟨μ, ρ, S, hS, hE, h⟩ => h μ σ H hS hE (.refl μ H)
theorem sc_never : SC X W st cNo := PS.imp ps_never fun D σ H ⟨μ, ρ, S, hS, hE, h⟩ => h
theorem sc_doc {x j} : SC X W (.Expr (.Constant (.str x) j pos) pos') cNil := PS.imp ps_doc fun D σ H ⟨μ, ρ, S, hS, hE, h⟩ => h μ σ H hS hE (.refl μ H)
theorem sc_expr (he : SE X W e re) (hs : swapsWith e none pos.line X.env = pure false := by rfl) : SC X W (.Expr e pos) (cExpr re) :=
  PS.imp (ps_expr he hs) fun D σ H ⟨μ, ρ, S, hS, hE, h⟩ => (bndS hS hE h).mono fun v H1 ⟨μ1, S1, d, hS1, hE1, s1, rv, h1⟩ => h1 μ1 σ H1 hS1 hE1 (.refl ..)
theorem sc_ret (he : SE X W e re) : SC X W (.Return (some e) pos) (cRet re) :=
  PS.imp (ps_ret he) fun D σ H ⟨μ, ρ, S, hS, hE, h⟩ => (bndS hS hE h).mono fun v H1 ⟨μ1, S1, d, hS1, hE1, s1, rv, h1⟩ => h1 μ1 v H1 hS1 (.refl ..) rv
theorem sc_retN : SC X W (.Return none pos) cRetN :=
  PS.imp ps_retN fun D σ H ⟨μ, ρ, S, hS, hE, h⟩ => h μ _ H hS (.refl ..) .non
theorem SimE.set {K : PySem.W.Frag} {μ : List Addr} {H : Hp} {ρ : Env} {σ : L2.St} {v : V} {d : Dv} (h : SimE K μ H ρ σ) (r : Rep K μ H v d) (i : Nat) : SimE K μ H (ρ.set i (some d)) (σ.set i (some v)) := by
  refine ⟨by rw [List.length_set, List.length_set, h.1], fun j e hj => ?_⟩
  by_cases hi : i = j
  · subst hi
    have hl : i < ρ.length := by have := (List.getElem?_eq_some_iff.mp hj).1; simpa using this
    rw [List.getElem?_set_self hl] at hj
    cases hj
    exact ⟨v, List.getElem?_set_self (by rw [← h.1]; exact hl), r⟩
  · rw [List.getElem?_set_ne hi] at hj
    obtain ⟨u, e1, r1⟩ := h.2 j e hj
    exact ⟨u, by rw [List.getElem?_set_ne hi]; exact e1, r1⟩
theorem sc_set {i : Nat} {x : Str} (hN : X.N.Nodup) (hi : X.N[i]? = some x) (hx : Loc X.env.scope x) (he : SE X W e re) (hs : swapsWith e (some (.Name x pos')) pos.line X.env = pure false := by rfl) (hf : X.fn x = true ∨ X.env.scope.names.lookup x = some .local := by first | exact .inl rfl | exact .inr rfl | assumption) :
    SC X W (.Assign [.Name x pos'] e pos) (cSet i re) :=
  PS.imp (ps_set hN hi hx he hs hf) fun D σ H ⟨μ, ρ, S, hS, hE, h⟩ => (bndS hS hE h).mono fun v H1 ⟨μ1, S1, d, hS1, hE1, s1, rv, h1⟩ => h1 μ1 _ H1 hS1 (hE1.set rv i) (.refl ..)
theorem sc_if {c : Expr} {as bs : List Stmt} (hc : ST X W c rt) (ha : SCs X W as a) (hb : SCs X W bs b) : SC X W (.If c as bs pos) (cIf rt a b) :=
  PS.imp (ps_if hc ha hb) fun D σ H ⟨μ, ρ, S, hS, hE, h⟩ => (bndS (R1 := RBool) hS hE h).mono fun v H1 ⟨μ1, S1, d, hS1, hE1, s1, rv, h1⟩ => by
    cases (show v = d from rv)
    cases v with
    | true => exact ⟨μ1, ρ, S1, hS1, hE1, h1⟩
    | false => exact ⟨μ1, ρ, S1, hS1, hE1, h1⟩
/-! ### targets -/
def tGt (K : PySem.W.Frag) (t : Tg) : TG := fun v σ H Q => ∃ μ ρ d ρ', SimE K μ H ρ σ ∧ Rep K μ H v d ∧ t.set d ρ = some ρ' ∧ ∀ σ', SimE K μ H ρ' σ' → σ'.length = σ.length → (∀ j, j ∉ t.slots → σ'[j]? = σ[j]?) → Q σ' H
def tGts (K : PySem.W.Frag) (ts : List Tg) : TGs := fun vs σ H Q => ∃ μ ρ ds ρ', SimE K μ H ρ σ ∧ Reps K μ H vs ds ∧ Tg.sets ts ds ρ = some ρ' ∧ ∀ σ', SimE K μ H ρ' σ' → σ'.length = σ.length → (∀ j, j ∉ Tg.slotss ts → σ'[j]? = σ[j]?) → Q σ' H
abbrev SG (X : Cx) (tg : Expr) (t : Tg) : Prop := PG X tg (tGt X.K t)
abbrev SGs (X : Cx) (tg : List Expr) (t : List Tg) : Prop := PGs X tg (tGts X.K t)
theorem sg_name {i : Nat} {x : Str} (hN : X.N.Nodup) (hi : X.N[i]? = some x) (hx : Loc X.env.scope x) (hf : X.fn x = true ∨ X.env.scope.names.lookup x = some .local := by first | exact .inl rfl | exact .inr rfl | assumption) : SG X (.Name x pos) (.nm i) :=
  ⟨fun pins s σ H v u Q I r ⟨μ, ρ, d, ρ', hE, rv, hs, h⟩ => (pg_name hN hi hx hf).run pins s σ H v u Q I r (by
    simp only [Tg.set, Option.some.injEq] at hs
    subst hs
    exact h _ (hE.set rv i) (by simp) fun j hj => List.getElem?_set_ne (by intro z; subst z; simp [Tg.slots] at hj))⟩
theorem sgs_nil : SGs X [] [] :=
  ⟨fun pins s σ H vs us Q I r ⟨μ, ρ, ds, ρ', hE, rv, hs, h⟩ => pgs_nil.run pins s σ H vs us Q I r (by
    cases ds with
    | nil =>
      simp only [Tg.sets, Option.some.injEq] at hs
      subst hs
      exact ⟨rv.un0, h σ hE rfl fun _ _ => rfl⟩
    | cons => simp [Tg.sets] at hs)⟩
theorem sgs_cons {es : List Expr} {t : Tg} {ts : List Tg} (h1 : SG X e t) (h2 : SGs X es ts) (hs : (assignEach (e :: es) X.env).map (·.2) = assign e X.env :: (assignEach es X.env).map (·.2) := by rfl) : SGs X (e :: es) (t :: ts) :=
  ⟨fun pins s σ H vs us Q I r ⟨μ, ρ, ds, ρ', hE, rv, hh, h⟩ => (pgs_cons h1 h2 hs).run pins s σ H vs us Q I r (by
    cases ds with
    | nil => simp [Tg.sets] at hh
    | cons d ds =>
      obtain ⟨v, ws, rfl, r1, r2⟩ := rv.uncons
      simp only [Tg.sets] at hh
      split at hh
      · rename_i ρ1 e1
        refine ⟨v, ws, rfl, μ, ρ, d, ρ1, hE, r1, e1, fun σ1 hE1 l1 n1 => ⟨μ, ρ1, ds, ρ', hE1, r2, hh, fun σ2 hE2 l2 n2 => h σ2 hE2 (l2.trans l1) fun j hj => ?_⟩⟩
        simp only [Tg.slotss, List.mem_append, not_or] at hj
        exact (n2 j hj.2).trans (n1 j hj.1)
      · cases hh)⟩
theorem sg_tup {es : List Expr} {k : Nat} {ts : List Tg} {n : Nat} (hc : X.calm = true) (h : SGs X es ts) (hl : ts.length = n) (hn : (assignEach es X.env).length = n := by rfl) (hst : (assignEach es X.env).findIdx? (·.1) = none := by rfl) : SG X (.Tuple es k pos) (.tp ts) :=
  ⟨fun pins s σ H v u Q I r ⟨μ, ρ, d, ρ', hE, rv, hh, hq⟩ => (pg_tup hc h hn hst).run pins s σ H v u Q I r (by
    simp only [Tg.set] at hh
    split at hh
    · rename_i ds e
      obtain ⟨a, vs, rfl, hq2, rr⟩ := rv.sqT e
      have len : ∀ (ts : List Tg) (ds : List Dv) (ρ ρ' : Env), Tg.sets ts ds ρ = some ρ' → ts.length = ds.length := by
        intro ts
        induction ts with
        | nil => intro ds ρ ρ' h; cases ds with | nil => rfl | cons => simp [Tg.sets] at h
        | cons t ts ih =>
          intro ds ρ ρ' h
          cases ds with
          | nil => simp [Tg.sets] at h
          | cons d ds =>
            simp only [Tg.sets] at h
            split at h
            · simp [ih _ _ _ h]
            · cases h
      exact ⟨a, vs, rfl, hq2, by rw [rr.1, ← len _ _ _ _ hh, hl], μ, ρ, ds, ρ', hE, rr, hh, hq⟩
    · cases hh)⟩
theorem sc_asg {tg : Expr} {t : Tg} (he : SE X W e re) (hg : SG X tg t) (hs : swapsWithSole [tg] e pos.line X.env = pure false := by rfl) (hw : swappedStores [tg] e X.env = pure none := by rfl)
    (h1 : (assignEach [tg] X.env).map (·.2) = [assign tg X.env] := by rfl) : SC X W (.Assign [tg] e pos) (cAsg t re) :=
  PS.imp (ps_asg he hg hs hw h1) fun D σ H ⟨μ, ρ, S, hS, hE, h⟩ => (bndS hS hE h).mono fun v H1 ⟨μ1, S1, d, hS1, hE1, s1, rv, h1⟩ => by
    split at h1
    · rename_i ρ' e1
      exact ⟨μ1, ρ, d, ρ', hE1, rv, e1, fun σ' hE' _ _ => h1 μ1 σ' H1 hS1 hE' (.refl ..)⟩
    · exact h1.elim
abbrev rSetD : TSet := fun o i v H Q => ∃ a H', o = .ref a ∧ DPut H a i v H' ∧ Q H'
theorem set_all (hu : X.A.units + 1 < cLine) : PSet X (fun o i v H Q => rSetL o i v H Q ∨ rSetD o i v H Q) := by
  intro pins s σ H o i v ov iv u Q I ro ri rv h
  rcases h with h | ⟨a, H', rfl, g, q⟩
  · exact set_list pins s σ H o i v ov iv u Q I ro ri rv h
  · obtain rfl : ov = Value.ref a := ro
    exact d_setItem hu I g ri rv fun s' I' => ⟨H', I', q⟩
theorem sc_put (hu : X.A.units + 1 < cLine) (ho : SE X W o ro) (hk : SE X W k rk) (hv : SE X W v rv) (hs : swapsWithSole [.Subscript o k pos'] v pos.line X.env = pure false := by rfl) (hw : swappedStores [.Subscript o k pos'] v X.env = pure none := by rfl)
    (h1 : (assignEach [.Subscript o k pos'] X.env).map (·.2) = [assign (.Subscript o k pos') X.env] := by rfl)
    (ha : ∀ v, assign (.Subscript o k pos') X.env v = (do
      let ov ← holding [v] (eval o X.env)
      let iv ← holding [v, ov] (eval k X.env)
      standAt pos'
      holding [v, ov, iv] (setItem ov iv v)
      release [v, ov, iv] []) := by intro _; rfl) : SC X W (.Assign [.Subscript o k pos'] v pos) (cPut ro rk rv) :=
  PS.imp (ps_asg hv (pg_sub ho hk (set_all hu) ha) hs hw h1) fun D σ H ⟨μ, ρ, S, hS, hE, h⟩ => (bndS hS hE h).mono fun v H1 ⟨μ1, S1, d, hS1, hE1, s1, rv, h1⟩ =>
    (bndS hS1 hE1 h1).mono fun x H2 ⟨μ2, S2, d2, hS2, hE2, s2, rx, h2⟩ => (bndS hS2 hE2 h2).mono fun y H3 ⟨μ3, S3, d3, hS3, hE3, s3, ry, h3⟩ => by
      split at h3
      · rename_i S4 e4
        have rx3 := rx.step s3
        have rv3 := (rv.step s2).step s3
        have dict : ∀ (e : dput S3 d2 d3 d = some S4), rSetL x y v H3 (fun H' => D.nx σ H') ∨ rSetD x y v H3 (fun H' => D.nx σ H') := fun e => by
          obtain ⟨a, H', ex, g, hS4, s4⟩ := dput_rep hS3 rx3 ry rv3 e
          exact .inr ⟨a, H', ex, g, h3 μ3 σ H' hS4 (hE3.step s4) s4⟩
        unfold putD at e4
        split at e4
        · split at e4
          · rename_i xs e5
            split at e4
            · rename_i j e6
              cases e4
              cases rx3 with
              | ref hl =>
                cases ry
                obtain ⟨vs, e7, rr⟩ := hS3.at' e5 hl
                refine .inl ⟨_, vs, _, j, rfl, rfl, e7, by rw [rr.1]; exact e6, ?_⟩
                exact h3 μ3 σ _ (hS3.put hl ⟨_, upd_same, (rr.set rv3 j).step (step_put hS3 hl _)⟩) (hE3.step (step_put hS3 hl _)) (step_put hS3 hl _)
            · cases e4
          · exact dict e4
        · exact dict e4
      · exact h3.elim
/-- a op= e, by the operator's own rule in place -/
theorem sc_aug {i : Nat} {x : Str} {op : Operator} {f : Dv → Dv → Sto → Out Dv} {ti : TIp} (hN : X.N.Nodup) (hi : X.N[i]? = some x) (hx : Loc X.env.scope x) (he : SE X W e re) (ho : PIp X op ti) (hti : Op2 X.K f ti) (hf : X.fn x = true ∨ X.env.scope.names.lookup x = some .local := by first | exact .inl rfl | exact .inr rfl | assumption) :
    SC X W (.AugAssign (.Name x pos') op e pos) (cAug i f re) :=
  PS.imp (ps_aug hN hi hx he ho hf) fun D σ H ⟨μ, ρ, S, hS, hE, h⟩ => by
    unfold cAug eBin eVar at h
    split at h
    · rename_i d hd
      obtain ⟨v, e1, r⟩ := hE.2 i d hd
      refine ⟨v, e1, ?_⟩
      simp only [Out.bind_ok] at h
      cases q : re ρ S with
      | no => rw [q] at h; exact h.elim
      | ex x S1 =>
        rw [q] at h
        exact ⟨μ, ρ, S, hS, hE, by rw [q]; exact fun μ1 H1 cl dd a b c => h μ1 σ H1 cl dd a (hE.step b) b c⟩
      | ok y S1 =>
        rw [q] at h
        refine ⟨μ, ρ, S, hS, hE, ?_⟩
        rw [q]
        intro μ1 H1 yv hS1 s1 ry
        have h1 := h.step s1
        simp only [Out.bind_ok] at h1
        refine hti X.mg (W.at σ) μ1 H1 S1 v yv d y _ hS1 (r.step s1) ry ?_
        cases q2 : f d y S1 with
        | no => rw [q2] at h1; exact h1.elim
        | ex x S2 => rw [q2] at h1; exact fun μ2 H2 cl dd a b c => h1 μ2 σ H2 cl dd a ((hE.step s1).step b) b c
        | ok z S2 =>
          rw [q2] at h1
          exact fun μ2 H2 zv hS2 s2 rz => h1 μ2 _ H2 hS2 (((hE.step s1).step s2).set rz i) s2
    · exact h.elim
def addI (x y : Dv) (S : Sto) : Out Dv := match x, y with
  | .int i, .int j => .ok (.int (i + j)) S
  | _, _ => .no
theorem o_addI {K : PySem.W.Frag} : Op2 K addI (ipI fun i j => i + j) := by
  intro mg Wx μ H S x y d e Q hS rx ry h
  cases rx <;> cases ry <;> first | exact h.elim | exact ⟨_, _, rfl, rfl, h.ok hS (.int _)⟩
end
end PL

namespace PL
open PySem PySem.Spec PyProof.Rows L2

/-! ### what is walked -/
/-- what must stand still while a loop goes -/
inductive Ck where
  | tt | ls (l : Nat) (ds : List Dv) | and (a b : Ck)
def Ck.ok : Ck → Sto → Prop
  | .tt, _ => True
  | .ls l ds, S => S[l]? = some (.lst ds)
  | .and a b, S => a.ok S ∧ b.ok S
abbrev RI := Env → Sto → Out (List Dv × Ck)
/-- an iterator that yields the items, as long as what it walks stands -/
def ItR (K : PySem.W.Frag) (μ : List Addr) (H : Hp) (J : It) (w : List Dv × Ck) : Prop :=
  ∀ (μ' : List Addr) (S' : Sto) (H' : Hp) (i : Nat), Step μ H μ' H' → SimS K μ' S' H' → w.2.ok S' →
    (i = w.1.length → J.stop i H') ∧ ∀ d, w.1[i]? = some d → J.go i H' ∧ ∀ x H'', J.yld i H' x H'' → Step μ' H' μ' H'' ∧ SimS K μ' S' H'' ∧ Rep K μ' H'' x d
def tI (K : PySem.W.Frag) (mg : Str → Option Value) (W : WX) (r : RI) : TI := fun σ H R => ∃ μ ρ S, SimS K μ S H ∧ SimE K μ H ρ σ ∧
  match r ρ S with
  | .ok w S1 => ∀ μ1 H1 J, SimS K μ1 S1 H1 → Step μ H μ1 H1 → ItR K μ1 H1 J w → R J H1
  | .ex x S1 => ∀ μ1 H1 cls dd, SimS K μ1 S1 H1 → Step μ H μ1 H1 → XRep K mg μ1 H1 x cls dd → W cls dd σ H1
  | .no => False
abbrev SI (X : Cx) (W : WX) (tg iter : Expr) (r : RI) : Prop := PI X tg iter (tI X.K X.mg W r)
theorem PI.imp {X : Cx} {tg e : Expr} {t t' : TI} (h : PI X tg e t) (i : ∀ σ H Q, t' σ H Q → t σ H Q) : PI X tg e t' := ⟨fun pins s σ H Q I w => h.run pins s σ H Q I (i σ H Q w)⟩
theorem PI.or {X : Cx} {tg e : Expr} {t t' : TI} (h : PI X tg e t) (h' : PI X tg e t') : PI X tg e (fun σ H Q => t σ H Q ∨ t' σ H Q) :=
  ⟨fun pins s σ H Q I w => w.elim (h.run pins s σ H Q I) (h'.run pins s σ H Q I)⟩
def ckOf : Dv → List Dv → Ck
  | .ref l, ds => .ls l ds
  | _, _ => .tt
def chars (x : Str) : List Dv := x.cps.toList.map fun c => .str ⟨#[c]⟩
/-- a list, a tuple, a text -/
def walkD (d : Dv) (S : Sto) : Option (List Dv × Ck) := match d with
  | .str x => some (chars x, .tt)
  | _ => (seqOf S d).map fun ds => (ds, ckOf d ds)
def iSeq (e : RE) : RI := fun ρ S => (e ρ S).bind fun d S1 => match walkD d S1 with
  | some w => .ok w S1
  | none => .no
def rangeL (lo hi : Int) : List Dv := (List.range (hi - lo).toNat).map fun (i : Nat) => .int (lo + i)
noncomputable def rok (i : Int) : Bool := @decide (-(2 ^ 62) ≤ i ∧ i < 2 ^ 62) (Classical.propDecidable _)
noncomputable def rng1 : List Dv → Option (List Dv)
  | [.int j] => if rok j = true then some (rangeL 0 j) else none
  | _ => none
noncomputable def rng2 : List Dv → Option (List Dv)
  | [.int i, .int j] => if rok i = true ∧ rok j = true then some (rangeL i j) else none
  | _ => none
def downL (hi lo : Int) : List Dv := (List.range (hi - lo).toNat).map fun (i : Nat) => .int (hi - i)
noncomputable def rng3 : List Dv → Option (List Dv)
  | [.int i, .int j, .int c] => if rok i = true ∧ rok j = true ∧ c = -1 then some (downL i j) else none
  | _ => none
def iRange (f : List Dv → Option (List Dv)) (a : RA) : RI := fun ρ S => (a ρ S).bind fun ds S1 => match f ds with
  | some w => .ok (w, .tt) S1
  | none => .no
section
variable {K : PySem.W.Frag} {mg : Str → Option Value} {W : WX} {μ μ1 : List Addr} {H H1 : Hp} {S S1 : Sto} {σ : L2.St} {ρ : Env}
theorem itr_tup {a : Addr} {vs : List V} {ds : List Dv} (h : ∀ μ' H', Step μ H μ' H' → SqT K H' a vs) (r : Reps K μ H vs ds) : ItR K μ H (Itt K a) (ds, .tt) := by
  intro μ' S' H' i st hS _
  have q := h μ' H' st
  refine ⟨fun e => ⟨vs, q, by rw [r.1]; exact Nat.le_of_eq e.symm⟩, fun d hd => ?_⟩
  obtain ⟨v, hv, rv⟩ := r.get hd
  refine ⟨⟨vs, v, q, hv⟩, fun x H'' y => ?_⟩
  obtain ⟨rfl, y⟩ := y
  have := y vs q
  rw [hv] at this; cases this
  exact ⟨.refl .., hS, rv.step st⟩
theorem sqT_keep {v : V} {d : Dv} {ds : List Dv} (r : Rep K μ H v d) (e : tupOf d = some ds) : ∃ a vs, v = .ref a ∧ Reps K μ H vs ds ∧ SqT K H a vs ∧ ∀ μ' H', Step μ H μ' H' → SqT K H' a vs := by
  cases r with
  | tup t l q => simp only [tupOf, Option.some.injEq] at e; subst e; exact ⟨_, _, rfl, ⟨l, q⟩, .of t.1, fun μ' H' s => .of (t.step s).1⟩
  | kt t l q => simp only [tupOf, Option.some.injEq] at e; subst e; exact ⟨_, _, rfl, ⟨l, q⟩, .inr t, fun μ' H' s => .inr t⟩
  | _ => simp [tupOf] at e
/-- a list: read-only, or one of the store that stands still -/
theorem itr_list {v : V} {d : Dv} {ds : List Dv} (hS : SimS K μ S H) (r : Rep K μ H v d) (e : lstOf S d = some ds) :
    ∃ a vs, v = .ref a ∧ SqL K H a vs ∧ ∀ μ' S' H', Step μ H μ' H' → SimS K μ' S' H' → (ckOf d ds).ok S' → ∃ ws, SqL K H' a ws ∧ Reps K μ' H' ws ds := by
  cases r with
  | fl t l q =>
    simp only [lstOf, Option.some.injEq] at e; subst e
    have k : ∀ {H' : Hp} {μ' : List Addr} {a : Addr} {vs : List V}, LisAt K μ' H' a vs → SqL K H' a vs := fun t => by
      rcases t with ⟨⟨o, t⟩, _⟩ | t
      · exact .inl (.inr ⟨o, t⟩)
      · exact .inr t
    exact ⟨_, _, rfl, k t, fun μ' S' H' st _ _ => ⟨_, k (t.step st), Reps.step st ⟨l, q⟩⟩⟩
  | @ref l a hl =>
    have e0 := e
    simp only [lstOf] at e
    split at e
    · rename_i es hs
      cases e
      obtain ⟨vs, e1, rr⟩ := hS.at' hs hl
      refine ⟨a, vs, rfl, .of e1, fun μ' S' H' st hS' ck => ?_⟩
      obtain ⟨ws, e2, r2⟩ := hS'.at' ck (st.get hl)
      exact ⟨ws, .of e2, r2⟩
    · cases e
  | _ => simp [lstOf] at e
theorem itr_of_list {a : Addr} {w : List Dv × Ck} (h : ∀ μ' S' H', Step μ H μ' H' → SimS K μ' S' H' → w.2.ok S' → ∃ ws, SqL K H' a ws ∧ Reps K μ' H' ws w.1) : ItR K μ H (Itl K a) w := by
  intro μ' S' H' i st hS ck
  obtain ⟨ws, q, r⟩ := h μ' S' H' st hS ck
  refine ⟨fun e => ⟨ws, q, by rw [r.1]; exact Nat.le_of_eq e.symm⟩, fun d hd => ?_⟩
  obtain ⟨v, hv, rv⟩ := r.get hd
  refine ⟨⟨ws, v, q, hv⟩, fun x H'' y => ?_⟩
  obtain ⟨rfl, y⟩ := y
  have := y ws q
  rw [hv] at this; cases this
  exact ⟨.refl .., hS, rv⟩
theorem itr_range {lo hi : Int} : ItR K μ H (Itr lo (hi - lo).toNat) (rangeL lo hi, .tt) := by
  intro μ' S' H' i st hS _
  refine ⟨fun e => by have : i = (hi - lo).toNat := by rw [e]; simp [rangeL]
                      exact Nat.le_of_eq this.symm, fun d hd => ?_⟩
  have hi' := (List.getElem?_eq_some_iff.mp hd).1
  simp only [rangeL, List.length_map, List.length_range] at hi'
  refine ⟨hi', fun x H'' y => ?_⟩
  obtain ⟨rfl, rfl⟩ := y
  simp only [rangeL, List.getElem?_map, List.getElem?_range hi', Option.map_some, Option.some.injEq] at hd
  subst hd
  exact ⟨.refl .., hS, .int _⟩
theorem itr_str {x : Str} : ItR K μ H (Its x) (chars x, .tt) := by
  intro μ' S' H' i st hS _
  have hl : (chars x).length = x.cps.size := by simp [chars]
  refine ⟨fun e => Nat.le_of_eq (hl.symm.trans e.symm), fun d hd => ?_⟩
  have hi := (List.getElem?_eq_some_iff.mp hd).1
  refine ⟨(show i < x.cps.size by rw [← hl]; exact hi), fun v H'' y => ?_⟩
  obtain ⟨rfl, c, hc, rfl⟩ := y
  have hd' : (chars x)[i]? = some d := hd
  simp only [chars, List.getElem?_map, Array.getElem?_toList, hc, Option.map_some, Option.some.injEq] at hd'
  subst hd'
  exact ⟨.refl .., hS, .str _⟩
end
section
variable {X : Cx} {W : WX} {tg e : Expr} {re : RE} {ra : RA} {p pos : Pos}
theorem si_seq (he : SE X W e re) : SI X W tg e (iSeq re) :=
  PI.imp (PI.or (pi_list he) (PI.or (pi_tup he) (pi_str he))) fun σ H R ⟨μ, ρ, S, hS, hE, h⟩ => by
    unfold iSeq at h
    cases q : re ρ S with
    | no => rw [q] at h; exact h.elim
    | ex x S1 => rw [q] at h; exact .inl ⟨μ, ρ, S, hS, hE, by rw [q]; exact h⟩
    | ok d S1 =>
      rw [q] at h
      simp only [Out.bind_ok] at h
      cases ew : walkD d S1 with
      | none => rw [ew] at h; exact h.elim
      | some w =>
        rw [ew] at h
        unfold walkD at ew
        split at ew
        · cases ew
          refine .inr (.inr ⟨μ, ρ, S, hS, hE, ?_⟩)
          rw [q]
          intro μ1 H1 v a b r
          cases r
          exact ⟨_, rfl, h μ1 H1 _ a b itr_str⟩
        · rw [Option.map_eq_some_iff] at ew
          obtain ⟨ds, e1, rfl⟩ := ew
          unfold seqOf at e1
          split at e1
          · rename_i es e2
            cases e1
            refine .inr (.inl ⟨μ, ρ, S, hS, hE, ?_⟩)
            rw [q]
            intro μ1 H1 v a b r
            obtain ⟨ad, vs, rfl, rr, hq, kp⟩ := sqT_keep r e2
            have ck : ckOf d ds = .tt := by cases d <;> first | rfl | simp [tupOf] at e2
            rw [ck] at h
            exact ⟨ad, rfl, ⟨vs, hq⟩, h μ1 H1 _ a b (itr_tup kp rr)⟩
          · refine .inl ⟨μ, ρ, S, hS, hE, ?_⟩
            rw [q]
            intro μ1 H1 v a b r
            obtain ⟨ad, vs, rfl, hq, kp⟩ := itr_list a r e1
            exact ⟨ad, rfl, ⟨vs, hq⟩, h μ1 H1 _ a b (itr_of_list kp)⟩
theorem rok_iff {i : Int} : rok i = true ↔ -(2 ^ 62) ≤ i ∧ i < 2 ^ 62 := by unfold rok; exact @decide_eq_true_iff _ (Classical.propDecidable _)
/-- a walk over values -/
theorem iRange_met {K : PySem.W.Frag} {mg : Str → Option Value} {f : List Dv → Option (List Dv)} {σ : L2.St} {H : Hp} {R : It → Hp → Prop} (h : tI K mg W (iRange f ra) σ H R) {Q : List V → Hp → Prop}
    (hq : ∀ μ1 H1 S1 vs ds w, SimS K μ1 S1 H1 → Reps K μ1 H1 vs ds → f ds = some w → (∀ J, ItR K μ1 H1 J (w, .tt) → R J H1) → Q vs H1) : tG (Reps K) K mg W ra σ H Q := by
  obtain ⟨μ, ρ, S, hS, hE, h⟩ := h
  refine ⟨μ, ρ, S, hS, hE, ?_⟩
  unfold iRange at h
  cases q : ra ρ S with
  | no => rw [q] at h; exact h.elim
  | ex x S1 => rw [q] at h; exact h
  | ok ds S1 =>
    rw [q] at h
    simp only [Out.bind_ok] at h
    intro μ1 H1 vs a b r
    cases ew : f ds with
    | none => rw [ew] at h; exact h.elim
    | some w => rw [ew] at h; exact hq μ1 H1 S1 vs ds w a r ew fun J hj => h μ1 H1 J a b hj
theorem si_range1 {a : Expr} (hg : Gl X "range") (hm : X.mg "range" = none) (ha : SA X W [a] ra) (hs : starEach [a] X.env = [(false, eval a X.env)] := by rfl) : SI X W tg (.Call (.Name "range" p) [a] [] pos) (iRange rng1 ra) :=
  PI.imp (pi_range1 hg hm ha hs) fun σ H R h => iRange_met h fun μ1 H1 S1 vs ds w a r ew hR => by
    unfold rng1 at ew
    split at ew
    · rename_i j
      obtain ⟨v, rfl, rv⟩ := r.get1
      cases rv
      split at ew
      · rename_i hj
        cases ew
        obtain ⟨h1, h2⟩ := rok_iff.mp hj
        refine ⟨j, rfl, h1, h2, hR _ ?_⟩
        have e : j.toNat = (j - 0).toNat := by rw [Int.sub_zero]
        rw [e]
        exact itr_range
      · cases ew
    · cases ew
theorem si_range2 {a b : Expr} (hg : Gl X "range") (hm : X.mg "range" = none) (ha : SA X W [a, b] ra) (hs : starEach [a, b] X.env = [(false, eval a X.env), (false, eval b X.env)] := by rfl) (hs2 : starEach [b] X.env = [(false, eval b X.env)] := by rfl) :
    SI X W tg (.Call (.Name "range" p) [a, b] [] pos) (iRange rng2 ra) :=
  PI.imp (pi_range2 hg hm ha hs hs2) fun σ H R h => iRange_met h fun μ1 H1 S1 vs ds w a r ew hR => by
    unfold rng2 at ew
    split at ew
    · rename_i i j
      obtain ⟨v, u, rfl, rv, ru⟩ := r.get2
      cases rv; cases ru
      split at ew
      · rename_i hj
        cases ew
        obtain ⟨h1, h2⟩ := rok_iff.mp hj.1
        obtain ⟨h3, h4⟩ := rok_iff.mp hj.2
        exact ⟨i, j, rfl, ⟨h1, h2, h3, h4⟩, hR _ itr_range⟩
      · cases ew
    · cases ew
theorem itr_down {K : PySem.W.Frag} {μ : List Addr} {H : Hp} {lo hi : Int} : ItR K μ H (Itc hi (-1) (hi - lo).toNat) (downL hi lo, .tt) := by
  intro μ' S' H' i st hS _
  have hl : (downL hi lo).length = (hi - lo).toNat := by simp [downL]
  refine ⟨fun e => Nat.le_of_eq (hl.symm.trans e.symm), fun d hd => ?_⟩
  have hi' : i < (hi - lo).toNat := by rw [← hl]; exact (List.getElem?_eq_some_iff.mp hd).1
  refine ⟨hi', fun x H'' y => ?_⟩
  obtain ⟨rfl, rfl⟩ := y
  have hd' : (downL hi lo)[i]? = some d := hd
  simp only [downL, List.getElem?_map, List.getElem?_range hi', Option.map_some, Option.some.injEq] at hd'
  subst hd'
  have e : hi + (i : Nat) * (-1) = hi - (i : Int) := by omega
  rw [e]
  exact ⟨.refl .., hS, .int _⟩
theorem si_range3 {a b c : Expr} (hg : Gl X "range") (hm : X.mg "range" = none) (ha : SA X W [a, b, c] ra)
    (hs : starEach [a, b, c] X.env = (false, eval a X.env) :: starEach [b, c] X.env := by rfl) (hs2 : (backTo pos (starEach [b, c] X.env)).any (·.1) = false := by rfl) : SI X W tg (.Call (.Name "range" p) [a, b, c] [] pos) (iRange rng3 ra) :=
  PI.imp (pi_range3 hg hm ha hs hs2) fun σ H R h => iRange_met h fun μ1 H1 S1 vs ds w a r ew hR => by
    unfold rng3 at ew
    split at ew
    · rename_i i j c
      obtain ⟨v, ws, rfl, rv, r2⟩ := r.uncons
      obtain ⟨u, u2, rfl, ru, ru2⟩ := r2.get2
      cases rv; cases ru; cases ru2
      split at ew
      · rename_i hj
        cases ew
        obtain ⟨h1, h2⟩ := rok_iff.mp hj.1
        obtain ⟨h3, h4⟩ := rok_iff.mp hj.2.1
        rw [hj.2.2]
        exact ⟨i, j, -1, (i - j).toNat, rfl, RgC.neg h1 h2 h3 h4, hR _ itr_down⟩
      · cases ew
    · cases ew
/-- items, by pairs that are made in the turn -/
def enumL (ds : List Dv) (n : Nat := 0) : List Dv := match ds with
  | [] => []
  | d :: r => .tup [.int n, d] :: enumL r (n + 1)
theorem enumL_get : ∀ (ds : List Dv) (n i : Nat), (enumL ds n)[i]? = (ds[i]?).map fun d => .tup [.int ((n + i : Nat) : Int), d]
  | [], n, i => by simp [enumL]
  | d :: r, n, 0 => by simp [enumL]
  | d :: r, n, i + 1 => by
    rw [enumL, List.getElem?_cons_succ, List.getElem?_cons_succ, enumL_get r (n + 1) i]
    have e : n + 1 + i = n + (i + 1) := by omega
    rw [e]
theorem enumL_len : ∀ (ds : List Dv) (n : Nat), (enumL ds n).length = ds.length
  | [], _ => rfl
  | _ :: r, n => by rw [enumL, List.length_cons, List.length_cons, enumL_len r]
theorem itr_enum {K : PySem.W.Frag} {μ : List Addr} {H : Hp} {a : Addr} {ds : List Dv} {ck : Ck} (h : ∀ μ' S' H', Step μ H μ' H' → SimS K μ' S' H' → ck.ok S' → ∃ ws, SqL K H' a ws ∧ Reps K μ' H' ws ds) : ItR K μ H (Ite K a) (enumL ds, ck) := by
  intro μ' S' H' i st hS hck
  obtain ⟨ws, q, r⟩ := h μ' S' H' st hS hck
  refine ⟨fun e => ⟨ws, q, by rw [r.1]; rw [show (enumL ds, ck).1.length = ds.length from enumL_len ds 0] at e; omega⟩, fun d hd => ?_⟩
  have hd' : (enumL ds)[i]? = some d := hd
  rw [enumL_get, Option.map_eq_some_iff] at hd'
  obtain ⟨d', hd', rfl⟩ := hd'
  obtain ⟨v, hv, rv⟩ := r.get hd'
  refine ⟨⟨ws, v, q, hv⟩, fun x H'' y => ?_⟩
  obtain ⟨T, z, rfl, hT, rfl, y⟩ := y
  have := y ws q
  rw [hv] at this; cases this
  have rr : Reps K μ' H' [.int (i : Nat), v] [.int ((0 + i : Nat) : Int), d'] := by
    rw [Nat.zero_add]
    exact (Reps.one rv).cons (.int _)
  exact ⟨step_lay hS hT _, hS.lay hT _, .tup ⟨upd_same, hS.fresh hT⟩ rr.1 (rr.step (step_lay hS hT _)).2⟩
def iEnum (a : RA) : RI := fun ρ S => (a ρ S).bind fun ds S1 => match ds with
  | [d] => match lstOf S1 d with
    | some xs => .ok (enumL xs, ckOf d xs) S1
    | none => .no
  | _ => .no
theorem si_enum {elts : List Expr} {kk : Nat} {tpos : Pos} (hg : Gl X "enumerate") (hm : X.mg "enumerate" = none) (ha : SA X W [e] ra) (hs : starEach [e] X.env = [(false, eval e X.env)] := by rfl) : SI X W (.Tuple elts kk tpos) (.Call (.Name "enumerate" p) [e] [] pos) (iEnum ra) :=
  PI.imp (pi_enum hg hm ha hs) fun σ H R ⟨μ, ρ, S, hS, hE, h⟩ => by
    refine ⟨μ, ρ, S, hS, hE, ?_⟩
    unfold iEnum at h
    cases q : ra ρ S with
    | no => rw [q] at h; exact h.elim
    | ex x S1 => rw [q] at h; exact h
    | ok ds S1 =>
      rw [q] at h
      simp only [Out.bind_ok] at h
      intro μ1 H1 vs a b r
      cases ds with
      | nil => exact h.elim
      | cons d ds =>
        cases ds with
        | cons => exact h.elim
        | nil =>
          obtain ⟨v, rfl, rv⟩ := r.get1
          cases el : lstOf S1 d with
          | none => simp only [el] at h
          | some xs =>
            simp only [el] at h
            obtain ⟨ad, us, rfl, hq, kp⟩ := itr_list a rv el
            exact ⟨ad, us, rfl, hq, h μ1 H1 _ a b (itr_enum kp)⟩
end

/-! ### for, comprehensions, while -/
def loop (ck : Sto → Prop) [∀ S, Decidable (ck S)] (t : Tg) (b : RC) : List Dv → Env → Sto → OutS
  | [], ρ, S => if ck S then .fl (.nx ρ) S else .no
  | d :: ds, ρ, S => if ck S then match t.set d ρ with
    | some ρ1 => match b ρ1 S with
      | .fl (.nx ρ2) S2 => loop ck t b ds ρ2 S2
      | .fl (.ct ρ2) S2 => loop ck t b ds ρ2 S2
      | .fl (.bk ρ2) S2 => .fl (.nx ρ2) S2
      | o => o
    | none => .no else .no
noncomputable instance (c : Ck) (S : Sto) : Decidable (c.ok S) := Classical.propDecidable _
noncomputable def cFor (r : RI) (t : Tg) (b : RC) : RC := fun ρ S => bindS (r ρ S) ρ fun w S1 => loop w.2.ok t b w.1 ρ S1
def wipeE (ρ : Env) : List Nat → Env
  | [] => ρ
  | v :: vs => (wipeE ρ vs).set v none
def compL (ck : Sto → Prop) [∀ S, Decidable (ck S)] (t : Tg) (c : RT) (y : RE) (ρ : Env) : List Dv → List Dv → Sto → Out (List Dv)
  | [], acc, S => if ck S then .ok acc S else .no
  | d :: ds, acc, S => if ck S then match t.set d ρ with
    | some ρ1 => (c ρ1 S).bindN fun k S1 => if k = true then (y ρ1 S1).bindN fun z S2 => if acc.length < sizeLine then compL ck t c y ρ ds (acc ++ [z]) S2 else .no else compL ck t c y ρ ds acc S1
    | none => .no else .no
def cYes : RT := fun _ S => .ok true S
noncomputable def eComp (r : RI) (t : Tg) (c : RT) (y : RE) (vs : List Nat) : RE := fun ρ S => (r ρ S).bind fun w S1 => (compL w.2.ok t c y (wipeE ρ vs) w.1 [] S1).bind newL
def loopW : Nat → RT → RC → RC
  | 0, _, _ => fun _ _ => .no
  | n + 1, c, b => fun ρ S => bindS (c ρ S) ρ fun k S1 => if k = true then match b ρ S1 with
    | .fl (.nx ρ2) S2 => loopW n c b ρ2 S2
    | .fl (.ct ρ2) S2 => loopW n c b ρ2 S2
    | .fl (.bk ρ2) S2 => .fl (.nx ρ2) S2
    | o => o else .fl (.nx ρ) S1
open Classical in
noncomputable def cWhile (c : RT) (b : RC) : RC := fun ρ S => if h : ∃ n, loopW n c b ρ S ≠ .no then loopW h.choose c b ρ S else .no
theorem loopW_mono {c : RT} {b : RC} : ∀ (n m : Nat) (ρ : Env) (S : Sto), n ≤ m → loopW n c b ρ S ≠ .no → loopW m c b ρ S = loopW n c b ρ S
  | 0, _, _, _, _, h => absurd rfl h
  | n + 1, 0, _, _, h, _ => by omega
  | n + 1, m + 1, ρ, S, hl, h => by
    simp only [loopW] at h ⊢
    cases q : c ρ S with
    | no => rfl
    | ex x S1 => rfl
    | ok k S1 =>
      rw [q] at h
      simp only [bindS_ok] at h ⊢
      cases k with
      | false => rfl
      | true =>
        simp only [if_true] at h ⊢
        cases q2 : b ρ S1 with
        | no => rfl
        | ex x ρ2 S2 => rfl
        | fl f S2 =>
          rw [q2] at h
          cases f with
          | nx ρ2 => exact loopW_mono n m ρ2 S2 (by omega) h
          | ct ρ2 => exact loopW_mono n m ρ2 S2 (by omega) h
          | bk ρ2 => rfl
          | rt d => rfl
theorem cWhile_of {c : RT} {b : RC} {ρ : Env} {S : Sto} (n : Nat) (h : loopW n c b ρ S ≠ .no) : cWhile c b ρ S = loopW n c b ρ S := by
  unfold cWhile
  have hx : ∃ n, loopW n c b ρ S ≠ .no := ⟨n, h⟩
  rw [dif_pos hx]
  rcases Nat.le_total n hx.choose with l | l
  · exact loopW_mono _ _ ρ S l h
  · exact (loopW_mono _ _ ρ S l hx.choose_spec).symm
section
variable {X : Cx} {W : WX} {tg iter c elt : Expr} {body : List Stmt} {r : RI} {t : Tg} {b : RC} {rc : RT} {ry : RE} {pos : Pos}
theorem sc_for (hp : PassesOwn (model X.prog X.w) X.A X.env X.xe) (hc : X.calm = true) (hi : SI X W tg iter r) (hg : SG X tg t) (hb : SCs X W body b) (hs : ∀ x, foldedSetIterable iter X.env x = pure x := by intro _; rfl) : SC X W (.For tg iter body [] pos) (cFor r t b) :=
  PS.imp (ps_for hp hc hi hg hb hs) fun D σ H ⟨μ, ρ, S, hS, hE, h⟩ => by
    refine ⟨μ, ρ, S, hS, hE, ?_⟩
    unfold cFor at h
    cases q : r ρ S with
    | no => rw [q] at h; exact h.elim
    | ex x S1 => rw [q] at h; exact fun μ1 H1 cls dd a b c => h μ1 σ H1 cls dd a (hE.step b) b c
    | ok w S1 =>
      rw [q] at h
      intro μ1 H1 J hS1 s1 hJ
      refine ⟨fun i m σ' H' => ∃ μ' ρ' S', SimS X.K μ' S' H' ∧ SimE X.K μ' H' ρ' σ' ∧ Step μ1 H1 μ' H' ∧ m = w.1.length - i ∧ i ≤ w.1.length ∧ MetS X.K X.mg W μ' H' (loop w.2.ok t b (w.1.drop i) ρ' S') D,
        ⟨_, μ1, ρ, S1, hS1, hE.step s1, .refl .., rfl, Nat.zero_le _, by rw [List.drop_zero]; exact h.step s1⟩, ?_⟩
      rintro i m σ' H' ⟨μ', ρ', S', hS', hE', s', rfl, hil, hm⟩
      by_cases hlt : i < w.1.length
      · rw [List.drop_eq_getElem_cons hlt, loop] at hm
        split at hm
        · rename_i hck
          obtain ⟨_, hgo⟩ := hJ μ' S' H' i s' hS' hck
          obtain ⟨go, yl⟩ := hgo w.1[i] (List.getElem?_eq_getElem hlt)
          split at hm
          · rename_i ρ1 e1
            refine .inr ⟨go, fun σ2 H2 => ∃ μ2 ρ2 S2, SimS X.K μ2 S2 H2 ∧ SimE X.K μ2 H2 ρ2 σ2 ∧ Step μ1 H1 μ2 H2 ∧ MetS X.K X.mg W μ2 H2 (loop w.2.ok t b (w.1.drop (i + 1)) ρ2 S2) D,
              fun σ2 H2 ⟨μ2, ρ2, S2, a1, a2, a3, a4⟩ => ⟨_, by omega, μ2, ρ2, S2, a1, a2, a3, rfl, hlt, a4⟩, fun x H2 y => ?_⟩
            obtain ⟨s2, hS2, rx⟩ := yl x H2 y
            refine ⟨μ', ρ', _, ρ1, hE'.step s2, rx, e1, fun σ2 hE2 _ _ => ⟨μ', ρ1, S', hS2, hE2, ?_⟩⟩
            have hm2 := hm
            cases q2 : b ρ1 S' with
            | no => rw [q2] at hm2; exact hm2.elim
            | ex x ρ3 S3 => rw [q2] at hm2; exact fun μ3 σ3 H3 cl dd a1 a2 a3 a4 => hm2 μ3 σ3 H3 cl dd a1 a2 (s2.trans a3) a4
            | fl f S3 =>
              rw [q2] at hm2
              cases f with
              | nx ρ3 => exact fun μ3 σ3 H3 a1 a2 a3 => ⟨μ3, ρ3, S3, a1, a2, s'.trans (s2.trans a3), hm2.step (s2.trans a3)⟩
              | ct ρ3 => exact fun μ3 σ3 H3 a1 a2 a3 => ⟨μ3, ρ3, S3, a1, a2, s'.trans (s2.trans a3), hm2.step (s2.trans a3)⟩
              | bk ρ3 => exact fun μ3 σ3 H3 a1 a2 a3 => hm2 μ3 σ3 H3 a1 a2 (s2.trans a3)
              | rt d => exact fun μ3 v3 H3 a1 a2 a3 => hm2 μ3 v3 H3 a1 (s2.trans a2) a3
          · exact hm.elim
        · exact hm.elim
      · have e : i = w.1.length := by omega
        rw [List.drop_of_length_le (by omega), loop] at hm
        split at hm
        · rename_i hck
          exact .inl ⟨(hJ μ' S' H' i s' hS' hck).1 e, hm μ' σ' H' hS' hE' (.refl ..)⟩
        · exact hm.elim
theorem sc_while (hp : PassesOwn (model X.prog X.w) X.A X.env X.xe) (hc : ST X W c rc) (hb : SCs X W body b) : SC X W (.While c body [] pos) (cWhile rc b) :=
  PS.imp (ps_while hp hc hb) fun D σ H ⟨μ, ρ, S, hS, hE, h⟩ => by
    unfold cWhile at h
    split at h
    · rename_i hx
      refine ⟨fun m σ' H' => ∃ μ' ρ' S', SimS X.K μ' S' H' ∧ SimE X.K μ' H' ρ' σ' ∧ MetS X.K X.mg W μ' H' (loopW m rc b ρ' S') D, ⟨_, μ, ρ, S, hS, hE, h⟩, ?_⟩
      rintro m σ' H' ⟨μ', ρ', S', hS', hE', hm⟩
      cases m with
      | zero => exact hm.elim
      | succ m =>
        simp only [loopW] at hm
        refine (bndS (R1 := RBool) hS' hE' hm).mono fun v H1 ⟨μ1, S1, d, hS1, hE1, s1, rv, h1⟩ => ?_
        cases (show v = d from rv)
        cases v with
        | false => exact h1 μ1 σ' H1 hS1 hE1 (.refl ..)
        | true =>
          simp only [if_true] at h1
          refine ⟨fun σ2 H2 => ∃ μ2 ρ2 S2, SimS X.K μ2 S2 H2 ∧ SimE X.K μ2 H2 ρ2 σ2 ∧ MetS X.K X.mg W μ2 H2 (loopW m rc b ρ2 S2) D, fun σ2 H2 h2 => ⟨m, Nat.lt_succ_self m, h2⟩, μ1, ρ', S1, hS1, hE1, ?_⟩
          cases q2 : b ρ' S1 with
          | no => rw [q2] at h1; exact h1.elim
          | ex x ρ3 S3 => rw [q2] at h1; exact h1
          | fl f S3 =>
            rw [q2] at h1
            cases f with
            | nx ρ3 => exact fun μ3 σ3 H3 a1 a2 a3 => ⟨μ3, ρ3, S3, a1, a2, h1.step a3⟩
            | ct ρ3 => exact fun μ3 σ3 H3 a1 a2 a3 => ⟨μ3, ρ3, S3, a1, a2, h1.step a3⟩
            | bk ρ3 => exact h1
            | rt d => exact h1
    · exact h.elim
end
end PL

namespace PL
open PySem PySem.Spec PyProof.Rows L2

section
variable {K : PySem.W.Frag} {mg : Str → Option Value} {W : WX} {μ μ1 : List Addr} {H H1 : Hp} {S S1 : Sto} {σ : L2.St} {ρ : Env}
theorem wipeE_rep (h : SimE K μ H ρ σ) : ∀ vs : List Nat, SimE K μ H (wipeE ρ vs) (wipe σ vs)
  | [] => h
  | v :: vs => by
    have ih := wipeE_rep h vs
    refine ⟨by simp only [wipeE, wipe, List.length_set]; exact ih.1, fun i d hd => ?_⟩
    simp only [wipeE] at hd
    by_cases hv : v = i
    · subst hv
      have hl : v < (wipeE ρ vs).length := by have := (List.getElem?_eq_some_iff.mp hd).1; simpa using this
      rw [List.getElem?_set_self hl] at hd; cases hd
    · rw [List.getElem?_set_ne hv] at hd
      obtain ⟨u, e1, r1⟩ := ih.2 i d hd
      exact ⟨u, by simp only [wipe]; rw [List.getElem?_set_ne hv]; exact e1, r1⟩
theorem wipe_same {σ σ' : L2.St} (hl : σ'.length = σ.length) : ∀ {vs : List Nat}, (∀ j, j ∉ vs → σ'[j]? = σ[j]?) → wipe σ' vs = wipe σ vs := by
  intro vs h
  refine List.ext_getElem? fun j => ?_
  by_cases hj : j ∈ vs
  · have : ∀ {τ : L2.St} {vs : List Nat}, j ∈ vs → j < τ.length → (wipe τ vs)[j]? = some none := by
      intro τ vs
      induction vs with
      | nil => intro h _; cases h
      | cons v vs ih =>
        intro h hlt
        simp only [wipe]
        by_cases hv : v = j
        · subst hv; rw [List.getElem?_set_self (by rw [wipe_length]; exact hlt)]
        · rw [List.getElem?_set_ne hv]
          rcases List.mem_cons.mp h with e | h
          · exact absurd e.symm hv
          · exact ih h hlt
    by_cases hlt : j < σ.length
    · rw [this hj (by rw [hl]; exact hlt), this hj hlt]
    · rw [List.getElem?_eq_none (by rw [wipe_length, hl]; omega), List.getElem?_eq_none (by rw [wipe_length]; omega)]
  · rw [wipe_out hj, wipe_out hj, h j hj]
end
section
variable {K : PySem.W.Frag} {μ μ' μ1 μ2 : List Addr} {H H' H1 H2 : Hp} {S S' S1 : Sto} {D : Addr} {us ws : List V} {v : V} {d : Dv}
theorem rep_priv (hD : H D = some (.lst us)) (r : Rep K μ H v d) : Rep K μ (upd H D (.lst ws)) v d := by
  induction r with
  | non => exact .non
  | bl b => exact .bl b
  | int i => exact .int i
  | str x => exact .str x
  | ref h => exact .ref h
  | kt h e _ ih => exact .kt h e fun i v d h1 h2 => ih i v d h1 h2
  | tup h e _ ih => exact .tup ⟨by rw [upd_ne (ne_of h.1 hD (by intro z; cases z))]; exact h.1, h.2⟩ e fun i v d h1 h2 => ih i v d h1 h2
  | fl h e _ ih =>
    refine .fl ?_ e fun i v d h1 h2 => ih i v d h1 h2
    rcases h with ⟨⟨o, h⟩, n⟩ | h
    · exact .inl ⟨⟨o, by rw [upd_ne (ne_of h hD (by intro z; cases z))]; exact h⟩, n⟩
    · exact .inr h
theorem reps_priv {vs : List V} {ds : List Dv} (hD : H D = some (.lst us)) (r : Reps K μ H vs ds) : Reps K μ (upd H D (.lst ws)) vs ds := ⟨r.1, fun i v d h1 h2 => rep_priv hD (r.2 i v d h1 h2)⟩
theorem sim_priv (hD : H D = some (.lst us)) (n : D ∉ μ) (h : SimS K μ S H) : SimS K μ S (upd H D (.lst ws)) :=
  ⟨h.len, h.nd, fun l a o e1 e2 => by
    have ne : a ≠ D := fun z => n (z ▸ List.mem_of_getElem? e1)
    have q := h.ob l a o e1 e2
    cases o with
    | lst ds => obtain ⟨vs, g, r⟩ := q; exact ⟨vs, by rw [upd_ne ne]; exact g, reps_priv hD r⟩
    | dk kvs => obtain ⟨vs, g, g2, r⟩ := q; exact ⟨vs, by rw [upd_ne ne]; exact g, g2, reps_priv hD r⟩
    | dt kvs => obtain ⟨vs, g, g2, r⟩ := q; exact ⟨vs, by rw [upd_ne ne]; exact g, g2, reps_priv hD r⟩⟩
theorem step_priv (hD : H1 D = none) (s : Step μ1 H1 μ H) : Step μ1 H1 μ (upd H D (.lst ws)) :=
  ⟨s.pre, fun b o e n => by rw [upd_ne (ne_of_none e hD)]; exact s.keep b o e n, fun b e => by
    by_cases hb : b = D
    · rw [hb, upd_same]; exact fun z => nomatch z
    · rw [upd_ne hb]; exact s.live b e⟩
theorem step_open (hD : H1 D = none) (s : Step μ1 H1 μ H) : Step μ1 H1 (μ ++ [D]) H := by
  refine ⟨?_, s.keep, s.live⟩
  obtain ⟨ν, e, f⟩ := s.pre
  exact ⟨ν ++ [D], by rw [e, List.append_assoc], fun b hb => by
    rcases List.mem_append.mp hb with hb | hb
    · exact f b hb
    · simp at hb; rw [hb]; exact hD⟩
/-- an object of ours comes into the store -/
theorem step_adopt (n : D ∉ μ) (hD : H D = some (.lst us)) : Step μ H μ H := .refl _ _
theorem rep_adopt (hD : H D = some (.lst us)) (r : Rep K μ H v d) : Rep K (μ ++ [D]) H v d := by
  induction r with
  | non => exact .non
  | bl b => exact .bl b
  | int i => exact .int i
  | str x => exact .str x
  | ref h => exact .ref (by rw [List.getElem?_append_left (List.getElem?_eq_some_iff.mp h).1]; exact h)
  | kt h e _ ih => exact .kt h e fun i v d h1 h2 => ih i v d h1 h2
  | tup h e _ ih => exact .tup ⟨h.1, fun z => (List.mem_append.mp z).elim h.2 fun z => by simp at z; exact ne_of h.1 hD (by intro q; cases q) z⟩ e fun i v d h1 h2 => ih i v d h1 h2
  | fl h e _ ih =>
    refine .fl ?_ e fun i v d h1 h2 => ih i v d h1 h2
    rcases h with ⟨⟨o, h⟩, n⟩ | h
    · exact .inl ⟨⟨o, h⟩, fun z => (List.mem_append.mp z).elim n fun z => by simp at z; exact ne_of h hD (by intro q; cases q) z⟩
    · exact .inr h
theorem reps_adopt {vs : List V} {ds : List Dv} (hD : H D = some (.lst us)) (r : Reps K μ H vs ds) : Reps K (μ ++ [D]) H vs ds := ⟨r.1, fun i v d h1 h2 => rep_adopt hD (r.2 i v d h1 h2)⟩
theorem sim_adopt {acc : List Dv} (hD : H D = some (.lst us)) (n : D ∉ μ) (r : Reps K μ H us acc) (h : SimS K μ S H) : SimS K (μ ++ [D]) (S ++ [.lst acc]) H := by
  refine ⟨by simp [h.len], List.nodup_append.mpr ⟨h.nd, by simp, fun a ha b hb => by simp at hb; subst hb; exact fun z => n (z ▸ ha)⟩, fun l a o e1 e2 => ?_⟩
  by_cases hl : l < μ.length
  · rw [List.getElem?_append_left hl] at e1
    rw [List.getElem?_append_left (by rw [← h.len]; exact hl)] at e2
    have q := h.ob l a o e1 e2
    cases o with
    | lst ds => obtain ⟨vs, g, r⟩ := q; exact ⟨vs, g, reps_adopt hD r⟩
    | dk kvs => obtain ⟨vs, g, g2, r⟩ := q; exact ⟨vs, g, g2, reps_adopt hD r⟩
    | dt kvs => obtain ⟨vs, g, g2, r⟩ := q; exact ⟨vs, g, g2, reps_adopt hD r⟩
  · have hl2 : l = μ.length := by have := (List.getElem?_eq_some_iff.mp e1).1; simp at this; omega
    subst hl2
    rw [List.getElem?_append_right (Nat.le_refl _)] at e1
    rw [List.getElem?_append_right (by rw [h.len]; exact Nat.le_refl _), h.len] at e2
    simp at e1 e2
    subst e1; subst e2
    exact ⟨us, hD, reps_adopt hD r⟩
end
section
variable {X : Cx} {W : WX} {tg iter elt : Expr} {ifs : List Expr} {scope : Scope} {own : List (Str × Nat)} {pos spos : Pos} {r : RI} {t : Tg} {rc : RT} {ry : RE}
/-- the reading of a comprehension -/
theorem comp_met {Wb : WX} {σ : L2.St} {H : Hp} {Q : VK} {vs : List Nat} (hown : ∀ i ∈ t.slots, i ∈ vs) (h : tG (Rep X.K) X.K X.mg W (eComp r t rc ry vs) σ H Q) :
    tLc (tI X.K X.mg W r) (tGt X.K t) (tG RBool X.K X.mg Wb rc) (tG (Rep X.K) X.K X.mg Wb ry) vs σ H Q := by
  obtain ⟨μ, ρ, S, hS, hE, h⟩ := h
  refine ⟨μ, ρ, S, hS, hE, ?_⟩
  unfold eComp at h
  cases q : r ρ S with
  | no => rw [q] at h; exact h.elim
  | ex x S1 => rw [q] at h; exact fun μ1 H1 cls dd a b c => h μ1 H1 cls dd a b c
  | ok w S1 =>
    rw [q] at h
    simp only [Out.bind_ok] at h
    intro μ1 H1 J hS1 s1 hJ D hD
    have hE1 := hE.step s1
    refine ⟨fun i m H' => ∃ μ' S' acc us, SimS X.K μ' S' H' ∧ D ∉ μ' ∧ H' D = some (.lst us) ∧ Reps X.K μ' H' us acc ∧ Step μ1 H1 μ' H' ∧ m = w.1.length - i ∧ i ≤ w.1.length ∧
        Met (Rep X.K) X.K X.mg (W.at σ) μ H ((compL w.2.ok t rc ry (wipeE ρ vs) (w.1.drop i) acc S').bind newL) Q,
      ⟨_, μ1, S1, [], [], hS1.lay hD _, hS1.fresh hD, upd_same, .nil, step_lay hS1 hD _, rfl, Nat.zero_le _, by rw [List.drop_zero]; exact h⟩, ?_⟩
    rintro i m H' ⟨μ', S', acc, us, hS', nD, eD, ra, s', rfl, hil, hm⟩
    by_cases hlt : i < w.1.length
    · rw [List.drop_eq_getElem_cons hlt, compL] at hm
      split at hm
      · rename_i hck
        obtain ⟨go, yl⟩ := (hJ μ' S' H' i s' hS' hck).2 w.1[i] (List.getElem?_eq_getElem hlt)
        split at hm
        · rename_i ρ1 e1
          refine .inr ⟨go, fun H5 => ∃ μ5 S5 acc5 us5, SimS X.K μ5 S5 H5 ∧ D ∉ μ5 ∧ H5 D = some (.lst us5) ∧ Reps X.K μ5 H5 us5 acc5 ∧ Step μ1 H1 μ5 H5 ∧
              Met (Rep X.K) X.K X.mg (W.at σ) μ H ((compL w.2.ok t rc ry (wipeE ρ vs) (w.1.drop (i + 1)) acc5 S5).bind newL) Q,
            fun H5 ⟨μ5, S5, acc5, us5, a1, a2, a3, a4, a5, a6⟩ => ⟨_, by omega, μ5, S5, acc5, us5, a1, a2, a3, a4, a5, rfl, hlt, a6⟩, fun x H2 y => ?_⟩
          obtain ⟨s2, hS2, rx⟩ := yl x H2 y
          refine ⟨μ', wipeE ρ vs, _, ρ1, (wipeE_rep (hE1.step s') vs).step s2, rx, e1, fun σ2 hE2 l2 n2 => ⟨?_, μ', ρ1, S', hS2, hE2, ?_⟩⟩
          · have := wipe_same (vs := vs) l2 fun j hj => n2 j fun z => hj (hown j z)
            rw [this]
            refine List.ext_getElem? fun j => ?_
            by_cases hj : j ∈ vs
            · have k : ∀ {τ : L2.St} {vs : List Nat}, j ∈ vs → j < τ.length → (wipe τ vs)[j]? = some none := by
                intro τ vs
                induction vs with
                | nil => intro h _; cases h
                | cons v vs ih =>
                  intro h hlt
                  simp only [wipe]
                  by_cases hv : v = j
                  · subst hv; rw [List.getElem?_set_self (by rw [wipe_length]; exact hlt)]
                  · rw [List.getElem?_set_ne hv]
                    rcases List.mem_cons.mp h with e | h
                    · exact absurd e.symm hv
                    · exact ih h hlt
              by_cases hlt : j < σ.length
              · rw [k hj (by rw [wipe_length]; exact hlt), k hj hlt]
              · rw [List.getElem?_eq_none (by rw [wipe_length, wipe_length]; omega), List.getElem?_eq_none (by rw [wipe_length]; omega)]
            · rw [wipe_out hj]
          · cases q2 : rc ρ1 S' with
            | no => rw [q2] at hm; exact hm.elim
            | ex x S3 => rw [q2] at hm; exact hm.elim
            | ok k S3 =>
              rw [q2] at hm
              simp only [Out.bindN_ok] at hm
              intro μ3 H3 kb hS3 s3 ek
              have ek' : kb = k := ek
              subst ek'
              have nD3 : D ∉ μ3 := s3.nin (s2.keep _ _ eD nD) nD
              have eD3 := s3.keep _ _ (s2.keep _ _ eD nD) nD
              have st3 := (s'.trans s2).trans s3
              cases kb with
              | false => exact ⟨μ3, S3, acc, us, hS3, nD3, eD3, (ra.step s2).step s3, st3, hm⟩
              | true =>
                simp only [if_true] at hm ⊢
                refine ⟨μ3, ρ1, S3, hS3, hE2.step s3, ?_⟩
                cases q3 : ry ρ1 S3 with
                | no => rw [q3] at hm; exact hm.elim
                | ex x S4 => rw [q3] at hm; exact hm.elim
                | ok z S4 =>
                  rw [q3] at hm
                  simp only [Out.bindN_ok] at hm
                  intro μ4 H4 zv hS4 s4 rz
                  have nD4 : D ∉ μ4 := s4.nin eD3 nD3
                  have eD4 := s4.keep _ _ eD3 nD3
                  have ra4 := ((ra.step s2).step s3).step s4
                  split at hm
                  · rename_i hz
                    exact ⟨us, eD4, by rw [ra4.1]; exact hz, μ4, S4, acc ++ [z], us ++ [zv], sim_priv eD4 nD4 hS4, nD4, upd_same, reps_priv eD4 (ra4.append (.one rz)), step_priv hD (st3.trans s4), hm⟩
                  · exact hm.elim
        · exact hm.elim
      · exact hm.elim
    · have e : i = w.1.length := by omega
      rw [List.drop_of_length_le (by omega), compL] at hm
      split at hm
      · rename_i hck
        refine .inl ⟨(hJ μ' S' H' i s' hS' hck).1 e, ?_⟩
        exact hm _ _ _ (sim_adopt eD nD ra hS') (s1.trans (step_open hD s')) (.ref (new_at hS' D))
      · exact hm.elim
abbrev Blk (X : Cx) (scope : Scope) (P : Cx → Prop) : Prop := ∀ (s : Shared) (H : Hp) (C : Addr) (cl : List (Str × Addr)) (fp : List Addr), P (X.blk s H scope (compEnvC scope cl C X.env) fp)
theorem se_comp (hc : X.calm = true) (hN : X.N.Nodup) (hi : SI X W tg iter r) (ok : BlkOk X.N X.env.scope scope own) (hg : Blk X scope fun Y => SG Y tg t) (ht : Blk X scope fun Y => PTs Y ifs (tG RBool X.K X.mg W rc)) (he : Blk X scope fun Y => SE Y W elt ry)
    (hown : ∀ i ∈ t.slots, i ∈ own.map (·.2)) (hs : ∀ x, foldedSetIterable iter X.env x = pure x := by intro _; rfl) : SE X W (.ListComp elt [⟨tg, iter, ifs, 0⟩] scope pos) (eComp r t rc ry (own.map (·.2))) :=
  PE.imp (pe_lc hc hN hi ok hg ht he hs) fun _ _ _ h => comp_met (ry := ry) (Wb := W) hown h
theorem sc_setComp {i : Nat} {y : Str} {py : Pos} (hc : X.calm = true) (hN : X.N.Nodup) (hy : X.N[i]? = some y) (hyl : X.env.scope.names.lookup y = some .local) (hsw : swapsWith (.ListComp elt [⟨tg, iter, ifs, 0⟩] scope pos) (some (.Name y py)) spos.line X.env = pure true)
    (hi : SI X W tg iter r) (ok : BlkOk X.N X.env.scope scope own) (hg : Blk X scope fun Y => SG Y tg t) (ht : Blk X scope fun Y => PTs Y ifs (tG RBool X.K X.mg W rc)) (he : Blk X scope fun Y => SE Y W elt ry)
    (hown : ∀ i ∈ t.slots, i ∈ own.map (·.2)) (hs : ∀ x, foldedSetIterable iter X.env x = pure x := by intro _; rfl) : SC X W (.Assign [.Name y py] (.ListComp elt [⟨tg, iter, ifs, 0⟩] scope pos) spos) (cSet i (eComp r t rc ry (own.map (·.2)))) :=
  PS.imp (ps_setLc hc hN hy hyl hsw hi ok hg ht he hs) fun D σ H ⟨μ, ρ, S, hS, hE, h⟩ => by
    refine comp_met (ry := ry) (Wb := W) hown ?_
    exact (bndS hS hE h).mono fun v H1 ⟨μ1, S1, d, hS1, hE1, s1, rv, h1⟩ => h1 μ1 _ H1 hS1 (hE1.set rv i) (.refl ..)
theorem sts_nil {Y : Cx} : PTs Y [] (tG RBool Y.K Y.mg W cYes) := ⟨fun pins s σ H Q I ⟨μ, ρ, S, hS, hE, h⟩ => pts_nil.run pins s σ H Q I (Met.ok (RP := RBool) h hS rfl)⟩
theorem sts_one {Y : Cx} {c : Expr} (h : ST Y W c rc) : PTs Y [c] (tG RBool Y.K Y.mg W rc) := pts_one h
end

/-! ### defs -/
def runF (c : RC) (m n : Nat) (ds : List Dv) (S : Sto) : Out Dv := if ds.length = n then match c (ds.map some ++ List.replicate (m - n) none) S with
  | .fl (.nx _) S' => .ok .non S'
  | .fl (.rt d) S' => .ok d S'
  | .ex x _ S' => .ex x S'
  | _ => .no else .no
section
variable {P : Program} {w : World} {K : PySem.W.Frag} {mg : Str → Option Value} {base : Heap}
theorem start_rep {μ : List Addr} {H : Hp} {N : List Str} {vs : List V} {ds : List Dv} (r : Reps K μ H vs ds) : SimE K μ H (ds.map some ++ List.replicate (N.length - ds.length) none) (L2.start N vs) := by
  unfold L2.start
  rw [r.1]
  refine ⟨by simp [r.1], fun i d hd => ?_⟩
  by_cases hi : i < ds.length
  · rw [List.getElem?_append_left (by simpa using hi)] at hd
    rw [List.getElem?_append_left (by simpa [r.1] using hi)]
    simp only [List.getElem?_map, Option.map_eq_some_iff] at hd ⊢
    obtain ⟨d', hd', e⟩ := hd
    cases e
    obtain ⟨v, hv, rv⟩ := r.get hd'
    exact ⟨v, ⟨v, hv, rfl⟩, rv⟩
  · rw [List.getElem?_append_right (by simpa using hi)] at hd
    simp only [List.getElem?_replicate] at hd
    split at hd <;> cases hd
theorem def_body {X : Cx} {E : XK} {c : RC} {N : List Str} {n : Nat} {body : List Stmt} (hb : SCs X (fun cl d _ H => E cl d H) body c) {H : Hp} {vs : List V} {Q : VK} (h : spD X.K X.mg (runF c N.length n) n vs H Q E) :
    ∃ t, PSs X body t ∧ t { nx := fun _ H' => Q .non H', rt := Q } (L2.start N vs) H := by
  obtain ⟨μ, S, ds, hn, hS, r, h⟩ := h
  refine ⟨_, hb, μ, _, S, hS, start_rep (N := N) r, ?_⟩
  unfold runF at h
  rw [if_pos hn] at h
  rw [hn]
  cases q : c (ds.map some ++ List.replicate (N.length - n) none) S with
  | no => rw [q] at h; exact h
  | ex x ρ S1 => rw [q] at h; exact fun μ1 σ1 H1 cl dd a b c d => h μ1 H1 cl dd a c d
  | fl f S1 =>
    rw [q] at h
    cases f with
    | nx ρ => exact fun μ1 σ1 H1 a b c => h μ1 H1 .non a c .non
    | rt d => exact fun μ1 v H1 a b c => h μ1 H1 v a b c
    | bk ρ => exact h.elim
    | ct ρ => exact h.elim
/-- THE RULE for a def that lets no exception out -/
theorem fn_mk {x qual : Str} {st : Stmt} {f : Addr} {fd : FuncData} {N ps : List Str} {k : Nat} {c : RC} (F : Fun K x qual st f fd) (S : FnScope N ps (defScope st))
    (hbody : ∀ (cdv : Value) (A : Around) (outer : List PySem.Env) (s : Shared) (H : Hp) (E : XK), Room k (A.deeper (envOfC qual (defScope st) s.heap.objs.size f cdv)) →
      SCs (cxOf CX0 P w K mg base N qual (defScope st) f cdv A outer s H E).nox (fun cl d _ H => E cl d H) (defBody st) c) : FnOk P w K mg base CX0 (k + 1) f fd ps (spD K mg (runF c N.length ps.length) ps.length) :=
  F.ok S (fun vs H Q E ⟨μ, S, ds, hn, hS, r, h⟩ => r.1.trans hn) fun cdv A outer s H vs Q E hr h => def_body (X := (cxOf CX0 P w K mg base N qual (defScope st) f cdv A outer s H E).nox) (hbody cdv A outer s H E hr) h
theorem pas0 {X : Cx} {W : WX} : ∀ σ, PassesAt CX0 X σ (W.at σ) := fun _ _ _ _ _ _ _ h => h.elim
/-- a promise may be said of a greater function -/
theorem fn_more {CX : CXT} {k n : Nat} {f : Addr} {fd : FuncData} {ps : List Str} {F G : List Dv → Sto → Out Dv} (h : FnOk P w K mg base CX k f fd ps (spD K mg F n)) (e : ∀ ds S, G ds S = .no ∨ G ds S = F ds S) : FnOk P w K mg base CX k f fd ps (spD K mg G n) :=
  h.imp fun vs H Q E ⟨μ, S, ds, hn, hS, r, q⟩ => ⟨μ, S, ds, hn, hS, r, by
    rcases e ds S with z | z
    · rw [z] at q; exact q.elim
    · rw [← z]; exact q⟩
end
end PL

namespace PL
open PySem PySem.Spec PyProof.Rows L2
theorem hu65 {A : Around} {k : Nat} (hr : Room k A) : A.units + 65 < cLine := by have := hr.un; omega
theorem fn_zero {P : Program} {w : World} {K : PySem.W.Frag} {mg : Str → Option Value} {base : Heap} {CX : CXT} {k n : Nat} {f : Addr} {fd : FuncData} {ps : List Str} (h : n = ps.length) : FnOk P w K mg base CX k f fd ps (spD K mg (fun _ _ => .no) n) :=
  ⟨fun vs H Q E ⟨μ, S, ds, hn, hS, r, q⟩ => q.elim, fun A outer s H args us vs Q E hr he hb hv ⟨μ, S, ds, hn, hS, r, q⟩ => q.elim⟩
theorem bt_len : bootBuiltins "len" = some (.builtin "len") := by decide +kernel
theorem bt_max : bootBuiltins "max" = some (.builtin "max") := by decide +kernel
theorem bt_min : bootBuiltins "min" = some (.builtin "min") := by decide +kernel
theorem bt_sum : bootBuiltins "sum" = some (.builtin "sum") := by decide +kernel
theorem bt_any : bootBuiltins "any" = some (.builtin "any") := by decide +kernel
theorem bt_abs : bootBuiltins "abs" = some (.builtin "abs") := by decide +kernel
theorem bt_sorted : bootBuiltins "sorted" = some (.builtin "sorted") := by decide +kernel
theorem bt_int : bootBuiltins "int" = some (.type "int") := by decide +kernel
theorem bt_list : bootBuiltins "list" = some (.type "list") := by decide +kernel
theorem bt_tuple : bootBuiltins "tuple" = some (.type "tuple") := by decide +kernel
theorem bt_str : bootBuiltins "str" = some (.type "str") := by decide +kernel
theorem bt_bool : bootBuiltins "bool" = some (.type "bool") := by decide +kernel
theorem bt_dict : bootBuiltins "dict" = some (.type "dict") := by decide +kernel
theorem bt_set : bootBuiltins "set" = some (.type "set") := by decide +kernel
end PL

namespace PL
open PySem PySem.Spec PyProof.Rows L2

/-! ### reckoning with outcomes -/
section
variable {ρ ρ' : Env} {S S' S1 : Sto} {a b c : RE} {x y d e : Dv} {ra rb : RC} {ta tb : RT}
theorem ev_var (i : Nat) : eVar i ρ S = match ρ[i]? with | some (some d) => .ok d S | _ => .no := .trans rfl rfl
theorem ev_con : eCon d ρ S = .ok d S := .trans rfl rfl
theorem ev_bin (f : Dv → Dv → Sto → Out Dv) : eBin f a b ρ S = (a ρ S).bind fun x S1 => (b ρ S1).bind fun y S2 => f x y S2 := .trans rfl rfl
theorem ev_un (f : Dv → Sto → Out Dv) : eUn f a ρ S = (a ρ S).bind f := .trans rfl rfl
theorem ev_anil : aNil ρ S = .ok [] S := .trans rfl rfl
theorem ev_acons (r : RE) (t : RA) : aCons r t ρ S = (r ρ S).bind fun d S1 => (t ρ S1).bind fun ds S2 => .ok (d :: ds) S2 := .trans rfl rfl
theorem ev_call (f : List Dv → Sto → Out Dv) (a : RA) : eCall f a ρ S = (a ρ S).bind f := .trans rfl rfl
theorem ev_tup (a : RA) : eTup a ρ S = (a ρ S).bind fun ds S1 => if ds.length ≤ sizeLine then .ok (.tup ds) S1 else .no := .trans rfl rfl
theorem ev_lst (a : RA) : eLst a ρ S = (a ρ S).bind fun ds S1 => if ds.length ≤ sizeLine then .ok (.ref S1.length) (S1 ++ [.lst ds]) else .no := .trans rfl rfl
theorem ev_not : eNot a ρ S = (a ρ S).bind fun d S1 => match d with | .bl b => .ok (.bl (!b)) S1 | _ => .no := .trans rfl rfl
theorem ev_and : eAnd a b ρ S = (a ρ S).bind fun d S1 => match d with | .bl true => b ρ S1 | .bl false => .ok (.bl false) S1 | _ => .no := .trans rfl rfl
theorem ev_or : eOr a b ρ S = (a ρ S).bind fun d S1 => match d with | .bl true => .ok (.bl true) S1 | .bl false => b ρ S1 | _ => .no := .trans rfl rfl
theorem ev_if : eIf ta a b ρ S = (ta ρ S).bind fun t S1 => if t = true then a ρ S1 else b ρ S1 := .trans rfl rfl
theorem ev_cbl : cBl a ρ S = (a ρ S).bind bTrue := .trans rfl rfl
theorem ev_btrue (b : Bool) : bTrue (.bl b) S = .ok b S := .trans rfl rfl
theorem ev_cand : cAnd ta tb ρ S = (ta ρ S).bind fun t S1 => if t = true then tb ρ S1 else .ok false S1 := .trans rfl rfl
theorem ev_cor : cOr ta tb ρ S = (ta ρ S).bind fun t S1 => if t = true then .ok true S1 else tb ρ S1 := .trans rfl rfl
theorem ev_cnot : cNot ta ρ S = (ta ρ S).bind fun t S1 => .ok (!t) S1 := .trans rfl rfl
theorem ev_sli (l h : RO) : eSli a l h ρ S = (a ρ S).bind fun d S1 => (l ρ S1).bind fun lo S2 => (h ρ S2).bind fun hi S3 => sliD d lo hi S3 := .trans rfl rfl
theorem ev_onone : oNone ρ S = .ok none S := .trans rfl rfl
theorem ev_osome : oSome a ρ S = (a ρ S).bind fun d S1 => match d with | .int i => .ok (some i) S1 | _ => .no := .trans rfl rfl
theorem ev_chain (f g : Dv → Dv → Sto → Out Dv) : eChain f g a b c ρ S = (a ρ S).bind fun x S1 => (b ρ S1).bind fun y S2 => (f x y S2).bind fun z S3 => match z with
  | .bl true => (c ρ S3).bind fun w S4 => g y w S4
  | .bl false => .ok (.bl false) S3
  | _ => .no := .trans rfl rfl
theorem ev_meth (T : String) (f : Dv → List Dv → Sto → Out Dv) (a' : RA) : eMeth T f a a' ρ S = (a ρ S).bind fun d S1 => if tyQ T d S1 = true then (a' ρ S1).bind fun ds S2 => f d ds S2 else .no := .trans rfl rfl
theorem ev_get2 : eGet2 a b c ρ S = (a ρ S).bind fun d S1 => if tyQ "dict" d S1 = true then (b ρ S1).bind fun y S2 => (c ρ S2).bind fun z S3 => getD2 d [y, z] S3 else .no := .trans rfl rfl
theorem ev_newK : eNewK ρ S = .ok (.ref S.length) (S ++ [.dk []]) := .trans rfl rfl
theorem ev_newT : eNewT ρ S = .ok (.ref S.length) (S ++ [.dt []]) := .trans rfl rfl
theorem ev_own (n : Nat) (F : List Dv → Sto → Out Dv) (a : RA) : eOwn n F a ρ S = (a ρ S).bind fun ds S1 => if ds.length = n then F ds S1 else .no := .trans rfl rfl
theorem ev_nil : cNil ρ S = .fl (.nx ρ) S := .trans rfl rfl
theorem ev_seq : cSeq ra rb ρ S = match ra ρ S with | .fl (.nx ρ') S' => rb ρ' S' | o => o := .trans rfl rfl
theorem ev_expr : cExpr a ρ S = bindS (a ρ S) ρ fun _ S1 => .fl (.nx ρ) S1 := .trans rfl rfl
theorem ev_set (i : Nat) : cSet i a ρ S = bindS (a ρ S) ρ fun d S1 => .fl (.nx (ρ.set i (some d))) S1 := .trans rfl rfl
theorem ev_ret : cRet a ρ S = bindS (a ρ S) ρ fun d S1 => .fl (.rt d) S1 := .trans rfl rfl
theorem ev_retN : cRetN ρ S = .fl (.rt .non) S := .trans rfl rfl
theorem ev_cif : cIf ta ra rb ρ S = bindS (ta ρ S) ρ fun c S1 => if c = true then ra ρ S1 else rb ρ S1 := .trans rfl rfl
theorem ev_brk : cBrk ρ S = .fl (.bk ρ) S := .trans rfl rfl
theorem ev_ct : cCt ρ S = .fl (.ct ρ) S := .trans rfl rfl
theorem ev_asg (t : Tg) : cAsg t a ρ S = bindS (a ρ S) ρ fun d S1 => match t.set d ρ with | some ρ' => .fl (.nx ρ') S1 | none => .no := .trans rfl rfl
theorem ev_put : cPut a b c ρ S = bindS (c ρ S) ρ fun d S1 => bindS (a ρ S1) ρ fun x S2 => bindS (b ρ S2) ρ fun y S3 => match putD x y d S3 with | some S4 => .fl (.nx ρ) S4 | none => .no := .trans rfl rfl
theorem ev_aug (i : Nat) (f : Dv → Dv → Sto → Out Dv) : cAug i f a ρ S = bindS (eBin f (eVar i) a ρ S) ρ fun d S1 => .fl (.nx (ρ.set i (some d))) S1 := .trans rfl rfl
theorem ev_for (r : RI) (t : Tg) : cFor r t ra ρ S = bindS (r ρ S) ρ fun w S1 => loop w.2.ok t ra w.1 ρ S1 := .trans rfl rfl
theorem ev_comp (r : RI) (t : Tg) (c : RT) (y : RE) (vs : List Nat) : eComp r t c y vs ρ S = (r ρ S).bind fun w S1 => (compL w.2.ok t c y (wipeE ρ vs) w.1 [] S1).bind newL := .trans rfl rfl
theorem ev_newL (ds : List Dv) : newL ds S = .ok (.ref S.length) (S ++ [.lst ds]) := .trans rfl rfl
theorem ev_iseq : iSeq a ρ S = (a ρ S).bind fun d S1 => match walkD d S1 with | some w => .ok w S1 | none => .no := .trans rfl rfl
theorem ev_irange (f : List Dv → Option (List Dv)) (a : RA) : iRange f a ρ S = (a ρ S).bind fun ds S1 => match f ds with | some w => .ok (w, .tt) S1 | none => .no := .trans rfl rfl
theorem ev_ienum (a : RA) : iEnum a ρ S = (a ρ S).bind fun ds S1 => match ds with
  | [d] => match lstOf S1 d with
    | some xs => .ok (enumL xs, ckOf d xs) S1
    | none => .no
  | _ => .no := .trans rfl rfl
theorem ev_yes : cYes ρ S = .ok true S := .trans rfl rfl

/-! ### loops by an invariant -/
theorem loop_gen {ck : Sto → Prop} [∀ S, Decidable (ck S)] {t : Tg} {b : RC} (I : Nat → Env → Sto → Prop) (D : OutS → Prop) (ds : List Dv) (n : Nat)
    (hs : ∀ i d ρ S, ds[i]? = some d → I (n + i) ρ S → ck S ∧ ∃ ρ1, t.set d ρ = some ρ1 ∧ ((∃ ρ2 S2, (b ρ1 S = .fl (.nx ρ2) S2 ∨ b ρ1 S = .fl (.ct ρ2) S2) ∧ I (n + i + 1) ρ2 S2) ∨ (∃ ρ2 S2, b ρ1 S = .fl (.bk ρ2) S2 ∧ D (.fl (.nx ρ2) S2)) ∨ (∃ e S2, b ρ1 S = .fl (.rt e) S2 ∧ D (.fl (.rt e) S2))))
    (he : ∀ ρ S, I (n + ds.length) ρ S → ck S ∧ D (.fl (.nx ρ) S)) (ρ : Env) (S : Sto) (h0 : I n ρ S) : D (loop ck t b ds ρ S) := by
  induction ds generalizing n ρ S with
  | nil =>
    obtain ⟨h1, h2⟩ := he ρ S h0
    rw [loop, if_pos h1]; exact h2
  | cons d ds ih =>
    obtain ⟨hc, ρ1, e1, h⟩ := hs 0 d ρ S rfl h0
    have ih2 : ∀ ρ S, I (n + 1) ρ S → D (loop ck t b ds ρ S) := fun ρ S hI => ih (n + 1)
      (fun i d' ρ S hd hI => by
        have := hs (i + 1) d' ρ S (by simpa using hd) (by rw [show n + (i + 1) = n + 1 + i by omega]; exact hI)
        rw [show n + (i + 1) + 1 = n + 1 + i + 1 by omega] at this
        exact this)
      (fun ρ S hI => he ρ S (by rw [List.length_cons, show n + (ds.length + 1) = n + 1 + ds.length by omega]; exact hI)) ρ S hI
    rw [loop, if_pos hc, e1]
    rcases h with ⟨ρ2, S2, h | h, hI⟩ | ⟨ρ2, S2, h, hD⟩ | ⟨e, S2, h, hD⟩
    · simp only [h]; exact ih2 ρ2 S2 hI
    · simp only [h]; exact ih2 ρ2 S2 hI
    · simp only [h]; exact hD
    · simp only [h]; exact hD
/-- a loop that runs to its end -/
theorem loop_all {ck : Sto → Prop} [∀ S, Decidable (ck S)] {t : Tg} {b : RC} (I : Nat → Env → Sto → Prop) (ds : List Dv) {ρ : Env} {S : Sto} (h0 : I 0 ρ S)
    (hs : ∀ i d ρ S, ds[i]? = some d → I i ρ S → ck S ∧ ∃ ρ1, t.set d ρ = some ρ1 ∧ ∃ ρ2 S2, (b ρ1 S = .fl (.nx ρ2) S2 ∨ b ρ1 S = .fl (.ct ρ2) S2) ∧ I (i + 1) ρ2 S2)
    (he : ∀ ρ S, I ds.length ρ S → ck S) : ∃ ρ' S', loop ck t b ds ρ S = .fl (.nx ρ') S' ∧ I ds.length ρ' S' := by
  refine loop_gen (t := t) (b := b) I (fun o => ∃ ρ' S', o = .fl (.nx ρ') S' ∧ I ds.length ρ' S') ds 0 (fun i d ρ S hd hI => ?_) (fun ρ S hI => ?_) ρ S h0
  · rw [Nat.zero_add] at hI ⊢
    obtain ⟨a, ρ1, b, c⟩ := hs i d ρ S hd hI
    exact ⟨a, ρ1, b, .inl c⟩
  · rw [Nat.zero_add] at hI
    exact ⟨he ρ S hI, ρ, S, rfl, hI⟩
theorem comp_gen {ck : Sto → Prop} [∀ S, Decidable (ck S)] {t : Tg} {c : RT} {y : RE} (I : Nat → List Dv → Sto → Prop) (ds : List Dv) (ρ : Env)
    (hs : ∀ i d acc S, ds[i]? = some d → I i acc S → ck S ∧ ∃ ρ1, t.set d ρ = some ρ1 ∧ ∃ k S1, c ρ1 S = .ok k S1 ∧ (k = true → ∃ z S2, y ρ1 S1 = .ok z S2 ∧ acc.length < sizeLine ∧ I (i + 1) (acc ++ [z]) S2) ∧ (k = false → I (i + 1) acc S1))
    (he : ∀ acc S, I ds.length acc S → ck S) {acc : List Dv} {S : Sto} (h0 : I 0 acc S) : ∃ acc' S', compL ck t c y ρ ds acc S = .ok acc' S' ∧ I ds.length acc' S' := by
  suffices H : ∀ (rest : List Dv) (n : Nat) (acc : List Dv) (S : Sto), n + rest.length = ds.length → ds.drop n = rest → I n acc S → ∃ acc' S', compL ck t c y ρ rest acc S = .ok acc' S' ∧ I ds.length acc' S' from H ds 0 acc S (by simp) rfl h0
  intro rest
  induction rest with
  | nil =>
    intro n acc S hn _ hI
    have : n = ds.length := by simpa using hn
    subst this
    rw [compL, if_pos (he acc S hI)]
    exact ⟨_, _, rfl, hI⟩
  | cons d rest ih =>
    intro n acc S hn hd hI
    have hdn : ds[n]? = some d := by
      have : (ds.drop n)[0]? = some d := by rw [hd]; rfl
      simpa using this
    have hd2 : ds.drop (n + 1) = rest := by rw [← List.drop_drop, hd]; rfl
    obtain ⟨hc, ρ1, e1, k, S1, e2, h1, h2⟩ := hs n d acc S hdn hI
    rw [compL, if_pos hc, e1]
    simp only [e2, Out.bindN_ok]
    cases k with
    | true =>
      obtain ⟨z, S2, e3, hl, hI2⟩ := h1 rfl
      simp only [if_true, e3, Out.bindN_ok, if_pos hl]
      exact ih (n + 1) _ S2 (by rw [List.length_cons] at hn; omega) hd2 hI2
    | false => exact ih (n + 1) _ S1 (by rw [List.length_cons] at hn; omega) hd2 (h2 rfl)
end
/-! ### stores -/
/-- what stood stands, but at the places P -/
structure Fr (P : Nat → Prop) (S S' : Sto) : Prop where
  le : S.length ≤ S'.length
  get : ∀ (l : Nat) (o : Ob), S[l]? = some o → ¬ P l → S'[l]? = some o
abbrev Gr (S S' : Sto) : Prop := Fr (fun _ => False) S S'
theorem Fr.refl {P : Nat → Prop} (S : Sto) : Fr P S S := ⟨Nat.le_refl _, fun _ _ h _ => h⟩
theorem Fr.trans {P : Nat → Prop} {S S1 S2 : Sto} (h : Fr P S S1) (t : Fr P S1 S2) : Fr P S S2 := ⟨Nat.le_trans h.le t.le, fun l o e n => t.get l o (h.get l o e n) n⟩
theorem Fr.imp {P P' : Nat → Prop} {S S1 : Sto} (h : Fr P S S1) (i : ∀ l, l < S.length → P l → P' l) : Fr P' S S1 := ⟨h.le, fun l o e n => h.get l o e fun z => n (i l (List.getElem?_eq_some_iff.mp e).1 z)⟩
theorem Gr.any {P : Nat → Prop} {S S1 : Sto} (h : Gr S S1) : Fr P S S1 := h.imp fun _ _ z => z.elim
theorem Gr.at {S S1 : Sto} (h : Gr S S1) {l : Nat} {o : Ob} (e : S[l]? = some o) : S1[l]? = some o := h.get l o e id
theorem gr_app (S T : Sto) : Gr S (S ++ T) := ⟨by simp, fun l o e _ => by rw [List.getElem?_append_left (List.getElem?_eq_some_iff.mp e).1]; exact e⟩
theorem at_new (S : Sto) (o : Ob) : (S ++ [o])[S.length]? = some o := by simp
theorem fr_set (S : Sto) (l : Nat) (o : Ob) : Fr (· = l) S (S.set l o) := ⟨by simp, fun m u e n => by rw [List.getElem?_set_ne (fun z => n z.symm)]; exact e⟩
theorem at_set {S : Sto} {l : Nat} {o u : Ob} (e : S[l]? = some u) : (S.set l o)[l]? = some o := List.getElem?_set_self (List.getElem?_eq_some_iff.mp e).1
theorem lt_of_at {S : Sto} {l : Nat} {u : Ob} (e : S[l]? = some u) : l < S.length := (List.getElem?_eq_some_iff.mp e).1
theorem ne_new {S : Sto} {l : Nat} {u : Ob} (e : S[l]? = some u) : l ≠ S.length := Nat.ne_of_lt (lt_of_at e)
end PL
namespace PL
open PySem PySem.Spec PyProof.Rows L2
theorem fn_def {P : Program} {w : World} {K : PySem.W.Frag} {mg : Str → Option Value} {base : Heap} {x qual : Str} {st : Stmt} {f : Addr} {fd : FuncData} {N ps : List Str} {k m n : Nat} {c : RC} {G : List Dv → Sto → Out Dv} (F : Fun K x qual st f fd) (S : FnScope N ps (defScope st)) (hG : G = runF c m n) (hm : N.length = m) (hn : ps.length = n)
    (hbody : ∀ (cdv : Value) (A : Around) (outer : List PySem.Env) (s : Shared) (H : Hp) (E : XK), Room k (A.deeper (envOfC qual (defScope st) s.heap.objs.size f cdv)) →
      SCs (cxOf CX0 P w K mg base N qual (defScope st) f cdv A outer s H E).nox (fun cl d _ H => E cl d H) (defBody st) c) : FnOk P w K mg base CX0 (k + 1) f fd ps (spD K mg G n) := by
  subst hG hm hn
  exact fn_mk F S hbody
end PL
namespace PL
open PySem PySem.Spec PyProof.Rows L2
section
variable {X : Cx} {W : WX} {tg iter elt : Expr} {ifs : List Expr} {scope : Scope} {own : List (Str × Nat)} {pos spos : Pos} {r : RI} {t : Tg} {rc : RT} {ry : RE} {vs : List Nat}
theorem se_compB (own : List (Str × Nat)) (hc : X.calm = true) (hN : X.N.Nodup) (hi : SI X W tg iter r) (ok : BlkOk X.N X.env.scope scope own) (hg : Blk X scope fun Y => SG Y tg t) (ht : Blk X scope fun Y => PTs Y ifs (tG RBool X.K X.mg W rc)) (he : Blk X scope fun Y => SE Y W elt ry)
    (hv : vs = own.map (·.2)) (hown : ∀ i ∈ t.slots, i ∈ own.map (·.2)) (hs : ∀ x, foldedSetIterable iter X.env x = pure x := by intro _; rfl) : SE X W (.ListComp elt [⟨tg, iter, ifs, 0⟩] scope pos) (eComp r t rc ry vs) := by
  subst hv; exact se_comp hc hN hi ok hg ht he hown hs
theorem sc_setCompB {i : Nat} {y : Str} {py : Pos} (own : List (Str × Nat)) (hc : X.calm = true) (hN : X.N.Nodup) (hy : X.N[i]? = some y) (hyl : X.env.scope.names.lookup y = some .local) (hsw : swapsWith (.ListComp elt [⟨tg, iter, ifs, 0⟩] scope pos) (some (.Name y py)) spos.line X.env = pure true)
    (hi : SI X W tg iter r) (ok : BlkOk X.N X.env.scope scope own) (hg : Blk X scope fun Y => SG Y tg t) (ht : Blk X scope fun Y => PTs Y ifs (tG RBool X.K X.mg W rc)) (he : Blk X scope fun Y => SE Y W elt ry)
    (hv : vs = own.map (·.2)) (hown : ∀ i ∈ t.slots, i ∈ own.map (·.2)) (hs : ∀ x, foldedSetIterable iter X.env x = pure x := by intro _; rfl) : SC X W (.Assign [.Name y py] (.ListComp elt [⟨tg, iter, ifs, 0⟩] scope pos) spos) (cSet i (eComp r t rc ry vs)) := by
  subst hv; exact sc_setComp hc hN hy hyl hsw hi ok hg ht he hown hs
end
end PL
namespace PL
open PySem PySem.Spec PyProof.Rows L2
/-! ### the end -/
theorem walk_law {l : PySem.W.OpenLaw} {q : Program} {loose : List Str} {XP : (Str → Option Value) → Heap → Prop} {YP : World → Heap → Prop} {d : DefRec} {K : Params → PySem.W.Frag} {k : Nat} {x : Str} {G : List Dv → Sto → Out Dv} (hn : l.most = some 63) (hdf : d.params.defaults = []) (hr : Room k callerA)
    (hY : ∀ (w : World) (h : Heap), YP w h → (K w.params).In h)
    (hG : ∀ ns : List Int, ns.length ≤ 63 → ∃ S, G [.fl (ns.map .int)] [] = .ok (.bl true) S)
    (FF : ∀ (w : World) (mg : Str → Option Value) (fa : Addr) (h : Heap), (K w.params).In h → h.Ns mainGlobals mg → mg d.name = some (.ref fa) →
      ∃ fd : FuncData, (∀ (s : Shared) (u : Value), BindsTo s fd ⟨[u], []⟩ [(x, u)]) ∧ ∀ base : Heap, (K w.params).In base → base.Ns mainGlobals mg → FnOk l.prog w (K w.params) mg base CX0 k fa fd [x] (spD (K w.params) mg G 1)) :
    PySem.W.WalkO q loose XP YP l.row.toRowW d [] (fun f vs => PySem.call f vs) := by
  refine L2.walk_of (n := 63) (k := k) (x := x) (CX := fun _ => CX0) (sp := fun w vs H Q _ => ∃ (a : Addr) (ns : List Int), vs = [.ref a] ∧ SqL (K w.params) H a (ns.map V.int) ∧ ns.length ≤ 63 ∧ Only H ∧ ∀ H', Q (.bl true) H') hn (by decide) hdf hr hY ?_ (fun _ _ a ns hl ho hS => ⟨a, ns, rfl, hS, hl, ho, fun _ => rfl⟩) fun _ _ _ _ _ z => z
  intro w mg fa h hK hNs hmg
  obtain ⟨fd, h1, h2⟩ := FF w mg fa h hK hNs hmg
  refine ⟨fd, h1, fun base hb hn => (h2 base hb hn).imp ?_⟩
  rintro vs H Q E ⟨a, ns, rfl, hS, hl, ho, hQ⟩
  obtain ⟨S', e⟩ := hG ns hl
  refine ⟨[], [], [.fl (ns.map .int)], rfl, ⟨rfl, List.nodup_nil, fun l a o z => by simp at z⟩, Reps.one ?_, ?_⟩
  · refine Rep.fl (vs := ns.map V.int) ?_ (by simp) (fun i v d h1 h2 => ?_)
    · rcases hS with h | ⟨o, its, n, h⟩
      · left
        refine ⟨?_, by simp⟩
        rcases h with h | h
        · rcases ho a with z | ⟨o, xs, z⟩
          · rw [z] at h; cases h
          · rw [z] at h; cases h
        · exact h
      · exact .inr ⟨o, its, n, h⟩
    · rw [List.getElem?_map] at h1 h2
      cases q : ns[i]? with
      | none => rw [q] at h1; cases h1
      | some j =>
        rw [q] at h1 h2
        cases h1; cases h2
        exact .int j
  · rw [e]
    intro μ1 H1 v _ _ rv
    cases rv with
    | bl b => exact hQ H1
end PL
namespace PL
open PySem PySem.Spec PyProof.Rows L2
theorem runF_rt {c : RC} {m n : Nat} {ds : List Dv} {S S' : Sto} {d : Dv} {ρ : Env} (hρ : ds.map some ++ List.replicate (m - n) none = ρ) (hn : ds.length = n) (h : c ρ S = .fl (.rt d) S') : runF c m n ds S = .ok d S' := by
  unfold runF
  rw [if_pos hn, hρ, h]
theorem runF_nx {c : RC} {m n : Nat} {ds : List Dv} {S S' : Sto} {ρ ρ' : Env} (hρ : ds.map some ++ List.replicate (m - n) none = ρ) (hn : ds.length = n) (h : c ρ S = .fl (.nx ρ') S') : runF c m n ds S = .ok .non S' := by
  unfold runF
  rw [if_pos hn, hρ, h]
end PL

namespace PL
open PySem PySem.Spec PyProof.Rows L2
section
variable {S S' : Sto} {d x y : Dv} {ds xs : List Dv}
theorem Fr.then {P Q : Nat → Prop} {S S1 S2 : Sto} (g : Fr P S S1) (f : Fr Q S1 S2) (h : ∀ l, Q l → l < S.length → P l) : Fr P S S2 := ⟨Nat.le_trans g.le f.le, fun l o e n => f.get l o (g.get l o e n) fun q => n (h l q (List.getElem?_eq_some_iff.mp e).1)⟩
theorem Gr.new {Q : Nat → Prop} {S S1 S2 : Sto} (g : Gr S S1) (f : Fr Q S1 S2) (h : ∀ l, Q l → S.length ≤ l) : Gr S S2 := Fr.then g f fun l q hl => absurd (h l q) (by omega)
theorem lst_gr (g : Gr S S') (h : lstOf S d = some ds) : lstOf S' d = some ds := by
  cases d with
  | fl => exact h
  | ref l =>
    simp only [lstOf] at h ⊢
    split at h
    · rename_i q; rw [g.at q]; exact h
    · cases h
  | _ => cases h
theorem lst_ref {l : Nat} (h : S[l]? = some (.lst ds)) : lstOf S (.ref l) = some ds := by simp only [lstOf, h]
theorem tup_lst (h : lstOf S d = some ds) : tupOf d = none := by cases d <;> first | rfl | cases h
theorem seq_lst (h : lstOf S d = some ds) : seqOf S d = some ds := by rw [seqOf, tup_lst h, h]
theorem len_seq (h : seqOf S d = some ds) : lenD [d] S = .ok (.int ds.length) S := by
  cases d with
  | str x => cases h
  | _ => simp only [lenD, h]
theorem len_lst (h : lstOf S d = some ds) : lenD [d] S = .ok (.int ds.length) S := len_seq (seq_lst h)
theorem len_ref {l : Nat} (h : S[l]? = some (.lst ds)) : lenD [.ref l] S = .ok (.int ds.length) S := len_lst (lst_ref h)
theorem len_tup : lenD [.tup ds] S = .ok (.int ds.length) S := len_seq rfl
theorem idx_lst (h : lstOf S d = some ds) {i : Int} (e : atI ds i = some x) : idxD d (.int i) S = .ok x S := by
  cases d with
  | str => cases h
  | _ => simp only [idxD, tup_lst h, h, e]
theorem idx_ref {l : Nat} (h : S[l]? = some (.lst ds)) {i : Int} (e : atI ds i = some x) : idxD (.ref l) (.int i) S = .ok x S := idx_lst (lst_ref h) e
theorem idx_tup {i : Int} (e : atI ds i = some x) : idxD (.tup ds) (.int i) S = .ok x S := by simp only [idxD, tupOf, e]
theorem atI_nat {α : Type} {xs : List α} {i : Nat} {a : α} (e : xs[i]? = some a) : atI xs (i : Int) = some a := by
  have h := (List.getElem?_eq_some_iff.mp e).1
  unfold atI ixN
  rw [if_pos (by omega), if_pos (by omega)]
  simpa using e
theorem atI_last {α : Type} {xs : List α} {a : α} : atI (xs ++ [a]) (-1) = some a := by
  unfold atI ixN
  rw [if_neg (by omega), if_pos (by simp; omega)]
  simp only [List.length_append, List.length_cons, List.length_nil, Option.bind_some]
  rw [show (-1 + ((xs.length + (0 + 1) : Nat) : Int)).toNat = xs.length by omega]
  simp
theorem idx_last {l : Nat} (h : S[l]? = some (.lst (xs ++ [x]))) : idxD (.ref l) (.int (-1)) S = .ok x S := idx_ref h atI_last
theorem idx_t0 {a : Dv} : idxD (.tup (a :: ds)) (.int 0) S = .ok a S := idx_tup (atI_nat (i := 0) rfl)
theorem idx_t1 {a b : Dv} : idxD (.tup (a :: b :: ds)) (.int 1) S = .ok b S := idx_tup (atI_nat (i := 1) rfl)
theorem idx_t2 {a b c : Dv} : idxD (.tup (a :: b :: c :: ds)) (.int 2) S = .ok c S := idx_tup (atI_nat (i := 2) rfl)
theorem idx_t3 {a b c e : Dv} : idxD (.tup (a :: b :: c :: e :: ds)) (.int 3) S = .ok e S := idx_tup (atI_nat (i := 3) rfl)
theorem atI_mod {α : Type} {xs : List α} (h : xs ≠ []) (i : Int) : ∃ a, a ∈ xs ∧ atI xs (i % (xs.length : Int)) = some a := by
  have hp : 0 < xs.length := List.length_pos_iff.mpr h
  have h1 := Int.emod_nonneg i (b := (xs.length : Int)) (by omega)
  have h2 := Int.emod_lt_of_pos i (b := (xs.length : Int)) (by omega)
  obtain ⟨j, hj⟩ := Int.eq_ofNat_of_zero_le h1
  have hl : j < xs.length := by omega
  exact ⟨xs[j], List.getElem_mem hl, by rw [hj]; exact atI_nat (List.getElem?_eq_getElem hl)⟩
theorem rangeL_get {lo hi : Int} {i : Nat} (h : (rangeL lo hi)[i]? = some d) : d = .int (lo + i) ∧ lo + i < hi := by
  unfold rangeL at h
  rw [List.getElem?_map] at h
  obtain ⟨j, hj, e⟩ := Option.map_eq_some_iff.mp h
  obtain ⟨hl, e2⟩ := List.getElem?_eq_some_iff.mp hj
  simp at hl e2
  subst e2
  exact ⟨e.symm, by omega⟩
theorem rangeL_len (lo hi : Int) : (rangeL lo hi).length = (hi - lo).toNat := by unfold rangeL; simp
theorem rok_of {i : Int} (h : 0 ≤ i) (h2 : i < 2 ^ 62) : rok i = true := by unfold rok; exact @decide_eq_true _ (Classical.propDecidable _) ⟨by omega, h2⟩
theorem rng1_of {i : Int} (h : 0 ≤ i) (h2 : i < 2 ^ 62) : rng1 [.int i] = some (rangeL 0 i) := by simp only [rng1]; rw [if_pos (rok_of h h2)]
theorem app_ref {l : Nat} (h : S[l]? = some (.lst ds)) (hl : ds.length < sizeLine) : appendD (.ref l) [x] S = .ok .non (S.set l (.lst (ds ++ [x]))) := by simp only [appendD, lmap, h, if_pos hl]
theorem pop_ref {l : Nat} (h : S[l]? = some (.lst (ds ++ [x]))) : popD (.ref l) [] S = .ok x (S.set l (.lst ds)) := by
  simp only [popD, lmap, h]
  simp
theorem tyq_ref {l : Nat} (h : S[l]? = some (.lst ds)) : tyQ "list" (.ref l) S = true := by simp only [tyQ, h]; rfl
theorem list_ref {l : Nat} (h : S[l]? = some (.lst ds)) : listD [.ref l] S = newL ds S := by simp only [listD, seq_lst (lst_ref h)]
theorem tuple_ref {l : Nat} (h : S[l]? = some (.lst ds)) : tupleD [.ref l] S = .ok (.tup ds) S := by simp only [tupleD, lst_ref h]
theorem walk_ref {l : Nat} (h : S[l]? = some (.lst ds)) : walkD (.ref l) S = some (ds, .ls l ds) := by simp only [walkD, seq_lst (lst_ref h)]; rfl
theorem walk_tup : walkD (.tup ds) S = some (ds, .tt) := by simp only [walkD, seqOf, tupOf]; rfl
theorem sline (n : Nat) (h : n ≤ 16777216) : n ≤ sizeLine := h
end

/-! ### the law's draws -/
section
noncomputable def drawsB : RC := cSeq (cSet 4 (eCon (.int 0))) (cSeq (cIf (cBl (eBin gtD (eCall lenD (aCons (eVar 0) (aNil))) (eCon (.int 0)))) (cSet 4 (eBin modD (eBin idxD (eVar 0) (eBin modD (eVar 3) (eCall lenD (aCons (eVar 0) (aNil))))) (eBin powD (eCon (.int 10)) (eCon (.int 18))))) (cNil)) (cExpr (eMeth "list" appendD (eVar 2) (aCons (eBin addD (eVar 4) (eBin mulD (eCon (.int 7919)) (eBin fdivD (eVar 3) (eCall max2D (aCons (eCon (.int 1)) (aCons (eCall lenD (aCons (eVar 0) (aNil))) (aNil))))))) (aNil)))))
noncomputable def drawsC : RC := cSeq (cSet 2 (eLst (aNil))) (cSeq (cFor (iRange rng1 (aCons (eVar 1) (aNil))) (.nm 3) drawsB) (cRet (eVar 2)))
variable {S S' : Sto} {d : Dv}
theorem draws_run {ns : List Int} {n : Nat} (hd : lstOf S d = some (ns.map .int)) (hn : n ≤ 1000) (hl : ns.length ≤ 63) : ∃ (l : Nat) (xs : List Int) (S' : Sto), runF drawsC 5 2 [d, .int n] S = .ok (.ref l) S' ∧ Gr S S' ∧ S.length ≤ l ∧ S'[l]? = some (.lst (xs.map .int)) ∧ xs.length = n ∧ ∀ x ∈ xs, 0 ≤ x ∧ x < 2 ^ 62 := by
  have h10 : CPow 10 18 := ⟨by omega, by omega, by omega⟩
  refine (loop_all (ck := Ck.tt.ok) (t := .nm 3) (b := drawsB) (S := S ++ [.lst []]) (ρ := [some d, some (.int n), some (.ref S.length), none, none])
    (fun i ρ S' => ∃ (v3 v4 : Option Dv) (xs : List Int), ρ = [some d, some (.int n), some (.ref S.length), v3, v4] ∧ Gr S S' ∧ S'[S.length]? = some (.lst (xs.map .int)) ∧ xs.length = i ∧ ∀ x ∈ xs, (0 : Int) ≤ x ∧ x < 2 ^ 62) (rangeL 0 n)
    ⟨none, none, [], rfl, gr_app _ _, at_new _ _, rfl, by simp⟩ ?_ (fun _ _ _ => trivial)).elim fun ρ' ⟨S', e, v3, v4, xs, hρ, g, h1, h2, h3⟩ => ?_
  rotate_left
  · subst hρ
    refine ⟨S.length, xs, S', ?_, g, Nat.le_refl _, h1, by rw [h2, rangeL_len]; omega, h3⟩
    refine runF_rt (ρ := [some d, some (.int n), none, none, none]) rfl rfl ?_
    simp only [drawsC, ev_var, ev_con, ev_bin, ev_un, ev_anil, ev_acons, ev_call, ev_tup, ev_lst, ev_not, ev_and, ev_or, ev_if, ev_cbl, ev_btrue, ev_cand, ev_cor, ev_cnot, ev_sli, ev_onone, ev_osome, ev_chain, ev_meth, ev_get2, ev_newK, ev_newT, ev_own, ev_nil, ev_seq, ev_expr, ev_set, ev_ret, ev_retN, ev_cif, ev_brk, ev_ct, ev_asg, ev_put, ev_aug, ev_for, ev_comp, ev_newL, ev_iseq, ev_irange, ev_ienum, ev_yes, Out.bind_ok, Out.bindN_ok, bindS_ok, Tg.set, Tg.sets, List.getElem?_cons_zero, List.getElem?_cons_succ, List.set_cons_zero, List.set_cons_succ, wipeE, List.length_cons, List.length_nil, Nat.reduceAdd, Nat.reduceLeDiff, Nat.reduceEqDiff, ↓reduceIte, Bool.false_eq_true, decide_eq_true_eq, addD, subD, mulD, fdivD, modD, powD, negD, ltD, leD, gtD, geD, andD, orD, xorD, max2D, min2D, Nat.zero_le, rng1_of (i := (n : Int)) (by omega) (by omega), e]
  · rintro i v ρ S1 hv ⟨v3, v4, xs, rfl, g, h1, h2, h3⟩
    obtain ⟨rfl, hlt⟩ := rangeL_get hv
    refine ⟨trivial, _, rfl, ?_⟩
    have hd1 := lst_gr g hd
    have hlen : (xs.map Dv.int).length < sizeLine := by rw [List.length_map]; unfold sizeLine; omega
    -- what is put in
    have key : ∃ c : Int, 0 ≤ c ∧ c < 10 ^ 18 ∧ (cIf (cBl (eBin gtD (eCall lenD (aCons (eVar 0) (aNil))) (eCon (.int 0)))) (cSet 4 (eBin modD (eBin idxD (eVar 0) (eBin modD (eVar 3) (eCall lenD (aCons (eVar 0) (aNil))))) (eBin powD (eCon (.int 10)) (eCon (.int 18))))) (cNil))
        [some d, some (.int n), some (.ref S.length), some (.int (0 + i)), some (.int 0)] S1 = .fl (.nx [some d, some (.int n), some (.ref S.length), some (.int (0 + i)), some (.int c)]) S1 := by
      by_cases hns : ns = []
      · subst hns
        refine ⟨0, by omega, by omega, ?_⟩
        simp [ev_var, ev_con, ev_bin, ev_un, ev_anil, ev_acons, ev_call, ev_tup, ev_lst, ev_not, ev_and, ev_or, ev_if, ev_cbl, ev_btrue, ev_cand, ev_cor, ev_cnot, ev_sli, ev_onone, ev_osome, ev_chain, ev_meth, ev_get2, ev_newK, ev_newT, ev_own, ev_nil, ev_seq, ev_expr, ev_set, ev_ret, ev_retN, ev_cif, ev_brk, ev_ct, ev_asg, ev_put, ev_aug, ev_for, ev_comp, ev_newL, ev_iseq, ev_irange, ev_ienum, ev_yes, Out.bind_ok, Out.bindN_ok, bindS_ok, Tg.set, Tg.sets, List.getElem?_cons_zero, List.getElem?_cons_succ, List.set_cons_zero, List.set_cons_succ, wipeE, List.length_cons, List.length_nil, Nat.reduceAdd, Nat.reduceLeDiff, Nat.reduceEqDiff, ↓reduceIte, Bool.false_eq_true, decide_eq_true_eq, addD, subD, mulD, fdivD, modD, powD, negD, ltD, leD, gtD, geD, andD, orD, xorD, max2D, min2D, len_lst hd1]
      · have hp : 0 < ns.length := List.length_pos_iff.mpr hns
        obtain ⟨a, _, ha⟩ := atI_mod (xs := ns.map Dv.int) (by simpa using hns) (0 + i)
        obtain ⟨c, rfl⟩ : ∃ c, a = .int c := by
          rename_i hm
          obtain ⟨c, _, e⟩ := List.mem_map.mp hm
          exact ⟨c, e.symm⟩
        refine ⟨c % 10 ^ 18, Int.emod_nonneg _ (by omega), Int.emod_lt_of_pos _ (by omega), ?_⟩
        have hpI : (0 : Int) < ((ns.map Dv.int).length : Int) := by rw [List.length_map]; omega
        simp only [ev_var, ev_con, ev_bin, ev_un, ev_anil, ev_acons, ev_call, ev_tup, ev_lst, ev_not, ev_and, ev_or, ev_if, ev_cbl, ev_btrue, ev_cand, ev_cor, ev_cnot, ev_sli, ev_onone, ev_osome, ev_chain, ev_meth, ev_get2, ev_newK, ev_newT, ev_own, ev_nil, ev_seq, ev_expr, ev_set, ev_ret, ev_retN, ev_cif, ev_brk, ev_ct, ev_asg, ev_put, ev_aug, ev_for, ev_comp, ev_newL, ev_iseq, ev_irange, ev_ienum, ev_yes, Out.bind_ok, Out.bindN_ok, bindS_ok, Tg.set, Tg.sets, List.getElem?_cons_zero, List.getElem?_cons_succ, List.set_cons_zero, List.set_cons_succ, wipeE, List.length_cons, List.length_nil, Nat.reduceAdd, Nat.reduceLeDiff, Nat.reduceEqDiff, ↓reduceIte, Bool.false_eq_true, decide_eq_true_eq, addD, subD, mulD, fdivD, modD, powD, negD, ltD, leD, gtD, geD, andD, orD, xorD, max2D, min2D, len_lst hd1, hpI, idx_lst hd1 ha, h10, Int.reduceToNat, show (0 : Int) < 10 ^ 18 by omega]
    obtain ⟨c, c0, c1, e1⟩ := key
    have hm : (max 1 ((ns.map Dv.int).length : Int)) = max 1 (ns.length : Int) := by rw [List.length_map]
    have hmp : (0 : Int) < max 1 (ns.length : Int) := by omega
    have hlog : (max 1 (ns.length : Int)).natAbs.log2 < 9000 := by
      have h1 := Nat.log2_le_self (max 1 (ns.length : Int)).natAbs
      have h2 : (max 1 (ns.length : Int)).natAbs ≤ 64 := by omega
      omega
    have hq0 : 0 ≤ ((0 : Int) + i) / max 1 (ns.length : Int) := Int.ediv_nonneg (by omega) (by omega)
    have hq1 : ((0 : Int) + i) / max 1 (ns.length : Int) ≤ i := by
      have := Int.ediv_le_self (a := (0 : Int) + i) (max 1 (ns.length : Int)) (by omega)
      omega
    have hmul : CMul 7919 (((0 : Int) + i) / max 1 (ns.length : Int)) := .inl ⟨by omega, by omega⟩
    refine ⟨[some d, some (.int n), some (.ref S.length), some (.int (0 + i)), some (.int c)], S1.set S.length (.lst ((xs ++ [c + 7919 * ((0 + i) / max 1 (ns.length : Int))]).map .int)), .inl ?_, _, _, _, rfl, ?_, at_set h1, by simp [h2], ?_⟩
    · unfold drawsB
      rw [ev_seq]
      simp only [ev_set, ev_con, bindS_ok, List.set_cons_zero, List.set_cons_succ]
      rw [ev_seq, e1]
      simp only [ev_var, ev_con, ev_bin, ev_un, ev_anil, ev_acons, ev_call, ev_tup, ev_lst, ev_not, ev_and, ev_or, ev_if, ev_cbl, ev_btrue, ev_cand, ev_cor, ev_cnot, ev_sli, ev_onone, ev_osome, ev_chain, ev_meth, ev_get2, ev_newK, ev_newT, ev_own, ev_nil, ev_seq, ev_expr, ev_set, ev_ret, ev_retN, ev_cif, ev_brk, ev_ct, ev_asg, ev_put, ev_aug, ev_for, ev_comp, ev_newL, ev_iseq, ev_irange, ev_ienum, ev_yes, Out.bind_ok, Out.bindN_ok, bindS_ok, Tg.set, Tg.sets, List.getElem?_cons_zero, List.getElem?_cons_succ, List.set_cons_zero, List.set_cons_succ, wipeE, List.length_cons, List.length_nil, Nat.reduceAdd, Nat.reduceLeDiff, Nat.reduceEqDiff, ↓reduceIte, Bool.false_eq_true, decide_eq_true_eq, addD, subD, mulD, fdivD, modD, powD, negD, ltD, leD, gtD, geD, andD, orD, xorD, max2D, min2D, len_lst hd1, tyq_ref h1, hm, hmp, hlog, hmul, and_self, app_ref h1 hlen, List.map_append, List.map_cons, List.map_nil]
    · exact g.new (fr_set S1 S.length _) fun l z => by subst z; exact Nat.le_refl _
    · intro x hx
      rcases List.mem_append.mp hx with hx | hx
      · exact h3 x hx
      · rw [List.mem_singleton] at hx; subst hx; constructor <;> omega
end
end PL

namespace PL
open PySem PySem.Spec PyProof.Rows L2
section
variable {S S' : Sto} {d x y : Dv} {ds xs : List Dv}
theorem Fr.at {S S1 : Sto} (h : Fr (fun _ => False) S S1) {l : Nat} {o : Ob} (e : S[l]? = some o) : S1[l]? = some o := h.get l o e id
theorem Fr.any {P : Nat → Prop} {S S1 : Sto} (h : Fr (fun _ => False) S S1) : Fr P S S1 := h.imp fun _ _ z => z.elim
theorem seq_of {a b : RC} {ρ ρ' : Env} {S S' : Sto} (h : a ρ S = .fl (.nx ρ') S') : cSeq a b ρ S = b ρ' S' := by simp only [cSeq, h]
theorem seq_rt {a b : RC} {ρ : Env} {S S' : Sto} {d : Dv} (h : a ρ S = .fl (.rt d) S') : cSeq a b ρ S = .fl (.rt d) S' := by simp only [cSeq, h]
theorem if_t {t : RT} {a b : RC} {ρ : Env} {S S' : Sto} (h : t ρ S = .ok true S') : cIf t a b ρ S = a ρ S' := by simp only [cIf, h, bindS_ok, ↓reduceIte]
theorem if_f {t : RT} {a b : RC} {ρ : Env} {S S' : Sto} (h : t ρ S = .ok false S') : cIf t a b ρ S = b ρ S' := by simp only [cIf, h, bindS_ok, Bool.false_eq_true, ↓reduceIte]
theorem set_of {i : Nat} {e : RE} {ρ : Env} {S S' : Sto} {d : Dv} (h : e ρ S = .ok d S') : cSet i e ρ S = .fl (.nx (ρ.set i (some d))) S' := by simp only [cSet, h, bindS_ok]
theorem expr_of {e : RE} {ρ : Env} {S S' : Sto} {d : Dv} (h : e ρ S = .ok d S') : cExpr e ρ S = .fl (.nx ρ) S' := by simp only [cExpr, h, bindS_ok]
theorem ret_of {e : RE} {ρ : Env} {S S' : Sto} {d : Dv} (h : e ρ S = .ok d S') : cRet e ρ S = .fl (.rt d) S' := by simp only [cRet, h, bindS_ok]
theorem for_of {r : RI} {t : Tg} {b : RC} {ρ : Env} {S S' : Sto} {w : List Dv × Ck} (h : r ρ S = .ok w S') : cFor r t b ρ S = loop w.2.ok t b w.1 ρ S' := by simp only [cFor, h, bindS_ok]
theorem add_int (i j : Int) : addD (.int i) (.int j) S = .ok (.int (i + j)) S := .trans rfl rfl
theorem sub_int (i j : Int) : subD (.int i) (.int j) S = .ok (.int (i - j)) S := .trans rfl rfl
theorem lt_int (i j : Int) : ltD (.int i) (.int j) S = .ok (.bl (decide (i < j))) S := .trans rfl rfl
theorem le_int (i j : Int) : leD (.int i) (.int j) S = .ok (.bl (decide (i ≤ j))) S := .trans rfl rfl
theorem gt_int (i j : Int) : gtD (.int i) (.int j) S = .ok (.bl (decide (j < i))) S := .trans rfl rfl
theorem ge_int (i j : Int) : geD (.int i) (.int j) S = .ok (.bl (decide (j ≤ i))) S := .trans rfl rfl
theorem neg_int (i : Int) : negD (.int i) S = .ok (.int (-i)) S := .trans rfl rfl
theorem and_int (i j : Int) : andD (.int i) (.int j) S = .ok (.int (Builtin.bitAnd i j)) S := .trans rfl rfl
theorem or_int (i j : Int) : orD (.int i) (.int j) S = .ok (.int (Builtin.bitOr i j)) S := .trans rfl rfl
theorem xor_int (i j : Int) : xorD (.int i) (.int j) S = .ok (.int (Builtin.bitXor i j)) S := .trans rfl rfl
theorem max2_int (i j : Int) : max2D [.int i, .int j] S = .ok (.int (max i j)) S := .trans rfl rfl
theorem min2_int (i j : Int) : min2D [.int i, .int j] S = .ok (.int (min i j)) S := .trans rfl rfl
theorem int_bl (b : Bool) : intD [.bl b] S = .ok (.int (if b then 1 else 0)) S := .trans rfl rfl
theorem int_int (b : Int) : intD [.int b] S = .ok (.int b) S := .trans rfl rfl
theorem sli_tup (lo hi : Option Int) : sliD (.tup ds) lo hi S = .ok (.tup (cutD ds lo hi)) S := .trans rfl rfl
theorem beqD (a b : Str) : (a == b) = decide (a = b) := by by_cases h : a = b <;> simp [h]
theorem shp_int (i : Int) : SeqAt.shaped (.int i) = true := by rfl
abbrev Sk (x : Str) : Prop := PyData.strOk x = true
theorem sk_of {x : Str} (h : ∀ c ∈ x.cps.toList, c < 1114112) : Sk x := by
  show x.cps.all (fun c => decide (c < 1114112)) = true
  rw [← Array.all_toList, List.all_eq_true]
  exact fun c hc => decide_eq_true (h c hc)
theorem sk_app {x y : Str} (h : Sk x) (k : Sk y) : Sk (x ++ y) := by
  show (x.cps ++ y.cps).all (fun c => decide (c < 1114112)) = true
  rw [Array.all_append]
  exact Bool.and_eq_true_iff.mpr ⟨h, k⟩
theorem shp_str {x : Str} (h : Sk x) : SeqAt.shaped (.str x) = true := by
  unfold SeqAt.shaped
  simp only [PyData.canLay0, PyData.depth, h, Bool.true_and]; rfl
theorem shp_bl (x : Bool) : SeqAt.shaped (.bool x) = true := by rfl
theorem eq_int (i j : Int) : eqD (.int i) (.int j) S = .ok (.bl (decide (i = j))) S := by
  simp only [eqD, eqq, toP, shp_int, and_self, ↓reduceIte, PyData.eqv]; rfl
theorem ne_int (i j : Int) : neD (.int i) (.int j) S = .ok (.bl (!decide (i = j))) S := by
  simp only [neD, eqq, toP, shp_int, and_self, ↓reduceIte, PyData.eqv]; rfl
theorem eq_str {i j : Str} (hi : Sk i) (hj : Sk j) : eqD (.str i) (.str j) S = .ok (.bl (decide (i = j))) S := by
  simp only [eqD, eqq, toP, shp_str hi, shp_str hj, and_self, ↓reduceIte, PyData.eqv, beqD]
theorem ne_str {i j : Str} (hi : Sk i) (hj : Sk j) : neD (.str i) (.str j) S = .ok (.bl (!decide (i = j))) S := by
  simp only [neD, eqq, toP, shp_str hi, shp_str hj, and_self, ↓reduceIte, PyData.eqv, beqD]
theorem eq_bl (i j : Bool) : eqD (.bl i) (.bl j) S = .ok (.bl (decide (i = j))) S := by
  simp only [eqD, eqq, toP, shp_bl, and_self, ↓reduceIte, PyData.eqv]; cases i <;> cases j <;> rfl
theorem ne_bl (i j : Bool) : neD (.bl i) (.bl j) S = .ok (.bl (!decide (i = j))) S := by
  simp only [neD, eqq, toP, shp_bl, and_self, ↓reduceIte, PyData.eqv]; cases i <;> cases j <;> rfl
theorem toPs_strs (n : Nat) : ∀ ys : List Str, toPs (n + 1) S (ys.map .str) = some (ys.map .str)
  | [] => by simp only [List.map_nil, toPs]
  | y :: ys => by simp only [List.map_cons, toPs, toP, toPs_strs n ys]
/-- a text in a list of texts -/
theorem mem_strs {l : Nat} {ys : List Str} (h : S[l]? = some (.lst (ys.map .str))) (hs : SeqAt.shaped (.list (ys.map .str)) = true) {x : Str} (hx : Sk x) : memq S (.str x) (.ref l) = some (decide (x ∈ ys)) := by
  simp only [memq, tupOf, lst_ref h, toP, toPs_strs 38 ys, shp_str hx, hs, and_self, ↓reduceIte, List.any_map, Option.some.injEq]
  induction ys with
  | nil => rfl
  | cons y ys ih =>
    rw [List.any_cons]
    have : (ys.any ((fun z => z.eqv (PyData.str x)) ∘ PyData.str)) = decide (x ∈ ys) := by
      clear ih h hs
      induction ys with
      | nil => rfl
      | cons z ys ih => rw [List.any_cons, ih]; simp [PyData.eqv, beqD, List.mem_cons, eq_comm]
    rw [this]
    simp [PyData.eqv, beqD, List.mem_cons, eq_comm]
/-- a text in a row of texts -/
theorem mem_tstrs (ys : List Str) (x : Str) : memq S (.str x) (.tup (ys.map .str)) = some (decide (x ∈ ys)) := by
  have h1 : (ys.map Dv.str).all flatD = true := by simp [List.all_map, flatD]
  simp only [memq, tupOf, h1, flatD, and_self, ↓reduceIte, Option.some.injEq]
  clear h1
  induction ys with
  | nil => rfl
  | cons y ys ih => rw [List.map_cons, List.any_cons, ih]; simp [eqF, beqD, List.mem_cons, eq_comm]
theorem strlen_app (a b : Str) : (a ++ b).length = a.length + b.length := by
  show (a.cps ++ b.cps).size = _
  rw [Array.size_append]; rfl
theorem str_app (a b : Str) : (a ++ b).cps.toList = a.cps.toList ++ b.cps.toList := by
  show (a.cps ++ b.cps).toList = _
  rw [Array.toList_append]
theorem strlen_toList (a : Str) : a.cps.toList.length = a.length := by
  show _ = a.cps.size
  rw [Array.length_toList]
theorem add_str {a b : Str} (h : a.length + b.length ≤ sizeLine) : addD (.str a) (.str b) S = .ok (.str (a ++ b)) S := by simp only [addD, h, ↓reduceIte]
theorem idx_smod {x : Str} {n : Int} (hx : (x.length : Int) = n) (h0 : 0 < n) (hl : x.length ≤ sizeLine) (i : Int) : ∃ c ∈ x.cps.toList, idxD (.str x) (.int (i % n)) S = .ok (.str ⟨#[c]⟩) S := by
  obtain ⟨c, hc, e⟩ := atI_mod (xs := x.cps.toList) (by intro z; have := strlen_toList x; rw [z] at this; simp at this; omega) i
  rw [strlen_toList, hx] at e
  exact ⟨c, hc, by simp only [idxD, hl, ↓reduceIte, e]⟩
end

/-! ### the law's names -/
def abc : Str := "abcdefghijklmnopqrstuvwxyz"
def takenW : List Str := ["start", "rule", "row", "mix", "many", "any", "kind", "not", "both", "either", "way", "mark"]
structure NameOk (x : Str) : Prop where
  len : 1 ≤ x.length ∧ x.length ≤ 8
  low : ∀ c ∈ x.cps.toList, c ∈ abc.cps.toList
  free : x ∉ takenW
noncomputable def nameB : RC := cSeq (cSet 5 (eBin addD (eBin addD (eBin fdivD (eVar 0) (eCon (.int 208))) (eBin mulD (eBin mulD (eCon (.int 7)) (eVar 3)) (eVar 3))) (eBin mulD (eBin modD (eBin fdivD (eVar 0) (eCon (.int 5408))) (eCon (.int 26))) (eVar 3)))) (cSet 2 (eBin addD (eVar 2) (eBin idxD (eVar 1) (eBin modD (eVar 5) (eCon (.int 26))))))
noncomputable def nameC : RC := cSeq (cSet 1 (eCon (.str "abcdefghijklmnopqrstuvwxyz"))) (cSeq (cSet 2 (eBin idxD (eVar 1) (eBin modD (eVar 0) (eCon (.int 26))))) (cSeq (cFor (iRange rng1 (aCons (eBin modD (eBin fdivD (eVar 0) (eCon (.int 26))) (eCon (.int 8))) (aNil))) (.nm 3) nameB) (cSeq (cSet 4 (eLst (aCons (eCon (.str "start")) (aCons (eCon (.str "rule")) (aCons (eCon (.str "row")) (aCons (eCon (.str "mix")) (aCons (eCon (.str "many")) (aCons (eCon (.str "any")) (aCons (eCon (.str "kind")) (aCons (eCon (.str "not")) (aCons (eCon (.str "both")) (aCons (eCon (.str "either")) (aCons (eCon (.str "way")) (aCons (eCon (.str "mark")) (aNil))))))))))))))) (cSeq (cIf (cBl (eBin inD (eVar 2) (eVar 4))) (cRet (eBin addD (eVar 2) (eCon (.str "z")))) (cNil)) (cRet (eVar 2))))))
theorem abc_lt : ∀ c ∈ abc.cps.toList, c < 1114112 := by
  have : abc.cps.toList.all (fun c => decide (c < 1114112)) = true := by decide +kernel
  intro c hc
  exact of_decide_eq_true (List.all_eq_true.mp this c hc)
theorem NameOk.sk {x : Str} (h : NameOk x) : Sk x := sk_of fun c hc => abc_lt c (h.low c hc)
theorem log26 : (26 : Int).natAbs.log2 < 9000 := by have := Nat.log2_le_self 26; show Nat.log2 26 < 9000; omega
theorem log_lt {n : Nat} (h : n < 9000) : (n : Int).natAbs.log2 < 9000 := by have := Nat.log2_le_self n; show Nat.log2 n < 9000; omega
theorem fdiv_lit {S : Sto} {i : Int} {n : Nat} (h0 : 0 < n) (h : n < 9000) : fdivD (.int i) (.int (n : Int)) S = .ok (.int (i / n)) S := by
  simp only [fdivD]
  rw [if_pos ⟨by omega, log_lt h⟩]
theorem mod_pos {S : Sto} {i j : Int} (h0 : 0 < j) : modD (.int i) (.int j) S = .ok (.int (i % j)) S := by simp only [modD, h0, ↓reduceIte]
theorem mul_l {S : Sto} {i j : Int} (h : -2 ^ 64 < i ∧ i < 2 ^ 64) : mulD (.int i) (.int j) S = .ok (.int (i * j)) S := by
  simp only [mulD]
  rw [if_pos (show CMul i j from Or.inl h)]
theorem mul_r {S : Sto} {i j : Int} (h : -2 ^ 64 < j ∧ j < 2 ^ 64) : mulD (.int i) (.int j) S = .ok (.int (i * j)) S := by
  simp only [mulD]
  rw [if_pos (show CMul i j from Or.inr h)]
theorem fdiv_sm {S : Sto} {i j : Int} (h0 : 0 < j) (h : j < 9000) : fdivD (.int i) (.int j) S = .ok (.int (i / j)) S := by
  obtain ⟨n, rfl⟩ := Int.eq_ofNat_of_zero_le (Int.le_of_lt h0)
  exact fdiv_lit (by omega) (by omega)
theorem mul_sm {S : Sto} {i j : Int} (h : -10000000 < i) (h2 : i < 10000000) : mulD (.int i) (.int j) S = .ok (.int (i * j)) S := mul_l (by omega)
theorem mul_smr {S : Sto} {i j : Int} (h : -10000000 < j) (h2 : j < 10000000) : mulD (.int i) (.int j) S = .ok (.int (i * j)) S := mul_r (by omega)
theorem name_run {S : Sto} {d : Int} (h0 : 0 ≤ d) : ∃ (x : Str) (S' : Sto), runF nameC 6 1 [.int d] S = .ok (.str x) S' ∧ Gr S S' ∧ NameOk x := by
  have hab : ((abc.length : Nat) : Int) = 26 := by decide
  have habl : abc.length ≤ sizeLine := by show (26 : Nat) ≤ 2 ^ 24; omega
  have fd (n : Nat) (h0 : 0 < n) (h : n < 9000) (i : Int) (S : Sto) := fdiv_lit (S := S) (i := i) h0 h
  obtain ⟨c1, hc1, e1⟩ := idx_smod (S := S) hab (by omega) habl d
  have hm0 := Int.emod_nonneg (d / 26) (b := 8) (by omega)
  have hm1 := Int.emod_lt_of_pos (d / 26) (b := 8) (by omega)
  refine (loop_all (ck := Ck.tt.ok) (t := .nm 3) (b := nameB) (S := S) (ρ := [some (.int d), some (.str abc), some (.str ⟨#[c1]⟩), none, none, none])
    (fun i ρ S' => ∃ (v3 v5 : Option Dv) (x : Str), ρ = [some (.int d), some (.str abc), some (.str x), v3, none, v5] ∧ S' = S ∧ x.length = 1 + i ∧ ∀ c ∈ x.cps.toList, c ∈ abc.cps.toList) (rangeL 0 (d / 26 % 8))
    ⟨none, none, _, rfl, rfl, rfl, by intro c hc; simp at hc; subst hc; exact hc1⟩ ?_ (fun _ _ _ => trivial)).elim fun ρ' ⟨S', e, v3, v5, x, hρ, hS, h1, h2⟩ => ?_
  · rintro i v ρ S1 hv ⟨v3, v5, x, rfl, rfl, h1, h2⟩
    obtain ⟨rfl, hlt⟩ := rangeL_get hv
    refine ⟨trivial, _, rfl, ?_⟩
    have hi : (0 : Int) + i < 8 := by omega
    obtain ⟨c2, hc2, e2⟩ := idx_smod (S := S1) hab (by omega) habl (d / 208 + 7 * (0 + i) * (0 + i) + d / 5408 % 26 * (0 + i))
    have hx : x.length + Str.length ⟨#[c2]⟩ ≤ sizeLine := by
      show x.length + 1 ≤ 2 ^ 24
      omega
    refine ⟨[some (.int d), some (.str abc), some (.str (x ++ ⟨#[c2]⟩)), some (.int (0 + i)), none, some (.int (d / 208 + 7 * (0 + i) * (0 + i) + d / 5408 % 26 * (0 + i)))], S1, .inl ?_, _, _, _, rfl, rfl, ?_, ?_⟩
    · have f1 : fdivD (.int d) (.int 208) S1 = .ok (.int (d / 208)) S1 := fdiv_lit (n := 208) (by omega) (by omega)
      have f2 : fdivD (.int d) (.int 5408) S1 = .ok (.int (d / 5408)) S1 := fdiv_lit (n := 5408) (by omega) (by omega)
      have f3 : mulD (.int 7) (.int (0 + i)) S1 = .ok (.int (7 * (0 + i))) S1 := mul_l (by omega)
      have f4 : mulD (.int (7 * (0 + i))) (.int (0 + i)) S1 = .ok (.int (7 * (0 + i) * (0 + i))) S1 := mul_r (by omega)
      have f5 : mulD (.int (d / 5408 % 26)) (.int (0 + i)) S1 = .ok (.int (d / 5408 % 26 * (0 + i))) S1 := mul_r (by omega)
      have f6 : modD (.int (d / 5408)) (.int 26) S1 = .ok (.int (d / 5408 % 26)) S1 := mod_pos (by omega)
      have f7 : modD (.int (d / 208 + 7 * (0 + i) * (0 + i) + d / 5408 % 26 * (0 + i))) (.int 26) S1 = _ := mod_pos (by omega)
      simp only [nameB, ev_seq, ev_set, ev_bin, ev_var, ev_con, List.getElem?_cons_zero, List.getElem?_cons_succ, List.set_cons_zero, List.set_cons_succ, Out.bind_ok, bindS_ok, f1, f2, f3, f4, f5, f6, f7, addD, e2, hx, ↓reduceIte]
    · rw [strlen_app, h1]; show 1 + i + 1 = _; omega
    · intro c hc
      rw [str_app] at hc
      rcases List.mem_append.mp hc with hc | hc
      · exact h2 c hc
      · simp at hc; subst hc; exact hc2
  · subst hρ hS
    rw [rangeL_len] at h1
    have hlen : x.length ≤ 8 := by omega
    have hsk : Sk x := sk_of fun c hc => abc_lt c (h2 c hc)
    have hin : memq (S' ++ [.lst (takenW.map .str)]) (.str x) (.ref S'.length) = some (decide (x ∈ takenW)) := mem_strs (at_new _ _) (by decide +kernel) hsk
    have g : Gr S' (S' ++ [.lst (takenW.map .str)]) := gr_app _ _
    have f1 : fdivD (.int d) (.int 26) S' = .ok (.int (d / 26)) S' := fdiv_lit (n := 26) (by omega) (by omega)
    have f2 : modD (.int (d / 26)) (.int 8) S' = .ok (.int (d / 26 % 8)) S' := mod_pos (by omega)
    have f3 : modD (.int d) (.int 26) S' = .ok (.int (d % 26)) S' := mod_pos (by omega)
    have r1 := rng1_of hm0 (by omega)
    have s12 : (takenW.map Dv.str).length ≤ sizeLine := by show (12 : Nat) ≤ 2 ^ 24; omega
    have et : ([.str "start", .str "rule", .str "row", .str "mix", .str "many", .str "any", .str "kind", .str "not", .str "both", .str "either", .str "way", .str "mark"] : List Dv) = takenW.map .str := rfl
    have ea : ("abcdefghijklmnopqrstuvwxyz" : Str) = abc := rfl
    by_cases ht : x ∈ takenW
    · have hz : ∀ t ∈ takenW, NameOk (t ++ "z") := by
        have : takenW.all (fun t => decide (1 ≤ (t ++ ("z" : Str)).length ∧ (t ++ ("z" : Str)).length ≤ 8) && (t ++ ("z" : Str)).cps.toList.all (fun c => decide (c ∈ abc.cps.toList)) && decide ((t ++ ("z" : Str)) ∉ takenW)) = true := by decide +kernel
        intro t ht
        have := List.all_eq_true.mp this t ht
        simp only [Bool.and_eq_true, decide_eq_true_eq, List.all_eq_true] at this
        exact ⟨this.1.1, this.1.2, this.2⟩
      have hzl : x.length + Str.length "z" ≤ sizeLine := by show x.length + 1 ≤ 2 ^ 24; omega
      refine ⟨x ++ "z", _, runF_rt (ρ := [some (.int d), none, none, none, none, none]) rfl rfl ?_, g, hz x ht⟩
      simp only [nameC, ev_seq, ev_set, ev_con, ev_bin, ev_var, ev_for, ev_irange, ev_acons, ev_anil, ev_lst, ev_cif, ev_cbl, ev_btrue, ev_ret, List.getElem?_cons_zero, List.getElem?_cons_succ, List.set_cons_zero, List.set_cons_succ, Out.bind_ok, bindS_ok, f1, f2, f3, ea, e1, r1, e, et, s12, inD, hin, ht, decide_true, ↓reduceIte, addD, hzl]
    · refine ⟨x, _, runF_rt (ρ := [some (.int d), none, none, none, none, none]) rfl rfl ?_, g, ⟨⟨by omega, hlen⟩, h2, ht⟩⟩
      simp only [nameC, ev_seq, ev_set, ev_con, ev_bin, ev_var, ev_for, ev_irange, ev_acons, ev_anil, ev_lst, ev_cif, ev_cbl, ev_btrue, ev_ret, ev_nil, List.getElem?_cons_zero, List.getElem?_cons_succ, List.set_cons_zero, List.set_cons_succ, Out.bind_ok, bindS_ok, f1, f2, f3, ea, e1, r1, e, et, s12, inD, hin, ht, decide_false, Bool.false_eq_true, ↓reduceIte]
end PL
namespace PL
open PySem PySem.Spec PyProof.Rows L2
/-! ### a module's constant rows -/
def cV : Value → Option Dv
  | .none => some .non
  | .bool b => some (.bl b)
  | .int i _ => some (.int i)
  | .str x _ => some (.str x)
  | _ => none
def vV : Value → V
  | .bool b => .bl b
  | .int i _ => .int i
  | .str x _ => .str x
  | _ => .non
def Cst (its : List Value) (k : Dv) : Prop := ∃ ds, k = .kt ds ∧ its.map cV = ds.map some ∧ Nat.ble its.length 16777216 = true
theorem cst_rep {K : PySem.W.Frag} {μ : List Addr} {H : Hp} {a : Addr} {od : Option Addr} {its : Array Value} {n : Nat} {sl : Array (Option Value)} {k : Dv} (w : K.lookup a = some ⟨.type "tuple", od, .seq its n, sl⟩) (u : Cst its.toList k) : Rep K μ H (.ref a) k := by
  obtain ⟨ds, rfl, e, hl⟩ := u
  have hlen : its.toList.length = ds.length := by have := congrArg List.length e; simpa using this
  have key : ∀ (xs : List Value) (ds : List Dv), xs.map cV = ds.map some → Vals (xs.map vV) xs ∧ ∀ (i : Nat) (v : V) (d : Dv), (xs.map vV)[i]? = some v → ds[i]? = some d → Rep K μ H v d := by
    intro xs
    induction xs with
    | nil => intro ds e; exact ⟨.nil, fun i v d h => by simp at h⟩
    | cons x xs ih =>
      intro ds e
      cases ds with
      | nil => simp at e
      | cons d ds =>
        simp only [List.map_cons, List.cons.injEq] at e
        obtain ⟨h1, h2⟩ := ih ds e.2
        have hx : L2.RelV (vV x) x ∧ Rep K μ H (vV x) d := by
          have e1 := e.1
          cases x <;> simp only [cV, Option.some.injEq] at e1 <;> first | cases e1 | skip
          · exact ⟨rfl, .non⟩
          · exact ⟨rfl, .bl _⟩
          · exact ⟨⟨_, rfl⟩, .int _⟩
          · exact ⟨⟨_, rfl⟩, .str _⟩
        refine ⟨.cons hx.1 h1, fun i v d' hv hd => ?_⟩
        cases i with
        | zero => simp at hv hd; subst hv; subst hd; exact hx.2
        | succ i => exact h2 i v d' (by simpa using hv) (by simpa using hd)
  obtain ⟨h1, h2⟩ := key _ _ e
  exact .kt ⟨_, its, n, w, rfl, rfl, by have := Nat.le_of_ble_eq_true hl; rw [Array.length_toList] at this; exact this, h1⟩ (by simpa using hlen) h2
theorem rel_str {x : Str} {t : Tok} : L2.RelV (.str x) (.str x t) := ⟨_, rfl⟩
theorem rel_int {x : Int} {t : Tok} : L2.RelV (.int x) (.int x t) := ⟨_, rfl⟩
end PL

/-! the walk of the linked text (printed by gen.py) -/
namespace Wk
open PySem PySem.Spec PyProof.Rows L2 PL
def topS (i : Nat) : Stmt := PySem.Challenge.pw_pathshape_k11_names.main.body.getD i (.Pass ⟨0, 0, 0, 0⟩)
abbrev s_is_name : Stmt := topS 4
abbrev N_is_name : List Str := ["text", "sign"]
abbrev p_is_name : List Str := ["text"]
theorem sc_is_name : FnScope N_is_name p_is_name (defScope s_is_name) := ⟨rfl, rfl, rfl, by decide +kernel, rfl, by decide +kernel, by decide +kernel⟩
abbrev s_l_draws : Stmt := topS 6
abbrev N_l_draws : List Str := ["_law_script", "_law_many", "_law_found", "_law_k", "_law_cell"]
abbrev p_l_draws : List Str := ["_law_script", "_law_many"]
theorem sc_l_draws : FnScope N_l_draws p_l_draws (defScope s_l_draws) := ⟨rfl, rfl, rfl, by decide +kernel, rfl, by decide +kernel, by decide +kernel⟩
abbrev s_l_sign : Stmt := topS 7
abbrev N_l_sign : List Str := ["_law_cell", "_law_way", "_law_letters", "_law_others"]
abbrev p_l_sign : List Str := ["_law_cell", "_law_way"]
theorem sc_l_sign : FnScope N_l_sign p_l_sign (defScope s_l_sign) := ⟨rfl, rfl, rfl, by decide +kernel, rfl, by decide +kernel, by decide +kernel⟩
abbrev s_l_taken : Stmt := topS 8
abbrev N_l_taken : List Str := []
abbrev p_l_taken : List Str := []
theorem sc_l_taken : FnScope N_l_taken p_l_taken (defScope s_l_taken) := ⟨rfl, rfl, rfl, by decide +kernel, rfl, by decide +kernel, by decide +kernel⟩
abbrev s_l_text : Stmt := topS 9
abbrev N_l_text : List Str := ["_law_draws_here", "_law_text_here", "_law_k", "_law_word"]
abbrev p_l_text : List Str := ["_law_draws_here"]
theorem sc_l_text : FnScope N_l_text p_l_text (defScope s_l_text) := ⟨rfl, rfl, rfl, by decide +kernel, rfl, by decide +kernel, by decide +kernel⟩
abbrev s_l_due : Stmt := topS 10
abbrev N_l_due : List Str := ["_law_text_here", "_law_sign_here"]
abbrev p_l_due : List Str := ["_law_text_here"]
theorem sc_l_due : FnScope N_l_due p_l_due (defScope s_l_due) := ⟨rfl, rfl, rfl, by decide +kernel, rfl, by decide +kernel, by decide +kernel⟩
abbrev s_l_law : Stmt := topS 11
abbrev N_l_law : List Str := ["_law_script", "_law_turn", "_law_text_here", "_law_found"]
abbrev p_l_law : List Str := ["_law_script"]
theorem sc_l_law : FnScope N_l_law p_l_law (defScope s_l_law) := ⟨rfl, rfl, rfl, by decide +kernel, rfl, by decide +kernel, by decide +kernel⟩
inductive Fn where
  | is_name | l_draws | l_sign | l_taken | l_text | l_due | l_law
def k_LETTERS : Dv := .str "abcdefghijklmnopqrstuvwxyz"
def k_LONGEST : Dv := .int 8
def k_TAKEN : Dv := .kt [.str "start", .str "rule", .str "row", .str "mix", .str "many", .str "any", .str "kind", .str "not", .str "both", .str "either", .str "way", .str "mark"]
noncomputable def b_is_name_1 (G : Fn → List Dv → Sto → Out Dv) : RC := cIf (cBl (eBin ninD (eVar 1) (eCon k_LETTERS))) (cRet (eCon (.bl false))) (cNil)
noncomputable def c_is_name (G : Fn → List Dv → Sto → Out Dv) : RC := cSeq (cIf (cOr (cNot (cBl (eChain leD leD (eCon (.int 1)) (eCall lenD (aCons (eVar 0) (aNil))) (eCon k_LONGEST)))) (cBl (eBin inD (eVar 0) (eCon k_TAKEN)))) (cRet (eCon (.bl false))) (cNil)) (cSeq (cFor (iSeq (eVar 0)) (.nm 1) (b_is_name_1 G)) (cRet (eCon (.bl true))))
noncomputable def b_l_draws_1 (G : Fn → List Dv → Sto → Out Dv) : RC := cSeq (cSet 4 (eCon (.int 0))) (cSeq (cIf (cBl (eBin gtD (eCall lenD (aCons (eVar 0) (aNil))) (eCon (.int 0)))) (cSet 4 (eBin modD (eBin idxD (eVar 0) (eBin modD (eVar 3) (eCall lenD (aCons (eVar 0) (aNil))))) (eBin powD (eCon (.int 10)) (eCon (.int 18))))) (cNil)) (cExpr (eMeth "list" appendD (eVar 2) (aCons (eBin addD (eVar 4) (eBin mulD (eCon (.int 7919)) (eBin fdivD (eVar 3) (eCall max2D (aCons (eCon (.int 1)) (aCons (eCall lenD (aCons (eVar 0) (aNil))) (aNil))))))) (aNil)))))
noncomputable def c_l_draws (G : Fn → List Dv → Sto → Out Dv) : RC := cSeq (cSet 2 (eLst (aNil))) (cSeq (cFor (iRange rng1 (aCons (eVar 1) (aNil))) (.nm 3) (b_l_draws_1 G)) (cRet (eVar 2)))
noncomputable def c_l_sign (G : Fn → List Dv → Sto → Out Dv) : RC := cSeq (cSet 2 (eCon (.str "abcdefghijklmnopqrstuvwxyz"))) (cSeq (cSet 3 (eCon (.str "0123456789 !\"#$&'()*+,-./:;<=>?@ABCDEFGHIJKLMNOPQRSTUVWXYZ[\\]^_`{|}~"))) (cSeq (cIf (cOr (cBl (eBin eqD (eVar 1) (eCon (.int 0)))) (cBl (eBin ltD (eBin modD (eVar 0) (eCon (.int 5))) (eCon (.int 4))))) (cRet (eBin idxD (eVar 2) (eBin modD (eBin fdivD (eVar 0) (eCon (.int 5))) (eCon (.int 26))))) (cNil)) (cRet (eBin idxD (eVar 3) (eBin modD (eBin fdivD (eVar 0) (eCon (.int 5))) (eCon (.int 68)))))))
noncomputable def c_l_taken (G : Fn → List Dv → Sto → Out Dv) : RC := cRet (eLst (aCons (eCon (.str "start")) (aCons (eCon (.str "rule")) (aCons (eCon (.str "row")) (aCons (eCon (.str "mix")) (aCons (eCon (.str "many")) (aCons (eCon (.str "any")) (aCons (eCon (.str "kind")) (aCons (eCon (.str "not")) (aCons (eCon (.str "both")) (aCons (eCon (.str "either")) (aCons (eCon (.str "way")) (aCons (eCon (.str "mark")) (aNil))))))))))))))
noncomputable def b_l_text_1 (G : Fn → List Dv → Sto → Out Dv) : RC := cSet 1 (eBin addD (eVar 1) (eOwn 2 (G .l_sign) (aCons (eBin idxD (eVar 0) (eBin addD (eCon (.int 2)) (eVar 2))) (aCons (eBin modD (eBin idxD (eVar 0) (eCon (.int 1))) (eCon (.int 2))) (aNil)))))
noncomputable def c_l_text (G : Fn → List Dv → Sto → Out Dv) : RC := cSeq (cIf (cBl (eBin eqD (eBin modD (eBin idxD (eVar 0) (eCon (.int 0))) (eCon (.int 3))) (eCon (.int 2)))) (cSeq (cSet 3 (eBin idxD (eOwn 0 (G .l_taken) aNil) (eBin modD (eBin idxD (eVar 0) (eCon (.int 1))) (eCon (.int 12))))) (cRet (eBin idxD (eLst (aCons (eVar 3) (aCons (eVar 3) (aCons (eBin addD (eVar 3) (eOwn 2 (G .l_sign) (aCons (eBin idxD (eVar 0) (eCon (.int 3))) (aCons (eCon (.int 0)) (aNil))))) (aCons (eSli (eVar 3) (oNone) (oSome (eUn negD (eCon (.int 1))))) (aNil)))))) (eBin modD (eBin idxD (eVar 0) (eCon (.int 2))) (eCon (.int 4)))))) (cNil)) (cSeq (cSet 1 (eCon (.str ""))) (cSeq (cFor (iRange rng1 (aCons (eBin modD (eBin fdivD (eBin idxD (eVar 0) (eCon (.int 0))) (eCon (.int 3))) (eCon (.int 11))) (aNil))) (.nm 2) (b_l_text_1 G)) (cRet (eVar 1))))
noncomputable def b_l_due_1 (G : Fn → List Dv → Sto → Out Dv) : RC := cIf (cBl (eBin ninD (eVar 1) (eCon (.str "abcdefghijklmnopqrstuvwxyz")))) (cRet (eCon (.bl false))) (cNil)
noncomputable def c_l_due (G : Fn → List Dv → Sto → Out Dv) : RC := cSeq (cFor (iSeq (eVar 0)) (.nm 1) (b_l_due_1 G)) (cRet (eAnd (eChain leD leD (eCon (.int 1)) (eCall lenD (aCons (eVar 0) (aNil))) (eCon (.int 8))) (eBin ninD (eVar 0) (eOwn 0 (G .l_taken) aNil))))
noncomputable def b_l_law_1 (G : Fn → List Dv → Sto → Out Dv) : RC := cSeq (cSet 2 (eOwn 1 (G .l_text) (aCons (eOwn 2 (G .l_draws) (aCons (eSli (eVar 0) (oSome (eVar 1)) (oNone)) (aCons (eCon (.int 13)) (aNil)))) (aNil)))) (cSeq (cSet 3 (eOwn 1 (G .is_name) (aCons (eVar 2) (aNil)))) (cIf (cOr (cNot (cBl (eUn (isiD "bool") (eVar 3)))) (cBl (eBin neD (eVar 3) (eOwn 1 (G .l_due) (aCons (eVar 2) (aNil)))))) (cRet (eCon (.bl false))) (cNil)))
noncomputable def c_l_law (G : Fn → List Dv → Sto → Out Dv) : RC := cSeq (cFor (iRange rng1 (aCons (eCon (.int 3)) (aNil))) (.nm 1) (b_l_law_1 G)) (cRet (eCon (.bl true)))
noncomputable def Fs (G : Fn → List Dv → Sto → Out Dv) : Fn → List Dv → Sto → Out Dv
  | .is_name => runF (c_is_name G) 2 1
  | .l_draws => runF (c_l_draws G) 5 2
  | .l_sign => runF (c_l_sign G) 4 2
  | .l_taken => runF (c_l_taken G) 0 0
  | .l_text => runF (c_l_text G) 4 1
  | .l_due => runF (c_l_due G) 2 1
  | .l_law => runF (c_l_law G) 4 1
noncomputable def F : Nat → Fn → List Dv → Sto → Out Dv
  | 0, _ => fun _ _ => .no
  | k + 1, f => Fs (F k) f
theorem F_is_name (k : Nat) : F (k + 1) .is_name = runF (c_is_name (F k)) 2 1 := rfl
theorem F_l_draws (k : Nat) : F (k + 1) .l_draws = runF (c_l_draws (F k)) 5 2 := rfl
theorem F_l_sign (k : Nat) : F (k + 1) .l_sign = runF (c_l_sign (F k)) 4 2 := rfl
theorem F_l_taken (k : Nat) : F (k + 1) .l_taken = runF (c_l_taken (F k)) 0 0 := rfl
theorem F_l_text (k : Nat) : F (k + 1) .l_text = runF (c_l_text (F k)) 4 1 := rfl
theorem F_l_due (k : Nat) : F (k + 1) .l_due = runF (c_l_due (F k)) 2 1 := rfl
theorem F_l_law (k : Nat) : F (k + 1) .l_law = runF (c_l_law (F k)) 4 1 := rfl
def ar : Fn → Nat
  | .is_name => 1
  | .l_draws => 2
  | .l_sign => 2
  | .l_taken => 0
  | .l_text => 1
  | .l_due => 1
  | .l_law => 1
def nps : Fn → List Str
  | .is_name => p_is_name
  | .l_draws => p_l_draws
  | .l_sign => p_l_sign
  | .l_taken => p_l_taken
  | .l_text => p_l_text
  | .l_due => p_l_due
  | .l_law => p_l_law
structure Tx (K : PySem.W.Frag) (mg : Str → Option Value) (fa : Fn → Addr) (fd : Fn → FuncData) (kt_LETTERS : Tok) (kt_LONGEST : Tok) (ka_TAKEN : Addr) : Prop where
  f_is_name : Fun K "is_name" "is_name" s_is_name (fa .is_name) (fd .is_name)
  g_is_name : mg "is_name" = some (.ref (fa .is_name))
  b_is_name : Binds K (fd .is_name) p_is_name []
  f_l_draws : Fun K "_law_draws" "_law_draws" s_l_draws (fa .l_draws) (fd .l_draws)
  g_l_draws : mg "_law_draws" = some (.ref (fa .l_draws))
  b_l_draws : Binds K (fd .l_draws) p_l_draws []
  f_l_sign : Fun K "_law_sign" "_law_sign" s_l_sign (fa .l_sign) (fd .l_sign)
  g_l_sign : mg "_law_sign" = some (.ref (fa .l_sign))
  b_l_sign : Binds K (fd .l_sign) p_l_sign []
  f_l_taken : Fun K "_law_taken" "_law_taken" s_l_taken (fa .l_taken) (fd .l_taken)
  g_l_taken : mg "_law_taken" = some (.ref (fa .l_taken))
  b_l_taken : Binds K (fd .l_taken) p_l_taken []
  f_l_text : Fun K "_law_text" "_law_text" s_l_text (fa .l_text) (fd .l_text)
  g_l_text : mg "_law_text" = some (.ref (fa .l_text))
  b_l_text : Binds K (fd .l_text) p_l_text []
  f_l_due : Fun K "_law_due" "_law_due" s_l_due (fa .l_due) (fd .l_due)
  g_l_due : mg "_law_due" = some (.ref (fa .l_due))
  b_l_due : Binds K (fd .l_due) p_l_due []
  f_l_law : Fun K "law" "law" s_l_law (fa .l_law) (fd .l_law)
  g_l_law : mg "law" = some (.ref (fa .l_law))
  b_l_law : Binds K (fd .l_law) p_l_law []
  z_bool : mg "bool" = none
  z_isinstance : mg "isinstance" = none
  z_len : mg "len" = none
  z_max : mg "max" = none
  z_range : mg "range" = none
  k_LETTERS : mg "LETTERS" = some ((.str "abcdefghijklmnopqrstuvwxyz" kt_LETTERS)) ∧ RelV (.str "abcdefghijklmnopqrstuvwxyz") (.str "abcdefghijklmnopqrstuvwxyz" kt_LETTERS) ∧ ∀ μ H, Rep K μ H (.str "abcdefghijklmnopqrstuvwxyz") k_LETTERS
  k_LONGEST : mg "LONGEST" = some ((.int 8 kt_LONGEST)) ∧ RelV (.int 8) (.int 8 kt_LONGEST) ∧ ∀ μ H, Rep K μ H (.int 8) k_LONGEST
  k_TAKEN : mg "TAKEN" = some (.ref (ka_TAKEN)) ∧ RelV (.ref ka_TAKEN) (.ref ka_TAKEN) ∧ ∀ μ H, Rep K μ H (.ref ka_TAKEN) k_TAKEN
section
variable {P : Program} {w : World} {K : PySem.W.Frag} {mg : Str → Option Value} {base : Heap} {fa : Fn → Addr} {fd : Fn → FuncData} {kt_LETTERS : Tok} {kt_LONGEST : Tok} {ka_TAKEN : Addr}
theorem ok_is_name (T : Tx K mg fa fd kt_LETTERS kt_LONGEST ka_TAKEN) {k : Nat} (G : ∀ f, FnOk P w K mg base CX0 k (fa f) (fd f) (nps f) (spD K mg (F k f) (ar f))) : FnOk P w K mg base CX0 (k + 1) (fa .is_name) (fd .is_name) p_is_name (spD K mg (F (k + 1) .is_name) 1) := by
  refine fn_def (c := c_is_name (F k)) (m := 2) T.f_is_name sc_is_name (F_is_name k) rfl rfl fun cdv A outer s H E hr => ?_
  have hu1 := hu_of hr
  have hu64 := hr.units
  have hu65 := PL.hu65 hr
  exact scs_cons (sc_if (st_w (sw_or (st_not (st_chain op_le o_le op_le o_le (se_int) (se_callB call_lenAll o_len (by rfl) T.z_len bt_len (sa_cons (se_var 0) (sa_nil))) (se_con (pe_glob (by rfl) T.k_LONGEST.1 T.k_LONGEST.2.1) T.k_LONGEST.2.2))) (sw_one_or (st_cmp (op_inAll hu65) o_in (se_var 0) (se_con (pe_glob (by rfl) T.k_TAKEN.1 T.k_TAKEN.2.1) T.k_TAKEN.2.2) (by rfl))))) (scs_one (sc_ret (se_bl))) (scs_nil)) (scs_cons (sc_for PassesOwn.never rfl (si_seq (se_var 0)) (sg_name sc_is_name.nd rfl (by first | exact Or.inl rfl | exact Or.inr rfl)) (scs_one (sc_if (st_cmp (op_ninAll hu65) o_nin (se_var 1) (se_con (pe_glob (by rfl) T.k_LETTERS.1 T.k_LETTERS.2.1) T.k_LETTERS.2.2) (by rfl)) (scs_one (sc_ret (se_bl))) (scs_nil)))) (scs_one (sc_ret (se_bl))))
theorem ok_l_draws (T : Tx K mg fa fd kt_LETTERS kt_LONGEST ka_TAKEN) {k : Nat} (G : ∀ f, FnOk P w K mg base CX0 k (fa f) (fd f) (nps f) (spD K mg (F k f) (ar f))) : FnOk P w K mg base CX0 (k + 1) (fa .l_draws) (fd .l_draws) p_l_draws (spD K mg (F (k + 1) .l_draws) 2) := by
  refine fn_def (c := c_l_draws (F k)) (m := 5) T.f_l_draws sc_l_draws (F_l_draws k) rfl rfl fun cdv A outer s H E hr => ?_
  have hu1 := hu_of hr
  have hu64 := hr.units
  have hu65 := PL.hu65 hr
  exact scs_cons (sc_set (i := 2) sc_l_draws.nd rfl (by first | exact Or.inl rfl | exact Or.inr rfl) (se_lst (sa_nil))) (scs_cons (sc_for PassesOwn.never rfl (si_range1 (by rfl) T.z_range (sa_cons (se_var 1) (sa_nil))) (sg_name sc_l_draws.nd rfl (by first | exact Or.inl rfl | exact Or.inr rfl)) (scs_cons (sc_set (i := 4) sc_l_draws.nd rfl (by first | exact Or.inl rfl | exact Or.inr rfl) (se_int)) (scs_cons (sc_if (st_cmp op_gt o_gt (se_callB call_lenAll o_len (by rfl) T.z_len bt_len (sa_cons (se_var 0) (sa_nil))) (se_int) (nomark _)) (scs_one (sc_set (i := 4) sc_l_draws.nd rfl (by first | exact Or.inl rfl | exact Or.inr rfl) (se_bin op_mod o_mod (se_ix hu1 (se_var 0) (se_bin op_mod o_mod (se_var 3) (se_callB call_lenAll o_len (by rfl) T.z_len bt_len (sa_cons (se_var 0) (sa_nil))))) (se_bin op_pow o_pow (se_int) (se_int))))) (scs_nil)) (scs_one (sc_expr (se_meth PySem.F.plainAttrs_list PySem.F.slot_list_append PySem.F.type_list_append mt_append o_append (se_var 2) (sa_cons (se_bin op_addAll o_add (se_var 4) (se_bin op_mulAll o_mul (se_int) (se_bin op_fdivW o_fdiv (se_var 3) (se_callB (call_max2 rfl) o_max2 (by rfl) T.z_max bt_max (sa_cons (se_int) (sa_cons (se_callB call_lenAll o_len (by rfl) T.z_len bt_len (sa_cons (se_var 0) (sa_nil))) (sa_nil))))))) (sa_nil)))))))) (scs_one (sc_ret (se_var 2))))
theorem ok_l_sign (T : Tx K mg fa fd kt_LETTERS kt_LONGEST ka_TAKEN) {k : Nat} (G : ∀ f, FnOk P w K mg base CX0 k (fa f) (fd f) (nps f) (spD K mg (F k f) (ar f))) : FnOk P w K mg base CX0 (k + 1) (fa .l_sign) (fd .l_sign) p_l_sign (spD K mg (F (k + 1) .l_sign) 2) := by
  refine fn_def (c := c_l_sign (F k)) (m := 4) T.f_l_sign sc_l_sign (F_l_sign k) rfl rfl fun cdv A outer s H E hr => ?_
  have hu1 := hu_of hr
  have hu64 := hr.units
  have hu65 := PL.hu65 hr
  exact scs_cons (sc_set (i := 2) sc_l_sign.nd rfl (by first | exact Or.inl rfl | exact Or.inr rfl) (se_str)) (scs_cons (sc_set (i := 3) sc_l_sign.nd rfl (by first | exact Or.inl rfl | exact Or.inr rfl) (se_str)) (scs_cons (sc_if (st_w (sw_or (st_cmp (op_eqD hu64) o_eq (se_var 1) (se_int) (nomark _)) (sw_one_or (st_cmp op_ltAll o_lt (se_bin op_mod o_mod (se_var 0) (se_int)) (se_int) (nomark _))))) (scs_one (sc_ret (se_ix hu1 (se_var 2) (se_bin op_mod o_mod (se_bin op_fdivW o_fdiv (se_var 0) (se_int)) (se_int))))) (scs_nil)) (scs_one (sc_ret (se_ix hu1 (se_var 3) (se_bin op_mod o_mod (se_bin op_fdivW o_fdiv (se_var 0) (se_int)) (se_int)))))))
theorem ok_l_taken (T : Tx K mg fa fd kt_LETTERS kt_LONGEST ka_TAKEN) {k : Nat} (G : ∀ f, FnOk P w K mg base CX0 k (fa f) (fd f) (nps f) (spD K mg (F k f) (ar f))) : FnOk P w K mg base CX0 (k + 1) (fa .l_taken) (fd .l_taken) p_l_taken (spD K mg (F (k + 1) .l_taken) 0) := by
  refine fn_def (c := c_l_taken (F k)) (m := 0) T.f_l_taken sc_l_taken (F_l_taken k) rfl rfl fun cdv A outer s H E hr => ?_
  have hu1 := hu_of hr
  have hu64 := hr.units
  have hu65 := PL.hu65 hr
  exact scs_one (sc_ret (se_lst (sa_cons (se_str) (sa_cons (se_str) (sa_cons (se_str) (sa_cons (se_str) (sa_cons (se_str) (sa_cons (se_str) (sa_cons (se_str) (sa_cons (se_str) (sa_cons (se_str) (sa_cons (se_str) (sa_cons (se_str) (sa_cons (se_str) (sa_nil)))))))))))))))
theorem ok_l_text (T : Tx K mg fa fd kt_LETTERS kt_LONGEST ka_TAKEN) {k : Nat} (G : ∀ f, FnOk P w K mg base CX0 k (fa f) (fd f) (nps f) (spD K mg (F k f) (ar f))) : FnOk P w K mg base CX0 (k + 1) (fa .l_text) (fd .l_text) p_l_text (spD K mg (F (k + 1) .l_text) 1) := by
  refine fn_def (c := c_l_text (F k)) (m := 4) T.f_l_text sc_l_text (F_l_text k) rfl rfl fun cdv A outer s H E hr => ?_
  have hu1 := hu_of hr
  have hu64 := hr.units
  have hu65 := PL.hu65 hr
  exact scs_cons (sc_if (st_cmp (op_eqD hu64) o_eq (se_bin op_mod o_mod (se_ix hu1 (se_var 0) (se_int)) (se_int)) (se_int) (nomark _)) (scs_cons (sc_set (i := 3) sc_l_text.nd rfl (by first | exact Or.inl rfl | exact Or.inr rfl) (se_ix hu1 (se_own0 (G .l_taken) hr (by rfl) T.g_l_taken T.f_l_taken.kp T.b_l_taken pas0) (se_bin op_mod o_mod (se_ix hu1 (se_var 0) (se_int)) (se_int)))) (scs_one (sc_ret (se_ix hu1 (se_lst (sa_cons (se_var 3) (sa_cons (se_var 3) (sa_cons (se_bin op_addAll o_add (se_var 3) (se_own (G .l_sign) hr (by rfl) T.g_l_sign T.f_l_sign.kp T.b_l_sign pas0 (sa_cons (se_ix hu1 (se_var 0) (se_int)) (sa_cons (se_int) (sa_nil))))) (sa_cons (se_sli (se_var 3) (so_none) (so_some (se_neg (se_int)))) (sa_nil)))))) (se_bin op_mod o_mod (se_ix hu1 (se_var 0) (se_int)) (se_int)))))) (scs_nil)) (scs_cons (sc_set (i := 1) sc_l_text.nd rfl (by first | exact Or.inl rfl | exact Or.inr rfl) (se_str)) (scs_cons (sc_for PassesOwn.never rfl (si_range1 (by rfl) T.z_range (sa_cons (se_bin op_mod o_mod (se_bin op_fdivW o_fdiv (se_ix hu1 (se_var 0) (se_int)) (se_int)) (se_int)) (sa_nil))) (sg_name sc_l_text.nd rfl (by first | exact Or.inl rfl | exact Or.inr rfl)) (scs_one (sc_set (i := 1) sc_l_text.nd rfl (by first | exact Or.inl rfl | exact Or.inr rfl) (se_bin op_addAll o_add (se_var 1) (se_own (G .l_sign) hr (by rfl) T.g_l_sign T.f_l_sign.kp T.b_l_sign pas0 (sa_cons (se_ix hu1 (se_var 0) (se_bin op_addAll o_add (se_int) (se_var 2))) (sa_cons (se_bin op_mod o_mod (se_ix hu1 (se_var 0) (se_int)) (se_int)) (sa_nil)))))))) (scs_one (sc_ret (se_var 1)))))
theorem ok_l_due (T : Tx K mg fa fd kt_LETTERS kt_LONGEST ka_TAKEN) {k : Nat} (G : ∀ f, FnOk P w K mg base CX0 k (fa f) (fd f) (nps f) (spD K mg (F k f) (ar f))) : FnOk P w K mg base CX0 (k + 1) (fa .l_due) (fd .l_due) p_l_due (spD K mg (F (k + 1) .l_due) 1) := by
  refine fn_def (c := c_l_due (F k)) (m := 2) T.f_l_due sc_l_due (F_l_due k) rfl rfl fun cdv A outer s H E hr => ?_
  have hu1 := hu_of hr
  have hu64 := hr.units
  have hu65 := PL.hu65 hr
  exact scs_cons (sc_for PassesOwn.never rfl (si_seq (se_var 0)) (sg_name sc_l_due.nd rfl (by first | exact Or.inl rfl | exact Or.inr rfl)) (scs_one (sc_if (st_cmp (op_ninAll hu65) o_nin (se_var 1) (se_str) (by rfl)) (scs_one (sc_ret (se_bl))) (scs_nil)))) (scs_one (sc_ret (se_and (se_chain op_le o_le op_le o_le (se_int) (se_callB call_lenAll o_len (by rfl) T.z_len bt_len (sa_cons (se_var 0) (sa_nil))) (se_int)) (se_one (se_cmp (op_ninAll hu65) o_nin (se_var 0) (se_own0 (G .l_taken) hr (by rfl) T.g_l_taken T.f_l_taken.kp T.b_l_taken pas0) (by rfl))))))
theorem ok_l_law (T : Tx K mg fa fd kt_LETTERS kt_LONGEST ka_TAKEN) {k : Nat} (G : ∀ f, FnOk P w K mg base CX0 k (fa f) (fd f) (nps f) (spD K mg (F k f) (ar f))) : FnOk P w K mg base CX0 (k + 1) (fa .l_law) (fd .l_law) p_l_law (spD K mg (F (k + 1) .l_law) 1) := by
  refine fn_def (c := c_l_law (F k)) (m := 4) T.f_l_law sc_l_law (F_l_law k) rfl rfl fun cdv A outer s H E hr => ?_
  have hu1 := hu_of hr
  have hu64 := hr.units
  have hu65 := PL.hu65 hr
  exact scs_cons (sc_for PassesOwn.never rfl (si_range1 (by rfl) T.z_range (sa_cons (se_int) (sa_nil))) (sg_name sc_l_law.nd rfl (by first | exact Or.inl rfl | exact Or.inr rfl)) (scs_cons (sc_set (i := 2) sc_l_law.nd rfl (by first | exact Or.inl rfl | exact Or.inr rfl) (se_own (G .l_text) hr (by rfl) T.g_l_text T.f_l_text.kp T.b_l_text pas0 (sa_cons (se_own (G .l_draws) hr (by rfl) T.g_l_draws T.f_l_draws.kp T.b_l_draws pas0 (sa_cons (se_sli (se_var 0) (so_some (se_var 1)) (so_none)) (sa_cons (se_int) (sa_nil)))) (sa_nil)))) (scs_cons (sc_set (i := 3) sc_l_law.nd rfl (by first | exact Or.inl rfl | exact Or.inr rfl) (se_own (G .is_name) hr (by rfl) T.g_is_name T.f_is_name.kp T.b_is_name pas0 (sa_cons (se_var 2) (sa_nil)))) (scs_one (sc_if (st_w (sw_or (st_not (st_bl (se_isi (by rfl) T.z_isinstance (by rfl) T.z_bool bt_bool (se_var 3)))) (sw_one_or (st_cmp (op_neD hu64) o_ne (se_var 3) (se_own (G .l_due) hr (by rfl) T.g_l_due T.f_l_due.kp T.b_l_due pas0 (sa_cons (se_var 2) (sa_nil))) (nomark _))))) (scs_one (sc_ret (se_bl))) (scs_nil)))))) (scs_one (sc_ret (se_bl)))
theorem ok_all (T : Tx K mg fa fd kt_LETTERS kt_LONGEST ka_TAKEN) : ∀ (k : Nat) (f : Fn), FnOk P w K mg base CX0 k (fa f) (fd f) (nps f) (spD K mg (F k f) (ar f))
  | 0, f => fn_zero (by cases f <;> rfl)
  | k + 1, f => by
    have G := ok_all T k
    cases f
    · exact ok_is_name T G
    · exact ok_l_draws T G
    · exact ok_l_sign T G
    · exact ok_l_taken T G
    · exact ok_l_text T G
    · exact ok_l_due T G
    · exact ok_l_law T G
end
end Wk

namespace Wk
open PySem PL
theorem mem_kstrs {S : Sto} (ys : List Str) (x : Str) : memq S (.str x) (.kt (ys.map .str)) = some (decide (x ∈ ys)) := mem_tstrs (S := S) ys x
theorem mem_abc {S : Sto} (c : Nat) : memq S (.str ⟨#[c]⟩) (.str abc) = some (decide (c ∈ abc.cps.toList)) := rfl
def low (x : Str) : Bool := x.cps.toList.all fun c => decide (c ∈ abc.cps.toList)
def isName (x : Str) : Bool := decide (1 ≤ x.length) && decide (x.length ≤ 8) && !decide (x ∈ takenW) && low x
structure TextOk (x : Str) : Prop where
  sk : Sk x
  len : x.length ≤ 20
theorem walk_str {S : Sto} (x : Str) : walkD (.str x) S = some (chars x, .tt) := rfl
theorem len_str {S : Sto} {x : Str} (h : x.length ≤ sizeLine) : lenD [.str x] S = .ok (.int x.length) S := by simp only [lenD, h, ↓reduceIte]
/-- a text gone through for a sign that is no small letter -/
theorem scan {b : RC} (x : Str) (S : Sto) (hb : ∀ (c : Nat), b [some (.str x), some (.str ⟨#[c]⟩)] S = if c ∈ abc.cps.toList then .fl (.nx [some (.str x), some (.str ⟨#[c]⟩)]) S else .fl (.rt (.bl false)) S) (v : Option Dv) :
    (low x = true ∧ ∃ v', loop Ck.tt.ok (.nm 1) b (chars x) [some (.str x), v] S = .fl (.nx [some (.str x), v']) S) ∨ (low x = false ∧ loop Ck.tt.ok (.nm 1) b (chars x) [some (.str x), v] S = .fl (.rt (.bl false)) S) := by
  have H : ∀ (cs : List Nat) (v : Option Dv), (cs.all (fun c => decide (c ∈ abc.cps.toList)) = true ∧ ∃ v', loop Ck.tt.ok (.nm 1) b (cs.map fun c => .str ⟨#[c]⟩) [some (.str x), v] S = .fl (.nx [some (.str x), v']) S) ∨ (cs.all (fun c => decide (c ∈ abc.cps.toList)) = false ∧ loop Ck.tt.ok (.nm 1) b (cs.map fun c => .str ⟨#[c]⟩) [some (.str x), v] S = .fl (.rt (.bl false)) S) := by
    intro cs
    induction cs with
    | nil => intro v; exact .inl ⟨rfl, v, by rw [List.map_nil, loop, if_pos (show Ck.tt.ok S from trivial)]⟩
    | cons c cs ih =>
      intro v
      have e : loop Ck.tt.ok (.nm 1) b ((c :: cs).map fun c => .str ⟨#[c]⟩) [some (.str x), v] S = match b [some (.str x), some (.str ⟨#[c]⟩)] S with
          | .fl (.nx ρ2) S2 => loop Ck.tt.ok (.nm 1) b (cs.map fun c => .str ⟨#[c]⟩) ρ2 S2
          | .fl (.ct ρ2) S2 => loop Ck.tt.ok (.nm 1) b (cs.map fun c => .str ⟨#[c]⟩) ρ2 S2
          | .fl (.bk ρ2) S2 => .fl (.nx ρ2) S2
          | o => o := by rw [List.map_cons, loop, if_pos (show Ck.tt.ok S from trivial)]; rfl
      rw [e, hb c]
      by_cases hc : c ∈ abc.cps.toList
      · simp only [hc, ↓reduceIte, List.all_cons, decide_true, Bool.true_and]
        exact ih _
      · simp only [hc, ↓reduceIte, List.all_cons, decide_false, Bool.false_and]
        exact .inr ⟨trivial, trivial⟩
  exact H x.cps.toList v
theorem sl20 {n : Nat} (h : n ≤ 20) : n ≤ sizeLine := sline n (by omega)
theorem is_name_run {k : Nat} {S : Sto} {x : Str} (hx : TextOk x) : F (k + 1) .is_name [.str x] S = .ok (.bl (isName x)) S := by
  have hl := len_str (S := S) (sl20 hx.len)
  have eT : k_TAKEN = .kt (takenW.map .str) := rfl
  have hm : memq S (.str x) k_TAKEN = some (decide (x ∈ takenW)) := by rw [eT]; exact mem_kstrs _ _
  rw [F_is_name]
  refine runF_rt (ρ := [some (.str x), none]) rfl rfl ?_
  unfold c_is_name
  by_cases h1 : (1 : Int) ≤ x.length
  · by_cases h8 : (x.length : Int) ≤ 8
    · by_cases ht : x ∈ takenW
      · refine (seq_rt ((if_t (S' := S) ?_).trans (ret_of rfl))).trans ?_
        · simp only [ev_var, ev_con, ev_bin, ev_un, ev_anil, ev_acons, ev_call, ev_tup, ev_lst, ev_not, ev_and, ev_or, ev_if, ev_cbl, ev_btrue, ev_cand, ev_cor, ev_cnot, ev_sli, ev_onone, ev_osome, ev_chain, ev_meth, ev_get2, ev_newK, ev_newT, ev_own, ev_nil, ev_seq, ev_expr, ev_set, ev_ret, ev_retN, ev_cif, ev_brk, ev_ct, ev_asg, ev_put, ev_aug, ev_for, ev_comp, ev_newL, ev_iseq, ev_irange, ev_ienum, ev_yes, Out.bind_ok, Out.bindN_ok, bindS_ok, Tg.set, Tg.sets, List.getElem?_cons_zero, List.getElem?_cons_succ, List.set_cons_zero, List.set_cons_succ, wipeE, List.length_cons, List.length_nil, Nat.reduceAdd, Nat.reduceLeDiff, Nat.reduceEqDiff, ↓reduceIte, Bool.false_eq_true, decide_eq_true_eq, add_int, sub_int, lt_int, gt_int, le_int, ge_int, neg_int, and_int, or_int, xor_int, max2_int, min2_int, mod_pos, fdiv_sm, mul_sm, mul_smr, Int.reduceLT, Int.reduceNeg, int_bl, int_int, sli_tup, hl, k_LONGEST, h1, h8, decide_true, Bool.not_true, inD, hm, ht]
        · simp [isName, ht]
      · refine (seq_of ((if_f (S' := S) ?_).trans rfl)).trans ?_
        · simp only [ev_var, ev_con, ev_bin, ev_un, ev_anil, ev_acons, ev_call, ev_tup, ev_lst, ev_not, ev_and, ev_or, ev_if, ev_cbl, ev_btrue, ev_cand, ev_cor, ev_cnot, ev_sli, ev_onone, ev_osome, ev_chain, ev_meth, ev_get2, ev_newK, ev_newT, ev_own, ev_nil, ev_seq, ev_expr, ev_set, ev_ret, ev_retN, ev_cif, ev_brk, ev_ct, ev_asg, ev_put, ev_aug, ev_for, ev_comp, ev_newL, ev_iseq, ev_irange, ev_ienum, ev_yes, Out.bind_ok, Out.bindN_ok, bindS_ok, Tg.set, Tg.sets, List.getElem?_cons_zero, List.getElem?_cons_succ, List.set_cons_zero, List.set_cons_succ, wipeE, List.length_cons, List.length_nil, Nat.reduceAdd, Nat.reduceLeDiff, Nat.reduceEqDiff, ↓reduceIte, Bool.false_eq_true, decide_eq_true_eq, add_int, sub_int, lt_int, gt_int, le_int, ge_int, neg_int, and_int, or_int, xor_int, max2_int, min2_int, mod_pos, fdiv_sm, mul_sm, mul_smr, Int.reduceLT, Int.reduceNeg, int_bl, int_int, sli_tup, hl, k_LONGEST, h1, h8, decide_true, Bool.not_true, inD, hm, ht, decide_false]
        · have e1 : isName x = low x := by
            have a1 : 1 ≤ x.length := by omega
            have a2 : x.length ≤ 8 := by omega
            simp [isName, ht, a1, a2]
          rw [e1]
          have hb : ∀ (c : Nat), b_is_name_1 (F k) [some (.str x), some (.str ⟨#[c]⟩)] S = if c ∈ abc.cps.toList then .fl (.nx [some (.str x), some (.str ⟨#[c]⟩)]) S else .fl (.rt (.bl false)) S := fun c => by
            have hm2 : memq S (.str ⟨#[c]⟩) k_LETTERS = some (decide (c ∈ abc.cps.toList)) := mem_abc c
            by_cases hc : c ∈ abc.cps.toList
            · simp only [b_is_name_1, ev_var, ev_con, ev_bin, ev_un, ev_anil, ev_acons, ev_call, ev_tup, ev_lst, ev_not, ev_and, ev_or, ev_if, ev_cbl, ev_btrue, ev_cand, ev_cor, ev_cnot, ev_sli, ev_onone, ev_osome, ev_chain, ev_meth, ev_get2, ev_newK, ev_newT, ev_own, ev_nil, ev_seq, ev_expr, ev_set, ev_ret, ev_retN, ev_cif, ev_brk, ev_ct, ev_asg, ev_put, ev_aug, ev_for, ev_comp, ev_newL, ev_iseq, ev_irange, ev_ienum, ev_yes, Out.bind_ok, Out.bindN_ok, bindS_ok, Tg.set, Tg.sets, List.getElem?_cons_zero, List.getElem?_cons_succ, List.set_cons_zero, List.set_cons_succ, wipeE, List.length_cons, List.length_nil, Nat.reduceAdd, Nat.reduceLeDiff, Nat.reduceEqDiff, ↓reduceIte, Bool.false_eq_true, decide_eq_true_eq, add_int, sub_int, lt_int, gt_int, le_int, ge_int, neg_int, and_int, or_int, xor_int, max2_int, min2_int, mod_pos, fdiv_sm, mul_sm, mul_smr, Int.reduceLT, Int.reduceNeg, int_bl, int_int, sli_tup, ninD, hm2, hc, decide_true, Bool.not_true]
            · simp only [b_is_name_1, ev_var, ev_con, ev_bin, ev_un, ev_anil, ev_acons, ev_call, ev_tup, ev_lst, ev_not, ev_and, ev_or, ev_if, ev_cbl, ev_btrue, ev_cand, ev_cor, ev_cnot, ev_sli, ev_onone, ev_osome, ev_chain, ev_meth, ev_get2, ev_newK, ev_newT, ev_own, ev_nil, ev_seq, ev_expr, ev_set, ev_ret, ev_retN, ev_cif, ev_brk, ev_ct, ev_asg, ev_put, ev_aug, ev_for, ev_comp, ev_newL, ev_iseq, ev_irange, ev_ienum, ev_yes, Out.bind_ok, Out.bindN_ok, bindS_ok, Tg.set, Tg.sets, List.getElem?_cons_zero, List.getElem?_cons_succ, List.set_cons_zero, List.set_cons_succ, wipeE, List.length_cons, List.length_nil, Nat.reduceAdd, Nat.reduceLeDiff, Nat.reduceEqDiff, ↓reduceIte, Bool.false_eq_true, decide_eq_true_eq, add_int, sub_int, lt_int, gt_int, le_int, ge_int, neg_int, and_int, or_int, xor_int, max2_int, min2_int, mod_pos, fdiv_sm, mul_sm, mul_smr, Int.reduceLT, Int.reduceNeg, int_bl, int_int, sli_tup, ninD, hm2, hc, decide_false, Bool.not_false]
          rcases scan x S hb none with ⟨q, v', e⟩ | ⟨q, e⟩
          · rw [q]
            exact (seq_of ((for_of (by simp only [ev_var, ev_con, ev_bin, ev_un, ev_anil, ev_acons, ev_call, ev_tup, ev_lst, ev_not, ev_and, ev_or, ev_if, ev_cbl, ev_btrue, ev_cand, ev_cor, ev_cnot, ev_sli, ev_onone, ev_osome, ev_chain, ev_meth, ev_get2, ev_newK, ev_newT, ev_own, ev_nil, ev_seq, ev_expr, ev_set, ev_ret, ev_retN, ev_cif, ev_brk, ev_ct, ev_asg, ev_put, ev_aug, ev_for, ev_comp, ev_newL, ev_iseq, ev_irange, ev_ienum, ev_yes, Out.bind_ok, Out.bindN_ok, bindS_ok, Tg.set, Tg.sets, List.getElem?_cons_zero, List.getElem?_cons_succ, List.set_cons_zero, List.set_cons_succ, wipeE, List.length_cons, List.length_nil, Nat.reduceAdd, Nat.reduceLeDiff, Nat.reduceEqDiff, ↓reduceIte, Bool.false_eq_true, decide_eq_true_eq, add_int, sub_int, lt_int, gt_int, le_int, ge_int, neg_int, and_int, or_int, xor_int, max2_int, min2_int, mod_pos, fdiv_sm, mul_sm, mul_smr, Int.reduceLT, Int.reduceNeg, int_bl, int_int, sli_tup, walk_str]; rfl)).trans e)).trans (ret_of rfl)
          · rw [q]
            exact (seq_rt ((for_of (by simp only [ev_var, ev_con, ev_bin, ev_un, ev_anil, ev_acons, ev_call, ev_tup, ev_lst, ev_not, ev_and, ev_or, ev_if, ev_cbl, ev_btrue, ev_cand, ev_cor, ev_cnot, ev_sli, ev_onone, ev_osome, ev_chain, ev_meth, ev_get2, ev_newK, ev_newT, ev_own, ev_nil, ev_seq, ev_expr, ev_set, ev_ret, ev_retN, ev_cif, ev_brk, ev_ct, ev_asg, ev_put, ev_aug, ev_for, ev_comp, ev_newL, ev_iseq, ev_irange, ev_ienum, ev_yes, Out.bind_ok, Out.bindN_ok, bindS_ok, Tg.set, Tg.sets, List.getElem?_cons_zero, List.getElem?_cons_succ, List.set_cons_zero, List.set_cons_succ, wipeE, List.length_cons, List.length_nil, Nat.reduceAdd, Nat.reduceLeDiff, Nat.reduceEqDiff, ↓reduceIte, Bool.false_eq_true, decide_eq_true_eq, add_int, sub_int, lt_int, gt_int, le_int, ge_int, neg_int, and_int, or_int, xor_int, max2_int, min2_int, mod_pos, fdiv_sm, mul_sm, mul_smr, Int.reduceLT, Int.reduceNeg, int_bl, int_int, sli_tup, walk_str]; rfl)).trans e))
    · refine (seq_rt ((if_t (S' := S) ?_).trans (ret_of rfl))).trans ?_
      · simp only [ev_var, ev_con, ev_bin, ev_un, ev_anil, ev_acons, ev_call, ev_tup, ev_lst, ev_not, ev_and, ev_or, ev_if, ev_cbl, ev_btrue, ev_cand, ev_cor, ev_cnot, ev_sli, ev_onone, ev_osome, ev_chain, ev_meth, ev_get2, ev_newK, ev_newT, ev_own, ev_nil, ev_seq, ev_expr, ev_set, ev_ret, ev_retN, ev_cif, ev_brk, ev_ct, ev_asg, ev_put, ev_aug, ev_for, ev_comp, ev_newL, ev_iseq, ev_irange, ev_ienum, ev_yes, Out.bind_ok, Out.bindN_ok, bindS_ok, Tg.set, Tg.sets, List.getElem?_cons_zero, List.getElem?_cons_succ, List.set_cons_zero, List.set_cons_succ, wipeE, List.length_cons, List.length_nil, Nat.reduceAdd, Nat.reduceLeDiff, Nat.reduceEqDiff, ↓reduceIte, Bool.false_eq_true, decide_eq_true_eq, add_int, sub_int, lt_int, gt_int, le_int, ge_int, neg_int, and_int, or_int, xor_int, max2_int, min2_int, mod_pos, fdiv_sm, mul_sm, mul_smr, Int.reduceLT, Int.reduceNeg, int_bl, int_int, sli_tup, hl, k_LONGEST, h1, h8, decide_true, decide_false, Bool.not_false]
      · have a2 : ¬ x.length ≤ 8 := by omega
        simp [isName, a2]
  · refine (seq_rt ((if_t (S' := S) ?_).trans (ret_of rfl))).trans ?_
    · simp only [ev_var, ev_con, ev_bin, ev_un, ev_anil, ev_acons, ev_call, ev_tup, ev_lst, ev_not, ev_and, ev_or, ev_if, ev_cbl, ev_btrue, ev_cand, ev_cor, ev_cnot, ev_sli, ev_onone, ev_osome, ev_chain, ev_meth, ev_get2, ev_newK, ev_newT, ev_own, ev_nil, ev_seq, ev_expr, ev_set, ev_ret, ev_retN, ev_cif, ev_brk, ev_ct, ev_asg, ev_put, ev_aug, ev_for, ev_comp, ev_newL, ev_iseq, ev_irange, ev_ienum, ev_yes, Out.bind_ok, Out.bindN_ok, bindS_ok, Tg.set, Tg.sets, List.getElem?_cons_zero, List.getElem?_cons_succ, List.set_cons_zero, List.set_cons_succ, wipeE, List.length_cons, List.length_nil, Nat.reduceAdd, Nat.reduceLeDiff, Nat.reduceEqDiff, ↓reduceIte, Bool.false_eq_true, decide_eq_true_eq, add_int, sub_int, lt_int, gt_int, le_int, ge_int, neg_int, and_int, or_int, xor_int, max2_int, min2_int, mod_pos, fdiv_sm, mul_sm, mul_smr, Int.reduceLT, Int.reduceNeg, int_bl, int_int, sli_tup, hl, k_LONGEST, h1, decide_true, decide_false, Bool.not_false]
    · have a2 : ¬ 1 ≤ x.length := by omega
      simp [isName]; omega
theorem taken_run {k : Nat} {S : Sto} : F (k + 1) .l_taken [] S = .ok (.ref S.length) (S ++ [.lst (takenW.map .str)]) := by
  rw [F_l_taken]
  refine runF_rt (ρ := []) rfl rfl ?_
  refine (ret_of (d := .ref S.length) (S' := S ++ [.lst (takenW.map .str)]) ?_)
  simp only [ev_var, ev_con, ev_bin, ev_un, ev_anil, ev_acons, ev_call, ev_tup, ev_lst, ev_not, ev_and, ev_or, ev_if, ev_cbl, ev_btrue, ev_cand, ev_cor, ev_cnot, ev_sli, ev_onone, ev_osome, ev_chain, ev_meth, ev_get2, ev_newK, ev_newT, ev_own, ev_nil, ev_seq, ev_expr, ev_set, ev_ret, ev_retN, ev_cif, ev_brk, ev_ct, ev_asg, ev_put, ev_aug, ev_for, ev_comp, ev_newL, ev_iseq, ev_irange, ev_ienum, ev_yes, Out.bind_ok, Out.bindN_ok, bindS_ok, Tg.set, Tg.sets, List.getElem?_cons_zero, List.getElem?_cons_succ, List.set_cons_zero, List.set_cons_succ, wipeE, List.length_cons, List.length_nil, Nat.reduceAdd, Nat.reduceLeDiff, Nat.reduceEqDiff, ↓reduceIte, Bool.false_eq_true, decide_eq_true_eq, add_int, sub_int, lt_int, gt_int, le_int, ge_int, neg_int, and_int, or_int, xor_int, max2_int, min2_int, mod_pos, fdiv_sm, mul_sm, mul_smr, Int.reduceLT, Int.reduceNeg, int_bl, int_int, sli_tup, sline 12 (by omega)]; rfl
theorem due_run {k : Nat} {S : Sto} {x : Str} (hx : TextOk x) : ∃ S', F (k + 2) .l_due [.str x] S = .ok (.bl (isName x)) S' ∧ Gr S S' := by
  have hl := fun S => len_str (S := S) (sl20 hx.len)
  have hb : ∀ (c : Nat), b_l_due_1 (F (k + 1)) [some (.str x), some (.str ⟨#[c]⟩)] S = if c ∈ abc.cps.toList then .fl (.nx [some (.str x), some (.str ⟨#[c]⟩)]) S else .fl (.rt (.bl false)) S := fun c => by
    have hm2 : memq S (.str ⟨#[c]⟩) (.str "abcdefghijklmnopqrstuvwxyz") = some (decide (c ∈ abc.cps.toList)) := mem_abc c
    by_cases hc : c ∈ abc.cps.toList
    · simp only [b_l_due_1, ev_var, ev_con, ev_bin, ev_un, ev_anil, ev_acons, ev_call, ev_tup, ev_lst, ev_not, ev_and, ev_or, ev_if, ev_cbl, ev_btrue, ev_cand, ev_cor, ev_cnot, ev_sli, ev_onone, ev_osome, ev_chain, ev_meth, ev_get2, ev_newK, ev_newT, ev_own, ev_nil, ev_seq, ev_expr, ev_set, ev_ret, ev_retN, ev_cif, ev_brk, ev_ct, ev_asg, ev_put, ev_aug, ev_for, ev_comp, ev_newL, ev_iseq, ev_irange, ev_ienum, ev_yes, Out.bind_ok, Out.bindN_ok, bindS_ok, Tg.set, Tg.sets, List.getElem?_cons_zero, List.getElem?_cons_succ, List.set_cons_zero, List.set_cons_succ, wipeE, List.length_cons, List.length_nil, Nat.reduceAdd, Nat.reduceLeDiff, Nat.reduceEqDiff, ↓reduceIte, Bool.false_eq_true, decide_eq_true_eq, add_int, sub_int, lt_int, gt_int, le_int, ge_int, neg_int, and_int, or_int, xor_int, max2_int, min2_int, mod_pos, fdiv_sm, mul_sm, mul_smr, Int.reduceLT, Int.reduceNeg, int_bl, int_int, sli_tup, ninD, hm2, hc, decide_true, Bool.not_true]
    · simp only [b_l_due_1, ev_var, ev_con, ev_bin, ev_un, ev_anil, ev_acons, ev_call, ev_tup, ev_lst, ev_not, ev_and, ev_or, ev_if, ev_cbl, ev_btrue, ev_cand, ev_cor, ev_cnot, ev_sli, ev_onone, ev_osome, ev_chain, ev_meth, ev_get2, ev_newK, ev_newT, ev_own, ev_nil, ev_seq, ev_expr, ev_set, ev_ret, ev_retN, ev_cif, ev_brk, ev_ct, ev_asg, ev_put, ev_aug, ev_for, ev_comp, ev_newL, ev_iseq, ev_irange, ev_ienum, ev_yes, Out.bind_ok, Out.bindN_ok, bindS_ok, Tg.set, Tg.sets, List.getElem?_cons_zero, List.getElem?_cons_succ, List.set_cons_zero, List.set_cons_succ, wipeE, List.length_cons, List.length_nil, Nat.reduceAdd, Nat.reduceLeDiff, Nat.reduceEqDiff, ↓reduceIte, Bool.false_eq_true, decide_eq_true_eq, add_int, sub_int, lt_int, gt_int, le_int, ge_int, neg_int, and_int, or_int, xor_int, max2_int, min2_int, mod_pos, fdiv_sm, mul_sm, mul_smr, Int.reduceLT, Int.reduceNeg, int_bl, int_int, sli_tup, ninD, hm2, hc, decide_false, Bool.not_false]
  rw [F_l_due]
  rcases scan x S hb none with ⟨q, v', e⟩ | ⟨q, e⟩
  · have h0 := (for_of (r := iSeq (eVar 0)) (t := .nm 1) (b := b_l_due_1 (F (k + 1))) (ρ := [some (.str x), none]) (S := S) (S' := S) (w := (chars x, .tt)) (by simp only [ev_var, ev_con, ev_bin, ev_un, ev_anil, ev_acons, ev_call, ev_tup, ev_lst, ev_not, ev_and, ev_or, ev_if, ev_cbl, ev_btrue, ev_cand, ev_cor, ev_cnot, ev_sli, ev_onone, ev_osome, ev_chain, ev_meth, ev_get2, ev_newK, ev_newT, ev_own, ev_nil, ev_seq, ev_expr, ev_set, ev_ret, ev_retN, ev_cif, ev_brk, ev_ct, ev_asg, ev_put, ev_aug, ev_for, ev_comp, ev_newL, ev_iseq, ev_irange, ev_ienum, ev_yes, Out.bind_ok, Out.bindN_ok, bindS_ok, Tg.set, Tg.sets, List.getElem?_cons_zero, List.getElem?_cons_succ, List.set_cons_zero, List.set_cons_succ, wipeE, List.length_cons, List.length_nil, Nat.reduceAdd, Nat.reduceLeDiff, Nat.reduceEqDiff, ↓reduceIte, Bool.false_eq_true, decide_eq_true_eq, add_int, sub_int, lt_int, gt_int, le_int, ge_int, neg_int, and_int, or_int, xor_int, max2_int, min2_int, mod_pos, fdiv_sm, mul_sm, mul_smr, Int.reduceLT, Int.reduceNeg, int_bl, int_int, sli_tup, walk_str])).trans e
    by_cases h1 : (1 : Int) ≤ x.length
    · by_cases h8 : (x.length : Int) ≤ 8
      · have hm : memq (S ++ [.lst (takenW.map .str)]) (.str x) (.ref S.length) = some (decide (x ∈ takenW)) := mem_strs (at_new _ _) (by decide +kernel) hx.sk
        refine ⟨S ++ [.lst (takenW.map .str)], runF_rt (ρ := [some (.str x), none]) rfl rfl ((seq_of h0).trans (ret_of ?_)), gr_app _ _⟩
        have a1 : 1 ≤ x.length := by omega
        have a2 : x.length ≤ 8 := by omega
        have e1 : isName x = !decide (x ∈ takenW) := by simp [isName, q, a1, a2]
        simp only [ev_var, ev_con, ev_bin, ev_un, ev_anil, ev_acons, ev_call, ev_tup, ev_lst, ev_not, ev_and, ev_or, ev_if, ev_cbl, ev_btrue, ev_cand, ev_cor, ev_cnot, ev_sli, ev_onone, ev_osome, ev_chain, ev_meth, ev_get2, ev_newK, ev_newT, ev_own, ev_nil, ev_seq, ev_expr, ev_set, ev_ret, ev_retN, ev_cif, ev_brk, ev_ct, ev_asg, ev_put, ev_aug, ev_for, ev_comp, ev_newL, ev_iseq, ev_irange, ev_ienum, ev_yes, Out.bind_ok, Out.bindN_ok, bindS_ok, Tg.set, Tg.sets, List.getElem?_cons_zero, List.getElem?_cons_succ, List.set_cons_zero, List.set_cons_succ, wipeE, List.length_cons, List.length_nil, Nat.reduceAdd, Nat.reduceLeDiff, Nat.reduceEqDiff, ↓reduceIte, Bool.false_eq_true, decide_eq_true_eq, add_int, sub_int, lt_int, gt_int, le_int, ge_int, neg_int, and_int, or_int, xor_int, max2_int, min2_int, mod_pos, fdiv_sm, mul_sm, mul_smr, Int.reduceLT, Int.reduceNeg, int_bl, int_int, sli_tup, hl, h1, h8, decide_true, taken_run, ninD, hm, e1]
      · refine ⟨S, runF_rt (ρ := [some (.str x), none]) rfl rfl ((seq_of h0).trans (ret_of ?_)), .refl _⟩
        have a2 : ¬ x.length ≤ 8 := by omega
        have e1 : isName x = false := by simp [isName, a2]
        simp only [ev_var, ev_con, ev_bin, ev_un, ev_anil, ev_acons, ev_call, ev_tup, ev_lst, ev_not, ev_and, ev_or, ev_if, ev_cbl, ev_btrue, ev_cand, ev_cor, ev_cnot, ev_sli, ev_onone, ev_osome, ev_chain, ev_meth, ev_get2, ev_newK, ev_newT, ev_own, ev_nil, ev_seq, ev_expr, ev_set, ev_ret, ev_retN, ev_cif, ev_brk, ev_ct, ev_asg, ev_put, ev_aug, ev_for, ev_comp, ev_newL, ev_iseq, ev_irange, ev_ienum, ev_yes, Out.bind_ok, Out.bindN_ok, bindS_ok, Tg.set, Tg.sets, List.getElem?_cons_zero, List.getElem?_cons_succ, List.set_cons_zero, List.set_cons_succ, wipeE, List.length_cons, List.length_nil, Nat.reduceAdd, Nat.reduceLeDiff, Nat.reduceEqDiff, ↓reduceIte, Bool.false_eq_true, decide_eq_true_eq, add_int, sub_int, lt_int, gt_int, le_int, ge_int, neg_int, and_int, or_int, xor_int, max2_int, min2_int, mod_pos, fdiv_sm, mul_sm, mul_smr, Int.reduceLT, Int.reduceNeg, int_bl, int_int, sli_tup, hl, h1, h8, decide_true, decide_false, e1]
    · refine ⟨S, runF_rt (ρ := [some (.str x), none]) rfl rfl ((seq_of h0).trans (ret_of ?_)), .refl _⟩
      have a2 : decide (1 ≤ x.length) = false := by rw [decide_eq_false_iff_not]; omega
      have e1 : isName x = false := by rw [isName, a2]; rfl
      simp only [ev_var, ev_con, ev_bin, ev_un, ev_anil, ev_acons, ev_call, ev_tup, ev_lst, ev_not, ev_and, ev_or, ev_if, ev_cbl, ev_btrue, ev_cand, ev_cor, ev_cnot, ev_sli, ev_onone, ev_osome, ev_chain, ev_meth, ev_get2, ev_newK, ev_newT, ev_own, ev_nil, ev_seq, ev_expr, ev_set, ev_ret, ev_retN, ev_cif, ev_brk, ev_ct, ev_asg, ev_put, ev_aug, ev_for, ev_comp, ev_newL, ev_iseq, ev_irange, ev_ienum, ev_yes, Out.bind_ok, Out.bindN_ok, bindS_ok, Tg.set, Tg.sets, List.getElem?_cons_zero, List.getElem?_cons_succ, List.set_cons_zero, List.set_cons_succ, wipeE, List.length_cons, List.length_nil, Nat.reduceAdd, Nat.reduceLeDiff, Nat.reduceEqDiff, ↓reduceIte, Bool.false_eq_true, decide_eq_true_eq, add_int, sub_int, lt_int, gt_int, le_int, ge_int, neg_int, and_int, or_int, xor_int, max2_int, min2_int, mod_pos, fdiv_sm, mul_sm, mul_smr, Int.reduceLT, Int.reduceNeg, int_bl, int_int, sli_tup, hl, h1, decide_false, e1]
  · refine ⟨S, runF_rt (ρ := [some (.str x), none]) rfl rfl (seq_rt ((for_of (by simp only [ev_var, ev_con, ev_bin, ev_un, ev_anil, ev_acons, ev_call, ev_tup, ev_lst, ev_not, ev_and, ev_or, ev_if, ev_cbl, ev_btrue, ev_cand, ev_cor, ev_cnot, ev_sli, ev_onone, ev_osome, ev_chain, ev_meth, ev_get2, ev_newK, ev_newT, ev_own, ev_nil, ev_seq, ev_expr, ev_set, ev_ret, ev_retN, ev_cif, ev_brk, ev_ct, ev_asg, ev_put, ev_aug, ev_for, ev_comp, ev_newL, ev_iseq, ev_irange, ev_ienum, ev_yes, Out.bind_ok, Out.bindN_ok, bindS_ok, Tg.set, Tg.sets, List.getElem?_cons_zero, List.getElem?_cons_succ, List.set_cons_zero, List.set_cons_succ, wipeE, List.length_cons, List.length_nil, Nat.reduceAdd, Nat.reduceLeDiff, Nat.reduceEqDiff, ↓reduceIte, Bool.false_eq_true, decide_eq_true_eq, add_int, sub_int, lt_int, gt_int, le_int, ge_int, neg_int, and_int, or_int, xor_int, max2_int, min2_int, mod_pos, fdiv_sm, mul_sm, mul_smr, Int.reduceLT, Int.reduceNeg, int_bl, int_int, sli_tup, walk_str]; rfl)).trans (e.trans ?_))), .refl _⟩
    have e1 : isName x = false := by simp [isName, q]
    rw [e1]
def oth : Str := "0123456789 !\"#$&'()*+,-./:;<=>?@ABCDEFGHIJKLMNOPQRSTUVWXYZ[\\]^_`{|}~"
theorem sign_run {k : Nat} {S : Sto} {c w : Int} : ∃ n, n < 1114112 ∧ F (k + 1) .l_sign [.int c, .int w] S = .ok (.str ⟨#[n]⟩) S := by
  have ha : ((abc.length : Nat) : Int) = 26 := by decide
  have ho : ((oth.length : Nat) : Int) = 68 := by decide +kernel
  have hal : abc.length ≤ sizeLine := sline _ (by omega)
  have hol : oth.length ≤ sizeLine := sline _ (by omega)
  obtain ⟨n1, h1, e1⟩ := idx_smod (S := S) ha (by omega) hal (c / 5)
  obtain ⟨n2, h2, e2⟩ := idx_smod (S := S) ho (by omega) hol (c / 5)
  have ol : ∀ c ∈ oth.cps.toList, c < 1114112 := by
    have : oth.cps.toList.all (fun c => decide (c < 1114112)) = true := by decide +kernel
    intro c hc
    exact of_decide_eq_true (List.all_eq_true.mp this c hc)
  have ea : ("abcdefghijklmnopqrstuvwxyz" : Str) = abc := rfl
  have eo : ("0123456789 !\"#$&'()*+,-./:;<=>?@ABCDEFGHIJKLMNOPQRSTUVWXYZ[\\]^_`{|}~" : Str) = oth := rfl
  rw [F_l_sign]
  by_cases q : w = 0 ∨ c % 5 < 4
  · refine ⟨n1, abc_lt n1 h1, runF_rt (ρ := [some (.int c), some (.int w), none, none]) rfl rfl ?_⟩
    unfold c_l_sign
    rw [ea, eo]
    refine (seq_of (set_of rfl)).trans ?_
    refine (seq_of (set_of rfl)).trans ?_
    refine (seq_rt ((if_t (S' := S) ?_).trans (ret_of (by simp only [ev_var, ev_con, ev_bin, ev_un, ev_anil, ev_acons, ev_call, ev_tup, ev_lst, ev_not, ev_and, ev_or, ev_if, ev_cbl, ev_btrue, ev_cand, ev_cor, ev_cnot, ev_sli, ev_onone, ev_osome, ev_chain, ev_meth, ev_get2, ev_newK, ev_newT, ev_own, ev_nil, ev_seq, ev_expr, ev_set, ev_ret, ev_retN, ev_cif, ev_brk, ev_ct, ev_asg, ev_put, ev_aug, ev_for, ev_comp, ev_newL, ev_iseq, ev_irange, ev_ienum, ev_yes, Out.bind_ok, Out.bindN_ok, bindS_ok, Tg.set, Tg.sets, List.getElem?_cons_zero, List.getElem?_cons_succ, List.set_cons_zero, List.set_cons_succ, wipeE, List.length_cons, List.length_nil, Nat.reduceAdd, Nat.reduceLeDiff, Nat.reduceEqDiff, ↓reduceIte, Bool.false_eq_true, decide_eq_true_eq, add_int, sub_int, lt_int, gt_int, le_int, ge_int, neg_int, and_int, or_int, xor_int, max2_int, min2_int, mod_pos, fdiv_sm, mul_sm, mul_smr, Int.reduceLT, Int.reduceNeg, int_bl, int_int, sli_tup, e1])))).trans rfl
    by_cases q1 : w = 0
    · simp only [ev_var, ev_con, ev_bin, ev_un, ev_anil, ev_acons, ev_call, ev_tup, ev_lst, ev_not, ev_and, ev_or, ev_if, ev_cbl, ev_btrue, ev_cand, ev_cor, ev_cnot, ev_sli, ev_onone, ev_osome, ev_chain, ev_meth, ev_get2, ev_newK, ev_newT, ev_own, ev_nil, ev_seq, ev_expr, ev_set, ev_ret, ev_retN, ev_cif, ev_brk, ev_ct, ev_asg, ev_put, ev_aug, ev_for, ev_comp, ev_newL, ev_iseq, ev_irange, ev_ienum, ev_yes, Out.bind_ok, Out.bindN_ok, bindS_ok, Tg.set, Tg.sets, List.getElem?_cons_zero, List.getElem?_cons_succ, List.set_cons_zero, List.set_cons_succ, wipeE, List.length_cons, List.length_nil, Nat.reduceAdd, Nat.reduceLeDiff, Nat.reduceEqDiff, ↓reduceIte, Bool.false_eq_true, decide_eq_true_eq, add_int, sub_int, lt_int, gt_int, le_int, ge_int, neg_int, and_int, or_int, xor_int, max2_int, min2_int, mod_pos, fdiv_sm, mul_sm, mul_smr, Int.reduceLT, Int.reduceNeg, int_bl, int_int, sli_tup, eq_int, q1, decide_true]
    · have q2 : c % 5 < 4 := q.resolve_left q1
      simp only [ev_var, ev_con, ev_bin, ev_un, ev_anil, ev_acons, ev_call, ev_tup, ev_lst, ev_not, ev_and, ev_or, ev_if, ev_cbl, ev_btrue, ev_cand, ev_cor, ev_cnot, ev_sli, ev_onone, ev_osome, ev_chain, ev_meth, ev_get2, ev_newK, ev_newT, ev_own, ev_nil, ev_seq, ev_expr, ev_set, ev_ret, ev_retN, ev_cif, ev_brk, ev_ct, ev_asg, ev_put, ev_aug, ev_for, ev_comp, ev_newL, ev_iseq, ev_irange, ev_ienum, ev_yes, Out.bind_ok, Out.bindN_ok, bindS_ok, Tg.set, Tg.sets, List.getElem?_cons_zero, List.getElem?_cons_succ, List.set_cons_zero, List.set_cons_succ, wipeE, List.length_cons, List.length_nil, Nat.reduceAdd, Nat.reduceLeDiff, Nat.reduceEqDiff, ↓reduceIte, Bool.false_eq_true, decide_eq_true_eq, add_int, sub_int, lt_int, gt_int, le_int, ge_int, neg_int, and_int, or_int, xor_int, max2_int, min2_int, mod_pos, fdiv_sm, mul_sm, mul_smr, Int.reduceLT, Int.reduceNeg, int_bl, int_int, sli_tup, eq_int, q1, q2, decide_true, decide_false]
  · have q1 : ¬ w = 0 := fun z => q (.inl z)
    have q2 : ¬ c % 5 < 4 := fun z => q (.inr z)
    refine ⟨n2, ol n2 h2, runF_rt (ρ := [some (.int c), some (.int w), none, none]) rfl rfl ?_⟩
    unfold c_l_sign
    rw [ea, eo]
    refine (seq_of (set_of rfl)).trans ?_
    refine (seq_of (set_of rfl)).trans ?_
    refine (seq_of ((if_f (S' := S) ?_).trans rfl)).trans (ret_of (by simp only [ev_var, ev_con, ev_bin, ev_un, ev_anil, ev_acons, ev_call, ev_tup, ev_lst, ev_not, ev_and, ev_or, ev_if, ev_cbl, ev_btrue, ev_cand, ev_cor, ev_cnot, ev_sli, ev_onone, ev_osome, ev_chain, ev_meth, ev_get2, ev_newK, ev_newT, ev_own, ev_nil, ev_seq, ev_expr, ev_set, ev_ret, ev_retN, ev_cif, ev_brk, ev_ct, ev_asg, ev_put, ev_aug, ev_for, ev_comp, ev_newL, ev_iseq, ev_irange, ev_ienum, ev_yes, Out.bind_ok, Out.bindN_ok, bindS_ok, Tg.set, Tg.sets, List.getElem?_cons_zero, List.getElem?_cons_succ, List.set_cons_zero, List.set_cons_succ, wipeE, List.length_cons, List.length_nil, Nat.reduceAdd, Nat.reduceLeDiff, Nat.reduceEqDiff, ↓reduceIte, Bool.false_eq_true, decide_eq_true_eq, add_int, sub_int, lt_int, gt_int, le_int, ge_int, neg_int, and_int, or_int, xor_int, max2_int, min2_int, mod_pos, fdiv_sm, mul_sm, mul_smr, Int.reduceLT, Int.reduceNeg, int_bl, int_int, sli_tup, e2]))
    simp only [ev_var, ev_con, ev_bin, ev_un, ev_anil, ev_acons, ev_call, ev_tup, ev_lst, ev_not, ev_and, ev_or, ev_if, ev_cbl, ev_btrue, ev_cand, ev_cor, ev_cnot, ev_sli, ev_onone, ev_osome, ev_chain, ev_meth, ev_get2, ev_newK, ev_newT, ev_own, ev_nil, ev_seq, ev_expr, ev_set, ev_ret, ev_retN, ev_cif, ev_brk, ev_ct, ev_asg, ev_put, ev_aug, ev_for, ev_comp, ev_newL, ev_iseq, ev_irange, ev_ienum, ev_yes, Out.bind_ok, Out.bindN_ok, bindS_ok, Tg.set, Tg.sets, List.getElem?_cons_zero, List.getElem?_cons_succ, List.set_cons_zero, List.set_cons_succ, wipeE, List.length_cons, List.length_nil, Nat.reduceAdd, Nat.reduceLeDiff, Nat.reduceEqDiff, ↓reduceIte, Bool.false_eq_true, decide_eq_true_eq, add_int, sub_int, lt_int, gt_int, le_int, ge_int, neg_int, and_int, or_int, xor_int, max2_int, min2_int, mod_pos, fdiv_sm, mul_sm, mul_smr, Int.reduceLT, Int.reduceNeg, int_bl, int_int, sli_tup, eq_int, q1, q2, decide_false]

theorem TextOk.app {x : Str} {n : Nat} (h : Sk x) (hl : x.length ≤ 19) (hn : n < 1114112) : TextOk (x ++ ⟨#[n]⟩) := by
  refine ⟨sk_app h (sk_of fun c hc => ?_), ?_⟩
  · simp at hc; subst hc; exact hn
  · rw [strlen_app]; show x.length + 1 ≤ 20; omega
theorem taken_ok : ∀ t ∈ takenW, Sk t ∧ t.length ≤ 8 ∧ TextOk (L2.cutS t none (some (-1))) := by
  have : takenW.all (fun t => PyData.strOk t && decide (t.length ≤ 8) && PyData.strOk (L2.cutS t none (some (-1))) && decide ((L2.cutS t none (some (-1))).length ≤ 20)) = true := by decide +kernel
  intro t ht
  have := List.all_eq_true.mp this t ht
  simp only [Bool.and_eq_true, decide_eq_true_eq] at this
  exact ⟨this.1.1.1, this.1.1.2, this.1.2, this.2⟩
theorem ds_at {S : Sto} {l i : Nat} {ds : List Int} (h : S[l]? = some (.lst (ds.map .int))) (hi : i < ds.length) : idxD (.ref l) (.int (i : Nat)) S = .ok (.int ds[i]) S :=
  idx_ref h (atI_nat (by rw [List.getElem?_map, List.getElem?_eq_getElem hi]; rfl))
theorem text_run {k l : Nat} {S : Sto} {ds : List Int} (h : S[l]? = some (.lst (ds.map .int))) (hl : ds.length = 13) : ∃ x S', F (k + 2) .l_text [.ref l] S = .ok (.str x) S' ∧ Gr S S' ∧ TextOk x := by
  have d0 : ∀ {S' : Sto}, Gr S S' → idxD (.ref l) (.int 0) S' = .ok (.int (ds[0]'(by omega))) S' := fun g => ds_at (i := 0) (g.at h) (by omega)
  have d1 : ∀ {S' : Sto}, Gr S S' → idxD (.ref l) (.int 1) S' = .ok (.int (ds[1]'(by omega))) S' := fun g => ds_at (i := 1) (g.at h) (by omega)
  have d2 : ∀ {S' : Sto}, Gr S S' → idxD (.ref l) (.int 2) S' = .ok (.int (ds[2]'(by omega))) S' := fun g => ds_at (i := 2) (g.at h) (by omega)
  have d3 : ∀ {S' : Sto}, Gr S S' → idxD (.ref l) (.int 3) S' = .ok (.int (ds[3]'(by omega))) S' := fun g => ds_at (i := 3) (g.at h) (by omega)
  rw [F_l_text]
  by_cases q : ds[0]'(by omega) % 3 = 2
  · have g1 := gr_app S [.lst (takenW.map .str)]
    obtain ⟨w, hw, ew⟩ := atI_mod (xs := takenW.map Dv.str) (by decide) (ds[1]'(by omega))
    obtain ⟨t, ht, rfl⟩ := List.mem_map.mp hw
    have ew' : idxD (.ref S.length) (.int (ds[1]'(by omega) % 12)) (S ++ [.lst (takenW.map .str)]) = .ok (.str t) (S ++ [.lst (takenW.map .str)]) := idx_ref (at_new _ _) ew
    obtain ⟨h1, h2, h3⟩ := taken_ok t ht
    obtain ⟨n, hn, en⟩ := sign_run (k := k) (S := S ++ [.lst (takenW.map .str)]) (c := ds[3]'(by omega)) (w := 0)
    obtain ⟨u, hu, eu⟩ := atI_mod (xs := ([t, t, t ++ ⟨#[n]⟩, L2.cutS t none (some (-1))] : List Str).map Dv.str) (by simp) (ds[2]'(by omega))
    obtain ⟨z, hz, rfl⟩ := List.mem_map.mp hu
    have hzo : TextOk z := by
      have h1' : TextOk t := ⟨h1, by omega⟩
      simp only [List.mem_cons, List.not_mem_nil, or_false] at hz
      rcases hz with rfl | rfl | rfl | rfl
      · exact h1'
      · exact h1'
      · exact .app h1 (by omega) hn
      · exact h3
    have ez : ([.str t, .str t, .str (t ++ ⟨#[n]⟩), .str (L2.cutS t none (some (-1)))] : List Dv) = ([t, t, t ++ ⟨#[n]⟩, L2.cutS t none (some (-1))] : List Str).map Dv.str := rfl
    have g2 := g1.trans (gr_app (S ++ [.lst (takenW.map .str)]) [.lst (([t, t, t ++ ⟨#[n]⟩, L2.cutS t none (some (-1))] : List Str).map Dv.str)])
    refine ⟨z, _, runF_rt (ρ := [some (.ref l), none, none, none]) rfl rfl ?_, g2, hzo⟩
    unfold c_l_text
    refine (seq_rt ((if_t (S' := S) ?_).trans ?_)).trans rfl
    · simp only [ev_var, ev_con, ev_bin, ev_un, ev_anil, ev_acons, ev_call, ev_tup, ev_lst, ev_not, ev_and, ev_or, ev_if, ev_cbl, ev_btrue, ev_cand, ev_cor, ev_cnot, ev_sli, ev_onone, ev_osome, ev_chain, ev_meth, ev_get2, ev_newK, ev_newT, ev_own, ev_nil, ev_seq, ev_expr, ev_set, ev_ret, ev_retN, ev_cif, ev_brk, ev_ct, ev_asg, ev_put, ev_aug, ev_for, ev_comp, ev_newL, ev_iseq, ev_irange, ev_ienum, ev_yes, Out.bind_ok, Out.bindN_ok, bindS_ok, Tg.set, Tg.sets, List.getElem?_cons_zero, List.getElem?_cons_succ, List.set_cons_zero, List.set_cons_succ, wipeE, List.length_cons, List.length_nil, Nat.reduceAdd, Nat.reduceLeDiff, Nat.reduceEqDiff, ↓reduceIte, Bool.false_eq_true, decide_eq_true_eq, add_int, sub_int, lt_int, gt_int, le_int, ge_int, neg_int, and_int, or_int, xor_int, max2_int, min2_int, mod_pos, fdiv_sm, mul_sm, mul_smr, Int.reduceLT, Int.reduceNeg, int_bl, int_int, sli_tup, d0 (.refl _), eq_int, q, decide_true]
    · refine (seq_of (set_of (d := .str t) (S' := S ++ [.lst (takenW.map .str)]) ?_)).trans (ret_of ?_)
      · simp only [ev_var, ev_con, ev_bin, ev_un, ev_anil, ev_acons, ev_call, ev_tup, ev_lst, ev_not, ev_and, ev_or, ev_if, ev_cbl, ev_btrue, ev_cand, ev_cor, ev_cnot, ev_sli, ev_onone, ev_osome, ev_chain, ev_meth, ev_get2, ev_newK, ev_newT, ev_own, ev_nil, ev_seq, ev_expr, ev_set, ev_ret, ev_retN, ev_cif, ev_brk, ev_ct, ev_asg, ev_put, ev_aug, ev_for, ev_comp, ev_newL, ev_iseq, ev_irange, ev_ienum, ev_yes, Out.bind_ok, Out.bindN_ok, bindS_ok, Tg.set, Tg.sets, List.getElem?_cons_zero, List.getElem?_cons_succ, List.set_cons_zero, List.set_cons_succ, wipeE, List.length_cons, List.length_nil, Nat.reduceAdd, Nat.reduceLeDiff, Nat.reduceEqDiff, ↓reduceIte, Bool.false_eq_true, decide_eq_true_eq, add_int, sub_int, lt_int, gt_int, le_int, ge_int, neg_int, and_int, or_int, xor_int, max2_int, min2_int, mod_pos, fdiv_sm, mul_sm, mul_smr, Int.reduceLT, Int.reduceNeg, int_bl, int_int, sli_tup, d1 g1, taken_run, ew']
      · have eu' : idxD (.ref (S ++ [Ob.lst (takenW.map .str)]).length) (.int (ds[2]'(by omega) % 4)) (S ++ [.lst (takenW.map .str)] ++ [.lst (([t, t, t ++ ⟨#[n]⟩, L2.cutS t none (some (-1))] : List Str).map Dv.str)]) = .ok (.str z) _ := idx_ref (at_new _ _) eu
        have ha : addD (.str t) (.str ⟨#[n]⟩) (S ++ [.lst (takenW.map .str)]) = .ok (.str (t ++ ⟨#[n]⟩)) (S ++ [.lst (takenW.map .str)]) := add_str (sline _ (by show t.length + 1 ≤ _; omega))
        have hs : sliD (.str t) none (some (-1)) (S ++ [.lst (takenW.map .str)]) = .ok (.str (L2.cutS t none (some (-1)))) (S ++ [.lst (takenW.map .str)]) := by simp only [sliD, sl20 (show t.length ≤ 20 by omega), ↓reduceIte]
        have s4 : (([t, t, t ++ ⟨#[n]⟩, L2.cutS t none (some (-1))] : List Str).map Dv.str).length ≤ sizeLine := sline 4 (by omega)
        simp only [ev_var, ev_con, ev_bin, ev_un, ev_anil, ev_acons, ev_call, ev_tup, ev_lst, ev_not, ev_and, ev_or, ev_if, ev_cbl, ev_btrue, ev_cand, ev_cor, ev_cnot, ev_sli, ev_onone, ev_osome, ev_chain, ev_meth, ev_get2, ev_newK, ev_newT, ev_own, ev_nil, ev_seq, ev_expr, ev_set, ev_ret, ev_retN, ev_cif, ev_brk, ev_ct, ev_asg, ev_put, ev_aug, ev_for, ev_comp, ev_newL, ev_iseq, ev_irange, ev_ienum, ev_yes, Out.bind_ok, Out.bindN_ok, bindS_ok, Tg.set, Tg.sets, List.getElem?_cons_zero, List.getElem?_cons_succ, List.set_cons_zero, List.set_cons_succ, wipeE, List.length_cons, List.length_nil, Nat.reduceAdd, Nat.reduceLeDiff, Nat.reduceEqDiff, ↓reduceIte, Bool.false_eq_true, decide_eq_true_eq, add_int, sub_int, lt_int, gt_int, le_int, ge_int, neg_int, and_int, or_int, xor_int, max2_int, min2_int, mod_pos, fdiv_sm, mul_sm, mul_smr, Int.reduceLT, Int.reduceNeg, int_bl, int_int, sli_tup, d3 g1, d2 g2, en, ha, hs, s4, ez, eu']
  · have m0 := Int.emod_nonneg (ds[0]'(by omega) / 3) (b := 11) (by omega)
    have m1 := Int.emod_lt_of_pos (ds[0]'(by omega) / 3) (b := 11) (by omega)
    obtain ⟨ρ', S', e, v2, x, rfl, rfl, hxl, hxs⟩ := loop_all (ck := Ck.tt.ok) (t := .nm 2) (b := b_l_text_1 (F (k + 1))) (S := S) (ρ := [some (.ref l), some (.str ""), none, none])
      (fun i ρ S' => ∃ (v2 : Option Dv) (x : Str), ρ = [some (.ref l), some (.str x), v2, none] ∧ S' = S ∧ x.length = i ∧ Sk x) (rangeL 0 (ds[0]'(by omega) / 3 % 11))
      ⟨none, "", rfl, rfl, rfl, by decide +kernel⟩
      (fun i v ρ S1 hv ⟨v2, x, hρ, hS, hx, hk⟩ => by
        subst hρ hS
        obtain ⟨rfl, hlt⟩ := rangeL_get hv
        refine ⟨trivial, _, rfl, ?_⟩
        obtain ⟨n, hn, en⟩ := sign_run (k := k) (S := S1) (c := ds[2 + i]'(by omega)) (w := ds[1]'(by omega) % 2)
        have di : idxD (.ref l) (.int (2 + (0 + (i : Int)))) S1 = .ok (.int (ds[2 + i]'(by omega))) S1 := by
          have := ds_at (i := 2 + i) h (by omega)
          rw [show (2 + (0 + (i : Int))) = ((2 + i : Nat) : Int) by omega]
          exact this
        have ha : addD (.str x) (.str ⟨#[n]⟩) S1 = .ok (.str (x ++ ⟨#[n]⟩)) S1 := add_str (sline _ (by show x.length + 1 ≤ _; omega))
        refine ⟨[some (.ref l), some (.str (x ++ ⟨#[n]⟩)), some (.int (0 + i)), none], S1, .inl (set_of ?_), _, _, rfl, rfl, ?_, (TextOk.app hk (by omega) hn).sk⟩
        · simp only [ev_var, ev_con, ev_bin, ev_un, ev_anil, ev_acons, ev_call, ev_tup, ev_lst, ev_not, ev_and, ev_or, ev_if, ev_cbl, ev_btrue, ev_cand, ev_cor, ev_cnot, ev_sli, ev_onone, ev_osome, ev_chain, ev_meth, ev_get2, ev_newK, ev_newT, ev_own, ev_nil, ev_seq, ev_expr, ev_set, ev_ret, ev_retN, ev_cif, ev_brk, ev_ct, ev_asg, ev_put, ev_aug, ev_for, ev_comp, ev_newL, ev_iseq, ev_irange, ev_ienum, ev_yes, Out.bind_ok, Out.bindN_ok, bindS_ok, Tg.set, Tg.sets, List.getElem?_cons_zero, List.getElem?_cons_succ, List.set_cons_zero, List.set_cons_succ, wipeE, List.length_cons, List.length_nil, Nat.reduceAdd, Nat.reduceLeDiff, Nat.reduceEqDiff, ↓reduceIte, Bool.false_eq_true, decide_eq_true_eq, add_int, sub_int, lt_int, gt_int, le_int, ge_int, neg_int, and_int, or_int, xor_int, max2_int, min2_int, mod_pos, fdiv_sm, mul_sm, mul_smr, Int.reduceLT, Int.reduceNeg, int_bl, int_int, sli_tup, di, d1 (.refl _), en, ha]
        · rw [strlen_app, hx]; rfl)
      (fun _ _ _ => trivial)
    rw [rangeL_len] at hxl
    refine ⟨x, S', runF_rt (ρ := [some (.ref l), none, none, none]) rfl rfl ?_, .refl _, ⟨hxs, by omega⟩⟩
    unfold c_l_text
    refine (seq_of ((if_f (S' := S') ?_).trans rfl)).trans ?_
    · simp only [ev_var, ev_con, ev_bin, ev_un, ev_anil, ev_acons, ev_call, ev_tup, ev_lst, ev_not, ev_and, ev_or, ev_if, ev_cbl, ev_btrue, ev_cand, ev_cor, ev_cnot, ev_sli, ev_onone, ev_osome, ev_chain, ev_meth, ev_get2, ev_newK, ev_newT, ev_own, ev_nil, ev_seq, ev_expr, ev_set, ev_ret, ev_retN, ev_cif, ev_brk, ev_ct, ev_asg, ev_put, ev_aug, ev_for, ev_comp, ev_newL, ev_iseq, ev_irange, ev_ienum, ev_yes, Out.bind_ok, Out.bindN_ok, bindS_ok, Tg.set, Tg.sets, List.getElem?_cons_zero, List.getElem?_cons_succ, List.set_cons_zero, List.set_cons_succ, wipeE, List.length_cons, List.length_nil, Nat.reduceAdd, Nat.reduceLeDiff, Nat.reduceEqDiff, ↓reduceIte, Bool.false_eq_true, decide_eq_true_eq, add_int, sub_int, lt_int, gt_int, le_int, ge_int, neg_int, and_int, or_int, xor_int, max2_int, min2_int, mod_pos, fdiv_sm, mul_sm, mul_smr, Int.reduceLT, Int.reduceNeg, int_bl, int_int, sli_tup, d0 (.refl _), eq_int, q, decide_false]
    refine (seq_of (set_of rfl)).trans ?_
    refine (seq_of ((for_of (w := (rangeL 0 (ds[0]'(by omega) / 3 % 11), .tt)) (S' := S') ?_).trans e)).trans (ret_of rfl)
    simp only [ev_var, ev_con, ev_bin, ev_un, ev_anil, ev_acons, ev_call, ev_tup, ev_lst, ev_not, ev_and, ev_or, ev_if, ev_cbl, ev_btrue, ev_cand, ev_cor, ev_cnot, ev_sli, ev_onone, ev_osome, ev_chain, ev_meth, ev_get2, ev_newK, ev_newT, ev_own, ev_nil, ev_seq, ev_expr, ev_set, ev_ret, ev_retN, ev_cif, ev_brk, ev_ct, ev_asg, ev_put, ev_aug, ev_for, ev_comp, ev_newL, ev_iseq, ev_irange, ev_ienum, ev_yes, Out.bind_ok, Out.bindN_ok, bindS_ok, Tg.set, Tg.sets, List.getElem?_cons_zero, List.getElem?_cons_succ, List.set_cons_zero, List.set_cons_succ, wipeE, List.length_cons, List.length_nil, Nat.reduceAdd, Nat.reduceLeDiff, Nat.reduceEqDiff, ↓reduceIte, Bool.false_eq_true, decide_eq_true_eq, add_int, sub_int, lt_int, gt_int, le_int, ge_int, neg_int, and_int, or_int, xor_int, max2_int, min2_int, mod_pos, fdiv_sm, mul_sm, mul_smr, Int.reduceLT, Int.reduceNeg, int_bl, int_int, sli_tup, d0 (.refl _), rng1_of m0 (by omega)]
theorem cut_from {α : Type} (ds : List α) (t : Nat) : cutD ds (some (t : Int)) none = ds.drop t := by
  unfold cutD HT.sIx
  simp only [show ¬ ((t : Int) < 0) by omega, ↓reduceIte, Int.toNat_natCast]
  rcases Nat.le_total t ds.length with h | h
  · rw [Nat.min_eq_left h, List.take_of_length_le (by simp)]
  · rw [Nat.min_eq_right h, List.drop_of_length_le (Nat.le_refl _), List.drop_of_length_le h]; simp
theorem law_true (ns : List Int) (hns : ns.length ≤ 63) : ∃ S, F 40 .l_law [.fl (ns.map .int)] [] = .ok (.bl true) S := by
  obtain ⟨ρ', S', e, v1, v2, v3, rfl⟩ := loop_all (ck := Ck.tt.ok) (t := .nm 1) (b := b_l_law_1 (F 39)) (S := []) (ρ := [some (.fl (ns.map .int)), none, none, none])
    (fun i ρ S' => ∃ (v1 v2 v3 : Option Dv), ρ = [some (.fl (ns.map .int)), v1, v2, v3]) (rangeL 0 3) ⟨_, _, _, rfl⟩
    (fun i v ρ S1 hv ⟨v1, v2, v3, hρ⟩ => by
      subst hρ
      obtain ⟨rfl, hlt⟩ := rangeL_get hv
      refine ⟨trivial, _, rfl, ?_⟩
      have hs : sliD (.fl (ns.map .int)) (some (0 + (i : Int))) none S1 = .ok (.ref S1.length) (S1 ++ [.lst ((ns.drop i).map .int)]) := by
        rw [Int.zero_add]
        simp only [sliD, lstOf, cut_from, ev_newL, List.map_drop]
      obtain ⟨l, ds, S2, e1, g1, _, h1, hl, _⟩ := draws_run (S := S1 ++ [.lst ((ns.drop i).map .int)]) (d := .ref S1.length) (n := 13) (lst_ref (at_new _ _)) (by omega) (by rw [List.length_drop]; omega)
      have e1' : F 39 .l_draws [.ref S1.length, .int 13] (S1 ++ [.lst ((ns.drop i).map .int)]) = .ok (.ref l) S2 := e1
      obtain ⟨x, S3, e3, g3, ok⟩ := text_run (k := 37) h1 hl
      obtain ⟨S4, e4, g4⟩ := due_run (k := 37) (S := S3) ok
      refine ⟨[some (.fl (ns.map .int)), some (.int (0 + i)), some (.str x), some (.bl (isName x))], S4, .inl ?_, _, _, _, rfl⟩
      unfold b_l_law_1
      refine (seq_of (set_of (d := .str x) (S' := S3) (by simp only [ev_var, ev_con, ev_bin, ev_un, ev_anil, ev_acons, ev_call, ev_tup, ev_lst, ev_not, ev_and, ev_or, ev_if, ev_cbl, ev_btrue, ev_cand, ev_cor, ev_cnot, ev_sli, ev_onone, ev_osome, ev_chain, ev_meth, ev_get2, ev_newK, ev_newT, ev_own, ev_nil, ev_seq, ev_expr, ev_set, ev_ret, ev_retN, ev_cif, ev_brk, ev_ct, ev_asg, ev_put, ev_aug, ev_for, ev_comp, ev_newL, ev_iseq, ev_irange, ev_ienum, ev_yes, Out.bind_ok, Out.bindN_ok, bindS_ok, Tg.set, Tg.sets, List.getElem?_cons_zero, List.getElem?_cons_succ, List.set_cons_zero, List.set_cons_succ, wipeE, List.length_cons, List.length_nil, Nat.reduceAdd, Nat.reduceLeDiff, Nat.reduceEqDiff, ↓reduceIte, Bool.false_eq_true, decide_eq_true_eq, add_int, sub_int, lt_int, gt_int, le_int, ge_int, neg_int, and_int, or_int, xor_int, max2_int, min2_int, mod_pos, fdiv_sm, mul_sm, mul_smr, Int.reduceLT, Int.reduceNeg, int_bl, int_int, sli_tup, hs, e1', e3]))).trans ?_
      refine (seq_of (set_of (d := .bl (isName x)) (S' := S3) (by simp only [ev_var, ev_con, ev_bin, ev_un, ev_anil, ev_acons, ev_call, ev_tup, ev_lst, ev_not, ev_and, ev_or, ev_if, ev_cbl, ev_btrue, ev_cand, ev_cor, ev_cnot, ev_sli, ev_onone, ev_osome, ev_chain, ev_meth, ev_get2, ev_newK, ev_newT, ev_own, ev_nil, ev_seq, ev_expr, ev_set, ev_ret, ev_retN, ev_cif, ev_brk, ev_ct, ev_asg, ev_put, ev_aug, ev_for, ev_comp, ev_newL, ev_iseq, ev_irange, ev_ienum, ev_yes, Out.bind_ok, Out.bindN_ok, bindS_ok, Tg.set, Tg.sets, List.getElem?_cons_zero, List.getElem?_cons_succ, List.set_cons_zero, List.set_cons_succ, wipeE, List.length_cons, List.length_nil, Nat.reduceAdd, Nat.reduceLeDiff, Nat.reduceEqDiff, ↓reduceIte, Bool.false_eq_true, decide_eq_true_eq, add_int, sub_int, lt_int, gt_int, le_int, ge_int, neg_int, and_int, or_int, xor_int, max2_int, min2_int, mod_pos, fdiv_sm, mul_sm, mul_smr, Int.reduceLT, Int.reduceNeg, int_bl, int_int, sli_tup, is_name_run (k := 38) ok]))).trans ?_
      refine (if_f (S' := S4) ?_).trans rfl
      have i1 : isiD "bool" (.bl (isName x)) S3 = .ok (.bl true) S3 := rfl
      simp only [ev_var, ev_con, ev_bin, ev_un, ev_anil, ev_acons, ev_call, ev_tup, ev_lst, ev_not, ev_and, ev_or, ev_if, ev_cbl, ev_btrue, ev_cand, ev_cor, ev_cnot, ev_sli, ev_onone, ev_osome, ev_chain, ev_meth, ev_get2, ev_newK, ev_newT, ev_own, ev_nil, ev_seq, ev_expr, ev_set, ev_ret, ev_retN, ev_cif, ev_brk, ev_ct, ev_asg, ev_put, ev_aug, ev_for, ev_comp, ev_newL, ev_iseq, ev_irange, ev_ienum, ev_yes, Out.bind_ok, Out.bindN_ok, bindS_ok, Tg.set, Tg.sets, List.getElem?_cons_zero, List.getElem?_cons_succ, List.set_cons_zero, List.set_cons_succ, wipeE, List.length_cons, List.length_nil, Nat.reduceAdd, Nat.reduceLeDiff, Nat.reduceEqDiff, ↓reduceIte, Bool.false_eq_true, decide_eq_true_eq, add_int, sub_int, lt_int, gt_int, le_int, ge_int, neg_int, and_int, or_int, xor_int, max2_int, min2_int, mod_pos, fdiv_sm, mul_sm, mul_smr, Int.reduceLT, Int.reduceNeg, int_bl, int_int, sli_tup, i1, Bool.not_true, e4, ne_bl, decide_true])
    (fun _ _ _ => trivial)
  refine ⟨S', ?_⟩
  rw [F_l_law]
  refine runF_rt (ρ := [some (.fl (ns.map .int)), none, none, none]) rfl rfl ?_
  unfold c_l_law
  exact (seq_of ((for_of (w := (rangeL 0 3, .tt)) (S' := []) (by simp only [ev_var, ev_con, ev_bin, ev_un, ev_anil, ev_acons, ev_call, ev_tup, ev_lst, ev_not, ev_and, ev_or, ev_if, ev_cbl, ev_btrue, ev_cand, ev_cor, ev_cnot, ev_sli, ev_onone, ev_osome, ev_chain, ev_meth, ev_get2, ev_newK, ev_newT, ev_own, ev_nil, ev_seq, ev_expr, ev_set, ev_ret, ev_retN, ev_cif, ev_brk, ev_ct, ev_asg, ev_put, ev_aug, ev_for, ev_comp, ev_newL, ev_iseq, ev_irange, ev_ienum, ev_yes, Out.bind_ok, Out.bindN_ok, bindS_ok, Tg.set, Tg.sets, List.getElem?_cons_zero, List.getElem?_cons_succ, List.set_cons_zero, List.set_cons_succ, wipeE, List.length_cons, List.length_nil, Nat.reduceAdd, Nat.reduceLeDiff, Nat.reduceEqDiff, ↓reduceIte, Bool.false_eq_true, decide_eq_true_eq, add_int, sub_int, lt_int, gt_int, le_int, ge_int, neg_int, and_int, or_int, xor_int, max2_int, min2_int, mod_pos, fdiv_sm, mul_sm, mul_smr, Int.reduceLT, Int.reduceNeg, int_bl, int_int, sli_tup, rng1_of (i := 3) (by omega) (by omega)])).trans e)).trans (ret_of rfl)
end Wk

/-! the end (printed by gen.py) -/
namespace Wk
open PySem PySem.Spec PyProof.Rows L2 PL
section
variable {P : Program} {w : World} {K : PySem.W.Frag} {mg : Str → Option Value} {base : Heap} {fa : Fn → Addr} {fd : Fn → FuncData}
theorem all_mk {l : PySem.W.OpenLaw} {w : World} {K : PySem.W.Frag} {h : Heap} {mg : Str → Option Value} {fl : Addr} (X : K.In h) (G : h.Ns mainGlobals mg) (hfa : mg "law" = some (.ref fl))
    {f1 : Addr} {od1 an1 : Option Addr} {sl1 : Array (Option Value)} {oc1 kV1 dc1 pm1 cd1 ct1 : Value} (a1 : PySem.W.nsIn K mainGlobals "is_name" = some (some (.ref f1)))
    (l1 : K.lookup f1 = some ⟨oc1, od1, .func (PySem.W.fnOf "is_name" "is_name" (defArgs s_is_name) (defBody s_is_name) (defScope s_is_name) .none kV1 dc1 pm1 an1 cd1 ct1), sl1⟩) (c1 : PySem.W.codeIn K cd1 "is_name" = true) (k1 : PySem.W.keepIn K (.ref f1) = true)
    {f2 : Addr} {od2 an2 : Option Addr} {sl2 : Array (Option Value)} {oc2 kV2 dc2 pm2 cd2 ct2 : Value} (a2 : PySem.W.nsIn K mainGlobals "_law_draws" = some (some (.ref f2)))
    (l2 : K.lookup f2 = some ⟨oc2, od2, .func (PySem.W.fnOf "_law_draws" "_law_draws" (defArgs s_l_draws) (defBody s_l_draws) (defScope s_l_draws) .none kV2 dc2 pm2 an2 cd2 ct2), sl2⟩) (c2 : PySem.W.codeIn K cd2 "_law_draws" = true) (k2 : PySem.W.keepIn K (.ref f2) = true)
    {f3 : Addr} {od3 an3 : Option Addr} {sl3 : Array (Option Value)} {oc3 kV3 dc3 pm3 cd3 ct3 : Value} (a3 : PySem.W.nsIn K mainGlobals "_law_sign" = some (some (.ref f3)))
    (l3 : K.lookup f3 = some ⟨oc3, od3, .func (PySem.W.fnOf "_law_sign" "_law_sign" (defArgs s_l_sign) (defBody s_l_sign) (defScope s_l_sign) .none kV3 dc3 pm3 an3 cd3 ct3), sl3⟩) (c3 : PySem.W.codeIn K cd3 "_law_sign" = true) (k3 : PySem.W.keepIn K (.ref f3) = true)
    {f4 : Addr} {od4 an4 : Option Addr} {sl4 : Array (Option Value)} {oc4 kV4 dc4 pm4 cd4 ct4 : Value} (a4 : PySem.W.nsIn K mainGlobals "_law_taken" = some (some (.ref f4)))
    (l4 : K.lookup f4 = some ⟨oc4, od4, .func (PySem.W.fnOf "_law_taken" "_law_taken" (defArgs s_l_taken) (defBody s_l_taken) (defScope s_l_taken) .none kV4 dc4 pm4 an4 cd4 ct4), sl4⟩) (c4 : PySem.W.codeIn K cd4 "_law_taken" = true) (k4 : PySem.W.keepIn K (.ref f4) = true)
    {f5 : Addr} {od5 an5 : Option Addr} {sl5 : Array (Option Value)} {oc5 kV5 dc5 pm5 cd5 ct5 : Value} (a5 : PySem.W.nsIn K mainGlobals "_law_text" = some (some (.ref f5)))
    (l5 : K.lookup f5 = some ⟨oc5, od5, .func (PySem.W.fnOf "_law_text" "_law_text" (defArgs s_l_text) (defBody s_l_text) (defScope s_l_text) .none kV5 dc5 pm5 an5 cd5 ct5), sl5⟩) (c5 : PySem.W.codeIn K cd5 "_law_text" = true) (k5 : PySem.W.keepIn K (.ref f5) = true)
    {f6 : Addr} {od6 an6 : Option Addr} {sl6 : Array (Option Value)} {oc6 kV6 dc6 pm6 cd6 ct6 : Value} (a6 : PySem.W.nsIn K mainGlobals "_law_due" = some (some (.ref f6)))
    (l6 : K.lookup f6 = some ⟨oc6, od6, .func (PySem.W.fnOf "_law_due" "_law_due" (defArgs s_l_due) (defBody s_l_due) (defScope s_l_due) .none kV6 dc6 pm6 an6 cd6 ct6), sl6⟩) (c6 : PySem.W.codeIn K cd6 "_law_due" = true) (k6 : PySem.W.keepIn K (.ref f6) = true)
    {f7 : Addr} {od7 an7 : Option Addr} {sl7 : Array (Option Value)} {oc7 kV7 dc7 pm7 cd7 ct7 : Value} (a7 : PySem.W.nsIn K mainGlobals "law" = some (some (.ref f7)))
    (l7 : K.lookup f7 = some ⟨oc7, od7, .func (PySem.W.fnOf "law" "law" (defArgs s_l_law) (defBody s_l_law) (defScope s_l_law) .none kV7 dc7 pm7 an7 cd7 ct7), sl7⟩) (c7 : PySem.W.codeIn K cd7 "law" = true) (k7 : PySem.W.keepIn K (.ref f7) = true)
    (z_bool : PySem.W.nsIn K mainGlobals "bool" = some none)
    (z_isinstance : PySem.W.nsIn K mainGlobals "isinstance" = some none)
    (z_len : PySem.W.nsIn K mainGlobals "len" = some none)
    (z_max : PySem.W.nsIn K mainGlobals "max" = some none)
    (z_range : PySem.W.nsIn K mainGlobals "range" = some none)
    {kt_LETTERS : Tok} (v_LETTERS : PySem.W.nsIn K mainGlobals "LETTERS" = some (some (.str "abcdefghijklmnopqrstuvwxyz" kt_LETTERS)))
    {kt_LONGEST : Tok} (v_LONGEST : PySem.W.nsIn K mainGlobals "LONGEST" = some (some (.int 8 kt_LONGEST)))
    {ka_TAKEN : Addr} {kd_TAKEN : Option Addr} {ks_TAKEN : Array (Option Value)} {ki_TAKEN : Array Value} {kn_TAKEN : Nat} (v_TAKEN : PySem.W.nsIn K mainGlobals "TAKEN" = some (some (.ref ka_TAKEN))) (w_TAKEN : K.lookup ka_TAKEN = some ⟨.type "tuple", kd_TAKEN, .seq ki_TAKEN kn_TAKEN, ks_TAKEN⟩) (u_TAKEN : Cst ki_TAKEN.toList k_TAKEN)
    : ∃ fd : FuncData, (∀ (s : Shared) (v : Value), BindsTo s fd ⟨[v], []⟩ [("_law_script", v)]) ∧ ∀ base : Heap, K.In base → base.Ns mainGlobals mg → FnOk l.prog w K mg base CX0 40 fl fd ["_law_script"] (spD K mg (F 40 .l_law) 1) := by
  have e := hfa.symm.trans (PySem.W.mg_of X G a7)
  cases e
  have F1 := fun_mk (st := s_is_name) l1 c1 k1
  have b1 := F1.binds (ps := p_is_name) fun _ _ _ _ _ _ us hl => match us, hl with | [_], _ => rfl
  have F2 := fun_mk (st := s_l_draws) l2 c2 k2
  have b2 := F2.binds (ps := p_l_draws) fun _ _ _ _ _ _ us hl => match us, hl with | [_, _], _ => rfl
  have F3 := fun_mk (st := s_l_sign) l3 c3 k3
  have b3 := F3.binds (ps := p_l_sign) fun _ _ _ _ _ _ us hl => match us, hl with | [_, _], _ => rfl
  have F4 := fun_mk (st := s_l_taken) l4 c4 k4
  have b4 := F4.binds (ps := p_l_taken) fun _ _ _ _ _ _ us hl => match us, hl with | [], _ => rfl
  have F5 := fun_mk (st := s_l_text) l5 c5 k5
  have b5 := F5.binds (ps := p_l_text) fun _ _ _ _ _ _ us hl => match us, hl with | [_], _ => rfl
  have F6 := fun_mk (st := s_l_due) l6 c6 k6
  have b6 := F6.binds (ps := p_l_due) fun _ _ _ _ _ _ us hl => match us, hl with | [_], _ => rfl
  have F7 := fun_mk (st := s_l_law) l7 c7 k7
  have b7 := F7.binds (ps := p_l_law) fun _ _ _ _ _ _ us hl => match us, hl with | [_], _ => rfl
  have T : Tx K mg (fun | .is_name => f1 | .l_draws => f2 | .l_sign => f3 | .l_taken => f4 | .l_text => f5 | .l_due => f6 | .l_law => fl) (fun | .is_name => PySem.W.fnOf "is_name" "is_name" (defArgs s_is_name) (defBody s_is_name) (defScope s_is_name) .none kV1 dc1 pm1 an1 cd1 ct1 | .l_draws => PySem.W.fnOf "_law_draws" "_law_draws" (defArgs s_l_draws) (defBody s_l_draws) (defScope s_l_draws) .none kV2 dc2 pm2 an2 cd2 ct2 | .l_sign => PySem.W.fnOf "_law_sign" "_law_sign" (defArgs s_l_sign) (defBody s_l_sign) (defScope s_l_sign) .none kV3 dc3 pm3 an3 cd3 ct3 | .l_taken => PySem.W.fnOf "_law_taken" "_law_taken" (defArgs s_l_taken) (defBody s_l_taken) (defScope s_l_taken) .none kV4 dc4 pm4 an4 cd4 ct4 | .l_text => PySem.W.fnOf "_law_text" "_law_text" (defArgs s_l_text) (defBody s_l_text) (defScope s_l_text) .none kV5 dc5 pm5 an5 cd5 ct5 | .l_due => PySem.W.fnOf "_law_due" "_law_due" (defArgs s_l_due) (defBody s_l_due) (defScope s_l_due) .none kV6 dc6 pm6 an6 cd6 ct6 | .l_law => PySem.W.fnOf "law" "law" (defArgs s_l_law) (defBody s_l_law) (defScope s_l_law) .none kV7 dc7 pm7 an7 cd7 ct7) kt_LETTERS kt_LONGEST ka_TAKEN :=
    ⟨F1, PySem.W.mg_of X G a1, b1, F2, PySem.W.mg_of X G a2, b2, F3, PySem.W.mg_of X G a3, b3, F4, PySem.W.mg_of X G a4, b4, F5, PySem.W.mg_of X G a5, b5, F6, PySem.W.mg_of X G a6, b6, F7, PySem.W.mg_of X G a7, b7, PySem.W.mg_none_of X G z_bool, PySem.W.mg_none_of X G z_isinstance, PySem.W.mg_none_of X G z_len, PySem.W.mg_none_of X G z_max, PySem.W.mg_none_of X G z_range, ⟨PySem.W.mg_of X G v_LETTERS, rel_str, fun _ _ => .str _⟩, ⟨PySem.W.mg_of X G v_LONGEST, rel_int, fun _ _ => .int _⟩, ⟨PySem.W.mg_of X G v_TAKEN, rfl, fun μ H => cst_rep w_TAKEN u_TAKEN⟩⟩
  exact ⟨_, fun s v => .of_eq rfl, fun base _ _ => ok_all T 40 .l_law⟩
end
theorem walk {l : PySem.W.OpenLaw} {q : Program} {loose : List Str} {XP : (Str → Option Value) → Heap → Prop} {YP : World → Heap → Prop} {d : DefRec} {K : Params → PySem.W.Frag} (hn : l.most = some 63) (hdf : d.params.defaults = [])
    (hY : ∀ (w : World) (h : Heap), YP w h → (K w.params).In h)
    (FF : ∀ (w : World) (mg : Str → Option Value) (fa : Addr) (h : Heap), (K w.params).In h → h.Ns mainGlobals mg → mg d.name = some (.ref fa) →
      ∃ fd : FuncData, (∀ (s : Shared) (u : Value), BindsTo s fd ⟨[u], []⟩ [("_law_script", u)]) ∧ ∀ base : Heap, (K w.params).In base → base.Ns mainGlobals mg → FnOk l.prog w (K w.params) mg base CX0 40 fa fd ["_law_script"] (spD (K w.params) mg (F 40 .l_law) 1)) :
    PySem.W.WalkO q loose XP YP l.row.toRowW d [] (fun f vs => PySem.call f vs) :=
  walk_law (k := 40) (x := "_law_script") hn hdf ⟨rfl, by decide, by decide⟩ hY law_true FF
end Wk
open PySem PySem.W PyProof.Rows in
set_option maxRecDepth 100000 in
set_option maxHeartbeats 0 in
theorem PySem.Challenge.cw_pathshape_k11_names_holds : PySem.Challenge.rw_pathshape_k11_names.Holds := by
  w_on; o_law; k_head; (case hw => w_witness2)
  k_fill
  refine Wk.walk (l := PySem.Challenge.rw_pathshape_k11_names) rfl rfl (fun w h Y => PySem.W.kIn_of Y) ?FF
  case FF =>
    intro w mg fa h KX G hmg
    refine' Wk.all_mk KX G hmg ?a1 ?l1 ?c1 ?k1 ?a2 ?l2 ?c2 ?k2 ?a3 ?l3 ?c3 ?k3 ?a4 ?l4 ?c4 ?k4 ?a5 ?l5 ?c5 ?k5 ?a6 ?l6 ?c6 ?k6 ?a7 ?l7 ?c7 ?k7 ?z_bool ?z_isinstance ?z_len ?z_max ?z_range ?v_LETTERS ?v_LONGEST ?v_TAKEN ?w_TAKEN ?u_TAKEN
    (case a1 => k_is)
    (case l1 => k_is)
    (case c1 => k_is)
    (case k1 => k_is)
    (case a2 => k_is)
    (case l2 => k_is)
    (case c2 => k_is)
    (case k2 => k_is)
    (case a3 => k_is)
    (case l3 => k_is)
    (case c3 => k_is)
    (case k3 => k_is)
    (case a4 => k_is)
    (case l4 => k_is)
    (case c4 => k_is)
    (case k4 => k_is)
    (case a5 => k_is)
    (case l5 => k_is)
    (case c5 => k_is)
    (case k5 => k_is)
    (case a6 => k_is)
    (case l6 => k_is)
    (case c6 => k_is)
    (case k6 => k_is)
    (case a7 => k_is)
    (case l7 => k_is)
    (case c7 => k_is)
    (case k7 => k_is)
    (case z_bool => k_is)
    (case z_isinstance => k_is)
    (case z_len => k_is)
    (case z_max => k_is)
    (case z_range => k_is)
    (case v_LETTERS => k_is)
    (case v_LONGEST => k_is)
    (case v_TAKEN => k_is)
    (case w_TAKEN => k_is)
    (case u_TAKEN => exact ⟨_, rfl, rfl, rfl⟩)
#print axioms PySem.Challenge.cw_pathshape_k11_names_holds
