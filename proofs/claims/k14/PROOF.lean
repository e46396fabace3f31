import PyProof.Rows.All
import Wide.All
import OpenK.AllK
import Wide.FinOn
import HandS.ForMost
import HandS.Deep
import HandS.TupAny
import HandS.Wide
import HandS.WideBits
import HandS.Conv
import HandS.DictTup
import HandS.IsInst
import HandS.Flow
import HandS.More
import HandS.TupLen
import HandS.WordsDict
import HandS.CallSlots
import KE.GoesEnum
import HandS.Rev
import KE.DatumOrd
import HandS.RevRange
import KE.BitLaws
import KE.SortUse
import KE.KDictSum
import HandS.Defaults
import KE.KDictCopyH
import HandS.Exc
import HandS.ExcOwn
import HandS.ExcField
import HandS.ExcIs
import HandS.TryElse
import HandS.WordsExc
import HandS.TupLe
import HandS.ForSpec
import HandS.Replace
import HandS.ReplaceDef
import HandS.ReplaceLit
import HandS.ReplaceList
import PyProof.StrReplace2
import PyProof.ToksMono
import PySem.Challenge.RW_pathshape_k14_ways_written
set_option Elab.async false
set_option linter.all false
set_option maxRecDepth 100000
set_option maxHeartbeats 4000000
namespace PL
open PySem PySem.Spec PyProof.Rows L2

/-! ### data, store, outcomes -/
inductive Dv where
  | non | bl (b : Bool) | int (i : Int) | str (x : Str) | tup (ds : List Dv) | kt (ds : List Dv) | fl (ds : List Dv) | ref (l : Nat)
  /- an exception in an except suite, without and with an own field (at b the dict) -/
  | xa (a : Addr) | xc (a b : Addr) (f : Str) (d : Dv)
inductive Ob where
  | lst (ds : List Dv) | dk (kvs : List (L2.Key × Dv)) | dt (kvs : List (List L2.Key × Dv)) | fk (kvs : List (L2.Key × Dv)) | ft (kvs : List (List L2.Key × Dv))
abbrev Sto := List Ob
abbrev Env := List (Option Dv)
structure Ex where
  cls : Str
  fs : Option (Str × Dv)
inductive Out (α : Type) where
  | ok (a : α) (S : Sto) | ex (x : Ex) (S : Sto) | no
def Out.bind {α β : Type} : Out α → (α → Sto → Out β) → Out β
  | .ok a S, f => f a S
  | .ex x S, _ => .ex x S
  | .no, _ => .no
@[simp] theorem Out.bind_ok {α β : Type} (a : α) (S : Sto) (f : α → Sto → Out β) : (Out.ok a S).bind f = f a S := rfl
@[simp] theorem Out.bind_ex {α β : Type} (x : Ex) (S : Sto) (f : α → Sto → Out β) : (Out.ex x S : Out α).bind f = .ex x S := rfl
@[simp] theorem Out.bind_no {α β : Type} (f : α → Sto → Out β) : (Out.no : Out α).bind f = .no := rfl
/-- what is raised here is not told -/
def Out.bindN {α β : Type} : Out α → (α → Sto → Out β) → Out β
  | .ok a S, f => f a S
  | _, _ => .no
@[simp] theorem Out.bindN_ok {α β : Type} (a : α) (S : Sto) (f : α → Sto → Out β) : (Out.ok a S).bindN f = f a S := rfl
abbrev RE := Env → Sto → Out Dv
abbrev RT := Env → Sto → Out Bool
abbrev RA := Env → Sto → Out (List Dv)

/-! ### what a value stands for -/
def TupAt (μ : List Addr) (H : Hp) (a : Addr) (vs : List V) : Prop := H a = some (.tup vs) ∧ a ∉ μ
def ConAt (K : PySem.W.Frag) (a : Addr) (vs : List V) : Prop :=
  ∃ (o : Obj) (its : Array Value) (n : Nat), K.lookup a = some o ∧ o.cls = .type "tuple" ∧ o.data = .seq its n ∧ its.size ≤ sizeLine ∧ Vals vs its.toList
def LisAt (K : PySem.W.Frag) (μ : List Addr) (H : Hp) (a : Addr) (vs : List V) : Prop :=
  ((∃ o, H a = some (.frz o (.lst vs))) ∧ a ∉ μ) ∨ ∃ (o : Obj) (its : Array Value) (n : Nat), K.lookup a = some o ∧ o.cls = .type "list" ∧ o.dict = none ∧ o.data = .seq its n ∧ its.size ≤ sizeLine ∧ Vals vs its.toList
inductive Rep (K : PySem.W.Frag) (μ : List Addr) (H : Hp) : V → Dv → Prop
  | non : Rep K μ H .non .non
  | bl (b : Bool) : Rep K μ H (.bl b) (.bl b)
  | int (i : Int) : Rep K μ H (.int i) (.int i)
  | str (x : Str) : Rep K μ H (.str x) (.str x)
  | ref {l : Nat} {a : Addr} : μ[l]? = some a → Rep K μ H (.ref a) (.ref l)
  | kt {a : Addr} {vs : List V} {ds : List Dv} : ConAt K a vs → vs.length = ds.length → (∀ (i : Nat) (v : V) (d : Dv), vs[i]? = some v → ds[i]? = some d → Rep K μ H v d) → Rep K μ H (.ref a) (.kt ds)
  | tup {a : Addr} {vs : List V} {ds : List Dv} : TupAt μ H a vs → vs.length = ds.length → (∀ (i : Nat) (v : V) (d : Dv), vs[i]? = some v → ds[i]? = some d → Rep K μ H v d) → Rep K μ H (.ref a) (.tup ds)
  | fl {a : Addr} {vs : List V} {ds : List Dv} : LisAt K μ H a vs → vs.length = ds.length → (∀ (i : Nat) (v : V) (d : Dv), vs[i]? = some v → ds[i]? = some d → Rep K μ H v d) → Rep K μ H (.ref a) (.fl ds)
  | xa {a : Addr} : Rep K μ H (.ref a) (.xa a)
  | xc {a b : Addr} {f : Str} {v : V} {d : Dv} : H b = some (.xd [(f, v)]) → b ∉ μ → Rep K μ H v d → Rep K μ H (.ref a) (.xc a b f d)
def Reps (K : PySem.W.Frag) (μ : List Addr) (H : Hp) (vs : List V) (ds : List Dv) : Prop :=
  vs.length = ds.length ∧ ∀ (i : Nat) (v : V) (d : Dv), vs[i]? = some v → ds[i]? = some d → Rep K μ H v d

structure Step (μ : List Addr) (H : Hp) (μ' : List Addr) (H' : Hp) : Prop where
  pre : ∃ ν, μ' = μ ++ ν ∧ ∀ b ∈ ν, H b = none
  keep : ∀ b o, H b = some o → b ∉ μ → H' b = some o
  live : ∀ b, H b ≠ none → H' b ≠ none
  frz : ∀ b o u, H b = some (.frz o u) → H' b = some (.frz o u)

def ObR (K : PySem.W.Frag) (μ : List Addr) (H : Hp) (a : Addr) : Ob → Prop
  | .lst ds => ∃ vs, H a = some (.lst vs) ∧ Reps K μ H vs ds
  | .dk kvs => ∃ ws, H a = some (.dK ws) ∧ ws.map (·.1) = kvs.map (·.1) ∧ Reps K μ H (ws.map (·.2)) (kvs.map (·.2))
  | .dt kvs => ∃ ws, H a = some (.dT ws) ∧ ws.map (·.1) = kvs.map (·.1) ∧ Reps K μ H (ws.map (·.2)) (kvs.map (·.2))
  | .fk kvs => ∃ ws, (∃ o, H a = some (.frz o (.dK ws))) ∧ ws.map (·.1) = kvs.map (·.1) ∧ Reps K μ H (ws.map (·.2)) (kvs.map (·.2))
  | .ft kvs => ∃ ws, (∃ o, H a = some (.frz o (.dT ws))) ∧ ws.map (·.1) = kvs.map (·.1) ∧ Reps K μ H (ws.map (·.2)) (kvs.map (·.2))
structure SimS (K : PySem.W.Frag) (μ : List Addr) (S : Sto) (H : Hp) : Prop where
  len : μ.length = S.length
  nd : μ.Nodup
  ob : ∀ (l : Nat) (a : Addr) (o : Ob), μ[l]? = some a → S[l]? = some o → ObR K μ H a o
def SimE (K : PySem.W.Frag) (μ : List Addr) (H : Hp) (ρ : Env) (σ : L2.St) : Prop :=
  ρ.length = σ.length ∧ ∀ (i : Nat) (d : Dv), ρ[i]? = some (some d) → ∃ v, σ[i]? = some (some v) ∧ Rep K μ H v d
def XRep (K : PySem.W.Frag) (mg : Str → Option Value) (μ : List Addr) (H : Hp) (x : Ex) (cls : Value) (d : Option Addr) : Prop :=
  mg x.cls = some cls ∧ ((x.fs = none ∧ d = none) ∨ ∃ f e dx v, x.fs = some (f, e) ∧ d = some dx ∧ H dx = some (.xd [(f, v)]) ∧ Rep K μ H v e)

/-! ### keeping -/
section
variable {K : PySem.W.Frag} {μ μ' μ1 μ2 : List Addr} {H H' H1 H2 : Hp} {v : V} {d : Dv} {vs : List V} {ds : List Dv} {a : Addr}
theorem Step.refl (μ : List Addr) (H : Hp) : Step μ H μ H := ⟨⟨[], by simp, fun _ h => nomatch h⟩, fun _ _ h _ => h, fun _ h => h, fun _ _ _ h => h⟩
theorem Step.nin (s : Step μ H μ' H') {o : HO} (h : H a = some o) (n : a ∉ μ) : a ∉ μ' := by
  obtain ⟨ν, e, f⟩ := s.pre
  rw [e]
  intro q
  rcases List.mem_append.mp q with q | q
  · exact n q
  · rw [f a q] at h; cases h
theorem Step.trans (s : Step μ H μ1 H1) (t : Step μ1 H1 μ2 H2) : Step μ H μ2 H2 := by
  refine ⟨?_, fun b o h n => t.keep b o (s.keep b o h n) (s.nin h n), fun b h => t.live b (s.live b h), fun b o u h => t.frz b o u (s.frz b o u h)⟩
  obtain ⟨ν, e, f⟩ := s.pre
  obtain ⟨ν', e', f'⟩ := t.pre
  refine ⟨ν ++ ν', by rw [e', e, List.append_assoc], fun b hb => ?_⟩
  rcases List.mem_append.mp hb with hb | hb
  · exact f b hb
  · cases q : H b with
    | none => rfl
    | some o => exact absurd (f' b hb) (s.live b (by rw [q]; exact fun z => nomatch z))
theorem Step.get (s : Step μ H μ' H') {l : Nat} (h : μ[l]? = some a) : μ'[l]? = some a := by
  obtain ⟨ν, e, _⟩ := s.pre
  rw [e, List.getElem?_append_left (List.getElem?_eq_some_iff.mp h).1]
  exact h
theorem TupAt.step (s : Step μ H μ' H') (h : TupAt μ H a vs) : TupAt μ' H' a vs := ⟨s.keep _ _ h.1 h.2, s.nin h.1 h.2⟩
theorem LisAt.step (s : Step μ H μ' H') (h : LisAt K μ H a vs) : LisAt K μ' H' a vs := by
  rcases h with ⟨⟨o, h⟩, n⟩ | h
  · exact .inl ⟨⟨o, s.keep _ _ h n⟩, s.nin h n⟩
  · exact .inr h
theorem Rep.step (s : Step μ H μ' H') (h : Rep K μ H v d) : Rep K μ' H' v d := by
  induction h with
  | non => exact .non
  | bl b => exact .bl b
  | int i => exact .int i
  | str x => exact .str x
  | ref h => exact .ref (s.get h)
  | kt h e _ ih => exact .kt h e fun i v d h1 h2 => ih i v d h1 h2
  | tup h e _ ih => exact .tup (h.step s) e fun i v d h1 h2 => ih i v d h1 h2
  | fl h e _ ih => exact .fl (h.step s) e fun i v d h1 h2 => ih i v d h1 h2
  | xa => exact .xa
  | xc h n _ ih => exact .xc (s.keep _ _ h n) (s.nin h n) ih
theorem Reps.step (s : Step μ H μ' H') (h : Reps K μ H vs ds) : Reps K μ' H' vs ds := ⟨h.1, fun i v d h1 h2 => (h.2 i v d h1 h2).step s⟩
theorem Reps.nil : Reps K μ H [] [] := ⟨rfl, fun i v d h => by simp at h⟩
theorem Reps.cons (t : Reps K μ H vs ds) (h : Rep K μ H v d) : Reps K μ H (v :: vs) (d :: ds) := by
  refine ⟨by simp [t.1], fun i v' d' h1 h2 => ?_⟩
  cases i with
  | zero => simp at h1 h2; subst h1; subst h2; exact h
  | succ i => exact t.2 i v' d' (by simpa using h1) (by simpa using h2)
theorem Reps.uncons {e : Dv} {es : List Dv} (t : Reps K μ H vs (e :: es)) : ∃ v ws, vs = v :: ws ∧ Rep K μ H v e ∧ Reps K μ H ws es := by
  cases vs with
  | nil => exact absurd t.1 (by simp)
  | cons v ws => exact ⟨v, ws, rfl, t.2 0 v e rfl rfl, by have := t.1; simpa using this, fun i v' d' h1 h2 => t.2 (i + 1) v' d' (by simpa using h1) (by simpa using h2)⟩
theorem Reps.un0 (t : Reps K μ H vs []) : vs = [] := List.eq_nil_of_length_eq_zero (by rw [t.1]; rfl)
theorem Reps.append {ws : List V} {es : List Dv} (h : Reps K μ H vs ds) (t : Reps K μ H ws es) : Reps K μ H (vs ++ ws) (ds ++ es) := by
  refine ⟨by simp [h.1, t.1], fun i v d h1 h2 => ?_⟩
  by_cases hi : i < vs.length
  · rw [List.getElem?_append_left hi] at h1
    rw [List.getElem?_append_left (by rw [← h.1]; exact hi)] at h2
    exact h.2 i v d h1 h2
  · rw [List.getElem?_append_right (by omega)] at h1
    rw [List.getElem?_append_right (by rw [← h.1]; omega), ← h.1] at h2
    exact t.2 _ v d h1 h2
theorem Rep.reps_cons (h : Rep K μ H v d) (t : Reps K μ H vs ds) : Reps K μ H (v :: vs) (d :: ds) := t.cons h
theorem Reps.one (h : Rep K μ H v d) : Reps K μ H [v] [d] := Reps.nil.cons h
theorem Reps.get (h : Reps K μ H vs ds) {i : Nat} (e : ds[i]? = some d) : ∃ v, vs[i]? = some v ∧ Rep K μ H v d := by
  have hi : i < vs.length := by rw [h.1]; exact (List.getElem?_eq_some_iff.mp e).1
  exact ⟨vs[i], List.getElem?_eq_getElem hi, h.2 i _ d (List.getElem?_eq_getElem hi) e⟩
theorem Reps.set (h : Reps K μ H vs ds) (r : Rep K μ H v d) (i : Nat) : Reps K μ H (vs.set i v) (ds.set i d) := by
  refine ⟨by simp [h.1], fun j v' d' h1 h2 => ?_⟩
  by_cases hj : i = j
  · subst hj
    have h3 : i < vs.length := by have := (List.getElem?_eq_some_iff.mp h1).1; simpa using this
    rw [List.getElem?_set_self h3] at h1
    rw [List.getElem?_set_self (by rw [← h.1]; exact h3)] at h2
    cases h1; cases h2; exact r
  · rw [List.getElem?_set_ne hj] at h1 h2
    exact h.2 j v' d' h1 h2
theorem Reps.sub (h : Reps K μ H vs ds) {ws : List V} {es : List Dv} (f : Nat → Nat) (hl : ws.length = es.length) (h1 : ∀ i, i < ws.length → ws[i]? = vs[f i]?) (h2 : ∀ i, i < ws.length → es[i]? = ds[f i]?) : Reps K μ H ws es :=
  ⟨hl, fun i v d e1 e2 => by
    have hi := (List.getElem?_eq_some_iff.mp e1).1
    exact h.2 (f i) v d ((h1 i hi).symm.trans e1) ((h2 i hi).symm.trans e2)⟩
theorem Reps.take (h : Reps K μ H vs ds) (n : Nat) : Reps K μ H (vs.take n) (ds.take n) :=
  h.sub id (by simp [h.1]) (fun i hi => by simp at hi; simp only [List.getElem?_take, id]; rw [if_pos (by omega)]) fun i hi => by simp at hi; simp only [List.getElem?_take, id]; rw [if_pos (by omega)]
theorem Reps.drop (h : Reps K μ H vs ds) (n : Nat) : Reps K μ H (vs.drop n) (ds.drop n) :=
  h.sub (fun i => n + i) (by simp [h.1]) (fun i _ => by simp [List.getElem?_drop]) fun i _ => by simp [List.getElem?_drop]
theorem Reps.rev (h : Reps K μ H vs ds) : Reps K μ H vs.reverse ds.reverse :=
  h.sub (fun i => vs.length - 1 - i) (by simp [h.1]) (fun i hi => by rw [List.getElem?_reverse (by simpa using hi)]) fun i hi => by
    rw [List.length_reverse] at hi
    rw [List.getElem?_reverse (by rw [← h.1]; exact hi), h.1]
theorem ObR.step (s : Step μ H μ' H') {o : Ob} {l : Nat} (h : ObR K μ H a o) (k : ∀ u, H a = some u → H' a = some u) : ObR K μ' H' a o := by
  cases o with
  | lst ds => obtain ⟨vs, e, r⟩ := h; exact ⟨vs, k _ e, r.step s⟩
  | dk kvs => obtain ⟨vs, e, q, r⟩ := h; exact ⟨vs, k _ e, q, r.step s⟩
  | dt kvs => obtain ⟨vs, e, q, r⟩ := h; exact ⟨vs, k _ e, q, r.step s⟩
  | fk kvs => obtain ⟨vs, ⟨o, e⟩, q, r⟩ := h; exact ⟨vs, ⟨o, k _ e⟩, q, r.step s⟩
  | ft kvs => obtain ⟨vs, ⟨o, e⟩, q, r⟩ := h; exact ⟨vs, ⟨o, k _ e⟩, q, r.step s⟩
theorem ObR.some {o : Ob} (h : ObR K μ H a o) : ∃ u, H a = some u := by
  cases o with
  | lst ds => obtain ⟨vs, e, _⟩ := h; exact ⟨_, e⟩
  | dk kvs => obtain ⟨vs, e, _⟩ := h; exact ⟨_, e⟩
  | dt kvs => obtain ⟨vs, e, _⟩ := h; exact ⟨_, e⟩
  | fk kvs => obtain ⟨vs, ⟨o, e⟩, _⟩ := h; exact ⟨_, e⟩
  | ft kvs => obtain ⟨vs, ⟨o, e⟩, _⟩ := h; exact ⟨_, e⟩
theorem SimE.step {ρ : Env} {σ : L2.St} (s : Step μ H μ' H') (h : SimE K μ H ρ σ) : SimE K μ' H' ρ σ :=
  ⟨h.1, fun i d e => let ⟨v, e', r⟩ := h.2 i d e; ⟨v, e', r.step s⟩⟩
variable {S : Sto} {o : Ob} {l : Nat} {p : Addr}
theorem SimS.at (h : SimS K μ S H) (e : S[l]? = some o) : ∃ a, μ[l]? = some a ∧ ObR K μ H a o := by
  have hl : l < μ.length := by rw [h.len]; exact (List.getElem?_eq_some_iff.mp e).1
  exact ⟨μ[l], List.getElem?_eq_getElem hl, h.ob l _ o (List.getElem?_eq_getElem hl) e⟩
theorem SimS.at' (h : SimS K μ S H) (e : S[l]? = some o) (q : μ[l]? = some a) : ObR K μ H a o := h.ob l a o q e
theorem SimS.tracked (h : SimS K μ S H) (m : a ∈ μ) : ∃ u, H a = some u := by
  obtain ⟨l, hl, e⟩ := List.getElem_of_mem m
  have hs : l < S.length := by rw [← h.len]; exact hl
  exact (h.ob l a S[l] (by rw [List.getElem?_eq_getElem hl, e]) (List.getElem?_eq_getElem hs)).some
theorem SimS.fresh (h : SimS K μ S H) (n : H p = none) : p ∉ μ := fun m => by
  obtain ⟨u, e⟩ := h.tracked m
  rw [n] at e; cases e
/-- something laid that is no store object -/
theorem step_lay (h : SimS K μ S H) (n : H p = none) (u : HO) : Step μ H μ (upd H p u) :=
  ⟨⟨[], by simp, fun _ h => nomatch h⟩, fun b o e _ => by rw [upd_ne (ne_of_none e n)]; exact e, fun b e => by
    by_cases hb : b = p
    · rw [hb, upd_same]; exact fun z => nomatch z
    · rw [upd_ne hb]; exact e, fun b o u e => by rw [upd_ne (ne_of_none e n)]; exact e⟩
theorem SimS.lay (h : SimS K μ S H) (n : H p = none) (u : HO) : SimS K μ S (upd H p u) :=
  ⟨h.len, h.nd, fun l a o e1 e2 => (h.ob l a o e1 e2).step (l := l) (step_lay h n u) fun w q => by rw [upd_ne (ne_of_none q n)]; exact q⟩
theorem step_new (h : SimS K μ S H) (n : H p = none) (u : HO) : Step μ H (μ ++ [p]) (upd H p u) :=
  ⟨⟨[p], rfl, fun b hb => by simp at hb; rw [hb]; exact n⟩, (step_lay h n u).keep, (step_lay h n u).live, (step_lay h n u).frz⟩
theorem SimS.new (h : SimS K μ S H) (n : H p = none) {u : HO} (r : ObR K (μ ++ [p]) (upd H p u) p o) : SimS K (μ ++ [p]) (S ++ [o]) (upd H p u) := by
  refine ⟨by simp [h.len], List.nodup_append.mpr ⟨h.nd, by simp, fun a ha b hb => ?_⟩, fun l a o' e1 e2 => ?_⟩
  · simp at hb; subst hb; exact fun z => h.fresh n (z ▸ ha)
  · by_cases hl : l < μ.length
    · rw [List.getElem?_append_left hl] at e1
      rw [List.getElem?_append_left (by rw [← h.len]; exact hl)] at e2
      exact (h.ob l a o' e1 e2).step (l := l) (step_new h n u) fun w q => by rw [upd_ne (ne_of_none q n)]; exact q
    · have hl2 : l = μ.length := by have := (List.getElem?_eq_some_iff.mp e1).1; simp at this; omega
      subst hl2
      rw [List.getElem?_append_right (Nat.le_refl _)] at e1
      rw [List.getElem?_append_right (by rw [h.len]; exact Nat.le_refl _), h.len] at e2
      simp at e1 e2
      subst e1; subst e2; exact r
theorem new_at (h : SimS K μ S H) (p : Addr) : (μ ++ [p])[S.length]? = some p := by rw [← h.len]; simp
theorem nofrz_of {w : HO} (h : H a = some w) (n : (match w with | .frz _ _ => true | _ => false) = false) : ∀ o u, H a ≠ some (.frz o u) := fun o u z => by
  rw [h] at z; cases z; cases n
theorem step_put (h : SimS K μ S H) (e : μ[l]? = some a) (u : HO) (nf : ∀ o u, H a ≠ some (.frz o u) := by refine nofrz_of (by assumption) ?_; rfl) : Step μ H μ (upd H a u) :=
  ⟨⟨[], by simp, fun _ h => nomatch h⟩, fun b o q n => by rw [upd_ne (fun z => n (by rw [z]; exact List.mem_of_getElem? e))]; exact q, fun b q => by
    by_cases hb : b = a
    · rw [hb, upd_same]; exact fun z => nomatch z
    · rw [upd_ne hb]; exact q, fun b o w q => by rw [upd_ne (fun z => nf o w (by rw [← z]; exact q))]; exact q⟩
theorem SimS.put (h : SimS K μ S H) (e : μ[l]? = some a) {u : HO} (r : ObR K μ (upd H a u) a o) (nf : ∀ o u, H a ≠ some (.frz o u) := by refine nofrz_of (by assumption) ?_; rfl) : SimS K μ (S.set l o) (upd H a u) := by
  refine ⟨by simp [h.len], h.nd, fun k b o' e1 e2 => ?_⟩
  by_cases hk : l = k
  · subst hk
    rw [e] at e1; cases e1
    have hl : l < S.length := by rw [← h.len]; exact (List.getElem?_eq_some_iff.mp e).1
    rw [List.getElem?_set_self hl] at e2
    cases e2; exact r
  · rw [List.getElem?_set_ne hk] at e2
    have hne : b ≠ a := fun z => by
      subst z
      have h1 := List.getElem?_eq_some_iff.mp e
      have h2 := List.getElem?_eq_some_iff.mp e1
      exact hk ((List.getElem_inj h.nd).mp (h1.2.trans h2.2.symm))
    exact (h.ob k b o' e1 e2).step (l := k) (step_put h e u nf) fun w q => by rw [upd_ne hne]; exact q
end

/-! ### sequences -/
def tupOf : Dv → Option (List Dv)
  | .tup ds => some ds
  | .kt ds => some ds
  | _ => none
def lstOf (S : Sto) : Dv → Option (List Dv)
  | .fl ds => some ds
  | .ref l => match S[l]? with
    | some (.lst ds) => some ds
    | _ => none
  | _ => none
section
variable {K : PySem.W.Frag} {μ : List Addr} {H : Hp} {v : V} {d : Dv} {ds : List Dv} {S : Sto}
theorem Rep.sqT (r : Rep K μ H v d) (e : tupOf d = some ds) : ∃ a vs, v = .ref a ∧ SqT K H a vs ∧ Reps K μ H vs ds := by
  cases r with
  | tup h l q => simp only [tupOf, Option.some.injEq] at e; subst e; exact ⟨_, _, rfl, .inl (.inl h.1), l, q⟩
  | kt h l q => simp only [tupOf, Option.some.injEq] at e; subst e; exact ⟨_, _, rfl, .inr h, l, q⟩
  | _ => simp [tupOf] at e
theorem Rep.sqL (hS : SimS K μ S H) (r : Rep K μ H v d) (e : lstOf S d = some ds) : ∃ a vs, v = .ref a ∧ SqL K H a vs ∧ Reps K μ H vs ds := by
  cases r with
  | fl h l q =>
    simp only [lstOf, Option.some.injEq] at e; subst e
    rcases h with ⟨⟨o, h⟩, _⟩ | h
    · exact ⟨_, _, rfl, .inl (.inr ⟨o, h⟩), l, q⟩
    · exact ⟨_, _, rfl, .inr h, l, q⟩
  | @ref l a h =>
    simp only [lstOf] at e
    split at e
    · rename_i es hs
      simp only [Option.some.injEq] at e; subst e
      obtain ⟨vs, e1, r⟩ := hS.at' hs h
      exact ⟨a, vs, rfl, .inl (.inl e1), r⟩
    · cases e
  | _ => simp [lstOf] at e
theorem Rep.lst {l : Nat} (hS : SimS K μ S H) (r : Rep K μ H v (.ref l)) (e : S[l]? = some (.lst ds)) : ∃ a vs, v = .ref a ∧ μ[l]? = some a ∧ H a = some (.lst vs) ∧ Reps K μ H vs ds := by
  cases r with
  | ref h => obtain ⟨vs, e1, r⟩ := hS.at' e h; exact ⟨_, vs, rfl, h, e1, r⟩
end

/-! ### outcomes, as the layer's readings -/
def Met {α β : Type} (RP : List Addr → Hp → β → α → Prop) (K : PySem.W.Frag) (mg : Str → Option Value) (W : Value → Option Addr → Hp → Prop) (μ : List Addr) (H : Hp) (o : Out α) (Q : β → Hp → Prop) : Prop :=
  match o with
  | .ok d S' => ∀ μ' H' v, SimS K μ' S' H' → Step μ H μ' H' → RP μ' H' v d → Q v H'
  | .ex x S' => ∀ μ' H' cls dd, SimS K μ' S' H' → Step μ H μ' H' → XRep K mg μ' H' x cls dd → W cls dd H'
  | .no => False
abbrev WX := Value → Option Addr → L2.St → Hp → Prop
abbrev WX.at (W : WX) (σ : L2.St) : Value → Option Addr → Hp → Prop := fun c d H => W c d σ H
def tG {α β : Type} (RP : List Addr → Hp → β → α → Prop) (K : PySem.W.Frag) (mg : Str → Option Value) (W : WX) (r : Env → Sto → Out α) (σ : L2.St) (H : Hp) (Q : β → Hp → Prop) : Prop :=
  ∃ μ ρ S, SimS K μ S H ∧ SimE K μ H ρ σ ∧ Met RP K mg (W.at σ) μ H (r ρ S) Q
def RBool (μ : List Addr) (H : Hp) (b b' : Bool) : Prop := b = b'
section
variable {K : PySem.W.Frag} {mg : Str → Option Value} {W : WX} {μ μ1 : List Addr} {H H1 : Hp} {ρ : Env} {σ : L2.St} {S : Sto}
theorem Met.step {α β : Type} {RP : List Addr → Hp → β → α → Prop} {Wx : Value → Option Addr → Hp → Prop} {o : Out α} {Q : β → Hp → Prop} (s : Step μ H μ1 H1) (h : Met RP K mg Wx μ H o Q) : Met RP K mg Wx μ1 H1 o Q := by
  cases o with
  | ok d S' => exact fun μ' H' v a b c => h μ' H' v a (s.trans b) c
  | ex x S' => exact fun μ' H' cl dd a b c => h μ' H' cl dd a (s.trans b) c
  | no => exact h
theorem Met.mono {α β : Type} {RP : List Addr → Hp → β → α → Prop} {Wx : Value → Option Addr → Hp → Prop} {o : Out α} {Q Q' : β → Hp → Prop} (h : Met RP K mg Wx μ H o Q) (q : ∀ v H', Q v H' → Q' v H') : Met RP K mg Wx μ H o Q' := by
  cases o with
  | ok d S' => exact fun μ' H' v a b c => q _ _ (h μ' H' v a b c)
  | ex x S' => exact h
  | no => exact h
theorem bnd {α β γ δ : Type} {R1 : List Addr → Hp → β → α → Prop} {R2 : List Addr → Hp → δ → γ → Prop} {r : Env → Sto → Out α} {f : α → Sto → Out γ} {Q : δ → Hp → Prop} (hS : SimS K μ S H) (hE : SimE K μ H ρ σ)
    (h : Met R2 K mg (W.at σ) μ H ((r ρ S).bind f) Q) : tG R1 K mg W r σ H (fun v H1 => ∃ μ1 S1 d, SimS K μ1 S1 H1 ∧ SimE K μ1 H1 ρ σ ∧ Step μ H μ1 H1 ∧ R1 μ1 H1 v d ∧ Met R2 K mg (W.at σ) μ1 H1 (f d S1) Q) := by
  refine ⟨μ, ρ, S, hS, hE, ?_⟩
  cases q : r ρ S with
  | ok d S1 =>
    rw [q] at h
    exact fun μ1 H1 v a b c => ⟨μ1, S1, d, a, hE.step b, b, c, h.step b⟩
  | ex x S1 => rw [q] at h; exact h
  | no => rw [q] at h; exact h
/-- an outcome that is at hand -/
theorem Met.ok {α β : Type} {RP : List Addr → Hp → β → α → Prop} {Wx : Value → Option Addr → Hp → Prop} {d : α} {Q : β → Hp → Prop} {v : β} (h : Met RP K mg Wx μ H (.ok d S) Q) (hS : SimS K μ S H) (r : RP μ H v d) : Q v H := h μ H v hS (.refl μ H) r
/-- a new store object -/
theorem Met.new {o : Ob} {u : HO} {p : Addr} {Wx : Value → Option Addr → Hp → Prop} {Q : V → Hp → Prop} (h : Met (Rep K) K mg Wx μ H (.ok (.ref S.length) (S ++ [o])) Q) (hS : SimS K μ S H) (n : H p = none) (r : ObR K (μ ++ [p]) (upd H p u) p o) : Q (.ref p) (upd H p u) :=
  h _ _ _ (hS.new n r) (step_new hS n u) (.ref (new_at hS p))
theorem Met.lst {ds : List Dv} {vs : List V} {p : Addr} {Wx : Value → Option Addr → Hp → Prop} {Q : V → Hp → Prop} (h : Met (Rep K) K mg Wx μ H (.ok (.ref S.length) (S ++ [.lst ds])) Q) (hS : SimS K μ S H) (n : H p = none) (r : Reps K μ H vs ds) : Q (.ref p) (upd H p (.lst vs)) :=
  h.new hS n ⟨vs, upd_same, r.step (step_new hS n _)⟩
theorem Met.tup {ds : List Dv} {vs : List V} {p : Addr} {Wx : Value → Option Addr → Hp → Prop} {Q : V → Hp → Prop} (h : Met (Rep K) K mg Wx μ H (.ok (.tup ds) S) Q) (hS : SimS K μ S H) (n : H p = none) (r : Reps K μ H vs ds) : Q (.ref p) (upd H p (.tup vs)) :=
  h _ _ _ (hS.lay n _) (step_lay hS n _) (.tup ⟨upd_same, hS.fresh n⟩ r.1 (r.step (step_lay hS n _)).2)
/-- a store object written -/
theorem Met.put {α β : Type} {RP : List Addr → Hp → β → α → Prop} {o : Ob} {u : HO} {a : Addr} {l : Nat} {Wx : Value → Option Addr → Hp → Prop} {Q : β → Hp → Prop} {d : α} {v : β} (h : Met RP K mg Wx μ H (.ok d (S.set l o)) Q) (hS : SimS K μ S H) (e : μ[l]? = some a) (r : ObR K μ (upd H a u) a o) (rv : RP μ (upd H a u) v d) (nf : ∀ o u, H a ≠ some (.frz o u) := by refine nofrz_of (by assumption) ?_; rfl) : Q v (upd H a u) :=
  h _ _ _ (hS.put e r nf) (step_put hS e u nf) rv
end
end PL

namespace PL
open PySem PySem.Spec PyProof.Rows L2

/-! ### rules: from readings to outcomes -/
theorem PE.imp {X : Cx} {e : Expr} {t t' : TE} (h : PE X e t) (i : ∀ σ H Q, t' σ H Q → t σ H Q) : PE X e t' := ⟨fun pins s σ H Q I w => h.run pins s σ H Q I (i σ H Q w)⟩
theorem PT.imp {X : Cx} {e : Expr} {t t' : TT} (h : PT X e t) (i : ∀ σ H Q, t' σ H Q → t σ H Q) : PT X e t' := ⟨fun pins s σ H Q I w => h.run pins s σ H Q I (i σ H Q w)⟩
theorem PW.imp {X : Cx} {e : Expr} {t t' : TT} (h : PW X e t) (i : ∀ σ H Q, t' σ H Q → t σ H Q) : PW X e t' := ⟨fun wh pins s σ H Q I w => h.run wh pins s σ H Q I (i σ H Q w)⟩
theorem PA.imp {X : Cx} {e : List Expr} {t t' : TA} (h : PA X e t) (i : ∀ σ H Q, t' σ H Q → t σ H Q) : PA X e t' := ⟨fun ps pins s σ H Q I w => h.run ps pins s σ H Q I (i σ H Q w)⟩
theorem PE.or {X : Cx} {e : Expr} {t t' : TE} (h : PE X e t) (h' : PE X e t') : PE X e (fun σ H Q => t σ H Q ∨ t' σ H Q) :=
  ⟨fun pins s σ H Q I w => w.elim (h.run pins s σ H Q I) (h'.run pins s σ H Q I)⟩
theorem OpR.or {X : Cx} {f : Value → Value → Sem Value} {r r' : R2} (h : OpR X f r) (h' : OpR X f r') : OpR X f (fun x y H Q => r x y H Q ∨ r' x y H Q) :=
  fun pins s σ H x y v u Q I rx ry w => w.elim (h pins s σ H x y v u Q I rx ry) (h' pins s σ H x y v u Q I rx ry)
theorem CallR.or {X : Cx} {f : Value} {r r' : List V → Hp → VK → Prop} (h : CallR X f r) (h' : CallR X f r') : CallR X f (fun x H Q => r x H Q ∨ r' x H Q) :=
  fun pins s σ H x v Q I rx w => w.elim (h pins s σ H x v Q I rx) (h' pins s σ H x v Q I rx)
theorem tG.mono {α β : Type} {RP : List Addr → Hp → β → α → Prop} {K : PySem.W.Frag} {mg : Str → Option Value} {W : WX} {f : Env → Sto → Out α} {σ : L2.St} {H : Hp} {Q Q' : β → Hp → Prop}
    (h : tG RP K mg W f σ H Q) (q : ∀ v H', Q v H' → Q' v H') : tG RP K mg W f σ H Q' := let ⟨μ, ρ, S, a, b, c⟩ := h; ⟨μ, ρ, S, a, b, c.mono q⟩

abbrev SE (X : Cx) (W : WX) (e : Expr) (r : RE) : Prop := PE X e (tG (Rep X.K) X.K X.mg W r)
abbrev ST (X : Cx) (W : WX) (e : Expr) (r : RT) : Prop := PT X e (tG RBool X.K X.mg W r)
abbrev SW (X : Cx) (W : WX) (e : Expr) (r : RT) : Prop := PW X e (tG RBool X.K X.mg W r)
abbrev SA (X : Cx) (W : WX) (es : List Expr) (r : RA) : Prop := PA X es (tG (Reps X.K) X.K X.mg W r)

/-- how an operation on data is met by the layer's reading -/
def Op2 (K : PySem.W.Frag) (f : Dv → Dv → Sto → Out Dv) (r : R2) : Prop :=
  ∀ (mg : Str → Option Value) (Wx : Value → Option Addr → Hp → Prop) (μ : List Addr) (H : Hp) (S : Sto) (x y : V) (d e : Dv) (Q : VK), SimS K μ S H → Rep K μ H x d → Rep K μ H y e → Met (Rep K) K mg Wx μ H (f d e S) Q → r x y H Q
def OpL (K : PySem.W.Frag) (f : List Dv → Sto → Out Dv) (r : List V → Hp → VK → Prop) : Prop :=
  ∀ (mg : Str → Option Value) (Wx : Value → Option Addr → Hp → Prop) (μ : List Addr) (H : Hp) (S : Sto) (vs : List V) (ds : List Dv) (Q : VK), SimS K μ S H → Reps K μ H vs ds → Met (Rep K) K mg Wx μ H (f ds S) Q → r vs H Q
def OpM (K : PySem.W.Frag) (f : Dv → List Dv → Sto → Out Dv) (r : V → List V → Hp → VK → Prop) : Prop :=
  ∀ (mg : Str → Option Value) (Wx : Value → Option Addr → Hp → Prop) (μ : List Addr) (H : Hp) (S : Sto) (x : V) (vs : List V) (d : Dv) (ds : List Dv) (Q : VK), SimS K μ S H → Rep K μ H x d → Reps K μ H vs ds → Met (Rep K) K mg Wx μ H (f d ds S) Q → r x vs H Q

/-! ### terms -/
def eVar (i : Nat) : RE := fun ρ S => match ρ[i]? with
  | some (some d) => .ok d S
  | _ => .no
def eCon (d : Dv) : RE := fun _ S => .ok d S
def eBin (f : Dv → Dv → Sto → Out Dv) (a b : RE) : RE := fun ρ S => (a ρ S).bind fun x S1 => (b ρ S1).bind fun y S2 => f x y S2
def eUn (f : Dv → Sto → Out Dv) (a : RE) : RE := fun ρ S => (a ρ S).bind f
def aNil : RA := fun _ S => .ok [] S
def aCons (r : RE) (t : RA) : RA := fun ρ S => (r ρ S).bind fun d S1 => (t ρ S1).bind fun ds S2 => .ok (d :: ds) S2
def eCall (f : List Dv → Sto → Out Dv) (a : RA) : RE := fun ρ S => (a ρ S).bind f
def eMet (f : Dv → List Dv → Sto → Out Dv) (o : RE) (a : RA) : RE := fun ρ S => (o ρ S).bind fun d S1 => (a ρ S1).bind fun ds S2 => f d ds S2
def eTup (a : RA) : RE := fun ρ S => (a ρ S).bind fun ds S1 => if ds.length ≤ sizeLine then .ok (.tup ds) S1 else .no
def eLst (a : RA) : RE := fun ρ S => (a ρ S).bind fun ds S1 => if ds.length ≤ sizeLine then .ok (.ref S1.length) (S1 ++ [.lst ds]) else .no
def eNot (a : RE) : RE := fun ρ S => (a ρ S).bind fun d S1 => match d with
  | .bl b => .ok (.bl (!b)) S1
  | _ => .no
def eAnd (a b : RE) : RE := fun ρ S => (a ρ S).bind fun d S1 => match d with
  | .bl true => b ρ S1
  | .bl false => .ok (.bl false) S1
  | _ => .no
def eOr (a b : RE) : RE := fun ρ S => (a ρ S).bind fun d S1 => match d with
  | .bl true => .ok (.bl true) S1
  | .bl false => b ρ S1
  | _ => .no
def eIf (c : RT) (a b : RE) : RE := fun ρ S => (c ρ S).bind fun t S1 => if t = true then a ρ S1 else b ρ S1
def bTrue (d : Dv) (S : Sto) : Out Bool := match d with
  | .bl b => .ok b S
  | _ => .no
def cBl (a : RE) : RT := fun ρ S => (a ρ S).bind bTrue
def cAnd (a b : RT) : RT := fun ρ S => (a ρ S).bind fun t S1 => if t = true then b ρ S1 else .ok false S1
def cOr (a b : RT) : RT := fun ρ S => (a ρ S).bind fun t S1 => if t = true then .ok true S1 else b ρ S1
def cNot (a : RT) : RT := fun ρ S => (a ρ S).bind fun t S1 => .ok (!t) S1

section
variable {X : Cx} {W : WX} {a b c e : Expr} {es : List Expr} {ra rb rc : RE} {rs : RA} {ta tb : RT} {pos : Pos}
theorem se_var (i : Nat) {x : Str} (hN : X.N[i]? = some x := by rfl) (hv : Vis X.env.scope x := by first | exact Or.inl rfl | exact Or.inr (Or.inl rfl) | exact Or.inr (Or.inr rfl)) (hd : (x == ("__debug__" : Str)) = false := by decide)
    (hcd : (x == ("__classdict__" : Str)) = false := by decide) : SE X W (.Name x pos) (eVar i) := by
  refine PE.imp (pe_var hN hv hd hcd) fun σ H Q ⟨μ, ρ, S, hS, hE, h⟩ => ?_
  unfold eVar at h
  split at h
  · rename_i d hd
    obtain ⟨v, e1, r⟩ := hE.2 i d hd
    exact ⟨v, e1, h.ok hS r⟩
  · exact h.elim
theorem se_con {d : Dv} {v : V} (h : PE X e (tC v)) (r : ∀ μ H, Rep X.K μ H v d) : SE X W e (eCon d) :=
  PE.imp h fun σ H Q ⟨μ, ρ, S, hS, hE, h⟩ => show Q v H from h.ok hS (r μ H)
theorem se_int {i j} : SE X W (.Constant (.int i) j pos) (eCon (.int i)) := se_con pe_int fun _ _ => .int i
theorem se_bl {i j} : SE X W (.Constant (.bool i) j pos) (eCon (.bl i)) := se_con pe_bl fun _ _ => .bl i
theorem se_non {j} : SE X W (.Constant .none j pos) (eCon .non) := se_con pe_non fun _ _ => .non
theorem se_str {i j} : SE X W (.Constant (.str i) j pos) (eCon (.str i)) := se_con pe_str fun _ _ => .str i
theorem bnd2 {f : Dv → Dv → Sto → Out Dv} {r : R2} (hf : Op2 X.K f r) {σ : L2.St} {H : Hp} {Q : VK} (h : tG (Rep X.K) X.K X.mg W (eBin f ra rb) σ H Q) :
    tOp r (tG (Rep X.K) X.K X.mg W ra) (tG (Rep X.K) X.K X.mg W rb) σ H Q := by
  obtain ⟨μ, ρ, S, hS, hE, h⟩ := h
  refine (bnd hS hE h).mono fun x H1 ⟨μ1, S1, d, hS1, hE1, s1, rx, h1⟩ => ?_
  refine (bnd hS1 hE1 h1).mono fun y H2 ⟨μ2, S2, d2, hS2, hE2, s2, ry, h2⟩ => ?_
  exact hf _ _ μ2 H2 S2 x y d d2 Q hS2 (rx.step s2) ry h2
theorem se_bin {op : Operator} {f : Dv → Dv → Sto → Out Dv} {r : R2} (ho : OpR X (binaryOp op) r) (hf : Op2 X.K f r) (ha : SE X W a ra) (hb : SE X W b rb) : SE X W (.BinOp a op b pos) (eBin f ra rb) :=
  PE.imp (pe_op ho ha hb) fun _ _ _ h => bnd2 hf h
theorem se_cmp {op : CmpOp} {f : Dv → Dv → Sto → Out Dv} {r : R2} (ho : OpR X (compareOp op) r) (hf : Op2 X.K f r) (ha : SE X W a ra) (hb : SE X W b rb) (hm : behindInMarks op b = false) : SE X W (.Compare a [op] [b] pos) (eBin f ra rb) :=
  PE.imp (pe_cmpR ho ha hb hm) fun _ _ _ h => bnd2 hf h
theorem bTrue_met {K : PySem.W.Frag} {mg : Str → Option Value} {Wx : Value → Option Addr → Hp → Prop} {μ : List Addr} {H : Hp} {S : Sto} {v : V} {d : Dv} {Q : Bool → Hp → Prop} (hS : SimS K μ S H) (r : Rep K μ H v d) (h : Met RBool K mg Wx μ H (bTrue d S) Q) : ∃ k, v = .bl k ∧ Q k H := by
  cases r with
  | bl b => exact ⟨b, rfl, h.ok hS rfl⟩
  | _ => exact h.elim
theorem st_cmp {op : CmpOp} {f : Dv → Dv → Sto → Out Dv} {r : R2} (ho : OpR X (compareOp op) r) (hf : Op2 X.K f r) (ha : SE X W a ra) (hb : SE X W b rb) (hm : behindInMarks op b = false) : ST X W (.Compare a [op] [b] pos) (cBl (eBin f ra rb)) :=
  PT.imp (pt_cmpR ho ha hb hm) fun σ H Q ⟨μ, ρ, S, hS, hE, h⟩ => bnd2 hf ((bnd hS hE h).mono fun v H1 ⟨μ1, S1, d, hS1, hE1, s1, rv, h1⟩ => bTrue_met hS1 rv h1)
theorem st_bl (he : SE X W e ra) (hp : ∀ whole, isTrue e X.env whole = (do let v ← whole; standAt e.pos; holding [v] (truthy v)) := by intro _; rfl) : ST X W e (cBl ra) :=
  PT.imp (pt_val he hp) fun σ H Q ⟨μ, ρ, S, hS, hE, h⟩ => (bnd hS hE h).mono fun v H1 ⟨μ1, S1, d, hS1, hE1, s1, rv, h1⟩ => bTrue_met hS1 rv h1
theorem st_not (h : ST X W e ta) : ST X W (.UnaryOp .Not e pos) (cNot ta) :=
  PT.imp (pt_not h) fun σ H Q ⟨μ, ρ, S, hS, hE, h⟩ => (bnd (R1 := RBool) hS hE h).mono fun v H1 ⟨μ1, S1, d, hS1, hE1, s1, rv, h1⟩ => by
    cases (show v = d from rv)
    exact h1.ok hS1 rfl
theorem sw_one_and (h : ST X W e ta) : SW X W (.BoolOp .And [e] pos) ta := pw_and1 h
theorem sw_one_or (h : ST X W e ta) : SW X W (.BoolOp .Or [e] pos) ta := pw_or1 h
theorem sw_and (h : ST X W e ta) (t : SW X W (.BoolOp .And (b :: es) pos) tb) : SW X W (.BoolOp .And (e :: b :: es) pos) (cAnd ta tb) :=
  PW.imp (pw_and h t) fun σ H Q ⟨μ, ρ, S, hS, hE, h⟩ => (bnd (R1 := RBool) hS hE h).mono fun v H1 ⟨μ1, S1, d, hS1, hE1, s1, rv, h1⟩ => by
    cases (show v = d from rv)
    cases v with
    | true => exact ⟨μ1, ρ, S1, hS1, hE1, h1⟩
    | false => exact Met.ok (RP := RBool) h1 hS1 rfl
theorem sw_or (h : ST X W e ta) (t : SW X W (.BoolOp .Or (b :: es) pos) tb) : SW X W (.BoolOp .Or (e :: b :: es) pos) (cOr ta tb) :=
  PW.imp (pw_or h t) fun σ H Q ⟨μ, ρ, S, hS, hE, h⟩ => (bnd (R1 := RBool) hS hE h).mono fun v H1 ⟨μ1, S1, d, hS1, hE1, s1, rv, h1⟩ => by
    cases (show v = d from rv)
    cases v with
    | true => exact Met.ok (RP := RBool) h1 hS1 rfl
    | false => exact ⟨μ1, ρ, S1, hS1, hE1, h1⟩
theorem st_w (h : SW X W e ta) : ST X W e ta := PW.pt h
theorem se_not (h : SE X W e ra) : SE X W (.UnaryOp .Not e pos) (eNot ra) :=
  PE.imp (pe_not h) fun σ H Q ⟨μ, ρ, S, hS, hE, h⟩ => (bnd hS hE h).mono fun v H1 ⟨μ1, S1, d, hS1, hE1, s1, rv, h1⟩ => by
    cases rv with
    | bl b => exact ⟨b, rfl, Met.ok (RP := Rep X.K) h1 hS1 (.bl _)⟩
    | _ => exact h1.elim
theorem se_one {op} (h : SE X W e ra) : SE X W (.BoolOp op [e] pos) ra := pe_one h
theorem se_and (h : SE X W e ra) (t : SE X W (.BoolOp .And (b :: es) pos) rb) : SE X W (.BoolOp .And (e :: b :: es) pos) (eAnd ra rb) :=
  PE.imp (pe_and h t) fun σ H Q ⟨μ, ρ, S, hS, hE, h⟩ => (bnd hS hE h).mono fun v H1 ⟨μ1, S1, d, hS1, hE1, s1, rv, h1⟩ => by
    cases rv with
    | bl b => cases b with
      | true => exact ⟨true, rfl, ⟨μ1, ρ, S1, hS1, hE1, h1⟩⟩
      | false => exact ⟨false, rfl, Met.ok (RP := Rep X.K) h1 hS1 (.bl _)⟩
    | _ => exact h1.elim
theorem se_or (h : SE X W e ra) (t : SE X W (.BoolOp .Or (b :: es) pos) rb) : SE X W (.BoolOp .Or (e :: b :: es) pos) (eOr ra rb) :=
  PE.imp (pe_or h t) fun σ H Q ⟨μ, ρ, S, hS, hE, h⟩ => (bnd hS hE h).mono fun v H1 ⟨μ1, S1, d, hS1, hE1, s1, rv, h1⟩ => by
    cases rv with
    | bl b => cases b with
      | true => exact ⟨true, rfl, Met.ok (RP := Rep X.K) h1 hS1 (.bl _)⟩
      | false => exact ⟨false, rfl, ⟨μ1, ρ, S1, hS1, hE1, h1⟩⟩
    | _ => exact h1.elim
theorem se_if (hc : ST X W c ta) (ha : SE X W a ra) (hb : SE X W b rb) : SE X W (.IfExp c a b pos) (eIf ta ra rb) :=
  PE.imp (pe_ifExp hc ha hb) fun σ H Q ⟨μ, ρ, S, hS, hE, h⟩ => (bnd (R1 := RBool) hS hE h).mono fun v H1 ⟨μ1, S1, d, hS1, hE1, s1, rv, h1⟩ => by
    cases (show v = d from rv)
    cases v with
    | true => exact ⟨μ1, ρ, S1, hS1, hE1, h1⟩
    | false => exact ⟨μ1, ρ, S1, hS1, hE1, h1⟩
theorem sa_nil : SA X W [] aNil := PA.imp pa_nil fun σ H Q ⟨μ, ρ, S, hS, hE, h⟩ => Met.ok (RP := Reps X.K) h hS .nil
theorem sa_cons (h : SE X W e ra) (t : SA X W es rs) (hs : starEach (e :: es) X.env = (false, eval e X.env) :: starEach es X.env := by rfl) : SA X W (e :: es) (aCons ra rs) :=
  PA.imp (pa_cons h t hs) fun σ H Q ⟨μ, ρ, S, hS, hE, h⟩ => (bnd hS hE h).mono fun v H1 ⟨μ1, S1, d, hS1, hE1, s1, rv, h1⟩ =>
    (bnd (R1 := Reps X.K) hS1 hE1 h1).mono fun vs H2 ⟨μ2, S2, ds, hS2, hE2, s2, rvs, h2⟩ => h2.ok hS2 ((rv.step s2).reps_cons rvs)
theorem se_tup {k} (h : SA X W es rs) : SE X W (.Tuple es k pos) (eTup rs) :=
  PE.imp (pe_tup h) fun σ H Q ⟨μ, ρ, S, hS, hE, h⟩ => (bnd (R1 := Reps X.K) hS hE h).mono fun vs H1 ⟨μ1, S1, ds, hS1, hE1, s1, rv, h1⟩ => by
    split at h1
    · rename_i hz
      exact ⟨by rw [rv.1]; exact hz, fun p n => h1.tup hS1 n rv⟩
    · exact h1.elim
theorem se_lst (h : SA X W es rs) : SE X W (.List es pos) (eLst rs) :=
  PE.imp (pe_lst h) fun σ H Q ⟨μ, ρ, S, hS, hE, h⟩ => (bnd (R1 := Reps X.K) hS hE h).mono fun vs H1 ⟨μ1, S1, ds, hS1, hE1, s1, rv, h1⟩ => by
    split at h1
    · rename_i hz
      exact ⟨by rw [rv.1]; exact hz, fun p n => h1.lst hS1 n rv⟩
    · exact h1.elim
/-- a built-in by its name -/
theorem se_callB {id : String} {x : Str} {p : Pos} {f : List Dv → Sto → Out Dv} {r : List V → Hp → VK → Prop} (hc : CallR X (.builtin id) r) (hf : OpL X.K f r) (hg : Gl X x) (hm : X.mg x = none) (hv : bootBuiltins x = some (.builtin id)) (ha : SA X W (e :: es) rs)
    (hn : x ≠ "__name__" := by decide) (hdb : (x == ("__debug__" : Str)) = false := by decide) (he : starEach (e :: es) X.env = (false, eval e X.env) :: starEach es X.env := by rfl) (hpl : (backTo pos (starEach es X.env)).any (·.1) = false := by rfl) : SE X W (.Call (.Name x p) (e :: es) [] pos) (eCall f rs) :=
  PE.imp (pe_callB hc hg hm hv ha hn hdb he hpl) fun σ H Q ⟨μ, ρ, S, hS, hE, h⟩ => (bnd (R1 := Reps X.K) hS hE h).mono fun vs H1 ⟨μ1, S1, ds, hS1, hE1, s1, rv, h1⟩ => hf _ _ μ1 H1 S1 vs ds Q hS1 rv h1
theorem se_callTy {T : String} {x : Str} {p : Pos} {f : List Dv → Sto → Out Dv} {r : List V → Hp → VK → Prop} (hc : CallR X (.type T) r) (hf : OpL X.K f r) (hg : Gl X x) (hm : X.mg x = none) (hv : bootBuiltins x = some (.type T)) (ha : SA X W (e :: es) rs)
    (hn : x ≠ "__name__" := by decide) (hdb : (x == ("__debug__" : Str)) = false := by decide) (he : starEach (e :: es) X.env = (false, eval e X.env) :: starEach es X.env := by rfl) (hpl : (backTo pos (starEach es X.env)).any (·.1) = false := by rfl) : SE X W (.Call (.Name x p) (e :: es) [] pos) (eCall f rs) :=
  PE.imp (pe_callTy hc hg hm hv ha hn hdb he hpl) fun σ H Q ⟨μ, ρ, S, hS, hE, h⟩ => (bnd (R1 := Reps X.K) hS hE h).mono fun vs H1 ⟨μ1, S1, ds, hS1, hE1, s1, rv, h1⟩ => hf _ _ μ1 H1 S1 vs ds Q hS1 rv h1
end
end PL

namespace PL
open PySem PySem.Spec PyProof.Rows L2

/-! ### numbers, texts, sequences: what the operators do -/
noncomputable instance (i j : Int) : Decidable (CMul i j) := Classical.propDecidable _
noncomputable instance (i j : Int) : Decidable (CPow i j) := Classical.propDecidable _
noncomputable instance (i j : Int) : Decidable (CShl i j) := Classical.propDecidable _
def newL (ds : List Dv) (S : Sto) : Out Dv := .ok (.ref S.length) (S ++ [.lst ds])
def addD (x y : Dv) (S : Sto) : Out Dv := match x, y with
  | .int i, .int j => .ok (.int (i + j)) S
  | .str a, .str b => if a.length + b.length ≤ sizeLine then .ok (.str (a ++ b)) S else .no
  | .tup a, .tup b => if a.length + b.length ≤ sizeLine then .ok (.tup (a ++ b)) S else .no
  | .ref l, .ref m => match S[l]?, S[m]? with
    | some (.lst a), some (.lst b) => if a.length + b.length ≤ sizeLine then newL (a ++ b) S else .no
    | _, _ => .no
  | _, _ => .no
def subD (x y : Dv) (S : Sto) : Out Dv := match x, y with
  | .int i, .int j => .ok (.int (i - j)) S
  | _, _ => .no
noncomputable def mulD (x y : Dv) (S : Sto) : Out Dv := match x, y with
  | .int i, .int j => if CMul i j then .ok (.int (i * j)) S else .no
  | .ref l, .int k => match S[l]? with
    | some (.lst a) => @ite _ (-(2 ^ 63) ≤ k ∧ k < 2 ^ 63 ∧ a.length * k.toNat ≤ sizeLine) (Classical.propDecidable _) (newL (List.replicate k.toNat a).flatten S) .no
    | _ => .no
  | _, _ => .no
def fdivD (x y : Dv) (S : Sto) : Out Dv := match x, y with
  | .int i, .int j => if 0 < j ∧ j.natAbs.log2 < 9000 then .ok (.int (i / j)) S else .no
  | _, _ => .no
def modD (x y : Dv) (S : Sto) : Out Dv := match x, y with
  | .int i, .int j => if 0 < j then .ok (.int (i % j)) S else .no
  | _, _ => .no
noncomputable def powD (x y : Dv) (S : Sto) : Out Dv := match x, y with
  | .int i, .int j => if CPow i j then .ok (.int (i ^ j.toNat)) S else .no
  | _, _ => .no
noncomputable def shlD (x y : Dv) (S : Sto) : Out Dv := match x, y with
  | .int i, .int j => if CShl i j then .ok (.int (i * 2 ^ j.toNat)) S else .no
  | _, _ => .no
def shrD (x y : Dv) (S : Sto) : Out Dv := match x, y with
  | .int i, .int j => if 0 ≤ j then .ok (.int (i / 2 ^ j.toNat)) S else .no
  | _, _ => .no
def andD (x y : Dv) (S : Sto) : Out Dv := match x, y with
  | .int i, .int j => .ok (.int (Builtin.bitAnd i j)) S
  | _, _ => .no
def orD (x y : Dv) (S : Sto) : Out Dv := match x, y with
  | .int i, .int j => .ok (.int (Builtin.bitOr i j)) S
  | _, _ => .no
def xorD (x y : Dv) (S : Sto) : Out Dv := match x, y with
  | .int i, .int j => .ok (.int (Builtin.bitXor i j)) S
  | _, _ => .no
def ltD (x y : Dv) (S : Sto) : Out Dv := match x, y with
  | .int i, .int j => .ok (.bl (decide (i < j))) S
  | .str a, .str b => .ok (.bl (decide (a.cps.toList < b.cps.toList))) S
  | _, _ => .no
def leD (x y : Dv) (S : Sto) : Out Dv := match x, y with
  | .int i, .int j => .ok (.bl (decide (i ≤ j))) S
  | _, _ => .no
def gtD (x y : Dv) (S : Sto) : Out Dv := match x, y with
  | .int i, .int j => .ok (.bl (decide (j < i))) S
  | _, _ => .no
def geD (x y : Dv) (S : Sto) : Out Dv := match x, y with
  | .int i, .int j => .ok (.bl (decide (j ≤ i))) S
  | _, _ => .no
def isN (d : Dv) : Bool := match d with
  | .non => true
  | _ => false
def isD (x y : Dv) (S : Sto) : Out Dv := match y with
  | .non => .ok (.bl (isN x)) S
  | _ => .no
def isNotD (x y : Dv) (S : Sto) : Out Dv := match y with
  | .non => .ok (.bl (!isN x)) S
  | _ => .no
def negD (x : Dv) (S : Sto) : Out Dv := match x with
  | .int i => .ok (.int (-i)) S
  | _ => .no

section
variable {X : Cx} {K : PySem.W.Frag}
theorem op2I {C : Int → Int → Prop} [∀ i j, Decidable (C i j)] {g : Int → Int → V} {k : Int → Int → Dv} {f : Dv → Dv → Sto → Out Dv} (hf : ∀ x y S, f x y S = match x, y with | .int i, .int j => (if C i j then .ok (k i j) S else .no) | _, _ => .no)
    (hk : ∀ μ H i j, Rep K μ H (g i j) (k i j)) : Op2 K f (rI C g) := by
  intro mg Wx μ H S x y d e Q hS rx ry h
  rw [hf] at h
  cases rx <;> cases ry <;> first | exact h.elim | skip
  dsimp only at h
  split at h
  · rename_i hc; exact ⟨_, _, rfl, rfl, hc, h.ok hS (hk ..)⟩
  · exact h.elim
theorem op2I0 {g : Int → Int → V} {k : Int → Int → Dv} {f : Dv → Dv → Sto → Out Dv} (hf : ∀ x y S, f x y S = match x, y with | .int i, .int j => .ok (k i j) S | _, _ => .no)
    (hk : ∀ μ H i j, Rep K μ H (g i j) (k i j)) : Op2 K f (rI0 g) := by
  intro mg Wx μ H S x y d e Q hS rx ry h
  rw [hf] at h
  cases rx <;> cases ry <;> first | exact h.elim | exact ⟨_, _, rfl, rfl, h.ok hS (hk ..)⟩
theorem o_sub : Op2 K subD (rI0 fun i j => .int (i - j)) := op2I0 (fun x y S => rfl) fun _ _ _ _ => .int _
theorem o_and : Op2 K andD (rI0 fun i j => .int (Builtin.bitAnd i j)) := op2I0 (fun x y S => rfl) fun _ _ _ _ => .int _
theorem o_or : Op2 K orD (rI0 fun i j => .int (Builtin.bitOr i j)) := op2I0 (fun x y S => rfl) fun _ _ _ _ => .int _
theorem o_xor : Op2 K xorD (rI0 fun i j => .int (Builtin.bitXor i j)) := op2I0 (fun x y S => rfl) fun _ _ _ _ => .int _
theorem o_le : Op2 K leD (rI0 fun i j => .bl (decide (i ≤ j))) := op2I0 (fun x y S => rfl) fun _ _ _ _ => .bl _
theorem o_gt : Op2 K gtD (rI0 fun i j => .bl (decide (j < i))) := op2I0 (fun x y S => rfl) fun _ _ _ _ => .bl _
theorem o_ge : Op2 K geD (rI0 fun i j => .bl (decide (j ≤ i))) := op2I0 (fun x y S => rfl) fun _ _ _ _ => .bl _
theorem o_fdiv : Op2 K fdivD (rI CDivW fun i j => .int (i / j)) := op2I (C := fun _ j => 0 < j ∧ j.natAbs.log2 < 9000) (fun x y S => rfl) fun _ _ _ _ => .int _
theorem o_mod : Op2 K modD (rI (fun _ j => 0 < j) fun i j => .int (i % j)) := op2I (fun x y S => rfl) fun _ _ _ _ => .int _
theorem o_pow : Op2 K powD (rI CPow fun i j => .int (i ^ j.toNat)) := op2I (fun x y S => rfl) fun _ _ _ _ => .int _
theorem o_shl : Op2 K shlD (rI CShl fun i j => .int (i * 2 ^ j.toNat)) := op2I (fun x y S => rfl) fun _ _ _ _ => .int _
theorem o_shr : Op2 K shrD (rI (fun _ j => 0 ≤ j) fun i j => .int (i / 2 ^ j.toNat)) := op2I (C := fun _ j => 0 ≤ j) (fun x y S => rfl) fun _ _ _ _ => .int _
abbrev rAddS : R2 := fun x y H Q => ∃ i j, x = .str i ∧ y = .str j ∧ i.length + j.length ≤ sizeLine ∧ Q (.str (i ++ j)) H
abbrev rAddAll (K : PySem.W.Frag) : R2 := fun x y H Q => rI0 (fun i j => .int (i + j)) x y H Q ∨ (rAddS x y H Q ∨ (rCatA K x y H Q ∨ rCat x y H Q))
theorem op_addAll : OpR X (binaryOp .Add) (rAddAll X.K) := OpR.or op_add (OpR.or op_add_str (OpR.or op_catA op_cat))
theorem o_add : Op2 K addD (rAddAll K) := by
  intro mg Wx μ H S x y d e Q hS rx ry h
  cases rx with
  | int i => cases ry <;> first | exact h.elim | exact .inl ⟨_, _, rfl, rfl, h.ok hS (.int _)⟩
  | str a =>
    cases ry <;> first | exact h.elim | skip
    rename_i b
    unfold addD at h; dsimp only at h
    split at h
    · rename_i hz; exact .inr (.inl ⟨_, _, rfl, rfl, hz, h.ok hS (.str _)⟩)
    · exact h.elim
  | @tup a vs ds h1 l1 q1 =>
    cases ry <;> first | exact h.elim | skip
    rename_i b ws es h2 l2 q2
    unfold addD at h; dsimp only at h
    split at h
    · rename_i hz
      have r := Reps.append ⟨l1, q1⟩ ⟨l2, q2⟩
      refine .inr (.inr (.inl ⟨_, _, _, _, rfl, rfl, .of h1.1, .of h2.1, by rw [l1, l2]; exact hz, fun e => ?_, fun _ e => ?_, fun _ _ p n => h.tup hS n r⟩))
      · subst e
        have e2 : ds = [] := List.eq_nil_of_length_eq_zero l1.symm
        subst e2
        exact h.ok hS (.tup h2 l2 q2)
      · subst e
        have e2 : es = [] := List.eq_nil_of_length_eq_zero l2.symm
        subst e2
        rw [List.append_nil] at h
        exact h.ok hS (.tup h1 l1 q1)
    · exact h.elim
  | @ref l a h1 =>
    cases ry <;> first | exact h.elim | skip
    rename_i m b h2
    unfold addD at h; dsimp only at h
    split at h
    · rename_i as bs e1 e2
      split at h
      · rename_i hz
        obtain ⟨vs, g1, r1⟩ := hS.at' e1 h1
        obtain ⟨ws, g2, r2⟩ := hS.at' e2 h2
        exact .inr (.inr (.inr ⟨_, _, _, _, rfl, rfl, g1, g2, by rw [r1.1, r2.1]; exact hz, fun p n => h.lst hS n (r1.append r2)⟩))
      · exact h.elim
    · exact h.elim
  | _ => cases ry <;> exact h.elim
abbrev rMulAll : R2 := fun x y H Q => rI CMul (fun i j => .int (i * j)) x y H Q ∨ rRep x y H Q
theorem op_mulAll : OpR X (binaryOp .Mult) rMulAll := OpR.or op_mul op_rep
theorem reps_rep {μ : List Addr} {H : Hp} {vs : List V} {ds : List Dv} (r : Reps K μ H vs ds) : ∀ n : Nat, Reps K μ H (List.replicate n vs).flatten (List.replicate n ds).flatten
  | 0 => .nil
  | n + 1 => by
    rw [List.replicate_succ, List.replicate_succ, List.flatten_cons, List.flatten_cons]
    exact r.append (reps_rep r n)
abbrev rLtAll : R2 := fun x y H Q => rI0 (fun i j => .bl (decide (i < j))) x y H Q ∨ (∃ i j, x = .str i ∧ y = .str j ∧ Q (.bl (decide (i.cps.toList < j.cps.toList))) H)
theorem op_ltAll : OpR X (compareOp .Lt) rLtAll := OpR.or op_lt op_lt_str
theorem o_lt : Op2 K ltD rLtAll := by
  intro mg Wx μ H S x y d e Q hS rx ry h
  cases rx <;> cases ry <;> first | exact h.elim | exact .inl ⟨_, _, rfl, rfl, h.ok hS (.bl _)⟩ | exact .inr ⟨_, _, rfl, rfl, h.ok hS (.bl _)⟩
theorem isN_of {μ : List Addr} {H : Hp} {v : V} {d : Dv} (r : Rep K μ H v d) : isN d = decide (v = .non) := by
  cases r <;> rfl
theorem o_is : Op2 K isD (fun x y H Q => y = .non ∧ Q (.bl (decide (x = .non))) H) := by
  intro mg Wx μ H S x y d e Q hS rx ry h
  cases ry <;> first | exact h.elim | skip
  exact ⟨rfl, Met.ok (RP := Rep K) h hS (by rw [isN_of rx]; exact .bl _)⟩
theorem o_isNot : Op2 K isNotD (fun x y H Q => y = .non ∧ Q (.bl (!decide (x = .non))) H) := by
  intro mg Wx μ H S x y d e Q hS rx ry h
  cases ry <;> first | exact h.elim | skip
  exact ⟨rfl, Met.ok (RP := Rep K) h hS (by rw [isN_of rx]; exact .bl _)⟩
end
end PL

namespace PL
open PySem PySem.Spec PyProof.Rows L2

section
variable {X : Cx} {K : PySem.W.Frag}
theorem o_mul : Op2 K mulD rMulAll := by
  intro mg Wx μ H S x y d e Q hS rx ry h
  cases rx with
  | int i =>
    cases ry <;> first | exact h.elim | skip
    unfold mulD at h; dsimp only at h
    split at h
    · rename_i hc; exact .inl ⟨_, _, rfl, rfl, hc, h.ok hS (.int _)⟩
    · exact h.elim
  | @ref l a h1 =>
    cases ry <;> first | exact h.elim | skip
    unfold mulD at h; dsimp only at h
    split at h
    · rename_i as e1
      split at h
      · rename_i hc
        obtain ⟨vs, g1, r1⟩ := hS.at' e1 h1
        exact .inr ⟨_, _, _, rfl, rfl, g1, hc.1, hc.2.1, by rw [r1.1]; exact hc.2.2, fun p n => h.lst hS n (reps_rep r1 _)⟩
      · exact h.elim
    · exact h.elim
  | _ => cases ry <;> exact h.elim
end

/-! ### equality of data -/
mutual
def toP : Nat → Sto → Dv → Option PyData
  | 0, _, _ => none
  | _ + 1, _, .non => some .none
  | _ + 1, _, .bl b => some (.bool b)
  | _ + 1, _, .int i => some (.int i)
  | _ + 1, _, .str x => some (.str x)
  | n + 1, S, .tup ds => (toPs n S ds).map .tuple
  | n + 1, S, .kt ds => (toPs n S ds).map .tuple
  | n + 1, S, .fl ds => (toPs n S ds).map .list
  | _ + 1, _, .xa _ => none
  | _ + 1, _, .xc _ _ _ _ => none
  | n + 1, S, .ref l => match S[l]? with
    | some (.lst ds) => (toPs n S ds).map .list
    | _ => none
def toPs : Nat → Sto → List Dv → Option (List PyData)
  | _, _, [] => some []
  | n, S, d :: ds => match toP n S d, toPs n S ds with
    | some p, some ps => some (p :: ps)
    | _, _ => none
end
/-- == -/
def eqq (S : Sto) (x y : Dv) : Option Bool := match toP 40 S x, toP 40 S y with
  | some p, some q => if SeqAt.shaped p = true ∧ SeqAt.shaped q = true then some (PyData.eqv p q) else none
  | _, _ => none
def eqD (x y : Dv) (S : Sto) : Out Dv := match eqq S x y with
  | some b => .ok (.bl b) S
  | none => .no
def neD (x y : Dv) (S : Sto) : Out Dv := match eqq S x y with
  | some b => .ok (.bl (!b)) S
  | none => .no
section
variable {X : Cx} {K : PySem.W.Frag} {μ : List Addr} {H : Hp} {S : Sto}
mutual
theorem dp_of (hS : SimS K μ S H) : ∀ (n : Nat) (v : V) (d : Dv) (p : PyData), Rep K μ H v d → toP n S d = some p → Dp K H v p
  | 0, _, _, _, _, h => by simp [toP] at h
  | n + 1, v, .non, p, r, h => by cases r; simp [toP] at h; subst h; exact .non
  | n + 1, v, .bl b, p, r, h => by cases r; simp [toP] at h; subst h; exact .bl _
  | n + 1, v, .int b, p, r, h => by cases r; simp [toP] at h; subst h; exact .int _
  | n + 1, v, .str b, p, r, h => by cases r; simp [toP] at h; subst h; exact .str _
  | _ + 1, _, .xa _, _, _, h => by simp [toP] at h
  | _ + 1, _, .xc _ _ _ _, _, _, h => by simp [toP] at h
  | n + 1, v, .tup ds, p, r, h => by
    cases r with
    | tup h1 l1 q1 =>
      simp only [toP, Option.map_eq_some_iff] at h
      obtain ⟨ps, h, rfl⟩ := h
      exact .tup (.of h1.1) (dps_of hS n _ ds ps ⟨l1, q1⟩ h)
  | n + 1, v, .kt ds, p, r, h => by
    cases r with
    | kt h1 l1 q1 =>
      simp only [toP, Option.map_eq_some_iff] at h
      obtain ⟨ps, h, rfl⟩ := h
      exact .tup (.inr h1) (dps_of hS n _ ds ps ⟨l1, q1⟩ h)
  | n + 1, v, .fl ds, p, r, h => by
    obtain ⟨a, vs, e, hq, rr⟩ := r.sqL hS (ds := ds) rfl
    subst e
    simp only [toP, Option.map_eq_some_iff] at h
    obtain ⟨ps, h, rfl⟩ := h
    exact .lst hq (dps_of hS n _ ds ps rr h)
  | n + 1, v, .ref l, p, r, h => by
    simp only [toP] at h
    split at h
    · rename_i ds e
      obtain ⟨a, vs, e', hq, rr⟩ := r.sqL hS (ds := ds) (by simp [lstOf, e])
      subst e'
      simp only [Option.map_eq_some_iff] at h
      obtain ⟨ps, h, rfl⟩ := h
      exact .lst hq (dps_of hS n _ ds ps rr h)
    · cases h
theorem dps_of (hS : SimS K μ S H) : ∀ (n : Nat) (vs : List V) (ds : List Dv) (ps : List PyData), Reps K μ H vs ds → toPs n S ds = some ps → DpAll K H vs ps
  | n, vs, [], ps, r, h => by
    cases r.un0
    simp [toPs] at h; subst h; exact .nil
  | n, vs, d :: ds, ps, r, h => by
    obtain ⟨v, ws, rfl, r1, r2⟩ := r.uncons
    simp only [toPs] at h
    split at h
    · rename_i p qs e1 e2
      simp only [Option.some.injEq] at h; subst h
      exact .cons (dp_of hS n v d p r1 e1) (dps_of hS n ws ds qs r2 e2)
    · cases h
end
theorem eqq_some {x y : Dv} {b : Bool} (h : eqq S x y = some b) : ∃ p q, toP 40 S x = some p ∧ toP 40 S y = some q ∧ SeqAt.shaped p = true ∧ SeqAt.shaped q = true ∧ b = PyData.eqv p q := by
  unfold eqq at h
  split at h
  · rename_i p q e1 e2
    split at h
    · rename_i hc
      exact ⟨p, q, e1, e2, hc.1, hc.2, (Option.some.inj h).symm⟩
    · cases h
  · cases h
theorem o_eq : Op2 K eqD (rEqD K) := by
  intro mg Wx μ H S x y d e Q hS rx ry h
  unfold eqD at h
  split at h
  · rename_i b hb
    obtain ⟨p, q, e1, e2, s1, s2, rfl⟩ := eqq_some hb
    exact ⟨p, q, dp_of hS 40 _ _ _ rx e1, dp_of hS 40 _ _ _ ry e2, s1, s2, h.ok hS (.bl _)⟩
  · exact h.elim
theorem o_ne : Op2 K neD (rNeD K) := by
  intro mg Wx μ H S x y d e Q hS rx ry h
  unfold neD at h
  split at h
  · rename_i b hb
    obtain ⟨p, q, e1, e2, s1, s2, rfl⟩ := eqq_some hb
    exact ⟨p, q, dp_of hS 40 _ _ _ rx e1, dp_of hS 40 _ _ _ ry e2, s1, s2, h.ok hS (.bl _)⟩
  · exact h.elim
end

/-! ### keys -/
def keyOf : Dv → Option L2.Key
  | .int i => some (.inl i)
  | .str x => some (.inr x)
  | _ => none
def keysOf : List Dv → Option (List L2.Key)
  | [] => some []
  | d :: ds => match keyOf d, keysOf ds with
    | some k, some ks => some (k :: ks)
    | _, _ => none
def tkeyOf : Dv → Option (List L2.Key)
  | .tup ds => keysOf ds
  | _ => none
section
variable {κ : Type} [DecidableEq κ] {α : Type}
def gat : List (κ × α) → κ → Option α
  | [], _ => none
  | p :: r, k => if p.1 = k then some p.2 else gat r k
def gput (kvs : List (κ × α)) (k : κ) (v : α) : List (κ × α) :=
  if (kvs.any fun kv => decide (kv.1 = k)) = true then kvs.map (fun kv => if kv.1 = k then (kv.1, v) else kv) else kvs ++ [(k, v)]
end
section
variable {K : PySem.W.Frag} {μ : List Addr} {H : Hp} {S : Sto}
theorem keyOf_rep {v : V} {d : Dv} {k : L2.Key} (r : Rep K μ H v d) (h : keyOf d = some k) : v = kV k := by
  cases r <;> simp [keyOf] at h <;> (subst h; rfl)
theorem keysOf_rep : ∀ {vs : List V} {ds : List Dv} {ks : List L2.Key}, Reps K μ H vs ds → keysOf ds = some ks → vs = ks.map kV
  | vs, [], ks, r, h => by cases r.un0; simp [keysOf] at h; subst h; rfl
  | vs, d :: ds, ks, r, h => by
    obtain ⟨v, ws, rfl, r1, r2⟩ := r.uncons
    simp only [keysOf] at h
    split at h
    · rename_i k ks' e1 e2
      simp only [Option.some.injEq] at h; subst h
      rw [keyOf_rep r1 e1, keysOf_rep r2 e2]; rfl
    · cases h
theorem tkeyOf_rep {v : V} {d : Dv} {ks : List L2.Key} (r : Rep K μ H v d) (h : tkeyOf d = some ks) : ∃ b, v = .ref b ∧ H b = some (.tup (ks.map kV)) := by
  cases r with
  | tup h1 l q => exact ⟨_, rfl, by rw [h1.1, keysOf_rep ⟨l, q⟩ h]⟩
  | _ => simp [tkeyOf] at h
variable {κ : Type} [DecidableEq κ]
theorem gat_rep : ∀ {ws : List (κ × V)} {kvs : List (κ × Dv)} (k : κ), ws.map (·.1) = kvs.map (·.1) → Reps K μ H (ws.map (·.2)) (kvs.map (·.2)) →
    (gat kvs k = none ∧ valV ws k = none) ∨ ∃ d v, gat kvs k = some d ∧ valV ws k = some v ∧ Rep K μ H v d
  | [], [], k, _, _ => .inl ⟨rfl, rfl⟩
  | p :: ws, q :: kvs, k, h, r => by
    simp only [List.map_cons, List.cons.injEq] at h
    obtain ⟨v, vs, e, r1, r2⟩ := Reps.uncons r
    simp only [List.map_cons, List.cons.injEq] at e
    obtain ⟨rfl, rfl⟩ := e
    by_cases hk : q.1 = k
    · exact .inr ⟨q.2, p.2, by simp [gat, hk], valV_pos (h.1.trans hk), r1⟩
    · rcases gat_rep k h.2 r2 with ⟨e1, e2⟩ | ⟨d, v, e1, e2, e3⟩
      · exact .inl ⟨by simp [gat, hk, e1], by rw [valV_neg (by rw [h.1]; exact hk)]; exact e2⟩
      · exact .inr ⟨d, v, by simp [gat, hk, e1], by rw [valV_neg (by rw [h.1]; exact hk)]; exact e2, e3⟩
  | [], _ :: _, _, h, _ => by simp at h
  | _ :: _, [], _, h, _ => by simp at h
theorem any_keys {α β : Type} {k : κ} : ∀ {ws : List (κ × α)} {kvs : List (κ × β)}, ws.map (·.1) = kvs.map (·.1) → (ws.any fun kv => decide (kv.1 = k)) = kvs.any fun kv => decide (kv.1 = k)
  | [], [], _ => rfl
  | p :: ws, q :: kvs, h => by
    simp only [List.map_cons, List.cons.injEq] at h
    rw [List.any_cons, List.any_cons, any_keys h.2, h.1]
  | [], _ :: _, h => by simp at h
  | _ :: _, [], h => by simp at h
theorem repl_keys {α : Type} {k : κ} {v : α} (kvs : List (κ × α)) : (kvs.map fun kv => if kv.1 = k then (kv.1, v) else kv).map (·.1) = kvs.map (·.1) := by
  rw [List.map_map]
  refine List.map_congr_left fun p _ => ?_
  show (if p.1 = k then (p.1, v) else p).1 = p.1
  split <;> rfl
theorem repl_rep {k : κ} {v : V} {d : Dv} (rv : Rep K μ H v d) : ∀ {ws : List (κ × V)} {kvs : List (κ × Dv)}, ws.map (·.1) = kvs.map (·.1) → Reps K μ H (ws.map (·.2)) (kvs.map (·.2)) →
    Reps K μ H ((ws.map fun kv => if kv.1 = k then (kv.1, v) else kv).map (·.2)) ((kvs.map fun kv => if kv.1 = k then (kv.1, d) else kv).map (·.2))
  | [], [], _, _ => .nil
  | p :: ws, q :: kvs, h, r => by
    simp only [List.map_cons, List.cons.injEq] at h
    obtain ⟨u, us, e, r1, r2⟩ := Reps.uncons r
    simp only [List.map_cons, List.cons.injEq] at e
    obtain ⟨rfl, rfl⟩ := e
    simp only [List.map_cons]
    refine Reps.cons (repl_rep rv h.2 r2) ?_
    rw [h.1]
    split
    · exact rv
    · exact r1
  | [], _ :: _, h, _ => by simp at h
  | _ :: _, [], h, _ => by simp at h
theorem gput_rep {ws : List (κ × V)} {kvs : List (κ × Dv)} {k : κ} {v : V} {d : Dv} (h : ws.map (·.1) = kvs.map (·.1)) (r : Reps K μ H (ws.map (·.2)) (kvs.map (·.2))) (rv : Rep K μ H v d) :
    (putK ws k v).map (·.1) = (gput kvs k d).map (·.1) ∧ Reps K μ H ((putK ws k v).map (·.2)) ((gput kvs k d).map (·.2)) := by
  unfold putK gput
  rw [any_keys h]
  split
  · exact ⟨by rw [repl_keys, repl_keys, h], repl_rep rv h r⟩
  · exact ⟨by rw [List.map_append, List.map_append, h]; rfl, by rw [List.map_append, List.map_append]; exact r.append (.one rv)⟩
/-- what a dict tells of a key -/
def dget (S : Sto) (o k : Dv) : Option (Option Dv) := match o with
  | .ref l => match S[l]? with
    | some (.dk kvs) => (keyOf k).map (gat kvs)
    | some (.dt kvs) => (tkeyOf k).map (gat kvs)
    | some (.fk kvs) => (keyOf k).map (gat kvs)
    | some (.ft kvs) => (tkeyOf k).map (gat kvs)
    | _ => none
  | _ => none
theorem dget_rep {x y : V} {o k : Dv} {r : Option Dv} (hS : SimS K μ S H) (rx : Rep K μ H x o) (ry : Rep K μ H y k) (h : dget S o k = some r) :
    ∃ a u, x = .ref a ∧ DGet H a y u ∧ ((r = none ∧ u = none) ∨ ∃ d v, r = some d ∧ u = some v ∧ Rep K μ H v d) := by
  cases rx with
  | @ref l a hl =>
    simp only [dget] at h
    split at h
    · rename_i kvs e
      obtain ⟨ws, e1, e2, e3⟩ := hS.at' e hl
      simp only [Option.map_eq_some_iff] at h
      obtain ⟨κ, hk, h⟩ := h
      refine ⟨a, valV ws κ, rfl, ?_, ?_⟩
      · rw [keyOf_rep ry hk]; exact .k e1
      · rcases gat_rep κ e2 e3 with ⟨g1, g2⟩ | ⟨d, v, g1, g2, g3⟩
        · exact .inl ⟨h.symm.trans g1, g2⟩
        · exact .inr ⟨d, v, h.symm.trans g1, g2, g3⟩
    · rename_i kvs e
      obtain ⟨ws, e1, e2, e3⟩ := hS.at' e hl
      simp only [Option.map_eq_some_iff] at h
      obtain ⟨κ, hk, h⟩ := h
      obtain ⟨b, rfl, eb⟩ := tkeyOf_rep ry hk
      refine ⟨a, valV ws κ, rfl, .t e1 eb, ?_⟩
      rcases gat_rep κ e2 e3 with ⟨g1, g2⟩ | ⟨d, v, g1, g2, g3⟩
      · exact .inl ⟨h.symm.trans g1, g2⟩
      · exact .inr ⟨d, v, h.symm.trans g1, g2, g3⟩
    · rename_i kvs e
      obtain ⟨ws, ⟨o, e1⟩, e2, e3⟩ := hS.at' e hl
      simp only [Option.map_eq_some_iff] at h
      obtain ⟨κ, hk, h⟩ := h
      refine ⟨a, valV ws κ, rfl, ?_, ?_⟩
      · rw [keyOf_rep ry hk]; exact .inl ⟨ws, κ, .inr ⟨o, e1⟩, rfl, rfl⟩
      · rcases gat_rep κ e2 e3 with ⟨g1, g2⟩ | ⟨d, v, g1, g2, g3⟩
        · exact .inl ⟨h.symm.trans g1, g2⟩
        · exact .inr ⟨d, v, h.symm.trans g1, g2, g3⟩
    · rename_i kvs e
      obtain ⟨ws, ⟨o, e1⟩, e2, e3⟩ := hS.at' e hl
      simp only [Option.map_eq_some_iff] at h
      obtain ⟨κ, hk, h⟩ := h
      obtain ⟨b, rfl, eb⟩ := tkeyOf_rep ry hk
      refine ⟨a, valV ws κ, rfl, .inr ⟨ws, κ, b, .inr ⟨o, e1⟩, rfl, eb, rfl⟩, ?_⟩
      rcases gat_rep κ e2 e3 with ⟨g1, g2⟩ | ⟨d, v, g1, g2, g3⟩
      · exact .inl ⟨h.symm.trans g1, g2⟩
      · exact .inr ⟨d, v, h.symm.trans g1, g2, g3⟩
    · cases h
  | _ => simp [dget] at h
/-- the store behind o[k] = d -/
def dput (S : Sto) (o k d : Dv) : Option Sto := match o with
  | .ref l => match S[l]? with
    | some (.dk kvs) => if kvs.length < sizeLine then (keyOf k).map fun κ => S.set l (.dk (gput kvs κ d)) else none
    | some (.dt kvs) => if kvs.length < sizeLine then (tkeyOf k).map fun κ => S.set l (.dt (gput kvs κ d)) else none
    | _ => none
  | _ => none
theorem dput_rep {x y v : V} {o k d : Dv} {S' : Sto} (hS : SimS K μ S H) (rx : Rep K μ H x o) (ry : Rep K μ H y k) (rv : Rep K μ H v d) (h : dput S o k d = some S') :
    ∃ a H', x = .ref a ∧ DPut H a y v H' ∧ SimS K μ S' H' ∧ Step μ H μ H' := by
  cases rx with
  | @ref l a hl =>
    simp only [dput] at h
    split at h
    · rename_i kvs e
      obtain ⟨ws, e1, e2, e3⟩ := hS.at' e hl
      split at h
      · rename_i hz
        simp only [Option.map_eq_some_iff] at h
        obtain ⟨κ, hk, rfl⟩ := h
        have hw : ws.length < sizeLine := by have := congrArg List.length e2; simp at this; omega
        refine ⟨a, _, rfl, ?_, hS.put hl (u := .dK (putK ws κ v)) ⟨_, upd_same, ?_⟩, step_put hS hl _⟩
        · rw [keyOf_rep ry hk]; exact .k e1 hw
        · obtain ⟨g1, g2⟩ := gput_rep (k := κ) e2 e3 rv
          exact ⟨g1, g2.step (step_put hS hl _)⟩
      · cases h
    · rename_i kvs e
      obtain ⟨ws, e1, e2, e3⟩ := hS.at' e hl
      split at h
      · rename_i hz
        simp only [Option.map_eq_some_iff] at h
        obtain ⟨κ, hk, rfl⟩ := h
        obtain ⟨b, rfl, eb⟩ := tkeyOf_rep ry hk
        have hw : ws.length < sizeLine := by have := congrArg List.length e2; simp at this; omega
        refine ⟨a, _, rfl, .t e1 eb hw, hS.put hl (u := .dT (putK ws κ v)) ⟨_, upd_same, ?_⟩, step_put hS hl _⟩
        obtain ⟨g1, g2⟩ := gput_rep (k := κ) e2 e3 rv
        exact ⟨g1, g2.step (step_put hS hl _)⟩
      · cases h
    · cases h
  | _ => simp [dput] at h
end

/-! ### subscripts -/
def idxD (o i : Dv) (S : Sto) : Out Dv := match i with
  | .int k => match o with
    | .str x => if x.length ≤ sizeLine then (match atI x.cps.toList k with | some c => .ok (.str ⟨#[c]⟩) S | none => .no) else .no
    | _ => match tupOf o with
      | some ds => (match atI ds k with | some d => .ok d S | none => .no)
      | none => match lstOf S o with
        | some ds => (match atI ds k with | some d => .ok d S | none => .no)
        | none => match dget S o i with
          | some (some d) => .ok d S
          | _ => .no
  | _ => match dget S o i with
    | some (some d) => .ok d S
    | _ => .no
abbrev rIxD : R2 := fun x y H Q => ∃ a v, x = .ref a ∧ DGet H a y (some v) ∧ Q v H
theorem ix_dict {X : Cx} (hu : X.A.units + 1 < cLine) : IxR X rIxD := by
  intro value slice pins s σ H x y v u Q I rx ry h hs
  obtain ⟨a, w, rfl, g, q⟩ := h
  cases rx
  exact tail_any (ops := [.ref a, u]) (dict_typeIs I g) PySem.F.slot_dict_getitem.lookup (d_getItem hu I g ry fun w' s3 I3 rw' => ⟨w, H, I3, rw', q⟩) hs
abbrev rIxAll (K : PySem.W.Frag) : R2 := fun x y H Q => rIx K x y H Q ∨ rIxD x y H Q
section
variable {X : Cx} {K : PySem.W.Frag} {W : WX} {a b : Expr} {ra rb : RE} {pos : Pos}
theorem atI_rep {μ : List Addr} {H : Hp} {vs : List V} {ds : List Dv} {k : Int} {d : Dv} (r : Reps K μ H vs ds) (h : atI ds k = some d) : ∃ v, atI vs k = some v ∧ Rep K μ H v d := by
  unfold atI at h ⊢
  rw [r.1]
  obtain ⟨j, e, h⟩ := Option.bind_eq_some_iff.mp h
  obtain ⟨v, e1, rv⟩ := r.get h
  exact ⟨v, by rw [e]; exact e1, rv⟩
theorem o_idx : Op2 K idxD (rIxAll K) := by
  intro mg Wx μ H S x y o i Q hS rx ry h
  have dict : ∀ (h : Met (Rep K) K mg Wx μ H (match dget S o i with | some (some d) => .ok d S | _ => .no) Q), rIxAll K x y H Q := fun h => by
    split at h
    · rename_i d e
      obtain ⟨a, u, ex, g, hh⟩ := dget_rep hS rx ry e
      rcases hh with ⟨z, _⟩ | ⟨d', v, e1, e2, r⟩
      · cases z
      · cases e1; subst e2
        exact .inr ⟨a, v, ex, g, h.ok hS r⟩
    · exact h.elim
  unfold idxD at h
  split at h
  · rename_i k
    cases ry
    split at h
    · rename_i z
      cases rx
      split at h
      · rename_i hz
        split at h
        · rename_i c e
          exact .inl (.inr (.inr ⟨_, _, c, rfl, rfl, hz, e, h.ok hS (.str _)⟩))
        · exact h.elim
      · exact h.elim
    · split at h
      · rename_i ds e
        obtain ⟨a, vs, rfl, hq, r⟩ := rx.sqT e
        split at h
        · rename_i d e2
          obtain ⟨v, e3, rv⟩ := atI_rep r e2
          exact .inl (.inr (.inl ⟨_, _, _, v, rfl, rfl, hq, e3, h.ok hS rv⟩))
        · exact h.elim
      · split at h
        · rename_i ds e
          obtain ⟨a, vs, rfl, hq, r⟩ := rx.sqL hS e
          split at h
          · rename_i d e2
            obtain ⟨v, e3, rv⟩ := atI_rep r e2
            exact .inl (.inl ⟨_, _, _, v, rfl, rfl, hq, e3, h.ok hS rv⟩)
          · exact h.elim
        · exact dict h
  · exact dict h
theorem se_ix (hu : X.A.units + 1 < cLine) (ha : SE X W a ra) (hb : SE X W b rb) (hs : PlainIx b := by exact fun _ _ => rfl) : SE X W (.Subscript a b pos) (eBin idxD ra rb) :=
  PE.imp (pe_ix (IxR.or ix_seq (ix_dict hu)) ha hb hs) fun _ _ _ h => bnd2 o_idx h
/-! ### slices -/
abbrev RO := Env → Sto → Out (Option Int)
def oNone : RO := fun _ S => .ok none S
def oSome (r : RE) : RO := fun ρ S => (r ρ S).bind fun d S1 => match d with
  | .int i => .ok (some i) S1
  | _ => .no
def cutD {α : Type} (ds : List α) (lo hi : Option Int) : List α := (ds.drop (HT.sIx ds.length 0 lo)).take (HT.sIx ds.length ds.length hi - HT.sIx ds.length 0 lo)
def sliD (o : Dv) (lo hi : Option Int) (S : Sto) : Out Dv := match o with
  | .str x => if x.length ≤ sizeLine then .ok (.str (cutS x lo hi)) S else .no
  | .tup ds => .ok (.tup (cutD ds lo hi)) S
  | _ => match lstOf S o with
    | some ds => newL (cutD ds lo hi) S
    | none => .no
def eSli (o : RE) (l h : RO) : RE := fun ρ S => (o ρ S).bind fun d S1 => (l ρ S1).bind fun lo S2 => (h ρ S2).bind fun hi S3 => sliD d lo hi S3
def RInt (μ : List Addr) (H : Hp) (b b' : Option Int) : Prop := b = b'
structure SO (X : Cx) (W : WX) (e : Option Expr) (r : RO) : Prop where
  po : PO X e (tG RInt X.K X.mg W r)
theorem so_none : SO X W none oNone := ⟨⟨fun pins s σ H Q I ⟨μ, ρ, S, hS, hE, h⟩ => po_none.run pins s σ H Q I (Met.ok (RP := RInt) h hS rfl)⟩⟩
theorem so_some {e : Expr} (h : SE X W e ra) : SO X W (some e) (oSome ra) := ⟨⟨fun pins s σ H Q I ⟨μ, ρ, S, hS, hE, hm⟩ => (po_some h).run pins s σ H Q I <|
  (bnd hS hE hm).mono fun v H1 ⟨μ1, S1, d, hS1, hE1, s1, rv, h1⟩ => by
    cases rv <;> first | exact h1.elim | exact ⟨_, rfl, Met.ok (RP := RInt) h1 hS1 rfl⟩⟩⟩
theorem cut_rep {μ : List Addr} {H : Hp} {vs : List V} {ds : List Dv} (r : Reps K μ H vs ds) (lo hi : Option Int) : Reps K μ H (cutV vs lo hi) (cutD ds lo hi) := by
  unfold cutV cutD
  rw [r.1]
  exact (r.drop _).take _
theorem cut_whole {α : Type} {ds : List α} {lo hi : Option Int} (h : HT.sIx ds.length 0 lo = 0 ∧ HT.sIx ds.length ds.length hi = ds.length) : cutD ds lo hi = ds := by
  unfold cutD
  rw [h.1, h.2]
  simp
theorem se_sli {lo hi : Option Expr} {rl rh : RO} {p2 : Pos} (ha : SE X W a ra) (hl : SO X W lo rl) (hh : SO X W hi rh) : SE X W (.Subscript a (.Slice lo hi none p2) pos) (eSli ra rl rh) :=
  PE.imp (pe_slice (SlR.or sl_str (SlR.or sl_tupA sl_list)) ha hl.po hh.po) fun σ H Q ⟨μ, ρ, S, hS, hE, h⟩ => (bnd hS hE h).mono fun v H1 ⟨μ1, S1, d, hS1, hE1, s1, rv, h1⟩ =>
    (bnd (R1 := RInt) hS1 hE1 h1).mono fun l H2 ⟨μ2, S2, l', hS2, hE2, s2, rl, h2⟩ => (bnd (R1 := RInt) hS2 hE2 h2).mono fun u H3 ⟨μ3, S3, u', hS3, hE3, s3, ru, h3⟩ => by
      cases (show l = l' from rl)
      cases (show u = u' from ru)
      have rv3 := (rv.step s2).step s3
      unfold sliD at h3
      split at h3
      · cases rv3
        split at h3
        · rename_i hz; exact .inl ⟨_, rfl, hz, h3.ok hS3 (.str _)⟩
        · exact h3.elim
      · cases rv3 with
        | tup t1 t2 t3 =>
          have r : Reps X.K μ3 H3 _ _ := ⟨t2, t3⟩
          refine .inr (.inl ⟨_, _, rfl, .of t1.1, fun w => ?_, fun _ p n => h3.tup hS3 n (cut_rep r _ _)⟩)
          rw [t2] at w
          rw [cut_whole w] at h3
          exact h3.ok hS3 (.tup t1 t2 t3)
      · split at h3
        · rename_i ds e
          obtain ⟨a, vs, rfl, hq, r⟩ := rv3.sqL hS3 e
          exact .inr (.inr ⟨a, vs, rfl, hq, fun p n => h3.lst hS3 n (cut_rep r _ _)⟩)
        · exact h3.elim
end
end PL

namespace PL
open PySem PySem.Spec PyProof.Rows L2

/-! ### built-ins -/
def kD : L2.Key → Dv
  | .inl i => .int i
  | .inr x => .str x
def intsOf : List Dv → Option (List Int)
  | [] => some []
  | .int i :: r => (intsOf r).map (i :: ·)
  | _ => none
def blsOf : List Dv → Option (List Bool)
  | [] => some []
  | .bl i :: r => (blsOf r).map (i :: ·)
  | _ => none
def strsOf : List Dv → Option (List Str)
  | [] => some []
  | .str i :: r => (strsOf r).map (i :: ·)
  | _ => none
def seqOf (S : Sto) (d : Dv) : Option (List Dv) := match tupOf d with
  | some ds => some ds
  | none => lstOf S d
def lenD (ds : List Dv) (S : Sto) : Out Dv := match ds with
  | [.str x] => if x.length ≤ sizeLine then .ok (.int x.length) S else .no
  | [d] => match seqOf S d with
    | some xs => .ok (.int xs.length) S
    | none => match d with
      | .ref l => match S[l]? with
        | some (.dk kvs) => .ok (.int kvs.length) S
        | some (.dt kvs) => .ok (.int kvs.length) S
        | _ => .no
      | _ => .no
  | _ => .no
def listD (ds : List Dv) (S : Sto) : Out Dv := match ds with
  | [d] => match seqOf S d with
    | some xs => newL xs S
    | none => match d with
      | .ref l => match S[l]? with
        | some (.dk kvs) => newL (kvs.map fun kv => kD kv.1) S
        | _ => .no
      | _ => .no
  | _ => .no
def tupleD (ds : List Dv) (S : Sto) : Out Dv := match ds with
  | [.tup xs] => .ok (.tup xs) S
  | [.kt xs] => .ok (.kt xs) S
  | [d] => match lstOf S d with
    | some xs => .ok (.tup xs) S
    | none => .no
  | _ => .no
def intD (ds : List Dv) (S : Sto) : Out Dv := match ds with
  | [.int i] => .ok (.int i) S
  | [.bl b] => .ok (.int (if b then 1 else 0)) S
  | [.str x] => match PySem.intText? x with
    | some n => if x.length ≤ 640 then .ok (.int n) S else .no
    | none => .no
  | _ => .no
def strD (ds : List Dv) (S : Sto) : Out Dv := match ds with
  | [.int i] => if i.natAbs.log2 < 1920 then .ok (.str (toString i)) S else .no
  | _ => .no
def absD (ds : List Dv) (S : Sto) : Out Dv := match ds with
  | [.int i] => .ok (.int (if i < 0 then -i else i)) S
  | _ => .no
def maxI : List Int → Option Int
  | [] => none
  | x :: r => some (r.foldl max x)
def minI : List Int → Option Int
  | [] => none
  | x :: r => some (r.foldl min x)
def max2D (ds : List Dv) (S : Sto) : Out Dv := match ds with
  | [.int i, .int j] => .ok (.int (max i j)) S
  | _ => .no
def min2D (ds : List Dv) (S : Sto) : Out Dv := match ds with
  | [.int i, .int j] => .ok (.int (min i j)) S
  | _ => .no
def maxD (ds : List Dv) (S : Sto) : Out Dv := match ds with
  | [d] => match (lstOf S d).bind intsOf with
    | some ns => match maxI ns with
      | some m => .ok (.int m) S
      | none => .no
    | none => .no
  | _ => .no
def minD (ds : List Dv) (S : Sto) : Out Dv := match ds with
  | [d] => match (lstOf S d).bind intsOf with
    | some ns => match minI ns with
      | some m => .ok (.int m) S
      | none => .no
    | none => .no
  | _ => .no
def sumD (ds : List Dv) (S : Sto) : Out Dv := match ds with
  | [d] => match (lstOf S d).bind intsOf with
    | some ns => .ok (.int ns.sum) S
    | none => .no
  | _ => .no
def anyD (ds : List Dv) (S : Sto) : Out Dv := match ds with
  | [d] => match (lstOf S d).bind blsOf with
    | some ns => .ok (.bl (ns.any id)) S
    | none => .no
  | _ => .no
section
variable {X : Cx} {K : PySem.W.Frag} {μ : List Addr} {H : Hp} {S : Sto}
theorem intsOf_rep : ∀ {vs : List V} {ds : List Dv} {ns : List Int}, Reps K μ H vs ds → intsOf ds = some ns → vs = ns.map V.int
  | vs, [], ks, r, h => by cases r.un0; simp [intsOf] at h; subst h; rfl
  | vs, d :: ds, ks, r, h => by
    obtain ⟨v, ws, rfl, r1, r2⟩ := r.uncons
    cases r1 <;> simp only [intsOf] at h <;> first | cases h | skip
    rw [Option.map_eq_some_iff] at h
    obtain ⟨ns, e, rfl⟩ := h
    rw [intsOf_rep r2 e]; rfl
theorem blsOf_rep : ∀ {vs : List V} {ds : List Dv} {ns : List Bool}, Reps K μ H vs ds → blsOf ds = some ns → vs = ns.map V.bl
  | vs, [], ks, r, h => by cases r.un0; simp [blsOf] at h; subst h; rfl
  | vs, d :: ds, ks, r, h => by
    obtain ⟨v, ws, rfl, r1, r2⟩ := r.uncons
    cases r1 <;> simp only [blsOf] at h <;> first | cases h | skip
    rw [Option.map_eq_some_iff] at h
    obtain ⟨ns, e, rfl⟩ := h
    rw [blsOf_rep r2 e]; rfl
theorem strsOf_rep : ∀ {vs : List V} {ds : List Dv} {ns : List Str}, Reps K μ H vs ds → strsOf ds = some ns → vs = ns.map V.str
  | vs, [], ks, r, h => by cases r.un0; simp [strsOf] at h; subst h; rfl
  | vs, d :: ds, ks, r, h => by
    obtain ⟨v, ws, rfl, r1, r2⟩ := r.uncons
    cases r1 <;> simp only [strsOf] at h <;> first | cases h | skip
    rw [Option.map_eq_some_iff] at h
    obtain ⟨ns, e, rfl⟩ := h
    rw [strsOf_rep r2 e]; rfl
theorem seq_rep {v : V} {d : Dv} {ds : List Dv} (hS : SimS K μ S H) (r : Rep K μ H v d) (e : seqOf S d = some ds) : ∃ a vs, v = .ref a ∧ (SqL K H a vs ∨ SqT K H a vs) ∧ Reps K μ H vs ds := by
  unfold seqOf at e
  split at e
  · rename_i xs e1
    cases e
    obtain ⟨a, vs, h1, h2, h3⟩ := r.sqT e1
    exact ⟨a, vs, h1, .inr h2, h3⟩
  · obtain ⟨a, vs, h1, h2, h3⟩ := r.sqL hS e
    exact ⟨a, vs, h1, .inl h2, h3⟩
theorem Reps.get1 {vs : List V} {d : Dv} (r : Reps K μ H vs [d]) : ∃ v, vs = [v] ∧ Rep K μ H v d := by
  obtain ⟨v, ws, rfl, r1, r2⟩ := r.uncons
  cases r2.un0
  exact ⟨v, rfl, r1⟩
theorem Reps.get2 {vs : List V} {d e : Dv} (r : Reps K μ H vs [d, e]) : ∃ v u, vs = [v, u] ∧ Rep K μ H v d ∧ Rep K μ H u e := by
  obtain ⟨v, ws, rfl, r1, r2⟩ := r.uncons
  obtain ⟨u, rfl, r3⟩ := r2.get1
  exact ⟨v, u, rfl, r1, r3⟩
theorem call_lenAll : CallR X (.builtin "len") (fun xs H Q => (∃ x n, xs = [x] ∧ LenV X.K x H n ∧ Q (.int n) H) ∨ ((∃ a kvs, xs = [V.ref a] ∧ H a = some (.dK kvs) ∧ Q (.int kvs.length) H) ∨ rLenT xs H Q)) := CallR.or call_len (CallR.or call_lenD call_len_dT)
theorem o_len : OpL K lenD (fun xs H Q => (∃ x n, xs = [x] ∧ LenV K x H n ∧ Q (.int n) H) ∨ ((∃ a kvs, xs = [V.ref a] ∧ H a = some (.dK kvs) ∧ Q (.int kvs.length) H) ∨ rLenT xs H Q)) := by
  intro mg Wx μ H S vs ds Q hS r h
  unfold lenD at h
  split at h
  · rename_i x
    obtain ⟨v, rfl, rv⟩ := r.get1
    cases rv
    split at h
    · rename_i hz; exact .inl ⟨_, _, rfl, ⟨hz, rfl⟩, h.ok hS (.int _)⟩
    · exact h.elim
  · rename_i d _
    obtain ⟨v, rfl, rv⟩ := r.get1
    split at h
    · rename_i xs e
      obtain ⟨a, vs, rfl, hq, rr⟩ := seq_rep hS rv e
      refine .inl ⟨_, vs.length, rfl, ?_, by rw [rr.1]; exact h.ok hS (.int _)⟩
      exact hq.imp (fun q => ⟨vs, q, rfl⟩) fun q => ⟨vs, q, rfl⟩
    · split at h
      · cases rv with
        | ref hl =>
          split at h
          · rename_i kvs e
            obtain ⟨ws, e1, e2, e3⟩ := hS.at' e hl
            have e4 : ws.length = kvs.length := by have := congrArg List.length e2; simpa using this
            exact .inr (.inl ⟨_, ws, rfl, e1, by rw [e4]; exact h.ok hS (.int _)⟩)
          · rename_i kvs e
            obtain ⟨ws, e1, e2, e3⟩ := hS.at' e hl
            have e4 : ws.length = kvs.length := by have := congrArg List.length e2; simpa using this
            exact .inr (.inr ⟨_, ws, rfl, e1, by rw [e4]; exact h.ok hS (.int _)⟩)
          · exact h.elim
      · exact h.elim
  · exact h.elim
abbrev rListAll (K : PySem.W.Frag) : List V → Hp → VK → Prop := fun xs H Q => (∃ p ys, xs = [.ref p] ∧ (SqL K H p ys ∨ SqT K H p ys) ∧ ∀ l, H l = none → Q (.ref l) (upd H l (.lst ys))) ∨ rListD xs H Q
theorem call_listAll (hc : X.calm = true) : CallR X (.type "list") (rListAll X.K) := CallR.or call_list_of (call_list_dK hc)
theorem rep_kV {μ : List Addr} {H : Hp} (k : L2.Key) : Rep K μ H (kV k) (kD k) := by
  cases k with
  | inl i => exact .int i
  | inr x => exact .str x
theorem reps_keys {μ : List Addr} {H : Hp} : ∀ {ws : List (L2.Key × V)} {kvs : List (L2.Key × Dv)}, ws.map (·.1) = kvs.map (·.1) → Reps K μ H (ws.map fun kv => kV kv.1) (kvs.map fun kv => kD kv.1)
  | [], [], _ => .nil
  | p :: ws, q :: kvs, h => by
    simp only [List.map_cons, List.cons.injEq] at h
    simp only [List.map_cons]
    rw [h.1]
    exact (reps_keys h.2).cons (rep_kV _)
  | [], _ :: _, h => by simp at h
  | _ :: _, [], h => by simp at h
theorem o_list : OpL K listD (rListAll K) := by
  intro mg Wx μ H S vs ds Q hS r h
  unfold listD at h
  split at h
  · rename_i d
    obtain ⟨v, rfl, rv⟩ := r.get1
    split at h
    · rename_i xs e
      obtain ⟨a, vs, rfl, hq, rr⟩ := seq_rep hS rv e
      exact .inl ⟨_, vs, rfl, hq, fun p n => h.lst hS n rr⟩
    · split at h
      · cases rv with
        | ref hl =>
          split at h
          · rename_i kvs e
            obtain ⟨ws, e1, e2, e3⟩ := hS.at' e hl
            exact .inr ⟨_, ws, rfl, e1, fun p n => h.lst hS n (reps_keys e2)⟩
          · exact h.elim
      · exact h.elim
  · exact h.elim
theorem o_tuple : OpL K tupleD (fun xs H Q => ∃ p ys, xs = [.ref p] ∧ ((SqL K H p ys ∧ ∀ l, H l = none → Q (.ref l) (upd H l (.tup ys))) ∨ (SqT K H p ys ∧ Q (.ref p) H))) := by
  intro mg Wx μ H S vs ds Q hS r h
  unfold tupleD at h
  split at h
  · obtain ⟨v, rfl, rv⟩ := r.get1
    cases rv with
    | tup t l q => exact ⟨_, _, rfl, .inr ⟨.of t.1, h.ok hS (.tup t l q)⟩⟩
  · obtain ⟨v, rfl, rv⟩ := r.get1
    cases rv with
    | kt t l q => exact ⟨_, _, rfl, .inr ⟨.inr t, h.ok hS (.kt t l q)⟩⟩
  · obtain ⟨v, rfl, rv⟩ := r.get1
    split at h
    · rename_i xs e
      obtain ⟨a, vs, rfl, hq, rr⟩ := rv.sqL hS e
      exact ⟨_, _, rfl, .inl ⟨hq, fun p n => h.tup hS n rr⟩⟩
    · exact h.elim
  · exact h.elim
abbrev rInt : List V → Hp → VK → Prop := fun xs H Q => ((∃ i, xs = [.int i] ∧ Q (.int i) H) ∨ ∃ k, xs = [.bl k] ∧ Q (.int (if k then 1 else 0)) H) ∨ (∃ a n, xs = [.str a] ∧ PySem.intText? a = some n ∧ a.length ≤ 640 ∧ Q (.int n) H)
theorem call_intAll : CallR X (.type "int") rInt := CallR.or call_int1 call_int_str
theorem o_int : OpL K intD rInt := by
  intro mg Wx μ H S vs ds Q hS r h
  unfold intD at h
  split at h
  · obtain ⟨v, rfl, rv⟩ := r.get1; cases rv; exact .inl (.inl ⟨_, rfl, h.ok hS (.int _)⟩)
  · obtain ⟨v, rfl, rv⟩ := r.get1; cases rv; exact .inl (.inr ⟨_, rfl, h.ok hS (.int _)⟩)
  · obtain ⟨v, rfl, rv⟩ := r.get1
    cases rv
    split at h
    · split at h
      · rename_i n e hz; exact .inr ⟨_, n, rfl, e, hz, h.ok hS (.int _)⟩
      · exact h.elim
    · exact h.elim
  · exact h.elim
theorem o_str : OpL K strD (fun xs H Q => ∃ i, xs = [.int i] ∧ i.natAbs.log2 < 1920 ∧ Q (.str (toString i)) H) := by
  intro mg Wx μ H S vs ds Q hS r h
  unfold strD at h
  split at h
  · obtain ⟨v, rfl, rv⟩ := r.get1
    cases rv
    split at h
    · rename_i hz; exact ⟨_, rfl, hz, h.ok hS (.str _)⟩
    · exact h.elim
  · exact h.elim
theorem o_abs : OpL K absD (fun xs H Q => ∃ i, xs = [.int i] ∧ Q (.int (if i < 0 then -i else i)) H) := by
  intro mg Wx μ H S vs ds Q hS r h
  unfold absD at h
  split at h
  · obtain ⟨v, rfl, rv⟩ := r.get1; cases rv; exact ⟨_, rfl, h.ok hS (.int _)⟩
  · exact h.elim
theorem o_max2 : OpL K max2D (fun xs H Q => ∃ i j, xs = [.int i, .int j] ∧ Q (.int (if j > i then j else i)) H) := by
  intro mg Wx μ H S vs ds Q hS r h
  unfold max2D at h
  split at h
  · rename_i i j
    obtain ⟨v, u, rfl, rv, ru⟩ := r.get2; cases rv; cases ru
    refine ⟨_, _, rfl, ?_⟩
    have e : max i j = if j > i then j else i := by split <;> omega
    rw [e] at h
    exact h.ok hS (.int _)
  · exact h.elim
theorem o_min2 : OpL K min2D (fun xs H Q => ∃ i j, xs = [.int i, .int j] ∧ Q (.int (if j < i then j else i)) H) := by
  intro mg Wx μ H S vs ds Q hS r h
  unfold min2D at h
  split at h
  · rename_i i j
    obtain ⟨v, u, rfl, rv, ru⟩ := r.get2; cases rv; cases ru
    refine ⟨_, _, rfl, ?_⟩
    have e : min i j = if j < i then j else i := by split <;> omega
    rw [e] at h
    exact h.ok hS (.int _)
  · exact h.elim
theorem foldmax_spec : ∀ (ns : List Int) (x : Int), (ns.foldl max x ∈ x :: ns) ∧ ∀ y ∈ x :: ns, y ≤ ns.foldl max x
  | [], x => by simp
  | y :: r, x => by
    obtain ⟨h1, h2⟩ := foldmax_spec r (max x y)
    have h3 := h2 (max x y) List.mem_cons_self
    rw [List.foldl_cons]
    refine ⟨?_, fun z hz => ?_⟩
    · rcases List.mem_cons.mp h1 with e | h1
      · rw [e]
        by_cases hxy : x ≤ y
        · rw [Int.max_eq_right hxy]; simp
        · rw [Int.max_eq_left (by omega)]; simp
      · exact List.mem_cons_of_mem _ (List.mem_cons_of_mem _ h1)
    · rcases List.mem_cons.mp hz with rfl | hz
      · omega
      · rcases List.mem_cons.mp hz with rfl | hz
        · omega
        · exact h2 z (List.mem_cons_of_mem _ hz)
theorem foldmin_spec : ∀ (ns : List Int) (x : Int), (ns.foldl min x ∈ x :: ns) ∧ ∀ y ∈ x :: ns, ns.foldl min x ≤ y
  | [], x => by simp
  | y :: r, x => by
    obtain ⟨h1, h2⟩ := foldmin_spec r (min x y)
    have h3 := h2 (min x y) List.mem_cons_self
    rw [List.foldl_cons]
    refine ⟨?_, fun z hz => ?_⟩
    · rcases List.mem_cons.mp h1 with e | h1
      · rw [e]
        by_cases hxy : x ≤ y
        · rw [Int.min_eq_left hxy]; simp
        · rw [Int.min_eq_right (by omega)]; simp
      · exact List.mem_cons_of_mem _ (List.mem_cons_of_mem _ h1)
    · rcases List.mem_cons.mp hz with rfl | hz
      · omega
      · rcases List.mem_cons.mp hz with rfl | hz
        · omega
        · exact h2 z (List.mem_cons_of_mem _ hz)
theorem maxI_spec (ns : List Int) (m : Int) (h : maxI ns = some m) : m ∈ ns ∧ ∀ y ∈ ns, y ≤ m := by
  cases ns with
  | nil => simp [maxI] at h
  | cons x r => simp only [maxI, Option.some.injEq] at h; subst h; exact foldmax_spec r x
theorem minI_spec (ns : List Int) (m : Int) (h : minI ns = some m) : m ∈ ns ∧ ∀ y ∈ ns, m ≤ y := by
  cases ns with
  | nil => simp [minI] at h
  | cons x r => simp only [minI, Option.some.injEq] at h; subst h; exact foldmin_spec r x
theorem o_max : OpL K maxD (rMax K) := by
  intro mg Wx μ H S vs ds Q hS r h
  unfold maxD at h
  split at h
  · obtain ⟨v, rfl, rv⟩ := r.get1
    split at h
    · rename_i ns e
      split at h
      · rename_i m em
        obtain ⟨es, e1, e2⟩ := Option.bind_eq_some_iff.mp e
        obtain ⟨a, us, rfl, hq, rr⟩ := rv.sqL hS e1
        cases intsOf_rep rr e2
        obtain ⟨h1, h2⟩ := maxI_spec ns m em
        refine ⟨a, ns, rfl, hq, List.length_pos_of_mem h1, fun m' hm' hle => ?_⟩
        have e3 : m = m' := Int.le_antisymm (hle _ h1) (h2 _ hm')
        subst e3
        exact h.ok hS (.int _)
      · exact h.elim
    · exact h.elim
  · exact h.elim
theorem o_min : OpL K minD (rMin K) := by
  intro mg Wx μ H S vs ds Q hS r h
  unfold minD at h
  split at h
  · obtain ⟨v, rfl, rv⟩ := r.get1
    split at h
    · rename_i ns e
      split at h
      · rename_i m em
        obtain ⟨es, e1, e2⟩ := Option.bind_eq_some_iff.mp e
        obtain ⟨a, us, rfl, hq, rr⟩ := rv.sqL hS e1
        cases intsOf_rep rr e2
        obtain ⟨h1, h2⟩ := minI_spec ns m em
        refine ⟨a, ns, rfl, hq, List.length_pos_of_mem h1, fun m' hm' hle => ?_⟩
        have e3 : m = m' := Int.le_antisymm (h2 _ hm') (hle _ h1)
        subst e3
        exact h.ok hS (.int _)
      · exact h.elim
    · exact h.elim
  · exact h.elim
theorem o_sum : OpL K sumD (rSum K) := by
  intro mg Wx μ H S vs ds Q hS r h
  unfold sumD at h
  split at h
  · obtain ⟨v, rfl, rv⟩ := r.get1
    split at h
    · rename_i ns e
      obtain ⟨es, e1, e2⟩ := Option.bind_eq_some_iff.mp e
      obtain ⟨a, us, rfl, hq, rr⟩ := rv.sqL hS e1
      cases intsOf_rep rr e2
      exact ⟨a, ns, rfl, hq, h.ok hS (.int _)⟩
    · exact h.elim
  · exact h.elim
theorem o_any : OpL K anyD (rAny K) := by
  intro mg Wx μ H S vs ds Q hS r h
  unfold anyD at h
  split at h
  · obtain ⟨v, rfl, rv⟩ := r.get1
    split at h
    · rename_i ns e
      obtain ⟨es, e1, e2⟩ := Option.bind_eq_some_iff.mp e
      obtain ⟨a, us, rfl, hq, rr⟩ := rv.sqL hS e1
      cases blsOf_rep rr e2
      exact ⟨a, ns, rfl, hq, h.ok hS (.bl _)⟩
    · exact h.elim
  · exact h.elim
end
end PL

namespace PL
open PySem PySem.Spec PyProof.Rows L2

/-! ### in -/
def flatD : Dv → Bool
  | .non => true
  | .bl _ => true
  | .int _ => true
  | .str _ => true
  | _ => false
def eqF : Dv → Dv → Bool
  | .non, .non => true
  | .bl a, .bl b => a == b
  | .bl a, .int b => (if a then 1 else 0) == b
  | .int a, .bl b => a == (if b then 1 else 0)
  | .int a, .int b => a == b
  | .str a, .str b => a == b
  | _, _ => false
def memq (S : Sto) (x y : Dv) : Option Bool := match y with
  | .str z => match x with
    | .str w => match w.cps.toList with
      | [c] => some (decide (c ∈ z.cps.toList))
      | _ => none
    | _ => none
  | _ => match tupOf y with
    | some ds => if flatD x = true ∧ ds.all flatD = true then some (ds.any fun d => eqF d x) else none
    | none => match lstOf S y with
      | some ds => match toP 40 S x, toPs 39 S ds with
        | some p, some qs => if SeqAt.shaped p = true ∧ SeqAt.shaped (.list qs) = true then some (qs.any fun z => PyData.eqv z p) else none
        | _, _ => none
      | none => match dget S y x with
        | some r => some r.isSome
        | none => none
def inD (x y : Dv) (S : Sto) : Out Dv := match memq S x y with
  | some b => .ok (.bl b) S
  | none => .no
def ninD (x y : Dv) (S : Sto) : Out Dv := match memq S x y with
  | some b => .ok (.bl (!b)) S
  | none => .no
abbrev rInAll (K : PySem.W.Frag) (g : Bool → Bool) : R2 := fun x y H Q =>
  (∃ (c : Nat) (z : Str), x = .str ⟨#[c]⟩ ∧ y = .str z ∧ Q (.bl (g (decide (c ∈ z.cps.toList)))) H) ∨
  ((∃ p xs, y = .ref p ∧ (SqL K H p xs ∨ SqT K H p xs) ∧ flatV x = true ∧ xs.all flatV = true ∧ Q (.bl (g (inV x xs))) H) ∨
  ((∃ d ds, Dp K H x d ∧ Dp K H y (.list ds) ∧ SeqAt.shaped d = true ∧ SeqAt.shaped (.list ds) = true ∧ Q (.bl (g (ds.any fun z => PyData.eqv z d))) H) ∨
  ∃ a o, y = .ref a ∧ DGet H a x o ∧ Q (.bl (g o.isSome)) H))
section
variable {X : Cx} {K : PySem.W.Frag} {μ : List Addr} {H : Hp} {S : Sto}
theorem op_inAll (hu : X.A.units + 65 < cLine) : OpR X (compareOp .In) (rInAll X.K id) :=
  OpR.or op_in_sign (OpR.or op_in_seq (OpR.or (op_inD hu) fun pins s σ H x y v u Q I rx ry ⟨a, o, ey, g, q⟩ => by
    subst ey
    obtain rfl : u = Value.ref a := ry
    exact d_in (by omega) I g rx fun s3 I3 => ⟨.bl o.isSome, H, I3, rfl, q⟩))
theorem op_ninAll (hu : X.A.units + 65 < cLine) : OpR X (compareOp .NotIn) (rInAll X.K not) :=
  OpR.or op_notIn_sign (OpR.or op_notIn_seq (OpR.or (op_notInD hu) fun pins s σ H x y v u Q I rx ry ⟨a, o, ey, g, q⟩ => by
    subst ey
    obtain rfl : u = Value.ref a := ry
    exact d_notIn (by omega) I g rx fun s3 I3 => ⟨.bl (!o.isSome), H, I3, rfl, q⟩))
theorem flat_rep {v : V} {d : Dv} (r : Rep K μ H v d) (f : flatD d = true) : flatV v = true := by
  cases r <;> first | rfl | simp [flatD] at f
theorem eqF_rep {v u : V} {d e : Dv} (r : Rep K μ H v d) (q : Rep K μ H u e) (f : flatD d = true) (g : flatD e = true) : eqV v u = eqF d e := by
  cases r <;> cases q <;> first | rfl | simp [flatD] at f | simp [flatD] at g
theorem anyF_rep {x : V} {d : Dv} (r : Rep K μ H x d) (f : flatD d = true) : ∀ {vs : List V} {ds : List Dv}, Reps K μ H vs ds → ds.all flatD = true → vs.all flatV = true ∧ inV x vs = ds.any fun e => eqF e d
  | vs, [], rr, _ => by cases rr.un0; exact ⟨rfl, rfl⟩
  | vs, e :: ds, rr, h => by
    obtain ⟨v, ws, rfl, r1, r2⟩ := rr.uncons
    rw [List.all_cons, Bool.and_eq_true] at h
    obtain ⟨h1, h2⟩ := anyF_rep r f r2 h.2
    refine ⟨by rw [List.all_cons, h1, flat_rep r1 h.1]; rfl, ?_⟩
    rw [List.any_cons, ← h2, ← eqF_rep r1 r h.1 f]
    rfl
theorem o_mem {g : Bool → Bool} {mg : Str → Option Value} {Wx : Value → Option Addr → Hp → Prop} {x y : V} {d e : Dv} {Q : VK} (hS : SimS K μ S H) (rx : Rep K μ H x d) (ry : Rep K μ H y e)
    (h : Met (Rep K) K mg Wx μ H (match memq S d e with | some b => .ok (.bl (g b)) S | none => .no) Q) : rInAll K g x y H Q := by
  split at h
  · rename_i b hb
    unfold memq at hb
    split at hb
    · cases ry
      split at hb
      · cases rx
        split at hb
        · rename_i w _ c e
          cases hb
          have ew : w = ⟨#[c]⟩ := by
            obtain ⟨w⟩ := w
            simp only [Str.mk.injEq]
            apply Array.toList_inj.mp
            rw [e]
          exact .inl ⟨c, _, by rw [ew], rfl, h.ok hS (.bl _)⟩
        · cases hb
      · cases hb
    · split at hb
      · rename_i ds e1
        split at hb
        · rename_i hf
          cases hb
          obtain ⟨a, vs, rfl, hq, rr⟩ := ry.sqT e1
          obtain ⟨h1, h2⟩ := anyF_rep rx hf.1 rr hf.2
          rw [← h2] at h
          exact .inr (.inl ⟨a, vs, rfl, .inr hq, flat_rep rx hf.1, h1, h.ok hS (.bl _)⟩)
        · cases hb
      · split at hb
        · rename_i ds e1
          split at hb
          · rename_i p qs e2 e3
            split at hb
            · rename_i hs
              cases hb
              obtain ⟨a, vs, rfl, hq, rr⟩ := ry.sqL hS e1
              exact .inr (.inr (.inl ⟨p, qs, dp_of hS 40 _ _ _ rx e2, .lst hq (dps_of hS 39 _ _ _ rr e3), hs.1, hs.2, h.ok hS (.bl _)⟩))
            · cases hb
          · cases hb
        · split at hb
          · rename_i r e1
            cases hb
            obtain ⟨a, u, ex, gg, hh⟩ := dget_rep hS ry rx e1
            refine .inr (.inr (.inr ⟨a, u, ex, gg, ?_⟩))
            rcases hh with ⟨rfl, rfl⟩ | ⟨d', v, rfl, rfl, _⟩ <;> exact h.ok hS (.bl _)
          · cases hb
  · exact h.elim
theorem o_in : Op2 K inD (rInAll K id) := fun mg Wx μ H S x y d e Q hS rx ry h => o_mem (g := id) hS rx ry h
theorem o_nin : Op2 K ninD (rInAll K not) := fun mg Wx μ H S x y d e Q hS rx ry h => o_mem (g := not) hS rx ry h
end

/-! ### isinstance -/
def tyN (S : Sto) : Dv → Option String
  | .non => some "NoneType"
  | .bl _ => some "bool"
  | .int _ => some "int"
  | .str _ => some "str"
  | .tup _ => some "tuple"
  | .kt _ => some "tuple"
  | .fl _ => some "list"
  | .xa _ => none
  | .xc _ _ _ _ => none
  | .ref l => match S[l]? with
    | some (.lst _) => some "list"
    | some (.dk _) => some "dict"
    | some (.dt _) => some "dict"
    | _ => none
def isiB (a b : String) : Option Bool :=
  if a ∈ ["NoneType", "bool", "int", "str", "tuple", "list", "dict"] ∧ b ∈ ["bool", "int", "str", "tuple", "list", "dict"] then some (a == b || (a == "bool" && b == "int")) else none
theorem kit_all : ∀ a ∈ ["NoneType", "bool", "int", "str", "tuple", "list", "dict"], ∀ b ∈ ["bool", "int", "str", "tuple", "list", "dict"], kitB a b = some (a == b || (a == "bool" && b == "int")) := by decide +kernel
def isiD (T : String) (d : Dv) (S : Sto) : Out Dv := match (tyN S d).bind fun a => isiB a T with
  | some b => .ok (.bl b) S
  | none => .no
section
variable {X : Cx} {K : PySem.W.Frag} {W : WX} {e : Expr} {ra : RE} {pos p p2 : Pos}
theorem tyN_rep {μ : List Addr} {H : Hp} {S : Sto} {v : V} {d : Dv} {a : String} (hS : SimS K μ S H) (r : Rep K μ H v d) (h : tyN S d = some a) : TyX K H v (.type a) := by
  cases r with
  | non => cases h; exact .base .non
  | bl b => cases h; exact .base (.bl b)
  | int b => cases h; exact .base (.int b)
  | str b => cases h; exact .base (.str b)
  | tup t l q => cases h; exact .base (.tup t.1)
  | kt t l q => cases h; obtain ⟨o, its, n, e1, e2, _⟩ := t; exact .kTuple e1 e2
  | fl t l q =>
    cases h
    rcases t with ⟨⟨o, t⟩, _⟩ | ⟨o, its, n, e1, e2, _⟩
    · exact .base (.frz t)
    · exact .kList e1 e2
  | xa => cases h
  | xc _ _ _ => cases h
  | ref hl =>
    simp only [tyN] at h
    split at h
    · rename_i ds e; cases h; obtain ⟨ws, e1, _⟩ := hS.at' e hl; exact .base (.lst e1)
    · rename_i ds e; cases h; obtain ⟨ws, e1, _⟩ := hS.at' e hl; exact .base (.dK e1)
    · rename_i ds e; cases h; obtain ⟨ws, e1, _⟩ := hS.at' e hl; exact .base (.dT e1)
    · cases h
theorem se_isi {T : String} {t : Str} (hg : Gl X "isinstance") (hm : X.mg "isinstance" = none) (hgt : Gl X t) (hmt : X.mg t = none) (hbt : bootBuiltins t = some (.type T)) (he : SE X W e ra)
    (hn : t ≠ "__name__" := by decide) (hd : (t == ("__debug__" : Str)) = false := by decide)
    (hs1 : starEach [e, .Name t p2] X.env = (false, eval e X.env) :: starEach [.Name t p2] X.env := by rfl) (hs2 : starEach [.Name t p2] X.env = (false, eval (.Name t p2) X.env) :: starEach [] X.env := by rfl) (hpl : (backTo pos (starEach [.Name t p2] X.env)).any (·.1) = false := by rfl) :
    SE X W (.Call (.Name "isinstance" p) [e, .Name t p2] [] pos) (eUn (isiD T) ra) :=
  PE.imp (pe_callB call_isi hg hm (by decide +kernel) (pa_cons he (pa_cons (pe_bltn (v := .ty T) hgt hmt hbt rfl hn hd) pa_nil hs2) hs1) (by decide) (by decide) hs1 hpl) fun σ H Q ⟨μ, ρ, S, hS, hE, h⟩ =>
    (bnd hS hE h).mono fun v H1 ⟨μ1, S1, d, hS1, hE1, s1, rv, h1⟩ => by
      unfold isiD at h1
      split at h1
      · rename_i b hb
        obtain ⟨a, e1, e2⟩ := Option.bind_eq_some_iff.mp hb
        refine ⟨v, .ty T, .type a, .type T, b, rfl, .ty T, tyN_rep hS1 rv e1, kit_ty ?_, h1.ok hS1 (.bl _)⟩
        unfold isiB at e2
        split at e2
        · rename_i hm; rw [← e2]; exact kit_all a hm.1 T hm.2
        · cases e2
      · exact h1.elim
/-! ### chains, signs -/
def eChain (f g : Dv → Dv → Sto → Out Dv) (a b c : RE) : RE := fun ρ S => (a ρ S).bind fun x S1 => (b ρ S1).bind fun y S2 => (f x y S2).bind fun z S3 => match z with
  | .bl true => (c ρ S3).bind fun w S4 => g y w S4
  | .bl false => .ok (.bl false) S3
  | _ => .no
theorem bnd3 {rf rg : R2} {f g : Dv → Dv → Sto → Out Dv} {rb rc : RE} (hf : Op2 X.K f rf) (hg : Op2 X.K g rg) {σ : L2.St} {H : Hp} {Q : VK} (h : tG (Rep X.K) X.K X.mg W (eChain f g ra rb rc) σ H Q) :
    tChain rf rg (tG (Rep X.K) X.K X.mg W ra) (tG (Rep X.K) X.K X.mg W rb) (tG (Rep X.K) X.K X.mg W rc) σ H Q := by
  obtain ⟨μ, ρ, S, hS, hE, h⟩ := h
  refine (bnd hS hE h).mono fun x H1 ⟨μ1, S1, d, hS1, hE1, s1, rx, h1⟩ => ?_
  refine (bnd hS1 hE1 h1).mono fun y H2 ⟨μ2, S2, d2, hS2, hE2, s2, ry, h2⟩ => ?_
  obtain ⟨μ3, ρ3, S3, hS3, hE3, h3⟩ := bnd (r := fun ρ S => f d d2 S) (R1 := Rep X.K) hS2 hE2 h2
  refine hf X.mg (W.at σ) μ2 H2 S2 x y d d2 _ hS2 (rx.step s2) ry ?_
  cases q : f d d2 S2 with
  | no => rw [q] at h2; exact h2.elim
  | ex x S => rw [q] at h2; exact h2
  | ok z S3 =>
    rw [q] at h2
    intro μ3 H3 zv hS3 s3 rz
    have h3 := Met.step s3 h2
    simp only [Out.bind_ok] at h3
    cases rz <;> first | exact h3.elim | skip
    rename_i k
    refine ⟨k, rfl, ?_⟩
    cases k with
    | false => exact Met.ok (RP := Rep X.K) h3 hS3 (.bl _)
    | true =>
      have hE3 := (hE2.step s3)
      exact (bnd hS3 hE3 h3).mono fun w H4 ⟨μ4, S4, d4, hS4, hE4, s4, rw4, h4⟩ => hg _ _ μ4 H4 S4 y w d2 d4 Q hS4 ((ry.step s3).step s4) rw4 h4
theorem se_chain {op op' : CmpOp} {rf rg : R2} {f g : Dv → Dv → Sto → Out Dv} {a b c : Expr} {rb rc : RE} (ho : OpR X (compareOp op) rf) (hf : Op2 X.K f rf) (ho' : OpR X (compareOp op') rg) (hg : Op2 X.K g rg) (ha : SE X W a ra) (hb : SE X W b rb) (hc : SE X W c rc)
    (hm : lastMarks [op, op'] [b, c] = false := by with_unfolding_all rfl) : SE X W (.Compare a [op, op'] [b, c] pos) (eChain f g ra rb rc) :=
  PE.imp (pe_chain ho ho' ha hb hc hm) fun _ _ _ h => bnd3 hf hg h
theorem st_chain {op op' : CmpOp} {rf rg : R2} {f g : Dv → Dv → Sto → Out Dv} {a b c : Expr} {rb rc : RE} (ho : OpR X (compareOp op) rf) (hf : Op2 X.K f rf) (ho' : OpR X (compareOp op') rg) (hg : Op2 X.K g rg) (ha : SE X W a ra) (hb : SE X W b rb) (hc : SE X W c rc)
    (hm : lastMarks [op, op'] [b, c] = false := by with_unfolding_all rfl) : ST X W (.Compare a [op, op'] [b, c] pos) (cBl (eChain f g ra rb rc)) :=
  PT.imp (pt_chain ho ho' ha hb hc hm) fun σ H Q ⟨μ, ρ, S, hS, hE, h⟩ => bnd3 hf hg ((bnd hS hE h).mono fun v H1 ⟨μ1, S1, d, hS1, hE1, s1, rv, h1⟩ => bTrue_met hS1 rv h1)
theorem se_neg (h : SE X W e ra) : SE X W (.UnaryOp .USub e pos) (eUn negD ra) :=
  PE.imp (pe_un un_neg h) fun σ H Q ⟨μ, ρ, S, hS, hE, h⟩ => (bnd hS hE h).mono fun v H1 ⟨μ1, S1, d, hS1, hE1, s1, rv, h1⟩ => by
    cases rv <;> first | exact h1.elim | exact ⟨_, rfl, Met.ok (RP := Rep X.K) h1 hS1 (.int _)⟩
end
end PL

namespace PL
open PySem PySem.Spec PyProof.Rows L2

/-! ### methods -/
def tyQ (T : String) (d : Dv) (S : Sto) : Bool := match d with
  | .str _ => T == "str"
  | .fl _ => T == "list"
  | .ref l => match S[l]? with
    | some (.lst _) => T == "list"
    | some (.dk _) => T == "dict"
    | some (.dt _) => T == "dict"
    | _ => false
  | _ => false
def eMeth (T : String) (f : Dv → List Dv → Sto → Out Dv) (o : RE) (a : RA) : RE := fun ρ S => (o ρ S).bind fun d S1 => if tyQ T d S1 = true then (a ρ S1).bind fun ds S2 => f d ds S2 else .no
def lmap (d : Dv) (S : Sto) (f : Nat → List Dv → Out Dv) : Out Dv := match d with
  | .ref l => match S[l]? with
    | some (.lst xs) => f l xs
    | _ => .no
  | _ => .no
def appendD (d : Dv) (ds : List Dv) (S : Sto) : Out Dv := match ds with
  | [y] => lmap d S fun l xs => if xs.length < sizeLine then .ok .non (S.set l (.lst (xs ++ [y]))) else .no
  | _ => .no
noncomputable def popD (d : Dv) (ds : List Dv) (S : Sto) : Out Dv := match ds with
  | [] => lmap d S fun l xs => match xs[xs.length - 1]? with
    | some y => .ok y (S.set l (.lst xs.dropLast))
    | none => .no
  | [.int i] => lmap d S fun l xs => @ite _ (-(2 ^ 63) ≤ i ∧ i < 2 ^ 63) (Classical.propDecidable _) (match seqIndex? i xs.length with
    | some k => match xs[k]? with
      | some y => .ok y (S.set l (.lst (xs.eraseIdx k)))
      | none => .no
    | none => .no) .no
  | _ => .no
def extendD (d : Dv) (ds : List Dv) (S : Sto) : Out Dv := match ds with
  | [e] => lmap d S fun l xs => match e with
    | .ref m => match S[m]? with
      | some (.lst zs) => if xs.length + zs.length ≤ sizeLine then .ok .non (S.set l (.lst (xs ++ zs))) else .no
      | _ => .no
    | _ => .no
  | _ => .no
def clearD (d : Dv) (ds : List Dv) (S : Sto) : Out Dv := match ds with
  | [] => lmap d S fun l _ => .ok .non (S.set l (.lst []))
  | _ => .no
noncomputable def insertD (d : Dv) (ds : List Dv) (S : Sto) : Out Dv := match ds with
  | [.int i, y] => lmap d S fun l xs => @ite _ (xs.length < sizeLine ∧ 0 ≤ i ∧ i < 2 ^ 63) (Classical.propDecidable _) (.ok .non (S.set l (.lst (xs.take i.toNat ++ [y] ++ xs.drop i.toNat)))) .no
  | _ => .no
def joinD (d : Dv) (ds : List Dv) (S : Sto) : Out Dv := match d, ds with
  | .str a, [e] => match (seqOf S e).bind strsOf with
    | some ys => if (ys.map (·.length)).sum + ys.length * a.length ≤ 16777216 then .ok (.str (Txt.join a ys)) S else .no
    | none => .no
  | _, _ => .no
def splitD (d : Dv) (ds : List Dv) (S : Sto) : Out Dv := match d, ds with
  | .str a, [.str b] => if (b.length == 0) = false ∧ a.length + 2 ≤ sizeLine then newL ((Txt.split a b).map .str) S else .no
  | _, _ => .no
def getD2 (d : Dv) (ds : List Dv) (S : Sto) : Out Dv := match ds with
  | [k, x] => match dget S d k with
    | some (some y) => .ok y S
    | some none => .ok x S
    | none => .no
  | _ => .no
section
variable {X : Cx} {K : PySem.W.Frag} {W : WX} {o e f : Expr} {es : List Expr} {ra rb rc : RE} {rs : RA} {apos cpos pos p : Pos}
theorem tyQ_rep {T : String} {μ : List Addr} {H : Hp} {S : Sto} {v : V} {d : Dv} (hS : SimS K μ S H) (r : Rep K μ H v d) (h : tyQ T d S = true) : tyV K T v H := by
  cases r with
  | str x => exact eq_of_beq h
  | fl t l q =>
    rcases t with ⟨⟨o, t⟩, _⟩ | t
    · exact .inl ⟨eq_of_beq h, _, .inl (.inr ⟨o, t⟩)⟩
    · exact .inl ⟨eq_of_beq h, _, .inr t⟩
  | ref hl =>
    simp only [tyQ] at h
    split at h
    · rename_i ds e; obtain ⟨ws, e1, _⟩ := hS.at' e hl; exact .inl ⟨eq_of_beq h, ws, .of e1⟩
    · rename_i ds e; obtain ⟨ws, e1, _⟩ := hS.at' e hl; exact .inr (.inr (.inl ⟨eq_of_beq h, .inl ⟨ws, e1⟩⟩))
    · rename_i ds e; obtain ⟨ws, e1, _⟩ := hS.at' e hl; exact .inr (.inr (.inl ⟨eq_of_beq h, .inr ⟨ws, e1⟩⟩))
    · cases h
  | _ => simp [tyQ] at h
theorem se_meth {T id : String} {name : Str} {g : Dv → List Dv → Sto → Out Dv} {r : V → List V → Hp → VK → Prop} (pa : PlainAttrs T) (slot : Slot T name id) (hty : typeOf (.builtin id) = pure (.type "method_descriptor")) (hm : MtR X id r) (hf : OpM X.K g r)
    (ho : SE X W o ra) (ha : SA X W (e :: es) rs) (hbase : attributeBase o name X.env (eval o X.env) = eval o X.env := by rfl)
    (hfew : ((backTo cpos (starEach (e :: es) X.env)).all (fun x => !x.1) && (backToKw cpos (keywordEach [] X.env)).all (fun x => x.1.isSome)
      && decide ((e :: es).length + ([] : List Keyword).length + (if ([] : List Keyword).isEmpty then 0 else 1) < 30)) = true := by rfl)
    (hline : (apos.endLine == cpos.line) = true := by rfl) (hs : starEach (e :: es) X.env = (false, eval e X.env) :: starEach es X.env := by rfl) (hplain : (backTo cpos (starEach es X.env)).any (·.1) = false := by rfl) :
    SE X W (.Call (.Attribute o name apos) (e :: es) [] cpos) (eMeth T g ra rs) :=
  PE.imp (pe_bm pa slot hty hm ho ha hbase hfew hline hs hplain) fun σ H Q ⟨μ, ρ, S, hS, hE, h⟩ => (bnd hS hE h).mono fun v H1 ⟨μ1, S1, d, hS1, hE1, s1, rv, h1⟩ => by
    split at h1
    · rename_i hq
      exact ⟨tyQ_rep hS1 rv hq, (bnd (R1 := Reps X.K) hS1 hE1 h1).mono fun vs H2 ⟨μ2, S2, ds, hS2, hE2, s2, rvs, h2⟩ => hf _ _ μ2 H2 S2 v vs d ds Q hS2 (rv.step s2) rvs h2⟩
    · exact h1.elim
theorem se_meth0 {T id : String} {name : Str} {g : Dv → List Dv → Sto → Out Dv} {r : V → List V → Hp → VK → Prop} (pa : PlainAttrs T) (slot : Slot T name id) (hty : typeOf (.builtin id) = pure (.type "method_descriptor")) (hm : MtR X id r) (hf : OpM X.K g r)
    (ho : SE X W o ra) (hbase : attributeBase o name X.env (eval o X.env) = eval o X.env := by rfl) (hline : (apos.endLine == cpos.line) = true := by rfl) :
    SE X W (.Call (.Attribute o name apos) [] [] cpos) (eMeth T g ra aNil) :=
  PE.imp (pe_bm0 pa slot hty hm ho hbase hline) fun σ H Q ⟨μ, ρ, S, hS, hE, h⟩ => (bnd hS hE h).mono fun v H1 ⟨μ1, S1, d, hS1, hE1, s1, rv, h1⟩ => by
    split at h1
    · rename_i hq
      exact ⟨tyQ_rep hS1 rv hq, hf _ _ μ1 H1 S1 v [] d [] Q hS1 rv .nil h1⟩
    · exact h1.elim
theorem lmap_met {mg : Str → Option Value} {Wx : Value → Option Addr → Hp → Prop} {μ : List Addr} {H : Hp} {S : Sto} {x : V} {d : Dv} {Q : VK} {g : Nat → List Dv → Out Dv} (hS : SimS K μ S H) (r : Rep K μ H x d) (h : Met (Rep K) K mg Wx μ H (lmap d S g) Q) :
    ∃ l a xs vs, x = .ref a ∧ μ[l]? = some a ∧ S[l]? = some (.lst xs) ∧ H a = some (.lst vs) ∧ Reps K μ H vs xs ∧ Met (Rep K) K mg Wx μ H (g l xs) Q := by
  unfold lmap at h
  split at h
  · rename_i l
    cases r with
    | ref hl =>
      split at h
      · rename_i xs e
        obtain ⟨vs, e1, rr⟩ := hS.at' e hl
        exact ⟨l, _, xs, vs, rfl, hl, e, e1, rr, h⟩
      · exact h.elim
  · exact h.elim
theorem putL {mg : Str → Option Value} {Wx : Value → Option Addr → Hp → Prop} {μ : List Addr} {H : Hp} {S : Sto} {l : Nat} {a : Addr} {d : Dv} {v : V} {ys : List Dv} {ws : List V} {Q : VK} (h : Met (Rep K) K mg Wx μ H (.ok d (S.set l (.lst ys))) Q) (hS : SimS K μ S H) (hl : μ[l]? = some a)
    (r : Reps K μ H ws ys) (rv : Rep K μ H v d) (nf : ∀ o u, H a ≠ some (.frz o u) := by refine nofrz_of (by assumption) ?_; rfl) : Q v (upd H a (.lst ws)) := h.put hS hl ⟨ws, upd_same, r.step (step_put hS hl _ nf)⟩ (rv.step (step_put hS hl _ nf)) nf
theorem o_append : OpM K appendD rAppend := by
  intro mg Wx μ H S x vs d ds Q hS rx rs h
  unfold appendD at h
  split at h
  · obtain ⟨y, rfl, ry⟩ := rs.get1
    obtain ⟨l, a, xs, us, rfl, hl, e, e1, rr, h⟩ := lmap_met hS rx h
    split at h
    · rename_i hz
      exact ⟨a, us, y, rfl, rfl, e1, by rw [rr.1]; exact hz, putL h hS hl (rr.append (.one ry)) .non⟩
    · exact h.elim
  · exact h.elim
theorem Reps.dropLast {μ : List Addr} {H : Hp} {vs : List V} {ds : List Dv} (r : Reps K μ H vs ds) : Reps K μ H vs.dropLast ds.dropLast := by
  rw [List.dropLast_eq_take, List.dropLast_eq_take, r.1]
  exact r.take _
theorem Reps.erase {μ : List Addr} {H : Hp} {vs : List V} {ds : List Dv} (r : Reps K μ H vs ds) (k : Nat) : Reps K μ H (vs.eraseIdx k) (ds.eraseIdx k) := by
  rw [List.eraseIdx_eq_take_drop_succ, List.eraseIdx_eq_take_drop_succ]
  exact (r.take _).append (r.drop _)
theorem o_pop : OpM K popD (fun x vs H Q => rPop x vs H Q ∨ rPopAt x vs H Q) := by
  intro mg Wx μ H S x vs d ds Q hS rx rs h
  unfold popD at h
  split at h
  · cases rs.un0
    obtain ⟨l, a, xs, us, rfl, hl, e, e1, rr, h⟩ := lmap_met hS rx h
    split at h
    · rename_i y ey
      obtain ⟨v, ev, rv⟩ := rr.get ey
      exact .inl ⟨a, us, v, rfl, rfl, e1, by rw [rr.1]; exact ev, putL h hS hl rr.dropLast rv⟩
    · exact h.elim
  · obtain ⟨y, rfl, ry⟩ := rs.get1
    cases ry
    obtain ⟨l, a, xs, us, rfl, hl, e, e1, rr, h⟩ := lmap_met hS rx h
    split at h
    · rename_i hz
      split at h
      · rename_i k ek
        split at h
        · rename_i y ey
          obtain ⟨v, ev, rv⟩ := rr.get ey
          exact .inr ⟨a, us, _, k, v, rfl, rfl, e1, hz.1, hz.2, by rw [rr.1]; exact ek, ev, putL h hS hl (rr.erase k) rv⟩
        · exact h.elim
      · exact h.elim
    · exact h.elim
  · exact h.elim
theorem mt_popAll : MtR X "list.pop" (fun x vs H Q => rPop x vs H Q ∨ rPopAt x vs H Q) := MtR.or mt_pop mt_popAt
theorem o_extend : OpM K extendD rExtend := by
  intro mg Wx μ H S x vs d ds Q hS rx rs h
  unfold extendD at h
  split at h
  · obtain ⟨y, rfl, ry⟩ := rs.get1
    obtain ⟨l, a, xs, us, rfl, hl, e, e1, rr, h⟩ := lmap_met hS rx h
    split at h
    · cases ry with
      | ref hm =>
        split at h
        · rename_i zs e2
          obtain ⟨ws, e3, r3⟩ := hS.at' e2 hm
          split at h
          · rename_i hz
            exact ⟨a, _, us, ws, rfl, rfl, e1, e3, by rw [rr.1, r3.1]; exact hz, putL h hS hl (rr.append r3) .non⟩
          · exact h.elim
        · exact h.elim
    · exact h.elim
  · exact h.elim
theorem o_clear : OpM K clearD rClear := by
  intro mg Wx μ H S x vs d ds Q hS rx rs h
  unfold clearD at h
  split at h
  · cases rs.un0
    obtain ⟨l, a, xs, us, rfl, hl, e, e1, rr, h⟩ := lmap_met hS rx h
    exact ⟨a, us, rfl, rfl, e1, putL h hS hl .nil .non⟩
  · exact h.elim
theorem o_insert : OpM K insertD (fun x vs H Q => ∃ (l : Addr) (xs : List V) (i : Int) (y : V), x = .ref l ∧ vs = [.int i, y] ∧ H l = some (.lst xs) ∧ xs.length < sizeLine ∧ 0 ≤ i ∧ i < 2 ^ 63 ∧ Q .non (upd H l (.lst (xs.take i.toNat ++ [y] ++ xs.drop i.toNat)))) := by
  intro mg Wx μ H S x vs d ds Q hS rx rs h
  unfold insertD at h
  split at h
  · obtain ⟨i, y, rfl, ri, ry⟩ := rs.get2
    cases ri
    obtain ⟨l, a, xs, us, rfl, hl, e, e1, rr, h⟩ := lmap_met hS rx h
    split at h
    · rename_i hz
      exact ⟨a, us, _, y, rfl, rfl, e1, by rw [rr.1]; exact hz.1, hz.2.1, hz.2.2, putL h hS hl (((rr.take _).append (.one ry)).append (rr.drop _)) .non⟩
    · exact h.elim
  · exact h.elim
theorem reps_strs {μ : List Addr} {H : Hp} : ∀ ys : List Str, Reps K μ H (ys.map V.str) (ys.map Dv.str)
  | [] => .nil
  | y :: ys => (reps_strs ys).cons (.str y)
theorem o_join : OpM K joinD (fun x xs H Q => ∃ a p, ∃ ys : List Str, x = .str a ∧ xs = [.ref p] ∧ (SqL K H p (ys.map V.str) ∨ SqT K H p (ys.map V.str)) ∧ (ys.map (·.length)).sum + ys.length * a.length ≤ 16777216 ∧ Q (.str (Txt.join a ys)) H) := by
  intro mg Wx μ H S x vs d ds Q hS rx rs h
  unfold joinD at h
  split at h
  · cases rx
    obtain ⟨y, rfl, ry⟩ := rs.get1
    split at h
    · rename_i ys e
      obtain ⟨es, e1, e2⟩ := Option.bind_eq_some_iff.mp e
      obtain ⟨a, us, rfl, hq, rr⟩ := seq_rep hS ry e1
      cases strsOf_rep rr e2
      split at h
      · rename_i hz; exact ⟨_, a, ys, rfl, rfl, hq, hz, h.ok hS (.str _)⟩
      · exact h.elim
    · exact h.elim
  · exact h.elim
theorem o_split : OpM K splitD (fun x xs H Q => ∃ a b, x = .str a ∧ xs = [.str b] ∧ (b.length == 0) = false ∧ a.length + 2 ≤ sizeLine ∧ rNewStrs (Txt.split a b) H Q) := by
  intro mg Wx μ H S x vs d ds Q hS rx rs h
  unfold splitD at h
  split at h
  · cases rx
    obtain ⟨y, rfl, ry⟩ := rs.get1
    cases ry
    split at h
    · rename_i hz; exact ⟨_, _, rfl, rfl, hz.1, hz.2, fun p n => h.lst hS n (reps_strs _)⟩
    · exact h.elim
  · exact h.elim
/-- o.get(k, x) -/
def eGet2 (o k x : RE) : RE := fun ρ S => (o ρ S).bind fun d S1 => if tyQ "dict" d S1 = true then (k ρ S1).bind fun y S2 => (x ρ S2).bind fun z S3 => getD2 d [y, z] S3 else .no
theorem se_get2 (hu : X.A.units + 1 < cLine) (ho : SE X W o ra) (he : SE X W e rb) (hf : SE X W f rc) (m : M2 X o "get" apos e f cpos) : SE X W (.Call (.Attribute o "get" apos) [e, f] [] cpos) (eGet2 ra rb rc) :=
  PE.imp (pe_dget2 hu ho he hf m) fun σ H Q ⟨μ, ρ, S, hS, hE, h⟩ => (bnd hS hE h).mono fun v H1 ⟨μ1, S1, d, hS1, hE1, s1, rv, h1⟩ => by
    split at h1
    · rename_i hq
      have ty := tyQ_rep hS1 rv hq
      cases rv with
      | @ref l a hl =>
        refine ⟨a, rfl, ?_, ?_⟩
        · rcases ty with ⟨z, _⟩ | ⟨z, _⟩ | ⟨_, ⟨kvs, z⟩ | ⟨kvs, z⟩⟩ | ⟨z, _⟩
          · simp at z
          · simp at z
          · exact .inl ⟨kvs, .inl z⟩
          · exact .inr ⟨kvs, .inl z⟩
          · simp at z
        · refine (bnd hS1 hE1 h1).mono fun y H2 ⟨μ2, S2, d2, hS2, hE2, s2, ry, h2⟩ => ?_
          refine (bnd hS2 hE2 h2).mono fun z H3 ⟨μ3, S3, d3, hS3, hE3, s3, rz, h3⟩ => ?_
          unfold getD2 at h3
          simp only at h3
          have rl : Rep X.K μ3 H3 (.ref a) (.ref l) := (Rep.ref hl).step (s2.trans s3)
          split at h3
          · rename_i y' e1
            obtain ⟨a', u, ex, g, hh⟩ := dget_rep hS3 rl (ry.step s3) e1
            cases ex
            rcases hh with ⟨w, _⟩ | ⟨d', v', e2, e3, r⟩
            · cases w
            · cases e2; subst e3; exact ⟨_, g, h3.ok hS3 r⟩
          · rename_i e1
            obtain ⟨a', u, ex, g, hh⟩ := dget_rep hS3 rl (ry.step s3) e1
            cases ex
            rcases hh with ⟨_, w⟩ | ⟨d', v', e2, e3, r⟩
            · subst w; exact ⟨_, g, h3.ok hS3 rz⟩
            · cases e2
          · exact h3.elim
      | str x => simp [tyQ] at hq
      | fl t l q => simp [tyQ] at hq
      | _ => simp [tyQ] at hq
    · exact h1.elim
/-! ### dicts made -/
def eNewK : RE := fun _ S => .ok (.ref S.length) (S ++ [.dk []])
def eNewT : RE := fun _ S => .ok (.ref S.length) (S ++ [.dt []])
theorem se_newK : SE X W (.Dict [] [] pos) eNewK := PE.imp pe_dnewK fun σ H Q ⟨μ, ρ, S, hS, hE, h⟩ p n => Met.new (o := .dk []) h hS n ⟨[], upd_same, rfl, .nil⟩
theorem se_newT : SE X W (.Dict [] [] pos) eNewT := PE.imp pe_dnewT fun σ H Q ⟨μ, ρ, S, hS, hE, h⟩ p n => Met.new (o := .dt []) h hS n ⟨[], upd_same, rfl, .nil⟩
/-! ### own defs -/
def spD (K : PySem.W.Frag) (mg : Str → Option Value) (F : List Dv → Sto → Out Dv) (n : Nat) : Sp := fun vs H Q E => ∃ μ S ds, ds.length = n ∧ SimS K μ S H ∧ Reps K μ H vs ds ∧ Met (Rep K) K mg E μ H (F ds S) Q
def eOwn (n : Nat) (F : List Dv → Sto → Out Dv) (a : RA) : RE := fun ρ S => (a ρ S).bind fun ds S1 => if ds.length = n then F ds S1 else .no
theorem se_own {CX : CXT} {k n : Nat} {fa : Addr} {fd : FuncData} {ps : List Str} {x : Str} {F : List Dv → Sto → Out Dv} (G : FnOk X.prog X.w X.K X.mg X.base CX k fa fd ps (spD X.K X.mg F n)) (hr : Room k X.A) (hg : Gl X x) (hm : X.mg x = some (.ref fa)) (hk : PySem.W.keepIn X.K (.ref fa) = true)
    (hb : Binds X.K fd ps []) (hx : ∀ σ, PassesAt CX X σ (W.at σ)) (ha : SA X W (e :: es) rs) (hdb : (x == ("__debug__" : Str)) = false := by decide) (he : starEach (e :: es) X.env = (false, eval e X.env) :: starEach es X.env := by rfl) (hpl : (backTo pos (starEach es X.env)).any (·.1) = false := by rfl) :
    SE X W (.Call (.Name x p) (e :: es) [] pos) (eOwn n F rs) :=
  PE.imp (pe_callSD (E := fun σ => W.at σ) G hr hg hm hk hb .nil hx ha hdb he hpl) fun σ H Q ⟨μ, ρ, S, hS, hE, h⟩ => (bnd (R1 := Reps X.K) hS hE h).mono fun vs H1 ⟨μ1, S1, ds, hS1, hE1, s1, rv, h1⟩ => by
    split at h1
    · rename_i hn
      rw [List.append_nil]
      exact ⟨μ1, S1, ds, hn, hS1, rv, h1⟩
    · exact h1.elim
theorem se_own0 {CX : CXT} {k : Nat} {fa : Addr} {fd : FuncData} {ps : List Str} {x : Str} {F : List Dv → Sto → Out Dv} (G : FnOk X.prog X.w X.K X.mg X.base CX k fa fd ps (spD X.K X.mg F 0)) (hr : Room k X.A) (hg : Gl X x) (hm : X.mg x = some (.ref fa)) (hk : PySem.W.keepIn X.K (.ref fa) = true)
    (hb : Binds X.K fd ps []) (hx : ∀ σ, PassesAt CX X σ (W.at σ)) (hdb : (x == ("__debug__" : Str)) = false := by decide) : SE X W (.Call (.Name x p) [] [] pos) (eOwn 0 F aNil) := by
  refine ⟨fun pins s σ H Q I ⟨μ, ρ, S, hS, hE, h⟩ => ?_⟩
  refine wpAny_Call_Name_kw (ld_glob I hg hm ?_ hdb)
  exact PySem.W.callWith_K0 I.kIn hk (run_fnSD (dvs := []) (ds := []) (E := fun σ => W.at σ) (us := []) G hr hb .nil (hx σ) I .nil ⟨μ, S, [], rfl, hS, .nil, h⟩)
end
end PL

namespace PL
open PySem PySem.Spec PyProof.Rows L2

/-! ### statements: outcomes -/
inductive Fl where
  | nx (ρ : Env) | rt (d : Dv) | bk (ρ : Env) | ct (ρ : Env)
inductive OutS where
  | fl (f : Fl) (S : Sto) | ex (x : Ex) (ρ : Env) (S : Sto) | no
abbrev RC := Env → Sto → OutS
def MetS (K : PySem.W.Frag) (mg : Str → Option Value) (W : WX) (μ : List Addr) (H : Hp) (o : OutS) (D : Ends) : Prop :=
  match o with
  | .fl (.nx ρ') S' => ∀ μ' σ' H', SimS K μ' S' H' → SimE K μ' H' ρ' σ' → Step μ H μ' H' → D.nx σ' H'
  | .fl (.rt d) S' => ∀ μ' v H', SimS K μ' S' H' → Step μ H μ' H' → Rep K μ' H' v d → D.rt v H'
  | .fl (.bk ρ') S' => ∀ μ' σ' H', SimS K μ' S' H' → SimE K μ' H' ρ' σ' → Step μ H μ' H' → D.bk σ' H'
  | .fl (.ct ρ') S' => ∀ μ' σ' H', SimS K μ' S' H' → SimE K μ' H' ρ' σ' → Step μ H μ' H' → D.ct σ' H'
  | .ex x ρ' S' => ∀ μ' σ' H' cls d, SimS K μ' S' H' → SimE K μ' H' ρ' σ' → Step μ H μ' H' → XRep K mg μ' H' x cls d → W cls d σ' H'
  | .no => False
def tS (K : PySem.W.Frag) (mg : Str → Option Value) (W : WX) (c : RC) : TS := fun D σ H => ∃ μ ρ S, SimS K μ S H ∧ SimE K μ H ρ σ ∧ MetS K mg W μ H (c ρ S) D
abbrev SC (X : Cx) (W : WX) (st : Stmt) (c : RC) : Prop := PS X st (tS X.K X.mg W c)
abbrev SCs (X : Cx) (W : WX) (st : List Stmt) (c : RC) : Prop := PSs X st (tS X.K X.mg W c)
theorem PS.imp {X : Cx} {e : Stmt} {t t' : TS} (h : PS X e t) (i : ∀ D σ H, t' D σ H → t D σ H) : PS X e t' := ⟨fun pins s σ H D I w => h.run pins s σ H D I (i D σ H w)⟩
theorem PSs.imp {X : Cx} {e : List Stmt} {t t' : TS} (h : PSs X e t) (i : ∀ D σ H, t' D σ H → t D σ H) : PSs X e t' := ⟨fun pins s σ H D I w => h.run pins s σ H D I (i D σ H w)⟩
section
variable {K : PySem.W.Frag} {mg : Str → Option Value} {W : WX} {μ μ1 : List Addr} {H H1 : Hp} {ρ : Env} {σ : L2.St} {S : Sto} {D D' : Ends}
theorem MetS.step {o : OutS} (s : Step μ H μ1 H1) (h : MetS K mg W μ H o D) : MetS K mg W μ1 H1 o D := by
  cases o with
  | fl f S' =>
    cases f with
    | nx ρ' => exact fun μ' σ' H' a b c => h μ' σ' H' a b (s.trans c)
    | rt d => exact fun μ' σ' H' a b c => h μ' σ' H' a (s.trans b) c
    | bk ρ' => exact fun μ' σ' H' a b c => h μ' σ' H' a b (s.trans c)
    | ct ρ' => exact fun μ' σ' H' a b c => h μ' σ' H' a b (s.trans c)
  | ex x ρ' S' => exact fun μ' σ' H' cl dd a b c d => h μ' σ' H' cl dd a b (s.trans c) d
  | no => exact h
def bindS {α : Type} (o : Out α) (ρ : Env) (f : α → Sto → OutS) : OutS := match o with
  | .ok a S => f a S
  | .ex x S => .ex x ρ S
  | .no => .no
@[simp] theorem bindS_ok {α : Type} (a : α) (S : Sto) (ρ : Env) (f : α → Sto → OutS) : bindS (.ok a S) ρ f = f a S := rfl
@[simp] theorem bindS_ex {α : Type} (x : Ex) (S : Sto) (ρ : Env) (f : α → Sto → OutS) : bindS (.ex x S : Out α) ρ f = .ex x ρ S := rfl
@[simp] theorem bindS_no {α : Type} (ρ : Env) (f : α → Sto → OutS) : bindS (.no : Out α) ρ f = .no := rfl
theorem bndS {α β : Type} {R1 : List Addr → Hp → β → α → Prop} {r : Env → Sto → Out α} {f : α → Sto → OutS} (hS : SimS K μ S H) (hE : SimE K μ H ρ σ)
    (h : MetS K mg W μ H (bindS (r ρ S) ρ f) D) : tG R1 K mg W r σ H (fun v H1 => ∃ μ1 S1 d, SimS K μ1 S1 H1 ∧ SimE K μ1 H1 ρ σ ∧ Step μ H μ1 H1 ∧ R1 μ1 H1 v d ∧ MetS K mg W μ1 H1 (f d S1) D) := by
  refine ⟨μ, ρ, S, hS, hE, ?_⟩
  cases q : r ρ S with
  | ok d S1 =>
    rw [q] at h
    exact fun μ1 H1 v a b c => ⟨μ1, S1, d, a, hE.step b, b, c, h.step b⟩
  | ex x S1 =>
    rw [q] at h
    exact fun μ1 H1 cl dd a b c => h μ1 σ H1 cl dd a (hE.step b) b c
  | no => rw [q] at h; exact h
end

/-! ### statements -/
def cNil : RC := fun ρ S => .fl (.nx ρ) S
def cSeq (a b : RC) : RC := fun ρ S => match a ρ S with
  | .fl (.nx ρ') S' => b ρ' S'
  | o => o
def cExpr (e : RE) : RC := fun ρ S => bindS (e ρ S) ρ fun _ S1 => .fl (.nx ρ) S1
def cSet (i : Nat) (e : RE) : RC := fun ρ S => bindS (e ρ S) ρ fun d S1 => .fl (.nx (ρ.set i (some d))) S1
def cRet (e : RE) : RC := fun ρ S => bindS (e ρ S) ρ fun d S1 => .fl (.rt d) S1
def cRetN : RC := fun ρ S => .fl (.rt .non) S
def cIf (t : RT) (a b : RC) : RC := fun ρ S => bindS (t ρ S) ρ fun c S1 => if c = true then a ρ S1 else b ρ S1
def cBrk : RC := fun ρ S => .fl (.bk ρ) S
def cCt : RC := fun ρ S => .fl (.ct ρ) S
def cNo : RC := fun _ _ => .no
inductive Tg where
  | nm (i : Nat) | tp (ts : List Tg)
mutual
def Tg.set : Tg → Dv → Env → Option Env
  | .nm i, d, ρ => some (ρ.set i (some d))
  | .tp ts, d, ρ => match tupOf d with
    | some ds => Tg.sets ts ds ρ
    | none => none
def Tg.sets : List Tg → List Dv → Env → Option Env
  | [], [], ρ => some ρ
  | t :: ts, d :: ds, ρ => match t.set d ρ with
    | some ρ' => Tg.sets ts ds ρ'
    | none => none
  | _, _, _ => none
def Tg.slots : Tg → List Nat
  | .nm i => [i]
  | .tp ts => Tg.slotss ts
def Tg.slotss : List Tg → List Nat
  | [] => []
  | t :: ts => t.slots ++ Tg.slotss ts
end
def cAsg (t : Tg) (e : RE) : RC := fun ρ S => bindS (e ρ S) ρ fun d S1 => match t.set d ρ with
  | some ρ' => .fl (.nx ρ') S1
  | none => .no
/-- o[k] = d -/
def putD (o k d : Dv) (S : Sto) : Option Sto := match o, k with
  | .ref l, .int i => match S[l]? with
    | some (.lst xs) => match ixN xs.length i with
      | some j => some (S.set l (.lst (xs.set j d)))
      | none => none
    | _ => dput S o k d
  | _, _ => dput S o k d
def cPut (o k v : RE) : RC := fun ρ S => bindS (v ρ S) ρ fun d S1 => bindS (o ρ S1) ρ fun x S2 => bindS (k ρ S2) ρ fun y S3 => match putD x y d S3 with
  | some S4 => .fl (.nx ρ) S4
  | none => .no
def cAug (i : Nat) (f : Dv → Dv → Sto → Out Dv) (e : RE) : RC := fun ρ S => bindS (eBin f (eVar i) e ρ S) ρ fun d S1 => .fl (.nx (ρ.set i (some d))) S1

section
variable {X : Cx} {W : WX} {e o k v : Expr} {re ro rk rv : RE} {rt : RT} {st : Stmt} {sts : List Stmt} {a b : RC} {pos pos' : Pos}
theorem scs_nil : SCs X W [] cNil := PSs.imp pss_nil fun D σ H ⟨μ, ρ, S, hS, hE, h⟩ => h μ σ H hS hE (.refl μ H)
theorem scs_cons (h : SC X W st a) (t : SCs X W sts b) : SCs X W (st :: sts) (cSeq a b) :=
  PSs.imp (pss_cons h t) fun D σ H ⟨μ, ρ, S, hS, hE, h⟩ => ⟨μ, ρ, S, hS, hE, by
    unfold cSeq at h
    cases q : a ρ S with
    | fl f S1 =>
      rw [q] at h
      cases f with
      | nx ρ1 => exact fun μ' σ' H' x y z => ⟨μ', ρ1, S1, x, y, h.step z⟩
      | rt d => exact h
      | bk ρ1 => exact h
      | ct ρ1 => exact h
    | ex x ρ1 S1 => rw [q] at h; exact h
    | no => rw [q] at h; exact h⟩
theorem scs_one (h : SC X W st a) : SCs X W [st] a := pss_one h
theorem sc_pass : SC X W (.Pass pos) cNil := PS.imp ps_pass fun D σ H ⟨μ, ρ, S, hS, hE, h⟩ => h μ σ H hS hE (.refl μ H)
theorem sc_break : SC X W (.Break pos) cBrk := PS.imp ps_break fun D σ H ⟨μ, ρ, S, hS, hE, h⟩ => h μ σ H hS hE (.refl μ H)
theorem sc_cont : SC X W (.Continue pos) cCt := PS.imp ps_continue fun D σ H ⟨μ, ρ, S, hS, hE, h⟩ => h μ σ H hS hE (.refl μ H)
theorem sc_never : SC X W st cNo := PS.imp ps_never fun D σ H ⟨μ, ρ, S, hS, hE, h⟩ => h
theorem sc_doc {x j} : SC X W (.Expr (.Constant (.str x) j pos) pos') cNil := PS.imp ps_doc fun D σ H ⟨μ, ρ, S, hS, hE, h⟩ => h μ σ H hS hE (.refl μ H)
theorem sc_expr (he : SE X W e re) (hs : swapsWith e none pos.line X.env = pure false := by rfl) : SC X W (.Expr e pos) (cExpr re) :=
  PS.imp (ps_expr he hs) fun D σ H ⟨μ, ρ, S, hS, hE, h⟩ => (bndS hS hE h).mono fun v H1 ⟨μ1, S1, d, hS1, hE1, s1, rv, h1⟩ => h1 μ1 σ H1 hS1 hE1 (.refl ..)
theorem sc_ret (he : SE X W e re) : SC X W (.Return (some e) pos) (cRet re) :=
  PS.imp (ps_ret he) fun D σ H ⟨μ, ρ, S, hS, hE, h⟩ => (bndS hS hE h).mono fun v H1 ⟨μ1, S1, d, hS1, hE1, s1, rv, h1⟩ => h1 μ1 v H1 hS1 (.refl ..) rv
theorem sc_retN : SC X W (.Return none pos) cRetN :=
  PS.imp ps_retN fun D σ H ⟨μ, ρ, S, hS, hE, h⟩ => h μ _ H hS (.refl ..) .non
theorem SimE.set {K : PySem.W.Frag} {μ : List Addr} {H : Hp} {ρ : Env} {σ : L2.St} {v : V} {d : Dv} (h : SimE K μ H ρ σ) (r : Rep K μ H v d) (i : Nat) : SimE K μ H (ρ.set i (some d)) (σ.set i (some v)) := by
  refine ⟨by rw [List.length_set, List.length_set, h.1], fun j e hj => ?_⟩
  by_cases hi : i = j
  · subst hi
    have hl : i < ρ.length := by have := (List.getElem?_eq_some_iff.mp hj).1; simpa using this
    rw [List.getElem?_set_self hl] at hj
    cases hj
    exact ⟨v, List.getElem?_set_self (by rw [← h.1]; exact hl), r⟩
  · rw [List.getElem?_set_ne hi] at hj
    obtain ⟨u, e1, r1⟩ := h.2 j e hj
    exact ⟨u, by rw [List.getElem?_set_ne hi]; exact e1, r1⟩
theorem sc_set {i : Nat} {x : Str} (hN : X.N.Nodup) (hi : X.N[i]? = some x) (hx : Loc X.env.scope x) (he : SE X W e re) (hs : swapsWith e (some (.Name x pos')) pos.line X.env = pure false := by rfl) (hf : X.fn x = true ∨ X.env.scope.names.lookup x = some .local := by first | exact .inl rfl | exact .inr rfl | assumption) :
    SC X W (.Assign [.Name x pos'] e pos) (cSet i re) :=
  PS.imp (ps_set hN hi hx he hs hf) fun D σ H ⟨μ, ρ, S, hS, hE, h⟩ => (bndS hS hE h).mono fun v H1 ⟨μ1, S1, d, hS1, hE1, s1, rv, h1⟩ => h1 μ1 _ H1 hS1 (hE1.set rv i) (.refl ..)
theorem sc_if {c : Expr} {as bs : List Stmt} (hc : ST X W c rt) (ha : SCs X W as a) (hb : SCs X W bs b) : SC X W (.If c as bs pos) (cIf rt a b) :=
  PS.imp (ps_if hc ha hb) fun D σ H ⟨μ, ρ, S, hS, hE, h⟩ => (bndS (R1 := RBool) hS hE h).mono fun v H1 ⟨μ1, S1, d, hS1, hE1, s1, rv, h1⟩ => by
    cases (show v = d from rv)
    cases v with
    | true => exact ⟨μ1, ρ, S1, hS1, hE1, h1⟩
    | false => exact ⟨μ1, ρ, S1, hS1, hE1, h1⟩
/-! ### targets -/
def tGt (K : PySem.W.Frag) (t : Tg) : TG := fun v σ H Q => ∃ μ ρ d ρ', SimE K μ H ρ σ ∧ Rep K μ H v d ∧ t.set d ρ = some ρ' ∧ ∀ σ', SimE K μ H ρ' σ' → σ'.length = σ.length → (∀ j, j ∉ t.slots → σ'[j]? = σ[j]?) → Q σ' H
def tGts (K : PySem.W.Frag) (ts : List Tg) : TGs := fun vs σ H Q => ∃ μ ρ ds ρ', SimE K μ H ρ σ ∧ Reps K μ H vs ds ∧ Tg.sets ts ds ρ = some ρ' ∧ ∀ σ', SimE K μ H ρ' σ' → σ'.length = σ.length → (∀ j, j ∉ Tg.slotss ts → σ'[j]? = σ[j]?) → Q σ' H
abbrev SG (X : Cx) (tg : Expr) (t : Tg) : Prop := PG X tg (tGt X.K t)
abbrev SGs (X : Cx) (tg : List Expr) (t : List Tg) : Prop := PGs X tg (tGts X.K t)
theorem sg_name {i : Nat} {x : Str} (hN : X.N.Nodup) (hi : X.N[i]? = some x) (hx : Loc X.env.scope x) (hf : X.fn x = true ∨ X.env.scope.names.lookup x = some .local := by first | exact .inl rfl | exact .inr rfl | assumption) : SG X (.Name x pos) (.nm i) :=
  ⟨fun pins s σ H v u Q I r ⟨μ, ρ, d, ρ', hE, rv, hs, h⟩ => (pg_name hN hi hx hf).run pins s σ H v u Q I r (by
    simp only [Tg.set, Option.some.injEq] at hs
    subst hs
    exact h _ (hE.set rv i) (by simp) fun j hj => List.getElem?_set_ne (by intro z; subst z; simp [Tg.slots] at hj))⟩
theorem sgs_nil : SGs X [] [] :=
  ⟨fun pins s σ H vs us Q I r ⟨μ, ρ, ds, ρ', hE, rv, hs, h⟩ => pgs_nil.run pins s σ H vs us Q I r (by
    cases ds with
    | nil =>
      simp only [Tg.sets, Option.some.injEq] at hs
      subst hs
      exact ⟨rv.un0, h σ hE rfl fun _ _ => rfl⟩
    | cons => simp [Tg.sets] at hs)⟩
theorem sgs_cons {es : List Expr} {t : Tg} {ts : List Tg} (h1 : SG X e t) (h2 : SGs X es ts) (hs : (assignEach (e :: es) X.env).map (·.2) = assign e X.env :: (assignEach es X.env).map (·.2) := by rfl) : SGs X (e :: es) (t :: ts) :=
  ⟨fun pins s σ H vs us Q I r ⟨μ, ρ, ds, ρ', hE, rv, hh, h⟩ => (pgs_cons h1 h2 hs).run pins s σ H vs us Q I r (by
    cases ds with
    | nil => simp [Tg.sets] at hh
    | cons d ds =>
      obtain ⟨v, ws, rfl, r1, r2⟩ := rv.uncons
      simp only [Tg.sets] at hh
      split at hh
      · rename_i ρ1 e1
        refine ⟨v, ws, rfl, μ, ρ, d, ρ1, hE, r1, e1, fun σ1 hE1 l1 n1 => ⟨μ, ρ1, ds, ρ', hE1, r2, hh, fun σ2 hE2 l2 n2 => h σ2 hE2 (l2.trans l1) fun j hj => ?_⟩⟩
        simp only [Tg.slotss, List.mem_append, not_or] at hj
        exact (n2 j hj.2).trans (n1 j hj.1)
      · cases hh)⟩
theorem sg_tup {es : List Expr} {k : Nat} {ts : List Tg} {n : Nat} (hc : X.calm = true) (h : SGs X es ts) (hl : ts.length = n) (hn : (assignEach es X.env).length = n := by rfl) (hst : (assignEach es X.env).findIdx? (·.1) = none := by rfl) : SG X (.Tuple es k pos) (.tp ts) :=
  ⟨fun pins s σ H v u Q I r ⟨μ, ρ, d, ρ', hE, rv, hh, hq⟩ => (pg_tup hc h hn hst).run pins s σ H v u Q I r (by
    simp only [Tg.set] at hh
    split at hh
    · rename_i ds e
      obtain ⟨a, vs, rfl, hq2, rr⟩ := rv.sqT e
      have len : ∀ (ts : List Tg) (ds : List Dv) (ρ ρ' : Env), Tg.sets ts ds ρ = some ρ' → ts.length = ds.length := by
        intro ts
        induction ts with
        | nil => intro ds ρ ρ' h; cases ds with | nil => rfl | cons => simp [Tg.sets] at h
        | cons t ts ih =>
          intro ds ρ ρ' h
          cases ds with
          | nil => simp [Tg.sets] at h
          | cons d ds =>
            simp only [Tg.sets] at h
            split at h
            · simp [ih _ _ _ h]
            · cases h
      exact ⟨a, vs, rfl, hq2, by rw [rr.1, ← len _ _ _ _ hh, hl], μ, ρ, ds, ρ', hE, rr, hh, hq⟩
    · cases hh)⟩
theorem sc_asg {tg : Expr} {t : Tg} (he : SE X W e re) (hg : SG X tg t) (hs : swapsWithSole [tg] e pos.line X.env = pure false := by rfl) (hw : swappedStores [tg] e X.env = pure none := by rfl)
    (h1 : (assignEach [tg] X.env).map (·.2) = [assign tg X.env] := by rfl) : SC X W (.Assign [tg] e pos) (cAsg t re) :=
  PS.imp (ps_asg he hg hs hw h1) fun D σ H ⟨μ, ρ, S, hS, hE, h⟩ => (bndS hS hE h).mono fun v H1 ⟨μ1, S1, d, hS1, hE1, s1, rv, h1⟩ => by
    split at h1
    · rename_i ρ' e1
      exact ⟨μ1, ρ, d, ρ', hE1, rv, e1, fun σ' hE' _ _ => h1 μ1 σ' H1 hS1 hE' (.refl ..)⟩
    · exact h1.elim
abbrev rSetD : TSet := fun o i v H Q => ∃ a H', o = .ref a ∧ DPut H a i v H' ∧ Q H'
theorem set_all (hu : X.A.units + 1 < cLine) : PSet X (fun o i v H Q => rSetL o i v H Q ∨ rSetD o i v H Q) := by
  intro pins s σ H o i v ov iv u Q I ro ri rv h
  rcases h with h | ⟨a, H', rfl, g, q⟩
  · exact set_list pins s σ H o i v ov iv u Q I ro ri rv h
  · obtain rfl : ov = Value.ref a := ro
    exact d_setItem hu I g ri rv fun s' I' => ⟨H', I', q⟩
theorem sc_put (hu : X.A.units + 1 < cLine) (ho : SE X W o ro) (hk : SE X W k rk) (hv : SE X W v rv) (hs : swapsWithSole [.Subscript o k pos'] v pos.line X.env = pure false := by rfl) (hw : swappedStores [.Subscript o k pos'] v X.env = pure none := by rfl)
    (h1 : (assignEach [.Subscript o k pos'] X.env).map (·.2) = [assign (.Subscript o k pos') X.env] := by rfl)
    (ha : ∀ v, assign (.Subscript o k pos') X.env v = (do
      let ov ← holding [v] (eval o X.env)
      let iv ← holding [v, ov] (eval k X.env)
      standAt pos'
      holding [v, ov, iv] (setItem ov iv v)
      release [v, ov, iv] []) := by intro _; rfl) : SC X W (.Assign [.Subscript o k pos'] v pos) (cPut ro rk rv) :=
  PS.imp (ps_asg hv (pg_sub ho hk (set_all hu) ha) hs hw h1) fun D σ H ⟨μ, ρ, S, hS, hE, h⟩ => (bndS hS hE h).mono fun v H1 ⟨μ1, S1, d, hS1, hE1, s1, rv, h1⟩ =>
    (bndS hS1 hE1 h1).mono fun x H2 ⟨μ2, S2, d2, hS2, hE2, s2, rx, h2⟩ => (bndS hS2 hE2 h2).mono fun y H3 ⟨μ3, S3, d3, hS3, hE3, s3, ry, h3⟩ => by
      split at h3
      · rename_i S4 e4
        have rx3 := rx.step s3
        have rv3 := (rv.step s2).step s3
        have dict : ∀ (e : dput S3 d2 d3 d = some S4), rSetL x y v H3 (fun H' => D.nx σ H') ∨ rSetD x y v H3 (fun H' => D.nx σ H') := fun e => by
          obtain ⟨a, H', ex, g, hS4, s4⟩ := dput_rep hS3 rx3 ry rv3 e
          exact .inr ⟨a, H', ex, g, h3 μ3 σ H' hS4 (hE3.step s4) s4⟩
        unfold putD at e4
        split at e4
        · split at e4
          · rename_i xs e5
            split at e4
            · rename_i j e6
              cases e4
              cases rx3 with
              | ref hl =>
                cases ry
                obtain ⟨vs, e7, rr⟩ := hS3.at' e5 hl
                refine .inl ⟨_, vs, _, j, rfl, rfl, e7, by rw [rr.1]; exact e6, ?_⟩
                exact h3 μ3 σ _ (hS3.put hl ⟨_, upd_same, (rr.set rv3 j).step (step_put hS3 hl _)⟩) (hE3.step (step_put hS3 hl _)) (step_put hS3 hl _)
            · cases e4
          · exact dict e4
        · exact dict e4
      · exact h3.elim
/-- a op= e, by the operator's own rule in place -/
theorem sc_aug {i : Nat} {x : Str} {op : Operator} {f : Dv → Dv → Sto → Out Dv} {ti : TIp} (hN : X.N.Nodup) (hi : X.N[i]? = some x) (hx : Loc X.env.scope x) (he : SE X W e re) (ho : PIp X op ti) (hti : Op2 X.K f ti) (hf : X.fn x = true ∨ X.env.scope.names.lookup x = some .local := by first | exact .inl rfl | exact .inr rfl | assumption) :
    SC X W (.AugAssign (.Name x pos') op e pos) (cAug i f re) :=
  PS.imp (ps_aug hN hi hx he ho hf) fun D σ H ⟨μ, ρ, S, hS, hE, h⟩ => by
    unfold cAug eBin eVar at h
    split at h
    · rename_i d hd
      obtain ⟨v, e1, r⟩ := hE.2 i d hd
      refine ⟨v, e1, ?_⟩
      simp only [Out.bind_ok] at h
      cases q : re ρ S with
      | no => rw [q] at h; exact h.elim
      | ex x S1 =>
        rw [q] at h
        exact ⟨μ, ρ, S, hS, hE, by rw [q]; exact fun μ1 H1 cl dd a b c => h μ1 σ H1 cl dd a (hE.step b) b c⟩
      | ok y S1 =>
        rw [q] at h
        refine ⟨μ, ρ, S, hS, hE, ?_⟩
        rw [q]
        intro μ1 H1 yv hS1 s1 ry
        have h1 := h.step s1
        simp only [Out.bind_ok] at h1
        refine hti X.mg (W.at σ) μ1 H1 S1 v yv d y _ hS1 (r.step s1) ry ?_
        cases q2 : f d y S1 with
        | no => rw [q2] at h1; exact h1.elim
        | ex x S2 => rw [q2] at h1; exact fun μ2 H2 cl dd a b c => h1 μ2 σ H2 cl dd a ((hE.step s1).step b) b c
        | ok z S2 =>
          rw [q2] at h1
          exact fun μ2 H2 zv hS2 s2 rz => h1 μ2 _ H2 hS2 (((hE.step s1).step s2).set rz i) s2
    · exact h.elim
def addI (x y : Dv) (S : Sto) : Out Dv := match x, y with
  | .int i, .int j => .ok (.int (i + j)) S
  | _, _ => .no
theorem o_addI {K : PySem.W.Frag} : Op2 K addI (ipI fun i j => i + j) := by
  intro mg Wx μ H S x y d e Q hS rx ry h
  cases rx <;> cases ry <;> first | exact h.elim | exact ⟨_, _, rfl, rfl, h.ok hS (.int _)⟩
end
end PL

namespace PL
open PySem PySem.Spec PyProof.Rows L2

/-! ### what is walked -/
/-- what must stand still while a loop goes -/
inductive Ck where
  | tt | ls (l : Nat) (ds : List Dv) | and (a b : Ck)
def Ck.ok : Ck → Sto → Prop
  | .tt, _ => True
  | .ls l ds, S => S[l]? = some (.lst ds)
  | .and a b, S => a.ok S ∧ b.ok S
abbrev RI := Env → Sto → Out (List Dv × Ck)
/-- an iterator that yields the items, as long as what it walks stands -/
def ItR (K : PySem.W.Frag) (μ : List Addr) (H : Hp) (J : It) (w : List Dv × Ck) : Prop :=
  ∀ (μ' : List Addr) (S' : Sto) (H' : Hp) (i : Nat), Step μ H μ' H' → SimS K μ' S' H' → w.2.ok S' →
    (i = w.1.length → J.stop i H') ∧ ∀ d, w.1[i]? = some d → J.go i H' ∧ ∀ x H'', J.yld i H' x H'' → Step μ' H' μ' H'' ∧ SimS K μ' S' H'' ∧ Rep K μ' H'' x d
def tI (K : PySem.W.Frag) (mg : Str → Option Value) (W : WX) (r : RI) : TI := fun σ H R => ∃ μ ρ S, SimS K μ S H ∧ SimE K μ H ρ σ ∧
  match r ρ S with
  | .ok w S1 => ∀ μ1 H1 J, SimS K μ1 S1 H1 → Step μ H μ1 H1 → ItR K μ1 H1 J w → R J H1
  | .ex x S1 => ∀ μ1 H1 cls dd, SimS K μ1 S1 H1 → Step μ H μ1 H1 → XRep K mg μ1 H1 x cls dd → W cls dd σ H1
  | .no => False
abbrev SI (X : Cx) (W : WX) (tg iter : Expr) (r : RI) : Prop := PI X tg iter (tI X.K X.mg W r)
theorem PI.imp {X : Cx} {tg e : Expr} {t t' : TI} (h : PI X tg e t) (i : ∀ σ H Q, t' σ H Q → t σ H Q) : PI X tg e t' := ⟨fun pins s σ H Q I w => h.run pins s σ H Q I (i σ H Q w)⟩
theorem PI.or {X : Cx} {tg e : Expr} {t t' : TI} (h : PI X tg e t) (h' : PI X tg e t') : PI X tg e (fun σ H Q => t σ H Q ∨ t' σ H Q) :=
  ⟨fun pins s σ H Q I w => w.elim (h.run pins s σ H Q I) (h'.run pins s σ H Q I)⟩
def ckOf : Dv → List Dv → Ck
  | .ref l, ds => .ls l ds
  | _, _ => .tt
def chars (x : Str) : List Dv := x.cps.toList.map fun c => .str ⟨#[c]⟩
/-- a list, a tuple, a text -/
def walkD (d : Dv) (S : Sto) : Option (List Dv × Ck) := match d with
  | .str x => some (chars x, .tt)
  | _ => (seqOf S d).map fun ds => (ds, ckOf d ds)
def iSeq (e : RE) : RI := fun ρ S => (e ρ S).bind fun d S1 => match walkD d S1 with
  | some w => .ok w S1
  | none => .no
def rangeL (lo hi : Int) : List Dv := (List.range (hi - lo).toNat).map fun (i : Nat) => .int (lo + i)
noncomputable def rok (i : Int) : Bool := @decide (-(2 ^ 62) ≤ i ∧ i < 2 ^ 62) (Classical.propDecidable _)
noncomputable def rng1 : List Dv → Option (List Dv)
  | [.int j] => if rok j = true then some (rangeL 0 j) else none
  | _ => none
noncomputable def rng2 : List Dv → Option (List Dv)
  | [.int i, .int j] => if rok i = true ∧ rok j = true then some (rangeL i j) else none
  | _ => none
def downL (hi lo : Int) : List Dv := (List.range (hi - lo).toNat).map fun (i : Nat) => .int (hi - i)
noncomputable def rng3 : List Dv → Option (List Dv)
  | [.int i, .int j, .int c] => if rok i = true ∧ rok j = true ∧ c = -1 then some (downL i j) else none
  | _ => none
def iRange (f : List Dv → Option (List Dv)) (a : RA) : RI := fun ρ S => (a ρ S).bind fun ds S1 => match f ds with
  | some w => .ok (w, .tt) S1
  | none => .no
section
variable {K : PySem.W.Frag} {mg : Str → Option Value} {W : WX} {μ μ1 : List Addr} {H H1 : Hp} {S S1 : Sto} {σ : L2.St} {ρ : Env}
theorem itr_tup {a : Addr} {vs : List V} {ds : List Dv} (h : ∀ μ' H', Step μ H μ' H' → SqT K H' a vs) (r : Reps K μ H vs ds) : ItR K μ H (Itt K a) (ds, .tt) := by
  intro μ' S' H' i st hS _
  have q := h μ' H' st
  refine ⟨fun e => ⟨vs, q, by rw [r.1]; exact Nat.le_of_eq e.symm⟩, fun d hd => ?_⟩
  obtain ⟨v, hv, rv⟩ := r.get hd
  refine ⟨⟨vs, v, q, hv⟩, fun x H'' y => ?_⟩
  obtain ⟨rfl, y⟩ := y
  have := y vs q
  rw [hv] at this; cases this
  exact ⟨.refl .., hS, rv.step st⟩
theorem sqT_keep {v : V} {d : Dv} {ds : List Dv} (r : Rep K μ H v d) (e : tupOf d = some ds) : ∃ a vs, v = .ref a ∧ Reps K μ H vs ds ∧ SqT K H a vs ∧ ∀ μ' H', Step μ H μ' H' → SqT K H' a vs := by
  cases r with
  | tup t l q => simp only [tupOf, Option.some.injEq] at e; subst e; exact ⟨_, _, rfl, ⟨l, q⟩, .of t.1, fun μ' H' s => .of (t.step s).1⟩
  | kt t l q => simp only [tupOf, Option.some.injEq] at e; subst e; exact ⟨_, _, rfl, ⟨l, q⟩, .inr t, fun μ' H' s => .inr t⟩
  | _ => simp [tupOf] at e
/-- a list: read-only, or one of the store that stands still -/
theorem itr_list {v : V} {d : Dv} {ds : List Dv} (hS : SimS K μ S H) (r : Rep K μ H v d) (e : lstOf S d = some ds) :
    ∃ a vs, v = .ref a ∧ SqL K H a vs ∧ ∀ μ' S' H', Step μ H μ' H' → SimS K μ' S' H' → (ckOf d ds).ok S' → ∃ ws, SqL K H' a ws ∧ Reps K μ' H' ws ds := by
  cases r with
  | fl t l q =>
    simp only [lstOf, Option.some.injEq] at e; subst e
    have k : ∀ {H' : Hp} {μ' : List Addr} {a : Addr} {vs : List V}, LisAt K μ' H' a vs → SqL K H' a vs := fun t => by
      rcases t with ⟨⟨o, t⟩, _⟩ | t
      · exact .inl (.inr ⟨o, t⟩)
      · exact .inr t
    exact ⟨_, _, rfl, k t, fun μ' S' H' st _ _ => ⟨_, k (t.step st), Reps.step st ⟨l, q⟩⟩⟩
  | @ref l a hl =>
    have e0 := e
    simp only [lstOf] at e
    split at e
    · rename_i es hs
      cases e
      obtain ⟨vs, e1, rr⟩ := hS.at' hs hl
      refine ⟨a, vs, rfl, .of e1, fun μ' S' H' st hS' ck => ?_⟩
      obtain ⟨ws, e2, r2⟩ := hS'.at' ck (st.get hl)
      exact ⟨ws, .of e2, r2⟩
    · cases e
  | _ => simp [lstOf] at e
theorem itr_of_list {a : Addr} {w : List Dv × Ck} (h : ∀ μ' S' H', Step μ H μ' H' → SimS K μ' S' H' → w.2.ok S' → ∃ ws, SqL K H' a ws ∧ Reps K μ' H' ws w.1) : ItR K μ H (Itl K a) w := by
  intro μ' S' H' i st hS ck
  obtain ⟨ws, q, r⟩ := h μ' S' H' st hS ck
  refine ⟨fun e => ⟨ws, q, by rw [r.1]; exact Nat.le_of_eq e.symm⟩, fun d hd => ?_⟩
  obtain ⟨v, hv, rv⟩ := r.get hd
  refine ⟨⟨ws, v, q, hv⟩, fun x H'' y => ?_⟩
  obtain ⟨rfl, y⟩ := y
  have := y ws q
  rw [hv] at this; cases this
  exact ⟨.refl .., hS, rv⟩
theorem itr_range {lo hi : Int} : ItR K μ H (Itr lo (hi - lo).toNat) (rangeL lo hi, .tt) := by
  intro μ' S' H' i st hS _
  refine ⟨fun e => by have : i = (hi - lo).toNat := by rw [e]; simp [rangeL]
                      exact Nat.le_of_eq this.symm, fun d hd => ?_⟩
  have hi' := (List.getElem?_eq_some_iff.mp hd).1
  simp only [rangeL, List.length_map, List.length_range] at hi'
  refine ⟨hi', fun x H'' y => ?_⟩
  obtain ⟨rfl, rfl⟩ := y
  simp only [rangeL, List.getElem?_map, List.getElem?_range hi', Option.map_some, Option.some.injEq] at hd
  subst hd
  exact ⟨.refl .., hS, .int _⟩
theorem itr_str {x : Str} : ItR K μ H (Its x) (chars x, .tt) := by
  intro μ' S' H' i st hS _
  have hl : (chars x).length = x.cps.size := by simp [chars]
  refine ⟨fun e => Nat.le_of_eq (hl.symm.trans e.symm), fun d hd => ?_⟩
  have hi := (List.getElem?_eq_some_iff.mp hd).1
  refine ⟨(show i < x.cps.size by rw [← hl]; exact hi), fun v H'' y => ?_⟩
  obtain ⟨rfl, c, hc, rfl⟩ := y
  have hd' : (chars x)[i]? = some d := hd
  simp only [chars, List.getElem?_map, Array.getElem?_toList, hc, Option.map_some, Option.some.injEq] at hd'
  subst hd'
  exact ⟨.refl .., hS, .str _⟩
end
section
variable {X : Cx} {W : WX} {tg e : Expr} {re : RE} {ra : RA} {p pos : Pos}
theorem si_seq (he : SE X W e re) : SI X W tg e (iSeq re) :=
  PI.imp (PI.or (pi_list he) (PI.or (pi_tup he) (pi_str he))) fun σ H R ⟨μ, ρ, S, hS, hE, h⟩ => by
    unfold iSeq at h
    cases q : re ρ S with
    | no => rw [q] at h; exact h.elim
    | ex x S1 => rw [q] at h; exact .inl ⟨μ, ρ, S, hS, hE, by rw [q]; exact h⟩
    | ok d S1 =>
      rw [q] at h
      simp only [Out.bind_ok] at h
      cases ew : walkD d S1 with
      | none => rw [ew] at h; exact h.elim
      | some w =>
        rw [ew] at h
        unfold walkD at ew
        split at ew
        · cases ew
          refine .inr (.inr ⟨μ, ρ, S, hS, hE, ?_⟩)
          rw [q]
          intro μ1 H1 v a b r
          cases r
          exact ⟨_, rfl, h μ1 H1 _ a b itr_str⟩
        · rw [Option.map_eq_some_iff] at ew
          obtain ⟨ds, e1, rfl⟩ := ew
          unfold seqOf at e1
          split at e1
          · rename_i es e2
            cases e1
            refine .inr (.inl ⟨μ, ρ, S, hS, hE, ?_⟩)
            rw [q]
            intro μ1 H1 v a b r
            obtain ⟨ad, vs, rfl, rr, hq, kp⟩ := sqT_keep r e2
            have ck : ckOf d ds = .tt := by cases d <;> first | rfl | simp [tupOf] at e2
            rw [ck] at h
            exact ⟨ad, rfl, ⟨vs, hq⟩, h μ1 H1 _ a b (itr_tup kp rr)⟩
          · refine .inl ⟨μ, ρ, S, hS, hE, ?_⟩
            rw [q]
            intro μ1 H1 v a b r
            obtain ⟨ad, vs, rfl, hq, kp⟩ := itr_list a r e1
            exact ⟨ad, rfl, ⟨vs, hq⟩, h μ1 H1 _ a b (itr_of_list kp)⟩
theorem rok_iff {i : Int} : rok i = true ↔ -(2 ^ 62) ≤ i ∧ i < 2 ^ 62 := by unfold rok; exact @decide_eq_true_iff _ (Classical.propDecidable _)
/-- a walk over values -/
theorem iRange_met {K : PySem.W.Frag} {mg : Str → Option Value} {f : List Dv → Option (List Dv)} {σ : L2.St} {H : Hp} {R : It → Hp → Prop} (h : tI K mg W (iRange f ra) σ H R) {Q : List V → Hp → Prop}
    (hq : ∀ μ1 H1 S1 vs ds w, SimS K μ1 S1 H1 → Reps K μ1 H1 vs ds → f ds = some w → (∀ J, ItR K μ1 H1 J (w, .tt) → R J H1) → Q vs H1) : tG (Reps K) K mg W ra σ H Q := by
  obtain ⟨μ, ρ, S, hS, hE, h⟩ := h
  refine ⟨μ, ρ, S, hS, hE, ?_⟩
  unfold iRange at h
  cases q : ra ρ S with
  | no => rw [q] at h; exact h.elim
  | ex x S1 => rw [q] at h; exact h
  | ok ds S1 =>
    rw [q] at h
    simp only [Out.bind_ok] at h
    intro μ1 H1 vs a b r
    cases ew : f ds with
    | none => rw [ew] at h; exact h.elim
    | some w => rw [ew] at h; exact hq μ1 H1 S1 vs ds w a r ew fun J hj => h μ1 H1 J a b hj
theorem si_range1 {a : Expr} (hg : Gl X "range") (hm : X.mg "range" = none) (ha : SA X W [a] ra) (hs : starEach [a] X.env = [(false, eval a X.env)] := by rfl) : SI X W tg (.Call (.Name "range" p) [a] [] pos) (iRange rng1 ra) :=
  PI.imp (pi_range1 hg hm ha hs) fun σ H R h => iRange_met h fun μ1 H1 S1 vs ds w a r ew hR => by
    unfold rng1 at ew
    split at ew
    · rename_i j
      obtain ⟨v, rfl, rv⟩ := r.get1
      cases rv
      split at ew
      · rename_i hj
        cases ew
        obtain ⟨h1, h2⟩ := rok_iff.mp hj
        refine ⟨j, rfl, h1, h2, hR _ ?_⟩
        have e : j.toNat = (j - 0).toNat := by rw [Int.sub_zero]
        rw [e]
        exact itr_range
      · cases ew
    · cases ew
theorem si_range2 {a b : Expr} (hg : Gl X "range") (hm : X.mg "range" = none) (ha : SA X W [a, b] ra) (hs : starEach [a, b] X.env = [(false, eval a X.env), (false, eval b X.env)] := by rfl) (hs2 : starEach [b] X.env = [(false, eval b X.env)] := by rfl) :
    SI X W tg (.Call (.Name "range" p) [a, b] [] pos) (iRange rng2 ra) :=
  PI.imp (pi_range2 hg hm ha hs hs2) fun σ H R h => iRange_met h fun μ1 H1 S1 vs ds w a r ew hR => by
    unfold rng2 at ew
    split at ew
    · rename_i i j
      obtain ⟨v, u, rfl, rv, ru⟩ := r.get2
      cases rv; cases ru
      split at ew
      · rename_i hj
        cases ew
        obtain ⟨h1, h2⟩ := rok_iff.mp hj.1
        obtain ⟨h3, h4⟩ := rok_iff.mp hj.2
        exact ⟨i, j, rfl, ⟨h1, h2, h3, h4⟩, hR _ itr_range⟩
      · cases ew
    · cases ew
theorem itr_down {K : PySem.W.Frag} {μ : List Addr} {H : Hp} {lo hi : Int} : ItR K μ H (Itc hi (-1) (hi - lo).toNat) (downL hi lo, .tt) := by
  intro μ' S' H' i st hS _
  have hl : (downL hi lo).length = (hi - lo).toNat := by simp [downL]
  refine ⟨fun e => Nat.le_of_eq (hl.symm.trans e.symm), fun d hd => ?_⟩
  have hi' : i < (hi - lo).toNat := by rw [← hl]; exact (List.getElem?_eq_some_iff.mp hd).1
  refine ⟨hi', fun x H'' y => ?_⟩
  obtain ⟨rfl, rfl⟩ := y
  have hd' : (downL hi lo)[i]? = some d := hd
  simp only [downL, List.getElem?_map, List.getElem?_range hi', Option.map_some, Option.some.injEq] at hd'
  subst hd'
  have e : hi + (i : Nat) * (-1) = hi - (i : Int) := by omega
  rw [e]
  exact ⟨.refl .., hS, .int _⟩
theorem si_range3 {a b c : Expr} (hg : Gl X "range") (hm : X.mg "range" = none) (ha : SA X W [a, b, c] ra)
    (hs : starEach [a, b, c] X.env = (false, eval a X.env) :: starEach [b, c] X.env := by rfl) (hs2 : (backTo pos (starEach [b, c] X.env)).any (·.1) = false := by rfl) : SI X W tg (.Call (.Name "range" p) [a, b, c] [] pos) (iRange rng3 ra) :=
  PI.imp (pi_range3 hg hm ha hs hs2) fun σ H R h => iRange_met h fun μ1 H1 S1 vs ds w a r ew hR => by
    unfold rng3 at ew
    split at ew
    · rename_i i j c
      obtain ⟨v, ws, rfl, rv, r2⟩ := r.uncons
      obtain ⟨u, u2, rfl, ru, ru2⟩ := r2.get2
      cases rv; cases ru; cases ru2
      split at ew
      · rename_i hj
        cases ew
        obtain ⟨h1, h2⟩ := rok_iff.mp hj.1
        obtain ⟨h3, h4⟩ := rok_iff.mp hj.2.1
        rw [hj.2.2]
        exact ⟨i, j, -1, (i - j).toNat, rfl, RgC.neg h1 h2 h3 h4, hR _ itr_down⟩
      · cases ew
    · cases ew
/-- items, by pairs that are made in the turn -/
def enumL (ds : List Dv) (n : Nat := 0) : List Dv := match ds with
  | [] => []
  | d :: r => .tup [.int n, d] :: enumL r (n + 1)
theorem enumL_get : ∀ (ds : List Dv) (n i : Nat), (enumL ds n)[i]? = (ds[i]?).map fun d => .tup [.int ((n + i : Nat) : Int), d]
  | [], n, i => by simp [enumL]
  | d :: r, n, 0 => by simp [enumL]
  | d :: r, n, i + 1 => by
    rw [enumL, List.getElem?_cons_succ, List.getElem?_cons_succ, enumL_get r (n + 1) i]
    have e : n + 1 + i = n + (i + 1) := by omega
    rw [e]
theorem enumL_len : ∀ (ds : List Dv) (n : Nat), (enumL ds n).length = ds.length
  | [], _ => rfl
  | _ :: r, n => by rw [enumL, List.length_cons, List.length_cons, enumL_len r]
theorem itr_enum {K : PySem.W.Frag} {μ : List Addr} {H : Hp} {a : Addr} {ds : List Dv} {ck : Ck} (h : ∀ μ' S' H', Step μ H μ' H' → SimS K μ' S' H' → ck.ok S' → ∃ ws, SqL K H' a ws ∧ Reps K μ' H' ws ds) : ItR K μ H (Ite K a) (enumL ds, ck) := by
  intro μ' S' H' i st hS hck
  obtain ⟨ws, q, r⟩ := h μ' S' H' st hS hck
  refine ⟨fun e => ⟨ws, q, by rw [r.1]; rw [show (enumL ds, ck).1.length = ds.length from enumL_len ds 0] at e; omega⟩, fun d hd => ?_⟩
  have hd' : (enumL ds)[i]? = some d := hd
  rw [enumL_get, Option.map_eq_some_iff] at hd'
  obtain ⟨d', hd', rfl⟩ := hd'
  obtain ⟨v, hv, rv⟩ := r.get hd'
  refine ⟨⟨ws, v, q, hv⟩, fun x H'' y => ?_⟩
  obtain ⟨T, z, rfl, hT, rfl, y⟩ := y
  have := y ws q
  rw [hv] at this; cases this
  have rr : Reps K μ' H' [.int (i : Nat), v] [.int ((0 + i : Nat) : Int), d'] := by
    rw [Nat.zero_add]
    exact (Reps.one rv).cons (.int _)
  exact ⟨step_lay hS hT _, hS.lay hT _, .tup ⟨upd_same, hS.fresh hT⟩ rr.1 (rr.step (step_lay hS hT _)).2⟩
def iEnum (a : RA) : RI := fun ρ S => (a ρ S).bind fun ds S1 => match ds with
  | [d] => match lstOf S1 d with
    | some xs => .ok (enumL xs, ckOf d xs) S1
    | none => .no
  | _ => .no
theorem si_enum {elts : List Expr} {kk : Nat} {tpos : Pos} (hg : Gl X "enumerate") (hm : X.mg "enumerate" = none) (ha : SA X W [e] ra) (hs : starEach [e] X.env = [(false, eval e X.env)] := by rfl) : SI X W (.Tuple elts kk tpos) (.Call (.Name "enumerate" p) [e] [] pos) (iEnum ra) :=
  PI.imp (pi_enum hg hm ha hs) fun σ H R ⟨μ, ρ, S, hS, hE, h⟩ => by
    refine ⟨μ, ρ, S, hS, hE, ?_⟩
    unfold iEnum at h
    cases q : ra ρ S with
    | no => rw [q] at h; exact h.elim
    | ex x S1 => rw [q] at h; exact h
    | ok ds S1 =>
      rw [q] at h
      simp only [Out.bind_ok] at h
      intro μ1 H1 vs a b r
      cases ds with
      | nil => exact h.elim
      | cons d ds =>
        cases ds with
        | cons => exact h.elim
        | nil =>
          obtain ⟨v, rfl, rv⟩ := r.get1
          cases el : lstOf S1 d with
          | none => simp only [el] at h
          | some xs =>
            simp only [el] at h
            obtain ⟨ad, us, rfl, hq, kp⟩ := itr_list a rv el
            exact ⟨ad, us, rfl, hq, h μ1 H1 _ a b (itr_enum kp)⟩
end

/-! ### for, comprehensions, while -/
def loop (ck : Sto → Prop) [∀ S, Decidable (ck S)] (t : Tg) (b : RC) : List Dv → Env → Sto → OutS
  | [], ρ, S => if ck S then .fl (.nx ρ) S else .no
  | d :: ds, ρ, S => if ck S then match t.set d ρ with
    | some ρ1 => match b ρ1 S with
      | .fl (.nx ρ2) S2 => loop ck t b ds ρ2 S2
      | .fl (.ct ρ2) S2 => loop ck t b ds ρ2 S2
      | .fl (.bk ρ2) S2 => .fl (.nx ρ2) S2
      | o => o
    | none => .no else .no
noncomputable instance (c : Ck) (S : Sto) : Decidable (c.ok S) := Classical.propDecidable _
noncomputable def cFor (r : RI) (t : Tg) (b : RC) : RC := fun ρ S => bindS (r ρ S) ρ fun w S1 => loop w.2.ok t b w.1 ρ S1
def wipeE (ρ : Env) : List Nat → Env
  | [] => ρ
  | v :: vs => (wipeE ρ vs).set v none
def compL (ck : Sto → Prop) [∀ S, Decidable (ck S)] (t : Tg) (c : RT) (y : RE) (ρ : Env) : List Dv → List Dv → Sto → Out (List Dv)
  | [], acc, S => if ck S then .ok acc S else .no
  | d :: ds, acc, S => if ck S then match t.set d ρ with
    | some ρ1 => (c ρ1 S).bindN fun k S1 => if k = true then (y ρ1 S1).bindN fun z S2 => if acc.length < sizeLine then compL ck t c y ρ ds (acc ++ [z]) S2 else .no else compL ck t c y ρ ds acc S1
    | none => .no else .no
def cYes : RT := fun _ S => .ok true S
noncomputable def eComp (r : RI) (t : Tg) (c : RT) (y : RE) (vs : List Nat) : RE := fun ρ S => (r ρ S).bind fun w S1 => (compL w.2.ok t c y (wipeE ρ vs) w.1 [] S1).bind newL
def loopW : Nat → RT → RC → RC
  | 0, _, _ => fun _ _ => .no
  | n + 1, c, b => fun ρ S => bindS (c ρ S) ρ fun k S1 => if k = true then match b ρ S1 with
    | .fl (.nx ρ2) S2 => loopW n c b ρ2 S2
    | .fl (.ct ρ2) S2 => loopW n c b ρ2 S2
    | .fl (.bk ρ2) S2 => .fl (.nx ρ2) S2
    | o => o else .fl (.nx ρ) S1
open Classical in
noncomputable def cWhile (c : RT) (b : RC) : RC := fun ρ S => if h : ∃ n, loopW n c b ρ S ≠ .no then loopW h.choose c b ρ S else .no
theorem loopW_mono {c : RT} {b : RC} : ∀ (n m : Nat) (ρ : Env) (S : Sto), n ≤ m → loopW n c b ρ S ≠ .no → loopW m c b ρ S = loopW n c b ρ S
  | 0, _, _, _, _, h => absurd rfl h
  | n + 1, 0, _, _, h, _ => by omega
  | n + 1, m + 1, ρ, S, hl, h => by
    simp only [loopW] at h ⊢
    cases q : c ρ S with
    | no => rfl
    | ex x S1 => rfl
    | ok k S1 =>
      rw [q] at h
      simp only [bindS_ok] at h ⊢
      cases k with
      | false => rfl
      | true =>
        simp only [if_true] at h ⊢
        cases q2 : b ρ S1 with
        | no => rfl
        | ex x ρ2 S2 => rfl
        | fl f S2 =>
          rw [q2] at h
          cases f with
          | nx ρ2 => exact loopW_mono n m ρ2 S2 (by omega) h
          | ct ρ2 => exact loopW_mono n m ρ2 S2 (by omega) h
          | bk ρ2 => rfl
          | rt d => rfl
theorem cWhile_of {c : RT} {b : RC} {ρ : Env} {S : Sto} (n : Nat) (h : loopW n c b ρ S ≠ .no) : cWhile c b ρ S = loopW n c b ρ S := by
  unfold cWhile
  have hx : ∃ n, loopW n c b ρ S ≠ .no := ⟨n, h⟩
  rw [dif_pos hx]
  rcases Nat.le_total n hx.choose with l | l
  · exact loopW_mono _ _ ρ S l h
  · exact (loopW_mono _ _ ρ S l hx.choose_spec).symm
section
variable {X : Cx} {W : WX} {tg iter c elt : Expr} {body : List Stmt} {r : RI} {t : Tg} {b : RC} {rc : RT} {ry : RE} {pos : Pos}
theorem sc_for (hp : PassesOwn (model X.prog X.w) X.A X.env X.xe) (hc : X.calm = true) (hi : SI X W tg iter r) (hg : SG X tg t) (hb : SCs X W body b) (hs : ∀ x, foldedSetIterable iter X.env x = pure x := by intro _; rfl) : SC X W (.For tg iter body [] pos) (cFor r t b) :=
  PS.imp (ps_for hp hc hi hg hb hs) fun D σ H ⟨μ, ρ, S, hS, hE, h⟩ => by
    refine ⟨μ, ρ, S, hS, hE, ?_⟩
    unfold cFor at h
    cases q : r ρ S with
    | no => rw [q] at h; exact h.elim
    | ex x S1 => rw [q] at h; exact fun μ1 H1 cls dd a b c => h μ1 σ H1 cls dd a (hE.step b) b c
    | ok w S1 =>
      rw [q] at h
      intro μ1 H1 J hS1 s1 hJ
      refine ⟨fun i m σ' H' => ∃ μ' ρ' S', SimS X.K μ' S' H' ∧ SimE X.K μ' H' ρ' σ' ∧ Step μ1 H1 μ' H' ∧ m = w.1.length - i ∧ i ≤ w.1.length ∧ MetS X.K X.mg W μ' H' (loop w.2.ok t b (w.1.drop i) ρ' S') D,
        ⟨_, μ1, ρ, S1, hS1, hE.step s1, .refl .., rfl, Nat.zero_le _, by rw [List.drop_zero]; exact h.step s1⟩, ?_⟩
      rintro i m σ' H' ⟨μ', ρ', S', hS', hE', s', rfl, hil, hm⟩
      by_cases hlt : i < w.1.length
      · rw [List.drop_eq_getElem_cons hlt, loop] at hm
        split at hm
        · rename_i hck
          obtain ⟨_, hgo⟩ := hJ μ' S' H' i s' hS' hck
          obtain ⟨go, yl⟩ := hgo w.1[i] (List.getElem?_eq_getElem hlt)
          split at hm
          · rename_i ρ1 e1
            refine .inr ⟨go, fun σ2 H2 => ∃ μ2 ρ2 S2, SimS X.K μ2 S2 H2 ∧ SimE X.K μ2 H2 ρ2 σ2 ∧ Step μ1 H1 μ2 H2 ∧ MetS X.K X.mg W μ2 H2 (loop w.2.ok t b (w.1.drop (i + 1)) ρ2 S2) D,
              fun σ2 H2 ⟨μ2, ρ2, S2, a1, a2, a3, a4⟩ => ⟨_, by omega, μ2, ρ2, S2, a1, a2, a3, rfl, hlt, a4⟩, fun x H2 y => ?_⟩
            obtain ⟨s2, hS2, rx⟩ := yl x H2 y
            refine ⟨μ', ρ', _, ρ1, hE'.step s2, rx, e1, fun σ2 hE2 _ _ => ⟨μ', ρ1, S', hS2, hE2, ?_⟩⟩
            have hm2 := hm
            cases q2 : b ρ1 S' with
            | no => rw [q2] at hm2; exact hm2.elim
            | ex x ρ3 S3 => rw [q2] at hm2; exact fun μ3 σ3 H3 cl dd a1 a2 a3 a4 => hm2 μ3 σ3 H3 cl dd a1 a2 (s2.trans a3) a4
            | fl f S3 =>
              rw [q2] at hm2
              cases f with
              | nx ρ3 => exact fun μ3 σ3 H3 a1 a2 a3 => ⟨μ3, ρ3, S3, a1, a2, s'.trans (s2.trans a3), hm2.step (s2.trans a3)⟩
              | ct ρ3 => exact fun μ3 σ3 H3 a1 a2 a3 => ⟨μ3, ρ3, S3, a1, a2, s'.trans (s2.trans a3), hm2.step (s2.trans a3)⟩
              | bk ρ3 => exact fun μ3 σ3 H3 a1 a2 a3 => hm2 μ3 σ3 H3 a1 a2 (s2.trans a3)
              | rt d => exact fun μ3 v3 H3 a1 a2 a3 => hm2 μ3 v3 H3 a1 (s2.trans a2) a3
          · exact hm.elim
        · exact hm.elim
      · have e : i = w.1.length := by omega
        rw [List.drop_of_length_le (by omega), loop] at hm
        split at hm
        · rename_i hck
          exact .inl ⟨(hJ μ' S' H' i s' hS' hck).1 e, hm μ' σ' H' hS' hE' (.refl ..)⟩
        · exact hm.elim
theorem sc_while (hp : PassesOwn (model X.prog X.w) X.A X.env X.xe) (hc : ST X W c rc) (hb : SCs X W body b) : SC X W (.While c body [] pos) (cWhile rc b) :=
  PS.imp (ps_while hp hc hb) fun D σ H ⟨μ, ρ, S, hS, hE, h⟩ => by
    unfold cWhile at h
    split at h
    · rename_i hx
      refine ⟨fun m σ' H' => ∃ μ' ρ' S', SimS X.K μ' S' H' ∧ SimE X.K μ' H' ρ' σ' ∧ MetS X.K X.mg W μ' H' (loopW m rc b ρ' S') D, ⟨_, μ, ρ, S, hS, hE, h⟩, ?_⟩
      rintro m σ' H' ⟨μ', ρ', S', hS', hE', hm⟩
      cases m with
      | zero => exact hm.elim
      | succ m =>
        simp only [loopW] at hm
        refine (bndS (R1 := RBool) hS' hE' hm).mono fun v H1 ⟨μ1, S1, d, hS1, hE1, s1, rv, h1⟩ => ?_
        cases (show v = d from rv)
        cases v with
        | false => exact h1 μ1 σ' H1 hS1 hE1 (.refl ..)
        | true =>
          simp only [if_true] at h1
          refine ⟨fun σ2 H2 => ∃ μ2 ρ2 S2, SimS X.K μ2 S2 H2 ∧ SimE X.K μ2 H2 ρ2 σ2 ∧ MetS X.K X.mg W μ2 H2 (loopW m rc b ρ2 S2) D, fun σ2 H2 h2 => ⟨m, Nat.lt_succ_self m, h2⟩, μ1, ρ', S1, hS1, hE1, ?_⟩
          cases q2 : b ρ' S1 with
          | no => rw [q2] at h1; exact h1.elim
          | ex x ρ3 S3 => rw [q2] at h1; exact h1
          | fl f S3 =>
            rw [q2] at h1
            cases f with
            | nx ρ3 => exact fun μ3 σ3 H3 a1 a2 a3 => ⟨μ3, ρ3, S3, a1, a2, h1.step a3⟩
            | ct ρ3 => exact fun μ3 σ3 H3 a1 a2 a3 => ⟨μ3, ρ3, S3, a1, a2, h1.step a3⟩
            | bk ρ3 => exact h1
            | rt d => exact h1
    · exact h.elim
end
end PL

namespace PL
open PySem PySem.Spec PyProof.Rows L2

section
variable {K : PySem.W.Frag} {mg : Str → Option Value} {W : WX} {μ μ1 : List Addr} {H H1 : Hp} {S S1 : Sto} {σ : L2.St} {ρ : Env}
theorem wipeE_rep (h : SimE K μ H ρ σ) : ∀ vs : List Nat, SimE K μ H (wipeE ρ vs) (wipe σ vs)
  | [] => h
  | v :: vs => by
    have ih := wipeE_rep h vs
    refine ⟨by simp only [wipeE, wipe, List.length_set]; exact ih.1, fun i d hd => ?_⟩
    simp only [wipeE] at hd
    by_cases hv : v = i
    · subst hv
      have hl : v < (wipeE ρ vs).length := by have := (List.getElem?_eq_some_iff.mp hd).1; simpa using this
      rw [List.getElem?_set_self hl] at hd; cases hd
    · rw [List.getElem?_set_ne hv] at hd
      obtain ⟨u, e1, r1⟩ := ih.2 i d hd
      exact ⟨u, by simp only [wipe]; rw [List.getElem?_set_ne hv]; exact e1, r1⟩
theorem wipe_same {σ σ' : L2.St} (hl : σ'.length = σ.length) : ∀ {vs : List Nat}, (∀ j, j ∉ vs → σ'[j]? = σ[j]?) → wipe σ' vs = wipe σ vs := by
  intro vs h
  refine List.ext_getElem? fun j => ?_
  by_cases hj : j ∈ vs
  · have : ∀ {τ : L2.St} {vs : List Nat}, j ∈ vs → j < τ.length → (wipe τ vs)[j]? = some none := by
      intro τ vs
      induction vs with
      | nil => intro h _; cases h
      | cons v vs ih =>
        intro h hlt
        simp only [wipe]
        by_cases hv : v = j
        · subst hv; rw [List.getElem?_set_self (by rw [wipe_length]; exact hlt)]
        · rw [List.getElem?_set_ne hv]
          rcases List.mem_cons.mp h with e | h
          · exact absurd e.symm hv
          · exact ih h hlt
    by_cases hlt : j < σ.length
    · rw [this hj (by rw [hl]; exact hlt), this hj hlt]
    · rw [List.getElem?_eq_none (by rw [wipe_length, hl]; omega), List.getElem?_eq_none (by rw [wipe_length]; omega)]
  · rw [wipe_out hj, wipe_out hj, h j hj]
end
section
variable {K : PySem.W.Frag} {μ μ' μ1 μ2 : List Addr} {H H' H1 H2 : Hp} {S S' S1 : Sto} {D : Addr} {us ws : List V} {v : V} {d : Dv}
theorem rep_priv (hD : H D = some (.lst us)) (r : Rep K μ H v d) : Rep K μ (upd H D (.lst ws)) v d := by
  induction r with
  | non => exact .non
  | bl b => exact .bl b
  | int i => exact .int i
  | str x => exact .str x
  | ref h => exact .ref h
  | kt h e _ ih => exact .kt h e fun i v d h1 h2 => ih i v d h1 h2
  | tup h e _ ih => exact .tup ⟨by rw [upd_ne (ne_of h.1 hD (by intro z; cases z))]; exact h.1, h.2⟩ e fun i v d h1 h2 => ih i v d h1 h2
  | fl h e _ ih =>
    refine .fl ?_ e fun i v d h1 h2 => ih i v d h1 h2
    rcases h with ⟨⟨o, h⟩, n⟩ | h
    · exact .inl ⟨⟨o, by rw [upd_ne (ne_of h hD (by intro z; cases z))]; exact h⟩, n⟩
    · exact .inr h
  | xa => exact .xa
  | xc h n _ ih => exact .xc (by rw [upd_ne (ne_of h hD (by intro z; cases z))]; exact h) n ih
theorem reps_priv {vs : List V} {ds : List Dv} (hD : H D = some (.lst us)) (r : Reps K μ H vs ds) : Reps K μ (upd H D (.lst ws)) vs ds := ⟨r.1, fun i v d h1 h2 => rep_priv hD (r.2 i v d h1 h2)⟩
theorem sim_priv (hD : H D = some (.lst us)) (n : D ∉ μ) (h : SimS K μ S H) : SimS K μ S (upd H D (.lst ws)) :=
  ⟨h.len, h.nd, fun l a o e1 e2 => by
    have ne : a ≠ D := fun z => n (z ▸ List.mem_of_getElem? e1)
    have q := h.ob l a o e1 e2
    cases o with
    | lst ds => obtain ⟨vs, g, r⟩ := q; exact ⟨vs, by rw [upd_ne ne]; exact g, reps_priv hD r⟩
    | dk kvs => obtain ⟨vs, g, g2, r⟩ := q; exact ⟨vs, by rw [upd_ne ne]; exact g, g2, reps_priv hD r⟩
    | dt kvs => obtain ⟨vs, g, g2, r⟩ := q; exact ⟨vs, by rw [upd_ne ne]; exact g, g2, reps_priv hD r⟩
    | fk kvs => obtain ⟨vs, g, g2, r⟩ := q; exact ⟨vs, by rw [upd_ne ne]; exact g, g2, reps_priv hD r⟩
    | ft kvs => obtain ⟨vs, g, g2, r⟩ := q; exact ⟨vs, by rw [upd_ne ne]; exact g, g2, reps_priv hD r⟩⟩
theorem step_priv (hD : H1 D = none) (s : Step μ1 H1 μ H) : Step μ1 H1 μ (upd H D (.lst ws)) :=
  ⟨s.pre, fun b o e n => by rw [upd_ne (ne_of_none e hD)]; exact s.keep b o e n, fun b e => by
    by_cases hb : b = D
    · rw [hb, upd_same]; exact fun z => nomatch z
    · rw [upd_ne hb]; exact s.live b e, fun b o u e => by rw [upd_ne (ne_of_none e hD)]; exact s.frz b o u e⟩
theorem step_open (hD : H1 D = none) (s : Step μ1 H1 μ H) : Step μ1 H1 (μ ++ [D]) H := by
  refine ⟨?_, s.keep, s.live, s.frz⟩
  obtain ⟨ν, e, f⟩ := s.pre
  exact ⟨ν ++ [D], by rw [e, List.append_assoc], fun b hb => by
    rcases List.mem_append.mp hb with hb | hb
    · exact f b hb
    · simp at hb; rw [hb]; exact hD⟩
/-- an object of ours comes into the store -/
theorem step_adopt (n : D ∉ μ) (hD : H D = some (.lst us)) : Step μ H μ H := .refl _ _
theorem rep_adopt (hD : H D = some (.lst us)) (r : Rep K μ H v d) : Rep K (μ ++ [D]) H v d := by
  induction r with
  | non => exact .non
  | bl b => exact .bl b
  | int i => exact .int i
  | str x => exact .str x
  | ref h => exact .ref (by rw [List.getElem?_append_left (List.getElem?_eq_some_iff.mp h).1]; exact h)
  | kt h e _ ih => exact .kt h e fun i v d h1 h2 => ih i v d h1 h2
  | tup h e _ ih => exact .tup ⟨h.1, fun z => (List.mem_append.mp z).elim h.2 fun z => by simp at z; exact ne_of h.1 hD (by intro q; cases q) z⟩ e fun i v d h1 h2 => ih i v d h1 h2
  | fl h e _ ih =>
    refine .fl ?_ e fun i v d h1 h2 => ih i v d h1 h2
    rcases h with ⟨⟨o, h⟩, n⟩ | h
    · exact .inl ⟨⟨o, h⟩, fun z => (List.mem_append.mp z).elim n fun z => by simp at z; exact ne_of h hD (by intro q; cases q) z⟩
    · exact .inr h
  | xa => exact .xa
  | xc h n _ ih => exact .xc h (fun z => (List.mem_append.mp z).elim n fun z => by simp at z; exact ne_of h hD (by intro q; cases q) z) ih
theorem reps_adopt {vs : List V} {ds : List Dv} (hD : H D = some (.lst us)) (r : Reps K μ H vs ds) : Reps K (μ ++ [D]) H vs ds := ⟨r.1, fun i v d h1 h2 => rep_adopt hD (r.2 i v d h1 h2)⟩
theorem sim_adopt {acc : List Dv} (hD : H D = some (.lst us)) (n : D ∉ μ) (r : Reps K μ H us acc) (h : SimS K μ S H) : SimS K (μ ++ [D]) (S ++ [.lst acc]) H := by
  refine ⟨by simp [h.len], List.nodup_append.mpr ⟨h.nd, by simp, fun a ha b hb => by simp at hb; subst hb; exact fun z => n (z ▸ ha)⟩, fun l a o e1 e2 => ?_⟩
  by_cases hl : l < μ.length
  · rw [List.getElem?_append_left hl] at e1
    rw [List.getElem?_append_left (by rw [← h.len]; exact hl)] at e2
    have q := h.ob l a o e1 e2
    cases o with
    | lst ds => obtain ⟨vs, g, r⟩ := q; exact ⟨vs, g, reps_adopt hD r⟩
    | dk kvs => obtain ⟨vs, g, g2, r⟩ := q; exact ⟨vs, g, g2, reps_adopt hD r⟩
    | dt kvs => obtain ⟨vs, g, g2, r⟩ := q; exact ⟨vs, g, g2, reps_adopt hD r⟩
    | fk kvs => obtain ⟨vs, g, g2, r⟩ := q; exact ⟨vs, g, g2, reps_adopt hD r⟩
    | ft kvs => obtain ⟨vs, g, g2, r⟩ := q; exact ⟨vs, g, g2, reps_adopt hD r⟩
  · have hl2 : l = μ.length := by have := (List.getElem?_eq_some_iff.mp e1).1; simp at this; omega
    subst hl2
    rw [List.getElem?_append_right (Nat.le_refl _)] at e1
    rw [List.getElem?_append_right (by rw [h.len]; exact Nat.le_refl _), h.len] at e2
    simp at e1 e2
    subst e1; subst e2
    exact ⟨us, hD, reps_adopt hD r⟩
end
section
variable {X : Cx} {W : WX} {tg iter elt : Expr} {ifs : List Expr} {scope : Scope} {own : List (Str × Nat)} {pos spos : Pos} {r : RI} {t : Tg} {rc : RT} {ry : RE}
/-- the reading of a comprehension -/
theorem comp_met {Wb : WX} {σ : L2.St} {H : Hp} {Q : VK} {vs : List Nat} (hown : ∀ i ∈ t.slots, i ∈ vs) (h : tG (Rep X.K) X.K X.mg W (eComp r t rc ry vs) σ H Q) :
    tLc (tI X.K X.mg W r) (tGt X.K t) (tG RBool X.K X.mg Wb rc) (tG (Rep X.K) X.K X.mg Wb ry) vs σ H Q := by
  obtain ⟨μ, ρ, S, hS, hE, h⟩ := h
  refine ⟨μ, ρ, S, hS, hE, ?_⟩
  unfold eComp at h
  cases q : r ρ S with
  | no => rw [q] at h; exact h.elim
  | ex x S1 => rw [q] at h; exact fun μ1 H1 cls dd a b c => h μ1 H1 cls dd a b c
  | ok w S1 =>
    rw [q] at h
    simp only [Out.bind_ok] at h
    intro μ1 H1 J hS1 s1 hJ D hD
    have hE1 := hE.step s1
    refine ⟨fun i m H' => ∃ μ' S' acc us, SimS X.K μ' S' H' ∧ D ∉ μ' ∧ H' D = some (.lst us) ∧ Reps X.K μ' H' us acc ∧ Step μ1 H1 μ' H' ∧ m = w.1.length - i ∧ i ≤ w.1.length ∧
        Met (Rep X.K) X.K X.mg (W.at σ) μ H ((compL w.2.ok t rc ry (wipeE ρ vs) (w.1.drop i) acc S').bind newL) Q,
      ⟨_, μ1, S1, [], [], hS1.lay hD _, hS1.fresh hD, upd_same, .nil, step_lay hS1 hD _, rfl, Nat.zero_le _, by rw [List.drop_zero]; exact h⟩, ?_⟩
    rintro i m H' ⟨μ', S', acc, us, hS', nD, eD, ra, s', rfl, hil, hm⟩
    by_cases hlt : i < w.1.length
    · rw [List.drop_eq_getElem_cons hlt, compL] at hm
      split at hm
      · rename_i hck
        obtain ⟨go, yl⟩ := (hJ μ' S' H' i s' hS' hck).2 w.1[i] (List.getElem?_eq_getElem hlt)
        split at hm
        · rename_i ρ1 e1
          refine .inr ⟨go, fun H5 => ∃ μ5 S5 acc5 us5, SimS X.K μ5 S5 H5 ∧ D ∉ μ5 ∧ H5 D = some (.lst us5) ∧ Reps X.K μ5 H5 us5 acc5 ∧ Step μ1 H1 μ5 H5 ∧
              Met (Rep X.K) X.K X.mg (W.at σ) μ H ((compL w.2.ok t rc ry (wipeE ρ vs) (w.1.drop (i + 1)) acc5 S5).bind newL) Q,
            fun H5 ⟨μ5, S5, acc5, us5, a1, a2, a3, a4, a5, a6⟩ => ⟨_, by omega, μ5, S5, acc5, us5, a1, a2, a3, a4, a5, rfl, hlt, a6⟩, fun x H2 y => ?_⟩
          obtain ⟨s2, hS2, rx⟩ := yl x H2 y
          refine ⟨μ', wipeE ρ vs, _, ρ1, (wipeE_rep (hE1.step s') vs).step s2, rx, e1, fun σ2 hE2 l2 n2 => ⟨?_, μ', ρ1, S', hS2, hE2, ?_⟩⟩
          · have := wipe_same (vs := vs) l2 fun j hj => n2 j fun z => hj (hown j z)
            rw [this]
            refine List.ext_getElem? fun j => ?_
            by_cases hj : j ∈ vs
            · have k : ∀ {τ : L2.St} {vs : List Nat}, j ∈ vs → j < τ.length → (wipe τ vs)[j]? = some none := by
                intro τ vs
                induction vs with
                | nil => intro h _; cases h
                | cons v vs ih =>
                  intro h hlt
                  simp only [wipe]
                  by_cases hv : v = j
                  · subst hv; rw [List.getElem?_set_self (by rw [wipe_length]; exact hlt)]
                  · rw [List.getElem?_set_ne hv]
                    rcases List.mem_cons.mp h with e | h
                    · exact absurd e.symm hv
                    · exact ih h hlt
              by_cases hlt : j < σ.length
              · rw [k hj (by rw [wipe_length]; exact hlt), k hj hlt]
              · rw [List.getElem?_eq_none (by rw [wipe_length, wipe_length]; omega), List.getElem?_eq_none (by rw [wipe_length]; omega)]
            · rw [wipe_out hj]
          · cases q2 : rc ρ1 S' with
            | no => rw [q2] at hm; exact hm.elim
            | ex x S3 => rw [q2] at hm; exact hm.elim
            | ok k S3 =>
              rw [q2] at hm
              simp only [Out.bindN_ok] at hm
              intro μ3 H3 kb hS3 s3 ek
              have ek' : kb = k := ek
              subst ek'
              have nD3 : D ∉ μ3 := s3.nin (s2.keep _ _ eD nD) nD
              have eD3 := s3.keep _ _ (s2.keep _ _ eD nD) nD
              have st3 := (s'.trans s2).trans s3
              cases kb with
              | false => exact ⟨μ3, S3, acc, us, hS3, nD3, eD3, (ra.step s2).step s3, st3, hm⟩
              | true =>
                simp only [if_true] at hm ⊢
                refine ⟨μ3, ρ1, S3, hS3, hE2.step s3, ?_⟩
                cases q3 : ry ρ1 S3 with
                | no => rw [q3] at hm; exact hm.elim
                | ex x S4 => rw [q3] at hm; exact hm.elim
                | ok z S4 =>
                  rw [q3] at hm
                  simp only [Out.bindN_ok] at hm
                  intro μ4 H4 zv hS4 s4 rz
                  have nD4 : D ∉ μ4 := s4.nin eD3 nD3
                  have eD4 := s4.keep _ _ eD3 nD3
                  have ra4 := ((ra.step s2).step s3).step s4
                  split at hm
                  · rename_i hz
                    exact ⟨us, eD4, by rw [ra4.1]; exact hz, μ4, S4, acc ++ [z], us ++ [zv], sim_priv eD4 nD4 hS4, nD4, upd_same, reps_priv eD4 (ra4.append (.one rz)), step_priv hD (st3.trans s4), hm⟩
                  · exact hm.elim
        · exact hm.elim
      · exact hm.elim
    · have e : i = w.1.length := by omega
      rw [List.drop_of_length_le (by omega), compL] at hm
      split at hm
      · rename_i hck
        refine .inl ⟨(hJ μ' S' H' i s' hS' hck).1 e, ?_⟩
        exact hm _ _ _ (sim_adopt eD nD ra hS') (s1.trans (step_open hD s')) (.ref (new_at hS' D))
      · exact hm.elim
abbrev Blk (X : Cx) (scope : Scope) (P : Cx → Prop) : Prop := ∀ (s : Shared) (H : Hp) (C : Addr) (cl : List (Str × Addr)) (fp : List Addr), P (X.blk s H scope (compEnvC scope cl C X.env) fp)
theorem se_comp (hc : X.calm = true) (hN : X.N.Nodup) (hi : SI X W tg iter r) (ok : BlkOk X.N X.env.scope scope own) (hg : Blk X scope fun Y => SG Y tg t) (ht : Blk X scope fun Y => PTs Y ifs (tG RBool X.K X.mg W rc)) (he : Blk X scope fun Y => SE Y W elt ry)
    (hown : ∀ i ∈ t.slots, i ∈ own.map (·.2)) (hs : ∀ x, foldedSetIterable iter X.env x = pure x := by intro _; rfl) : SE X W (.ListComp elt [⟨tg, iter, ifs, 0⟩] scope pos) (eComp r t rc ry (own.map (·.2))) :=
  PE.imp (pe_lc hc hN hi ok hg ht he hs) fun _ _ _ h => comp_met (ry := ry) (Wb := W) hown h
theorem sc_setComp {i : Nat} {y : Str} {py : Pos} (hc : X.calm = true) (hN : X.N.Nodup) (hy : X.N[i]? = some y) (hyl : X.env.scope.names.lookup y = some .local) (hsw : swapsWith (.ListComp elt [⟨tg, iter, ifs, 0⟩] scope pos) (some (.Name y py)) spos.line X.env = pure true)
    (hi : SI X W tg iter r) (ok : BlkOk X.N X.env.scope scope own) (hg : Blk X scope fun Y => SG Y tg t) (ht : Blk X scope fun Y => PTs Y ifs (tG RBool X.K X.mg W rc)) (he : Blk X scope fun Y => SE Y W elt ry)
    (hown : ∀ i ∈ t.slots, i ∈ own.map (·.2)) (hs : ∀ x, foldedSetIterable iter X.env x = pure x := by intro _; rfl) : SC X W (.Assign [.Name y py] (.ListComp elt [⟨tg, iter, ifs, 0⟩] scope pos) spos) (cSet i (eComp r t rc ry (own.map (·.2)))) :=
  PS.imp (ps_setLc hc hN hy hyl hsw hi ok hg ht he hs) fun D σ H ⟨μ, ρ, S, hS, hE, h⟩ => by
    refine comp_met (ry := ry) (Wb := W) hown ?_
    exact (bndS hS hE h).mono fun v H1 ⟨μ1, S1, d, hS1, hE1, s1, rv, h1⟩ => h1 μ1 _ H1 hS1 (hE1.set rv i) (.refl ..)
theorem sts_nil {Y : Cx} : PTs Y [] (tG RBool Y.K Y.mg W cYes) := ⟨fun pins s σ H Q I ⟨μ, ρ, S, hS, hE, h⟩ => pts_nil.run pins s σ H Q I (Met.ok (RP := RBool) h hS rfl)⟩
theorem sts_one {Y : Cx} {c : Expr} (h : ST Y W c rc) : PTs Y [c] (tG RBool Y.K Y.mg W rc) := pts_one h
end

/-! ### defs -/
def runF (c : RC) (m n : Nat) (ds : List Dv) (S : Sto) : Out Dv := if ds.length = n then match c (ds.map some ++ List.replicate (m - n) none) S with
  | .fl (.nx _) S' => .ok .non S'
  | .fl (.rt d) S' => .ok d S'
  | .ex x _ S' => .ex x S'
  | _ => .no else .no
section
variable {P : Program} {w : World} {K : PySem.W.Frag} {mg : Str → Option Value} {base : Heap}
theorem start_rep {μ : List Addr} {H : Hp} {N : List Str} {vs : List V} {ds : List Dv} (r : Reps K μ H vs ds) : SimE K μ H (ds.map some ++ List.replicate (N.length - ds.length) none) (L2.start N vs) := by
  unfold L2.start
  rw [r.1]
  refine ⟨by simp [r.1], fun i d hd => ?_⟩
  by_cases hi : i < ds.length
  · rw [List.getElem?_append_left (by simpa using hi)] at hd
    rw [List.getElem?_append_left (by simpa [r.1] using hi)]
    simp only [List.getElem?_map, Option.map_eq_some_iff] at hd ⊢
    obtain ⟨d', hd', e⟩ := hd
    cases e
    obtain ⟨v, hv, rv⟩ := r.get hd'
    exact ⟨v, ⟨v, hv, rfl⟩, rv⟩
  · rw [List.getElem?_append_right (by simpa using hi)] at hd
    simp only [List.getElem?_replicate] at hd
    split at hd <;> cases hd
theorem def_body {X : Cx} {E : XK} {c : RC} {N : List Str} {n : Nat} {body : List Stmt} (hb : SCs X (fun cl d _ H => E cl d H) body c) {H : Hp} {vs : List V} {Q : VK} (h : spD X.K X.mg (runF c N.length n) n vs H Q E) :
    ∃ t, PSs X body t ∧ t { nx := fun _ H' => Q .non H', rt := Q } (L2.start N vs) H := by
  obtain ⟨μ, S, ds, hn, hS, r, h⟩ := h
  refine ⟨_, hb, μ, _, S, hS, start_rep (N := N) r, ?_⟩
  unfold runF at h
  rw [if_pos hn] at h
  rw [hn]
  cases q : c (ds.map some ++ List.replicate (N.length - n) none) S with
  | no => rw [q] at h; exact h
  | ex x ρ S1 => rw [q] at h; exact fun μ1 σ1 H1 cl dd a b c d => h μ1 H1 cl dd a c d
  | fl f S1 =>
    rw [q] at h
    cases f with
    | nx ρ => exact fun μ1 σ1 H1 a b c => h μ1 H1 .non a c .non
    | rt d => exact fun μ1 v H1 a b c => h μ1 H1 v a b c
    | bk ρ => exact h.elim
    | ct ρ => exact h.elim
/-- THE RULE for a def that lets no exception out -/
theorem fn_mk {x qual : Str} {st : Stmt} {f : Addr} {fd : FuncData} {N ps : List Str} {k : Nat} {c : RC} (F : Fun K x qual st f fd) (S : FnScope N ps (defScope st))
    (hbody : ∀ (cdv : Value) (A : Around) (outer : List PySem.Env) (s : Shared) (H : Hp) (E : XK), Room k (A.deeper (envOfC qual (defScope st) s.heap.objs.size f cdv)) →
      SCs (cxOf CX0 P w K mg base N qual (defScope st) f cdv A outer s H E).nox (fun cl d _ H => E cl d H) (defBody st) c) : FnOk P w K mg base CX0 (k + 1) f fd ps (spD K mg (runF c N.length ps.length) ps.length) :=
  F.ok S (fun vs H Q E ⟨μ, S, ds, hn, hS, r, h⟩ => r.1.trans hn) fun cdv A outer s H vs Q E hr h => def_body (X := (cxOf CX0 P w K mg base N qual (defScope st) f cdv A outer s H E).nox) (hbody cdv A outer s H E hr) h
theorem pas0 {X : Cx} {W : WX} : ∀ σ, PassesAt CX0 X σ (W.at σ) := fun _ _ _ _ _ _ _ h => h.elim
/-- a promise may be said of a greater function -/
theorem fn_more {CX : CXT} {k n : Nat} {f : Addr} {fd : FuncData} {ps : List Str} {F G : List Dv → Sto → Out Dv} (h : FnOk P w K mg base CX k f fd ps (spD K mg F n)) (e : ∀ ds S, G ds S = .no ∨ G ds S = F ds S) : FnOk P w K mg base CX k f fd ps (spD K mg G n) :=
  h.imp fun vs H Q E ⟨μ, S, ds, hn, hS, r, q⟩ => ⟨μ, S, ds, hn, hS, r, by
    rcases e ds S with z | z
    · rw [z] at q; exact q.elim
    · rw [← z]; exact q⟩
end
end PL

namespace PL
open PySem PySem.Spec PyProof.Rows L2
theorem hu65 {A : Around} {k : Nat} (hr : Room k A) : A.units + 65 < cLine := by have := hr.un; omega
theorem fn_zero {P : Program} {w : World} {K : PySem.W.Frag} {mg : Str → Option Value} {base : Heap} {CX : CXT} {k n : Nat} {f : Addr} {fd : FuncData} {ps : List Str} (h : n = ps.length) : FnOk P w K mg base CX k f fd ps (spD K mg (fun _ _ => .no) n) :=
  ⟨fun vs H Q E ⟨μ, S, ds, hn, hS, r, q⟩ => q.elim, fun A outer s H args us vs Q E hr he hb hv ⟨μ, S, ds, hn, hS, r, q⟩ => q.elim⟩
theorem bt_len : bootBuiltins "len" = some (.builtin "len") := by decide +kernel
theorem bt_max : bootBuiltins "max" = some (.builtin "max") := by decide +kernel
theorem bt_min : bootBuiltins "min" = some (.builtin "min") := by decide +kernel
theorem bt_sum : bootBuiltins "sum" = some (.builtin "sum") := by decide +kernel
theorem bt_any : bootBuiltins "any" = some (.builtin "any") := by decide +kernel
theorem bt_abs : bootBuiltins "abs" = some (.builtin "abs") := by decide +kernel
theorem bt_sorted : bootBuiltins "sorted" = some (.builtin "sorted") := by decide +kernel
theorem bt_int : bootBuiltins "int" = some (.type "int") := by decide +kernel
theorem bt_list : bootBuiltins "list" = some (.type "list") := by decide +kernel
theorem bt_tuple : bootBuiltins "tuple" = some (.type "tuple") := by decide +kernel
theorem bt_str : bootBuiltins "str" = some (.type "str") := by decide +kernel
theorem bt_bool : bootBuiltins "bool" = some (.type "bool") := by decide +kernel
theorem bt_dict : bootBuiltins "dict" = some (.type "dict") := by decide +kernel
theorem bt_set : bootBuiltins "set" = some (.type "set") := by decide +kernel
end PL

namespace PL
open PySem PySem.Spec PyProof.Rows L2

/-! ### reckoning with outcomes -/
section
variable {ρ ρ' : Env} {S S' S1 : Sto} {a b c : RE} {x y d e : Dv} {ra rb : RC} {ta tb : RT}
theorem ev_var (i : Nat) : eVar i ρ S = match ρ[i]? with | some (some d) => .ok d S | _ => .no := .trans rfl rfl
theorem ev_con : eCon d ρ S = .ok d S := .trans rfl rfl
theorem ev_bin (f : Dv → Dv → Sto → Out Dv) : eBin f a b ρ S = (a ρ S).bind fun x S1 => (b ρ S1).bind fun y S2 => f x y S2 := .trans rfl rfl
theorem ev_un (f : Dv → Sto → Out Dv) : eUn f a ρ S = (a ρ S).bind f := .trans rfl rfl
theorem ev_anil : aNil ρ S = .ok [] S := .trans rfl rfl
theorem ev_acons (r : RE) (t : RA) : aCons r t ρ S = (r ρ S).bind fun d S1 => (t ρ S1).bind fun ds S2 => .ok (d :: ds) S2 := .trans rfl rfl
theorem ev_call (f : List Dv → Sto → Out Dv) (a : RA) : eCall f a ρ S = (a ρ S).bind f := .trans rfl rfl
theorem ev_tup (a : RA) : eTup a ρ S = (a ρ S).bind fun ds S1 => if ds.length ≤ sizeLine then .ok (.tup ds) S1 else .no := .trans rfl rfl
theorem ev_lst (a : RA) : eLst a ρ S = (a ρ S).bind fun ds S1 => if ds.length ≤ sizeLine then .ok (.ref S1.length) (S1 ++ [.lst ds]) else .no := .trans rfl rfl
theorem ev_not : eNot a ρ S = (a ρ S).bind fun d S1 => match d with | .bl b => .ok (.bl (!b)) S1 | _ => .no := .trans rfl rfl
theorem ev_and : eAnd a b ρ S = (a ρ S).bind fun d S1 => match d with | .bl true => b ρ S1 | .bl false => .ok (.bl false) S1 | _ => .no := .trans rfl rfl
theorem ev_or : eOr a b ρ S = (a ρ S).bind fun d S1 => match d with | .bl true => .ok (.bl true) S1 | .bl false => b ρ S1 | _ => .no := .trans rfl rfl
theorem ev_if : eIf ta a b ρ S = (ta ρ S).bind fun t S1 => if t = true then a ρ S1 else b ρ S1 := .trans rfl rfl
theorem ev_cbl : cBl a ρ S = (a ρ S).bind bTrue := .trans rfl rfl
theorem ev_btrue (b : Bool) : bTrue (.bl b) S = .ok b S := .trans rfl rfl
theorem ev_cand : cAnd ta tb ρ S = (ta ρ S).bind fun t S1 => if t = true then tb ρ S1 else .ok false S1 := .trans rfl rfl
theorem ev_cor : cOr ta tb ρ S = (ta ρ S).bind fun t S1 => if t = true then .ok true S1 else tb ρ S1 := .trans rfl rfl
theorem ev_cnot : cNot ta ρ S = (ta ρ S).bind fun t S1 => .ok (!t) S1 := .trans rfl rfl
theorem ev_sli (l h : RO) : eSli a l h ρ S = (a ρ S).bind fun d S1 => (l ρ S1).bind fun lo S2 => (h ρ S2).bind fun hi S3 => sliD d lo hi S3 := .trans rfl rfl
theorem ev_onone : oNone ρ S = .ok none S := .trans rfl rfl
theorem ev_osome : oSome a ρ S = (a ρ S).bind fun d S1 => match d with | .int i => .ok (some i) S1 | _ => .no := .trans rfl rfl
theorem ev_chain (f g : Dv → Dv → Sto → Out Dv) : eChain f g a b c ρ S = (a ρ S).bind fun x S1 => (b ρ S1).bind fun y S2 => (f x y S2).bind fun z S3 => match z with
  | .bl true => (c ρ S3).bind fun w S4 => g y w S4
  | .bl false => .ok (.bl false) S3
  | _ => .no := .trans rfl rfl
theorem ev_meth (T : String) (f : Dv → List Dv → Sto → Out Dv) (a' : RA) : eMeth T f a a' ρ S = (a ρ S).bind fun d S1 => if tyQ T d S1 = true then (a' ρ S1).bind fun ds S2 => f d ds S2 else .no := .trans rfl rfl
theorem ev_get2 : eGet2 a b c ρ S = (a ρ S).bind fun d S1 => if tyQ "dict" d S1 = true then (b ρ S1).bind fun y S2 => (c ρ S2).bind fun z S3 => getD2 d [y, z] S3 else .no := .trans rfl rfl
theorem ev_newK : eNewK ρ S = .ok (.ref S.length) (S ++ [.dk []]) := .trans rfl rfl
theorem ev_newT : eNewT ρ S = .ok (.ref S.length) (S ++ [.dt []]) := .trans rfl rfl
theorem ev_own (n : Nat) (F : List Dv → Sto → Out Dv) (a : RA) : eOwn n F a ρ S = (a ρ S).bind fun ds S1 => if ds.length = n then F ds S1 else .no := .trans rfl rfl
theorem ev_nil : cNil ρ S = .fl (.nx ρ) S := .trans rfl rfl
theorem ev_seq : cSeq ra rb ρ S = match ra ρ S with | .fl (.nx ρ') S' => rb ρ' S' | o => o := .trans rfl rfl
theorem ev_expr : cExpr a ρ S = bindS (a ρ S) ρ fun _ S1 => .fl (.nx ρ) S1 := .trans rfl rfl
theorem ev_set (i : Nat) : cSet i a ρ S = bindS (a ρ S) ρ fun d S1 => .fl (.nx (ρ.set i (some d))) S1 := .trans rfl rfl
theorem ev_ret : cRet a ρ S = bindS (a ρ S) ρ fun d S1 => .fl (.rt d) S1 := .trans rfl rfl
theorem ev_retN : cRetN ρ S = .fl (.rt .non) S := .trans rfl rfl
theorem ev_cif : cIf ta ra rb ρ S = bindS (ta ρ S) ρ fun c S1 => if c = true then ra ρ S1 else rb ρ S1 := .trans rfl rfl
theorem ev_brk : cBrk ρ S = .fl (.bk ρ) S := .trans rfl rfl
theorem ev_ct : cCt ρ S = .fl (.ct ρ) S := .trans rfl rfl
theorem ev_asg (t : Tg) : cAsg t a ρ S = bindS (a ρ S) ρ fun d S1 => match t.set d ρ with | some ρ' => .fl (.nx ρ') S1 | none => .no := .trans rfl rfl
theorem ev_put : cPut a b c ρ S = bindS (c ρ S) ρ fun d S1 => bindS (a ρ S1) ρ fun x S2 => bindS (b ρ S2) ρ fun y S3 => match putD x y d S3 with | some S4 => .fl (.nx ρ) S4 | none => .no := .trans rfl rfl
theorem ev_aug (i : Nat) (f : Dv → Dv → Sto → Out Dv) : cAug i f a ρ S = bindS (eBin f (eVar i) a ρ S) ρ fun d S1 => .fl (.nx (ρ.set i (some d))) S1 := .trans rfl rfl
theorem ev_for (r : RI) (t : Tg) : cFor r t ra ρ S = bindS (r ρ S) ρ fun w S1 => loop w.2.ok t ra w.1 ρ S1 := .trans rfl rfl
theorem ev_comp (r : RI) (t : Tg) (c : RT) (y : RE) (vs : List Nat) : eComp r t c y vs ρ S = (r ρ S).bind fun w S1 => (compL w.2.ok t c y (wipeE ρ vs) w.1 [] S1).bind newL := .trans rfl rfl
theorem ev_newL (ds : List Dv) : newL ds S = .ok (.ref S.length) (S ++ [.lst ds]) := .trans rfl rfl
theorem ev_iseq : iSeq a ρ S = (a ρ S).bind fun d S1 => match walkD d S1 with | some w => .ok w S1 | none => .no := .trans rfl rfl
theorem ev_irange (f : List Dv → Option (List Dv)) (a : RA) : iRange f a ρ S = (a ρ S).bind fun ds S1 => match f ds with | some w => .ok (w, .tt) S1 | none => .no := .trans rfl rfl
theorem ev_ienum (a : RA) : iEnum a ρ S = (a ρ S).bind fun ds S1 => match ds with
  | [d] => match lstOf S1 d with
    | some xs => .ok (enumL xs, ckOf d xs) S1
    | none => .no
  | _ => .no := .trans rfl rfl
theorem ev_yes : cYes ρ S = .ok true S := .trans rfl rfl

/-! ### loops by an invariant -/
theorem loop_gen {ck : Sto → Prop} [∀ S, Decidable (ck S)] {t : Tg} {b : RC} (I : Nat → Env → Sto → Prop) (D : OutS → Prop) (ds : List Dv) (n : Nat)
    (hs : ∀ i d ρ S, ds[i]? = some d → I (n + i) ρ S → ck S ∧ ∃ ρ1, t.set d ρ = some ρ1 ∧ ((∃ ρ2 S2, (b ρ1 S = .fl (.nx ρ2) S2 ∨ b ρ1 S = .fl (.ct ρ2) S2) ∧ I (n + i + 1) ρ2 S2) ∨ (∃ ρ2 S2, b ρ1 S = .fl (.bk ρ2) S2 ∧ D (.fl (.nx ρ2) S2)) ∨ (∃ e S2, b ρ1 S = .fl (.rt e) S2 ∧ D (.fl (.rt e) S2))))
    (he : ∀ ρ S, I (n + ds.length) ρ S → ck S ∧ D (.fl (.nx ρ) S)) (ρ : Env) (S : Sto) (h0 : I n ρ S) : D (loop ck t b ds ρ S) := by
  induction ds generalizing n ρ S with
  | nil =>
    obtain ⟨h1, h2⟩ := he ρ S h0
    rw [loop, if_pos h1]; exact h2
  | cons d ds ih =>
    obtain ⟨hc, ρ1, e1, h⟩ := hs 0 d ρ S rfl h0
    have ih2 : ∀ ρ S, I (n + 1) ρ S → D (loop ck t b ds ρ S) := fun ρ S hI => ih (n + 1)
      (fun i d' ρ S hd hI => by
        have := hs (i + 1) d' ρ S (by simpa using hd) (by rw [show n + (i + 1) = n + 1 + i by omega]; exact hI)
        rw [show n + (i + 1) + 1 = n + 1 + i + 1 by omega] at this
        exact this)
      (fun ρ S hI => he ρ S (by rw [List.length_cons, show n + (ds.length + 1) = n + 1 + ds.length by omega]; exact hI)) ρ S hI
    rw [loop, if_pos hc, e1]
    rcases h with ⟨ρ2, S2, h | h, hI⟩ | ⟨ρ2, S2, h, hD⟩ | ⟨e, S2, h, hD⟩
    · simp only [h]; exact ih2 ρ2 S2 hI
    · simp only [h]; exact ih2 ρ2 S2 hI
    · simp only [h]; exact hD
    · simp only [h]; exact hD
/-- a loop that runs to its end -/
theorem loop_all {ck : Sto → Prop} [∀ S, Decidable (ck S)] {t : Tg} {b : RC} (I : Nat → Env → Sto → Prop) (ds : List Dv) {ρ : Env} {S : Sto} (h0 : I 0 ρ S)
    (hs : ∀ i d ρ S, ds[i]? = some d → I i ρ S → ck S ∧ ∃ ρ1, t.set d ρ = some ρ1 ∧ ∃ ρ2 S2, (b ρ1 S = .fl (.nx ρ2) S2 ∨ b ρ1 S = .fl (.ct ρ2) S2) ∧ I (i + 1) ρ2 S2)
    (he : ∀ ρ S, I ds.length ρ S → ck S) : ∃ ρ' S', loop ck t b ds ρ S = .fl (.nx ρ') S' ∧ I ds.length ρ' S' := by
  refine loop_gen (t := t) (b := b) I (fun o => ∃ ρ' S', o = .fl (.nx ρ') S' ∧ I ds.length ρ' S') ds 0 (fun i d ρ S hd hI => ?_) (fun ρ S hI => ?_) ρ S h0
  · rw [Nat.zero_add] at hI ⊢
    obtain ⟨a, ρ1, b, c⟩ := hs i d ρ S hd hI
    exact ⟨a, ρ1, b, .inl c⟩
  · rw [Nat.zero_add] at hI
    exact ⟨he ρ S hI, ρ, S, rfl, hI⟩
theorem comp_gen {ck : Sto → Prop} [∀ S, Decidable (ck S)] {t : Tg} {c : RT} {y : RE} (I : Nat → List Dv → Sto → Prop) (ds : List Dv) (ρ : Env)
    (hs : ∀ i d acc S, ds[i]? = some d → I i acc S → ck S ∧ ∃ ρ1, t.set d ρ = some ρ1 ∧ ∃ k S1, c ρ1 S = .ok k S1 ∧ (k = true → ∃ z S2, y ρ1 S1 = .ok z S2 ∧ acc.length < sizeLine ∧ I (i + 1) (acc ++ [z]) S2) ∧ (k = false → I (i + 1) acc S1))
    (he : ∀ acc S, I ds.length acc S → ck S) {acc : List Dv} {S : Sto} (h0 : I 0 acc S) : ∃ acc' S', compL ck t c y ρ ds acc S = .ok acc' S' ∧ I ds.length acc' S' := by
  suffices H : ∀ (rest : List Dv) (n : Nat) (acc : List Dv) (S : Sto), n + rest.length = ds.length → ds.drop n = rest → I n acc S → ∃ acc' S', compL ck t c y ρ rest acc S = .ok acc' S' ∧ I ds.length acc' S' from H ds 0 acc S (by simp) rfl h0
  intro rest
  induction rest with
  | nil =>
    intro n acc S hn _ hI
    have : n = ds.length := by simpa using hn
    subst this
    rw [compL, if_pos (he acc S hI)]
    exact ⟨_, _, rfl, hI⟩
  | cons d rest ih =>
    intro n acc S hn hd hI
    have hdn : ds[n]? = some d := by
      have : (ds.drop n)[0]? = some d := by rw [hd]; rfl
      simpa using this
    have hd2 : ds.drop (n + 1) = rest := by rw [← List.drop_drop, hd]; rfl
    obtain ⟨hc, ρ1, e1, k, S1, e2, h1, h2⟩ := hs n d acc S hdn hI
    rw [compL, if_pos hc, e1]
    simp only [e2, Out.bindN_ok]
    cases k with
    | true =>
      obtain ⟨z, S2, e3, hl, hI2⟩ := h1 rfl
      simp only [if_true, e3, Out.bindN_ok, if_pos hl]
      exact ih (n + 1) _ S2 (by rw [List.length_cons] at hn; omega) hd2 hI2
    | false => exact ih (n + 1) _ S1 (by rw [List.length_cons] at hn; omega) hd2 (h2 rfl)
end
/-! ### stores -/
/-- what stood stands, but at the places P -/
structure Fr (P : Nat → Prop) (S S' : Sto) : Prop where
  le : S.length ≤ S'.length
  get : ∀ (l : Nat) (o : Ob), S[l]? = some o → ¬ P l → S'[l]? = some o
abbrev Gr (S S' : Sto) : Prop := Fr (fun _ => False) S S'
theorem Fr.refl {P : Nat → Prop} (S : Sto) : Fr P S S := ⟨Nat.le_refl _, fun _ _ h _ => h⟩
theorem Fr.trans {P : Nat → Prop} {S S1 S2 : Sto} (h : Fr P S S1) (t : Fr P S1 S2) : Fr P S S2 := ⟨Nat.le_trans h.le t.le, fun l o e n => t.get l o (h.get l o e n) n⟩
theorem Fr.imp {P P' : Nat → Prop} {S S1 : Sto} (h : Fr P S S1) (i : ∀ l, l < S.length → P l → P' l) : Fr P' S S1 := ⟨h.le, fun l o e n => h.get l o e fun z => n (i l (List.getElem?_eq_some_iff.mp e).1 z)⟩
theorem Gr.any {P : Nat → Prop} {S S1 : Sto} (h : Gr S S1) : Fr P S S1 := h.imp fun _ _ z => z.elim
theorem Gr.at {S S1 : Sto} (h : Gr S S1) {l : Nat} {o : Ob} (e : S[l]? = some o) : S1[l]? = some o := h.get l o e id
theorem gr_app (S T : Sto) : Gr S (S ++ T) := ⟨by simp, fun l o e _ => by rw [List.getElem?_append_left (List.getElem?_eq_some_iff.mp e).1]; exact e⟩
theorem at_new (S : Sto) (o : Ob) : (S ++ [o])[S.length]? = some o := by simp
theorem fr_set (S : Sto) (l : Nat) (o : Ob) : Fr (· = l) S (S.set l o) := ⟨by simp, fun m u e n => by rw [List.getElem?_set_ne (fun z => n z.symm)]; exact e⟩
theorem at_set {S : Sto} {l : Nat} {o u : Ob} (e : S[l]? = some u) : (S.set l o)[l]? = some o := List.getElem?_set_self (List.getElem?_eq_some_iff.mp e).1
theorem lt_of_at {S : Sto} {l : Nat} {u : Ob} (e : S[l]? = some u) : l < S.length := (List.getElem?_eq_some_iff.mp e).1
theorem ne_new {S : Sto} {l : Nat} {u : Ob} (e : S[l]? = some u) : l ≠ S.length := Nat.ne_of_lt (lt_of_at e)
end PL
namespace PL
open PySem PySem.Spec PyProof.Rows L2
theorem fn_def {P : Program} {w : World} {K : PySem.W.Frag} {mg : Str → Option Value} {base : Heap} {x qual : Str} {st : Stmt} {f : Addr} {fd : FuncData} {N ps : List Str} {k m n : Nat} {c : RC} {G : List Dv → Sto → Out Dv} (F : Fun K x qual st f fd) (S : FnScope N ps (defScope st)) (hG : G = runF c m n) (hm : N.length = m) (hn : ps.length = n)
    (hbody : ∀ (cdv : Value) (A : Around) (outer : List PySem.Env) (s : Shared) (H : Hp) (E : XK), Room k (A.deeper (envOfC qual (defScope st) s.heap.objs.size f cdv)) →
      SCs (cxOf CX0 P w K mg base N qual (defScope st) f cdv A outer s H E).nox (fun cl d _ H => E cl d H) (defBody st) c) : FnOk P w K mg base CX0 (k + 1) f fd ps (spD K mg G n) := by
  subst hG hm hn
  exact fn_mk F S hbody
end PL
namespace PL
open PySem PySem.Spec PyProof.Rows L2
section
variable {X : Cx} {W : WX} {tg iter elt : Expr} {ifs : List Expr} {scope : Scope} {own : List (Str × Nat)} {pos spos : Pos} {r : RI} {t : Tg} {rc : RT} {ry : RE} {vs : List Nat}
theorem se_compB (own : List (Str × Nat)) (hc : X.calm = true) (hN : X.N.Nodup) (hi : SI X W tg iter r) (ok : BlkOk X.N X.env.scope scope own) (hg : Blk X scope fun Y => SG Y tg t) (ht : Blk X scope fun Y => PTs Y ifs (tG RBool X.K X.mg W rc)) (he : Blk X scope fun Y => SE Y W elt ry)
    (hv : vs = own.map (·.2)) (hown : ∀ i ∈ t.slots, i ∈ own.map (·.2)) (hs : ∀ x, foldedSetIterable iter X.env x = pure x := by intro _; rfl) : SE X W (.ListComp elt [⟨tg, iter, ifs, 0⟩] scope pos) (eComp r t rc ry vs) := by
  subst hv; exact se_comp hc hN hi ok hg ht he hown hs
theorem sc_setCompB {i : Nat} {y : Str} {py : Pos} (own : List (Str × Nat)) (hc : X.calm = true) (hN : X.N.Nodup) (hy : X.N[i]? = some y) (hyl : X.env.scope.names.lookup y = some .local) (hsw : swapsWith (.ListComp elt [⟨tg, iter, ifs, 0⟩] scope pos) (some (.Name y py)) spos.line X.env = pure true)
    (hi : SI X W tg iter r) (ok : BlkOk X.N X.env.scope scope own) (hg : Blk X scope fun Y => SG Y tg t) (ht : Blk X scope fun Y => PTs Y ifs (tG RBool X.K X.mg W rc)) (he : Blk X scope fun Y => SE Y W elt ry)
    (hv : vs = own.map (·.2)) (hown : ∀ i ∈ t.slots, i ∈ own.map (·.2)) (hs : ∀ x, foldedSetIterable iter X.env x = pure x := by intro _; rfl) : SC X W (.Assign [.Name y py] (.ListComp elt [⟨tg, iter, ifs, 0⟩] scope pos) spos) (cSet i (eComp r t rc ry vs)) := by
  subst hv; exact sc_setComp hc hN hy hyl hsw hi ok hg ht he hown hs
end
end PL
namespace PL
open PySem PySem.Spec PyProof.Rows L2
/-! ### the end -/
theorem walk_law {l : PySem.W.OpenLaw} {q : Program} {loose : List Str} {XP : (Str → Option Value) → Heap → Prop} {YP : World → Heap → Prop} {d : DefRec} {K : Params → PySem.W.Frag} {k : Nat} {x : Str} {G : List Dv → Sto → Out Dv} (hn : l.most = some 63) (hdf : d.params.defaults = []) (hr : Room k callerA)
    (hY : ∀ (w : World) (h : Heap), YP w h → (K w.params).In h)
    (hG : ∀ ns : List Int, ns.length ≤ 63 → ∃ S, G [.fl (ns.map .int)] [] = .ok (.bl true) S)
    (FF : ∀ (w : World) (mg : Str → Option Value) (fa : Addr) (h : Heap), (K w.params).In h → h.Ns mainGlobals mg → mg d.name = some (.ref fa) →
      ∃ fd : FuncData, (∀ (s : Shared) (u : Value), BindsTo s fd ⟨[u], []⟩ [(x, u)]) ∧ ∀ base : Heap, (K w.params).In base → base.Ns mainGlobals mg → FnOk l.prog w (K w.params) mg base CX0 k fa fd [x] (spD (K w.params) mg G 1)) :
    PySem.W.WalkO q loose XP YP l.row.toRowW d [] (fun f vs => PySem.call f vs) := by
  refine L2.walk_of (n := 63) (k := k) (x := x) (CX := fun _ => CX0) (sp := fun w vs H Q _ => ∃ (a : Addr) (ns : List Int), vs = [.ref a] ∧ SqL (K w.params) H a (ns.map V.int) ∧ ns.length ≤ 63 ∧ Only H ∧ ∀ H', Q (.bl true) H') hn (by decide) hdf hr hY ?_ (fun _ _ a ns hl ho hS => ⟨a, ns, rfl, hS, hl, ho, fun _ => rfl⟩) fun _ _ _ _ _ z => z
  intro w mg fa h hK hNs hmg
  obtain ⟨fd, h1, h2⟩ := FF w mg fa h hK hNs hmg
  refine ⟨fd, h1, fun base hb hn => (h2 base hb hn).imp ?_⟩
  rintro vs H Q E ⟨a, ns, rfl, hS, hl, ho, hQ⟩
  obtain ⟨S', e⟩ := hG ns hl
  refine ⟨[], [], [.fl (ns.map .int)], rfl, ⟨rfl, List.nodup_nil, fun l a o z => by simp at z⟩, Reps.one ?_, ?_⟩
  · refine Rep.fl (vs := ns.map V.int) ?_ (by simp) (fun i v d h1 h2 => ?_)
    · rcases hS with h | ⟨o, its, n, h⟩
      · left
        refine ⟨?_, by simp⟩
        rcases h with h | h
        · rcases ho a with z | ⟨o, xs, z⟩
          · rw [z] at h; cases h
          · rw [z] at h; cases h
        · exact h
      · exact .inr ⟨o, its, n, h⟩
    · rw [List.getElem?_map] at h1 h2
      cases q : ns[i]? with
      | none => rw [q] at h1; cases h1
      | some j =>
        rw [q] at h1 h2
        cases h1; cases h2
        exact .int j
  · rw [e]
    intro μ1 H1 v _ _ rv
    cases rv with
    | bl b => exact hQ H1
end PL
namespace PL
open PySem PySem.Spec PyProof.Rows L2
theorem runF_rt {c : RC} {m n : Nat} {ds : List Dv} {S S' : Sto} {d : Dv} {ρ : Env} (hρ : ds.map some ++ List.replicate (m - n) none = ρ) (hn : ds.length = n) (h : c ρ S = .fl (.rt d) S') : runF c m n ds S = .ok d S' := by
  unfold runF
  rw [if_pos hn, hρ, h]
theorem runF_nx {c : RC} {m n : Nat} {ds : List Dv} {S S' : Sto} {ρ ρ' : Env} (hρ : ds.map some ++ List.replicate (m - n) none = ρ) (hn : ds.length = n) (h : c ρ S = .fl (.nx ρ') S') : runF c m n ds S = .ok .non S' := by
  unfold runF
  rw [if_pos hn, hρ, h]
end PL

namespace PL
open PySem PySem.Spec PyProof.Rows L2
section
variable {S S' : Sto} {d x y : Dv} {ds xs : List Dv}
theorem Fr.then {P Q : Nat → Prop} {S S1 S2 : Sto} (g : Fr P S S1) (f : Fr Q S1 S2) (h : ∀ l, Q l → l < S.length → P l) : Fr P S S2 := ⟨Nat.le_trans g.le f.le, fun l o e n => f.get l o (g.get l o e n) fun q => n (h l q (List.getElem?_eq_some_iff.mp e).1)⟩
theorem Gr.new {Q : Nat → Prop} {S S1 S2 : Sto} (g : Gr S S1) (f : Fr Q S1 S2) (h : ∀ l, Q l → S.length ≤ l) : Gr S S2 := Fr.then g f fun l q hl => absurd (h l q) (by omega)
theorem lst_gr (g : Gr S S') (h : lstOf S d = some ds) : lstOf S' d = some ds := by
  cases d with
  | fl => exact h
  | ref l =>
    simp only [lstOf] at h ⊢
    split at h
    · rename_i q; rw [g.at q]; exact h
    · cases h
  | _ => cases h
theorem lst_ref {l : Nat} (h : S[l]? = some (.lst ds)) : lstOf S (.ref l) = some ds := by simp only [lstOf, h]
theorem tup_lst (h : lstOf S d = some ds) : tupOf d = none := by cases d <;> first | rfl | cases h
theorem seq_lst (h : lstOf S d = some ds) : seqOf S d = some ds := by rw [seqOf, tup_lst h, h]
theorem len_seq (h : seqOf S d = some ds) : lenD [d] S = .ok (.int ds.length) S := by
  cases d with
  | str x => cases h
  | _ => simp only [lenD, h]
theorem len_lst (h : lstOf S d = some ds) : lenD [d] S = .ok (.int ds.length) S := len_seq (seq_lst h)
theorem len_ref {l : Nat} (h : S[l]? = some (.lst ds)) : lenD [.ref l] S = .ok (.int ds.length) S := len_lst (lst_ref h)
theorem len_tup : lenD [.tup ds] S = .ok (.int ds.length) S := len_seq rfl
theorem idx_lst (h : lstOf S d = some ds) {i : Int} (e : atI ds i = some x) : idxD d (.int i) S = .ok x S := by
  cases d with
  | str => cases h
  | _ => simp only [idxD, tup_lst h, h, e]
theorem idx_ref {l : Nat} (h : S[l]? = some (.lst ds)) {i : Int} (e : atI ds i = some x) : idxD (.ref l) (.int i) S = .ok x S := idx_lst (lst_ref h) e
theorem idx_tup {i : Int} (e : atI ds i = some x) : idxD (.tup ds) (.int i) S = .ok x S := by simp only [idxD, tupOf, e]
theorem atI_nat {α : Type} {xs : List α} {i : Nat} {a : α} (e : xs[i]? = some a) : atI xs (i : Int) = some a := by
  have h := (List.getElem?_eq_some_iff.mp e).1
  unfold atI ixN
  rw [if_pos (by omega), if_pos (by omega)]
  simpa using e
theorem atI_last {α : Type} {xs : List α} {a : α} : atI (xs ++ [a]) (-1) = some a := by
  unfold atI ixN
  rw [if_neg (by omega), if_pos (by simp; omega)]
  simp only [List.length_append, List.length_cons, List.length_nil, Option.bind_some]
  rw [show (-1 + ((xs.length + (0 + 1) : Nat) : Int)).toNat = xs.length by omega]
  simp
theorem idx_last {l : Nat} (h : S[l]? = some (.lst (xs ++ [x]))) : idxD (.ref l) (.int (-1)) S = .ok x S := idx_ref h atI_last
theorem idx_t0 {a : Dv} : idxD (.tup (a :: ds)) (.int 0) S = .ok a S := idx_tup (atI_nat (i := 0) rfl)
theorem idx_t1 {a b : Dv} : idxD (.tup (a :: b :: ds)) (.int 1) S = .ok b S := idx_tup (atI_nat (i := 1) rfl)
theorem idx_t2 {a b c : Dv} : idxD (.tup (a :: b :: c :: ds)) (.int 2) S = .ok c S := idx_tup (atI_nat (i := 2) rfl)
theorem idx_t3 {a b c e : Dv} : idxD (.tup (a :: b :: c :: e :: ds)) (.int 3) S = .ok e S := idx_tup (atI_nat (i := 3) rfl)
theorem atI_mod {α : Type} {xs : List α} (h : xs ≠ []) (i : Int) : ∃ a, a ∈ xs ∧ atI xs (i % (xs.length : Int)) = some a := by
  have hp : 0 < xs.length := List.length_pos_iff.mpr h
  have h1 := Int.emod_nonneg i (b := (xs.length : Int)) (by omega)
  have h2 := Int.emod_lt_of_pos i (b := (xs.length : Int)) (by omega)
  obtain ⟨j, hj⟩ := Int.eq_ofNat_of_zero_le h1
  have hl : j < xs.length := by omega
  exact ⟨xs[j], List.getElem_mem hl, by rw [hj]; exact atI_nat (List.getElem?_eq_getElem hl)⟩
theorem rangeL_get {lo hi : Int} {i : Nat} (h : (rangeL lo hi)[i]? = some d) : d = .int (lo + i) ∧ lo + i < hi := by
  unfold rangeL at h
  rw [List.getElem?_map] at h
  obtain ⟨j, hj, e⟩ := Option.map_eq_some_iff.mp h
  obtain ⟨hl, e2⟩ := List.getElem?_eq_some_iff.mp hj
  simp at hl e2
  subst e2
  exact ⟨e.symm, by omega⟩
theorem rangeL_len (lo hi : Int) : (rangeL lo hi).length = (hi - lo).toNat := by unfold rangeL; simp
theorem rok_of {i : Int} (h : 0 ≤ i) (h2 : i < 2 ^ 62) : rok i = true := by unfold rok; exact @decide_eq_true _ (Classical.propDecidable _) ⟨by omega, h2⟩
theorem rng1_of {i : Int} (h : 0 ≤ i) (h2 : i < 2 ^ 62) : rng1 [.int i] = some (rangeL 0 i) := by simp only [rng1]; rw [if_pos (rok_of h h2)]
theorem app_ref {l : Nat} (h : S[l]? = some (.lst ds)) (hl : ds.length < sizeLine) : appendD (.ref l) [x] S = .ok .non (S.set l (.lst (ds ++ [x]))) := by simp only [appendD, lmap, h, if_pos hl]
theorem pop_ref {l : Nat} (h : S[l]? = some (.lst (ds ++ [x]))) : popD (.ref l) [] S = .ok x (S.set l (.lst ds)) := by
  simp only [popD, lmap, h]
  simp
theorem tyq_ref {l : Nat} (h : S[l]? = some (.lst ds)) : tyQ "list" (.ref l) S = true := by simp only [tyQ, h]; rfl
theorem list_ref {l : Nat} (h : S[l]? = some (.lst ds)) : listD [.ref l] S = newL ds S := by simp only [listD, seq_lst (lst_ref h)]
theorem tuple_ref {l : Nat} (h : S[l]? = some (.lst ds)) : tupleD [.ref l] S = .ok (.tup ds) S := by simp only [tupleD, lst_ref h]
theorem walk_ref {l : Nat} (h : S[l]? = some (.lst ds)) : walkD (.ref l) S = some (ds, .ls l ds) := by simp only [walkD, seq_lst (lst_ref h)]; rfl
theorem walk_tup : walkD (.tup ds) S = some (ds, .tt) := by simp only [walkD, seqOf, tupOf]; rfl
theorem sline (n : Nat) (h : n ≤ 16777216) : n ≤ sizeLine := h
end

/-! ### the law's draws -/
section
noncomputable def drawsB : RC := cSeq (cSet 4 (eCon (.int 0))) (cSeq (cIf (cBl (eBin gtD (eCall lenD (aCons (eVar 0) (aNil))) (eCon (.int 0)))) (cSet 4 (eBin modD (eBin idxD (eVar 0) (eBin modD (eVar 3) (eCall lenD (aCons (eVar 0) (aNil))))) (eBin powD (eCon (.int 10)) (eCon (.int 18))))) (cNil)) (cExpr (eMeth "list" appendD (eVar 2) (aCons (eBin addD (eVar 4) (eBin mulD (eCon (.int 7919)) (eBin fdivD (eVar 3) (eCall max2D (aCons (eCon (.int 1)) (aCons (eCall lenD (aCons (eVar 0) (aNil))) (aNil))))))) (aNil)))))
noncomputable def drawsC : RC := cSeq (cSet 2 (eLst (aNil))) (cSeq (cFor (iRange rng1 (aCons (eVar 1) (aNil))) (.nm 3) drawsB) (cRet (eVar 2)))
variable {S S' : Sto} {d : Dv}
theorem draws_run {ns : List Int} {n : Nat} (hd : lstOf S d = some (ns.map .int)) (hn : n ≤ 1000) (hl : ns.length ≤ 63) : ∃ (l : Nat) (xs : List Int) (S' : Sto), runF drawsC 5 2 [d, .int n] S = .ok (.ref l) S' ∧ Gr S S' ∧ S.length ≤ l ∧ S'[l]? = some (.lst (xs.map .int)) ∧ xs.length = n ∧ ∀ x ∈ xs, 0 ≤ x ∧ x < 2 ^ 62 := by
  have h10 : CPow 10 18 := ⟨by omega, by omega, by omega⟩
  refine (loop_all (ck := Ck.tt.ok) (t := .nm 3) (b := drawsB) (S := S ++ [.lst []]) (ρ := [some d, some (.int n), some (.ref S.length), none, none])
    (fun i ρ S' => ∃ (v3 v4 : Option Dv) (xs : List Int), ρ = [some d, some (.int n), some (.ref S.length), v3, v4] ∧ Gr S S' ∧ S'[S.length]? = some (.lst (xs.map .int)) ∧ xs.length = i ∧ ∀ x ∈ xs, (0 : Int) ≤ x ∧ x < 2 ^ 62) (rangeL 0 n)
    ⟨none, none, [], rfl, gr_app _ _, at_new _ _, rfl, by simp⟩ ?_ (fun _ _ _ => trivial)).elim fun ρ' ⟨S', e, v3, v4, xs, hρ, g, h1, h2, h3⟩ => ?_
  rotate_left
  · subst hρ
    refine ⟨S.length, xs, S', ?_, g, Nat.le_refl _, h1, by rw [h2, rangeL_len]; omega, h3⟩
    refine runF_rt (ρ := [some d, some (.int n), none, none, none]) rfl rfl ?_
    simp only [drawsC, ev_var, ev_con, ev_bin, ev_un, ev_anil, ev_acons, ev_call, ev_tup, ev_lst, ev_not, ev_and, ev_or, ev_if, ev_cbl, ev_btrue, ev_cand, ev_cor, ev_cnot, ev_sli, ev_onone, ev_osome, ev_chain, ev_meth, ev_get2, ev_newK, ev_newT, ev_own, ev_nil, ev_seq, ev_expr, ev_set, ev_ret, ev_retN, ev_cif, ev_brk, ev_ct, ev_asg, ev_put, ev_aug, ev_for, ev_comp, ev_newL, ev_iseq, ev_irange, ev_ienum, ev_yes, Out.bind_ok, Out.bindN_ok, bindS_ok, Tg.set, Tg.sets, List.getElem?_cons_zero, List.getElem?_cons_succ, List.set_cons_zero, List.set_cons_succ, wipeE, List.length_cons, List.length_nil, Nat.reduceAdd, Nat.reduceLeDiff, Nat.reduceEqDiff, ↓reduceIte, Bool.false_eq_true, decide_eq_true_eq, addD, subD, mulD, fdivD, modD, powD, negD, ltD, leD, gtD, geD, andD, orD, xorD, max2D, min2D, Nat.zero_le, rng1_of (i := (n : Int)) (by omega) (by omega), e]
  · rintro i v ρ S1 hv ⟨v3, v4, xs, rfl, g, h1, h2, h3⟩
    obtain ⟨rfl, hlt⟩ := rangeL_get hv
    refine ⟨trivial, _, rfl, ?_⟩
    have hd1 := lst_gr g hd
    have hlen : (xs.map Dv.int).length < sizeLine := by rw [List.length_map]; unfold sizeLine; omega
    -- what is put in
    have key : ∃ c : Int, 0 ≤ c ∧ c < 10 ^ 18 ∧ (cIf (cBl (eBin gtD (eCall lenD (aCons (eVar 0) (aNil))) (eCon (.int 0)))) (cSet 4 (eBin modD (eBin idxD (eVar 0) (eBin modD (eVar 3) (eCall lenD (aCons (eVar 0) (aNil))))) (eBin powD (eCon (.int 10)) (eCon (.int 18))))) (cNil))
        [some d, some (.int n), some (.ref S.length), some (.int (0 + i)), some (.int 0)] S1 = .fl (.nx [some d, some (.int n), some (.ref S.length), some (.int (0 + i)), some (.int c)]) S1 := by
      by_cases hns : ns = []
      · subst hns
        refine ⟨0, by omega, by omega, ?_⟩
        simp [ev_var, ev_con, ev_bin, ev_un, ev_anil, ev_acons, ev_call, ev_tup, ev_lst, ev_not, ev_and, ev_or, ev_if, ev_cbl, ev_btrue, ev_cand, ev_cor, ev_cnot, ev_sli, ev_onone, ev_osome, ev_chain, ev_meth, ev_get2, ev_newK, ev_newT, ev_own, ev_nil, ev_seq, ev_expr, ev_set, ev_ret, ev_retN, ev_cif, ev_brk, ev_ct, ev_asg, ev_put, ev_aug, ev_for, ev_comp, ev_newL, ev_iseq, ev_irange, ev_ienum, ev_yes, Out.bind_ok, Out.bindN_ok, bindS_ok, Tg.set, Tg.sets, List.getElem?_cons_zero, List.getElem?_cons_succ, List.set_cons_zero, List.set_cons_succ, wipeE, List.length_cons, List.length_nil, Nat.reduceAdd, Nat.reduceLeDiff, Nat.reduceEqDiff, ↓reduceIte, Bool.false_eq_true, decide_eq_true_eq, addD, subD, mulD, fdivD, modD, powD, negD, ltD, leD, gtD, geD, andD, orD, xorD, max2D, min2D, len_lst hd1]
      · have hp : 0 < ns.length := List.length_pos_iff.mpr hns
        obtain ⟨a, _, ha⟩ := atI_mod (xs := ns.map Dv.int) (by simpa using hns) (0 + i)
        obtain ⟨c, rfl⟩ : ∃ c, a = .int c := by
          rename_i hm
          obtain ⟨c, _, e⟩ := List.mem_map.mp hm
          exact ⟨c, e.symm⟩
        refine ⟨c % 10 ^ 18, Int.emod_nonneg _ (by omega), Int.emod_lt_of_pos _ (by omega), ?_⟩
        have hpI : (0 : Int) < ((ns.map Dv.int).length : Int) := by rw [List.length_map]; omega
        simp only [ev_var, ev_con, ev_bin, ev_un, ev_anil, ev_acons, ev_call, ev_tup, ev_lst, ev_not, ev_and, ev_or, ev_if, ev_cbl, ev_btrue, ev_cand, ev_cor, ev_cnot, ev_sli, ev_onone, ev_osome, ev_chain, ev_meth, ev_get2, ev_newK, ev_newT, ev_own, ev_nil, ev_seq, ev_expr, ev_set, ev_ret, ev_retN, ev_cif, ev_brk, ev_ct, ev_asg, ev_put, ev_aug, ev_for, ev_comp, ev_newL, ev_iseq, ev_irange, ev_ienum, ev_yes, Out.bind_ok, Out.bindN_ok, bindS_ok, Tg.set, Tg.sets, List.getElem?_cons_zero, List.getElem?_cons_succ, List.set_cons_zero, List.set_cons_succ, wipeE, List.length_cons, List.length_nil, Nat.reduceAdd, Nat.reduceLeDiff, Nat.reduceEqDiff, ↓reduceIte, Bool.false_eq_true, decide_eq_true_eq, addD, subD, mulD, fdivD, modD, powD, negD, ltD, leD, gtD, geD, andD, orD, xorD, max2D, min2D, len_lst hd1, hpI, idx_lst hd1 ha, h10, Int.reduceToNat, show (0 : Int) < 10 ^ 18 by omega]
    obtain ⟨c, c0, c1, e1⟩ := key
    have hm : (max 1 ((ns.map Dv.int).length : Int)) = max 1 (ns.length : Int) := by rw [List.length_map]
    have hmp : (0 : Int) < max 1 (ns.length : Int) := by omega
    have hlog : (max 1 (ns.length : Int)).natAbs.log2 < 9000 := by
      have h1 := Nat.log2_le_self (max 1 (ns.length : Int)).natAbs
      have h2 : (max 1 (ns.length : Int)).natAbs ≤ 64 := by omega
      omega
    have hq0 : 0 ≤ ((0 : Int) + i) / max 1 (ns.length : Int) := Int.ediv_nonneg (by omega) (by omega)
    have hq1 : ((0 : Int) + i) / max 1 (ns.length : Int) ≤ i := by
      have := Int.ediv_le_self (a := (0 : Int) + i) (max 1 (ns.length : Int)) (by omega)
      omega
    have hmul : CMul 7919 (((0 : Int) + i) / max 1 (ns.length : Int)) := .inl ⟨by omega, by omega⟩
    refine ⟨[some d, some (.int n), some (.ref S.length), some (.int (0 + i)), some (.int c)], S1.set S.length (.lst ((xs ++ [c + 7919 * ((0 + i) / max 1 (ns.length : Int))]).map .int)), .inl ?_, _, _, _, rfl, ?_, at_set h1, by simp [h2], ?_⟩
    · unfold drawsB
      rw [ev_seq]
      simp only [ev_set, ev_con, bindS_ok, List.set_cons_zero, List.set_cons_succ]
      rw [ev_seq, e1]
      simp only [ev_var, ev_con, ev_bin, ev_un, ev_anil, ev_acons, ev_call, ev_tup, ev_lst, ev_not, ev_and, ev_or, ev_if, ev_cbl, ev_btrue, ev_cand, ev_cor, ev_cnot, ev_sli, ev_onone, ev_osome, ev_chain, ev_meth, ev_get2, ev_newK, ev_newT, ev_own, ev_nil, ev_seq, ev_expr, ev_set, ev_ret, ev_retN, ev_cif, ev_brk, ev_ct, ev_asg, ev_put, ev_aug, ev_for, ev_comp, ev_newL, ev_iseq, ev_irange, ev_ienum, ev_yes, Out.bind_ok, Out.bindN_ok, bindS_ok, Tg.set, Tg.sets, List.getElem?_cons_zero, List.getElem?_cons_succ, List.set_cons_zero, List.set_cons_succ, wipeE, List.length_cons, List.length_nil, Nat.reduceAdd, Nat.reduceLeDiff, Nat.reduceEqDiff, ↓reduceIte, Bool.false_eq_true, decide_eq_true_eq, addD, subD, mulD, fdivD, modD, powD, negD, ltD, leD, gtD, geD, andD, orD, xorD, max2D, min2D, len_lst hd1, tyq_ref h1, hm, hmp, hlog, hmul, and_self, app_ref h1 hlen, List.map_append, List.map_cons, List.map_nil]
    · exact g.new (fr_set S1 S.length _) fun l z => by subst z; exact Nat.le_refl _
    · intro x hx
      rcases List.mem_append.mp hx with hx | hx
      · exact h3 x hx
      · rw [List.mem_singleton] at hx; subst hx; constructor <;> omega
end
end PL

namespace PL
open PySem PySem.Spec PyProof.Rows L2
section
variable {S S' : Sto} {d x y : Dv} {ds xs : List Dv}
theorem Fr.at {S S1 : Sto} (h : Fr (fun _ => False) S S1) {l : Nat} {o : Ob} (e : S[l]? = some o) : S1[l]? = some o := h.get l o e id
theorem Fr.any {P : Nat → Prop} {S S1 : Sto} (h : Fr (fun _ => False) S S1) : Fr P S S1 := h.imp fun _ _ z => z.elim
theorem seq_of {a b : RC} {ρ ρ' : Env} {S S' : Sto} (h : a ρ S = .fl (.nx ρ') S') : cSeq a b ρ S = b ρ' S' := by simp only [cSeq, h]
theorem seq_rt {a b : RC} {ρ : Env} {S S' : Sto} {d : Dv} (h : a ρ S = .fl (.rt d) S') : cSeq a b ρ S = .fl (.rt d) S' := by simp only [cSeq, h]
theorem if_t {t : RT} {a b : RC} {ρ : Env} {S S' : Sto} (h : t ρ S = .ok true S') : cIf t a b ρ S = a ρ S' := by simp only [cIf, h, bindS_ok, ↓reduceIte]
theorem if_f {t : RT} {a b : RC} {ρ : Env} {S S' : Sto} (h : t ρ S = .ok false S') : cIf t a b ρ S = b ρ S' := by simp only [cIf, h, bindS_ok, Bool.false_eq_true, ↓reduceIte]
theorem set_of {i : Nat} {e : RE} {ρ : Env} {S S' : Sto} {d : Dv} (h : e ρ S = .ok d S') : cSet i e ρ S = .fl (.nx (ρ.set i (some d))) S' := by simp only [cSet, h, bindS_ok]
theorem expr_of {e : RE} {ρ : Env} {S S' : Sto} {d : Dv} (h : e ρ S = .ok d S') : cExpr e ρ S = .fl (.nx ρ) S' := by simp only [cExpr, h, bindS_ok]
theorem ret_of {e : RE} {ρ : Env} {S S' : Sto} {d : Dv} (h : e ρ S = .ok d S') : cRet e ρ S = .fl (.rt d) S' := by simp only [cRet, h, bindS_ok]
theorem for_of {r : RI} {t : Tg} {b : RC} {ρ : Env} {S S' : Sto} {w : List Dv × Ck} (h : r ρ S = .ok w S') : cFor r t b ρ S = loop w.2.ok t b w.1 ρ S' := by simp only [cFor, h, bindS_ok]
theorem add_int (i j : Int) : addD (.int i) (.int j) S = .ok (.int (i + j)) S := .trans rfl rfl
theorem sub_int (i j : Int) : subD (.int i) (.int j) S = .ok (.int (i - j)) S := .trans rfl rfl
theorem lt_int (i j : Int) : ltD (.int i) (.int j) S = .ok (.bl (decide (i < j))) S := .trans rfl rfl
theorem le_int (i j : Int) : leD (.int i) (.int j) S = .ok (.bl (decide (i ≤ j))) S := .trans rfl rfl
theorem gt_int (i j : Int) : gtD (.int i) (.int j) S = .ok (.bl (decide (j < i))) S := .trans rfl rfl
theorem ge_int (i j : Int) : geD (.int i) (.int j) S = .ok (.bl (decide (j ≤ i))) S := .trans rfl rfl
theorem neg_int (i : Int) : negD (.int i) S = .ok (.int (-i)) S := .trans rfl rfl
theorem and_int (i j : Int) : andD (.int i) (.int j) S = .ok (.int (Builtin.bitAnd i j)) S := .trans rfl rfl
theorem or_int (i j : Int) : orD (.int i) (.int j) S = .ok (.int (Builtin.bitOr i j)) S := .trans rfl rfl
theorem xor_int (i j : Int) : xorD (.int i) (.int j) S = .ok (.int (Builtin.bitXor i j)) S := .trans rfl rfl
theorem max2_int (i j : Int) : max2D [.int i, .int j] S = .ok (.int (max i j)) S := .trans rfl rfl
theorem min2_int (i j : Int) : min2D [.int i, .int j] S = .ok (.int (min i j)) S := .trans rfl rfl
theorem int_bl (b : Bool) : intD [.bl b] S = .ok (.int (if b then 1 else 0)) S := .trans rfl rfl
theorem int_int (b : Int) : intD [.int b] S = .ok (.int b) S := .trans rfl rfl
theorem sli_tup (lo hi : Option Int) : sliD (.tup ds) lo hi S = .ok (.tup (cutD ds lo hi)) S := .trans rfl rfl
theorem beqD (a b : Str) : (a == b) = decide (a = b) := by by_cases h : a = b <;> simp [h]
theorem shp_int (i : Int) : SeqAt.shaped (.int i) = true := by rfl
abbrev Sk (x : Str) : Prop := PyData.strOk x = true
theorem sk_of {x : Str} (h : ∀ c ∈ x.cps.toList, c < 1114112) : Sk x := by
  show x.cps.all (fun c => decide (c < 1114112)) = true
  rw [← Array.all_toList, List.all_eq_true]
  exact fun c hc => decide_eq_true (h c hc)
theorem sk_app {x y : Str} (h : Sk x) (k : Sk y) : Sk (x ++ y) := by
  show (x.cps ++ y.cps).all (fun c => decide (c < 1114112)) = true
  rw [Array.all_append]
  exact Bool.and_eq_true_iff.mpr ⟨h, k⟩
theorem shp_str {x : Str} (h : Sk x) : SeqAt.shaped (.str x) = true := by
  unfold SeqAt.shaped
  simp only [PyData.canLay0, PyData.depth, h, Bool.true_and]; rfl
theorem shp_bl (x : Bool) : SeqAt.shaped (.bool x) = true := by rfl
theorem eq_int (i j : Int) : eqD (.int i) (.int j) S = .ok (.bl (decide (i = j))) S := by
  simp only [eqD, eqq, toP, shp_int, and_self, ↓reduceIte, PyData.eqv]; rfl
theorem ne_int (i j : Int) : neD (.int i) (.int j) S = .ok (.bl (!decide (i = j))) S := by
  simp only [neD, eqq, toP, shp_int, and_self, ↓reduceIte, PyData.eqv]; rfl
theorem eq_str {i j : Str} (hi : Sk i) (hj : Sk j) : eqD (.str i) (.str j) S = .ok (.bl (decide (i = j))) S := by
  simp only [eqD, eqq, toP, shp_str hi, shp_str hj, and_self, ↓reduceIte, PyData.eqv, beqD]
theorem ne_str {i j : Str} (hi : Sk i) (hj : Sk j) : neD (.str i) (.str j) S = .ok (.bl (!decide (i = j))) S := by
  simp only [neD, eqq, toP, shp_str hi, shp_str hj, and_self, ↓reduceIte, PyData.eqv, beqD]
theorem eq_bl (i j : Bool) : eqD (.bl i) (.bl j) S = .ok (.bl (decide (i = j))) S := by
  simp only [eqD, eqq, toP, shp_bl, and_self, ↓reduceIte, PyData.eqv]; cases i <;> cases j <;> rfl
theorem ne_bl (i j : Bool) : neD (.bl i) (.bl j) S = .ok (.bl (!decide (i = j))) S := by
  simp only [neD, eqq, toP, shp_bl, and_self, ↓reduceIte, PyData.eqv]; cases i <;> cases j <;> rfl
theorem toPs_strs (n : Nat) : ∀ ys : List Str, toPs (n + 1) S (ys.map .str) = some (ys.map .str)
  | [] => by simp only [List.map_nil, toPs]
  | y :: ys => by simp only [List.map_cons, toPs, toP, toPs_strs n ys]
/-- a text in a list of texts -/
theorem mem_strs {l : Nat} {ys : List Str} (h : S[l]? = some (.lst (ys.map .str))) (hs : SeqAt.shaped (.list (ys.map .str)) = true) {x : Str} (hx : Sk x) : memq S (.str x) (.ref l) = some (decide (x ∈ ys)) := by
  simp only [memq, tupOf, lst_ref h, toP, toPs_strs 38 ys, shp_str hx, hs, and_self, ↓reduceIte, List.any_map, Option.some.injEq]
  induction ys with
  | nil => rfl
  | cons y ys ih =>
    rw [List.any_cons]
    have : (ys.any ((fun z => z.eqv (PyData.str x)) ∘ PyData.str)) = decide (x ∈ ys) := by
      clear ih h hs
      induction ys with
      | nil => rfl
      | cons z ys ih => rw [List.any_cons, ih]; simp [PyData.eqv, beqD, List.mem_cons, eq_comm]
    rw [this]
    simp [PyData.eqv, beqD, List.mem_cons, eq_comm]
/-- a text in a row of texts -/
theorem mem_tstrs (ys : List Str) (x : Str) : memq S (.str x) (.tup (ys.map .str)) = some (decide (x ∈ ys)) := by
  have h1 : (ys.map Dv.str).all flatD = true := by simp [List.all_map, flatD]
  simp only [memq, tupOf, h1, flatD, and_self, ↓reduceIte, Option.some.injEq]
  clear h1
  induction ys with
  | nil => rfl
  | cons y ys ih => rw [List.map_cons, List.any_cons, ih]; simp [eqF, beqD, List.mem_cons, eq_comm]
theorem strlen_app (a b : Str) : (a ++ b).length = a.length + b.length := by
  show (a.cps ++ b.cps).size = _
  rw [Array.size_append]; rfl
theorem str_app (a b : Str) : (a ++ b).cps.toList = a.cps.toList ++ b.cps.toList := by
  show (a.cps ++ b.cps).toList = _
  rw [Array.toList_append]
theorem strlen_toList (a : Str) : a.cps.toList.length = a.length := by
  show _ = a.cps.size
  rw [Array.length_toList]
theorem add_str {a b : Str} (h : a.length + b.length ≤ sizeLine) : addD (.str a) (.str b) S = .ok (.str (a ++ b)) S := by simp only [addD, h, ↓reduceIte]
theorem idx_smod {x : Str} {n : Int} (hx : (x.length : Int) = n) (h0 : 0 < n) (hl : x.length ≤ sizeLine) (i : Int) : ∃ c ∈ x.cps.toList, idxD (.str x) (.int (i % n)) S = .ok (.str ⟨#[c]⟩) S := by
  obtain ⟨c, hc, e⟩ := atI_mod (xs := x.cps.toList) (by intro z; have := strlen_toList x; rw [z] at this; simp at this; omega) i
  rw [strlen_toList, hx] at e
  exact ⟨c, hc, by simp only [idxD, hl, ↓reduceIte, e]⟩
end

/-! ### the law's names -/
def abc : Str := "abcdefghijklmnopqrstuvwxyz"
def takenW : List Str := ["start", "rule", "row", "mix", "many", "any", "kind", "not", "both", "either", "way", "mark"]
structure NameOk (x : Str) : Prop where
  len : 1 ≤ x.length ∧ x.length ≤ 8
  low : ∀ c ∈ x.cps.toList, c ∈ abc.cps.toList
  free : x ∉ takenW
noncomputable def nameB : RC := cSeq (cSet 5 (eBin addD (eBin addD (eBin fdivD (eVar 0) (eCon (.int 208))) (eBin mulD (eBin mulD (eCon (.int 7)) (eVar 3)) (eVar 3))) (eBin mulD (eBin modD (eBin fdivD (eVar 0) (eCon (.int 5408))) (eCon (.int 26))) (eVar 3)))) (cSet 2 (eBin addD (eVar 2) (eBin idxD (eVar 1) (eBin modD (eVar 5) (eCon (.int 26))))))
noncomputable def nameC : RC := cSeq (cSet 1 (eCon (.str "abcdefghijklmnopqrstuvwxyz"))) (cSeq (cSet 2 (eBin idxD (eVar 1) (eBin modD (eVar 0) (eCon (.int 26))))) (cSeq (cFor (iRange rng1 (aCons (eBin modD (eBin fdivD (eVar 0) (eCon (.int 26))) (eCon (.int 8))) (aNil))) (.nm 3) nameB) (cSeq (cSet 4 (eLst (aCons (eCon (.str "start")) (aCons (eCon (.str "rule")) (aCons (eCon (.str "row")) (aCons (eCon (.str "mix")) (aCons (eCon (.str "many")) (aCons (eCon (.str "any")) (aCons (eCon (.str "kind")) (aCons (eCon (.str "not")) (aCons (eCon (.str "both")) (aCons (eCon (.str "either")) (aCons (eCon (.str "way")) (aCons (eCon (.str "mark")) (aNil))))))))))))))) (cSeq (cIf (cBl (eBin inD (eVar 2) (eVar 4))) (cRet (eBin addD (eVar 2) (eCon (.str "z")))) (cNil)) (cRet (eVar 2))))))
theorem abc_lt : ∀ c ∈ abc.cps.toList, c < 1114112 := by
  have : abc.cps.toList.all (fun c => decide (c < 1114112)) = true := by decide +kernel
  intro c hc
  exact of_decide_eq_true (List.all_eq_true.mp this c hc)
theorem NameOk.sk {x : Str} (h : NameOk x) : Sk x := sk_of fun c hc => abc_lt c (h.low c hc)
theorem log26 : (26 : Int).natAbs.log2 < 9000 := by have := Nat.log2_le_self 26; show Nat.log2 26 < 9000; omega
theorem log_lt {n : Nat} (h : n < 9000) : (n : Int).natAbs.log2 < 9000 := by have := Nat.log2_le_self n; show Nat.log2 n < 9000; omega
theorem fdiv_lit {S : Sto} {i : Int} {n : Nat} (h0 : 0 < n) (h : n < 9000) : fdivD (.int i) (.int (n : Int)) S = .ok (.int (i / n)) S := by
  simp only [fdivD]
  rw [if_pos ⟨by omega, log_lt h⟩]
theorem mod_pos {S : Sto} {i j : Int} (h0 : 0 < j) : modD (.int i) (.int j) S = .ok (.int (i % j)) S := by simp only [modD, h0, ↓reduceIte]
theorem mul_l {S : Sto} {i j : Int} (h : -2 ^ 64 < i ∧ i < 2 ^ 64) : mulD (.int i) (.int j) S = .ok (.int (i * j)) S := by
  simp only [mulD]
  rw [if_pos (show CMul i j from Or.inl h)]
theorem mul_r {S : Sto} {i j : Int} (h : -2 ^ 64 < j ∧ j < 2 ^ 64) : mulD (.int i) (.int j) S = .ok (.int (i * j)) S := by
  simp only [mulD]
  rw [if_pos (show CMul i j from Or.inr h)]
theorem fdiv_sm {S : Sto} {i j : Int} (h0 : 0 < j) (h : j < 9000) : fdivD (.int i) (.int j) S = .ok (.int (i / j)) S := by
  obtain ⟨n, rfl⟩ := Int.eq_ofNat_of_zero_le (Int.le_of_lt h0)
  exact fdiv_lit (by omega) (by omega)
theorem mul_sm {S : Sto} {i j : Int} (h : -10000000 < i) (h2 : i < 10000000) : mulD (.int i) (.int j) S = .ok (.int (i * j)) S := mul_l (by omega)
theorem mul_smr {S : Sto} {i j : Int} (h : -10000000 < j) (h2 : j < 10000000) : mulD (.int i) (.int j) S = .ok (.int (i * j)) S := mul_r (by omega)
theorem name_run {S : Sto} {d : Int} (h0 : 0 ≤ d) : ∃ (x : Str) (S' : Sto), runF nameC 6 1 [.int d] S = .ok (.str x) S' ∧ Gr S S' ∧ NameOk x := by
  have hab : ((abc.length : Nat) : Int) = 26 := by decide
  have habl : abc.length ≤ sizeLine := by show (26 : Nat) ≤ 2 ^ 24; omega
  have fd (n : Nat) (h0 : 0 < n) (h : n < 9000) (i : Int) (S : Sto) := fdiv_lit (S := S) (i := i) h0 h
  obtain ⟨c1, hc1, e1⟩ := idx_smod (S := S) hab (by omega) habl d
  have hm0 := Int.emod_nonneg (d / 26) (b := 8) (by omega)
  have hm1 := Int.emod_lt_of_pos (d / 26) (b := 8) (by omega)
  refine (loop_all (ck := Ck.tt.ok) (t := .nm 3) (b := nameB) (S := S) (ρ := [some (.int d), some (.str abc), some (.str ⟨#[c1]⟩), none, none, none])
    (fun i ρ S' => ∃ (v3 v5 : Option Dv) (x : Str), ρ = [some (.int d), some (.str abc), some (.str x), v3, none, v5] ∧ S' = S ∧ x.length = 1 + i ∧ ∀ c ∈ x.cps.toList, c ∈ abc.cps.toList) (rangeL 0 (d / 26 % 8))
    ⟨none, none, _, rfl, rfl, rfl, by intro c hc; simp at hc; subst hc; exact hc1⟩ ?_ (fun _ _ _ => trivial)).elim fun ρ' ⟨S', e, v3, v5, x, hρ, hS, h1, h2⟩ => ?_
  · rintro i v ρ S1 hv ⟨v3, v5, x, rfl, rfl, h1, h2⟩
    obtain ⟨rfl, hlt⟩ := rangeL_get hv
    refine ⟨trivial, _, rfl, ?_⟩
    have hi : (0 : Int) + i < 8 := by omega
    obtain ⟨c2, hc2, e2⟩ := idx_smod (S := S1) hab (by omega) habl (d / 208 + 7 * (0 + i) * (0 + i) + d / 5408 % 26 * (0 + i))
    have hx : x.length + Str.length ⟨#[c2]⟩ ≤ sizeLine := by
      show x.length + 1 ≤ 2 ^ 24
      omega
    refine ⟨[some (.int d), some (.str abc), some (.str (x ++ ⟨#[c2]⟩)), some (.int (0 + i)), none, some (.int (d / 208 + 7 * (0 + i) * (0 + i) + d / 5408 % 26 * (0 + i)))], S1, .inl ?_, _, _, _, rfl, rfl, ?_, ?_⟩
    · have f1 : fdivD (.int d) (.int 208) S1 = .ok (.int (d / 208)) S1 := fdiv_lit (n := 208) (by omega) (by omega)
      have f2 : fdivD (.int d) (.int 5408) S1 = .ok (.int (d / 5408)) S1 := fdiv_lit (n := 5408) (by omega) (by omega)
      have f3 : mulD (.int 7) (.int (0 + i)) S1 = .ok (.int (7 * (0 + i))) S1 := mul_l (by omega)
      have f4 : mulD (.int (7 * (0 + i))) (.int (0 + i)) S1 = .ok (.int (7 * (0 + i) * (0 + i))) S1 := mul_r (by omega)
      have f5 : mulD (.int (d / 5408 % 26)) (.int (0 + i)) S1 = .ok (.int (d / 5408 % 26 * (0 + i))) S1 := mul_r (by omega)
      have f6 : modD (.int (d / 5408)) (.int 26) S1 = .ok (.int (d / 5408 % 26)) S1 := mod_pos (by omega)
      have f7 : modD (.int (d / 208 + 7 * (0 + i) * (0 + i) + d / 5408 % 26 * (0 + i))) (.int 26) S1 = _ := mod_pos (by omega)
      simp only [nameB, ev_seq, ev_set, ev_bin, ev_var, ev_con, List.getElem?_cons_zero, List.getElem?_cons_succ, List.set_cons_zero, List.set_cons_succ, Out.bind_ok, bindS_ok, f1, f2, f3, f4, f5, f6, f7, addD, e2, hx, ↓reduceIte]
    · rw [strlen_app, h1]; show 1 + i + 1 = _; omega
    · intro c hc
      rw [str_app] at hc
      rcases List.mem_append.mp hc with hc | hc
      · exact h2 c hc
      · simp at hc; subst hc; exact hc2
  · subst hρ hS
    rw [rangeL_len] at h1
    have hlen : x.length ≤ 8 := by omega
    have hsk : Sk x := sk_of fun c hc => abc_lt c (h2 c hc)
    have hin : memq (S' ++ [.lst (takenW.map .str)]) (.str x) (.ref S'.length) = some (decide (x ∈ takenW)) := mem_strs (at_new _ _) (by decide +kernel) hsk
    have g : Gr S' (S' ++ [.lst (takenW.map .str)]) := gr_app _ _
    have f1 : fdivD (.int d) (.int 26) S' = .ok (.int (d / 26)) S' := fdiv_lit (n := 26) (by omega) (by omega)
    have f2 : modD (.int (d / 26)) (.int 8) S' = .ok (.int (d / 26 % 8)) S' := mod_pos (by omega)
    have f3 : modD (.int d) (.int 26) S' = .ok (.int (d % 26)) S' := mod_pos (by omega)
    have r1 := rng1_of hm0 (by omega)
    have s12 : (takenW.map Dv.str).length ≤ sizeLine := by show (12 : Nat) ≤ 2 ^ 24; omega
    have et : ([.str "start", .str "rule", .str "row", .str "mix", .str "many", .str "any", .str "kind", .str "not", .str "both", .str "either", .str "way", .str "mark"] : List Dv) = takenW.map .str := rfl
    have ea : ("abcdefghijklmnopqrstuvwxyz" : Str) = abc := rfl
    by_cases ht : x ∈ takenW
    · have hz : ∀ t ∈ takenW, NameOk (t ++ "z") := by
        have : takenW.all (fun t => decide (1 ≤ (t ++ ("z" : Str)).length ∧ (t ++ ("z" : Str)).length ≤ 8) && (t ++ ("z" : Str)).cps.toList.all (fun c => decide (c ∈ abc.cps.toList)) && decide ((t ++ ("z" : Str)) ∉ takenW)) = true := by decide +kernel
        intro t ht
        have := List.all_eq_true.mp this t ht
        simp only [Bool.and_eq_true, decide_eq_true_eq, List.all_eq_true] at this
        exact ⟨this.1.1, this.1.2, this.2⟩
      have hzl : x.length + Str.length "z" ≤ sizeLine := by show x.length + 1 ≤ 2 ^ 24; omega
      refine ⟨x ++ "z", _, runF_rt (ρ := [some (.int d), none, none, none, none, none]) rfl rfl ?_, g, hz x ht⟩
      simp only [nameC, ev_seq, ev_set, ev_con, ev_bin, ev_var, ev_for, ev_irange, ev_acons, ev_anil, ev_lst, ev_cif, ev_cbl, ev_btrue, ev_ret, List.getElem?_cons_zero, List.getElem?_cons_succ, List.set_cons_zero, List.set_cons_succ, Out.bind_ok, bindS_ok, f1, f2, f3, ea, e1, r1, e, et, s12, inD, hin, ht, decide_true, ↓reduceIte, addD, hzl]
    · refine ⟨x, _, runF_rt (ρ := [some (.int d), none, none, none, none, none]) rfl rfl ?_, g, ⟨⟨by omega, hlen⟩, h2, ht⟩⟩
      simp only [nameC, ev_seq, ev_set, ev_con, ev_bin, ev_var, ev_for, ev_irange, ev_acons, ev_anil, ev_lst, ev_cif, ev_cbl, ev_btrue, ev_ret, ev_nil, List.getElem?_cons_zero, List.getElem?_cons_succ, List.set_cons_zero, List.set_cons_succ, Out.bind_ok, bindS_ok, f1, f2, f3, ea, e1, r1, e, et, s12, inD, hin, ht, decide_false, Bool.false_eq_true, ↓reduceIte]
end PL
namespace PL
open PySem PySem.Spec PyProof.Rows L2
/-! ### a module's constant rows -/
def cV : Value → Option Dv
  | .none => some .non
  | .bool b => some (.bl b)
  | .int i _ => some (.int i)
  | .str x _ => some (.str x)
  | _ => none
def vV : Value → V
  | .bool b => .bl b
  | .int i _ => .int i
  | .str x _ => .str x
  | _ => .non
def Cst (its : List Value) (k : Dv) : Prop := ∃ ds, k = .kt ds ∧ its.map cV = ds.map some ∧ Nat.ble its.length 16777216 = true
theorem cst_rep {K : PySem.W.Frag} {μ : List Addr} {H : Hp} {a : Addr} {od : Option Addr} {its : Array Value} {n : Nat} {sl : Array (Option Value)} {k : Dv} (w : K.lookup a = some ⟨.type "tuple", od, .seq its n, sl⟩) (u : Cst its.toList k) : Rep K μ H (.ref a) k := by
  obtain ⟨ds, rfl, e, hl⟩ := u
  have hlen : its.toList.length = ds.length := by have := congrArg List.length e; simpa using this
  have key : ∀ (xs : List Value) (ds : List Dv), xs.map cV = ds.map some → Vals (xs.map vV) xs ∧ ∀ (i : Nat) (v : V) (d : Dv), (xs.map vV)[i]? = some v → ds[i]? = some d → Rep K μ H v d := by
    intro xs
    induction xs with
    | nil => intro ds e; exact ⟨.nil, fun i v d h => by simp at h⟩
    | cons x xs ih =>
      intro ds e
      cases ds with
      | nil => simp at e
      | cons d ds =>
        simp only [List.map_cons, List.cons.injEq] at e
        obtain ⟨h1, h2⟩ := ih ds e.2
        have hx : L2.RelV (vV x) x ∧ Rep K μ H (vV x) d := by
          have e1 := e.1
          cases x <;> simp only [cV, Option.some.injEq] at e1 <;> first | cases e1 | skip
          · exact ⟨rfl, .non⟩
          · exact ⟨rfl, .bl _⟩
          · exact ⟨⟨_, rfl⟩, .int _⟩
          · exact ⟨⟨_, rfl⟩, .str _⟩
        refine ⟨.cons hx.1 h1, fun i v d' hv hd => ?_⟩
        cases i with
        | zero => simp at hv hd; subst hv; subst hd; exact hx.2
        | succ i => exact h2 i v d' (by simpa using hv) (by simpa using hd)
  obtain ⟨h1, h2⟩ := key _ _ e
  exact .kt ⟨_, its, n, w, rfl, rfl, by have := Nat.le_of_ble_eq_true hl; rw [Array.length_toList] at this; exact this, h1⟩ (by simpa using hlen) h2
theorem rel_str {x : Str} {t : Tok} : L2.RelV (.str x) (.str x t) := ⟨_, rfl⟩
theorem rel_int {x : Int} {t : Tok} : L2.RelV (.int x) (.int x t) := ⟨_, rfl⟩
end PL

namespace PL
open PySem PySem.Spec PyProof.Rows L2

/-! ### sources that are lists or tuples: zip and enumerate over either kind -/
def Sq (K : PySem.W.Frag) (l : Bool) (H : Hp) (a : Addr) (vs : List V) : Prop := match l with
  | true => SqL K H a vs
  | false => SqT K H a vs
def Pn (l : Bool) (h : Heap) (a : Addr) (its : Array Value) : Prop := match l with
  | true => h.IsList a its
  | false => h.IsTuple a its
def Cur (l : Bool) (h : Heap) (it a : Addr) (i : Nat) : Prop := match l with
  | true => h.IsListIter it a i
  | false => h.IsTupleIter it a i
def itO (l : Bool) (a : Addr) : Obj := match l with
  | true => { cls := .type "list_iterator", data := .fields #[.ref a, .int 0 0] }
  | false => { cls := .type "tuple_iterator", data := .fields #[.ref a, .int 0 0] }
section
variable {X : Cx} {pins : List (Addr × Obj)} {σ : L2.St} {H : Hp} {s : Shared} {a : Addr} {vs us : List V} {l : Bool}
theorem sq_read (I : Inv X pins σ H s) (q : Sq X.K l H a vs) : ∃ its : List Value, Vals vs its ∧ Pn l s.heap a its.toArray := by
  cases l with
  | true => obtain ⟨its, r, p, _⟩ := I.list q; exact ⟨its, r, p.isList⟩
  | false => obtain ⟨its, r, p, _⟩ := I.tuple q; exact ⟨its, r, p⟩
theorem sq_inj (I : Inv X pins σ H s) (q : Sq X.K l H a vs) (q' : Sq X.K l H a us) : vs = us := by
  cases l with
  | true => exact I.list_inj q q'
  | false => exact I.tuple_inj q q'
theorem pn_lt {h : Heap} {its : Array Value} (p : Pn l h a its) : a < h.objs.size := by
  cases l with
  | true => obtain ⟨o, e, _⟩ := p; exact Heap.lt_size e
  | false => obtain ⟨o, e, _⟩ := p; exact Heap.lt_size e
theorem cur_obj {h : Heap} {it : Addr} {i : Nat} (c : Cur l h it a i) : ∃ o, h.get? it = some o ∧ ∀ v, o.data ≠ .cell v := by
  cases l with
  | true => obtain ⟨o, e, _, d⟩ := c; exact ⟨o, e, fun v z => by rw [d] at z; cases z⟩
  | false => obtain ⟨o, e, _, d⟩ := c; exact ⟨o, e, fun v z => by rw [d] at z; cases z⟩
theorem cur_at {h h' : Heap} {it : Addr} {i : Nat} (c : Cur l h it a i) (k : ∀ o, h.get? it = some o → h'.get? it = some o) : Cur l h' it a i := by
  cases l with
  | true => exact Heap.IsListIter.at c k
  | false => exact Heap.IsTupleIter.at c k
theorem pn_at {h h' : Heap} {its : Array Value} (c : Pn l h a its) (k : ∀ o, h.get? a = some o → h'.get? a = some o) : Pn l h' a its := by
  cases l with
  | true => exact Heap.IsList.at c k
  | false => exact Heap.IsTuple.at c k
theorem cur_new {h : Heap} {it : Addr} (e : h.get? it = some (itO l a)) : Cur l h it a 0 := by
  cases l with
  | true => exact ⟨_, e, rfl, rfl⟩
  | false => exact ⟨_, e, rfl, rfl⟩
theorem pn_draws {prog : Program} {w : World} {A : Around} (hh : A.handled = none) (it : Addr) (ne : a ≠ it) (its : Array Value) :
    Draws prog w A it [it, a] its.size (fun i v => its[i]? = some v) (fun i h => Cur l h it a i ∧ Pn l h a its) := by
  cases l with
  | true => exact Draws.list hh it a ne its
  | false => exact Draws.tuple hh it a ne its
theorem pn_begins (its : Array Value) : Begins (.ref a) (itO l a) (fun h => Pn l h a its) := by
  cases l with
  | true => exact begins_list a its
  | false => exact begins_tuple a its
end
/-- the items of two sources, side by side -/
def Jz (K : PySem.W.Frag) (l1 l2 : Bool) (a b : Addr) : It :=
  ⟨fun i H => ∃ vs us x y, Sq K l1 H a vs ∧ Sq K l2 H b us ∧ vs[i]? = some x ∧ us[i]? = some y,
    fun i H v H' => ∃ T x y, v = .ref T ∧ H T = none ∧ H' = upd H T (.tup [x, y]) ∧ (∀ vs, Sq K l1 H a vs → vs[i]? = some x) ∧ (∀ us, Sq K l2 H b us → us[i]? = some y),
    fun i H => ∃ vs us, Sq K l1 H a vs ∧ Sq K l2 H b us ∧ i ≤ vs.length ∧ i ≤ us.length ∧ (i = vs.length ∨ i = us.length)⟩
theorem turn_jz {P : Program} {w : World} {K : PySem.W.Frag} {elts : List Expr} {kk : Nat} {tpos : Pos} {l1 l2 : Bool} {a b z TI TO i1 i2 : Addr} (D : ZipSep2 z TI TO i1 i2 [i1, a] [i2, b]) (na : a ≠ i1) (nb : b ≠ i2) :
    Turn P w K (.Tuple elts kk tpos) (Jz K l1 l2 a b) [z, TI, TO, i1, i2] z (fun i h => IsZip h z TI TO .none ∧ IsTupOf2 h TI (.ref i1) (.ref i2) ∧ (∃ x y, IsTupOf2 h TO x y) ∧ Cur l1 h i1 a i ∧ Cur l2 h i2 b i) := by
  have sp : ∀ {c : Addr}, c ∈ [z, TI, TO, i1, i2] → c = z ∨ c = TI ∨ c = TO ∨ c = i1 ∨ c = i2 := fun h => by simpa using h
  refine ⟨by simp, ?_, ?_, ?_, ?_, fun A i s Q E st hQ => wpAny_pyIter_zip st.1 hQ⟩
  · rintro i h ⟨e1, e2, ⟨_, _, e3⟩, e4, e5⟩ c hc
    rcases sp hc with rfl | rfl | rfl | rfl | rfl
    · exact ⟨_, e1, fun v z => nomatch z⟩
    · exact ⟨_, e2, fun v z => nomatch z⟩
    · exact ⟨_, e3, fun v z => nomatch z⟩
    · exact cur_obj e4
    · exact cur_obj e5
  · rintro i h h' ⟨e1, e2, ⟨x, y, e3⟩, e4, e5⟩ kp
    exact ⟨kp z (by simp) _ e1, kp TI (by simp) _ e2, ⟨x, y, kp TO (by simp) _ e3⟩, cur_at e4 (kp i1 (by simp)), cur_at e5 (kp i2 (by simp))⟩
  · intro X hP hw hK hc i pins s σ H E I hf ⟨e1, e2, ⟨x0, y0, e3⟩, e4, e5⟩ ⟨vs, us, x, y, q1, q2, g1, g2⟩
    subst hP hw hK
    obtain ⟨its, r1, p1⟩ := sq_read I q1
    obtain ⟨jts, r2, p2⟩ := sq_read I q2
    obtain ⟨u1, hu1, ru1⟩ := r1.get g1
    obtain ⟨u2, hu2, ru2⟩ := r2.get g2
    have lt1 : i < its.toArray.size := by rw [List.size_toArray]; exact (List.getElem?_eq_some_iff.mp hu1).1
    have lt2 : i < jts.toArray.size := by rw [List.size_toArray]; exact (List.getElem?_eq_some_iff.mp hu2).1
    have hh : X.A.handled = none := I.ok.hd hc
    have D1 := pn_draws (prog := X.prog) (w := X.w) (A := X.A.in1) (l := l1) hh i1 na its.toArray
    have D2 := pn_draws (prog := X.prog) (w := X.w) (A := X.A.in1) (l := l2) hh i2 nb jts.toArray
    refine wpAny_pyNext_zipD2_item D D1 D2 e1 e2 e3 ⟨e4, p1⟩ ⟨e5, p2⟩ lt1 lt2 fun w1 w2 h' tk a1 a2 z' t' st1 st2 tn _ kp => ?_
    have w1e : w1 = u1 := by have := a1.symm.trans (show its.toArray[i]? = some u1 by simpa using hu1); exact Option.some.inj this
    have w2e : w2 = u2 := by have := a2.symm.trans (show jts.toArray[i]? = some u2 by simpa using hu2); exact Option.some.inj this
    subst w1e w2e
    refine ⟨_, rfl, wpAny_letOwnedTupleGo_zip (s := { s with heap := h', toks := tk }) z' fun h2 z2 sb => ?_⟩
    have zl : z < s.heap.objs.size := Heap.lt_size e1
    have tn2 : h2.get? s.heap.objs.size = some { cls := .type "tuple", data := .seq #[w1, w2] } := (sb.2 _ (Nat.ne_of_gt zl)).trans tn
    have ok : ObjOk X.prog X.w (upd H s.heap.objs.size (.tup [x, y])) h2 s.heap.objs.size (.tup [x, y]) := ⟨show 2 ≤ 2 ^ 24 by omega, [w1, w2], .cons ru1 (.cons ru2 .nil), ⟨_, tn2, rfl, _, rfl⟩⟩
    have I2 : Inv X pins σ (upd H s.heap.objs.size (.tup [x, y])) { s with heap := h2, toks := tk } :=
      I.turnedNew (t' := tk) (ch := [z, TI, TO, i1, i2]) (fun c o hn q => by
        have n1 : c ≠ z := fun e => hn (by simp [e])
        exact (sb.2 c n1).trans (kp c o n1 (fun e => hn (by simp [e])) (fun e => hn (by simp [e])) (fun e => hn (by simp [e])) q)) hf (Nat.le_refl _) ok
    refine ⟨.ref s.heap.objs.size, _, I2, rfl, ⟨_, x, y, rfl, I.hok.fresh (Nat.le_refl _), rfl, fun ws q => by rw [sq_inj I q q1]; exact g1, fun ws q => by rw [sq_inj I q q2]; exact g2⟩, ⟨z2, ?_, ⟨w1, w2, ?_⟩, ?_, ?_⟩, fun c hcm => ?_⟩
    · exact (sb.2 _ D.TIz).trans (kp TI _ D.TIz D.TITO D.TIi1 D.TIi2 e2)
    · exact (sb.2 _ D.TOz).trans t'
    · exact cur_at st1.1 fun o q => (sb.2 _ (Ne.symm D.zi1)).trans q
    · exact cur_at st2.1 fun o q => (sb.2 _ (Ne.symm D.zi2)).trans q
    · have hlt : c < s.heap.objs.size := by
        rcases sp hcm with rfl | rfl | rfl | rfl | rfl
        · exact zl
        · exact Heap.lt_size e2
        · exact Heap.lt_size e3
        · obtain ⟨o, q, _⟩ := cur_obj e4; exact Heap.lt_size q
        · obtain ⟨o, q, _⟩ := cur_obj e5; exact Heap.lt_size q
      rw [upd_ne (Nat.ne_of_lt hlt)]
      exact (hf c hcm).1
  · intro X hP hw hK hc i pins s σ H E I hf ⟨e1, e2, ⟨x0, y0, e3⟩, e4, e5⟩ ⟨vs, us, q1, q2, le1, le2, he⟩
    subst hP hw hK
    obtain ⟨its, r1, p1⟩ := sq_read I q1
    obtain ⟨jts, r2, p2⟩ := sq_read I q2
    have s1 : its.toArray.size = vs.length := by rw [List.size_toArray]; exact r1.length.symm
    have s2 : jts.toArray.size = us.length := by rw [List.size_toArray]; exact r2.length.symm
    have hh : X.A.handled = none := I.ok.hd hc
    have D1 := pn_draws (prog := X.prog) (w := X.w) (A := X.A.in1) (l := l1) hh i1 na its.toArray
    have D2 := pn_draws (prog := X.prog) (w := X.w) (A := X.A.in1) (l := l2) hh i2 nb jts.toArray
    exact wpAny_pyNext_zipD2_end D D1 D2 e1 e2 e3 ⟨e4, p1⟩ ⟨e5, p2⟩ (by omega) (by omega) (by omega) fun h' tk kp => ⟨rfl, I.turnedL (t' := tk) (ch := [z, TI, TO, i1, i2]) (fun c o hn q =>
      kp c o (fun e => hn (by simp [e])) (fun e => hn (by simp [e])) (fun e => hn (by simp [e])) (fun e => hn (by simp [e])) q) hf⟩
def tJz (K : PySem.W.Frag) (ta : TA) : TI := fun σ H R => ta σ H fun vs H1 => ∃ l1 l2 a b xs ys, vs = [.ref a, .ref b] ∧ Sq K l1 H1 a xs ∧ Sq K l2 H1 b ys ∧ R (Jz K l1 l2 a b) H1
theorem pi_jz {X : Cx} {e e2 : Expr} {ta : TA} {p pos tpos : Pos} {elts : List Expr} {kk : Nat} (hg : Gl X "zip") (hm : X.mg "zip" = none) (ha : PA X [e, e2] ta)
    (hs : starEach [e, e2] X.env = (false, eval e X.env) :: starEach [e2] X.env := by rfl) (hpl : (backTo pos (starEach [e2] X.env)).any (·.1) = false := by rfl) :
    PI X (.Tuple elts kk tpos) (.Call (.Name "zip" p) [e, e2] [] pos) (tJz X.K ta) := by
  refine ⟨fun pins s σ H R I h => Call_ (ld_blt I hg hm PyProof.Rows.boot_zip (PyProof.Rows.callWith_type1 (thn (ha.run pos pins s σ H _ I h) ?_) hs hpl))⟩
  rintro us s1 ⟨vs, H1, I1, r1, l1, l2, a, b, xs, ys, rfl, q1, q2, hR⟩
  match us, r1 with
  | _, .cons (b := ua) ra (.cons (b := ub) rb .nil) =>
    obtain rfl : ua = .ref a := ra
    obtain rfl : ub = .ref b := rb
    obtain ⟨its, _, p1⟩ := sq_read I1 q1
    obtain ⟨jts, _, p2⟩ := sq_read I1 q2
    refine zip_begins2 (pn_begins its.toArray) (pn_begins jts.toArray) p1 p2 fun h' e1 e2 e3 e4 e5 _ kp => wpAny_pyIter_zip e1 ?_
    have I2 : Inv X pins σ H1 { s1 with heap := h' } := I1.kept (t' := s1.toks) kp
    have D := zip_sep2 (N := s1.heap.objs.size) (fp1 := [a]) (fp2 := [b]) (fun c hc => by simp at hc; subst hc; exact pn_lt p1) (fun c hc => by simp at hc; subst hc; exact pn_lt p2)
    refine ⟨_, _, _, _, H1, rfl, I2, turn_jz (l1 := l1) (l2 := l2) D (Nat.ne_of_lt (pn_lt p1)) (Nat.ne_of_lt (Nat.lt_succ_of_lt (pn_lt p2))), ⟨e1, e2, ⟨_, _, e3⟩, cur_new e4, cur_new e5⟩, fun c hc => ?_, hR⟩
    have hle : s1.heap.objs.size ≤ c := by
      have : c = s1.heap.objs.size + 4 ∨ c = s1.heap.objs.size + 2 ∨ c = s1.heap.objs.size + 3 ∨ c = s1.heap.objs.size ∨ c = s1.heap.objs.size + 1 := by simpa using hc
      rcases this with z | z | z | z | z
      all_goals rw [z]
      all_goals first | exact Nat.le_refl _ | exact Nat.le_add_right _ _
    exact I1.fpOk hle (I1.hok.fresh hle)

/-! ### the rules -/
section
variable {K : PySem.W.Frag} {mg : Str → Option Value} {W : WX} {μ μ1 : List Addr} {H H1 : Hp} {S S1 : Sto} {σ : L2.St} {ρ : Env}
theorem src_keep {v : V} {d : Dv} {ds : List Dv} (hS : SimS K μ S H) (r : Rep K μ H v d) (e : seqOf S d = some ds) :
    ∃ l a vs, v = .ref a ∧ Sq K l H a vs ∧ ∀ μ' S' H', Step μ H μ' H' → SimS K μ' S' H' → (ckOf d ds).ok S' → ∃ ws, Sq K l H' a ws ∧ Reps K μ' H' ws ds := by
  unfold seqOf at e
  cases q : tupOf d with
  | some es =>
    rw [q] at e
    cases e
    obtain ⟨a, vs, rfl, rr, h1, h2⟩ := sqT_keep r q
    exact ⟨false, a, vs, rfl, h1, fun μ' S' H' st _ _ => ⟨vs, h2 μ' H' st, rr.step st⟩⟩
  | none =>
    rw [q] at e
    obtain ⟨a, vs, rfl, h1, h2⟩ := itr_list hS r e
    exact ⟨true, a, vs, rfl, h1, h2⟩
def zipL : List Dv → List Dv → List Dv
  | x :: xs, y :: ys => .tup [x, y] :: zipL xs ys
  | _, _ => []
theorem zipL_get : ∀ (xs ys : List Dv) (i : Nat) (d : Dv), (zipL xs ys)[i]? = some d → ∃ x y, xs[i]? = some x ∧ ys[i]? = some y ∧ d = .tup [x, y]
  | [], _, i, d, h => by simp [zipL] at h
  | x :: xs, [], i, d, h => by simp [zipL] at h
  | x :: xs, y :: ys, 0, d, h => by simp [zipL] at h; exact ⟨x, y, rfl, rfl, h.symm⟩
  | x :: xs, y :: ys, i + 1, d, h => by simpa using zipL_get xs ys i d (by simpa [zipL] using h)
theorem zipL_len : ∀ xs ys : List Dv, (zipL xs ys).length = min xs.length ys.length
  | [], ys => by simp [zipL]
  | x :: xs, [] => by simp [zipL]
  | x :: xs, y :: ys => by simp [zipL, zipL_len xs ys]
theorem itr_jz {a b : Addr} {l1 l2 : Bool} {ds es : List Dv} {c1 c2 : Ck} (h1 : ∀ μ' S' H', Step μ H μ' H' → SimS K μ' S' H' → c1.ok S' → ∃ ws, Sq K l1 H' a ws ∧ Reps K μ' H' ws ds)
    (h2 : ∀ μ' S' H', Step μ H μ' H' → SimS K μ' S' H' → c2.ok S' → ∃ ws, Sq K l2 H' b ws ∧ Reps K μ' H' ws es) : ItR K μ H (Jz K l1 l2 a b) (zipL ds es, .and c1 c2) := by
  intro μ' S' H' i st hS hck
  obtain ⟨vs, q1, r1⟩ := h1 μ' S' H' st hS hck.1
  obtain ⟨us, q2, r2⟩ := h2 μ' S' H' st hS hck.2
  refine ⟨fun e => ⟨vs, us, q1, q2, ?_⟩, fun d hd => ?_⟩
  · have e' : i = min ds.length es.length := by rw [e]; exact zipL_len ds es
    rw [r1.1, r2.1]; omega
  · obtain ⟨x, y, g1, g2, rfl⟩ := zipL_get ds es i d hd
    obtain ⟨v, hv, rv⟩ := r1.get g1
    obtain ⟨u, hu, ru⟩ := r2.get g2
    refine ⟨⟨vs, us, v, u, q1, q2, hv, hu⟩, ?_⟩
    rintro _ _ ⟨T, v', u', rfl, hT, rfl, f1, f2⟩
    have e1 := f1 vs q1
    have e2 := f2 us q2
    rw [hv] at e1; cases e1
    rw [hu] at e2; cases e2
    have rr : Reps K μ' H' [v, u] [x, y] := (Reps.one ru).cons rv
    exact ⟨step_lay hS hT _, hS.lay hT _, .tup ⟨upd_same, hS.fresh hT⟩ rr.1 (rr.step (step_lay hS hT _)).2⟩
end
def iZip (a : RA) : RI := fun ρ S => (a ρ S).bind fun ds S1 => match ds with
  | [d, e] => match seqOf S1 d, seqOf S1 e with
    | some xs, some ys => .ok (zipL xs ys, .and (ckOf d xs) (ckOf e ys)) S1
    | _, _ => .no
  | _ => .no
section
variable {X : Cx} {W : WX} {tg e e2 : Expr} {re : RE} {ra : RA} {p pos tpos : Pos} {elts : List Expr} {kk : Nat}
theorem si_zip (hg : Gl X "zip") (hm : X.mg "zip" = none) (ha : SA X W [e, e2] ra) (hs : starEach [e, e2] X.env = (false, eval e X.env) :: starEach [e2] X.env := by rfl) (hpl : (backTo pos (starEach [e2] X.env)).any (·.1) = false := by rfl) :
    SI X W (.Tuple elts kk tpos) (.Call (.Name "zip" p) [e, e2] [] pos) (iZip ra) :=
  PI.imp (pi_jz hg hm ha hs hpl) fun σ H R ⟨μ, ρ, S, hS, hE, h⟩ => by
    refine ⟨μ, ρ, S, hS, hE, ?_⟩
    unfold iZip at h
    cases q : ra ρ S with
    | no => rw [q] at h; exact h.elim
    | ex x S1 => rw [q] at h; exact h
    | ok ds S1 =>
      rw [q] at h
      simp only [Out.bind_ok] at h
      intro μ1 H1 vs a b r
      match ds, r, h with
      | [d, e], r, h =>
        obtain ⟨v, u, rfl, rv, ru⟩ := r.get2
        dsimp only at h
        cases q1 : seqOf S1 d with
        | none => rw [q1] at h; exact h.elim
        | some xs =>
          cases q2 : seqOf S1 e with
          | none => rw [q1, q2] at h; exact h.elim
          | some ys =>
            rw [q1, q2] at h
            obtain ⟨l1, a1, ws1, rfl, s1, k1⟩ := src_keep a rv q1
            obtain ⟨l2, a2, ws2, rfl, s2, k2⟩ := src_keep a ru q2
            exact ⟨l1, l2, a1, a2, ws1, ws2, rfl, s1, s2, h μ1 H1 _ a b (itr_jz k1 k2)⟩
      | [], r, h => exact h.elim
      | [_], r, h => exact h.elim
      | _ :: _ :: _ :: _, r, h => exact h.elim
end
end PL

namespace PL
open PySem PySem.Spec PyProof.Rows L2
/-! ### enumerate over a list or a tuple -/
def enO (it : Addr) : Obj := { cls := .type "enumerate", data := .fields #[.none, .bool false, .ref it, rawInt 0, .none, .none] }
theorem en_meets {v : Value} {it : Heap → Addr} {nx : Heap → Heap} {Hh : Heap → Prop}
    (B : ∀ (prog : Program) (w : World) (A : Around) (E : Value → Shared → Prop) (s : Shared) (Q : Value → Shared → Prop), Hh s.heap → Q (.ref (it s.heap)) { s with heap := nx s.heap } → wpAny (model prog w) A (pyIter v) Q E s) :
    Meets (Builtin.«enumerate.__new__» ⟨[.type "enumerate", v], []⟩) (fun _ R s => Hh s.heap ∧ R (.ok (.ret (.ref (nx s.heap).objs.size))) { s with heap := (nx s.heap).push (enO (it s.heap)) }) :=
  .of_wp fun prog w A R s h => by
    obtain ⟨hp, g, d, tk, os⟩ := s
    obtain ⟨h1, h⟩ := h
    have hsub := sub_enumerate
    have q1 : ∀ {A' : Around} {E : Value → Shared → Prop} {Q : Value → Shared → Prop}, Q (.ref (it hp)) ⟨nx hp, g, d, tk, os⟩ → wpAny (model prog w) A' (pyIter v) Q E ⟨hp, g, d, tk, os⟩ := fun q => B prog w _ _ ⟨hp, g, d, tk, os⟩ _ h1 q
    wp_walk using q1
    refine wpAny_stack_any fun st => wpAny_pure ?_
    split
    · rename_i c _ _ _ _ _
      cases (c == Value.type "enumerate") <;> (wp_walk using q1; exact ⟨_, rfl, h⟩)
    · wp_walk using q1
      exact ⟨_, rfl, h⟩

theorem en_call {prog : Program} {w : World} {A : Around} {E : Value → Shared → Prop} {s : Shared} {v : Value} {it : Heap → Addr} {nx : Heap → Heap} {Hh : Heap → Prop} {Q : Value → Shared → Prop}
    (B : ∀ (prog : Program) (w : World) (A : Around) (E : Value → Shared → Prop) (s : Shared) (Q : Value → Shared → Prop), Hh s.heap → Q (.ref (it s.heap)) { s with heap := nx s.heap } → wpAny (model prog w) A (pyIter v) Q E s) (h1 : Hh s.heap)
    (h : IsEnum ((nx s.heap).push (enO (it s.heap))) (nx s.heap).objs.size (it s.heap) 0 .none → Q (.ref (nx s.heap).objs.size) { s with heap := (nx s.heap).push (enO (it s.heap)) }) : wpAny (model prog w) A (call (.type "enumerate") [v]) Q E s := by
  refine callType_new F.called_enumerate (by decide) (F.typeCall_enumerate_1 _) (F.newCall_enumerate_1 _) (fun obj => F.args_object_init_2 obj _) F.entry_enumerate_new (en_meets B) ⟨h1, ?_⟩
  have he : IsEnum ((nx s.heap).push (enO (it s.heap))) (nx s.heap).objs.size (it s.heap) 0 .none := Heap.get?_push_size (nx s.heap) (o := enO (it s.heap)) rfl
  exact ⟨⟨_, he, rfl⟩, h he⟩
/-- numbered items -/
def Je (K : PySem.W.Frag) (l : Bool) (a : Addr) : It :=
  ⟨fun i H => ∃ vs x, Sq K l H a vs ∧ vs[i]? = some x,
    fun i H v H' => ∃ T x, v = .ref T ∧ H T = none ∧ H' = upd H T (.tup [.int (i : Nat), x]) ∧ (∀ vs, Sq K l H a vs → vs[i]? = some x),
    fun i H => ∃ vs, Sq K l H a vs ∧ i = vs.length⟩
theorem turn_je {P : Program} {w : World} {K : PySem.W.Frag} {elts : List Expr} {kk : Nat} {tpos : Pos} {l : Bool} {a e it : Addr} (ne : e ≠ it) (ni : a ≠ it) (na : a ≠ e) :
    Turn P w K (.Tuple elts kk tpos) (Je K l a) [e, it] e (fun i h => (∃ old, IsEnum h e it ((i : Nat) : Int) old) ∧ Cur l h it a i) := by
  have sp : ∀ {c : Addr}, c ∈ [e, it] → c = e ∨ c = it := fun h => by simpa using h
  have nf : e ∉ [it, a] := fun h => by
    simp only [List.mem_cons, List.not_mem_nil, or_false] at h
    exact h.elim ne fun z => na z.symm
  refine ⟨by simp, ?_, ?_, ?_, ?_, fun A i s Q E st hQ => let ⟨⟨_, e1⟩, _⟩ := st; wpAny_pyIter_enum e1 hQ⟩
  · rintro i h ⟨⟨old, e1⟩, e2⟩ c hc
    rcases sp hc with rfl | rfl
    · exact ⟨_, e1, fun v z => nomatch z⟩
    · exact cur_obj e2
  · rintro i h h' ⟨⟨old, e1⟩, e2⟩ kp
    exact ⟨⟨old, kp e (by simp) _ e1⟩, cur_at e2 (kp it (by simp))⟩
  · intro X hP hw hK hc i pins s σ H E I hf ⟨⟨old, e1⟩, e2⟩ ⟨vs, x, q1, g1⟩
    subst hP hw hK
    obtain ⟨its, r1, p1⟩ := sq_read I q1
    obtain ⟨u1, hu1, ru1⟩ := r1.get g1
    have lt1 : i < its.toArray.size := by rw [List.size_toArray]; exact (List.getElem?_eq_some_iff.mp hu1).1
    have hh : X.A.handled = none := I.ok.hd hc
    have D1 := pn_draws (prog := X.prog) (w := X.w) (A := X.A.in1) (l := l) hh it ni its.toArray
    refine wpAny_pyNext_enum_itemD D1 e1 ⟨e2, p1⟩ lt1 ne nf fun w1 h' tk a1 en st1 tn _ kp => ?_
    have w1e : w1 = u1 := Option.some.inj (a1.symm.trans (show its.toArray[i]? = some u1 by simpa using hu1))
    subst w1e
    refine ⟨_, rfl, wpAny_letOwnedTupleGo_enum (s := { s with heap := h', toks := tk + 1 }) en fun h2 en2 sb => ?_⟩
    have zl : e < s.heap.objs.size := Heap.lt_size e1
    have tn2 : h2.get? s.heap.objs.size = some { cls := .type "tuple", data := .seq #[.int i tk, w1] } := (sb.2 _ (Nat.ne_of_gt zl)).trans tn
    have ok : ObjOk X.prog X.w (upd H s.heap.objs.size (.tup [.int (i : Nat), x])) h2 s.heap.objs.size (.tup [.int (i : Nat), x]) := ⟨show 2 ≤ 2 ^ 24 by omega, [.int i tk, w1], .cons ⟨_, rfl⟩ (.cons ru1 .nil), ⟨_, tn2, rfl, _, rfl⟩⟩
    have I2 : Inv X pins σ (upd H s.heap.objs.size (.tup [.int (i : Nat), x])) { s with heap := h2, toks := tk + 1 } :=
      I.turnedNew (t' := tk + 1) (ch := [e, it]) (fun c o hn q => by
        have n1 : c ≠ e := fun z => hn (by simp [z])
        exact (sb.2 c n1).trans (kp c o n1 (fun z => hn (by simp [z])) q)) hf (Nat.le_refl _) ok
    refine ⟨.ref s.heap.objs.size, _, I2, rfl, ⟨_, x, rfl, I.hok.fresh (Nat.le_refl _), rfl, fun ws q => by rw [sq_inj I q q1]; exact g1⟩, ⟨⟨w1, ?_⟩, ?_⟩, fun c hcm => ?_⟩
    · rw [show ((i + 1 : Nat) : Int) = (i : Int) + 1 by omega]; exact en2
    · exact cur_at st1.1 fun o q => (sb.2 _ (Ne.symm ne)).trans q
    · have hlt : c < s.heap.objs.size := by
        rcases sp hcm with rfl | rfl
        · exact zl
        · obtain ⟨o, q, _⟩ := cur_obj e2; exact Heap.lt_size q
      rw [upd_ne (Nat.ne_of_lt hlt)]
      exact (hf c hcm).1
  · intro X hP hw hK hc i pins s σ H E I hf ⟨⟨old, e1⟩, e2⟩ ⟨vs, q1, he⟩
    subst hP hw hK
    obtain ⟨its, r1, p1⟩ := sq_read I q1
    have s1 : its.toArray.size = vs.length := by rw [List.size_toArray]; exact r1.length.symm
    have hh : X.A.handled = none := I.ok.hd hc
    have D1 := pn_draws (prog := X.prog) (w := X.w) (A := X.A.in1) (l := l) hh it ni its.toArray
    have st : Cur l s.heap it a its.toArray.size ∧ Pn l s.heap a its.toArray := ⟨by rw [s1, ← he]; exact e2, p1⟩
    exact wpAny_pyNext_enum_endD D1 e1 st fun h' kp => ⟨rfl, I.turnedL (t' := s.toks) (ch := [e, it]) (fun c o hn q => kp c o (fun z => hn (by simp [z])) q) hf⟩
def tJe (K : PySem.W.Frag) (ta : TA) : TI := fun σ H R => ta σ H fun vs H1 => ∃ l a xs, vs = [.ref a] ∧ Sq K l H1 a xs ∧ R (Je K l a) H1
theorem pi_je {X : Cx} {e : Expr} {ta : TA} {p pos tpos : Pos} {elts : List Expr} {kk : Nat} (hg : Gl X "enumerate") (hm : X.mg "enumerate" = none) (ha : PA X [e] ta) (hs : starEach [e] X.env = [(false, eval e X.env)] := by rfl) :
    PI X (.Tuple elts kk tpos) (.Call (.Name "enumerate" p) [e] [] pos) (tJe X.K ta) := by
  refine ⟨fun pins s σ H R I h => Call_ (ld_blt I hg hm boot_enumerate (PyProof.Rows.callWith_type1 (thn (ha.run pos pins s σ H _ I h) ?_) hs rfl))⟩
  rintro us s1 ⟨vs, H1, I1, r1, l, a, xs, rfl, q1, hR⟩
  match us, r1 with
  | _, .cons (b := ua) ra .nil =>
    obtain rfl : ua = .ref a := ra
    obtain ⟨its, _, p1⟩ := sq_read I1 q1
    have lt := pn_lt p1
    refine en_call (Hh := fun h => Pn l h a its.toArray) (it := fun h => h.objs.size) (nx := fun h => h.push (itO l a)) (pn_begins (l := l) (a := a) its.toArray).iter p1 fun e1 => wpAny_pyIter_enum e1 ?_
    have zs : (s1.heap.push (itO l a)).objs.size = s1.heap.objs.size + 1 := Heap.size_push ..
    have fr : (itO l a).isFreed = false := (pn_begins (l := l) (a := a) its.toArray).free
    have kp : ∀ c o, s1.heap.get? c = some o → ((s1.heap.push (itO l a)).push (enO s1.heap.objs.size)).get? c = some o := fun c o q => Heap.get?_push_of_some _ (Heap.get?_push_of_some _ q)
    have I2 : Inv X pins σ H1 { s1 with heap := (s1.heap.push (itO l a)).push (enO s1.heap.objs.size) } := I1.kept (t' := s1.toks) kp
    have n1 : (s1.heap.push (itO l a)).objs.size ≠ s1.heap.objs.size := by rw [zs]; exact Nat.succ_ne_self _
    have n2 : a ≠ (s1.heap.push (itO l a)).objs.size := by rw [zs]; exact Nat.ne_of_lt (Nat.lt_succ_of_lt lt)
    refine ⟨_, _, _, _, H1, rfl, I2, turn_je (l := l) n1 (Nat.ne_of_lt lt) n2, ⟨⟨.none, e1⟩, cur_new (Heap.get?_push_of_some _ (Heap.get?_push_size _ fr))⟩, fun c hc => ?_, hR⟩
    have hle : s1.heap.objs.size ≤ c := by
      have : c = (s1.heap.push (itO l a)).objs.size ∨ c = s1.heap.objs.size := by simpa using hc
      rcases this with z | z
      · rw [z, zs]; exact Nat.le_succ _
      · rw [z]; exact Nat.le_refl _
    exact I1.fpOk hle (I1.hok.fresh hle)
theorem itr_je {K : PySem.W.Frag} {μ : List Addr} {H : Hp} {a : Addr} {l : Bool} {ds : List Dv} {ck : Ck} (h : ∀ μ' S' H', Step μ H μ' H' → SimS K μ' S' H' → ck.ok S' → ∃ ws, Sq K l H' a ws ∧ Reps K μ' H' ws ds) : ItR K μ H (Je K l a) (enumL ds, ck) := by
  intro μ' S' H' i st hS hck
  obtain ⟨ws, q, r⟩ := h μ' S' H' st hS hck
  refine ⟨fun e => ⟨ws, q, by rw [r.1, e]; exact enumL_len ds 0⟩, fun d hd => ?_⟩
  have hd' : (enumL ds)[i]? = some d := hd
  rw [enumL_get, Option.map_eq_some_iff] at hd'
  obtain ⟨d', hd', rfl⟩ := hd'
  obtain ⟨v, hv, rv⟩ := r.get hd'
  refine ⟨⟨ws, v, q, hv⟩, ?_⟩
  rintro _ _ ⟨T, z, rfl, hT, rfl, y⟩
  have e1 := y ws q
  rw [hv] at e1; cases e1
  have rr : Reps K μ' H' [.int (i : Nat), v] [.int ((0 + i : Nat) : Int), d'] := by
    rw [Nat.zero_add]; exact (Reps.one rv).cons (.int _)
  exact ⟨step_lay hS hT _, hS.lay hT _, .tup ⟨upd_same, hS.fresh hT⟩ rr.1 (rr.step (step_lay hS hT _)).2⟩
def iEnumA (a : RA) : RI := fun ρ S => (a ρ S).bind fun ds S1 => match ds with
  | [d] => match seqOf S1 d with
    | some xs => .ok (enumL xs, ckOf d xs) S1
    | none => .no
  | _ => .no
theorem si_enumA {X : Cx} {W : WX} {e : Expr} {ra : RA} {p pos tpos : Pos} {elts : List Expr} {kk : Nat} (hg : Gl X "enumerate") (hm : X.mg "enumerate" = none) (ha : SA X W [e] ra) (hs : starEach [e] X.env = [(false, eval e X.env)] := by rfl) : SI X W (.Tuple elts kk tpos) (.Call (.Name "enumerate" p) [e] [] pos) (iEnumA ra) :=
  PI.imp (pi_je hg hm ha hs) fun σ H R ⟨μ, ρ, S, hS, hE, h⟩ => by
    refine ⟨μ, ρ, S, hS, hE, ?_⟩
    unfold iEnumA at h
    cases q : ra ρ S with
    | no => rw [q] at h; exact h.elim
    | ex x S1 => rw [q] at h; exact h
    | ok ds S1 =>
      rw [q] at h
      simp only [Out.bind_ok] at h
      intro μ1 H1 vs a b r
      match ds, r, h with
      | [d], r, h =>
        obtain ⟨v, rfl, rv⟩ := r.get1
        dsimp only at h
        cases q1 : seqOf S1 d with
        | none => rw [q1] at h; exact h.elim
        | some xs =>
          rw [q1] at h
          obtain ⟨l1, a1, ws1, rfl, s1, k1⟩ := src_keep a rv q1
          exact ⟨l1, a1, ws1, rfl, s1, h μ1 H1 _ a b (itr_je k1)⟩
      | [], r, h => exact h.elim
      | _ :: _ :: _, r, h => exact h.elim
end PL
namespace PL
open PySem PySem.Spec PyProof.Rows L2
/-- x or y, of numbers and None -/
def truD : Dv → Option Bool
  | .non => some false
  | .bl b => some b
  | .int i => some (i != 0)
  | _ => none
def eOrV (a b : RE) : RE := fun ρ S => (a ρ S).bind fun d S1 => match truD d with
  | some true => .ok d S1
  | some false => b ρ S1
  | none => .no
theorem ev_orV {a b : RE} {ρ : Env} {S : Sto} : eOrV a b ρ S = (a ρ S).bind fun d S1 => match truD d with
  | some true => .ok d S1
  | some false => b ρ S1
  | none => .no := .trans rfl rfl
theorem se_orV {X : Cx} {W : WX} {e b : Expr} {es : List Expr} {ra rb : RE} {pos : Pos} (h : SE X W e ra) (t : SE X W (.BoolOp .Or (b :: es) pos) rb) : SE X W (.BoolOp .Or (e :: b :: es) pos) (eOrV ra rb) :=
  PE.imp (pe_orT h t) fun σ H Q ⟨μ, ρ, S, hS, hE, h⟩ => (bnd hS hE h).mono fun v H1 ⟨μ1, S1, d, hS1, hE1, s1, rv, h1⟩ => by
    cases rv with
    | non => exact ⟨false, rfl, ⟨μ1, ρ, S1, hS1, hE1, h1⟩⟩
    | bl k =>
      cases k with
      | true => exact ⟨true, rfl, Met.ok (RP := Rep X.K) h1 hS1 (.bl _)⟩
      | false => exact ⟨false, rfl, ⟨μ1, ρ, S1, hS1, hE1, h1⟩⟩
    | int i =>
      dsimp only [truD] at h1
      refine ⟨i != 0, rfl, ?_⟩
      cases q : (i != 0) with
      | true => rw [q] at h1; exact Met.ok (RP := Rep X.K) h1 hS1 (.int _)
      | false => rw [q] at h1; exact ⟨μ1, ρ, S1, hS1, hE1, h1⟩
    | _ => exact h1.elim
end PL
namespace PL
open PySem PySem.Spec PyProof.Rows L2
/-! ### list(range(a, b)) -/
noncomputable def lrD (x y : Dv) (S : Sto) : Out Dv := match x, y with
  | .int i, .int j => @ite _ (RgOk i j) (Classical.propDecidable _) (newL (rangeL i j) S) .no
  | _, _ => .no
theorem rg_rep {K : PySem.W.Frag} {μ : List Addr} {H : Hp} (i j : Int) : Reps K μ H (rgV i j) (rangeL i j) := by
  unfold rgV rangeL
  refine ⟨by simp, fun n v d h1 h2 => ?_⟩
  rw [List.getElem?_map] at h1 h2
  cases q : (List.range (j - i).toNat)[n]? with
  | none => rw [q] at h1; cases h1
  | some m => rw [q] at h1 h2; cases h1; cases h2; exact .int _
theorem se_lrange2 {X : Cx} {W : WX} {a b : Expr} {ra rb : RE} {p pos p2 pos2 : Pos} (hc : X.calm = true) (hg : Gl X "list") (hm : X.mg "list" = none) (hg2 : Gl X "range") (hm2 : X.mg "range" = none) (ha : SE X W a ra) (hb : SE X W b rb)
    (h1 : starEach [a, b] X.env = (false, eval a X.env) :: starEach [b] X.env := by rfl) (h2 : starEach [b] X.env = (false, eval b X.env) :: starEach [] X.env := by rfl) (h3 : ((backTo pos2 (starEach [b] X.env)).any fun x => x.fst) = false := by rfl)
    (h4 : starEach [.Call (.Name "range" p2) [a, b] [] pos2] X.env = (false, eval (.Call (.Name "range" p2) [a, b] [] pos2) X.env) :: starEach [] X.env := by rfl) :
    SE X W (.Call (.Name "list" p) [.Call (.Name "range" p2) [a, b] [] pos2] [] pos) (eBin lrD ra rb) :=
  PE.imp (pe_listRg hc hg hm (prg_2 hg2 hm2 ha hb h1 h2 h3) h4) fun σ H Q ⟨μ, ρ, S, hS, hE, h⟩ => (bnd hS hE h).mono fun v H1 ⟨μ1, S1, d, hS1, hE1, s1, rv, g1⟩ => (bnd hS1 hE1 g1).mono fun u H2 ⟨μ2, S2, e, hS2, hE2, s2, ru, g2⟩ => by
    have rv' := rv.step s2
    cases rv' with
    | int i =>
      cases ru with
      | int j =>
        unfold lrD at g2
        dsimp only at g2
        split at g2
        · rename_i ok
          exact ⟨i, j, rfl, rfl, ok, fun q n => g2.lst hS2 n (rg_rep i j)⟩
        · exact g2.elim
      | _ => exact g2.elim
    | _ => exact g2.elim
theorem lr_int {S : Sto} {i j : Int} (h0 : 0 ≤ i) (h1 : i < 1000000) (h2 : 0 ≤ j) (h3 : j < 1000000) : lrD (.int i) (.int j) S = newL (rangeL i j) S := by
  unfold lrD
  dsimp only
  rw [if_pos (show RgOk i j from ⟨by omega, by omega, by omega, by omega, by omega⟩)]
end PL

namespace PL
open PySem PySem.Spec PyProof.Rows L2
/-! ### dict displays with keys that are numbers or texts -/
def evPairs : List (RE × RE) → Env → Sto → Out (List (Dv × Dv))
  | [], _, S => .ok [] S
  | p :: r, ρ, S => (p.1 ρ S).bind fun x S1 => (p.2 ρ S1).bind fun y S2 => (evPairs r ρ S2).bind fun ps S3 => .ok ((x, y) :: ps) S3
def RPairs (K : PySem.W.Frag) (μ : List Addr) (H : Hp) (ps : List (V × V)) (qs : List (Dv × Dv)) : Prop := Reps K μ H (ps.map (·.1)) (qs.map (·.1)) ∧ Reps K μ H (ps.map (·.2)) (qs.map (·.2))
def keysD : List (Dv × Dv) → Option (List (L2.Key × Dv))
  | [] => some []
  | q :: r => match keyOf q.1, keysD r with
    | some k, some es => some ((k, q.2) :: es)
    | _, _ => none
def mergeD (acc : List (L2.Key × Dv)) (es : List (L2.Key × Dv)) : List (L2.Key × Dv) := es.foldl (fun a e => gput a e.1 e.2) acc
def eDisp (rs : List (RE × RE)) : RE := fun ρ S => (evPairs rs ρ (S ++ [.dk []])).bind fun qs S2 => match S2[S.length]? with
  | some (.dk []) => match keysD qs with
    | some es => if es.length ≤ 15 then .ok (.ref S.length) (S2.set S.length (.dk (mergeD [] es))) else .no
    | none => .no
  | _ => .no
section
variable {K : PySem.W.Frag} {mg : Str → Option Value} {W : WX} {μ μ1 : List Addr} {H H1 : Hp} {S S1 : Sto} {σ : L2.St} {ρ : Env}
theorem tp_met : ∀ (rs : List (RE × RE)) {σ : L2.St} {H : Hp} {Q : List (V × V) → Hp → Prop}, tG (RPairs K) K mg W (evPairs rs) σ H Q → tPairs (rs.map fun r => (tG (Rep K) K mg W r.1, tG (Rep K) K mg W r.2)) σ H Q
  | [], σ, H, Q, h => by
    obtain ⟨μ, ρ, S, hS, hE, h⟩ := h
    exact Met.ok (RP := RPairs K) h hS ⟨.nil, .nil⟩
  | r :: rs, σ, H, Q, h => by
    obtain ⟨μ, ρ, S, hS, hE, h⟩ := h
    refine (bnd hS hE h).mono fun x H1 ⟨μ1, S1, d, hS1, hE1, s1, rx, h1⟩ => ?_
    refine (bnd hS1 hE1 h1).mono fun y H2 ⟨μ2, S2, e, hS2, hE2, s2, ry, h2⟩ => ?_
    refine tp_met rs ((bnd (R1 := RPairs K) hS2 hE2 h2).mono fun ps H3 ⟨μ3, S3, qs, hS3, hE3, s3, rp, h3⟩ => ?_)
    exact Met.ok (RP := RPairs K) h3 hS3 ⟨rp.1.cons ((rx.step s2).step s3), rp.2.cons (ry.step s3)⟩
theorem keysD_rep : ∀ {qs : List (Dv × Dv)} {es : List (L2.Key × Dv)} {ps : List (V × V)}, keysD qs = some es → RPairs K μ H ps qs → ∃ kvs : List (L2.Key × V), ps = kvs.map (fun kv => (kV kv.1, kv.2)) ∧ kvs.map (·.1) = es.map (·.1) ∧ Reps K μ H (kvs.map (·.2)) (es.map (·.2))
  | [], es, ps, h, r => by
    cases h
    have := r.1.un0
    rw [List.map_eq_nil_iff] at this
    subst this
    exact ⟨[], rfl, rfl, .nil⟩
  | q :: qs, es, ps, h, r => by
    simp only [keysD] at h
    split at h
    · rename_i k es' hk he
      cases h
      cases ps with
      | nil => exact absurd r.1.1 (by simp)
      | cons p ps =>
        obtain ⟨v, ws, e1, r1, t1⟩ := r.1.uncons
        obtain ⟨u, zs, e2, r2, t2⟩ := r.2.uncons
        simp only [List.map_cons, List.cons.injEq] at e1 e2
        obtain ⟨rfl, rfl⟩ := e1
        obtain ⟨rfl, rfl⟩ := e2
        obtain ⟨kvs, e3, e4, e5⟩ := keysD_rep he ⟨t1, t2⟩
        refine ⟨(k, p.2) :: kvs, ?_, by rw [List.map_cons, List.map_cons, e4], e5.cons r2⟩
        rw [List.map_cons, ← e3, ← keyOf_rep r1 hk]
    · cases h
theorem merge_rep : ∀ (es : List (L2.Key × Dv)) (kvs : List (L2.Key × V)) (acc : List (L2.Key × Dv)) (ws : List (L2.Key × V)), kvs.map (·.1) = es.map (·.1) → Reps K μ H (kvs.map (·.2)) (es.map (·.2)) → ws.map (·.1) = acc.map (·.1) → Reps K μ H (ws.map (·.2)) (acc.map (·.2)) →
    (mergeK ws kvs).map (·.1) = (mergeD acc es).map (·.1) ∧ Reps K μ H ((mergeK ws kvs).map (·.2)) ((mergeD acc es).map (·.2))
  | [], kvs, acc, ws, h, r, ha, ra => by
    rw [List.map_nil, List.map_eq_nil_iff] at h
    subst h
    exact ⟨ha, ra⟩
  | e :: es, [], acc, ws, h, r, ha, ra => by simp at h
  | e :: es, kv :: kvs, acc, ws, h, r, ha, ra => by
    simp only [List.map_cons, List.cons.injEq] at h
    obtain ⟨u, zs, e2, r2, t2⟩ := r.uncons
    simp only [List.map_cons, List.cons.injEq] at e2
    obtain ⟨rfl, rfl⟩ := e2
    obtain ⟨g1, g2⟩ := gput_rep (k := e.1) ha ra r2
    have := merge_rep es kvs (gput acc e.1 e.2) (putK ws e.1 kv.2) h.2 t2 g1 g2
    show (mergeK (putK ws kv.1 kv.2) kvs).map (·.1) = (mergeD (gput acc e.1 e.2) es).map (·.1) ∧ Reps K μ H ((mergeK (putK ws kv.1 kv.2) kvs).map (·.2)) ((mergeD (gput acc e.1 e.2) es).map (·.2))
    rw [h.1]
    exact this
end
section
variable {X : Cx} {W : WX} {k v e : Expr} {ks : List (Option Expr)} {vs : List Expr} {a b : RE} {rs : List (RE × RE)} {pos : Pos}
structure SPs (X : Cx) (W : WX) (pos : Pos) (ks : List (Option Expr)) (vs : List Expr) (rs : List (RE × RE)) : Prop where
  pp : PPs X pos ks vs (rs.map fun r => (tG (Rep X.K) X.K X.mg W r.1, tG (Rep X.K) X.K X.mg W r.2))
theorem sps_nil : SPs X W pos [] [] [] := ⟨pps_nil⟩
theorem sps_cons (hk : SE X W k a) (hv : SE X W v b) (t : SPs X W pos ks vs rs) : SPs X W pos (some k :: ks) (v :: vs) ((a, b) :: rs) := ⟨pps_cons hk hv t.pp⟩
theorem se_disp (h : SPs X W pos ks vs rs) (hall : ks.all (·.isSome) = true) (hl : ks.length = vs.length) (h0 : ks ≠ []) (h15 : ks.length ≤ 15) : SE X W (.Dict ks vs pos) (eDisp rs) :=
  PE.imp (pe_disp h.pp hall hl h0 h15) fun σ H Q ⟨μ, ρ, S, hS, hE, hm⟩ p hp => by
    have st0 := step_new hS hp (.dK [])
    have hS0 : SimS X.K (μ ++ [p]) (S ++ [.dk []]) (upd H p (.dK [])) := hS.new hp ⟨[], upd_same, rfl, .nil⟩
    have hm0 := Met.step st0 hm
    refine tp_met rs ((bnd (R1 := RPairs X.K) hS0 (hE.step st0) hm0).mono fun ps H2 ⟨μ2, S2, qs, hS2, hE2, s2, rp, h2⟩ => ?_)
    have hp2 : μ2[S.length]? = some p := s2.get (new_at hS p)
    split at h2
    · rename_i eS
      obtain ⟨ws, w1, w2, _⟩ := hS2.at' eS hp2
      rw [List.map_nil, List.map_eq_nil_iff] at w2
      subst w2
      split at h2
      · rename_i es he
        split at h2
        · rename_i h15'
          obtain ⟨kvs, e3, e4, e5⟩ := keysD_rep he rp
          refine ⟨w1, kvs, e3, by have := congrArg List.length e4; simp at this; omega, ?_⟩
          obtain ⟨m1, m2⟩ := merge_rep es kvs [] [] e4 e5 rfl .nil
          exact h2.put (RP := Rep X.K) hS2 hp2 (u := .dK (mergeK [] kvs)) ⟨_, upd_same, m1, m2.step (step_put hS2 hp2 _)⟩ (.ref hp2)
        · exact h2.elim
      · exact h2.elim
    · exact h2.elim
end
/-! ### reversed -/
def trevD (d : Dv) (S : Sto) : Out Dv := match lstOf S d with
  | some ds => .ok (.tup ds.reverse) S
  | none => .no
theorem se_tupRev {X : Cx} {W : WX} {e : Expr} {ra : RE} {p p2 pos pos2 : Pos} (hc : X.calm = true) (hg : Gl X "tuple") (hm : X.mg "tuple" = none) (hg2 : Gl X "reversed") (hm2 : X.mg "reversed" = none) (he : SE X W e ra)
    (hs : starEach [e] X.env = (false, eval e X.env) :: starEach [] X.env := by rfl)
    (hs2 : starEach [.Call (.Name "reversed" p2) [e] [] pos2] X.env = (false, eval (.Call (.Name "reversed" p2) [e] [] pos2) X.env) :: starEach [] X.env := by rfl) :
    SE X W (.Call (.Name "tuple" p) [.Call (.Name "reversed" p2) [e] [] pos2] [] pos) (eUn trevD ra) :=
  PE.imp (RT.pe_tupRev hc hg hm hg2 hm2 he hs hs2) fun σ H Q ⟨μ, ρ, S, hS, hE, h⟩ => (bnd hS hE h).mono fun v H1 ⟨μ1, S1, d, hS1, hE1, s1, rv, h1⟩ => by
    unfold trevD at h1
    split at h1
    · rename_i ds el
      obtain ⟨a, vs, rfl, q, r⟩ := rv.sqL hS1 el
      exact ⟨a, vs, rfl, q, fun q' n => h1.tup hS1 n r.rev⟩
    · exact h1.elim
end PL
namespace PL
open PySem PySem.Spec PyProof.Rows L2
/-! ### loops over reversed(..) -/
def iRev (e : RE) : RI := fun ρ S => (e ρ S).bind fun d S1 => match seqOf S1 d with
  | some ds => .ok (ds.reverse, ckOf d ds) S1
  | none => .no
theorem rev_get {α : Type} {xs : List α} {i : Nat} {x : α} (h : xs.reverse[i]? = some x) : i < xs.length ∧ xs[xs.length - 1 - i]? = some x := by
  have hi := (List.getElem?_eq_some_iff.mp h).1
  rw [List.length_reverse] at hi
  rw [List.getElem?_reverse hi] at h
  exact ⟨hi, h⟩
theorem src_keep2 {K : PySem.W.Frag} {μ : List Addr} {H : Hp} {S : Sto} {v : V} {d : Dv} {ds : List Dv} (hS : SimS K μ S H) (r : Rep K μ H v d) (e : seqOf S d = some ds) :
    ∃ l a vs, v = .ref a ∧ Sq K l H a vs ∧ Reps K μ H vs ds ∧ ∀ μ' S' H', Step μ H μ' H' → SimS K μ' S' H' → (ckOf d ds).ok S' → ∃ ws, Sq K l H' a ws ∧ Reps K μ' H' ws ds := by
  unfold seqOf at e
  cases q : tupOf d with
  | some es =>
    rw [q] at e
    cases e
    obtain ⟨a, vs, rfl, rr, h1, h2⟩ := sqT_keep r q
    exact ⟨false, a, vs, rfl, h1, rr, fun μ' S' H' st _ _ => ⟨vs, h2 μ' H' st, rr.step st⟩⟩
  | none =>
    rw [q] at e
    obtain ⟨a, vs, rfl, h1, rr⟩ := r.sqL hS e
    obtain ⟨a', vs', e', _, h2⟩ := itr_list hS r e
    cases e'
    exact ⟨true, a, vs, rfl, h1, rr, h2⟩
theorem si_rev {X : Cx} {W : WX} {tg e : Expr} {re : RE} {p pos : Pos} (hg : Gl X "reversed") (hm : X.mg "reversed" = none) (he : SE X W e re) (hs : starEach [e] X.env = (false, eval e X.env) :: starEach [] X.env := by rfl) : SI X W tg (.Call (.Name "reversed" p) [e] [] pos) (iRev re) :=
  PI.imp (RT.pi_revA hg hm he hs) fun σ H R ⟨μ, ρ, S, hS, hE, h⟩ => by
    refine ⟨μ, ρ, S, hS, hE, ?_⟩
    unfold iRev at h
    cases q : re ρ S with
    | no => rw [q] at h; exact h.elim
    | ex x S1 => rw [q] at h; exact h
    | ok d S1 =>
      rw [q] at h
      simp only [Out.bind_ok] at h
      intro μ1 H1 v a b r
      cases q1 : seqOf S1 d with
      | none => rw [q1] at h; exact h.elim
      | some ds =>
        rw [q1] at h
        obtain ⟨l, a1, vs, rfl, s1, r1, k1⟩ := src_keep2 a r q1
        refine ⟨a1, vs, rfl, ?_⟩
        cases l with
        | true =>
          refine .inl ⟨s1, h μ1 H1 _ a b fun μ' S' H' i st hS' hck => ?_⟩
          obtain ⟨ws, w1, w2⟩ := k1 μ' S' H' st hS' hck
          refine ⟨fun e => by show vs.length ≤ i; rw [e, r1.1]; exact Nat.le_of_eq (List.length_reverse).symm, fun d hd => ?_⟩
          obtain ⟨hi, hd⟩ := rev_get hd
          rw [← r1.1] at hi hd
          obtain ⟨u, hu, ru⟩ := w2.get hd
          refine ⟨⟨hi, ws, u, w1, hu⟩, ?_⟩
          rintro x _ ⟨rfl, y⟩
          have := y ws w1
          rw [hu] at this; cases this
          exact ⟨.refl .., hS', ru⟩
        | false =>
          refine .inr ⟨s1, h μ1 H1 _ a b fun μ' S' H' i st hS' hck => ?_⟩
          obtain ⟨ws, w1, w2⟩ := k1 μ' S' H' st hS' hck
          refine ⟨fun e => by show vs.length ≤ i; rw [e, r1.1]; exact Nat.le_of_eq (List.length_reverse).symm, fun d hd => ?_⟩
          obtain ⟨hi, hd⟩ := rev_get hd
          rw [← r1.1] at hi hd
          obtain ⟨u, hu, ru⟩ := w2.get hd
          refine ⟨⟨hi, ws, u, w1, hu⟩, ?_⟩
          rintro x _ ⟨rfl, y⟩
          have := y ws w1
          rw [hu] at this; cases this
          exact ⟨.refl .., hS', ru⟩
end PL
namespace PL
open PySem PySem.Spec PyProof.Rows L2
/-! ### enumerate(reversed(a list)) -/
section
variable {prog : Program} {w : World} {A : Around} {E : Value → Shared → Prop} {s : Shared}
theorem nx_rev {it l : Addr} {i : Nat} {items : Array Value} {x : Value} {Q : Value → Shared → Prop} (hit : s.heap.IsRevIter it l (i : Int)) (hl : s.heap.IsList l items) (hx : items[i]? = some x)
    (hQ : ∀ h', h'.IsRevIter it l ((i : Int) - 1) → Heap.SameBut it s.heap h' → Q x { s with heap := h' }) : wpAny (model prog w) A (Builtin.SmallTypes.nextOf (.ref it)) Q E s := by
  obtain ⟨o, ho, hc, hd⟩ := id hit
  obtain ⟨ol, hol, _, nl, hdl⟩ := hl
  unfold Builtin.SmallTypes.nextOf
  refine wpAny_bind (wpAny_callSpecial?_slot (name := Str.ofString "__next__") hit.typeIs F.slot_lri_next (wpAny_call_entry F.slot_lri_next hit.typeIs F.entry_lri_next ?_ (F.args_lri_next_1 _)))
  unfold Builtin.«list_reverseiterator.__next__»
  refine wpAny_bind (wpAny_of_eq (a := (Value.ref it, [])) rfl ?_); (try dsimp only)
  refine wpAny_bind (wpAny_field ho hd (x := rawInt (i : Int)) rfl ?_); show wpAny _ _ (if (i : Int) < 0 then _ else _) _ _ s; rw [if_neg (by omega)]
  show wpAny _ _ (field (.ref it) 0 >>= _) _ _ s; refine wpAny_bind (wpAny_field ho hd (x := .ref l) rfl ?_)
  show wpAny _ _ (seqItems? (.ref l) >>= _) _ _ s; refine wpAny_bind (wpAny_seqItems hol hdl ?_)
  simp only [Int.toNat_natCast, hx]
  have fin : ∀ h', h' = s.heap.update it (fun o => o) → True := fun _ _ => trivial
  refine wpAny_bind (wpAny_setField ho hd (by simp) ?_)
  first
    | refine wpAny_pure ⟨x, rfl, wpAny_pure (hQ _ ?_ (Heap.SameBut.update ..))⟩
    | refine wpAny_bind (wpAny_pure (wpAny_pure ⟨x, rfl, wpAny_pure (hQ _ ?_ (Heap.SameBut.update ..))⟩))
  exact ⟨_, Heap.get?_update_self _ ho (Obj.isFreed_of_fields (Obj.data_mapFields hd _)), (Obj.cls_mapFields ..).trans hc, by rw [Obj.data_mapFields hd]; simp⟩
theorem nx_rev_end {it l : Addr} {Q : Value → Shared → Prop} (hh : A.handled = none) (hit : s.heap.IsRevIter it l (-1))
    (hE : ∀ h' e, Heap.ExtBut it s.heap h' → (∃ o, h'.get? e = some o ∧ o.cls = .type "StopIteration") → E (.ref e) { s with heap := h' }) : wpAny (model prog w) A (Builtin.SmallTypes.nextOf (.ref it)) Q E s := by
  obtain ⟨o, ho, hc, hd⟩ := id hit
  unfold Builtin.SmallTypes.nextOf
  refine wpAny_bind (wpAny_callSpecial?_slot (name := Str.ofString "__next__") hit.typeIs F.slot_lri_next (wpAny_call_entry F.slot_lri_next hit.typeIs F.entry_lri_next ?_ (F.args_lri_next_1 _)))
  unfold Builtin.«list_reverseiterator.__next__»
  refine wpAny_bind (wpAny_of_eq (a := (Value.ref it, [])) rfl ?_); (try dsimp only)
  refine wpAny_bind (wpAny_field ho hd (x := rawInt (-1)) rfl ?_); show wpAny _ _ (if (-1 : Int) < 0 then _ else _) _ _ s; rw [if_pos (by decide)]
  refine wpAny_bind (wpAny_rule ?_)
  first
    | show wpAny _ _ (newExc (.type "StopIteration") [] >>= _) _ _ _
    | (refine wpAny_bind ?_; show wpAny _ _ (newExc (.type "StopIteration") [] >>= _) _ _ _)
  refine wpAny_bind ?_; simp only [newExc, newTuple]; refine wpAny_bind (wpAny_newObj_type ?_ (by size_fits))
  refine wpAny_bind (m := firstArgMember _ _) (wpAny_of_eq (a := Value.none) (by first | rfl | (simp only [firstArgMember]; rfl)) ?_); refine wpAny_newObj_type ?_ (by size_fits)
  simp only [raiseNew]; refine wpAny_bind (wpAny_handled ?_)
  first | rw [show A.in1.handled = none from hh] | rw [hh]
  refine wpAny_bind (wpAny_pure (wpAny_throw ?_)); exact hE _ _ (((Heap.ExtBut.refl _ _).push _).push _) ⟨_, Heap.get?_push_size _ rfl, rfl⟩
end
theorem rev_draws {prog : Program} {w : World} {A : Around} (hh : A.handled = none) (it l : Addr) (ne : l ≠ it) (items : Array Value) :
    Draws prog w A it [it, l] items.size (fun i v => items[items.size - 1 - i]? = some v) (fun i h => i ≤ items.size ∧ h.IsRevIter it l ((items.size : Int) - 1 - (i : Nat)) ∧ h.IsList l items) where
  live := fun _ _ st => let ⟨o, ho, _⟩ := st.2.1; ⟨o, ho⟩
  frame := fun _ _ _ st hk => ⟨st.1, st.2.1.at fun o e => hk it (by simp) o e, st.2.2.at fun o e => hk l (by simp) o e⟩
  item := fun i s Q E hi st hQ => by
    have e1 : (items.size : Int) - 1 - (i : Nat) = ((items.size - 1 - i : Nat) : Int) := by omega
    have st1 := st.2.1
    rw [e1] at st1
    refine nx_rev st1 st.2.2 (x := items[items.size - 1 - i]'(by omega)) (by simp) fun h' hit' hs' => ?_
    refine hQ _ h' s.toks (by simp) ⟨hi, ?_, st.2.2.extBut hs'.extBut ne⟩ hs'
    rw [show (items.size : Int) - 1 - ((i + 1 : Nat) : Int) = ((items.size - 1 - i : Nat) : Int) - 1 by omega]; exact hit'
  done := fun s Q E st hE => nx_rev_end hh (by have := st.2.1; rwa [show (items.size : Int) - 1 - ((items.size : Nat) : Int) = -1 by omega] at this) hE
/-- numbered items of a list from its end -/
def Jr (K : PySem.W.Frag) (a : Addr) (n : Nat) : It :=
  ⟨fun i H => i < n ∧ ∃ vs x, SqL K H a vs ∧ vs.length = n ∧ vs[n - 1 - i]? = some x,
    fun i H v H' => ∃ T x, v = .ref T ∧ H T = none ∧ H' = upd H T (.tup [.int (i : Nat), x]) ∧ (∀ vs, SqL K H a vs → vs[n - 1 - i]? = some x),
    fun i H => ∃ vs, SqL K H a vs ∧ vs.length = n ∧ i = n⟩
theorem turn_jr {P : Program} {w : World} {K : PySem.W.Frag} {elts : List Expr} {kk n : Nat} {tpos : Pos} {a e it : Addr} (ne : e ≠ it) (ni : a ≠ it) (na : a ≠ e) :
    Turn P w K (.Tuple elts kk tpos) (Jr K a n) [e, it] e (fun i h => (∃ old, IsEnum h e it ((i : Nat) : Int) old) ∧ i ≤ n ∧ h.IsRevIter it a ((n : Int) - 1 - (i : Nat))) := by
  have sp : ∀ {c : Addr}, c ∈ [e, it] → c = e ∨ c = it := fun h => by simpa using h
  have nf : e ∉ [it, a] := fun h => by
    simp only [List.mem_cons, List.not_mem_nil, or_false] at h
    exact h.elim ne fun z => na z.symm
  refine ⟨by simp, ?_, ?_, ?_, ?_, fun A i s Q E st hQ => let ⟨⟨_, e1⟩, _⟩ := st; wpAny_pyIter_enum e1 hQ⟩
  · rintro i h ⟨⟨old, e1⟩, _, o, e2, _, d⟩ c hc
    rcases sp hc with rfl | rfl
    · exact ⟨_, e1, fun v z => nomatch z⟩
    · exact ⟨o, e2, fun v z => by rw [d] at z; cases z⟩
  · rintro i h h' ⟨⟨old, e1⟩, le, e2⟩ kp
    exact ⟨⟨old, kp e (by simp) _ e1⟩, le, e2.at (kp it (by simp))⟩
  · intro X hP hw hK hc i pins s σ H E I hf ⟨⟨old, e1⟩, le, e2⟩ ⟨hin, vs, x, q1, hn, g1⟩
    subst hP hw hK
    obtain ⟨its, r1, p1⟩ := sq_read (l := true) I q1
    obtain ⟨u1, hu1, ru1⟩ := r1.get g1
    have sz : its.toArray.size = n := by rw [List.size_toArray, ← hn]; exact r1.length.symm
    have hh : X.A.handled = none := I.ok.hd hc
    have D1 := rev_draws (prog := X.prog) (w := X.w) (A := X.A.in1) hh it a ni its.toArray
    refine wpAny_pyNext_enum_itemD D1 e1 ⟨by omega, by rw [sz]; exact e2, p1⟩ (by omega) ne nf fun w1 h' tk a1 en st1 tn _ kp => ?_
    have w1e : w1 = u1 := Option.some.inj (a1.symm.trans (show its.toArray[its.toArray.size - 1 - i]? = some u1 by rw [sz]; simpa using hu1))
    subst w1e
    refine ⟨_, rfl, wpAny_letOwnedTupleGo_enum (s := { s with heap := h', toks := tk + 1 }) en fun h2 en2 sb => ?_⟩
    have zl : e < s.heap.objs.size := Heap.lt_size e1
    have tn2 : h2.get? s.heap.objs.size = some { cls := .type "tuple", data := .seq #[.int i tk, w1] } := (sb.2 _ (Nat.ne_of_gt zl)).trans tn
    have ok : ObjOk X.prog X.w (upd H s.heap.objs.size (.tup [.int (i : Nat), x])) h2 s.heap.objs.size (.tup [.int (i : Nat), x]) := ⟨show 2 ≤ 2 ^ 24 by omega, [.int i tk, w1], .cons ⟨_, rfl⟩ (.cons ru1 .nil), ⟨_, tn2, rfl, _, rfl⟩⟩
    have I2 : Inv X pins σ (upd H s.heap.objs.size (.tup [.int (i : Nat), x])) { s with heap := h2, toks := tk + 1 } :=
      I.turnedNew (t' := tk + 1) (ch := [e, it]) (fun c o hn' q => by
        have n1 : c ≠ e := fun z => hn' (by simp [z])
        exact (sb.2 c n1).trans (kp c o n1 (fun z => hn' (by simp [z])) q)) hf (Nat.le_refl _) ok
    refine ⟨.ref s.heap.objs.size, _, I2, rfl, ⟨_, x, rfl, I.hok.fresh (Nat.le_refl _), rfl, fun ws q => by rw [I.list_inj q q1]; exact g1⟩, ⟨⟨w1, ?_⟩, hin, ?_⟩, fun c hcm => ?_⟩
    · rw [show ((i + 1 : Nat) : Int) = (i : Int) + 1 by omega]; exact en2
    · have := st1.2.1
      rw [sz] at this
      exact this.at fun o q => (sb.2 _ (Ne.symm ne)).trans q
    · have hlt : c < s.heap.objs.size := by
        rcases sp hcm with rfl | rfl
        · exact zl
        · obtain ⟨o, q, _⟩ := e2; exact Heap.lt_size q
      rw [upd_ne (Nat.ne_of_lt hlt)]
      exact (hf c hcm).1
  · intro X hP hw hK hc i pins s σ H E I hf ⟨⟨old, e1⟩, le, e2⟩ ⟨vs, q1, hn, he⟩
    subst hP hw hK
    obtain ⟨its, r1, p1⟩ := sq_read (l := true) I q1
    have sz : its.toArray.size = n := by rw [List.size_toArray, ← hn]; exact r1.length.symm
    have hh : X.A.handled = none := I.ok.hd hc
    have D1 := rev_draws (prog := X.prog) (w := X.w) (A := X.A.in1) hh it a ni its.toArray
    have st : its.toArray.size ≤ its.toArray.size ∧ s.heap.IsRevIter it a ((its.toArray.size : Int) - 1 - (its.toArray.size : Nat)) ∧ s.heap.IsList a its.toArray := ⟨Nat.le_refl _, by rw [sz]; rw [he] at e2; exact e2, p1⟩
    exact wpAny_pyNext_enum_endD D1 e1 st fun h' kp => ⟨rfl, I.turnedL (t' := s.toks) (ch := [e, it]) (fun c o hn' q => kp c o (fun z => hn' (by simp [z])) q) hf⟩
def tJr (K : PySem.W.Frag) (te : TE) : TI := fun σ H R => te σ H fun v H1 => ∃ a xs, v = .ref a ∧ SqL K H1 a xs ∧ R (Jr K a xs.length) H1
theorem pi_jr {X : Cx} {e : Expr} {te : TE} {p p2 pos pos2 tpos : Pos} {elts : List Expr} {kk : Nat} (hg : Gl X "enumerate") (hm : X.mg "enumerate" = none) (hg2 : Gl X "reversed") (hm2 : X.mg "reversed" = none) (he : PE X e te)
    (hs : starEach [e] X.env = (false, eval e X.env) :: starEach [] X.env := by rfl)
    (hs2 : starEach [.Call (.Name "reversed" p2) [e] [] pos2] X.env = (false, eval (.Call (.Name "reversed" p2) [e] [] pos2) X.env) :: starEach [] X.env := by rfl) :
    PI X (.Tuple elts kk tpos) (.Call (.Name "enumerate" p) [.Call (.Name "reversed" p2) [e] [] pos2] [] pos) (tJr X.K te) := by
  refine ⟨fun pins s σ H R I h => Call_ (ld_blt I hg hm boot_enumerate (PyProof.Rows.callWith_type1 (args_cons (Call_ (ld_blt I hg2 hm2 PyProof.Rows.boot_reversed (PyProof.Rows.callWith_type1 (args_cons (thn (he.run pins s σ H _ I h) ?_) hs) hs rfl))) hs2) hs2 rfl))⟩
  rintro u s1 ⟨v, H1, I1, r1, a, xs, rfl, q1, hR⟩
  obtain rfl : u = .ref a := r1
  obtain ⟨its, rv, p1⟩ := sq_read (l := true) I1 q1
  have lt := pn_lt (l := true) p1
  have sz : its.toArray.size = xs.length := by rw [List.size_toArray]; exact rv.length.symm
  refine args_nil (call_reversed_list (show s1.heap.IsList a its.toArray from p1) (args_nil ?_))
  have h0 : (s1.heap.push (revObj a ((its.toArray.size : Int) - 1))).IsRevIter s1.heap.objs.size a ((its.toArray.size : Int) - 1) := ⟨_, Heap.get?_push_size _ rfl, rfl, rfl⟩
  refine en_call (s := { s1 with heap := s1.heap.push (revObj a ((its.toArray.size : Int) - 1)) }) (Hh := fun h => h.IsRevIter s1.heap.objs.size a ((its.toArray.size : Int) - 1)) (it := fun _ => s1.heap.objs.size) (nx := fun h => h) (fun prog w A E s Q hh hq => wpAny_pyIter_revIter hh hq) h0 fun e1 => wpAny_pyIter_enum e1 ?_
  have zs : (s1.heap.push (revObj a ((its.toArray.size : Int) - 1))).objs.size = s1.heap.objs.size + 1 := Heap.size_push ..
  have kp : ∀ c o, s1.heap.get? c = some o → ((s1.heap.push (revObj a ((its.toArray.size : Int) - 1))).push (enO s1.heap.objs.size)).get? c = some o := fun c o q => Heap.get?_push_of_some _ (Heap.get?_push_of_some _ q)
  have I2 : Inv X pins σ H1 { s1 with heap := (s1.heap.push (revObj a ((its.toArray.size : Int) - 1))).push (enO s1.heap.objs.size) } := I1.kept (t' := s1.toks) kp
  have n1 : (s1.heap.push (revObj a ((its.toArray.size : Int) - 1))).objs.size ≠ s1.heap.objs.size := by rw [zs]; exact Nat.succ_ne_self _
  have n2 : a ≠ (s1.heap.push (revObj a ((its.toArray.size : Int) - 1))).objs.size := by rw [zs]; exact Nat.ne_of_lt (Nat.lt_succ_of_lt lt)
  have st0 : ((s1.heap.push (revObj a ((its.toArray.size : Int) - 1))).push (enO s1.heap.objs.size)).IsRevIter s1.heap.objs.size a ((xs.length : Int) - 1 - ((0 : Nat) : Int)) := by
    rw [show (xs.length : Int) - 1 - ((0 : Nat) : Int) = (its.toArray.size : Int) - 1 by rw [sz]; omega]
    exact h0.at fun o q => Heap.get?_push_of_some _ q
  refine ⟨_, _, _, _, H1, rfl, I2, turn_jr (n := xs.length) n1 (Nat.ne_of_lt lt) n2, ⟨⟨.none, e1⟩, Nat.zero_le _, st0⟩, fun c hc => ?_, hR⟩
  have hle : s1.heap.objs.size ≤ c := by
    have : c = (s1.heap.push (revObj a ((its.toArray.size : Int) - 1))).objs.size ∨ c = s1.heap.objs.size := by simpa using hc
    rcases this with z | z
    · rw [z, zs]; exact Nat.le_succ _
    · rw [z]; exact Nat.le_refl _
  exact I1.fpOk hle (I1.hok.fresh hle)
def iEnumR (e : RE) : RI := fun ρ S => (e ρ S).bind fun d S1 => match lstOf S1 d with
  | some ds => .ok (enumL ds.reverse, ckOf d ds) S1
  | none => .no
theorem si_enumR {X : Cx} {W : WX} {e : Expr} {re : RE} {p p2 pos pos2 tpos : Pos} {elts : List Expr} {kk : Nat} (hg : Gl X "enumerate") (hm : X.mg "enumerate" = none) (hg2 : Gl X "reversed") (hm2 : X.mg "reversed" = none) (he : SE X W e re)
    (hs : starEach [e] X.env = (false, eval e X.env) :: starEach [] X.env := by rfl)
    (hs2 : starEach [.Call (.Name "reversed" p2) [e] [] pos2] X.env = (false, eval (.Call (.Name "reversed" p2) [e] [] pos2) X.env) :: starEach [] X.env := by rfl) :
    SI X W (.Tuple elts kk tpos) (.Call (.Name "enumerate" p) [.Call (.Name "reversed" p2) [e] [] pos2] [] pos) (iEnumR re) :=
  PI.imp (pi_jr hg hm hg2 hm2 he hs hs2) fun σ H R ⟨μ, ρ, S, hS, hE, h⟩ => by
    refine ⟨μ, ρ, S, hS, hE, ?_⟩
    unfold iEnumR at h
    cases q : re ρ S with
    | no => rw [q] at h; exact h.elim
    | ex x S1 => rw [q] at h; exact h
    | ok d S1 =>
      rw [q] at h
      simp only [Out.bind_ok] at h
      intro μ1 H1 v a b r
      cases q1 : lstOf S1 d with
      | none => rw [q1] at h; exact h.elim
      | some ds =>
        rw [q1] at h
        obtain ⟨a1, vs, rfl, s1, r1⟩ := r.sqL a q1
        obtain ⟨a2, vs2, e2, _, k1⟩ := itr_list a r q1
        cases e2
        refine ⟨a1, vs, rfl, s1, h μ1 H1 _ a b fun μ' S' H' i st hS' hck => ?_⟩
        obtain ⟨ws, w1, w2⟩ := k1 μ' S' H' st hS' hck
        have lw : ws.length = vs.length := by rw [w2.1, r1.1]
        have ll : (enumL ds.reverse).length = vs.length := by rw [enumL_len ds.reverse 0, List.length_reverse, r1.1]
        refine ⟨fun e => ⟨ws, w1, lw, by rw [e]; exact ll⟩, fun d hd => ?_⟩
        have hd' : (enumL ds.reverse)[i]? = some d := hd
        rw [enumL_get, Option.map_eq_some_iff] at hd'
        obtain ⟨d', hd', rfl⟩ := hd'
        obtain ⟨hi, hd'⟩ := rev_get hd'
        rw [← r1.1] at hi hd'
        obtain ⟨v, hv, rv⟩ := w2.get hd'
        refine ⟨⟨hi, ws, v, w1, lw, hv⟩, ?_⟩
        rintro _ _ ⟨T, z, rfl, hT, rfl, y⟩
        have e1 := y ws w1
        rw [hv] at e1; cases e1
        have rr : Reps X.K μ' H' [.int (i : Nat), v] [.int ((0 + i : Nat) : Int), d'] := by
          rw [Nat.zero_add]; exact (Reps.one rv).cons (.int _)
        exact ⟨step_lay hS' hT _, hS'.lay hT _, .tup ⟨upd_same, hS'.fresh hT⟩ rr.1 (rr.step (step_lay hS' hT _)).2⟩
end PL
namespace PL
open PySem PySem.Spec PyProof.Rows L2
/-! ### range(i, j, 2) -/
def upL2 (lo hi : Int) : List Dv := (List.range ((hi - lo + 1) / 2).toNat).map fun (i : Nat) => .int (lo + 2 * i)
noncomputable def rngS : List Dv → Option (List Dv)
  | [.int i, .int j, .int c] => @ite _ (0 ≤ i ∧ i < 1000000 ∧ 0 ≤ j ∧ j < 1000000 ∧ c = 2) (Classical.propDecidable _) (some (upL2 i j)) none
  | _ => none
theorem itr_up2 {K : PySem.W.Frag} {μ : List Addr} {H : Hp} {lo hi : Int} : ItR K μ H (Itc lo 2 ((hi - lo + 1) / 2).toNat) (upL2 lo hi, .tt) := by
  intro μ' S' H' i st hS _
  have hl : (upL2 lo hi).length = ((hi - lo + 1) / 2).toNat := by simp [upL2]
  refine ⟨fun e => Nat.le_of_eq (hl.symm.trans e.symm), fun d hd => ?_⟩
  have hi' : i < ((hi - lo + 1) / 2).toNat := by rw [← hl]; exact (List.getElem?_eq_some_iff.mp hd).1
  refine ⟨hi', fun x H'' y => ?_⟩
  obtain ⟨rfl, rfl⟩ := y
  have hd' : (upL2 lo hi)[i]? = some d := hd
  simp only [upL2, List.getElem?_map, List.getElem?_range hi', Option.map_some, Option.some.injEq] at hd'
  subst hd'
  rw [show lo + (i : Nat) * 2 = lo + 2 * (i : Int) by omega]
  exact ⟨.refl .., hS, .int _⟩
theorem rgc2 {i j : Int} (h0 : 0 ≤ i) (h1 : i < 1000000) (h2 : 0 ≤ j) (h3 : j < 1000000) : RgC i j 2 ((j - i + 1) / 2).toNat := by
  have e : Builtin.Range.rangeSize i j 2 = (((j - i + 1) / 2).toNat : Int) := by
    unfold Builtin.Range.rangeSize
    rw [if_pos (by decide)]
    split <;> omega
  refine ⟨by decide, by decide, ?_, e⟩
  unfold Builtin.Range.small
  rw [e]
  simp only [Builtin.Range.rangeFitsLong, Bool.and_eq_true, Bool.or_eq_true, decide_eq_true_eq, beq_iff_eq, show (2 : Int) > 0 by decide, if_true]
  omega
theorem si_rangeS {X : Cx} {W : WX} {tg a b c : Expr} {ra : RA} {p pos : Pos} (hg : Gl X "range") (hm : X.mg "range" = none) (ha : SA X W [a, b, c] ra)
    (hs : starEach [a, b, c] X.env = (false, eval a X.env) :: starEach [b, c] X.env := by rfl) (hs2 : (backTo pos (starEach [b, c] X.env)).any (·.1) = false := by rfl) : SI X W tg (.Call (.Name "range" p) [a, b, c] [] pos) (iRange rngS ra) :=
  PI.imp (pi_range3 hg hm ha hs hs2) fun σ H R h => iRange_met h fun μ1 H1 S1 vs ds w a r ew hR => by
    unfold rngS at ew
    split at ew
    · rename_i i j c
      obtain ⟨v, ws, rfl, rv, r2⟩ := r.uncons
      obtain ⟨u, u2, rfl, ru, ru2⟩ := r2.get2
      cases rv; cases ru; cases ru2
      split at ew
      · rename_i hj
        cases ew
        obtain ⟨q0, q1, q2, q3, q4⟩ := hj
        rw [q4]
        exact ⟨i, j, 2, ((j - i + 1) / 2).toNat, rfl, rgc2 q0 q1 q2 q3, hR _ itr_up2⟩
      · cases ew
    · cases ew
theorem rngS_of {i j : Int} (h0 : 0 ≤ i) (h1 : i < 1000000) (h2 : 0 ≤ j) (h3 : j < 1000000) : rngS [.int i, .int j, .int 2] = some (upL2 i j) := by
  simp only [rngS]
  rw [if_pos ⟨h0, h1, h2, h3, trivial⟩]
end PL

namespace PL
open PySem PySem.Spec PyProof.Rows L2
/-! ### max of a list of pairs of whole numbers -/
def pairsD : List Dv → Option (List (Int × Int))
  | [] => some []
  | .tup [.int a, .int b] :: r => (pairsD r).map ((a, b) :: ·)
  | _ => none
theorem pairsD_eq : ∀ {ds : List Dv} {ps : List (Int × Int)}, pairsD ds = some ps → ds = ps.map fun p => .tup [.int p.1, .int p.2]
  | [], ps, h => by simp [pairsD] at h; subst h; rfl
  | d :: r, ps, h => by
    unfold pairsD at h
    split at h
    · rename_i e; cases e
    · rename_i a b r' e
      injection e with e1 e2
      subst e1 e2
      obtain ⟨qs, e3, rfl⟩ := Option.map_eq_some_iff.mp h
      rw [pairsD_eq e3]; rfl
    · cases h
theorem pairsD_of (ps : List (Int × Int)) : pairsD (ps.map fun p => .tup [.int p.1, .int p.2]) = some ps := by
  induction ps with
  | nil => rfl
  | cons p ps ih => rw [List.map_cons, pairsD, ih]; rfl
def maxP (p : Int × Int) (ps : List (Int × Int)) : Int × Int := PySem.W.maxOf p ps
def maxpD (ds : List Dv) (S : Sto) : Out Dv := match ds with
  | [d] => match (lstOf S d).bind pairsD with
    | some (p :: ps) => .ok (.tup [.int (maxP p ps).1, .int (maxP p ps).2]) S
    | _ => .no
  | _ => .no
abbrev pD (p : Int × Int) : PyData := .tuple [.int p.1, .int p.2]
def rMaxP (K : PySem.W.Frag) : List V → Hp → VK → Prop := fun vs H Q => ∃ (a : Addr) (xs : List V) (p : Int × Int) (ps : List (Int × Int)), vs = [V.ref a] ∧ SqL K H a xs ∧ DpAll K H xs ((p :: ps).map pD) ∧
  ∀ (i : Nat) (x : V), xs[i]? = some x → (p :: ps)[i]? = some (maxP p ps) → Q x H
theorem cr_maxP {X : Cx} (hc : X.calm = true) (hu : X.A.units + 65 < cLine) : CallR X (.builtin "max") (rMaxP X.K) := by
  intro pins s σ H vs us Q I r h
  obtain ⟨a, xs, p, ps, rfl, hs, hd, q⟩ := h
  obtain ⟨its, rv, hl, _⟩ := I.list hs
  rw [Vals.ref1 r]
  obtain ⟨as, hr⟩ := Dp.readsAll I _ _ its hd rv
  have hH : PySem.W.HoldAll s.heap its.toArray.toList (p :: ps) := ⟨as, hr⟩
  have hdep : PySem.W.Datum.depth (Int × Int) ≤ 2 := by decide
  refine PySem.W.max_list_datum (I.ok.hd hc) hl.isList hH (by omega) fun i v h' tk hi hv hk => ?_
  have hlen := PySem.W.HoldAll.length hH
  have hii : i < its.length := by
    have := (Array.getElem?_eq_some_iff.mp hi).1
    simpa using this
  have hxl := rv.length
  have hiv : its[i]? = some v := by
    have : its.toArray.toList[i]? = some v := by rw [Array.getElem?_toList]; exact hi
    simpa using this
  have hlen' : its.length = (p :: ps).length := hlen
  obtain ⟨y, hy⟩ : ∃ y, (p :: ps)[i]? = some y := ⟨_, List.getElem?_eq_getElem (by omega)⟩
  obtain ⟨x, hx⟩ : ∃ x, xs[i]? = some x := ⟨_, List.getElem?_eq_getElem (by omega)⟩
  have hat : ∀ (vs : List Value) (qs : List (Int × Int)) (j : Nat) (w : Value) (z : Int × Int), PySem.W.HoldAll s.heap vs qs → vs[j]? = some w → qs[j]? = some z → PySem.W.Holds s.heap w z := by
    intro vs
    induction vs with
    | nil => intro qs j w z _ h; simp at h
    | cons w0 vs ih =>
      intro qs j w z H h1 h2
      cases qs with
      | nil => simp at h2
      | cons z0 qs =>
        cases j with
        | zero => simp at h1 h2; subst h1 h2; exact H.head.1
        | succ j => exact ih qs j w z H.head.2 (by simpa using h1) (by simpa using h2)
  obtain ⟨as1, r1⟩ := (hat _ _ i v y hH (by simpa using hiv) hy).keeps hk
  obtain ⟨as2, r2⟩ := hv
  have e := Reads.unique r1 _ _ r2
  have e1 : y = maxP p ps := by
    have e0 : (PyData.tuple [.int y.1, .int y.2]) = .tuple [.int (maxP p ps).1, .int (maxP p ps).2] := e.1
    injection e0 with e0
    injection e0 with e1 e2
    injection e2 with e2 _
    injection e1 with e1
    injection e2 with e2
    exact Prod.ext e1 e2
  subst e1
  obtain ⟨u, hu', ru⟩ := rv.get hx
  rw [hiv] at hu'; cases hu'
  exact ⟨x, H, I.kept hk, ru, q i x hx hy⟩
theorem o_maxP {K : PySem.W.Frag} : OpL K maxpD (rMaxP K) := by
  intro mg Wx μ H S vs ds Q hS r h
  unfold maxpD at h
  split at h
  · obtain ⟨v, rfl, rv⟩ := r.get1
    split at h
    · rename_i p ps e
      obtain ⟨es, e1, e2⟩ := Option.bind_eq_some_iff.mp e
      obtain ⟨a, us, rfl, hq, rr⟩ := rv.sqL hS e1
      have ee := pairsD_eq e2
      have tp : ∀ qs : List (Int × Int), toPs 3 S (qs.map fun p => .tup [.int p.1, .int p.2]) = some (qs.map pD) := fun qs => by
        induction qs with
        | nil => simp only [List.map_nil, toPs]
        | cons q qs ih => simp only [List.map_cons, toPs, toP, ih, Option.map_some]
      refine ⟨a, us, p, ps, rfl, hq, dps_of hS 3 us es _ rr (by rw [ee]; exact tp _), fun i x hx hp => ?_⟩
      have hd : es[i]? = some (.tup [.int (maxP p ps).1, .int (maxP p ps).2]) := by rw [ee, List.getElem?_map, hp]; rfl
      obtain ⟨u, hu, ru⟩ := rr.get hd
      rw [hx] at hu; cases hu
      exact h.ok hS ru
    · exact h.elim
  · exact h.elim
theorem maxp_ref {S : Sto} {l : Nat} {p : Int × Int} {ps : List (Int × Int)} (h : S[l]? = some (.lst ((p :: ps).map fun p => .tup [.int p.1, .int p.2]))) : maxpD [.ref l] S = .ok (.tup [.int (maxP p ps).1, .int (maxP p ps).2]) S := by
  simp only [maxpD, lst_ref h, Option.bind_some, pairsD_of]
theorem maxP_mem (p : Int × Int) (ps : List (Int × Int)) : maxP p ps ∈ p :: ps := by
  unfold maxP PySem.W.maxOf
  induction ps generalizing p with
  | nil => simp
  | cons q ps ih =>
    rw [List.foldl_cons]
    split
    · exact List.mem_cons_of_mem _ (ih q)
    · rcases List.mem_cons.mp (ih p) with e | e
      · rw [e]; simp
      · exact List.mem_cons_of_mem _ (List.mem_cons_of_mem _ e)
/-! ### a loop over reversed(range(n)) -/
noncomputable def iRevN (e : RE) : RI := fun ρ S => (e ρ S).bind fun d S1 => match d with
  | .int n => @ite _ (0 ≤ n ∧ n < 2 ^ 62) (Classical.propDecidable _) (.ok (downL (n - 1) (-1), .tt) S1) .no
  | _ => .no
theorem si_revN {X : Cx} {W : WX} {tg e : Expr} {re : RE} {p pos p2 pos2 : Pos} (hg : Gl X "reversed") (hm : X.mg "reversed" = none) (hg2 : Gl X "range") (hm2 : X.mg "range" = none) (he : SE X W e re)
    (h1 : starEach [e] X.env = (false, eval e X.env) :: starEach [] X.env := by rfl)
    (h2 : starEach [.Call (.Name "range" p2) [e] [] pos2] X.env = (false, eval (.Call (.Name "range" p2) [e] [] pos2) X.env) :: starEach [] X.env := by rfl) :
    SI X W tg (.Call (.Name "reversed" p) [.Call (.Name "range" p2) [e] [] pos2] [] pos) (iRevN re) :=
  PI.imp (pi_revR hg hm (prg_1 hg2 hm2 he h1) h2) fun σ H R ⟨μ, ρ, S, hS, hE, h⟩ => by
    refine ⟨μ, ρ, S, hS, hE, ?_⟩
    unfold iRevN at h
    cases q : re ρ S with
    | no => rw [q] at h; exact h.elim
    | ex x S1 => rw [q] at h; exact h
    | ok d S1 =>
      rw [q] at h
      simp only [Out.bind_ok] at h
      intro μ1 H1 v a b r
      cases r with
      | int n =>
        by_cases ok : 0 ≤ n ∧ n < 2 ^ 62
        · simp only [if_pos ok] at h
          obtain ⟨k0, k1⟩ := ok
          have e1 : (0 : Int) + (((n - 0).toNat : Nat) : Int) - 1 = n - 1 := by omega
          have e2 : (n - 0).toNat = (n - 1 - -1).toNat := by omega
          refine ⟨n, rfl, by omega, by omega, by omega, k1, ?_⟩
          rw [e1, e2]
          exact h μ1 H1 _ a b itr_down
        · simp only [if_neg ok] at h
      | _ => exact h.elim
theorem ev_irevn {e : RE} {ρ : Env} {S : Sto} : iRevN e ρ S = (e ρ S).bind fun d S1 => match d with
  | .int n => @ite _ (0 ≤ n ∧ n < 2 ^ 62) (Classical.propDecidable _) (.ok (downL (n - 1) (-1), .tt) S1) .no
  | _ => .no := rfl
/-! bits -/
theorem and1_int {S : Sto} (x : Int) : andD (.int x) (.int 1) S = .ok (.int (x % 2)) S := by rw [and_int, bitAnd_m1]
theorem shr_int {S : Sto} {i j : Int} (h : 0 ≤ j) : shrD (.int i) (.int j) S = .ok (.int (i / 2 ^ j.toNat)) S := by simp only [shrD, h, ↓reduceIte]
theorem fdiv_shl {S : Sto} {i : Int} {n : Nat} (hn : n ≤ 1000) : fdivD (.int i) (.int (1 * 2 ^ n)) S = .ok (.int (i / 2 ^ n)) S := by
  rw [Int.one_mul]
  have e : ((2 : Int) ^ n).natAbs = 2 ^ n := by rw [Int.natAbs_pow]; rfl
  have h0 : (0 : Int) < 2 ^ n := Int.pow_pos (by omega)
  have h1 : ((2 : Int) ^ n).natAbs.log2 < 9000 := by rw [e, Nat.log2_two_pow]; omega
  simp only [fdivD]
  rw [if_pos ⟨h0, h1⟩]
theorem mod_shl {S : Sto} {i : Int} {n : Nat} : modD (.int i) (.int (1 * 2 ^ n)) S = .ok (.int (i % 2 ^ n)) S := by
  rw [Int.one_mul]; exact mod_pos (Int.pow_pos (by omega))
end PL

/-! list(reversed(list)) -/
namespace PLRev
open PySem PySem.Spec PyProof.Rows RT
section
variable {prog : Program} {w : World} {A : Around} {E : Value → Shared → Prop} {s : Shared} {R : Result → Shared → Prop}
theorem extend_rev {it l S : Addr} {items : Array Value} (hh : A.handled = none) (res : Value) (c₀ : Nat) (hit : s.heap.IsRevIter it l ((items.size : Int) - 1)) (hl : s.heap.IsList l items) (hne : l ≠ it) (hn : items.size ≤ sizeLine) (hSi : S ≠ it) (hSl : S ≠ l)
    (hS : s.heap.get? S = some { cls := .type "list", data := .seq #[] c₀ })
    (hR : ∀ s' acc' c', Moved [S, it] (fun a b => b = a) s s' → s'.heap.get? S = some { cls := .type "list", dict := none, data := .seq acc' c', slots := #[] } → ItemsOf (fun i v => items[items.size - 1 - i]? = some v) acc' items.size → R (.ok (.ret res)) s') :
    wpAny (model prog w) A.in1 (Builtin.List.listExtendWith (.ref S) (.ref it) res)
      (fun fin s' => match fin with | .done f => R (.ok f) s' | .again c' => c'.quiet = true ∧ codeAny (model prog w) A c' R s') (fun e s' => R (.error e) s') s := by
  have W := (Walks.listRev (prog := prog) (w := w) (A := A.in1) hh it l hne items).toS
  have hSf : S ∉ [it, l] := by simp only [List.mem_cons, List.not_mem_nil, or_false, not_or]; exact ⟨hSi, hSl⟩
  have hT : s.TypeIs (.ref it) "list_reverseiterator" := Heap.IsRevIter.typeIs hit
  have h1 : Builtin.List.listSameRef (.ref S) (.ref it) = false := by simp [Builtin.List.listSameRef, hSi]
  unfold Builtin.List.listExtendWith
  refine wpAny_bind (wpAny_typeOf hT ?_)
  rw [if_neg (by rw [h1]; decide)]
  refine wpAny_bind (wpAny_pyIter_revIter hit ?_)
  refine wpAny_bind (wpAny_holding ?_)
  unfold Builtin.List.listLengthHint
  refine wpAny_bind (wpAny_specialOf hT nolen_lri ?_)
  show wpAny _ A.in1 (specialOf (Value.ref it) (Str.ofString "__length_hint__") >>= _) _ _ _
  refine wpAny_bind (wpAny_specialOf hT hint_lri ?_)
  generalize hid : ("list_reverseiterator.__length_hint__" : String) = id0
  wp_delta
  rw [show splitId id0 = some ("list_reverseiterator", "__length_hint__") from by subst hid; decide +kernel]
  subst hid
  refine wpAny_bind (wpAny_isInstance (b := true) hT (by rw [isSubtype_type]; kernel_rfl) ?_)
  refine wpAny_pure ?_
  rw [if_neg (by decide)]
  have e0 : ((items.size : Nat) : Int) - 1 - ((0 : Nat) : Int) = (items.size : Int) - 1 := by omega
  exact wpAny_pure ⟨plainId_quiet F.plain_extend_loop _, codeAny_extend_loopS W hn _ hSf _ items.size 0 _ _ _ rfl (Nat.zero_le _) ⟨Nat.zero_le _, by rw [e0]; exact hit, hl⟩ hS (ItemsOf.nil _) fun s' acc' c' hm hS' hacc => hR s' acc' c' hm hS' hacc⟩
theorem init_rev {it l S : Addr} {items : Array Value} (hh : A.handled = none) (hit : s.heap.IsRevIter it l ((items.size : Int) - 1)) (hl : s.heap.IsList l items) (hne : l ≠ it) (hn : items.size ≤ sizeLine) (hSi : S ≠ it) (hSl : S ≠ l)
    (hS : s.heap.get? S = some { cls := .type "list", data := .seq #[] })
    (hR : ∀ h' tk acc' c', (∀ b o, b ≠ S → b ≠ it → s.heap.get? b = some o → h'.get? b = some o) → h'.get? S = some { cls := .type "list", dict := none, data := .seq acc' c', slots := #[] } → ItemsOf (fun i v => items[items.size - 1 - i]? = some v) acc' items.size → R (.ok (.ret .none)) { s with heap := h', toks := tk }) :
    wpAny (model prog w) A.in1 (Builtin.«list.__init__» ⟨[.ref S, .ref it], []⟩)
      (fun fin s' => match fin with | .done f => R (.ok f) s' | .again c' => c'.quiet = true ∧ codeAny (model prog w) A c' R s') (fun e s' => R (.error e) s') s := by
  show wpAny _ _ (do let old ← Builtin.List.listItems (.ref S); Builtin.List.listUpdate (.ref S) (fun _ => #[]); letGo old.toList.reverse; Builtin.List.listExtendWith (.ref S) (.ref it) .none) _ _ s
  refine wpAny_bind ?_
  unfold Builtin.List.listItems
  refine wpAny_bind (wpAny_seqItems hS rfl (wpAny_pure ?_))
  show wpAny _ _ (updateSeq S (fun _ => #[]) >>= fun _ => letGo (#[] : Array Value).toList.reverse >>= fun _ => Builtin.List.listExtendWith (.ref S) (.ref it) .none) _ _ s
  refine wpAny_bind (wpAny_updateSeq hS rfl ?_)
  have hS₂ := Heap.get?_update_self (Obj.mapSeq (fun _ => (#[] : Array Value))) hS rfl
  have oth : ∀ b o, b ≠ S → s.heap.get? b = some o → (s.heap.update S (Obj.mapSeq (fun _ => (#[] : Array Value)))).get? b = some o :=
    fun b o hb e => (Heap.get?_update_other _ _ (Ne.symm hb)).trans e
  refine wpAny_bind (wpAny_letGo ?_)
  refine extend_rev hh .none _ (hit.at fun o e => oth it o (Ne.symm hSi) e) (hl.at fun o e => oth l o (Ne.symm hSl) e) hne hn hSi hSl hS₂ fun s' acc' c' hm hS' hacc => ?_
  rw [Moved.eq_with hm]
  refine hR s'.heap s'.toks acc' c' (fun b o hb hi e => hm.heap b o (fun hmem => ?_) (oth b o hb e)) hS' hacc
  rcases List.mem_cons.mp hmem with e' | hmem
  · exact hb e'
  · exact hi (List.mem_singleton.mp hmem)
theorem call_list_rev {it l : Addr} {items : Array Value} {Q : Value → Shared → Prop} (hh : A.handled = none) (hit : s.heap.IsRevIter it l ((items.size : Int) - 1)) (hl : s.heap.IsList l items) (hne : l ≠ it) (hn : items.size ≤ sizeLine)
    (hQ : ∀ h' tk acc' c', (∀ b o, b ≠ it → s.heap.get? b = some o → h'.get? b = some o) → h'.get? s.heap.objs.size = some { cls := .type "list", dict := none, data := .seq acc' c', slots := #[] } → ItemsOf (fun i v => items[items.size - 1 - i]? = some v) acc' items.size → Q (.ref s.heap.objs.size) { s with heap := h', toks := tk }) :
    wpAny (model prog w) A (call (.type "list") [.ref it]) Q E s := by
  obtain ⟨oi, hoi, _⟩ := id hit
  obtain ⟨ol, hol, _⟩ := id hl
  have hSi : s.heap.objs.size ≠ it := Nat.ne_of_gt (Heap.lt_size hoi)
  have hSl : s.heap.objs.size ≠ l := Nat.ne_of_gt (Heap.lt_size hol)
  refine callType_codes (Q₁ := fun obj s₁ => obj = .ref s.heap.objs.size ∧ s₁ = { s with heap := s.heap.push { cls := .type "list", data := .seq #[] } }) F.called_list (F.typeCall_list_1 _) F.entry_list_init
    (code_list_new _ ⟨rfl, rfl⟩) fun obj s₁ h₁ => ?_
  obtain ⟨rfl, rfl⟩ := h₁
  have hS : (s.heap.push { cls := .type "list", data := .seq #[] }).get? s.heap.objs.size = some { cls := .type "list", data := .seq #[] } := Heap.get?_push_size _ rfl
  refine ⟨⟨_, hS, rfl⟩, F.args_list_init_2 _ _, init_rev (A := A.in1) hh (hit.at fun o e => Heap.get?_push_of_some _ e) (hl.push _) hne hn hSi hSl hS fun h' tk acc' c' hk hS' hacc => ?_⟩
  exact ⟨rfl, hQ h' tk acc' c' (fun b o hb e => hk b o (Nat.ne_of_lt (Heap.lt_size e)) hb (Heap.get?_push_of_some _ e)) hS' hacc⟩
end
end PLRev
namespace PL
open PySem PySem.Spec PyProof.Rows L2
/-- list(reversed(x)), x a list: a new list -/
def tLstRev (K : PySem.W.Frag) (te : TE) : TE := fun σ H Q => te σ H fun v H1 => ∃ (a : Addr) (xs : List V), v = .ref a ∧ SqL K H1 a xs ∧ ∀ q, H1 q = none → Q (.ref q) (upd H1 q (.lst xs.reverse))
theorem pe_listRev {X : Cx} {e : Expr} {te : TE} {p p2 pos pos2 : Pos} (hc : X.calm = true) (hg : Gl X "list") (hm : X.mg "list" = none) (hg2 : Gl X "reversed") (hm2 : X.mg "reversed" = none) (he : PE X e te)
    (hs : starEach [e] X.env = (false, eval e X.env) :: starEach [] X.env := by rfl)
    (hs2 : starEach [.Call (.Name "reversed" p2) [e] [] pos2] X.env = (false, eval (.Call (.Name "reversed" p2) [e] [] pos2) X.env) :: starEach [] X.env := by rfl) :
    PE X (.Call (.Name "list" p) [.Call (.Name "reversed" p2) [e] [] pos2] [] pos) (tLstRev X.K te) := by
  refine ⟨fun pins s σ H Q I h => ?_⟩
  refine Call_ (ld_blt I hg hm boot_list (PyProof.Rows.callWith_type1 (args_cons (Call_ (ld_blt I hg2 hm2 PyProof.Rows.boot_reversed (PyProof.Rows.callWith_type1 (args_cons (thn (he.run pins s σ H _ I h) fun u s1 ⟨v, H1, I1, r1, q1⟩ => args_nil ?_) hs) hs rfl))) hs2) hs2 rfl))
  obtain ⟨a, xs, ev, hq, q⟩ := q1
  subst ev
  obtain rfl : u = Value.ref a := r1
  obtain ⟨its, rv, p', hz⟩ := I1.list hq
  refine call_reversed_list p'.isList (args_nil ?_)
  have hl := p'.isList
  obtain ⟨ol, hol, _⟩ := id hl
  have hne : a ≠ s1.heap.objs.size := Nat.ne_of_lt (Heap.lt_size hol)
  have hn : its.toArray.size ≤ sizeLine := by rw [List.size_toArray, ← rv.length]; exact hz
  refine PLRev.call_list_rev (s := { s1 with heap := s1.heap.push (revObj a ((its.toArray.size : Int) - 1)) }) (I1.ok.hd hc) ⟨_, Heap.get?_push_size _ rfl, rfl, rfl⟩ (hl.push _) hne hn fun h' tk acc c' hk e' hi => ?_
  have le : s1.heap.objs.size ≤ (s1.heap.push (revObj a ((its.toArray.size : Int) - 1))).objs.size := by
    show _ ≤ (s1.heap.objs.push _).size
    rw [Array.size_push]; exact Nat.le_succ _
  refine ⟨.ref _, upd H1 _ (.lst xs.reverse), I1.laid (t' := tk) (fun b o e => hk b o (Nat.ne_of_lt (Heap.lt_size e)) (Heap.get?_push_of_some _ e)) le (show ObjOk X.prog X.w _ _ _ (.lst xs.reverse) from ⟨by rw [List.length_reverse]; exact hz, acc.toList, c', RT.vals_rev rv hi, ?_⟩), rfl, q _ (I1.hok.fresh le)⟩
  rw [Array.toArray_toList]; exact e'
def lrevD (d : Dv) (S : Sto) : Out Dv := match lstOf S d with
  | some ds => newL ds.reverse S
  | none => .no
theorem se_listRev {X : Cx} {W : WX} {e : Expr} {ra : RE} {p p2 pos pos2 : Pos} (hc : X.calm = true) (hg : Gl X "list") (hm : X.mg "list" = none) (hg2 : Gl X "reversed") (hm2 : X.mg "reversed" = none) (he : SE X W e ra)
    (hs : starEach [e] X.env = (false, eval e X.env) :: starEach [] X.env := by rfl)
    (hs2 : starEach [.Call (.Name "reversed" p2) [e] [] pos2] X.env = (false, eval (.Call (.Name "reversed" p2) [e] [] pos2) X.env) :: starEach [] X.env := by rfl) :
    SE X W (.Call (.Name "list" p) [.Call (.Name "reversed" p2) [e] [] pos2] [] pos) (eUn lrevD ra) :=
  PE.imp (pe_listRev hc hg hm hg2 hm2 he hs hs2) fun σ H Q ⟨μ, ρ, S, hS, hE, h⟩ => (bnd hS hE h).mono fun v H1 ⟨μ1, S1, d, hS1, hE1, s1, rv, h1⟩ => by
    unfold lrevD at h1
    split at h1
    · rename_i ds el
      obtain ⟨a, vs, rfl, q, r⟩ := rv.sqL hS1 el
      exact ⟨a, vs, rfl, q, fun q' n => h1.lst hS1 n r.rev⟩
    · exact h1.elim
theorem lrev_ref {S : Sto} {l : Nat} {ds : List Dv} (h : S[l]? = some (.lst ds)) : lrevD (.ref l) S = newL ds.reverse S := by simp only [lrevD, lst_ref h]
end PL
/-! ### equality of deep data -/
namespace PL
open PySem PySem.Spec PyProof.Rows L2
def wide (d : PyData) : Bool := d.canLay0 && decide (d.depth ≤ 225)
theorem canLay_of_wide {d : PyData} (h : wide d = true) : d.canLay0 = true := (Bool.and_eq_true_iff.mp h).1
theorem depth_of_wide {d : PyData} (h : wide d = true) : d.depth ≤ 225 := of_decide_eq_true (Bool.and_eq_true_iff.mp h).2
theorem room_of_wide {A : Around} {da db : PyData} (h : wide da = true) (hu : A.units + 230 < cLine) : A.units + min da.depth db.depth < cLine := by
  have h1 := depth_of_wide h
  have h2 : min da.depth db.depth ≤ da.depth := Nat.min_le_left _ _
  omega
def rEqW (K : PySem.W.Frag) : R2 := fun x y H Q => ∃ d e, Dp K H x d ∧ Dp K H y e ∧ wide d = true ∧ wide e = true ∧ Q (.bl (PyData.eqv d e)) H
def rNeW (K : PySem.W.Frag) : R2 := fun x y H Q => ∃ d e, Dp K H x d ∧ Dp K H y e ∧ wide d = true ∧ wide e = true ∧ Q (.bl (!PyData.eqv d e)) H
theorem op_eqW {X : Cx} (hu : X.A.units + 230 < cLine) : OpR X (compareOp .Eq) (rEqW X.K) := by
  intro pins s σ H x y v u Q I rx ry h
  obtain ⟨d, e, hd, he, sd, se, q⟩ := h
  obtain ⟨as, r1⟩ := Dp.reads I d x v hd rx
  obtain ⟨bs, r2⟩ := Dp.reads I e y u he ry
  exact SeqAt.compareEq_reads r1 r2 (canLay_of_wide sd) (canLay_of_wide se) (room_of_wide sd hu) ⟨.bl _, H, I, rfl, q⟩
theorem op_neW {X : Cx} (hu : X.A.units + 230 < cLine) : OpR X (compareOp .NotEq) (rNeW X.K) := by
  intro pins s σ H x y v u Q I rx ry h
  obtain ⟨d, e, hd, he, sd, se, q⟩ := h
  obtain ⟨as, r1⟩ := Dp.reads I d x v hd rx
  obtain ⟨bs, r2⟩ := Dp.reads I e y u he ry
  exact SeqAt.compareNe_reads r1 r2 (canLay_of_wide sd) (canLay_of_wide se) (room_of_wide sd hu) ⟨.bl _, H, I, rfl, q⟩
def eqqW (S : Sto) (x y : Dv) : Option Bool := match toP 240 S x, toP 240 S y with
  | some p, some q => if wide p = true ∧ wide q = true then some (PyData.eqv p q) else none
  | _, _ => none
def eqW (x y : Dv) (S : Sto) : Out Dv := match eqqW S x y with
  | some b => .ok (.bl b) S
  | none => .no
def neW (x y : Dv) (S : Sto) : Out Dv := match eqqW S x y with
  | some b => .ok (.bl (!b)) S
  | none => .no
section
variable {K : PySem.W.Frag}
theorem eqqW_some {S : Sto} {x y : Dv} {b : Bool} (h : eqqW S x y = some b) : ∃ p q, toP 240 S x = some p ∧ toP 240 S y = some q ∧ wide p = true ∧ wide q = true ∧ b = PyData.eqv p q := by
  unfold eqqW at h
  split at h
  · rename_i p q e1 e2
    split at h
    · rename_i hc
      exact ⟨p, q, e1, e2, hc.1, hc.2, (Option.some.inj h).symm⟩
    · cases h
  · cases h
theorem o_eqW : Op2 K eqW (rEqW K) := by
  intro mg Wx μ H S x y d e Q hS rx ry h
  unfold eqW at h
  split at h
  · rename_i b hb
    obtain ⟨p, q, e1, e2, s1, s2, rfl⟩ := eqqW_some hb
    exact ⟨p, q, dp_of hS 240 _ _ _ rx e1, dp_of hS 240 _ _ _ ry e2, s1, s2, h.ok hS (.bl _)⟩
  · exact h.elim
theorem o_neW : Op2 K neW (rNeW K) := by
  intro mg Wx μ H S x y d e Q hS rx ry h
  unfold neW at h
  split at h
  · rename_i b hb
    obtain ⟨p, q, e1, e2, s1, s2, rfl⟩ := eqqW_some hb
    exact ⟨p, q, dp_of hS 240 _ _ _ rx e1, dp_of hS 240 _ _ _ ry e2, s1, s2, h.ok hS (.bl _)⟩
  · exact h.elim
end
/-- data that are alike: both read as the same -/
theorem eqW_of {S : Sto} {x y : Dv} {p q : PyData} (h1 : toP 240 S x = some p) (h2 : toP 240 S y = some q) (w1 : wide p = true) (w2 : wide q = true) : eqW x y S = .ok (.bl (PyData.eqv p q)) S := by
  simp only [eqW, eqqW, h1, h2, w1, w2, and_self, ↓reduceIte]
theorem neW_of {S : Sto} {x y : Dv} {p q : PyData} (h1 : toP 240 S x = some p) (h2 : toP 240 S y = some q) (w1 : wide p = true) (w2 : wide q = true) : neW x y S = .ok (.bl (!PyData.eqv p q)) S := by
  simp only [neW, eqqW, h1, h2, w1, w2, and_self, ↓reduceIte]
theorem hu230 {A : Around} {k : Nat} (hr : Room k A) (hk : 10 ≤ k) : A.units + 230 < cLine := by have := hr.un; omega
end PL

namespace PL
open PySem PySem.Spec PyProof.Rows L2
/-! ### loops over dicts -/
def iFz (e : RE) : RI := fun ρ S => (e ρ S).bind fun d S1 => match d with
  | .ref l => match S1[l]? with
    | some (.fk kvs) => .ok (kvs.map fun kv => kD kv.1, .tt) S1
    | some (.ft kvs) => .ok (kvs.map fun kv => .tup (kv.1.map kD), .tt) S1
    | _ => .no
  | _ => .no
section
variable {K : PySem.W.Frag} {μ : List Addr} {H : Hp} {S : Sto} {a : Addr} {v : V} {d : Dv}
theorem SimS.notup (h : SimS K μ S H) {q : Addr} {xs : List V} (e : H q = some (.tup xs)) : q ∉ μ := fun m => by
  obtain ⟨l, hl, eq⟩ := List.getElem_of_mem m
  have hs : l < S.length := by rw [← h.len]; exact hl
  have ob := h.ob l q S[l] (by rw [List.getElem?_eq_getElem hl, eq]) (List.getElem?_eq_getElem hs)
  generalize S[l] = o at ob
  cases o with
  | lst ds => obtain ⟨vs, e1, _⟩ := ob; rw [e] at e1; cases e1
  | dk kvs => obtain ⟨vs, e1, _⟩ := ob; rw [e] at e1; cases e1
  | dt kvs => obtain ⟨vs, e1, _⟩ := ob; rw [e] at e1; cases e1
  | fk kvs => obtain ⟨vs, ⟨_, e1⟩, _⟩ := ob; rw [e] at e1; cases e1
  | ft kvs => obtain ⟨vs, ⟨_, e1⟩, _⟩ := ob; rw [e] at e1; cases e1
theorem rep_kVs : ∀ k : List L2.Key, Reps K μ H (k.map kV) (k.map kD)
  | [] => .nil
  | x :: k => (rep_kVs k).cons (rep_kV x)
theorem key_at {α β : Type} {κ : Type} {ws : List (κ × α)} {kvs : List (κ × β)} (h : ws.map (·.1) = kvs.map (·.1)) {i : Nat} {k : κ} {x : α} (e : ws[i]? = some (k, x)) : (kvs.map (·.1))[i]? = some k := by
  rw [← h, List.getElem?_map, e]; rfl
theorem itr_fk {o : Obj} {ws : List (L2.Key × V)} {kvs : List (L2.Key × Dv)} (e1 : H a = some (.frz o (.dK ws))) (e2 : ws.map (·.1) = kvs.map (·.1)) : ItR K μ H (Itk a o ws) (kvs.map fun kv => kD kv.1, .tt) := by
  intro μ' S' H' i st hS _
  have hl : ws.length = kvs.length := by have := congrArg List.length e2; simpa using this
  have e := st.frz _ _ _ e1
  refine ⟨fun hi => ⟨e, by simp at hi; omega⟩, fun d hd => ?_⟩
  have hi := (List.getElem?_eq_some_iff.mp hd).1
  simp at hi
  refine ⟨⟨e, by omega⟩, fun x H'' y => ?_⟩
  obtain ⟨rfl, k, v, hk, rfl⟩ := y
  refine ⟨.refl .., hS, ?_⟩
  have hk2 := key_at e2 hk
  have hd2 : (kvs.map fun kv => kD kv.1)[i]? = some d := hd
  rw [show (kvs.map fun kv => kD kv.1) = (kvs.map (·.1)).map kD by rw [List.map_map]; rfl, List.getElem?_map, hk2] at hd2
  injection hd2 with hd2
  subst hd2
  exact rep_kV k
theorem itr_ft {o : Obj} {ws : List (List L2.Key × V)} {kvs : List (List L2.Key × Dv)} (e1 : H a = some (.frz o (.dT ws))) (e2 : ws.map (·.1) = kvs.map (·.1)) : ItR K μ H (Itkt a o ws) (kvs.map fun kv => .tup (kv.1.map kD), .tt) := by
  intro μ' S' H' i st hS _
  have hl : ws.length = kvs.length := by have := congrArg List.length e2; simpa using this
  have e := st.frz _ _ _ e1
  refine ⟨fun hi => ⟨e, by simp at hi; omega⟩, fun d hd => ?_⟩
  have hi := (List.getElem?_eq_some_iff.mp hd).1
  simp at hi
  refine ⟨⟨e, by omega⟩, fun x H'' y => ?_⟩
  obtain ⟨rfl, k, v, q, hk, rfl, hq⟩ := y
  refine ⟨.refl .., hS, ?_⟩
  have hk2 := key_at e2 hk
  have hd2 : (kvs.map fun kv => Dv.tup (kv.1.map kD))[i]? = some d := hd
  rw [show (kvs.map fun kv => Dv.tup (kv.1.map kD)) = (kvs.map (·.1)).map (fun k => .tup (k.map kD)) by rw [List.map_map]; rfl, List.getElem?_map, hk2] at hd2
  injection hd2 with hd2
  subst hd2
  have r := rep_kVs (K := K) (μ := μ') (H := H'') k
  exact .tup ⟨hq, hS.notup hq⟩ r.1 r.2
theorem rep_upd {u : HO} (m : a ∈ μ) (r : Rep K μ H v d) : Rep K μ (upd H a u) v d := by
  induction r with
  | non => exact .non
  | bl b => exact .bl b
  | int i => exact .int i
  | str x => exact .str x
  | ref h => exact .ref h
  | kt h e _ ih => exact .kt h e fun i v d h1 h2 => ih i v d h1 h2
  | tup h e _ ih => exact .tup ⟨by rw [upd_ne (fun z => h.2 (by rw [z]; exact m))]; exact h.1, h.2⟩ e fun i v d h1 h2 => ih i v d h1 h2
  | fl h e _ ih =>
    refine .fl ?_ e fun i v d h1 h2 => ih i v d h1 h2
    rcases h with ⟨⟨o, h⟩, n⟩ | h
    · exact .inl ⟨⟨o, by rw [upd_ne (fun z => n (by rw [z]; exact m))]; exact h⟩, n⟩
    · exact .inr h
  | xa => exact .xa
  | xc h n _ ih => exact .xc (by rw [upd_ne (fun z => n (by rw [z]; exact m))]; exact h) n ih
theorem reps_upd {u : HO} {vs : List V} {ds : List Dv} (m : a ∈ μ) (r : Reps K μ H vs ds) : Reps K μ (upd H a u) vs ds := ⟨r.1, fun i v d h1 h2 => rep_upd m (r.2 i v d h1 h2)⟩
theorem obr_upd {u : HO} {b : Addr} {o : Ob} (m : a ∈ μ) (n : b ≠ a) (q : ObR K μ H b o) : ObR K μ (upd H a u) b o := by
  cases o with
  | lst ds => obtain ⟨vs, g, r⟩ := q; exact ⟨vs, by rw [upd_ne n]; exact g, reps_upd m r⟩
  | dk kvs => obtain ⟨vs, g, g2, r⟩ := q; exact ⟨vs, by rw [upd_ne n]; exact g, g2, reps_upd m r⟩
  | dt kvs => obtain ⟨vs, g, g2, r⟩ := q; exact ⟨vs, by rw [upd_ne n]; exact g, g2, reps_upd m r⟩
  | fk kvs => obtain ⟨vs, g, g2, r⟩ := q; exact ⟨vs, by rw [upd_ne n]; exact g, g2, reps_upd m r⟩
  | ft kvs => obtain ⟨vs, g, g2, r⟩ := q; exact ⟨vs, by rw [upd_ne n]; exact g, g2, reps_upd m r⟩
theorem sim_upd {l : Nat} {o : Ob} {u : HO} (h : SimS K μ S H) (e : μ[l]? = some a) (r : ObR K μ (upd H a u) a o) : SimS K μ (S.set l o) (upd H a u) := by
  have m := List.mem_of_getElem? e
  refine ⟨by rw [List.length_set]; exact h.len, h.nd, fun k b o' e1 e2 => ?_⟩
  by_cases hk : l = k
  · subst hk
    rw [e] at e1; cases e1
    have hl : l < S.length := by rw [← h.len]; exact (List.getElem?_eq_some_iff.mp e).1
    rw [List.getElem?_set_self hl] at e2
    cases e2; exact r
  · rw [List.getElem?_set_ne hk] at e2
    have hne : b ≠ a := fun z => by
      subst z
      have h1 := List.getElem?_eq_some_iff.mp e
      have h2 := List.getElem?_eq_some_iff.mp e1
      exact hk ((List.getElem_inj h.nd).mp (h1.2.trans h2.2.symm))
    exact obr_upd m hne (h.ob k b o' e1 e2)
theorem step_unlock {μ' : List Addr} {H' : Hp} {u : HO} {od : Obj} (m : a ∈ μ) (e : H a = some u) (nf : ∀ o w, u ≠ .frz o w) (s : Step μ (upd H a (.frz od u)) μ' H') : Step μ H μ' (upd H' a u) := by
  refine ⟨?_, fun b o h n => ?_, fun b h => ?_, fun b o w h => ?_⟩
  · obtain ⟨ν, e1, f⟩ := s.pre
    refine ⟨ν, e1, fun b hb => ?_⟩
    have := f b hb
    by_cases q : b = a
    · rw [q, upd_same] at this; cases this
    · rw [upd_ne q] at this; exact this
  · have q : b ≠ a := fun z => n (by rw [z]; exact m)
    rw [upd_ne q]
    exact s.keep b o (by rw [upd_ne q]; exact h) n
  · by_cases q : b = a
    · rw [q, upd_same]; exact fun z => nomatch z
    · rw [upd_ne q]
      exact s.live b (by rw [upd_ne q]; exact h)
  · have q : b ≠ a := fun z => by
      rw [z, e] at h
      injection h with h
      exact nf o w h
    rw [upd_ne q]
    exact s.frz b o w (by rw [upd_ne q]; exact h)
end
section
variable {X : Cx} {W : WX} {tg iter : Expr} {body : List Stmt} {t : Tg} {b : RC} {re : RE} {pos : Pos}
theorem si_fz (he : SE X W iter re) : SI X W tg iter (iFz re) :=
  PI.imp (pi_keys he) fun σ H R ⟨μ, ρ, S, hS, hE, h⟩ => by
    refine ⟨μ, ρ, S, hS, hE, ?_⟩
    unfold iFz at h
    cases q : re ρ S with
    | no => rw [q] at h; exact h.elim
    | ex x S1 => rw [q] at h; exact h
    | ok d S1 =>
      rw [q] at h
      simp only [Out.bind_ok] at h
      intro μ1 H1 v a b r
      cases r with
      | @ref l ad hl =>
        dsimp only at h
        split at h
        · rename_i w S2 eq
          split at eq
          · rename_i kvs es
            injection eq with e1 e2
            subst e1 e2
            obtain ⟨ws, ⟨o, e1⟩, e2, e3⟩ := a.at' es hl
            exact ⟨ad, o, rfl, .inl ⟨ws, e1, h μ1 H1 _ a b (itr_fk e1 e2)⟩⟩
          · rename_i kvs es
            injection eq with e1 e2
            subst e1 e2
            obtain ⟨ws, ⟨o, e1⟩, e2, e3⟩ := a.at' es hl
            exact ⟨ad, o, rfl, .inr ⟨ws, e1, h μ1 H1 _ a b (itr_ft e1 e2)⟩⟩
          · cases eq
        · rename_i x S2 eq
          split at eq <;> cases eq
        · exact h.elim
      | _ => exact h.elim
def unlk (l : Nat) (o : Ob) : OutS → OutS
  | .fl (.nx ρ) S => .fl (.nx ρ) (S.set l o)
  | .fl (.rt d) S => .fl (.rt d) (S.set l o)
  | _ => .no
noncomputable def cForD (i : Nat) (t : Tg) (b : RC) : RC := fun ρ S => match ρ[i]? with
  | some (some (.ref l)) => match S[l]? with
    | some (.dk kvs) => unlk l (.dk kvs) (cFor (iFz (eVar i)) t b ρ (S.set l (.fk kvs)))
    | some (.dt kvs) => unlk l (.dt kvs) (cFor (iFz (eVar i)) t b ρ (S.set l (.ft kvs)))
    | _ => .no
  | _ => .no
theorem unlk_met {K : PySem.W.Frag} {mg : Str → Option Value} {W : WX} {μ : List Addr} {H : Hp} {l : Nat} {a : Addr} {o : Ob} {u : HO} {od : Obj} {out : OutS} {D : Ends} (m : μ[l]? = some a) (e : H a = some u) (nf : ∀ o w, u ≠ .frz o w)
    (hr : ∀ μ' H', Step μ H μ' (upd H' a u) → μ'[l]? = some a → ObR K μ' (upd H' a u) a o) (h : MetS K mg W μ H (unlk l o out) D) :
    MetS K mg W μ (upd H a (.frz od u)) out ⟨fun σ' H' => H' a = some (.frz od u) ∧ D.nx σ' (upd H' a u), fun v H' => H' a = some (.frz od u) ∧ D.rt v (upd H' a u), fun σ' H' => H' a = some (.frz od u) ∧ D.bk σ' (upd H' a u), fun σ' H' => H' a = some (.frz od u) ∧ D.ct σ' (upd H' a u)⟩ := by
  have mm := List.mem_of_getElem? m
  cases out with
  | fl f S' =>
    cases f with
    | nx ρ' =>
      intro μ' σ' H' hS hE s
      have e' := s.frz a _ _ upd_same
      have m' := s.get m
      have s2 := step_unlock mm e nf s
      refine ⟨e', h μ' σ' (upd H' a u) (sim_upd hS m' (hr μ' H' s2 m')) ⟨hE.1, fun i d q => ?_⟩ s2⟩
      obtain ⟨v, q1, q2⟩ := hE.2 i d q
      exact ⟨v, q1, rep_upd (List.mem_of_getElem? m') q2⟩
    | rt d =>
      intro μ' v H' hS s r
      have e' := s.frz a _ _ upd_same
      have m' := s.get m
      have s2 := step_unlock mm e nf s
      exact ⟨e', h μ' v (upd H' a u) (sim_upd hS m' (hr μ' H' s2 m')) s2 (rep_upd (List.mem_of_getElem? m') r)⟩
    | bk ρ' => exact h.elim
    | ct ρ' => exact h.elim
  | ex x ρ' S' => exact h.elim
  | no => exact h.elim
theorem sc_forD {i : Nat} (hp : PassesOwn (model X.prog X.w) X.A X.env X.xe) (hc : X.calm = true) (hx : SE X W iter (eVar i)) (hg : SG X tg t) (hb : SCs X W body b) (hs : ∀ x, foldedSetIterable iter X.env x = pure x := by intro _; rfl) : SC X W (.For tg iter body [] pos) (cForD i t b) :=
  PS.imp (ps_lock (sc_for hp hc (si_fz hx) hg hb hs)) fun D σ H ⟨μ, ρ, S, hS, hE, h⟩ => by
    unfold cForD at h
    split at h
    · rename_i l el
      obtain ⟨v, ev, rv⟩ := hE.2 i _ el
      cases rv with
      | @ref l a hl =>
        have ml := List.mem_of_getElem? hl
        have env : ∀ od u, SimE X.K μ (upd H a (.frz od u)) ρ σ := fun od u => ⟨hE.1, fun i d q => by
          obtain ⟨v, q1, q2⟩ := hE.2 i d q
          exact ⟨v, q1, rep_upd ml q2⟩⟩
        split at h
        · rename_i kvs es
          obtain ⟨ws, e1, e2, e3⟩ := hS.at' es hl
          refine ⟨a, .dK ws, e1, trivial, fun od => ⟨μ, ρ, S.set l (.fk kvs), sim_upd hS hl ⟨ws, ⟨od, upd_same⟩, e2, reps_upd ml e3⟩, env od _, ?_⟩⟩
          exact unlk_met (o := .dk kvs) hl e1 (fun _ _ z => by cases z) (fun μ' H' s m' => ⟨ws, upd_same, e2, e3.step s⟩) h
        · rename_i kvs es
          obtain ⟨ws, e1, e2, e3⟩ := hS.at' es hl
          refine ⟨a, .dT ws, e1, trivial, fun od => ⟨μ, ρ, S.set l (.ft kvs), sim_upd hS hl ⟨ws, ⟨od, upd_same⟩, e2, reps_upd ml e3⟩, env od _, ?_⟩⟩
          exact unlk_met (o := .dt kvs) hl e1 (fun _ _ z => by cases z) (fun μ' H' s m' => ⟨ws, upd_same, e2, e3.step s⟩) h
        · exact h.elim
    · exact h.elim
end
end PL

/-! ### sorted(d), d a dict whose keys are tuples of numbers, none of them empty -/
namespace PL
open PySem PySem.Spec PyProof.Rows L2
def kP : L2.Key → PyData
  | .inl i => .int i
  | .inr x => .str x
def kInt : L2.Key → Bool
  | .inl _ => true
  | .inr _ => false
noncomputable def keyLe (a b : List L2.Key) : Bool := PySem.W.dataLe false (fun k : List L2.Key => PyData.tuple (k.map kP)) a b
theorem alikeAll_k : ∀ (a b : List L2.Key), a.all kInt = true → b.all kInt = true → PySem.W.alikeAll (a.map kP) (b.map kP) = true
  | [], _, _, _ => by simp [PySem.W.alikeAll]
  | _ :: _, [], _, _ => by simp [PySem.W.alikeAll]
  | x :: a, y :: b, ha, hb => by
    rw [List.all_cons, Bool.and_eq_true] at ha hb
    cases x with
    | inr x => exact absurd ha.1 (by simp [kInt])
    | inl i => cases y with
      | inr y => exact absurd hb.1 (by simp [kInt])
      | inl j =>
        show PySem.W.alikeAll (.int i :: a.map kP) (.int j :: b.map kP) = true
        rw [PySem.W.alikeAll, alikeAll_k a b ha.2 hb.2]
        simp [PySem.W.alike]
theorem depth_k : ∀ (a : List L2.Key), PyData.depthAll (a.map kP) = 0
  | [] => by simp [PyData.depthAll]
  | .inl i :: a => by
    show PyData.depthAll (.int i :: a.map kP) = 0
    rw [PyData.depthAll, depth_k a]; simp [PyData.depth]
  | .inr i :: a => by
    show PyData.depthAll (.str i :: a.map kP) = 0
    rw [PyData.depthAll, depth_k a]; simp [PyData.depth]
theorem readsAll_k {h : Heap} : ∀ {k : List L2.Key} {its : List Value}, Vals (k.map kV) its → ReadsAll h its (k.map kP) []
  | [], _, r => by cases r; exact .nil
  | .inl i :: k, _, r => by
    cases r with
    | cons r1 r2 =>
      obtain ⟨t, rfl⟩ := r1
      exact .cons (as := []) (bs := []) (.int i t) (readsAll_k r2)
  | .inr x :: k, _, r => by
    cases r with
    | cons r1 r2 =>
      obtain ⟨t, rfl⟩ := r1
      exact .cons (as := []) (bs := []) (.str x t) (readsAll_k r2)
abbrev TupsAt (H : Hp) : List (List L2.Key) → List Addr → Prop := Paired fun k b => H b = some (.tup (k.map kV))
/-- keys that can be sorted: tuples of numbers, the first one not empty, or at most one -/
def sortOk {α : Type} (kvs : List (List L2.Key × α)) : Bool := (kvs.all fun kv => kv.1.all kInt) && (decide (kvs.length ≤ 1) || match kvs with | kv :: _ => !kv.1.isEmpty | [] => true)
def rSortT : List V → Hp → VK → Prop := fun xs H Q => ∃ (a : Addr) (kvs : List (List L2.Key × V)), xs = [V.ref a] ∧ H a = some (.dT kvs) ∧ sortOk kvs = true ∧
  ∀ q bs, H q = none → TupsAt H ((kvs.map (·.1)).mergeSort keyLe) bs → Q (.ref q) (upd H q (.lst (bs.map V.ref)))
/-- some firsts of tuples, some of them empty -/
inductive TupF (h : Heap) : List Value → List (Option Value) → Prop
  | nil : TupF h [] []
  | cons {a : Addr} {o : Obj} {xs : Array Value} {n : Nat} {vs : List Value} {fs : List (Option Value)} : h.get? a = some o → o.cls = .type "tuple" → o.data = .seq xs n → TupF h vs fs → TupF h (.ref a :: vs) (xs[0]? :: fs)
theorem tupF_walk {M : Model} {A : Around} {E : Value → Shared → Prop} {s : Shared} : ∀ (vs : List Value) (fs : List (Option Value)) {Q : List (Option Value) → Shared → Prop}, TupF s.heap vs fs → Q fs s → wpAny M A (vs.mapM firstOfTuple') Q E s
  | _, _, Q, .nil, h => by rw [List.mapM_nil]; exact wpAny_pure h
  | _, _, Q, .cons (o := o) (xs := xs) ho hc hd t, h => by
    rw [List.mapM_cons]
    refine wpAny_bind ?_
    rw [PySem.W.kas_first_eq]
    refine wpAny_bind (PySem.W.Looks.here (show PySem.W.Looks M s.heap (typeOf (.ref _)) o.cls from (PySem.W.Looks.ld ho).andThen .now) ?_)
    rw [hc, if_neg (by first | decide | simp)]
    exact wpAny_bind (listItems_at ho hd (wpAny_pure (wpAny_bind (tupF_walk _ _ (Q := fun bs s' => wpAny M A (pure (xs[0]? :: bs)) Q E s') t (wpAny_pure h)))))
theorem kind_tupF {M : Model} {A : Around} {E : Value → Shared → Prop} {s : Shared} {vs : List Value} {fs : List (Option Value)} {Q : SortKind → Shared → Prop} (t : TupF s.heap vs fs) (h1 : none ∈ fs) {f : Value} {r : List (Option Value)} (h2 : fs = some f :: r) (h : Q general' s) : wpAny M A (keyKind' vs.toArray) Q E s := by
  rw [keyKind'_eq, List.mapM_toArray, map_eq_pure_bind]
  refine wpAny_bind (wpAny_bind (tupF_walk vs _ t (wpAny_pure ?_)))
  rw [if_neg (by
    simp only [List.all_toArray, List.all_eq_true]
    exact fun z => absurd (z none h1) (by simp)), h2]
  rw [if_pos (by simp)]
  exact wpAny_pure h
theorem read_tup {h : Heap} {v : Value} {k : List L2.Key} {as : List Addr} (r : Reads h v (.tuple (k.map kP)) as) : ∃ (a : Addr) (o : Obj) (xs : Array Value) (n : Nat), v = .ref a ∧ h.get? a = some o ∧ o.cls = .type "tuple" ∧ o.data = .seq xs n ∧ (k = [] → xs[0]? = none) ∧ (k ≠ [] → ∃ f, xs[0]? = some f) := by
  cases r with
  | @tuple a o vs n _ _ h1 h2 h3 h4 =>
    refine ⟨a, o, vs, n, rfl, h1, h2, h3, fun z => ?_, fun z => ?_⟩
    · subst z
      have h4' : ReadsAll h vs.toList [] as := h4
      have : vs.toList = [] := by
        cases hv : vs.toList with
        | nil => rfl
        | cons x r => rw [hv] at h4'; cases h4'
      rw [← Array.getElem?_toList, this]; rfl
    · cases k with
      | nil => exact absurd rfl z
      | cons x r =>
        have h4' : ReadsAll h vs.toList (kP x :: r.map kP) as := h4
        cases hv : vs.toList with
        | nil => rw [hv] at h4'; cases h4'
        | cons f fr => exact ⟨f, by rw [← Array.getElem?_toList, hv]; rfl⟩
theorem each_tupF {h : Heap} : ∀ {vs : List Value} {ks : List (List L2.Key)}, PySem.W.EachIs (fun v k => ∃ as, Reads h v (.tuple (k.map kP)) as) vs ks → ∃ fs, TupF h vs fs ∧ ([] ∈ ks → none ∈ fs) ∧ ((∃ k r, ks = k :: r ∧ k ≠ []) → ∃ f r, fs = some f :: r)
  | _, _, .nil => ⟨[], .nil, by simp, by simp⟩
  | _, _, .cons (b := k) ⟨as, r⟩ t => by
    obtain ⟨fs, h1, h2, _⟩ := each_tupF t
    obtain ⟨a, o, xs, n, rfl, e1, e2, e3, e4, e5⟩ := read_tup r
    refine ⟨xs[0]? :: fs, .cons e1 e2 e3 h1, fun z => ?_, fun ⟨k', r', z, nz⟩ => ?_⟩
    · rcases List.mem_cons.mp z with z | z
      · rw [e4 z.symm]; exact List.mem_cons_self
      · exact List.mem_cons_of_mem _ (h2 z)
    · injection z with z _
      subst z
      obtain ⟨f, hf⟩ := e5 nz
      exact ⟨f, fs, by rw [hf]⟩
theorem sorts_T {prog : Program} {w : World} {A : Around} {s : Shared} {vs : List Value} {ks : List (List L2.Key)} (e : PySem.W.EachIs (fun v k => ∃ as, Reads s.heap v (.tuple (k.map kP)) as) vs ks) (hal : PySem.W.AllAlike (ks.map fun k => PyData.tuple (k.map kP))) (h0 : ks.length ≤ 1 ∨ ∃ k r, ks = k :: r ∧ k ≠ []) (hu : ∀ d, d ∈ ks.map (fun k => PyData.tuple (k.map kP)) → A.units + d.depth < cLine) :
    PySem.W.SortsAt prog w A s (PySem.W.dataKind s.heap (ks.map fun k => PyData.tuple (k.map kP))) vs := by
  have em := PySem.W.each_map (R := fun v d => ∃ as, Reads s.heap v d as) (fun k : List L2.Key => PyData.tuple (k.map kP)) e
  by_cases hn : [] ∈ ks
  · refine ⟨fun v hv => ?_, general', ?_, fun h2 E Q hq => ?_⟩
    · obtain ⟨d, hd, as, r⟩ := em.left v hv
      exact ⟨_, PySem.W.dataKind_some hal hd r⟩
    · intro E x y a b Q ha hb hq
      obtain ⟨d, as, hd, ra, rfl⟩ := PySem.W.dataKind_inv ha
      obtain ⟨d', as', hd', rb, rfl⟩ := PySem.W.dataKind_inv hb
      obtain ⟨k, _, rfl⟩ := List.mem_map.mp hd
      exact PySem.W.oneLt_alike (f := false) (fun z => nomatch z) ra rb (hal _ hd _ hd') (by simp) (Nat.lt_of_le_of_lt (Nat.add_le_add_left (Nat.min_le_left _ _) _) (hu _ hd)) hq
    · obtain ⟨fs, t1, t2, t3⟩ := each_tupF e
      have hl : vs.length = ks.length := e.length
      obtain ⟨f, r, hf⟩ := t3 (h0.resolve_left (by omega))
      exact kind_tupF t1 (t2 hn) hf hq
  · refine PySem.W.SortsAt.data em hal (.inl fun d hd => ?_) hu
    obtain ⟨k, hk, rfl⟩ := List.mem_map.mp hd
    cases k with
    | nil => exact absurd hk hn
    | cons x r => exact ⟨kP x, r.map kP, rfl⟩
theorem sort_T {prog : Program} {w : World} {A : Around} {E : Value → Shared → Prop} {s : Shared} {vs : List Value} {ks : List (List L2.Key)} {R : Value → List L2.Key → Prop} {a : Addr} {n : Nat} {Q : Value → Shared → Prop} (ho : s.heap.get? a = some (seqObj "list" vs.toArray n)) (e : PySem.W.EachIs R vs ks) (er : PySem.W.EachIs (fun v k => ∃ as, Reads s.heap v (.tuple (k.map kP)) as ∧ a ∉ as) vs ks)
    (hal : PySem.W.AllAlike (ks.map fun k => PyData.tuple (k.map kP))) (h0 : ks.length ≤ 1 ∨ ∃ k r, ks = k :: r ∧ k ≠ []) (hL : ks.length ≤ sizeLine) (hu : ∀ k ∈ ks, A.units + 1 + (PyData.tuple (k.map kP)).depth < cLine)
    (h : ∀ out, out.length = ks.length → PySem.W.EachIs R out (ks.mergeSort keyLe) → Q .none { s with heap := sortedHeap s.heap a vs (List.toArray out) }) : wpAny (model prog w) A (call (.builtin "list.sort") [.ref a]) Q E s := by
  have er' : PySem.W.EachIs (fun v k => ∃ as, Reads (PySem.W.sortingHeap s.heap a vs) v (.tuple (k.map kP)) as) vs ks := PySem.W.each_keepBut (enc := fun k : List L2.Key => PyData.tuple (k.map kP)) (h' := PySem.W.sortingHeap s.heap a vs) (fun _ _ hb q => PySem.W.sortingHeap_old hb q) (fun o q => by rw [ho] at q; rw [← Option.some.inj q]) hal er
  refine wpAny_call_entry slot_list_sort ⟨_, ho, rfl⟩ entry_list_sort (PySem.W.list_sort_vals (κ := PySem.W.dataKind (PySem.W.sortingHeap s.heap a vs) (ks.map fun k => PyData.tuple (k.map kP))) ho (sorts_T (s := { s with heap := PySem.W.sortingHeap s.heap a vs }) er' hal h0 (fun d hd => ?_)) (by rw [e.length]; exact hL) ⟨.none, rfl, ?_⟩) (args_list_sort _)
  · obtain ⟨k, hk, rfl⟩ := List.mem_map.mp hd
    exact hu k hk
  · exact h _ (by rw [PySem.W.sortVals_length false rfl]; exact e.length) (PySem.W.sortVals_data (enc := fun k : List L2.Key => PyData.tuple (k.map kP)) false e er' hal)
theorem each_paired {α β : Type} {R : α → β → Prop} : ∀ {as : List α} {bs : List β}, PySem.W.EachIs R as bs → Paired (fun b a => R a b) bs as
  | _, _, .nil => .nil
  | _, _, .cons h t => .cons h (each_paired t)
theorem paired_refs {H : Hp} : ∀ {ks : List (List L2.Key)} {vs : List Value}, Paired (fun k v => ∃ b, v = Value.ref b ∧ H b = some (.tup (k.map kV))) ks vs → ∃ bs, vs = bs.map Value.ref ∧ TupsAt H ks bs
  | _, _, .nil => ⟨[], rfl, .nil⟩
  | _, _, .cons ⟨b, e, h⟩ t => by
    obtain ⟨bs, e2, h2⟩ := paired_refs t
    exact ⟨b :: bs, by rw [e, e2]; rfl, .cons h h2⟩
theorem vals_ref : ∀ bs : List Addr, Vals (bs.map V.ref) (bs.map Value.ref)
  | [] => .nil
  | _ :: r => .cons rfl (vals_ref r)
theorem kt_each {H : Hp} : ∀ {kvs : List (List L2.Key × V)} {ks : List (List L2.Key × Addr × Value)}, KT H kvs ks → PySem.W.EachIs (fun v k => ∃ b, v = Value.ref b ∧ H b = some (.tup (k.map kV))) (ks.map fun x => Value.ref x.2.1) (kvs.map (·.1))
  | _, _, .nil => .nil
  | _, _, .cons h t => .cons ⟨_, rfl, h.2.1⟩ (kt_each t)
/-- the items of a dict, gathered: the heap has grown -/
theorem gather_grow {prog : Program} {w : World} {A : Around} {E : Value → Shared → Prop} {s : Shared} {T : String} {r d : Addr} {n : Nat} {P : Nat → Value → Prop} {OK : Heap → Prop} {R : List Value → Shared → Prop} (K : PySem.W.KdlSrc prog w T r d n P OK) (hh : A.handled = none) (hok : OK s.heap) (hn : n ≤ sizeLine)
    (h : ∀ (h' : Heap) (tk : Nat) (acc : Array Value), (∀ b o, s.heap.get? b = some o → h'.get? b = some o) → s.heap.objs.size < h'.objs.size → ItemsOf P acc n → R acc.toList { s with heap := h', toks := tk }) : wpAny (model prog w) A (collect (.ref r)) R E s := by
  have hlt := K.there _ hok
  have hP : (s.heap.push (seqObj "list" #[] 0)).get? s.heap.objs.size = some (seqObj "list" #[] 0) := Heap.get?_push_size _ rfl
  have fin : ∀ (h' : Heap) (tk : Nat) (acc : Array Value) (c : Nat), (∀ b o, b ≠ s.heap.objs.size → (s.heap.push (seqObj "list" #[] 0)).get? b = some o → h'.get? b = some o) → h'.get? s.heap.objs.size = some { cls := .type "list", dict := none, data := .seq acc c, slots := #[] } → ItemsOf P acc n → R acc.toList { s with heap := h', toks := tk } :=
    fun h' tk acc c k e it => h h' tk acc (fun b o q => k b o (Nat.ne_of_lt (Heap.lt_size q)) (Heap.get?_push_of_some _ q)) (Heap.lt_size e) it
  unfold collect
  refine wpAny_bind (wpAny_runValue (codeAny_builtin entry_proto_collect' (by
    rw [Around.under_plainId PySem.F.plain_proto_collect _]
    exact wpAny_bind (m := newList []) (wpAny_newObj_type (wpAny_pure ⟨plainId_quiet PySem.F.plain_list_iadd _, codeAny_builtin entry_list_iadd' (by
      rw [Around.under_plainId PySem.F.plain_list_iadd _]
      refine wpAny_mono (PySem.W.kdl_extend (A := A) (s := { s with heap := s.heap.push (seqObj "list" #[] 0) })
        (R := fun q s' => ∃ (h' : Heap) (tk : Nat) (acc : Array Value) (c : Nat), q = .ok (.ret (.ref s.heap.objs.size)) ∧ s' = { s with heap := h', toks := tk } ∧ h'.get? s.heap.objs.size = some { cls := .type "list", dict := none, data := .seq acc c, slots := #[] } ∧ R acc.toList s')
        K hh (K.keep _ _ hok fun b _ o e => Heap.get?_push_of_some _ e) s.heap.objs.size (Nat.ne_of_gt hlt.1) (Nat.ne_of_gt hlt.2) (.ref s.heap.objs.size) 0 hP
        (fun h' tk acc c k e it => ⟨h', tk, acc, c, rfl, rfl, e, fin h' tk acc c k e it⟩) hn) (fun f s' x => ?_) fun e s' x => ?_
      · cases f with
        | done f =>
          obtain ⟨h', tk, acc, c, e, rfl, e2, q⟩ := x
          cases e
          exact wpAny_bind (m := load s.heap.objs.size) (wpAny_load e2 (wpAny_pure q))
        | again c₁ =>
          refine ⟨x.1, codeAny_mono x.2 fun q s₂ y => ?_⟩
          obtain ⟨h', tk, acc, c, rfl, rfl, e2, q⟩ := y
          exact wpAny_bind (m := load s.heap.objs.size) (wpAny_load e2 (wpAny_pure q))
      · obtain ⟨_, _, _, _, z, _⟩ := x
        cases z)⟩)))))
theorem call_sortT {X : Cx} (hc : X.calm = true) (hu : X.A.units + 4 < cLine) : CallR X (.builtin "sorted") rSortT := by
  intro pins s σ H xs us Q I r h
  obtain ⟨d, kvs, rfl, hd, hk, q⟩ := h
  obtain ⟨u, rfl, rx⟩ := r.one
  cases rx
  obtain ⟨z, hs, ks, pr, o, es, ep, ho, hx, hdt, he, hn⟩ := (show ObjOk X.prog X.w H s.heap d (.dT kvs) from I.hok d _ hd)
  have l1 : es.size = ks.length := size_of_entries he
  have l2 : kvs.length = ks.length := Paired.length pr
  refine PySem.Calls.call_function_entry kind_sorted plain_sorted entry_sorted (args_sorted1 _) ?_
  unfold Builtin.«sorted»
  refine wpAny_bind (m := checkCount "sorted" 1 1 _) (wpAny_pure ?_)
  refine wpAny_bind (gather_grow (A := X.A.in1) (kdl_raw hs hx hdt) (I.ok.hd hc) ho (by omega) fun h' tk acc kp grow it => ?_)
  have ea : acc.toList = ks.map fun x => Value.ref x.2.1 := by
    have hl : acc.toList.length = ks.length := by rw [Array.length_toList, it.1]; exact l1
    apply List.ext_getElem?
    intro j
    rw [List.getElem?_map]
    cases hj : acc.toList[j]? with
    | none =>
      have h1 := List.getElem?_eq_none_iff.mp hj
      rw [List.getElem?_eq_none (by omega)]
      all_goals rfl
    | some v =>
      obtain ⟨en, hen, hv⟩ := it.2 j v (by rw [← Array.getElem?_toList]; exact hj)
      have qe := entry_at he j
      rw [hen] at qe
      cases hb : ks[j]? with
      | none =>
        rw [hb] at qe
        exact nomatch (show some en = none from qe)
      | some b =>
        rw [hb] at qe
        have e2 : en = entryOfKey (tupleKind (mixKind X.prog X.w)) b := Option.some.inj qe
        rw [hv, e2]
        all_goals rfl
  have e0 := kt_each pr
  rw [← ea] at e0
  have hz : (kvs.map (·.1)).length ≤ sizeLine := by rw [List.length_map]; exact z
  refine wpAny_bind (wpAny_newList ?_ (by rw [ea, List.length_map]; omega))
  have hD : (h'.push (seqObj "list" acc.toList.toArray 0)).get? h'.objs.size = some (seqObj "list" acc.toList.toArray 0) := Heap.get?_push_size _ rfl
  have kb : ∀ b o, s.heap.get? b = some o → (h'.push (seqObj "list" acc.toList.toArray 0)).get? b = some o := fun b o e => Heap.get?_push_of_some _ (kp b o e)
  have nb : ∀ b o, s.heap.get? b = some o → b ≠ h'.objs.size := fun b o e => Nat.ne_of_lt (Heap.lt_size (kp b o e))
  refine wpAny_bind (wpAny_holding ?_)
  unfold sortOk at hk
  rw [Bool.and_eq_true] at hk
  obtain ⟨hk1, hk2⟩ := hk
  have hki : ∀ kv ∈ kvs, kv.1.all kInt = true := fun kv h => List.all_eq_true.mp hk1 kv h
  refine sort_T (s := { s with heap := h'.push (seqObj "list" acc.toList.toArray 0), toks := tk }) hD e0 ?_ ?_ ?_ hz ?_ ?_
  · refine e0.mono fun v k hv => ?_
    obtain ⟨b, rfl, hb⟩ := hv
    obtain ⟨_, its, rv, ot, hot, hct, nt, hdt⟩ := (show ObjOk X.prog X.w H s.heap b (.tup (k.map kV)) from I.hok b _ hb)
    exact ⟨[], .tuple (kb _ _ hot) hct hdt (readsAll_k rv), by simp⟩
  · intro x hx' y hy'
    obtain ⟨k, hk1, rfl⟩ := List.mem_map.mp hx'
    obtain ⟨k', hk2, rfl⟩ := List.mem_map.mp hy'
    obtain ⟨kv, hkv, rfl⟩ := List.mem_map.mp hk1
    obtain ⟨kv', hkv', rfl⟩ := List.mem_map.mp hk2
    show PySem.W.alike (.tuple _) (.tuple _) = true
    rw [PySem.W.alike]
    exact alikeAll_k _ _ (hki _ hkv) (hki _ hkv')
  · rw [Bool.or_eq_true] at hk2
    rcases hk2 with hk2 | hk2
    · left; rw [List.length_map]; exact of_decide_eq_true hk2
    · cases kvs with
      | nil => left; simp
      | cons kv r =>
        right
        refine ⟨kv.1, r.map (·.1), rfl, fun z => ?_⟩
        have hk3 : (!kv.1.isEmpty) = true := hk2
        rw [z] at hk3
        exact absurd hk3 (by simp)
  · intro k _
    have : (PyData.tuple (k.map kP)).depth = 1 := by rw [PyData.depth, depth_k]
    show X.A.units + 1 + 1 + (PyData.tuple (k.map kP)).depth < cLine
    omega
  · intro out hlen eo
    refine wpAny_pure ⟨_, rfl, ?_⟩
    obtain ⟨bs, hbs, ht⟩ := paired_refs (each_paired eo)
    refine ⟨.ref h'.objs.size, upd H h'.objs.size (.lst (bs.map V.ref)), I.laid (t' := tk) (fun b o e => ?_) ?_ ?_, rfl, q _ bs (I.hok.fresh ?_) ht⟩
    · rw [sortedHeap_old (nb b o e) (Heap.lt_size (kb b o e))]
      exact kb b o e
    · exact Nat.le_of_lt grow
    · obtain ⟨e, he'⟩ := sortedHeap_at (out := out.toArray) hD
      refine ⟨by rw [List.length_map]; have := Paired.length ht; rw [List.length_mergeSort] at this; omega, out, e, by rw [hbs]; exact vals_ref bs, he'⟩
    · exact Nat.le_of_lt grow
noncomputable def sortTD (ds : List Dv) (S : Sto) : Out Dv := match ds with
  | [.ref l] => match S[l]? with
    | some (.dt kvs) => if sortOk kvs = true then newL (((kvs.map (·.1)).mergeSort keyLe).map fun k => .tup (k.map kD)) S else .no
    | _ => .no
  | _ => .no
theorem reps_tups {K : PySem.W.Frag} {μ : List Addr} {H : Hp} {S : Sto} (hS : SimS K μ S H) : ∀ {ks : List (List L2.Key)} {bs : List Addr}, TupsAt H ks bs → Reps K μ H (bs.map V.ref) (ks.map fun k => .tup (k.map kD))
  | _, _, .nil => .nil
  | _, _, .cons (a := k) h t => by
    have r := rep_kVs (K := K) (μ := μ) (H := H) k
    exact (reps_tups hS t).cons (.tup ⟨h, hS.notup h⟩ r.1 r.2)
theorem sortOk_keys {α β : Type} {ws : List (List L2.Key × α)} {kvs : List (List L2.Key × β)} (h : ws.map (·.1) = kvs.map (·.1)) : sortOk ws = sortOk kvs := by
  have h1 : (ws.all fun kv => kv.1.all kInt) = (kvs.all fun kv => kv.1.all kInt) := by
    have e1 : (ws.all fun kv => kv.1.all kInt) = (ws.map (·.1)).all fun k => k.all kInt := by rw [List.all_map]; rfl
    have e2 : (kvs.all fun kv => kv.1.all kInt) = (kvs.map (·.1)).all fun k => k.all kInt := by rw [List.all_map]; rfl
    rw [e1, e2, h]
  have h2 : ws.length = kvs.length := by have := congrArg List.length h; rwa [List.length_map, List.length_map] at this
  unfold sortOk
  rw [h1, h2]
  congr 2
  cases ws with
  | nil =>
    cases kvs with
    | nil => rfl
    | cons y s => cases h2
  | cons x r =>
    cases kvs with
    | nil => cases h2
    | cons y s =>
      rw [List.map_cons, List.map_cons] at h
      injection h with h _
      show (!x.1.isEmpty) = (!y.1.isEmpty)
      rw [h]
theorem o_sortT {K : PySem.W.Frag} : OpL K sortTD rSortT := by
  intro mg Wx μ H S vs ds Q hS r h
  unfold sortTD at h
  split at h
  · rename_i l
    obtain ⟨v, rfl, rv⟩ := r.get1
    cases rv with
    | @ref l a hl =>
      split at h
      · rename_i kvs e
        split at h
        · rename_i hk
          obtain ⟨ws, e1, e2, e3⟩ := hS.at' e hl
          refine ⟨a, ws, rfl, e1, (sortOk_keys e2).trans hk, fun q bs n ht => ?_⟩
          · rw [e2] at ht
            exact h.lst hS n (reps_tups hS ht)
        · exact h.elim
      · exact h.elim
  · exact h.elim
theorem hu4 {A : Around} {k : Nat} (hr : Room k A) : A.units + 4 < cLine := by have := hr.un; omega
theorem sortT_any {S : Sto} {l : Nat} {kvs : List (List L2.Key × Dv)} (h : S[l]? = some (.dt kvs)) (hk : sortOk kvs = true) : sortTD [.ref l] S = newL (((kvs.map (·.1)).mergeSort keyLe).map fun k => .tup (k.map kD)) S := by
  simp only [sortTD, h, hk, if_true]
theorem sortT_ref {S : Sto} {l : Nat} {kvs : List (List L2.Key × Dv)} (h : S[l]? = some (.dt kvs)) (hk : (kvs.all fun kv => !kv.1.isEmpty && kv.1.all kInt) = true) : sortTD [.ref l] S = newL (((kvs.map (·.1)).mergeSort keyLe).map fun k => .tup (k.map kD)) S := by
  refine sortT_any h ?_
  unfold sortOk
  rw [Bool.and_eq_true]
  refine ⟨List.all_eq_true.mpr fun kv hkv => ?_, ?_⟩
  · have := List.all_eq_true.mp hk kv hkv
    rw [Bool.and_eq_true] at this
    exact this.2
  · cases kvs with
    | nil => rfl
    | cons kv r =>
      have := List.all_eq_true.mp hk kv List.mem_cons_self
      rw [Bool.and_eq_true] at this
      rw [Bool.or_eq_true]
      exact .inr this.1
/-! ### {key: value}, the key a tuple -/
def tDisp1 (tk tv : TE) : TE := fun σ H Q => ∀ p, H p = none → tPairs [(tk, tv)] σ (upd H p (.dT [])) fun ps H2 => ∃ x y, ps = [(x, y)] ∧ H2 p = some (.dT []) ∧ ∃ (k : List L2.Key) (b : Addr), x = .ref b ∧ H2 b = some (.tup (k.map kV)) ∧ Q (.ref p) (upd H2 p (.dT [(k, y)]))
theorem pe_disp1 {X : Cx} {pos : Pos} {k v : Expr} {tk tv : TE} (hu : X.A.units + 1 < cLine) (h : PPs X pos [some k] [v] [(tk, tv)]) : PE X (.Dict [some k] [v] pos) (tDisp1 tk tv) := by
  refine ⟨fun pins s σ H Q I q => ?_⟩
  have hn := I.hok.fresh (Nat.le_refl s.heap.objs.size)
  have I1 := I.laid (a := s.heap.objs.size) (o := .dT []) (h' := s.heap.push { cls := .type "dict", data := .dict #[] }) (t' := s.toks) (fun _ _ q => Heap.get?_push_of_some _ q) (Nat.le_refl _) (dt_empty s.heap I.big)
  refine wpAny_Dict_any rfl rfl (List.cons_ne_nil _ _) (Nat.le_of_ble_eq_true rfl) (thn (h.run pins _ σ _ _ I1 (q _ hn)) fun ws s2 ⟨ps, H2, I2, rel, x, y, ep, e, κ, b, ex, eb, q2⟩ => ?_)
  subst ep ex
  cases rel with
  | @cons p w ps ws h t =>
    cases t
    obtain ⟨w1, w2⟩ := w
    obtain rfl : w1 = Value.ref b := h.1
    unfold storeAll
    rw [List.forIn_cons]
    obtain ⟨z, hd, xs, rel, dd⟩ := dt_of I2.hok e
    cases rel
    refine wpAny_bind (wpAny_bind (wpAny_dictSet_heap (hsz := Nat.zero_le _) (show X.A.units < cLine from Nat.lt_of_succ_lt hu) (key_of I2.hok eb) dd fun h' dd' hs => wpAny_pure ?_))
    show wpAny _ _ (forIn [] PUnit.unit _) _ _ _
    rw [List.forIn_nil]
    obtain ⟨q, es, ep, hq, h2, h3, h4, _, h5⟩ := dd'
    refine wpAny_pure ⟨.ref s.heap.objs.size, upd H2 s.heap.objs.size (.dT [(κ, y)]), d_write I2 (by rw [e]; exact True.intro) hs ⟨q, hq⟩ ⟨by rw [sizeLine_eq]; exact Nat.le_of_ble_eq_true rfl, hd, _, ((KT.put (kvs := []) (xs := []) .nil κ eb h.2).keeps fun c ys ec => ?_), q, es, ep, hq, h2, h3, h4, h5⟩, rfl, q2⟩
    rw [upd_ne (ne_of ec e (fun z => nomatch z))]
    exact ec
def eDisp1 (r : RE × RE) : RE := fun ρ S => (evPairs [r] ρ (S ++ [.dt []])).bind fun qs S2 => match qs with
  | [(x, y)] => match S2[S.length]?, tkeyOf x with
    | some (.dt []), some k => .ok (.ref S.length) (S2.set S.length (.dt [(k, y)]))
    | _, _ => .no
  | _ => .no
theorem se_disp1 {X : Cx} {W : WX} {k v : Expr} {pos : Pos} {r : RE × RE} (hu : X.A.units + 1 < cLine) (h : SPs X W pos [some k] [v] [r]) : SE X W (.Dict [some k] [v] pos) (eDisp1 r) :=
  PE.imp (pe_disp1 hu h.pp) fun σ H Q ⟨μ, ρ, S, hS, hE, hm⟩ p hp => by
    have st0 := step_new hS hp (.dT [])
    have hS0 : SimS X.K (μ ++ [p]) (S ++ [.dt []]) (upd H p (.dT [])) := hS.new hp ⟨[], upd_same, rfl, .nil⟩
    have hm0 := Met.step st0 hm
    refine tp_met [r] ((bnd (R1 := RPairs X.K) hS0 (hE.step st0) hm0).mono fun ps H2 ⟨μ2, S2, qs, hS2, hE2, s2, rp, h2⟩ => ?_)
    have hp2 : μ2[S.length]? = some p := s2.get (new_at hS p)
    split at h2
    · rename_i x y
      split at h2
      · rename_i κ eS ek
        obtain ⟨ws, w1, w2, _⟩ := hS2.at' eS hp2
        rw [List.map_nil, List.map_eq_nil_iff] at w2
        subst w2
        obtain ⟨v1, e1, r1⟩ := rp.1.get1
        obtain ⟨v2, e2, r2⟩ := rp.2.get1
        cases ps with
        | nil => cases e1
        | cons pp ps =>
          cases ps with
          | cons _ _ => cases e1
          | nil =>
            cases e1; cases e2
            obtain ⟨b, eb1, eb⟩ := tkeyOf_rep r1 ek
            refine ⟨pp.1, pp.2, rfl, w1, κ, b, eb1, eb, ?_⟩
            exact h2.put (RP := Rep X.K) hS2 hp2 (u := .dT [(κ, pp.2)]) ⟨_, upd_same, rfl, (Reps.one r2).step (step_put hS2 hp2 _)⟩ (.ref hp2)
      · exact h2.elim
    · exact h2.elim
end PL
namespace PL
open PySem PySem.Spec PyProof.Rows L2
/-! ### range(i, j, c), upwards -/
def stepL (i c : Int) (n : Nat) : List Dv := (List.range n).map fun (k : Nat) => .int (i + (k : Int) * c)
noncomputable def upOk (i j c : Int) : Bool := @decide (0 ≤ i ∧ i ≤ 1000000 ∧ 0 ≤ j ∧ j ≤ 1000000 ∧ 1 ≤ c ∧ c ≤ 1000000) (Classical.propDecidable _)
def upN (i j c : Int) : Nat := (if i < j then (j - i - 1) / c + 1 else 0).toNat
noncomputable def rngU : List Dv → Option (List Dv)
  | [.int i, .int j, .int c] => if upOk i j c = true then some (stepL i c (upN i j c)) else none
  | _ => none
theorem upOk_iff {i j c : Int} : upOk i j c = true ↔ 0 ≤ i ∧ i ≤ 1000000 ∧ 0 ≤ j ∧ j ≤ 1000000 ∧ 1 ≤ c ∧ c ≤ 1000000 := by
  unfold upOk; exact @decide_eq_true_iff _ (Classical.propDecidable _)
theorem rgC_up {i j c : Int} (h : 0 ≤ i ∧ i ≤ 1000000 ∧ 0 ≤ j ∧ j ≤ 1000000 ∧ 1 ≤ c ∧ c ≤ 1000000) : RgC i j c (upN i j c) := by
  obtain ⟨h1, h2, h3, h4, h5, h6⟩ := h
  have d0 : i < j → 0 ≤ (j - i - 1) / c := fun q => Int.ediv_nonneg (by omega) (by omega)
  have d1 : i < j → (j - i - 1) / c ≤ j - i - 1 := fun q => Int.ediv_le_self _ (by omega)
  have d2 : i < j → (j - i - 1) / c * c ≤ j - i - 1 := fun q => Int.ediv_mul_le _ (by omega)
  have e : Builtin.Range.rangeSize i j c = (upN i j c : Int) := by
    unfold Builtin.Range.rangeSize upN
    rw [if_pos (by omega)]
    by_cases q : i < j
    · have := d0 q
      rw [if_pos q, Int.toNat_of_nonneg (by omega)]
    · rw [if_neg q]; rfl
  refine ⟨by omega, by omega, ?_, e⟩
  unfold Builtin.Range.small
  rw [e]
  unfold upN
  by_cases q : i < j
  · have := d0 q
    have := d1 q
    have := d2 q
    rw [if_pos q, Int.toNat_of_nonneg (by omega)]
    generalize (j - i - 1) / c = m at *
    have cp : c > 0 := by omega
    simp only [Builtin.Range.rangeFitsLong, Bool.and_eq_true, Bool.or_eq_true, decide_eq_true_eq, beq_iff_eq, cp, if_true]
    omega
  · rw [if_neg q]
    have cp : c > 0 := by omega
    simp only [Builtin.Range.rangeFitsLong, Bool.and_eq_true, Bool.or_eq_true, decide_eq_true_eq, beq_iff_eq, cp, if_true]
    omega
theorem itr_up {K : PySem.W.Frag} {μ : List Addr} {H : Hp} {i c : Int} {n : Nat} : ItR K μ H (Itc i c n) (stepL i c n, .tt) := by
  intro μ' S' H' k st hS _
  have hl : (stepL i c n).length = n := by simp [stepL]
  refine ⟨fun e => Nat.le_of_eq (hl.symm.trans e.symm), fun d hd => ?_⟩
  have hi' : k < n := by rw [← hl]; exact (List.getElem?_eq_some_iff.mp hd).1
  refine ⟨hi', fun x H'' y => ?_⟩
  obtain ⟨rfl, rfl⟩ := y
  have hd' : (stepL i c n)[k]? = some d := hd
  simp only [stepL, List.getElem?_map, List.getElem?_range hi', Option.map_some, Option.some.injEq] at hd'
  subst hd'
  exact ⟨.refl .., hS, .int _⟩
theorem si_rangeU {X : Cx} {W : WX} {tg : Expr} {ra : RA} {p pos : Pos} {a b c : Expr} (hg : Gl X "range") (hm : X.mg "range" = none) (ha : SA X W [a, b, c] ra)
    (hs : starEach [a, b, c] X.env = (false, eval a X.env) :: starEach [b, c] X.env := by rfl) (hs2 : (backTo pos (starEach [b, c] X.env)).any (·.1) = false := by rfl) : SI X W tg (.Call (.Name "range" p) [a, b, c] [] pos) (iRange rngU ra) :=
  PI.imp (pi_range3 hg hm ha hs hs2) fun σ H R h => iRange_met h fun μ1 H1 S1 vs ds w a r ew hR => by
    unfold rngU at ew
    split at ew
    · rename_i i j c
      obtain ⟨v, ws, rfl, rv, r2⟩ := r.uncons
      obtain ⟨u, u2, rfl, ru, ru2⟩ := r2.get2
      cases rv; cases ru; cases ru2
      split at ew
      · rename_i hj
        cases ew
        exact ⟨i, j, c, _, rfl, rgC_up (upOk_iff.mp hj), hR _ itr_up⟩
      · cases ew
    · cases ew
end PL
namespace PL
open PySem PySem.Spec PyProof.Rows L2
/-! ### defs with defaults -/
theorem fn_defD {P : Program} {w : World} {K : PySem.W.Frag} {mg : Str → Option Value} {base : Heap} {x qual : Str} {st : Stmt} {f : Addr} {fd : FuncData} {dvs : List V} {N ps : List Str} {k m n : Nat} {c : RC} {G : List Dv → Sto → Out Dv} (F : FunD K x qual (defArgs st) (defBody st) (defScope st) dvs [] f fd) (S : FnScope N ps (defScope st)) (hG : G = runF c m n) (hm : N.length = m) (hn : ps.length = n)
    (hbody : ∀ (cdv : Value) (A : Around) (outer : List PySem.Env) (s : Shared) (H : Hp) (E : XK), Room k (A.deeper (envOfC qual (defScope st) s.heap.objs.size f cdv)) →
      SCs (cxOf CX0 P w K mg base N qual (defScope st) f cdv A outer s H E).nox (fun cl d _ H => E cl d H) (defBody st) c) : FnOk P w K mg base CX0 (k + 1) f fd ps (spD K mg G n) := by
  subst hG hm hn
  refine F.ok (CX := CX0) S (fun vs H Q E ⟨μ, S, ds, hn, hS, r, h⟩ => r.1.trans hn) fun cdv A outer s H vs Q E hr h => ?_
  obtain ⟨t, h1, h2⟩ := def_body (X := (cxOf CX0 P w K mg base N qual (defScope st) f cdv A outer s H E).nox) (hbody cdv A outer s H E hr) h
  exact ⟨t, h1.nox, h2⟩
theorem fun_mkD {K : PySem.W.Frag} {x qual : Str} {st : Stmt} {f T : Addr} {oc tc : Value} {od an td : Option Addr} {osl ts : Array (Option Value)} {kV doc pm cdv ct : Value} {dvs : List V} {its : Array Value} {n : Nat} (l : K.lookup f = some ⟨oc, od, .func (PySem.W.fnOf x qual (defArgs st) (defBody st) (defScope st) (.ref T) kV doc pm an cdv ct), osl⟩)
    (lT : K.lookup T = some ⟨tc, td, .seq its n, ts⟩) (r : Vals dvs its.toList) (hd : dvs ≠ []) (c : PySem.W.codeIn K cdv qual = true) (k : PySem.W.keepIn K (.ref f) = true) : FunD K x qual (defArgs st) (defBody st) (defScope st) dvs [] f (PySem.W.fnOf x qual (defArgs st) (defBody st) (defScope st) (.ref T) kV doc pm an cdv ct) :=
  ⟨⟨oc, od, .ref T, kV, doc, pm, an, cdv, ct, osl, rfl, l, c, .inr ⟨hd, T, _, its.toList, n, rfl, lT, by rw [Array.toArray_toList], r⟩, .inl rfl⟩, k⟩
theorem bindsD_all {K : PySem.W.Frag} {x qual : Str} {params : Arguments} {body : List Stmt} {scope : Scope} {dvs : List V} {f : Addr} {fd : FuncData} {ps : List Str} (F : FunD K x qual params body scope dvs [] f fd) (hd : dvs ≠ [])
    (h : ∀ (T : Addr) (kV doc pm : Value) (an : Option Addr) (cdv ct : Value) (us its : List Value), us.length = ps.length → its.length = dvs.length →
      ∃ k, bindArgs (PySem.W.fnOf x qual params body scope (.ref T) kV doc pm an cdv ct) ⟨us, []⟩ = seqItems? (.ref T) >>= k ∧ k (some its.toArray) = pure (ps.zip (us ++ its.drop dvs.length))) : Binds K fd ps [] := by
  obtain ⟨ds, r, b⟩ := F.binds1 ps.length dvs.length hd (by omega) h
  rw [List.drop_length] at r
  cases r
  exact b
def eOwnD (n : Nat) (dv : List Dv) (F : List Dv → Sto → Out Dv) (a : RA) : RE := fun ρ S => (a ρ S).bind fun ds S1 => if ds.length + dv.length = n then F (ds ++ dv) S1 else .no
theorem se_ownD {X : Cx} {W : WX} {e : Expr} {es : List Expr} {rs : RA} {p pos : Pos} {CX : CXT} {k n : Nat} {fa : Addr} {fd : FuncData} {ps : List Str} {x : Str} {F : List Dv → Sto → Out Dv} (G : FnOk X.prog X.w X.K X.mg X.base CX k fa fd ps (spD X.K X.mg F n)) (hr : Room k X.A) (hg : Gl X x) (hm : X.mg x = some (.ref fa)) (hk : PySem.W.keepIn X.K (.ref fa) = true)
    (hb : ∃ ds, Vals [.non] ds ∧ Binds X.K fd ps ds) (hx : ∀ σ, PassesAt CX X σ (W.at σ)) (ha : SA X W (e :: es) rs) (hdb : (x == ("__debug__" : Str)) = false := by decide) (he : starEach (e :: es) X.env = (false, eval e X.env) :: starEach es X.env := by rfl) (hpl : (backTo pos (starEach es X.env)).any (·.1) = false := by rfl) :
    SE X W (.Call (.Name x p) (e :: es) [] pos) (eOwnD n [.non] F rs) := by
  obtain ⟨ds, hd, hb⟩ := hb
  exact PE.imp (pe_callSD (E := fun σ => W.at σ) G hr hg hm hk hb hd hx ha hdb he hpl) fun σ H Q ⟨μ, ρ, S, hS, hE, h⟩ => (bnd (R1 := Reps X.K) hS hE h).mono fun vs H1 ⟨μ1, S1, ds, hS1, hE1, s1, rv, h1⟩ => by
    split at h1
    · rename_i hn
      exact ⟨μ1, S1, ds ++ [.non], by rw [List.length_append]; exact hn, hS1, rv.append (.one .non), h1⟩
    · exact h1.elim
theorem ev_ownD (n : Nat) (dv : List Dv) (F : List Dv → Sto → Out Dv) (a : RA) (ρ : Env) (S : Sto) : eOwnD n dv F a ρ S = (a ρ S).bind fun ds S1 => if ds.length + dv.length = n then F (ds ++ dv) S1 else .no := .trans rfl rfl
end PL
namespace PL
open PySem PySem.Spec PyProof.Rows L2
/-! ### d.clear(), d a dict whose keys are tuples -/
def rClearT : V → List V → Hp → VK → Prop := fun x vs H Q => ∃ (a : Addr) (kvs : List (List L2.Key × V)), x = .ref a ∧ vs = [] ∧ H a = some (.dT kvs) ∧ Q .non (upd H a (.dT []))
theorem mt_clearT {X : Cx} : MtR X "dict.clear" rClearT := by
  intro pins s σ H x vs v us Q I rx rv h
  obtain ⟨a, kvs, rfl, rfl, e, q⟩ := h
  obtain rfl : v = Value.ref a := rx
  obtain rfl := rv.zero
  obtain ⟨z, hd, xs, rel, o, es, ep, ho, hx, hdat, he, his, hn⟩ := dt_of I.hok e
  have l1 : es.size = xs.length := size_of_entries he
  have l2 : kvs.length = xs.length := Paired.length rel
  refine call_meetsIn PySem.F.slot_dict_clear ⟨o, ho, hx.1⟩ PySem.F.entry_dict_clear (PySem.F.args_dict_clear_1 _) (meets_dict_clear_raw a) ⟨es, ep, ⟨o, ho, hx, hdat⟩, by omega, fun h' hr hs => ?_⟩
  obtain ⟨o', ho', hx', hdat'⟩ := hr
  refine ⟨.non, upd H a (.dT []), d_write (t' := s.toks) I (by rw [e]; exact True.intro) hs ⟨o', ho'⟩ ⟨Nat.zero_le _, hd, [], .nil, o', #[], ep + 1, ho', hx', hdat', rfl, List.nodup_nil⟩, rfl, q⟩
def clearTD (d : Dv) (ds : List Dv) (S : Sto) : Out Dv := match d, ds with
  | .ref l, [] => match S[l]? with
    | some (.dt _) => .ok .non (S.set l (.dt []))
    | _ => .no
  | _, _ => .no
theorem o_clearT {K : PySem.W.Frag} : OpM K clearTD rClearT := by
  intro mg Wx μ H S x vs d ds Q hS rx rs h
  unfold clearTD at h
  split at h
  · cases rx with
    | @ref l a hl =>
      cases rs.un0
      split at h
      · rename_i kvs e
        obtain ⟨ws, e1, e2, e3⟩ := hS.at' e hl
        exact ⟨a, ws, rfl, rfl, e1, h.put (RP := Rep K) hS hl (u := .dT []) ⟨[], upd_same, rfl, .nil⟩ .non⟩
      · exact h.elim
  · exact h.elim
end PL

/-! ### isinstance of a caught exception, its own dict or none (HandS.ExcIs, with a dict) -/
namespace PySem.W
open PySem PySem.Spec PySem.Calls PyProof.Rows
section
variable {prog : Program} {w : World} {A : Around} {E : Value → Shared → Prop} {s : Shared} {K : Frag} {x D : Addr} {ox : Obj} {od : Option Obj}
theorem findObj_dataO {C : Addr} {name : Str} {a g : Value} (hc : (clsIn K C).isSome = true) (ha : findIn K (.ref C) name = some (some a)) (hg : specialIn K a "__get__" = some (some g)) (ht : takesIn K a = some true) : findObj K C od name = some (.bind g a) := by
  obtain ⟨cd, hc⟩ := Option.isSome_iff_exists.mp hc
  unfold findObj
  rw [hc, Option.bind_some, ha, Option.bind_some]
  simp [hg, ht]
theorem kin_classO {Q : Option Value → Shared → Prop} (hga : findIn K (.ref D) "__getattribute__" = some (some (.builtin "BaseException.__getattribute__"))) (hgt : findIn K (.ref D) "__getattr__" = some none) (hsub : subIn K (.ref D) (.type "BaseException") = some true)
    (hdct : hasDictIn K D = true) (ha : findIn K (.ref D) "__class__" = some (some (.builtin "object.__class__")))
    (hn : specialIn K (.builtin "object.__class__") "__get__" = some (some (.builtin "getset_descriptor.__get__"))) (htk : takesIn K (.builtin "object.__class__") = some true) (hm : mroIn K D (.type "object") = some true)
    (X : K.In s.heap) (I : InstAt s.heap x ox D od) (h : Q (some (.ref D)) { s with toks := s.toks + 1 }) : wpAny (model prog w) A (getAttr? (.ref x) "__class__") Q E s := by
  have hf : findObj K D od "__class__" = some (.bind (.builtin "getset_descriptor.__get__") (.builtin "object.__class__")) := findObj_dataO (by obtain ⟨cd, hc, _⟩ := any_some hdct; rw [hc]; rfl) ha hn htk
  obtain ⟨hp, g, d, t, os⟩ := s
  have L0 := I.type (M := model prog w)
  have L1 := looks_findIn (M := model prog w) X hga
  have L2 := looks_findIn (M := model prog w) X hgt
  have L3 := looks_find (M := model prog w) X I hf
  have sub : Looks (model prog w) hp (isInstance (.ref x) (.type "BaseException")) true := L0.andThen (looks_subIn X hsub)
  have hx0 : (false && onTheHeap (Value.builtin "BaseException.__getattribute__")) = false := rfl
  have hx2 : (Value.builtin "BaseException.__getattribute__" == Value.builtin "object.__getattribute__") = false := by decide +kernel
  have hx1 : (onTheHeap (Value.ref D) && Value.builtin "BaseException.__getattribute__" == Value.builtin "object.__getattribute__") = false := by rw [hx2]; rfl
  unfold getAttr? getAttrBy? getAttrBy
  refine wpAny_bind (wpAny_mkText (wpAny_bind (wpAny_attempt (wpAny_holding (wpAny_bind (L0.at (wpAny_bind (L1.at ?_))))))))
  show wpAny _ _ (if (onTheHeap (Value.ref D) && Value.builtin "BaseException.__getattribute__" == Value.builtin "object.__getattribute__") = true then _ else _) _ _ _
  rw [hx1, if_neg Bool.false_ne_true]
  unfold getAttrByItsOwn hookBefore
  refine wpAny_bind ?_
  rw [if_pos (show onTheHeap (Value.ref D) = true from rfl)]
  refine L2.at ?_
  refine wpAny_bind (wpAny_attempt (wpAny_holding ?_))
  unfold callGetattribute
  rw [hx0, if_neg Bool.false_ne_true]
  unfold boundAndCalled
  rw [PySem.F.excAttr_ValueError.ga.bind (.ref x)]
  refine wpAny_bind (wpAny_pure ?_)
  show wpAny _ _ (call (.builtin "BaseException.__getattribute__") [.ref x, .str "__class__" t]) _ _ _
  refine wpAny_call (codeAny_call_builtin PySem.F.excAttr_ValueError.ga.plain PySem.F.entry_bexc_ga ?_)
  refine @check_slot (model prog w) _ _ ⟨hp, g, d, t + 1, os⟩ "BaseException.__getattribute__" "BaseException" "__getattribute__" (.ref x) [.str "__class__" t] [] _ (by decide +kernel) (by decide +kernel) sub (PySem.F.args_bexc_ga (.ref x) (.str "__class__" t)) ?_
  unfold Builtin.«object.__getattribute__»
  refine wpAny_bind (wpAny_of_eq (a := ((Value.ref x : Value), [Value.str "__class__" t])) (by first | rfl | (simp only [slotArgs]; rfl)) ?_)
  refine wpAny_bind (wpAny_pure (wpAny_bind (L0.at (wpAny_bind (L3.at ?_)))))
  show wpAny _ _ (holding [Value.builtin "object.__class__"] (call (.builtin "getset_descriptor.__get__") [.builtin "object.__class__", .ref x, .ref D]) >>= ret) _ _ _
  refine wpAny_bind (wpAny_holding (wpAny_call (class_get (s := ⟨hp, g, d, t + 1, os⟩) (ox := ox) (od := od) X I hm ?_)))
  refine wpAny_pure ?_
  show wpAny _ _ (handedOut (.ref D)) _ _ _
  rw [handedOut_of (v := .ref D) rfl]
  first
    | exact wpAny_pure (wpAny_pure h)
    | exact wpAny_pure h
    | exact wpAny_pure (wpAny_bind (wpAny_pure (wpAny_pure h)))
theorem kitx_excO (hga : findIn K (.ref D) "__getattribute__" = some (some (.builtin "BaseException.__getattribute__"))) (hgt : findIn K (.ref D) "__getattr__" = some none) (hsub : subIn K (.ref D) (.type "BaseException") = some true) (hdct : hasDictIn K D = true) (ha : findIn K (.ref D) "__class__" = some (some (.builtin "object.__class__")))
    (hn : specialIn K (.builtin "object.__class__") "__get__" = some (some (.builtin "getset_descriptor.__get__"))) (htk : takesIn K (.builtin "object.__class__") = some true) (hm : mroIn K D (.type "object") = some true) :
    KitX K (.ref x) (.ref D) (fun h => ∃ od, InstAt h x ox D od) where
  ty := fun _ _ _ ⟨_, I⟩ => I.type
  it := fun _ _ X _ => by
    obtain ⟨cdD, hcD, _⟩ := any_some hdct
    unfold clsIn at hcD
    split at hcD
    · rename_i c' d' cd' sl' ho
      intro A' Q' E' s' k q
      unfold isType loadHead
      exact wpAny_bind (wpAny_loadPart (k _ _ (X _ _ ho)) (wpAny_pure q))
    · cases hcD
  ne := fun h tp dd its n sl X htp => by
    obtain ⟨cdD, hcD, _⟩ := any_some hdct
    refine Bool.eq_false_iff.mpr fun q => ?_
    have e : D = tp := Value.ref.inj (beq_iff_eq.mp q)
    subst e
    unfold clsIn at hcD
    split at hcD
    · rename_i c' d' cd' sl' ho
      have z := (X _ _ ho).symm.trans htp
      cases z
    · cases hcD
  ca := fun X I k => by
    obtain ⟨od, I⟩ := I
    exact kin_classO hga hgt hsub hdct ha hn htk hm X I k
end
end PySem.W
namespace PL
open PySem PySem.Spec PyProof.Rows L2
/-! ### the exception that a suite holds -/
def isEo (a : Addr) (d0 : Option Addr) (b : Bool) : Dv → Sto → Out Dv
  | .xa a', S => if a' = a ∧ d0 = none then .ok (.bl b) S else .no
  | .xc a' b' _ _, S => if a' = a ∧ d0 = some b' then .ok (.bl b) S else .no
  | _, _ => .no
def xfo (a : Addr) (d0 : Option Addr) (f : Str) : Dv → Sto → Out Dv
  | .xc a' b' f' v, S => if a' = a ∧ d0 = some b' ∧ f' = f then .ok v S else .no
  | _, _ => .no
def rIsO (K : PySem.W.Frag) (cls : Value) (a : Addr) (d0 : Option Addr) : List V → Hp → VK → Prop := fun xs H Q => ∃ (c : V) (cv : Value) (b : Bool), xs = [.ref a, c] ∧ (∀ u, RelV c u → u = cv) ∧ PySem.W.kitOne K cls cv = some b ∧ (d0 = none ∨ ∃ dd fs, d0 = some dd ∧ H dd = some (.xd fs)) ∧ Q (.bl b) H
theorem call_isO {X : Cx} {a D : Addr} {d0 : Option Addr} {oe : Obj} {pn : List (Addr × Obj)} (C : ExcC X.K D) (hz : Zc (.ref D) d0 oe) (hf : ∃ vs, oe.data = .fields vs) : CallR (X.suite a ((a, oe) :: pn)) (.builtin "isinstance") (rIsO X.K (.ref D) a d0) := by
  intro pins s σ H xs us Q I r h
  obtain ⟨c, cv, b, rfl, hcv, e, hdd, q⟩ := h
  cases r with
  | cons rx rr =>
    cases rr with
    | cons rt rr =>
      cases rr
      cases rx
      have ec := hcv _ rt
      subst ec
      obtain ⟨hget, _⟩ := I.pin (a, oe) (List.mem_append.mpr (.inl List.mem_cons_self))
      obtain ⟨vs, hv⟩ := hf
      have J : ∃ od, PySem.W.InstAt s.heap a oe D od := by
        obtain ⟨oc, od, oda, osl⟩ := oe
        obtain ⟨h1, h2⟩ := hz
        dsimp only at h1 h2 hv
        subst h1 h2 hv
        rcases hdd with rfl | ⟨dd, fs, rfl, ed⟩
        · exact ⟨none, hget, rfl, rfl, trivial⟩
        · have hx : ObjOk X.prog X.w H s.heap dd (.xd fs) := I.hok dd _ ed
          obtain ⟨mA, hns, hr⟩ := hx
          obtain ⟨od, ho, hl⟩ := lookIn_ns hns
          exact ⟨some od, hget, rfl, rfl, ho⟩
      exact PySem.W.kia_one (PySem.W.kitx_excO C.hg C.hk C.hs C.hd C.ha C.hn C.ht C.hm) I.kIn J e (fun z => nomatch z) fun tk => ⟨.bl b, H, I.kept (t' := tk) fun _ _ z => z, rfl, q⟩
section
variable {X : Cx} {W : WX} {a : Addr} {oe : Obj} {cls : Value} {d0 : Option Addr} {pn : List (Addr × Obj)} {i : Nat} {n : Str} {e c : Expr} {p p1 p2 pos : Pos} {cV : V} {cv : Value} {b : Bool} {re : RE}
/-- isinstance(e, C) -/
theorem se_isE (C : ∃ D, cls = .ref D ∧ ExcC X.K D) (hz : Zc cls d0 oe) (hf : ∃ vs, oe.data = .fields vs) (hg : Gl (X.suite a ((a, oe) :: pn)) "isinstance") (hm : X.mg "isinstance" = none) (he : SE (X.suite a ((a, oe) :: pn)) W e re) (hc : PE (X.suite a ((a, oe) :: pn)) c (tC cV)) (hcv : ∀ u, RelV cV u → u = cv) (hk : PySem.W.kitOne X.K cls cv = some b)
    (hs1 : starEach [e, c] X.env = (false, eval e X.env) :: starEach [c] X.env := by rfl) (hs2 : starEach [c] X.env = (false, eval c X.env) :: starEach [] X.env := by rfl) (hpl : (backTo pos (starEach [c] X.env)).any (·.1) = false := by rfl) :
    SE (X.suite a ((a, oe) :: pn)) W (.Call (.Name "isinstance" p) [e, c] [] pos) (eUn (isEo a d0 b) re) := by
  obtain ⟨D, rfl, C⟩ := C
  refine PE.imp (pe_callB (call_isO C hz hf) hg hm (by decide +kernel) (pa_cons he (pa_cons hc pa_nil hs2) hs1) (by decide) (by decide) hs1 hpl) fun σ H Q ⟨μ, ρ, S, hS, hE, h⟩ => ?_
  refine (bnd hS hE h).mono fun v H1 ⟨μ1, S1, d, hS1, hE1, s1, rv, h1⟩ => ?_
  cases rv with
  | xa =>
    simp only [isEo] at h1
    split at h1
    · rename_i hh
      obtain ⟨rfl, hd⟩ := hh
      exact ⟨cV, cv, b, rfl, hcv, hk, .inl hd, h1.ok hS1 (.bl _)⟩
    · exact h1.elim
  | xc hb hn r =>
    simp only [isEo] at h1
    split at h1
    · rename_i hh
      obtain ⟨rfl, hd⟩ := hh
      exact ⟨cV, cv, b, rfl, hcv, hk, .inr ⟨_, _, hd, hb⟩, h1.ok hS1 (.bl _)⟩
    · exact h1.elim
  | _ => exact h1.elim
/-- e.f -/
theorem se_xf {f : Str} (T : ∃ D, cls = .ref D ∧ XfC X.K D ∧ PySem.W.findIn X.K (.ref D) f = some none) (hz : Zc cls d0 oe) (hf : ∃ vs, oe.data = .fields vs) (he : SE (X.suite a ((a, oe) :: pn)) W e re) (hab : attributeBase e f X.env (eval e X.env) = eval e X.env := by rfl) :
    SE (X.suite a ((a, oe) :: pn)) W (.Attribute e f pos) (eUn (xfo a d0 f) re) := by
  obtain ⟨D, rfl, T, hno⟩ := T
  refine PE.imp (pe_xf T hno hz hf he hab) fun σ H Q ⟨μ, ρ, S, hS, hE, h⟩ => ?_
  refine (bnd hS hE h).mono fun v H1 ⟨μ1, S1, d, hS1, hE1, s1, rv, h1⟩ => ?_
  cases rv with
  | xc hb hn r =>
    simp only [xfo] at h1
    split at h1
    · rename_i hh
      obtain ⟨rfl, hd, rfl⟩ := hh
      exact ⟨rfl, rfl, _, _, _, hd, hb, by simp [List.lookup], h1.ok hS1 r⟩
    · exact h1.elim
  | _ => exact h1.elim
end
/-! ### raise -/
def cRaise0 (C : Str) : RC := fun ρ S => .ex ⟨C, none⟩ ρ S
def cRaise1 (C f : Str) (a : RA) : RC := fun ρ S => bindS (a ρ S) ρ fun ds S1 => match ds with
  | [d] => .ex ⟨C, some (f, d)⟩ ρ S1
  | _ => .no
section
variable {X : Cx} {W : WX} {C : Addr} {x : Str} {pos : Pos} {e : Expr}
theorem sc_raise0 (hc : X.calm = true) (tk : Takes X W) (gC : X.mg x = some (.ref C)) (he : PMk X e (fun _ H Q => Q (.ref C) none H)) : SC X W (.Raise (some e) none pos) (cRaise0 x) :=
  PS.imp (ps_raise hc tk he) fun D σ H ⟨μ, ρ, S, hS, hE, h⟩ => h μ σ H (.ref C) none hS hE (.refl ..) ⟨gC, .inl ⟨rfl, rfl⟩⟩
/-- the making of an exception with one field, of the arguments' reading ta -/
def tMk1 (C : Addr) (f : Str) (ta : TA) : L2.St → Hp → XK → Prop := fun σ H Q => ta σ H fun vs H1 => ∃ v, vs = [v] ∧ ∀ d, H1 d = none → Q (.ref C) (some d) (upd H1 d (.xd [(f, v)]))
theorem sc_raise1 {f : Str} {ra : RA} (hc : X.calm = true) (tk : Takes X W) (gC : X.mg x = some (.ref C)) (he : PMk X e (tMk1 C f (tG (Reps X.K) X.K X.mg W ra))) : SC X W (.Raise (some e) none pos) (cRaise1 x f ra) :=
  PS.imp (ps_raise hc tk he) fun D σ H ⟨μ, ρ, S, hS, hE, h⟩ => (bndS (R1 := Reps X.K) hS hE h).mono fun vs H1 ⟨μ1, S1, ds, hS1, hE1, s1, rv, h1⟩ => by
    split at h1
    · rename_i d
      obtain ⟨v, rfl, r⟩ := rv.get1
      exact ⟨v, rfl, fun dd hd => h1 μ1 σ _ (.ref C) (some dd) (hS1.lay hd _) (hE1.step (step_lay hS1 hd _)) (step_lay hS1 hd _) ⟨gC, .inr ⟨_, _, dd, v, rfl, rfl, upd_same, r.step (step_lay hS1 hd _)⟩⟩⟩
    · exact h1.elim
end
/-! ### try -/
def clr (i : Option Nat) (ρ : Env) : Env := match i with
  | some j => ρ.set j none
  | none => ρ
def unX (i : Option Nat) : OutS → OutS
  | .fl (.nx ρ) S => .fl (.nx (clr i ρ)) S
  | .fl (.bk ρ) S => .fl (.bk (clr i ρ)) S
  | .fl (.ct ρ) S => .fl (.ct (clr i ρ)) S
  | .fl (.rt d) S => .fl (.rt d) S
  | _ => .no
def excD (a b : Addr) (x : Ex) : Dv := match x.fs with
  | none => .xa a
  | some (f, d) => .xc a b f d
def putX (i : Option Nat) (a b : Addr) (x : Ex) (ρ : Env) : Env := match i with
  | some j => ρ.set j (some (excD a b x))
  | none => ρ
def dOf (b : Addr) (x : Ex) : Option Addr := match x.fs with
  | none => none
  | some _ => some b
structure Cl where
  C : Str
  i : Option Nat
  h : Addr → Option Addr → Str → RC
open Classical in
noncomputable def allO (g : Addr → Addr → OutS) : OutS := if h : ∃ o, ∀ a b, g a b = o then choose h else .no
theorem allO_of {g : Addr → Addr → OutS} {o : OutS} (h : ∀ a b, g a b = o) : allO g = o := by
  have hx : ∃ o, ∀ a b, g a b = o := ⟨o, h⟩
  unfold allO
  rw [dif_pos hx]
  exact (Classical.choose_spec hx 0 0).symm.trans (h 0 0)
theorem allO_at {g : Addr → Addr → OutS} (h : allO g ≠ .no) (a b : Addr) : g a b = allO g := by
  unfold allO at h ⊢
  by_cases hx : ∃ o, ∀ a b, g a b = o
  · rw [dif_pos hx]
    exact Classical.choose_spec hx a b
  · rw [dif_neg hx] at h
    exact absurd rfl h
noncomputable def pickX (sub : Str → Str → Bool) (x : Ex) (ρ : Env) (S : Sto) : List Cl → OutS
  | [] => .ex x ρ S
  | c :: r => if sub x.cls c.C = true then allO fun a b => unX c.i (c.h a (dOf b x) x.cls (putX c.i a b x ρ) S) else pickX sub x ρ S r
noncomputable def cTry (kn : Str → Bool) (sub : Str → Str → Bool) (b : RC) (hs : List Cl) (o : RC) : RC := fun ρ S => match b ρ S with
  | .fl (.nx ρ1) S1 => o ρ1 S1
  | .ex x ρ1 S1 => if kn x.cls = true then pickX sub x ρ1 S1 hs else .no
  | r => r
abbrev WF : WX := fun _ _ _ _ => False
/-! the clauses of a try, with or without a name -/
def setX (i : Option Nat) (a : Addr) (σ : L2.St) : L2.St := match i with
  | some j => σ.set j (some (.ref a))
  | none => σ
def clrσ (i : Option Nat) (σ : L2.St) : L2.St := match i with
  | some j => σ.set j none
  | none => σ
def clrD (i : Option Nat) (D : Ends) : Ends := { nx := fun σ' H' => D.nx (clrσ i σ') H', rt := D.rt, bk := fun σ' H' => D.bk (clrσ i σ') H', ct := fun σ' H' => D.ct (clrσ i σ') H' }
def wManyA (K : PySem.W.Frag) (Wout : WX) (D : Ends) : List (Value × Option Nat × (Addr → Value → Option Addr → TS)) → WX
  | [] => Wout
  | (c, i, ts) :: r => fun cls d σ H => ∃ b, PySem.W.exmOne K cls c = some b ∧ (b = true → ∀ a, H a = none → ts a cls d (clrD i D) (setX i a σ) H) ∧ (b = false → wManyA K Wout D r cls d σ H)
inductive HdsA (X : Cx) : List ExceptHandler → List (Value × Option Nat × (Addr → Value → Option Addr → TS)) → Prop
  | nil : HdsA X [] []
  | cons {x : Str} {c : Value} {ts : Addr → Value → Option Addr → TS} {b₀ : Stmt} {suite : List Stmt} {np pos' : Pos} {hds : List ExceptHandler} {l : List (Value × Option Nat × (Addr → Value → Option Addr → TS))} (hc : Names X x c)
      (hsu : ∀ (a : Addr) (oe : Obj) (cls : Value) (d : Option Addr) (pn : List (Addr × Obj)), Zc cls d oe → (∃ vs, oe.data = .fields vs) → PSs (X.suite a ((a, oe) :: pn)) (b₀ :: suite) (ts a cls d)) (r : HdsA X hds l) :
      HdsA X (.ExceptHandler (some (.Name x np)) none (b₀ :: suite) pos' :: hds) ((c, none, ts) :: l)
  | consA {x n : Str} {i : Nat} {c : Value} {ts : Addr → Value → Option Addr → TS} {b₀ : Stmt} {suite : List Stmt} {np pos' : Pos} {hds : List ExceptHandler} {l : List (Value × Option Nat × (Addr → Value → Option Addr → TS))} (hc : Names X x c) (hN : X.N.Nodup) (hi : X.N[i]? = some n) (hln : X.env.kindOf n = some .local)
      (hsu : ∀ (a : Addr) (oe : Obj) (cls : Value) (d : Option Addr) (pn : List (Addr × Obj)), Zc cls d oe → (∃ vs, oe.data = .fields vs) → PSs (X.suite a ((a, oe) :: pn)) (b₀ :: suite) (ts a cls d)) (r : HdsA X hds l) :
      HdsA X (.ExceptHandler (some (.Name x np)) (some n) (b₀ :: suite) pos' :: hds) ((c, some i, ts) :: l)
section
variable {X : Cx} {body : List Stmt} {h₀ : ExceptHandler} {hds : List ExceptHandler} {l : List (Value × Option Nat × (Addr → Value → Option Addr → TS))} {pos : Pos} {tb : WX → TS} {Wout : WX}
theorem ps_try_manyA {orelse : List Stmt} {u : TS} (ho : PSs X orelse u) (hs : X.stack = X.env :: X.outer) (hf : X.env.frame = some X.env.locals) (tk : Takes X Wout)
    (hb : ∀ (W : WX) (pn : List (Addr × Obj)) (xe : Value → Shared → Prop), Takes (X.tr pn xe) W → PassesOwn (model X.prog X.w) X.A X.env xe → PSs (X.tr pn xe) body (tb W))
    (hh : HdsA X (h₀ :: hds) l) : PS X (.Try body (h₀ :: hds) orelse [] pos) (fun D σ H => tb (wManyA X.K Wout D l) { D with nx := u D } σ H) := by
  refine ⟨fun pins s σ H D I h => ?_⟩
  have ok := I.ok
  have hfr : X.A.frames = some (X.env :: X.outer) := by rw [ok.frames, hs]
  refine wpAny_Try_except ?_
  refine wpAny_mono ((hb (wManyA X.K Wout D l) (X.pn ++ pins) (fun e s₁ => wpAny (model X.prog X.w) X.A (noteFrame e X.env) (fun _ s₂ => wpAny (model X.prog X.w) X.A (setFlight e none) (fun _ s₃ =>
    wpAny (model X.prog X.w) X.A (handleBy e X.env (h₀ :: hds)) (SP X pins D) X.xe s₃) X.xe s₂) X.xe s₁) (fun u s' xx => ?_) PassesOwn.looking).run [] s σ H { D with nx := u D } (I.toTry _) h) (fun f s1 hsp => ?_) (fun e s1 he => he)
  · -- the catch
    obtain ⟨a, B, sI, pins', σ', H', cls, d, rfl, J', nb, up, sky, na, os, ag, w⟩ := xx
    have J : Inv X pins σ' H' sI := J'.ofTry ok
    have sky' : Sky B (X.env :: X.outer) a (Zc cls d) X.env.locals s'.heap := by rw [← hs]; exact sky
    show wpAny (model X.prog X.w) X.A (noteFrame (.ref a) X.env) _ _ _
    refine Sky.land Zc.steady hfr hf sky' fun h3 fl3 up3 => ?_
    have J3 : Inv X pins σ' H' { s' with heap := h3 } := J.landed nb fl3.1 (up.trans up3) os ag
    obtain ⟨oe3, vs3, he3, hz3, hd3⟩ := fl3.there
    have notFr : ∀ {h : Heap} {o : Obj} {vs : Array Value}, h.FunFrames B (X.env :: X.outer) → h.get? a = some o → o.data = .fields vs → a ∉ frs (X.env :: X.outer) := fun {h o vs} ff e dd hm => by
      obtain ⟨_, o', e', hnf⟩ := ff.mem hm
      rw [e] at e'; cases e'
      exact hnf _ dd
    have nfr := notFr fl3.2.2.1 he3 hd3
    have nL : a ≠ X.env.locals := fun z => nfr (List.mem_filterMap.mpr ⟨X.env, List.mem_cons_self, by rw [hf, z]⟩)
    have nF : a ∉ X.fs := fun hm => by
      obtain ⟨e, he, q⟩ := List.mem_filterMap.mp hm
      exact nfr (List.mem_filterMap.mpr ⟨e, List.mem_cons_of_mem _ he, q⟩)
    have S3 := J3.suite he3 hd3 na nL nF
    have go : ∀ {hds' : List ExceptHandler} {l' : List (Value × Option Nat × (Addr → Value → Option Addr → TS))}, HdsA X hds' l' → wManyA X.K Wout D l' cls d σ' H' →
        wpAny (model X.prog X.w) X.A (handleBy (.ref a) X.env hds') (SP X pins D) X.xe { s' with heap := h3 } := by
      intro hds' l' hk
      induction hk with
      | nil =>
        intro w
        refine wpAny_handleBy_nil ?_
        obtain ⟨k1, k2, k3, oe, vs, T, oT, ts', he, hz, hd, h1, hr⟩ := id fl3
        unfold PySem.passOn
        refine wpAny_bind (wpAny_field he hd h1 ?_)
        rw [if_neg (show ¬ ((Value.ref T == Value.none) = true) from by simp)]
        have fin : wpAny (model X.prog X.w) X.A (setFlight (.ref a) X.env.frame) (fun _ s4 => wpAny (model X.prog X.w) X.A (throw (.ref a) : Sem Flow) (SP X pins D) X.xe s4) X.xe { s' with heap := h3 } := by
          rw [hf]
          refine HandSPX.setFlight_upZ fl3 fun h4 hh4 up4 => wpAny_throw (tk _ _ ?_)
          exact ⟨a, B, sI, pins, σ', H', cls, d, rfl, J, nb, (up.trans up3).trans up4, .inr (.inr (by rw [hs]; exact hh4)), na, os, ag, w⟩
        first
          | exact wpAny_bind (wpAny_pure (wpAny_bind fin))
          | exact wpAny_bind fin
      | @cons x c ts b₀ suite np pos' hds2 l2 hc hsu r ih =>
        intro w
        obtain ⟨b, hb1, hyes, hno⟩ := w
        refine wpAny_handleBy_cons (codeAny_handlers_test ?_) (by intro q; cases q)
        have LT : PySem.W.Looks (model X.prog X.w) h3 (typeOf (.ref a)) cls := fun A Q E s k q => wpAny_typeOf_ref (k _ _ he3) (by rw [hz3.1]; exact q)
        have LM := PySem.W.exm_one (M := model X.prog X.w) (J3.kIn) LT hb1
        have test : ∀ {Q : Value → Shared → Prop} {E : Value → Shared → Prop}, Q c { s' with heap := h3 } → wpAny (model X.prog X.w) (X.A.mark (some (.ref a))) (eval (.Name x np) X.env) Q E { s' with heap := h3 } := fun {Q E} q => by
          obtain ⟨hg, hdbg, hm | ⟨hm, hv, hnn⟩⟩ := hc
          · exact ld_glob (X := X.suite a ((a, oe3) :: (X.pn ++ pins))) S3 hg hm q hdbg
          · exact ld_blt (X := X.suite a ((a, oe3) :: (X.pn ++ pins))) S3 hg hm hv q hnn hdbg
        refine test (LM.here ?_)
        cases b with
        | true =>
          refine codeAny_handlers_suite ?_
          refine HandSPX.lands_againZ fl3 fun h4 fl4 up4 => ?_
          have J4 : Inv X pins σ' H' { s' with heap := h4 } := J.landed nb fl4.1 ((up.trans up3).trans up4) os ag
          obtain ⟨oe4, vs4, he4, hz4, hd4⟩ := fl4.there
          have S4 := J4.suite he4 hd4 na nL nF
          refine wpAny_mono ((hsu a oe4 cls d (X.pn ++ pins) hz4 ⟨_, hd4⟩).run [] _ _ H' _ S4 (hyes rfl a na)) (fun f s6 hsp => ?_) (fun _ _ z => False.elim z)
          cases f with
          | next =>
            obtain ⟨σ6, H6, S6, q6⟩ := hsp
            exact ⟨_, _, S6.unsuite ok, q6⟩
          | brk =>
            obtain ⟨σ6, H6, S6, q6⟩ := hsp
            exact ⟨_, _, S6.unsuite ok, q6⟩
          | cont =>
            obtain ⟨σ6, H6, S6, q6⟩ := hsp
            exact ⟨_, _, S6.unsuite ok, q6⟩
          | ret u =>
            obtain ⟨v6, σ6, H6, S6, r6, q6⟩ := hsp
            exact ⟨_, _, _, S6.unsuite ok, r6, q6⟩
        | false =>
          show wpAny _ X.A (handleBy (.ref a) X.env hds2) _ _ _
          exact ih (hno rfl)
      | @consA x n i c ts b₀ suite np pos' hds2 l2 hc hN hi hln hsu r ih =>
        intro w
        obtain ⟨b, hb1, hyes, hno⟩ := w
        refine wpAny_handleBy_cons (codeAny_handlers_test ?_) (by intro q; cases q)
        have LT : PySem.W.Looks (model X.prog X.w) h3 (typeOf (.ref a)) cls := fun A Q E s k q => wpAny_typeOf_ref (k _ _ he3) (by rw [hz3.1]; exact q)
        have LM := PySem.W.exm_one (M := model X.prog X.w) (J3.kIn) LT hb1
        have test : ∀ {Q : Value → Shared → Prop} {E : Value → Shared → Prop}, Q c { s' with heap := h3 } → wpAny (model X.prog X.w) (X.A.mark (some (.ref a))) (eval (.Name x np) X.env) Q E { s' with heap := h3 } := fun {Q E} q => by
          obtain ⟨hg, hdbg, hm | ⟨hm, hv, hnn⟩⟩ := hc
          · exact ld_glob (X := X.suite a ((a, oe3) :: (X.pn ++ pins))) S3 hg hm q hdbg
          · exact ld_blt (X := X.suite a ((a, oe3) :: (X.pn ++ pins))) S3 hg hm hv q hnn hdbg
        refine test (LM.here ?_)
        cases b with
        | true =>
          refine codeAny_handlers_suite_as ?_
          refine HandSPX.lands_againZ fl3 fun h4 fl4 up4 => ?_
          have J4 : Inv X pins σ' H' { s' with heap := h4 } := J.landed nb fl4.1 ((up.trans up3).trans up4) os ag
          obtain ⟨oe4, vs4, he4, hz4, hd4⟩ := fl4.there
          have S4 := J4.suite he4 hd4 na nL nF
          refine store_ok (X := X.suite a ((a, oe4) :: (X.pn ++ pins))) (v := .ref a) S4 hN hi (.inl hln) rfl (fun s5 S5 => ?_) (.inr hln)
          refine wpAny_mono ((hsu a oe4 cls d (X.pn ++ pins) hz4 ⟨_, hd4⟩).run [] s5 _ H' _ S5 (hyes rfl a na)) (fun f s6 hsp => ?_) (fun _ _ z => False.elim z)
          have end_ : ∀ {σ6 : L2.St} {H6 : Hp} {Q : Shared → Prop}, Inv (X.suite a ((a, oe4) :: (X.pn ++ pins))) [] σ6 H6 s6 → (∀ s7, Inv X pins (σ6.set i none) H6 s7 → Q s7) →
              wpAny (model X.prog X.w) X.A (do bindName X.env n .none; unbindBehindTheSuite X.env n pos') (fun _ s7 => Q s7) X.xe s6 := fun {σ6 H6 Q} S6 hq => gone_ok (S6.unsuite ok) hN hi hln hq
          cases f with
          | next =>
            obtain ⟨σ6, H6, S6, q6⟩ := hsp
            exact end_ S6 fun s7 J7 => ⟨_, _, J7, q6⟩
          | brk =>
            obtain ⟨σ6, H6, S6, q6⟩ := hsp
            exact end_ S6 fun s7 J7 => ⟨_, _, J7, q6⟩
          | cont =>
            obtain ⟨σ6, H6, S6, q6⟩ := hsp
            exact end_ S6 fun s7 J7 => ⟨_, _, J7, q6⟩
          | ret u =>
            obtain ⟨v6, σ6, H6, S6, r6, q6⟩ := hsp
            exact end_ S6 fun s7 J7 => ⟨_, _, _, J7, r6, q6⟩
        | false =>
          show wpAny _ X.A (handleBy (.ref a) X.env hds2) _ _ _
          exact ih (hno rfl)
    exact go hh w
  · cases f with
    | next =>
      obtain ⟨σ', H', J', q⟩ := hsp
      exact ho.run pins s1 σ' H' D (J'.ofTry ok) q
    | brk =>
      obtain ⟨σ', H', J', q⟩ := hsp
      exact ⟨σ', H', J'.ofTry ok, q⟩
    | cont =>
      obtain ⟨σ', H', J', q⟩ := hsp
      exact ⟨σ', H', J'.ofTry ok, q⟩
    | ret u =>
      obtain ⟨v, σ', H', J', r, q⟩ := hsp
      exact ⟨v, σ', H', J'.ofTry ok, r, q⟩
end

theorem SimS.notxd {K : PySem.W.Frag} {μ : List Addr} {S : Sto} {H : Hp} {b : Addr} {fs : List (Str × V)} (h : SimS K μ S H) (e : H b = some (.xd fs)) : b ∉ μ := fun m => by
  obtain ⟨l, hl, q⟩ := List.getElem_of_mem m
  have hs : l < S.length := by rw [← h.len]; exact hl
  have o := h.ob l b S[l] (by rw [List.getElem?_eq_getElem hl, q]) (List.getElem?_eq_getElem hs)
  cases hS : S[l] with
  | lst ds => rw [hS] at o; obtain ⟨vs, e1, _⟩ := o; rw [e] at e1; cases e1
  | dk kvs => rw [hS] at o; obtain ⟨vs, e1, _⟩ := o; rw [e] at e1; cases e1
  | dt kvs => rw [hS] at o; obtain ⟨vs, e1, _⟩ := o; rw [e] at e1; cases e1
  | fk kvs => rw [hS] at o; obtain ⟨vs, ⟨_, e1⟩, _⟩ := o; rw [e] at e1; cases e1
  | ft kvs => rw [hS] at o; obtain ⟨vs, ⟨_, e1⟩, _⟩ := o; rw [e] at e1; cases e1
theorem SimE.clear {K : PySem.W.Frag} {μ : List Addr} {H : Hp} {ρ : Env} {σ : L2.St} (h : SimE K μ H ρ σ) (i : Option Nat) : SimE K μ H (clr i ρ) (clrσ i σ) := by
  cases i with
  | none => exact h
  | some i =>
    refine ⟨by show (ρ.set i none).length = (σ.set i none).length; rw [List.length_set, List.length_set, h.1], fun j e hj => ?_⟩
    have hj : (ρ.set i none)[j]? = some (some e) := hj
    by_cases hi : i = j
    · subst hi
      by_cases hl : i < ρ.length
      · rw [List.getElem?_set_self hl] at hj; cases hj
      · rw [List.getElem?_eq_none (by rw [List.length_set]; omega)] at hj; cases hj
    · rw [List.getElem?_set_ne hi] at hj
      obtain ⟨u, e1, r1⟩ := h.2 j e hj
      exact ⟨u, by show (σ.set i none)[j]? = _; rw [List.getElem?_set_ne hi]; exact e1, r1⟩
theorem metS_un {K : PySem.W.Frag} {mg : Str → Option Value} {W : WX} {μ : List Addr} {H : Hp} {D : Ends} {i : Option Nat} {o : OutS} (h : MetS K mg W μ H (unX i o) D) : MetS K mg WF μ H o (clrD i D) := by
  cases o with
  | fl f S =>
    cases f with
    | nx ρ => exact fun μ' σ' H' a b c => h μ' (clrσ i σ') H' a (b.clear i) c
    | rt d => exact h
    | bk ρ => exact fun μ' σ' H' a b c => h μ' (clrσ i σ') H' a (b.clear i) c
    | ct ρ => exact fun μ' σ' H' a b c => h μ' (clrσ i σ') H' a (b.clear i) c
  | ex x ρ S => exact h.elim
  | no => exact h
inductive HdsL (X : Cx) (kn : Str → Bool) (sub : Str → Str → Bool) : List ExceptHandler → List Cl → Prop
  | nil : HdsL X kn sub [] []
  | cons {x : Str} {c : Value} {h : Addr → Option Addr → Str → RC} {b₀ : Stmt} {suite : List Stmt} {np pos' : Pos} {hds : List ExceptHandler} {l : List Cl} (hc : Names X x c) (hx : ∀ c0 cls, kn c0 = true → X.mg c0 = some cls → PySem.W.exmOne X.K cls c = some (sub c0 x))
      (hsu : ∀ (a : Addr) (oe : Obj) (cls : Value) (d : Option Addr) (pn : List (Addr × Obj)) (c0 : Str), kn c0 = true → X.mg c0 = some cls → sub c0 x = true → Zc cls d oe → (∃ vs, oe.data = .fields vs) → SCs (X.suite a ((a, oe) :: pn)) WF (b₀ :: suite) (h a d c0)) (r : HdsL X kn sub hds l) :
      HdsL X kn sub (.ExceptHandler (some (.Name x np)) none (b₀ :: suite) pos' :: hds) (⟨x, none, h⟩ :: l)
  | consA {x n : Str} {i : Nat} {c : Value} {h : Addr → Option Addr → Str → RC} {b₀ : Stmt} {suite : List Stmt} {np pos' : Pos} {hds : List ExceptHandler} {l : List Cl} (hc : Names X x c) (hx : ∀ c0 cls, kn c0 = true → X.mg c0 = some cls → PySem.W.exmOne X.K cls c = some (sub c0 x)) (hN : X.N.Nodup) (hi : X.N[i]? = some n) (hln : X.env.kindOf n = some .local)
      (hsu : ∀ (a : Addr) (oe : Obj) (cls : Value) (d : Option Addr) (pn : List (Addr × Obj)) (c0 : Str), kn c0 = true → X.mg c0 = some cls → sub c0 x = true → Zc cls d oe → (∃ vs, oe.data = .fields vs) → SCs (X.suite a ((a, oe) :: pn)) WF (b₀ :: suite) (h a d c0)) (r : HdsL X kn sub hds l) :
      HdsL X kn sub (.ExceptHandler (some (.Name x np)) (some n) (b₀ :: suite) pos' :: hds) (⟨x, some i, h⟩ :: l)
section
variable {X : Cx} {W : WX} {kn : Str → Bool} {sub : Str → Str → Bool} {body orelse : List Stmt} {h₀ : ExceptHandler} {hds : List ExceptHandler} {hs : List Cl} {b o : RC} {pos : Pos}
theorem pick_yes {μ : List Addr} {ρ : Env} {S : Sto} {H : Hp} {σ : L2.St} {x : Ex} {cls : Value} {d : Option Addr} {D : Ends} {i : Option Nat} {h : Addr → Option Addr → Str → RC} (hS : SimS X.K μ S H) (hE : SimE X.K μ H ρ σ) (xr : XRep X.K X.mg μ H x cls d) (a : Addr) (m : MetS X.K X.mg W μ H (allO fun a b => unX i (h a (dOf b x) x.cls (putX i a b x ρ) S)) D) :
    tS X.K X.mg WF (h a d x.cls) (clrD i D) (setX i a σ) H := by
  have nz : (allO fun a b => unX i (h a (dOf b x) x.cls (putX i a b x ρ) S)) ≠ .no := fun z => by rw [z] at m; exact m
  obtain ⟨b, hb, hr⟩ : ∃ b, dOf b x = d ∧ Rep X.K μ H (.ref a) (excD a b x) := by
    rcases xr.2 with ⟨e1, e2⟩ | ⟨f, e, dx, v, e1, e2, e3, r⟩
    · exact ⟨0, by unfold dOf; rw [e1, e2], by unfold excD; rw [e1]; exact .xa⟩
    · exact ⟨dx, by unfold dOf; rw [e1, e2], by unfold excD; rw [e1]; exact .xc e3 (hS.notxd e3) r⟩
  have q := allO_at nz a b
  rw [← q] at m
  have m' := metS_un m
  rw [hb] at m'
  refine ⟨μ, putX i a b x ρ, S, hS, ?_, m'⟩
  cases i with
  | none => exact hE
  | some j => exact hE.set hr j
theorem HdsL.mk (hh : HdsL X kn sub hds hs) : ∃ l, HdsA X hds l ∧ ∀ (μ : List Addr) (ρ : Env) (S : Sto) (H : Hp) (σ : L2.St) (x : Ex) (cls : Value) (d : Option Addr) (D : Ends), kn x.cls = true → SimS X.K μ S H → SimE X.K μ H ρ σ → XRep X.K X.mg μ H x cls d → MetS X.K X.mg W μ H (pickX sub x ρ S hs) D → wManyA X.K W D l cls d σ H := by
  induction hh with
  | nil => exact ⟨[], .nil, fun μ ρ S H σ x cls d D _ hS hE xr m => m μ σ H cls d hS hE (.refl ..) xr⟩
  | @cons x c h b₀ suite np pos' hds l hc hx hsu r ih =>
    obtain ⟨l', h1, h2⟩ := ih
    refine ⟨(c, none, fun a cls d D σ H => ∃ c0, kn c0 = true ∧ X.mg c0 = some cls ∧ sub c0 x = true ∧ tS X.K X.mg WF (h a d c0) D σ H) :: l', .cons hc (fun a oe cls d pn hz hf => ⟨fun pins s σ H D I ⟨c0, k1, k2, k3, q⟩ => (hsu a oe cls d pn c0 k1 k2 k3 hz hf).run pins s σ H D I q⟩) h1, fun μ ρ S H σ x' cls d D hk hS hE xr m => ?_⟩
    refine ⟨sub x'.cls x, hx _ _ hk xr.1, fun z a na => ⟨x'.cls, hk, xr.1, z, ?_⟩, fun z => ?_⟩
    · unfold pickX at m
      rw [if_pos z] at m
      exact pick_yes hS hE xr a m
    · unfold pickX at m
      rw [if_neg (by rw [z]; exact Bool.false_ne_true)] at m
      exact h2 μ ρ S H σ x' cls d D hk hS hE xr m
  | @consA x n i c h b₀ suite np pos' hds l hc hx hN hi hln hsu r ih =>
    obtain ⟨l', h1, h2⟩ := ih
    refine ⟨(c, some i, fun a cls d D σ H => ∃ c0, kn c0 = true ∧ X.mg c0 = some cls ∧ sub c0 x = true ∧ tS X.K X.mg WF (h a d c0) D σ H) :: l', .consA hc hN hi hln (fun a oe cls d pn hz hf => ⟨fun pins s σ H D I ⟨c0, k1, k2, k3, q⟩ => (hsu a oe cls d pn c0 k1 k2 k3 hz hf).run pins s σ H D I q⟩) h1, fun μ ρ S H σ x' cls d D hk hS hE xr m => ?_⟩
    refine ⟨sub x'.cls x, hx _ _ hk xr.1, fun z a na => ⟨x'.cls, hk, xr.1, z, ?_⟩, fun z => ?_⟩
    · unfold pickX at m
      rw [if_pos z] at m
      exact pick_yes hS hE xr a m
    · unfold pickX at m
      rw [if_neg (by rw [z]; exact Bool.false_ne_true)] at m
      exact h2 μ ρ S H σ x' cls d D hk hS hE xr m
theorem sc_try (ho : SCs X W orelse o) (hst : X.stack = X.env :: X.outer) (hf : X.env.frame = some X.env.locals) (tk : Takes X W)
    (hb : ∀ (W' : WX) (pn : List (Addr × Obj)) (xe : Value → Shared → Prop), Takes (X.tr pn xe) W' → PassesOwn (model X.prog X.w) X.A X.env xe → SCs (X.tr pn xe) W' body b)
    (hh : HdsL X kn sub (h₀ :: hds) hs) : SC X W (.Try body (h₀ :: hds) orelse [] pos) (cTry kn sub b hs o) := by
  obtain ⟨l, h1, h2⟩ := hh.mk (W := W)
  refine PS.imp (ps_try_manyA (tb := fun W' => tS X.K X.mg W' b) (u := tS X.K X.mg W o) ho hst hf tk hb h1) fun D σ H ⟨μ, ρ, S, hS, hE, h⟩ => ⟨μ, ρ, S, hS, hE, ?_⟩
  unfold cTry at h
  cases q : b ρ S with
  | no => rw [q] at h; exact h
  | fl f S1 =>
    rw [q] at h
    cases f with
    | nx ρ1 => exact fun μ' σ' H' x y z => ⟨μ', ρ1, S1, x, y, h.step z⟩
    | rt d => exact h
    | bk ρ1 => exact h
    | ct ρ1 => exact h
  | ex x ρ1 S1 =>
    rw [q] at h
    dsimp only at h
    split at h
    · rename_i hk
      exact fun μ' σ' H' cls d a b c xr => h2 μ' ρ1 S1 H' σ' x cls d D hk a b xr (h.step c)
    · exact h.elim
end
/-! ### defs that may raise -/
theorem fn_defX {P : Program} {w : World} {K : PySem.W.Frag} {mg : Str → Option Value} {base : Heap} {x qual : Str} {st : Stmt} {f : Addr} {fd : FuncData} {N ps : List Str} {k m n : Nat} {c : RC} {G : List Dv → Sto → Out Dv} (F : Fun K x qual st f fd) (S : FnScope N ps (defScope st)) (hG : G = runF c m n) (hm : N.length = m) (hn : ps.length = n)
    (hbody : ∀ (cdv : Value) (A : Around) (outer : List PySem.Env) (s : Shared) (H : Hp) (E : XK), Room k (A.deeper (envOfC qual (defScope st) s.heap.objs.size f cdv)) →
      Takes (cxOf (L2.CX P w) P w K mg base N qual (defScope st) f cdv A outer s H E) (fun cl d _ H => E cl d H) → PassesOwn (model P w) (cxOf (L2.CX P w) P w K mg base N qual (defScope st) f cdv A outer s H E).A (cxOf (L2.CX P w) P w K mg base N qual (defScope st) f cdv A outer s H E).env (cxOf (L2.CX P w) P w K mg base N qual (defScope st) f cdv A outer s H E).xe →
      SCs (cxOf (L2.CX P w) P w K mg base N qual (defScope st) f cdv A outer s H E) (fun cl d _ H => E cl d H) (defBody st) c) : FnOk P w K mg base (L2.CX P w) (k + 1) f fd ps (spD K mg G n) := by
  subst hG hm hn
  refine F.okX S (fun vs H Q E ⟨μ, S, ds, hn, hS, r, h⟩ => r.1.trans hn) fun cdv A outer s H vs Q E hr h => ?_
  exact def_body (X := cxOf (L2.CX P w) P w K mg base N qual (defScope st) f cdv A outer s H E) (hbody cdv A outer s H E hr (takes_of rfl rfl rfl rfl) (passes_of rfl)) h
section
variable {X : Cx} {W : WX} {tg iter elt : Expr} {ifs : List Expr} {scope : Scope} {pos spos : Pos} {r : RI} {t : Tg} {rc : RT} {ry : RE} {vs : List Nat}
theorem se_compX (own : List (Str × Nat)) (hc : X.calm = true) (hN : X.N.Nodup) (hi : SI X W tg iter r) (ok : BlkOk X.N X.env.scope scope own) (hg : Blk X scope fun Y => SG Y tg t) (ht : Blk X scope fun Y => PTs Y ifs (tG RBool X.K X.mg WF rc)) (he : Blk X scope fun Y => SE Y WF elt ry)
    (hv : vs = own.map (·.2)) (hown : ∀ i ∈ t.slots, i ∈ own.map (·.2)) (hs : ∀ x, foldedSetIterable iter X.env x = pure x := by intro _; rfl) : SE X W (.ListComp elt [⟨tg, iter, ifs, 0⟩] scope pos) (eComp r t rc ry vs) := by
  subst hv
  exact PE.imp (pe_lc hc hN hi ok hg ht he hs) fun _ _ _ h => comp_met (ry := ry) (Wb := WF) hown h
theorem sc_setCompX {i : Nat} {y : Str} {py : Pos} (own : List (Str × Nat)) (hc : X.calm = true) (hN : X.N.Nodup) (hy : X.N[i]? = some y) (hyl : X.env.scope.names.lookup y = some .local) (hsw : swapsWith (.ListComp elt [⟨tg, iter, ifs, 0⟩] scope pos) (some (.Name y py)) spos.line X.env = pure true)
    (hi : SI X W tg iter r) (ok : BlkOk X.N X.env.scope scope own) (hg : Blk X scope fun Y => SG Y tg t) (ht : Blk X scope fun Y => PTs Y ifs (tG RBool X.K X.mg WF rc)) (he : Blk X scope fun Y => SE Y WF elt ry)
    (hv : vs = own.map (·.2)) (hown : ∀ i ∈ t.slots, i ∈ own.map (·.2)) (hs : ∀ x, foldedSetIterable iter X.env x = pure x := by intro _; rfl) : SC X W (.Assign [.Name y py] (.ListComp elt [⟨tg, iter, ifs, 0⟩] scope pos) spos) (cSet i (eComp r t rc ry vs)) := by
  subst hv
  exact PS.imp (ps_setLc hc hN hy hyl hsw hi ok hg ht he hs) fun D σ H ⟨μ, ρ, S, hS, hE, h⟩ => by
    refine comp_met (ry := ry) (Wb := WF) hown ?_
    exact (bndS hS hE h).mono fun v H1 ⟨μ1, S1, d, hS1, hE1, s1, rv, h1⟩ => h1 μ1 _ H1 hS1 (hE1.set rv i) (.refl ..)
end
theorem walk_lawX {l : PySem.W.OpenLaw} {q : Program} {loose : List Str} {XP : (Str → Option Value) → Heap → Prop} {YP : World → Heap → Prop} {d : DefRec} {K : Params → PySem.W.Frag} {k : Nat} {x : Str} {G : List Dv → Sto → Out Dv} (hn : l.most = some 63) (hdf : d.params.defaults = []) (hr : Room k callerA)
    (hY : ∀ (w : World) (h : Heap), YP w h → (K w.params).In h)
    (hG : ∀ ns : List Int, ns.length ≤ 63 → ∃ S, G [.fl (ns.map .int)] [] = .ok (.bl true) S)
    (FF : ∀ (w : World) (mg : Str → Option Value) (fa : Addr) (h : Heap), (K w.params).In h → h.Ns mainGlobals mg → mg d.name = some (.ref fa) →
      ∃ fd : FuncData, (∀ (s : Shared) (u : Value), BindsTo s fd ⟨[u], []⟩ [(x, u)]) ∧ ∀ base : Heap, (K w.params).In base → base.Ns mainGlobals mg → FnOk l.prog w (K w.params) mg base (L2.CX l.prog w) k fa fd [x] (spD (K w.params) mg G 1)) :
    PySem.W.WalkO q loose XP YP l.row.toRowW d [] (fun f vs => PySem.call f vs) := by
  refine L2.walk_of (n := 63) (k := k) (x := x) (CX := fun w => L2.CX l.prog w) (sp := fun w vs H Q _ => ∃ (a : Addr) (ns : List Int), vs = [.ref a] ∧ SqL (K w.params) H a (ns.map V.int) ∧ ns.length ≤ 63 ∧ Only H ∧ ∀ H', Q (.bl true) H') hn (by decide) hdf hr hY ?_ (fun _ _ a ns hl ho hS => ⟨a, ns, rfl, hS, hl, ho, fun _ => rfl⟩) fun _ _ _ _ _ z => by
    obtain ⟨_, _, _, _, _, _, _, _, _, _, _, _, z⟩ := z
    exact z.elim
  intro w mg fa h hK hNs hmg
  obtain ⟨fd, h1, h2⟩ := FF w mg fa h hK hNs hmg
  refine ⟨fd, h1, fun base hb hn => (h2 base hb hn).imp ?_⟩
  rintro vs H Q E ⟨a, ns, rfl, hS, hl, ho, hQ⟩
  obtain ⟨S', e⟩ := hG ns hl
  refine ⟨[], [], [.fl (ns.map .int)], rfl, ⟨rfl, List.nodup_nil, fun l a o z => by simp at z⟩, Reps.one ?_, ?_⟩
  · refine Rep.fl (vs := ns.map V.int) ?_ (by simp) (fun i v d h1 h2 => ?_)
    · rcases hS with h | ⟨o, its, n, h⟩
      · left
        refine ⟨?_, by simp⟩
        rcases h with h | h
        · rcases ho a with z | ⟨o, xs, z⟩
          · rw [z] at h; cases h
          · rw [z] at h; cases h
        · exact h
      · exact .inr ⟨o, its, n, h⟩
    · rw [List.getElem?_map] at h1 h2
      cases q : ns[i]? with
      | none => rw [q] at h1; cases h1
      | some j =>
        rw [q] at h1 h2
        cases h1; cases h2
        exact .int j
  · rw [e]
    intro μ1 H1 v _ _ rv
    cases rv with
    | bl b => exact hQ H1
/-! ### x is True, x is not True -/
def isBD (x y : Dv) (S : Sto) : Out Dv := match x, y with
  | .bl a, .bl b => .ok (.bl (decide (a = b))) S
  | _, _ => .no
def isnBD (x y : Dv) (S : Sto) : Out Dv := match x, y with
  | .bl a, .bl b => .ok (.bl (!decide (a = b))) S
  | _, _ => .no
section
variable {K : PySem.W.Frag}
theorem o_isB : Op2 K isBD (fun x y H Q => ∃ a b, x = .bl a ∧ y = .bl b ∧ Q (.bl (decide (a = b))) H) := by
  intro mg Wx μ H S x y d e Q hS rx ry h
  cases rx <;> first | exact h.elim | skip
  cases ry <;> first | exact h.elim | exact ⟨_, _, rfl, rfl, h.ok hS (.bl _)⟩
theorem o_isnB : Op2 K isnBD (fun x y H Q => ∃ a b, x = .bl a ∧ y = .bl b ∧ Q (.bl (!decide (a = b))) H) := by
  intro mg Wx μ H S x y d e Q hS rx ry h
  cases rx <;> first | exact h.elim | skip
  cases ry <;> first | exact h.elim | exact ⟨_, _, rfl, rfl, h.ok hS (.bl _)⟩
end
/-- a handled exception's class (gen.py) -/
theorem kn_or {c : Str} {a b : Bool} (h : (a || b) = true) : a = true ∨ b = true := by cases a <;> simp_all
theorem boot_ValueError : bootBuiltins "ValueError" = some (.type "ValueError") := by decide +kernel
theorem kit_own {K : PySem.W.Frag} {C D : Addr} {b : Bool} (h : PySem.W.subIn K (.ref C) (.ref D) = some b) (hs : PySem.W.subIn K (.ref C) (.ref C) = some true) (hd : PySem.W.hasDictIn K D = true) (ht : PySem.W.typeIn K (.ref D) = some (.type "type")) : PySem.W.kitOne K (.ref C) (.ref D) = some b := by
  unfold PySem.W.kitOne
  by_cases e : (Value.ref C == Value.ref D) = true
  · rw [if_pos e]
    have e' : C = D := Value.ref.inj (beq_iff_eq.mp e)
    subst e'
    rw [hs] at h
    exact h
  · rw [if_neg e]
    obtain ⟨cd, hc, _⟩ := PySem.W.any_some hd
    unfold PySem.W.kitCls
    have e2 : ((PySem.W.clsIn K D).isSome && PySem.W.typeIn K (.ref D) == some (.type "type")) = true := by rw [hc, ht] <;> rfl
    show (if ((PySem.W.clsIn K D).isSome && PySem.W.typeIn K (.ref D) == some (.type "type")) = true then PySem.W.subIn K (.ref C) (.ref D) else none) = some b
    rw [if_pos e2]
    exact h
theorem kit_VE {K : PySem.W.Frag} {C : Addr} {b : Bool} (h : PySem.W.subIn K (.ref C) (.type "ValueError") = some b) : PySem.W.kitOne K (.ref C) (.type "ValueError") = some b := by
  unfold PySem.W.kitOne
  rw [if_neg (show ¬ (Value.ref C == Value.type "ValueError") = true from fun z => nomatch (beq_iff_eq.mp z))]
  have e : PySem.W.kitMeta "ValueError" = true := by decide +kernel
  show (if PySem.W.kitMeta "ValueError" = true then PySem.W.subIn K (.ref C) (.type "ValueError") else none) = some b
  rw [if_pos e]
  exact h
end PL

/-! an own exception class with one field (turned from the worked proof 42_own_error_by_import by mkexc.py) -/
namespace PySem
namespace ExN
open PySem.W PySem.Calls PyProof.Rows PySem.HandSPX
/-! ### the text of __init__ -/
def iA (p1 p2 : Pos) : Arguments := { posonlyargs := [], args := [{ arg := "self", annotation := none, pos := p1 }, { arg := "name", annotation := none, pos := p2 }], vararg := none, kwonlyargs := [], kw_defaults := [], kwarg := none, defaults := [] }
def iB (q1 q2 q3 q4 : Pos) : List Stmt := [.Assign [.Attribute (.Name "self" q1) "name" q2] (.Name "name" q3) q4]
def iS : Scope := { kind := .function, names := [(PySem.Str.ofString "self", .local), (PySem.Str.ofString "name", .local)], isGenerator := false, isCoroutine := false, more := [] }
/-- what the written part says of Low, at C, and of its __init__, at fI -/
structure ExT (K : Frag) (mg : Str → Option Value) (cn qn : Str) (C fI : Addr) : Prop where
  gC : mg cn = some (.ref C)
  cls : ∃ nm q N bs bm sn sub ab col dd k0 k1 k2 k3 k5, K.lookup C = some (excClassObj nm q C N bs bm true sn sub ab col dd k0 k1 k2 k3 k5 "ValueError.__new__") ∧ refsVE bm = true
  sa : findIn K (.ref C) "__setattr__" = some (some (.builtin "object.__setattr__"))
  ga : findIn K (.ref C) "__getattribute__" = some (some (.builtin "BaseException.__getattribute__"))
  gg : findIn K (.ref C) "__getattr__" = some none
  noN : findIn K (.ref C) "name" = some none
  iC : findIn K (.ref C) "__init__" = some (some (.ref fI))
  tC : typeIn K (.ref fI) = some (.type "function")
  kC : keepIn K (.ref C) = true
  exC : subIn K (.ref C) (.type "BaseException") = some true
  tyC : typeIn K (.ref C) = some (.type "type")
  hdC : hasDictIn K C = true
  te : exmOne K (.ref C) (.ref C) = some true
  fn : ∃ (oc : Value) (od : Option Addr) (doc pm : Value) (an : Option Addr) (cdv ct : Value) (osl : Array (Option Value)) (p1 p2 q1 q2 q3 q4 : Pos),
    K.lookup fI = some ⟨oc, od, .func (fnOf "__init__" qn (iA p1 p2) (iB q1 q2 q3 q4) iS .none .none doc pm an cdv ct), osl⟩ ∧ codeIn K cdv qn = true
theorem one_size (v : Value) : [v].length ≤ sizeLine := by
  rw [sizeLine_eq]
  exact (by decide : 1 ≤ 16777216)
theorem kept_but {K : Frag} {h h' : Heap} {x : Addr} (X : K.In h) (hx : K.lookup x = none) (k : ∀ b o, b ≠ x → h.get? b = some o → h'.get? b = some o) : K.In h' := fun a o e =>
  k a o (fun z => by rw [z, hx] at e; cases e) (X a o e)
theorem ldC {M : Model} {s : Shared} {name : Str} {scope : Scope} {L a : Addr} {cd : Value} {m : Str → Option Value} {x : Str} {pos : Pos} {v : Value} {Q : Value → Shared → Prop} {A : Around} {E : Value → Shared → Prop} (hn : s.heap.Ns L m) (hv : m x = some v) (h : Q v s)
    (hk : scope.kind = .function := by rfl) (hl : (envOfC name scope L a cd).kindOf x = some .local := by rfl) (hd : (x == ("__debug__" : Str)) = false := by decide) :
    wpAny M A (eval (.Name x pos) (envOfC name scope L a cd)) Q E s := wpAny_Name (wpAny_loadName_local hk hl hn hv h) hd
/-- what __init__ leaves of a fresh exception at x -/
structure InitEnd (h h' : Heap) (x C dx t1 : Addr) (v : Value) : Prop where
  keep : ∀ b o, b ≠ x → h.get? b = some o → h'.get? b = some o
  obj : h'.get? x = some { cls := .ref C, dict := some dx, data := .fields #[.ref t1, .none, .none, .none, .bool false, .none] }
  dbig : h.objs.size ≤ dx
  dne : dx ≠ x
  ns : h'.Ns1 dx (fun y => if y = "name" then some v else none)
/-- a made Low -/
structure OwnMade (h h' : Heap) (e C d : Addr) (v : Value) : Prop where
  keep : ∀ b o, h.get? b = some o → h'.get? b = some o
  new : h.objs.size ≤ e
  obj : ∃ oe vs, h'.get? e = some oe ∧ oe.cls = .ref C ∧ oe.dict = some d ∧ oe.data = .fields vs ∧ vs[1]? = some .none
  dbig : h.objs.size ≤ d
  dne : d ≠ e
  ns : h'.Ns1 d (fun y => if y = "name" then some v else none)
section
variable {prog : Program} {w : World} {A : Around} {E : Value → Shared → Prop} {R : Result → Shared → Prop} {s : Shared} {K : Frag} {mg : Str → Option Value} {cn qn : Str} {C fI : Addr}
theorem ex_init (T : ExT K mg cn qn C fI) {x t0 : Addr} {v : Value} (X : K.In s.heap) (hlim : s.heap.NoLimit) (hx : s.heap.get? x = some (excO C t0)) (hnx : K.lookup x = none) (hroom : A.depth < recursionLimit)
    (hq : ∀ h' tk dx, InitEnd s.heap h' x C dx t0 v → R (.ok (.ret .none)) { s with heap := h', toks := tk }) :
    codeAny (model prog w) A (.call (.ref fI) ⟨[.ref x, v], []⟩) R s := by
  obtain ⟨oc, od, doc, pm, an, cdv, ct, osl, p1, p2, q1, q2, q3, q4, ho, hcd⟩ := T.fn
  obtain ⟨nm, q, N, bs, bm, sn, sub, ab, col, dd, k0, k1, k2, k3, k5, hC, hbm⟩ := T.cls
  have hcl : clsIn K C = some { name := nm, bases := bs, mro := .ref C :: bm, ns := N, qualname := q, hasDict := true, slotNames := sn, subclasses := sub, abstract := ab, collection := col, hasDel := false } := by unfold clsIn; rw [hC] <;> rfl
  refine Att.call_fn (binds := [("self", .ref x), ("name", v)]) X hlim ho hcd hroom (BindsTo.of_eq (by first | rfl | with_unfolding_all rfl)) (by first | rfl | decide | with_unfolding_all rfl) (fun s₁ IC => ?_) rfl rfl rfl
  obtain ⟨h₁, tk₁, rfl⟩ := IC.toInCall.same
  have k : ∀ b o, s.heap.get? b = some o → h₁.get? b = some o := IC.toInCall.keep
  have hn := IC.toInCall.ns
  have hxL : s.heap.objs.size ≠ x := Nat.ne_of_gt (Heap.lt_size hx)
  have X₁ : K.In h₁ := X.keeps k
  have hx₁ := k _ _ hx
  -- self.by = by
  show wpAny _ _ (execs _ _) _ _ _
  refine wpAny_execs_cons (plainObj_wpAny_Assign_Attribute ?_)
  refine ldC (v := v) hn (by first | rfl | with_unfolding_all rfl | kernel_rfl) (ldC (v := .ref x) hn (by first | rfl | with_unfolding_all rfl | kernel_rfl) ?_)
  refine set_plain X₁ (ox := excO C t0) (od := none) ⟨hx₁, rfl, rfl, trivial⟩ T.sa ?_
  refine exc_osa X₁ hx₁ hcl (show refsVE (.ref C :: bm) = true from hbm) rfl T.noN (fun h₃ tk₃ dx k₃ dn dne hx₃ hn₃ => ?_)
  show wpAny _ _ (execs _ _) _ _ _
  have z : s.heap.objs.size < h₁.objs.size := hn.lt
  exact wpAny_execs_nil (hq h₃ tk₃ dx ⟨fun b o hb e => k₃ b o hb (k b o e), hx₃, Nat.le_of_lt (Nat.lt_of_lt_of_le z dn), dne, hn₃⟩)
theorem ex_made (T : ExT K mg cn qn C fI) {v : Value} (X : K.In s.heap) (hlim : s.heap.NoLimit) (hroom : A.depth + 1 < recursionLimit)
    (hq : ∀ h' tk e d, OwnMade s.heap h' e C d v → R (.ok (.ret (.ref e))) { s with heap := h', toks := tk }) :
    codeAny (model prog w) A (.call (.ref C) ⟨[v], []⟩) R s := by
  obtain ⟨nm, q, N, bs, bm, sn, sub, ab, col, dd, k0, k1, k2, k3, k5, hC, hbm⟩ := T.cls
  obtain ⟨hp, g, dr, tk, os⟩ := s
  have k : ∀ b o, hp.get? b = some o → ((hp.push (kdv_tup [v])).push (excO C hp.objs.size)).get? b = some o := fun b o e => Heap.get?_push_of_some _ (Heap.get?_push_of_some _ e)
  have hget : ((hp.push (kdv_tup [v])).push (excO C hp.objs.size)).get? (hp.objs.size + 1) = some (excO C hp.objs.size) := by heap_get
  have hnx : K.lookup (hp.objs.size + 1) = none := by
    cases e : K.lookup (hp.objs.size + 1) with
    | none => rfl
    | some o =>
      have z : hp.get? (hp.objs.size + 1) = some o := X _ _ e
      exact absurd (Nat.lt_of_succ_lt (Heap.lt_size z)) (Nat.lt_irrefl _)
  refine call_own F.excBase_ValueError (fun X => refsVE_contains X bm hbm) (X _ _ hC) (looks_findIn X T.iC) (fun self => bind_fn X self T.tC) (one_size v) ?_
  refine ex_init (s := ⟨(hp.push (kdv_tup [v])).push (excO C hp.objs.size), g, dr, tk, os⟩) T (X.keeps k) (hlim.keeps k) hget hnx ?_ fun h' tk' dx ⟨k', hx, dn, dne, hns⟩ => ?_
  · show A.depth + 1 < recursionLimit
    exact hroom
  · have old : ∀ b o, hp.get? b = some o → h'.get? b = some o := fun b o e => k' b o (Nat.ne_of_lt (Nat.lt_succ_of_lt (Heap.lt_size e))) (k b o e)
    have z : hp.objs.size + 1 + 1 ≤ dx := by
      first
        | (simpa only [Heap.size_push] using dn)
        | exact dn
        | (have q := dn; rw [Heap.size_push, Heap.size_push] at q; exact q)
    exact ⟨rfl, hq h' tk' (hp.objs.size + 1) dx ⟨old, Nat.le_succ _, ⟨_, _, hx, rfl, rfl, rfl, rfl⟩, Nat.le_trans (Nat.le_trans (Nat.le_succ _) (Nat.le_succ _)) z, dne, hns⟩⟩
end
end ExN
end PySem
namespace L2
open PySem PySem.Spec PyProof.Rows
theorem relO_ex_name {v : V} {v' : Value} (r : RelV v v') (f : Str) : RelO (List.lookup f [(("name" : Str), v)]) (if f = "name" then some v' else none) := by
  by_cases hw : f = "name"
  · subst hw
    rw [if_pos rfl]
    have q : List.lookup ("name" : Str) [(("name" : Str), v)] = some v := by simp [List.lookup]
    rw [q]
    exact r
  · rw [if_neg hw]
    have qw : (f == ("name" : Str)) = false := by simpa using hw
    have q2 : List.lookup f [(("name" : Str), v)] = none := by simp [List.lookup, qw]
    rw [q2]
    trivial
section
variable {X : Cx} {cn qn : Str} {C fI : Addr}
/-- Low(e) -/
def tMkEx_name (C : Addr) (ta : TA) : St → Hp → XK → Prop := fun σ H Q => ta σ H fun vs H1 => ∃ v, vs = [v] ∧ ∀ d, H1 d = none → Q (.ref C) (some d) (upd H1 d (.xd [(("name" : Str), v)]))
theorem pmk_ex_name {a : Expr} {ta : TA} {p pos : Pos} {k : Nat} (T : PySem.ExN.ExT X.K X.mg cn qn C fI) (hr : Room k X.A) (ha : PA X [a] ta) (hg : Gl X cn := by rfl) (hdb : (cn == ("__debug__" : Str)) = false := by decide)
    (he : starEach (a :: []) X.env = (false, eval a X.env) :: starEach [] X.env := by rfl) (hpl : (backTo pos (starEach [] X.env)).any (·.1) = false := by rfl) :
    PMk X (.Call (.Name cn p) [a] [] pos) (tMkEx_name C ta) := by
  intro pins s σ H Q I h
  refine wpAny_Call_Name_kw (ld_glob I hg T.gC ?_ hdb)
  refine PySem.W.callWith_K (h₀ := X.base) I.ok.mod.kin T.kC (thn (ha.run pos pins s σ H _ I h) fun us s1 hh => ?_) he hpl
  obtain ⟨vs, H1, I1, r1, v, ev, q1⟩ := hh
  subst ev
  refine ⟨I1.kIn, ?_⟩
  cases r1 with
  | cons rv rn =>
    rename_i v' us'
    cases rn
    show wpAny _ _ (call (.ref C) [v']) _ _ _
    have hlim := I1.nolimit
    obtain ⟨hp, g, dr, tk, os⟩ := s1
    refine wpAny_call (PySem.ExN.ex_made T I1.kIn hlim (by have := hr.dp; omega) fun h' tk' e d M => ?_)
    show MkP X pins σ Q (.ref e) ⟨h', g, dr, tk', os⟩
    obtain ⟨oe, fv, hoe, hc, hd, hdat, h1⟩ := M.obj
    have hns := M.ns
    obtain ⟨G', g1, g2⟩ := restrict h' fun b => decide (b ≠ e)
    have gk : ∀ b, b ≠ e → G'.get? b = h'.get? b := fun b hb => g1 b (decide_eq_true hb)
    have ge : G'.get? e = none := g2 e (by simp)
    have old : ∀ b o, hp.get? b = some o → G'.get? b = some o := fun b o q => (gk b (Nat.ne_of_lt (Nat.lt_of_lt_of_le (Heap.lt_size q) M.new))).trans (M.keep b o q)
    have ob : ObjOk X.prog X.w (upd H1 d (.xd [(("name" : Str), v)])) G' d (.xd [(("name" : Str), v)]) :=
      ⟨_, hns.at (fun o q => (gk d M.dne).trans q), fun f => relO_ex_name rv f⟩
    have J : Inv X pins σ (upd H1 d (.xd [(("name" : Str), v)])) ⟨G', g, dr, tk', os⟩ := I1.laid (t' := tk') old M.dbig ob
    refine ⟨e, oe, fv, ⟨G', g, dr, tk', os⟩, _, .ref C, some d, rfl, J, fun b o q => ?_, ge, hoe, ⟨hc, hd⟩, hdat, h1, ?_, rfl, I1.bare, raises_own T.exC T.tyC, q1 d (I1.hok.fresh M.dbig)⟩
    · by_cases hb : b = e
      · have q' : G'.get? b = some o := q
        rw [hb, ge] at q'; cases q'
      · exact (gk b hb).symm.trans q
    · rw [upd_ne (Ne.symm M.dne)]
      exact I1.hok.fresh M.new
/-- raise Low(e) -/
def tRaiseEx_name (C : Addr) (W : WX) (ta : TA) : TS := fun _ σ H => tMkEx_name C ta σ H fun cls d H' => W cls d σ H'
theorem ps_raiseEx_name {a : Expr} {ta : TA} {W : WX} {p pos pos2 : Pos} {k : Nat} (hc : X.calm = true) (T : PySem.ExN.ExT X.K X.mg cn qn C fI) (hr : Room k X.A) (tk : Takes X W) (ha : PA X [a] ta) (hg : Gl X cn := by rfl) (hdb : (cn == ("__debug__" : Str)) = false := by decide)
    (he : starEach (a :: []) X.env = (false, eval a X.env) :: starEach [] X.env := by rfl) (hpl : (backTo pos (starEach [] X.env)).any (·.1) = false := by rfl) :
    PS X (.Raise (some (.Call (.Name cn p) [a] [] pos)) none pos2) (tRaiseEx_name C W ta) := ps_raise hc tk (pmk_ex_name T hr ha hg hdb he hpl)
/-- low.by, low the exception that the suite holds (at a; its class cls, its dict d) -/
def tByEx_name (C : Addr) (a : Addr) (cls : Value) (d : Option Addr) (te : TE) : TE := fun σ H Q => te σ H fun x H1 => x = .ref a ∧ cls = .ref C ∧ ∃ (dd : Addr) (v : V), d = some dd ∧ H1 dd = some (.xd [(("name" : Str), v)]) ∧ Q v H1
theorem pe_byEx_name {a : Addr} {oe : Obj} {cls : Value} {d : Option Addr} {pn : List (Addr × Obj)} {e : Expr} {te : TE} {pos : Pos} (T : PySem.ExN.ExT X.K X.mg cn qn C fI) (hz : Zc cls d oe) (hf : ∃ vs, oe.data = .fields vs) (he : PE (X.suite a ((a, oe) :: pn)) e te)
    (hb : attributeBase e "name" X.env (eval e X.env) = eval e X.env := by rfl) :
    PE (X.suite a ((a, oe) :: pn)) (.Attribute e "name" pos) (tByEx_name C a cls d te) := by
  refine ⟨fun pins s σ H Q I h => ?_⟩
  refine attr_of hb (thn (he.run pins s σ H _ I h) fun u s1 hh => ?_)
  obtain ⟨x, H1, I1, rx, ex, ec, dd, v, ed, ea, q⟩ := hh
  subst ex
  obtain rfl : u = Value.ref a := rx
  subst ec
  subst ed
  obtain ⟨ha, _⟩ := I1.pin (a, oe) (List.mem_append_left _ List.mem_cons_self)
  obtain ⟨vs, hd⟩ := hf
  have hx : ObjOk X.prog X.w H1 s1.heap dd (.xd [(("name" : Str), v)]) := I1.hok dd _ ea
  obtain ⟨mA, hns, hr⟩ := hx
  obtain ⟨od, ho, hl⟩ := lookIn_ns hns
  have l : List.lookup ("name" : Str) [(("name" : Str), v)] = some v := by simp [List.lookup]
  obtain ⟨u, hu, ru⟩ := RelO.some_of (v := v) (o := mA "name") (by rw [← l]; exact hr "name")
  have J : PySem.W.InstAt s1.heap a oe C (some od) := ⟨ha, hz.1, by unfold PySem.W.notCls; rw [hd] <;> rfl, by rw [hz.2]; exact ho⟩
  exact HandSPX.exc_get I1.kIn J T.ga T.gg T.exC (PySem.W.findObj_own T.hdC T.noN rfl (by rw [hl, hu])) (handed_of ru) ⟨v, H1, I1.tok _, ru, q⟩
end
end L2

namespace PySem
namespace ExS
open PySem.W PySem.Calls PyProof.Rows PySem.HandSPX
/-! ### the text of __init__ -/
def iA (p1 p2 : Pos) : Arguments := { posonlyargs := [], args := [{ arg := "self", annotation := none, pos := p1 }, { arg := "size", annotation := none, pos := p2 }], vararg := none, kwonlyargs := [], kw_defaults := [], kwarg := none, defaults := [] }
def iB (q1 q2 q3 q4 : Pos) : List Stmt := [.Assign [.Attribute (.Name "self" q1) "size" q2] (.Name "size" q3) q4]
def iS : Scope := { kind := .function, names := [(PySem.Str.ofString "self", .local), (PySem.Str.ofString "size", .local)], isGenerator := false, isCoroutine := false, more := [] }
/-- what the written part says of Low, at C, and of its __init__, at fI -/
structure ExT (K : Frag) (mg : Str → Option Value) (cn qn : Str) (C fI : Addr) : Prop where
  gC : mg cn = some (.ref C)
  cls : ∃ nm q N bs bm sn sub ab col dd k0 k1 k2 k3 k5, K.lookup C = some (excClassObj nm q C N bs bm true sn sub ab col dd k0 k1 k2 k3 k5 "ValueError.__new__") ∧ refsVE bm = true
  sa : findIn K (.ref C) "__setattr__" = some (some (.builtin "object.__setattr__"))
  ga : findIn K (.ref C) "__getattribute__" = some (some (.builtin "BaseException.__getattribute__"))
  gg : findIn K (.ref C) "__getattr__" = some none
  noN : findIn K (.ref C) "size" = some none
  iC : findIn K (.ref C) "__init__" = some (some (.ref fI))
  tC : typeIn K (.ref fI) = some (.type "function")
  kC : keepIn K (.ref C) = true
  exC : subIn K (.ref C) (.type "BaseException") = some true
  tyC : typeIn K (.ref C) = some (.type "type")
  hdC : hasDictIn K C = true
  te : exmOne K (.ref C) (.ref C) = some true
  fn : ∃ (oc : Value) (od : Option Addr) (doc pm : Value) (an : Option Addr) (cdv ct : Value) (osl : Array (Option Value)) (p1 p2 q1 q2 q3 q4 : Pos),
    K.lookup fI = some ⟨oc, od, .func (fnOf "__init__" qn (iA p1 p2) (iB q1 q2 q3 q4) iS .none .none doc pm an cdv ct), osl⟩ ∧ codeIn K cdv qn = true
theorem one_size (v : Value) : [v].length ≤ sizeLine := by
  rw [sizeLine_eq]
  exact (by decide : 1 ≤ 16777216)
theorem kept_but {K : Frag} {h h' : Heap} {x : Addr} (X : K.In h) (hx : K.lookup x = none) (k : ∀ b o, b ≠ x → h.get? b = some o → h'.get? b = some o) : K.In h' := fun a o e =>
  k a o (fun z => by rw [z, hx] at e; cases e) (X a o e)
theorem ldC {M : Model} {s : Shared} {name : Str} {scope : Scope} {L a : Addr} {cd : Value} {m : Str → Option Value} {x : Str} {pos : Pos} {v : Value} {Q : Value → Shared → Prop} {A : Around} {E : Value → Shared → Prop} (hn : s.heap.Ns L m) (hv : m x = some v) (h : Q v s)
    (hk : scope.kind = .function := by rfl) (hl : (envOfC name scope L a cd).kindOf x = some .local := by rfl) (hd : (x == ("__debug__" : Str)) = false := by decide) :
    wpAny M A (eval (.Name x pos) (envOfC name scope L a cd)) Q E s := wpAny_Name (wpAny_loadName_local hk hl hn hv h) hd
/-- what __init__ leaves of a fresh exception at x -/
structure InitEnd (h h' : Heap) (x C dx t1 : Addr) (v : Value) : Prop where
  keep : ∀ b o, b ≠ x → h.get? b = some o → h'.get? b = some o
  obj : h'.get? x = some { cls := .ref C, dict := some dx, data := .fields #[.ref t1, .none, .none, .none, .bool false, .none] }
  dbig : h.objs.size ≤ dx
  dne : dx ≠ x
  ns : h'.Ns1 dx (fun y => if y = "size" then some v else none)
/-- a made Low -/
structure OwnMade (h h' : Heap) (e C d : Addr) (v : Value) : Prop where
  keep : ∀ b o, h.get? b = some o → h'.get? b = some o
  new : h.objs.size ≤ e
  obj : ∃ oe vs, h'.get? e = some oe ∧ oe.cls = .ref C ∧ oe.dict = some d ∧ oe.data = .fields vs ∧ vs[1]? = some .none
  dbig : h.objs.size ≤ d
  dne : d ≠ e
  ns : h'.Ns1 d (fun y => if y = "size" then some v else none)
section
variable {prog : Program} {w : World} {A : Around} {E : Value → Shared → Prop} {R : Result → Shared → Prop} {s : Shared} {K : Frag} {mg : Str → Option Value} {cn qn : Str} {C fI : Addr}
theorem ex_init (T : ExT K mg cn qn C fI) {x t0 : Addr} {v : Value} (X : K.In s.heap) (hlim : s.heap.NoLimit) (hx : s.heap.get? x = some (excO C t0)) (hnx : K.lookup x = none) (hroom : A.depth < recursionLimit)
    (hq : ∀ h' tk dx, InitEnd s.heap h' x C dx t0 v → R (.ok (.ret .none)) { s with heap := h', toks := tk }) :
    codeAny (model prog w) A (.call (.ref fI) ⟨[.ref x, v], []⟩) R s := by
  obtain ⟨oc, od, doc, pm, an, cdv, ct, osl, p1, p2, q1, q2, q3, q4, ho, hcd⟩ := T.fn
  obtain ⟨nm, q, N, bs, bm, sn, sub, ab, col, dd, k0, k1, k2, k3, k5, hC, hbm⟩ := T.cls
  have hcl : clsIn K C = some { name := nm, bases := bs, mro := .ref C :: bm, ns := N, qualname := q, hasDict := true, slotNames := sn, subclasses := sub, abstract := ab, collection := col, hasDel := false } := by unfold clsIn; rw [hC] <;> rfl
  refine Att.call_fn (binds := [("self", .ref x), ("size", v)]) X hlim ho hcd hroom (BindsTo.of_eq (by first | rfl | with_unfolding_all rfl)) (by first | rfl | decide | with_unfolding_all rfl) (fun s₁ IC => ?_) rfl rfl rfl
  obtain ⟨h₁, tk₁, rfl⟩ := IC.toInCall.same
  have k : ∀ b o, s.heap.get? b = some o → h₁.get? b = some o := IC.toInCall.keep
  have hn := IC.toInCall.ns
  have hxL : s.heap.objs.size ≠ x := Nat.ne_of_gt (Heap.lt_size hx)
  have X₁ : K.In h₁ := X.keeps k
  have hx₁ := k _ _ hx
  -- self.by = by
  show wpAny _ _ (execs _ _) _ _ _
  refine wpAny_execs_cons (plainObj_wpAny_Assign_Attribute ?_)
  refine ldC (v := v) hn (by first | rfl | with_unfolding_all rfl | kernel_rfl) (ldC (v := .ref x) hn (by first | rfl | with_unfolding_all rfl | kernel_rfl) ?_)
  refine set_plain X₁ (ox := excO C t0) (od := none) ⟨hx₁, rfl, rfl, trivial⟩ T.sa ?_
  refine exc_osa X₁ hx₁ hcl (show refsVE (.ref C :: bm) = true from hbm) rfl T.noN (fun h₃ tk₃ dx k₃ dn dne hx₃ hn₃ => ?_)
  show wpAny _ _ (execs _ _) _ _ _
  have z : s.heap.objs.size < h₁.objs.size := hn.lt
  exact wpAny_execs_nil (hq h₃ tk₃ dx ⟨fun b o hb e => k₃ b o hb (k b o e), hx₃, Nat.le_of_lt (Nat.lt_of_lt_of_le z dn), dne, hn₃⟩)
theorem ex_made (T : ExT K mg cn qn C fI) {v : Value} (X : K.In s.heap) (hlim : s.heap.NoLimit) (hroom : A.depth + 1 < recursionLimit)
    (hq : ∀ h' tk e d, OwnMade s.heap h' e C d v → R (.ok (.ret (.ref e))) { s with heap := h', toks := tk }) :
    codeAny (model prog w) A (.call (.ref C) ⟨[v], []⟩) R s := by
  obtain ⟨nm, q, N, bs, bm, sn, sub, ab, col, dd, k0, k1, k2, k3, k5, hC, hbm⟩ := T.cls
  obtain ⟨hp, g, dr, tk, os⟩ := s
  have k : ∀ b o, hp.get? b = some o → ((hp.push (kdv_tup [v])).push (excO C hp.objs.size)).get? b = some o := fun b o e => Heap.get?_push_of_some _ (Heap.get?_push_of_some _ e)
  have hget : ((hp.push (kdv_tup [v])).push (excO C hp.objs.size)).get? (hp.objs.size + 1) = some (excO C hp.objs.size) := by heap_get
  have hnx : K.lookup (hp.objs.size + 1) = none := by
    cases e : K.lookup (hp.objs.size + 1) with
    | none => rfl
    | some o =>
      have z : hp.get? (hp.objs.size + 1) = some o := X _ _ e
      exact absurd (Nat.lt_of_succ_lt (Heap.lt_size z)) (Nat.lt_irrefl _)
  refine call_own F.excBase_ValueError (fun X => refsVE_contains X bm hbm) (X _ _ hC) (looks_findIn X T.iC) (fun self => bind_fn X self T.tC) (one_size v) ?_
  refine ex_init (s := ⟨(hp.push (kdv_tup [v])).push (excO C hp.objs.size), g, dr, tk, os⟩) T (X.keeps k) (hlim.keeps k) hget hnx ?_ fun h' tk' dx ⟨k', hx, dn, dne, hns⟩ => ?_
  · show A.depth + 1 < recursionLimit
    exact hroom
  · have old : ∀ b o, hp.get? b = some o → h'.get? b = some o := fun b o e => k' b o (Nat.ne_of_lt (Nat.lt_succ_of_lt (Heap.lt_size e))) (k b o e)
    have z : hp.objs.size + 1 + 1 ≤ dx := by
      first
        | (simpa only [Heap.size_push] using dn)
        | exact dn
        | (have q := dn; rw [Heap.size_push, Heap.size_push] at q; exact q)
    exact ⟨rfl, hq h' tk' (hp.objs.size + 1) dx ⟨old, Nat.le_succ _, ⟨_, _, hx, rfl, rfl, rfl, rfl⟩, Nat.le_trans (Nat.le_trans (Nat.le_succ _) (Nat.le_succ _)) z, dne, hns⟩⟩
end
end ExS
end PySem
namespace L2
open PySem PySem.Spec PyProof.Rows
theorem relO_ex_size {v : V} {v' : Value} (r : RelV v v') (f : Str) : RelO (List.lookup f [(("size" : Str), v)]) (if f = "size" then some v' else none) := by
  by_cases hw : f = "size"
  · subst hw
    rw [if_pos rfl]
    have q : List.lookup ("size" : Str) [(("size" : Str), v)] = some v := by simp [List.lookup]
    rw [q]
    exact r
  · rw [if_neg hw]
    have qw : (f == ("size" : Str)) = false := by simpa using hw
    have q2 : List.lookup f [(("size" : Str), v)] = none := by simp [List.lookup, qw]
    rw [q2]
    trivial
section
variable {X : Cx} {cn qn : Str} {C fI : Addr}
/-- Low(e) -/
def tMkEx_size (C : Addr) (ta : TA) : St → Hp → XK → Prop := fun σ H Q => ta σ H fun vs H1 => ∃ v, vs = [v] ∧ ∀ d, H1 d = none → Q (.ref C) (some d) (upd H1 d (.xd [(("size" : Str), v)]))
theorem pmk_ex_size {a : Expr} {ta : TA} {p pos : Pos} {k : Nat} (T : PySem.ExS.ExT X.K X.mg cn qn C fI) (hr : Room k X.A) (ha : PA X [a] ta) (hg : Gl X cn := by rfl) (hdb : (cn == ("__debug__" : Str)) = false := by decide)
    (he : starEach (a :: []) X.env = (false, eval a X.env) :: starEach [] X.env := by rfl) (hpl : (backTo pos (starEach [] X.env)).any (·.1) = false := by rfl) :
    PMk X (.Call (.Name cn p) [a] [] pos) (tMkEx_size C ta) := by
  intro pins s σ H Q I h
  refine wpAny_Call_Name_kw (ld_glob I hg T.gC ?_ hdb)
  refine PySem.W.callWith_K (h₀ := X.base) I.ok.mod.kin T.kC (thn (ha.run pos pins s σ H _ I h) fun us s1 hh => ?_) he hpl
  obtain ⟨vs, H1, I1, r1, v, ev, q1⟩ := hh
  subst ev
  refine ⟨I1.kIn, ?_⟩
  cases r1 with
  | cons rv rn =>
    rename_i v' us'
    cases rn
    show wpAny _ _ (call (.ref C) [v']) _ _ _
    have hlim := I1.nolimit
    obtain ⟨hp, g, dr, tk, os⟩ := s1
    refine wpAny_call (PySem.ExS.ex_made T I1.kIn hlim (by have := hr.dp; omega) fun h' tk' e d M => ?_)
    show MkP X pins σ Q (.ref e) ⟨h', g, dr, tk', os⟩
    obtain ⟨oe, fv, hoe, hc, hd, hdat, h1⟩ := M.obj
    have hns := M.ns
    obtain ⟨G', g1, g2⟩ := restrict h' fun b => decide (b ≠ e)
    have gk : ∀ b, b ≠ e → G'.get? b = h'.get? b := fun b hb => g1 b (decide_eq_true hb)
    have ge : G'.get? e = none := g2 e (by simp)
    have old : ∀ b o, hp.get? b = some o → G'.get? b = some o := fun b o q => (gk b (Nat.ne_of_lt (Nat.lt_of_lt_of_le (Heap.lt_size q) M.new))).trans (M.keep b o q)
    have ob : ObjOk X.prog X.w (upd H1 d (.xd [(("size" : Str), v)])) G' d (.xd [(("size" : Str), v)]) :=
      ⟨_, hns.at (fun o q => (gk d M.dne).trans q), fun f => relO_ex_size rv f⟩
    have J : Inv X pins σ (upd H1 d (.xd [(("size" : Str), v)])) ⟨G', g, dr, tk', os⟩ := I1.laid (t' := tk') old M.dbig ob
    refine ⟨e, oe, fv, ⟨G', g, dr, tk', os⟩, _, .ref C, some d, rfl, J, fun b o q => ?_, ge, hoe, ⟨hc, hd⟩, hdat, h1, ?_, rfl, I1.bare, raises_own T.exC T.tyC, q1 d (I1.hok.fresh M.dbig)⟩
    · by_cases hb : b = e
      · have q' : G'.get? b = some o := q
        rw [hb, ge] at q'; cases q'
      · exact (gk b hb).symm.trans q
    · rw [upd_ne (Ne.symm M.dne)]
      exact I1.hok.fresh M.new
/-- raise Low(e) -/
def tRaiseEx_size (C : Addr) (W : WX) (ta : TA) : TS := fun _ σ H => tMkEx_size C ta σ H fun cls d H' => W cls d σ H'
theorem ps_raiseEx_size {a : Expr} {ta : TA} {W : WX} {p pos pos2 : Pos} {k : Nat} (hc : X.calm = true) (T : PySem.ExS.ExT X.K X.mg cn qn C fI) (hr : Room k X.A) (tk : Takes X W) (ha : PA X [a] ta) (hg : Gl X cn := by rfl) (hdb : (cn == ("__debug__" : Str)) = false := by decide)
    (he : starEach (a :: []) X.env = (false, eval a X.env) :: starEach [] X.env := by rfl) (hpl : (backTo pos (starEach [] X.env)).any (·.1) = false := by rfl) :
    PS X (.Raise (some (.Call (.Name cn p) [a] [] pos)) none pos2) (tRaiseEx_size C W ta) := ps_raise hc tk (pmk_ex_size T hr ha hg hdb he hpl)
/-- low.by, low the exception that the suite holds (at a; its class cls, its dict d) -/
def tByEx_size (C : Addr) (a : Addr) (cls : Value) (d : Option Addr) (te : TE) : TE := fun σ H Q => te σ H fun x H1 => x = .ref a ∧ cls = .ref C ∧ ∃ (dd : Addr) (v : V), d = some dd ∧ H1 dd = some (.xd [(("size" : Str), v)]) ∧ Q v H1
theorem pe_byEx_size {a : Addr} {oe : Obj} {cls : Value} {d : Option Addr} {pn : List (Addr × Obj)} {e : Expr} {te : TE} {pos : Pos} (T : PySem.ExS.ExT X.K X.mg cn qn C fI) (hz : Zc cls d oe) (hf : ∃ vs, oe.data = .fields vs) (he : PE (X.suite a ((a, oe) :: pn)) e te)
    (hb : attributeBase e "size" X.env (eval e X.env) = eval e X.env := by rfl) :
    PE (X.suite a ((a, oe) :: pn)) (.Attribute e "size" pos) (tByEx_size C a cls d te) := by
  refine ⟨fun pins s σ H Q I h => ?_⟩
  refine attr_of hb (thn (he.run pins s σ H _ I h) fun u s1 hh => ?_)
  obtain ⟨x, H1, I1, rx, ex, ec, dd, v, ed, ea, q⟩ := hh
  subst ex
  obtain rfl : u = Value.ref a := rx
  subst ec
  subst ed
  obtain ⟨ha, _⟩ := I1.pin (a, oe) (List.mem_append_left _ List.mem_cons_self)
  obtain ⟨vs, hd⟩ := hf
  have hx : ObjOk X.prog X.w H1 s1.heap dd (.xd [(("size" : Str), v)]) := I1.hok dd _ ea
  obtain ⟨mA, hns, hr⟩ := hx
  obtain ⟨od, ho, hl⟩ := lookIn_ns hns
  have l : List.lookup ("size" : Str) [(("size" : Str), v)] = some v := by simp [List.lookup]
  obtain ⟨u, hu, ru⟩ := RelO.some_of (v := v) (o := mA "size") (by rw [← l]; exact hr "size")
  have J : PySem.W.InstAt s1.heap a oe C (some od) := ⟨ha, hz.1, by unfold PySem.W.notCls; rw [hd] <;> rfl, by rw [hz.2]; exact ho⟩
  exact HandSPX.exc_get I1.kIn J T.ga T.gg T.exC (PySem.W.findObj_own T.hdC T.noN rfl (by rw [hl, hu])) (handed_of ru) ⟨v, H1, I1.tok _, ru, q⟩
end
end L2


namespace PL
open PySem PySem.Spec PyProof.Rows L2
/-! ### str.replace: rules for a state in which a token is out -/
theorem booked_of {K : PySem.W.Frag} {h : Heap} (X : K.In h) (L : h.NoLimit) (e : PySem.W.nsIn K cStatics sharingNotToldKey = some none) : NoneBooked h := by
  obtain ⟨mc, G, _⟩ := L
  refine ⟨mc, G, ?_⟩
  obtain ⟨o, es, ep, ho, hd, _, hf⟩ := G
  unfold PySem.W.nsIn at e
  split at e
  · rename_i c d es' n' sl q
    have := X _ _ q
    rw [ho] at this
    cases this
    cases hd
    split at e
    · cases e
    · rename_i he
      rw [← hf]
      unfold nsFind findBy
      rw [← Array.find?_toList, he]
      rfl
  · cases e
abbrev SET (X : Cx) (W : WX) (e : Expr) (r : RE) : Prop := PET X e (tG (Rep X.K) X.K X.mg W r)
abbrev SCT (X : Cx) (W : WX) (st : Stmt) (c : RC) : Prop := PST X st (tS X.K X.mg W c)
abbrev SCsT (X : Cx) (W : WX) (st : List Stmt) (c : RC) : Prop := PSsT X st (tS X.K X.mg W c)
theorem PET.imp {X : Cx} {e : Expr} {t t' : TE} (h : PET X e t) (i : ∀ σ H Q, t' σ H Q → t σ H Q) : PET X e t' := fun pins s σ H Q h0 I w => h pins s σ H Q h0 I (i σ H Q w)
theorem PST.imp {X : Cx} {e : Stmt} {t t' : TS} (h : PST X e t) (i : ∀ D σ H, t' D σ H → t D σ H) : PST X e t' := fun pins s σ H D h0 I w => h pins s σ H D h0 I (i D σ H w)
theorem PSsT.imp {X : Cx} {e : List Stmt} {t t' : TS} (h : PSsT X e t) (i : ∀ D σ H, t' D σ H → t D σ H) : PSsT X e t' := fun pins s σ H D h0 I w => h pins s σ H D h0 I (i D σ H w)
def replD (y z : Str) (d : Dv) (S : Sto) : Out Dv := match d with
  | .str x => if x.length + (x.length + 1) * z.length ≤ 16777216 then .ok (.str (Txt.replace x y z)) S else .no
  | _ => .no
/-- o.replace(y, [z0, z1, z2][e]) -/
def eReplI (y : Str) (zs : List Str) (o e : RE) : RE := fun ρ S => (o ρ S).bind fun d S1 => match d with
  | .str x => (e ρ S1).bind fun i S2 => match i with
    | .int k => if 0 ≤ k then match zs[k.toNat]? with
      | some z => if x.length + (x.length + 1) * z.length ≤ 16777216 then .ok (.str (Txt.replace x y z)) S2 else .no
      | none => .no else .no
    | _ => .no
  | _ => .no
section
variable {X : Cx} {W : WX} {o e : Expr} {ra rb : RE} {y z : Str} {j k : Nat} {c0 c1 apos pos : Pos}
theorem replD_met {mg : Str → Option Value} {Wx : Value → Option Addr → Hp → Prop} {μ : List Addr} {H : Hp} {S : Sto} {v : V} {d : Dv} {Q : VK} (hS : SimS X.K μ S H) (r : Rep X.K μ H v d) (h : Met (Rep X.K) X.K mg Wx μ H (replD y z d S) Q) : ∃ x, v = .str x ∧ x.length + (x.length + 1) * z.length ≤ 16777216 ∧ Q (.str (Txt.replace x y z)) H := by
  unfold replD at h
  split at h
  · cases r
    split at h
    · rename_i hz
      exact ⟨_, rfl, hz, h.ok hS (.str _)⟩
    · exact h.elim
  · exact h.elim
theorem se_replC (ho : SE X W o ra) (hyz : (y == z) = false := by decide)
    (hst : starEach [.Constant (.str y) j c0, .Constant (.str z) k c1] X.env = [(false, eval (.Constant (.str y) j c0) X.env), (false, eval (.Constant (.str z) k c1) X.env)] := by rfl)
    (hbase : attributeBase o "replace" X.env (eval o X.env) = eval o X.env := by rfl) (hline : (apos.endLine == pos.line) = true := by rfl) :
    SET X W (.Call (.Attribute o "replace" apos) [.Constant (.str y) j c0, .Constant (.str z) k c1] [] pos) (eUn (replD y z) ra) :=
  PET.imp (CwR.pet_replC ho hyz hst hbase hline) fun σ H Q ⟨μ, ρ, S, hS, hE, h⟩ => (bnd hS hE h).mono fun v H1 ⟨μ1, S1, d, hS1, hE1, s1, rv, h1⟩ => replD_met hS1 rv h1
theorem se_replT (ho : SET X W o ra) (hyz : (y == z) = false := by decide)
    (hst : starEach [.Constant (.str y) j c0, .Constant (.str z) k c1] X.env = [(false, eval (.Constant (.str y) j c0) X.env), (false, eval (.Constant (.str z) k c1) X.env)] := by rfl)
    (hbase : attributeBase o "replace" X.env (eval o X.env) = eval o X.env := by rfl) (hline : (apos.endLine == pos.line) = true := by rfl) :
    SET X W (.Call (.Attribute o "replace" apos) [.Constant (.str y) j c0, .Constant (.str z) k c1] [] pos) (eUn (replD y z) ra) :=
  PET.imp (CwR.pet_replT ho hyz hst hbase hline) fun σ H Q ⟨μ, ρ, S, hS, hE, h⟩ => (bnd hS hE h).mono fun v H1 ⟨μ1, S1, d, hS1, hE1, s1, rv, h1⟩ => replD_met hS1 rv h1
theorem se_replI {z0 z1 z2 : Str} {j0 j1 j2 : Nat} {p0 p1 p2 lp sp : Pos} (nb : PySem.W.nsIn X.K cStatics sharingNotToldKey = some none) (ho : SE X W o ra) (he : SE X W e rb) (hs : PlainIx e := by exact fun _ _ => rfl)
    (hst : starEach [.Constant (.str y) j c0, .Subscript (.List [.Constant (.str z0) j0 p0, .Constant (.str z1) j1 p1, .Constant (.str z2) j2 p2] lp) e sp] X.env = [(false, eval (.Constant (.str y) j c0) X.env), (false, eval (.Subscript (.List [.Constant (.str z0) j0 p0, .Constant (.str z1) j1 p1, .Constant (.str z2) j2 p2] lp) e sp) X.env)] := by rfl)
    (hbase : attributeBase o "replace" X.env (eval o X.env) = eval o X.env := by rfl) (hline : (apos.endLine == pos.line) = true := by rfl) :
    SET X W (.Call (.Attribute o "replace" apos) [.Constant (.str y) j c0, .Subscript (.List [.Constant (.str z0) j0 p0, .Constant (.str z1) j1 p1, .Constant (.str z2) j2 p2] lp) e sp] [] pos) (eReplI y [z0, z1, z2] ra rb) := by
  intro pins s σ H Q h0 I ⟨μ, ρ, S, hS, hE, h⟩
  refine PySem.Call_method2 hbase hst hline (wpAny_mono (PySem.wpAny_toks (ho.run pins s σ H _ I (bnd hS hE h))) (fun v s1 q => ?_) fun _ _ z => z.2)
  obtain ⟨hk, v', H1, I1, r1, μ1, S1, d, hS1, hE1, st1, rv, h1⟩ := q
  cases d <;> first | exact h1.elim | skip
  rename_i x
  cases rv
  obtain ⟨tx, rfl⟩ := r1
  obtain ⟨hp1, gs1, dr1, tk1, os1⟩ := s1
  refine ⟨"str", _, PySem.F.plainAttrs_str, PySem.F.slot_str_replace, PySem.F.type_str_replace, typeIs_str _ _ _, (fun _ e => nomatch e), Calls.callWith_builtin rfl (Calls.evalArgs_plain (Calls.spliced_cons ?_))⟩
  refine Calls.Constant_str (Calls.spliced_cons ?_)
  refine Subscript_ (wpAny_List_spliced ?_)
  show wpAny _ _ (spliced ((false, eval (.Constant (.str z0) j0 p0) X.env) :: backTo lp (starEach [.Constant (.str z1) j1 p1, .Constant (.str z2) j2 p2] X.env))) _ _ _
  refine Calls.spliced_cons (Calls.Constant_str ?_)
  show wpAny _ _ (spliced ((false, eval (.Constant (.str z1) j1 p1) X.env) :: backTo lp (starEach [.Constant (.str z2) j2 p2] X.env))) _ _ _
  refine Calls.spliced_cons (Calls.Constant_str ?_)
  show wpAny _ _ (spliced ((false, eval (.Constant (.str z2) j2 p2) X.env) :: backTo lp (starEach [] X.env))) _ _ _
  refine Calls.spliced_cons (Calls.Constant_str (Calls.spliced_nil ?_))
  have h3 : (3 : Nat) ≤ sizeLine := by decide
  refine ⟨h3, ?_⟩
  dsimp only at hk ⊢
  obtain ⟨a, ha⟩ : ∃ a, a = hp1.objs.size := ⟨_, rfl⟩
  have hn : H1 a = none := by rw [ha]; exact I1.hok.fresh (Nat.le_refl _)
  obtain ⟨ob, hob⟩ : ∃ ob : Obj, ob = { cls := .type "list", data := .seq #[.str z0 (tk1 + 1), .str z1 (tk1 + 1 + 1), .str z2 (tk1 + 1 + 1 + 1)] } := ⟨_, rfl⟩
  obtain ⟨H1', hH1'⟩ : ∃ H1', H1' = upd H1 a (.frz ob (.lst [.str z0, .str z1, .str z2])) := ⟨_, rfl⟩
  have I1' : Inv X pins σ H1' { heap := hp1.push ob, gens := gs1, drawn := dr1, toks := tk1 + 1 + 1 + 1 + 1, os := os1 } := by
    rw [hH1', ha]
    refine I1.laid (t' := tk1 + 1 + 1 + 1 + 1) (fun b o e => Heap.get?_push_of_some _ e) (Nat.le_refl _) ⟨Heap.get?_push_size _ (by rw [hob]; rfl), h3, [.str z0 (tk1 + 1), .str z1 (tk1 + 1 + 1), .str z2 (tk1 + 1 + 1 + 1)], 0, .cons ⟨_, rfl⟩ (.cons ⟨_, rfl⟩ (.cons ⟨_, rfl⟩ .nil)), ?_⟩
    rw [hob]
    exact Heap.get?_push_size _ rfl
  have hS1' : SimS X.K μ1 S1 H1' := by rw [hH1']; exact hS1.lay hn _
  have hE1' : SimE X.K μ1 H1' ρ σ := by rw [hH1']; exact hE1.step (step_lay hS1 hn _)
  have h1' := h1.step (step_lay hS1 hn (.frz ob (.lst [.str z0, .str z1, .str z2])))
  rw [← hH1'] at h1'
  have hfa : H1' a = some (.frz ob (.lst [.str z0, .str z1, .str z2])) := by rw [hH1']; exact upd_same
  have go := he.run pins { heap := hp1.push ob, gens := gs1, drawn := dr1, toks := tk1 + 1 + 1 + 1 + 1, os := os1 } σ H1' _ I1' (bnd hS1' hE1' h1')
  rw [hob] at go
  refine thn (show wpAny (model X.prog X.w) X.A (eval e X.env) (EP X pins σ _) X.xe _ from go) fun iv s2 ⟨i', H2, I2, ri, μ2, S2, i, hS2, hE2, st2, rvi, h2⟩ => ?_
  cases i <;> first | exact h2.elim | skip
  rename_i k
  cases rvi
  obtain ⟨tk, rfl⟩ := (show ∃ t, iv = Value.int k t from ri)
  dsimp only at h2
  split at h2
  · rename_i hk0
    split at h2
    · rename_i zz hz
      split at h2
      · rename_i hb
        have hf2 := st2.frz a _ _ hfa
        obtain ⟨hobj, _⟩ := I2.hok a _ hf2
        rw [hob] at hobj
        have hl : s2.heap.IsList a #[.str z0 (tk1 + 1), .str z1 (tk1 + 1 + 1), .str z2 (tk1 + 1 + 1 + 1)] := ⟨_, hobj, rfl, 0, rfl⟩
        have hk3 : k.toNat < 3 := (List.getElem?_eq_some_iff.mp hz).1
        obtain ⟨tz, htz, hit⟩ : ∃ tz : Tok, tk1 + 1 ≤ tz ∧ (#[Value.str z0 (tk1 + 1), .str z1 (tk1 + 1 + 1), .str z2 (tk1 + 1 + 1 + 1)])[k.toNat]? = some (.str zz tz) := by
          have : k.toNat = 0 ∨ k.toNat = 1 ∨ k.toNat = 2 := by omega
          rcases this with q | q | q
          · rw [q] at hz ⊢; injection hz with hz; subst hz; exact ⟨_, Nat.le_refl _, rfl⟩
          · rw [q] at hz ⊢; injection hz with hz; subst hz; exact ⟨_, Nat.le_succ _, rfl⟩
          · rw [q] at hz ⊢; injection hz with hz; subst hz; exact ⟨_, Nat.le_succ_of_le (Nat.le_succ _), rfl⟩
        rw [ha] at hl
        refine item_listR hl hk0 (by omega) hit ?_ (hs _ _)
        refine Calls.spliced_nil ?_
        exact PySem.SC.replaceA (by show tk1 ≠ 0; omega) (Nat.ne_of_gt (Nat.lt_of_lt_of_le (Nat.succ_pos _) htz)) (by show tk1 ≠ tz; omega) hb (fun t' k' => ⟨.str (Txt.replace x y zz), H2, I2.tok k', ⟨t', rfl⟩, h2.ok hS2 (.str _)⟩) (booked_of I2.kIn I2.nolimit nb)
      · exact h2.elim
    · exact h2.elim
  · exact h2.elim

/-! statements for a state in which a token is out -/
theorem scT_of {st : Stmt} {c : RC} (h : SC X W st c) : SCT X W st c := PST.of h
theorem scsT_of {st : List Stmt} {c : RC} (h : SCs X W st c) : SCsT X W st c := PSsT.of h
theorem scsT_nil : SCsT X W [] cNil := scsT_of scs_nil
theorem scsT_cons {st : Stmt} {sts : List Stmt} {a b : RC} (h : SCT X W st a) (t : SCsT X W sts b) : SCsT X W (st :: sts) (cSeq a b) :=
  PSsT.imp (psst_cons h t) fun D σ H ⟨μ, ρ, S, hS, hE, h⟩ => ⟨μ, ρ, S, hS, hE, by
    unfold cSeq at h
    cases q : a ρ S with
    | fl f S1 =>
      rw [q] at h
      cases f with
      | nx ρ1 => exact fun μ' σ' H' x y z => ⟨μ', ρ1, S1, x, y, h.step z⟩
      | rt d => exact h
      | bk ρ1 => exact h
      | ct ρ1 => exact h
    | ex x ρ1 S1 => rw [q] at h; exact h
    | no => rw [q] at h; exact h⟩
theorem scsT_one {st : Stmt} {c : RC} (h : SCT X W st c) : SCsT X W [st] c := fun pins s σ H D h0 I q => (psst_cons (u := tNext) h (PSsT.of pss_nil)) pins s σ H D h0 I q
theorem sc_setT {i : Nat} {x : Str} {pos' : Pos} {re : RE} (hN : X.N.Nodup) (hi : X.N[i]? = some x) (hx : Loc X.env.scope x) (he : SET X W e re) (hs : swapsWith e (some (.Name x pos')) pos.line X.env = pure false := by rfl) (hf : X.fn x = true ∨ X.env.scope.names.lookup x = some .local := by first | exact .inl rfl | exact .inr rfl | assumption) :
    SCT X W (.Assign [.Name x pos'] e pos) (cSet i re) := by
  intro pins s σ H D h0 I ⟨μ, ρ, S, hS, hE, h⟩
  refine wpAny_Assign_Name (thn (he pins s σ H _ h0 I (bndS hS hE h)) fun v s1 ⟨y, H1, I1, r1, μ1, S1, d, hS1, hE1, st1, rv, h1⟩ => ?_) hs
  exact store_ok I1 hN hi hx r1 (fun s2 I2 => ⟨_, H1, I2, h1 μ1 _ H1 hS1 (hE1.set rv i) (.refl ..)⟩) hf
theorem sc_retT {re : RE} (he : SET X W e re) : SCT X W (.Return (some e) pos) (cRet re) := by
  intro pins s σ H D h0 I ⟨μ, ρ, S, hS, hE, h⟩
  exact wpAny_Return_some (thn (he pins s σ H _ h0 I (bndS hS hE h)) fun v s1 ⟨y, H1, I1, r1, μ1, S1, d, hS1, hE1, st1, rv, h1⟩ => ⟨y, σ, H1, I1, r1, h1 μ1 _ H1 hS1 (.refl ..) rv⟩)
/-- a test for such a state -/
def PTT (X : Cx) (e : Expr) (t : TT) : Prop := ∀ (pins : List (Addr × Obj)) (s : Shared) (σ : L2.St) (H : Hp) (Q : Bool → Hp → Prop), 1 ≤ s.toks → Inv X pins σ H s → t σ H Q → wpAny (model X.prog X.w) X.A (isTrue e X.env (eval e X.env)) (TP X pins σ Q) X.xe s
abbrev STT (X : Cx) (W : WX) (e : Expr) (r : RT) : Prop := PTT X e (tG RBool X.K X.mg W r)
theorem st_ofT {c : Expr} {rt : RT} (h : ST X W c rt) : STT X W c rt := fun pins s σ H Q _ I q => h.run pins s σ H Q I q
theorem st_cmpT {op : CmpOp} {f : Dv → Dv → Sto → Out Dv} {r : R2} {a b : Expr} (ho : OpR X (compareOp op) r) (hf : Op2 X.K f r) (ha : SET X W a ra) (hb : SE X W b rb) (hm : behindInMarks op b = false) : STT X W (.Compare a [op] [b] pos) (cBl (eBin f ra rb)) := by
  intro pins s σ H Q h0 I ⟨μ, ρ, S, hS, hE, h⟩
  have key : tTest (tOp r (tG (Rep X.K) X.K X.mg W ra) (tG (Rep X.K) X.K X.mg W rb)) σ H Q := bnd2 hf ((bnd hS hE h).mono fun v H1 ⟨μ1, S1, d, hS1, hE1, s1, rv, h1⟩ => bTrue_met hS1 rv h1)
  refine wpAny_isTrue_Compare1 (thn (ha pins s σ H _ h0 I key) fun v s1 ⟨x, H1, I1, r1, q1⟩ => thn (hb.run pins s1 σ H1 _ I1 q1) fun u s2 ⟨y, H2, I2, r2, q2⟩ =>
    thn (ho pins s2 σ H2 x y v u _ I2 r1 r2 q2) fun c s3 ⟨z, H3, I3, r3, k, e, q3⟩ => ?_) hm
  subst e
  cases r3
  exact wpAny_truthy_bool ⟨H3, I3, q3⟩
theorem sc_ifT {c : Expr} {as bs : List Stmt} {rt : RT} {a b : RC} (hc : STT X W c rt) (ha : SCsT X W as a) (hb : SCsT X W bs b) : SCT X W (.If c as bs pos) (cIf rt a b) := by
  intro pins s σ H D h0 I ⟨μ, ρ, S, hS, hE, h⟩
  refine wpAny_If (wpAny_mono (PySem.wpAny_toks (hc pins s σ H _ h0 I (bndS (R1 := RBool) hS hE h))) (fun d s1 q => ?_) fun _ _ z => z.2)
  obtain ⟨hk, H1, I1, μ1, S1, d', hS1, hE1, st1, rv, h1⟩ := q
  cases (show d = d' from rv)
  cases d with
  | true => exact ha pins s1 σ H1 D (Nat.le_trans h0 hk) I1 ⟨μ1, ρ, S1, hS1, hE1, h1⟩
  | false => exact hb pins s1 σ H1 D (Nat.le_trans h0 hk) I1 ⟨μ1, ρ, S1, hS1, hE1, h1⟩
/-- f(e) of an own def, e such an expression -/
theorem se_ownT {CX : CXT} {k : Nat} {fa : Addr} {fd : FuncData} {ps : List Str} {x : Str} {F : List Dv → Sto → Out Dv} {p : Pos} {re : RE} (G : FnOk X.prog X.w X.K X.mg X.base CX k fa fd ps (spD X.K X.mg F 1)) (hr : Room k X.A) (hg : Gl X x) (hm : X.mg x = some (.ref fa)) (hk : PySem.W.keepIn X.K (.ref fa) = true)
    (hb : Binds X.K fd ps []) (hx : ∀ σ, PassesAt CX X σ (W.at σ)) (he : SET X W e re) (hdb : (x == ("__debug__" : Str)) = false := by decide) (hst : starEach (e :: []) X.env = (false, eval e X.env) :: starEach [] X.env := by rfl) (hpl : (backTo pos (starEach [] X.env)).any (·.1) = false := by rfl) :
    SET X W (.Call (.Name x p) [e] [] pos) (eOwn 1 F (aCons re aNil)) := by
  intro pins s σ H Q h0 I ⟨μ, ρ, S, hS, hE, h⟩
  refine wpAny_Call_Name_kw (ld_glob I hg hm ?_ hdb)
  refine PySem.W.callWith_K (h₀ := X.base) I.ok.mod.kin hk ?_ hst hpl
  rw [hst]
  show wpAny _ _ (spliced ((false, eval e X.env) :: backTo pos (starEach [] X.env))) _ _ s
  have h' : Met (Rep X.K) X.K X.mg (W.at σ) μ H ((re ρ S).bind fun d S1 => F [d] S1) Q := by
    have e0 : eOwn 1 F (aCons re aNil) ρ S = (re ρ S).bind fun d S1 => F [d] S1 := by
      unfold eOwn
      rw [ev_acons]
      cases re ρ S <;> rfl
    rw [e0] at h
    exact h
  refine Calls.spliced_cons (thn (he pins s σ H _ h0 I (bnd hS hE h')) fun u s1 ⟨v, H1, I1, r1, μ1, S1, d, hS1, hE1, st1, rv, h1⟩ => ?_)
  refine Calls.spliced_nil ⟨I1.kIn, ?_⟩
  exact run_fnSD (dvs := []) (ds := []) (E := fun σ => W.at σ) G hr hb .nil (hx σ) I1 (.cons r1 .nil) ⟨μ1, S1, [d], rfl, hS1, Reps.one rv, h1⟩
/-- x = f(y, n) gives a token out -/
theorem scs_firstT {CX : CXT} {k i iy : Nat} {fa : Addr} {fd : FuncData} {ps : List Str} {x y f : Str} {n : Int} {jn : Nat} {F : List Dv → Sto → Out Dv} {p py pn pos' : Pos} {sts : List Stmt} {b : RC} (hN : X.N.Nodup) (hi : X.N[i]? = some x) (hx : Loc X.env.scope x) (hiy : X.N[iy]? = some y) (hvy : Vis X.env.scope y)
    (G : FnOk X.prog X.w X.K X.mg X.base CX k fa fd ps (spD X.K X.mg F 2)) (hr : Room k X.A) (hg : Gl X f) (hm : X.mg f = some (.ref fa)) (hk : PySem.W.keepIn X.K (.ref fa) = true) (hb : Binds X.K fd ps []) (hp : ∀ σ, PassesAt CX X σ (W.at σ)) (ht : SCsT X W sts b)
    (hdb : (f == ("__debug__" : Str)) = false := by decide) (hdy : (y == ("__debug__" : Str)) = false := by decide) (hcy : (y == ("__classdict__" : Str)) = false := by decide)
    (hs : swapsWith (.Call (.Name f p) [.Name y py, .Constant (.int n) jn pn] [] pos) (some (.Name x pos')) apos.line X.env = pure false := by rfl) (hf : X.fn x = true ∨ X.env.scope.names.lookup x = some .local := by first | exact .inl rfl | exact .inr rfl | assumption)
    (hst : starEach [.Name y py, .Constant (.int n) jn pn] X.env = [(false, eval (.Name y py) X.env), (false, eval (.Constant (.int n) jn pn) X.env)] := by rfl) (hpl : (backTo pos (starEach [.Constant (.int n) jn pn] X.env)).any (·.1) = false := by rfl) :
    SCs X W (.Assign [.Name x pos'] (.Call (.Name f p) [.Name y py, .Constant (.int n) jn pn] [] pos) apos :: sts) (cSeq (cSet i (eOwn 2 F (aCons (eVar iy) (aCons (eCon (.int n)) aNil)))) b) := by
  refine ⟨fun pins s σ H D I ⟨μ, ρ, S, hS, hE, h⟩ => ?_⟩
  have hv : ∃ d, ρ[iy]? = some (some d) ∧ MetS X.K X.mg W μ H (bindS (F [d, .int n] S) ρ fun d S1 => b (ρ.set i (some d)) S1) D := by
    unfold cSeq cSet eOwn at h
    rw [ev_acons, ev_var] at h
    cases q : ρ[iy]? with
    | none => rw [q] at h; exact h.elim
    | some o =>
      cases o with
      | none => rw [q] at h; exact h.elim
      | some d =>
        refine ⟨d, rfl, ?_⟩
        rw [q] at h
        simp only [Out.bind_ok, ev_acons, ev_con, ev_anil, List.length_cons, List.length_nil, Nat.reduceAdd, ↓reduceIte] at h
        cases q2 : F [d, .int n] S with
        | ok z S1 => rw [q2] at h; exact h
        | ex x S1 => rw [q2] at h; exact h
        | no => rw [q2] at h; exact h
  obtain ⟨d, hd, h⟩ := hv
  obtain ⟨v, hσ, rv⟩ := hE.2 iy d hd
  refine wpAny_execs_cons (wpAny_Assign_Name ?_ hs)
  refine wpAny_Call_Name_kw (ld_glob I hg hm ?_ hdb)
  refine PySem.W.callWith_K (h₀ := X.base) I.ok.mod.kin hk ?_ (by rw [hst]; rfl) hpl
  rw [hst]
  show wpAny _ _ (spliced ((false, eval (.Name y py) X.env) :: backTo pos [(false, eval (.Constant (.int n) jn pn) X.env)])) _ _ s
  refine Calls.spliced_cons (raw_name hiy hvy I hσ (fun u ru => ?_) hdy hcy)
  show wpAny _ _ (spliced ((false, eval (.Constant (.int n) jn pn) X.env) :: [])) _ _ s
  refine Calls.spliced_cons (wpAny_Constant_int (Calls.spliced_nil ?_))
  have I1 : Inv X pins σ H { s with toks := s.toks + 1 } := I.tok _
  refine ⟨I1.kIn, ?_⟩
  have run := run_fnSD (dvs := []) (ds := []) (E := fun σ => W.at σ) (s := { s with toks := s.toks + 1 }) (us := [u, .int n s.toks]) (vs := [v, .int n]) G hr hb .nil (hp σ) I1 (.cons ru (.cons ⟨_, rfl⟩ .nil)) (Q := fun v H1 => ∃ μ1 S1 d, SimS X.K μ1 S1 H1 ∧ SimE X.K μ1 H1 ρ σ ∧ Step μ H μ1 H1 ∧ Rep X.K μ1 H1 v d ∧ MetS X.K X.mg W μ1 H1 (b (ρ.set i (some d)) S1) D)
    ⟨μ, S, [d, .int n], rfl, hS, (Reps.one (.int n)).cons rv, by
      cases q2 : F [d, .int n] S with
      | ok z S1 =>
        rw [q2] at h
        exact fun μ1 H1 w a1 a2 a3 => ⟨μ1, S1, z, a1, hE.step a2, a2, a3, h.step a2⟩
      | ex x S1 =>
        rw [q2] at h
        exact fun μ1 H1 cl dd a1 a2 a3 => h μ1 σ H1 cl dd a1 (hE.step a2) a2 a3
      | no => rw [q2] at h; exact h⟩
  refine wpAny_mono (PySem.wpAny_toks run) (fun w s2 q => ?_) fun _ _ z => z.2
  obtain ⟨hk2, w', H1, I2, rw', μ1, S1, z, hS1, hE1, st1, rz, h1⟩ := q
  have h2 : 1 ≤ s2.toks := Nat.le_trans (Nat.le_add_left 1 s.toks) hk2
  refine wpAny_mono (PySem.wpAny_toks (store_ok (v := w') (u := w) (Q := fun _ s3 => Inv X pins (σ.set i (some w')) H1 s3) I2 hN hi hx rw' (fun _ I3 => I3) hf)) (fun _ s3 q => ?_) fun _ _ z => z.2
  exact ht pins s3 _ H1 D (Nat.le_trans h2 q.1) q.2 ⟨μ1, ρ.set i (some z), S1, hS1, hE1.set rz i, h1⟩
end
theorem fn_defT {CX : CXT} {P : Program} {w : World} {K : PySem.W.Frag} {mg : Str → Option Value} {base : Heap} {x qual : Str} {st : Stmt} {f : Addr} {fd : FuncData} {N ps : List Str} {k m n : Nat} {c : RC} {G : List Dv → Sto → Out Dv} (F : Fun K x qual st f fd) (S : FnScope N ps (defScope st)) (hG : G = runF c m n) (hm : N.length = m) (hn : ps.length = n) (hnc : ∀ y ∈ (defScope st).names, y.2 ≠ .cell) (hps : 1 ≤ ps.length)
    (hbody : ∀ (cdv : Value) (A : Around) (outer : List PySem.Env) (s : Shared) (H : Hp) (E : XK), Room k (A.deeper (envOfC qual (defScope st) s.heap.objs.size f cdv)) →
      PassesOwn (model P w) (cxOf CX P w K mg base N qual (defScope st) f cdv A outer s H E).A (cxOf CX P w K mg base N qual (defScope st) f cdv A outer s H E).env (cxOf CX P w K mg base N qual (defScope st) f cdv A outer s H E).xe →
      SCsT (cxOf CX P w K mg base N qual (defScope st) f cdv A outer s H E) (fun cl d _ H => E cl d H) (defBody st) c) : FnOk P w K mg base CX (k + 1) f fd ps (spD K mg G n) := by
  subst hG hm hn
  obtain ⟨oc, od, kV, doc, pm, an, cdv, ct, osl, rfl, lk, hcd⟩ := F.ex
  refine fn_ofT lk hcd S hnc hps (fun vs H Q E ⟨μ, S, ds, hn, hS, r, h⟩ => r.1.trans hn) fun A outer s H vs Q E hr hsp => ?_
  obtain ⟨μ, S0, ds, hn, hS, r, h⟩ := hsp
  refine ⟨_, hbody cdv A outer s H E hr (passes_of rfl), μ, _, S0, hS, start_rep (N := N) r, ?_⟩
  unfold runF at h
  rw [if_pos hn] at h
  rw [hn]
  cases q : c (ds.map some ++ List.replicate (N.length - ps.length) none) S0 with
  | no => rw [q] at h; exact h
  | ex x ρ S1 => rw [q] at h; exact fun μ1 σ1 H1 cl dd a b c d => h μ1 H1 cl dd a c d
  | fl f S1 =>
    rw [q] at h
    cases f with
    | nx ρ => exact fun μ1 σ1 H1 a b c => h μ1 H1 .non a c .non
    | rt d => exact fun μ1 v H1 a b c => h μ1 H1 v a b c
    | bk ρ => exact h.elim
    | ct ρ => exact h.elim
/-- a def whose body's first statement gives a token out, exceptions not let out -/
theorem fn_defF {P : Program} {w : World} {K : PySem.W.Frag} {mg : Str → Option Value} {base : Heap} {x qual : Str} {st : Stmt} {f : Addr} {fd : FuncData} {N ps : List Str} {k m n : Nat} {c : RC} {G : List Dv → Sto → Out Dv} (F : Fun K x qual st f fd) (S : FnScope N ps (defScope st)) (hG : G = runF c m n) (hm : N.length = m) (hn : ps.length = n)
    (hbody : ∀ (cdv : Value) (A : Around) (outer : List PySem.Env) (s : Shared) (H : Hp) (E : XK), Room k (A.deeper (envOfC qual (defScope st) s.heap.objs.size f cdv)) →
      SCs (cxOf CX0 P w K mg base N qual (defScope st) f cdv A outer s H E).nox (fun cl d _ H => E cl d H) (defBody st) c) : FnOk P w K mg base CX0 (k + 1) f fd ps (spD K mg G n) := fn_def F S hG hm hn hbody
end PL

/-! the walk of the linked text (printed by gen.py) -/
namespace Wk
open PySem PySem.Spec PyProof.Rows L2 PL
def topS (i : Nat) : Stmt := PySem.Challenge.pw_pathshape_k14_ways_written.main.body.getD i (.Pass ⟨0, 0, 0, 0⟩)
abbrev s_is_name : Stmt := topS 7
abbrev N_is_name : List Str := ["text", "sign"]
abbrev p_is_name : List Str := ["text"]
theorem sc_is_name : FnScope N_is_name p_is_name (defScope s_is_name) := ⟨rfl, rfl, rfl, by decide +kernel, rfl, by decide +kernel, by decide +kernel⟩
abbrev s_need : Stmt := topS 8
abbrev N_need : List Str := ["truth"]
abbrev p_need : List Str := ["truth"]
theorem sc_need : FnScope N_need p_need (defScope s_need) := ⟨rfl, rfl, rfl, by decide +kernel, rfl, by decide +kernel, by decide +kernel⟩
abbrev s_need_name : Stmt := topS 9
abbrev N_need_name : List Str := ["one"]
abbrev p_need_name : List Str := ["one"]
theorem sc_need_name : FnScope N_need_name p_need_name (defScope s_need_name) := ⟨rfl, rfl, rfl, by decide +kernel, rfl, by decide +kernel, by decide +kernel⟩
abbrev s_words_of : Stmt := topS 10
abbrev N_words_of : List Str := ["text", "spread", "word"]
abbrev p_words_of : List Str := ["text"]
theorem sc_words_of : FnScope N_words_of p_words_of (defScope s_words_of) := ⟨rfl, rfl, rfl, by decide +kernel, rfl, by decide +kernel, by decide +kernel⟩
abbrev s_nest_of : Stmt := topS 11
abbrev N_nest_of : List Str := ["text", "opened", "done", "word", "one"]
abbrev p_nest_of : List Str := ["text"]
theorem sc_nest_of : FnScope N_nest_of p_nest_of (defScope s_nest_of) := ⟨rfl, rfl, rfl, by decide +kernel, rfl, by decide +kernel, by decide +kernel⟩
abbrev s_two_looks : Stmt := topS 14
abbrev N_two_looks : List Str := ["nest"]
abbrev p_two_looks : List Str := ["nest"]
theorem sc_two_looks : FnScope N_two_looks p_two_looks (defScope s_two_looks) := ⟨rfl, rfl, rfl, by decide +kernel, rfl, by decide +kernel, by decide +kernel⟩
abbrev s_look_of : Stmt := topS 15
abbrev N_look_of : List Str := ["nest"]
abbrev p_look_of : List Str := ["nest"]
theorem sc_look_of : FnScope N_look_of p_look_of (defScope s_look_of) := ⟨rfl, rfl, rfl, by decide +kernel, rfl, by decide +kernel, by decide +kernel⟩
abbrev s_step_of : Stmt := topS 16
abbrev N_step_of : List Str := ["nest"]
abbrev p_step_of : List Str := ["nest"]
theorem sc_step_of : FnScope N_step_of p_step_of (defScope s_step_of) := ⟨rfl, rfl, rfl, by decide +kernel, rfl, by decide +kernel, by decide +kernel⟩
abbrev s_way_of : Stmt := topS 17
abbrev N_way_of : List Str := ["nest", "one"]
abbrev p_way_of : List Str := ["nest"]
theorem sc_way_of : FnScope N_way_of p_way_of (defScope s_way_of) := ⟨rfl, rfl, rfl, by decide +kernel, rfl, by decide +kernel, by decide +kernel⟩
abbrev s_read_way : Stmt := topS 18
abbrev N_read_way : List Str := ["text"]
abbrev p_read_way : List Str := ["text"]
theorem sc_read_way : FnScope N_read_way p_read_way (defScope s_read_way) := ⟨rfl, rfl, rfl, by decide +kernel, rfl, by decide +kernel, by decide +kernel⟩
abbrev s_bracketed : Stmt := topS 20
abbrev N_bracketed : List Str := ["words"]
abbrev p_bracketed : List Str := ["words"]
theorem sc_bracketed : FnScope N_bracketed p_bracketed (defScope s_bracketed) := ⟨rfl, rfl, rfl, by decide +kernel, rfl, by decide +kernel, by decide +kernel⟩
abbrev s_show_look : Stmt := topS 21
abbrev N_show_look : List Str := ["look", "one"]
abbrev p_show_look : List Str := ["look"]
theorem sc_show_look : FnScope N_show_look p_show_look (defScope s_show_look) := ⟨rfl, rfl, rfl, by decide +kernel, rfl, by decide +kernel, by decide +kernel⟩
abbrev s_show_way : Stmt := topS 22
abbrev N_show_way : List Str := ["way", "words", "step"]
abbrev p_show_way : List Str := ["way"]
theorem sc_show_way : FnScope N_show_way p_show_way (defScope s_show_way) := ⟨rfl, rfl, rfl, by decide +kernel, rfl, by decide +kernel, by decide +kernel⟩
abbrev s_l_draws : Stmt := topS 24
abbrev N_l_draws : List Str := ["_law_script", "_law_many", "_law_found", "_law_k", "_law_cell"]
abbrev p_l_draws : List Str := ["_law_script", "_law_many"]
theorem sc_l_draws : FnScope N_l_draws p_l_draws (defScope s_l_draws) := ⟨rfl, rfl, rfl, by decide +kernel, rfl, by decide +kernel, by decide +kernel⟩
abbrev s_l_name : Stmt := topS 25
abbrev N_l_name : List Str := ["_law_draw", "_law_letters", "_law_name_here", "_law_k", "_law_taken", "_law_at"]
abbrev p_l_name : List Str := ["_law_draw"]
theorem sc_l_name : FnScope N_l_name p_l_name (defScope s_l_name) := ⟨rfl, rfl, rfl, by decide +kernel, rfl, by decide +kernel, by decide +kernel⟩
abbrev s_l_look : Stmt := topS 26
abbrev N_l_look : List Str := ["_law_draws_here", "_law_pool", "_law_deep", "_law_draw", "_law_way_here", "_law_one"]
abbrev p_l_look : List Str := ["_law_draws_here", "_law_pool", "_law_deep"]
theorem sc_l_look : FnScope N_l_look p_l_look (defScope s_l_look) := ⟨rfl, rfl, rfl, by decide +kernel, rfl, by decide +kernel, by decide +kernel⟩
abbrev s_l_way : Stmt := topS 27
abbrev N_l_way : List Str := ["_law_draws_here", "_law_pool", "_law_deep", "_law_many", "_law_steps", "_law_k", "_law_go"]
abbrev p_l_way : List Str := ["_law_draws_here", "_law_pool", "_law_deep", "_law_many"]
theorem sc_l_way : FnScope N_l_way p_l_way (defScope s_l_way) := ⟨rfl, rfl, rfl, by decide +kernel, rfl, by decide +kernel, by decide +kernel⟩
abbrev s_l_look_text : Stmt := topS 28
abbrev N_l_look_text : List Str := ["_law_look_here", "_law_one"]
abbrev p_l_look_text : List Str := ["_law_look_here"]
theorem sc_l_look_text : FnScope N_l_look_text p_l_look_text (defScope s_l_look_text) := ⟨rfl, rfl, rfl, by decide +kernel, rfl, by decide +kernel, by decide +kernel⟩
abbrev s_l_way_text : Stmt := topS 29
abbrev N_l_way_text : List Str := ["_law_way_here", "_law_text", "_law_go", "_law_look_here"]
abbrev p_l_way_text : List Str := ["_law_way_here"]
theorem sc_l_way_text : FnScope N_l_way_text p_l_way_text (defScope s_l_way_text) := ⟨rfl, rfl, rfl, by decide +kernel, rfl, by decide +kernel, by decide +kernel⟩
abbrev s_l_law : Stmt := topS 30
abbrev N_l_law : List Str := ["_law_script", "_law_first", "_law_pool", "_law_draws_here", "_law_many", "_law_way_here", "_law_text", "_law_loose", "_law_marked", "_law_look_here", "_law_k", "_law_cell"]
abbrev p_l_law : List Str := ["_law_script"]
theorem sc_l_law : FnScope N_l_law p_l_law (defScope s_l_law) := ⟨rfl, rfl, rfl, by decide +kernel, rfl, by decide +kernel, by decide +kernel⟩
inductive Fn where
  | is_name | need | need_name | words_of | nest_of | two_looks | look_of | step_of | way_of | read_way | bracketed | show_look | show_way | l_draws | l_name | l_look | l_way | l_look_text | l_way_text | l_law
def k_GOES : Dv := .kt [.str "down", .str "deep", .str "later"]
def k_LETTERS : Dv := .str "abcdefghijklmnopqrstuvwxyz"
def k_LONGEST : Dv := .int 8
def k_TAKEN : Dv := .kt [.str "start", .str "rule", .str "row", .str "mix", .str "many", .str "any", .str "kind", .str "not", .str "both", .str "either", .str "way", .str "mark"]
noncomputable def b_is_name_1 (G : Fn → List Dv → Sto → Out Dv) : RC := cIf (cBl (eBin ninD (eVar 1) (eCon k_LETTERS))) (cRet (eCon (.bl false))) (cNil)
noncomputable def c_is_name (G : Fn → List Dv → Sto → Out Dv) : RC := cSeq (cIf (cOr (cNot (cBl (eChain leD leD (eCon (.int 1)) (eCall lenD (aCons (eVar 0) (aNil))) (eCon k_LONGEST)))) (cBl (eBin inD (eVar 0) (eCon k_TAKEN)))) (cRet (eCon (.bl false))) (cNil)) (cSeq (cFor (iSeq (eVar 0)) (.nm 1) (b_is_name_1 G)) (cRet (eCon (.bl true))))
noncomputable def c_need (G : Fn → List Dv → Sto → Out Dv) : RC := cIf (cNot (cBl (eVar 0))) (cNo) (cNil)
noncomputable def c_need_name (G : Fn → List Dv → Sto → Out Dv) : RC := cSeq (cExpr (eOwn 1 (G .need) (aCons (eAnd (eUn (isiD "str") (eVar 0)) (eOwn 1 (G .is_name) (aCons (eVar 0) (aNil)))) (aNil)))) (cRet (eVar 0))
noncomputable def y_words_of_1 (G : Fn → List Dv → Sto → Out Dv) : RE := eVar 2
noncomputable def q_words_of_1 (G : Fn → List Dv → Sto → Out Dv) : RT := cBl (eBin neD (eVar 2) (eCon (.str "")))
noncomputable def c_words_of (G : Fn → List Dv → Sto → Out Dv) : RC := cSeq (cExpr (eOwn 1 (G .need) (aCons (eUn (isiD "str") (eVar 0)) (aNil)))) (cSeq (cSet 1 (eUn (replD ")" " ) ") (eUn (replD "(" " ( ") (eUn (replD "\n" " ") (eVar 0))))) (cRet (eComp (iSeq (eMeth "str" splitD (eVar 1) (aCons (eCon (.str " ")) (aNil)))) (.nm 2) (q_words_of_1 G) (y_words_of_1 G) [2])))
noncomputable def b_nest_of_1 (G : Fn → List Dv → Sto → Out Dv) : RC := cSeq (cExpr (eOwn 1 (G .need) (aCons (eBin isD (eVar 2) (eCon .non)) (aNil)))) (cSeq (cSet 4 (eVar 3)) (cSeq (cIf (cBl (eBin eqD (eVar 3) (eCon (.str "(")))) (cSeq (cExpr (eMeth "list" appendD (eVar 1) (aCons (eLst (aNil)) (aNil)))) (cCt)) (cNil)) (cSeq (cIf (cBl (eBin eqD (eVar 3) (eCon (.str ")")))) (cSeq (cExpr (eOwn 1 (G .need) (aCons (eBin gtD (eCall lenD (aCons (eVar 1) (aNil))) (eCon (.int 0))) (aNil)))) (cSet 4 (eMeth "list" popD (eVar 1) aNil))) (cNil)) (cIf (cBl (eBin gtD (eCall lenD (aCons (eVar 1) (aNil))) (eCon (.int 0)))) (cExpr (eMeth "list" appendD (eBin idxD (eVar 1) (eUn negD (eCon (.int 1)))) (aCons (eVar 4) (aNil)))) (cSet 2 (eVar 4))))))
noncomputable def c_nest_of (G : Fn → List Dv → Sto → Out Dv) : RC := cSeq (cSet 1 (eLst (aNil))) (cSeq (cSet 2 (eCon .non)) (cSeq (cFor (iSeq (eOwn 1 (G .words_of) (aCons (eVar 0) (aNil)))) (.nm 3) (b_nest_of_1 G)) (cSeq (cExpr (eOwn 1 (G .need) (aCons (eBin isNotD (eVar 2) (eCon .non)) (aNil)))) (cRet (eVar 2)))))
noncomputable def c_two_looks (G : Fn → List Dv → Sto → Out Dv) : RC := cSeq (cExpr (eOwn 1 (G .need) (aCons (eBin eqD (eCall lenD (aCons (eVar 0) (aNil))) (eCon (.int 3))) (aNil)))) (cRet (eTup (aCons (eBin idxD (eVar 0) (eCon (.int 0))) (aCons (eOwn 1 (G .look_of) (aCons (eBin idxD (eVar 0) (eCon (.int 1))) (aNil))) (aCons (eOwn 1 (G .look_of) (aCons (eBin idxD (eVar 0) (eCon (.int 2))) (aNil))) (aNil))))))
noncomputable def c_look_of (G : Fn → List Dv → Sto → Out Dv) : RC := cSeq (cIf (cBl (eBin eqD (eVar 0) (eCon (.str "any")))) (cRet (eTup (aCons (eCon (.str "any")) (aNil)))) (cNil)) (cSeq (cExpr (eOwn 1 (G .need) (aCons (eAnd (eUn (isiD "list") (eVar 0)) (eBin gtD (eCall lenD (aCons (eVar 0) (aNil))) (eCon (.int 1)))) (aNil)))) (cSeq (cIf (cBl (eBin eqD (eBin idxD (eVar 0) (eCon (.int 0))) (eCon (.str "way")))) (cRet (eTup (aCons (eCon (.str "way")) (aCons (eOwn 1 (G .way_of) (aCons (eVar 0) (aNil))) (aNil))))) (cNil)) (cSeq (cIf (cOr (cBl (eBin eqD (eBin idxD (eVar 0) (eCon (.int 0))) (eCon (.str "both")))) (cBl (eBin eqD (eBin idxD (eVar 0) (eCon (.int 0))) (eCon (.str "either"))))) (cRet (eOwn 1 (G .two_looks) (aCons (eVar 0) (aNil)))) (cNil)) (cSeq (cExpr (eOwn 1 (G .need) (aCons (eBin eqD (eCall lenD (aCons (eVar 0) (aNil))) (eCon (.int 2))) (aNil)))) (cSeq (cIf (cBl (eBin eqD (eBin idxD (eVar 0) (eCon (.int 0))) (eCon (.str "not")))) (cRet (eTup (aCons (eCon (.str "not")) (aCons (eOwn 1 (G .look_of) (aCons (eBin idxD (eVar 0) (eCon (.int 1))) (aNil))) (aNil))))) (cNil)) (cSeq (cExpr (eOwn 1 (G .need) (aCons (eBin eqD (eBin idxD (eVar 0) (eCon (.int 0))) (eCon (.str "kind"))) (aNil)))) (cRet (eTup (aCons (eCon (.str "kind")) (aCons (eOwn 1 (G .need_name) (aCons (eBin idxD (eVar 0) (eCon (.int 1))) (aNil))) (aNil)))))))))))
noncomputable def c_step_of (G : Fn → List Dv → Sto → Out Dv) : RC := cSeq (cExpr (eOwn 1 (G .need) (aCons (eAnd (eUn (isiD "list") (eVar 0)) (eAnd (eBin eqD (eCall lenD (aCons (eVar 0) (aNil))) (eCon (.int 2))) (eBin inD (eBin idxD (eVar 0) (eCon (.int 0))) (eCon k_GOES)))) (aNil)))) (cRet (eTup (aCons (eBin idxD (eVar 0) (eCon (.int 0))) (aCons (eOwn 1 (G .look_of) (aCons (eBin idxD (eVar 0) (eCon (.int 1))) (aNil))) (aNil)))))
noncomputable def y_way_of_1 (G : Fn → List Dv → Sto → Out Dv) : RE := eOwn 1 (G .step_of) (aCons (eVar 1) (aNil))
noncomputable def c_way_of (G : Fn → List Dv → Sto → Out Dv) : RC := cSeq (cExpr (eOwn 1 (G .need) (aCons (eAnd (eUn (isiD "list") (eVar 0)) (eAnd (eBin gtD (eCall lenD (aCons (eVar 0) (aNil))) (eCon (.int 1))) (eBin eqD (eBin idxD (eVar 0) (eCon (.int 0))) (eCon (.str "way"))))) (aNil)))) (cRet (eCall tupleD (aCons (eComp (iSeq (eSli (eVar 0) (oSome (eCon (.int 1))) (oNone))) (.nm 1) (cYes) (y_way_of_1 G) [1]) (aNil))))
noncomputable def c_read_way (G : Fn → List Dv → Sto → Out Dv) : RC := cRet (eOwn 1 (G .way_of) (aCons (eOwn 1 (G .nest_of) (aCons (eVar 0) (aNil))) (aNil)))
noncomputable def c_bracketed (G : Fn → List Dv → Sto → Out Dv) : RC := cRet (eBin addD (eBin addD (eCon (.str "(")) (eMeth "str" joinD (eCon (.str " ")) (aCons (eVar 0) (aNil)))) (eCon (.str ")")))
noncomputable def y_show_look_1 (G : Fn → List Dv → Sto → Out Dv) : RE := eOwn 1 (G .show_look) (aCons (eVar 1) (aNil))
noncomputable def c_show_look (G : Fn → List Dv → Sto → Out Dv) : RC := cSeq (cIf (cBl (eBin eqD (eBin idxD (eVar 0) (eCon (.int 0))) (eCon (.str "way")))) (cRet (eOwn 1 (G .show_way) (aCons (eBin idxD (eVar 0) (eCon (.int 1))) (aNil)))) (cNil)) (cSeq (cIf (cOr (cBl (eBin eqD (eBin idxD (eVar 0) (eCon (.int 0))) (eCon (.str "any")))) (cBl (eBin eqD (eBin idxD (eVar 0) (eCon (.int 0))) (eCon (.str "mark"))))) (cRet (eBin idxD (eVar 0) (eCon (.int 0)))) (cNil)) (cSeq (cIf (cBl (eBin eqD (eBin idxD (eVar 0) (eCon (.int 0))) (eCon (.str "kind")))) (cRet (eOwn 1 (G .bracketed) (aCons (eLst (aCons (eCon (.str "kind")) (aCons (eBin idxD (eVar 0) (eCon (.int 1))) (aNil)))) (aNil)))) (cNil)) (cRet (eOwn 1 (G .bracketed) (aCons (eBin addD (eLst (aCons (eBin idxD (eVar 0) (eCon (.int 0))) (aNil))) (eComp (iSeq (eSli (eVar 0) (oSome (eCon (.int 1))) (oNone))) (.nm 1) (cYes) (y_show_look_1 G) [1])) (aNil))))))
noncomputable def b_show_way_1 (G : Fn → List Dv → Sto → Out Dv) : RC := cExpr (eMeth "list" appendD (eVar 1) (aCons (eOwn 1 (G .bracketed) (aCons (eLst (aCons (eBin idxD (eVar 2) (eCon (.int 0))) (aCons (eOwn 1 (G .show_look) (aCons (eBin idxD (eVar 2) (eCon (.int 1))) (aNil))) (aNil)))) (aNil))) (aNil)))
noncomputable def c_show_way (G : Fn → List Dv → Sto → Out Dv) : RC := cSeq (cSet 1 (eLst (aCons (eCon (.str "way")) (aNil)))) (cSeq (cFor (iSeq (eVar 0)) (.nm 2) (b_show_way_1 G)) (cRet (eOwn 1 (G .bracketed) (aCons (eVar 1) (aNil)))))
noncomputable def b_l_draws_1 (G : Fn → List Dv → Sto → Out Dv) : RC := cSeq (cSet 4 (eCon (.int 0))) (cSeq (cIf (cBl (eBin gtD (eCall lenD (aCons (eVar 0) (aNil))) (eCon (.int 0)))) (cSet 4 (eBin modD (eBin idxD (eVar 0) (eBin modD (eVar 3) (eCall lenD (aCons (eVar 0) (aNil))))) (eBin powD (eCon (.int 10)) (eCon (.int 18))))) (cNil)) (cExpr (eMeth "list" appendD (eVar 2) (aCons (eBin addD (eVar 4) (eBin mulD (eCon (.int 7919)) (eBin fdivD (eVar 3) (eCall max2D (aCons (eCon (.int 1)) (aCons (eCall lenD (aCons (eVar 0) (aNil))) (aNil))))))) (aNil)))))
noncomputable def c_l_draws (G : Fn → List Dv → Sto → Out Dv) : RC := cSeq (cSet 2 (eLst (aNil))) (cSeq (cFor (iRange rng1 (aCons (eVar 1) (aNil))) (.nm 3) (b_l_draws_1 G)) (cRet (eVar 2)))
noncomputable def b_l_name_1 (G : Fn → List Dv → Sto → Out Dv) : RC := cSeq (cSet 5 (eBin addD (eBin addD (eBin fdivD (eVar 0) (eCon (.int 208))) (eBin mulD (eBin mulD (eCon (.int 7)) (eVar 3)) (eVar 3))) (eBin mulD (eBin modD (eBin fdivD (eVar 0) (eCon (.int 5408))) (eCon (.int 26))) (eVar 3)))) (cSet 2 (eBin addD (eVar 2) (eBin idxD (eVar 1) (eBin modD (eVar 5) (eCon (.int 26))))))
noncomputable def c_l_name (G : Fn → List Dv → Sto → Out Dv) : RC := cSeq (cSet 1 (eCon (.str "abcdefghijklmnopqrstuvwxyz"))) (cSeq (cSet 2 (eBin idxD (eVar 1) (eBin modD (eVar 0) (eCon (.int 26))))) (cSeq (cFor (iRange rng1 (aCons (eBin modD (eBin fdivD (eVar 0) (eCon (.int 26))) (eCon (.int 8))) (aNil))) (.nm 3) (b_l_name_1 G)) (cSeq (cSet 4 (eLst (aCons (eCon (.str "start")) (aCons (eCon (.str "rule")) (aCons (eCon (.str "row")) (aCons (eCon (.str "mix")) (aCons (eCon (.str "many")) (aCons (eCon (.str "any")) (aCons (eCon (.str "kind")) (aCons (eCon (.str "not")) (aCons (eCon (.str "both")) (aCons (eCon (.str "either")) (aCons (eCon (.str "way")) (aCons (eCon (.str "mark")) (aNil))))))))))))))) (cSeq (cIf (cBl (eBin inD (eVar 2) (eVar 4))) (cRet (eBin addD (eVar 2) (eCon (.str "z")))) (cNil)) (cRet (eVar 2))))))
noncomputable def c_l_look (G : Fn → List Dv → Sto → Out Dv) : RC := cSeq (cSet 3 (eCon (.int 0))) (cSeq (cIf (cBl (eBin gtD (eCall lenD (aCons (eVar 0) (aNil))) (eCon (.int 0)))) (cSet 3 (eMeth "list" popD (eVar 0) (aCons (eCon (.int 0)) (aNil)))) (cNil)) (cSeq (cSet 4 (eBin modD (eVar 3) (eCon (.int 7)))) (cSeq (cIf (cOr (cBl (eBin ltD (eVar 2) (eCon (.int 2)))) (cOr (cBl (eBin eqD (eCall lenD (aCons (eVar 0) (aNil))) (eCon (.int 0)))) (cBl (eBin ltD (eVar 4) (eCon (.int 2)))))) (cRet (eBin idxD (eLst (aCons (eTup (aCons (eCon (.str "any")) (aNil))) (aCons (eTup (aCons (eCon (.str "kind")) (aCons (eBin idxD (eVar 1) (eBin modD (eBin fdivD (eVar 3) (eCon (.int 21))) (eCall lenD (aCons (eVar 1) (aNil))))) (aNil)))) (aNil)))) (eCall intD (aCons (eBin gtD (eBin modD (eBin fdivD (eVar 3) (eCon (.int 7))) (eCon (.int 3))) (eCon (.int 0))) (aNil))))) (cNil)) (cSeq (cIf (cBl (eBin eqD (eVar 4) (eCon (.int 2)))) (cRet (eTup (aCons (eCon (.str "not")) (aCons (eOwn 3 (G .l_look) (aCons (eVar 0) (aCons (eVar 1) (aCons (eBin subD (eVar 2) (eCon (.int 1))) (aNil))))) (aNil))))) (cNil)) (cSeq (cIf (cBl (eBin ltD (eVar 4) (eCon (.int 5)))) (cSeq (cSet 5 (eOwn 3 (G .l_look) (aCons (eVar 0) (aCons (eVar 1) (aCons (eBin subD (eVar 2) (eCon (.int 1))) (aNil)))))) (cRet (eTup (aCons (eBin idxD (eLst (aCons (eCon (.str "both")) (aCons (eCon (.str "either")) (aNil)))) (eBin subD (eVar 4) (eCon (.int 3)))) (aCons (eVar 5) (aCons (eOwn 3 (G .l_look) (aCons (eVar 0) (aCons (eVar 1) (aCons (eBin subD (eVar 2) (eCon (.int 1))) (aNil))))) (aNil))))))) (cNil)) (cRet (eTup (aCons (eCon (.str "way")) (aCons (eOwn 4 (G .l_way) (aCons (eVar 0) (aCons (eVar 1) (aCons (eBin subD (eVar 2) (eCon (.int 1))) (aCons (eBin addD (eCon (.int 1)) (eBin modD (eBin fdivD (eVar 3) (eCon (.int 7))) (eCon (.int 3)))) (aNil)))))) (aNil))))))))))
noncomputable def b_l_way_1 (G : Fn → List Dv → Sto → Out Dv) : RC := cSeq (cSet 6 (eCon (.str "down"))) (cSeq (cIf (cBl (eBin gtD (eCall lenD (aCons (eVar 0) (aNil))) (eCon (.int 0)))) (cSet 6 (eBin idxD (eLst (aCons (eCon (.str "down")) (aCons (eCon (.str "deep")) (aCons (eCon (.str "later")) (aNil))))) (eBin modD (eMeth "list" popD (eVar 0) (aCons (eCon (.int 0)) (aNil))) (eCon (.int 3))))) (cNil)) (cExpr (eMeth "list" appendD (eVar 4) (aCons (eTup (aCons (eVar 6) (aCons (eOwn 3 (G .l_look) (aCons (eVar 0) (aCons (eVar 1) (aCons (eBin subD (eVar 2) (eCon (.int 1))) (aNil))))) (aNil)))) (aNil)))))
noncomputable def c_l_way (G : Fn → List Dv → Sto → Out Dv) : RC := cSeq (cSet 4 (eLst (aNil))) (cSeq (cFor (iRange rng1 (aCons (eVar 3) (aNil))) (.nm 5) (b_l_way_1 G)) (cRet (eCall tupleD (aCons (eVar 4) (aNil)))))
noncomputable def y_l_look_text_1 (G : Fn → List Dv → Sto → Out Dv) : RE := eOwn 1 (G .l_look_text) (aCons (eVar 1) (aNil))
noncomputable def c_l_look_text (G : Fn → List Dv → Sto → Out Dv) : RC := cSeq (cIf (cBl (eBin eqD (eBin idxD (eVar 0) (eCon (.int 0))) (eCon (.str "way")))) (cRet (eOwn 1 (G .l_way_text) (aCons (eBin idxD (eVar 0) (eCon (.int 1))) (aNil)))) (cNil)) (cSeq (cIf (cBl (eBin eqD (eBin idxD (eVar 0) (eCon (.int 0))) (eCon (.str "any")))) (cRet (eCon (.str "any"))) (cNil)) (cSeq (cIf (cBl (eBin eqD (eBin idxD (eVar 0) (eCon (.int 0))) (eCon (.str "kind")))) (cRet (eBin addD (eBin addD (eCon (.str "(kind ")) (eBin idxD (eVar 0) (eCon (.int 1)))) (eCon (.str ")")))) (cNil)) (cRet (eBin addD (eBin addD (eBin addD (eBin addD (eCon (.str "(")) (eBin idxD (eVar 0) (eCon (.int 0)))) (eCon (.str " "))) (eMeth "str" joinD (eCon (.str " ")) (aCons (eComp (iSeq (eSli (eVar 0) (oSome (eCon (.int 1))) (oNone))) (.nm 1) (cYes) (y_l_look_text_1 G) [1]) (aNil)))) (eCon (.str ")"))))))
noncomputable def b_l_way_text_1 (G : Fn → List Dv → Sto → Out Dv) : RC := cSet 1 (eBin addD (eBin addD (eBin addD (eBin addD (eBin addD (eVar 1) (eCon (.str " ("))) (eVar 2)) (eCon (.str " "))) (eOwn 1 (G .l_look_text) (aCons (eVar 3) (aNil)))) (eCon (.str ")")))
noncomputable def c_l_way_text (G : Fn → List Dv → Sto → Out Dv) : RC := cSeq (cSet 1 (eCon (.str "(way"))) (cSeq (cFor (iSeq (eVar 0)) (.tp [.nm 2, .nm 3]) (b_l_way_text_1 G)) (cRet (eBin addD (eVar 1) (eCon (.str ")")))))
noncomputable def y_l_law_1 (G : Fn → List Dv → Sto → Out Dv) : RE := eOwn 1 (G .l_name) (aCons (eBin idxD (eVar 1) (eVar 10)) (aNil))
noncomputable def y_l_law_2 (G : Fn → List Dv → Sto → Out Dv) : RE := eBin modD (eVar 11) (eBin powD (eCon (.int 10)) (eCon (.int 18)))
noncomputable def b_l_law_3 (G : Fn → List Dv → Sto → Out Dv) : RC := cSet 9 (eBin idxD (eLst (aCons (eTup (aCons (eCon (.str "not")) (aCons (eVar 9) (aNil)))) (aCons (eTup (aCons (eCon (.str "way")) (aCons (eTup (aCons (eTup (aCons (eBin idxD (eLst (aCons (eCon (.str "down")) (aCons (eCon (.str "deep")) (aCons (eCon (.str "later")) (aNil))))) (eBin modD (eVar 10) (eCon (.int 3)))) (aCons (eVar 9) (aNil)))) (aNil))) (aNil)))) (aNil)))) (eBin modD (eBin fdivD (eBin idxD (eVar 1) (eCon (.int 8))) (eBin addD (eCon (.int 3)) (eVar 10))) (eCon (.int 2))))
noncomputable def c_l_law (G : Fn → List Dv → Sto → Out Dv) : RC := cSeq (cSet 1 (eOwn 2 (G .l_draws) (aCons (eVar 0) (aCons (eCon (.int 9)) (aNil))))) (cSeq (cSet 2 (eComp (iRange rng1 (aCons (eCon (.int 4)) (aNil))) (.nm 10) (cYes) (y_l_law_1 G) [10])) (cSeq (cSet 3 (eBin addD (eComp (iSeq (eSli (eVar 0) (oSome (eCon (.int 4))) (oSome (eCon (.int 24))))) (.nm 11) (cYes) (y_l_law_2 G) [11]) (eSli (eVar 1) (oSome (eCon (.int 4))) (oSome (eCon (.int 8)))))) (cSeq (cSet 4 (eBin addD (eCon (.int 1)) (eBin modD (eBin idxD (eVar 1) (eCon (.int 5))) (eCon (.int 5))))) (cSeq (cIf (cBl (eBin eqD (eBin modD (eBin fdivD (eBin idxD (eVar 1) (eCon (.int 5))) (eCon (.int 5))) (eCon (.int 3))) (eCon (.int 1)))) (cSeq (cSet 4 (eBin addD (eCon (.int 6)) (eBin modD (eBin fdivD (eBin idxD (eVar 1) (eCon (.int 5))) (eCon (.int 15))) (eCon (.int 12))))) (cSet 3 (eSli (eVar 3) (oNone) (oSome (eBin addD (eVar 4) (eCon (.int 4))))))) (cNil)) (cSeq (cSet 5 (eOwn 4 (G .l_way) (aCons (eVar 3) (aCons (eVar 2) (aCons (eCon (.int 6)) (aCons (eVar 4) (aNil))))))) (cSeq (cIf (cBl (eBin eqD (eBin modD (eBin fdivD (eBin idxD (eVar 1) (eCon (.int 5))) (eCon (.int 5))) (eCon (.int 3))) (eCon (.int 2)))) (cSeq (cSet 9 (eBin idxD (eBin idxD (eVar 5) (eCon (.int 0))) (eCon (.int 1)))) (cSeq (cFor (iRange rng1 (aCons (eBin modD (eBin fdivD (eBin idxD (eVar 1) (eCon (.int 6))) (eCon (.int 12))) (eCon (.int 7))) (aNil))) (.nm 10) (b_l_law_3 G)) (cSet 5 (eBin addD (eTup (aCons (eTup (aCons (eBin idxD (eBin idxD (eVar 5) (eCon (.int 0))) (eCon (.int 0))) (aCons (eVar 9) (aNil)))) (aNil))) (eSli (eVar 5) (oSome (eCon (.int 1))) (oNone)))))) (cNil)) (cSeq (cSet 6 (eOwn 1 (G .l_way_text) (aCons (eVar 5) (aNil)))) (cSeq (cSet 7 (eReplI " " [" ", "  ", "\n "] (eVar 6) (eBin modD (eBin idxD (eVar 1) (eCon (.int 6))) (eCon (.int 3))))) (cSeq (cIf (cBl (eBin eqD (eBin modD (eBin fdivD (eBin idxD (eVar 1) (eCon (.int 6))) (eCon (.int 3))) (eCon (.int 2))) (eCon (.int 1)))) (cSet 7 (eReplI "(" ["( ", "\n(", " ( "] (eVar 7) (eBin modD (eBin idxD (eVar 1) (eCon (.int 7))) (eCon (.int 3))))) (cNil)) (cSeq (cIf (cBl (eBin eqD (eBin modD (eBin fdivD (eBin idxD (eVar 1) (eCon (.int 6))) (eCon (.int 6))) (eCon (.int 2))) (eCon (.int 1)))) (cSet 7 (eReplI ")" [" )", ")\n", "\n ) "] (eVar 7) (eBin modD (eBin idxD (eVar 1) (eCon (.int 8))) (eCon (.int 3))))) (cNil)) (cSeq (cIf (cOr (cBl (eBin neD (eOwn 1 (G .show_way) (aCons (eVar 5) (aNil))) (eVar 6))) (cOr (cBl (eBin neD (eOwn 1 (G .read_way) (aCons (eVar 6) (aNil))) (eVar 5))) (cBl (eBin neD (eOwn 1 (G .read_way) (aCons (eVar 7) (aNil))) (eVar 5))))) (cRet (eCon (.bl false))) (cNil)) (cSeq (cIf (cBl (eBin neD (eOwn 1 (G .read_way) (aCons (eUn (replD " (" "(") (eVar 6)) (aNil))) (eVar 5))) (cRet (eCon (.bl false))) (cNil)) (cSeq (cSet 8 (eTup (aCons (eCon (.str "both")) (aCons (eTup (aCons (eCon (.str "mark")) (aNil))) (aCons (eBin idxD (eBin idxD (eVar 5) (eCon (.int 0))) (eCon (.int 1))) (aNil)))))) (cRet (eBin eqD (eOwn 1 (G .show_look) (aCons (eVar 8) (aNil))) (eBin addD (eBin addD (eCon (.str "(both mark ")) (eOwn 1 (G .l_look_text) (aCons (eBin idxD (eBin idxD (eVar 5) (eCon (.int 0))) (eCon (.int 1))) (aNil)))) (eCon (.str ")"))))))))))))))))))
noncomputable def Fs (G : Fn → List Dv → Sto → Out Dv) : Fn → List Dv → Sto → Out Dv
  | .is_name => runF (c_is_name G) 2 1
  | .need => runF (c_need G) 1 1
  | .need_name => runF (c_need_name G) 1 1
  | .words_of => runF (c_words_of G) 3 1
  | .nest_of => runF (c_nest_of G) 5 1
  | .two_looks => runF (c_two_looks G) 1 1
  | .look_of => runF (c_look_of G) 1 1
  | .step_of => runF (c_step_of G) 1 1
  | .way_of => runF (c_way_of G) 2 1
  | .read_way => runF (c_read_way G) 1 1
  | .bracketed => runF (c_bracketed G) 1 1
  | .show_look => runF (c_show_look G) 2 1
  | .show_way => runF (c_show_way G) 3 1
  | .l_draws => runF (c_l_draws G) 5 2
  | .l_name => runF (c_l_name G) 6 1
  | .l_look => runF (c_l_look G) 6 3
  | .l_way => runF (c_l_way G) 7 4
  | .l_look_text => runF (c_l_look_text G) 2 1
  | .l_way_text => runF (c_l_way_text G) 4 1
  | .l_law => runF (c_l_law G) 12 1
noncomputable def F : Nat → Fn → List Dv → Sto → Out Dv
  | 0, _ => fun _ _ => .no
  | k + 1, f => Fs (F k) f
theorem F_is_name (k : Nat) : F (k + 1) .is_name = runF (c_is_name (F k)) 2 1 := rfl
theorem F_need (k : Nat) : F (k + 1) .need = runF (c_need (F k)) 1 1 := rfl
theorem F_need_name (k : Nat) : F (k + 1) .need_name = runF (c_need_name (F k)) 1 1 := rfl
theorem F_words_of (k : Nat) : F (k + 1) .words_of = runF (c_words_of (F k)) 3 1 := rfl
theorem F_nest_of (k : Nat) : F (k + 1) .nest_of = runF (c_nest_of (F k)) 5 1 := rfl
theorem F_two_looks (k : Nat) : F (k + 1) .two_looks = runF (c_two_looks (F k)) 1 1 := rfl
theorem F_look_of (k : Nat) : F (k + 1) .look_of = runF (c_look_of (F k)) 1 1 := rfl
theorem F_step_of (k : Nat) : F (k + 1) .step_of = runF (c_step_of (F k)) 1 1 := rfl
theorem F_way_of (k : Nat) : F (k + 1) .way_of = runF (c_way_of (F k)) 2 1 := rfl
theorem F_read_way (k : Nat) : F (k + 1) .read_way = runF (c_read_way (F k)) 1 1 := rfl
theorem F_bracketed (k : Nat) : F (k + 1) .bracketed = runF (c_bracketed (F k)) 1 1 := rfl
theorem F_show_look (k : Nat) : F (k + 1) .show_look = runF (c_show_look (F k)) 2 1 := rfl
theorem F_show_way (k : Nat) : F (k + 1) .show_way = runF (c_show_way (F k)) 3 1 := rfl
theorem F_l_draws (k : Nat) : F (k + 1) .l_draws = runF (c_l_draws (F k)) 5 2 := rfl
theorem F_l_name (k : Nat) : F (k + 1) .l_name = runF (c_l_name (F k)) 6 1 := rfl
theorem F_l_look (k : Nat) : F (k + 1) .l_look = runF (c_l_look (F k)) 6 3 := rfl
theorem F_l_way (k : Nat) : F (k + 1) .l_way = runF (c_l_way (F k)) 7 4 := rfl
theorem F_l_look_text (k : Nat) : F (k + 1) .l_look_text = runF (c_l_look_text (F k)) 2 1 := rfl
theorem F_l_way_text (k : Nat) : F (k + 1) .l_way_text = runF (c_l_way_text (F k)) 4 1 := rfl
theorem F_l_law (k : Nat) : F (k + 1) .l_law = runF (c_l_law (F k)) 12 1 := rfl
def ar : Fn → Nat
  | .is_name => 1
  | .need => 1
  | .need_name => 1
  | .words_of => 1
  | .nest_of => 1
  | .two_looks => 1
  | .look_of => 1
  | .step_of => 1
  | .way_of => 1
  | .read_way => 1
  | .bracketed => 1
  | .show_look => 1
  | .show_way => 1
  | .l_draws => 2
  | .l_name => 1
  | .l_look => 3
  | .l_way => 4
  | .l_look_text => 1
  | .l_way_text => 1
  | .l_law => 1
def nps : Fn → List Str
  | .is_name => p_is_name
  | .need => p_need
  | .need_name => p_need_name
  | .words_of => p_words_of
  | .nest_of => p_nest_of
  | .two_looks => p_two_looks
  | .look_of => p_look_of
  | .step_of => p_step_of
  | .way_of => p_way_of
  | .read_way => p_read_way
  | .bracketed => p_bracketed
  | .show_look => p_show_look
  | .show_way => p_show_way
  | .l_draws => p_l_draws
  | .l_name => p_l_name
  | .l_look => p_l_look
  | .l_way => p_l_way
  | .l_look_text => p_l_look_text
  | .l_way_text => p_l_way_text
  | .l_law => p_l_law
structure Tx (K : PySem.W.Frag) (mg : Str → Option Value) (fa : Fn → Addr) (fd : Fn → FuncData) (ka_GOES : Addr) (kt_LETTERS : Tok) (kt_LONGEST : Tok) (ka_TAKEN : Addr) : Prop where
  f_is_name : Fun K "is_name" "is_name" s_is_name (fa .is_name) (fd .is_name)
  g_is_name : mg "is_name" = some (.ref (fa .is_name))
  b_is_name : Binds K (fd .is_name) p_is_name []
  f_need : Fun K "need" "need" s_need (fa .need) (fd .need)
  g_need : mg "need" = some (.ref (fa .need))
  b_need : Binds K (fd .need) p_need []
  f_need_name : Fun K "need_name" "need_name" s_need_name (fa .need_name) (fd .need_name)
  g_need_name : mg "need_name" = some (.ref (fa .need_name))
  b_need_name : Binds K (fd .need_name) p_need_name []
  f_words_of : Fun K "words_of" "words_of" s_words_of (fa .words_of) (fd .words_of)
  g_words_of : mg "words_of" = some (.ref (fa .words_of))
  b_words_of : Binds K (fd .words_of) p_words_of []
  f_nest_of : Fun K "nest_of" "nest_of" s_nest_of (fa .nest_of) (fd .nest_of)
  g_nest_of : mg "nest_of" = some (.ref (fa .nest_of))
  b_nest_of : Binds K (fd .nest_of) p_nest_of []
  f_two_looks : Fun K "two_looks" "two_looks" s_two_looks (fa .two_looks) (fd .two_looks)
  g_two_looks : mg "two_looks" = some (.ref (fa .two_looks))
  b_two_looks : Binds K (fd .two_looks) p_two_looks []
  f_look_of : Fun K "look_of" "look_of" s_look_of (fa .look_of) (fd .look_of)
  g_look_of : mg "look_of" = some (.ref (fa .look_of))
  b_look_of : Binds K (fd .look_of) p_look_of []
  f_step_of : Fun K "step_of" "step_of" s_step_of (fa .step_of) (fd .step_of)
  g_step_of : mg "step_of" = some (.ref (fa .step_of))
  b_step_of : Binds K (fd .step_of) p_step_of []
  f_way_of : Fun K "way_of" "way_of" s_way_of (fa .way_of) (fd .way_of)
  g_way_of : mg "way_of" = some (.ref (fa .way_of))
  b_way_of : Binds K (fd .way_of) p_way_of []
  f_read_way : Fun K "read_way" "read_way" s_read_way (fa .read_way) (fd .read_way)
  g_read_way : mg "read_way" = some (.ref (fa .read_way))
  b_read_way : Binds K (fd .read_way) p_read_way []
  f_bracketed : Fun K "bracketed" "bracketed" s_bracketed (fa .bracketed) (fd .bracketed)
  g_bracketed : mg "bracketed" = some (.ref (fa .bracketed))
  b_bracketed : Binds K (fd .bracketed) p_bracketed []
  f_show_look : Fun K "show_look" "show_look" s_show_look (fa .show_look) (fd .show_look)
  g_show_look : mg "show_look" = some (.ref (fa .show_look))
  b_show_look : Binds K (fd .show_look) p_show_look []
  f_show_way : Fun K "show_way" "show_way" s_show_way (fa .show_way) (fd .show_way)
  g_show_way : mg "show_way" = some (.ref (fa .show_way))
  b_show_way : Binds K (fd .show_way) p_show_way []
  f_l_draws : Fun K "_law_draws" "_law_draws" s_l_draws (fa .l_draws) (fd .l_draws)
  g_l_draws : mg "_law_draws" = some (.ref (fa .l_draws))
  b_l_draws : Binds K (fd .l_draws) p_l_draws []
  f_l_name : Fun K "_law_name" "_law_name" s_l_name (fa .l_name) (fd .l_name)
  g_l_name : mg "_law_name" = some (.ref (fa .l_name))
  b_l_name : Binds K (fd .l_name) p_l_name []
  f_l_look : Fun K "_law_look" "_law_look" s_l_look (fa .l_look) (fd .l_look)
  g_l_look : mg "_law_look" = some (.ref (fa .l_look))
  b_l_look : Binds K (fd .l_look) p_l_look []
  f_l_way : Fun K "_law_way" "_law_way" s_l_way (fa .l_way) (fd .l_way)
  g_l_way : mg "_law_way" = some (.ref (fa .l_way))
  b_l_way : Binds K (fd .l_way) p_l_way []
  f_l_look_text : Fun K "_law_look_text" "_law_look_text" s_l_look_text (fa .l_look_text) (fd .l_look_text)
  g_l_look_text : mg "_law_look_text" = some (.ref (fa .l_look_text))
  b_l_look_text : Binds K (fd .l_look_text) p_l_look_text []
  f_l_way_text : Fun K "_law_way_text" "_law_way_text" s_l_way_text (fa .l_way_text) (fd .l_way_text)
  g_l_way_text : mg "_law_way_text" = some (.ref (fa .l_way_text))
  b_l_way_text : Binds K (fd .l_way_text) p_l_way_text []
  f_l_law : Fun K "law" "law" s_l_law (fa .l_law) (fd .l_law)
  g_l_law : mg "law" = some (.ref (fa .l_law))
  b_l_law : Binds K (fd .l_law) p_l_law []
  z_int : mg "int" = none
  z_isinstance : mg "isinstance" = none
  z_len : mg "len" = none
  z_list : mg "list" = none
  z_max : mg "max" = none
  z_range : mg "range" = none
  z_str : mg "str" = none
  z_tuple : mg "tuple" = none
  nb : PySem.W.nsIn K cStatics sharingNotToldKey = some none
  k_GOES : mg "GOES" = some (.ref (ka_GOES)) ∧ RelV (.ref ka_GOES) (.ref ka_GOES) ∧ ∀ μ H, Rep K μ H (.ref ka_GOES) k_GOES
  k_LETTERS : mg "LETTERS" = some ((.str "abcdefghijklmnopqrstuvwxyz" kt_LETTERS)) ∧ RelV (.str "abcdefghijklmnopqrstuvwxyz") (.str "abcdefghijklmnopqrstuvwxyz" kt_LETTERS) ∧ ∀ μ H, Rep K μ H (.str "abcdefghijklmnopqrstuvwxyz") k_LETTERS
  k_LONGEST : mg "LONGEST" = some ((.int 8 kt_LONGEST)) ∧ RelV (.int 8) (.int 8 kt_LONGEST) ∧ ∀ μ H, Rep K μ H (.int 8) k_LONGEST
  k_TAKEN : mg "TAKEN" = some (.ref (ka_TAKEN)) ∧ RelV (.ref ka_TAKEN) (.ref ka_TAKEN) ∧ ∀ μ H, Rep K μ H (.ref ka_TAKEN) k_TAKEN
section
variable {P : Program} {w : World} {K : PySem.W.Frag} {mg : Str → Option Value} {base : Heap} {fa : Fn → Addr} {fd : Fn → FuncData} {ka_GOES : Addr} {kt_LETTERS : Tok} {kt_LONGEST : Tok} {ka_TAKEN : Addr}
theorem ok_is_name (T : Tx K mg fa fd ka_GOES kt_LETTERS kt_LONGEST ka_TAKEN) {k j : Nat} (hj : 10 ≤ j) (G : ∀ f, FnOk P w K mg base CX0 j (fa f) (fd f) (nps f) (spD K mg (F k f) (ar f))) : FnOk P w K mg base CX0 (j + 1) (fa .is_name) (fd .is_name) p_is_name (spD K mg (F (k + 1) .is_name) 1) := by
  refine fn_def (c := c_is_name (F k)) (m := 2) T.f_is_name sc_is_name (F_is_name k) rfl rfl fun cdv A outer s H E hr => ?_
  have hu1 := hu_of hr
  have hu64 := hr.units
  have hu65 := PL.hu65 hr
  have hu230 := PL.hu230 hr hj
  exact scs_cons (sc_if (st_w (sw_or (st_not (st_chain op_le o_le op_le o_le (se_int) (se_callB call_lenAll o_len (by rfl) T.z_len bt_len (sa_cons (se_var 0) (sa_nil))) (se_con (pe_glob (by rfl) T.k_LONGEST.1 T.k_LONGEST.2.1) T.k_LONGEST.2.2))) (sw_one_or (st_cmp (op_inAll hu65) o_in (se_var 0) (se_con (pe_glob (by rfl) T.k_TAKEN.1 T.k_TAKEN.2.1) T.k_TAKEN.2.2) (by rfl))))) (scs_one (sc_ret (se_bl))) (scs_nil)) (scs_cons (sc_for PassesOwn.never rfl (si_seq (se_var 0)) (sg_name sc_is_name.nd rfl (by first | exact Or.inl rfl | exact Or.inr rfl)) (scs_one (sc_if (st_cmp (op_ninAll hu65) o_nin (se_var 1) (se_con (pe_glob (by rfl) T.k_LETTERS.1 T.k_LETTERS.2.1) T.k_LETTERS.2.2) (by rfl)) (scs_one (sc_ret (se_bl))) (scs_nil)))) (scs_one (sc_ret (se_bl))))
theorem ok_need (T : Tx K mg fa fd ka_GOES kt_LETTERS kt_LONGEST ka_TAKEN) {k j : Nat} (hj : 10 ≤ j) (G : ∀ f, FnOk P w K mg base CX0 j (fa f) (fd f) (nps f) (spD K mg (F k f) (ar f))) : FnOk P w K mg base CX0 (j + 1) (fa .need) (fd .need) p_need (spD K mg (F (k + 1) .need) 1) := by
  refine fn_def (c := c_need (F k)) (m := 1) T.f_need sc_need (F_need k) rfl rfl fun cdv A outer s H E hr => ?_
  have hu1 := hu_of hr
  have hu64 := hr.units
  have hu65 := PL.hu65 hr
  have hu230 := PL.hu230 hr hj
  exact scs_one (sc_if (st_not (st_bl (se_var 0))) (scs_one (sc_never)) (scs_nil))
theorem ok_need_name (T : Tx K mg fa fd ka_GOES kt_LETTERS kt_LONGEST ka_TAKEN) {k j : Nat} (hj : 10 ≤ j) (G : ∀ f, FnOk P w K mg base CX0 j (fa f) (fd f) (nps f) (spD K mg (F k f) (ar f))) : FnOk P w K mg base CX0 (j + 1) (fa .need_name) (fd .need_name) p_need_name (spD K mg (F (k + 1) .need_name) 1) := by
  refine fn_def (c := c_need_name (F k)) (m := 1) T.f_need_name sc_need_name (F_need_name k) rfl rfl fun cdv A outer s H E hr => ?_
  have hu1 := hu_of hr
  have hu64 := hr.units
  have hu65 := PL.hu65 hr
  have hu230 := PL.hu230 hr hj
  exact scs_cons (sc_expr (se_own (G .need) hr (by rfl) T.g_need T.f_need.kp T.b_need pas0 (sa_cons (se_and (se_isi (by rfl) T.z_isinstance (by rfl) T.z_str bt_str (se_var 0)) (se_one (se_own (G .is_name) hr (by rfl) T.g_is_name T.f_is_name.kp T.b_is_name pas0 (sa_cons (se_var 0) (sa_nil))))) (sa_nil)))) (scs_one (sc_ret (se_var 0)))
theorem ok_words_of (T : Tx K mg fa fd ka_GOES kt_LETTERS kt_LONGEST ka_TAKEN) {k j : Nat} (hj : 10 ≤ j) (G : ∀ f, FnOk P w K mg base CX0 j (fa f) (fd f) (nps f) (spD K mg (F k f) (ar f))) : FnOk P w K mg base CX0 (j + 1) (fa .words_of) (fd .words_of) p_words_of (spD K mg (F (k + 1) .words_of) 1) := by
  refine fn_defT (c := c_words_of (F k)) (m := 3) T.f_words_of sc_words_of (F_words_of k) rfl rfl (by decide +kernel) (by decide) fun cdv A outer s H E hr po => ?_
  have hu1 := hu_of hr
  have hu64 := hr.units
  have hu65 := PL.hu65 hr
  have hu230 := PL.hu230 hr hj
  exact scsT_cons (scT_of (sc_expr (se_own (G .need) hr (by rfl) T.g_need T.f_need.kp T.b_need pas0 (sa_cons (se_isi (by rfl) T.z_isinstance (by rfl) T.z_str bt_str (se_var 0)) (sa_nil))))) (scsT_cons (sc_setT (i := 1) sc_words_of.nd rfl (by first | exact Or.inl rfl | exact Or.inr rfl) (se_replT (se_replT (se_replC (se_var 0))))) (scsT_one (scT_of (sc_ret (se_compB [("word", 2)] rfl sc_words_of.nd (si_seq (se_meth PySem.F.plainAttrs_str PySem.F.slot_str_split PySem.F.type_str_split mt_split o_split (se_var 1) (sa_cons (se_str) (sa_nil)))) (blkOk_by (own := [("word", 2)]) (N := N_words_of) (sc := defScope s_words_of) (by decide +kernel)) (by intro _ _ _ _ _; exact sg_name sc_words_of.nd rfl (by first | exact Or.inl rfl | exact Or.inr rfl)) (by intro _ _ _ _ _; exact sts_one (st_cmp (op_neD hu64) o_ne (se_var 2) (se_str) (nomark _))) (by intro _ _ _ _ _; exact se_var 2) rfl (by decide))))))
theorem ok_nest_of (T : Tx K mg fa fd ka_GOES kt_LETTERS kt_LONGEST ka_TAKEN) {k j : Nat} (hj : 10 ≤ j) (G : ∀ f, FnOk P w K mg base CX0 j (fa f) (fd f) (nps f) (spD K mg (F k f) (ar f))) : FnOk P w K mg base CX0 (j + 1) (fa .nest_of) (fd .nest_of) p_nest_of (spD K mg (F (k + 1) .nest_of) 1) := by
  refine fn_def (c := c_nest_of (F k)) (m := 5) T.f_nest_of sc_nest_of (F_nest_of k) rfl rfl fun cdv A outer s H E hr => ?_
  have hu1 := hu_of hr
  have hu64 := hr.units
  have hu65 := PL.hu65 hr
  have hu230 := PL.hu230 hr hj
  exact scs_cons (sc_set (i := 1) sc_nest_of.nd rfl (by first | exact Or.inl rfl | exact Or.inr rfl) (se_lst (sa_nil))) (scs_cons (sc_set (i := 2) sc_nest_of.nd rfl (by first | exact Or.inl rfl | exact Or.inr rfl) (se_non)) (scs_cons (sc_for PassesOwn.never rfl (si_seq (se_own (G .words_of) hr (by rfl) T.g_words_of T.f_words_of.kp T.b_words_of pas0 (sa_cons (se_var 0) (sa_nil)))) (sg_name sc_nest_of.nd rfl (by first | exact Or.inl rfl | exact Or.inr rfl)) (scs_cons (sc_expr (se_own (G .need) hr (by rfl) T.g_need T.f_need.kp T.b_need pas0 (sa_cons (se_cmp op_isN o_is (se_var 2) (se_non) (nomark _)) (sa_nil)))) (scs_cons (sc_set (i := 4) sc_nest_of.nd rfl (by first | exact Or.inl rfl | exact Or.inr rfl) (se_var 3)) (scs_cons (sc_if (st_cmp (op_eqD hu64) o_eq (se_var 3) (se_str) (nomark _)) (scs_cons (sc_expr (se_meth PySem.F.plainAttrs_list PySem.F.slot_list_append PySem.F.type_list_append mt_append o_append (se_var 1) (sa_cons (se_lst (sa_nil)) (sa_nil)))) (scs_one (sc_cont))) (scs_nil)) (scs_cons (sc_if (st_cmp (op_eqD hu64) o_eq (se_var 3) (se_str) (nomark _)) (scs_cons (sc_expr (se_own (G .need) hr (by rfl) T.g_need T.f_need.kp T.b_need pas0 (sa_cons (se_cmp op_gt o_gt (se_callB call_lenAll o_len (by rfl) T.z_len bt_len (sa_cons (se_var 1) (sa_nil))) (se_int) (nomark _)) (sa_nil)))) (scs_one (sc_set (i := 4) sc_nest_of.nd rfl (by first | exact Or.inl rfl | exact Or.inr rfl) (se_meth0 PySem.F.plainAttrs_list PySem.F.slot_list_pop PySem.F.type_list_pop mt_popAll o_pop (se_var 1))))) (scs_nil)) (scs_one (sc_if (st_cmp op_gt o_gt (se_callB call_lenAll o_len (by rfl) T.z_len bt_len (sa_cons (se_var 1) (sa_nil))) (se_int) (nomark _)) (scs_one (sc_expr (se_meth PySem.F.plainAttrs_list PySem.F.slot_list_append PySem.F.type_list_append mt_append o_append (se_ix hu1 (se_var 1) (se_neg (se_int))) (sa_cons (se_var 4) (sa_nil))))) (scs_one (sc_set (i := 2) sc_nest_of.nd rfl (by first | exact Or.inl rfl | exact Or.inr rfl) (se_var 4)))))))))) (scs_cons (sc_expr (se_own (G .need) hr (by rfl) T.g_need T.f_need.kp T.b_need pas0 (sa_cons (se_cmp op_notN o_isNot (se_var 2) (se_non) (nomark _)) (sa_nil)))) (scs_one (sc_ret (se_var 2))))))
theorem ok_two_looks (T : Tx K mg fa fd ka_GOES kt_LETTERS kt_LONGEST ka_TAKEN) {k j : Nat} (hj : 10 ≤ j) (G : ∀ f, FnOk P w K mg base CX0 j (fa f) (fd f) (nps f) (spD K mg (F k f) (ar f))) : FnOk P w K mg base CX0 (j + 1) (fa .two_looks) (fd .two_looks) p_two_looks (spD K mg (F (k + 1) .two_looks) 1) := by
  refine fn_def (c := c_two_looks (F k)) (m := 1) T.f_two_looks sc_two_looks (F_two_looks k) rfl rfl fun cdv A outer s H E hr => ?_
  have hu1 := hu_of hr
  have hu64 := hr.units
  have hu65 := PL.hu65 hr
  have hu230 := PL.hu230 hr hj
  exact scs_cons (sc_expr (se_own (G .need) hr (by rfl) T.g_need T.f_need.kp T.b_need pas0 (sa_cons (se_cmp (op_eqD hu64) o_eq (se_callB call_lenAll o_len (by rfl) T.z_len bt_len (sa_cons (se_var 0) (sa_nil))) (se_int) (nomark _)) (sa_nil)))) (scs_one (sc_ret (se_tup (sa_cons (se_ix hu1 (se_var 0) (se_int)) (sa_cons (se_own (G .look_of) hr (by rfl) T.g_look_of T.f_look_of.kp T.b_look_of pas0 (sa_cons (se_ix hu1 (se_var 0) (se_int)) (sa_nil))) (sa_cons (se_own (G .look_of) hr (by rfl) T.g_look_of T.f_look_of.kp T.b_look_of pas0 (sa_cons (se_ix hu1 (se_var 0) (se_int)) (sa_nil))) (sa_nil)))))))
theorem ok_look_of (T : Tx K mg fa fd ka_GOES kt_LETTERS kt_LONGEST ka_TAKEN) {k j : Nat} (hj : 10 ≤ j) (G : ∀ f, FnOk P w K mg base CX0 j (fa f) (fd f) (nps f) (spD K mg (F k f) (ar f))) : FnOk P w K mg base CX0 (j + 1) (fa .look_of) (fd .look_of) p_look_of (spD K mg (F (k + 1) .look_of) 1) := by
  refine fn_def (c := c_look_of (F k)) (m := 1) T.f_look_of sc_look_of (F_look_of k) rfl rfl fun cdv A outer s H E hr => ?_
  have hu1 := hu_of hr
  have hu64 := hr.units
  have hu65 := PL.hu65 hr
  have hu230 := PL.hu230 hr hj
  exact scs_cons (sc_if (st_cmp (op_eqD hu64) o_eq (se_var 0) (se_str) (nomark _)) (scs_one (sc_ret (se_tup (sa_cons (se_str) (sa_nil))))) (scs_nil)) (scs_cons (sc_expr (se_own (G .need) hr (by rfl) T.g_need T.f_need.kp T.b_need pas0 (sa_cons (se_and (se_isi (by rfl) T.z_isinstance (by rfl) T.z_list bt_list (se_var 0)) (se_one (se_cmp op_gt o_gt (se_callB call_lenAll o_len (by rfl) T.z_len bt_len (sa_cons (se_var 0) (sa_nil))) (se_int) (nomark _)))) (sa_nil)))) (scs_cons (sc_if (st_cmp (op_eqD hu64) o_eq (se_ix hu1 (se_var 0) (se_int)) (se_str) (nomark _)) (scs_one (sc_ret (se_tup (sa_cons (se_str) (sa_cons (se_own (G .way_of) hr (by rfl) T.g_way_of T.f_way_of.kp T.b_way_of pas0 (sa_cons (se_var 0) (sa_nil))) (sa_nil)))))) (scs_nil)) (scs_cons (sc_if (st_w (sw_or (st_cmp (op_eqD hu64) o_eq (se_ix hu1 (se_var 0) (se_int)) (se_str) (nomark _)) (sw_one_or (st_cmp (op_eqD hu64) o_eq (se_ix hu1 (se_var 0) (se_int)) (se_str) (nomark _))))) (scs_one (sc_ret (se_own (G .two_looks) hr (by rfl) T.g_two_looks T.f_two_looks.kp T.b_two_looks pas0 (sa_cons (se_var 0) (sa_nil))))) (scs_nil)) (scs_cons (sc_expr (se_own (G .need) hr (by rfl) T.g_need T.f_need.kp T.b_need pas0 (sa_cons (se_cmp (op_eqD hu64) o_eq (se_callB call_lenAll o_len (by rfl) T.z_len bt_len (sa_cons (se_var 0) (sa_nil))) (se_int) (nomark _)) (sa_nil)))) (scs_cons (sc_if (st_cmp (op_eqD hu64) o_eq (se_ix hu1 (se_var 0) (se_int)) (se_str) (nomark _)) (scs_one (sc_ret (se_tup (sa_cons (se_str) (sa_cons (se_own (G .look_of) hr (by rfl) T.g_look_of T.f_look_of.kp T.b_look_of pas0 (sa_cons (se_ix hu1 (se_var 0) (se_int)) (sa_nil))) (sa_nil)))))) (scs_nil)) (scs_cons (sc_expr (se_own (G .need) hr (by rfl) T.g_need T.f_need.kp T.b_need pas0 (sa_cons (se_cmp (op_eqD hu64) o_eq (se_ix hu1 (se_var 0) (se_int)) (se_str) (nomark _)) (sa_nil)))) (scs_one (sc_ret (se_tup (sa_cons (se_str) (sa_cons (se_own (G .need_name) hr (by rfl) T.g_need_name T.f_need_name.kp T.b_need_name pas0 (sa_cons (se_ix hu1 (se_var 0) (se_int)) (sa_nil))) (sa_nil))))))))))))
theorem ok_step_of (T : Tx K mg fa fd ka_GOES kt_LETTERS kt_LONGEST ka_TAKEN) {k j : Nat} (hj : 10 ≤ j) (G : ∀ f, FnOk P w K mg base CX0 j (fa f) (fd f) (nps f) (spD K mg (F k f) (ar f))) : FnOk P w K mg base CX0 (j + 1) (fa .step_of) (fd .step_of) p_step_of (spD K mg (F (k + 1) .step_of) 1) := by
  refine fn_def (c := c_step_of (F k)) (m := 1) T.f_step_of sc_step_of (F_step_of k) rfl rfl fun cdv A outer s H E hr => ?_
  have hu1 := hu_of hr
  have hu64 := hr.units
  have hu65 := PL.hu65 hr
  have hu230 := PL.hu230 hr hj
  exact scs_cons (sc_expr (se_own (G .need) hr (by rfl) T.g_need T.f_need.kp T.b_need pas0 (sa_cons (se_and (se_isi (by rfl) T.z_isinstance (by rfl) T.z_list bt_list (se_var 0)) (se_and (se_cmp (op_eqD hu64) o_eq (se_callB call_lenAll o_len (by rfl) T.z_len bt_len (sa_cons (se_var 0) (sa_nil))) (se_int) (nomark _)) (se_one (se_cmp (op_inAll hu65) o_in (se_ix hu1 (se_var 0) (se_int)) (se_con (pe_glob (by rfl) T.k_GOES.1 T.k_GOES.2.1) T.k_GOES.2.2) (by rfl))))) (sa_nil)))) (scs_one (sc_ret (se_tup (sa_cons (se_ix hu1 (se_var 0) (se_int)) (sa_cons (se_own (G .look_of) hr (by rfl) T.g_look_of T.f_look_of.kp T.b_look_of pas0 (sa_cons (se_ix hu1 (se_var 0) (se_int)) (sa_nil))) (sa_nil))))))
theorem ok_way_of (T : Tx K mg fa fd ka_GOES kt_LETTERS kt_LONGEST ka_TAKEN) {k j : Nat} (hj : 10 ≤ j) (G : ∀ f, FnOk P w K mg base CX0 j (fa f) (fd f) (nps f) (spD K mg (F k f) (ar f))) : FnOk P w K mg base CX0 (j + 1) (fa .way_of) (fd .way_of) p_way_of (spD K mg (F (k + 1) .way_of) 1) := by
  refine fn_def (c := c_way_of (F k)) (m := 2) T.f_way_of sc_way_of (F_way_of k) rfl rfl fun cdv A outer s H E hr => ?_
  have hu1 := hu_of hr
  have hu64 := hr.units
  have hu65 := PL.hu65 hr
  have hu230 := PL.hu230 hr hj
  exact scs_cons (sc_expr (se_own (G .need) hr (by rfl) T.g_need T.f_need.kp T.b_need pas0 (sa_cons (se_and (se_isi (by rfl) T.z_isinstance (by rfl) T.z_list bt_list (se_var 0)) (se_and (se_cmp op_gt o_gt (se_callB call_lenAll o_len (by rfl) T.z_len bt_len (sa_cons (se_var 0) (sa_nil))) (se_int) (nomark _)) (se_one (se_cmp (op_eqD hu64) o_eq (se_ix hu1 (se_var 0) (se_int)) (se_str) (nomark _))))) (sa_nil)))) (scs_one (sc_ret (se_callTy call_tuple_of o_tuple (by rfl) T.z_tuple bt_tuple (sa_cons (se_compB [("one", 1)] rfl sc_way_of.nd (si_seq (se_sli (se_var 0) (so_some (se_int)) (so_none))) (blkOk_by (own := [("one", 1)]) (N := N_way_of) (sc := defScope s_way_of) (by decide +kernel)) (by intro _ _ _ _ _; exact sg_name sc_way_of.nd rfl (by first | exact Or.inl rfl | exact Or.inr rfl)) (by intro _ _ _ _ _; exact sts_nil) (by intro _ _ _ _ _; exact se_own (G .step_of) hr (by rfl) T.g_step_of T.f_step_of.kp T.b_step_of pas0 (sa_cons (se_var 1) (sa_nil))) rfl (by decide)) (sa_nil)))))
theorem ok_read_way (T : Tx K mg fa fd ka_GOES kt_LETTERS kt_LONGEST ka_TAKEN) {k j : Nat} (hj : 10 ≤ j) (G : ∀ f, FnOk P w K mg base CX0 j (fa f) (fd f) (nps f) (spD K mg (F k f) (ar f))) : FnOk P w K mg base CX0 (j + 1) (fa .read_way) (fd .read_way) p_read_way (spD K mg (F (k + 1) .read_way) 1) := by
  refine fn_def (c := c_read_way (F k)) (m := 1) T.f_read_way sc_read_way (F_read_way k) rfl rfl fun cdv A outer s H E hr => ?_
  have hu1 := hu_of hr
  have hu64 := hr.units
  have hu65 := PL.hu65 hr
  have hu230 := PL.hu230 hr hj
  exact scs_one (sc_ret (se_own (G .way_of) hr (by rfl) T.g_way_of T.f_way_of.kp T.b_way_of pas0 (sa_cons (se_own (G .nest_of) hr (by rfl) T.g_nest_of T.f_nest_of.kp T.b_nest_of pas0 (sa_cons (se_var 0) (sa_nil))) (sa_nil))))
theorem ok_bracketed (T : Tx K mg fa fd ka_GOES kt_LETTERS kt_LONGEST ka_TAKEN) {k j : Nat} (hj : 10 ≤ j) (G : ∀ f, FnOk P w K mg base CX0 j (fa f) (fd f) (nps f) (spD K mg (F k f) (ar f))) : FnOk P w K mg base CX0 (j + 1) (fa .bracketed) (fd .bracketed) p_bracketed (spD K mg (F (k + 1) .bracketed) 1) := by
  refine fn_def (c := c_bracketed (F k)) (m := 1) T.f_bracketed sc_bracketed (F_bracketed k) rfl rfl fun cdv A outer s H E hr => ?_
  have hu1 := hu_of hr
  have hu64 := hr.units
  have hu65 := PL.hu65 hr
  have hu230 := PL.hu230 hr hj
  exact scs_one (sc_ret (se_bin op_addAll o_add (se_bin op_addAll o_add (se_str) (se_meth PySem.F.plainAttrs_str PySem.F.slot_str_join PySem.F.type_str_join mt_join o_join (se_str) (sa_cons (se_var 0) (sa_nil)))) (se_str)))
theorem ok_show_look (T : Tx K mg fa fd ka_GOES kt_LETTERS kt_LONGEST ka_TAKEN) {k j : Nat} (hj : 10 ≤ j) (G : ∀ f, FnOk P w K mg base CX0 j (fa f) (fd f) (nps f) (spD K mg (F k f) (ar f))) : FnOk P w K mg base CX0 (j + 1) (fa .show_look) (fd .show_look) p_show_look (spD K mg (F (k + 1) .show_look) 1) := by
  refine fn_def (c := c_show_look (F k)) (m := 2) T.f_show_look sc_show_look (F_show_look k) rfl rfl fun cdv A outer s H E hr => ?_
  have hu1 := hu_of hr
  have hu64 := hr.units
  have hu65 := PL.hu65 hr
  have hu230 := PL.hu230 hr hj
  exact scs_cons (sc_if (st_cmp (op_eqD hu64) o_eq (se_ix hu1 (se_var 0) (se_int)) (se_str) (nomark _)) (scs_one (sc_ret (se_own (G .show_way) hr (by rfl) T.g_show_way T.f_show_way.kp T.b_show_way pas0 (sa_cons (se_ix hu1 (se_var 0) (se_int)) (sa_nil))))) (scs_nil)) (scs_cons (sc_if (st_w (sw_or (st_cmp (op_eqD hu64) o_eq (se_ix hu1 (se_var 0) (se_int)) (se_str) (nomark _)) (sw_one_or (st_cmp (op_eqD hu64) o_eq (se_ix hu1 (se_var 0) (se_int)) (se_str) (nomark _))))) (scs_one (sc_ret (se_ix hu1 (se_var 0) (se_int)))) (scs_nil)) (scs_cons (sc_if (st_cmp (op_eqD hu64) o_eq (se_ix hu1 (se_var 0) (se_int)) (se_str) (nomark _)) (scs_one (sc_ret (se_own (G .bracketed) hr (by rfl) T.g_bracketed T.f_bracketed.kp T.b_bracketed pas0 (sa_cons (se_lst (sa_cons (se_str) (sa_cons (se_ix hu1 (se_var 0) (se_int)) (sa_nil)))) (sa_nil))))) (scs_nil)) (scs_one (sc_ret (se_own (G .bracketed) hr (by rfl) T.g_bracketed T.f_bracketed.kp T.b_bracketed pas0 (sa_cons (se_bin op_addAll o_add (se_lst (sa_cons (se_ix hu1 (se_var 0) (se_int)) (sa_nil))) (se_compB [("one", 1)] rfl sc_show_look.nd (si_seq (se_sli (se_var 0) (so_some (se_int)) (so_none))) (blkOk_by (own := [("one", 1)]) (N := N_show_look) (sc := defScope s_show_look) (by decide +kernel)) (by intro _ _ _ _ _; exact sg_name sc_show_look.nd rfl (by first | exact Or.inl rfl | exact Or.inr rfl)) (by intro _ _ _ _ _; exact sts_nil) (by intro _ _ _ _ _; exact se_own (G .show_look) hr (by rfl) T.g_show_look T.f_show_look.kp T.b_show_look pas0 (sa_cons (se_var 1) (sa_nil))) rfl (by decide))) (sa_nil)))))))
theorem ok_show_way (T : Tx K mg fa fd ka_GOES kt_LETTERS kt_LONGEST ka_TAKEN) {k j : Nat} (hj : 10 ≤ j) (G : ∀ f, FnOk P w K mg base CX0 j (fa f) (fd f) (nps f) (spD K mg (F k f) (ar f))) : FnOk P w K mg base CX0 (j + 1) (fa .show_way) (fd .show_way) p_show_way (spD K mg (F (k + 1) .show_way) 1) := by
  refine fn_def (c := c_show_way (F k)) (m := 3) T.f_show_way sc_show_way (F_show_way k) rfl rfl fun cdv A outer s H E hr => ?_
  have hu1 := hu_of hr
  have hu64 := hr.units
  have hu65 := PL.hu65 hr
  have hu230 := PL.hu230 hr hj
  exact scs_cons (sc_set (i := 1) sc_show_way.nd rfl (by first | exact Or.inl rfl | exact Or.inr rfl) (se_lst (sa_cons (se_str) (sa_nil)))) (scs_cons (sc_for PassesOwn.never rfl (si_seq (se_var 0)) (sg_name sc_show_way.nd rfl (by first | exact Or.inl rfl | exact Or.inr rfl)) (scs_one (sc_expr (se_meth PySem.F.plainAttrs_list PySem.F.slot_list_append PySem.F.type_list_append mt_append o_append (se_var 1) (sa_cons (se_own (G .bracketed) hr (by rfl) T.g_bracketed T.f_bracketed.kp T.b_bracketed pas0 (sa_cons (se_lst (sa_cons (se_ix hu1 (se_var 2) (se_int)) (sa_cons (se_own (G .show_look) hr (by rfl) T.g_show_look T.f_show_look.kp T.b_show_look pas0 (sa_cons (se_ix hu1 (se_var 2) (se_int)) (sa_nil))) (sa_nil)))) (sa_nil))) (sa_nil)))))) (scs_one (sc_ret (se_own (G .bracketed) hr (by rfl) T.g_bracketed T.f_bracketed.kp T.b_bracketed pas0 (sa_cons (se_var 1) (sa_nil))))))
theorem ok_l_draws (T : Tx K mg fa fd ka_GOES kt_LETTERS kt_LONGEST ka_TAKEN) {k j : Nat} (hj : 10 ≤ j) (G : ∀ f, FnOk P w K mg base CX0 j (fa f) (fd f) (nps f) (spD K mg (F k f) (ar f))) : FnOk P w K mg base CX0 (j + 1) (fa .l_draws) (fd .l_draws) p_l_draws (spD K mg (F (k + 1) .l_draws) 2) := by
  refine fn_def (c := c_l_draws (F k)) (m := 5) T.f_l_draws sc_l_draws (F_l_draws k) rfl rfl fun cdv A outer s H E hr => ?_
  have hu1 := hu_of hr
  have hu64 := hr.units
  have hu65 := PL.hu65 hr
  have hu230 := PL.hu230 hr hj
  exact scs_cons (sc_set (i := 2) sc_l_draws.nd rfl (by first | exact Or.inl rfl | exact Or.inr rfl) (se_lst (sa_nil))) (scs_cons (sc_for PassesOwn.never rfl (si_range1 (by rfl) T.z_range (sa_cons (se_var 1) (sa_nil))) (sg_name sc_l_draws.nd rfl (by first | exact Or.inl rfl | exact Or.inr rfl)) (scs_cons (sc_set (i := 4) sc_l_draws.nd rfl (by first | exact Or.inl rfl | exact Or.inr rfl) (se_int)) (scs_cons (sc_if (st_cmp op_gt o_gt (se_callB call_lenAll o_len (by rfl) T.z_len bt_len (sa_cons (se_var 0) (sa_nil))) (se_int) (nomark _)) (scs_one (sc_set (i := 4) sc_l_draws.nd rfl (by first | exact Or.inl rfl | exact Or.inr rfl) (se_bin op_mod o_mod (se_ix hu1 (se_var 0) (se_bin op_mod o_mod (se_var 3) (se_callB call_lenAll o_len (by rfl) T.z_len bt_len (sa_cons (se_var 0) (sa_nil))))) (se_bin op_pow o_pow (se_int) (se_int))))) (scs_nil)) (scs_one (sc_expr (se_meth PySem.F.plainAttrs_list PySem.F.slot_list_append PySem.F.type_list_append mt_append o_append (se_var 2) (sa_cons (se_bin op_addAll o_add (se_var 4) (se_bin op_mulAll o_mul (se_int) (se_bin op_fdivW o_fdiv (se_var 3) (se_callB (call_max2 rfl) o_max2 (by rfl) T.z_max bt_max (sa_cons (se_int) (sa_cons (se_callB call_lenAll o_len (by rfl) T.z_len bt_len (sa_cons (se_var 0) (sa_nil))) (sa_nil))))))) (sa_nil)))))))) (scs_one (sc_ret (se_var 2))))
theorem ok_l_name (T : Tx K mg fa fd ka_GOES kt_LETTERS kt_LONGEST ka_TAKEN) {k j : Nat} (hj : 10 ≤ j) (G : ∀ f, FnOk P w K mg base CX0 j (fa f) (fd f) (nps f) (spD K mg (F k f) (ar f))) : FnOk P w K mg base CX0 (j + 1) (fa .l_name) (fd .l_name) p_l_name (spD K mg (F (k + 1) .l_name) 1) := by
  refine fn_def (c := c_l_name (F k)) (m := 6) T.f_l_name sc_l_name (F_l_name k) rfl rfl fun cdv A outer s H E hr => ?_
  have hu1 := hu_of hr
  have hu64 := hr.units
  have hu65 := PL.hu65 hr
  have hu230 := PL.hu230 hr hj
  exact scs_cons (sc_set (i := 1) sc_l_name.nd rfl (by first | exact Or.inl rfl | exact Or.inr rfl) (se_str)) (scs_cons (sc_set (i := 2) sc_l_name.nd rfl (by first | exact Or.inl rfl | exact Or.inr rfl) (se_ix hu1 (se_var 1) (se_bin op_mod o_mod (se_var 0) (se_int)))) (scs_cons (sc_for PassesOwn.never rfl (si_range1 (by rfl) T.z_range (sa_cons (se_bin op_mod o_mod (se_bin op_fdivW o_fdiv (se_var 0) (se_int)) (se_int)) (sa_nil))) (sg_name sc_l_name.nd rfl (by first | exact Or.inl rfl | exact Or.inr rfl)) (scs_cons (sc_set (i := 5) sc_l_name.nd rfl (by first | exact Or.inl rfl | exact Or.inr rfl) (se_bin op_addAll o_add (se_bin op_addAll o_add (se_bin op_fdivW o_fdiv (se_var 0) (se_int)) (se_bin op_mulAll o_mul (se_bin op_mulAll o_mul (se_int) (se_var 3)) (se_var 3))) (se_bin op_mulAll o_mul (se_bin op_mod o_mod (se_bin op_fdivW o_fdiv (se_var 0) (se_int)) (se_int)) (se_var 3)))) (scs_one (sc_set (i := 2) sc_l_name.nd rfl (by first | exact Or.inl rfl | exact Or.inr rfl) (se_bin op_addAll o_add (se_var 2) (se_ix hu1 (se_var 1) (se_bin op_mod o_mod (se_var 5) (se_int)))))))) (scs_cons (sc_set (i := 4) sc_l_name.nd rfl (by first | exact Or.inl rfl | exact Or.inr rfl) (se_lst (sa_cons (se_str) (sa_cons (se_str) (sa_cons (se_str) (sa_cons (se_str) (sa_cons (se_str) (sa_cons (se_str) (sa_cons (se_str) (sa_cons (se_str) (sa_cons (se_str) (sa_cons (se_str) (sa_cons (se_str) (sa_cons (se_str) (sa_nil))))))))))))))) (scs_cons (sc_if (st_cmp (op_inAll hu65) o_in (se_var 2) (se_var 4) (by rfl)) (scs_one (sc_ret (se_bin op_addAll o_add (se_var 2) (se_str)))) (scs_nil)) (scs_one (sc_ret (se_var 2)))))))
theorem ok_l_look (T : Tx K mg fa fd ka_GOES kt_LETTERS kt_LONGEST ka_TAKEN) {k j : Nat} (hj : 10 ≤ j) (G : ∀ f, FnOk P w K mg base CX0 j (fa f) (fd f) (nps f) (spD K mg (F k f) (ar f))) : FnOk P w K mg base CX0 (j + 1) (fa .l_look) (fd .l_look) p_l_look (spD K mg (F (k + 1) .l_look) 3) := by
  refine fn_def (c := c_l_look (F k)) (m := 6) T.f_l_look sc_l_look (F_l_look k) rfl rfl fun cdv A outer s H E hr => ?_
  have hu1 := hu_of hr
  have hu64 := hr.units
  have hu65 := PL.hu65 hr
  have hu230 := PL.hu230 hr hj
  exact scs_cons (sc_set (i := 3) sc_l_look.nd rfl (by first | exact Or.inl rfl | exact Or.inr rfl) (se_int)) (scs_cons (sc_if (st_cmp op_gt o_gt (se_callB call_lenAll o_len (by rfl) T.z_len bt_len (sa_cons (se_var 0) (sa_nil))) (se_int) (nomark _)) (scs_one (sc_set (i := 3) sc_l_look.nd rfl (by first | exact Or.inl rfl | exact Or.inr rfl) (se_meth PySem.F.plainAttrs_list PySem.F.slot_list_pop PySem.F.type_list_pop mt_popAll o_pop (se_var 0) (sa_cons (se_int) (sa_nil))))) (scs_nil)) (scs_cons (sc_set (i := 4) sc_l_look.nd rfl (by first | exact Or.inl rfl | exact Or.inr rfl) (se_bin op_mod o_mod (se_var 3) (se_int))) (scs_cons (sc_if (st_w (sw_or (st_cmp op_ltAll o_lt (se_var 2) (se_int) (nomark _)) (sw_or (st_cmp (op_eqD hu64) o_eq (se_callB call_lenAll o_len (by rfl) T.z_len bt_len (sa_cons (se_var 0) (sa_nil))) (se_int) (nomark _)) (sw_one_or (st_cmp op_ltAll o_lt (se_var 4) (se_int) (nomark _)))))) (scs_one (sc_ret (se_ix hu1 (se_lst (sa_cons (se_tup (sa_cons (se_str) (sa_nil))) (sa_cons (se_tup (sa_cons (se_str) (sa_cons (se_ix hu1 (se_var 1) (se_bin op_mod o_mod (se_bin op_fdivW o_fdiv (se_var 3) (se_int)) (se_callB call_lenAll o_len (by rfl) T.z_len bt_len (sa_cons (se_var 1) (sa_nil))))) (sa_nil)))) (sa_nil)))) (se_callTy call_intAll o_int (by rfl) T.z_int bt_int (sa_cons (se_cmp op_gt o_gt (se_bin op_mod o_mod (se_bin op_fdivW o_fdiv (se_var 3) (se_int)) (se_int)) (se_int) (nomark _)) (sa_nil)))))) (scs_nil)) (scs_cons (sc_if (st_cmp (op_eqD hu64) o_eq (se_var 4) (se_int) (nomark _)) (scs_one (sc_ret (se_tup (sa_cons (se_str) (sa_cons (se_own (G .l_look) hr (by rfl) T.g_l_look T.f_l_look.kp T.b_l_look pas0 (sa_cons (se_var 0) (sa_cons (se_var 1) (sa_cons (se_bin op_sub o_sub (se_var 2) (se_int)) (sa_nil))))) (sa_nil)))))) (scs_nil)) (scs_cons (sc_if (st_cmp op_ltAll o_lt (se_var 4) (se_int) (nomark _)) (scs_cons (sc_set (i := 5) sc_l_look.nd rfl (by first | exact Or.inl rfl | exact Or.inr rfl) (se_own (G .l_look) hr (by rfl) T.g_l_look T.f_l_look.kp T.b_l_look pas0 (sa_cons (se_var 0) (sa_cons (se_var 1) (sa_cons (se_bin op_sub o_sub (se_var 2) (se_int)) (sa_nil)))))) (scs_one (sc_ret (se_tup (sa_cons (se_ix hu1 (se_lst (sa_cons (se_str) (sa_cons (se_str) (sa_nil)))) (se_bin op_sub o_sub (se_var 4) (se_int))) (sa_cons (se_var 5) (sa_cons (se_own (G .l_look) hr (by rfl) T.g_l_look T.f_l_look.kp T.b_l_look pas0 (sa_cons (se_var 0) (sa_cons (se_var 1) (sa_cons (se_bin op_sub o_sub (se_var 2) (se_int)) (sa_nil))))) (sa_nil)))))))) (scs_nil)) (scs_one (sc_ret (se_tup (sa_cons (se_str) (sa_cons (se_own (G .l_way) hr (by rfl) T.g_l_way T.f_l_way.kp T.b_l_way pas0 (sa_cons (se_var 0) (sa_cons (se_var 1) (sa_cons (se_bin op_sub o_sub (se_var 2) (se_int)) (sa_cons (se_bin op_addAll o_add (se_int) (se_bin op_mod o_mod (se_bin op_fdivW o_fdiv (se_var 3) (se_int)) (se_int))) (sa_nil)))))) (sa_nil)))))))))))
theorem ok_l_way (T : Tx K mg fa fd ka_GOES kt_LETTERS kt_LONGEST ka_TAKEN) {k j : Nat} (hj : 10 ≤ j) (G : ∀ f, FnOk P w K mg base CX0 j (fa f) (fd f) (nps f) (spD K mg (F k f) (ar f))) : FnOk P w K mg base CX0 (j + 1) (fa .l_way) (fd .l_way) p_l_way (spD K mg (F (k + 1) .l_way) 4) := by
  refine fn_def (c := c_l_way (F k)) (m := 7) T.f_l_way sc_l_way (F_l_way k) rfl rfl fun cdv A outer s H E hr => ?_
  have hu1 := hu_of hr
  have hu64 := hr.units
  have hu65 := PL.hu65 hr
  have hu230 := PL.hu230 hr hj
  exact scs_cons (sc_set (i := 4) sc_l_way.nd rfl (by first | exact Or.inl rfl | exact Or.inr rfl) (se_lst (sa_nil))) (scs_cons (sc_for PassesOwn.never rfl (si_range1 (by rfl) T.z_range (sa_cons (se_var 3) (sa_nil))) (sg_name sc_l_way.nd rfl (by first | exact Or.inl rfl | exact Or.inr rfl)) (scs_cons (sc_set (i := 6) sc_l_way.nd rfl (by first | exact Or.inl rfl | exact Or.inr rfl) (se_str)) (scs_cons (sc_if (st_cmp op_gt o_gt (se_callB call_lenAll o_len (by rfl) T.z_len bt_len (sa_cons (se_var 0) (sa_nil))) (se_int) (nomark _)) (scs_one (sc_set (i := 6) sc_l_way.nd rfl (by first | exact Or.inl rfl | exact Or.inr rfl) (se_ix hu1 (se_lst (sa_cons (se_str) (sa_cons (se_str) (sa_cons (se_str) (sa_nil))))) (se_bin op_mod o_mod (se_meth PySem.F.plainAttrs_list PySem.F.slot_list_pop PySem.F.type_list_pop mt_popAll o_pop (se_var 0) (sa_cons (se_int) (sa_nil))) (se_int))))) (scs_nil)) (scs_one (sc_expr (se_meth PySem.F.plainAttrs_list PySem.F.slot_list_append PySem.F.type_list_append mt_append o_append (se_var 4) (sa_cons (se_tup (sa_cons (se_var 6) (sa_cons (se_own (G .l_look) hr (by rfl) T.g_l_look T.f_l_look.kp T.b_l_look pas0 (sa_cons (se_var 0) (sa_cons (se_var 1) (sa_cons (se_bin op_sub o_sub (se_var 2) (se_int)) (sa_nil))))) (sa_nil)))) (sa_nil)))))))) (scs_one (sc_ret (se_callTy call_tuple_of o_tuple (by rfl) T.z_tuple bt_tuple (sa_cons (se_var 4) (sa_nil))))))
theorem ok_l_look_text (T : Tx K mg fa fd ka_GOES kt_LETTERS kt_LONGEST ka_TAKEN) {k j : Nat} (hj : 10 ≤ j) (G : ∀ f, FnOk P w K mg base CX0 j (fa f) (fd f) (nps f) (spD K mg (F k f) (ar f))) : FnOk P w K mg base CX0 (j + 1) (fa .l_look_text) (fd .l_look_text) p_l_look_text (spD K mg (F (k + 1) .l_look_text) 1) := by
  refine fn_def (c := c_l_look_text (F k)) (m := 2) T.f_l_look_text sc_l_look_text (F_l_look_text k) rfl rfl fun cdv A outer s H E hr => ?_
  have hu1 := hu_of hr
  have hu64 := hr.units
  have hu65 := PL.hu65 hr
  have hu230 := PL.hu230 hr hj
  exact scs_cons (sc_if (st_cmp (op_eqD hu64) o_eq (se_ix hu1 (se_var 0) (se_int)) (se_str) (nomark _)) (scs_one (sc_ret (se_own (G .l_way_text) hr (by rfl) T.g_l_way_text T.f_l_way_text.kp T.b_l_way_text pas0 (sa_cons (se_ix hu1 (se_var 0) (se_int)) (sa_nil))))) (scs_nil)) (scs_cons (sc_if (st_cmp (op_eqD hu64) o_eq (se_ix hu1 (se_var 0) (se_int)) (se_str) (nomark _)) (scs_one (sc_ret (se_str))) (scs_nil)) (scs_cons (sc_if (st_cmp (op_eqD hu64) o_eq (se_ix hu1 (se_var 0) (se_int)) (se_str) (nomark _)) (scs_one (sc_ret (se_bin op_addAll o_add (se_bin op_addAll o_add (se_str) (se_ix hu1 (se_var 0) (se_int))) (se_str)))) (scs_nil)) (scs_one (sc_ret (se_bin op_addAll o_add (se_bin op_addAll o_add (se_bin op_addAll o_add (se_bin op_addAll o_add (se_str) (se_ix hu1 (se_var 0) (se_int))) (se_str)) (se_meth PySem.F.plainAttrs_str PySem.F.slot_str_join PySem.F.type_str_join mt_join o_join (se_str) (sa_cons (se_compB [("_law_one", 1)] rfl sc_l_look_text.nd (si_seq (se_sli (se_var 0) (so_some (se_int)) (so_none))) (blkOk_by (own := [("_law_one", 1)]) (N := N_l_look_text) (sc := defScope s_l_look_text) (by decide +kernel)) (by intro _ _ _ _ _; exact sg_name sc_l_look_text.nd rfl (by first | exact Or.inl rfl | exact Or.inr rfl)) (by intro _ _ _ _ _; exact sts_nil) (by intro _ _ _ _ _; exact se_own (G .l_look_text) hr (by rfl) T.g_l_look_text T.f_l_look_text.kp T.b_l_look_text pas0 (sa_cons (se_var 1) (sa_nil))) rfl (by decide)) (sa_nil)))) (se_str))))))
theorem ok_l_way_text (T : Tx K mg fa fd ka_GOES kt_LETTERS kt_LONGEST ka_TAKEN) {k j : Nat} (hj : 10 ≤ j) (G : ∀ f, FnOk P w K mg base CX0 j (fa f) (fd f) (nps f) (spD K mg (F k f) (ar f))) : FnOk P w K mg base CX0 (j + 1) (fa .l_way_text) (fd .l_way_text) p_l_way_text (spD K mg (F (k + 1) .l_way_text) 1) := by
  refine fn_def (c := c_l_way_text (F k)) (m := 4) T.f_l_way_text sc_l_way_text (F_l_way_text k) rfl rfl fun cdv A outer s H E hr => ?_
  have hu1 := hu_of hr
  have hu64 := hr.units
  have hu65 := PL.hu65 hr
  have hu230 := PL.hu230 hr hj
  exact scs_cons (sc_set (i := 1) sc_l_way_text.nd rfl (by first | exact Or.inl rfl | exact Or.inr rfl) (se_str)) (scs_cons (sc_for PassesOwn.never rfl (si_seq (se_var 0)) (sg_tup rfl (sgs_cons (sg_name sc_l_way_text.nd rfl (by first | exact Or.inl rfl | exact Or.inr rfl)) (sgs_cons (sg_name sc_l_way_text.nd rfl (by first | exact Or.inl rfl | exact Or.inr rfl)) (sgs_nil))) rfl) (scs_one (sc_set (i := 1) sc_l_way_text.nd rfl (by first | exact Or.inl rfl | exact Or.inr rfl) (se_bin op_addAll o_add (se_bin op_addAll o_add (se_bin op_addAll o_add (se_bin op_addAll o_add (se_bin op_addAll o_add (se_var 1) (se_str)) (se_var 2)) (se_str)) (se_own (G .l_look_text) hr (by rfl) T.g_l_look_text T.f_l_look_text.kp T.b_l_look_text pas0 (sa_cons (se_var 3) (sa_nil)))) (se_str))))) (scs_one (sc_ret (se_bin op_addAll o_add (se_var 1) (se_str)))))
theorem ok_l_law (T : Tx K mg fa fd ka_GOES kt_LETTERS kt_LONGEST ka_TAKEN) {k j : Nat} (hj : 10 ≤ j) (G : ∀ f, FnOk P w K mg base CX0 j (fa f) (fd f) (nps f) (spD K mg (F k f) (ar f))) : FnOk P w K mg base CX0 (j + 1) (fa .l_law) (fd .l_law) p_l_law (spD K mg (F (k + 1) .l_law) 1) := by
  refine fn_def (c := c_l_law (F k)) (m := 12) T.f_l_law sc_l_law (F_l_law k) rfl rfl fun cdv A outer s H E hr => ?_
  have hu1 := hu_of hr
  have hu64 := hr.units
  have hu65 := PL.hu65 hr
  have hu230 := PL.hu230 hr hj
  exact scs_firstT (i := 1) (iy := 0) sc_l_law.nd rfl (by first | exact Or.inl rfl | exact Or.inr rfl) rfl (by first | exact Or.inl rfl | exact Or.inr (Or.inl rfl) | exact Or.inr (Or.inr rfl) | exact Or.inr rfl) (G .l_draws) hr (by rfl) T.g_l_draws T.f_l_draws.kp T.b_l_draws pas0 (scsT_cons (scT_of (sc_setCompB (i := 2) [("_law_k", 10)] rfl sc_l_law.nd rfl rfl (sw_true rfl rfl rfl (by decide +kernel)) (si_range1 (by rfl) T.z_range (sa_cons (se_int) (sa_nil))) (blkOk_by (own := [("_law_k", 10)]) (N := N_l_law) (sc := defScope s_l_law) (by decide +kernel)) (by intro _ _ _ _ _; exact sg_name sc_l_law.nd rfl (by first | exact Or.inl rfl | exact Or.inr rfl)) (by intro _ _ _ _ _; exact sts_nil) (by intro _ _ _ _ _; exact se_own (G .l_name) hr (by rfl) T.g_l_name T.f_l_name.kp T.b_l_name pas0 (sa_cons (se_ix hu1 (se_var 1) (se_var 10)) (sa_nil))) rfl (by decide))) (scsT_cons (scT_of (sc_set (i := 3) sc_l_law.nd rfl (by first | exact Or.inl rfl | exact Or.inr rfl) (se_bin op_addAll o_add (se_compB [("_law_cell", 11)] rfl sc_l_law.nd (si_seq (se_sli (se_var 0) (so_some (se_int)) (so_some (se_int)))) (blkOk_by (own := [("_law_cell", 11)]) (N := N_l_law) (sc := defScope s_l_law) (by decide +kernel)) (by intro _ _ _ _ _; exact sg_name sc_l_law.nd rfl (by first | exact Or.inl rfl | exact Or.inr rfl)) (by intro _ _ _ _ _; exact sts_nil) (by intro _ _ _ _ _; exact se_bin op_mod o_mod (se_var 11) (se_bin op_pow o_pow (se_int) (se_int))) rfl (by decide)) (se_sli (se_var 1) (so_some (se_int)) (so_some (se_int)))))) (scsT_cons (scT_of (sc_set (i := 4) sc_l_law.nd rfl (by first | exact Or.inl rfl | exact Or.inr rfl) (se_bin op_addAll o_add (se_int) (se_bin op_mod o_mod (se_ix hu1 (se_var 1) (se_int)) (se_int))))) (scsT_cons (scT_of (sc_if (st_cmp (op_eqD hu64) o_eq (se_bin op_mod o_mod (se_bin op_fdivW o_fdiv (se_ix hu1 (se_var 1) (se_int)) (se_int)) (se_int)) (se_int) (nomark _)) (scs_cons (sc_set (i := 4) sc_l_law.nd rfl (by first | exact Or.inl rfl | exact Or.inr rfl) (se_bin op_addAll o_add (se_int) (se_bin op_mod o_mod (se_bin op_fdivW o_fdiv (se_ix hu1 (se_var 1) (se_int)) (se_int)) (se_int)))) (scs_one (sc_set (i := 3) sc_l_law.nd rfl (by first | exact Or.inl rfl | exact Or.inr rfl) (se_sli (se_var 3) (so_none) (so_some (se_bin op_addAll o_add (se_var 4) (se_int))))))) (scs_nil))) (scsT_cons (scT_of (sc_set (i := 5) sc_l_law.nd rfl (by first | exact Or.inl rfl | exact Or.inr rfl) (se_own (G .l_way) hr (by rfl) T.g_l_way T.f_l_way.kp T.b_l_way pas0 (sa_cons (se_var 3) (sa_cons (se_var 2) (sa_cons (se_int) (sa_cons (se_var 4) (sa_nil)))))))) (scsT_cons (scT_of (sc_if (st_cmp (op_eqD hu64) o_eq (se_bin op_mod o_mod (se_bin op_fdivW o_fdiv (se_ix hu1 (se_var 1) (se_int)) (se_int)) (se_int)) (se_int) (nomark _)) (scs_cons (sc_set (i := 9) sc_l_law.nd rfl (by first | exact Or.inl rfl | exact Or.inr rfl) (se_ix hu1 (se_ix hu1 (se_var 5) (se_int)) (se_int))) (scs_cons (sc_for PassesOwn.never rfl (si_range1 (by rfl) T.z_range (sa_cons (se_bin op_mod o_mod (se_bin op_fdivW o_fdiv (se_ix hu1 (se_var 1) (se_int)) (se_int)) (se_int)) (sa_nil))) (sg_name sc_l_law.nd rfl (by first | exact Or.inl rfl | exact Or.inr rfl)) (scs_one (sc_set (i := 9) sc_l_law.nd rfl (by first | exact Or.inl rfl | exact Or.inr rfl) (se_ix hu1 (se_lst (sa_cons (se_tup (sa_cons (se_str) (sa_cons (se_var 9) (sa_nil)))) (sa_cons (se_tup (sa_cons (se_str) (sa_cons (se_tup (sa_cons (se_tup (sa_cons (se_ix hu1 (se_lst (sa_cons (se_str) (sa_cons (se_str) (sa_cons (se_str) (sa_nil))))) (se_bin op_mod o_mod (se_var 10) (se_int))) (sa_cons (se_var 9) (sa_nil)))) (sa_nil))) (sa_nil)))) (sa_nil)))) (se_bin op_mod o_mod (se_bin op_fdivW o_fdiv (se_ix hu1 (se_var 1) (se_int)) (se_bin op_addAll o_add (se_int) (se_var 10))) (se_int)))))) (scs_one (sc_set (i := 5) sc_l_law.nd rfl (by first | exact Or.inl rfl | exact Or.inr rfl) (se_bin op_addAll o_add (se_tup (sa_cons (se_tup (sa_cons (se_ix hu1 (se_ix hu1 (se_var 5) (se_int)) (se_int)) (sa_cons (se_var 9) (sa_nil)))) (sa_nil))) (se_sli (se_var 5) (so_some (se_int)) (so_none))))))) (scs_nil))) (scsT_cons (scT_of (sc_set (i := 6) sc_l_law.nd rfl (by first | exact Or.inl rfl | exact Or.inr rfl) (se_own (G .l_way_text) hr (by rfl) T.g_l_way_text T.f_l_way_text.kp T.b_l_way_text pas0 (sa_cons (se_var 5) (sa_nil))))) (scsT_cons (sc_setT (i := 7) sc_l_law.nd rfl (by first | exact Or.inl rfl | exact Or.inr rfl) (se_replI T.nb (se_var 6) (se_bin op_mod o_mod (se_ix hu1 (se_var 1) (se_int)) (se_int)))) (scsT_cons (sc_ifT (st_ofT (st_cmp (op_eqD hu64) o_eq (se_bin op_mod o_mod (se_bin op_fdivW o_fdiv (se_ix hu1 (se_var 1) (se_int)) (se_int)) (se_int)) (se_int) (nomark _))) (scsT_one (sc_setT (i := 7) sc_l_law.nd rfl (by first | exact Or.inl rfl | exact Or.inr rfl) (se_replI T.nb (se_var 7) (se_bin op_mod o_mod (se_ix hu1 (se_var 1) (se_int)) (se_int))))) (scsT_nil)) (scsT_cons (sc_ifT (st_ofT (st_cmp (op_eqD hu64) o_eq (se_bin op_mod o_mod (se_bin op_fdivW o_fdiv (se_ix hu1 (se_var 1) (se_int)) (se_int)) (se_int)) (se_int) (nomark _))) (scsT_one (sc_setT (i := 7) sc_l_law.nd rfl (by first | exact Or.inl rfl | exact Or.inr rfl) (se_replI T.nb (se_var 7) (se_bin op_mod o_mod (se_ix hu1 (se_var 1) (se_int)) (se_int))))) (scsT_nil)) (scsT_cons (scT_of (sc_if (st_w (sw_or (st_cmp (op_neD hu64) o_ne (se_own (G .show_way) hr (by rfl) T.g_show_way T.f_show_way.kp T.b_show_way pas0 (sa_cons (se_var 5) (sa_nil))) (se_var 6) (nomark _)) (sw_or (st_cmp (op_neD hu64) o_ne (se_own (G .read_way) hr (by rfl) T.g_read_way T.f_read_way.kp T.b_read_way pas0 (sa_cons (se_var 6) (sa_nil))) (se_var 5) (nomark _)) (sw_one_or (st_cmp (op_neD hu64) o_ne (se_own (G .read_way) hr (by rfl) T.g_read_way T.f_read_way.kp T.b_read_way pas0 (sa_cons (se_var 7) (sa_nil))) (se_var 5) (nomark _)))))) (scs_one (sc_ret (se_bl))) (scs_nil))) (scsT_cons (sc_ifT (st_cmpT (op_neD hu64) o_ne (se_ownT (G .read_way) hr (by rfl) T.g_read_way T.f_read_way.kp T.b_read_way pas0 (se_replC (se_var 6))) (se_var 5) (nomark _)) (scsT_one (scT_of (sc_ret (se_bl)))) (scsT_nil)) (scsT_cons (scT_of (sc_set (i := 8) sc_l_law.nd rfl (by first | exact Or.inl rfl | exact Or.inr rfl) (se_tup (sa_cons (se_str) (sa_cons (se_tup (sa_cons (se_str) (sa_nil))) (sa_cons (se_ix hu1 (se_ix hu1 (se_var 5) (se_int)) (se_int)) (sa_nil))))))) (scsT_one (scT_of (sc_ret (se_cmp (op_eqD hu64) o_eq (se_own (G .show_look) hr (by rfl) T.g_show_look T.f_show_look.kp T.b_show_look pas0 (sa_cons (se_var 8) (sa_nil))) (se_bin op_addAll o_add (se_bin op_addAll o_add (se_str) (se_own (G .l_look_text) hr (by rfl) T.g_l_look_text T.f_l_look_text.kp T.b_l_look_text pas0 (sa_cons (se_ix hu1 (se_ix hu1 (se_var 5) (se_int)) (se_int)) (sa_nil)))) (se_str)) (nomark _))))))))))))))))))
theorem ok_all (T : Tx K mg fa fd ka_GOES kt_LETTERS kt_LONGEST ka_TAKEN) : ∀ (k : Nat) (f : Fn), FnOk P w K mg base CX0 (k + 10) (fa f) (fd f) (nps f) (spD K mg (F k f) (ar f))
  | 0, f => fn_zero (by cases f <;> rfl)
  | k + 1, f => by
    have G := ok_all T k
    have hk : 10 ≤ k + 10 := by omega
    rw [show k + 1 + 10 = k + 10 + 1 from by omega]
    cases f
    · exact ok_is_name T hk G
    · exact ok_need T hk G
    · exact ok_need_name T hk G
    · exact ok_words_of T hk G
    · exact ok_nest_of T hk G
    · exact ok_two_looks T hk G
    · exact ok_look_of T hk G
    · exact ok_step_of T hk G
    · exact ok_way_of T hk G
    · exact ok_read_way T hk G
    · exact ok_bracketed T hk G
    · exact ok_show_look T hk G
    · exact ok_show_way T hk G
    · exact ok_l_draws T hk G
    · exact ok_l_name T hk G
    · exact ok_l_look T hk G
    · exact ok_l_way T hk G
    · exact ok_l_look_text T hk G
    · exact ok_l_way_text T hk G
    · exact ok_l_law T hk G
end
end Wk

namespace Wk
open PySem PL
/-! words of a text, as lists of signs -/
abbrev cs (x : Str) : List Nat := x.cps.toList
theorem cs_ext {a b : Str} (h : cs a = cs b) : a = b := by
  cases a; cases b
  simp only [Str.mk.injEq]
  exact Array.toList_inj.mp h
def flu (w : List Nat) : List (List Nat) := if w = [] then [] else [w]
def spw : List Nat → List Nat → List (List Nat)
  | w, [] => flu w
  | w, c :: r => if c = 32 then flu w ++ spw [] r else spw (w ++ [c]) r
def tk : List Nat → List Nat → List (List Nat)
  | w, [] => flu w
  | w, c :: r => if c = 32 ∨ c = 10 then flu w ++ tk [] r else if c = 40 ∨ c = 41 then flu w ++ [c] :: tk [] r else tk (w ++ [c]) r
theorem flu_nil : flu [] = [] := rfl
theorem flu_ne {w : List Nat} (h : w ≠ []) : flu w = [w] := if_neg h
theorem flu_snoc (w : List Nat) (c : Nat) : flu (w ++ [c]) = [w ++ [c]] := if_neg (by simp)
theorem repl1 (a : Nat) (z : List Nat) : ∀ l : List Nat, StrLaws.replL [a] z l = l.flatMap fun c => if c = a then z else [c]
  | [] => StrLaws.replL_nil
  | c :: l => by
    rw [List.flatMap_cons]
    by_cases q : c = a
    · rw [StrLaws.replL_hit (by simp) (by simp [q]), if_pos q]
      show z ++ StrLaws.replL [a] z ((c :: l).drop 1) = _
      rw [List.drop_succ_cons, List.drop_zero, repl1 a z l]
    · rw [StrLaws.replL_miss (by simp [q]), if_neg q, repl1 a z l]; rfl
def gw (c : Nat) : List Nat := if c = 10 then [32] else if c = 40 then [32, 40, 32] else if c = 41 then [32, 41, 32] else [c]
theorem repl3 (l : List Nat) : StrLaws.replL [41] [32, 41, 32] (StrLaws.replL [40] [32, 40, 32] (StrLaws.replL [10] [32] l)) = l.flatMap gw := by
  rw [repl1, repl1, repl1, List.flatMap_assoc, List.flatMap_assoc]
  congr 1
  funext c
  unfold gw
  by_cases h1 : c = 10
  · subst h1; rfl
  · by_cases h2 : c = 40
    · subst h2; rfl
    · by_cases h3 : c = 41
      · subst h3; rfl
      · simp [h1, h2, h3]
theorem spw_gw : ∀ (l w : List Nat), spw w (l.flatMap gw) = tk w l
  | [], w => rfl
  | c :: l, w => by
    rw [List.flatMap_cons]
    have ih := fun w => spw_gw l w
    by_cases h1 : c = 10
    · subst h1
      show spw w (32 :: l.flatMap gw) = _
      rw [spw, if_pos rfl, tk, if_pos (.inr rfl), ih]
    · by_cases h2 : c = 40
      · subst h2
        show spw w (32 :: 40 :: 32 :: l.flatMap gw) = _
        rw [spw, if_pos rfl, spw, if_neg (by decide), List.nil_append, spw, if_pos rfl, tk, if_neg (by decide), if_pos (.inl rfl), ih]
        rfl
      · by_cases h3 : c = 41
        · subst h3
          show spw w (32 :: 41 :: 32 :: l.flatMap gw) = _
          rw [spw, if_pos rfl, spw, if_neg (by decide), List.nil_append, spw, if_pos rfl, tk, if_neg (by decide), if_pos (.inr rfl), ih]
          rfl
        · have : gw c = [c] := by unfold gw; rw [if_neg h1, if_neg h2, if_neg h3]
          rw [this]
          show spw w (c :: l.flatMap gw) = _
          by_cases h4 : c = 32
          · rw [spw, if_pos h4, tk, if_pos (.inl h4), ih]
          · rw [spw, if_neg h4, tk, if_neg (by omega), if_neg (by omega), ih]
theorem spl_spw : ∀ (l acc : List Nat), (TL.spl [32] 0 acc l).filter (fun w => decide (w ≠ [])) = spw acc l
  | [], acc => by
    rw [TL.spl_nil, spw]
    unfold flu
    by_cases h : acc = []
    · rw [if_pos h, List.filter_cons, if_neg (by simp [h])]; rfl
    · rw [if_neg h, List.filter_cons, if_pos (by simp [h])]; rfl
  | c :: l, acc => by
    by_cases h : c = 32
    · rw [TL.spl_hit (by unfold TL.pre; simp [h]), spw, if_pos h]
      show List.filter _ (acc :: TL.spl [32] 0 [] l) = _
      rw [List.filter_cons, spl_spw l []]
      unfold flu
      by_cases h2 : acc = []
      · rw [if_pos h2, if_neg (by simp [h2])]; rfl
      · rw [if_neg h2, if_pos (by simp [h2])]; rfl
    · have : TL.spl [32] 0 acc (c :: l) = TL.spl [32] 0 (acc ++ [c]) l := by
        show (if TL.pre [32] (c :: l) = true then _ else TL.spl [32] 0 (acc ++ [c]) l) = _
        rw [if_neg (by unfold TL.pre; simp [h])]
      rw [this, spl_spw l (acc ++ [c]), spw, if_neg h]
theorem spl_mem : ∀ (l acc : List Nat) (w : List Nat), w ∈ TL.spl [32] 0 acc l → ∀ c ∈ w, c ∈ acc ∨ c ∈ l
  | [], acc, w, h, c, hc => by
    rw [TL.spl_nil] at h
    rw [List.mem_singleton.mp h] at hc
    exact .inl hc
  | d :: l, acc, w, h, c, hc => by
    by_cases q : d = 32
    · rw [TL.spl_hit (by unfold TL.pre; simp [q])] at h
      rcases List.mem_cons.mp h with h | h
      · rw [h] at hc; exact .inl hc
      · rcases spl_mem l [] w h c hc with z | z
        · cases z
        · exact .inr (by simp [z])
    · have : TL.spl [32] 0 acc (d :: l) = TL.spl [32] 0 (acc ++ [d]) l := by
        show (if TL.pre [32] (d :: l) = true then _ else TL.spl [32] 0 (acc ++ [d]) l) = _
        rw [if_neg (by unfold TL.pre; simp [q])]
      rw [this] at h
      rcases spl_mem l (acc ++ [d]) w h c hc with z | z
      · rcases List.mem_append.mp z with z | z
        · exact .inl z
        · exact .inr (by simp [List.mem_singleton.mp z])
      · exact .inr (by simp [z])
/-! blanks more or fewer -/
def Bl (b : List Nat) : Prop := ∀ c ∈ b, c = 32 ∨ c = 10
theorem tk_bl : ∀ (b r : List Nat), Bl b → tk [] (b ++ r) = tk [] r
  | [], r, _ => rfl
  | c :: b, r, h => by
    show tk [] (c :: (b ++ r)) = _
    rw [tk, if_pos (h c (by simp)), flu_nil, List.nil_append, tk_bl b r fun d hd => h d (by simp [hd])]
theorem tk_bl1 {b : List Nat} (h : Bl b) (hne : b ≠ []) (w r : List Nat) : tk w (b ++ r) = flu w ++ tk [] r := by
  cases b with
  | nil => exact absurd rfl hne
  | cons c b =>
    show tk w (c :: (b ++ r)) = _
    rw [tk, if_pos (h c (by simp)), tk_bl b r fun d hd => h d (by simp [hd])]
theorem tk_par {c : Nat} (hc : c = 40 ∨ c = 41) (w r : List Nat) : tk w (c :: r) = flu w ++ [c] :: tk [] r := by
  rw [tk, if_neg (by omega), if_pos hc]
def LooseAt (h : Nat → List Nat) (c : Nat) : Prop := h c = [c] ∨ (c = 32 ∧ Bl (h c) ∧ h c ≠ []) ∨ ((c = 40 ∨ c = 41) ∧ ∃ p q, Bl p ∧ Bl q ∧ h c = p ++ c :: q)
theorem tk_loose {h : Nat → List Nat} (H : ∀ c, LooseAt h c) : ∀ (l w : List Nat), tk w (l.flatMap h) = tk w l
  | [], w => rfl
  | c :: l, w => by
    rw [List.flatMap_cons]
    rcases H c with e | ⟨e, hb, hne⟩ | ⟨hc, p, q, hp, hq, e⟩
    · rw [e]
      show tk w (c :: l.flatMap h) = _
      rw [tk, tk, tk_loose H l, tk_loose H l]
    · rw [tk_bl1 hb hne, tk_loose H l, tk, if_pos (.inl e)]
    · rw [e, List.append_assoc, List.cons_append, tk_par hc]
      by_cases z : p = []
      · rw [z, List.nil_append, tk_par hc, tk_bl q _ hq, tk_loose H l]
      · rw [tk_bl1 hp z, tk_par hc, flu_nil, List.nil_append, tk_bl q _ hq, tk_loose H l]
theorem tk_tight : ∀ (n : Nat) (l w : List Nat), l.length ≤ n → tk w (StrLaws.replL [32, 40] [40] l) = tk w l
  | _, [], w, _ => by rw [StrLaws.replL_nil]
  | 0, c :: l, w, h => by simp at h
  | n + 1, c :: l, w, h => by
    rw [List.length_cons] at h
    by_cases q : (c :: l).take 2 = [32, 40]
    · have e : StrLaws.replL [32, 40] [40] (c :: l) = [40] ++ StrLaws.replL [32, 40] [40] ((c :: l).drop 2) := StrLaws.replL_hit (by simp) q
      cases l with
      | nil => simp at q
      | cons d l =>
        have q1 : c = 32 := by simp at q; exact q.1
        have q2 : d = 40 := by simp at q; exact q.2
        subst q1 q2
        rw [e]
        show tk w (40 :: StrLaws.replL [32, 40] [40] l) = tk w (32 :: 40 :: l)
        rw [List.length_cons] at h
        rw [tk_par (.inl rfl), tk_tight n l [] (by omega), tk, if_pos (.inl rfl), tk_par (.inl rfl), flu_nil, List.nil_append]
    · rw [StrLaws.replL_miss (show ¬ (c :: l).take ([32, 40] : List Nat).length = [32, 40] from q)]
      rw [tk, tk, tk_tight n l [] (by omega), tk_tight n l (w ++ [c]) (by omega)]
theorem mem_kstrs {S : Sto} (ys : List Str) (x : Str) : memq S (.str x) (.kt (ys.map .str)) = some (decide (x ∈ ys)) := mem_tstrs (S := S) ys x
theorem mem_abc {S : Sto} (c : Nat) : memq S (.str ⟨#[c]⟩) (.str abc) = some (decide (c ∈ abc.cps.toList)) := rfl
def low (x : Str) : Bool := x.cps.toList.all fun c => decide (c ∈ abc.cps.toList)
def isName (x : Str) : Bool := decide (1 ≤ x.length) && decide (x.length ≤ 8) && !decide (x ∈ takenW) && low x
structure TextOk (x : Str) : Prop where
  sk : Sk x
  len : x.length ≤ 20
theorem walk_str {S : Sto} (x : Str) : walkD (.str x) S = some (chars x, .tt) := rfl
theorem len_str {S : Sto} {x : Str} (h : x.length ≤ sizeLine) : lenD [.str x] S = .ok (.int x.length) S := by simp only [lenD, h, ↓reduceIte]
/-- a text gone through for a sign that is no small letter -/
theorem scanW {b : RC} (x : Str) (S : Sto) (hb : ∀ (c : Nat), b [some (.str x), some (.str ⟨#[c]⟩)] S = if c ∈ abc.cps.toList then .fl (.nx [some (.str x), some (.str ⟨#[c]⟩)]) S else .fl (.rt (.bl false)) S) (v : Option Dv) :
    (low x = true ∧ ∃ v', loop Ck.tt.ok (.nm 1) b (chars x) [some (.str x), v] S = .fl (.nx [some (.str x), v']) S) ∨ (low x = false ∧ loop Ck.tt.ok (.nm 1) b (chars x) [some (.str x), v] S = .fl (.rt (.bl false)) S) := by
  have H : ∀ (cs : List Nat) (v : Option Dv), (cs.all (fun c => decide (c ∈ abc.cps.toList)) = true ∧ ∃ v', loop Ck.tt.ok (.nm 1) b (cs.map fun c => .str ⟨#[c]⟩) [some (.str x), v] S = .fl (.nx [some (.str x), v']) S) ∨ (cs.all (fun c => decide (c ∈ abc.cps.toList)) = false ∧ loop Ck.tt.ok (.nm 1) b (cs.map fun c => .str ⟨#[c]⟩) [some (.str x), v] S = .fl (.rt (.bl false)) S) := by
    intro cs
    induction cs with
    | nil => intro v; exact .inl ⟨rfl, v, by rw [List.map_nil, loop, if_pos (show Ck.tt.ok S from trivial)]⟩
    | cons c cs ih =>
      intro v
      have e : loop Ck.tt.ok (.nm 1) b ((c :: cs).map fun c => .str ⟨#[c]⟩) [some (.str x), v] S = match b [some (.str x), some (.str ⟨#[c]⟩)] S with
          | .fl (.nx ρ2) S2 => loop Ck.tt.ok (.nm 1) b (cs.map fun c => .str ⟨#[c]⟩) ρ2 S2
          | .fl (.ct ρ2) S2 => loop Ck.tt.ok (.nm 1) b (cs.map fun c => .str ⟨#[c]⟩) ρ2 S2
          | .fl (.bk ρ2) S2 => .fl (.nx ρ2) S2
          | o => o := by rw [List.map_cons, loop, if_pos (show Ck.tt.ok S from trivial)]; rfl
      rw [e, hb c]
      by_cases hc : c ∈ abc.cps.toList
      · simp only [hc, ↓reduceIte, List.all_cons, decide_true, Bool.true_and]
        exact ih _
      · simp only [hc, ↓reduceIte, List.all_cons, decide_false, Bool.false_and]
        exact .inr ⟨trivial, trivial⟩
  exact H x.cps.toList v
theorem sl20 {n : Nat} (h : n ≤ 20) : n ≤ sizeLine := sline n (by omega)
theorem is_name_run {k : Nat} {S : Sto} {x : Str} (hx : TextOk x) : F (k + 1) .is_name [.str x] S = .ok (.bl (isName x)) S := by
  have hl := len_str (S := S) (sl20 hx.len)
  have eT : k_TAKEN = .kt (takenW.map .str) := rfl
  have hm : memq S (.str x) k_TAKEN = some (decide (x ∈ takenW)) := by rw [eT]; exact mem_kstrs _ _
  rw [F_is_name]
  refine runF_rt (ρ := [some (.str x), none]) rfl rfl ?_
  unfold c_is_name
  by_cases h1 : (1 : Int) ≤ x.length
  · by_cases h8 : (x.length : Int) ≤ 8
    · by_cases ht : x ∈ takenW
      · refine (seq_rt ((if_t (S' := S) ?_).trans (ret_of rfl))).trans ?_
        · simp only [ev_var, ev_con, ev_bin, ev_un, ev_anil, ev_acons, ev_call, ev_tup, ev_lst, ev_not, ev_and, ev_or, ev_if, ev_cbl, ev_btrue, ev_cand, ev_cor, ev_cnot, ev_sli, ev_onone, ev_osome, ev_chain, ev_meth, ev_get2, ev_newK, ev_newT, ev_own, ev_nil, ev_seq, ev_expr, ev_set, ev_ret, ev_retN, ev_cif, ev_brk, ev_ct, ev_asg, ev_put, ev_aug, ev_for, ev_comp, ev_newL, ev_iseq, ev_irange, ev_ienum, ev_yes, Out.bind_ok, Out.bindN_ok, bindS_ok, Tg.set, Tg.sets, List.getElem?_cons_zero, List.getElem?_cons_succ, List.set_cons_zero, List.set_cons_succ, wipeE, List.length_cons, List.length_nil, Nat.reduceAdd, Nat.reduceLeDiff, Nat.reduceEqDiff, ↓reduceIte, Bool.false_eq_true, decide_eq_true_eq, add_int, sub_int, lt_int, gt_int, le_int, ge_int, neg_int, and_int, or_int, xor_int, max2_int, min2_int, mod_pos, fdiv_sm, mul_sm, mul_smr, Int.reduceLT, Int.reduceNeg, int_bl, int_int, sli_tup, hl, k_LONGEST, h1, h8, decide_true, Bool.not_true, inD, hm, ht]
        · simp [isName, ht]
      · refine (seq_of ((if_f (S' := S) ?_).trans rfl)).trans ?_
        · simp only [ev_var, ev_con, ev_bin, ev_un, ev_anil, ev_acons, ev_call, ev_tup, ev_lst, ev_not, ev_and, ev_or, ev_if, ev_cbl, ev_btrue, ev_cand, ev_cor, ev_cnot, ev_sli, ev_onone, ev_osome, ev_chain, ev_meth, ev_get2, ev_newK, ev_newT, ev_own, ev_nil, ev_seq, ev_expr, ev_set, ev_ret, ev_retN, ev_cif, ev_brk, ev_ct, ev_asg, ev_put, ev_aug, ev_for, ev_comp, ev_newL, ev_iseq, ev_irange, ev_ienum, ev_yes, Out.bind_ok, Out.bindN_ok, bindS_ok, Tg.set, Tg.sets, List.getElem?_cons_zero, List.getElem?_cons_succ, List.set_cons_zero, List.set_cons_succ, wipeE, List.length_cons, List.length_nil, Nat.reduceAdd, Nat.reduceLeDiff, Nat.reduceEqDiff, ↓reduceIte, Bool.false_eq_true, decide_eq_true_eq, add_int, sub_int, lt_int, gt_int, le_int, ge_int, neg_int, and_int, or_int, xor_int, max2_int, min2_int, mod_pos, fdiv_sm, mul_sm, mul_smr, Int.reduceLT, Int.reduceNeg, int_bl, int_int, sli_tup, hl, k_LONGEST, h1, h8, decide_true, Bool.not_true, inD, hm, ht, decide_false]
        · have e1 : isName x = low x := by
            have a1 : 1 ≤ x.length := by omega
            have a2 : x.length ≤ 8 := by omega
            simp [isName, ht, a1, a2]
          rw [e1]
          have hb : ∀ (c : Nat), b_is_name_1 (F k) [some (.str x), some (.str ⟨#[c]⟩)] S = if c ∈ abc.cps.toList then .fl (.nx [some (.str x), some (.str ⟨#[c]⟩)]) S else .fl (.rt (.bl false)) S := fun c => by
            have hm2 : memq S (.str ⟨#[c]⟩) k_LETTERS = some (decide (c ∈ abc.cps.toList)) := mem_abc c
            by_cases hc : c ∈ abc.cps.toList
            · simp only [b_is_name_1, ev_var, ev_con, ev_bin, ev_un, ev_anil, ev_acons, ev_call, ev_tup, ev_lst, ev_not, ev_and, ev_or, ev_if, ev_cbl, ev_btrue, ev_cand, ev_cor, ev_cnot, ev_sli, ev_onone, ev_osome, ev_chain, ev_meth, ev_get2, ev_newK, ev_newT, ev_own, ev_nil, ev_seq, ev_expr, ev_set, ev_ret, ev_retN, ev_cif, ev_brk, ev_ct, ev_asg, ev_put, ev_aug, ev_for, ev_comp, ev_newL, ev_iseq, ev_irange, ev_ienum, ev_yes, Out.bind_ok, Out.bindN_ok, bindS_ok, Tg.set, Tg.sets, List.getElem?_cons_zero, List.getElem?_cons_succ, List.set_cons_zero, List.set_cons_succ, wipeE, List.length_cons, List.length_nil, Nat.reduceAdd, Nat.reduceLeDiff, Nat.reduceEqDiff, ↓reduceIte, Bool.false_eq_true, decide_eq_true_eq, add_int, sub_int, lt_int, gt_int, le_int, ge_int, neg_int, and_int, or_int, xor_int, max2_int, min2_int, mod_pos, fdiv_sm, mul_sm, mul_smr, Int.reduceLT, Int.reduceNeg, int_bl, int_int, sli_tup, ninD, hm2, hc, decide_true, Bool.not_true]
            · simp only [b_is_name_1, ev_var, ev_con, ev_bin, ev_un, ev_anil, ev_acons, ev_call, ev_tup, ev_lst, ev_not, ev_and, ev_or, ev_if, ev_cbl, ev_btrue, ev_cand, ev_cor, ev_cnot, ev_sli, ev_onone, ev_osome, ev_chain, ev_meth, ev_get2, ev_newK, ev_newT, ev_own, ev_nil, ev_seq, ev_expr, ev_set, ev_ret, ev_retN, ev_cif, ev_brk, ev_ct, ev_asg, ev_put, ev_aug, ev_for, ev_comp, ev_newL, ev_iseq, ev_irange, ev_ienum, ev_yes, Out.bind_ok, Out.bindN_ok, bindS_ok, Tg.set, Tg.sets, List.getElem?_cons_zero, List.getElem?_cons_succ, List.set_cons_zero, List.set_cons_succ, wipeE, List.length_cons, List.length_nil, Nat.reduceAdd, Nat.reduceLeDiff, Nat.reduceEqDiff, ↓reduceIte, Bool.false_eq_true, decide_eq_true_eq, add_int, sub_int, lt_int, gt_int, le_int, ge_int, neg_int, and_int, or_int, xor_int, max2_int, min2_int, mod_pos, fdiv_sm, mul_sm, mul_smr, Int.reduceLT, Int.reduceNeg, int_bl, int_int, sli_tup, ninD, hm2, hc, decide_false, Bool.not_false]
          rcases scanW x S hb none with ⟨q, v', e⟩ | ⟨q, e⟩
          · rw [q]
            exact (seq_of ((for_of (by simp only [ev_var, ev_con, ev_bin, ev_un, ev_anil, ev_acons, ev_call, ev_tup, ev_lst, ev_not, ev_and, ev_or, ev_if, ev_cbl, ev_btrue, ev_cand, ev_cor, ev_cnot, ev_sli, ev_onone, ev_osome, ev_chain, ev_meth, ev_get2, ev_newK, ev_newT, ev_own, ev_nil, ev_seq, ev_expr, ev_set, ev_ret, ev_retN, ev_cif, ev_brk, ev_ct, ev_asg, ev_put, ev_aug, ev_for, ev_comp, ev_newL, ev_iseq, ev_irange, ev_ienum, ev_yes, Out.bind_ok, Out.bindN_ok, bindS_ok, Tg.set, Tg.sets, List.getElem?_cons_zero, List.getElem?_cons_succ, List.set_cons_zero, List.set_cons_succ, wipeE, List.length_cons, List.length_nil, Nat.reduceAdd, Nat.reduceLeDiff, Nat.reduceEqDiff, ↓reduceIte, Bool.false_eq_true, decide_eq_true_eq, add_int, sub_int, lt_int, gt_int, le_int, ge_int, neg_int, and_int, or_int, xor_int, max2_int, min2_int, mod_pos, fdiv_sm, mul_sm, mul_smr, Int.reduceLT, Int.reduceNeg, int_bl, int_int, sli_tup, walk_str]; rfl)).trans e)).trans (ret_of rfl)
          · rw [q]
            exact (seq_rt ((for_of (by simp only [ev_var, ev_con, ev_bin, ev_un, ev_anil, ev_acons, ev_call, ev_tup, ev_lst, ev_not, ev_and, ev_or, ev_if, ev_cbl, ev_btrue, ev_cand, ev_cor, ev_cnot, ev_sli, ev_onone, ev_osome, ev_chain, ev_meth, ev_get2, ev_newK, ev_newT, ev_own, ev_nil, ev_seq, ev_expr, ev_set, ev_ret, ev_retN, ev_cif, ev_brk, ev_ct, ev_asg, ev_put, ev_aug, ev_for, ev_comp, ev_newL, ev_iseq, ev_irange, ev_ienum, ev_yes, Out.bind_ok, Out.bindN_ok, bindS_ok, Tg.set, Tg.sets, List.getElem?_cons_zero, List.getElem?_cons_succ, List.set_cons_zero, List.set_cons_succ, wipeE, List.length_cons, List.length_nil, Nat.reduceAdd, Nat.reduceLeDiff, Nat.reduceEqDiff, ↓reduceIte, Bool.false_eq_true, decide_eq_true_eq, add_int, sub_int, lt_int, gt_int, le_int, ge_int, neg_int, and_int, or_int, xor_int, max2_int, min2_int, mod_pos, fdiv_sm, mul_sm, mul_smr, Int.reduceLT, Int.reduceNeg, int_bl, int_int, sli_tup, walk_str]; rfl)).trans e))
    · refine (seq_rt ((if_t (S' := S) ?_).trans (ret_of rfl))).trans ?_
      · simp only [ev_var, ev_con, ev_bin, ev_un, ev_anil, ev_acons, ev_call, ev_tup, ev_lst, ev_not, ev_and, ev_or, ev_if, ev_cbl, ev_btrue, ev_cand, ev_cor, ev_cnot, ev_sli, ev_onone, ev_osome, ev_chain, ev_meth, ev_get2, ev_newK, ev_newT, ev_own, ev_nil, ev_seq, ev_expr, ev_set, ev_ret, ev_retN, ev_cif, ev_brk, ev_ct, ev_asg, ev_put, ev_aug, ev_for, ev_comp, ev_newL, ev_iseq, ev_irange, ev_ienum, ev_yes, Out.bind_ok, Out.bindN_ok, bindS_ok, Tg.set, Tg.sets, List.getElem?_cons_zero, List.getElem?_cons_succ, List.set_cons_zero, List.set_cons_succ, wipeE, List.length_cons, List.length_nil, Nat.reduceAdd, Nat.reduceLeDiff, Nat.reduceEqDiff, ↓reduceIte, Bool.false_eq_true, decide_eq_true_eq, add_int, sub_int, lt_int, gt_int, le_int, ge_int, neg_int, and_int, or_int, xor_int, max2_int, min2_int, mod_pos, fdiv_sm, mul_sm, mul_smr, Int.reduceLT, Int.reduceNeg, int_bl, int_int, sli_tup, hl, k_LONGEST, h1, h8, decide_true, decide_false, Bool.not_false]
      · have a2 : ¬ x.length ≤ 8 := by omega
        simp [isName, a2]
  · refine (seq_rt ((if_t (S' := S) ?_).trans (ret_of rfl))).trans ?_
    · simp only [ev_var, ev_con, ev_bin, ev_un, ev_anil, ev_acons, ev_call, ev_tup, ev_lst, ev_not, ev_and, ev_or, ev_if, ev_cbl, ev_btrue, ev_cand, ev_cor, ev_cnot, ev_sli, ev_onone, ev_osome, ev_chain, ev_meth, ev_get2, ev_newK, ev_newT, ev_own, ev_nil, ev_seq, ev_expr, ev_set, ev_ret, ev_retN, ev_cif, ev_brk, ev_ct, ev_asg, ev_put, ev_aug, ev_for, ev_comp, ev_newL, ev_iseq, ev_irange, ev_ienum, ev_yes, Out.bind_ok, Out.bindN_ok, bindS_ok, Tg.set, Tg.sets, List.getElem?_cons_zero, List.getElem?_cons_succ, List.set_cons_zero, List.set_cons_succ, wipeE, List.length_cons, List.length_nil, Nat.reduceAdd, Nat.reduceLeDiff, Nat.reduceEqDiff, ↓reduceIte, Bool.false_eq_true, decide_eq_true_eq, add_int, sub_int, lt_int, gt_int, le_int, ge_int, neg_int, and_int, or_int, xor_int, max2_int, min2_int, mod_pos, fdiv_sm, mul_sm, mul_smr, Int.reduceLT, Int.reduceNeg, int_bl, int_int, sli_tup, hl, k_LONGEST, h1, decide_true, decide_false, Bool.not_false]
    · have a2 : ¬ 1 ≤ x.length := by omega
      simp [isName]; omega
/-! outcomes that end a body: a return or a raise -/
inductive Stops : OutS → Out Dv → Prop
  | rt {d S} : Stops (.fl (.rt d) S) (.ok d S)
  | ex {x ρ S} : Stops (.ex x ρ S) (.ex x S)
section
variable {a b c : RC} {ρ ρ1 ρ2 : PL.Env} {S S' S2 : Sto} {r : Out Dv} {ck : Sto → Prop} [∀ S, Decidable (ck S)] {t : Tg} {d : Dv} {ds : List Dv}
theorem Stops.run {m n : Nat} (h : Stops (c ρ S) r) (hρ : ds.map some ++ List.replicate (m - n) none = ρ) (hn : ds.length = n) : runF c m n ds S = r := by
  unfold runF
  rw [if_pos hn, hρ]
  generalize c ρ S = o at h
  cases h <;> rfl
theorem Stops.seq (h : Stops (a ρ S) r) : Stops (cSeq a b ρ S) r := by
  unfold cSeq
  generalize a ρ S = o at h
  cases h
  · exact .rt
  · exact .ex
theorem Stops.forr {r0 : RI} {w : List Dv × Ck} (h : Stops (loop w.2.ok t b w.1 ρ S') r) (h0 : r0 ρ S = .ok w S') : Stops (cFor r0 t b ρ S) r := by rw [for_of h0]; exact h
theorem stops_expr {e : RE} {x : Ex} (h : e ρ S = .ex x S') : Stops (cExpr e ρ S) (.ex x S') := by
  unfold cExpr
  rw [h]
  exact .ex
theorem stops_ret {e : RE} (h : e ρ S = .ok d S') : Stops (cRet e ρ S) (.ok d S') := by rw [ret_of h]; exact .rt
theorem Stops.loop (h : Stops (b ρ1 S) r) (hc : ck S) (h1 : t.set d ρ = some ρ1) : Stops (PL.loop ck t b (d :: ds) ρ S) r := by
  rw [PL.loop, if_pos hc, h1]
  dsimp only
  generalize b ρ1 S = o at h
  cases h
  · exact .rt
  · exact .ex
theorem loop_nx (h : b ρ1 S = .fl (.nx ρ2) S2) (hc : ck S) (h1 : t.set d ρ = some ρ1) : PL.loop ck t b (d :: ds) ρ S = PL.loop ck t b ds ρ2 S2 := by
  rw [PL.loop, if_pos hc, h1]
  simp only [h]
theorem loop_rt {e : Dv} (h : b ρ1 S = .fl (.rt e) S2) (hc : ck S) (h1 : t.set d ρ = some ρ1) : PL.loop ck t b (d :: ds) ρ S = .fl (.rt e) S2 := by
  rw [PL.loop, if_pos hc, h1]
  simp only [h]
theorem loop_nil (hc : ck S) : PL.loop ck t b [] ρ S = .fl (.nx ρ) S := by rw [PL.loop, if_pos hc]
theorem raise1_of {C f : Str} {e : RA} (h : e ρ S = .ok [d] S') : cRaise1 C f e ρ S = .ex ⟨C, some (f, d)⟩ ρ S' := by simp only [cRaise1, h, bindS_ok]
theorem raise0_of {C : Str} : cRaise0 C ρ S = .ex ⟨C, none⟩ ρ S := rfl
end
/-- a comprehension that changes nothing -/
theorem comp_pure {α : Type} {ck : Sto → Prop} [∀ S, Decidable (ck S)] {t : Tg} {y : RE} {ρ : PL.Env} {S : Sto} {f g : α → Dv} (as : List α) (h : ∀ a ∈ as, ∃ ρ1, t.set (f a) ρ = some ρ1 ∧ y ρ1 S = .ok (g a) S) (hc : ck S) (hl : as.length ≤ 16000000) : compL ck t cYes y ρ (as.map f) [] S = .ok (as.map g) S := by
  obtain ⟨acc, S', e, rfl, rfl⟩ := comp_gen (ck := ck) (t := t) (c := cYes) (y := y) (acc := []) (S := S) (fun i acc S' => S' = S ∧ acc = (as.map g).take i) (as.map f) ρ
    (fun i d acc S' hd ⟨hS, ha⟩ => by
      subst hS ha
      rw [List.getElem?_map, Option.map_eq_some_iff] at hd
      obtain ⟨a, ha, rfl⟩ := hd
      obtain ⟨ρ1, h1, h2⟩ := h a (List.mem_of_getElem? ha)
      have hi := (List.getElem?_eq_some_iff.mp ha).1
      refine ⟨hc, ρ1, h1, true, S', rfl, fun _ => ⟨_, S', h2, by rw [List.length_take, List.length_map]; show _ < 2 ^ 24; omega, rfl, ?_⟩, fun z => nomatch z⟩
      rw [List.take_add_one, List.getElem?_map, ha]; rfl)
    (fun acc S' ⟨hS, _⟩ => by subst hS; exact hc) ⟨rfl, rfl⟩
  rw [List.take_of_length_le (by rw [List.length_map, List.length_map]; exact Nat.le_refl _)] at e
  exact e
/-- a comprehension with a test that changes nothing -/
theorem comp_filt {α : Type} {ck : Sto → Prop} [∀ S, Decidable (ck S)] {t : Tg} {c : RT} {y : RE} {ρ : PL.Env} {S : Sto} {f g : α → Dv} {p : α → Bool} (as : List α) (h : ∀ a ∈ as, ∃ ρ1, t.set (f a) ρ = some ρ1 ∧ c ρ1 S = .ok (p a) S ∧ y ρ1 S = .ok (g a) S) (hc : ck S) (hl : as.length ≤ 16000000) : compL ck t c y ρ (as.map f) [] S = .ok ((as.filter p).map g) S := by
  obtain ⟨acc, S', e, rfl, rfl⟩ := comp_gen (ck := ck) (t := t) (c := c) (y := y) (acc := []) (S := S) (fun i acc S' => S' = S ∧ acc = ((as.take i).filter p).map g) (as.map f) ρ
    (fun i d acc S' hd ⟨hS, ha⟩ => by
      subst hS ha
      rw [List.getElem?_map, Option.map_eq_some_iff] at hd
      obtain ⟨a, ha, rfl⟩ := hd
      obtain ⟨ρ1, h1, h2, h3⟩ := h a (List.mem_of_getElem? ha)
      have hi := (List.getElem?_eq_some_iff.mp ha).1
      have tk : as.take (i + 1) = as.take i ++ [a] := by rw [List.take_add_one, ha]; rfl
      have ln := List.length_filter_le p (as.take i)
      rw [List.length_take] at ln
      refine ⟨hc, ρ1, h1, p a, S', h2, fun hp => ⟨_, S', h3, by rw [List.length_map]; show _ < 2 ^ 24; omega, rfl, ?_⟩, fun hp => ⟨rfl, ?_⟩⟩
      · rw [tk, List.filter_append, List.map_append, List.filter_cons, if_pos hp]; rfl
      · rw [tk, List.filter_append, List.filter_cons, if_neg (by rw [hp]; exact Bool.false_ne_true), List.filter_nil, List.append_nil])
    (fun acc S' ⟨hS, _⟩ => by subst hS; exact hc) ⟨rfl, by rw [List.take_zero]; rfl⟩
  rw [List.take_of_length_le (by rw [List.length_map]; exact Nat.le_refl _)] at e
  exact e
theorem shp_strs : ∀ ys : List Str, (∀ y ∈ ys, Sk y) → SeqAt.shaped (.list (ys.map .str)) = true := fun ys h => by
  have H : ∀ ys : List Str, (∀ y ∈ ys, Sk y) → PyData.canLayAll0 (ys.map .str) = true ∧ PyData.depthAll (ys.map .str) = 0 := by
    intro ys
    induction ys with
    | nil => intro _; exact ⟨rfl, rfl⟩
    | cons y ys ih =>
      intro h
      obtain ⟨h1, h2⟩ := ih fun z hz => h z (by simp [hz])
      rw [List.map_cons, PyData.canLayAll0, PyData.depthAll, h1, h2, PyData.canLay0, PyData.depth]
      exact ⟨by rw [show PyData.strOk y = true from h y (by simp)]; rfl, rfl⟩
  obtain ⟨h1, h2⟩ := H ys h
  unfold SeqAt.shaped
  rw [PyData.canLay0, PyData.depth, h1, h2]; rfl
theorem in_ref {S : Sto} {l : Nat} {ys : List Str} {x : Str} (h : S[l]? = some (.lst (ys.map .str))) (hs : ∀ y ∈ ys, Sk y) (hx : Sk x) : inD (.str x) (.ref l) S = .ok (.bl (decide (x ∈ ys))) S := by simp only [inD, mem_strs h (shp_strs ys hs) hx]
theorem nin_ref {S : Sto} {l : Nat} {ys : List Str} {x : Str} (h : S[l]? = some (.lst (ys.map .str))) (hs : ∀ y ∈ ys, Sk y) (hx : Sk x) : ninD (.str x) (.ref l) S = .ok (.bl (!decide (x ∈ ys))) S := by simp only [ninD, mem_strs h (shp_strs ys hs) hx]
theorem cut_sk {x : Str} {lo hi : Option Int} (h : Sk x) : Sk (L2.cutS x lo hi) := by
  have hx : ∀ c ∈ x.cps.toList, c < 1114112 := fun c hc => by
    have h' : x.cps.all (fun c => decide (c < 1114112)) = true := h
    rw [← Array.all_toList, List.all_eq_true] at h'
    exact of_decide_eq_true (h' c hc)
  refine sk_of fun c hc => hx c ?_
  have : c ∈ (List.take _ (List.drop _ x.cps.toList)).toArray.toList := hc
  rw [List.toList_toArray] at this
  exact List.mem_of_mem_drop (List.mem_of_mem_take this)
theorem cut_len (x : Str) (lo hi : Option Int) : (L2.cutS x lo hi).length ≤ x.length := by
  have e : (L2.cutS x lo hi).length = (L2.cutS x lo hi).cps.toList.length := by rw [strlen_toList]
  rw [e, ← strlen_toList x]
  show ((List.take _ (List.drop _ x.cps.toList)).toArray.toList).length ≤ _
  rw [List.toList_toArray, List.length_take, List.length_drop]
  omega
theorem cut_to {α : Type} (ds : List α) (t : Nat) : cutD ds none (some (t : Int)) = ds.take t := by
  unfold cutD HT.sIx
  simp only [show ¬ ((t : Int) < 0) by omega, ↓reduceIte, Int.toNat_natCast, List.drop_zero, Nat.sub_zero]
  rcases Nat.le_total t ds.length with h | h
  · rw [Nat.min_eq_left h]
  · rw [Nat.min_eq_right h, List.take_length, List.take_of_length_le h]
theorem cut_from {α : Type} (ds : List α) (t : Nat) : cutD ds (some (t : Int)) none = ds.drop t := by
  unfold cutD HT.sIx
  simp only [show ¬ ((t : Int) < 0) by omega, ↓reduceIte, Int.toNat_natCast]
  rcases Nat.le_total t ds.length with h | h
  · rw [Nat.min_eq_left h, List.take_of_length_le (by simp)]
  · rw [Nat.min_eq_right h, List.drop_of_length_le (Nat.le_refl _), List.drop_of_length_le h]; simp
theorem add_tup {S : Sto} {a b : List Dv} (h : a.length + b.length ≤ sizeLine) : addD (.tup a) (.tup b) S = .ok (.tup (a ++ b)) S := by simp only [addD, h, ↓reduceIte]
/-! the words of a text -/
theorem need_run {k : Nat} {S : Sto} : F (k + 1) .need [.bl true] S = .ok .non S := by
  rw [F_need]
  refine runF_nx (ρ := [some (.bl true)]) (ρ' := [some (.bl true)]) rfl rfl ?_
  unfold c_need
  exact (if_f (S' := S) (by simp only [ev_var, ev_con, ev_bin, ev_un, ev_anil, ev_acons, ev_call, ev_tup, ev_lst, ev_not, ev_and, ev_or, ev_if, ev_cbl, ev_btrue, ev_cand, ev_cor, ev_cnot, ev_sli, ev_onone, ev_osome, ev_chain, ev_meth, ev_get2, ev_newK, ev_newT, ev_own, ev_nil, ev_seq, ev_expr, ev_set, ev_ret, ev_retN, ev_cif, ev_brk, ev_ct, ev_asg, ev_put, ev_aug, ev_for, ev_comp, ev_newL, ev_iseq, ev_irange, ev_ienum, ev_yes, Out.bind_ok, Out.bindN_ok, bindS_ok, Tg.set, Tg.sets, List.getElem?_cons_zero, List.getElem?_cons_succ, List.set_cons_zero, List.set_cons_succ, wipeE, List.length_cons, List.length_nil, Nat.reduceAdd, Nat.reduceLeDiff, Nat.reduceEqDiff, ↓reduceIte, Bool.false_eq_true, decide_eq_true_eq, add_int, sub_int, lt_int, gt_int, le_int, ge_int, neg_int, and_int, or_int, xor_int, max2_int, min2_int, mod_pos, fdiv_sm, mul_sm, mul_smr, Int.reduceLT, Int.reduceNeg, int_bl, int_int, sli_tup, Bool.not_true])).trans rfl
theorem sk_lt {x : Str} (h : Sk x) : ∀ c ∈ cs x, c < 1114112 := fun c hc => by
  have h' : x.cps.all (fun c => decide (c < 1114112)) = true := h
  rw [← Array.all_toList, List.all_eq_true] at h'
  exact of_decide_eq_true (h' c hc)
theorem cs_len (x : Str) : (cs x).length = x.length := strlen_toList x
theorem words_run {k : Nat} {x : Str} {S : Sto} (hx : Sk x) (hl : x.length ≤ 400000) : ∃ (l : Nat) (ys : List Str) (S' : Sto), F (k + 2) .words_of [.str x] S = .ok (.ref l) S' ∧ Gr S S' ∧ S.length ≤ l ∧ S'[l]? = some (.lst (ys.map .str)) ∧ ys.map cs = tk [] (cs x) ∧ ∀ y ∈ ys, Sk y := by
  rw [F_words_of]
  have l1 : (" " : Str).length = 1 := by decide
  have l2 : (" ( " : Str).length = 3 := by decide
  have l3 : (" ) " : Str).length = 3 := by decide
  have b1 := TK.replace_len x "\n" " "
  rw [l1] at b1
  have b2 := TK.replace_len (Txt.replace x "\n" " ") "(" " ( "
  rw [l2] at b2
  have b3 := TK.replace_len (Txt.replace (Txt.replace x "\n" " ") "(" " ( ") ")" " ) "
  rw [l3] at b3
  have r1 : ∀ S : Sto, replD "\n" " " (.str x) S = .ok (.str (Txt.replace x "\n" " ")) S := fun S => by simp only [replD]; rw [if_pos (by rw [l1]; omega)]
  have r2 : ∀ S : Sto, replD "(" " ( " (.str (Txt.replace x "\n" " ")) S = .ok (.str (Txt.replace (Txt.replace x "\n" " ") "(" " ( ")) S := fun S => by simp only [replD]; rw [if_pos (by rw [l2]; omega)]
  have r3 : ∀ S : Sto, replD ")" " ) " (.str (Txt.replace (Txt.replace x "\n" " ") "(" " ( ")) S = .ok (.str (Txt.replace (Txt.replace (Txt.replace x "\n" " ") "(" " ( ") ")" " ) ")) S := fun S => by simp only [replD]; rw [if_pos (by rw [l3]; omega)]
  have ec : cs (Txt.replace (Txt.replace (Txt.replace x "\n" " ") "(" " ( ") ")" " ) ") = (cs x).flatMap gw := by
    rw [← repl3]
    show (Txt.replace _ _ _).cps.toList = _
    rw [StrLaws.replace_list (by decide), StrLaws.replace_list (by decide), StrLaws.replace_list (by decide)]
    rfl
  generalize Txt.replace (Txt.replace (Txt.replace x "\n" " ") "(" " ( ") ")" " ) " = x3 at b3 r3 ec
  have sk3 : ∀ c ∈ cs x3, c < 1114112 := fun c hc => by
    rw [ec, List.mem_flatMap] at hc
    obtain ⟨d, hd, hc⟩ := hc
    have hd := sk_lt hx d hd
    unfold gw at hc
    split at hc
    · simp at hc; omega
    · split at hc
      · simp at hc; omega
      · split at hc
        · simp at hc; omega
        · simp at hc; omega
  have sp : ∀ S : Sto, splitD (.str x3) [.str " "] S = newL ((Txt.split x3 " ").map .str) S := fun S => by
    simp only [splitD]
    rw [if_pos ⟨by decide, by show _ ≤ 2 ^ 24; omega⟩]
  have es := TL.split_spl x3 " " (by decide) (by
    have : Builtin.Str.strKind " " = 1 := by decide +kernel
    rw [this]
    unfold Builtin.Str.strKind
    split
    · omega
    · split <;> omega)
  have es' : (Txt.split x3 " ").map cs = TL.spl [32] 0 [] (cs x3) := es
  have skp : ∀ y ∈ Txt.split x3 " ", Sk y := fun y hy => sk_of fun c hc => by
    have hm : cs y ∈ (Txt.split x3 " ").map cs := List.mem_map_of_mem hy
    rw [es'] at hm
    rcases spl_mem _ _ _ hm c hc with z | z
    · cases z
    · exact sk3 c z
  have g1 := gr_app S [Ob.lst ((Txt.split x3 " ").map .str)]
  have a1 := at_new S (.lst ((Txt.split x3 " ").map .str))
  have ln := PyProof.Rows.split_le x3 " "
  have cf := comp_filt (ck := (Ck.ls S.length ((Txt.split x3 " ").map .str)).ok) (t := .nm 2) (c := q_words_of_1 (F (k + 1))) (y := y_words_of_1 (F (k + 1))) (ρ := [some (.str x), some (.str x3), none]) (S := S ++ [Ob.lst ((Txt.split x3 " ").map .str)]) (f := Dv.str) (g := Dv.str) (p := fun y : Str => !decide (y = "")) (Txt.split x3 " ") (fun y hy => ⟨_, rfl, by
    unfold q_words_of_1
    simp only [ev_var, ev_con, ev_bin, ev_un, ev_anil, ev_acons, ev_call, ev_tup, ev_lst, ev_not, ev_and, ev_or, ev_if, ev_cbl, ev_btrue, ev_cand, ev_cor, ev_cnot, ev_sli, ev_onone, ev_osome, ev_chain, ev_meth, ev_get2, ev_newK, ev_newT, ev_own, ev_nil, ev_seq, ev_expr, ev_set, ev_ret, ev_retN, ev_cif, ev_brk, ev_ct, ev_asg, ev_put, ev_aug, ev_for, ev_comp, ev_newL, ev_iseq, ev_irange, ev_ienum, ev_yes, Out.bind_ok, Out.bindN_ok, bindS_ok, Tg.set, Tg.sets, List.getElem?_cons_zero, List.getElem?_cons_succ, List.set_cons_zero, List.set_cons_succ, wipeE, List.length_cons, List.length_nil, Nat.reduceAdd, Nat.reduceLeDiff, Nat.reduceEqDiff, ↓reduceIte, Bool.false_eq_true, decide_eq_true_eq, add_int, sub_int, lt_int, gt_int, le_int, ge_int, neg_int, and_int, or_int, xor_int, max2_int, min2_int, mod_pos, fdiv_sm, mul_sm, mul_smr, Int.reduceLT, Int.reduceNeg, int_bl, int_int, sli_tup, ne_str (skp y hy) (show Sk "" by decide +kernel)], by unfold y_words_of_1; simp only [ev_var, ev_con, ev_bin, ev_un, ev_anil, ev_acons, ev_call, ev_tup, ev_lst, ev_not, ev_and, ev_or, ev_if, ev_cbl, ev_btrue, ev_cand, ev_cor, ev_cnot, ev_sli, ev_onone, ev_osome, ev_chain, ev_meth, ev_get2, ev_newK, ev_newT, ev_own, ev_nil, ev_seq, ev_expr, ev_set, ev_ret, ev_retN, ev_cif, ev_brk, ev_ct, ev_asg, ev_put, ev_aug, ev_for, ev_comp, ev_newL, ev_iseq, ev_irange, ev_ienum, ev_yes, Out.bind_ok, Out.bindN_ok, bindS_ok, Tg.set, Tg.sets, List.getElem?_cons_zero, List.getElem?_cons_succ, List.set_cons_zero, List.set_cons_succ, wipeE, List.length_cons, List.length_nil, Nat.reduceAdd, Nat.reduceLeDiff, Nat.reduceEqDiff, ↓reduceIte, Bool.false_eq_true, decide_eq_true_eq, add_int, sub_int, lt_int, gt_int, le_int, ge_int, neg_int, and_int, or_int, xor_int, max2_int, min2_int, mod_pos, fdiv_sm, mul_sm, mul_smr, Int.reduceLT, Int.reduceNeg, int_bl, int_int, sli_tup]⟩) a1 (by omega)
  generalize hS1 : S ++ [Ob.lst ((Txt.split x3 " ").map .str)] = S1 at g1 a1 cf
  refine ⟨S1.length, (Txt.split x3 " ").filter (fun y : Str => !decide (y = "")), S1 ++ [Ob.lst (((Txt.split x3 " ").filter (fun y : Str => !decide (y = ""))).map .str)], runF_rt (ρ := [some (.str x), none, none]) rfl rfl ?_, g1.trans (gr_app _ _), g1.le, at_new _ _, ?_, fun y hy => skp y (List.mem_filter.mp hy).1⟩
  · unfold c_words_of
    refine (seq_of (expr_of (d := .non) (S' := S) ?_)).trans ?_
    · have : isiD "str" (.str x) S = .ok (.bl true) S := rfl
      simp only [ev_var, ev_con, ev_bin, ev_un, ev_anil, ev_acons, ev_call, ev_tup, ev_lst, ev_not, ev_and, ev_or, ev_if, ev_cbl, ev_btrue, ev_cand, ev_cor, ev_cnot, ev_sli, ev_onone, ev_osome, ev_chain, ev_meth, ev_get2, ev_newK, ev_newT, ev_own, ev_nil, ev_seq, ev_expr, ev_set, ev_ret, ev_retN, ev_cif, ev_brk, ev_ct, ev_asg, ev_put, ev_aug, ev_for, ev_comp, ev_newL, ev_iseq, ev_irange, ev_ienum, ev_yes, Out.bind_ok, Out.bindN_ok, bindS_ok, Tg.set, Tg.sets, List.getElem?_cons_zero, List.getElem?_cons_succ, List.set_cons_zero, List.set_cons_succ, wipeE, List.length_cons, List.length_nil, Nat.reduceAdd, Nat.reduceLeDiff, Nat.reduceEqDiff, ↓reduceIte, Bool.false_eq_true, decide_eq_true_eq, add_int, sub_int, lt_int, gt_int, le_int, ge_int, neg_int, and_int, or_int, xor_int, max2_int, min2_int, mod_pos, fdiv_sm, mul_sm, mul_smr, Int.reduceLT, Int.reduceNeg, int_bl, int_int, sli_tup, this, need_run]
    refine (seq_of (set_of (d := .str x3) (S' := S) (by simp only [ev_var, ev_con, ev_bin, ev_un, ev_anil, ev_acons, ev_call, ev_tup, ev_lst, ev_not, ev_and, ev_or, ev_if, ev_cbl, ev_btrue, ev_cand, ev_cor, ev_cnot, ev_sli, ev_onone, ev_osome, ev_chain, ev_meth, ev_get2, ev_newK, ev_newT, ev_own, ev_nil, ev_seq, ev_expr, ev_set, ev_ret, ev_retN, ev_cif, ev_brk, ev_ct, ev_asg, ev_put, ev_aug, ev_for, ev_comp, ev_newL, ev_iseq, ev_irange, ev_ienum, ev_yes, Out.bind_ok, Out.bindN_ok, bindS_ok, Tg.set, Tg.sets, List.getElem?_cons_zero, List.getElem?_cons_succ, List.set_cons_zero, List.set_cons_succ, wipeE, List.length_cons, List.length_nil, Nat.reduceAdd, Nat.reduceLeDiff, Nat.reduceEqDiff, ↓reduceIte, Bool.false_eq_true, decide_eq_true_eq, add_int, sub_int, lt_int, gt_int, le_int, ge_int, neg_int, and_int, or_int, xor_int, max2_int, min2_int, mod_pos, fdiv_sm, mul_sm, mul_smr, Int.reduceLT, Int.reduceNeg, int_bl, int_int, sli_tup, r1, r2, r3]))).trans (ret_of ?_)
    have tq : tyQ "str" (.str x3) S = true := rfl
    simp only [ev_var, ev_con, ev_bin, ev_un, ev_anil, ev_acons, ev_call, ev_tup, ev_lst, ev_not, ev_and, ev_or, ev_if, ev_cbl, ev_btrue, ev_cand, ev_cor, ev_cnot, ev_sli, ev_onone, ev_osome, ev_chain, ev_meth, ev_get2, ev_newK, ev_newT, ev_own, ev_nil, ev_seq, ev_expr, ev_set, ev_ret, ev_retN, ev_cif, ev_brk, ev_ct, ev_asg, ev_put, ev_aug, ev_for, ev_comp, ev_newL, ev_iseq, ev_irange, ev_ienum, ev_yes, Out.bind_ok, Out.bindN_ok, bindS_ok, Tg.set, Tg.sets, List.getElem?_cons_zero, List.getElem?_cons_succ, List.set_cons_zero, List.set_cons_succ, wipeE, List.length_cons, List.length_nil, Nat.reduceAdd, Nat.reduceLeDiff, Nat.reduceEqDiff, ↓reduceIte, Bool.false_eq_true, decide_eq_true_eq, add_int, sub_int, lt_int, gt_int, le_int, ge_int, neg_int, and_int, or_int, xor_int, max2_int, min2_int, mod_pos, fdiv_sm, mul_sm, mul_smr, Int.reduceLT, Int.reduceNeg, int_bl, int_int, sli_tup, tq, sp, hS1, walk_ref a1, cf]
  · rw [← spw_gw, ← ec, ← spl_spw, ← es', List.filter_map]
    congr 1
    refine List.filter_congr fun y _ => ?_
    show (!decide (y = "")) = decide (cs y ≠ [])
    by_cases q : y = ""
    · subst q; rfl
    · have : cs y ≠ [] := fun z => q (cs_ext z)
      rw [decide_eq_false q, decide_eq_true this]; rfl
/-! brackets in brackets -/
inductive Ne where
  | w (x : Str) | b (xs : List Ne)
mutual
def toks : Ne → List Str
  | .w x => [x]
  | .b xs => ("(" : Str) :: (tokss xs ++ [(")" : Str)])
def tokss : List Ne → List Str
  | [] => []
  | n :: ns => toks n ++ tokss ns
end
mutual
def wds : Ne → List Str
  | .w x => [x]
  | .b xs => wdss xs
def wdss : List Ne → List Str
  | [] => []
  | n :: ns => wds n ++ wdss ns
end
def WdOk (x : Str) : Prop := Sk x ∧ x ≠ "(" ∧ x ≠ ")"
inductive NeAt (S : Sto) (lb : Nat) : Dv → Ne → Prop
  | w {x : Str} : NeAt S lb (.str x) (.w x)
  | b {l : Nat} {ds : List Dv} {xs : List Ne} : lb ≤ l → S[l]? = some (.lst ds) → ds.length = xs.length → (∀ (i : Nat) (d : Dv) (n : Ne), ds[i]? = some d → xs[i]? = some n → NeAt S lb d n) → NeAt S lb (.ref l) (.b xs)
theorem NeAt.fr {P : Nat → Prop} {S S' : Sto} {lb lb' : Nat} {d : Dv} {n : Ne} (h : NeAt S lb d n) (f : Fr P S S') (hp : ∀ l, P l → l < lb) (hb : lb' ≤ lb) : NeAt S' lb' d n := by
  induction h with
  | w => exact .w
  | b h1 h2 h3 _ ih => exact .b (Nat.le_trans hb h1) (f.get _ _ h2 fun z => by have := hp _ z; omega) h3 fun i d n e1 e2 => ih i d n e1 e2
abbrev ρn (tx : Str) (lo : Nat) (dn : Dv) (v3 v4 : Option Dv) : PL.Env := [some (.str tx), some (.ref lo), some dn, v3, v4]
/-- what stands while a bracket is read -/
structure Cn (S : Sto) (lo lt lw : Nat) (ws : List Dv) (os ds0 : List Dv) : Prop where
  ho : S[lo]? = some (.lst (os ++ [.ref lt]))
  ht : S[lt]? = some (.lst ds0)
  hw : S[lw]? = some (.lst ws)
  n1 : lo ≠ lt
  n2 : lw ≠ lo
  n3 : lw ≠ lt
theorem eqp (x : Str) (hx : WdOk x) (S : Sto) : eqD (.str x) (.str "(") S = .ok (.bl false) S ∧ eqD (.str x) (.str ")") S = .ok (.bl false) S := by
  refine ⟨?_, ?_⟩
  · rw [eq_str hx.1 (by decide +kernel), decide_eq_false hx.2.1]
  · rw [eq_str hx.1 (by decide +kernel), decide_eq_false hx.2.2]
theorem seq_ct {a b : RC} {ρ ρ' : PL.Env} {S S' : Sto} (h : a ρ S = .fl (.ct ρ') S') : cSeq a b ρ S = .fl (.ct ρ') S' := by simp only [cSeq, h]
theorem isD_nn (S : Sto) : isD .non .non S = .ok (.bl true) S := rfl
theorem stp_w {k : Nat} {tx x : Str} {lo lt : Nat} {os ds0 : List Dv} {v4 : Option Dv} {S : Sto} (hx : WdOk x) (ho : S[lo]? = some (.lst (os ++ [.ref lt]))) (ht : S[lt]? = some (.lst ds0)) (hl : ds0.length ≤ 1000000) :
    b_nest_of_1 (F (k + 1)) (ρn tx lo .non (some (.str x)) v4) S = .fl (.nx (ρn tx lo .non (some (.str x)) (some (.str x)))) (S.set lt (.lst (ds0 ++ [.str x]))) := by
  have e1 := (eqp x hx S).1
  have e2 := (eqp x hx S).2
  have ll := len_ref ho
  have lp : decide ((0 : Int) < ((os ++ [Dv.ref lt]).length : Int)) = true := decide_eq_true (by rw [List.length_append]; simp only [List.length_cons, List.length_nil]; omega)
  have il := idx_last ho
  have ap := app_ref (x := .str x) ht (by show _ < 2 ^ 24; omega)
  unfold b_nest_of_1
  refine (seq_of (expr_of (d := .non) (S' := S) (by simp only [ev_var, ev_con, ev_bin, ev_un, ev_anil, ev_acons, ev_call, ev_tup, ev_lst, ev_not, ev_and, ev_or, ev_if, ev_cbl, ev_btrue, ev_cand, ev_cor, ev_cnot, ev_sli, ev_onone, ev_osome, ev_chain, ev_meth, ev_get2, ev_newK, ev_newT, ev_own, ev_nil, ev_seq, ev_expr, ev_set, ev_ret, ev_retN, ev_cif, ev_brk, ev_ct, ev_asg, ev_put, ev_aug, ev_for, ev_comp, ev_newL, ev_iseq, ev_irange, ev_ienum, ev_yes, Out.bind_ok, Out.bindN_ok, bindS_ok, Tg.set, Tg.sets, List.getElem?_cons_zero, List.getElem?_cons_succ, List.set_cons_zero, List.set_cons_succ, wipeE, List.length_cons, List.length_nil, Nat.reduceAdd, Nat.reduceLeDiff, Nat.reduceEqDiff, ↓reduceIte, Bool.false_eq_true, decide_eq_true_eq, add_int, sub_int, lt_int, gt_int, le_int, ge_int, neg_int, and_int, or_int, xor_int, max2_int, min2_int, mod_pos, fdiv_sm, mul_sm, mul_smr, Int.reduceLT, Int.reduceNeg, int_bl, int_int, sli_tup, isD_nn, need_run]))).trans ?_
  refine (seq_of (set_of (d := .str x) (S' := S) (by simp only [ev_var, ev_con, ev_bin, ev_un, ev_anil, ev_acons, ev_call, ev_tup, ev_lst, ev_not, ev_and, ev_or, ev_if, ev_cbl, ev_btrue, ev_cand, ev_cor, ev_cnot, ev_sli, ev_onone, ev_osome, ev_chain, ev_meth, ev_get2, ev_newK, ev_newT, ev_own, ev_nil, ev_seq, ev_expr, ev_set, ev_ret, ev_retN, ev_cif, ev_brk, ev_ct, ev_asg, ev_put, ev_aug, ev_for, ev_comp, ev_newL, ev_iseq, ev_irange, ev_ienum, ev_yes, Out.bind_ok, Out.bindN_ok, bindS_ok, Tg.set, Tg.sets, List.getElem?_cons_zero, List.getElem?_cons_succ, List.set_cons_zero, List.set_cons_succ, wipeE, List.length_cons, List.length_nil, Nat.reduceAdd, Nat.reduceLeDiff, Nat.reduceEqDiff, ↓reduceIte, Bool.false_eq_true, decide_eq_true_eq, add_int, sub_int, lt_int, gt_int, le_int, ge_int, neg_int, and_int, or_int, xor_int, max2_int, min2_int, mod_pos, fdiv_sm, mul_sm, mul_smr, Int.reduceLT, Int.reduceNeg, int_bl, int_int, sli_tup]))).trans ?_
  refine (seq_of ((if_f (S' := S) (by simp only [ev_var, ev_con, ev_bin, ev_un, ev_anil, ev_acons, ev_call, ev_tup, ev_lst, ev_not, ev_and, ev_or, ev_if, ev_cbl, ev_btrue, ev_cand, ev_cor, ev_cnot, ev_sli, ev_onone, ev_osome, ev_chain, ev_meth, ev_get2, ev_newK, ev_newT, ev_own, ev_nil, ev_seq, ev_expr, ev_set, ev_ret, ev_retN, ev_cif, ev_brk, ev_ct, ev_asg, ev_put, ev_aug, ev_for, ev_comp, ev_newL, ev_iseq, ev_irange, ev_ienum, ev_yes, Out.bind_ok, Out.bindN_ok, bindS_ok, Tg.set, Tg.sets, List.getElem?_cons_zero, List.getElem?_cons_succ, List.set_cons_zero, List.set_cons_succ, wipeE, List.length_cons, List.length_nil, Nat.reduceAdd, Nat.reduceLeDiff, Nat.reduceEqDiff, ↓reduceIte, Bool.false_eq_true, decide_eq_true_eq, add_int, sub_int, lt_int, gt_int, le_int, ge_int, neg_int, and_int, or_int, xor_int, max2_int, min2_int, mod_pos, fdiv_sm, mul_sm, mul_smr, Int.reduceLT, Int.reduceNeg, int_bl, int_int, sli_tup, e1])).trans rfl)).trans ?_
  refine (seq_of ((if_f (S' := S) (by simp only [ev_var, ev_con, ev_bin, ev_un, ev_anil, ev_acons, ev_call, ev_tup, ev_lst, ev_not, ev_and, ev_or, ev_if, ev_cbl, ev_btrue, ev_cand, ev_cor, ev_cnot, ev_sli, ev_onone, ev_osome, ev_chain, ev_meth, ev_get2, ev_newK, ev_newT, ev_own, ev_nil, ev_seq, ev_expr, ev_set, ev_ret, ev_retN, ev_cif, ev_brk, ev_ct, ev_asg, ev_put, ev_aug, ev_for, ev_comp, ev_newL, ev_iseq, ev_irange, ev_ienum, ev_yes, Out.bind_ok, Out.bindN_ok, bindS_ok, Tg.set, Tg.sets, List.getElem?_cons_zero, List.getElem?_cons_succ, List.set_cons_zero, List.set_cons_succ, wipeE, List.length_cons, List.length_nil, Nat.reduceAdd, Nat.reduceLeDiff, Nat.reduceEqDiff, ↓reduceIte, Bool.false_eq_true, decide_eq_true_eq, add_int, sub_int, lt_int, gt_int, le_int, ge_int, neg_int, and_int, or_int, xor_int, max2_int, min2_int, mod_pos, fdiv_sm, mul_sm, mul_smr, Int.reduceLT, Int.reduceNeg, int_bl, int_int, sli_tup, e2])).trans rfl)).trans ?_
  refine (if_t (S' := S) (by simp only [ev_var, ev_con, ev_bin, ev_un, ev_anil, ev_acons, ev_call, ev_tup, ev_lst, ev_not, ev_and, ev_or, ev_if, ev_cbl, ev_btrue, ev_cand, ev_cor, ev_cnot, ev_sli, ev_onone, ev_osome, ev_chain, ev_meth, ev_get2, ev_newK, ev_newT, ev_own, ev_nil, ev_seq, ev_expr, ev_set, ev_ret, ev_retN, ev_cif, ev_brk, ev_ct, ev_asg, ev_put, ev_aug, ev_for, ev_comp, ev_newL, ev_iseq, ev_irange, ev_ienum, ev_yes, Out.bind_ok, Out.bindN_ok, bindS_ok, Tg.set, Tg.sets, List.getElem?_cons_zero, List.getElem?_cons_succ, List.set_cons_zero, List.set_cons_succ, wipeE, List.length_cons, List.length_nil, Nat.reduceAdd, Nat.reduceLeDiff, Nat.reduceEqDiff, ↓reduceIte, Bool.false_eq_true, decide_eq_true_eq, add_int, sub_int, lt_int, gt_int, le_int, ge_int, neg_int, and_int, or_int, xor_int, max2_int, min2_int, mod_pos, fdiv_sm, mul_sm, mul_smr, Int.reduceLT, Int.reduceNeg, int_bl, int_int, sli_tup, ll, lp])).trans (expr_of (d := .non) ?_)
  simp only [ev_var, ev_con, ev_bin, ev_un, ev_anil, ev_acons, ev_call, ev_tup, ev_lst, ev_not, ev_and, ev_or, ev_if, ev_cbl, ev_btrue, ev_cand, ev_cor, ev_cnot, ev_sli, ev_onone, ev_osome, ev_chain, ev_meth, ev_get2, ev_newK, ev_newT, ev_own, ev_nil, ev_seq, ev_expr, ev_set, ev_ret, ev_retN, ev_cif, ev_brk, ev_ct, ev_asg, ev_put, ev_aug, ev_for, ev_comp, ev_newL, ev_iseq, ev_irange, ev_ienum, ev_yes, Out.bind_ok, Out.bindN_ok, bindS_ok, Tg.set, Tg.sets, List.getElem?_cons_zero, List.getElem?_cons_succ, List.set_cons_zero, List.set_cons_succ, wipeE, List.length_cons, List.length_nil, Nat.reduceAdd, Nat.reduceLeDiff, Nat.reduceEqDiff, ↓reduceIte, Bool.false_eq_true, decide_eq_true_eq, add_int, sub_int, lt_int, gt_int, le_int, ge_int, neg_int, and_int, or_int, xor_int, max2_int, min2_int, mod_pos, fdiv_sm, mul_sm, mul_smr, Int.reduceLT, Int.reduceNeg, int_bl, int_int, sli_tup, il, tyq_ref ht, ap]
theorem stp_o {k : Nat} {tx : Str} {lo : Nat} {os : List Dv} {v4 : Option Dv} {S : Sto} (ho : S[lo]? = some (.lst os)) (hl : os.length ≤ 1000000) :
    b_nest_of_1 (F (k + 1)) (ρn tx lo .non (some (.str "(")) v4) S = .fl (.ct (ρn tx lo .non (some (.str "(")) (some (.str "(")))) ((S ++ [Ob.lst []]).set lo (.lst (os ++ [.ref S.length]))) := by
  have e1 : eqD (.str "(") (.str "(") S = .ok (.bl true) S := by rw [eq_str (by decide +kernel) (by decide +kernel)]; rfl
  have ho1 := (gr_app S [Ob.lst []]).at ho
  have ap := app_ref (x := .ref S.length) ho1 (by show _ < 2 ^ 24; omega)
  unfold b_nest_of_1
  refine (seq_of (expr_of (d := .non) (S' := S) (by simp only [ev_var, ev_con, ev_bin, ev_un, ev_anil, ev_acons, ev_call, ev_tup, ev_lst, ev_not, ev_and, ev_or, ev_if, ev_cbl, ev_btrue, ev_cand, ev_cor, ev_cnot, ev_sli, ev_onone, ev_osome, ev_chain, ev_meth, ev_get2, ev_newK, ev_newT, ev_own, ev_nil, ev_seq, ev_expr, ev_set, ev_ret, ev_retN, ev_cif, ev_brk, ev_ct, ev_asg, ev_put, ev_aug, ev_for, ev_comp, ev_newL, ev_iseq, ev_irange, ev_ienum, ev_yes, Out.bind_ok, Out.bindN_ok, bindS_ok, Tg.set, Tg.sets, List.getElem?_cons_zero, List.getElem?_cons_succ, List.set_cons_zero, List.set_cons_succ, wipeE, List.length_cons, List.length_nil, Nat.reduceAdd, Nat.reduceLeDiff, Nat.reduceEqDiff, ↓reduceIte, Bool.false_eq_true, decide_eq_true_eq, add_int, sub_int, lt_int, gt_int, le_int, ge_int, neg_int, and_int, or_int, xor_int, max2_int, min2_int, mod_pos, fdiv_sm, mul_sm, mul_smr, Int.reduceLT, Int.reduceNeg, int_bl, int_int, sli_tup, isD_nn, need_run]))).trans ?_
  refine (seq_of (set_of (d := .str "(") (S' := S) (by simp only [ev_var, ev_con, ev_bin, ev_un, ev_anil, ev_acons, ev_call, ev_tup, ev_lst, ev_not, ev_and, ev_or, ev_if, ev_cbl, ev_btrue, ev_cand, ev_cor, ev_cnot, ev_sli, ev_onone, ev_osome, ev_chain, ev_meth, ev_get2, ev_newK, ev_newT, ev_own, ev_nil, ev_seq, ev_expr, ev_set, ev_ret, ev_retN, ev_cif, ev_brk, ev_ct, ev_asg, ev_put, ev_aug, ev_for, ev_comp, ev_newL, ev_iseq, ev_irange, ev_ienum, ev_yes, Out.bind_ok, Out.bindN_ok, bindS_ok, Tg.set, Tg.sets, List.getElem?_cons_zero, List.getElem?_cons_succ, List.set_cons_zero, List.set_cons_succ, wipeE, List.length_cons, List.length_nil, Nat.reduceAdd, Nat.reduceLeDiff, Nat.reduceEqDiff, ↓reduceIte, Bool.false_eq_true, decide_eq_true_eq, add_int, sub_int, lt_int, gt_int, le_int, ge_int, neg_int, and_int, or_int, xor_int, max2_int, min2_int, mod_pos, fdiv_sm, mul_sm, mul_smr, Int.reduceLT, Int.reduceNeg, int_bl, int_int, sli_tup]))).trans ?_
  have : (cIf (cBl (eBin eqD (eVar 3) (eCon (.str "(")))) (cSeq (cExpr (eMeth "list" appendD (eVar 1) (aCons (eLst (aNil)) (aNil)))) (cCt)) (cNil)) (ρn tx lo .non (some (.str "(")) (some (.str "("))) S = .fl (.ct (ρn tx lo .non (some (.str "(")) (some (.str "(")))) ((S ++ [Ob.lst []]).set lo (.lst (os ++ [.ref S.length]))) := by
    refine (if_t (S' := S) (by simp only [ev_var, ev_con, ev_bin, ev_un, ev_anil, ev_acons, ev_call, ev_tup, ev_lst, ev_not, ev_and, ev_or, ev_if, ev_cbl, ev_btrue, ev_cand, ev_cor, ev_cnot, ev_sli, ev_onone, ev_osome, ev_chain, ev_meth, ev_get2, ev_newK, ev_newT, ev_own, ev_nil, ev_seq, ev_expr, ev_set, ev_ret, ev_retN, ev_cif, ev_brk, ev_ct, ev_asg, ev_put, ev_aug, ev_for, ev_comp, ev_newL, ev_iseq, ev_irange, ev_ienum, ev_yes, Out.bind_ok, Out.bindN_ok, bindS_ok, Tg.set, Tg.sets, List.getElem?_cons_zero, List.getElem?_cons_succ, List.set_cons_zero, List.set_cons_succ, wipeE, List.length_cons, List.length_nil, Nat.reduceAdd, Nat.reduceLeDiff, Nat.reduceEqDiff, ↓reduceIte, Bool.false_eq_true, decide_eq_true_eq, add_int, sub_int, lt_int, gt_int, le_int, ge_int, neg_int, and_int, or_int, xor_int, max2_int, min2_int, mod_pos, fdiv_sm, mul_sm, mul_smr, Int.reduceLT, Int.reduceNeg, int_bl, int_int, sli_tup, e1])).trans ?_
    refine (seq_of (expr_of (d := .non) (S' := (S ++ [Ob.lst []]).set lo (.lst (os ++ [.ref S.length]))) ?_)).trans rfl
    simp only [ev_var, ev_con, ev_bin, ev_un, ev_anil, ev_acons, ev_call, ev_tup, ev_lst, ev_not, ev_and, ev_or, ev_if, ev_cbl, ev_btrue, ev_cand, ev_cor, ev_cnot, ev_sli, ev_onone, ev_osome, ev_chain, ev_meth, ev_get2, ev_newK, ev_newT, ev_own, ev_nil, ev_seq, ev_expr, ev_set, ev_ret, ev_retN, ev_cif, ev_brk, ev_ct, ev_asg, ev_put, ev_aug, ev_for, ev_comp, ev_newL, ev_iseq, ev_irange, ev_ienum, ev_yes, Out.bind_ok, Out.bindN_ok, bindS_ok, Tg.set, Tg.sets, List.getElem?_cons_zero, List.getElem?_cons_succ, List.set_cons_zero, List.set_cons_succ, wipeE, List.length_cons, List.length_nil, Nat.reduceAdd, Nat.reduceLeDiff, Nat.reduceEqDiff, ↓reduceIte, Bool.false_eq_true, decide_eq_true_eq, add_int, sub_int, lt_int, gt_int, le_int, ge_int, neg_int, and_int, or_int, xor_int, max2_int, min2_int, mod_pos, fdiv_sm, mul_sm, mul_smr, Int.reduceLT, Int.reduceNeg, int_bl, int_int, sli_tup, tyq_ref ho, sline 0 (by omega), ap]
  exact seq_ct this
theorem stp_c {k : Nat} {tx : Str} {lo l1 : Nat} {os : List Dv} {v4 : Option Dv} {S : Sto} (ho : S[lo]? = some (.lst (os ++ [.ref l1]))) :
    ∃ t, b_nest_of_1 (F (k + 1)) (ρn tx lo .non (some (.str ")")) v4) S = t ∧ t = cIf (cBl (eBin gtD (eCall lenD (aCons (eVar 1) (aNil))) (eCon (.int 0)))) (cExpr (eMeth "list" appendD (eBin idxD (eVar 1) (eUn negD (eCon (.int 1)))) (aCons (eVar 4) (aNil)))) (cSet 2 (eVar 4)) (ρn tx lo .non (some (.str ")")) (some (.ref l1))) (S.set lo (.lst os)) := by
  refine ⟨_, rfl, ?_⟩
  have e1 : eqD (.str ")") (.str "(") S = .ok (.bl false) S := by rw [eq_str (by decide +kernel) (by decide +kernel)]; rfl
  have e2 : eqD (.str ")") (.str ")") S = .ok (.bl true) S := by rw [eq_str (by decide +kernel) (by decide +kernel)]; rfl
  have ll := len_ref ho
  have lp : decide ((0 : Int) < ((os ++ [Dv.ref l1]).length : Int)) = true := decide_eq_true (by rw [List.length_append]; simp only [List.length_cons, List.length_nil]; omega)
  have pp := pop_ref ho
  unfold b_nest_of_1
  refine (seq_of (expr_of (d := .non) (S' := S) (by simp only [ev_var, ev_con, ev_bin, ev_un, ev_anil, ev_acons, ev_call, ev_tup, ev_lst, ev_not, ev_and, ev_or, ev_if, ev_cbl, ev_btrue, ev_cand, ev_cor, ev_cnot, ev_sli, ev_onone, ev_osome, ev_chain, ev_meth, ev_get2, ev_newK, ev_newT, ev_own, ev_nil, ev_seq, ev_expr, ev_set, ev_ret, ev_retN, ev_cif, ev_brk, ev_ct, ev_asg, ev_put, ev_aug, ev_for, ev_comp, ev_newL, ev_iseq, ev_irange, ev_ienum, ev_yes, Out.bind_ok, Out.bindN_ok, bindS_ok, Tg.set, Tg.sets, List.getElem?_cons_zero, List.getElem?_cons_succ, List.set_cons_zero, List.set_cons_succ, wipeE, List.length_cons, List.length_nil, Nat.reduceAdd, Nat.reduceLeDiff, Nat.reduceEqDiff, ↓reduceIte, Bool.false_eq_true, decide_eq_true_eq, add_int, sub_int, lt_int, gt_int, le_int, ge_int, neg_int, and_int, or_int, xor_int, max2_int, min2_int, mod_pos, fdiv_sm, mul_sm, mul_smr, Int.reduceLT, Int.reduceNeg, int_bl, int_int, sli_tup, isD_nn, need_run]))).trans ?_
  refine (seq_of (set_of (d := .str ")") (S' := S) (by simp only [ev_var, ev_con, ev_bin, ev_un, ev_anil, ev_acons, ev_call, ev_tup, ev_lst, ev_not, ev_and, ev_or, ev_if, ev_cbl, ev_btrue, ev_cand, ev_cor, ev_cnot, ev_sli, ev_onone, ev_osome, ev_chain, ev_meth, ev_get2, ev_newK, ev_newT, ev_own, ev_nil, ev_seq, ev_expr, ev_set, ev_ret, ev_retN, ev_cif, ev_brk, ev_ct, ev_asg, ev_put, ev_aug, ev_for, ev_comp, ev_newL, ev_iseq, ev_irange, ev_ienum, ev_yes, Out.bind_ok, Out.bindN_ok, bindS_ok, Tg.set, Tg.sets, List.getElem?_cons_zero, List.getElem?_cons_succ, List.set_cons_zero, List.set_cons_succ, wipeE, List.length_cons, List.length_nil, Nat.reduceAdd, Nat.reduceLeDiff, Nat.reduceEqDiff, ↓reduceIte, Bool.false_eq_true, decide_eq_true_eq, add_int, sub_int, lt_int, gt_int, le_int, ge_int, neg_int, and_int, or_int, xor_int, max2_int, min2_int, mod_pos, fdiv_sm, mul_sm, mul_smr, Int.reduceLT, Int.reduceNeg, int_bl, int_int, sli_tup]))).trans ?_
  refine (seq_of ((if_f (S' := S) (by simp only [ev_var, ev_con, ev_bin, ev_un, ev_anil, ev_acons, ev_call, ev_tup, ev_lst, ev_not, ev_and, ev_or, ev_if, ev_cbl, ev_btrue, ev_cand, ev_cor, ev_cnot, ev_sli, ev_onone, ev_osome, ev_chain, ev_meth, ev_get2, ev_newK, ev_newT, ev_own, ev_nil, ev_seq, ev_expr, ev_set, ev_ret, ev_retN, ev_cif, ev_brk, ev_ct, ev_asg, ev_put, ev_aug, ev_for, ev_comp, ev_newL, ev_iseq, ev_irange, ev_ienum, ev_yes, Out.bind_ok, Out.bindN_ok, bindS_ok, Tg.set, Tg.sets, List.getElem?_cons_zero, List.getElem?_cons_succ, List.set_cons_zero, List.set_cons_succ, wipeE, List.length_cons, List.length_nil, Nat.reduceAdd, Nat.reduceLeDiff, Nat.reduceEqDiff, ↓reduceIte, Bool.false_eq_true, decide_eq_true_eq, add_int, sub_int, lt_int, gt_int, le_int, ge_int, neg_int, and_int, or_int, xor_int, max2_int, min2_int, mod_pos, fdiv_sm, mul_sm, mul_smr, Int.reduceLT, Int.reduceNeg, int_bl, int_int, sli_tup, e1])).trans rfl)).trans ?_
  refine (seq_of (ρ' := ρn tx lo .non (some (.str ")")) (some (.ref l1))) (S' := S.set lo (.lst os)) ?_)
  refine (if_t (S' := S) (by simp only [ev_var, ev_con, ev_bin, ev_un, ev_anil, ev_acons, ev_call, ev_tup, ev_lst, ev_not, ev_and, ev_or, ev_if, ev_cbl, ev_btrue, ev_cand, ev_cor, ev_cnot, ev_sli, ev_onone, ev_osome, ev_chain, ev_meth, ev_get2, ev_newK, ev_newT, ev_own, ev_nil, ev_seq, ev_expr, ev_set, ev_ret, ev_retN, ev_cif, ev_brk, ev_ct, ev_asg, ev_put, ev_aug, ev_for, ev_comp, ev_newL, ev_iseq, ev_irange, ev_ienum, ev_yes, Out.bind_ok, Out.bindN_ok, bindS_ok, Tg.set, Tg.sets, List.getElem?_cons_zero, List.getElem?_cons_succ, List.set_cons_zero, List.set_cons_succ, wipeE, List.length_cons, List.length_nil, Nat.reduceAdd, Nat.reduceLeDiff, Nat.reduceEqDiff, ↓reduceIte, Bool.false_eq_true, decide_eq_true_eq, add_int, sub_int, lt_int, gt_int, le_int, ge_int, neg_int, and_int, or_int, xor_int, max2_int, min2_int, mod_pos, fdiv_sm, mul_sm, mul_smr, Int.reduceLT, Int.reduceNeg, int_bl, int_int, sli_tup, e2])).trans ?_
  refine (seq_of (expr_of (d := .non) (S' := S) (by simp only [ev_var, ev_con, ev_bin, ev_un, ev_anil, ev_acons, ev_call, ev_tup, ev_lst, ev_not, ev_and, ev_or, ev_if, ev_cbl, ev_btrue, ev_cand, ev_cor, ev_cnot, ev_sli, ev_onone, ev_osome, ev_chain, ev_meth, ev_get2, ev_newK, ev_newT, ev_own, ev_nil, ev_seq, ev_expr, ev_set, ev_ret, ev_retN, ev_cif, ev_brk, ev_ct, ev_asg, ev_put, ev_aug, ev_for, ev_comp, ev_newL, ev_iseq, ev_irange, ev_ienum, ev_yes, Out.bind_ok, Out.bindN_ok, bindS_ok, Tg.set, Tg.sets, List.getElem?_cons_zero, List.getElem?_cons_succ, List.set_cons_zero, List.set_cons_succ, wipeE, List.length_cons, List.length_nil, Nat.reduceAdd, Nat.reduceLeDiff, Nat.reduceEqDiff, ↓reduceIte, Bool.false_eq_true, decide_eq_true_eq, add_int, sub_int, lt_int, gt_int, le_int, ge_int, neg_int, and_int, or_int, xor_int, max2_int, min2_int, mod_pos, fdiv_sm, mul_sm, mul_smr, Int.reduceLT, Int.reduceNeg, int_bl, int_int, sli_tup, ll, lp, need_run]))).trans ?_
  refine set_of (d := .ref l1) ?_
  simp only [ev_meth, ev_anil, ev_var, Out.bind_ok, List.set_cons_zero, List.set_cons_succ, List.getElem?_cons_zero, List.getElem?_cons_succ, tyq_ref ho, ↓reduceIte, pp]
theorem loop_ct {ck : Sto → Prop} [∀ S, Decidable (ck S)] {t : Tg} {b : RC} {d : Dv} {ds : List Dv} {ρ ρ1 ρ2 : PL.Env} {S S2 : Sto} (h : b ρ1 S = .fl (.ct ρ2) S2) (hc : ck S) (h1 : t.set d ρ = some ρ1) : PL.loop ck t b (d :: ds) ρ S = PL.loop ck t b ds ρ2 S2 := by
  rw [PL.loop, if_pos hc, h1]
  simp only [h]
mutual
theorem nst {k : Nat} {tx : Str} {lo lw : Nat} {ws : List Dv} : ∀ (n : Ne) (rest : List Dv) (S : Sto) (v3 v4 : Option Dv) (os ds0 : List Dv) (lt : Nat), Cn S lo lt lw ws os ds0 → (∀ x ∈ wds n, WdOk x) → os.length + (toks n).length ≤ 100000 → ds0.length + (toks n).length ≤ 100000 → ∃ (d : Dv) (S' : Sto) (v3' v4' : Option Dv),
      PL.loop (Ck.ls lw ws).ok (.nm 3) (b_nest_of_1 (F (k + 1))) ((toks n).map .str ++ rest) (ρn tx lo .non v3 v4) S = PL.loop (Ck.ls lw ws).ok (.nm 3) (b_nest_of_1 (F (k + 1))) rest (ρn tx lo .non v3' v4') S' ∧ Cn S' lo lt lw ws os (ds0 ++ [d]) ∧ NeAt S' S.length d n ∧ Fr (fun l => l = lo ∨ l = lt) S S'
  | .w x, rest, S, v3, v4, os, ds0, lt, c, hx, b1, b2 => by
    rw [toks] at b1 b2
    have hx' := hx x (by rw [wds]; simp)
    have st := stp_w (k := k) (tx := tx) (v4 := v4) hx' c.ho c.ht (by omega)
    refine ⟨.str x, S.set lt (.lst (ds0 ++ [.str x])), some (.str x), some (.str x), ?_, ⟨by rw [List.getElem?_set_ne (fun z => c.n1 z.symm)]; exact c.ho, at_set c.ht, by rw [List.getElem?_set_ne (fun z => c.n3 z.symm)]; exact c.hw, c.n1, c.n2, c.n3⟩, .w, (fr_set S lt _).imp fun l _ z => .inr z⟩
    rw [toks]
    exact loop_nx st c.hw rfl
  | .b xs, rest, S, v3, v4, os, ds0, lt, c, hx, b1, b2 => by
    rw [toks, List.length_cons, List.length_append, List.length_cons, List.length_nil] at b1 b2
    have lol := lt_of_at c.ho
    have ltl := lt_of_at c.ht
    have lwl := lt_of_at c.hw
    have st := stp_o (k := k) (tx := tx) (v4 := v4) c.ho (by rw [List.length_append]; simp only [List.length_cons, List.length_nil]; omega)
    have g1 := gr_app S [Ob.lst []]
    have f1 := fr_set (S ++ [Ob.lst []]) lo (.lst (os ++ [.ref lt] ++ [.ref S.length]))
    have ho1 := at_set (o := .lst (os ++ [.ref lt] ++ [.ref S.length])) (g1.at c.ho)
    have hl1 := f1.get _ _ (at_new S (.lst [])) (by show S.length ≠ lo; omega)
    have ht1 := f1.get _ _ (g1.at c.ht) (by show lt ≠ lo; exact fun z => c.n1 z.symm)
    have hw1 := f1.get _ _ (g1.at c.hw) (by show lw ≠ lo; exact c.n2)
    have len1 : S.length < ((S ++ [Ob.lst []]).set lo (.lst (os ++ [.ref lt] ++ [.ref S.length]))).length := lt_of_at hl1
    generalize (S ++ [Ob.lst []]).set lo (.lst (os ++ [.ref lt] ++ [.ref S.length])) = S1 at st f1 ho1 hl1 ht1 hw1 len1
    obtain ⟨ds, S2, v3', v4', e2, c2, l2, na, f2⟩ := nsts (k := k) (tx := tx) (lo := lo) (lw := lw) (ws := ws) xs (.str ")" :: rest) S1 (some (.str "(")) (some (.str "(")) (os ++ [.ref lt]) [] S.length ⟨ho1, hl1, hw1, by omega, c.n2, by omega⟩ (fun x h => hx x (by rw [wds]; exact h)) (by rw [List.length_append]; simp only [List.length_cons, List.length_nil]; omega) (by rw [List.length_nil]; omega)
    rw [List.nil_append] at c2
    obtain ⟨_, st2, rfl⟩ := stp_c (k := k) (tx := tx) (v4 := v4') c2.ho
    have ht2 := f2.get _ _ ht1 (by show ¬ (lt = lo ∨ lt = S.length); have := c.n1; omega)
    have f3 := fr_set S2 lo (.lst (os ++ [.ref lt]))
    have ho3 := at_set (o := .lst (os ++ [.ref lt])) c2.ho
    have ht3 := f3.get _ _ ht2 (by show lt ≠ lo; exact fun z => c.n1 z.symm)
    have hl3 := f3.get _ _ c2.ht (by show S.length ≠ lo; omega)
    have hw3 := f3.get _ _ c2.hw (by show lw ≠ lo; exact c.n2)
    generalize S2.set lo (.lst (os ++ [.ref lt])) = S3 at st2 f3 ho3 ht3 hl3 hw3
    have ll := len_ref ho3
    have lp : decide ((0 : Int) < ((os ++ [Dv.ref lt]).length : Int)) = true := decide_eq_true (by rw [List.length_append]; simp only [List.length_cons, List.length_nil]; omega)
    have il := idx_last ho3
    have ap := app_ref (x := .ref S.length) ht3 (by show _ < 2 ^ 24; omega)
    have f4 := fr_set S3 lt (.lst (ds0 ++ [.ref S.length]))
    have st3 := st2.trans ((if_t (S' := S3) (by simp only [ev_var, ev_con, ev_bin, ev_un, ev_anil, ev_acons, ev_call, ev_tup, ev_lst, ev_not, ev_and, ev_or, ev_if, ev_cbl, ev_btrue, ev_cand, ev_cor, ev_cnot, ev_sli, ev_onone, ev_osome, ev_chain, ev_meth, ev_get2, ev_newK, ev_newT, ev_own, ev_nil, ev_seq, ev_expr, ev_set, ev_ret, ev_retN, ev_cif, ev_brk, ev_ct, ev_asg, ev_put, ev_aug, ev_for, ev_comp, ev_newL, ev_iseq, ev_irange, ev_ienum, ev_yes, Out.bind_ok, Out.bindN_ok, bindS_ok, Tg.set, Tg.sets, List.getElem?_cons_zero, List.getElem?_cons_succ, List.set_cons_zero, List.set_cons_succ, wipeE, List.length_cons, List.length_nil, Nat.reduceAdd, Nat.reduceLeDiff, Nat.reduceEqDiff, ↓reduceIte, Bool.false_eq_true, decide_eq_true_eq, add_int, sub_int, lt_int, gt_int, le_int, ge_int, neg_int, and_int, or_int, xor_int, max2_int, min2_int, mod_pos, fdiv_sm, mul_sm, mul_smr, Int.reduceLT, Int.reduceNeg, int_bl, int_int, sli_tup, ll, lp])).trans (expr_of (d := .non) (S' := S3.set lt (.lst (ds0 ++ [.ref S.length]))) (by simp only [ev_var, ev_con, ev_bin, ev_un, ev_anil, ev_acons, ev_call, ev_tup, ev_lst, ev_not, ev_and, ev_or, ev_if, ev_cbl, ev_btrue, ev_cand, ev_cor, ev_cnot, ev_sli, ev_onone, ev_osome, ev_chain, ev_meth, ev_get2, ev_newK, ev_newT, ev_own, ev_nil, ev_seq, ev_expr, ev_set, ev_ret, ev_retN, ev_cif, ev_brk, ev_ct, ev_asg, ev_put, ev_aug, ev_for, ev_comp, ev_newL, ev_iseq, ev_irange, ev_ienum, ev_yes, Out.bind_ok, Out.bindN_ok, bindS_ok, Tg.set, Tg.sets, List.getElem?_cons_zero, List.getElem?_cons_succ, List.set_cons_zero, List.set_cons_succ, wipeE, List.length_cons, List.length_nil, Nat.reduceAdd, Nat.reduceLeDiff, Nat.reduceEqDiff, ↓reduceIte, Bool.false_eq_true, decide_eq_true_eq, add_int, sub_int, lt_int, gt_int, le_int, ge_int, neg_int, and_int, or_int, xor_int, max2_int, min2_int, mod_pos, fdiv_sm, mul_sm, mul_smr, Int.reduceLT, Int.reduceNeg, int_bl, int_int, sli_tup, il, tyq_ref ht3, ap])))
    refine ⟨.ref S.length, S3.set lt (.lst (ds0 ++ [.ref S.length])), some (.str ")"), some (.ref S.length), ?_, ⟨by rw [List.getElem?_set_ne (fun z => c.n1 z.symm)]; exact ho3, at_set ht3, by rw [List.getElem?_set_ne (fun z => c.n3 z.symm)]; exact hw3, c.n1, c.n2, c.n3⟩, ?_, ?_⟩
    · rw [toks, List.map_cons, List.cons_append, loop_ct st c.hw rfl, List.map_append, List.append_assoc]
      refine Eq.trans e2 ?_
      exact loop_nx st3 c2.hw rfl
    · refine .b (Nat.le_refl _) (f4.get _ _ hl3 (by show S.length ≠ lt; omega)) l2 fun i d n h1 h2 => ?_
      refine (na i d n h1 h2).fr (P := fun l => l = lo ∨ l = lt) ((f3.imp fun l _ z => .inl z).trans (f4.imp fun l _ z => .inr z)) (fun l z => by rcases z with rfl | rfl <;> omega) (by omega)
    · refine ⟨Nat.le_trans g1.le (Nat.le_trans f1.le (Nat.le_trans f2.le (Nat.le_trans f3.le f4.le))), fun l o e n => ?_⟩
      have hl := lt_of_at e
      refine f4.get _ _ (f3.get _ _ (f2.get _ _ (f1.get _ _ (g1.at e) ?_) ?_) ?_) ?_
      · exact fun z => n (.inl z)
      · exact fun z => z.elim (fun z => n (.inl z)) fun z => by omega
      · exact fun z => n (.inl z)
      · exact fun z => n (.inr z)
theorem nsts {k : Nat} {tx : Str} {lo lw : Nat} {ws : List Dv} : ∀ (ns : List Ne) (rest : List Dv) (S : Sto) (v3 v4 : Option Dv) (os ds0 : List Dv) (lt : Nat), Cn S lo lt lw ws os ds0 → (∀ x ∈ wdss ns, WdOk x) → os.length + (tokss ns).length ≤ 100000 → ds0.length + (tokss ns).length ≤ 100000 → ∃ (ds : List Dv) (S' : Sto) (v3' v4' : Option Dv),
      PL.loop (Ck.ls lw ws).ok (.nm 3) (b_nest_of_1 (F (k + 1))) ((tokss ns).map .str ++ rest) (ρn tx lo .non v3 v4) S = PL.loop (Ck.ls lw ws).ok (.nm 3) (b_nest_of_1 (F (k + 1))) rest (ρn tx lo .non v3' v4') S' ∧ Cn S' lo lt lw ws os (ds0 ++ ds) ∧ ds.length = ns.length ∧ (∀ (i : Nat) (d : Dv) (n : Ne), ds[i]? = some d → ns[i]? = some n → NeAt S' S.length d n) ∧ Fr (fun l => l = lo ∨ l = lt) S S'
  | [], rest, S, v3, v4, os, ds0, lt, c, hx, b1, b2 => ⟨[], S, v3, v4, by rw [tokss]; rfl, by rw [List.append_nil]; exact c, rfl, fun i d n h => by simp at h, .refl _⟩
  | n :: ns, rest, S, v3, v4, os, ds0, lt, c, hx, b1, b2 => by
    rw [tokss, List.length_append] at b1 b2
    have tl1 : 1 ≤ (toks n).length := by cases n <;> rw [toks] <;> simp
    obtain ⟨d, S1, w3, w4, e1, c1, na1, f1⟩ := nst (k := k) (tx := tx) (lo := lo) (lw := lw) (ws := ws) n ((tokss ns).map .str ++ rest) S v3 v4 os ds0 lt c (fun x h => hx x (by rw [wdss]; exact List.mem_append_left _ h)) (by omega) (by omega)
    obtain ⟨ds, S2, u3, u4, e2, c2, l2, na2, f2⟩ := nsts (k := k) (tx := tx) (lo := lo) (lw := lw) (ws := ws) ns rest S1 w3 w4 os (ds0 ++ [d]) lt c1 (fun x h => hx x (by rw [wdss]; exact List.mem_append_right _ h)) (by omega) (by rw [List.length_append]; simp only [List.length_cons, List.length_nil]; omega)
    have lol := lt_of_at c.ho
    have ltl := lt_of_at c.ht
    refine ⟨d :: ds, S2, u3, u4, ?_, by rw [List.append_assoc] at c2; exact c2, by rw [List.length_cons, List.length_cons, l2], fun i d' n' h1 h2 => ?_, f1.trans f2⟩
    · rw [tokss, List.map_append, List.append_assoc, e1, e2]
    · cases i with
      | zero =>
        simp only [List.getElem?_cons_zero, Option.some.injEq] at h1 h2
        subst h1 h2
        exact na1.fr f2 (fun l z => by rcases z with rfl | rfl <;> omega) (Nat.le_refl _)
      | succ i =>
        rw [List.getElem?_cons_succ] at h1 h2
        exact (na2 i d' n' h1 h2).fr (.refl (P := fun _ => False) S2) (fun l z => z.elim) f1.le
end
theorem map_cs_inj : ∀ {a b : List Str}, a.map cs = b.map cs → a = b
  | [], [], _ => rfl
  | [], _ :: _, h => by simp at h
  | _ :: _, [], h => by simp at h
  | x :: a, y :: b, h => by
    rw [List.map_cons, List.map_cons, List.cons.injEq] at h
    rw [cs_ext h.1, map_cs_inj h.2]
theorem isN_ref (l : Nat) (S : Sto) : isNotD (.ref l) .non S = .ok (.bl true) S := rfl
theorem nest_run {k : Nat} {x : Str} {S : Sto} {xs : List Ne} (hx : Sk x) (hl : x.length ≤ 400000) (he : tk [] (cs x) = (toks (.b xs)).map cs) (hw : ∀ x ∈ wdss xs, WdOk x) (hn : (tokss xs).length ≤ 90000) : ∃ (l : Nat) (S' : Sto), F (k + 3) .nest_of [.str x] S = .ok (.ref l) S' ∧ Gr S S' ∧ NeAt S' S.length (.ref l) (.b xs) := by
  rw [F_nest_of]
  have g1 := gr_app S [Ob.lst []]
  have a1 := at_new S (.lst [])
  have ln1 : (S ++ [Ob.lst []]).length = S.length + 1 := by simp
  generalize hS1 : S ++ [Ob.lst []] = S1 at g1 a1 ln1
  obtain ⟨lw, ys, S2, ew, g2, hlw, hys, eys, sky⟩ := words_run (k := k) (S := S1) hx hl
  rw [he] at eys
  have eys := map_cs_inj eys
  subst eys
  have a2 := g2.at a1
  have l2 := lt_of_at hys
  have st := stp_o (k := k + 1) (tx := x) (v4 := none) (os := []) a2 (by rw [List.length_nil]; omega)
  have g3 := gr_app S2 [Ob.lst []]
  have f3 := fr_set (S2 ++ [Ob.lst []]) S.length (.lst ([] ++ [.ref S2.length]))
  have ho3 := at_set (o := .lst ([] ++ [.ref S2.length])) (g3.at a2)
  have hl3 := f3.get _ _ (at_new S2 (.lst [])) (by show S2.length ≠ S.length; omega)
  have hw3 := f3.get _ _ (g3.at hys) (by show lw ≠ S.length; omega)
  have len3 : S2.length < ((S2 ++ [Ob.lst []]).set S.length (.lst ([] ++ [.ref S2.length]))).length := lt_of_at hl3
  generalize (S2 ++ [Ob.lst []]).set S.length (.lst ([] ++ [.ref S2.length])) = S3 at st f3 ho3 hl3 hw3 len3
  obtain ⟨ds, S4, v3', v4', e4, c4, l4, na, f4⟩ := nsts (k := k + 1) (tx := x) (lo := S.length) (lw := lw) (ws := (toks (.b xs)).map .str) xs [.str ")"] S3 (some (.str "(")) (some (.str "(")) [] [] S2.length ⟨ho3, hl3, hw3, by omega, by omega, by omega⟩ hw (by rw [List.length_nil]; omega) (by rw [List.length_nil]; omega)
  rw [List.nil_append] at c4
  obtain ⟨_, st5, rfl⟩ := stp_c (k := k + 1) (tx := x) (v4 := v4') c4.ho
  have f5 := fr_set S4 S.length (.lst [])
  have ho5 := at_set (o := .lst []) c4.ho
  have hl5 := f5.get _ _ c4.ht (by show S2.length ≠ S.length; omega)
  have hw5 := f5.get _ _ c4.hw (by show lw ≠ S.length; omega)
  generalize S4.set S.length (.lst []) = S5 at st5 f5 ho5 hl5 hw5
  have ll := len_ref ho5
  have st5' := st5.trans ((if_f (S' := S5) (by simp only [ev_var, ev_con, ev_bin, ev_un, ev_anil, ev_acons, ev_call, ev_tup, ev_lst, ev_not, ev_and, ev_or, ev_if, ev_cbl, ev_btrue, ev_cand, ev_cor, ev_cnot, ev_sli, ev_onone, ev_osome, ev_chain, ev_meth, ev_get2, ev_newK, ev_newT, ev_own, ev_nil, ev_seq, ev_expr, ev_set, ev_ret, ev_retN, ev_cif, ev_brk, ev_ct, ev_asg, ev_put, ev_aug, ev_for, ev_comp, ev_newL, ev_iseq, ev_irange, ev_ienum, ev_yes, Out.bind_ok, Out.bindN_ok, bindS_ok, Tg.set, Tg.sets, List.getElem?_cons_zero, List.getElem?_cons_succ, List.set_cons_zero, List.set_cons_succ, wipeE, List.length_cons, List.length_nil, Nat.reduceAdd, Nat.reduceLeDiff, Nat.reduceEqDiff, ↓reduceIte, Bool.false_eq_true, decide_eq_true_eq, add_int, sub_int, lt_int, gt_int, le_int, ge_int, neg_int, and_int, or_int, xor_int, max2_int, min2_int, mod_pos, fdiv_sm, mul_sm, mul_smr, Int.reduceLT, Int.reduceNeg, int_bl, int_int, sli_tup, ll]; rfl)).trans (set_of (d := .ref S2.length) (S' := S5) (by simp only [ev_var, ev_con, ev_bin, ev_un, ev_anil, ev_acons, ev_call, ev_tup, ev_lst, ev_not, ev_and, ev_or, ev_if, ev_cbl, ev_btrue, ev_cand, ev_cor, ev_cnot, ev_sli, ev_onone, ev_osome, ev_chain, ev_meth, ev_get2, ev_newK, ev_newT, ev_own, ev_nil, ev_seq, ev_expr, ev_set, ev_ret, ev_retN, ev_cif, ev_brk, ev_ct, ev_asg, ev_put, ev_aug, ev_for, ev_comp, ev_newL, ev_iseq, ev_irange, ev_ienum, ev_yes, Out.bind_ok, Out.bindN_ok, bindS_ok, Tg.set, Tg.sets, List.getElem?_cons_zero, List.getElem?_cons_succ, List.set_cons_zero, List.set_cons_succ, wipeE, List.length_cons, List.length_nil, Nat.reduceAdd, Nat.reduceLeDiff, Nat.reduceEqDiff, ↓reduceIte, Bool.false_eq_true, decide_eq_true_eq, add_int, sub_int, lt_int, gt_int, le_int, ge_int, neg_int, and_int, or_int, xor_int, max2_int, min2_int, mod_pos, fdiv_sm, mul_sm, mul_smr, Int.reduceLT, Int.reduceNeg, int_bl, int_int, sli_tup])))
  refine ⟨S2.length, S5, runF_rt (ρ := [some (.str x), none, none, none, none]) rfl rfl ?_, ?_, ?_⟩
  · unfold c_nest_of
    refine (seq_of (set_of (d := .ref S.length) (S' := S1) (by simp only [ev_var, ev_con, ev_bin, ev_un, ev_anil, ev_acons, ev_call, ev_tup, ev_lst, ev_not, ev_and, ev_or, ev_if, ev_cbl, ev_btrue, ev_cand, ev_cor, ev_cnot, ev_sli, ev_onone, ev_osome, ev_chain, ev_meth, ev_get2, ev_newK, ev_newT, ev_own, ev_nil, ev_seq, ev_expr, ev_set, ev_ret, ev_retN, ev_cif, ev_brk, ev_ct, ev_asg, ev_put, ev_aug, ev_for, ev_comp, ev_newL, ev_iseq, ev_irange, ev_ienum, ev_yes, Out.bind_ok, Out.bindN_ok, bindS_ok, Tg.set, Tg.sets, List.getElem?_cons_zero, List.getElem?_cons_succ, List.set_cons_zero, List.set_cons_succ, wipeE, List.length_cons, List.length_nil, Nat.reduceAdd, Nat.reduceLeDiff, Nat.reduceEqDiff, ↓reduceIte, Bool.false_eq_true, decide_eq_true_eq, add_int, sub_int, lt_int, gt_int, le_int, ge_int, neg_int, and_int, or_int, xor_int, max2_int, min2_int, mod_pos, fdiv_sm, mul_sm, mul_smr, Int.reduceLT, Int.reduceNeg, int_bl, int_int, sli_tup, sline 0 (by omega), hS1]))).trans ?_
    refine (seq_of (set_of (d := .non) (S' := S1) (by simp only [ev_var, ev_con, ev_bin, ev_un, ev_anil, ev_acons, ev_call, ev_tup, ev_lst, ev_not, ev_and, ev_or, ev_if, ev_cbl, ev_btrue, ev_cand, ev_cor, ev_cnot, ev_sli, ev_onone, ev_osome, ev_chain, ev_meth, ev_get2, ev_newK, ev_newT, ev_own, ev_nil, ev_seq, ev_expr, ev_set, ev_ret, ev_retN, ev_cif, ev_brk, ev_ct, ev_asg, ev_put, ev_aug, ev_for, ev_comp, ev_newL, ev_iseq, ev_irange, ev_ienum, ev_yes, Out.bind_ok, Out.bindN_ok, bindS_ok, Tg.set, Tg.sets, List.getElem?_cons_zero, List.getElem?_cons_succ, List.set_cons_zero, List.set_cons_succ, wipeE, List.length_cons, List.length_nil, Nat.reduceAdd, Nat.reduceLeDiff, Nat.reduceEqDiff, ↓reduceIte, Bool.false_eq_true, decide_eq_true_eq, add_int, sub_int, lt_int, gt_int, le_int, ge_int, neg_int, and_int, or_int, xor_int, max2_int, min2_int, mod_pos, fdiv_sm, mul_sm, mul_smr, Int.reduceLT, Int.reduceNeg, int_bl, int_int, sli_tup]))).trans ?_
    refine (seq_of (ρ' := [some (.str x), some (.ref S.length), some (.ref S2.length), some (.str ")"), some (.ref S2.length)]) (S' := S5) ?_).trans ?_
    · refine (for_of (w := ((toks (.b xs)).map .str, Ck.ls lw ((toks (.b xs)).map .str))) (S' := S2) (by simp only [ev_var, ev_con, ev_bin, ev_un, ev_anil, ev_acons, ev_call, ev_tup, ev_lst, ev_not, ev_and, ev_or, ev_if, ev_cbl, ev_btrue, ev_cand, ev_cor, ev_cnot, ev_sli, ev_onone, ev_osome, ev_chain, ev_meth, ev_get2, ev_newK, ev_newT, ev_own, ev_nil, ev_seq, ev_expr, ev_set, ev_ret, ev_retN, ev_cif, ev_brk, ev_ct, ev_asg, ev_put, ev_aug, ev_for, ev_comp, ev_newL, ev_iseq, ev_irange, ev_ienum, ev_yes, Out.bind_ok, Out.bindN_ok, bindS_ok, Tg.set, Tg.sets, List.getElem?_cons_zero, List.getElem?_cons_succ, List.set_cons_zero, List.set_cons_succ, wipeE, List.length_cons, List.length_nil, Nat.reduceAdd, Nat.reduceLeDiff, Nat.reduceEqDiff, ↓reduceIte, Bool.false_eq_true, decide_eq_true_eq, add_int, sub_int, lt_int, gt_int, le_int, ge_int, neg_int, and_int, or_int, xor_int, max2_int, min2_int, mod_pos, fdiv_sm, mul_sm, mul_smr, Int.reduceLT, Int.reduceNeg, int_bl, int_int, sli_tup, ew, walk_ref hys])).trans ?_
      show PL.loop (Ck.ls lw _).ok (.nm 3) (b_nest_of_1 (F (k + 2))) ((toks (.b xs)).map .str) (ρn x S.length .non none none) S2 = _
      have et : (toks (.b xs)).map Dv.str = Dv.str "(" :: ((tokss xs).map .str ++ [.str ")"]) := by rw [toks, List.map_cons, List.map_append]; rfl
      have e1 : PL.loop (Ck.ls lw ((toks (.b xs)).map .str)).ok (.nm 3) (b_nest_of_1 (F (k + 2))) (Dv.str "(" :: ((tokss xs).map .str ++ [.str ")"])) (ρn x S.length .non none none) S2 = _ := (loop_ct st hys rfl).trans (e4.trans ((loop_nx st5' c4.hw rfl).trans (loop_nil hw5)))
      exact (congrArg (fun z => PL.loop (Ck.ls lw ((toks (.b xs)).map .str)).ok (.nm 3) (b_nest_of_1 (F (k + 2))) z (ρn x S.length .non none none) S2) et).trans e1
    · refine (seq_of (expr_of (d := .non) (S' := S5) (by simp only [ev_var, ev_con, ev_bin, ev_un, ev_anil, ev_acons, ev_call, ev_tup, ev_lst, ev_not, ev_and, ev_or, ev_if, ev_cbl, ev_btrue, ev_cand, ev_cor, ev_cnot, ev_sli, ev_onone, ev_osome, ev_chain, ev_meth, ev_get2, ev_newK, ev_newT, ev_own, ev_nil, ev_seq, ev_expr, ev_set, ev_ret, ev_retN, ev_cif, ev_brk, ev_ct, ev_asg, ev_put, ev_aug, ev_for, ev_comp, ev_newL, ev_iseq, ev_irange, ev_ienum, ev_yes, Out.bind_ok, Out.bindN_ok, bindS_ok, Tg.set, Tg.sets, List.getElem?_cons_zero, List.getElem?_cons_succ, List.set_cons_zero, List.set_cons_succ, wipeE, List.length_cons, List.length_nil, Nat.reduceAdd, Nat.reduceLeDiff, Nat.reduceEqDiff, ↓reduceIte, Bool.false_eq_true, decide_eq_true_eq, add_int, sub_int, lt_int, gt_int, le_int, ge_int, neg_int, and_int, or_int, xor_int, max2_int, min2_int, mod_pos, fdiv_sm, mul_sm, mul_smr, Int.reduceLT, Int.reduceNeg, int_bl, int_int, sli_tup, isN_ref, need_run]))).trans (ret_of (by simp only [ev_var, ev_con, ev_bin, ev_un, ev_anil, ev_acons, ev_call, ev_tup, ev_lst, ev_not, ev_and, ev_or, ev_if, ev_cbl, ev_btrue, ev_cand, ev_cor, ev_cnot, ev_sli, ev_onone, ev_osome, ev_chain, ev_meth, ev_get2, ev_newK, ev_newT, ev_own, ev_nil, ev_seq, ev_expr, ev_set, ev_ret, ev_retN, ev_cif, ev_brk, ev_ct, ev_asg, ev_put, ev_aug, ev_for, ev_comp, ev_newL, ev_iseq, ev_irange, ev_ienum, ev_yes, Out.bind_ok, Out.bindN_ok, bindS_ok, Tg.set, Tg.sets, List.getElem?_cons_zero, List.getElem?_cons_succ, List.set_cons_zero, List.set_cons_succ, wipeE, List.length_cons, List.length_nil, Nat.reduceAdd, Nat.reduceLeDiff, Nat.reduceEqDiff, ↓reduceIte, Bool.false_eq_true, decide_eq_true_eq, add_int, sub_int, lt_int, gt_int, le_int, ge_int, neg_int, and_int, or_int, xor_int, max2_int, min2_int, mod_pos, fdiv_sm, mul_sm, mul_smr, Int.reduceLT, Int.reduceNeg, int_bl, int_int, sli_tup]))
  · exact ⟨by have := g2.le; have := g3.le; have := f3.le; have := f4.le; have := f5.le; omega, fun l o e _ => by
      have hl := lt_of_at e
      have := g2.le
      refine f5.get _ _ (f4.get _ _ (f3.get _ _ (g3.at (g2.at (g1.at e))) ?_) ?_) ?_
      · show l ≠ S.length; omega
      · show ¬ (l = S.length ∨ l = S2.length); omega
      · show l ≠ S.length; omega⟩
  · refine .b (by have := g2.le; omega) hl5 l4 fun i d n h1 h2 => ?_
    exact (na i d n h1 h2).fr f5 (fun l z => by have z : l = S.length := z; have := g2.le; omega) (by have := g2.le; omega)
/-! brackets written -/
def jl : List (List Nat) → List Nat
  | [] => []
  | [x] => x
  | x :: y :: r => x ++ 32 :: jl (y :: r)
theorem cs_sjoin : ∀ ys : List Str, cs (Str.join " " ys) = jl (ys.map cs)
  | [] => rfl
  | [x] => rfl
  | x :: y :: r => by
    show cs (x ++ " " ++ Str.join " " (y :: r)) = _
    rw [List.map_cons, List.map_cons, jl, ← List.map_cons, ← cs_sjoin (y :: r)]
    show (x ++ " " ++ Str.join " " (y :: r)).cps.toList = _
    rw [str_app, str_app, List.append_assoc]; rfl
theorem cs_join (ys : List Str) : cs (Txt.join " " ys) = jl (ys.map cs) := by
  have : Txt.join " " ys = Str.join " " ys := StrLaws.glued_eq_join _ _
  rw [this, cs_sjoin]
def stx (l : List Nat) : Str := ⟨l.toArray⟩
theorem cs_stx (l : List Nat) : cs (stx l) = l := List.toList_toArray
theorem stx_cs (x : Str) : stx (cs x) = x := cs_ext (cs_stx _)
theorem cs_app (a b : Str) : cs (a ++ b) = cs a ++ cs b := str_app a b
theorem br_eq (ys : List Str) : ("(" : Str) ++ Txt.join " " ys ++ (")" : Str) = stx (40 :: (jl (ys.map cs) ++ [41])) := by
  refine cs_ext ?_
  rw [cs_app, cs_app, cs_join, cs_stx]
  show [40] ++ _ ++ [41] = _
  rw [List.append_assoc]
  rfl
theorem jl_len : ∀ l : List (List Nat), (jl l).length ≤ (l.map List.length).sum + l.length
  | [] => Nat.le_refl _
  | [x] => by show x.length ≤ (x.length + 0) + 1; omega
  | x :: y :: r => by
    have := jl_len (y :: r)
    rw [jl, List.length_append, List.length_cons, List.map_cons, List.sum_cons, List.length_cons]
    omega
theorem lens_cs (ys : List Str) : (ys.map (·.length)).sum = ((ys.map cs).map List.length).sum := by
  rw [List.map_map]
  congr 1
theorem stx_len (l : List Nat) : (stx l).length = l.length := by rw [← cs_len, cs_stx]
theorem lstr1 : ("(" : Str).length = 1 ∧ (")" : Str).length = 1 := by decide
theorem strs_of_map : ∀ ys : List Str, strsOf (ys.map .str) = some ys
  | [] => rfl
  | y :: ys => by rw [List.map_cons, strsOf, strs_of_map ys]; rfl
theorem br_run {S : Sto} {l : Nat} {ys : List Str} (h : S[l]? = some (.lst (ys.map .str))) (hl : (ys.map (·.length)).sum + ys.length ≤ 10000000) :
    (joinD (.str " ") [.ref l] S = .ok (.str (Txt.join " " ys)) S) ∧ addD (.str "(") (.str (Txt.join " " ys)) S = .ok (.str ("(" ++ Txt.join " " ys)) S ∧ addD (.str ("(" ++ Txt.join " " ys)) (.str ")") S = .ok (.str (stx (40 :: (jl (ys.map cs) ++ [41])))) S := by
  have hj := jl_len (ys.map cs)
  rw [← lens_cs, List.length_map, ← cs_join, cs_len] at hj
  refine ⟨?_, ?_, ?_⟩
  · have l1 : (" " : Str).length = 1 := by decide
    have e : seqOf S (.ref l) = some (ys.map .str) := by simp only [seqOf, lst_ref h]; rfl
    simp only [joinD, e, Option.bind_some, strs_of_map ys, l1, Nat.mul_one]
    rw [if_pos (by omega)]
  · exact add_str (sline _ (by rw [lstr1.1]; omega))
  · rw [add_str (sline _ (by rw [strlen_app, lstr1.1, lstr1.2]; omega)), br_eq]
theorem bracketed_run {k : Nat} {S : Sto} {l : Nat} {ys : List Str} (h : S[l]? = some (.lst (ys.map .str))) (hl : (ys.map (·.length)).sum + ys.length ≤ 10000000) : F (k + 1) .bracketed [.ref l] S = .ok (.str (stx (40 :: (jl (ys.map cs) ++ [41])))) S := by
  obtain ⟨e1, e2, e3⟩ := br_run h hl
  rw [F_bracketed]
  refine runF_rt (ρ := [some (.ref l)]) rfl rfl ?_
  unfold c_bracketed
  have tq : tyQ "str" (.str " ") S = true := rfl
  exact ret_of (by simp only [ev_var, ev_con, ev_bin, ev_un, ev_anil, ev_acons, ev_call, ev_tup, ev_lst, ev_not, ev_and, ev_or, ev_if, ev_cbl, ev_btrue, ev_cand, ev_cor, ev_cnot, ev_sli, ev_onone, ev_osome, ev_chain, ev_meth, ev_get2, ev_newK, ev_newT, ev_own, ev_nil, ev_seq, ev_expr, ev_set, ev_ret, ev_retN, ev_cif, ev_brk, ev_ct, ev_asg, ev_put, ev_aug, ev_for, ev_comp, ev_newL, ev_iseq, ev_irange, ev_ienum, ev_yes, Out.bind_ok, Out.bindN_ok, bindS_ok, Tg.set, Tg.sets, List.getElem?_cons_zero, List.getElem?_cons_succ, List.set_cons_zero, List.set_cons_succ, wipeE, List.length_cons, List.length_nil, Nat.reduceAdd, Nat.reduceLeDiff, Nat.reduceEqDiff, ↓reduceIte, Bool.false_eq_true, decide_eq_true_eq, add_int, sub_int, lt_int, gt_int, le_int, ge_int, neg_int, and_int, or_int, xor_int, max2_int, min2_int, mod_pos, fdiv_sm, mul_sm, mul_smr, Int.reduceLT, Int.reduceNeg, int_bl, int_int, sli_tup, tq, e1, e2, e3])
mutual
def shl : Ne → List Nat
  | .w x => cs x
  | .b xs => 40 :: (jl (shls xs) ++ [41])
def shls : List Ne → List (List Nat)
  | [] => []
  | n :: ns => shl n :: shls ns
end
theorem shls_map : ∀ ns : List Ne, shls ns = ns.map shl
  | [] => by rw [shls]; rfl
  | n :: ns => by rw [shls, shls_map ns]; rfl
structure Wd (x : Str) : Prop where
  sk : Sk x
  len : x.length ≤ 9
  ne : cs x ≠ []
  pl : ∀ c ∈ cs x, ¬ (c = 32 ∨ c = 10) ∧ ¬ (c = 40 ∨ c = 41)
theorem Wd.ok {x : Str} (h : Wd x) : WdOk x := by
  refine ⟨h.sk, fun e => ?_, fun e => ?_⟩
  · exact (h.pl 40 (by rw [e]; decide)).2 (.inl rfl)
  · exact (h.pl 41 (by rw [e]; decide)).2 (.inr rfl)
def Sep : List Nat → Prop
  | [] => True
  | c :: _ => (c = 32 ∨ c = 10) ∨ (c = 40 ∨ c = 41)
theorem sep_flu {r : List Nat} (h : Sep r) (w : List Nat) : tk w r = flu w ++ tk [] r := by
  cases r with
  | nil => rw [tk, tk, flu_nil, List.append_nil]
  | cons c r =>
    rcases h with h | h
    · rw [tk, tk, if_pos h, if_pos h, flu_nil, List.nil_append]
    · rw [tk, tk, if_neg (by omega), if_pos h, if_neg (by omega), if_pos h, flu_nil, List.nil_append]
theorem tk_word : ∀ (l w r : List Nat), (∀ c ∈ l, ¬ (c = 32 ∨ c = 10) ∧ ¬ (c = 40 ∨ c = 41)) → tk w (l ++ r) = tk (w ++ l) r
  | [], w, r, _ => by rw [List.append_nil]; rfl
  | c :: l, w, r, h => by
    have := h c (by simp)
    show tk w (c :: (l ++ r)) = _
    rw [tk, if_neg this.1, if_neg this.2, tk_word l _ r fun d hd => h d (by simp [hd]), List.append_assoc]; rfl
mutual
theorem tk_shl : ∀ (n : Ne) (r : List Nat), (∀ x ∈ wds n, Wd x) → Sep r → tk [] (shl n ++ r) = (toks n).map cs ++ tk [] r
  | .w x, r, h, hr => by
    have hx := h x (by rw [wds]; simp)
    rw [shl, toks, tk_word _ _ _ hx.pl, List.nil_append, sep_flu hr, flu_ne hx.ne]; rfl
  | .b xs, r, h, hr => by
    have ih := tk_shls xs (41 :: r) (fun x hx => h x (by rw [wds]; exact hx)) (show Sep (41 :: r) from .inr (.inr rfl))
    rw [shl, toks]
    show tk [] (40 :: ((jl (shls xs) ++ [41]) ++ r)) = _
    rw [tk_par (.inl rfl), flu_nil, List.nil_append, List.append_assoc]
    show [40] :: tk [] (jl (shls xs) ++ 41 :: r) = _
    rw [ih, tk_par (.inr rfl), flu_nil, List.nil_append, List.map_cons, List.map_append, List.cons_append, List.append_assoc]; rfl
theorem tk_shls : ∀ (ns : List Ne) (r : List Nat), (∀ x ∈ wdss ns, Wd x) → Sep r → tk [] (jl (shls ns) ++ r) = (tokss ns).map cs ++ tk [] r
  | [], r, h, hr => by rw [shls, jl, tokss]; rfl
  | n :: ns, r, h, hr => by
    have h1 : ∀ x ∈ wds n, Wd x := fun x hx => h x (by rw [wdss]; exact List.mem_append_left _ hx)
    have h2 : ∀ x ∈ wdss ns, Wd x := fun x hx => h x (by rw [wdss]; exact List.mem_append_right _ hx)
    have ih := tk_shls ns r h2 hr
    cases ns with
    | nil =>
      rw [shls, shls, jl, tk_shl n r h1 hr, tokss, tokss, List.append_nil]
    | cons m ns =>
      rw [shls] at ih
      rw [show tokss (n :: m :: ns) = toks n ++ tokss (m :: ns) from by rw [tokss], List.map_append, List.append_assoc, shls, shls, jl, List.append_assoc, List.cons_append, tk_shl n _ h1 (show Sep (32 :: _) from .inl (.inl rfl)), tk, if_pos (.inl rfl), flu_nil, List.nil_append, ih]
end
theorem tk_show {n : Ne} (h : ∀ x ∈ wds n, Wd x) : tk [] (shl n) = (toks n).map cs := by
  have := tk_shl n [] h trivial
  rw [List.append_nil, tk, flu_nil, List.append_nil] at this
  exact this
mutual
theorem shl_len : ∀ n : Ne, (∀ x ∈ wds n, Wd x) → (shl n).length + 1 ≤ 10 * (toks n).length
  | .w x, h => by
    have hx := h x (by rw [wds]; simp)
    have := hx.len
    have := cs_len x
    rw [shl, toks, List.length_cons, List.length_nil]; omega
  | .b xs, h => by
    have ih := shls_len xs fun x hx => h x (by rw [wds]; exact hx)
    have := jl_len (shls xs)
    rw [shl, toks, List.length_cons, List.length_append, List.length_cons, List.length_cons, List.length_append, List.length_cons, List.length_nil]
    simp only [List.length_nil]; omega
theorem shls_len : ∀ ns : List Ne, (∀ x ∈ wdss ns, Wd x) → ((shls ns).map List.length).sum + (shls ns).length ≤ 10 * (tokss ns).length
  | [], h => by rw [shls]; simp
  | n :: ns, h => by
    have i1 := shl_len n fun x hx => h x (by rw [wdss]; exact List.mem_append_left _ hx)
    have i2 := shls_len ns fun x hx => h x (by rw [wdss]; exact List.mem_append_right _ hx)
    rw [shls, tokss, List.length_append, List.map_cons, List.sum_cons, List.length_cons]; omega
end
theorem jl_mem : ∀ (l : List (List Nat)) (c : Nat), c ∈ jl l → c = 32 ∨ ∃ x ∈ l, c ∈ x
  | [], c, h => by simp [jl] at h
  | [x], c, h => .inr ⟨x, by simp, h⟩
  | x :: y :: r, c, h => by
    rw [jl] at h
    rcases List.mem_append.mp h with h | h
    · exact .inr ⟨x, by simp, h⟩
    · rcases List.mem_cons.mp h with h | h
      · exact .inl h
      · rcases jl_mem (y :: r) c h with z | ⟨w, hw, hc⟩
        · exact .inl z
        · exact .inr ⟨w, List.mem_cons_of_mem _ hw, hc⟩
mutual
theorem shl_sk : ∀ n : Ne, (∀ x ∈ wds n, Sk x) → ∀ c ∈ shl n, c < 1114112
  | .w x, h, c, hc => sk_lt (h x (by rw [wds]; simp)) c hc
  | .b xs, h, c, hc => by
    have ih := shls_sk xs fun x hx => h x (by rw [wds]; exact hx)
    rw [shl] at hc
    rcases List.mem_cons.mp hc with hc | hc
    · omega
    · rcases List.mem_append.mp hc with hc | hc
      · rcases jl_mem _ _ hc with z | ⟨w, hw, hc⟩
        · omega
        · exact ih w hw c hc
      · have := List.mem_singleton.mp hc; omega
theorem shls_sk : ∀ ns : List Ne, (∀ x ∈ wdss ns, Sk x) → ∀ w ∈ shls ns, ∀ c ∈ w, c < 1114112
  | [], h, w, hw, c, hc => by rw [shls] at hw; cases hw
  | n :: ns, h, w, hw, c, hc => by
    rw [shls] at hw
    rcases List.mem_cons.mp hw with rfl | hw
    · exact shl_sk n (fun x hx => h x (by rw [wdss]; exact List.mem_append_left _ hx)) c hc
    · exact shls_sk ns (fun x hx => h x (by rw [wdss]; exact List.mem_append_right _ hx)) w hw c hc
end
abbrev txN (n : Ne) : Str := stx (shl n)
theorem txN_sk {n : Ne} (h : ∀ x ∈ wds n, Wd x) : Sk (txN n) := sk_of fun c hc => by
  have hc : c ∈ cs (txN n) := hc
  rw [cs_stx] at hc
  exact shl_sk n (fun x hx => (h x hx).sk) c hc
theorem txN_len {n : Ne} (h : ∀ x ∈ wds n, Wd x) : (txN n).length + 1 ≤ 10 * (toks n).length := by rw [stx_len]; exact shl_len n h
theorem br_txN (ns : List Ne) : stx (40 :: (jl ((ns.map txN).map cs) ++ [41])) = txN (.b ns) := by
  have : (ns.map txN).map cs = shls ns := by
    rw [List.map_map, shls_map]
    exact List.map_congr_left fun n _ => cs_stx _
  rw [this]; unfold txN; rw [shl]
theorem txs_sum (ns : List Ne) (h : ∀ x ∈ wdss ns, Wd x) : ((ns.map txN).map (·.length)).sum + (ns.map txN).length ≤ 10 * (tokss ns).length := by
  have := shls_len ns h
  have e : (ns.map txN).map (·.length) = (shls ns).map List.length := by
    rw [shls_map, List.map_map, List.map_map]
    exact List.map_congr_left fun n _ => stx_len _
  have e2 : (shls ns).length = ns.length := by rw [shls_map, List.length_map]
  rw [e, List.length_map]; omega
theorem txN_w (x : Str) : txN (.w x) = x := by unfold txN; rw [shl, stx_cs]
theorem NeAt.gr {S S' : Sto} {lb : Nat} {d : Dv} {n : Ne} (h : NeAt S lb d n) (g : Gr S S') : NeAt S' lb d n := h.fr g (fun l z => z.elim) (Nat.le_refl _)
theorem isi_lst {S : Sto} {l : Nat} {ds : List Dv} (h : S[l]? = some (.lst ds)) : isiD "list" (.ref l) S = .ok (.bl true) S := by
  simp only [isiD, tyN, h]; rfl
theorem low_ok {x : Str} (h : NameOk x) : isName x = true := by
  have e : low x = true := List.all_eq_true.mpr fun c hc => decide_eq_true (h.low c hc)
  unfold isName
  rw [e, decide_eq_true h.len.1, decide_eq_true h.len.2, decide_eq_false h.free]; rfl
theorem need_name_run {k : Nat} {x : Str} {S : Sto} (h : NameOk x) : F (k + 2) .need_name [.str x] S = .ok (.str x) S := by
  rw [F_need_name]
  refine runF_rt (ρ := [some (.str x)]) rfl rfl ?_
  unfold c_need_name
  have e := is_name_run (k := k) (S := S) (x := x) ⟨h.sk, by have := h.len; omega⟩
  rw [low_ok h] at e
  have i : isiD "str" (.str x) S = .ok (.bl true) S := rfl
  refine (seq_of (expr_of (d := .non) (S' := S) (by simp only [ev_var, ev_con, ev_bin, ev_un, ev_anil, ev_acons, ev_call, ev_tup, ev_lst, ev_not, ev_and, ev_or, ev_if, ev_cbl, ev_btrue, ev_cand, ev_cor, ev_cnot, ev_sli, ev_onone, ev_osome, ev_chain, ev_meth, ev_get2, ev_newK, ev_newT, ev_own, ev_nil, ev_seq, ev_expr, ev_set, ev_ret, ev_retN, ev_cif, ev_brk, ev_ct, ev_asg, ev_put, ev_aug, ev_for, ev_comp, ev_newL, ev_iseq, ev_irange, ev_ienum, ev_yes, Out.bind_ok, Out.bindN_ok, bindS_ok, Tg.set, Tg.sets, List.getElem?_cons_zero, List.getElem?_cons_succ, List.set_cons_zero, List.set_cons_succ, wipeE, List.length_cons, List.length_nil, Nat.reduceAdd, Nat.reduceLeDiff, Nat.reduceEqDiff, ↓reduceIte, Bool.false_eq_true, decide_eq_true_eq, add_int, sub_int, lt_int, gt_int, le_int, ge_int, neg_int, and_int, or_int, xor_int, max2_int, min2_int, mod_pos, fdiv_sm, mul_sm, mul_smr, Int.reduceLT, Int.reduceNeg, int_bl, int_int, sli_tup, i, e, need_run]))).trans (ret_of (by simp only [ev_var, ev_con, ev_bin, ev_un, ev_anil, ev_acons, ev_call, ev_tup, ev_lst, ev_not, ev_and, ev_or, ev_if, ev_cbl, ev_btrue, ev_cand, ev_cor, ev_cnot, ev_sli, ev_onone, ev_osome, ev_chain, ev_meth, ev_get2, ev_newK, ev_newT, ev_own, ev_nil, ev_seq, ev_expr, ev_set, ev_ret, ev_retN, ev_cif, ev_brk, ev_ct, ev_asg, ev_put, ev_aug, ev_for, ev_comp, ev_newL, ev_iseq, ev_irange, ev_ienum, ev_yes, Out.bind_ok, Out.bindN_ok, bindS_ok, Tg.set, Tg.sets, List.getElem?_cons_zero, List.getElem?_cons_succ, List.set_cons_zero, List.set_cons_succ, wipeE, List.length_cons, List.length_nil, Nat.reduceAdd, Nat.reduceLeDiff, Nat.reduceEqDiff, ↓reduceIte, Bool.false_eq_true, decide_eq_true_eq, add_int, sub_int, lt_int, gt_int, le_int, ge_int, neg_int, and_int, or_int, xor_int, max2_int, min2_int, mod_pos, fdiv_sm, mul_sm, mul_smr, Int.reduceLT, Int.reduceNeg, int_bl, int_int, sli_tup]))
theorem abc_pl : ∀ c ∈ abc.cps.toList, ¬ (c = 32 ∨ c = 10) ∧ ¬ (c = 40 ∨ c = 41) := by
  have : abc.cps.toList.all (fun c => decide (¬ (c = 32 ∨ c = 10) ∧ ¬ (c = 40 ∨ c = 41))) = true := by decide +kernel
  intro c hc
  exact of_decide_eq_true (List.all_eq_true.mp this c hc)
theorem wd_name {x : Str} (h : NameOk x) : Wd x := by
  have := h.len
  refine ⟨h.sk, by omega, fun e => ?_, fun c hc => abc_pl c (h.low c hc)⟩
  have e2 := cs_len x
  rw [e, List.length_nil] at e2; omega
/-! a text with more or fewer blanks -/
structure Lo (B : Nat) (T : List (List Nat)) (x : Str) : Prop where
  sk : Sk x
  len : x.length ≤ B
  tk : tk [] (cs x) = T
theorem Lo.le {B B' : Nat} {T : List (List Nat)} {x : Str} (h : Lo B T x) (hb : B ≤ B') : Lo B' T x := ⟨h.sk, Nat.le_trans h.len hb, h.tk⟩
theorem fm_len (f : Nat → List Nat) (m : Nat) (hf : ∀ c, (f c).length ≤ m) : ∀ l : List Nat, (l.flatMap f).length ≤ l.length * m
  | [] => by simp
  | c :: l => by
    have := fm_len f m hf l
    have := hf c
    rw [List.flatMap_cons, List.length_append, List.length_cons, Nat.succ_mul]; omega
theorem lo_rep {B m : Nat} {T : List (List Nat)} {x : Str} (h : Lo B T x) {a : Nat} {y z : Str} (hy : cs y = [a]) (hz : Sk z) (h1 : 1 ≤ m) (hm : (cs z).length ≤ m) (hl : LooseAt (fun c => if c = a then cs z else [c]) a) : Lo (B * m) T (Txt.replace x y z) := by
  have yl : 1 ≤ y.length := by rw [← cs_len, hy]; exact Nat.le_refl _
  have e : cs (Txt.replace x y z) = (cs x).flatMap fun c => if c = a then cs z else [c] := by
    show (Txt.replace x y z).cps.toList = _
    rw [StrLaws.replace_list yl]
    show StrLaws.replL (cs y) (cs z) (cs x) = _
    rw [hy, repl1]
  refine ⟨sk_of fun c hc => ?_, ?_, ?_⟩
  · have hc : c ∈ cs (Txt.replace x y z) := hc
    rw [e, List.mem_flatMap] at hc
    obtain ⟨d, hd, hc⟩ := hc
    split at hc
    · exact sk_lt hz c hc
    · rw [List.mem_singleton.mp hc]; exact sk_lt h.sk d hd
  · rw [← cs_len, e]
    refine Nat.le_trans (fm_len _ m (fun c => ?_) _) (Nat.mul_le_mul_right _ (by rw [cs_len]; exact h.len))
    split
    · exact hm
    · exact h1
  · rw [e, tk_loose fun c => ?_]
    · exact h.tk
    · by_cases q : c = a
      · subst q; exact hl
      · exact .inl (if_neg q)
theorem lo_sp {B : Nat} {T : List (List Nat)} {x : Str} (h : Lo B T x) {z : Str} (hz : z ∈ [(" " : Str), "  ", "\n "]) : Lo (B * 2) T (Txt.replace x " " z) := by
  have hz' : z = " " ∨ z = "  " ∨ z = "\n " := by simpa using hz
  rcases hz' with rfl | rfl | rfl
  · exact lo_rep h (a := 32) (by decide) (by decide +kernel) (by omega) (by decide) (.inl rfl)
  · exact lo_rep h (a := 32) (by decide) (by decide +kernel) (by omega) (by decide) (.inr (.inl ⟨rfl, fun c hc => by have : c ∈ ([32, 32] : List Nat) := hc; simp at this; exact .inl this, fun z => by cases z⟩))
  · exact lo_rep h (a := 32) (by decide) (by decide +kernel) (by omega) (by decide) (.inr (.inl ⟨rfl, fun c hc => by have : c ∈ ([10, 32] : List Nat) := hc; simp at this; omega, fun z => by cases z⟩))
theorem bl_of (l : List Nat) (h : l.all (fun c => decide (c = 32 ∨ c = 10)) = true) : Bl l := fun c hc => of_decide_eq_true (List.all_eq_true.mp h c hc)
theorem lo_op {B : Nat} {T : List (List Nat)} {x : Str} (h : Lo B T x) {z : Str} (hz : z ∈ [("( " : Str), "\n(", " ( "]) : Lo (B * 3) T (Txt.replace x "(" z) := by
  have hz' : z = "( " ∨ z = "\n(" ∨ z = " ( " := by simpa using hz
  rcases hz' with rfl | rfl | rfl
  · exact lo_rep h (a := 40) (by decide) (by decide +kernel) (by omega) (by decide) (.inr (.inr ⟨.inl rfl, [], [32], bl_of _ rfl, bl_of _ rfl, rfl⟩))
  · exact lo_rep h (a := 40) (by decide) (by decide +kernel) (by omega) (by decide) (.inr (.inr ⟨.inl rfl, [10], [], bl_of _ rfl, bl_of _ rfl, rfl⟩))
  · exact lo_rep h (a := 40) (by decide) (by decide +kernel) (by omega) (by decide) (.inr (.inr ⟨.inl rfl, [32], [32], bl_of _ rfl, bl_of _ rfl, rfl⟩))
theorem lo_cl {B : Nat} {T : List (List Nat)} {x : Str} (h : Lo B T x) {z : Str} (hz : z ∈ [(" )" : Str), ")\n", "\n ) "]) : Lo (B * 4) T (Txt.replace x ")" z) := by
  have hz' : z = " )" ∨ z = ")\n" ∨ z = "\n ) " := by simpa using hz
  rcases hz' with rfl | rfl | rfl
  · exact lo_rep h (a := 41) (by decide) (by decide +kernel) (by omega) (by decide) (.inr (.inr ⟨.inr rfl, [32], [], bl_of _ rfl, bl_of _ rfl, rfl⟩))
  · exact lo_rep h (a := 41) (by decide) (by decide +kernel) (by omega) (by decide) (.inr (.inr ⟨.inr rfl, [], [10], bl_of _ rfl, bl_of _ rfl, rfl⟩))
  · exact lo_rep h (a := 41) (by decide) (by decide +kernel) (by omega) (by decide) (.inr (.inr ⟨.inr rfl, [10, 32], [32], bl_of _ rfl, bl_of _ rfl, rfl⟩))
theorem replL_mem (y z : List Nat) (hy : y ≠ []) : ∀ (n : Nat) (l : List Nat), l.length ≤ n → ∀ c ∈ StrLaws.replL y z l, c ∈ z ∨ c ∈ l
  | _, [], _, c, hc => by rw [StrLaws.replL_nil] at hc; cases hc
  | 0, c :: l, h, _, _ => by simp at h
  | n + 1, d :: l, h, c, hc => by
    rw [List.length_cons] at h
    by_cases q : y ≠ [] ∧ (d :: l).take y.length = y
    · rw [StrLaws.replL_hit (by have := q.1; cases y <;> simp_all) q.2] at hc
      rcases List.mem_append.mp hc with z1 | z1
      · exact .inl z1
      · have h1 : 1 ≤ y.length := by have := q.1; cases y <;> simp_all
        rcases replL_mem y z hy n _ (by rw [List.length_drop, List.length_cons]; omega) c z1 with w | w
        · exact .inl w
        · exact .inr (List.mem_of_mem_drop w)
    · rw [StrLaws.replL_miss (fun w => q ⟨hy, w⟩)] at hc
      rcases List.mem_cons.mp hc with w | w
      · exact .inr (by simp [w])
      · rcases replL_mem y z hy n l (by omega) c w with w | w
        · exact .inl w
        · exact .inr (by simp [w])
theorem lo_tight {B : Nat} {T : List (List Nat)} {x : Str} (h : Lo B T x) : Lo (B * 2 + 1) T (Txt.replace x " (" "(") := by
  have e : cs (Txt.replace x " (" "(") = StrLaws.replL [32, 40] [40] (cs x) := by
    show (Txt.replace x " (" "(").cps.toList = _
    rw [StrLaws.replace_list (by decide)]
    rfl
  refine ⟨sk_of fun c hc => ?_, ?_, ?_⟩
  · have hc : c ∈ cs (Txt.replace x " (" "(") := hc
    rw [e] at hc
    rcases replL_mem _ _ (by simp) _ _ (Nat.le_refl _) c hc with w | w
    · rw [List.mem_singleton.mp w]; omega
    · exact sk_lt h.sk c w
  · have := TK.replace_len x " (" "("
    have l1 : ("(" : Str).length = 1 := by decide
    rw [l1] at this
    have := h.len
    omega
  · rw [e, tk_tight _ _ _ (Nat.le_refl _)]
    exact h.tk
theorem rep3_run {o e : RE} {y z0 z1 z2 x : Str} {v : Int} {ρ : PL.Env} {S : Sto} (ho : o ρ S = .ok (.str x) S) (he : e ρ S = .ok (.int (v % 3)) S) (hl : x.length ≤ 1000000) (hz : ∀ z ∈ [z0, z1, z2], z.length ≤ 10) : ∃ z ∈ [z0, z1, z2], eReplI y [z0, z1, z2] o e ρ S = .ok (.str (Txt.replace x y z)) S := by
  have m0 := Int.emod_nonneg v (b := 3) (by omega)
  have m1 := Int.emod_lt_of_pos v (b := 3) (by omega)
  obtain ⟨j, hj⟩ := Int.eq_ofNat_of_zero_le m0
  have hj3 : j < 3 := by omega
  have hg : [z0, z1, z2][j]? = some ([z0, z1, z2][j]'hj3) := List.getElem?_eq_getElem hj3
  have hm : [z0, z1, z2][j]'hj3 ∈ [z0, z1, z2] := List.getElem_mem _
  refine ⟨_, hm, ?_⟩
  have hzl := hz _ hm
  unfold eReplI
  rw [ho, Out.bind_ok]
  dsimp only
  rw [he, Out.bind_ok]
  dsimp only
  have hn : (v % 3).toNat = j := by omega
  rw [if_pos m0, hn, hg]
  dsimp only
  rw [if_pos]
  have : (x.length + 1) * ([z0, z1, z2][j]'hj3).length ≤ (x.length + 1) * 10 := Nat.mul_le_mul_left _ hzl
  omega
theorem tight_run {x : Str} {S : Sto} (hl : x.length ≤ 1000000) : replD " (" "(" (.str x) S = .ok (.str (Txt.replace x " (" "(")) S := by
  have l1 : ("(" : Str).length = 1 := by decide
  simp only [replD]
  rw [if_pos (by rw [l1]; omega)]
theorem lo_txN {n : Ne} (h : ∀ x ∈ wds n, Wd x) : Lo (10 * (toks n).length) ((toks n).map cs) (txN n) := ⟨txN_sk h, by have := txN_len h; omega, by rw [show cs (txN n) = shl n from cs_stx _]; exact tk_show h⟩
/-! plain data: == with itself -/
def plN : Nat → Dv → Bool
  | _, .non => true
  | _, .bl _ => true
  | _, .int _ => true
  | _, .str x => PyData.strOk x
  | n + 1, .tup ds => ds.all (plN n)
  | _, _ => false
theorem pl_toP : ∀ (n : Nat) (d : Dv), plN n d = true → ∀ (f : Nat) (S : Sto), n < f → ∃ p, toP f S d = some p ∧ p.canLay0 = true ∧ p.depth ≤ n ∧ PyData.eqv p p = true
  | n, .non, _, f + 1, S, _ => ⟨.none, by simp only [toP], rfl, Nat.zero_le _, rfl⟩
  | n, .bl b, _, f + 1, S, _ => ⟨.bool b, by simp only [toP], rfl, Nat.zero_le _, by cases b <;> rfl⟩
  | n, .int i, _, f + 1, S, _ => ⟨.int i, by simp only [toP], rfl, Nat.zero_le _, by simp [PyData.eqv]⟩
  | n, .str x, h, f + 1, S, _ => ⟨.str x, by simp only [toP], by rw [PyData.canLay0]; unfold plN at h; exact h, by rw [PyData.depth]; exact Nat.zero_le _, by simp [PyData.eqv]⟩
  | n + 1, .tup ds, h, f + 1, S, hf => by
    unfold plN at h
    have H : ∀ ds : List Dv, ds.all (plN n) = true → ∃ ps, toPs f S ds = some ps ∧ PyData.canLayAll0 ps = true ∧ PyData.depthAll ps ≤ n ∧ PyData.eqvAll ps ps = true := by
      intro ds
      induction ds with
      | nil => intro _; exact ⟨[], by simp only [toPs], by simp only [PyData.canLayAll0], by rw [PyData.depthAll]; exact Nat.zero_le _, by simp only [PyData.eqvAll]⟩
      | cons d ds ih =>
        intro h
        rw [List.all_cons, Bool.and_eq_true] at h
        obtain ⟨ps, e1, e2, e3, e4⟩ := ih h.2
        obtain ⟨p, f1, f2, f3, f4⟩ := pl_toP n d h.1 f S (by omega)
        exact ⟨p :: ps, by simp only [toPs, f1, e1], by rw [PyData.canLayAll0, f2, e2]; rfl, by rw [PyData.depthAll]; omega, by rw [PyData.eqvAll, f4, e4]; rfl⟩
    obtain ⟨ps, e1, e2, e3, e4⟩ := H ds h
    exact ⟨.tuple ps, by simp only [toP, e1, Option.map_some], by rw [PyData.canLay0]; exact e2, by rw [PyData.depth]; omega, by rw [PyData.eqv]; exact e4⟩
  | n, .non, _, 0, S, hf => by omega
  | n, .bl _, _, 0, S, hf => by omega
  | n, .int _, _, 0, S, hf => by omega
  | n, .str _, _, 0, S, hf => by omega
  | _ + 1, .tup _, _, 0, S, hf => by omega
  | 0, .tup _, h, _, _, _ => by simp [plN] at h
  | 0, .kt _, h, _, _, _ => by simp [plN] at h
  | _ + 1, .kt _, h, _, _, _ => by simp [plN] at h
  | 0, .fl _, h, _, _, _ => by simp [plN] at h
  | _ + 1, .fl _, h, _, _, _ => by simp [plN] at h
  | 0, .ref _, h, _, _, _ => by simp [plN] at h
  | _ + 1, .ref _, h, _, _, _ => by simp [plN] at h
  | 0, .xa _, h, _, _, _ => by simp [plN] at h
  | _ + 1, .xa _, h, _, _, _ => by simp [plN] at h
  | 0, .xc _ _ _ _, h, _, _, _ => by simp [plN] at h
  | _ + 1, .xc _ _ _ _, h, _, _, _ => by simp [plN] at h
theorem pl_eq {d : Dv} {S : Sto} (h : plN 39 d = true) : eqD d d S = .ok (.bl true) S ∧ neD d d S = .ok (.bl false) S := by
  obtain ⟨p, e1, e2, e3, e4⟩ := pl_toP 39 d h 40 S (by omega)
  have hs : SeqAt.shaped p = true := by unfold SeqAt.shaped; rw [e2, Bool.true_and]; exact decide_eq_true (by omega)
  constructor
  · simp only [eqD, eqq, e1, hs, and_self, ↓reduceIte, e4]
  · simp only [neD, eqq, e1, hs, and_self, ↓reduceIte, e4]; rfl
theorem pow18 : ∃ P : Int, 0 < P ∧ ∀ S : Sto, powD (.int 10) (.int 18) S = .ok (.int P) S := by
  refine ⟨10 ^ 18, by omega, fun S => ?_⟩
  simp only [powD]
  rw [if_pos (show L2.CPow 10 18 from ⟨by omega, by omega, by omega⟩)]; rfl
theorem cutD_le {α : Type} (ds : List α) (lo hi : Option Int) : (cutD ds lo hi).length ≤ ds.length := by
  unfold cutD
  rw [List.length_take, List.length_drop]; omega
theorem cutD_map {α β : Type} (g : α → β) (xs : List α) (lo hi : Option Int) : cutD (xs.map g) lo hi = (cutD xs lo hi).map g := by
  unfold cutD
  rw [List.map_take, List.map_drop, List.length_map]
/-- some names -/
theorem names_run {f j m : Nat} {ρ : PL.Env} {S : Sto} {y : RE} (hm : m ≤ 1000) (hy : ∀ (i : Nat) (S' : Sto), i < m → Gr S S' → ∃ (x : Int) (ρ1 : PL.Env), 0 ≤ x ∧ (Tg.nm j).set (.int (i : Int)) ρ = some ρ1 ∧ y ρ1 S' = F (f + 1) .l_name [.int x] S') :
    ∃ (pool : List Str) (S' : Sto), compL Ck.tt.ok (.nm j) cYes y ρ (rangeL 0 (m : Int)) [] S = .ok (pool.map .str) S' ∧ Gr S S' ∧ pool.length = m ∧ ∀ x ∈ pool, NameOk x := by
  obtain ⟨acc, S2, e2, pool, rfl, hpl, hpk, g2⟩ := comp_gen (ck := Ck.tt.ok) (t := .nm j) (c := cYes) (y := y) (acc := []) (S := S)
    (fun i acc S' => ∃ pool : List Str, acc = pool.map .str ∧ pool.length = i ∧ (∀ x ∈ pool, NameOk x) ∧ Gr S S') (rangeL 0 (m : Int)) ρ
    (fun i v acc S' hv ⟨pool, ha, hpl, hk, g⟩ => by
      obtain ⟨rfl, hlt⟩ := rangeL_get hv
      rw [Int.zero_add] at hlt ⊢
      obtain ⟨x, ρ1, h0, h1, h2⟩ := hy i S' (by omega) g
      obtain ⟨w, S3, ew, gw, okw⟩ := name_run (S := S') h0
      have ew' : F (f + 1) .l_name [.int x] S' = .ok (.str w) S3 := ew
      refine ⟨trivial, ρ1, h1, true, S', rfl, fun _ => ?_, fun z => nomatch z⟩
      refine ⟨.str w, S3, by rw [h2, ew'], ?_, pool ++ [w], by simp [ha], by simp [hpl], fun y hy => ?_, g.trans gw⟩
      · rw [ha, List.length_map]; show _ < 2 ^ 24; omega
      · rcases List.mem_append.mp hy with hy | hy
        · exact hk y hy
        · rw [List.mem_singleton] at hy; subst hy; exact okw)
    (fun _ _ _ => trivial) ⟨[], rfl, rfl, by simp, .refl _⟩
  exact ⟨pool, S2, e2, g2, by rw [hpl, rangeL_len]; omega, hpk⟩
/-- a row of names -/
structure PoolN (S : Sto) (l n : Nat) (pool : List Str) : Prop where
  h : S[l]? = some (.lst (pool.map .str))
  len : pool.length = n
  ok : ∀ x ∈ pool, NameOk x
theorem PoolN.gr {S S' : Sto} {l n : Nat} {pool : List Str} (h : PoolN S l n pool) (g : Gr S S') : PoolN S' l n pool := ⟨g.at h.h, h.len, h.ok⟩
theorem PoolN.lenD {S : Sto} {l n : Nat} {pool : List Str} (h : PoolN S l n pool) : lenD [.ref l] S = .ok (.int (n : Int)) S := by rw [len_ref h.h, List.length_map, h.len]
theorem PoolN.get {S : Sto} {l n : Nat} {pool : List Str} (h : PoolN S l n pool) (hn : 0 < n) (v : Int) : ∃ x, NameOk x ∧ idxD (.ref l) (.int (v % (n : Int))) S = .ok (.str x) S := by
  obtain ⟨a, ha, e⟩ := atI_mod (xs := pool.map Dv.str) (by intro z; have := congrArg List.length z; rw [List.length_map, h.len] at this; simp at this; omega) v
  rw [List.length_map, h.len] at e
  obtain ⟨x, hx, rfl⟩ := List.mem_map.mp ha
  exact ⟨x, h.ok x hx, idx_ref h.h e⟩
theorem idx_nat {S : Sto} {l : Nat} {ds : List Int} (h : S[l]? = some (.lst (ds.map .int))) (j : Nat) (hj : j < ds.length) : idxD (.ref l) (.int (j : Int)) S = .ok (.int (ds.getD j 0)) S := idx_ref h (atI_nat (by rw [List.getElem?_map, List.getElem?_eq_getElem hj, List.getD_eq_getElem?_getD, List.getElem?_eq_getElem hj]; rfl))
/-- blanks about brackets, or not -/
theorem loose_step {c : RT} {y : Str} {z0 z1 z2 : Str} {i : Nat} {v : Int} {B m : Nat} {T : List (List Nat)} {x : Str} {ρ : PL.Env} {S : Sto} {e : RE} (hx : Lo B T x) (hi : ρ[i]? = some (some (.str x))) (hc : ∃ b, c ρ S = .ok b S) (he : e ρ S = .ok (.int (v % 3)) S) (hl : B ≤ 1000000) (hz : ∀ z ∈ [z0, z1, z2], z.length ≤ 10) (hm : 1 ≤ m) (hlo : ∀ z ∈ [z0, z1, z2], Lo (B * m) T (Txt.replace x y z)) :
    ∃ x', Lo (B * m) T x' ∧ cIf c (cSet i (eReplI y [z0, z1, z2] (eVar i) e)) cNil ρ S = .fl (.nx (ρ.set i (some (.str x')))) S := by
  obtain ⟨b, hb⟩ := hc
  have ho : eVar i ρ S = .ok (.str x) S := by simp only [ev_var, hi]
  cases b with
  | false =>
    refine ⟨x, hx.le (Nat.le_mul_of_pos_right B hm), (if_f hb).trans ?_⟩
    have hil := (List.getElem?_eq_some_iff.mp hi).1
    have : ρ.set i (some (.str x)) = ρ := by
      have h2 := (List.getElem?_eq_some_iff.mp hi).2
      rw [← h2]; exact List.set_getElem_self hil
    rw [this]; rfl
  | true =>
    obtain ⟨z, hz', e1⟩ := rep3_run (y := y) ho he (by have := hx.len; omega) hz
    exact ⟨_, hlo z hz', (if_t hb).trans (set_of e1)⟩
/-! looks and ways, plainly -/
mutual
inductive Lk where
  | any | mark | kind (k : Str) | no (l : Lk) | two (w : Str) (l r : Lk) | way (s : Wy)
inductive Wy where
  | nil | cons (g : Str) (l : Lk) (s : Wy)
end
def wyL : Wy → List (Str × Lk)
  | .nil => []
  | .cons g l s => (g, l) :: wyL s
def wyM : List (Str × Lk) → Wy
  | [] => .nil
  | p :: r => .cons p.1 p.2 (wyM r)
theorem wyL_M : ∀ l, wyL (wyM l) = l
  | [] => rfl
  | (g, l) :: r => by rw [wyM, wyL, wyL_M r]
section
variable {P : Lk → Prop} (h1 : P .any) (h2 : P .mark) (h3 : ∀ k, P (.kind k)) (h4 : ∀ l, P l → P (.no l)) (h5 : ∀ w l r, P l → P r → P (.two w l r)) (h6 : ∀ s, (∀ p ∈ wyL s, P p.2) → P (.way s))
include h1 h2 h3 h4 h5 h6
mutual
theorem Lk.ind : ∀ l, P l
  | .any => h1
  | .mark => h2
  | .kind k => h3 k
  | .no l => h4 l (Lk.ind l)
  | .two w l r => h5 w l r (Lk.ind l) (Lk.ind r)
  | .way s => h6 s (Wy.ind s)
theorem Wy.ind : ∀ s, ∀ p ∈ wyL s, P p.2
  | .nil, p, h => by rw [wyL] at h; cases h
  | .cons g l s, p, h => by
    rw [wyL] at h
    rcases List.mem_cons.mp h with rfl | h
    · exact Lk.ind l
    · exact Wy.ind s p h
end
end
mutual
def lkD : Lk → Dv
  | .any => .tup [.str "any"]
  | .mark => .tup [.str "mark"]
  | .kind k => .tup [.str "kind", .str k]
  | .no l => .tup [.str "not", lkD l]
  | .two w l r => .tup [.str w, lkD l, lkD r]
  | .way s => .tup [.str "way", .tup (wyD s)]
def wyD : Wy → List Dv
  | .nil => []
  | .cons g l s => .tup [.str g, lkD l] :: wyD s
end
def stD (p : Str × Lk) : Dv := .tup [.str p.1, lkD p.2]
theorem wyD_map : ∀ s, wyD s = (wyL s).map stD
  | .nil => by rw [wyD, wyL]; rfl
  | .cons g l s => by rw [wyD, wyL, wyD_map s]; rfl
mutual
def neL : Lk → Ne
  | .any => .w "any"
  | .mark => .w "mark"
  | .kind k => .b [.w "kind", .w k]
  | .no l => .b [.w "not", neL l]
  | .two w l r => .b [.w w, neL l, neL r]
  | .way s => .b (.w "way" :: neW s)
def neW : Wy → List Ne
  | .nil => []
  | .cons g l s => .b [.w g, neL l] :: neW s
end
def neP (p : Str × Lk) : Ne := .b [.w p.1, neL p.2]
theorem neW_map : ∀ s, neW s = (wyL s).map neP
  | .nil => by rw [neW, wyL]; rfl
  | .cons g l s => by rw [neW, wyL, neW_map s]; rfl
def neY (s : Wy) : Ne := .b (.w "way" :: neW s)
mutual
def cal : Lk → Nat
  | .any => 0
  | .mark => 0
  | .kind _ => 0
  | .no l => 1 + cal l
  | .two _ l r => 2 + max (cal l) (cal r)
  | .way s => 1 + calW s
def calW : Wy → Nat
  | .nil => 0
  | .cons _ l s => max (2 + cal l) (calW s)
end
mutual
def dpL : Lk → Nat
  | .any => 1
  | .mark => 1
  | .kind _ => 1
  | .no l => 1 + dpL l
  | .two _ l r => 1 + max (dpL l) (dpL r)
  | .way s => 1 + dpW s
def dpW : Wy → Nat
  | .nil => 1
  | .cons _ l s => max (2 + dpL l) (dpW s)
end
def goes : List Str := ["down", "deep", "later"]
mutual
def okL (m : Bool) : Lk → Prop
  | .any => True
  | .mark => m = true
  | .kind k => NameOk k
  | .no l => okL m l
  | .two w l r => (w = "both" ∨ w = "either") ∧ okL m l ∧ okL m r
  | .way s => okW m s ∧ 1 ≤ (wyL s).length
def okW (m : Bool) : Wy → Prop
  | .nil => True
  | .cons g l s => (g = "down" ∨ g = "deep" ∨ g = "later") ∧ okL m l ∧ okW m s
end
def okG (g : Str) : Prop := g = "down" ∨ g = "deep" ∨ g = "later"
theorem calW_mem : ∀ (s : Wy) (p : Str × Lk), p ∈ wyL s → 2 + cal p.2 ≤ calW s
  | .nil, p, h => by rw [wyL] at h; cases h
  | .cons g l s, p, h => by
    rw [wyL] at h
    rw [calW]
    rcases List.mem_cons.mp h with rfl | h
    · show 2 + cal l ≤ _; omega
    · have := calW_mem s p h; omega
theorem okW_mem {m : Bool} : ∀ (s : Wy), okW m s → ∀ p ∈ wyL s, okG p.1 ∧ okL m p.2
  | .nil, _, p, h => by rw [wyL] at h; cases h
  | .cons g l s, ok, p, h => by
    rw [wyL] at h
    rw [okW] at ok
    rcases List.mem_cons.mp h with rfl | h
    · exact ⟨ok.1, ok.2.1⟩
    · exact okW_mem s ok.2.2 p h
theorem okW_of {m : Bool} : ∀ (l : List (Str × Lk)), (∀ p ∈ l, okG p.1 ∧ okL m p.2) → okW m (wyM l)
  | [], _ => by rw [wyM, okW]; trivial
  | p :: r, h => by
    rw [wyM, okW]
    exact ⟨(h p (by simp)).1, (h p (by simp)).2, okW_of r fun q hq => h q (by simp [hq])⟩
theorem calW_of {n : Nat} : ∀ (l : List (Str × Lk)), (∀ p ∈ l, 2 + cal p.2 ≤ n) → calW (wyM l) ≤ n
  | [], _ => by rw [wyM, calW]; exact Nat.zero_le _
  | p :: r, h => by
    have := h p (by simp)
    have := calW_of r fun q hq => h q (by simp [hq])
    rw [wyM, calW]; omega
theorem dpW_of {n : Nat} (hn : 1 ≤ n) : ∀ (l : List (Str × Lk)), (∀ p ∈ l, 2 + dpL p.2 ≤ n) → dpW (wyM l) ≤ n
  | [], _ => by rw [wyM, dpW]; exact hn
  | p :: r, h => by
    have := h p (by simp)
    have := dpW_of hn r fun q hq => h q (by simp [hq])
    rw [wyM, dpW]; omega
mutual
theorem okL_up : ∀ l, okL false l → okL true l
  | .any, _ => by rw [okL]; trivial
  | .mark, h => by rw [okL] at h; cases h
  | .kind k, h => by rw [okL] at h ⊢; exact h
  | .no l, h => by rw [okL] at h ⊢; exact okL_up l h
  | .two w l r, h => by rw [okL] at h ⊢; exact ⟨h.1, okL_up l h.2.1, okL_up r h.2.2⟩
  | .way s, h => by rw [okL] at h ⊢; exact ⟨okW_up s h.1, h.2⟩
theorem okW_up : ∀ s, okW false s → okW true s
  | .nil, _ => by rw [okW]; trivial
  | .cons g l s, h => by rw [okW] at h ⊢; exact ⟨h.1, okL_up l h.2.1, okW_up s h.2.2⟩
end
theorem wd_lit {x : Str} (h : (PyData.strOk x && decide (x.length ≤ 9) && decide (cs x ≠ []) && (cs x).all (fun c => decide (¬ (c = 32 ∨ c = 10) ∧ ¬ (c = 40 ∨ c = 41)))) = true) : Wd x := by
  rw [Bool.and_eq_true, Bool.and_eq_true, Bool.and_eq_true] at h
  exact ⟨h.1.1.1, of_decide_eq_true h.1.1.2, of_decide_eq_true h.1.2, fun c hc => of_decide_eq_true (List.all_eq_true.mp h.2 c hc)⟩
theorem wd_go {g : Str} (h : okG g) : Wd g := by
  rcases h with rfl | rfl | rfl
  · exact wd_lit (by decide +kernel)
  · exact wd_lit (by decide +kernel)
  · exact wd_lit (by decide +kernel)
theorem wd_two {g : Str} (h : g = "both" ∨ g = "either") : Wd g := by
  rcases h with rfl | rfl
  · exact wd_lit (by decide +kernel)
  · exact wd_lit (by decide +kernel)
theorem wd_ls : Wd "any" ∧ Wd "mark" ∧ Wd "kind" ∧ Wd "not" ∧ Wd "way" := ⟨wd_lit (by decide +kernel), wd_lit (by decide +kernel), wd_lit (by decide +kernel), wd_lit (by decide +kernel), wd_lit (by decide +kernel)⟩
mutual
theorem wds_L {m : Bool} : ∀ l, okL m l → ∀ x ∈ wds (neL l), Wd x
  | .any, _, x, hx => by rw [neL, wds] at hx; rw [List.mem_singleton.mp hx]; exact wd_ls.1
  | .mark, _, x, hx => by rw [neL, wds] at hx; rw [List.mem_singleton.mp hx]; exact wd_ls.2.1
  | .kind k, h, x, hx => by
    rw [okL] at h
    simp only [neL, wds, wdss, List.cons_append, List.nil_append, List.mem_cons, List.not_mem_nil, or_false] at hx
    rcases hx with rfl | rfl
    · exact wd_ls.2.2.1
    · exact wd_name h
  | .no l, h, x, hx => by
    rw [okL] at h
    simp only [neL, wds, wdss, List.cons_append, List.nil_append, List.append_nil, List.mem_cons] at hx
    rcases hx with rfl | hx
    · exact wd_ls.2.2.2.1
    · exact wds_L l h x hx
  | .two w l r, h, x, hx => by
    rw [okL] at h
    simp only [neL, wds, wdss, List.cons_append, List.nil_append, List.append_nil, List.mem_cons, List.mem_append] at hx
    rcases hx with rfl | hx | hx
    · exact wd_two h.1
    · exact wds_L l h.2.1 x hx
    · exact wds_L r h.2.2 x hx
  | .way s, h, x, hx => by
    rw [okL] at h
    simp only [neL, wds, wdss, List.cons_append, List.nil_append, List.mem_cons] at hx
    rcases hx with rfl | hx
    · exact wd_ls.2.2.2.2
    · exact wds_W s h.1 x hx
theorem wds_W {m : Bool} : ∀ s, okW m s → ∀ x ∈ wdss (neW s), Wd x
  | .nil, _, x, hx => by rw [neW, wdss] at hx; cases hx
  | .cons g l s, h, x, hx => by
    rw [okW] at h
    simp only [neW, wds, wdss, List.cons_append, List.nil_append, List.append_nil, List.mem_cons, List.mem_append] at hx
    rcases hx with rfl | hx | hx
    · exact wd_go h.1
    · exact wds_L l h.2.1 x hx
    · exact wds_W s h.2.2 x hx
end
theorem wds_Y {m : Bool} {s : Wy} (h : okW m s) : ∀ x ∈ wds (neY s), Wd x := fun x hx => by
  simp only [neY, wds, wdss, List.cons_append, List.nil_append, List.mem_cons] at hx
  rcases hx with rfl | hx
  · exact wd_ls.2.2.2.2
  · exact wds_W s h x hx
/-! plain data -/
theorem plain_str {x : Str} (h : Sk x) (n : Nat) : plN n (.str x) = true := by cases n <;> exact h
mutual
theorem plain_L {m : Bool} : ∀ (l : Lk) (n : Nat), okL m l → dpL l ≤ n → plN n (lkD l) = true
  | .any, n + 1, _, _ => by have := plain_str wd_ls.1.sk n; rw [lkD, plN]; simp only [List.all_cons, this, List.all_nil, Bool.and_self]
  | .mark, n + 1, _, _ => by have := plain_str wd_ls.2.1.sk n; rw [lkD, plN]; simp only [List.all_cons, this, List.all_nil, Bool.and_self]
  | .kind k, n + 1, h, _ => by
    rw [okL] at h
    have := plain_str wd_ls.2.2.1.sk n
    have := plain_str h.sk n
    rw [lkD, plN]; simp only [List.all_cons, *, List.all_nil, Bool.and_self]
  | .no l, n + 1, h, hd => by
    rw [okL] at h
    rw [dpL] at hd
    have := plain_str wd_ls.2.2.2.1.sk n
    have := plain_L l n h (by omega)
    rw [lkD, plN]; simp only [List.all_cons, *, List.all_nil, Bool.and_self]
  | .two w l r, n + 1, h, hd => by
    rw [okL] at h
    rw [dpL] at hd
    have := plain_str (wd_two h.1).sk n
    have := plain_L l n h.2.1 (by omega)
    have := plain_L r n h.2.2 (by omega)
    rw [lkD, plN]; simp only [List.all_cons, *, List.all_nil, Bool.and_self]
  | .way s, n + 1, h, hd => by
    rw [okL] at h
    rw [dpL] at hd
    have := plain_str wd_ls.2.2.2.2.sk n
    have := plain_W s n h.1 (by omega)
    rw [lkD, plN]; simp only [List.all_cons, *, List.all_nil, Bool.and_self]
  | .any, 0, _, h => by rw [dpL] at h; omega
  | .mark, 0, _, h => by rw [dpL] at h; omega
  | .kind _, 0, _, h => by rw [dpL] at h; omega
  | .no _, 0, _, h => by rw [dpL] at h; omega
  | .two _ _ _, 0, _, h => by rw [dpL] at h; omega
  | .way _, 0, _, h => by rw [dpL] at h; omega
theorem plain_W {m : Bool} : ∀ (s : Wy) (n : Nat), okW m s → dpW s ≤ n → plN n (.tup (wyD s)) = true
  | .nil, n + 1, _, _ => by rw [wyD, plN]; rfl
  | .nil, 0, _, h => by rw [dpW] at h; omega
  | .cons g l s, 0, _, h => by rw [dpW] at h; omega
  | .cons g l s, 1, _, h => by rw [dpW] at h; omega
  | .cons g l s, n + 2, h, hd => by
    rw [okW] at h
    rw [dpW] at hd
    have e1 := plain_str (wd_go h.1).sk n
    have e2 := plain_L l n h.2.1 (by omega)
    have e3 := plain_W s (n + 2) h.2.2 (by omega)
    rw [plN] at e3
    have e4 : plN (n + 1) (.tup [.str g, lkD l]) = true := by rw [plN]; simp only [List.all_cons, e1, e2, List.all_nil, Bool.and_self]
    rw [wyD, plN, List.all_cons, e4, e3]; rfl
end
/-! how many tokens -/
abbrev tl (l : Lk) : Nat := (toks (neL l)).length
theorem tl_any : tl .any = 1 := rfl
theorem tl_kind (k : Str) : tl (.kind k) = 4 := by simp [tl, neL, toks, tokss]
theorem tl_no (l : Lk) : tl (.no l) = 3 + tl l := by simp [tl, neL, toks, tokss]; omega
theorem tl_two (w : Str) (l r : Lk) : tl (.two w l r) = 3 + tl l + tl r := by simp [tl, neL, toks, tokss]; omega
theorem tl_way (s : Wy) : tl (.way s) = 3 + (tokss (neW s)).length := by simp [tl, neL, toks, tokss]; omega
theorem tl_cons (g : Str) (l : Lk) (s : Wy) : (tokss (neW (.cons g l s))).length = 3 + tl l + (tokss (neW s)).length := by simp [tl, neW, toks, tokss]; omega
theorem tl_app : ∀ (a : List (Str × Lk)) (p : Str × Lk), (tokss (neW (wyM (a ++ [p])))).length = (tokss (neW (wyM a))).length + 3 + tl p.2
  | [], p => by rw [List.nil_append, wyM, wyM, tl_cons, wyM, neW, tokss]; simp
  | q :: a, p => by rw [List.cons_append, wyM, tl_cons, tl_app a p, wyM, tl_cons]; omega
/-- a comprehension whose steps may lay new objects -/
theorem comp_grow {ck : Sto → Prop} [∀ S, Decidable (ck S)] {t : Tg} {y : RE} {ρ : PL.Env} {S : Sto} (ds gs : List Dv) (hl : gs.length = ds.length) (hb : ds.length ≤ 4000000)
    (h : ∀ (i : Nat) d z S', ds[i]? = some d → gs[i]? = some z → Gr S S' → ∃ ρ1, t.set d ρ = some ρ1 ∧ ∃ S2, y ρ1 S' = .ok z S2 ∧ Gr S' S2) (hc : ∀ S', Gr S S' → ck S') : ∃ S', compL ck t cYes y ρ ds [] S = .ok gs S' ∧ Gr S S' := by
  obtain ⟨acc, S', e, rfl, g⟩ := comp_gen (ck := ck) (t := t) (c := cYes) (y := y) (acc := []) (S := S) (fun i acc S' => acc = gs.take i ∧ Gr S S') ds ρ
    (fun i d acc S' hd ⟨ha, g⟩ => by
      have hi := (List.getElem?_eq_some_iff.mp hd).1
      have hz : gs[i]? = some (gs[i]'(by omega)) := List.getElem?_eq_getElem _
      obtain ⟨ρ1, h1, S2, h2, g2⟩ := h i d _ S' hd hz g
      refine ⟨hc S' g, ρ1, h1, true, S', rfl, fun _ => ⟨_, S2, h2, ?_, ?_, g.trans g2⟩, fun z => nomatch z⟩
      · rw [ha, List.length_take]; show _ < 2 ^ 24; omega
      · rw [ha, List.take_add_one, hz]; rfl)
    (fun acc S' ⟨_, g⟩ => hc S' g) ⟨(List.take_zero ..).symm, .refl _⟩
  rw [← hl, List.take_length] at e
  exact ⟨S', e, g⟩
/-- the same of a loop that appends -/
theorem loop_grow {ck : Sto → Prop} [∀ S, Decidable (ck S)] {j : Nat} {b : RC} {ρ : PL.Env} {S : Sto} {lp : Nat} (ds gs : List Dv) (hl : gs.length = ds.length) (hb : ds.length ≤ 4000000) {acc : List Dv} (h0 : S[lp]? = some (.lst acc)) (P : Nat → Prop) (hP : P lp)
    (h : ∀ (i : Nat) d z v S' xs, ds[i]? = some d → gs[i]? = some z → Fr P S S' → S'[lp]? = some (.lst xs) → xs.length ≤ acc.length + 4000000 → ∃ ρ1, (Tg.nm j).set d (ρ.set j v) = some ρ1 ∧ ∃ v' S2, b ρ1 S' = .fl (.nx (ρ.set j v')) S2 ∧ S2[lp]? = some (.lst (xs ++ [z])) ∧ Fr P S' S2) (hc : ∀ S', Fr P S S' → ck S') (v0 : Option Dv) : ∃ v S', loop ck (.nm j) b ds (ρ.set j v0) S = .fl (.nx (ρ.set j v)) S' ∧ S'[lp]? = some (.lst (acc ++ gs)) ∧ Fr P S S' := by
  obtain ⟨ρ', S', e, v, rfl, hx, fr⟩ := loop_all (ck := ck) (t := .nm j) (b := b) (S := S) (ρ := ρ.set j v0) (fun i ρ' S' => ∃ v, ρ' = ρ.set j v ∧ S'[lp]? = some (.lst (acc ++ gs.take i)) ∧ Fr P S S') ds ⟨v0, rfl, by rw [List.take_zero, List.append_nil]; exact h0, .refl _⟩
    (fun i d ρ' S' hd ⟨v, hρ, hx, fr⟩ => by
      subst hρ
      have hi := (List.getElem?_eq_some_iff.mp hd).1
      have hz : gs[i]? = some (gs[i]'(by omega)) := List.getElem?_eq_getElem _
      obtain ⟨ρ1, h1, v', S2, h2, h3, f2⟩ := h i d _ v S' _ hd hz fr hx (by rw [List.length_append, List.length_take]; omega)
      exact ⟨hc S' fr, ρ1, h1, _, S2, .inl h2, v', rfl, by rw [h3, List.take_add_one, hz, List.append_assoc]; rfl, fr.trans f2⟩)
    (fun ρ' S' ⟨_, _, _, fr⟩ => hc S' fr)
  rw [← hl, List.take_length] at hx
  exact ⟨v, S', e, hx, fr⟩
theorem NeAt.inv {S : Sto} {lb : Nat} {d : Dv} {xs : List Ne} (h : NeAt S lb d (.b xs)) : ∃ (l : Nat) (ds : List Dv), d = .ref l ∧ S[l]? = some (.lst ds) ∧ ds.length = xs.length ∧ ∀ (i : Nat) (n : Ne), xs[i]? = some n → ∃ e, ds[i]? = some e ∧ NeAt S lb e n := by
  cases h
  rename_i l ds hlb hl hds hat
  refine ⟨l, ds, rfl, hl, hds, fun i n hn => ?_⟩
  have hi := (List.getElem?_eq_some_iff.mp hn).1
  exact ⟨_, List.getElem?_eq_getElem (by omega), hat i _ n (List.getElem?_eq_getElem (by omega)) hn⟩
theorem NeAt.word {S : Sto} {lb : Nat} {d : Dv} {x : Str} (h : NeAt S lb d (.w x)) : d = .str x := by cases h; rfl
theorem sli_from {S : Sto} {l : Nat} {ds : List Dv} (h : S[l]? = some (.lst ds)) (t : Nat) : sliD (.ref l) (some (t : Int)) none S = newL (ds.drop t) S := by
  simp only [sliD, lst_ref h]
  rw [cut_from]
theorem isi_str (x : Str) (S : Sto) : isiD "str" (.str x) S = .ok (.bl true) S := rfl
mutual
def dpN : Ne → Nat
  | .w _ => 0
  | .b xs => 1 + dpNs xs
def dpNs : List Ne → Nat
  | [] => 0
  | n :: ns => max (dpN n) (dpNs ns)
end
mutual
theorem ne_toP : ∀ (n : Ne) (f : Nat) (S : Sto) (lb : Nat) (d : Dv), NeAt S lb d n → (∀ x ∈ wds n, Sk x) → dpN n < f → ∃ p, toP f S d = some p ∧ p.canLay0 = true ∧ p.depth ≤ dpN n
  | .w x, f + 1, S, lb, d, h, hx, _ => by
    cases h.word
    exact ⟨.str x, by simp only [toP], by rw [PyData.canLay0]; exact hx x (by rw [wds]; simp), by rw [PyData.depth]; exact Nat.zero_le _⟩
  | .b xs, f + 1, S, lb, d, h, hx, hf => by
    rw [dpN] at hf
    cases h
    rename_i l ds hlb hl hds hat
    obtain ⟨ps, e1, e2, e3⟩ := ne_toPs xs f S lb ds hds hat (fun x hx' => hx x (by rw [wds]; exact hx')) (by omega)
    exact ⟨.list ps, by simp only [toP, hl, e1, Option.map_some], by rw [PyData.canLay0]; exact e2, by rw [PyData.depth, dpN]; omega⟩
  | _, 0, _, _, _, _, _, hf => by omega
theorem ne_toPs : ∀ (xs : List Ne) (f : Nat) (S : Sto) (lb : Nat) (ds : List Dv), ds.length = xs.length → (∀ (i : Nat) (d : Dv) (n : Ne), ds[i]? = some d → xs[i]? = some n → NeAt S lb d n) → (∀ x ∈ wdss xs, Sk x) → dpNs xs < f → ∃ ps, toPs f S ds = some ps ∧ PyData.canLayAll0 ps = true ∧ PyData.depthAll ps ≤ dpNs xs
  | [], f, S, lb, [], _, _, _, _ => ⟨[], by simp only [toPs], by simp only [PyData.canLayAll0], by rw [PyData.depthAll]; exact Nat.zero_le _⟩
  | n :: ns, f, S, lb, d :: ds, hl, hat, hx, hf => by
    rw [dpNs] at hf
    obtain ⟨p, e1, e2, e3⟩ := ne_toP n f S lb d (hat 0 d n rfl rfl) (fun x h => hx x (by rw [wdss]; exact List.mem_append_left _ h)) (by omega)
    obtain ⟨ps, f1, f2, f3⟩ := ne_toPs ns f S lb ds (by simpa using hl) (fun i d n h1 h2 => hat (i + 1) d n (by rw [List.getElem?_cons_succ]; exact h1) (by rw [List.getElem?_cons_succ]; exact h2)) (fun x h => hx x (by rw [wdss]; exact List.mem_append_right _ h)) (by omega)
    exact ⟨p :: ps, by simp only [toPs, e1, f1], by rw [PyData.canLayAll0, e2, f2]; rfl, by rw [PyData.depthAll, dpNs]; omega⟩
  | [], _, _, _, _ :: _, hl, _, _, _ => by simp at hl
  | _ :: _, _, _, _, [], hl, _, _, _ => by simp at hl
end
/-- a bracket is no word -/
theorem eq_br {S : Sto} {lb l : Nat} {xs : List Ne} (h : NeAt S lb (.ref l) (.b xs)) (hw : ∀ x ∈ wds (.b xs), Sk x) (hd : dpN (.b xs) < 40) {x : Str} (hx : Sk x) : eqD (.ref l) (.str x) S = .ok (.bl false) S := by
  obtain ⟨p, e1, e2, e3⟩ := ne_toP _ 40 S lb _ h hw hd
  obtain ⟨ps, rfl⟩ : ∃ ps, p = .list ps := by
    cases h
    rename_i ds hl hds hat hlb
    simp only [toP] at e1
    split at e1
    · obtain ⟨ps, _, rfl⟩ := Option.map_eq_some_iff.mp e1
      exact ⟨ps, rfl⟩
    · simp_all
  have hs : SeqAt.shaped (.list ps) = true := by unfold SeqAt.shaped; rw [e2, Bool.true_and]; exact decide_eq_true (by omega)
  have e2' : toP 40 S (.str x) = some (.str x) := by simp only [toP]
  simp only [eqD, eqq, e1, e2', hs, shp_str hx, and_self, ↓reduceIte, PyData.eqv]
mutual
theorem dpN_L : ∀ l, dpN (neL l) ≤ dpL l
  | .any => by rw [neL, dpN, dpL]; omega
  | .mark => by rw [neL, dpN, dpL]; omega
  | .kind k => by simp only [neL, dpN, dpNs, dpL]; omega
  | .no l => by have := dpN_L l; simp only [neL, dpN, dpNs, dpL]; omega
  | .two w l r => by have := dpN_L l; have := dpN_L r; simp only [neL, dpN, dpNs, dpL]; omega
  | .way s => by have := dpN_W s; simp only [neL, dpN, dpNs, dpL]; omega
theorem dpN_W : ∀ s, dpNs (neW s) ≤ dpW s
  | .nil => by rw [neW, dpNs]; exact Nat.zero_le _
  | .cons g l s => by have := dpN_L l; have := dpN_W s; simp only [neW, dpN, dpNs, dpW]; omega
end
section
theorem eqs {a b : Str} (ha : Sk a) (hb : Sk b) (S : Sto) (h : a ≠ b) : eqD (.str a) (.str b) S = .ok (.bl false) S := by rw [eq_str ha hb, decide_eq_false h]
theorem eqt {a : Str} (ha : Sk a) (S : Sto) : eqD (.str a) (.str a) S = .ok (.bl true) S := by rw [eq_str ha ha, decide_eq_true rfl]
theorem skl : Sk "any" ∧ Sk "mark" ∧ Sk "kind" ∧ Sk "not" ∧ Sk "way" ∧ Sk "both" ∧ Sk "either" := by decide +kernel
theorem two_ne {w : Str} (h : w = "both" ∨ w = "either") : w ≠ "way" ∧ w ≠ "any" ∧ w ≠ "mark" ∧ w ≠ "kind" := by
  rcases h with rfl | rfl <;> decide +kernel
theorem either_ne : ("both" : Str) ≠ "either" ∧ ("either" : Str) ≠ "both" ∧ ("kind" : Str) ≠ "way" ∧ ("kind" : Str) ≠ "both" ∧ ("kind" : Str) ≠ "either" ∧ ("kind" : Str) ≠ "not" ∧ ("not" : Str) ≠ "way" ∧ ("not" : Str) ≠ "both" ∧ ("not" : Str) ≠ "either" ∧ ("kind" : Str) ≠ "any" ∧ ("kind" : Str) ≠ "mark" ∧ ("not" : Str) ≠ "any" ∧ ("not" : Str) ≠ "mark" ∧ ("not" : Str) ≠ "kind" ∧ ("any" : Str) ≠ "way" ∧ ("mark" : Str) ≠ "way" ∧ ("mark" : Str) ≠ "any" := by decide +kernel
def LookR (l : Lk) : Prop := okL false l → dpL l ≤ 39 → ∀ (n f : Nat) (S : Sto) (lb : Nat) (d : Dv), cal l ≤ n → NeAt S lb d (neL l) → ∃ S', F (f + n + 4) .look_of [d] S = .ok (lkD l) S' ∧ Gr S S'
theorem step_run {p : Str × Lk} (ih : LookR p.2) (hg : okG p.1) (ok : okL false p.2) (hd : dpL p.2 ≤ 39) {n f : Nat} {S : Sto} {lb : Nat} {d : Dv} (hn : cal p.2 ≤ n) (h : NeAt S lb d (neP p)) : ∃ S', F (f + n + 5) .step_of [d] S = .ok (stD p) S' ∧ Gr S S' := by
  obtain ⟨l, ds, rfl, hl, hds, hat⟩ := h.inv
  obtain ⟨e0, a0, b0⟩ := hat 0 _ rfl
  obtain ⟨e1, a1, b1⟩ := hat 1 _ rfl
  cases b0.word
  have i0 : idxD (.ref l) (.int 0) S = .ok (.str p.1) S := idx_ref hl (atI_nat (i := 0) a0)
  have i1 : idxD (.ref l) (.int 1) S = .ok e1 S := idx_ref hl (atI_nat (i := 1) a1)
  have ll : lenD [.ref l] S = .ok (.int 2) S := by rw [len_ref hl, hds]; rfl
  have e2 : eqD (.int 2) (.int 2) S = .ok (.bl true) S := by rw [eq_int]; rfl
  have hm : memq S (.str p.1) k_GOES = some true := by
    have : k_GOES = .kt (goes.map .str) := rfl
    rw [this, mem_kstrs, decide_eq_true]
    rcases hg with e | e | e <;> rw [e] <;> decide +kernel
  obtain ⟨S', e, g⟩ := ih ok hd n f S lb e1 hn b1
  refine ⟨S', ?_, g⟩
  rw [F_step_of]
  refine runF_rt (ρ := [some (.ref l)]) rfl rfl ?_
  unfold c_step_of
  refine (seq_of (expr_of (d := .non) (S' := S) (by simp only [ev_var, ev_con, ev_bin, ev_un, ev_anil, ev_acons, ev_call, ev_tup, ev_lst, ev_not, ev_and, ev_or, ev_if, ev_cbl, ev_btrue, ev_cand, ev_cor, ev_cnot, ev_sli, ev_onone, ev_osome, ev_chain, ev_meth, ev_get2, ev_newK, ev_newT, ev_own, ev_nil, ev_seq, ev_expr, ev_set, ev_ret, ev_retN, ev_cif, ev_brk, ev_ct, ev_asg, ev_put, ev_aug, ev_for, ev_comp, ev_newL, ev_iseq, ev_irange, ev_ienum, ev_yes, Out.bind_ok, Out.bindN_ok, bindS_ok, Tg.set, Tg.sets, List.getElem?_cons_zero, List.getElem?_cons_succ, List.set_cons_zero, List.set_cons_succ, wipeE, List.length_cons, List.length_nil, Nat.reduceAdd, Nat.reduceLeDiff, Nat.reduceEqDiff, ↓reduceIte, Bool.false_eq_true, decide_eq_true_eq, add_int, sub_int, lt_int, gt_int, le_int, ge_int, neg_int, and_int, or_int, xor_int, max2_int, min2_int, mod_pos, fdiv_sm, mul_sm, mul_smr, Int.reduceLT, Int.reduceNeg, int_bl, int_int, sli_tup, isi_lst hl, ll, e2, i0, inD, hm, need_run]))).trans ?_
  exact ret_of (by simp only [ev_var, ev_con, ev_bin, ev_un, ev_anil, ev_acons, ev_call, ev_tup, ev_lst, ev_not, ev_and, ev_or, ev_if, ev_cbl, ev_btrue, ev_cand, ev_cor, ev_cnot, ev_sli, ev_onone, ev_osome, ev_chain, ev_meth, ev_get2, ev_newK, ev_newT, ev_own, ev_nil, ev_seq, ev_expr, ev_set, ev_ret, ev_retN, ev_cif, ev_brk, ev_ct, ev_asg, ev_put, ev_aug, ev_for, ev_comp, ev_newL, ev_iseq, ev_irange, ev_ienum, ev_yes, Out.bind_ok, Out.bindN_ok, bindS_ok, Tg.set, Tg.sets, List.getElem?_cons_zero, List.getElem?_cons_succ, List.set_cons_zero, List.set_cons_succ, wipeE, List.length_cons, List.length_nil, Nat.reduceAdd, Nat.reduceLeDiff, Nat.reduceEqDiff, ↓reduceIte, Bool.false_eq_true, decide_eq_true_eq, add_int, sub_int, lt_int, gt_int, le_int, ge_int, neg_int, and_int, or_int, xor_int, max2_int, min2_int, mod_pos, fdiv_sm, mul_sm, mul_smr, Int.reduceLT, Int.reduceNeg, int_bl, int_int, sli_tup, i0, i1, e, sline 2 (by omega)]; rfl)
theorem dpW_mem : ∀ (s : Wy) (p : Str × Lk), p ∈ wyL s → 2 + dpL p.2 ≤ dpW s
  | .nil, p, h => by rw [wyL] at h; cases h
  | .cons g l s, p, h => by
    rw [wyL] at h
    rw [dpW]
    rcases List.mem_cons.mp h with rfl | h
    · show 2 + dpL l ≤ _; omega
    · have := dpW_mem s p h; omega
theorem way_run {s : Wy} (ih : ∀ p ∈ wyL s, LookR p.2) (ok : okW false s) (hs : 1 ≤ (wyL s).length) (hl2 : (wyL s).length ≤ 1000) (hd : dpW s ≤ 39) {n f : Nat} {S : Sto} {lb : Nat} {d : Dv} (hn : calW s ≤ n) (h : NeAt S lb d (neY s)) : ∃ S', F (f + n + 4) .way_of [d] S = .ok (.tup (wyD s)) S' ∧ Gr S S' := by
  obtain ⟨l, ds, rfl, hl, hds, hat⟩ := h.inv
  obtain ⟨e0, a0, b0⟩ := hat 0 _ rfl
  cases b0.word
  rw [List.length_cons, neW_map, List.length_map] at hds
  have i0 : idxD (.ref l) (.int 0) S = .ok (.str "way") S := idx_ref hl (atI_nat (i := 0) a0)
  have ll : lenD [.ref l] S = .ok (.int (((wyL s).length + 1 : Nat) : Int)) S := by rw [len_ref hl, hds]
  have lp : decide ((1 : Int) < (((wyL s).length + 1 : Nat) : Int)) = true := decide_eq_true (by omega)
  have eq0 := eqt skl.2.2.2.2.1 S
  have g1 := gr_app S [Ob.lst (ds.drop 1)]
  have a4 := at_new S (.lst (ds.drop 1))
  have sl : sliD (.ref l) (some 1) none S = newL (ds.drop 1) S := sli_from hl 1
  generalize hS1 : S ++ [Ob.lst (ds.drop 1)] = S1 at g1 a4
  obtain ⟨S2, e5, g2⟩ := comp_grow (ck := (Ck.ls S.length (ds.drop 1)).ok) (t := .nm 1) (y := y_way_of_1 (F (f + n + 3))) (ρ := [some (.ref l), none]) (S := S1) (ds.drop 1) (wyD s) (by rw [wyD_map, List.length_map, List.length_drop]; omega) (by rw [List.length_drop]; omega)
    (fun i d z S' hd' hz g => by
      rw [wyD_map, List.getElem?_map, Option.map_eq_some_iff] at hz
      obtain ⟨p, hp, rfl⟩ := hz
      have hpm := List.mem_of_getElem? hp
      obtain ⟨e, he, ne⟩ := hat (1 + i) (neP p) (by rw [Nat.add_comm, List.getElem?_cons_succ, neW_map, List.getElem?_map, hp]; rfl)
      rw [List.getElem?_drop] at hd'
      rw [hd'] at he
      cases he
      have c1 := calW_mem s p hpm
      have c2 := dpW_mem s p hpm
      obtain ⟨j, rfl⟩ : ∃ j, n = j + 2 := ⟨n - 2, by omega⟩
      obtain ⟨okg, okl⟩ := okW_mem s ok p hpm
      obtain ⟨S3, e3, g3⟩ := step_run (ih p hpm) okg okl (by omega) (n := j) (f := f) (by omega) ((ne.gr g1).gr g)
      refine ⟨_, rfl, S3, ?_, g3⟩
      unfold y_way_of_1
      have e3' : F (f + (j + 2) + 3) .step_of [d] S' = .ok (stD p) S3 := by rw [show f + (j + 2) + 3 = f + j + 5 by omega]; exact e3
      simp only [ev_var, ev_con, ev_bin, ev_un, ev_anil, ev_acons, ev_call, ev_tup, ev_lst, ev_not, ev_and, ev_or, ev_if, ev_cbl, ev_btrue, ev_cand, ev_cor, ev_cnot, ev_sli, ev_onone, ev_osome, ev_chain, ev_meth, ev_get2, ev_newK, ev_newT, ev_own, ev_nil, ev_seq, ev_expr, ev_set, ev_ret, ev_retN, ev_cif, ev_brk, ev_ct, ev_asg, ev_put, ev_aug, ev_for, ev_comp, ev_newL, ev_iseq, ev_irange, ev_ienum, ev_yes, Out.bind_ok, Out.bindN_ok, bindS_ok, Tg.set, Tg.sets, List.getElem?_cons_zero, List.getElem?_cons_succ, List.set_cons_zero, List.set_cons_succ, wipeE, List.length_cons, List.length_nil, Nat.reduceAdd, Nat.reduceLeDiff, Nat.reduceEqDiff, ↓reduceIte, Bool.false_eq_true, decide_eq_true_eq, add_int, sub_int, lt_int, gt_int, le_int, ge_int, neg_int, and_int, or_int, xor_int, max2_int, min2_int, mod_pos, fdiv_sm, mul_sm, mul_smr, Int.reduceLT, Int.reduceNeg, int_bl, int_int, sli_tup, e3'])
    (fun S' g => g.at a4)
  have g3 := gr_app S2 [Ob.lst (wyD s)]
  have a5 := at_new S2 (.lst (wyD s))
  generalize hS3 : S2 ++ [Ob.lst (wyD s)] = S3 at g3 a5
  refine ⟨S3, ?_, (g1.trans g2).trans g3⟩
  rw [F_way_of]
  refine runF_rt (ρ := [some (.ref l), none]) rfl rfl ?_
  unfold c_way_of
  refine (seq_of (expr_of (d := .non) (S' := S) (by simp only [ev_var, ev_con, ev_bin, ev_un, ev_anil, ev_acons, ev_call, ev_tup, ev_lst, ev_not, ev_and, ev_or, ev_if, ev_cbl, ev_btrue, ev_cand, ev_cor, ev_cnot, ev_sli, ev_onone, ev_osome, ev_chain, ev_meth, ev_get2, ev_newK, ev_newT, ev_own, ev_nil, ev_seq, ev_expr, ev_set, ev_ret, ev_retN, ev_cif, ev_brk, ev_ct, ev_asg, ev_put, ev_aug, ev_for, ev_comp, ev_newL, ev_iseq, ev_irange, ev_ienum, ev_yes, Out.bind_ok, Out.bindN_ok, bindS_ok, Tg.set, Tg.sets, List.getElem?_cons_zero, List.getElem?_cons_succ, List.set_cons_zero, List.set_cons_succ, wipeE, List.length_cons, List.length_nil, Nat.reduceAdd, Nat.reduceLeDiff, Nat.reduceEqDiff, ↓reduceIte, Bool.false_eq_true, decide_eq_true_eq, add_int, sub_int, lt_int, gt_int, le_int, ge_int, neg_int, and_int, or_int, xor_int, max2_int, min2_int, mod_pos, fdiv_sm, mul_sm, mul_smr, Int.reduceLT, Int.reduceNeg, int_bl, int_int, sli_tup, isi_lst hl, ll, lp, i0, eq0, need_run]))).trans ?_
  exact ret_of (by simp only [ev_var, ev_con, ev_bin, ev_un, ev_anil, ev_acons, ev_call, ev_tup, ev_lst, ev_not, ev_and, ev_or, ev_if, ev_cbl, ev_btrue, ev_cand, ev_cor, ev_cnot, ev_sli, ev_onone, ev_osome, ev_chain, ev_meth, ev_get2, ev_newK, ev_newT, ev_own, ev_nil, ev_seq, ev_expr, ev_set, ev_ret, ev_retN, ev_cif, ev_brk, ev_ct, ev_asg, ev_put, ev_aug, ev_for, ev_comp, ev_newL, ev_iseq, ev_irange, ev_ienum, ev_yes, Out.bind_ok, Out.bindN_ok, bindS_ok, Tg.set, Tg.sets, List.getElem?_cons_zero, List.getElem?_cons_succ, List.set_cons_zero, List.set_cons_succ, wipeE, List.length_cons, List.length_nil, Nat.reduceAdd, Nat.reduceLeDiff, Nat.reduceEqDiff, ↓reduceIte, Bool.false_eq_true, decide_eq_true_eq, add_int, sub_int, lt_int, gt_int, le_int, ge_int, neg_int, and_int, or_int, xor_int, max2_int, min2_int, mod_pos, fdiv_sm, mul_sm, mul_smr, Int.reduceLT, Int.reduceNeg, int_bl, int_int, sli_tup, sl, newL, hS1, walk_ref a4, e5, hS3, tuple_ref a5])
theorem tl_len : ∀ s : Wy, (wyL s).length ≤ (tokss (neW s)).length
  | .nil => by rw [wyL]; exact Nat.zero_le _
  | .cons g l s => by have := tl_len s; rw [wyL, List.length_cons, tl_cons]; omega
/-- what a word in front says -/
theorem look_head {k l : Nat} {S : Sto} {ds : List Dv} {w : Str} (hw : Sk w) (hl : S[l]? = some (.lst ds)) (h1 : 2 ≤ ds.length) (i0 : idxD (.ref l) (.int 0) S = .ok (.str w) S) (hq : eqD (.ref l) (.str "any") S = .ok (.bl false) S) (hy : w ≠ "way") :
    ∃ t, c_look_of (F (k + 1)) [some (.ref l)] S = t [some (.ref l)] S ∧ t = cSeq (cIf (cOr (cBl (eBin eqD (eBin idxD (eVar 0) (eCon (.int 0))) (eCon (.str "both")))) (cBl (eBin eqD (eBin idxD (eVar 0) (eCon (.int 0))) (eCon (.str "either"))))) (cRet (eOwn 1 (F (k + 1) .two_looks) (aCons (eVar 0) (aNil)))) (cNil)) (cSeq (cExpr (eOwn 1 (F (k + 1) .need) (aCons (eBin eqD (eCall lenD (aCons (eVar 0) (aNil))) (eCon (.int 2))) (aNil)))) (cSeq (cIf (cBl (eBin eqD (eBin idxD (eVar 0) (eCon (.int 0))) (eCon (.str "not")))) (cRet (eTup (aCons (eCon (.str "not")) (aCons (eOwn 1 (F (k + 1) .look_of) (aCons (eBin idxD (eVar 0) (eCon (.int 1))) (aNil))) (aNil))))) (cNil)) (cSeq (cExpr (eOwn 1 (F (k + 1) .need) (aCons (eBin eqD (eBin idxD (eVar 0) (eCon (.int 0))) (eCon (.str "kind"))) (aNil)))) (cRet (eTup (aCons (eCon (.str "kind")) (aCons (eOwn 1 (F (k + 1) .need_name) (aCons (eBin idxD (eVar 0) (eCon (.int 1))) (aNil))) (aNil)))))))) := by
  refine ⟨_, ?_, rfl⟩
  have ll : lenD [.ref l] S = .ok (.int (ds.length : Int)) S := len_ref hl
  have lp : decide ((1 : Int) < (ds.length : Int)) = true := decide_eq_true (by omega)
  have e1 := eqs hw skl.2.2.2.2.1 S hy
  unfold c_look_of
  refine (seq_of ((if_f (S' := S) (by simp only [ev_var, ev_con, ev_bin, ev_un, ev_anil, ev_acons, ev_call, ev_tup, ev_lst, ev_not, ev_and, ev_or, ev_if, ev_cbl, ev_btrue, ev_cand, ev_cor, ev_cnot, ev_sli, ev_onone, ev_osome, ev_chain, ev_meth, ev_get2, ev_newK, ev_newT, ev_own, ev_nil, ev_seq, ev_expr, ev_set, ev_ret, ev_retN, ev_cif, ev_brk, ev_ct, ev_asg, ev_put, ev_aug, ev_for, ev_comp, ev_newL, ev_iseq, ev_irange, ev_ienum, ev_yes, Out.bind_ok, Out.bindN_ok, bindS_ok, Tg.set, Tg.sets, List.getElem?_cons_zero, List.getElem?_cons_succ, List.set_cons_zero, List.set_cons_succ, wipeE, List.length_cons, List.length_nil, Nat.reduceAdd, Nat.reduceLeDiff, Nat.reduceEqDiff, ↓reduceIte, Bool.false_eq_true, decide_eq_true_eq, add_int, sub_int, lt_int, gt_int, le_int, ge_int, neg_int, and_int, or_int, xor_int, max2_int, min2_int, mod_pos, fdiv_sm, mul_sm, mul_smr, Int.reduceLT, Int.reduceNeg, int_bl, int_int, sli_tup, hq])).trans rfl)).trans ?_
  refine (seq_of (expr_of (d := .non) (S' := S) (by simp only [ev_var, ev_con, ev_bin, ev_un, ev_anil, ev_acons, ev_call, ev_tup, ev_lst, ev_not, ev_and, ev_or, ev_if, ev_cbl, ev_btrue, ev_cand, ev_cor, ev_cnot, ev_sli, ev_onone, ev_osome, ev_chain, ev_meth, ev_get2, ev_newK, ev_newT, ev_own, ev_nil, ev_seq, ev_expr, ev_set, ev_ret, ev_retN, ev_cif, ev_brk, ev_ct, ev_asg, ev_put, ev_aug, ev_for, ev_comp, ev_newL, ev_iseq, ev_irange, ev_ienum, ev_yes, Out.bind_ok, Out.bindN_ok, bindS_ok, Tg.set, Tg.sets, List.getElem?_cons_zero, List.getElem?_cons_succ, List.set_cons_zero, List.set_cons_succ, wipeE, List.length_cons, List.length_nil, Nat.reduceAdd, Nat.reduceLeDiff, Nat.reduceEqDiff, ↓reduceIte, Bool.false_eq_true, decide_eq_true_eq, add_int, sub_int, lt_int, gt_int, le_int, ge_int, neg_int, and_int, or_int, xor_int, max2_int, min2_int, mod_pos, fdiv_sm, mul_sm, mul_smr, Int.reduceLT, Int.reduceNeg, int_bl, int_int, sli_tup, isi_lst hl, ll, lp, need_run]))).trans ?_
  exact (seq_of ((if_f (S' := S) (by simp only [ev_var, ev_con, ev_bin, ev_un, ev_anil, ev_acons, ev_call, ev_tup, ev_lst, ev_not, ev_and, ev_or, ev_if, ev_cbl, ev_btrue, ev_cand, ev_cor, ev_cnot, ev_sli, ev_onone, ev_osome, ev_chain, ev_meth, ev_get2, ev_newK, ev_newT, ev_own, ev_nil, ev_seq, ev_expr, ev_set, ev_ret, ev_retN, ev_cif, ev_brk, ev_ct, ev_asg, ev_put, ev_aug, ev_for, ev_comp, ev_newL, ev_iseq, ev_irange, ev_ienum, ev_yes, Out.bind_ok, Out.bindN_ok, bindS_ok, Tg.set, Tg.sets, List.getElem?_cons_zero, List.getElem?_cons_succ, List.set_cons_zero, List.set_cons_succ, wipeE, List.length_cons, List.length_nil, Nat.reduceAdd, Nat.reduceLeDiff, Nat.reduceEqDiff, ↓reduceIte, Bool.false_eq_true, decide_eq_true_eq, add_int, sub_int, lt_int, gt_int, le_int, ge_int, neg_int, and_int, or_int, xor_int, max2_int, min2_int, mod_pos, fdiv_sm, mul_sm, mul_smr, Int.reduceLT, Int.reduceNeg, int_bl, int_int, sli_tup, i0, e1])).trans rfl))
theorem lookR_all : ∀ l, (tl l ≤ 1000 → LookR l) := by
  obtain ⟨k1, k2, k3, k4, k5, k6, k7⟩ := skl
  obtain ⟨n1, n2, n3, n4, n5, n6, n7, n8, n9, n10, n11, n12, n13, n14, n15, n16, n17⟩ := either_ne
  refine Lk.ind ?_ ?_ ?_ ?_ ?_ ?_
  · intro _ ok hd n f S lb d hn h
    rw [neL] at h
    cases h.word
    refine ⟨S, ?_, .refl _⟩
    rw [F_look_of]
    refine runF_rt (ρ := [some (.str "any")]) rfl rfl ?_
    unfold c_look_of
    exact seq_rt ((if_t (S' := S) (by simp only [ev_var, ev_con, ev_bin, ev_un, ev_anil, ev_acons, ev_call, ev_tup, ev_lst, ev_not, ev_and, ev_or, ev_if, ev_cbl, ev_btrue, ev_cand, ev_cor, ev_cnot, ev_sli, ev_onone, ev_osome, ev_chain, ev_meth, ev_get2, ev_newK, ev_newT, ev_own, ev_nil, ev_seq, ev_expr, ev_set, ev_ret, ev_retN, ev_cif, ev_brk, ev_ct, ev_asg, ev_put, ev_aug, ev_for, ev_comp, ev_newL, ev_iseq, ev_irange, ev_ienum, ev_yes, Out.bind_ok, Out.bindN_ok, bindS_ok, Tg.set, Tg.sets, List.getElem?_cons_zero, List.getElem?_cons_succ, List.set_cons_zero, List.set_cons_succ, wipeE, List.length_cons, List.length_nil, Nat.reduceAdd, Nat.reduceLeDiff, Nat.reduceEqDiff, ↓reduceIte, Bool.false_eq_true, decide_eq_true_eq, add_int, sub_int, lt_int, gt_int, le_int, ge_int, neg_int, and_int, or_int, xor_int, max2_int, min2_int, mod_pos, fdiv_sm, mul_sm, mul_smr, Int.reduceLT, Int.reduceNeg, int_bl, int_int, sli_tup, eqt k1 S])).trans (ret_of (by simp only [ev_var, ev_con, ev_bin, ev_un, ev_anil, ev_acons, ev_call, ev_tup, ev_lst, ev_not, ev_and, ev_or, ev_if, ev_cbl, ev_btrue, ev_cand, ev_cor, ev_cnot, ev_sli, ev_onone, ev_osome, ev_chain, ev_meth, ev_get2, ev_newK, ev_newT, ev_own, ev_nil, ev_seq, ev_expr, ev_set, ev_ret, ev_retN, ev_cif, ev_brk, ev_ct, ev_asg, ev_put, ev_aug, ev_for, ev_comp, ev_newL, ev_iseq, ev_irange, ev_ienum, ev_yes, Out.bind_ok, Out.bindN_ok, bindS_ok, Tg.set, Tg.sets, List.getElem?_cons_zero, List.getElem?_cons_succ, List.set_cons_zero, List.set_cons_succ, wipeE, List.length_cons, List.length_nil, Nat.reduceAdd, Nat.reduceLeDiff, Nat.reduceEqDiff, ↓reduceIte, Bool.false_eq_true, decide_eq_true_eq, add_int, sub_int, lt_int, gt_int, le_int, ge_int, neg_int, and_int, or_int, xor_int, max2_int, min2_int, mod_pos, fdiv_sm, mul_sm, mul_smr, Int.reduceLT, Int.reduceNeg, int_bl, int_int, sli_tup, sline 1 (by omega)]; rw [lkD])))
  · intro _ ok
    rw [okL] at ok; cases ok
  · intro k _ ok hd n f S lb d hn h
    have sk : ∀ x ∈ wds (neL (.kind k)), Sk x := fun x hx => (wds_L _ ok x hx).sk
    have dq := dpN_L (.kind k)
    rw [okL] at ok
    rw [neL] at h sk dq
    obtain ⟨l, ds, rfl, hl, hds, hat⟩ := h.inv
    have hq := eq_br h sk (by omega) k1
    obtain ⟨e0, a0, b0⟩ := hat 0 _ rfl
    obtain ⟨e1, a1, b1⟩ := hat 1 _ rfl
    cases b0.word
    cases b1.word
    have i0 : idxD (.ref l) (.int 0) S = .ok (.str "kind") S := idx_ref hl (atI_nat (i := 0) a0)
    have i1 : idxD (.ref l) (.int 1) S = .ok (.str k) S := idx_ref hl (atI_nat (i := 1) a1)
    have ll : lenD [.ref l] S = .ok (.int 2) S := by rw [len_ref hl, hds]; rfl
    have e2 : eqD (.int 2) (.int 2) S = .ok (.bl true) S := by rw [eq_int]; rfl
    refine ⟨S, ?_, .refl _⟩
    rw [F_look_of]
    refine runF_rt (ρ := [some (.ref l)]) rfl rfl ?_
    obtain ⟨t, e, rfl⟩ := look_head (k := f + n + 2) k3 hl (by rw [hds]; exact Nat.le_refl 2) i0 hq n3
    refine e.trans ?_
    refine (seq_of ((if_f (S' := S) (by simp only [ev_var, ev_con, ev_bin, ev_un, ev_anil, ev_acons, ev_call, ev_tup, ev_lst, ev_not, ev_and, ev_or, ev_if, ev_cbl, ev_btrue, ev_cand, ev_cor, ev_cnot, ev_sli, ev_onone, ev_osome, ev_chain, ev_meth, ev_get2, ev_newK, ev_newT, ev_own, ev_nil, ev_seq, ev_expr, ev_set, ev_ret, ev_retN, ev_cif, ev_brk, ev_ct, ev_asg, ev_put, ev_aug, ev_for, ev_comp, ev_newL, ev_iseq, ev_irange, ev_ienum, ev_yes, Out.bind_ok, Out.bindN_ok, bindS_ok, Tg.set, Tg.sets, List.getElem?_cons_zero, List.getElem?_cons_succ, List.set_cons_zero, List.set_cons_succ, wipeE, List.length_cons, List.length_nil, Nat.reduceAdd, Nat.reduceLeDiff, Nat.reduceEqDiff, ↓reduceIte, Bool.false_eq_true, decide_eq_true_eq, add_int, sub_int, lt_int, gt_int, le_int, ge_int, neg_int, and_int, or_int, xor_int, max2_int, min2_int, mod_pos, fdiv_sm, mul_sm, mul_smr, Int.reduceLT, Int.reduceNeg, int_bl, int_int, sli_tup, i0, eqs k3 k6 S n4, eqs k3 k7 S n5])).trans rfl)).trans ?_
    refine (seq_of (expr_of (d := .non) (S' := S) (by simp only [ev_var, ev_con, ev_bin, ev_un, ev_anil, ev_acons, ev_call, ev_tup, ev_lst, ev_not, ev_and, ev_or, ev_if, ev_cbl, ev_btrue, ev_cand, ev_cor, ev_cnot, ev_sli, ev_onone, ev_osome, ev_chain, ev_meth, ev_get2, ev_newK, ev_newT, ev_own, ev_nil, ev_seq, ev_expr, ev_set, ev_ret, ev_retN, ev_cif, ev_brk, ev_ct, ev_asg, ev_put, ev_aug, ev_for, ev_comp, ev_newL, ev_iseq, ev_irange, ev_ienum, ev_yes, Out.bind_ok, Out.bindN_ok, bindS_ok, Tg.set, Tg.sets, List.getElem?_cons_zero, List.getElem?_cons_succ, List.set_cons_zero, List.set_cons_succ, wipeE, List.length_cons, List.length_nil, Nat.reduceAdd, Nat.reduceLeDiff, Nat.reduceEqDiff, ↓reduceIte, Bool.false_eq_true, decide_eq_true_eq, add_int, sub_int, lt_int, gt_int, le_int, ge_int, neg_int, and_int, or_int, xor_int, max2_int, min2_int, mod_pos, fdiv_sm, mul_sm, mul_smr, Int.reduceLT, Int.reduceNeg, int_bl, int_int, sli_tup, ll, e2, need_run]))).trans ?_
    refine (seq_of ((if_f (S' := S) (by simp only [ev_var, ev_con, ev_bin, ev_un, ev_anil, ev_acons, ev_call, ev_tup, ev_lst, ev_not, ev_and, ev_or, ev_if, ev_cbl, ev_btrue, ev_cand, ev_cor, ev_cnot, ev_sli, ev_onone, ev_osome, ev_chain, ev_meth, ev_get2, ev_newK, ev_newT, ev_own, ev_nil, ev_seq, ev_expr, ev_set, ev_ret, ev_retN, ev_cif, ev_brk, ev_ct, ev_asg, ev_put, ev_aug, ev_for, ev_comp, ev_newL, ev_iseq, ev_irange, ev_ienum, ev_yes, Out.bind_ok, Out.bindN_ok, bindS_ok, Tg.set, Tg.sets, List.getElem?_cons_zero, List.getElem?_cons_succ, List.set_cons_zero, List.set_cons_succ, wipeE, List.length_cons, List.length_nil, Nat.reduceAdd, Nat.reduceLeDiff, Nat.reduceEqDiff, ↓reduceIte, Bool.false_eq_true, decide_eq_true_eq, add_int, sub_int, lt_int, gt_int, le_int, ge_int, neg_int, and_int, or_int, xor_int, max2_int, min2_int, mod_pos, fdiv_sm, mul_sm, mul_smr, Int.reduceLT, Int.reduceNeg, int_bl, int_int, sli_tup, i0, eqs k3 k4 S n6])).trans rfl)).trans ?_
    refine (seq_of (expr_of (d := .non) (S' := S) (by simp only [ev_var, ev_con, ev_bin, ev_un, ev_anil, ev_acons, ev_call, ev_tup, ev_lst, ev_not, ev_and, ev_or, ev_if, ev_cbl, ev_btrue, ev_cand, ev_cor, ev_cnot, ev_sli, ev_onone, ev_osome, ev_chain, ev_meth, ev_get2, ev_newK, ev_newT, ev_own, ev_nil, ev_seq, ev_expr, ev_set, ev_ret, ev_retN, ev_cif, ev_brk, ev_ct, ev_asg, ev_put, ev_aug, ev_for, ev_comp, ev_newL, ev_iseq, ev_irange, ev_ienum, ev_yes, Out.bind_ok, Out.bindN_ok, bindS_ok, Tg.set, Tg.sets, List.getElem?_cons_zero, List.getElem?_cons_succ, List.set_cons_zero, List.set_cons_succ, wipeE, List.length_cons, List.length_nil, Nat.reduceAdd, Nat.reduceLeDiff, Nat.reduceEqDiff, ↓reduceIte, Bool.false_eq_true, decide_eq_true_eq, add_int, sub_int, lt_int, gt_int, le_int, ge_int, neg_int, and_int, or_int, xor_int, max2_int, min2_int, mod_pos, fdiv_sm, mul_sm, mul_smr, Int.reduceLT, Int.reduceNeg, int_bl, int_int, sli_tup, i0, eqt k3 S, need_run]))).trans ?_
    exact ret_of (by simp only [ev_var, ev_con, ev_bin, ev_un, ev_anil, ev_acons, ev_call, ev_tup, ev_lst, ev_not, ev_and, ev_or, ev_if, ev_cbl, ev_btrue, ev_cand, ev_cor, ev_cnot, ev_sli, ev_onone, ev_osome, ev_chain, ev_meth, ev_get2, ev_newK, ev_newT, ev_own, ev_nil, ev_seq, ev_expr, ev_set, ev_ret, ev_retN, ev_cif, ev_brk, ev_ct, ev_asg, ev_put, ev_aug, ev_for, ev_comp, ev_newL, ev_iseq, ev_irange, ev_ienum, ev_yes, Out.bind_ok, Out.bindN_ok, bindS_ok, Tg.set, Tg.sets, List.getElem?_cons_zero, List.getElem?_cons_succ, List.set_cons_zero, List.set_cons_succ, wipeE, List.length_cons, List.length_nil, Nat.reduceAdd, Nat.reduceLeDiff, Nat.reduceEqDiff, ↓reduceIte, Bool.false_eq_true, decide_eq_true_eq, add_int, sub_int, lt_int, gt_int, le_int, ge_int, neg_int, and_int, or_int, xor_int, max2_int, min2_int, mod_pos, fdiv_sm, mul_sm, mul_smr, Int.reduceLT, Int.reduceNeg, int_bl, int_int, sli_tup, i1, need_name_run ok, sline 2 (by omega)]; rw [lkD])
  · intro l0 ih ht ok hd n f S lb d hn h
    have sk : ∀ x ∈ wds (neL (.no l0)), Sk x := fun x hx => (wds_L _ ok x hx).sk
    have dq := dpN_L (.no l0)
    rw [okL] at ok
    rw [neL] at h sk dq
    rw [cal] at hn
    have hd' := hd
    rw [dpL] at hd
    rw [tl_no] at ht
    obtain ⟨l, ds, rfl, hl, hds, hat⟩ := h.inv
    have hq := eq_br h sk (by omega) k1
    obtain ⟨e0, a0, b0⟩ := hat 0 _ rfl
    obtain ⟨e1, a1, b1⟩ := hat 1 _ rfl
    cases b0.word
    have i0 : idxD (.ref l) (.int 0) S = .ok (.str "not") S := idx_ref hl (atI_nat (i := 0) a0)
    have i1 : idxD (.ref l) (.int 1) S = .ok e1 S := idx_ref hl (atI_nat (i := 1) a1)
    have ll : lenD [.ref l] S = .ok (.int 2) S := by rw [len_ref hl, hds]; rfl
    have e2 : eqD (.int 2) (.int 2) S = .ok (.bl true) S := by rw [eq_int]; rfl
    obtain ⟨m, rfl⟩ : ∃ m, n = m + 1 := ⟨n - 1, by omega⟩
    obtain ⟨S', e3, g3⟩ := ih (by omega) ok (by omega) m f S lb e1 (by omega) b1
    have e3' : F (f + (m + 1) + 2 + 1) .look_of [e1] S = .ok (lkD l0) S' := by rw [show f + (m + 1) + 2 + 1 = f + m + 4 by omega]; exact e3
    refine ⟨S', ?_, g3⟩
    rw [F_look_of]
    refine runF_rt (ρ := [some (.ref l)]) rfl rfl ?_
    obtain ⟨t, e, rfl⟩ := look_head (k := f + (m + 1) + 2) k4 hl (by rw [hds]; exact Nat.le_refl 2) i0 hq n7
    refine e.trans ?_
    refine (seq_of ((if_f (S' := S) (by simp only [ev_var, ev_con, ev_bin, ev_un, ev_anil, ev_acons, ev_call, ev_tup, ev_lst, ev_not, ev_and, ev_or, ev_if, ev_cbl, ev_btrue, ev_cand, ev_cor, ev_cnot, ev_sli, ev_onone, ev_osome, ev_chain, ev_meth, ev_get2, ev_newK, ev_newT, ev_own, ev_nil, ev_seq, ev_expr, ev_set, ev_ret, ev_retN, ev_cif, ev_brk, ev_ct, ev_asg, ev_put, ev_aug, ev_for, ev_comp, ev_newL, ev_iseq, ev_irange, ev_ienum, ev_yes, Out.bind_ok, Out.bindN_ok, bindS_ok, Tg.set, Tg.sets, List.getElem?_cons_zero, List.getElem?_cons_succ, List.set_cons_zero, List.set_cons_succ, wipeE, List.length_cons, List.length_nil, Nat.reduceAdd, Nat.reduceLeDiff, Nat.reduceEqDiff, ↓reduceIte, Bool.false_eq_true, decide_eq_true_eq, add_int, sub_int, lt_int, gt_int, le_int, ge_int, neg_int, and_int, or_int, xor_int, max2_int, min2_int, mod_pos, fdiv_sm, mul_sm, mul_smr, Int.reduceLT, Int.reduceNeg, int_bl, int_int, sli_tup, i0, eqs k4 k6 S n8, eqs k4 k7 S n9])).trans rfl)).trans ?_
    refine (seq_of (expr_of (d := .non) (S' := S) (by simp only [ev_var, ev_con, ev_bin, ev_un, ev_anil, ev_acons, ev_call, ev_tup, ev_lst, ev_not, ev_and, ev_or, ev_if, ev_cbl, ev_btrue, ev_cand, ev_cor, ev_cnot, ev_sli, ev_onone, ev_osome, ev_chain, ev_meth, ev_get2, ev_newK, ev_newT, ev_own, ev_nil, ev_seq, ev_expr, ev_set, ev_ret, ev_retN, ev_cif, ev_brk, ev_ct, ev_asg, ev_put, ev_aug, ev_for, ev_comp, ev_newL, ev_iseq, ev_irange, ev_ienum, ev_yes, Out.bind_ok, Out.bindN_ok, bindS_ok, Tg.set, Tg.sets, List.getElem?_cons_zero, List.getElem?_cons_succ, List.set_cons_zero, List.set_cons_succ, wipeE, List.length_cons, List.length_nil, Nat.reduceAdd, Nat.reduceLeDiff, Nat.reduceEqDiff, ↓reduceIte, Bool.false_eq_true, decide_eq_true_eq, add_int, sub_int, lt_int, gt_int, le_int, ge_int, neg_int, and_int, or_int, xor_int, max2_int, min2_int, mod_pos, fdiv_sm, mul_sm, mul_smr, Int.reduceLT, Int.reduceNeg, int_bl, int_int, sli_tup, ll, e2, need_run]))).trans ?_
    exact seq_rt ((if_t (S' := S) (by simp only [ev_var, ev_con, ev_bin, ev_un, ev_anil, ev_acons, ev_call, ev_tup, ev_lst, ev_not, ev_and, ev_or, ev_if, ev_cbl, ev_btrue, ev_cand, ev_cor, ev_cnot, ev_sli, ev_onone, ev_osome, ev_chain, ev_meth, ev_get2, ev_newK, ev_newT, ev_own, ev_nil, ev_seq, ev_expr, ev_set, ev_ret, ev_retN, ev_cif, ev_brk, ev_ct, ev_asg, ev_put, ev_aug, ev_for, ev_comp, ev_newL, ev_iseq, ev_irange, ev_ienum, ev_yes, Out.bind_ok, Out.bindN_ok, bindS_ok, Tg.set, Tg.sets, List.getElem?_cons_zero, List.getElem?_cons_succ, List.set_cons_zero, List.set_cons_succ, wipeE, List.length_cons, List.length_nil, Nat.reduceAdd, Nat.reduceLeDiff, Nat.reduceEqDiff, ↓reduceIte, Bool.false_eq_true, decide_eq_true_eq, add_int, sub_int, lt_int, gt_int, le_int, ge_int, neg_int, and_int, or_int, xor_int, max2_int, min2_int, mod_pos, fdiv_sm, mul_sm, mul_smr, Int.reduceLT, Int.reduceNeg, int_bl, int_int, sli_tup, i0, eqt k4 S])).trans (ret_of (by simp only [ev_var, ev_con, ev_bin, ev_un, ev_anil, ev_acons, ev_call, ev_tup, ev_lst, ev_not, ev_and, ev_or, ev_if, ev_cbl, ev_btrue, ev_cand, ev_cor, ev_cnot, ev_sli, ev_onone, ev_osome, ev_chain, ev_meth, ev_get2, ev_newK, ev_newT, ev_own, ev_nil, ev_seq, ev_expr, ev_set, ev_ret, ev_retN, ev_cif, ev_brk, ev_ct, ev_asg, ev_put, ev_aug, ev_for, ev_comp, ev_newL, ev_iseq, ev_irange, ev_ienum, ev_yes, Out.bind_ok, Out.bindN_ok, bindS_ok, Tg.set, Tg.sets, List.getElem?_cons_zero, List.getElem?_cons_succ, List.set_cons_zero, List.set_cons_succ, wipeE, List.length_cons, List.length_nil, Nat.reduceAdd, Nat.reduceLeDiff, Nat.reduceEqDiff, ↓reduceIte, Bool.false_eq_true, decide_eq_true_eq, add_int, sub_int, lt_int, gt_int, le_int, ge_int, neg_int, and_int, or_int, xor_int, max2_int, min2_int, mod_pos, fdiv_sm, mul_sm, mul_smr, Int.reduceLT, Int.reduceNeg, int_bl, int_int, sli_tup, i1, e3', sline 2 (by omega)]; rw [lkD])))
  · intro w l0 r0 ih1 ih2 ht ok hd n f S lb d hn h
    have sk : ∀ x ∈ wds (neL (.two w l0 r0)), Sk x := fun x hx => (wds_L _ ok x hx).sk
    have dq := dpN_L (.two w l0 r0)
    rw [okL] at ok
    rw [neL] at h sk dq
    rw [cal] at hn
    have hd' := hd
    rw [dpL] at hd
    rw [tl_two] at ht
    obtain ⟨l, ds, rfl, hl, hds, hat⟩ := h.inv
    have hq := eq_br h sk (by omega) k1
    obtain ⟨e0, a0, b0⟩ := hat 0 _ rfl
    obtain ⟨e1, a1, b1⟩ := hat 1 _ rfl
    obtain ⟨e2, a2, b2⟩ := hat 2 _ rfl
    cases b0.word
    have kw := (wd_two ok.1).sk
    have i0 : idxD (.ref l) (.int 0) S = .ok (.str w) S := idx_ref hl (atI_nat (i := 0) a0)
    have i1 : idxD (.ref l) (.int 1) S = .ok e1 S := idx_ref hl (atI_nat (i := 1) a1)
    have ll : lenD [.ref l] S = .ok (.int 3) S := by rw [len_ref hl, hds]; rfl
    have e3 : eqD (.int 3) (.int 3) S = .ok (.bl true) S := by rw [eq_int]; rfl
    obtain ⟨m, rfl⟩ : ∃ m, n = m + 2 := ⟨n - 2, by omega⟩
    obtain ⟨S1, f1, g1⟩ := ih1 (by omega) ok.2.1 (by omega) m f S lb e1 (by omega) b1
    have i2 : idxD (.ref l) (.int 2) S1 = .ok e2 S1 := idx_ref (g1.at hl) (atI_nat (i := 2) a2)
    obtain ⟨S2, f2, g2⟩ := ih2 (by omega) ok.2.2 (by omega) m f S1 lb e2 (by omega) (b2.gr g1)
    have e4 : F (f + (m + 2) + 2 + 1) .two_looks [.ref l] S = .ok (lkD (.two w l0 r0)) S2 := by
      rw [F_two_looks]
      refine runF_rt (ρ := [some (.ref l)]) rfl rfl ?_
      have f1' : F (f + (m + 2) + 2) .look_of [e1] S = .ok (lkD l0) S1 := by rw [show f + (m + 2) + 2 = f + m + 4 by omega]; exact f1
      have f2' : F (f + (m + 2) + 2) .look_of [e2] S1 = .ok (lkD r0) S2 := by rw [show f + (m + 2) + 2 = f + m + 4 by omega]; exact f2
      unfold c_two_looks
      refine (seq_of (expr_of (d := .non) (S' := S) (by simp only [ev_var, ev_con, ev_bin, ev_un, ev_anil, ev_acons, ev_call, ev_tup, ev_lst, ev_not, ev_and, ev_or, ev_if, ev_cbl, ev_btrue, ev_cand, ev_cor, ev_cnot, ev_sli, ev_onone, ev_osome, ev_chain, ev_meth, ev_get2, ev_newK, ev_newT, ev_own, ev_nil, ev_seq, ev_expr, ev_set, ev_ret, ev_retN, ev_cif, ev_brk, ev_ct, ev_asg, ev_put, ev_aug, ev_for, ev_comp, ev_newL, ev_iseq, ev_irange, ev_ienum, ev_yes, Out.bind_ok, Out.bindN_ok, bindS_ok, Tg.set, Tg.sets, List.getElem?_cons_zero, List.getElem?_cons_succ, List.set_cons_zero, List.set_cons_succ, wipeE, List.length_cons, List.length_nil, Nat.reduceAdd, Nat.reduceLeDiff, Nat.reduceEqDiff, ↓reduceIte, Bool.false_eq_true, decide_eq_true_eq, add_int, sub_int, lt_int, gt_int, le_int, ge_int, neg_int, and_int, or_int, xor_int, max2_int, min2_int, mod_pos, fdiv_sm, mul_sm, mul_smr, Int.reduceLT, Int.reduceNeg, int_bl, int_int, sli_tup, ll, e3]; exact need_run (k := f + (m + 2) + 1)))).trans ?_
      exact ret_of (by simp only [ev_var, ev_con, ev_bin, ev_un, ev_anil, ev_acons, ev_call, ev_tup, ev_lst, ev_not, ev_and, ev_or, ev_if, ev_cbl, ev_btrue, ev_cand, ev_cor, ev_cnot, ev_sli, ev_onone, ev_osome, ev_chain, ev_meth, ev_get2, ev_newK, ev_newT, ev_own, ev_nil, ev_seq, ev_expr, ev_set, ev_ret, ev_retN, ev_cif, ev_brk, ev_ct, ev_asg, ev_put, ev_aug, ev_for, ev_comp, ev_newL, ev_iseq, ev_irange, ev_ienum, ev_yes, Out.bind_ok, Out.bindN_ok, bindS_ok, Tg.set, Tg.sets, List.getElem?_cons_zero, List.getElem?_cons_succ, List.set_cons_zero, List.set_cons_succ, wipeE, List.length_cons, List.length_nil, Nat.reduceAdd, Nat.reduceLeDiff, Nat.reduceEqDiff, ↓reduceIte, Bool.false_eq_true, decide_eq_true_eq, add_int, sub_int, lt_int, gt_int, le_int, ge_int, neg_int, and_int, or_int, xor_int, max2_int, min2_int, mod_pos, fdiv_sm, mul_sm, mul_smr, Int.reduceLT, Int.reduceNeg, int_bl, int_int, sli_tup, i0, i1, f1', i2, f2', sline 3 (by omega)]; rw [lkD])
    refine ⟨S2, ?_, g1.trans g2⟩
    rw [F_look_of]
    refine runF_rt (ρ := [some (.ref l)]) rfl rfl ?_
    obtain ⟨t, e, rfl⟩ := look_head (k := f + (m + 2) + 2) kw hl (by rw [hds]; exact Nat.le_succ 2) i0 hq (two_ne ok.1).1
    refine e.trans (seq_rt ((if_t (S' := S) ?_).trans (ret_of (by simp only [ev_var, ev_con, ev_bin, ev_un, ev_anil, ev_acons, ev_call, ev_tup, ev_lst, ev_not, ev_and, ev_or, ev_if, ev_cbl, ev_btrue, ev_cand, ev_cor, ev_cnot, ev_sli, ev_onone, ev_osome, ev_chain, ev_meth, ev_get2, ev_newK, ev_newT, ev_own, ev_nil, ev_seq, ev_expr, ev_set, ev_ret, ev_retN, ev_cif, ev_brk, ev_ct, ev_asg, ev_put, ev_aug, ev_for, ev_comp, ev_newL, ev_iseq, ev_irange, ev_ienum, ev_yes, Out.bind_ok, Out.bindN_ok, bindS_ok, Tg.set, Tg.sets, List.getElem?_cons_zero, List.getElem?_cons_succ, List.set_cons_zero, List.set_cons_succ, wipeE, List.length_cons, List.length_nil, Nat.reduceAdd, Nat.reduceLeDiff, Nat.reduceEqDiff, ↓reduceIte, Bool.false_eq_true, decide_eq_true_eq, add_int, sub_int, lt_int, gt_int, le_int, ge_int, neg_int, and_int, or_int, xor_int, max2_int, min2_int, mod_pos, fdiv_sm, mul_sm, mul_smr, Int.reduceLT, Int.reduceNeg, int_bl, int_int, sli_tup, e4]))))
    rcases ok.1 with rfl | rfl
    · simp only [ev_var, ev_con, ev_bin, ev_un, ev_anil, ev_acons, ev_call, ev_tup, ev_lst, ev_not, ev_and, ev_or, ev_if, ev_cbl, ev_btrue, ev_cand, ev_cor, ev_cnot, ev_sli, ev_onone, ev_osome, ev_chain, ev_meth, ev_get2, ev_newK, ev_newT, ev_own, ev_nil, ev_seq, ev_expr, ev_set, ev_ret, ev_retN, ev_cif, ev_brk, ev_ct, ev_asg, ev_put, ev_aug, ev_for, ev_comp, ev_newL, ev_iseq, ev_irange, ev_ienum, ev_yes, Out.bind_ok, Out.bindN_ok, bindS_ok, Tg.set, Tg.sets, List.getElem?_cons_zero, List.getElem?_cons_succ, List.set_cons_zero, List.set_cons_succ, wipeE, List.length_cons, List.length_nil, Nat.reduceAdd, Nat.reduceLeDiff, Nat.reduceEqDiff, ↓reduceIte, Bool.false_eq_true, decide_eq_true_eq, add_int, sub_int, lt_int, gt_int, le_int, ge_int, neg_int, and_int, or_int, xor_int, max2_int, min2_int, mod_pos, fdiv_sm, mul_sm, mul_smr, Int.reduceLT, Int.reduceNeg, int_bl, int_int, sli_tup, i0, eqt k6 S]
    · simp only [ev_var, ev_con, ev_bin, ev_un, ev_anil, ev_acons, ev_call, ev_tup, ev_lst, ev_not, ev_and, ev_or, ev_if, ev_cbl, ev_btrue, ev_cand, ev_cor, ev_cnot, ev_sli, ev_onone, ev_osome, ev_chain, ev_meth, ev_get2, ev_newK, ev_newT, ev_own, ev_nil, ev_seq, ev_expr, ev_set, ev_ret, ev_retN, ev_cif, ev_brk, ev_ct, ev_asg, ev_put, ev_aug, ev_for, ev_comp, ev_newL, ev_iseq, ev_irange, ev_ienum, ev_yes, Out.bind_ok, Out.bindN_ok, bindS_ok, Tg.set, Tg.sets, List.getElem?_cons_zero, List.getElem?_cons_succ, List.set_cons_zero, List.set_cons_succ, wipeE, List.length_cons, List.length_nil, Nat.reduceAdd, Nat.reduceLeDiff, Nat.reduceEqDiff, ↓reduceIte, Bool.false_eq_true, decide_eq_true_eq, add_int, sub_int, lt_int, gt_int, le_int, ge_int, neg_int, and_int, or_int, xor_int, max2_int, min2_int, mod_pos, fdiv_sm, mul_sm, mul_smr, Int.reduceLT, Int.reduceNeg, int_bl, int_int, sli_tup, i0, eqs k7 k6 S n2, eqt k7 S]
  · intro s ih ht ok hd n f S lb d hn h
    have sk : ∀ x ∈ wds (neL (.way s)), Sk x := fun x hx => (wds_L _ ok x hx).sk
    have dq := dpN_L (.way s)
    rw [okL] at ok
    rw [neL] at h sk dq
    rw [cal] at hn
    have hd' := hd
    rw [dpL] at hd
    rw [tl_way] at ht
    have tll := tl_len s
    have hno := h
    obtain ⟨l, ds, rfl, hl, hds, hat⟩ := h.inv
    have hq := eq_br hno sk (by omega) k1
    obtain ⟨e0, a0, b0⟩ := hat 0 _ rfl
    cases b0.word
    rw [List.length_cons, neW_map, List.length_map] at hds
    have i0 : idxD (.ref l) (.int 0) S = .ok (.str "way") S := idx_ref hl (atI_nat (i := 0) a0)
    have ll : lenD [.ref l] S = .ok (.int (((wyL s).length + 1 : Nat) : Int)) S := by rw [len_ref hl, hds]
    have lp : decide ((1 : Int) < (((wyL s).length + 1 : Nat) : Int)) = true := decide_eq_true (by omega)
    obtain ⟨m, rfl⟩ : ∃ m, n = m + 1 := ⟨n - 1, by omega⟩
    have tle : ∀ (s : Wy) (p : Str × Lk), p ∈ wyL s → tl p.2 ≤ (tokss (neW s)).length := by
      intro s
      let rec go : ∀ (s : Wy) (p : Str × Lk), p ∈ wyL s → tl p.2 ≤ (tokss (neW s)).length
        | .nil, p, h => by rw [wyL] at h; cases h
        | .cons g l s, p, h => by
          rw [wyL] at h
          rw [tl_cons]
          rcases List.mem_cons.mp h with rfl | h
          · show tl l ≤ _; omega
          · have := go s p h; omega
      exact go s
    obtain ⟨S', e3, g3⟩ := way_run (fun p hp => ih p hp (by have := tle s p hp; omega)) ok.1 ok.2 (by omega) (by omega) (n := m) (f := f) (by omega) (show NeAt S lb (.ref l) (neY s) by rw [neY]; exact hno)
    have e3' : F (f + (m + 1) + 3) .way_of [.ref l] S = .ok (.tup (wyD s)) S' := by rw [show f + (m + 1) + 3 = f + m + 4 by omega]; exact e3
    refine ⟨S', ?_, g3⟩
    rw [F_look_of]
    refine runF_rt (ρ := [some (.ref l)]) rfl rfl ?_
    unfold c_look_of
    refine (seq_of ((if_f (S' := S) (by simp only [ev_var, ev_con, ev_bin, ev_un, ev_anil, ev_acons, ev_call, ev_tup, ev_lst, ev_not, ev_and, ev_or, ev_if, ev_cbl, ev_btrue, ev_cand, ev_cor, ev_cnot, ev_sli, ev_onone, ev_osome, ev_chain, ev_meth, ev_get2, ev_newK, ev_newT, ev_own, ev_nil, ev_seq, ev_expr, ev_set, ev_ret, ev_retN, ev_cif, ev_brk, ev_ct, ev_asg, ev_put, ev_aug, ev_for, ev_comp, ev_newL, ev_iseq, ev_irange, ev_ienum, ev_yes, Out.bind_ok, Out.bindN_ok, bindS_ok, Tg.set, Tg.sets, List.getElem?_cons_zero, List.getElem?_cons_succ, List.set_cons_zero, List.set_cons_succ, wipeE, List.length_cons, List.length_nil, Nat.reduceAdd, Nat.reduceLeDiff, Nat.reduceEqDiff, ↓reduceIte, Bool.false_eq_true, decide_eq_true_eq, add_int, sub_int, lt_int, gt_int, le_int, ge_int, neg_int, and_int, or_int, xor_int, max2_int, min2_int, mod_pos, fdiv_sm, mul_sm, mul_smr, Int.reduceLT, Int.reduceNeg, int_bl, int_int, sli_tup, hq])).trans rfl)).trans ?_
    refine (seq_of (expr_of (d := .non) (S' := S) (by simp only [ev_var, ev_con, ev_bin, ev_un, ev_anil, ev_acons, ev_call, ev_tup, ev_lst, ev_not, ev_and, ev_or, ev_if, ev_cbl, ev_btrue, ev_cand, ev_cor, ev_cnot, ev_sli, ev_onone, ev_osome, ev_chain, ev_meth, ev_get2, ev_newK, ev_newT, ev_own, ev_nil, ev_seq, ev_expr, ev_set, ev_ret, ev_retN, ev_cif, ev_brk, ev_ct, ev_asg, ev_put, ev_aug, ev_for, ev_comp, ev_newL, ev_iseq, ev_irange, ev_ienum, ev_yes, Out.bind_ok, Out.bindN_ok, bindS_ok, Tg.set, Tg.sets, List.getElem?_cons_zero, List.getElem?_cons_succ, List.set_cons_zero, List.set_cons_succ, wipeE, List.length_cons, List.length_nil, Nat.reduceAdd, Nat.reduceLeDiff, Nat.reduceEqDiff, ↓reduceIte, Bool.false_eq_true, decide_eq_true_eq, add_int, sub_int, lt_int, gt_int, le_int, ge_int, neg_int, and_int, or_int, xor_int, max2_int, min2_int, mod_pos, fdiv_sm, mul_sm, mul_smr, Int.reduceLT, Int.reduceNeg, int_bl, int_int, sli_tup, isi_lst hl, ll, lp, need_run]))).trans ?_
    exact seq_rt ((if_t (S' := S) (by simp only [ev_var, ev_con, ev_bin, ev_un, ev_anil, ev_acons, ev_call, ev_tup, ev_lst, ev_not, ev_and, ev_or, ev_if, ev_cbl, ev_btrue, ev_cand, ev_cor, ev_cnot, ev_sli, ev_onone, ev_osome, ev_chain, ev_meth, ev_get2, ev_newK, ev_newT, ev_own, ev_nil, ev_seq, ev_expr, ev_set, ev_ret, ev_retN, ev_cif, ev_brk, ev_ct, ev_asg, ev_put, ev_aug, ev_for, ev_comp, ev_newL, ev_iseq, ev_irange, ev_ienum, ev_yes, Out.bind_ok, Out.bindN_ok, bindS_ok, Tg.set, Tg.sets, List.getElem?_cons_zero, List.getElem?_cons_succ, List.set_cons_zero, List.set_cons_succ, wipeE, List.length_cons, List.length_nil, Nat.reduceAdd, Nat.reduceLeDiff, Nat.reduceEqDiff, ↓reduceIte, Bool.false_eq_true, decide_eq_true_eq, add_int, sub_int, lt_int, gt_int, le_int, ge_int, neg_int, and_int, or_int, xor_int, max2_int, min2_int, mod_pos, fdiv_sm, mul_sm, mul_smr, Int.reduceLT, Int.reduceNeg, int_bl, int_int, sli_tup, i0, eqt k5 S])).trans (ret_of (by simp only [ev_var, ev_con, ev_bin, ev_un, ev_anil, ev_acons, ev_call, ev_tup, ev_lst, ev_not, ev_and, ev_or, ev_if, ev_cbl, ev_btrue, ev_cand, ev_cor, ev_cnot, ev_sli, ev_onone, ev_osome, ev_chain, ev_meth, ev_get2, ev_newK, ev_newT, ev_own, ev_nil, ev_seq, ev_expr, ev_set, ev_ret, ev_retN, ev_cif, ev_brk, ev_ct, ev_asg, ev_put, ev_aug, ev_for, ev_comp, ev_newL, ev_iseq, ev_irange, ev_ienum, ev_yes, Out.bind_ok, Out.bindN_ok, bindS_ok, Tg.set, Tg.sets, List.getElem?_cons_zero, List.getElem?_cons_succ, List.set_cons_zero, List.set_cons_succ, wipeE, List.length_cons, List.length_nil, Nat.reduceAdd, Nat.reduceLeDiff, Nat.reduceEqDiff, ↓reduceIte, Bool.false_eq_true, decide_eq_true_eq, add_int, sub_int, lt_int, gt_int, le_int, ge_int, neg_int, and_int, or_int, xor_int, max2_int, min2_int, mod_pos, fdiv_sm, mul_sm, mul_smr, Int.reduceLT, Int.reduceNeg, int_bl, int_int, sli_tup, e3', sline 2 (by omega)]; rw [lkD])))
end
theorem tle : ∀ (s : Wy) (p : Str × Lk), p ∈ wyL s → tl p.2 ≤ (tokss (neW s)).length
  | .nil, p, h => by rw [wyL] at h; cases h
  | .cons g l s, p, h => by
    rw [wyL] at h
    rw [tl_cons]
    rcases List.mem_cons.mp h with rfl | h
    · show tl l ≤ _; omega
    · have := tle s p h; omega
theorem read_run {f n : Nat} {s : Wy} {x : Str} {S : Sto} (ok : okW false s) (hs : 1 ≤ (wyL s).length) (hd : dpW s ≤ 39) (ht : (tokss (neW s)).length ≤ 1000) (hn : calW s ≤ n) (hx : Sk x) (hl : x.length ≤ 400000) (he : tk [] (cs x) = (toks (neY s)).map cs) : ∃ S', F (f + n + 5) .read_way [.str x] S = .ok (.tup (wyD s)) S' ∧ Gr S S' := by
  have hw := wds_Y ok
  rw [neY] at he hw
  obtain ⟨l, S1, e1, g1, na⟩ := nest_run (k := f + n + 1) (S := S) hx hl he (fun y hy => (hw y (by rw [wds]; exact hy)).ok) (by rw [tokss, toks, List.length_append, List.length_cons, List.length_nil]; omega)
  have tll := tl_len s
  obtain ⟨S2, e2, g2⟩ := way_run (s := s) (fun p hp => lookR_all p.2 (by have := tle s p hp; omega)) ok hs (by omega) hd (n := n) (f := f) hn (S := S1) (lb := S.length) (d := .ref l) (by rw [neY]; exact na)
  refine ⟨S2, ?_, g1.trans g2⟩
  rw [F_read_way]
  refine runF_rt (ρ := [some (.str x)]) rfl rfl ?_
  unfold c_read_way
  exact ret_of (by simp only [ev_var, ev_con, ev_bin, ev_un, ev_anil, ev_acons, ev_call, ev_tup, ev_lst, ev_not, ev_and, ev_or, ev_if, ev_cbl, ev_btrue, ev_cand, ev_cor, ev_cnot, ev_sli, ev_onone, ev_osome, ev_chain, ev_meth, ev_get2, ev_newK, ev_newT, ev_own, ev_nil, ev_seq, ev_expr, ev_set, ev_ret, ev_retN, ev_cif, ev_brk, ev_ct, ev_asg, ev_put, ev_aug, ev_for, ev_comp, ev_newL, ev_iseq, ev_irange, ev_ienum, ev_yes, Out.bind_ok, Out.bindN_ok, bindS_ok, Tg.set, Tg.sets, List.getElem?_cons_zero, List.getElem?_cons_succ, List.set_cons_zero, List.set_cons_succ, wipeE, List.length_cons, List.length_nil, Nat.reduceAdd, Nat.reduceLeDiff, Nat.reduceEqDiff, ↓reduceIte, Bool.false_eq_true, decide_eq_true_eq, add_int, sub_int, lt_int, gt_int, le_int, ge_int, neg_int, and_int, or_int, xor_int, max2_int, min2_int, mod_pos, fdiv_sm, mul_sm, mul_smr, Int.reduceLT, Int.reduceNeg, int_bl, int_int, sli_tup, e1, e2])
/-! texts put together -/
theorem jl_cons : ∀ (a : List Nat) (bs : List (List Nat)), jl (a :: bs) = a ++ bs.flatMap fun b => 32 :: b
  | a, [] => by rw [jl]; simp
  | a, b :: bs => by rw [jl, jl_cons b bs, List.flatMap_cons]; simp
theorem cat {S : Sto} {a b : Str} {m n : Nat} (ha : (cs a).length ≤ m) (hb : (cs b).length ≤ n) (h : m + n ≤ 1000000) : addD (.str a) (.str b) S = .ok (.str (a ++ b)) S := by
  rw [cs_len] at ha hb
  exact add_str (sline _ (by omega))
theorem fm_mem {α : Type} {g : α → List Nat} {m : Nat} : ∀ l : List α, (∀ a ∈ l, (g a).length ≤ m) → (l.flatMap g).length ≤ l.length * m
  | [], _ => by simp
  | a :: l, h => by
    have := fm_mem l fun b hb => h b (by simp [hb])
    have := h a (by simp)
    rw [List.flatMap_cons, List.length_append, List.length_cons, Nat.succ_mul]; omega
theorem fm_succ {α : Type} {g : α → List Nat} {l : List α} {i : Nat} {a : α} (h : l[i]? = some a) : (l.take (i + 1)).flatMap g = (l.take i).flatMap g ++ g a := by
  rw [List.take_add_one, h, List.flatMap_append]
  simp
theorem shls_fm {α : Type} (g : α → Ne) (l : List α) : (shls (l.map g)).flatMap (fun b => 32 :: b) = l.flatMap fun a => 32 :: shl (g a) := by
  rw [shls_map, List.map_map]
  induction l with
  | nil => rfl
  | cons a l ih => simp [ih]
theorem isn_non (S : Sto) : isNotD .non .non S = .ok (.bl false) S := rfl
theorem isn_int (n : Int) (S : Sto) : isNotD (.int n) .non S = .ok (.bl true) S := rfl
theorem cut4 {S : Sto} {l m : Nat} {xs ys : List Dv} (h : S[l]? = some (.lst xs)) (h2 : S[m]? = some (.lst ys)) (hl : xs.length + ys.length ≤ 1000000) : addD (.ref l) (.ref m) S = newL (xs ++ ys) S := by
  have : xs.length + ys.length ≤ sizeLine := sline _ (by omega)
  simp only [addD, h, h2, this, ↓reduceIte]
section
theorem walk_tup (ds : List Dv) (S : Sto) : walkD (.tup ds) S = some (ds, .tt) := rfl
theorem idx0 {S : Sto} {a : Dv} {r : List Dv} : idxD (.tup (a :: r)) (.int 0) S = .ok a S := idx_tup (atI_nat (xs := a :: r) (i := 0) rfl)
theorem idx1 {S : Sto} {a b : Dv} {r : List Dv} : idxD (.tup (a :: b :: r)) (.int 1) S = .ok b S := idx_tup (atI_nat (xs := a :: b :: r) (i := 1) rfl)
def ShowR (m : Bool) (l : Lk) : Prop := okL m l → tl l ≤ 1000 → ∀ (n f : Nat) (S : Sto), cal l ≤ n → ∃ S', F (f + n + 3) .show_look [lkD l] S = .ok (.str (txN (neL l))) S' ∧ Gr S S'
theorem br_go {k : Nat} {S : Sto} {l : Nat} {ns : List Ne} (h : S[l]? = some (.lst ((ns.map txN).map .str))) (hw : ∀ x ∈ wdss ns, Wd x) (ht : (tokss ns).length ≤ 10000) : F (k + 1) .bracketed [.ref l] S = .ok (.str (txN (.b ns))) S := by
  have tl := txs_sum ns hw
  have := bracketed_run (k := k) h (by omega)
  rw [br_txN] at this
  exact this
theorem showW_run {m : Bool} {s : Wy} (ih : ∀ p ∈ wyL s, ShowR m p.2) (ok : okW m s) (ht : (tokss (neW s)).length ≤ 1000) {n f : Nat} {S : Sto} (hn : calW s ≤ n) : ∃ S', F (f + n + 3) .show_way [.tup (wyD s)] S = .ok (.str (txN (neY s))) S' ∧ Gr S S' := by
  have g1 := gr_app S [Ob.lst [.str "way"]]
  have a1 := at_new S (.lst [.str "way"])
  generalize hS1 : S ++ [Ob.lst [.str "way"]] = S1 at g1 a1
  have tll := tl_len s
  obtain ⟨v, S2, e2, h2, f2⟩ := loop_grow (ck := Ck.tt.ok) (j := 2) (b := b_show_way_1 (F (f + n + 2))) (ρ := [some (.tup (wyD s)), some (.ref S.length), none]) (S := S1) (lp := S.length) (wyD s) ((wyL s).map fun p => .str (txN (neP p))) (by rw [wyD_map, List.length_map, List.length_map]) (by rw [wyD_map, List.length_map]; omega) a1 (fun l => S.length ≤ l) (Nat.le_refl _)
    (fun i d z v S' xs hd hz fr hx hxl => by
      rw [wyD_map, List.getElem?_map, Option.map_eq_some_iff] at hd
      obtain ⟨p, hp, rfl⟩ := hd
      rw [List.getElem?_map, hp] at hz
      cases hz
      have hpm := List.mem_of_getElem? hp
      have c1 := calW_mem s p hpm
      obtain ⟨j, rfl⟩ : ∃ j, n = j + 2 := ⟨n - 2, by omega⟩
      obtain ⟨okg, okl⟩ := okW_mem s ok p hpm
      have tp := tle s p hpm
      have tp : (toks (neL p.2)).length ≤ 1000 := Nat.le_trans tp ht
      obtain ⟨S3, e3, g3⟩ := ih p hpm okl tp j (f + 1) S' (by omega)
      have e3' : F (f + (j + 2) + 2) .show_look [lkD p.2] S' = .ok (.str (txN (neL p.2))) S3 := by rw [show f + (j + 2) + 2 = f + 1 + j + 3 by omega]; exact e3
      have g4 := gr_app S3 [Ob.lst [.str p.1, .str (txN (neL p.2))]]
      have a4 := at_new S3 (.lst [.str p.1, .str (txN (neL p.2))])
      generalize hS4 : S3 ++ [Ob.lst [.str p.1, .str (txN (neL p.2))]] = S4 at g4 a4
      have a4' : S4[S3.length]? = some (.lst ((([.w p.1, neL p.2] : List Ne).map txN).map .str)) := by rw [a4]; simp only [List.map_cons, List.map_nil, txN_w]
      have br := br_go (k := f + (j + 2) + 1) a4' (fun x hx => by
        rw [wdss, wdss, wds, wdss] at hx
        simp only [List.cons_append, List.nil_append, List.append_nil, List.mem_cons] at hx
        rcases hx with rfl | hx
        · exact wd_go okg
        · exact wds_L p.2 okl x hx) (by rw [tokss, tokss, toks, tokss]; simp only [List.length_append, List.length_cons, List.length_nil, List.append_nil]; omega)
      have h4 := (g3.trans g4).at hx
      have ap := app_ref (x := .str (txN (neP p))) h4 (by rw [List.length_cons, List.length_nil] at hxl; show _ < 2 ^ 24; omega)
      refine ⟨_, rfl, some (stD p), S4.set S.length (.lst (xs ++ [.str (txN (neP p))])), ?_, at_set h4, ((g3.trans g4).imp fun _ _ z => z.elim).trans ((fr_set S4 S.length _).imp fun l _ z => by have z : l = S.length := z; show S.length ≤ l; omega)⟩
      unfold b_show_way_1
      refine expr_of (d := .non) ?_
      have i0 : idxD (stD p) (.int 0) S' = .ok (.str p.1) S' := idx0
      have i1 : idxD (stD p) (.int 1) S' = .ok (lkD p.2) S' := idx1
      simp only [ev_var, ev_con, ev_bin, ev_un, ev_anil, ev_acons, ev_call, ev_tup, ev_lst, ev_not, ev_and, ev_or, ev_if, ev_cbl, ev_btrue, ev_cand, ev_cor, ev_cnot, ev_sli, ev_onone, ev_osome, ev_chain, ev_meth, ev_get2, ev_newK, ev_newT, ev_own, ev_nil, ev_seq, ev_expr, ev_set, ev_ret, ev_retN, ev_cif, ev_brk, ev_ct, ev_asg, ev_put, ev_aug, ev_for, ev_comp, ev_newL, ev_iseq, ev_irange, ev_ienum, ev_yes, Out.bind_ok, Out.bindN_ok, bindS_ok, Tg.set, Tg.sets, List.getElem?_cons_zero, List.getElem?_cons_succ, List.set_cons_zero, List.set_cons_succ, wipeE, List.length_cons, List.length_nil, Nat.reduceAdd, Nat.reduceLeDiff, Nat.reduceEqDiff, ↓reduceIte, Bool.false_eq_true, decide_eq_true_eq, add_int, sub_int, lt_int, gt_int, le_int, ge_int, neg_int, and_int, or_int, xor_int, max2_int, min2_int, mod_pos, fdiv_sm, mul_sm, mul_smr, Int.reduceLT, Int.reduceNeg, int_bl, int_int, sli_tup, tyq_ref hx, i0, i1, e3', sline 2 (by omega), hS4, br]
      exact (show _ = _ by
        show (match (Out.ok (Dv.str (txN (.b [.w p.1, neL p.2]))) S4 : Out Dv) with | _ => _) = _
        simp only [show Ne.b [.w p.1, neL p.2] = neP p from rfl, ap]))
    (fun _ _ => trivial) none
  have gS : Gr S S2 := Gr.new g1 f2 fun l z => z
  have ey : [Dv.str "way"] ++ (wyL s).map (fun p => Dv.str (txN (neP p))) = ((Ne.w "way" :: neW s).map txN).map .str := by
    simp only [List.map_cons, txN_w, neW_map, List.map_map, List.cons_append, List.nil_append]; rfl
  rw [ey] at h2
  have br := br_go (k := f + n + 1) h2 (fun x hx => wds_Y ok x (by rw [neY, wds]; exact hx)) (by rw [tokss, toks, List.length_append, List.length_cons, List.length_nil]; omega)
  rw [← neY] at br
  refine ⟨S2, ?_, gS⟩
  rw [F_show_way]
  refine runF_rt (ρ := [some (.tup (wyD s)), none, none]) rfl rfl ?_
  unfold c_show_way
  refine (seq_of (set_of (d := .ref S.length) (S' := S1) (by simp only [ev_var, ev_con, ev_bin, ev_un, ev_anil, ev_acons, ev_call, ev_tup, ev_lst, ev_not, ev_and, ev_or, ev_if, ev_cbl, ev_btrue, ev_cand, ev_cor, ev_cnot, ev_sli, ev_onone, ev_osome, ev_chain, ev_meth, ev_get2, ev_newK, ev_newT, ev_own, ev_nil, ev_seq, ev_expr, ev_set, ev_ret, ev_retN, ev_cif, ev_brk, ev_ct, ev_asg, ev_put, ev_aug, ev_for, ev_comp, ev_newL, ev_iseq, ev_irange, ev_ienum, ev_yes, Out.bind_ok, Out.bindN_ok, bindS_ok, Tg.set, Tg.sets, List.getElem?_cons_zero, List.getElem?_cons_succ, List.set_cons_zero, List.set_cons_succ, wipeE, List.length_cons, List.length_nil, Nat.reduceAdd, Nat.reduceLeDiff, Nat.reduceEqDiff, ↓reduceIte, Bool.false_eq_true, decide_eq_true_eq, add_int, sub_int, lt_int, gt_int, le_int, ge_int, neg_int, and_int, or_int, xor_int, max2_int, min2_int, mod_pos, fdiv_sm, mul_sm, mul_smr, Int.reduceLT, Int.reduceNeg, int_bl, int_int, sli_tup, sline 1 (by omega), hS1]))).trans ?_
  refine (seq_of ((for_of (w := (wyD s, .tt)) (S' := S1) (by simp only [ev_var, ev_con, ev_bin, ev_un, ev_anil, ev_acons, ev_call, ev_tup, ev_lst, ev_not, ev_and, ev_or, ev_if, ev_cbl, ev_btrue, ev_cand, ev_cor, ev_cnot, ev_sli, ev_onone, ev_osome, ev_chain, ev_meth, ev_get2, ev_newK, ev_newT, ev_own, ev_nil, ev_seq, ev_expr, ev_set, ev_ret, ev_retN, ev_cif, ev_brk, ev_ct, ev_asg, ev_put, ev_aug, ev_for, ev_comp, ev_newL, ev_iseq, ev_irange, ev_ienum, ev_yes, Out.bind_ok, Out.bindN_ok, bindS_ok, Tg.set, Tg.sets, List.getElem?_cons_zero, List.getElem?_cons_succ, List.set_cons_zero, List.set_cons_succ, wipeE, List.length_cons, List.length_nil, Nat.reduceAdd, Nat.reduceLeDiff, Nat.reduceEqDiff, ↓reduceIte, Bool.false_eq_true, decide_eq_true_eq, add_int, sub_int, lt_int, gt_int, le_int, ge_int, neg_int, and_int, or_int, xor_int, max2_int, min2_int, mod_pos, fdiv_sm, mul_sm, mul_smr, Int.reduceLT, Int.reduceNeg, int_bl, int_int, sli_tup, walk_tup])).trans e2)).trans ?_
  exact ret_of (by simp only [List.set_cons_zero, List.set_cons_succ, ev_var, ev_con, ev_bin, ev_un, ev_anil, ev_acons, ev_call, ev_tup, ev_lst, ev_not, ev_and, ev_or, ev_if, ev_cbl, ev_btrue, ev_cand, ev_cor, ev_cnot, ev_sli, ev_onone, ev_osome, ev_chain, ev_meth, ev_get2, ev_newK, ev_newT, ev_own, ev_nil, ev_seq, ev_expr, ev_set, ev_ret, ev_retN, ev_cif, ev_brk, ev_ct, ev_asg, ev_put, ev_aug, ev_for, ev_comp, ev_newL, ev_iseq, ev_irange, ev_ienum, ev_yes, Out.bind_ok, Out.bindN_ok, bindS_ok, Tg.set, Tg.sets, List.getElem?_cons_zero, List.getElem?_cons_succ, List.set_cons_zero, List.set_cons_succ, wipeE, List.length_cons, List.length_nil, Nat.reduceAdd, Nat.reduceLeDiff, Nat.reduceEqDiff, ↓reduceIte, Bool.false_eq_true, decide_eq_true_eq, add_int, sub_int, lt_int, gt_int, le_int, ge_int, neg_int, and_int, or_int, xor_int, max2_int, min2_int, mod_pos, fdiv_sm, mul_sm, mul_smr, Int.reduceLT, Int.reduceNeg, int_bl, int_int, sli_tup, br])
theorem cut_tail (a : Dv) (r : List Dv) : cutD (a :: r) (some 1) none = r := cut_from (a :: r) 1
/-- a word and its looks -/
theorem show_tail {m : Bool} {n f : Nat} {w : Str} {ls : List Lk} {S : Sto} (ih : ∀ l ∈ ls, ShowR m l ∧ okL m l ∧ tl l ≤ 1000 ∧ cal l ≤ n) (hw : Wd w) (hl : ls.length ≤ 2) (y1 : w ≠ "way") (y2 : w ≠ "any") (y3 : w ≠ "mark") (y4 : w ≠ "kind") (ht : (tokss (ls.map neL)).length ≤ 9000) : ∃ S', F (f + n + 4) .show_look [.tup (.str w :: ls.map lkD)] S = .ok (.str (txN (.b (.w w :: ls.map neL)))) S' ∧ Gr S S' := by
  obtain ⟨k1, k2, k3, k4, k5, k6, k7⟩ := skl
  have g1 := gr_app S [Ob.lst [.str w]]
  have a1 := at_new S (.lst [.str w])
  generalize hS1 : S ++ [Ob.lst [.str w]] = S1 at g1 a1
  obtain ⟨S2, e2, g2⟩ := comp_grow (ck := Ck.tt.ok) (t := .nm 1) (y := y_show_look_1 (F (f + n + 3))) (ρ := [some (.tup (.str w :: ls.map lkD)), none]) (S := S1) (ls.map lkD) (ls.map fun l => .str (txN (neL l))) (by rw [List.length_map, List.length_map]) (by rw [List.length_map]; omega)
    (fun i d z S' hd hz g => by
      rw [List.getElem?_map, Option.map_eq_some_iff] at hd
      obtain ⟨l, hl, rfl⟩ := hd
      rw [List.getElem?_map, hl] at hz
      cases hz
      obtain ⟨p1, p2, p3, p4⟩ := ih l (List.mem_of_getElem? hl)
      obtain ⟨S3, e3, g3⟩ := p1 p2 p3 n f S' p4
      refine ⟨_, rfl, S3, ?_, g3⟩
      unfold y_show_look_1
      simp only [ev_var, ev_con, ev_bin, ev_un, ev_anil, ev_acons, ev_call, ev_tup, ev_lst, ev_not, ev_and, ev_or, ev_if, ev_cbl, ev_btrue, ev_cand, ev_cor, ev_cnot, ev_sli, ev_onone, ev_osome, ev_chain, ev_meth, ev_get2, ev_newK, ev_newT, ev_own, ev_nil, ev_seq, ev_expr, ev_set, ev_ret, ev_retN, ev_cif, ev_brk, ev_ct, ev_asg, ev_put, ev_aug, ev_for, ev_comp, ev_newL, ev_iseq, ev_irange, ev_ienum, ev_yes, Out.bind_ok, Out.bindN_ok, bindS_ok, Tg.set, Tg.sets, List.getElem?_cons_zero, List.getElem?_cons_succ, List.set_cons_zero, List.set_cons_succ, wipeE, List.length_cons, List.length_nil, Nat.reduceAdd, Nat.reduceLeDiff, Nat.reduceEqDiff, ↓reduceIte, Bool.false_eq_true, decide_eq_true_eq, add_int, sub_int, lt_int, gt_int, le_int, ge_int, neg_int, and_int, or_int, xor_int, max2_int, min2_int, mod_pos, fdiv_sm, mul_sm, mul_smr, Int.reduceLT, Int.reduceNeg, int_bl, int_int, sli_tup, e3])
    (fun _ _ => trivial)
  have g3 := gr_app S2 [Ob.lst (ls.map fun l => .str (txN (neL l)))]
  have a3 := at_new S2 (.lst (ls.map fun l => Dv.str (txN (neL l))))
  generalize hS3 : S2 ++ [Ob.lst (ls.map fun l => .str (txN (neL l)))] = S3 at g3 a3
  have ad := cut4 ((g2.trans g3).at a1) a3 (by rw [List.length_map]; simp only [List.length_cons, List.length_nil]; omega)
  have ey : [Dv.str w] ++ ls.map (fun l => Dv.str (txN (neL l))) = ((Ne.w w :: ls.map neL).map txN).map .str := by
    simp only [List.map_cons, txN_w, List.map_map, List.cons_append, List.nil_append]; rfl
  rw [ey] at ad
  have g4 := gr_app S3 [Ob.lst (((Ne.w w :: ls.map neL).map txN).map .str)]
  have a4 := at_new S3 (.lst (((Ne.w w :: ls.map neL).map txN).map .str))
  have ad' : addD (.ref S.length) (.ref S2.length) S3 = .ok (.ref S3.length) (S3 ++ [Ob.lst (((Ne.w w :: ls.map neL).map txN).map .str)]) := ad
  generalize S3 ++ [Ob.lst (((Ne.w w :: ls.map neL).map txN).map .str)] = S4 at g4 a4 ad'
  have br := br_go (k := f + n + 2) a4 (fun x hx => by
    rw [wdss, wds] at hx
    rcases List.mem_append.mp hx with hx | hx
    · rw [List.mem_singleton.mp hx]; exact hw
    · have H : ∀ ls : List Lk, (∀ l ∈ ls, okL m l) → x ∈ wdss (ls.map neL) → Wd x := by
        intro ls
        induction ls with
        | nil => intro _ h; rw [List.map_nil, wdss] at h; cases h
        | cons l ls ihl =>
          intro h1 h2
          rw [List.map_cons, wdss] at h2
          rcases List.mem_append.mp h2 with h2 | h2
          · exact wds_L l (h1 l (by simp)) x h2
          · exact ihl (fun l hl => h1 l (by simp [hl])) h2
      exact H ls (fun l hl => (ih l hl).2.1) hx) (by rw [tokss, toks, List.length_append, List.length_cons, List.length_nil]; omega)
  refine ⟨S4, ?_, ((g1.trans g2).trans g3).trans g4⟩
  rw [F_show_look]
  refine runF_rt (ρ := [some (.tup (.str w :: ls.map lkD)), none]) rfl rfl ?_
  unfold c_show_look
  refine (seq_of ((if_f (S' := S) (by simp only [ev_var, ev_con, ev_bin, ev_un, ev_anil, ev_acons, ev_call, ev_tup, ev_lst, ev_not, ev_and, ev_or, ev_if, ev_cbl, ev_btrue, ev_cand, ev_cor, ev_cnot, ev_sli, ev_onone, ev_osome, ev_chain, ev_meth, ev_get2, ev_newK, ev_newT, ev_own, ev_nil, ev_seq, ev_expr, ev_set, ev_ret, ev_retN, ev_cif, ev_brk, ev_ct, ev_asg, ev_put, ev_aug, ev_for, ev_comp, ev_newL, ev_iseq, ev_irange, ev_ienum, ev_yes, Out.bind_ok, Out.bindN_ok, bindS_ok, Tg.set, Tg.sets, List.getElem?_cons_zero, List.getElem?_cons_succ, List.set_cons_zero, List.set_cons_succ, wipeE, List.length_cons, List.length_nil, Nat.reduceAdd, Nat.reduceLeDiff, Nat.reduceEqDiff, ↓reduceIte, Bool.false_eq_true, decide_eq_true_eq, add_int, sub_int, lt_int, gt_int, le_int, ge_int, neg_int, and_int, or_int, xor_int, max2_int, min2_int, mod_pos, fdiv_sm, mul_sm, mul_smr, Int.reduceLT, Int.reduceNeg, int_bl, int_int, sli_tup, idx0, eqs hw.sk k5 S y1])).trans rfl)).trans ?_
  refine (seq_of ((if_f (S' := S) (by simp only [ev_var, ev_con, ev_bin, ev_un, ev_anil, ev_acons, ev_call, ev_tup, ev_lst, ev_not, ev_and, ev_or, ev_if, ev_cbl, ev_btrue, ev_cand, ev_cor, ev_cnot, ev_sli, ev_onone, ev_osome, ev_chain, ev_meth, ev_get2, ev_newK, ev_newT, ev_own, ev_nil, ev_seq, ev_expr, ev_set, ev_ret, ev_retN, ev_cif, ev_brk, ev_ct, ev_asg, ev_put, ev_aug, ev_for, ev_comp, ev_newL, ev_iseq, ev_irange, ev_ienum, ev_yes, Out.bind_ok, Out.bindN_ok, bindS_ok, Tg.set, Tg.sets, List.getElem?_cons_zero, List.getElem?_cons_succ, List.set_cons_zero, List.set_cons_succ, wipeE, List.length_cons, List.length_nil, Nat.reduceAdd, Nat.reduceLeDiff, Nat.reduceEqDiff, ↓reduceIte, Bool.false_eq_true, decide_eq_true_eq, add_int, sub_int, lt_int, gt_int, le_int, ge_int, neg_int, and_int, or_int, xor_int, max2_int, min2_int, mod_pos, fdiv_sm, mul_sm, mul_smr, Int.reduceLT, Int.reduceNeg, int_bl, int_int, sli_tup, idx0, eqs hw.sk k1 S y2, eqs hw.sk k2 S y3])).trans rfl)).trans ?_
  refine (seq_of ((if_f (S' := S) (by simp only [ev_var, ev_con, ev_bin, ev_un, ev_anil, ev_acons, ev_call, ev_tup, ev_lst, ev_not, ev_and, ev_or, ev_if, ev_cbl, ev_btrue, ev_cand, ev_cor, ev_cnot, ev_sli, ev_onone, ev_osome, ev_chain, ev_meth, ev_get2, ev_newK, ev_newT, ev_own, ev_nil, ev_seq, ev_expr, ev_set, ev_ret, ev_retN, ev_cif, ev_brk, ev_ct, ev_asg, ev_put, ev_aug, ev_for, ev_comp, ev_newL, ev_iseq, ev_irange, ev_ienum, ev_yes, Out.bind_ok, Out.bindN_ok, bindS_ok, Tg.set, Tg.sets, List.getElem?_cons_zero, List.getElem?_cons_succ, List.set_cons_zero, List.set_cons_succ, wipeE, List.length_cons, List.length_nil, Nat.reduceAdd, Nat.reduceLeDiff, Nat.reduceEqDiff, ↓reduceIte, Bool.false_eq_true, decide_eq_true_eq, add_int, sub_int, lt_int, gt_int, le_int, ge_int, neg_int, and_int, or_int, xor_int, max2_int, min2_int, mod_pos, fdiv_sm, mul_sm, mul_smr, Int.reduceLT, Int.reduceNeg, int_bl, int_int, sli_tup, idx0, eqs hw.sk k3 S y4])).trans rfl)).trans ?_
  exact ret_of (by simp only [ev_var, ev_con, ev_bin, ev_un, ev_anil, ev_acons, ev_call, ev_tup, ev_lst, ev_not, ev_and, ev_or, ev_if, ev_cbl, ev_btrue, ev_cand, ev_cor, ev_cnot, ev_sli, ev_onone, ev_osome, ev_chain, ev_meth, ev_get2, ev_newK, ev_newT, ev_own, ev_nil, ev_seq, ev_expr, ev_set, ev_ret, ev_retN, ev_cif, ev_brk, ev_ct, ev_asg, ev_put, ev_aug, ev_for, ev_comp, ev_newL, ev_iseq, ev_irange, ev_ienum, ev_yes, Out.bind_ok, Out.bindN_ok, bindS_ok, Tg.set, Tg.sets, List.getElem?_cons_zero, List.getElem?_cons_succ, List.set_cons_zero, List.set_cons_succ, wipeE, List.length_cons, List.length_nil, Nat.reduceAdd, Nat.reduceLeDiff, Nat.reduceEqDiff, ↓reduceIte, Bool.false_eq_true, decide_eq_true_eq, add_int, sub_int, lt_int, gt_int, le_int, ge_int, neg_int, and_int, or_int, xor_int, max2_int, min2_int, mod_pos, fdiv_sm, mul_sm, mul_smr, Int.reduceLT, Int.reduceNeg, int_bl, int_int, sli_tup, idx0, sline 1 (by omega), hS1, cut_tail, walk_tup, e2, hS3, ad', br])
theorem show_all {m : Bool} : ∀ l, ShowR m l := by
  obtain ⟨k1, k2, k3, k4, k5, k6, k7⟩ := skl
  obtain ⟨n1, n2, n3, n4, n5, n6, n7, n8, n9, n10, n11, n12, n13, n14, n15, n16, n17⟩ := either_ne
  refine Lk.ind ?_ ?_ ?_ ?_ ?_ ?_
  · intro ok _ n f S hn
    refine ⟨S, ?_, .refl _⟩
    rw [neL, txN_w, lkD, F_show_look]
    refine runF_rt (ρ := [some (.tup [.str "any"]), none]) rfl rfl ?_
    unfold c_show_look
    refine (seq_of ((if_f (S' := S) (by simp only [ev_var, ev_con, ev_bin, ev_un, ev_anil, ev_acons, ev_call, ev_tup, ev_lst, ev_not, ev_and, ev_or, ev_if, ev_cbl, ev_btrue, ev_cand, ev_cor, ev_cnot, ev_sli, ev_onone, ev_osome, ev_chain, ev_meth, ev_get2, ev_newK, ev_newT, ev_own, ev_nil, ev_seq, ev_expr, ev_set, ev_ret, ev_retN, ev_cif, ev_brk, ev_ct, ev_asg, ev_put, ev_aug, ev_for, ev_comp, ev_newL, ev_iseq, ev_irange, ev_ienum, ev_yes, Out.bind_ok, Out.bindN_ok, bindS_ok, Tg.set, Tg.sets, List.getElem?_cons_zero, List.getElem?_cons_succ, List.set_cons_zero, List.set_cons_succ, wipeE, List.length_cons, List.length_nil, Nat.reduceAdd, Nat.reduceLeDiff, Nat.reduceEqDiff, ↓reduceIte, Bool.false_eq_true, decide_eq_true_eq, add_int, sub_int, lt_int, gt_int, le_int, ge_int, neg_int, and_int, or_int, xor_int, max2_int, min2_int, mod_pos, fdiv_sm, mul_sm, mul_smr, Int.reduceLT, Int.reduceNeg, int_bl, int_int, sli_tup, idx0, eqs k1 k5 S n15])).trans rfl)).trans ?_
    exact seq_rt ((if_t (S' := S) (by simp only [ev_var, ev_con, ev_bin, ev_un, ev_anil, ev_acons, ev_call, ev_tup, ev_lst, ev_not, ev_and, ev_or, ev_if, ev_cbl, ev_btrue, ev_cand, ev_cor, ev_cnot, ev_sli, ev_onone, ev_osome, ev_chain, ev_meth, ev_get2, ev_newK, ev_newT, ev_own, ev_nil, ev_seq, ev_expr, ev_set, ev_ret, ev_retN, ev_cif, ev_brk, ev_ct, ev_asg, ev_put, ev_aug, ev_for, ev_comp, ev_newL, ev_iseq, ev_irange, ev_ienum, ev_yes, Out.bind_ok, Out.bindN_ok, bindS_ok, Tg.set, Tg.sets, List.getElem?_cons_zero, List.getElem?_cons_succ, List.set_cons_zero, List.set_cons_succ, wipeE, List.length_cons, List.length_nil, Nat.reduceAdd, Nat.reduceLeDiff, Nat.reduceEqDiff, ↓reduceIte, Bool.false_eq_true, decide_eq_true_eq, add_int, sub_int, lt_int, gt_int, le_int, ge_int, neg_int, and_int, or_int, xor_int, max2_int, min2_int, mod_pos, fdiv_sm, mul_sm, mul_smr, Int.reduceLT, Int.reduceNeg, int_bl, int_int, sli_tup, idx0, eqt k1 S])).trans (ret_of (by simp only [ev_var, ev_con, ev_bin, ev_un, ev_anil, ev_acons, ev_call, ev_tup, ev_lst, ev_not, ev_and, ev_or, ev_if, ev_cbl, ev_btrue, ev_cand, ev_cor, ev_cnot, ev_sli, ev_onone, ev_osome, ev_chain, ev_meth, ev_get2, ev_newK, ev_newT, ev_own, ev_nil, ev_seq, ev_expr, ev_set, ev_ret, ev_retN, ev_cif, ev_brk, ev_ct, ev_asg, ev_put, ev_aug, ev_for, ev_comp, ev_newL, ev_iseq, ev_irange, ev_ienum, ev_yes, Out.bind_ok, Out.bindN_ok, bindS_ok, Tg.set, Tg.sets, List.getElem?_cons_zero, List.getElem?_cons_succ, List.set_cons_zero, List.set_cons_succ, wipeE, List.length_cons, List.length_nil, Nat.reduceAdd, Nat.reduceLeDiff, Nat.reduceEqDiff, ↓reduceIte, Bool.false_eq_true, decide_eq_true_eq, add_int, sub_int, lt_int, gt_int, le_int, ge_int, neg_int, and_int, or_int, xor_int, max2_int, min2_int, mod_pos, fdiv_sm, mul_sm, mul_smr, Int.reduceLT, Int.reduceNeg, int_bl, int_int, sli_tup, idx0])))
  · intro ok _ n f S hn
    refine ⟨S, ?_, .refl _⟩
    rw [neL, txN_w, lkD, F_show_look]
    refine runF_rt (ρ := [some (.tup [.str "mark"]), none]) rfl rfl ?_
    unfold c_show_look
    refine (seq_of ((if_f (S' := S) (by simp only [ev_var, ev_con, ev_bin, ev_un, ev_anil, ev_acons, ev_call, ev_tup, ev_lst, ev_not, ev_and, ev_or, ev_if, ev_cbl, ev_btrue, ev_cand, ev_cor, ev_cnot, ev_sli, ev_onone, ev_osome, ev_chain, ev_meth, ev_get2, ev_newK, ev_newT, ev_own, ev_nil, ev_seq, ev_expr, ev_set, ev_ret, ev_retN, ev_cif, ev_brk, ev_ct, ev_asg, ev_put, ev_aug, ev_for, ev_comp, ev_newL, ev_iseq, ev_irange, ev_ienum, ev_yes, Out.bind_ok, Out.bindN_ok, bindS_ok, Tg.set, Tg.sets, List.getElem?_cons_zero, List.getElem?_cons_succ, List.set_cons_zero, List.set_cons_succ, wipeE, List.length_cons, List.length_nil, Nat.reduceAdd, Nat.reduceLeDiff, Nat.reduceEqDiff, ↓reduceIte, Bool.false_eq_true, decide_eq_true_eq, add_int, sub_int, lt_int, gt_int, le_int, ge_int, neg_int, and_int, or_int, xor_int, max2_int, min2_int, mod_pos, fdiv_sm, mul_sm, mul_smr, Int.reduceLT, Int.reduceNeg, int_bl, int_int, sli_tup, idx0, eqs k2 k5 S n16])).trans rfl)).trans ?_
    exact seq_rt ((if_t (S' := S) (by simp only [ev_var, ev_con, ev_bin, ev_un, ev_anil, ev_acons, ev_call, ev_tup, ev_lst, ev_not, ev_and, ev_or, ev_if, ev_cbl, ev_btrue, ev_cand, ev_cor, ev_cnot, ev_sli, ev_onone, ev_osome, ev_chain, ev_meth, ev_get2, ev_newK, ev_newT, ev_own, ev_nil, ev_seq, ev_expr, ev_set, ev_ret, ev_retN, ev_cif, ev_brk, ev_ct, ev_asg, ev_put, ev_aug, ev_for, ev_comp, ev_newL, ev_iseq, ev_irange, ev_ienum, ev_yes, Out.bind_ok, Out.bindN_ok, bindS_ok, Tg.set, Tg.sets, List.getElem?_cons_zero, List.getElem?_cons_succ, List.set_cons_zero, List.set_cons_succ, wipeE, List.length_cons, List.length_nil, Nat.reduceAdd, Nat.reduceLeDiff, Nat.reduceEqDiff, ↓reduceIte, Bool.false_eq_true, decide_eq_true_eq, add_int, sub_int, lt_int, gt_int, le_int, ge_int, neg_int, and_int, or_int, xor_int, max2_int, min2_int, mod_pos, fdiv_sm, mul_sm, mul_smr, Int.reduceLT, Int.reduceNeg, int_bl, int_int, sli_tup, idx0, eqs k2 k1 S n17, eqt k2 S])).trans (ret_of (by simp only [ev_var, ev_con, ev_bin, ev_un, ev_anil, ev_acons, ev_call, ev_tup, ev_lst, ev_not, ev_and, ev_or, ev_if, ev_cbl, ev_btrue, ev_cand, ev_cor, ev_cnot, ev_sli, ev_onone, ev_osome, ev_chain, ev_meth, ev_get2, ev_newK, ev_newT, ev_own, ev_nil, ev_seq, ev_expr, ev_set, ev_ret, ev_retN, ev_cif, ev_brk, ev_ct, ev_asg, ev_put, ev_aug, ev_for, ev_comp, ev_newL, ev_iseq, ev_irange, ev_ienum, ev_yes, Out.bind_ok, Out.bindN_ok, bindS_ok, Tg.set, Tg.sets, List.getElem?_cons_zero, List.getElem?_cons_succ, List.set_cons_zero, List.set_cons_succ, wipeE, List.length_cons, List.length_nil, Nat.reduceAdd, Nat.reduceLeDiff, Nat.reduceEqDiff, ↓reduceIte, Bool.false_eq_true, decide_eq_true_eq, add_int, sub_int, lt_int, gt_int, le_int, ge_int, neg_int, and_int, or_int, xor_int, max2_int, min2_int, mod_pos, fdiv_sm, mul_sm, mul_smr, Int.reduceLT, Int.reduceNeg, int_bl, int_int, sli_tup, idx0])))
  · intro k ok _ n f S hn
    rw [okL] at ok
    have g1 := gr_app S [Ob.lst [.str "kind", .str k]]
    have a1 := at_new S (.lst [.str "kind", .str k])
    generalize hS1 : S ++ [Ob.lst [.str "kind", .str k]] = S1 at g1 a1
    have a1' : S1[S.length]? = some (.lst ((([.w "kind", .w k] : List Ne).map txN).map .str)) := by rw [a1]; simp only [List.map_cons, List.map_nil, txN_w]
    have br := br_go (k := f + n + 1) a1' (fun x hx => by
      simp only [wdss, wds, List.cons_append, List.nil_append, List.mem_cons, List.not_mem_nil, or_false] at hx
      rcases hx with rfl | rfl
      · exact wd_ls.2.2.1
      · exact wd_name ok) (by simp [tokss, toks])
    refine ⟨S1, ?_, g1⟩
    rw [neL, lkD, F_show_look]
    refine runF_rt (ρ := [some (.tup [.str "kind", .str k]), none]) rfl rfl ?_
    unfold c_show_look
    refine (seq_of ((if_f (S' := S) (by simp only [ev_var, ev_con, ev_bin, ev_un, ev_anil, ev_acons, ev_call, ev_tup, ev_lst, ev_not, ev_and, ev_or, ev_if, ev_cbl, ev_btrue, ev_cand, ev_cor, ev_cnot, ev_sli, ev_onone, ev_osome, ev_chain, ev_meth, ev_get2, ev_newK, ev_newT, ev_own, ev_nil, ev_seq, ev_expr, ev_set, ev_ret, ev_retN, ev_cif, ev_brk, ev_ct, ev_asg, ev_put, ev_aug, ev_for, ev_comp, ev_newL, ev_iseq, ev_irange, ev_ienum, ev_yes, Out.bind_ok, Out.bindN_ok, bindS_ok, Tg.set, Tg.sets, List.getElem?_cons_zero, List.getElem?_cons_succ, List.set_cons_zero, List.set_cons_succ, wipeE, List.length_cons, List.length_nil, Nat.reduceAdd, Nat.reduceLeDiff, Nat.reduceEqDiff, ↓reduceIte, Bool.false_eq_true, decide_eq_true_eq, add_int, sub_int, lt_int, gt_int, le_int, ge_int, neg_int, and_int, or_int, xor_int, max2_int, min2_int, mod_pos, fdiv_sm, mul_sm, mul_smr, Int.reduceLT, Int.reduceNeg, int_bl, int_int, sli_tup, idx0, eqs k3 k5 S n3])).trans rfl)).trans ?_
    refine (seq_of ((if_f (S' := S) (by simp only [ev_var, ev_con, ev_bin, ev_un, ev_anil, ev_acons, ev_call, ev_tup, ev_lst, ev_not, ev_and, ev_or, ev_if, ev_cbl, ev_btrue, ev_cand, ev_cor, ev_cnot, ev_sli, ev_onone, ev_osome, ev_chain, ev_meth, ev_get2, ev_newK, ev_newT, ev_own, ev_nil, ev_seq, ev_expr, ev_set, ev_ret, ev_retN, ev_cif, ev_brk, ev_ct, ev_asg, ev_put, ev_aug, ev_for, ev_comp, ev_newL, ev_iseq, ev_irange, ev_ienum, ev_yes, Out.bind_ok, Out.bindN_ok, bindS_ok, Tg.set, Tg.sets, List.getElem?_cons_zero, List.getElem?_cons_succ, List.set_cons_zero, List.set_cons_succ, wipeE, List.length_cons, List.length_nil, Nat.reduceAdd, Nat.reduceLeDiff, Nat.reduceEqDiff, ↓reduceIte, Bool.false_eq_true, decide_eq_true_eq, add_int, sub_int, lt_int, gt_int, le_int, ge_int, neg_int, and_int, or_int, xor_int, max2_int, min2_int, mod_pos, fdiv_sm, mul_sm, mul_smr, Int.reduceLT, Int.reduceNeg, int_bl, int_int, sli_tup, idx0, eqs k3 k1 S n10, eqs k3 k2 S n11])).trans rfl)).trans ?_
    exact seq_rt ((if_t (S' := S) (by simp only [ev_var, ev_con, ev_bin, ev_un, ev_anil, ev_acons, ev_call, ev_tup, ev_lst, ev_not, ev_and, ev_or, ev_if, ev_cbl, ev_btrue, ev_cand, ev_cor, ev_cnot, ev_sli, ev_onone, ev_osome, ev_chain, ev_meth, ev_get2, ev_newK, ev_newT, ev_own, ev_nil, ev_seq, ev_expr, ev_set, ev_ret, ev_retN, ev_cif, ev_brk, ev_ct, ev_asg, ev_put, ev_aug, ev_for, ev_comp, ev_newL, ev_iseq, ev_irange, ev_ienum, ev_yes, Out.bind_ok, Out.bindN_ok, bindS_ok, Tg.set, Tg.sets, List.getElem?_cons_zero, List.getElem?_cons_succ, List.set_cons_zero, List.set_cons_succ, wipeE, List.length_cons, List.length_nil, Nat.reduceAdd, Nat.reduceLeDiff, Nat.reduceEqDiff, ↓reduceIte, Bool.false_eq_true, decide_eq_true_eq, add_int, sub_int, lt_int, gt_int, le_int, ge_int, neg_int, and_int, or_int, xor_int, max2_int, min2_int, mod_pos, fdiv_sm, mul_sm, mul_smr, Int.reduceLT, Int.reduceNeg, int_bl, int_int, sli_tup, idx0, eqt k3 S])).trans (ret_of (by simp only [ev_var, ev_con, ev_bin, ev_un, ev_anil, ev_acons, ev_call, ev_tup, ev_lst, ev_not, ev_and, ev_or, ev_if, ev_cbl, ev_btrue, ev_cand, ev_cor, ev_cnot, ev_sli, ev_onone, ev_osome, ev_chain, ev_meth, ev_get2, ev_newK, ev_newT, ev_own, ev_nil, ev_seq, ev_expr, ev_set, ev_ret, ev_retN, ev_cif, ev_brk, ev_ct, ev_asg, ev_put, ev_aug, ev_for, ev_comp, ev_newL, ev_iseq, ev_irange, ev_ienum, ev_yes, Out.bind_ok, Out.bindN_ok, bindS_ok, Tg.set, Tg.sets, List.getElem?_cons_zero, List.getElem?_cons_succ, List.set_cons_zero, List.set_cons_succ, wipeE, List.length_cons, List.length_nil, Nat.reduceAdd, Nat.reduceLeDiff, Nat.reduceEqDiff, ↓reduceIte, Bool.false_eq_true, decide_eq_true_eq, add_int, sub_int, lt_int, gt_int, le_int, ge_int, neg_int, and_int, or_int, xor_int, max2_int, min2_int, mod_pos, fdiv_sm, mul_sm, mul_smr, Int.reduceLT, Int.reduceNeg, int_bl, int_int, sli_tup, idx1, sline 2 (by omega), hS1, br])))
  · intro l ih ok ht n f S hn
    rw [okL] at ok
    rw [cal] at hn
    rw [tl_no] at ht
    obtain ⟨j, rfl⟩ : ∃ j, n = j + 1 := ⟨n - 1, by omega⟩
    have := show_tail (m := m) (n := j) (f := f) (w := "not") (ls := [l]) (S := S) (fun l' hl' => by rw [List.mem_singleton.mp hl']; exact ⟨ih, ok, by omega, by omega⟩) wd_ls.2.2.2.1 (by simp) n7 n12 n13 n14 (by simp only [List.map_cons, List.map_nil, tokss, List.append_nil]; exact Nat.le_trans (show tl l ≤ 1000 by omega) (by omega))
    rw [show f + (j + 1) + 3 = f + j + 4 by omega, lkD, neL]
    exact this
  · intro w l r ih1 ih2 ok ht n f S hn
    rw [okL] at ok
    rw [cal] at hn
    rw [tl_two] at ht
    obtain ⟨j, rfl⟩ : ∃ j, n = j + 1 := ⟨n - 1, by omega⟩
    obtain ⟨y1, y2, y3, y4⟩ := two_ne ok.1
    have := show_tail (m := m) (n := j) (f := f) (w := w) (ls := [l, r]) (S := S) (fun l' hl' => by
      simp only [List.mem_cons, List.not_mem_nil, or_false] at hl'
      rcases hl' with rfl | rfl
      · exact ⟨ih1, ok.2.1, by omega, by omega⟩
      · exact ⟨ih2, ok.2.2, by omega, by omega⟩) (wd_two ok.1) (by simp) y1 y2 y3 y4 (by
        simp only [List.map_cons, List.map_nil, tokss, List.append_nil, List.length_append]; have : tl l ≤ 1000 := by omega
        have : tl r ≤ 1000 := by omega
        unfold tl at *; omega)
    rw [show f + (j + 1) + 3 = f + j + 4 by omega, lkD, neL]
    exact this
  · intro s ih ok ht n f S hn
    rw [okL] at ok
    rw [cal] at hn
    rw [tl_way] at ht
    obtain ⟨j, rfl⟩ : ∃ j, n = j + 1 := ⟨n - 1, by omega⟩
    obtain ⟨S', e, g⟩ := showW_run ih ok.1 (by omega) (n := j) (f := f) (S := S) (by omega)
    refine ⟨S', ?_, g⟩
    rw [neL, ← neY, lkD, F_show_look]
    refine runF_rt (ρ := [some (.tup [.str "way", .tup (wyD s)]), none]) rfl rfl ?_
    unfold c_show_look
    have e' : F (f + (j + 1) + 2) .show_way [.tup (wyD s)] S = .ok (.str (txN (neY s))) S' := by rw [show f + (j + 1) + 2 = f + j + 3 by omega]; exact e
    exact seq_rt ((if_t (S' := S) (by simp only [ev_var, ev_con, ev_bin, ev_un, ev_anil, ev_acons, ev_call, ev_tup, ev_lst, ev_not, ev_and, ev_or, ev_if, ev_cbl, ev_btrue, ev_cand, ev_cor, ev_cnot, ev_sli, ev_onone, ev_osome, ev_chain, ev_meth, ev_get2, ev_newK, ev_newT, ev_own, ev_nil, ev_seq, ev_expr, ev_set, ev_ret, ev_retN, ev_cif, ev_brk, ev_ct, ev_asg, ev_put, ev_aug, ev_for, ev_comp, ev_newL, ev_iseq, ev_irange, ev_ienum, ev_yes, Out.bind_ok, Out.bindN_ok, bindS_ok, Tg.set, Tg.sets, List.getElem?_cons_zero, List.getElem?_cons_succ, List.set_cons_zero, List.set_cons_succ, wipeE, List.length_cons, List.length_nil, Nat.reduceAdd, Nat.reduceLeDiff, Nat.reduceEqDiff, ↓reduceIte, Bool.false_eq_true, decide_eq_true_eq, add_int, sub_int, lt_int, gt_int, le_int, ge_int, neg_int, and_int, or_int, xor_int, max2_int, min2_int, mod_pos, fdiv_sm, mul_sm, mul_smr, Int.reduceLT, Int.reduceNeg, int_bl, int_int, sli_tup, idx0, eqt k5 S])).trans (ret_of (by simp only [ev_var, ev_con, ev_bin, ev_un, ev_anil, ev_acons, ev_call, ev_tup, ev_lst, ev_not, ev_and, ev_or, ev_if, ev_cbl, ev_btrue, ev_cand, ev_cor, ev_cnot, ev_sli, ev_onone, ev_osome, ev_chain, ev_meth, ev_get2, ev_newK, ev_newT, ev_own, ev_nil, ev_seq, ev_expr, ev_set, ev_ret, ev_retN, ev_cif, ev_brk, ev_ct, ev_asg, ev_put, ev_aug, ev_for, ev_comp, ev_newL, ev_iseq, ev_irange, ev_ienum, ev_yes, Out.bind_ok, Out.bindN_ok, bindS_ok, Tg.set, Tg.sets, List.getElem?_cons_zero, List.getElem?_cons_succ, List.set_cons_zero, List.set_cons_succ, wipeE, List.length_cons, List.length_nil, Nat.reduceAdd, Nat.reduceLeDiff, Nat.reduceEqDiff, ↓reduceIte, Bool.false_eq_true, decide_eq_true_eq, add_int, sub_int, lt_int, gt_int, le_int, ge_int, neg_int, and_int, or_int, xor_int, max2_int, min2_int, mod_pos, fdiv_sm, mul_sm, mul_smr, Int.reduceLT, Int.reduceNeg, int_bl, int_int, sli_tup, idx1, e'])))
end
theorem wd_cs' {x : Str} (h : Wd x) : (cs x).length ≤ 9 := by have := h.len; have := cs_len x; omega
section
def TextR (l : Lk) : Prop := okL false l → tl l ≤ 1000 → ∀ (n f : Nat) (S : Sto), cal l ≤ n → ∃ S', F (f + n + 2) .l_look_text [lkD l] S = .ok (.str (txN (neL l))) S' ∧ Gr S S'
theorem tx_len {n : Ne} (h : ∀ x ∈ wds n, Wd x) (ht : (toks n).length ≤ 2000) : (cs (txN n)).length ≤ 20000 := by
  rw [show cs (txN n) = shl n from cs_stx _]
  have := shl_len n h; omega
theorem wds_P {m : Bool} {p : Str × Lk} (h1 : okG p.1) (h2 : okL m p.2) : ∀ x ∈ wds (neP p), Wd x := fun x hx => by
  simp only [neP, wds, wdss, List.cons_append, List.nil_append, List.append_nil, List.mem_cons] at hx
  rcases hx with rfl | hx
  · exact wd_go h1
  · exact wds_L p.2 h2 x hx
theorem toks_P (p : Str × Lk) : (toks (neP p)).length = 3 + tl p.2 := by simp [neP, toks, tokss, tl]; omega
theorem tok_take : ∀ (l : List (Str × Lk)) (i : Nat), (tokss ((l.take i).map neP)).length ≤ (tokss (l.map neP)).length
  | [], i => by simp
  | p :: l, 0 => by simp [tokss]
  | p :: l, i + 1 => by
    have := tok_take l i
    simp only [List.take_succ_cons, List.map_cons, tokss, List.length_append]; omega
theorem fm_toks : ∀ (l : List (Str × Lk)), (∀ p ∈ l, ∀ x ∈ wds (neP p), Wd x) → (l.flatMap fun p => 32 :: shl (neP p)).length ≤ 10 * (tokss (l.map neP)).length
  | [], _ => by simp
  | p :: l, h => by
    have := fm_toks l fun q hq => h q (by simp [hq])
    have := shl_len (neP p) (h p (by simp))
    simp only [List.flatMap_cons, List.length_append, List.length_cons, List.map_cons, tokss]; omega
theorem wayT_run {s : Wy} (ih : ∀ p ∈ wyL s, TextR p.2) (ok : okW false s) (ht : (tokss (neW s)).length ≤ 1000) {n f : Nat} {S : Sto} (hn : calW s ≤ n) : ∃ S', F (f + n + 2) .l_way_text [.tup (wyD s)] S = .ok (.str (txN (neY s))) S' ∧ Gr S S' := by
  have ls : (cs "(way").length ≤ 4 := by decide
  have l3 : (cs ")").length ≤ 1 := by decide
  have l2 : (cs " ").length ≤ 1 := by decide
  have lr : (cs " (").length ≤ 2 := by decide
  have hW : ∀ p ∈ wyL s, ∀ x ∈ wds (neP p), Wd x := fun p hp => wds_P (okW_mem s ok p hp).1 (okW_mem s ok p hp).2
  have ht' : (tokss ((wyL s).map neP)).length ≤ 1000 := by rw [← neW_map]; exact ht
  obtain ⟨ρ', S', e, x, v2, v3, rfl, g, hx⟩ := loop_all (ck := Ck.tt.ok) (t := .tp [.nm 2, .nm 3]) (b := b_l_way_text_1 (F (f + n + 1))) (S := S) (ρ := [some (.tup (wyD s)), some (.str "(way"), none, none])
    (fun i ρ S' => ∃ (x : Str) (v2 v3 : Option Dv), ρ = [some (.tup (wyD s)), some (.str x), v2, v3] ∧ Gr S S' ∧ cs x = cs "(way" ++ ((wyL s).take i).flatMap fun p => 32 :: shl (neP p)) (wyD s) ⟨_, none, none, rfl, .refl _, by rw [List.take_zero]; simp⟩
    (fun i d ρ S' hd ⟨x, v2, v3, hρ, g, hx⟩ => by
      subst hρ
      rw [wyD_map, List.getElem?_map, Option.map_eq_some_iff] at hd
      obtain ⟨p, hp, rfl⟩ := hd
      have hpm := List.mem_of_getElem? hp
      have c1 := calW_mem s p hpm
      obtain ⟨j, rfl⟩ : ∃ j, n = j + 2 := ⟨n - 2, by omega⟩
      obtain ⟨okg, okl⟩ := okW_mem s ok p hpm
      have tp := tle s p hpm
      have tp : tl p.2 ≤ 1000 := Nat.le_trans tp ht
      obtain ⟨S3, e3, g3⟩ := ih p hpm okl tp j (f + 1) S' (by omega)
      have e3' : F (f + (j + 2) + 1) .l_look_text [lkD p.2] S' = .ok (.str (txN (neL p.2))) S3 := by rw [show f + (j + 2) + 1 = f + 1 + j + 2 by omega]; exact e3
      have xl : (cs x).length ≤ 10004 := by
        have := fm_toks ((wyL s).take i) (fun p hp => hW p (List.mem_of_mem_take hp))
        have := tok_take (wyL s) i
        rw [hx, List.length_append]; omega
      have gl := wd_cs' (wd_go okg)
      have tl1 := tx_len (wds_L p.2 okl) (by have : (toks (neL p.2)).length ≤ 1000 := tp; omega)
      have d1 := cat (S := S') xl lr (by omega)
      have b1 : (cs (x ++ " (")).length ≤ 10006 := by rw [cs_app, List.length_append]; omega
      have d2 := cat (S := S') b1 gl (by omega)
      have b2 : (cs (x ++ " (" ++ p.1)).length ≤ 10015 := by rw [cs_app, List.length_append]; omega
      have d3 := cat (S := S') b2 l2 (by omega)
      have b3 : (cs (x ++ " (" ++ p.1 ++ " ")).length ≤ 10016 := by rw [cs_app, List.length_append]; omega
      have d4 := cat (S := S3) b3 tl1 (by omega)
      have b4 : (cs (x ++ " (" ++ p.1 ++ " " ++ txN (neL p.2))).length ≤ 30016 := by rw [cs_app, List.length_append]; omega
      have d5 := cat (S := S3) b4 l3 (by omega)
      refine ⟨trivial, [some (.tup (wyD s)), some (.str x), some (.str p.1), some (lkD p.2)], rfl, [some (.tup (wyD s)), some (.str (x ++ " (" ++ p.1 ++ " " ++ txN (neL p.2) ++ ")")), some (.str p.1), some (lkD p.2)], S3, .inl ?_, _, _, _, rfl, g.trans g3, ?_⟩
      · unfold b_l_way_text_1
        exact set_of (by simp only [ev_var, ev_con, ev_bin, ev_un, ev_anil, ev_acons, ev_call, ev_tup, ev_lst, ev_not, ev_and, ev_or, ev_if, ev_cbl, ev_btrue, ev_cand, ev_cor, ev_cnot, ev_sli, ev_onone, ev_osome, ev_chain, ev_meth, ev_get2, ev_newK, ev_newT, ev_own, ev_nil, ev_seq, ev_expr, ev_set, ev_ret, ev_retN, ev_cif, ev_brk, ev_ct, ev_asg, ev_put, ev_aug, ev_for, ev_comp, ev_newL, ev_iseq, ev_irange, ev_ienum, ev_yes, Out.bind_ok, Out.bindN_ok, bindS_ok, Tg.set, Tg.sets, List.getElem?_cons_zero, List.getElem?_cons_succ, List.set_cons_zero, List.set_cons_succ, wipeE, List.length_cons, List.length_nil, Nat.reduceAdd, Nat.reduceLeDiff, Nat.reduceEqDiff, ↓reduceIte, Bool.false_eq_true, decide_eq_true_eq, add_int, sub_int, lt_int, gt_int, le_int, ge_int, neg_int, and_int, or_int, xor_int, max2_int, min2_int, mod_pos, fdiv_sm, mul_sm, mul_smr, Int.reduceLT, Int.reduceNeg, int_bl, int_int, sli_tup, d1, d2, d3, e3', d4, d5])
      · have ep : shl (neP p) = 40 :: (cs p.1 ++ 32 :: (shl (neL p.2) ++ [41])) := by
          rw [neP, shl, shls, shls, shls, shl, jl_cons]; simp
        rw [fm_succ hp, cs_app, cs_app, cs_app, cs_app, cs_app, hx, ep, show cs (txN (neL p.2)) = shl (neL p.2) from cs_stx _]
        simp [show cs (" " : Str) = [32] from rfl, show cs (" (" : Str) = [32, 40] from rfl, show cs (")" : Str) = [41] from rfl])
    (fun _ _ _ => trivial)
  rw [wyD_map, List.length_map, List.take_length] at hx
  have xl : (cs x).length ≤ 10004 := by
    have := fm_toks (wyL s) hW
    rw [hx, List.length_append]; omega
  have d3 := cat (S := S') xl l3 (by omega)
  have et : x ++ ")" = txN (neY s) := cs_ext (by
    rw [show cs (txN (neY s)) = shl (neY s) from cs_stx _, neY, shl, shls, shl, jl_cons, neW_map, shls_fm, cs_app, hx]
    simp only [show cs (")" : Str) = [41] from rfl, show cs ("(way" : Str) = 40 :: cs "way" from rfl]
    simp)
  rw [et] at d3
  refine ⟨S', ?_, g⟩
  rw [F_l_way_text]
  refine runF_rt (ρ := [some (.tup (wyD s)), none, none, none]) rfl rfl ?_
  unfold c_l_way_text
  refine (seq_of (set_of (d := .str "(way") (S' := S) (by simp only [ev_var, ev_con, ev_bin, ev_un, ev_anil, ev_acons, ev_call, ev_tup, ev_lst, ev_not, ev_and, ev_or, ev_if, ev_cbl, ev_btrue, ev_cand, ev_cor, ev_cnot, ev_sli, ev_onone, ev_osome, ev_chain, ev_meth, ev_get2, ev_newK, ev_newT, ev_own, ev_nil, ev_seq, ev_expr, ev_set, ev_ret, ev_retN, ev_cif, ev_brk, ev_ct, ev_asg, ev_put, ev_aug, ev_for, ev_comp, ev_newL, ev_iseq, ev_irange, ev_ienum, ev_yes, Out.bind_ok, Out.bindN_ok, bindS_ok, Tg.set, Tg.sets, List.getElem?_cons_zero, List.getElem?_cons_succ, List.set_cons_zero, List.set_cons_succ, wipeE, List.length_cons, List.length_nil, Nat.reduceAdd, Nat.reduceLeDiff, Nat.reduceEqDiff, ↓reduceIte, Bool.false_eq_true, decide_eq_true_eq, add_int, sub_int, lt_int, gt_int, le_int, ge_int, neg_int, and_int, or_int, xor_int, max2_int, min2_int, mod_pos, fdiv_sm, mul_sm, mul_smr, Int.reduceLT, Int.reduceNeg, int_bl, int_int, sli_tup]))).trans ?_
  refine (seq_of ((for_of (w := (wyD s, .tt)) (S' := S) (by simp only [ev_var, ev_con, ev_bin, ev_un, ev_anil, ev_acons, ev_call, ev_tup, ev_lst, ev_not, ev_and, ev_or, ev_if, ev_cbl, ev_btrue, ev_cand, ev_cor, ev_cnot, ev_sli, ev_onone, ev_osome, ev_chain, ev_meth, ev_get2, ev_newK, ev_newT, ev_own, ev_nil, ev_seq, ev_expr, ev_set, ev_ret, ev_retN, ev_cif, ev_brk, ev_ct, ev_asg, ev_put, ev_aug, ev_for, ev_comp, ev_newL, ev_iseq, ev_irange, ev_ienum, ev_yes, Out.bind_ok, Out.bindN_ok, bindS_ok, Tg.set, Tg.sets, List.getElem?_cons_zero, List.getElem?_cons_succ, List.set_cons_zero, List.set_cons_succ, wipeE, List.length_cons, List.length_nil, Nat.reduceAdd, Nat.reduceLeDiff, Nat.reduceEqDiff, ↓reduceIte, Bool.false_eq_true, decide_eq_true_eq, add_int, sub_int, lt_int, gt_int, le_int, ge_int, neg_int, and_int, or_int, xor_int, max2_int, min2_int, mod_pos, fdiv_sm, mul_sm, mul_smr, Int.reduceLT, Int.reduceNeg, int_bl, int_int, sli_tup, walk_tup])).trans e)).trans ?_
  exact ret_of (by simp only [ev_var, ev_con, ev_bin, ev_un, ev_anil, ev_acons, ev_call, ev_tup, ev_lst, ev_not, ev_and, ev_or, ev_if, ev_cbl, ev_btrue, ev_cand, ev_cor, ev_cnot, ev_sli, ev_onone, ev_osome, ev_chain, ev_meth, ev_get2, ev_newK, ev_newT, ev_own, ev_nil, ev_seq, ev_expr, ev_set, ev_ret, ev_retN, ev_cif, ev_brk, ev_ct, ev_asg, ev_put, ev_aug, ev_for, ev_comp, ev_newL, ev_iseq, ev_irange, ev_ienum, ev_yes, Out.bind_ok, Out.bindN_ok, bindS_ok, Tg.set, Tg.sets, List.getElem?_cons_zero, List.getElem?_cons_succ, List.set_cons_zero, List.set_cons_succ, wipeE, List.length_cons, List.length_nil, Nat.reduceAdd, Nat.reduceLeDiff, Nat.reduceEqDiff, ↓reduceIte, Bool.false_eq_true, decide_eq_true_eq, add_int, sub_int, lt_int, gt_int, le_int, ge_int, neg_int, and_int, or_int, xor_int, max2_int, min2_int, mod_pos, fdiv_sm, mul_sm, mul_smr, Int.reduceLT, Int.reduceNeg, int_bl, int_int, sli_tup, d3])
theorem text_tail {n f : Nat} {w : Str} {l0 : Lk} {ls : List Lk} {S : Sto} (ih : ∀ l ∈ l0 :: ls, TextR l ∧ okL false l ∧ tl l ≤ 1000 ∧ cal l ≤ n) (hw : Wd w) (hl : ls.length ≤ 1) (y1 : w ≠ "way") (y2 : w ≠ "any") (y4 : w ≠ "kind") (ht : (tokss ((l0 :: ls).map neL)).length ≤ 1500) : ∃ S', F (f + n + 3) .l_look_text [.tup (.str w :: (l0 :: ls).map lkD)] S = .ok (.str (txN (.b (.w w :: (l0 :: ls).map neL)))) S' ∧ Gr S S' := by
  obtain ⟨k1, k2, k3, k4, k5, k6, k7⟩ := skl
  have hwl : ∀ x ∈ wdss ((l0 :: ls).map neL), Wd x := fun x hx => by
    have H : ∀ ls : List Lk, (∀ l ∈ ls, okL false l) → x ∈ wdss (ls.map neL) → Wd x := by
      intro ls
      induction ls with
      | nil => intro _ h; rw [List.map_nil, wdss] at h; cases h
      | cons l ls ihl =>
        intro h1 h2
        rw [List.map_cons, wdss] at h2
        rcases List.mem_append.mp h2 with h2 | h2
        · exact wds_L l (h1 l (by simp)) x h2
        · exact ihl (fun l hl => h1 l (by simp [hl])) h2
    exact H (l0 :: ls) (fun l hl => (ih l hl).2.1) hx
  obtain ⟨S2, e2, g2⟩ := comp_grow (ck := Ck.tt.ok) (t := .nm 1) (y := y_l_look_text_1 (F (f + n + 2))) (ρ := [some (.tup (.str w :: (l0 :: ls).map lkD)), none]) (S := S) ((l0 :: ls).map lkD) ((l0 :: ls).map fun l => .str (txN (neL l))) (by rw [List.length_map, List.length_map]) (by rw [List.length_map, List.length_cons]; omega)
    (fun i d z S' hd hz g => by
      rw [List.getElem?_map, Option.map_eq_some_iff] at hd
      obtain ⟨l, hl, rfl⟩ := hd
      rw [List.getElem?_map, hl] at hz
      cases hz
      obtain ⟨p1, p2, p3, p4⟩ := ih l (List.mem_of_getElem? hl)
      obtain ⟨S3, e3, g3⟩ := p1 p2 p3 n f S' p4
      refine ⟨_, rfl, S3, ?_, g3⟩
      unfold y_l_look_text_1
      simp only [ev_var, ev_con, ev_bin, ev_un, ev_anil, ev_acons, ev_call, ev_tup, ev_lst, ev_not, ev_and, ev_or, ev_if, ev_cbl, ev_btrue, ev_cand, ev_cor, ev_cnot, ev_sli, ev_onone, ev_osome, ev_chain, ev_meth, ev_get2, ev_newK, ev_newT, ev_own, ev_nil, ev_seq, ev_expr, ev_set, ev_ret, ev_retN, ev_cif, ev_brk, ev_ct, ev_asg, ev_put, ev_aug, ev_for, ev_comp, ev_newL, ev_iseq, ev_irange, ev_ienum, ev_yes, Out.bind_ok, Out.bindN_ok, bindS_ok, Tg.set, Tg.sets, List.getElem?_cons_zero, List.getElem?_cons_succ, List.set_cons_zero, List.set_cons_succ, wipeE, List.length_cons, List.length_nil, Nat.reduceAdd, Nat.reduceLeDiff, Nat.reduceEqDiff, ↓reduceIte, Bool.false_eq_true, decide_eq_true_eq, add_int, sub_int, lt_int, gt_int, le_int, ge_int, neg_int, and_int, or_int, xor_int, max2_int, min2_int, mod_pos, fdiv_sm, mul_sm, mul_smr, Int.reduceLT, Int.reduceNeg, int_bl, int_int, sli_tup, e3])
    (fun _ _ => trivial)
  have g3 := gr_app S2 [Ob.lst ((l0 :: ls).map fun l => .str (txN (neL l)))]
  have a3 := at_new S2 (.lst ((l0 :: ls).map fun l => Dv.str (txN (neL l))))
  generalize hS3 : S2 ++ [Ob.lst ((l0 :: ls).map fun l => .str (txN (neL l)))] = S3 at g3 a3
  have ey : (l0 :: ls).map (fun l => Dv.str (txN (neL l))) = (((l0 :: ls).map neL).map txN).map .str := by
    rw [List.map_map, List.map_map]; rfl
  rw [ey] at a3
  have tl := txs_sum _ hwl
  obtain ⟨j1, _, _⟩ := br_run a3 (by omega)
  have ej : cs (Txt.join " " (((l0 :: ls).map neL).map txN)) = jl (shls ((l0 :: ls).map neL)) := by
    rw [cs_join, shls_map, List.map_map]
    congr 1
  have jlen : (cs (Txt.join " " (((l0 :: ls).map neL).map txN))).length ≤ 20000 := by
    have := jl_len (shls ((l0 :: ls).map neL))
    have := shls_len _ hwl
    rw [ej]; omega
  generalize Txt.join " " (((l0 :: ls).map neL).map txN) = jx at j1 ej jlen
  have l1 : (cs "(").length ≤ 1 := by decide
  have l2 : (cs " ").length ≤ 1 := by decide
  have l3 : (cs ")").length ≤ 1 := by decide
  have wl := wd_cs' hw
  have c1 := cat (S := S) l1 wl (by omega)
  have b1 : (cs (("(" : Str) ++ w)).length ≤ 10 := by rw [cs_app, List.length_append]; omega
  have c2 := cat (S := S) b1 l2 (by omega)
  have b2 : (cs (("(" : Str) ++ w ++ " ")).length ≤ 11 := by rw [cs_app, List.length_append]; omega
  have c3 := cat (S := S3) b2 jlen (by omega)
  have b3 : (cs (("(" : Str) ++ w ++ " " ++ jx)).length ≤ 20011 := by rw [cs_app, List.length_append]; omega
  have c4 := cat (S := S3) b3 l3 (by omega)
  have et : ("(" : Str) ++ w ++ " " ++ jx ++ ")" = txN (.b (.w w :: (l0 :: ls).map neL)) := cs_ext (by
    rw [show cs (txN (.b (.w w :: (l0 :: ls).map neL))) = shl _ from cs_stx _, shl, shls, shl, cs_app, cs_app, cs_app, cs_app, ej]
    rw [List.map_cons, shls, jl]
    simp [show cs (" " : Str) = [32] from rfl, show cs ("(" : Str) = [40] from rfl, show cs (")" : Str) = [41] from rfl])
  rw [et] at c4
  refine ⟨S3, ?_, g2.trans g3⟩
  rw [F_l_look_text]
  refine runF_rt (ρ := [some (.tup (.str w :: (l0 :: ls).map lkD)), none]) rfl rfl ?_
  unfold c_l_look_text
  refine (seq_of ((if_f (S' := S) (by simp only [ev_var, ev_con, ev_bin, ev_un, ev_anil, ev_acons, ev_call, ev_tup, ev_lst, ev_not, ev_and, ev_or, ev_if, ev_cbl, ev_btrue, ev_cand, ev_cor, ev_cnot, ev_sli, ev_onone, ev_osome, ev_chain, ev_meth, ev_get2, ev_newK, ev_newT, ev_own, ev_nil, ev_seq, ev_expr, ev_set, ev_ret, ev_retN, ev_cif, ev_brk, ev_ct, ev_asg, ev_put, ev_aug, ev_for, ev_comp, ev_newL, ev_iseq, ev_irange, ev_ienum, ev_yes, Out.bind_ok, Out.bindN_ok, bindS_ok, Tg.set, Tg.sets, List.getElem?_cons_zero, List.getElem?_cons_succ, List.set_cons_zero, List.set_cons_succ, wipeE, List.length_cons, List.length_nil, Nat.reduceAdd, Nat.reduceLeDiff, Nat.reduceEqDiff, ↓reduceIte, Bool.false_eq_true, decide_eq_true_eq, add_int, sub_int, lt_int, gt_int, le_int, ge_int, neg_int, and_int, or_int, xor_int, max2_int, min2_int, mod_pos, fdiv_sm, mul_sm, mul_smr, Int.reduceLT, Int.reduceNeg, int_bl, int_int, sli_tup, idx0, eqs hw.sk k5 S y1])).trans rfl)).trans ?_
  refine (seq_of ((if_f (S' := S) (by simp only [ev_var, ev_con, ev_bin, ev_un, ev_anil, ev_acons, ev_call, ev_tup, ev_lst, ev_not, ev_and, ev_or, ev_if, ev_cbl, ev_btrue, ev_cand, ev_cor, ev_cnot, ev_sli, ev_onone, ev_osome, ev_chain, ev_meth, ev_get2, ev_newK, ev_newT, ev_own, ev_nil, ev_seq, ev_expr, ev_set, ev_ret, ev_retN, ev_cif, ev_brk, ev_ct, ev_asg, ev_put, ev_aug, ev_for, ev_comp, ev_newL, ev_iseq, ev_irange, ev_ienum, ev_yes, Out.bind_ok, Out.bindN_ok, bindS_ok, Tg.set, Tg.sets, List.getElem?_cons_zero, List.getElem?_cons_succ, List.set_cons_zero, List.set_cons_succ, wipeE, List.length_cons, List.length_nil, Nat.reduceAdd, Nat.reduceLeDiff, Nat.reduceEqDiff, ↓reduceIte, Bool.false_eq_true, decide_eq_true_eq, add_int, sub_int, lt_int, gt_int, le_int, ge_int, neg_int, and_int, or_int, xor_int, max2_int, min2_int, mod_pos, fdiv_sm, mul_sm, mul_smr, Int.reduceLT, Int.reduceNeg, int_bl, int_int, sli_tup, idx0, eqs hw.sk k1 S y2])).trans rfl)).trans ?_
  refine (seq_of ((if_f (S' := S) (by simp only [ev_var, ev_con, ev_bin, ev_un, ev_anil, ev_acons, ev_call, ev_tup, ev_lst, ev_not, ev_and, ev_or, ev_if, ev_cbl, ev_btrue, ev_cand, ev_cor, ev_cnot, ev_sli, ev_onone, ev_osome, ev_chain, ev_meth, ev_get2, ev_newK, ev_newT, ev_own, ev_nil, ev_seq, ev_expr, ev_set, ev_ret, ev_retN, ev_cif, ev_brk, ev_ct, ev_asg, ev_put, ev_aug, ev_for, ev_comp, ev_newL, ev_iseq, ev_irange, ev_ienum, ev_yes, Out.bind_ok, Out.bindN_ok, bindS_ok, Tg.set, Tg.sets, List.getElem?_cons_zero, List.getElem?_cons_succ, List.set_cons_zero, List.set_cons_succ, wipeE, List.length_cons, List.length_nil, Nat.reduceAdd, Nat.reduceLeDiff, Nat.reduceEqDiff, ↓reduceIte, Bool.false_eq_true, decide_eq_true_eq, add_int, sub_int, lt_int, gt_int, le_int, ge_int, neg_int, and_int, or_int, xor_int, max2_int, min2_int, mod_pos, fdiv_sm, mul_sm, mul_smr, Int.reduceLT, Int.reduceNeg, int_bl, int_int, sli_tup, idx0, eqs hw.sk k3 S y4])).trans rfl)).trans ?_
  have tq : ∀ S, tyQ "str" (.str " ") S = true := fun _ => rfl
  exact ret_of (by simp only [ev_var, ev_con, ev_bin, ev_un, ev_anil, ev_acons, ev_call, ev_tup, ev_lst, ev_not, ev_and, ev_or, ev_if, ev_cbl, ev_btrue, ev_cand, ev_cor, ev_cnot, ev_sli, ev_onone, ev_osome, ev_chain, ev_meth, ev_get2, ev_newK, ev_newT, ev_own, ev_nil, ev_seq, ev_expr, ev_set, ev_ret, ev_retN, ev_cif, ev_brk, ev_ct, ev_asg, ev_put, ev_aug, ev_for, ev_comp, ev_newL, ev_iseq, ev_irange, ev_ienum, ev_yes, Out.bind_ok, Out.bindN_ok, bindS_ok, Tg.set, Tg.sets, List.getElem?_cons_zero, List.getElem?_cons_succ, List.set_cons_zero, List.set_cons_succ, wipeE, List.length_cons, List.length_nil, Nat.reduceAdd, Nat.reduceLeDiff, Nat.reduceEqDiff, ↓reduceIte, Bool.false_eq_true, decide_eq_true_eq, add_int, sub_int, lt_int, gt_int, le_int, ge_int, neg_int, and_int, or_int, xor_int, max2_int, min2_int, mod_pos, fdiv_sm, mul_sm, mul_smr, Int.reduceLT, Int.reduceNeg, int_bl, int_int, sli_tup, idx0, c1, c2, tq, cut_tail, walk_tup, e2, hS3, j1, c3, c4])
theorem text_all : ∀ l, TextR l := by
  obtain ⟨k1, k2, k3, k4, k5, k6, k7⟩ := skl
  obtain ⟨n1, n2, n3, n4, n5, n6, n7, n8, n9, n10, n11, n12, n13, n14, n15, n16, n17⟩ := either_ne
  refine Lk.ind ?_ ?_ ?_ ?_ ?_ ?_
  · intro ok _ n f S hn
    refine ⟨S, ?_, .refl _⟩
    rw [neL, txN_w, lkD, F_l_look_text]
    refine runF_rt (ρ := [some (.tup [.str "any"]), none]) rfl rfl ?_
    unfold c_l_look_text
    refine (seq_of ((if_f (S' := S) (by simp only [ev_var, ev_con, ev_bin, ev_un, ev_anil, ev_acons, ev_call, ev_tup, ev_lst, ev_not, ev_and, ev_or, ev_if, ev_cbl, ev_btrue, ev_cand, ev_cor, ev_cnot, ev_sli, ev_onone, ev_osome, ev_chain, ev_meth, ev_get2, ev_newK, ev_newT, ev_own, ev_nil, ev_seq, ev_expr, ev_set, ev_ret, ev_retN, ev_cif, ev_brk, ev_ct, ev_asg, ev_put, ev_aug, ev_for, ev_comp, ev_newL, ev_iseq, ev_irange, ev_ienum, ev_yes, Out.bind_ok, Out.bindN_ok, bindS_ok, Tg.set, Tg.sets, List.getElem?_cons_zero, List.getElem?_cons_succ, List.set_cons_zero, List.set_cons_succ, wipeE, List.length_cons, List.length_nil, Nat.reduceAdd, Nat.reduceLeDiff, Nat.reduceEqDiff, ↓reduceIte, Bool.false_eq_true, decide_eq_true_eq, add_int, sub_int, lt_int, gt_int, le_int, ge_int, neg_int, and_int, or_int, xor_int, max2_int, min2_int, mod_pos, fdiv_sm, mul_sm, mul_smr, Int.reduceLT, Int.reduceNeg, int_bl, int_int, sli_tup, idx0, eqs k1 k5 S n15])).trans rfl)).trans ?_
    exact seq_rt ((if_t (S' := S) (by simp only [ev_var, ev_con, ev_bin, ev_un, ev_anil, ev_acons, ev_call, ev_tup, ev_lst, ev_not, ev_and, ev_or, ev_if, ev_cbl, ev_btrue, ev_cand, ev_cor, ev_cnot, ev_sli, ev_onone, ev_osome, ev_chain, ev_meth, ev_get2, ev_newK, ev_newT, ev_own, ev_nil, ev_seq, ev_expr, ev_set, ev_ret, ev_retN, ev_cif, ev_brk, ev_ct, ev_asg, ev_put, ev_aug, ev_for, ev_comp, ev_newL, ev_iseq, ev_irange, ev_ienum, ev_yes, Out.bind_ok, Out.bindN_ok, bindS_ok, Tg.set, Tg.sets, List.getElem?_cons_zero, List.getElem?_cons_succ, List.set_cons_zero, List.set_cons_succ, wipeE, List.length_cons, List.length_nil, Nat.reduceAdd, Nat.reduceLeDiff, Nat.reduceEqDiff, ↓reduceIte, Bool.false_eq_true, decide_eq_true_eq, add_int, sub_int, lt_int, gt_int, le_int, ge_int, neg_int, and_int, or_int, xor_int, max2_int, min2_int, mod_pos, fdiv_sm, mul_sm, mul_smr, Int.reduceLT, Int.reduceNeg, int_bl, int_int, sli_tup, idx0, eqt k1 S])).trans (ret_of (by simp only [ev_var, ev_con, ev_bin, ev_un, ev_anil, ev_acons, ev_call, ev_tup, ev_lst, ev_not, ev_and, ev_or, ev_if, ev_cbl, ev_btrue, ev_cand, ev_cor, ev_cnot, ev_sli, ev_onone, ev_osome, ev_chain, ev_meth, ev_get2, ev_newK, ev_newT, ev_own, ev_nil, ev_seq, ev_expr, ev_set, ev_ret, ev_retN, ev_cif, ev_brk, ev_ct, ev_asg, ev_put, ev_aug, ev_for, ev_comp, ev_newL, ev_iseq, ev_irange, ev_ienum, ev_yes, Out.bind_ok, Out.bindN_ok, bindS_ok, Tg.set, Tg.sets, List.getElem?_cons_zero, List.getElem?_cons_succ, List.set_cons_zero, List.set_cons_succ, wipeE, List.length_cons, List.length_nil, Nat.reduceAdd, Nat.reduceLeDiff, Nat.reduceEqDiff, ↓reduceIte, Bool.false_eq_true, decide_eq_true_eq, add_int, sub_int, lt_int, gt_int, le_int, ge_int, neg_int, and_int, or_int, xor_int, max2_int, min2_int, mod_pos, fdiv_sm, mul_sm, mul_smr, Int.reduceLT, Int.reduceNeg, int_bl, int_int, sli_tup])))
  · intro ok
    rw [okL] at ok; cases ok
  · intro k ok _ n f S hn
    rw [okL] at ok
    have ls : (cs "(kind ").length ≤ 6 := by decide
    have l3 : (cs ")").length ≤ 1 := by decide
    have kl := wd_cs' (wd_name ok)
    have c1 := cat (S := S) ls kl (by omega)
    have b1 : (cs (("(kind " : Str) ++ k)).length ≤ 15 := by rw [cs_app, List.length_append]; omega
    have c2 := cat (S := S) b1 l3 (by omega)
    have et : ("(kind " : Str) ++ k ++ ")" = txN (.b [.w "kind", .w k]) := cs_ext (by
      rw [show cs (txN (.b [.w "kind", .w k])) = shl _ from cs_stx _, shl, shls, shls, shls, shl, shl, jl_cons, cs_app, cs_app]
      simp [show cs ("(kind " : Str) = 40 :: (cs "kind" ++ [32]) from rfl, show cs (")" : Str) = [41] from rfl])
    rw [et] at c2
    refine ⟨S, ?_, .refl _⟩
    rw [neL, lkD, F_l_look_text]
    refine runF_rt (ρ := [some (.tup [.str "kind", .str k]), none]) rfl rfl ?_
    unfold c_l_look_text
    refine (seq_of ((if_f (S' := S) (by simp only [ev_var, ev_con, ev_bin, ev_un, ev_anil, ev_acons, ev_call, ev_tup, ev_lst, ev_not, ev_and, ev_or, ev_if, ev_cbl, ev_btrue, ev_cand, ev_cor, ev_cnot, ev_sli, ev_onone, ev_osome, ev_chain, ev_meth, ev_get2, ev_newK, ev_newT, ev_own, ev_nil, ev_seq, ev_expr, ev_set, ev_ret, ev_retN, ev_cif, ev_brk, ev_ct, ev_asg, ev_put, ev_aug, ev_for, ev_comp, ev_newL, ev_iseq, ev_irange, ev_ienum, ev_yes, Out.bind_ok, Out.bindN_ok, bindS_ok, Tg.set, Tg.sets, List.getElem?_cons_zero, List.getElem?_cons_succ, List.set_cons_zero, List.set_cons_succ, wipeE, List.length_cons, List.length_nil, Nat.reduceAdd, Nat.reduceLeDiff, Nat.reduceEqDiff, ↓reduceIte, Bool.false_eq_true, decide_eq_true_eq, add_int, sub_int, lt_int, gt_int, le_int, ge_int, neg_int, and_int, or_int, xor_int, max2_int, min2_int, mod_pos, fdiv_sm, mul_sm, mul_smr, Int.reduceLT, Int.reduceNeg, int_bl, int_int, sli_tup, idx0, eqs k3 k5 S n3])).trans rfl)).trans ?_
    refine (seq_of ((if_f (S' := S) (by simp only [ev_var, ev_con, ev_bin, ev_un, ev_anil, ev_acons, ev_call, ev_tup, ev_lst, ev_not, ev_and, ev_or, ev_if, ev_cbl, ev_btrue, ev_cand, ev_cor, ev_cnot, ev_sli, ev_onone, ev_osome, ev_chain, ev_meth, ev_get2, ev_newK, ev_newT, ev_own, ev_nil, ev_seq, ev_expr, ev_set, ev_ret, ev_retN, ev_cif, ev_brk, ev_ct, ev_asg, ev_put, ev_aug, ev_for, ev_comp, ev_newL, ev_iseq, ev_irange, ev_ienum, ev_yes, Out.bind_ok, Out.bindN_ok, bindS_ok, Tg.set, Tg.sets, List.getElem?_cons_zero, List.getElem?_cons_succ, List.set_cons_zero, List.set_cons_succ, wipeE, List.length_cons, List.length_nil, Nat.reduceAdd, Nat.reduceLeDiff, Nat.reduceEqDiff, ↓reduceIte, Bool.false_eq_true, decide_eq_true_eq, add_int, sub_int, lt_int, gt_int, le_int, ge_int, neg_int, and_int, or_int, xor_int, max2_int, min2_int, mod_pos, fdiv_sm, mul_sm, mul_smr, Int.reduceLT, Int.reduceNeg, int_bl, int_int, sli_tup, idx0, eqs k3 k1 S n10])).trans rfl)).trans ?_
    exact seq_rt ((if_t (S' := S) (by simp only [ev_var, ev_con, ev_bin, ev_un, ev_anil, ev_acons, ev_call, ev_tup, ev_lst, ev_not, ev_and, ev_or, ev_if, ev_cbl, ev_btrue, ev_cand, ev_cor, ev_cnot, ev_sli, ev_onone, ev_osome, ev_chain, ev_meth, ev_get2, ev_newK, ev_newT, ev_own, ev_nil, ev_seq, ev_expr, ev_set, ev_ret, ev_retN, ev_cif, ev_brk, ev_ct, ev_asg, ev_put, ev_aug, ev_for, ev_comp, ev_newL, ev_iseq, ev_irange, ev_ienum, ev_yes, Out.bind_ok, Out.bindN_ok, bindS_ok, Tg.set, Tg.sets, List.getElem?_cons_zero, List.getElem?_cons_succ, List.set_cons_zero, List.set_cons_succ, wipeE, List.length_cons, List.length_nil, Nat.reduceAdd, Nat.reduceLeDiff, Nat.reduceEqDiff, ↓reduceIte, Bool.false_eq_true, decide_eq_true_eq, add_int, sub_int, lt_int, gt_int, le_int, ge_int, neg_int, and_int, or_int, xor_int, max2_int, min2_int, mod_pos, fdiv_sm, mul_sm, mul_smr, Int.reduceLT, Int.reduceNeg, int_bl, int_int, sli_tup, idx0, eqt k3 S])).trans (ret_of (by simp only [ev_var, ev_con, ev_bin, ev_un, ev_anil, ev_acons, ev_call, ev_tup, ev_lst, ev_not, ev_and, ev_or, ev_if, ev_cbl, ev_btrue, ev_cand, ev_cor, ev_cnot, ev_sli, ev_onone, ev_osome, ev_chain, ev_meth, ev_get2, ev_newK, ev_newT, ev_own, ev_nil, ev_seq, ev_expr, ev_set, ev_ret, ev_retN, ev_cif, ev_brk, ev_ct, ev_asg, ev_put, ev_aug, ev_for, ev_comp, ev_newL, ev_iseq, ev_irange, ev_ienum, ev_yes, Out.bind_ok, Out.bindN_ok, bindS_ok, Tg.set, Tg.sets, List.getElem?_cons_zero, List.getElem?_cons_succ, List.set_cons_zero, List.set_cons_succ, wipeE, List.length_cons, List.length_nil, Nat.reduceAdd, Nat.reduceLeDiff, Nat.reduceEqDiff, ↓reduceIte, Bool.false_eq_true, decide_eq_true_eq, add_int, sub_int, lt_int, gt_int, le_int, ge_int, neg_int, and_int, or_int, xor_int, max2_int, min2_int, mod_pos, fdiv_sm, mul_sm, mul_smr, Int.reduceLT, Int.reduceNeg, int_bl, int_int, sli_tup, idx1, c1, c2])))
  · intro l ih ok ht n f S hn
    rw [okL] at ok
    rw [cal] at hn
    rw [tl_no] at ht
    obtain ⟨j, rfl⟩ : ∃ j, n = j + 1 := ⟨n - 1, by omega⟩
    have := text_tail (n := j) (f := f) (w := "not") (l0 := l) (ls := []) (S := S) (fun l' hl' => by rw [List.mem_singleton.mp hl']; exact ⟨ih, ok, by omega, by omega⟩) wd_ls.2.2.2.1 (by simp) n7 n12 n14 (by simp only [List.map_cons, List.map_nil, tokss, List.append_nil]; exact Nat.le_trans (show tl l ≤ 1000 by omega) (by omega))
    rw [show f + (j + 1) + 2 = f + j + 3 by omega, lkD, neL]
    exact this
  · intro w l r ih1 ih2 ok ht n f S hn
    rw [okL] at ok
    rw [cal] at hn
    rw [tl_two] at ht
    obtain ⟨j, rfl⟩ : ∃ j, n = j + 1 := ⟨n - 1, by omega⟩
    obtain ⟨y1, y2, y3, y4⟩ := two_ne ok.1
    have := text_tail (n := j) (f := f) (w := w) (l0 := l) (ls := [r]) (S := S) (fun l' hl' => by
      simp only [List.mem_cons, List.not_mem_nil, or_false] at hl'
      rcases hl' with rfl | rfl
      · exact ⟨ih1, ok.2.1, by omega, by omega⟩
      · exact ⟨ih2, ok.2.2, by omega, by omega⟩) (wd_two ok.1) (by simp) y1 y2 y4 (by
        simp only [List.map_cons, List.map_nil, tokss, List.append_nil, List.length_append]
        unfold tl at *; omega)
    rw [show f + (j + 1) + 2 = f + j + 3 by omega, lkD, neL]
    exact this
  · intro s ih ok ht n f S hn
    rw [okL] at ok
    rw [cal] at hn
    rw [tl_way] at ht
    obtain ⟨j, rfl⟩ : ∃ j, n = j + 1 := ⟨n - 1, by omega⟩
    obtain ⟨S', e, g⟩ := wayT_run ih ok.1 (by omega) (n := j) (f := f) (S := S) (by omega)
    refine ⟨S', ?_, g⟩
    rw [neL, ← neY, lkD, F_l_look_text]
    refine runF_rt (ρ := [some (.tup [.str "way", .tup (wyD s)]), none]) rfl rfl ?_
    unfold c_l_look_text
    have e' : F (f + (j + 1) + 1) .l_way_text [.tup (wyD s)] S = .ok (.str (txN (neY s))) S' := by rw [show f + (j + 1) + 1 = f + j + 2 by omega]; exact e
    exact seq_rt ((if_t (S' := S) (by simp only [ev_var, ev_con, ev_bin, ev_un, ev_anil, ev_acons, ev_call, ev_tup, ev_lst, ev_not, ev_and, ev_or, ev_if, ev_cbl, ev_btrue, ev_cand, ev_cor, ev_cnot, ev_sli, ev_onone, ev_osome, ev_chain, ev_meth, ev_get2, ev_newK, ev_newT, ev_own, ev_nil, ev_seq, ev_expr, ev_set, ev_ret, ev_retN, ev_cif, ev_brk, ev_ct, ev_asg, ev_put, ev_aug, ev_for, ev_comp, ev_newL, ev_iseq, ev_irange, ev_ienum, ev_yes, Out.bind_ok, Out.bindN_ok, bindS_ok, Tg.set, Tg.sets, List.getElem?_cons_zero, List.getElem?_cons_succ, List.set_cons_zero, List.set_cons_succ, wipeE, List.length_cons, List.length_nil, Nat.reduceAdd, Nat.reduceLeDiff, Nat.reduceEqDiff, ↓reduceIte, Bool.false_eq_true, decide_eq_true_eq, add_int, sub_int, lt_int, gt_int, le_int, ge_int, neg_int, and_int, or_int, xor_int, max2_int, min2_int, mod_pos, fdiv_sm, mul_sm, mul_smr, Int.reduceLT, Int.reduceNeg, int_bl, int_int, sli_tup, idx0, eqt k5 S])).trans (ret_of (by simp only [ev_var, ev_con, ev_bin, ev_un, ev_anil, ev_acons, ev_call, ev_tup, ev_lst, ev_not, ev_and, ev_or, ev_if, ev_cbl, ev_btrue, ev_cand, ev_cor, ev_cnot, ev_sli, ev_onone, ev_osome, ev_chain, ev_meth, ev_get2, ev_newK, ev_newT, ev_own, ev_nil, ev_seq, ev_expr, ev_set, ev_ret, ev_retN, ev_cif, ev_brk, ev_ct, ev_asg, ev_put, ev_aug, ev_for, ev_comp, ev_newL, ev_iseq, ev_irange, ev_ienum, ev_yes, Out.bind_ok, Out.bindN_ok, bindS_ok, Tg.set, Tg.sets, List.getElem?_cons_zero, List.getElem?_cons_succ, List.set_cons_zero, List.set_cons_succ, wipeE, List.length_cons, List.length_nil, Nat.reduceAdd, Nat.reduceLeDiff, Nat.reduceEqDiff, ↓reduceIte, Bool.false_eq_true, decide_eq_true_eq, add_int, sub_int, lt_int, gt_int, le_int, ge_int, neg_int, and_int, or_int, xor_int, max2_int, min2_int, mod_pos, fdiv_sm, mul_sm, mul_smr, Int.reduceLT, Int.reduceNeg, int_bl, int_int, sli_tup, idx1, e'])))
end
section
theorem pop0 {S : Sto} {l : Nat} {x : Dv} {r : List Dv} (h : S[l]? = some (.lst (x :: r))) : popD (.ref l) [.int 0] S = .ok x (S.set l (.lst r)) := by
  have hs : seqIndex? 0 (x :: r).length = some 0 := by
    unfold seqIndex?
    simp
  have hc : (-(2 ^ 63) ≤ (0 : Int) ∧ (0 : Int) < 2 ^ 63) := by omega
  simp only [popD, lmap, h]
  rw [if_pos hc, hs]
  rfl
theorem idx2of {S : Sto} {l : Nat} {a b : Dv} (h : S[l]? = some (.lst [a, b])) (q : Bool) : idxD (.ref l) (.int (if q then 1 else 0)) S = .ok (if q then b else a) S := by
  cases q
  · exact idx_ref h (atI_nat (i := 0) rfl)
  · exact idx_ref h (atI_nat (i := 1) rfl)
theorem go3 {S : Sto} {l : Nat} (h : S[l]? = some (.lst [.str "down", .str "deep", .str "later"])) (v : Int) : ∃ g, okG g ∧ idxD (.ref l) (.int (v % 3)) S = .ok (.str g) S := by
  rcases (show v % 3 = 0 ∨ v % 3 = 1 ∨ v % 3 = 2 by omega) with e | e | e
  · exact ⟨_, .inl rfl, by rw [e]; exact idx_ref h (atI_nat (i := 0) rfl)⟩
  · exact ⟨_, .inr (.inl rfl), by rw [e]; exact idx_ref h (atI_nat (i := 1) rfl)⟩
  · exact ⟨_, .inr (.inr rfl), by rw [e]; exact idx_ref h (atI_nat (i := 2) rfl)⟩
variable {ld lp : Nat} {pool : List Str}
/-- a drawn look of a depth -/
def LookD (ld lp : Nat) (pool : List Str) (k : Nat) : Prop := ∀ (f : Nat) (S : Sto) (xs : List Int), S[ld]? = some (.lst (xs.map .int)) → xs.length ≤ 100 → PoolN S lp 4 pool → ∃ (l : Lk) (ys : List Int) (S' : Sto), F (f + k + 1) .l_look [.ref ld, .ref lp, .int (k : Int)] S = .ok (lkD l) S' ∧ S'[ld]? = some (.lst (ys.map .int)) ∧ Fr (fun l => l = ld) S S' ∧ okL false l ∧ cal l ≤ 2 * k ∧ dpL l ≤ 2 * k + 1 ∧ tl l + 20 * ys.length ≤ 4 + 20 * xs.length ∧ ys.length ≤ xs.length
def WayD (ld lp : Nat) (pool : List Str) (k : Nat) : Prop := ∀ (f m : Nat) (S : Sto) (xs : List Int), m ≤ 100 → S[ld]? = some (.lst (xs.map .int)) → xs.length ≤ 100 → PoolN S lp 4 pool → ∃ (st : List (Str × Lk)) (ys : List Int) (S' : Sto), F (f + k + 1) .l_way [.ref ld, .ref lp, .int (k : Int), .int (m : Int)] S = .ok (.tup (wyD (wyM st))) S' ∧ S'[ld]? = some (.lst (ys.map .int)) ∧ Fr (fun l => l = ld) S S' ∧ st.length = m ∧ (∀ p ∈ st, okG p.1 ∧ okL false p.2 ∧ 2 + cal p.2 ≤ 2 * k ∧ 2 + dpL p.2 ≤ 2 * k + 1) ∧ (tokss (neW (wyM st))).length + 20 * ys.length ≤ 7 * m + 20 * xs.length ∧ ys.length ≤ xs.length
theorem PoolN.fr {S S' : Sto} (h : PoolN S lp 4 pool) (f : Fr (fun l => l = ld) S S') (hn : lp ≠ ld) : PoolN S' lp 4 pool := ⟨f.get _ _ h.h hn, h.len, h.ok⟩
theorem way_of_look (hn : lp ≠ ld) {k : Nat} (H : LookD ld lp pool k) : WayD ld lp pool (k + 1) := fun f m S xs hm hd hx hp => by
  have ldl := lt_of_at hd
  have lpl := lt_of_at hp.h
  have g1 := gr_app S [Ob.lst []]
  have a1 := at_new S (.lst [])
  generalize hS1 : S ++ [Ob.lst []] = S1 at g1 a1
  have kk : ((k + 1 : Nat) : Int) - 1 = (k : Int) := by omega
  obtain ⟨ρ', S2, e2, v5, v6, st, ys, rfl, h1, h2, fr, hl, hok, ht, hy⟩ := loop_all (ck := Ck.tt.ok) (t := .nm 5) (b := b_l_way_1 (F (f + k + 1))) (S := S1) (ρ := [some (.ref ld), some (.ref lp), some (.int ((k + 1 : Nat) : Int)), some (.int (m : Int)), some (.ref S.length), none, none])
    (fun i ρ S' => ∃ (v5 v6 : Option Dv) (st : List (Str × Lk)) (ys : List Int), ρ = [some (.ref ld), some (.ref lp), some (.int ((k + 1 : Nat) : Int)), some (.int (m : Int)), some (.ref S.length), v5, v6] ∧ S'[ld]? = some (.lst (ys.map .int)) ∧ S'[S.length]? = some (.lst (st.map stD)) ∧ Fr (fun l => l = ld ∨ l = S.length) S1 S' ∧ st.length = i ∧ (∀ p ∈ st, okG p.1 ∧ okL false p.2 ∧ 2 + cal p.2 ≤ 2 * (k + 1) ∧ 2 + dpL p.2 ≤ 2 * (k + 1) + 1) ∧ (tokss (neW (wyM st))).length + 20 * ys.length ≤ 7 * i + 20 * xs.length ∧ ys.length ≤ xs.length) (rangeL 0 (m : Int))
    ⟨none, none, [], xs, rfl, g1.at hd, a1, .refl _, rfl, (fun p h => nomatch h), by rw [wyM, neW, tokss]; simp, Nat.le_refl _⟩
    (fun i d ρ S' hd' ⟨v5, v6, st, ys, hρ, h1, h2, fr, hl, hok, ht, hy⟩ => by
      subst hρ
      obtain ⟨rfl, hlt⟩ := rangeL_get hd'
      rw [Int.zero_add] at hlt ⊢
      have pS : PoolN S' lp 4 pool := ⟨fr.get _ _ (g1.at hp.h) (by show ¬ (lp = ld ∨ lp = S.length); omega), hp.len, hp.ok⟩
      have ll := len_ref h1
      rw [List.length_map] at ll
      -- the direction
      obtain ⟨g, S3, zs, okg, e3, h3, h4, f3, hz, p3⟩ : ∃ (g : Str) (S3 : Sto) (zs : List Int), okG g ∧ (cIf (cBl (eBin gtD (eCall lenD (aCons (eVar 0) (aNil))) (eCon (.int 0)))) (cSet 6 (eBin idxD (eLst (aCons (eCon (.str "down")) (aCons (eCon (.str "deep")) (aCons (eCon (.str "later")) (aNil))))) (eBin modD (eMeth "list" popD (eVar 0) (aCons (eCon (.int 0)) (aNil))) (eCon (.int 3))))) (cNil)) [some (.ref ld), some (.ref lp), some (.int ((k + 1 : Nat) : Int)), some (.int (m : Int)), some (.ref S.length), some (.int (i : Int)), some (.str "down")] S' = .fl (.nx [some (.ref ld), some (.ref lp), some (.int ((k + 1 : Nat) : Int)), some (.int (m : Int)), some (.ref S.length), some (.int (i : Int)), some (.str g)]) S3 ∧ S3[ld]? = some (.lst (zs.map .int)) ∧ S3[S.length]? = some (.lst (st.map stD)) ∧ Fr (fun l => l = ld) S' S3 ∧ zs.length ≤ ys.length ∧ PoolN S3 lp 4 pool := by
        cases ys with
        | nil =>
          have lp0 : decide ((0 : Int) < ((([] : List Int).length : Nat) : Int)) = false := by simp
          exact ⟨"down", S', [], .inl rfl, (if_f (S' := S') (by simp only [ev_var, ev_con, ev_bin, ev_un, ev_anil, ev_acons, ev_call, ev_tup, ev_lst, ev_not, ev_and, ev_or, ev_if, ev_cbl, ev_btrue, ev_cand, ev_cor, ev_cnot, ev_sli, ev_onone, ev_osome, ev_chain, ev_meth, ev_get2, ev_newK, ev_newT, ev_own, ev_nil, ev_seq, ev_expr, ev_set, ev_ret, ev_retN, ev_cif, ev_brk, ev_ct, ev_asg, ev_put, ev_aug, ev_for, ev_comp, ev_newL, ev_iseq, ev_irange, ev_ienum, ev_yes, Out.bind_ok, Out.bindN_ok, bindS_ok, Tg.set, Tg.sets, List.getElem?_cons_zero, List.getElem?_cons_succ, List.set_cons_zero, List.set_cons_succ, wipeE, List.length_cons, List.length_nil, Nat.reduceAdd, Nat.reduceLeDiff, Nat.reduceEqDiff, ↓reduceIte, Bool.false_eq_true, decide_eq_true_eq, add_int, sub_int, lt_int, gt_int, le_int, ge_int, neg_int, and_int, or_int, xor_int, max2_int, min2_int, mod_pos, fdiv_sm, mul_sm, mul_smr, Int.reduceLT, Int.reduceNeg, int_bl, int_int, sli_tup, ll]; rfl)).trans rfl, h1, h2, .refl _, Nat.le_refl _, pS⟩
        | cons y ys =>
          have lp0 : decide ((0 : Int) < (((y :: ys).length : Nat) : Int)) = true := decide_eq_true (by rw [List.length_cons]; omega)
          have lp1 : decide ((0 : Int) < ((ys.length + 1 : Nat) : Int)) = true := lp0
          have g4 := gr_app S' [Ob.lst [.str "down", .str "deep", .str "later"]]
          have a4 := at_new S' (.lst [.str "down", .str "deep", .str "later"])
          have l4 := lt_of_at h1
          have l5 := lt_of_at h2
          generalize hS4 : S' ++ [Ob.lst [.str "down", .str "deep", .str "later"]] = S4 at g4 a4
          have pp := pop0 (g4.at h1)
          have f5 := fr_set S4 ld (.lst (ys.map .int))
          have a5 := f5.get _ _ a4 (by show S'.length ≠ ld; omega)
          have b5 := at_set (o := .lst (ys.map .int)) (g4.at h1)
          have c5 := f5.get _ _ (g4.at h2) (by show S.length ≠ ld; omega)
          have p5 : PoolN (S4.set ld (.lst (ys.map .int))) lp 4 pool := (pS.gr g4).fr f5 hn
          generalize S4.set ld (.lst (ys.map .int)) = S5 at pp f5 a5 b5 c5 p5
          obtain ⟨g, okg, eg⟩ := go3 a5 y
          refine ⟨g, S5, ys, okg, ?_, b5, c5, (g4.imp fun _ _ z => z.elim).trans f5, by rw [List.length_cons]; omega, p5⟩
          exact (if_t (S' := S') (by simp only [ev_var, ev_con, ev_bin, ev_un, ev_anil, ev_acons, ev_call, ev_tup, ev_lst, ev_not, ev_and, ev_or, ev_if, ev_cbl, ev_btrue, ev_cand, ev_cor, ev_cnot, ev_sli, ev_onone, ev_osome, ev_chain, ev_meth, ev_get2, ev_newK, ev_newT, ev_own, ev_nil, ev_seq, ev_expr, ev_set, ev_ret, ev_retN, ev_cif, ev_brk, ev_ct, ev_asg, ev_put, ev_aug, ev_for, ev_comp, ev_newL, ev_iseq, ev_irange, ev_ienum, ev_yes, Out.bind_ok, Out.bindN_ok, bindS_ok, Tg.set, Tg.sets, List.getElem?_cons_zero, List.getElem?_cons_succ, List.set_cons_zero, List.set_cons_succ, wipeE, List.length_cons, List.length_nil, Nat.reduceAdd, Nat.reduceLeDiff, Nat.reduceEqDiff, ↓reduceIte, Bool.false_eq_true, decide_eq_true_eq, add_int, sub_int, lt_int, gt_int, le_int, ge_int, neg_int, and_int, or_int, xor_int, max2_int, min2_int, mod_pos, fdiv_sm, mul_sm, mul_smr, Int.reduceLT, Int.reduceNeg, int_bl, int_int, sli_tup, ll, lp1])).trans (set_of (d := .str g) (by simp only [ev_var, ev_con, ev_bin, ev_un, ev_anil, ev_acons, ev_call, ev_tup, ev_lst, ev_not, ev_and, ev_or, ev_if, ev_cbl, ev_btrue, ev_cand, ev_cor, ev_cnot, ev_sli, ev_onone, ev_osome, ev_chain, ev_meth, ev_get2, ev_newK, ev_newT, ev_own, ev_nil, ev_seq, ev_expr, ev_set, ev_ret, ev_retN, ev_cif, ev_brk, ev_ct, ev_asg, ev_put, ev_aug, ev_for, ev_comp, ev_newL, ev_iseq, ev_irange, ev_ienum, ev_yes, Out.bind_ok, Out.bindN_ok, bindS_ok, Tg.set, Tg.sets, List.getElem?_cons_zero, List.getElem?_cons_succ, List.set_cons_zero, List.set_cons_succ, wipeE, List.length_cons, List.length_nil, Nat.reduceAdd, Nat.reduceLeDiff, Nat.reduceEqDiff, ↓reduceIte, Bool.false_eq_true, decide_eq_true_eq, add_int, sub_int, lt_int, gt_int, le_int, ge_int, neg_int, and_int, or_int, xor_int, max2_int, min2_int, mod_pos, fdiv_sm, mul_sm, mul_smr, Int.reduceLT, Int.reduceNeg, int_bl, int_int, sli_tup, sline 3 (by omega), hS4, tyq_ref (g4.at h1), pp, eg]))
      obtain ⟨l, ws, S6, e6, h6, f6, okl, cl, dl, tl6, wl⟩ := H f S3 zs h3 (by omega) p3
      have q6 := f6.get _ _ h4 (by show S.length ≠ ld; omega)
      have ap := app_ref (x := .tup [.str g, lkD l]) q6 (by rw [List.length_map]; show _ < 2 ^ 24; omega)
      refine ⟨trivial, _, rfl, [some (.ref ld), some (.ref lp), some (.int ((k + 1 : Nat) : Int)), some (.int (m : Int)), some (.ref S.length), some (.int (i : Int)), some (.str g)], S6.set S.length (.lst (st.map stD ++ [.tup [.str g, lkD l]])), .inl ?_, _, _, st ++ [(g, l)], ws, rfl, ?_, ?_, ?_, by rw [List.length_append, hl]; rfl, ?_, ?_, by omega⟩
      · unfold b_l_way_1
        refine (seq_of (set_of (d := .str "down") (S' := S') (by simp only [ev_var, ev_con, ev_bin, ev_un, ev_anil, ev_acons, ev_call, ev_tup, ev_lst, ev_not, ev_and, ev_or, ev_if, ev_cbl, ev_btrue, ev_cand, ev_cor, ev_cnot, ev_sli, ev_onone, ev_osome, ev_chain, ev_meth, ev_get2, ev_newK, ev_newT, ev_own, ev_nil, ev_seq, ev_expr, ev_set, ev_ret, ev_retN, ev_cif, ev_brk, ev_ct, ev_asg, ev_put, ev_aug, ev_for, ev_comp, ev_newL, ev_iseq, ev_irange, ev_ienum, ev_yes, Out.bind_ok, Out.bindN_ok, bindS_ok, Tg.set, Tg.sets, List.getElem?_cons_zero, List.getElem?_cons_succ, List.set_cons_zero, List.set_cons_succ, wipeE, List.length_cons, List.length_nil, Nat.reduceAdd, Nat.reduceLeDiff, Nat.reduceEqDiff, ↓reduceIte, Bool.false_eq_true, decide_eq_true_eq, add_int, sub_int, lt_int, gt_int, le_int, ge_int, neg_int, and_int, or_int, xor_int, max2_int, min2_int, mod_pos, fdiv_sm, mul_sm, mul_smr, Int.reduceLT, Int.reduceNeg, int_bl, int_int, sli_tup]))).trans ?_
        refine (seq_of e3).trans ?_
        refine expr_of (d := .non) ?_
        simp only [ev_var, ev_con, ev_bin, ev_un, ev_anil, ev_acons, ev_call, ev_tup, ev_lst, ev_not, ev_and, ev_or, ev_if, ev_cbl, ev_btrue, ev_cand, ev_cor, ev_cnot, ev_sli, ev_onone, ev_osome, ev_chain, ev_meth, ev_get2, ev_newK, ev_newT, ev_own, ev_nil, ev_seq, ev_expr, ev_set, ev_ret, ev_retN, ev_cif, ev_brk, ev_ct, ev_asg, ev_put, ev_aug, ev_for, ev_comp, ev_newL, ev_iseq, ev_irange, ev_ienum, ev_yes, Out.bind_ok, Out.bindN_ok, bindS_ok, Tg.set, Tg.sets, List.getElem?_cons_zero, List.getElem?_cons_succ, List.set_cons_zero, List.set_cons_succ, wipeE, List.length_cons, List.length_nil, Nat.reduceAdd, Nat.reduceLeDiff, Nat.reduceEqDiff, ↓reduceIte, Bool.false_eq_true, decide_eq_true_eq, add_int, sub_int, lt_int, gt_int, le_int, ge_int, neg_int, and_int, or_int, xor_int, max2_int, min2_int, mod_pos, fdiv_sm, mul_sm, mul_smr, Int.reduceLT, Int.reduceNeg, int_bl, int_int, sli_tup, tyq_ref h4, kk, e6, sline 2 (by omega), ap]
      · rw [List.getElem?_set_ne (by omega)]; exact h6
      · exact (at_set q6).trans (by rw [List.map_append]; rfl)
      · exact ((fr.trans (f3.imp fun _ _ z => .inl z)).trans (f6.imp fun _ _ z => .inl z)).trans ((fr_set S6 S.length _).imp fun _ _ z => .inr z)
      · intro p hp
        rcases List.mem_append.mp hp with hp | hp
        · exact hok p hp
        · rw [List.mem_singleton.mp hp]
          exact ⟨okg, okl, by show 2 + cal l ≤ _; omega, by show 2 + dpL l ≤ _; omega⟩
      · rw [tl_app]
        show _ + 3 + tl l + _ ≤ _
        omega)
    (fun _ _ _ => trivial)
  rw [rangeL_len, show ((m : Int) - 0).toNat = m by omega] at hl ht
  have gS : Fr (fun l => l = ld) S S2 := Fr.then (g1.imp fun _ _ z => z.elim) fr (fun l z hl => by omega)
  refine ⟨st, ys, S2, ?_, h1, gS, hl, hok, ht, hy⟩
  rw [show f + (k + 1) + 1 = (f + k + 1) + 1 by omega, F_l_way]
  refine runF_rt (ρ := [some (.ref ld), some (.ref lp), some (.int ((k + 1 : Nat) : Int)), some (.int (m : Int)), none, none, none]) rfl rfl ?_
  unfold c_l_way
  refine (seq_of (set_of (d := .ref S.length) (S' := S1) (by simp only [ev_var, ev_con, ev_bin, ev_un, ev_anil, ev_acons, ev_call, ev_tup, ev_lst, ev_not, ev_and, ev_or, ev_if, ev_cbl, ev_btrue, ev_cand, ev_cor, ev_cnot, ev_sli, ev_onone, ev_osome, ev_chain, ev_meth, ev_get2, ev_newK, ev_newT, ev_own, ev_nil, ev_seq, ev_expr, ev_set, ev_ret, ev_retN, ev_cif, ev_brk, ev_ct, ev_asg, ev_put, ev_aug, ev_for, ev_comp, ev_newL, ev_iseq, ev_irange, ev_ienum, ev_yes, Out.bind_ok, Out.bindN_ok, bindS_ok, Tg.set, Tg.sets, List.getElem?_cons_zero, List.getElem?_cons_succ, List.set_cons_zero, List.set_cons_succ, wipeE, List.length_cons, List.length_nil, Nat.reduceAdd, Nat.reduceLeDiff, Nat.reduceEqDiff, ↓reduceIte, Bool.false_eq_true, decide_eq_true_eq, add_int, sub_int, lt_int, gt_int, le_int, ge_int, neg_int, and_int, or_int, xor_int, max2_int, min2_int, mod_pos, fdiv_sm, mul_sm, mul_smr, Int.reduceLT, Int.reduceNeg, int_bl, int_int, sli_tup, sline 0 (by omega), hS1]))).trans ?_
  refine (seq_of ((for_of (w := (rangeL 0 (m : Int), .tt)) (S' := S1) (by simp only [ev_var, ev_con, ev_bin, ev_un, ev_anil, ev_acons, ev_call, ev_tup, ev_lst, ev_not, ev_and, ev_or, ev_if, ev_cbl, ev_btrue, ev_cand, ev_cor, ev_cnot, ev_sli, ev_onone, ev_osome, ev_chain, ev_meth, ev_get2, ev_newK, ev_newT, ev_own, ev_nil, ev_seq, ev_expr, ev_set, ev_ret, ev_retN, ev_cif, ev_brk, ev_ct, ev_asg, ev_put, ev_aug, ev_for, ev_comp, ev_newL, ev_iseq, ev_irange, ev_ienum, ev_yes, Out.bind_ok, Out.bindN_ok, bindS_ok, Tg.set, Tg.sets, List.getElem?_cons_zero, List.getElem?_cons_succ, List.set_cons_zero, List.set_cons_succ, wipeE, List.length_cons, List.length_nil, Nat.reduceAdd, Nat.reduceLeDiff, Nat.reduceEqDiff, ↓reduceIte, Bool.false_eq_true, decide_eq_true_eq, add_int, sub_int, lt_int, gt_int, le_int, ge_int, neg_int, and_int, or_int, xor_int, max2_int, min2_int, mod_pos, fdiv_sm, mul_sm, mul_smr, Int.reduceLT, Int.reduceNeg, int_bl, int_int, sli_tup, rng1_of (i := (m : Int)) (by omega) (by omega)])).trans e2)).trans ?_
  have tp := tuple_ref h2
  have ew : wyD (wyM st) = st.map stD := by rw [wyD_map, wyL_M]
  exact ret_of (by simp only [ev_var, ev_con, ev_bin, ev_un, ev_anil, ev_acons, ev_call, ev_tup, ev_lst, ev_not, ev_and, ev_or, ev_if, ev_cbl, ev_btrue, ev_cand, ev_cor, ev_cnot, ev_sli, ev_onone, ev_osome, ev_chain, ev_meth, ev_get2, ev_newK, ev_newT, ev_own, ev_nil, ev_seq, ev_expr, ev_set, ev_ret, ev_retN, ev_cif, ev_brk, ev_ct, ev_asg, ev_put, ev_aug, ev_for, ev_comp, ev_newL, ev_iseq, ev_irange, ev_ienum, ev_yes, Out.bind_ok, Out.bindN_ok, bindS_ok, Tg.set, Tg.sets, List.getElem?_cons_zero, List.getElem?_cons_succ, List.set_cons_zero, List.set_cons_succ, wipeE, List.length_cons, List.length_nil, Nat.reduceAdd, Nat.reduceLeDiff, Nat.reduceEqDiff, ↓reduceIte, Bool.false_eq_true, decide_eq_true_eq, add_int, sub_int, lt_int, gt_int, le_int, ge_int, neg_int, and_int, or_int, xor_int, max2_int, min2_int, mod_pos, fdiv_sm, mul_sm, mul_smr, Int.reduceLT, Int.reduceNeg, int_bl, int_int, sli_tup, tp, ew])
/-- what is drawn first -/
theorem first_draw {S : Sto} {k : Nat} {xs : List Int} (hd : S[ld]? = some (.lst (xs.map .int))) : ∃ (x : Int) (ys : List Int) (S1 : Sto), (cIf (cBl (eBin gtD (eCall lenD (aCons (eVar 0) (aNil))) (eCon (.int 0)))) (cSet 3 (eMeth "list" popD (eVar 0) (aCons (eCon (.int 0)) (aNil)))) (cNil)) [some (.ref ld), some (.ref lp), some (.int (k : Int)), some (.int 0), none, none] S = .fl (.nx [some (.ref ld), some (.ref lp), some (.int (k : Int)), some (.int x), none, none]) S1 ∧ S1[ld]? = some (.lst (ys.map .int)) ∧ Fr (fun l => l = ld) S S1 ∧ (ys.length = 0 ∨ ys.length + 1 = xs.length) ∧ ys.length ≤ xs.length := by
  have ll := len_ref hd
  rw [List.length_map] at ll
  cases xs with
  | nil => exact ⟨0, [], S, (if_f (S' := S) (by simp only [ev_var, ev_con, ev_bin, ev_un, ev_anil, ev_acons, ev_call, ev_tup, ev_lst, ev_not, ev_and, ev_or, ev_if, ev_cbl, ev_btrue, ev_cand, ev_cor, ev_cnot, ev_sli, ev_onone, ev_osome, ev_chain, ev_meth, ev_get2, ev_newK, ev_newT, ev_own, ev_nil, ev_seq, ev_expr, ev_set, ev_ret, ev_retN, ev_cif, ev_brk, ev_ct, ev_asg, ev_put, ev_aug, ev_for, ev_comp, ev_newL, ev_iseq, ev_irange, ev_ienum, ev_yes, Out.bind_ok, Out.bindN_ok, bindS_ok, Tg.set, Tg.sets, List.getElem?_cons_zero, List.getElem?_cons_succ, List.set_cons_zero, List.set_cons_succ, wipeE, List.length_cons, List.length_nil, Nat.reduceAdd, Nat.reduceLeDiff, Nat.reduceEqDiff, ↓reduceIte, Bool.false_eq_true, decide_eq_true_eq, add_int, sub_int, lt_int, gt_int, le_int, ge_int, neg_int, and_int, or_int, xor_int, max2_int, min2_int, mod_pos, fdiv_sm, mul_sm, mul_smr, Int.reduceLT, Int.reduceNeg, int_bl, int_int, sli_tup, ll]; rfl)).trans rfl, hd, .refl _, .inl rfl, Nat.le_refl _⟩
  | cons x ys =>
    have lp1 : decide ((0 : Int) < ((ys.length + 1 : Nat) : Int)) = true := decide_eq_true (by omega)
    have pp := pop0 hd
    have f5 := fr_set S ld (.lst (ys.map .int))
    have b5 := at_set (o := .lst (ys.map .int)) hd
    refine ⟨x, ys, S.set ld (.lst (ys.map .int)), ?_, b5, f5, .inr rfl, by rw [List.length_cons]; omega⟩
    exact (if_t (S' := S) (by simp only [ev_var, ev_con, ev_bin, ev_un, ev_anil, ev_acons, ev_call, ev_tup, ev_lst, ev_not, ev_and, ev_or, ev_if, ev_cbl, ev_btrue, ev_cand, ev_cor, ev_cnot, ev_sli, ev_onone, ev_osome, ev_chain, ev_meth, ev_get2, ev_newK, ev_newT, ev_own, ev_nil, ev_seq, ev_expr, ev_set, ev_ret, ev_retN, ev_cif, ev_brk, ev_ct, ev_asg, ev_put, ev_aug, ev_for, ev_comp, ev_newL, ev_iseq, ev_irange, ev_ienum, ev_yes, Out.bind_ok, Out.bindN_ok, bindS_ok, Tg.set, Tg.sets, List.getElem?_cons_zero, List.getElem?_cons_succ, List.set_cons_zero, List.set_cons_succ, wipeE, List.length_cons, List.length_nil, Nat.reduceAdd, Nat.reduceLeDiff, Nat.reduceEqDiff, ↓reduceIte, Bool.false_eq_true, decide_eq_true_eq, add_int, sub_int, lt_int, gt_int, le_int, ge_int, neg_int, and_int, or_int, xor_int, max2_int, min2_int, mod_pos, fdiv_sm, mul_sm, mul_smr, Int.reduceLT, Int.reduceNeg, int_bl, int_int, sli_tup, ll, lp1])).trans (set_of (d := .int x) (by simp only [ev_var, ev_con, ev_bin, ev_un, ev_anil, ev_acons, ev_call, ev_tup, ev_lst, ev_not, ev_and, ev_or, ev_if, ev_cbl, ev_btrue, ev_cand, ev_cor, ev_cnot, ev_sli, ev_onone, ev_osome, ev_chain, ev_meth, ev_get2, ev_newK, ev_newT, ev_own, ev_nil, ev_seq, ev_expr, ev_set, ev_ret, ev_retN, ev_cif, ev_brk, ev_ct, ev_asg, ev_put, ev_aug, ev_for, ev_comp, ev_newL, ev_iseq, ev_irange, ev_ienum, ev_yes, Out.bind_ok, Out.bindN_ok, bindS_ok, Tg.set, Tg.sets, List.getElem?_cons_zero, List.getElem?_cons_succ, List.set_cons_zero, List.set_cons_succ, wipeE, List.length_cons, List.length_nil, Nat.reduceAdd, Nat.reduceLeDiff, Nat.reduceEqDiff, ↓reduceIte, Bool.false_eq_true, decide_eq_true_eq, add_int, sub_int, lt_int, gt_int, le_int, ge_int, neg_int, and_int, or_int, xor_int, max2_int, min2_int, mod_pos, fdiv_sm, mul_sm, mul_smr, Int.reduceLT, Int.reduceNeg, int_bl, int_int, sli_tup, tyq_ref hd]; exact (show _ = _ by simp only [show popD (.ref ld) [.int 0] S = _ from pp, ↓reduceIte])))
theorem look_step (hn : lp ≠ ld) {k : Nat} (H : ∀ j, k = j + 1 → LookD ld lp pool j) (H2 : ∀ j, k = j + 2 → WayD ld lp pool (j + 1)) : LookD ld lp pool k := fun f S xs hd hx hp => by
  obtain ⟨x, ys, S1, e1, h1, f1, hy, hyl⟩ := first_draw (lp := lp) (k := k) hd
  have p1 := hp.fr f1 hn
  have ll := len_ref h1
  rw [List.length_map] at ll
  have m0 := Int.emod_nonneg x (b := 7) (by omega)
  have m1 := Int.emod_lt_of_pos x (b := 7) (by omega)
  have start : ∀ (o : OutS), (cSeq (cSet 4 (eBin modD (eVar 3) (eCon (.int 7)))) (cSeq (cIf (cOr (cBl (eBin ltD (eVar 2) (eCon (.int 2)))) (cOr (cBl (eBin eqD (eCall lenD (aCons (eVar 0) (aNil))) (eCon (.int 0)))) (cBl (eBin ltD (eVar 4) (eCon (.int 2)))))) (cRet (eBin idxD (eLst (aCons (eTup (aCons (eCon (.str "any")) (aNil))) (aCons (eTup (aCons (eCon (.str "kind")) (aCons (eBin idxD (eVar 1) (eBin modD (eBin fdivD (eVar 3) (eCon (.int 21))) (eCall lenD (aCons (eVar 1) (aNil))))) (aNil)))) (aNil)))) (eCall intD (aCons (eBin gtD (eBin modD (eBin fdivD (eVar 3) (eCon (.int 7))) (eCon (.int 3))) (eCon (.int 0))) (aNil))))) (cNil)) (cSeq (cIf (cBl (eBin eqD (eVar 4) (eCon (.int 2)))) (cRet (eTup (aCons (eCon (.str "not")) (aCons (eOwn 3 (F (f + k) .l_look) (aCons (eVar 0) (aCons (eVar 1) (aCons (eBin subD (eVar 2) (eCon (.int 1))) (aNil))))) (aNil))))) (cNil)) (cSeq (cIf (cBl (eBin ltD (eVar 4) (eCon (.int 5)))) (cSeq (cSet 5 (eOwn 3 (F (f + k) .l_look) (aCons (eVar 0) (aCons (eVar 1) (aCons (eBin subD (eVar 2) (eCon (.int 1))) (aNil)))))) (cRet (eTup (aCons (eBin idxD (eLst (aCons (eCon (.str "both")) (aCons (eCon (.str "either")) (aNil)))) (eBin subD (eVar 4) (eCon (.int 3)))) (aCons (eVar 5) (aCons (eOwn 3 (F (f + k) .l_look) (aCons (eVar 0) (aCons (eVar 1) (aCons (eBin subD (eVar 2) (eCon (.int 1))) (aNil))))) (aNil))))))) (cNil)) (cRet (eTup (aCons (eCon (.str "way")) (aCons (eOwn 4 (F (f + k) .l_way) (aCons (eVar 0) (aCons (eVar 1) (aCons (eBin subD (eVar 2) (eCon (.int 1))) (aCons (eBin addD (eCon (.int 1)) (eBin modD (eBin fdivD (eVar 3) (eCon (.int 7))) (eCon (.int 3)))) (aNil)))))) (aNil))))))))) [some (.ref ld), some (.ref lp), some (.int (k : Int)), some (.int x), none, none] S1 = o → c_l_look (F (f + k)) [some (.ref ld), some (.ref lp), some (.int (k : Int)), none, none, none] S = o := fun o ho => by
    unfold c_l_look
    refine (seq_of (set_of (d := .int 0) (S' := S) (by simp only [ev_var, ev_con, ev_bin, ev_un, ev_anil, ev_acons, ev_call, ev_tup, ev_lst, ev_not, ev_and, ev_or, ev_if, ev_cbl, ev_btrue, ev_cand, ev_cor, ev_cnot, ev_sli, ev_onone, ev_osome, ev_chain, ev_meth, ev_get2, ev_newK, ev_newT, ev_own, ev_nil, ev_seq, ev_expr, ev_set, ev_ret, ev_retN, ev_cif, ev_brk, ev_ct, ev_asg, ev_put, ev_aug, ev_for, ev_comp, ev_newL, ev_iseq, ev_irange, ev_ienum, ev_yes, Out.bind_ok, Out.bindN_ok, bindS_ok, Tg.set, Tg.sets, List.getElem?_cons_zero, List.getElem?_cons_succ, List.set_cons_zero, List.set_cons_succ, wipeE, List.length_cons, List.length_nil, Nat.reduceAdd, Nat.reduceLeDiff, Nat.reduceEqDiff, ↓reduceIte, Bool.false_eq_true, decide_eq_true_eq, add_int, sub_int, lt_int, gt_int, le_int, ge_int, neg_int, and_int, or_int, xor_int, max2_int, min2_int, mod_pos, fdiv_sm, mul_sm, mul_smr, Int.reduceLT, Int.reduceNeg, int_bl, int_int, sli_tup]))).trans ?_
    exact (seq_of e1).trans ho
  by_cases q : k < 2 ∨ ys.length = 0 ∨ x % 7 < 2
  · obtain ⟨nm, oknm, enm⟩ := p1.get (by omega) (x / 21)
    have enm' : idxD (.ref lp) (.int (x / 21 % 4)) S1 = .ok (.str nm) S1 := enm
    have lD1 : lenD [.ref lp] S1 = .ok (.int 4) S1 := p1.lenD
    have g2 := gr_app S1 [Ob.lst [.tup [.str "any"], .tup [.str "kind", .str nm]]]
    have a2 := at_new S1 (.lst [.tup [.str "any"], .tup [.str "kind", .str nm]])
    generalize hS2 : S1 ++ [Ob.lst [.tup [.str "any"], .tup [.str "kind", .str nm]]] = S2 at g2 a2
    have ix := idx2of a2 (decide (0 < x / 7 % 3))
    obtain ⟨l, el, okl, cl, dl, tl1⟩ : ∃ l : Lk, (if decide (0 < x / 7 % 3) then Dv.tup [.str "kind", .str nm] else .tup [.str "any"]) = lkD l ∧ okL false l ∧ cal l = 0 ∧ dpL l = 1 ∧ tl l ≤ 4 := by
      split
      · exact ⟨.kind nm, by rw [lkD], by rw [okL]; exact oknm, by rw [cal], by rw [dpL], by rw [tl_kind]; exact Nat.le_refl _⟩
      · exact ⟨.any, by rw [lkD], by rw [okL]; trivial, by rw [cal], by rw [dpL], by rw [tl_any]; omega⟩
    rw [el] at ix
    simp only [decide_eq_true_eq] at ix
    have ht : (cOr (cBl (eBin ltD (eVar 2) (eCon (.int 2)))) (cOr (cBl (eBin eqD (eCall lenD (aCons (eVar 0) (aNil))) (eCon (.int 0)))) (cBl (eBin ltD (eVar 4) (eCon (.int 2)))))) [some (.ref ld), some (.ref lp), some (.int (k : Int)), some (.int x), some (.int (x % 7)), none] S1 = .ok true S1 := by
      by_cases q1 : (k : Int) < 2
      · simp only [ev_var, ev_con, ev_bin, ev_un, ev_anil, ev_acons, ev_call, ev_tup, ev_lst, ev_not, ev_and, ev_or, ev_if, ev_cbl, ev_btrue, ev_cand, ev_cor, ev_cnot, ev_sli, ev_onone, ev_osome, ev_chain, ev_meth, ev_get2, ev_newK, ev_newT, ev_own, ev_nil, ev_seq, ev_expr, ev_set, ev_ret, ev_retN, ev_cif, ev_brk, ev_ct, ev_asg, ev_put, ev_aug, ev_for, ev_comp, ev_newL, ev_iseq, ev_irange, ev_ienum, ev_yes, Out.bind_ok, Out.bindN_ok, bindS_ok, Tg.set, Tg.sets, List.getElem?_cons_zero, List.getElem?_cons_succ, List.set_cons_zero, List.set_cons_succ, wipeE, List.length_cons, List.length_nil, Nat.reduceAdd, Nat.reduceLeDiff, Nat.reduceEqDiff, ↓reduceIte, Bool.false_eq_true, decide_eq_true_eq, add_int, sub_int, lt_int, gt_int, le_int, ge_int, neg_int, and_int, or_int, xor_int, max2_int, min2_int, mod_pos, fdiv_sm, mul_sm, mul_smr, Int.reduceLT, Int.reduceNeg, int_bl, int_int, sli_tup, q1, decide_true]
      · by_cases q2 : (ys.length : Int) = 0
        · simp only [ev_var, ev_con, ev_bin, ev_un, ev_anil, ev_acons, ev_call, ev_tup, ev_lst, ev_not, ev_and, ev_or, ev_if, ev_cbl, ev_btrue, ev_cand, ev_cor, ev_cnot, ev_sli, ev_onone, ev_osome, ev_chain, ev_meth, ev_get2, ev_newK, ev_newT, ev_own, ev_nil, ev_seq, ev_expr, ev_set, ev_ret, ev_retN, ev_cif, ev_brk, ev_ct, ev_asg, ev_put, ev_aug, ev_for, ev_comp, ev_newL, ev_iseq, ev_irange, ev_ienum, ev_yes, Out.bind_ok, Out.bindN_ok, bindS_ok, Tg.set, Tg.sets, List.getElem?_cons_zero, List.getElem?_cons_succ, List.set_cons_zero, List.set_cons_succ, wipeE, List.length_cons, List.length_nil, Nat.reduceAdd, Nat.reduceLeDiff, Nat.reduceEqDiff, ↓reduceIte, Bool.false_eq_true, decide_eq_true_eq, add_int, sub_int, lt_int, gt_int, le_int, ge_int, neg_int, and_int, or_int, xor_int, max2_int, min2_int, mod_pos, fdiv_sm, mul_sm, mul_smr, Int.reduceLT, Int.reduceNeg, int_bl, int_int, sli_tup, q1, decide_false, ll, eq_int, q2, decide_true]
        · have q3 : x % 7 < 2 := by omega
          simp only [ev_var, ev_con, ev_bin, ev_un, ev_anil, ev_acons, ev_call, ev_tup, ev_lst, ev_not, ev_and, ev_or, ev_if, ev_cbl, ev_btrue, ev_cand, ev_cor, ev_cnot, ev_sli, ev_onone, ev_osome, ev_chain, ev_meth, ev_get2, ev_newK, ev_newT, ev_own, ev_nil, ev_seq, ev_expr, ev_set, ev_ret, ev_retN, ev_cif, ev_brk, ev_ct, ev_asg, ev_put, ev_aug, ev_for, ev_comp, ev_newL, ev_iseq, ev_irange, ev_ienum, ev_yes, Out.bind_ok, Out.bindN_ok, bindS_ok, Tg.set, Tg.sets, List.getElem?_cons_zero, List.getElem?_cons_succ, List.set_cons_zero, List.set_cons_succ, wipeE, List.length_cons, List.length_nil, Nat.reduceAdd, Nat.reduceLeDiff, Nat.reduceEqDiff, ↓reduceIte, Bool.false_eq_true, decide_eq_true_eq, add_int, sub_int, lt_int, gt_int, le_int, ge_int, neg_int, and_int, or_int, xor_int, max2_int, min2_int, mod_pos, fdiv_sm, mul_sm, mul_smr, Int.reduceLT, Int.reduceNeg, int_bl, int_int, sli_tup, q1, decide_false, ll, eq_int, q2, q3, decide_true]
    refine ⟨l, ys, S2, ?_, g2.at h1, f1.trans (g2.imp fun _ _ z => z.elim), okl, by omega, by omega, by omega, hyl⟩
    rw [F_l_look]
    refine runF_rt (ρ := [some (.ref ld), some (.ref lp), some (.int (k : Int)), none, none, none]) rfl rfl (start _ ?_)
    refine (seq_of (set_of (d := .int (x % 7)) (S' := S1) (by simp only [ev_var, ev_con, ev_bin, ev_un, ev_anil, ev_acons, ev_call, ev_tup, ev_lst, ev_not, ev_and, ev_or, ev_if, ev_cbl, ev_btrue, ev_cand, ev_cor, ev_cnot, ev_sli, ev_onone, ev_osome, ev_chain, ev_meth, ev_get2, ev_newK, ev_newT, ev_own, ev_nil, ev_seq, ev_expr, ev_set, ev_ret, ev_retN, ev_cif, ev_brk, ev_ct, ev_asg, ev_put, ev_aug, ev_for, ev_comp, ev_newL, ev_iseq, ev_irange, ev_ienum, ev_yes, Out.bind_ok, Out.bindN_ok, bindS_ok, Tg.set, Tg.sets, List.getElem?_cons_zero, List.getElem?_cons_succ, List.set_cons_zero, List.set_cons_succ, wipeE, List.length_cons, List.length_nil, Nat.reduceAdd, Nat.reduceLeDiff, Nat.reduceEqDiff, ↓reduceIte, Bool.false_eq_true, decide_eq_true_eq, add_int, sub_int, lt_int, gt_int, le_int, ge_int, neg_int, and_int, or_int, xor_int, max2_int, min2_int, mod_pos, fdiv_sm, mul_sm, mul_smr, Int.reduceLT, Int.reduceNeg, int_bl, int_int, sli_tup]))).trans ?_
    refine seq_rt ((if_t ht).trans (ret_of ?_))
    simp only [ev_var, ev_con, ev_bin, ev_un, ev_anil, ev_acons, ev_call, ev_tup, ev_lst, ev_not, ev_and, ev_or, ev_if, ev_cbl, ev_btrue, ev_cand, ev_cor, ev_cnot, ev_sli, ev_onone, ev_osome, ev_chain, ev_meth, ev_get2, ev_newK, ev_newT, ev_own, ev_nil, ev_seq, ev_expr, ev_set, ev_ret, ev_retN, ev_cif, ev_brk, ev_ct, ev_asg, ev_put, ev_aug, ev_for, ev_comp, ev_newL, ev_iseq, ev_irange, ev_ienum, ev_yes, Out.bind_ok, Out.bindN_ok, bindS_ok, Tg.set, Tg.sets, List.getElem?_cons_zero, List.getElem?_cons_succ, List.set_cons_zero, List.set_cons_succ, wipeE, List.length_cons, List.length_nil, Nat.reduceAdd, Nat.reduceLeDiff, Nat.reduceEqDiff, ↓reduceIte, Bool.false_eq_true, decide_eq_true_eq, add_int, sub_int, lt_int, gt_int, le_int, ge_int, neg_int, and_int, or_int, xor_int, max2_int, min2_int, mod_pos, fdiv_sm, mul_sm, mul_smr, Int.reduceLT, Int.reduceNeg, int_bl, int_int, sli_tup, lD1, show (0 : Int) < 4 by omega, enm', sline 1 (by omega), sline 2 (by omega), hS2]
    exact ix
  · obtain ⟨j, rfl⟩ : ∃ j, k = j + 2 := ⟨k - 2, by omega⟩
    have yx : ys.length + 1 = xs.length := by omega
    have kk : ((j + 2 : Nat) : Int) - 1 = ((j + 1 : Nat) : Int) := by omega
    have hf : (cOr (cBl (eBin ltD (eVar 2) (eCon (.int 2)))) (cOr (cBl (eBin eqD (eCall lenD (aCons (eVar 0) (aNil))) (eCon (.int 0)))) (cBl (eBin ltD (eVar 4) (eCon (.int 2)))))) [some (.ref ld), some (.ref lp), some (.int ((j + 2 : Nat) : Int)), some (.int x), some (.int (x % 7)), none] S1 = .ok false S1 := by
      have q1 : ¬ ((j + 2 : Nat) : Int) < 2 := by omega
      have q2 : ¬ (ys.length : Int) = 0 := by omega
      have q3 : ¬ x % 7 < 2 := by omega
      simp only [ev_var, ev_con, ev_bin, ev_un, ev_anil, ev_acons, ev_call, ev_tup, ev_lst, ev_not, ev_and, ev_or, ev_if, ev_cbl, ev_btrue, ev_cand, ev_cor, ev_cnot, ev_sli, ev_onone, ev_osome, ev_chain, ev_meth, ev_get2, ev_newK, ev_newT, ev_own, ev_nil, ev_seq, ev_expr, ev_set, ev_ret, ev_retN, ev_cif, ev_brk, ev_ct, ev_asg, ev_put, ev_aug, ev_for, ev_comp, ev_newL, ev_iseq, ev_irange, ev_ienum, ev_yes, Out.bind_ok, Out.bindN_ok, bindS_ok, Tg.set, Tg.sets, List.getElem?_cons_zero, List.getElem?_cons_succ, List.set_cons_zero, List.set_cons_succ, wipeE, List.length_cons, List.length_nil, Nat.reduceAdd, Nat.reduceLeDiff, Nat.reduceEqDiff, ↓reduceIte, Bool.false_eq_true, decide_eq_true_eq, add_int, sub_int, lt_int, gt_int, le_int, ge_int, neg_int, and_int, or_int, xor_int, max2_int, min2_int, mod_pos, fdiv_sm, mul_sm, mul_smr, Int.reduceLT, Int.reduceNeg, int_bl, int_int, sli_tup, q1, decide_false, ll, eq_int, q2, q3]
    have HL := H (j + 1) rfl
    have HW := H2 j rfl
    by_cases q2 : x % 7 = 2
    · obtain ⟨l, zs, S2, e2, h2, f2, okl, cl, dl, t2, zl⟩ := HL f S1 ys h1 (by omega) p1
      have e2' : F (f + (j + 2)) .l_look [.ref ld, .ref lp, .int ((j + 1 : Nat) : Int)] S1 = .ok (lkD l) S2 := e2
      refine ⟨.no l, zs, S2, ?_, h2, f1.trans f2, by rw [okL]; exact okl, by rw [cal]; omega, by rw [dpL]; omega, by rw [tl_no]; omega, by omega⟩
      rw [F_l_look]
      refine runF_rt (ρ := [some (.ref ld), some (.ref lp), some (.int ((j + 2 : Nat) : Int)), none, none, none]) rfl rfl (start _ ?_)
      refine (seq_of (set_of (d := .int (x % 7)) (S' := S1) (by simp only [ev_var, ev_con, ev_bin, ev_un, ev_anil, ev_acons, ev_call, ev_tup, ev_lst, ev_not, ev_and, ev_or, ev_if, ev_cbl, ev_btrue, ev_cand, ev_cor, ev_cnot, ev_sli, ev_onone, ev_osome, ev_chain, ev_meth, ev_get2, ev_newK, ev_newT, ev_own, ev_nil, ev_seq, ev_expr, ev_set, ev_ret, ev_retN, ev_cif, ev_brk, ev_ct, ev_asg, ev_put, ev_aug, ev_for, ev_comp, ev_newL, ev_iseq, ev_irange, ev_ienum, ev_yes, Out.bind_ok, Out.bindN_ok, bindS_ok, Tg.set, Tg.sets, List.getElem?_cons_zero, List.getElem?_cons_succ, List.set_cons_zero, List.set_cons_succ, wipeE, List.length_cons, List.length_nil, Nat.reduceAdd, Nat.reduceLeDiff, Nat.reduceEqDiff, ↓reduceIte, Bool.false_eq_true, decide_eq_true_eq, add_int, sub_int, lt_int, gt_int, le_int, ge_int, neg_int, and_int, or_int, xor_int, max2_int, min2_int, mod_pos, fdiv_sm, mul_sm, mul_smr, Int.reduceLT, Int.reduceNeg, int_bl, int_int, sli_tup]))).trans ?_
      refine (seq_of ((if_f hf).trans rfl)).trans ?_
      exact seq_rt ((if_t (S' := S1) (by simp only [ev_var, ev_con, ev_bin, ev_un, ev_anil, ev_acons, ev_call, ev_tup, ev_lst, ev_not, ev_and, ev_or, ev_if, ev_cbl, ev_btrue, ev_cand, ev_cor, ev_cnot, ev_sli, ev_onone, ev_osome, ev_chain, ev_meth, ev_get2, ev_newK, ev_newT, ev_own, ev_nil, ev_seq, ev_expr, ev_set, ev_ret, ev_retN, ev_cif, ev_brk, ev_ct, ev_asg, ev_put, ev_aug, ev_for, ev_comp, ev_newL, ev_iseq, ev_irange, ev_ienum, ev_yes, Out.bind_ok, Out.bindN_ok, bindS_ok, Tg.set, Tg.sets, List.getElem?_cons_zero, List.getElem?_cons_succ, List.set_cons_zero, List.set_cons_succ, wipeE, List.length_cons, List.length_nil, Nat.reduceAdd, Nat.reduceLeDiff, Nat.reduceEqDiff, ↓reduceIte, Bool.false_eq_true, decide_eq_true_eq, add_int, sub_int, lt_int, gt_int, le_int, ge_int, neg_int, and_int, or_int, xor_int, max2_int, min2_int, mod_pos, fdiv_sm, mul_sm, mul_smr, Int.reduceLT, Int.reduceNeg, int_bl, int_int, sli_tup, eq_int, q2, decide_true])).trans (ret_of (by simp only [ev_var, ev_con, ev_bin, ev_un, ev_anil, ev_acons, ev_call, ev_tup, ev_lst, ev_not, ev_and, ev_or, ev_if, ev_cbl, ev_btrue, ev_cand, ev_cor, ev_cnot, ev_sli, ev_onone, ev_osome, ev_chain, ev_meth, ev_get2, ev_newK, ev_newT, ev_own, ev_nil, ev_seq, ev_expr, ev_set, ev_ret, ev_retN, ev_cif, ev_brk, ev_ct, ev_asg, ev_put, ev_aug, ev_for, ev_comp, ev_newL, ev_iseq, ev_irange, ev_ienum, ev_yes, Out.bind_ok, Out.bindN_ok, bindS_ok, Tg.set, Tg.sets, List.getElem?_cons_zero, List.getElem?_cons_succ, List.set_cons_zero, List.set_cons_succ, wipeE, List.length_cons, List.length_nil, Nat.reduceAdd, Nat.reduceLeDiff, Nat.reduceEqDiff, ↓reduceIte, Bool.false_eq_true, decide_eq_true_eq, add_int, sub_int, lt_int, gt_int, le_int, ge_int, neg_int, and_int, or_int, xor_int, max2_int, min2_int, mod_pos, fdiv_sm, mul_sm, mul_smr, Int.reduceLT, Int.reduceNeg, int_bl, int_int, sli_tup, kk, e2', sline 2 (by omega)]; rw [lkD])))
    · by_cases q3 : x % 7 < 5
      · obtain ⟨l, zs, S2, e2, h2, f2, okl, cl, dl, t2, zl⟩ := HL f S1 ys h1 (by omega) p1
        have e2' : F (f + (j + 2)) .l_look [.ref ld, .ref lp, .int ((j + 1 : Nat) : Int)] S1 = .ok (lkD l) S2 := e2
        have l2 := lt_of_at h2
        have p2 := p1.fr f2 hn
        have g3 := gr_app S2 [Ob.lst [.str "both", .str "either"]]
        have a3 := at_new S2 (.lst [.str "both", .str "either"])
        generalize hS3 : S2 ++ [Ob.lst [.str "both", .str "either"]] = S3 at g3 a3
        obtain ⟨w, ow, ew⟩ : ∃ w : Str, (w = "both" ∨ w = "either") ∧ idxD (.ref S2.length) (.int (x % 7 - 3)) S3 = .ok (.str w) S3 := by
          rcases (show x % 7 - 3 = 0 ∨ x % 7 - 3 = 1 by omega) with e | e
          · exact ⟨_, .inl rfl, by rw [e]; exact idx_ref a3 (atI_nat (i := 0) rfl)⟩
          · exact ⟨_, .inr rfl, by rw [e]; exact idx_ref a3 (atI_nat (i := 1) rfl)⟩
        obtain ⟨r, us, S4, e4, h4, f4, okr, cr, dr, t4, ul⟩ := HL f S3 zs (g3.at h2) (by omega) (p2.gr g3)
        have e4' : F (f + (j + 2)) .l_look [.ref ld, .ref lp, .int ((j + 1 : Nat) : Int)] S3 = .ok (lkD r) S4 := e4
        refine ⟨.two w l r, us, S4, ?_, h4, ((f1.trans f2).trans (g3.imp fun _ _ z => z.elim)).trans f4, by rw [okL]; exact ⟨ow, okl, okr⟩, by rw [cal]; omega, by rw [dpL]; omega, by rw [tl_two]; omega, by omega⟩
        rw [F_l_look]
        refine runF_rt (ρ := [some (.ref ld), some (.ref lp), some (.int ((j + 2 : Nat) : Int)), none, none, none]) rfl rfl (start _ ?_)
        refine (seq_of (set_of (d := .int (x % 7)) (S' := S1) (by simp only [ev_var, ev_con, ev_bin, ev_un, ev_anil, ev_acons, ev_call, ev_tup, ev_lst, ev_not, ev_and, ev_or, ev_if, ev_cbl, ev_btrue, ev_cand, ev_cor, ev_cnot, ev_sli, ev_onone, ev_osome, ev_chain, ev_meth, ev_get2, ev_newK, ev_newT, ev_own, ev_nil, ev_seq, ev_expr, ev_set, ev_ret, ev_retN, ev_cif, ev_brk, ev_ct, ev_asg, ev_put, ev_aug, ev_for, ev_comp, ev_newL, ev_iseq, ev_irange, ev_ienum, ev_yes, Out.bind_ok, Out.bindN_ok, bindS_ok, Tg.set, Tg.sets, List.getElem?_cons_zero, List.getElem?_cons_succ, List.set_cons_zero, List.set_cons_succ, wipeE, List.length_cons, List.length_nil, Nat.reduceAdd, Nat.reduceLeDiff, Nat.reduceEqDiff, ↓reduceIte, Bool.false_eq_true, decide_eq_true_eq, add_int, sub_int, lt_int, gt_int, le_int, ge_int, neg_int, and_int, or_int, xor_int, max2_int, min2_int, mod_pos, fdiv_sm, mul_sm, mul_smr, Int.reduceLT, Int.reduceNeg, int_bl, int_int, sli_tup]))).trans ?_
        refine (seq_of ((if_f hf).trans rfl)).trans ?_
        refine (seq_of ((if_f (S' := S1) (by simp only [ev_var, ev_con, ev_bin, ev_un, ev_anil, ev_acons, ev_call, ev_tup, ev_lst, ev_not, ev_and, ev_or, ev_if, ev_cbl, ev_btrue, ev_cand, ev_cor, ev_cnot, ev_sli, ev_onone, ev_osome, ev_chain, ev_meth, ev_get2, ev_newK, ev_newT, ev_own, ev_nil, ev_seq, ev_expr, ev_set, ev_ret, ev_retN, ev_cif, ev_brk, ev_ct, ev_asg, ev_put, ev_aug, ev_for, ev_comp, ev_newL, ev_iseq, ev_irange, ev_ienum, ev_yes, Out.bind_ok, Out.bindN_ok, bindS_ok, Tg.set, Tg.sets, List.getElem?_cons_zero, List.getElem?_cons_succ, List.set_cons_zero, List.set_cons_succ, wipeE, List.length_cons, List.length_nil, Nat.reduceAdd, Nat.reduceLeDiff, Nat.reduceEqDiff, ↓reduceIte, Bool.false_eq_true, decide_eq_true_eq, add_int, sub_int, lt_int, gt_int, le_int, ge_int, neg_int, and_int, or_int, xor_int, max2_int, min2_int, mod_pos, fdiv_sm, mul_sm, mul_smr, Int.reduceLT, Int.reduceNeg, int_bl, int_int, sli_tup, eq_int, q2, decide_false])).trans rfl)).trans ?_
        refine seq_rt ((if_t (S' := S1) (by simp only [ev_var, ev_con, ev_bin, ev_un, ev_anil, ev_acons, ev_call, ev_tup, ev_lst, ev_not, ev_and, ev_or, ev_if, ev_cbl, ev_btrue, ev_cand, ev_cor, ev_cnot, ev_sli, ev_onone, ev_osome, ev_chain, ev_meth, ev_get2, ev_newK, ev_newT, ev_own, ev_nil, ev_seq, ev_expr, ev_set, ev_ret, ev_retN, ev_cif, ev_brk, ev_ct, ev_asg, ev_put, ev_aug, ev_for, ev_comp, ev_newL, ev_iseq, ev_irange, ev_ienum, ev_yes, Out.bind_ok, Out.bindN_ok, bindS_ok, Tg.set, Tg.sets, List.getElem?_cons_zero, List.getElem?_cons_succ, List.set_cons_zero, List.set_cons_succ, wipeE, List.length_cons, List.length_nil, Nat.reduceAdd, Nat.reduceLeDiff, Nat.reduceEqDiff, ↓reduceIte, Bool.false_eq_true, decide_eq_true_eq, add_int, sub_int, lt_int, gt_int, le_int, ge_int, neg_int, and_int, or_int, xor_int, max2_int, min2_int, mod_pos, fdiv_sm, mul_sm, mul_smr, Int.reduceLT, Int.reduceNeg, int_bl, int_int, sli_tup, q3, decide_true])).trans ?_)
        refine (seq_of (set_of (d := lkD l) (S' := S2) (by simp only [ev_var, ev_con, ev_bin, ev_un, ev_anil, ev_acons, ev_call, ev_tup, ev_lst, ev_not, ev_and, ev_or, ev_if, ev_cbl, ev_btrue, ev_cand, ev_cor, ev_cnot, ev_sli, ev_onone, ev_osome, ev_chain, ev_meth, ev_get2, ev_newK, ev_newT, ev_own, ev_nil, ev_seq, ev_expr, ev_set, ev_ret, ev_retN, ev_cif, ev_brk, ev_ct, ev_asg, ev_put, ev_aug, ev_for, ev_comp, ev_newL, ev_iseq, ev_irange, ev_ienum, ev_yes, Out.bind_ok, Out.bindN_ok, bindS_ok, Tg.set, Tg.sets, List.getElem?_cons_zero, List.getElem?_cons_succ, List.set_cons_zero, List.set_cons_succ, wipeE, List.length_cons, List.length_nil, Nat.reduceAdd, Nat.reduceLeDiff, Nat.reduceEqDiff, ↓reduceIte, Bool.false_eq_true, decide_eq_true_eq, add_int, sub_int, lt_int, gt_int, le_int, ge_int, neg_int, and_int, or_int, xor_int, max2_int, min2_int, mod_pos, fdiv_sm, mul_sm, mul_smr, Int.reduceLT, Int.reduceNeg, int_bl, int_int, sli_tup, kk, e2']))).trans ?_
        exact ret_of (by simp only [ev_var, ev_con, ev_bin, ev_un, ev_anil, ev_acons, ev_call, ev_tup, ev_lst, ev_not, ev_and, ev_or, ev_if, ev_cbl, ev_btrue, ev_cand, ev_cor, ev_cnot, ev_sli, ev_onone, ev_osome, ev_chain, ev_meth, ev_get2, ev_newK, ev_newT, ev_own, ev_nil, ev_seq, ev_expr, ev_set, ev_ret, ev_retN, ev_cif, ev_brk, ev_ct, ev_asg, ev_put, ev_aug, ev_for, ev_comp, ev_newL, ev_iseq, ev_irange, ev_ienum, ev_yes, Out.bind_ok, Out.bindN_ok, bindS_ok, Tg.set, Tg.sets, List.getElem?_cons_zero, List.getElem?_cons_succ, List.set_cons_zero, List.set_cons_succ, wipeE, List.length_cons, List.length_nil, Nat.reduceAdd, Nat.reduceLeDiff, Nat.reduceEqDiff, ↓reduceIte, Bool.false_eq_true, decide_eq_true_eq, add_int, sub_int, lt_int, gt_int, le_int, ge_int, neg_int, and_int, or_int, xor_int, max2_int, min2_int, mod_pos, fdiv_sm, mul_sm, mul_smr, Int.reduceLT, Int.reduceNeg, int_bl, int_int, sli_tup, sline 2 (by omega), hS3, ew, kk, e4', sline 3 (by omega)]; rw [lkD])
      · have m30 := Int.emod_nonneg (x / 7) (b := 3) (by omega)
        have m31 := Int.emod_lt_of_pos (x / 7) (b := 3) (by omega)
        obtain ⟨m, hm⟩ := Int.eq_ofNat_of_zero_le (show 0 ≤ 1 + x / 7 % 3 by omega)
        obtain ⟨st, zs, S2, e2, h2, f2, sl, sok, t2, zl⟩ := HW f m S1 ys (by omega) h1 (by omega) p1
        have e2' : F (f + (j + 2)) .l_way [.ref ld, .ref lp, .int ((j + 1 : Nat) : Int), .int (m : Int)] S1 = .ok (.tup (wyD (wyM st))) S2 := e2
        refine ⟨.way (wyM st), zs, S2, ?_, h2, f1.trans f2, by rw [okL]; exact ⟨okW_of st fun p hp => ⟨(sok p hp).1, (sok p hp).2.1⟩, by rw [wyL_M]; omega⟩, ?_, ?_, by rw [tl_way]; omega, by omega⟩
        rotate_left
        · have := calW_of (n := 2 * (j + 1)) st fun p hp => (sok p hp).2.2.1
          rw [cal]; omega
        · have := dpW_of (n := 2 * (j + 1) + 1) (by omega) st fun p hp => (sok p hp).2.2.2
          rw [dpL]; omega
        rw [F_l_look]
        refine runF_rt (ρ := [some (.ref ld), some (.ref lp), some (.int ((j + 2 : Nat) : Int)), none, none, none]) rfl rfl (start _ ?_)
        refine (seq_of (set_of (d := .int (x % 7)) (S' := S1) (by simp only [ev_var, ev_con, ev_bin, ev_un, ev_anil, ev_acons, ev_call, ev_tup, ev_lst, ev_not, ev_and, ev_or, ev_if, ev_cbl, ev_btrue, ev_cand, ev_cor, ev_cnot, ev_sli, ev_onone, ev_osome, ev_chain, ev_meth, ev_get2, ev_newK, ev_newT, ev_own, ev_nil, ev_seq, ev_expr, ev_set, ev_ret, ev_retN, ev_cif, ev_brk, ev_ct, ev_asg, ev_put, ev_aug, ev_for, ev_comp, ev_newL, ev_iseq, ev_irange, ev_ienum, ev_yes, Out.bind_ok, Out.bindN_ok, bindS_ok, Tg.set, Tg.sets, List.getElem?_cons_zero, List.getElem?_cons_succ, List.set_cons_zero, List.set_cons_succ, wipeE, List.length_cons, List.length_nil, Nat.reduceAdd, Nat.reduceLeDiff, Nat.reduceEqDiff, ↓reduceIte, Bool.false_eq_true, decide_eq_true_eq, add_int, sub_int, lt_int, gt_int, le_int, ge_int, neg_int, and_int, or_int, xor_int, max2_int, min2_int, mod_pos, fdiv_sm, mul_sm, mul_smr, Int.reduceLT, Int.reduceNeg, int_bl, int_int, sli_tup]))).trans ?_
        refine (seq_of ((if_f hf).trans rfl)).trans ?_
        refine (seq_of ((if_f (S' := S1) (by simp only [ev_var, ev_con, ev_bin, ev_un, ev_anil, ev_acons, ev_call, ev_tup, ev_lst, ev_not, ev_and, ev_or, ev_if, ev_cbl, ev_btrue, ev_cand, ev_cor, ev_cnot, ev_sli, ev_onone, ev_osome, ev_chain, ev_meth, ev_get2, ev_newK, ev_newT, ev_own, ev_nil, ev_seq, ev_expr, ev_set, ev_ret, ev_retN, ev_cif, ev_brk, ev_ct, ev_asg, ev_put, ev_aug, ev_for, ev_comp, ev_newL, ev_iseq, ev_irange, ev_ienum, ev_yes, Out.bind_ok, Out.bindN_ok, bindS_ok, Tg.set, Tg.sets, List.getElem?_cons_zero, List.getElem?_cons_succ, List.set_cons_zero, List.set_cons_succ, wipeE, List.length_cons, List.length_nil, Nat.reduceAdd, Nat.reduceLeDiff, Nat.reduceEqDiff, ↓reduceIte, Bool.false_eq_true, decide_eq_true_eq, add_int, sub_int, lt_int, gt_int, le_int, ge_int, neg_int, and_int, or_int, xor_int, max2_int, min2_int, mod_pos, fdiv_sm, mul_sm, mul_smr, Int.reduceLT, Int.reduceNeg, int_bl, int_int, sli_tup, eq_int, q2, decide_false])).trans rfl)).trans ?_
        refine (seq_of ((if_f (S' := S1) (by simp only [ev_var, ev_con, ev_bin, ev_un, ev_anil, ev_acons, ev_call, ev_tup, ev_lst, ev_not, ev_and, ev_or, ev_if, ev_cbl, ev_btrue, ev_cand, ev_cor, ev_cnot, ev_sli, ev_onone, ev_osome, ev_chain, ev_meth, ev_get2, ev_newK, ev_newT, ev_own, ev_nil, ev_seq, ev_expr, ev_set, ev_ret, ev_retN, ev_cif, ev_brk, ev_ct, ev_asg, ev_put, ev_aug, ev_for, ev_comp, ev_newL, ev_iseq, ev_irange, ev_ienum, ev_yes, Out.bind_ok, Out.bindN_ok, bindS_ok, Tg.set, Tg.sets, List.getElem?_cons_zero, List.getElem?_cons_succ, List.set_cons_zero, List.set_cons_succ, wipeE, List.length_cons, List.length_nil, Nat.reduceAdd, Nat.reduceLeDiff, Nat.reduceEqDiff, ↓reduceIte, Bool.false_eq_true, decide_eq_true_eq, add_int, sub_int, lt_int, gt_int, le_int, ge_int, neg_int, and_int, or_int, xor_int, max2_int, min2_int, mod_pos, fdiv_sm, mul_sm, mul_smr, Int.reduceLT, Int.reduceNeg, int_bl, int_int, sli_tup, q3, decide_false])).trans rfl)).trans ?_
        exact ret_of (by simp only [ev_var, ev_con, ev_bin, ev_un, ev_anil, ev_acons, ev_call, ev_tup, ev_lst, ev_not, ev_and, ev_or, ev_if, ev_cbl, ev_btrue, ev_cand, ev_cor, ev_cnot, ev_sli, ev_onone, ev_osome, ev_chain, ev_meth, ev_get2, ev_newK, ev_newT, ev_own, ev_nil, ev_seq, ev_expr, ev_set, ev_ret, ev_retN, ev_cif, ev_brk, ev_ct, ev_asg, ev_put, ev_aug, ev_for, ev_comp, ev_newL, ev_iseq, ev_irange, ev_ienum, ev_yes, Out.bind_ok, Out.bindN_ok, bindS_ok, Tg.set, Tg.sets, List.getElem?_cons_zero, List.getElem?_cons_succ, List.set_cons_zero, List.set_cons_succ, wipeE, List.length_cons, List.length_nil, Nat.reduceAdd, Nat.reduceLeDiff, Nat.reduceEqDiff, ↓reduceIte, Bool.false_eq_true, decide_eq_true_eq, add_int, sub_int, lt_int, gt_int, le_int, ge_int, neg_int, and_int, or_int, xor_int, max2_int, min2_int, mod_pos, fdiv_sm, mul_sm, mul_smr, Int.reduceLT, Int.reduceNeg, int_bl, int_int, sli_tup, kk, hm, e2', sline 2 (by omega)]; rw [lkD])
theorem looks_all (hn : lp ≠ ld) : ∀ k, LookD ld lp pool k
  | 0 => look_step hn (fun j h => by omega) (fun j h => by omega)
  | 1 => look_step hn (fun j h => by obtain rfl : j = 0 := by omega
                                     exact looks_all hn 0) (fun j h => by omega)
  | k + 2 => look_step hn (fun j h => by obtain rfl : j = k + 1 := by omega
                                         exact looks_all hn (k + 1)) (fun j h => by obtain rfl : j = k := by omega
                                                                                    exact way_of_look hn (looks_all hn j))
end
section
theorem atI2' {S : Sto} {l : Nat} {a b : Dv} (h : S[l]? = some (.lst [a, b])) (v : Int) : idxD (.ref l) (.int (v % 2)) S = .ok (if v % 2 = 0 then a else b) S := by
  rcases (show v % 2 = 0 ∨ v % 2 = 1 by omega) with e | e
  · rw [e]; exact idx_ref h (atI_nat (i := 0) rfl)
  · rw [e]; exact idx_ref h (atI_nat (i := 1) rfl)
/-- a way of steps as it is handed on -/
structure WyOk (st : List (Str × Lk)) : Prop where
  ok : ∀ p ∈ st, okG p.1 ∧ okL false p.2 ∧ 2 + cal p.2 ≤ 30 ∧ 2 + dpL p.2 ≤ 31
  ne : 1 ≤ st.length
  tk : (tokss (neW (wyM st))).length ≤ 700
theorem tl_head (p : Str × Lk) (r : List (Str × Lk)) : (tokss (neW (wyM (p :: r)))).length = 3 + tl p.2 + (tokss (neW (wyM r))).length := by rw [wyM, tl_cons]
theorem wy_idx {S : Sto} (p : Str × Lk) (r : List (Str × Lk)) : idxD (.tup (wyD (wyM (p :: r)))) (.int 0) S = .ok (stD p) S ∧ sliD (.tup (wyD (wyM (p :: r)))) (some 1) none S = .ok (.tup (r.map stD)) S := by
  rw [wyD_map, wyL_M]
  refine ⟨idx0, ?_⟩
  rw [sli_tup, List.map_cons, cut_tail]
theorem wy_of {st : List (Str × Lk)} (h : WyOk st) : okW false (wyM st) ∧ 1 ≤ (wyL (wyM st)).length ∧ calW (wyM st) ≤ 30 ∧ dpW (wyM st) ≤ 31 := by
  refine ⟨okW_of st fun p hp => ⟨(h.ok p hp).1, (h.ok p hp).2.1⟩, by rw [wyL_M]; exact h.ne, calW_of st fun p hp => (h.ok p hp).2.2.1, dpW_of (by omega) st fun p hp => (h.ok p hp).2.2.2⟩
theorem law_true (ns : List Int) (hns : ns.length ≤ 63) : ∃ S, F 60 .l_law [.fl (ns.map .int)] [] = .ok (.bl true) S := by
  obtain ⟨P, hP, hpw⟩ := pow18
  obtain ⟨l1, ds, S1, e1, g1, hl1, h1, hlen, hds⟩ := draws_run (S := []) (d := .fl (ns.map .int)) (n := 9) rfl (by omega) hns
  have e1' : F 59 .l_draws [.fl (ns.map .int), .int 9] [] = .ok (.ref l1) S1 := e1
  have dpos : ∀ j, 0 ≤ ds.getD j 0 := fun j => by
    rw [List.getD_eq_getElem?_getD]
    cases hd : ds[j]? with
    | none => exact Int.le_refl 0
    | some x => exact (hds x (List.mem_of_getElem? hd)).1
  obtain ⟨pool, S2, e2, g2, hpl, hpk⟩ := names_run (f := 58) (j := 10) (m := 4) (S := S1) (ρ := [some (.fl (ns.map .int)), some (.ref l1), none, none, none, none, none, none, none, none, none, none]) (y := y_l_law_1 (F 59)) (by omega) (fun i S' hi g => ⟨ds.getD i 0, _, dpos i, rfl, by have := idx_nat (g.at h1) i (by omega); unfold y_l_law_1; simp only [ev_var, ev_con, ev_bin, ev_un, ev_anil, ev_acons, ev_call, ev_tup, ev_lst, ev_not, ev_and, ev_or, ev_if, ev_cbl, ev_btrue, ev_cand, ev_cor, ev_cnot, ev_sli, ev_onone, ev_osome, ev_chain, ev_meth, ev_get2, ev_newK, ev_newT, ev_own, ev_nil, ev_seq, ev_expr, ev_set, ev_ret, ev_retN, ev_cif, ev_brk, ev_ct, ev_asg, ev_put, ev_aug, ev_for, ev_comp, ev_newL, ev_iseq, ev_irange, ev_ienum, ev_yes, Out.bind_ok, Out.bindN_ok, bindS_ok, Tg.set, Tg.sets, List.getElem?_cons_zero, List.getElem?_cons_succ, List.set_cons_zero, List.set_cons_succ, wipeE, List.length_cons, List.length_nil, Nat.reduceAdd, Nat.reduceLeDiff, Nat.reduceEqDiff, ↓reduceIte, Bool.false_eq_true, decide_eq_true_eq, add_int, sub_int, lt_int, gt_int, le_int, ge_int, neg_int, and_int, or_int, xor_int, max2_int, min2_int, mod_pos, fdiv_sm, mul_sm, mul_smr, Int.reduceLT, Int.reduceNeg, int_bl, int_int, sli_tup, this]⟩)
  have g3 := gr_app S2 [Ob.lst (pool.map .str)]
  have a3 := at_new S2 (.lst (pool.map .str))
  have l12 := lt_of_at (g2.at h1)
  generalize hS3 : S2 ++ [Ob.lst (pool.map .str)] = S3 at g3 a3
  have g13 := g2.trans g3
  have p3 : PoolN S3 S2.length 4 pool := ⟨a3, hpl, hpk⟩
  have lpS3 := lt_of_at a3
  -- the draws of the looks
  obtain ⟨us, hus⟩ : ∃ us, us = cutD ns (some 4) (some 24) := ⟨_, rfl⟩
  have usl : us.length ≤ 20 := by
    rw [hus]; unfold cutD HT.sIx
    rw [List.length_take, List.length_drop]
    simp only [show ¬ ((24 : Int) < 0) by omega, show ¬ ((4 : Int) < 0) by omega, ↓reduceIte]
    omega
  have sl : sliD (.fl (ns.map .int)) (some 4) (some 24) S3 = newL (us.map .int) S3 := by simp only [sliD, lstOf]; rw [cutD_map, ← hus]
  have g6 := gr_app S3 [Ob.lst (us.map .int)]
  have a6 := at_new S3 (.lst (us.map .int))
  generalize hS6 : S3 ++ [Ob.lst (us.map .int)] = S6 at g6 a6
  have cp := comp_pure (ck := (Ck.ls S3.length (us.map .int)).ok) (t := .nm 11) (y := y_l_law_2 (F 59)) (ρ := [some (.fl (ns.map .int)), some (.ref l1), some (.ref S2.length), none, none, none, none, none, none, none, none, none]) (S := S6) (f := Dv.int) (g := fun c => Dv.int (c % P)) us (fun c _ => ⟨_, rfl, by unfold y_l_law_2; simp only [ev_var, ev_con, ev_bin, ev_un, ev_anil, ev_acons, ev_call, ev_tup, ev_lst, ev_not, ev_and, ev_or, ev_if, ev_cbl, ev_btrue, ev_cand, ev_cor, ev_cnot, ev_sli, ev_onone, ev_osome, ev_chain, ev_meth, ev_get2, ev_newK, ev_newT, ev_own, ev_nil, ev_seq, ev_expr, ev_set, ev_ret, ev_retN, ev_cif, ev_brk, ev_ct, ev_asg, ev_put, ev_aug, ev_for, ev_comp, ev_newL, ev_iseq, ev_irange, ev_ienum, ev_yes, Out.bind_ok, Out.bindN_ok, bindS_ok, Tg.set, Tg.sets, List.getElem?_cons_zero, List.getElem?_cons_succ, List.set_cons_zero, List.set_cons_succ, wipeE, List.length_cons, List.length_nil, Nat.reduceAdd, Nat.reduceLeDiff, Nat.reduceEqDiff, ↓reduceIte, Bool.false_eq_true, decide_eq_true_eq, add_int, sub_int, lt_int, gt_int, le_int, ge_int, neg_int, and_int, or_int, xor_int, max2_int, min2_int, mod_pos, fdiv_sm, mul_sm, mul_smr, Int.reduceLT, Int.reduceNeg, int_bl, int_int, sli_tup, hpw, hP]⟩) a6 (by omega)
  have ez : us.map (fun c => Dv.int (c % P)) = (us.map (· % P)).map .int := by rw [List.map_map]; rfl
  rw [ez] at cp
  have zsl : (us.map (· % P)).length ≤ 20 := by rw [List.length_map]; exact usl
  generalize us.map (· % P) = zs at cp zsl
  have g7 := gr_app S6 [Ob.lst (zs.map .int)]
  have a7 := at_new S6 (.lst (zs.map .int))
  generalize hS7 : S6 ++ [Ob.lst (zs.map .int)] = S7 at g7 a7
  have g17 := g13.trans (g6.trans g7)
  obtain ⟨ts, hts⟩ : ∃ ts, ts = cutD ds (some 4) (some 8) := ⟨_, rfl⟩
  have tsl : ts.length ≤ 4 := by
    rw [hts]; unfold cutD HT.sIx
    rw [List.length_take, List.length_drop]
    simp only [show ¬ ((8 : Int) < 0) by omega, show ¬ ((4 : Int) < 0) by omega, ↓reduceIte]
    omega
  have sl7 : sliD (.ref l1) (some 4) (some 8) S7 = newL (ts.map .int) S7 := by simp only [sliD, lst_ref (g17.at h1)]; rw [cutD_map, ← hts]
  have g8 := gr_app S7 [Ob.lst (ts.map .int)]
  have a8 := at_new S7 (.lst (ts.map .int))
  generalize hS8 : S7 ++ [Ob.lst (ts.map .int)] = S8 at g8 a8
  have ad8 := cut4 (g8.at a7) a8 (by rw [List.length_map, List.length_map]; omega)
  rw [← List.map_append] at ad8
  have g9 := gr_app S8 [Ob.lst ((zs ++ ts).map .int)]
  have a9 := at_new S8 (.lst ((zs ++ ts).map .int))
  have ad8' : addD (.ref S6.length) (.ref S7.length) S8 = .ok (.ref S8.length) (S8 ++ [Ob.lst ((zs ++ ts).map .int)]) := ad8
  have xl24 : (zs ++ ts).length ≤ 24 := by rw [List.length_append]; omega
  generalize zs ++ ts = xs0 at a9 ad8' g9 xl24
  generalize S8 ++ [Ob.lst (xs0.map .int)] = S9 at g9 a9 ad8'
  have g39 := ((g6.trans g7).trans g8).trans g9
  have g19 := g13.trans g39
  have dx := fun (j : Nat) (hj : j < 9) => idx_nat (g19.at h1) j (show j < ds.length by omega)
  have dx5 : idxD (.ref l1) (.int 5) S9 = .ok (.int (ds.getD 5 0)) S9 := dx 5 (by omega)
  have l8 : S3.length ≤ S8.length := (((g6.trans g7).trans g8)).le
  -- how many steps
  have m50 := Int.emod_nonneg (ds.getD 5 0) (b := 5) (by omega)
  have m51 := Int.emod_lt_of_pos (ds.getD 5 0) (b := 5) (by omega)
  obtain ⟨m, ld, xs, SA, em, gA, ldl, hA, hxs, hm1, hm⟩ : ∃ (m ld : Nat) (xs : List Int) (SA : Sto), (cIf (cBl (eBin eqD (eBin modD (eBin fdivD (eBin idxD (eVar 1) (eCon (.int 5))) (eCon (.int 5))) (eCon (.int 3))) (eCon (.int 1)))) (cSeq (cSet 4 (eBin addD (eCon (.int 6)) (eBin modD (eBin fdivD (eBin idxD (eVar 1) (eCon (.int 5))) (eCon (.int 15))) (eCon (.int 12))))) (cSet 3 (eSli (eVar 3) (oNone) (oSome (eBin addD (eVar 4) (eCon (.int 4))))))) (cNil)) [some (.fl (ns.map .int)), some (.ref l1), some (.ref S2.length), some (.ref S8.length), some (.int (1 + ds.getD 5 0 % 5)), none, none, none, none, none, none, none] S9 = .fl (.nx [some (.fl (ns.map .int)), some (.ref l1), some (.ref S2.length), some (.ref ld), some (.int (m : Int)), none, none, none, none, none, none, none]) SA ∧ Gr S9 SA ∧ S3.length ≤ ld ∧ SA[ld]? = some (.lst (xs.map .int)) ∧ xs.length ≤ 24 ∧ 1 ≤ m ∧ m ≤ 17 := by
    by_cases q : ds.getD 5 0 / 5 % 3 = 1
    · have n0 := Int.emod_nonneg (ds.getD 5 0 / 15) (b := 12) (by omega)
      have n1 := Int.emod_lt_of_pos (ds.getD 5 0 / 15) (b := 12) (by omega)
      obtain ⟨m, hm⟩ := Int.eq_ofNat_of_zero_le (show 0 ≤ 6 + ds.getD 5 0 / 15 % 12 by omega)
      have gA := gr_app S9 [Ob.lst ((xs0.take (m + 4)).map .int)]
      have aA := at_new S9 (.lst ((xs0.take (m + 4)).map .int))
      have se : sliD (.ref S8.length) none (some ((m : Int) + 4)) S9 = .ok (.ref S9.length) (S9 ++ [Ob.lst ((xs0.take (m + 4)).map .int)]) := by
        simp only [sliD, lst_ref a9]
        rw [show (m : Int) + 4 = ((m + 4 : Nat) : Int) by omega, cut_to, ← List.map_take]; rfl
      refine ⟨m, S9.length, xs0.take (m + 4), _, ?_, gA, Nat.le_trans l8 g9.le, aA, by rw [List.length_take]; omega, by omega, by omega⟩
      refine (if_t (S' := S9) (by simp only [ev_var, ev_con, ev_bin, ev_un, ev_anil, ev_acons, ev_call, ev_tup, ev_lst, ev_not, ev_and, ev_or, ev_if, ev_cbl, ev_btrue, ev_cand, ev_cor, ev_cnot, ev_sli, ev_onone, ev_osome, ev_chain, ev_meth, ev_get2, ev_newK, ev_newT, ev_own, ev_nil, ev_seq, ev_expr, ev_set, ev_ret, ev_retN, ev_cif, ev_brk, ev_ct, ev_asg, ev_put, ev_aug, ev_for, ev_comp, ev_newL, ev_iseq, ev_irange, ev_ienum, ev_yes, Out.bind_ok, Out.bindN_ok, bindS_ok, Tg.set, Tg.sets, List.getElem?_cons_zero, List.getElem?_cons_succ, List.set_cons_zero, List.set_cons_succ, wipeE, List.length_cons, List.length_nil, Nat.reduceAdd, Nat.reduceLeDiff, Nat.reduceEqDiff, ↓reduceIte, Bool.false_eq_true, decide_eq_true_eq, add_int, sub_int, lt_int, gt_int, le_int, ge_int, neg_int, and_int, or_int, xor_int, max2_int, min2_int, mod_pos, fdiv_sm, mul_sm, mul_smr, Int.reduceLT, Int.reduceNeg, int_bl, int_int, sli_tup, dx5, eq_int, q, decide_true])).trans ?_
      refine (seq_of (set_of (d := .int (m : Int)) (S' := S9) (by simp only [ev_var, ev_con, ev_bin, ev_un, ev_anil, ev_acons, ev_call, ev_tup, ev_lst, ev_not, ev_and, ev_or, ev_if, ev_cbl, ev_btrue, ev_cand, ev_cor, ev_cnot, ev_sli, ev_onone, ev_osome, ev_chain, ev_meth, ev_get2, ev_newK, ev_newT, ev_own, ev_nil, ev_seq, ev_expr, ev_set, ev_ret, ev_retN, ev_cif, ev_brk, ev_ct, ev_asg, ev_put, ev_aug, ev_for, ev_comp, ev_newL, ev_iseq, ev_irange, ev_ienum, ev_yes, Out.bind_ok, Out.bindN_ok, bindS_ok, Tg.set, Tg.sets, List.getElem?_cons_zero, List.getElem?_cons_succ, List.set_cons_zero, List.set_cons_succ, wipeE, List.length_cons, List.length_nil, Nat.reduceAdd, Nat.reduceLeDiff, Nat.reduceEqDiff, ↓reduceIte, Bool.false_eq_true, decide_eq_true_eq, add_int, sub_int, lt_int, gt_int, le_int, ge_int, neg_int, and_int, or_int, xor_int, max2_int, min2_int, mod_pos, fdiv_sm, mul_sm, mul_smr, Int.reduceLT, Int.reduceNeg, int_bl, int_int, sli_tup, dx5, hm]))).trans ?_
      exact set_of (by simp only [ev_var, ev_con, ev_bin, ev_un, ev_anil, ev_acons, ev_call, ev_tup, ev_lst, ev_not, ev_and, ev_or, ev_if, ev_cbl, ev_btrue, ev_cand, ev_cor, ev_cnot, ev_sli, ev_onone, ev_osome, ev_chain, ev_meth, ev_get2, ev_newK, ev_newT, ev_own, ev_nil, ev_seq, ev_expr, ev_set, ev_ret, ev_retN, ev_cif, ev_brk, ev_ct, ev_asg, ev_put, ev_aug, ev_for, ev_comp, ev_newL, ev_iseq, ev_irange, ev_ienum, ev_yes, Out.bind_ok, Out.bindN_ok, bindS_ok, Tg.set, Tg.sets, List.getElem?_cons_zero, List.getElem?_cons_succ, List.set_cons_zero, List.set_cons_succ, wipeE, List.length_cons, List.length_nil, Nat.reduceAdd, Nat.reduceLeDiff, Nat.reduceEqDiff, ↓reduceIte, Bool.false_eq_true, decide_eq_true_eq, add_int, sub_int, lt_int, gt_int, le_int, ge_int, neg_int, and_int, or_int, xor_int, max2_int, min2_int, mod_pos, fdiv_sm, mul_sm, mul_smr, Int.reduceLT, Int.reduceNeg, int_bl, int_int, sli_tup, se])
    · obtain ⟨m, hm⟩ := Int.eq_ofNat_of_zero_le (show 0 ≤ 1 + ds.getD 5 0 % 5 by omega)
      refine ⟨m, S8.length, xs0, S9, ?_, .refl _, l8, a9, xl24, by omega, by omega⟩
      rw [← hm]
      exact (if_f (S' := S9) (by simp only [ev_var, ev_con, ev_bin, ev_un, ev_anil, ev_acons, ev_call, ev_tup, ev_lst, ev_not, ev_and, ev_or, ev_if, ev_cbl, ev_btrue, ev_cand, ev_cor, ev_cnot, ev_sli, ev_onone, ev_osome, ev_chain, ev_meth, ev_get2, ev_newK, ev_newT, ev_own, ev_nil, ev_seq, ev_expr, ev_set, ev_ret, ev_retN, ev_cif, ev_brk, ev_ct, ev_asg, ev_put, ev_aug, ev_for, ev_comp, ev_newL, ev_iseq, ev_irange, ev_ienum, ev_yes, Out.bind_ok, Out.bindN_ok, bindS_ok, Tg.set, Tg.sets, List.getElem?_cons_zero, List.getElem?_cons_succ, List.set_cons_zero, List.set_cons_succ, wipeE, List.length_cons, List.length_nil, Nat.reduceAdd, Nat.reduceLeDiff, Nat.reduceEqDiff, ↓reduceIte, Bool.false_eq_true, decide_eq_true_eq, add_int, sub_int, lt_int, gt_int, le_int, ge_int, neg_int, and_int, or_int, xor_int, max2_int, min2_int, mod_pos, fdiv_sm, mul_sm, mul_smr, Int.reduceLT, Int.reduceNeg, int_bl, int_int, sli_tup, dx5, eq_int, q, decide_false])).trans rfl
  have pA := p3.gr (g39.trans gA)
  obtain ⟨st0, ys, SB, eB, hB, fB, sl0, sok0, st0k, ysl⟩ := way_of_look (ld := ld) (lp := S2.length) (pool := pool) (k := 5) (by omega) (looks_all (by omega) 5) 52 m SA xs (by omega) hA (by omega) pA
  have eB' : F 59 .l_way [.ref ld, .ref S2.length, .int 6, .int (m : Int)] SA = .ok (.tup (wyD (wyM st0))) SB := eB
  have hdB : SB[l1]? = some (.lst (ds.map .int)) := fB.get _ _ ((g19.trans gA).at h1) (by show l1 ≠ ld; omega)
  have dxB := fun (j : Nat) (hj : j < 9) => idx_nat hdB j (show j < ds.length by omega)
  have dB5 : idxD (.ref l1) (.int 5) SB = .ok (.int (ds.getD 5 0)) SB := dxB 5 (by omega)
  have dB6 : idxD (.ref l1) (.int 6) SB = .ok (.int (ds.getD 6 0)) SB := dxB 6 (by omega)
  -- more about the first look
  obtain ⟨st, v9, v10, SC, eC, hC, hst⟩ : ∃ (st : List (Str × Lk)) (v9 v10 : Option Dv) (SC : Sto), (cIf (cBl (eBin eqD (eBin modD (eBin fdivD (eBin idxD (eVar 1) (eCon (.int 5))) (eCon (.int 5))) (eCon (.int 3))) (eCon (.int 2)))) (cSeq (cSet 9 (eBin idxD (eBin idxD (eVar 5) (eCon (.int 0))) (eCon (.int 1)))) (cSeq (cFor (iRange rng1 (aCons (eBin modD (eBin fdivD (eBin idxD (eVar 1) (eCon (.int 6))) (eCon (.int 12))) (eCon (.int 7))) (aNil))) (.nm 10) (b_l_law_3 (F 59))) (cSet 5 (eBin addD (eTup (aCons (eTup (aCons (eBin idxD (eBin idxD (eVar 5) (eCon (.int 0))) (eCon (.int 0))) (aCons (eVar 9) (aNil)))) (aNil))) (eSli (eVar 5) (oSome (eCon (.int 1))) (oNone)))))) (cNil)) [some (.fl (ns.map .int)), some (.ref l1), some (.ref S2.length), some (.ref ld), some (.int (m : Int)), some (.tup (wyD (wyM st0))), none, none, none, none, none, none] SB = .fl (.nx [some (.fl (ns.map .int)), some (.ref l1), some (.ref S2.length), some (.ref ld), some (.int (m : Int)), some (.tup (wyD (wyM st))), none, none, none, v9, v10, none]) SC ∧ Gr SB SC ∧ WyOk st := by
    by_cases q : ds.getD 5 0 / 5 % 3 = 2
    · cases st0 with
      | nil => rw [List.length_nil] at sl0; omega
      | cons p r =>
      obtain ⟨w0, w1⟩ := wy_idx (S := SB) p r
      have pok := sok0 p (by simp)
      have n0 := Int.emod_nonneg (ds.getD 6 0 / 12) (b := 7) (by omega)
      have n1 := Int.emod_lt_of_pos (ds.getD 6 0 / 12) (b := 7) (by omega)
      obtain ⟨ρ', SD, eD, l, v10, rfl, gD, okl, cl, dl, tl1⟩ := loop_all (ck := Ck.tt.ok) (t := .nm 10) (b := b_l_law_3 (F 59)) (S := SB) (ρ := [some (.fl (ns.map .int)), some (.ref l1), some (.ref S2.length), some (.ref ld), some (.int (m : Int)), some (.tup (wyD (wyM (p :: r)))), none, none, none, some (lkD p.2), none, none])
        (fun i ρ S' => ∃ (l : Lk) (v10 : Option Dv), ρ = [some (.fl (ns.map .int)), some (.ref l1), some (.ref S2.length), some (.ref ld), some (.int (m : Int)), some (.tup (wyD (wyM (p :: r)))), none, none, none, some (lkD l), v10, none] ∧ Gr SB S' ∧ okL false l ∧ cal l ≤ 10 + 3 * i ∧ dpL l ≤ 11 + 3 * i ∧ tl l ≤ tl p.2 + 6 * i) (rangeL 0 (ds.getD 6 0 / 12 % 7)) ⟨p.2, none, rfl, .refl _, pok.2.1, by have := pok.2.2.1; omega, by have := pok.2.2.2; omega, Nat.le_refl _⟩
        (fun i d ρ S' hd ⟨l, v10, hρ, g, okl, cl, dl, tl1⟩ => by
          subst hρ
          obtain ⟨rfl, hlt⟩ := rangeL_get hd
          rw [Int.zero_add] at hlt ⊢
          have g4 := gr_app S' [Ob.lst [.str "down", .str "deep", .str "later"]]
          have a4 := at_new S' (.lst [.str "down", .str "deep", .str "later"])
          generalize hS4 : S' ++ [Ob.lst [.str "down", .str "deep", .str "later"]] = S4 at g4 a4
          obtain ⟨go, okg, eg⟩ := go3 a4 (i : Int)
          have g5 := gr_app S4 [Ob.lst [.tup [.str "not", lkD l], .tup [.str "way", .tup [.tup [.str go, lkD l]]]]]
          have a5 := at_new S4 (.lst [.tup [.str "not", lkD l], .tup [.str "way", .tup [.tup [.str go, lkD l]]]])
          generalize hS5 : S4 ++ [Ob.lst [.tup [.str "not", lkD l], .tup [.str "way", .tup [.tup [.str go, lkD l]]]]] = S5 at g5 a5
          have d8 : idxD (.ref l1) (.int 8) S5 = .ok (.int (ds.getD 8 0)) S5 := idx_nat (((g.trans g4).trans g5).at hdB) 8 (by omega)
          have q0 : (0 : Int) < 3 + (i : Int) := by omega
          have q1 : 3 + (i : Int) < 9000 := by omega
          have ix := atI2' a5 (ds.getD 8 0 / (3 + (i : Int)))
          obtain ⟨l', el, o1, o2, o3, o4⟩ : ∃ l' : Lk, (if ds.getD 8 0 / (3 + (i : Int)) % 2 = 0 then Dv.tup [.str "not", lkD l] else .tup [.str "way", .tup [.tup [.str go, lkD l]]]) = lkD l' ∧ okL false l' ∧ cal l' ≤ 3 + cal l ∧ dpL l' ≤ 3 + dpL l ∧ tl l' ≤ tl l + 6 := by
            split
            · exact ⟨.no l, by rw [lkD], by rw [okL]; exact okl, by rw [cal]; omega, by rw [dpL]; omega, by rw [tl_no]; omega⟩
            · refine ⟨.way (.cons go l .nil), by rw [lkD, wyD, wyD], by rw [okL, okW, okW]; exact ⟨⟨okg, okl, trivial⟩, by rw [wyL, wyL]; exact Nat.le_refl 1⟩, by rw [cal, calW, calW]; omega, ?_, by rw [tl_way, tl_cons, neW, tokss]; simp only [List.length_nil]; omega⟩
              have : 1 ≤ dpL l := by cases l <;> rw [dpL] <;> omega
              rw [dpL, dpW, dpW]; omega
          rw [el] at ix
          refine ⟨trivial, _, rfl, [some (.fl (ns.map .int)), some (.ref l1), some (.ref S2.length), some (.ref ld), some (.int (m : Int)), some (.tup (wyD (wyM (p :: r)))), none, none, none, some (lkD l'), some (.int (i : Int)), none], S5, .inl ?_, l', _, rfl, (g.trans g4).trans g5, o1, by omega, by omega, by omega⟩
          unfold b_l_law_3
          exact set_of (by simp only [ev_var, ev_con, ev_bin, ev_un, ev_anil, ev_acons, ev_call, ev_tup, ev_lst, ev_not, ev_and, ev_or, ev_if, ev_cbl, ev_btrue, ev_cand, ev_cor, ev_cnot, ev_sli, ev_onone, ev_osome, ev_chain, ev_meth, ev_get2, ev_newK, ev_newT, ev_own, ev_nil, ev_seq, ev_expr, ev_set, ev_ret, ev_retN, ev_cif, ev_brk, ev_ct, ev_asg, ev_put, ev_aug, ev_for, ev_comp, ev_newL, ev_iseq, ev_irange, ev_ienum, ev_yes, Out.bind_ok, Out.bindN_ok, bindS_ok, Tg.set, Tg.sets, List.getElem?_cons_zero, List.getElem?_cons_succ, List.set_cons_zero, List.set_cons_succ, wipeE, List.length_cons, List.length_nil, Nat.reduceAdd, Nat.reduceLeDiff, Nat.reduceEqDiff, ↓reduceIte, Bool.false_eq_true, decide_eq_true_eq, add_int, sub_int, lt_int, gt_int, le_int, ge_int, neg_int, and_int, or_int, xor_int, max2_int, min2_int, mod_pos, fdiv_sm, mul_sm, mul_smr, Int.reduceLT, Int.reduceNeg, int_bl, int_int, sli_tup, sline 1 (by omega), sline 2 (by omega), sline 3 (by omega), hS4, show (0 : Int) < 3 by omega, eg, hS5, d8, fdiv_sm q0 q1, ix]))
        (fun _ _ _ => trivial)
      rw [rangeL_len] at cl dl tl1
      obtain ⟨w0', w1'⟩ := wy_idx (S := SD) p r
      have i00 : idxD (stD p) (.int 0) SD = .ok (.str p.1) SD := idx0
      have i01 : idxD (stD p) (.int 1) SB = .ok (lkD p.2) SB := idx1
      have ad : addD (.tup [.tup [.str p.1, lkD l]]) (.tup (r.map stD)) SD = .ok (.tup (wyD (wyM ((p.1, l) :: r)))) SD := by
        rw [add_tup (sline _ (by rw [List.length_map]; rw [List.length_cons] at sl0; simp only [List.length_cons, List.length_nil]; omega)), wyD_map, wyL_M]; rfl
      have tk0 := tl_head p r
      have tk1 := tl_head (p.1, l) r
      refine ⟨(p.1, l) :: r, some (lkD l), v10, SD, ?_, gD, ⟨fun p' hp' => ?_, by rw [List.length_cons]; omega, ?_⟩⟩
      · refine (if_t (S' := SB) (by simp only [ev_var, ev_con, ev_bin, ev_un, ev_anil, ev_acons, ev_call, ev_tup, ev_lst, ev_not, ev_and, ev_or, ev_if, ev_cbl, ev_btrue, ev_cand, ev_cor, ev_cnot, ev_sli, ev_onone, ev_osome, ev_chain, ev_meth, ev_get2, ev_newK, ev_newT, ev_own, ev_nil, ev_seq, ev_expr, ev_set, ev_ret, ev_retN, ev_cif, ev_brk, ev_ct, ev_asg, ev_put, ev_aug, ev_for, ev_comp, ev_newL, ev_iseq, ev_irange, ev_ienum, ev_yes, Out.bind_ok, Out.bindN_ok, bindS_ok, Tg.set, Tg.sets, List.getElem?_cons_zero, List.getElem?_cons_succ, List.set_cons_zero, List.set_cons_succ, wipeE, List.length_cons, List.length_nil, Nat.reduceAdd, Nat.reduceLeDiff, Nat.reduceEqDiff, ↓reduceIte, Bool.false_eq_true, decide_eq_true_eq, add_int, sub_int, lt_int, gt_int, le_int, ge_int, neg_int, and_int, or_int, xor_int, max2_int, min2_int, mod_pos, fdiv_sm, mul_sm, mul_smr, Int.reduceLT, Int.reduceNeg, int_bl, int_int, sli_tup, dB5, eq_int, q, decide_true])).trans ?_
        refine (seq_of (set_of (d := lkD p.2) (S' := SB) (by simp only [ev_var, ev_con, ev_bin, ev_un, ev_anil, ev_acons, ev_call, ev_tup, ev_lst, ev_not, ev_and, ev_or, ev_if, ev_cbl, ev_btrue, ev_cand, ev_cor, ev_cnot, ev_sli, ev_onone, ev_osome, ev_chain, ev_meth, ev_get2, ev_newK, ev_newT, ev_own, ev_nil, ev_seq, ev_expr, ev_set, ev_ret, ev_retN, ev_cif, ev_brk, ev_ct, ev_asg, ev_put, ev_aug, ev_for, ev_comp, ev_newL, ev_iseq, ev_irange, ev_ienum, ev_yes, Out.bind_ok, Out.bindN_ok, bindS_ok, Tg.set, Tg.sets, List.getElem?_cons_zero, List.getElem?_cons_succ, List.set_cons_zero, List.set_cons_succ, wipeE, List.length_cons, List.length_nil, Nat.reduceAdd, Nat.reduceLeDiff, Nat.reduceEqDiff, ↓reduceIte, Bool.false_eq_true, decide_eq_true_eq, add_int, sub_int, lt_int, gt_int, le_int, ge_int, neg_int, and_int, or_int, xor_int, max2_int, min2_int, mod_pos, fdiv_sm, mul_sm, mul_smr, Int.reduceLT, Int.reduceNeg, int_bl, int_int, sli_tup, w0, i01]))).trans ?_
        refine (seq_of ((for_of (w := (rangeL 0 (ds.getD 6 0 / 12 % 7), .tt)) (S' := SB) (by simp only [ev_var, ev_con, ev_bin, ev_un, ev_anil, ev_acons, ev_call, ev_tup, ev_lst, ev_not, ev_and, ev_or, ev_if, ev_cbl, ev_btrue, ev_cand, ev_cor, ev_cnot, ev_sli, ev_onone, ev_osome, ev_chain, ev_meth, ev_get2, ev_newK, ev_newT, ev_own, ev_nil, ev_seq, ev_expr, ev_set, ev_ret, ev_retN, ev_cif, ev_brk, ev_ct, ev_asg, ev_put, ev_aug, ev_for, ev_comp, ev_newL, ev_iseq, ev_irange, ev_ienum, ev_yes, Out.bind_ok, Out.bindN_ok, bindS_ok, Tg.set, Tg.sets, List.getElem?_cons_zero, List.getElem?_cons_succ, List.set_cons_zero, List.set_cons_succ, wipeE, List.length_cons, List.length_nil, Nat.reduceAdd, Nat.reduceLeDiff, Nat.reduceEqDiff, ↓reduceIte, Bool.false_eq_true, decide_eq_true_eq, add_int, sub_int, lt_int, gt_int, le_int, ge_int, neg_int, and_int, or_int, xor_int, max2_int, min2_int, mod_pos, fdiv_sm, mul_sm, mul_smr, Int.reduceLT, Int.reduceNeg, int_bl, int_int, sli_tup, dB6, rng1_of (i := ds.getD 6 0 / 12 % 7) (by omega) (by omega)])).trans eD)).trans ?_
        refine set_of ?_
        have w1'' : cutD (wyD (wyM (p :: r))) (some 1) none = r.map stD := by rw [wyD_map, wyL_M, List.map_cons, cut_tail]
        simp only [ev_var, ev_con, ev_bin, ev_un, ev_anil, ev_acons, ev_call, ev_tup, ev_lst, ev_not, ev_and, ev_or, ev_if, ev_cbl, ev_btrue, ev_cand, ev_cor, ev_cnot, ev_sli, ev_onone, ev_osome, ev_chain, ev_meth, ev_get2, ev_newK, ev_newT, ev_own, ev_nil, ev_seq, ev_expr, ev_set, ev_ret, ev_retN, ev_cif, ev_brk, ev_ct, ev_asg, ev_put, ev_aug, ev_for, ev_comp, ev_newL, ev_iseq, ev_irange, ev_ienum, ev_yes, Out.bind_ok, Out.bindN_ok, bindS_ok, Tg.set, Tg.sets, List.getElem?_cons_zero, List.getElem?_cons_succ, List.set_cons_zero, List.set_cons_succ, wipeE, List.length_cons, List.length_nil, Nat.reduceAdd, Nat.reduceLeDiff, Nat.reduceEqDiff, ↓reduceIte, Bool.false_eq_true, decide_eq_true_eq, add_int, sub_int, lt_int, gt_int, le_int, ge_int, neg_int, and_int, or_int, xor_int, max2_int, min2_int, mod_pos, fdiv_sm, mul_sm, mul_smr, Int.reduceLT, Int.reduceNeg, int_bl, int_int, sli_tup, w0', i00, sline 2 (by omega), sline 1 (by omega), w1'', ad]
      · rcases List.mem_cons.mp hp' with rfl | hp'
        · exact ⟨pok.1, okl, by show 2 + cal l ≤ 30; omega, by show 2 + dpL l ≤ 31; omega⟩
        · obtain ⟨z1, z2, z3, z4⟩ := sok0 p' (by simp [hp'])
          exact ⟨z1, z2, by omega, by omega⟩
      · rw [tk1]
        show 3 + tl l + _ ≤ 700
        omega
    · refine ⟨st0, none, none, SB, (if_f (S' := SB) (by simp only [ev_var, ev_con, ev_bin, ev_un, ev_anil, ev_acons, ev_call, ev_tup, ev_lst, ev_not, ev_and, ev_or, ev_if, ev_cbl, ev_btrue, ev_cand, ev_cor, ev_cnot, ev_sli, ev_onone, ev_osome, ev_chain, ev_meth, ev_get2, ev_newK, ev_newT, ev_own, ev_nil, ev_seq, ev_expr, ev_set, ev_ret, ev_retN, ev_cif, ev_brk, ev_ct, ev_asg, ev_put, ev_aug, ev_for, ev_comp, ev_newL, ev_iseq, ev_irange, ev_ienum, ev_yes, Out.bind_ok, Out.bindN_ok, bindS_ok, Tg.set, Tg.sets, List.getElem?_cons_zero, List.getElem?_cons_succ, List.set_cons_zero, List.set_cons_succ, wipeE, List.length_cons, List.length_nil, Nat.reduceAdd, Nat.reduceLeDiff, Nat.reduceEqDiff, ↓reduceIte, Bool.false_eq_true, decide_eq_true_eq, add_int, sub_int, lt_int, gt_int, le_int, ge_int, neg_int, and_int, or_int, xor_int, max2_int, min2_int, mod_pos, fdiv_sm, mul_sm, mul_smr, Int.reduceLT, Int.reduceNeg, int_bl, int_int, sli_tup, dB5, eq_int, q, decide_false])).trans rfl, .refl _, ⟨fun p hp => ?_, by omega, by omega⟩⟩
      obtain ⟨z1, z2, z3, z4⟩ := sok0 p hp
      exact ⟨z1, z2, by omega, by omega⟩
  obtain ⟨okw, new, calw, dpw⟩ := wy_of hst
  have tkw := hst.tk
  have stne : ∃ p r, st = p :: r := by cases st with
    | nil => have := hst.ne; simp at this
    | cons p r => exact ⟨p, r, rfl⟩
  obtain ⟨p, r, hpr⟩ := stne
  have okp := hst.ok p (by rw [hpr]; simp)
  have tlp := tle (wyM st) p (by rw [wyL_M, hpr]; simp)
  have w0 := fun S => (wy_idx (S := S) p r).1
  rw [← hpr] at w0
  obtain ⟨SD, eD, gD⟩ := wayT_run (fun p hp => text_all p.2) okw (by omega) (n := 30) (f := 27) (S := SC) calw
  have eD' : F 59 .l_way_text [.tup (wyD (wyM st))] SC = .ok (.str (txN (neY (wyM st)))) SD := eD
  have wdy := wds_Y okw
  have lo0 := lo_txN wdy
  have tky : (toks (neY (wyM st))).length ≤ 703 := by
    rw [neY, toks, List.length_cons, List.length_append, tokss, toks, List.length_append]
    simp only [List.length_cons, List.length_nil]; omega
  have lo0 : Lo 7030 ((toks (neY (wyM st))).map cs) (txN (neY (wyM st))) := lo0.le (by omega)
  have hsh := fun S => showW_run (m := false) (fun p hp => show_all p.2) okw (show _ ≤ 1000 by omega) (n := 30) (f := 26) (S := S) calw
  generalize hT : (toks (neY (wyM st))).map cs = T at lo0
  generalize txN (neY (wyM st)) = x at eD' lo0 hsh
  have gBD := hC.trans gD
  have dxD := fun (j : Nat) (hj : j < 9) => idx_nat (gBD.at hdB) j (show j < ds.length by omega)
  have dx6 : idxD (.ref l1) (.int 6) SD = .ok (.int (ds.getD 6 0)) SD := dxD 6 (by omega)
  have dx7 : idxD (.ref l1) (.int 7) SD = .ok (.int (ds.getD 7 0)) SD := dxD 7 (by omega)
  have dx8 : idxD (.ref l1) (.int 8) SD = .ok (.int (ds.getD 8 0)) SD := dxD 8 (by omega)
  obtain ⟨z, hz, er⟩ := rep3_run (o := eVar 6) (y := " ") (z0 := " ") (z1 := "  ") (z2 := "\n ") (e := eBin modD (eBin idxD (eVar 1) (eCon (.int 6))) (eCon (.int 3))) (v := ds.getD 6 0) (ρ := [some (.fl (ns.map .int)), some (.ref l1), some (.ref S2.length), some (.ref ld), some (.int (m : Int)), some (.tup (wyD (wyM st))), some (.str x), none, none, v9, v10, none]) (S := SD) (x := x) (by simp only [ev_var, ev_con, ev_bin, ev_un, ev_anil, ev_acons, ev_call, ev_tup, ev_lst, ev_not, ev_and, ev_or, ev_if, ev_cbl, ev_btrue, ev_cand, ev_cor, ev_cnot, ev_sli, ev_onone, ev_osome, ev_chain, ev_meth, ev_get2, ev_newK, ev_newT, ev_own, ev_nil, ev_seq, ev_expr, ev_set, ev_ret, ev_retN, ev_cif, ev_brk, ev_ct, ev_asg, ev_put, ev_aug, ev_for, ev_comp, ev_newL, ev_iseq, ev_irange, ev_ienum, ev_yes, Out.bind_ok, Out.bindN_ok, bindS_ok, Tg.set, Tg.sets, List.getElem?_cons_zero, List.getElem?_cons_succ, List.set_cons_zero, List.set_cons_succ, wipeE, List.length_cons, List.length_nil, Nat.reduceAdd, Nat.reduceLeDiff, Nat.reduceEqDiff, ↓reduceIte, Bool.false_eq_true, decide_eq_true_eq, add_int, sub_int, lt_int, gt_int, le_int, ge_int, neg_int, and_int, or_int, xor_int, max2_int, min2_int, mod_pos, fdiv_sm, mul_sm, mul_smr, Int.reduceLT, Int.reduceNeg, int_bl, int_int, sli_tup]) (by simp only [ev_var, ev_con, ev_bin, ev_un, ev_anil, ev_acons, ev_call, ev_tup, ev_lst, ev_not, ev_and, ev_or, ev_if, ev_cbl, ev_btrue, ev_cand, ev_cor, ev_cnot, ev_sli, ev_onone, ev_osome, ev_chain, ev_meth, ev_get2, ev_newK, ev_newT, ev_own, ev_nil, ev_seq, ev_expr, ev_set, ev_ret, ev_retN, ev_cif, ev_brk, ev_ct, ev_asg, ev_put, ev_aug, ev_for, ev_comp, ev_newL, ev_iseq, ev_irange, ev_ienum, ev_yes, Out.bind_ok, Out.bindN_ok, bindS_ok, Tg.set, Tg.sets, List.getElem?_cons_zero, List.getElem?_cons_succ, List.set_cons_zero, List.set_cons_succ, wipeE, List.length_cons, List.length_nil, Nat.reduceAdd, Nat.reduceLeDiff, Nat.reduceEqDiff, ↓reduceIte, Bool.false_eq_true, decide_eq_true_eq, add_int, sub_int, lt_int, gt_int, le_int, ge_int, neg_int, and_int, or_int, xor_int, max2_int, min2_int, mod_pos, fdiv_sm, mul_sm, mul_smr, Int.reduceLT, Int.reduceNeg, int_bl, int_int, sli_tup, dx6]) (by have := lo0.len; omega) (by decide +kernel)
  have lo1 := lo_sp lo0 hz
  generalize Txt.replace x " " z = x1 at er lo1
  obtain ⟨x2, lo2, er2⟩ := loose_step (c := cBl (eBin eqD (eBin modD (eBin fdivD (eBin idxD (eVar 1) (eCon (.int 6))) (eCon (.int 3))) (eCon (.int 2))) (eCon (.int 1)))) (y := "(") (z0 := "( ") (z1 := "\n(") (z2 := " ( ") (i := 7) (v := ds.getD 7 0) (e := eBin modD (eBin idxD (eVar 1) (eCon (.int 7))) (eCon (.int 3))) (ρ := [some (.fl (ns.map .int)), some (.ref l1), some (.ref S2.length), some (.ref ld), some (.int (m : Int)), some (.tup (wyD (wyM st))), some (.str x), some (.str x1), none, v9, v10, none]) (S := SD) lo1 rfl ⟨decide (ds.getD 6 0 / 3 % 2 = 1), by simp only [ev_var, ev_con, ev_bin, ev_un, ev_anil, ev_acons, ev_call, ev_tup, ev_lst, ev_not, ev_and, ev_or, ev_if, ev_cbl, ev_btrue, ev_cand, ev_cor, ev_cnot, ev_sli, ev_onone, ev_osome, ev_chain, ev_meth, ev_get2, ev_newK, ev_newT, ev_own, ev_nil, ev_seq, ev_expr, ev_set, ev_ret, ev_retN, ev_cif, ev_brk, ev_ct, ev_asg, ev_put, ev_aug, ev_for, ev_comp, ev_newL, ev_iseq, ev_irange, ev_ienum, ev_yes, Out.bind_ok, Out.bindN_ok, bindS_ok, Tg.set, Tg.sets, List.getElem?_cons_zero, List.getElem?_cons_succ, List.set_cons_zero, List.set_cons_succ, wipeE, List.length_cons, List.length_nil, Nat.reduceAdd, Nat.reduceLeDiff, Nat.reduceEqDiff, ↓reduceIte, Bool.false_eq_true, decide_eq_true_eq, add_int, sub_int, lt_int, gt_int, le_int, ge_int, neg_int, and_int, or_int, xor_int, max2_int, min2_int, mod_pos, fdiv_sm, mul_sm, mul_smr, Int.reduceLT, Int.reduceNeg, int_bl, int_int, sli_tup, dx6, eq_int]⟩ (by simp only [ev_var, ev_con, ev_bin, ev_un, ev_anil, ev_acons, ev_call, ev_tup, ev_lst, ev_not, ev_and, ev_or, ev_if, ev_cbl, ev_btrue, ev_cand, ev_cor, ev_cnot, ev_sli, ev_onone, ev_osome, ev_chain, ev_meth, ev_get2, ev_newK, ev_newT, ev_own, ev_nil, ev_seq, ev_expr, ev_set, ev_ret, ev_retN, ev_cif, ev_brk, ev_ct, ev_asg, ev_put, ev_aug, ev_for, ev_comp, ev_newL, ev_iseq, ev_irange, ev_ienum, ev_yes, Out.bind_ok, Out.bindN_ok, bindS_ok, Tg.set, Tg.sets, List.getElem?_cons_zero, List.getElem?_cons_succ, List.set_cons_zero, List.set_cons_succ, wipeE, List.length_cons, List.length_nil, Nat.reduceAdd, Nat.reduceLeDiff, Nat.reduceEqDiff, ↓reduceIte, Bool.false_eq_true, decide_eq_true_eq, add_int, sub_int, lt_int, gt_int, le_int, ge_int, neg_int, and_int, or_int, xor_int, max2_int, min2_int, mod_pos, fdiv_sm, mul_sm, mul_smr, Int.reduceLT, Int.reduceNeg, int_bl, int_int, sli_tup, dx7]) (by omega) (by decide +kernel) (by omega) (fun z hz => lo_op lo1 hz)
  obtain ⟨x3, lo3, er3⟩ := loose_step (c := cBl (eBin eqD (eBin modD (eBin fdivD (eBin idxD (eVar 1) (eCon (.int 6))) (eCon (.int 6))) (eCon (.int 2))) (eCon (.int 1)))) (y := ")") (z0 := " )") (z1 := ")\n") (z2 := "\n ) ") (i := 7) (v := ds.getD 8 0) (e := eBin modD (eBin idxD (eVar 1) (eCon (.int 8))) (eCon (.int 3))) (ρ := [some (.fl (ns.map .int)), some (.ref l1), some (.ref S2.length), some (.ref ld), some (.int (m : Int)), some (.tup (wyD (wyM st))), some (.str x), some (.str x2), none, v9, v10, none]) (S := SD) lo2 rfl ⟨decide (ds.getD 6 0 / 6 % 2 = 1), by simp only [ev_var, ev_con, ev_bin, ev_un, ev_anil, ev_acons, ev_call, ev_tup, ev_lst, ev_not, ev_and, ev_or, ev_if, ev_cbl, ev_btrue, ev_cand, ev_cor, ev_cnot, ev_sli, ev_onone, ev_osome, ev_chain, ev_meth, ev_get2, ev_newK, ev_newT, ev_own, ev_nil, ev_seq, ev_expr, ev_set, ev_ret, ev_retN, ev_cif, ev_brk, ev_ct, ev_asg, ev_put, ev_aug, ev_for, ev_comp, ev_newL, ev_iseq, ev_irange, ev_ienum, ev_yes, Out.bind_ok, Out.bindN_ok, bindS_ok, Tg.set, Tg.sets, List.getElem?_cons_zero, List.getElem?_cons_succ, List.set_cons_zero, List.set_cons_succ, wipeE, List.length_cons, List.length_nil, Nat.reduceAdd, Nat.reduceLeDiff, Nat.reduceEqDiff, ↓reduceIte, Bool.false_eq_true, decide_eq_true_eq, add_int, sub_int, lt_int, gt_int, le_int, ge_int, neg_int, and_int, or_int, xor_int, max2_int, min2_int, mod_pos, fdiv_sm, mul_sm, mul_smr, Int.reduceLT, Int.reduceNeg, int_bl, int_int, sli_tup, dx6, eq_int]⟩ (by simp only [ev_var, ev_con, ev_bin, ev_un, ev_anil, ev_acons, ev_call, ev_tup, ev_lst, ev_not, ev_and, ev_or, ev_if, ev_cbl, ev_btrue, ev_cand, ev_cor, ev_cnot, ev_sli, ev_onone, ev_osome, ev_chain, ev_meth, ev_get2, ev_newK, ev_newT, ev_own, ev_nil, ev_seq, ev_expr, ev_set, ev_ret, ev_retN, ev_cif, ev_brk, ev_ct, ev_asg, ev_put, ev_aug, ev_for, ev_comp, ev_newL, ev_iseq, ev_irange, ev_ienum, ev_yes, Out.bind_ok, Out.bindN_ok, bindS_ok, Tg.set, Tg.sets, List.getElem?_cons_zero, List.getElem?_cons_succ, List.set_cons_zero, List.set_cons_succ, wipeE, List.length_cons, List.length_nil, Nat.reduceAdd, Nat.reduceLeDiff, Nat.reduceEqDiff, ↓reduceIte, Bool.false_eq_true, decide_eq_true_eq, add_int, sub_int, lt_int, gt_int, le_int, ge_int, neg_int, and_int, or_int, xor_int, max2_int, min2_int, mod_pos, fdiv_sm, mul_sm, mul_smr, Int.reduceLT, Int.reduceNeg, int_bl, int_int, sli_tup, dx8]) (by omega) (by decide +kernel) (by omega) (fun z hz => lo_cl lo2 hz)
  have lo4 := lo_tight lo0
  have rd := fun (y : Str) (S : Sto) (B : Nat) (hB : B ≤ 400000) (lo : Lo B T y) => read_run (f := 24) (n := 30) (s := wyM st) (S := S) okw new (by omega) (by omega) calw lo.sk (Nat.le_trans lo.len hB) (by rw [lo.tk, hT])
  obtain ⟨Sa, ea, ga⟩ := hsh SD
  obtain ⟨Sb, eb, gb⟩ := rd x Sa _ (by omega) lo0
  obtain ⟨Sc, ec, gc⟩ := rd x3 Sb _ (by omega) lo3
  have er4 := tight_run (S := Sc) (x := x) (by have := lo0.len; omega)
  generalize Txt.replace x " (" "(" = x4 at er4 lo4
  obtain ⟨Sd, ed, gd⟩ := rd x4 Sc _ (by omega) lo4
  have ea' : F 59 .show_way [.tup (wyD (wyM st))] SD = .ok (.str x) Sa := ea
  have eb' : F 59 .read_way [.str x] Sa = .ok (.tup (wyD (wyM st))) Sb := eb
  have ec' : F 59 .read_way [.str x3] Sb = .ok (.tup (wyD (wyM st))) Sc := ec
  have ed' : F 59 .read_way [.str x4] Sc = .ok (.tup (wyD (wyM st))) Sd := ed
  have plw := plain_W (wyM st) 39 okw (by omega)
  have pe := fun S => pl_eq (S := S) plw
  have nxx : neD (.str x) (.str x) Sa = .ok (.bl false) Sa := by rw [ne_str lo0.sk lo0.sk, decide_eq_true rfl]; rfl
  -- a look mark
  have okp2 := okp.2.1
  have i01 : ∀ S, idxD (stD p) (.int 1) S = .ok (lkD p.2) S := fun S => idx1
  have okm : okL true (.two "both" .mark p.2) := by rw [okL, okL]; exact ⟨.inl rfl, rfl, okL_up p.2 okp2⟩
  have tlp' : tl p.2 ≤ 700 := Nat.le_trans tlp tkw
  have tlm : tl (.two "both" .mark p.2) ≤ 1000 := by
    rw [tl_two]
    have : tl .mark = 1 := rfl
    omega
  obtain ⟨Se, ee, ge⟩ := show_all (.two "both" .mark p.2) okm tlm 30 26 Sd (by have := okp.2.2.1; rw [cal, cal]; omega)
  have ee' : F 59 .show_look [.tup [.str "both", .tup [.str "mark"], lkD p.2]] Sd = .ok (.str (txN (neL (.two "both" .mark p.2)))) Se := by
    have : lkD (.two "both" .mark p.2) = .tup [.str "both", .tup [.str "mark"], lkD p.2] := by rw [lkD, lkD]
    rw [← this]; exact ee
  obtain ⟨Sg, eg, gg⟩ := text_all p.2 okp2 (by omega) 30 27 Se (by have := okp.2.2.1; omega)
  have eg' : F 59 .l_look_text [lkD p.2] Se = .ok (.str (txN (neL p.2))) Sg := eg
  have lb : (cs "(both mark ").length ≤ 11 := by decide
  have l3 : (cs ")").length ≤ 1 := by decide
  have tlen := tx_len (wds_L p.2 okp2) (show (toks (neL p.2)).length ≤ 2000 by have : (toks (neL p.2)).length ≤ 700 := tlp'; omega)
  have c1 := cat (S := Sg) lb tlen (by omega)
  have b1 : (cs (("(both mark " : Str) ++ txN (neL p.2))).length ≤ 20011 := by rw [cs_app, List.length_append]; omega
  have c2 := cat (S := Sg) b1 l3 (by omega)
  have et : ("(both mark " : Str) ++ txN (neL p.2) ++ ")" = txN (neL (.two "both" .mark p.2)) := cs_ext (by
    rw [show cs (txN (neL (.two "both" .mark p.2))) = shl _ from cs_stx _, neL, shl, shls, shls, shls, shls, shl, neL, shl, jl_cons, cs_app, cs_app, show cs (txN (neL p.2)) = shl (neL p.2) from cs_stx _]
    simp [show cs ("(both mark " : Str) = 40 :: (cs "both" ++ 32 :: (cs "mark" ++ [32])) from rfl, show cs (")" : Str) = [41] from rfl])
  rw [et] at c2
  have exx : eqD (.str (txN (neL (.two "both" .mark p.2)))) (.str (txN (neL (.two "both" .mark p.2)))) Sg = .ok (.bl true) Sg := eqt (txN_sk (wds_L _ okm)) Sg
  refine ⟨Sg, ?_⟩
  rw [F_l_law]
  refine runF_rt (ρ := [some (.fl (ns.map .int)), none, none, none, none, none, none, none, none, none, none, none]) rfl rfl ?_
  unfold c_l_law
  have r4 : rng1 [.int 4] = some (rangeL 0 ((4 : Nat) : Int)) := rng1_of (i := 4) (by omega) (by omega)
  refine (seq_of (set_of (d := .ref l1) (S' := S1) (by simp only [ev_var, ev_con, ev_bin, ev_un, ev_anil, ev_acons, ev_call, ev_tup, ev_lst, ev_not, ev_and, ev_or, ev_if, ev_cbl, ev_btrue, ev_cand, ev_cor, ev_cnot, ev_sli, ev_onone, ev_osome, ev_chain, ev_meth, ev_get2, ev_newK, ev_newT, ev_own, ev_nil, ev_seq, ev_expr, ev_set, ev_ret, ev_retN, ev_cif, ev_brk, ev_ct, ev_asg, ev_put, ev_aug, ev_for, ev_comp, ev_newL, ev_iseq, ev_irange, ev_ienum, ev_yes, Out.bind_ok, Out.bindN_ok, bindS_ok, Tg.set, Tg.sets, List.getElem?_cons_zero, List.getElem?_cons_succ, List.set_cons_zero, List.set_cons_succ, wipeE, List.length_cons, List.length_nil, Nat.reduceAdd, Nat.reduceLeDiff, Nat.reduceEqDiff, ↓reduceIte, Bool.false_eq_true, decide_eq_true_eq, add_int, sub_int, lt_int, gt_int, le_int, ge_int, neg_int, and_int, or_int, xor_int, max2_int, min2_int, mod_pos, fdiv_sm, mul_sm, mul_smr, Int.reduceLT, Int.reduceNeg, int_bl, int_int, sli_tup, e1']))).trans ?_
  refine (seq_of (set_of (d := .ref S2.length) (S' := S3) (by simp only [ev_var, ev_con, ev_bin, ev_un, ev_anil, ev_acons, ev_call, ev_tup, ev_lst, ev_not, ev_and, ev_or, ev_if, ev_cbl, ev_btrue, ev_cand, ev_cor, ev_cnot, ev_sli, ev_onone, ev_osome, ev_chain, ev_meth, ev_get2, ev_newK, ev_newT, ev_own, ev_nil, ev_seq, ev_expr, ev_set, ev_ret, ev_retN, ev_cif, ev_brk, ev_ct, ev_asg, ev_put, ev_aug, ev_for, ev_comp, ev_newL, ev_iseq, ev_irange, ev_ienum, ev_yes, Out.bind_ok, Out.bindN_ok, bindS_ok, Tg.set, Tg.sets, List.getElem?_cons_zero, List.getElem?_cons_succ, List.set_cons_zero, List.set_cons_succ, wipeE, List.length_cons, List.length_nil, Nat.reduceAdd, Nat.reduceLeDiff, Nat.reduceEqDiff, ↓reduceIte, Bool.false_eq_true, decide_eq_true_eq, add_int, sub_int, lt_int, gt_int, le_int, ge_int, neg_int, and_int, or_int, xor_int, max2_int, min2_int, mod_pos, fdiv_sm, mul_sm, mul_smr, Int.reduceLT, Int.reduceNeg, int_bl, int_int, sli_tup, r4, e2, newL, hS3]))).trans ?_
  refine (seq_of (set_of (d := .ref S8.length) (S' := S9) (by simp only [ev_var, ev_con, ev_bin, ev_un, ev_anil, ev_acons, ev_call, ev_tup, ev_lst, ev_not, ev_and, ev_or, ev_if, ev_cbl, ev_btrue, ev_cand, ev_cor, ev_cnot, ev_sli, ev_onone, ev_osome, ev_chain, ev_meth, ev_get2, ev_newK, ev_newT, ev_own, ev_nil, ev_seq, ev_expr, ev_set, ev_ret, ev_retN, ev_cif, ev_brk, ev_ct, ev_asg, ev_put, ev_aug, ev_for, ev_comp, ev_newL, ev_iseq, ev_irange, ev_ienum, ev_yes, Out.bind_ok, Out.bindN_ok, bindS_ok, Tg.set, Tg.sets, List.getElem?_cons_zero, List.getElem?_cons_succ, List.set_cons_zero, List.set_cons_succ, wipeE, List.length_cons, List.length_nil, Nat.reduceAdd, Nat.reduceLeDiff, Nat.reduceEqDiff, ↓reduceIte, Bool.false_eq_true, decide_eq_true_eq, add_int, sub_int, lt_int, gt_int, le_int, ge_int, neg_int, and_int, or_int, xor_int, max2_int, min2_int, mod_pos, fdiv_sm, mul_sm, mul_smr, Int.reduceLT, Int.reduceNeg, int_bl, int_int, sli_tup, sl, newL, hS6, walk_ref a6, cp, hS7, sl7, hS8, ad8']))).trans ?_
  refine (seq_of (set_of (d := .int (1 + ds.getD 5 0 % 5)) (S' := S9) (by simp only [ev_var, ev_con, ev_bin, ev_un, ev_anil, ev_acons, ev_call, ev_tup, ev_lst, ev_not, ev_and, ev_or, ev_if, ev_cbl, ev_btrue, ev_cand, ev_cor, ev_cnot, ev_sli, ev_onone, ev_osome, ev_chain, ev_meth, ev_get2, ev_newK, ev_newT, ev_own, ev_nil, ev_seq, ev_expr, ev_set, ev_ret, ev_retN, ev_cif, ev_brk, ev_ct, ev_asg, ev_put, ev_aug, ev_for, ev_comp, ev_newL, ev_iseq, ev_irange, ev_ienum, ev_yes, Out.bind_ok, Out.bindN_ok, bindS_ok, Tg.set, Tg.sets, List.getElem?_cons_zero, List.getElem?_cons_succ, List.set_cons_zero, List.set_cons_succ, wipeE, List.length_cons, List.length_nil, Nat.reduceAdd, Nat.reduceLeDiff, Nat.reduceEqDiff, ↓reduceIte, Bool.false_eq_true, decide_eq_true_eq, add_int, sub_int, lt_int, gt_int, le_int, ge_int, neg_int, and_int, or_int, xor_int, max2_int, min2_int, mod_pos, fdiv_sm, mul_sm, mul_smr, Int.reduceLT, Int.reduceNeg, int_bl, int_int, sli_tup, dx5]))).trans ?_
  refine (seq_of em).trans ?_
  refine (seq_of (set_of (d := .tup (wyD (wyM st0))) (S' := SB) (by simp only [ev_var, ev_con, ev_bin, ev_un, ev_anil, ev_acons, ev_call, ev_tup, ev_lst, ev_not, ev_and, ev_or, ev_if, ev_cbl, ev_btrue, ev_cand, ev_cor, ev_cnot, ev_sli, ev_onone, ev_osome, ev_chain, ev_meth, ev_get2, ev_newK, ev_newT, ev_own, ev_nil, ev_seq, ev_expr, ev_set, ev_ret, ev_retN, ev_cif, ev_brk, ev_ct, ev_asg, ev_put, ev_aug, ev_for, ev_comp, ev_newL, ev_iseq, ev_irange, ev_ienum, ev_yes, Out.bind_ok, Out.bindN_ok, bindS_ok, Tg.set, Tg.sets, List.getElem?_cons_zero, List.getElem?_cons_succ, List.set_cons_zero, List.set_cons_succ, wipeE, List.length_cons, List.length_nil, Nat.reduceAdd, Nat.reduceLeDiff, Nat.reduceEqDiff, ↓reduceIte, Bool.false_eq_true, decide_eq_true_eq, add_int, sub_int, lt_int, gt_int, le_int, ge_int, neg_int, and_int, or_int, xor_int, max2_int, min2_int, mod_pos, fdiv_sm, mul_sm, mul_smr, Int.reduceLT, Int.reduceNeg, int_bl, int_int, sli_tup, eB']))).trans ?_
  refine (seq_of eC).trans ?_
  refine (seq_of (set_of (d := .str x) (S' := SD) (by simp only [ev_var, ev_con, ev_bin, ev_un, ev_anil, ev_acons, ev_call, ev_tup, ev_lst, ev_not, ev_and, ev_or, ev_if, ev_cbl, ev_btrue, ev_cand, ev_cor, ev_cnot, ev_sli, ev_onone, ev_osome, ev_chain, ev_meth, ev_get2, ev_newK, ev_newT, ev_own, ev_nil, ev_seq, ev_expr, ev_set, ev_ret, ev_retN, ev_cif, ev_brk, ev_ct, ev_asg, ev_put, ev_aug, ev_for, ev_comp, ev_newL, ev_iseq, ev_irange, ev_ienum, ev_yes, Out.bind_ok, Out.bindN_ok, bindS_ok, Tg.set, Tg.sets, List.getElem?_cons_zero, List.getElem?_cons_succ, List.set_cons_zero, List.set_cons_succ, wipeE, List.length_cons, List.length_nil, Nat.reduceAdd, Nat.reduceLeDiff, Nat.reduceEqDiff, ↓reduceIte, Bool.false_eq_true, decide_eq_true_eq, add_int, sub_int, lt_int, gt_int, le_int, ge_int, neg_int, and_int, or_int, xor_int, max2_int, min2_int, mod_pos, fdiv_sm, mul_sm, mul_smr, Int.reduceLT, Int.reduceNeg, int_bl, int_int, sli_tup, eD']))).trans ?_
  refine (seq_of (set_of er)).trans ?_
  refine (seq_of er2).trans ?_
  refine (seq_of er3).trans ?_
  refine (seq_of ((if_f (S' := Sc) (by simp only [ev_var, ev_con, ev_bin, ev_un, ev_anil, ev_acons, ev_call, ev_tup, ev_lst, ev_not, ev_and, ev_or, ev_if, ev_cbl, ev_btrue, ev_cand, ev_cor, ev_cnot, ev_sli, ev_onone, ev_osome, ev_chain, ev_meth, ev_get2, ev_newK, ev_newT, ev_own, ev_nil, ev_seq, ev_expr, ev_set, ev_ret, ev_retN, ev_cif, ev_brk, ev_ct, ev_asg, ev_put, ev_aug, ev_for, ev_comp, ev_newL, ev_iseq, ev_irange, ev_ienum, ev_yes, Out.bind_ok, Out.bindN_ok, bindS_ok, Tg.set, Tg.sets, List.getElem?_cons_zero, List.getElem?_cons_succ, List.set_cons_zero, List.set_cons_succ, wipeE, List.length_cons, List.length_nil, Nat.reduceAdd, Nat.reduceLeDiff, Nat.reduceEqDiff, ↓reduceIte, Bool.false_eq_true, decide_eq_true_eq, add_int, sub_int, lt_int, gt_int, le_int, ge_int, neg_int, and_int, or_int, xor_int, max2_int, min2_int, mod_pos, fdiv_sm, mul_sm, mul_smr, Int.reduceLT, Int.reduceNeg, int_bl, int_int, sli_tup, ea', nxx, eb', (pe Sb).2, ec', (pe Sc).2])).trans rfl)).trans ?_
  refine (seq_of ((if_f (S' := Sd) (by simp only [ev_var, ev_con, ev_bin, ev_un, ev_anil, ev_acons, ev_call, ev_tup, ev_lst, ev_not, ev_and, ev_or, ev_if, ev_cbl, ev_btrue, ev_cand, ev_cor, ev_cnot, ev_sli, ev_onone, ev_osome, ev_chain, ev_meth, ev_get2, ev_newK, ev_newT, ev_own, ev_nil, ev_seq, ev_expr, ev_set, ev_ret, ev_retN, ev_cif, ev_brk, ev_ct, ev_asg, ev_put, ev_aug, ev_for, ev_comp, ev_newL, ev_iseq, ev_irange, ev_ienum, ev_yes, Out.bind_ok, Out.bindN_ok, bindS_ok, Tg.set, Tg.sets, List.getElem?_cons_zero, List.getElem?_cons_succ, List.set_cons_zero, List.set_cons_succ, wipeE, List.length_cons, List.length_nil, Nat.reduceAdd, Nat.reduceLeDiff, Nat.reduceEqDiff, ↓reduceIte, Bool.false_eq_true, decide_eq_true_eq, add_int, sub_int, lt_int, gt_int, le_int, ge_int, neg_int, and_int, or_int, xor_int, max2_int, min2_int, mod_pos, fdiv_sm, mul_sm, mul_smr, Int.reduceLT, Int.reduceNeg, int_bl, int_int, sli_tup, er4, ed', (pe Sd).2])).trans rfl)).trans ?_
  refine (seq_of (set_of (d := .tup [.str "both", .tup [.str "mark"], lkD p.2]) (S' := Sd) (by simp only [ev_var, ev_con, ev_bin, ev_un, ev_anil, ev_acons, ev_call, ev_tup, ev_lst, ev_not, ev_and, ev_or, ev_if, ev_cbl, ev_btrue, ev_cand, ev_cor, ev_cnot, ev_sli, ev_onone, ev_osome, ev_chain, ev_meth, ev_get2, ev_newK, ev_newT, ev_own, ev_nil, ev_seq, ev_expr, ev_set, ev_ret, ev_retN, ev_cif, ev_brk, ev_ct, ev_asg, ev_put, ev_aug, ev_for, ev_comp, ev_newL, ev_iseq, ev_irange, ev_ienum, ev_yes, Out.bind_ok, Out.bindN_ok, bindS_ok, Tg.set, Tg.sets, List.getElem?_cons_zero, List.getElem?_cons_succ, List.set_cons_zero, List.set_cons_succ, wipeE, List.length_cons, List.length_nil, Nat.reduceAdd, Nat.reduceLeDiff, Nat.reduceEqDiff, ↓reduceIte, Bool.false_eq_true, decide_eq_true_eq, add_int, sub_int, lt_int, gt_int, le_int, ge_int, neg_int, and_int, or_int, xor_int, max2_int, min2_int, mod_pos, fdiv_sm, mul_sm, mul_smr, Int.reduceLT, Int.reduceNeg, int_bl, int_int, sli_tup, w0, i01, sline 1 (by omega), sline 3 (by omega)]))).trans ?_
  exact ret_of (by simp only [ev_var, ev_con, ev_bin, ev_un, ev_anil, ev_acons, ev_call, ev_tup, ev_lst, ev_not, ev_and, ev_or, ev_if, ev_cbl, ev_btrue, ev_cand, ev_cor, ev_cnot, ev_sli, ev_onone, ev_osome, ev_chain, ev_meth, ev_get2, ev_newK, ev_newT, ev_own, ev_nil, ev_seq, ev_expr, ev_set, ev_ret, ev_retN, ev_cif, ev_brk, ev_ct, ev_asg, ev_put, ev_aug, ev_for, ev_comp, ev_newL, ev_iseq, ev_irange, ev_ienum, ev_yes, Out.bind_ok, Out.bindN_ok, bindS_ok, Tg.set, Tg.sets, List.getElem?_cons_zero, List.getElem?_cons_succ, List.set_cons_zero, List.set_cons_succ, wipeE, List.length_cons, List.length_nil, Nat.reduceAdd, Nat.reduceLeDiff, Nat.reduceEqDiff, ↓reduceIte, Bool.false_eq_true, decide_eq_true_eq, add_int, sub_int, lt_int, gt_int, le_int, ge_int, neg_int, and_int, or_int, xor_int, max2_int, min2_int, mod_pos, fdiv_sm, mul_sm, mul_smr, Int.reduceLT, Int.reduceNeg, int_bl, int_int, sli_tup, ee', w0, i01, eg', c1, c2, exx])
end
end Wk

/-! the end (printed by gen.py) -/
namespace Wk
open PySem PySem.Spec PyProof.Rows L2 PL
section
variable {P : Program} {w : World} {K : PySem.W.Frag} {mg : Str → Option Value} {base : Heap} {fa : Fn → Addr} {fd : Fn → FuncData}
theorem all_mk {l : PySem.W.OpenLaw} {w : World} {K : PySem.W.Frag} {h : Heap} {mg : Str → Option Value} {fl : Addr} (X : K.In h) (G : h.Ns mainGlobals mg) (hfa : mg "law" = some (.ref fl))
    {f1 : Addr} {od1 an1 : Option Addr} {sl1 : Array (Option Value)} {oc1 kV1 dc1 pm1 cd1 ct1 : Value} (a1 : PySem.W.nsIn K mainGlobals "is_name" = some (some (.ref f1)))
    (l1 : K.lookup f1 = some ⟨oc1, od1, .func (PySem.W.fnOf "is_name" "is_name" (defArgs s_is_name) (defBody s_is_name) (defScope s_is_name) .none kV1 dc1 pm1 an1 cd1 ct1), sl1⟩) (c1 : PySem.W.codeIn K cd1 "is_name" = true) (k1 : PySem.W.keepIn K (.ref f1) = true)
    {f2 : Addr} {od2 an2 : Option Addr} {sl2 : Array (Option Value)} {oc2 kV2 dc2 pm2 cd2 ct2 : Value} (a2 : PySem.W.nsIn K mainGlobals "need" = some (some (.ref f2)))
    (l2 : K.lookup f2 = some ⟨oc2, od2, .func (PySem.W.fnOf "need" "need" (defArgs s_need) (defBody s_need) (defScope s_need) .none kV2 dc2 pm2 an2 cd2 ct2), sl2⟩) (c2 : PySem.W.codeIn K cd2 "need" = true) (k2 : PySem.W.keepIn K (.ref f2) = true)
    {f3 : Addr} {od3 an3 : Option Addr} {sl3 : Array (Option Value)} {oc3 kV3 dc3 pm3 cd3 ct3 : Value} (a3 : PySem.W.nsIn K mainGlobals "need_name" = some (some (.ref f3)))
    (l3 : K.lookup f3 = some ⟨oc3, od3, .func (PySem.W.fnOf "need_name" "need_name" (defArgs s_need_name) (defBody s_need_name) (defScope s_need_name) .none kV3 dc3 pm3 an3 cd3 ct3), sl3⟩) (c3 : PySem.W.codeIn K cd3 "need_name" = true) (k3 : PySem.W.keepIn K (.ref f3) = true)
    {f4 : Addr} {od4 an4 : Option Addr} {sl4 : Array (Option Value)} {oc4 kV4 dc4 pm4 cd4 ct4 : Value} (a4 : PySem.W.nsIn K mainGlobals "words_of" = some (some (.ref f4)))
    (l4 : K.lookup f4 = some ⟨oc4, od4, .func (PySem.W.fnOf "words_of" "words_of" (defArgs s_words_of) (defBody s_words_of) (defScope s_words_of) .none kV4 dc4 pm4 an4 cd4 ct4), sl4⟩) (c4 : PySem.W.codeIn K cd4 "words_of" = true) (k4 : PySem.W.keepIn K (.ref f4) = true)
    {f5 : Addr} {od5 an5 : Option Addr} {sl5 : Array (Option Value)} {oc5 kV5 dc5 pm5 cd5 ct5 : Value} (a5 : PySem.W.nsIn K mainGlobals "nest_of" = some (some (.ref f5)))
    (l5 : K.lookup f5 = some ⟨oc5, od5, .func (PySem.W.fnOf "nest_of" "nest_of" (defArgs s_nest_of) (defBody s_nest_of) (defScope s_nest_of) .none kV5 dc5 pm5 an5 cd5 ct5), sl5⟩) (c5 : PySem.W.codeIn K cd5 "nest_of" = true) (k5 : PySem.W.keepIn K (.ref f5) = true)
    {f6 : Addr} {od6 an6 : Option Addr} {sl6 : Array (Option Value)} {oc6 kV6 dc6 pm6 cd6 ct6 : Value} (a6 : PySem.W.nsIn K mainGlobals "two_looks" = some (some (.ref f6)))
    (l6 : K.lookup f6 = some ⟨oc6, od6, .func (PySem.W.fnOf "two_looks" "two_looks" (defArgs s_two_looks) (defBody s_two_looks) (defScope s_two_looks) .none kV6 dc6 pm6 an6 cd6 ct6), sl6⟩) (c6 : PySem.W.codeIn K cd6 "two_looks" = true) (k6 : PySem.W.keepIn K (.ref f6) = true)
    {f7 : Addr} {od7 an7 : Option Addr} {sl7 : Array (Option Value)} {oc7 kV7 dc7 pm7 cd7 ct7 : Value} (a7 : PySem.W.nsIn K mainGlobals "look_of" = some (some (.ref f7)))
    (l7 : K.lookup f7 = some ⟨oc7, od7, .func (PySem.W.fnOf "look_of" "look_of" (defArgs s_look_of) (defBody s_look_of) (defScope s_look_of) .none kV7 dc7 pm7 an7 cd7 ct7), sl7⟩) (c7 : PySem.W.codeIn K cd7 "look_of" = true) (k7 : PySem.W.keepIn K (.ref f7) = true)
    {f8 : Addr} {od8 an8 : Option Addr} {sl8 : Array (Option Value)} {oc8 kV8 dc8 pm8 cd8 ct8 : Value} (a8 : PySem.W.nsIn K mainGlobals "step_of" = some (some (.ref f8)))
    (l8 : K.lookup f8 = some ⟨oc8, od8, .func (PySem.W.fnOf "step_of" "step_of" (defArgs s_step_of) (defBody s_step_of) (defScope s_step_of) .none kV8 dc8 pm8 an8 cd8 ct8), sl8⟩) (c8 : PySem.W.codeIn K cd8 "step_of" = true) (k8 : PySem.W.keepIn K (.ref f8) = true)
    {f9 : Addr} {od9 an9 : Option Addr} {sl9 : Array (Option Value)} {oc9 kV9 dc9 pm9 cd9 ct9 : Value} (a9 : PySem.W.nsIn K mainGlobals "way_of" = some (some (.ref f9)))
    (l9 : K.lookup f9 = some ⟨oc9, od9, .func (PySem.W.fnOf "way_of" "way_of" (defArgs s_way_of) (defBody s_way_of) (defScope s_way_of) .none kV9 dc9 pm9 an9 cd9 ct9), sl9⟩) (c9 : PySem.W.codeIn K cd9 "way_of" = true) (k9 : PySem.W.keepIn K (.ref f9) = true)
    {f10 : Addr} {od10 an10 : Option Addr} {sl10 : Array (Option Value)} {oc10 kV10 dc10 pm10 cd10 ct10 : Value} (a10 : PySem.W.nsIn K mainGlobals "read_way" = some (some (.ref f10)))
    (l10 : K.lookup f10 = some ⟨oc10, od10, .func (PySem.W.fnOf "read_way" "read_way" (defArgs s_read_way) (defBody s_read_way) (defScope s_read_way) .none kV10 dc10 pm10 an10 cd10 ct10), sl10⟩) (c10 : PySem.W.codeIn K cd10 "read_way" = true) (k10 : PySem.W.keepIn K (.ref f10) = true)
    {f11 : Addr} {od11 an11 : Option Addr} {sl11 : Array (Option Value)} {oc11 kV11 dc11 pm11 cd11 ct11 : Value} (a11 : PySem.W.nsIn K mainGlobals "bracketed" = some (some (.ref f11)))
    (l11 : K.lookup f11 = some ⟨oc11, od11, .func (PySem.W.fnOf "bracketed" "bracketed" (defArgs s_bracketed) (defBody s_bracketed) (defScope s_bracketed) .none kV11 dc11 pm11 an11 cd11 ct11), sl11⟩) (c11 : PySem.W.codeIn K cd11 "bracketed" = true) (k11 : PySem.W.keepIn K (.ref f11) = true)
    {f12 : Addr} {od12 an12 : Option Addr} {sl12 : Array (Option Value)} {oc12 kV12 dc12 pm12 cd12 ct12 : Value} (a12 : PySem.W.nsIn K mainGlobals "show_look" = some (some (.ref f12)))
    (l12 : K.lookup f12 = some ⟨oc12, od12, .func (PySem.W.fnOf "show_look" "show_look" (defArgs s_show_look) (defBody s_show_look) (defScope s_show_look) .none kV12 dc12 pm12 an12 cd12 ct12), sl12⟩) (c12 : PySem.W.codeIn K cd12 "show_look" = true) (k12 : PySem.W.keepIn K (.ref f12) = true)
    {f13 : Addr} {od13 an13 : Option Addr} {sl13 : Array (Option Value)} {oc13 kV13 dc13 pm13 cd13 ct13 : Value} (a13 : PySem.W.nsIn K mainGlobals "show_way" = some (some (.ref f13)))
    (l13 : K.lookup f13 = some ⟨oc13, od13, .func (PySem.W.fnOf "show_way" "show_way" (defArgs s_show_way) (defBody s_show_way) (defScope s_show_way) .none kV13 dc13 pm13 an13 cd13 ct13), sl13⟩) (c13 : PySem.W.codeIn K cd13 "show_way" = true) (k13 : PySem.W.keepIn K (.ref f13) = true)
    {f14 : Addr} {od14 an14 : Option Addr} {sl14 : Array (Option Value)} {oc14 kV14 dc14 pm14 cd14 ct14 : Value} (a14 : PySem.W.nsIn K mainGlobals "_law_draws" = some (some (.ref f14)))
    (l14 : K.lookup f14 = some ⟨oc14, od14, .func (PySem.W.fnOf "_law_draws" "_law_draws" (defArgs s_l_draws) (defBody s_l_draws) (defScope s_l_draws) .none kV14 dc14 pm14 an14 cd14 ct14), sl14⟩) (c14 : PySem.W.codeIn K cd14 "_law_draws" = true) (k14 : PySem.W.keepIn K (.ref f14) = true)
    {f15 : Addr} {od15 an15 : Option Addr} {sl15 : Array (Option Value)} {oc15 kV15 dc15 pm15 cd15 ct15 : Value} (a15 : PySem.W.nsIn K mainGlobals "_law_name" = some (some (.ref f15)))
    (l15 : K.lookup f15 = some ⟨oc15, od15, .func (PySem.W.fnOf "_law_name" "_law_name" (defArgs s_l_name) (defBody s_l_name) (defScope s_l_name) .none kV15 dc15 pm15 an15 cd15 ct15), sl15⟩) (c15 : PySem.W.codeIn K cd15 "_law_name" = true) (k15 : PySem.W.keepIn K (.ref f15) = true)
    {f16 : Addr} {od16 an16 : Option Addr} {sl16 : Array (Option Value)} {oc16 kV16 dc16 pm16 cd16 ct16 : Value} (a16 : PySem.W.nsIn K mainGlobals "_law_look" = some (some (.ref f16)))
    (l16 : K.lookup f16 = some ⟨oc16, od16, .func (PySem.W.fnOf "_law_look" "_law_look" (defArgs s_l_look) (defBody s_l_look) (defScope s_l_look) .none kV16 dc16 pm16 an16 cd16 ct16), sl16⟩) (c16 : PySem.W.codeIn K cd16 "_law_look" = true) (k16 : PySem.W.keepIn K (.ref f16) = true)
    {f17 : Addr} {od17 an17 : Option Addr} {sl17 : Array (Option Value)} {oc17 kV17 dc17 pm17 cd17 ct17 : Value} (a17 : PySem.W.nsIn K mainGlobals "_law_way" = some (some (.ref f17)))
    (l17 : K.lookup f17 = some ⟨oc17, od17, .func (PySem.W.fnOf "_law_way" "_law_way" (defArgs s_l_way) (defBody s_l_way) (defScope s_l_way) .none kV17 dc17 pm17 an17 cd17 ct17), sl17⟩) (c17 : PySem.W.codeIn K cd17 "_law_way" = true) (k17 : PySem.W.keepIn K (.ref f17) = true)
    {f18 : Addr} {od18 an18 : Option Addr} {sl18 : Array (Option Value)} {oc18 kV18 dc18 pm18 cd18 ct18 : Value} (a18 : PySem.W.nsIn K mainGlobals "_law_look_text" = some (some (.ref f18)))
    (l18 : K.lookup f18 = some ⟨oc18, od18, .func (PySem.W.fnOf "_law_look_text" "_law_look_text" (defArgs s_l_look_text) (defBody s_l_look_text) (defScope s_l_look_text) .none kV18 dc18 pm18 an18 cd18 ct18), sl18⟩) (c18 : PySem.W.codeIn K cd18 "_law_look_text" = true) (k18 : PySem.W.keepIn K (.ref f18) = true)
    {f19 : Addr} {od19 an19 : Option Addr} {sl19 : Array (Option Value)} {oc19 kV19 dc19 pm19 cd19 ct19 : Value} (a19 : PySem.W.nsIn K mainGlobals "_law_way_text" = some (some (.ref f19)))
    (l19 : K.lookup f19 = some ⟨oc19, od19, .func (PySem.W.fnOf "_law_way_text" "_law_way_text" (defArgs s_l_way_text) (defBody s_l_way_text) (defScope s_l_way_text) .none kV19 dc19 pm19 an19 cd19 ct19), sl19⟩) (c19 : PySem.W.codeIn K cd19 "_law_way_text" = true) (k19 : PySem.W.keepIn K (.ref f19) = true)
    {f20 : Addr} {od20 an20 : Option Addr} {sl20 : Array (Option Value)} {oc20 kV20 dc20 pm20 cd20 ct20 : Value} (a20 : PySem.W.nsIn K mainGlobals "law" = some (some (.ref f20)))
    (l20 : K.lookup f20 = some ⟨oc20, od20, .func (PySem.W.fnOf "law" "law" (defArgs s_l_law) (defBody s_l_law) (defScope s_l_law) .none kV20 dc20 pm20 an20 cd20 ct20), sl20⟩) (c20 : PySem.W.codeIn K cd20 "law" = true) (k20 : PySem.W.keepIn K (.ref f20) = true)
    (z_int : PySem.W.nsIn K mainGlobals "int" = some none)
    (z_isinstance : PySem.W.nsIn K mainGlobals "isinstance" = some none)
    (z_len : PySem.W.nsIn K mainGlobals "len" = some none)
    (z_list : PySem.W.nsIn K mainGlobals "list" = some none)
    (z_max : PySem.W.nsIn K mainGlobals "max" = some none)
    (z_range : PySem.W.nsIn K mainGlobals "range" = some none)
    (z_str : PySem.W.nsIn K mainGlobals "str" = some none)
    (z_tuple : PySem.W.nsIn K mainGlobals "tuple" = some none)
    (nb_ : PySem.W.nsIn K cStatics sharingNotToldKey = some none)
    {ka_GOES : Addr} {kd_GOES : Option Addr} {ks_GOES : Array (Option Value)} {ki_GOES : Array Value} {kn_GOES : Nat} (v_GOES : PySem.W.nsIn K mainGlobals "GOES" = some (some (.ref ka_GOES))) (w_GOES : K.lookup ka_GOES = some ⟨.type "tuple", kd_GOES, .seq ki_GOES kn_GOES, ks_GOES⟩) (u_GOES : Cst ki_GOES.toList k_GOES)
    {kt_LETTERS : Tok} (v_LETTERS : PySem.W.nsIn K mainGlobals "LETTERS" = some (some (.str "abcdefghijklmnopqrstuvwxyz" kt_LETTERS)))
    {kt_LONGEST : Tok} (v_LONGEST : PySem.W.nsIn K mainGlobals "LONGEST" = some (some (.int 8 kt_LONGEST)))
    {ka_TAKEN : Addr} {kd_TAKEN : Option Addr} {ks_TAKEN : Array (Option Value)} {ki_TAKEN : Array Value} {kn_TAKEN : Nat} (v_TAKEN : PySem.W.nsIn K mainGlobals "TAKEN" = some (some (.ref ka_TAKEN))) (w_TAKEN : K.lookup ka_TAKEN = some ⟨.type "tuple", kd_TAKEN, .seq ki_TAKEN kn_TAKEN, ks_TAKEN⟩) (u_TAKEN : Cst ki_TAKEN.toList k_TAKEN)
    : ∃ fd : FuncData, (∀ (s : Shared) (v : Value), BindsTo s fd ⟨[v], []⟩ [("_law_script", v)]) ∧ ∀ base : Heap, K.In base → base.Ns mainGlobals mg → FnOk l.prog w K mg base CX0 70 fl fd ["_law_script"] (spD K mg (F 60 .l_law) 1) := by
  have e := hfa.symm.trans (PySem.W.mg_of X G a20)
  cases e
  have F1 := fun_mk (st := s_is_name) l1 c1 k1
  have b1 := F1.binds (ps := p_is_name) fun _ _ _ _ _ _ us hl => match us, hl with | [_], _ => rfl
  have F2 := fun_mk (st := s_need) l2 c2 k2
  have b2 := F2.binds (ps := p_need) fun _ _ _ _ _ _ us hl => match us, hl with | [_], _ => rfl
  have F3 := fun_mk (st := s_need_name) l3 c3 k3
  have b3 := F3.binds (ps := p_need_name) fun _ _ _ _ _ _ us hl => match us, hl with | [_], _ => rfl
  have F4 := fun_mk (st := s_words_of) l4 c4 k4
  have b4 := F4.binds (ps := p_words_of) fun _ _ _ _ _ _ us hl => match us, hl with | [_], _ => rfl
  have F5 := fun_mk (st := s_nest_of) l5 c5 k5
  have b5 := F5.binds (ps := p_nest_of) fun _ _ _ _ _ _ us hl => match us, hl with | [_], _ => rfl
  have F6 := fun_mk (st := s_two_looks) l6 c6 k6
  have b6 := F6.binds (ps := p_two_looks) fun _ _ _ _ _ _ us hl => match us, hl with | [_], _ => rfl
  have F7 := fun_mk (st := s_look_of) l7 c7 k7
  have b7 := F7.binds (ps := p_look_of) fun _ _ _ _ _ _ us hl => match us, hl with | [_], _ => rfl
  have F8 := fun_mk (st := s_step_of) l8 c8 k8
  have b8 := F8.binds (ps := p_step_of) fun _ _ _ _ _ _ us hl => match us, hl with | [_], _ => rfl
  have F9 := fun_mk (st := s_way_of) l9 c9 k9
  have b9 := F9.binds (ps := p_way_of) fun _ _ _ _ _ _ us hl => match us, hl with | [_], _ => rfl
  have F10 := fun_mk (st := s_read_way) l10 c10 k10
  have b10 := F10.binds (ps := p_read_way) fun _ _ _ _ _ _ us hl => match us, hl with | [_], _ => rfl
  have F11 := fun_mk (st := s_bracketed) l11 c11 k11
  have b11 := F11.binds (ps := p_bracketed) fun _ _ _ _ _ _ us hl => match us, hl with | [_], _ => rfl
  have F12 := fun_mk (st := s_show_look) l12 c12 k12
  have b12 := F12.binds (ps := p_show_look) fun _ _ _ _ _ _ us hl => match us, hl with | [_], _ => rfl
  have F13 := fun_mk (st := s_show_way) l13 c13 k13
  have b13 := F13.binds (ps := p_show_way) fun _ _ _ _ _ _ us hl => match us, hl with | [_], _ => rfl
  have F14 := fun_mk (st := s_l_draws) l14 c14 k14
  have b14 := F14.binds (ps := p_l_draws) fun _ _ _ _ _ _ us hl => match us, hl with | [_, _], _ => rfl
  have F15 := fun_mk (st := s_l_name) l15 c15 k15
  have b15 := F15.binds (ps := p_l_name) fun _ _ _ _ _ _ us hl => match us, hl with | [_], _ => rfl
  have F16 := fun_mk (st := s_l_look) l16 c16 k16
  have b16 := F16.binds (ps := p_l_look) fun _ _ _ _ _ _ us hl => match us, hl with | [_, _, _], _ => rfl
  have F17 := fun_mk (st := s_l_way) l17 c17 k17
  have b17 := F17.binds (ps := p_l_way) fun _ _ _ _ _ _ us hl => match us, hl with | [_, _, _, _], _ => rfl
  have F18 := fun_mk (st := s_l_look_text) l18 c18 k18
  have b18 := F18.binds (ps := p_l_look_text) fun _ _ _ _ _ _ us hl => match us, hl with | [_], _ => rfl
  have F19 := fun_mk (st := s_l_way_text) l19 c19 k19
  have b19 := F19.binds (ps := p_l_way_text) fun _ _ _ _ _ _ us hl => match us, hl with | [_], _ => rfl
  have F20 := fun_mk (st := s_l_law) l20 c20 k20
  have b20 := F20.binds (ps := p_l_law) fun _ _ _ _ _ _ us hl => match us, hl with | [_], _ => rfl
  have T : Tx K mg (fun | .is_name => f1 | .need => f2 | .need_name => f3 | .words_of => f4 | .nest_of => f5 | .two_looks => f6 | .look_of => f7 | .step_of => f8 | .way_of => f9 | .read_way => f10 | .bracketed => f11 | .show_look => f12 | .show_way => f13 | .l_draws => f14 | .l_name => f15 | .l_look => f16 | .l_way => f17 | .l_look_text => f18 | .l_way_text => f19 | .l_law => fl) (fun | .is_name => PySem.W.fnOf "is_name" "is_name" (defArgs s_is_name) (defBody s_is_name) (defScope s_is_name) .none kV1 dc1 pm1 an1 cd1 ct1 | .need => PySem.W.fnOf "need" "need" (defArgs s_need) (defBody s_need) (defScope s_need) .none kV2 dc2 pm2 an2 cd2 ct2 | .need_name => PySem.W.fnOf "need_name" "need_name" (defArgs s_need_name) (defBody s_need_name) (defScope s_need_name) .none kV3 dc3 pm3 an3 cd3 ct3 | .words_of => PySem.W.fnOf "words_of" "words_of" (defArgs s_words_of) (defBody s_words_of) (defScope s_words_of) .none kV4 dc4 pm4 an4 cd4 ct4 | .nest_of => PySem.W.fnOf "nest_of" "nest_of" (defArgs s_nest_of) (defBody s_nest_of) (defScope s_nest_of) .none kV5 dc5 pm5 an5 cd5 ct5 | .two_looks => PySem.W.fnOf "two_looks" "two_looks" (defArgs s_two_looks) (defBody s_two_looks) (defScope s_two_looks) .none kV6 dc6 pm6 an6 cd6 ct6 | .look_of => PySem.W.fnOf "look_of" "look_of" (defArgs s_look_of) (defBody s_look_of) (defScope s_look_of) .none kV7 dc7 pm7 an7 cd7 ct7 | .step_of => PySem.W.fnOf "step_of" "step_of" (defArgs s_step_of) (defBody s_step_of) (defScope s_step_of) .none kV8 dc8 pm8 an8 cd8 ct8 | .way_of => PySem.W.fnOf "way_of" "way_of" (defArgs s_way_of) (defBody s_way_of) (defScope s_way_of) .none kV9 dc9 pm9 an9 cd9 ct9 | .read_way => PySem.W.fnOf "read_way" "read_way" (defArgs s_read_way) (defBody s_read_way) (defScope s_read_way) .none kV10 dc10 pm10 an10 cd10 ct10 | .bracketed => PySem.W.fnOf "bracketed" "bracketed" (defArgs s_bracketed) (defBody s_bracketed) (defScope s_bracketed) .none kV11 dc11 pm11 an11 cd11 ct11 | .show_look => PySem.W.fnOf "show_look" "show_look" (defArgs s_show_look) (defBody s_show_look) (defScope s_show_look) .none kV12 dc12 pm12 an12 cd12 ct12 | .show_way => PySem.W.fnOf "show_way" "show_way" (defArgs s_show_way) (defBody s_show_way) (defScope s_show_way) .none kV13 dc13 pm13 an13 cd13 ct13 | .l_draws => PySem.W.fnOf "_law_draws" "_law_draws" (defArgs s_l_draws) (defBody s_l_draws) (defScope s_l_draws) .none kV14 dc14 pm14 an14 cd14 ct14 | .l_name => PySem.W.fnOf "_law_name" "_law_name" (defArgs s_l_name) (defBody s_l_name) (defScope s_l_name) .none kV15 dc15 pm15 an15 cd15 ct15 | .l_look => PySem.W.fnOf "_law_look" "_law_look" (defArgs s_l_look) (defBody s_l_look) (defScope s_l_look) .none kV16 dc16 pm16 an16 cd16 ct16 | .l_way => PySem.W.fnOf "_law_way" "_law_way" (defArgs s_l_way) (defBody s_l_way) (defScope s_l_way) .none kV17 dc17 pm17 an17 cd17 ct17 | .l_look_text => PySem.W.fnOf "_law_look_text" "_law_look_text" (defArgs s_l_look_text) (defBody s_l_look_text) (defScope s_l_look_text) .none kV18 dc18 pm18 an18 cd18 ct18 | .l_way_text => PySem.W.fnOf "_law_way_text" "_law_way_text" (defArgs s_l_way_text) (defBody s_l_way_text) (defScope s_l_way_text) .none kV19 dc19 pm19 an19 cd19 ct19 | .l_law => PySem.W.fnOf "law" "law" (defArgs s_l_law) (defBody s_l_law) (defScope s_l_law) .none kV20 dc20 pm20 an20 cd20 ct20) ka_GOES kt_LETTERS kt_LONGEST ka_TAKEN :=
    ⟨F1, PySem.W.mg_of X G a1, b1, F2, PySem.W.mg_of X G a2, b2, F3, PySem.W.mg_of X G a3, b3, F4, PySem.W.mg_of X G a4, b4, F5, PySem.W.mg_of X G a5, b5, F6, PySem.W.mg_of X G a6, b6, F7, PySem.W.mg_of X G a7, b7, F8, PySem.W.mg_of X G a8, b8, F9, PySem.W.mg_of X G a9, b9, F10, PySem.W.mg_of X G a10, b10, F11, PySem.W.mg_of X G a11, b11, F12, PySem.W.mg_of X G a12, b12, F13, PySem.W.mg_of X G a13, b13, F14, PySem.W.mg_of X G a14, b14, F15, PySem.W.mg_of X G a15, b15, F16, PySem.W.mg_of X G a16, b16, F17, PySem.W.mg_of X G a17, b17, F18, PySem.W.mg_of X G a18, b18, F19, PySem.W.mg_of X G a19, b19, F20, PySem.W.mg_of X G a20, b20, PySem.W.mg_none_of X G z_int, PySem.W.mg_none_of X G z_isinstance, PySem.W.mg_none_of X G z_len, PySem.W.mg_none_of X G z_list, PySem.W.mg_none_of X G z_max, PySem.W.mg_none_of X G z_range, PySem.W.mg_none_of X G z_str, PySem.W.mg_none_of X G z_tuple, nb_, ⟨PySem.W.mg_of X G v_GOES, rfl, fun μ H => cst_rep w_GOES u_GOES⟩, ⟨PySem.W.mg_of X G v_LETTERS, rel_str, fun _ _ => .str _⟩, ⟨PySem.W.mg_of X G v_LONGEST, rel_int, fun _ _ => .int _⟩, ⟨PySem.W.mg_of X G v_TAKEN, rfl, fun μ H => cst_rep w_TAKEN u_TAKEN⟩⟩
  exact ⟨_, fun s v => .of_eq rfl, fun base _ _ => ok_all T 60 .l_law⟩
end
theorem walk {l : PySem.W.OpenLaw} {q : Program} {loose : List Str} {XP : (Str → Option Value) → Heap → Prop} {YP : World → Heap → Prop} {d : DefRec} {K : Params → PySem.W.Frag} (hn : l.most = some 63) (hdf : d.params.defaults = [])
    (hY : ∀ (w : World) (h : Heap), YP w h → (K w.params).In h)
    (FF : ∀ (w : World) (mg : Str → Option Value) (fa : Addr) (h : Heap), (K w.params).In h → h.Ns mainGlobals mg → mg d.name = some (.ref fa) →
      ∃ fd : FuncData, (∀ (s : Shared) (u : Value), BindsTo s fd ⟨[u], []⟩ [("_law_script", u)]) ∧ ∀ base : Heap, (K w.params).In base → base.Ns mainGlobals mg → FnOk l.prog w (K w.params) mg base CX0 70 fa fd ["_law_script"] (spD (K w.params) mg (F 60 .l_law) 1)) :
    PySem.W.WalkO q loose XP YP l.row.toRowW d [] (fun f vs => PySem.call f vs) :=
  walk_law (k := 70) (x := "_law_script") hn hdf ⟨rfl, by decide, by decide⟩ hY law_true FF
end Wk
open PySem PySem.W PyProof.Rows in
set_option maxRecDepth 100000 in
set_option maxHeartbeats 0 in
theorem PySem.Challenge.cw_pathshape_k14_ways_written_holds : PySem.Challenge.rw_pathshape_k14_ways_written.Holds := by
  w_on; o_law; k_head; (case hw => w_witness2)
  k_fill
  refine Wk.walk (l := PySem.Challenge.rw_pathshape_k14_ways_written) rfl rfl (fun w h Y => PySem.W.kIn_of Y) ?FF
  case FF =>
    intro w mg fa h KX G hmg
    refine' Wk.all_mk KX G hmg ?a1 ?l1 ?c1 ?k1 ?a2 ?l2 ?c2 ?k2 ?a3 ?l3 ?c3 ?k3 ?a4 ?l4 ?c4 ?k4 ?a5 ?l5 ?c5 ?k5 ?a6 ?l6 ?c6 ?k6 ?a7 ?l7 ?c7 ?k7 ?a8 ?l8 ?c8 ?k8 ?a9 ?l9 ?c9 ?k9 ?a10 ?l10 ?c10 ?k10 ?a11 ?l11 ?c11 ?k11 ?a12 ?l12 ?c12 ?k12 ?a13 ?l13 ?c13 ?k13 ?a14 ?l14 ?c14 ?k14 ?a15 ?l15 ?c15 ?k15 ?a16 ?l16 ?c16 ?k16 ?a17 ?l17 ?c17 ?k17 ?a18 ?l18 ?c18 ?k18 ?a19 ?l19 ?c19 ?k19 ?a20 ?l20 ?c20 ?k20 ?z_int ?z_isinstance ?z_len ?z_list ?z_max ?z_range ?z_str ?z_tuple ?nb_ ?v_GOES ?w_GOES ?u_GOES ?v_LETTERS ?v_LONGEST ?v_TAKEN ?w_TAKEN ?u_TAKEN
    (case a1 => k_is)
    (case l1 => k_is)
    (case c1 => k_is)
    (case k1 => k_is)
    (case a2 => k_is)
    (case l2 => k_is)
    (case c2 => k_is)
    (case k2 => k_is)
    (case a3 => k_is)
    (case l3 => k_is)
    (case c3 => k_is)
    (case k3 => k_is)
    (case a4 => k_is)
    (case l4 => k_is)
    (case c4 => k_is)
    (case k4 => k_is)
    (case a5 => k_is)
    (case l5 => k_is)
    (case c5 => k_is)
    (case k5 => k_is)
    (case a6 => k_is)
    (case l6 => k_is)
    (case c6 => k_is)
    (case k6 => k_is)
    (case a7 => k_is)
    (case l7 => k_is)
    (case c7 => k_is)
    (case k7 => k_is)
    (case a8 => k_is)
    (case l8 => k_is)
    (case c8 => k_is)
    (case k8 => k_is)
    (case a9 => k_is)
    (case l9 => k_is)
    (case c9 => k_is)
    (case k9 => k_is)
    (case a10 => k_is)
    (case l10 => k_is)
    (case c10 => k_is)
    (case k10 => k_is)
    (case a11 => k_is)
    (case l11 => k_is)
    (case c11 => k_is)
    (case k11 => k_is)
    (case a12 => k_is)
    (case l12 => k_is)
    (case c12 => k_is)
    (case k12 => k_is)
    (case a13 => k_is)
    (case l13 => k_is)
    (case c13 => k_is)
    (case k13 => k_is)
    (case a14 => k_is)
    (case l14 => k_is)
    (case c14 => k_is)
    (case k14 => k_is)
    (case a15 => k_is)
    (case l15 => k_is)
    (case c15 => k_is)
    (case k15 => k_is)
    (case a16 => k_is)
    (case l16 => k_is)
    (case c16 => k_is)
    (case k16 => k_is)
    (case a17 => k_is)
    (case l17 => k_is)
    (case c17 => k_is)
    (case k17 => k_is)
    (case a18 => k_is)
    (case l18 => k_is)
    (case c18 => k_is)
    (case k18 => k_is)
    (case a19 => k_is)
    (case l19 => k_is)
    (case c19 => k_is)
    (case k19 => k_is)
    (case a20 => k_is)
    (case l20 => k_is)
    (case c20 => k_is)
    (case k20 => k_is)
    (case z_int => k_is)
    (case z_isinstance => k_is)
    (case z_len => k_is)
    (case z_list => k_is)
    (case z_max => k_is)
    (case z_range => k_is)
    (case z_str => k_is)
    (case z_tuple => k_is)
    (case nb_ => k_is)
    (case v_GOES => k_is)
    (case w_GOES => k_is)
    (case u_GOES => exact ⟨_, rfl, rfl, rfl⟩)
    (case v_LETTERS => k_is)
    (case v_LONGEST => k_is)
    (case v_TAKEN => k_is)
    (case w_TAKEN => k_is)
    (case u_TAKEN => exact ⟨_, rfl, rfl, rfl⟩)
#print axioms PySem.Challenge.cw_pathshape_k14_ways_written_holds
