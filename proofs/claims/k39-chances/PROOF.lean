import PyProof.Rows.All
import Wide.All
import OpenK.AllK
import Wide.FinOn
import HandS.ForMost
import HandS.ForExc
import HandS.Wide
import HandS.Sort
import HandS.SortKw
import HandS.Flow
import HandS.Walk
import HandS.Zip
import HandS.Rev
import HandS.Small
import HandS.WordsExc
import HandS.More
import HandS.Style
import HandS.IsInst
import HandS.TupMul
import HandS.Deep
import HandS.SetFor
import PyProof.Draws
import HandS.Conv
import HandS.StrMore
import PySem.Challenge.RW_leaguestold_k39_chances_of_series
set_option Elab.async false
set_option linter.all false
set_option maxRecDepth 100000
set_option maxHeartbeats 2000000
/-! The value layer: trees of values, states, readings. -/
namespace VL
open PySem L2

/-- a value as a tree; the flag of a list, a dict: owned by just one name -/
inductive T where
  | non | bl (b : Bool) | int (i : Int) | str (x : Str)
  | tup (xs : List T)
  | lst (o : Bool) (xs : List T)
  | dic (o : Bool) (ks : List Key) (xs : List T)
  | dit (o : Bool) (ks : List (List Key)) (xs : List T)
  | scr (ns : List Int)

def T.own : T → Bool
  | .lst o _ => o
  | .dic o _ _ => o
  | .dit o _ _ => o
  | _ => false
def T.frz : T → T
  | .lst _ xs => .lst false xs
  | .dic _ ks xs => .dic false ks xs
  | .dit _ ks xs => .dit false ks xs
  | t => t
theorem T.frz_own (t : T) : t.frz.own = false := by cases t <;> rfl
theorem T.frz_of {t : T} (h : t.own = false) : t.frz = t := by cases t <;> first | rfl | (simp [T.own] at h; subst h; rfl)

abbrev Fr := PySem.W.Frag
theorem sqL_mono {K : Fr} {F F' : Hp} {a : Addr} {xs : List V} (s : Same F F') (h : SqL K F a xs) : SqL K F' a xs := s.seq h
theorem sqT_mono {K : Fr} {F F' : Hp} {a : Addr} {xs : List V} (e : Same F F') (h : SqT K F a xs) : SqT K F' a xs := by
  rcases h with (h | ⟨o, h⟩) | h
  · exact .inl (.inl (e _ _ h))
  · exact .inl (.inr ⟨o, e _ _ h⟩)
  · exact .inr h

/-! ### a frozen tree stands at a value -/
mutual
def RepF (K : Fr) (F : Hp) : V → T → Prop
  | v, .non => v = .non
  | v, .bl b => v = .bl b
  | v, .int i => v = .int i
  | v, .str x => v = .str x
  | v, .tup ts => ∃ p vs, v = .ref p ∧ F p = some (.tup vs) ∧ RepFs K F vs ts
  | v, .lst o ts => o = false ∧ ∃ p vs, v = .ref p ∧ F p = some (.lst vs) ∧ RepFs K F vs ts
  | v, .dic o ks ts => o = false ∧ ∃ p kvs, v = .ref p ∧ F p = some (.dK kvs) ∧ kvs.map (·.1) = ks ∧ RepFs K F (kvs.map (·.2)) ts
  | v, .dit o ks ts => o = false ∧ ∃ p kvs, v = .ref p ∧ F p = some (.dT kvs) ∧ kvs.map (·.1) = ks ∧ RepFs K F (kvs.map (·.2)) ts
  | v, .scr ns => ∃ p, v = .ref p ∧ SqL K F p (ns.map V.int)
def RepFs (K : Fr) (F : Hp) : List V → List T → Prop
  | vs, [] => vs = []
  | vs, t :: ts => ∃ v r, vs = v :: r ∧ RepF K F v t ∧ RepFs K F r ts
end
mutual
theorem RepF.mono {K : Fr} {F F' : Hp} (s : Same F F') : ∀ (v : V) (t : T), RepF K F v t → RepF K F' v t
  | v, .non, h => by unfold RepF at *; exact h
  | v, .bl b, h => by unfold RepF at *; exact h
  | v, .int i, h => by unfold RepF at *; exact h
  | v, .str x, h => by unfold RepF at *; exact h
  | v, .tup ts, h => by
    unfold RepF at *
    obtain ⟨p, vs, e, q, r⟩ := h
    exact ⟨p, vs, e, s _ _ q, RepFs.mono s vs ts r⟩
  | v, .lst o ts, h => by
    unfold RepF at *
    obtain ⟨z, p, vs, e, q, r⟩ := h
    exact ⟨z, p, vs, e, s _ _ q, RepFs.mono s vs ts r⟩
  | v, .dic o ks ts, h => by
    unfold RepF at *
    obtain ⟨z, p, vs, e, q, k, r⟩ := h
    exact ⟨z, p, vs, e, s _ _ q, k, RepFs.mono s _ ts r⟩
  | v, .dit o ks ts, h => by
    unfold RepF at *
    obtain ⟨z, p, vs, e, q, k, r⟩ := h
    exact ⟨z, p, vs, e, s _ _ q, k, RepFs.mono s _ ts r⟩
  | v, .scr ns, h => by
    unfold RepF at *
    obtain ⟨p, e, q⟩ := h
    exact ⟨p, e, sqL_mono s q⟩
theorem RepFs.mono {K : Fr} {F F' : Hp} (s : Same F F') : ∀ (vs : List V) (ts : List T), RepFs K F vs ts → RepFs K F' vs ts
  | vs, [], h => by unfold RepFs at *; exact h
  | vs, t :: ts, h => by
    unfold RepFs at *
    obtain ⟨v, r, e, h1, h2⟩ := h
    exact ⟨v, r, e, RepF.mono s v t h1, RepFs.mono s r ts h2⟩
end
theorem RepFs.nil {K : Fr} {F : Hp} : RepFs K F [] [] := by unfold RepFs; rfl
theorem RepFs.cons {K : Fr} {F : Hp} {v t vs ts} (h : RepF K F v t) (r : RepFs K F vs ts) : RepFs K F (v :: vs) (t :: ts) := by
  unfold RepFs; exact ⟨v, vs, rfl, h, r⟩
theorem RepFs.out {K : Fr} {F : Hp} {v t vs ts} (h : RepFs K F (v :: vs) (t :: ts)) : RepF K F v t ∧ RepFs K F vs ts := by
  unfold RepFs at h
  obtain ⟨v', r, e, h1, h2⟩ := h
  cases e; exact ⟨h1, h2⟩
theorem RepFs.len {K : Fr} {F : Hp} : ∀ {vs : List V} {ts : List T}, RepFs K F vs ts → vs.length = ts.length
  | vs, [], h => by unfold RepFs at h; subst h; rfl
  | vs, t :: ts, h => by
    unfold RepFs at h
    obtain ⟨v, r, e, _, h2⟩ := h
    subst e
    simp [RepFs.len h2]
theorem RepFs.iff {K : Fr} {F : Hp} {vs : List V} {ts : List T} : RepFs K F vs ts ↔ vs.length = ts.length ∧ ∀ (i : Nat) (v : V) (t : T), vs[i]? = some v → ts[i]? = some t → RepF K F v t := by
  induction ts generalizing vs with
  | nil =>
    unfold RepFs
    constructor
    · rintro rfl; simp
    · rintro ⟨h, _⟩; exact List.length_eq_zero_iff.mp h
  | cons t ts ih =>
    constructor
    · intro h
      cases vs with
      | nil => unfold RepFs at h; obtain ⟨_, _, e, _⟩ := h; cases e
      | cons v vs =>
        obtain ⟨h1, h2⟩ := h.out
        obtain ⟨l, g⟩ := ih.mp h2
        refine ⟨by simp [l], fun i w u e1 e2 => ?_⟩
        cases i with
        | zero => simp at e1 e2; subst e1; subst e2; exact h1
        | succ i => exact g i w u (by simpa using e1) (by simpa using e2)
    · rintro ⟨l, g⟩
      cases vs with
      | nil => simp at l
      | cons v vs =>
        exact .cons (g 0 v t rfl rfl) (ih.mpr ⟨by simpa using l, fun i w u e1 e2 => g (i + 1) w u (by simpa using e1) (by simpa using e2)⟩)
theorem RepFs.get {K : Fr} {F : Hp} {vs : List V} {ts : List T} {i : Nat} {t : T} (h : RepFs K F vs ts) (e : ts[i]? = some t) : ∃ v, vs[i]? = some v ∧ RepF K F v t := by
  obtain ⟨l, g⟩ := RepFs.iff.mp h
  obtain ⟨hi, _⟩ := List.getElem?_eq_some_iff.mp e
  exact ⟨vs[i]'(by omega), List.getElem?_eq_getElem (by omega), g i _ t (List.getElem?_eq_getElem (by omega)) e⟩
theorem RepFs.get' {K : Fr} {F : Hp} {vs : List V} {ts : List T} {i : Nat} {v : V} (h : RepFs K F vs ts) (e : vs[i]? = some v) : ∃ t, ts[i]? = some t ∧ RepF K F v t := by
  obtain ⟨l, g⟩ := RepFs.iff.mp h
  obtain ⟨hi, _⟩ := List.getElem?_eq_some_iff.mp e
  exact ⟨ts[i]'(by omega), List.getElem?_eq_getElem (by omega), g i v _ e (List.getElem?_eq_getElem (by omega))⟩
theorem RepFs.append {K : Fr} {F : Hp} {vs ws : List V} {ts us : List T} (h : RepFs K F vs ts) (g : RepFs K F ws us) : RepFs K F (vs ++ ws) (ts ++ us) := by
  induction ts generalizing vs with
  | nil => unfold RepFs at h; subst h; exact g
  | cons t ts ih =>
    unfold RepFs at h
    obtain ⟨v, r, e, h1, h2⟩ := h
    subst e
    exact .cons h1 (ih h2)
theorem RepFs.set {K : Fr} {F : Hp} {vs : List V} {ts : List T} {v : V} {t : T} (i : Nat) (h : RepFs K F vs ts) (g : RepF K F v t) : RepFs K F (vs.set i v) (ts.set i t) := by
  obtain ⟨l, q⟩ := RepFs.iff.mp h
  refine RepFs.iff.mpr ⟨by simp [l], fun j w u e1 e2 => ?_⟩
  by_cases hj : i = j
  · subst hj
    rw [List.getElem?_set] at e1 e2
    simp only [if_true] at e1 e2
    split at e1 <;> simp_all
  · rw [List.getElem?_set_ne hj] at e1 e2
    exact q j w u e1 e2
theorem RepFs.take {K : Fr} {F : Hp} {vs : List V} {ts : List T} (n : Nat) (h : RepFs K F vs ts) : RepFs K F (vs.take n) (ts.take n) := by
  obtain ⟨l, q⟩ := RepFs.iff.mp h
  refine RepFs.iff.mpr ⟨by simp [l], fun j w u e1 e2 => ?_⟩
  rw [List.getElem?_take] at e1 e2
  split at e1
  · rw [if_pos (by assumption)] at e2; exact q j w u e1 e2
  · cases e1
theorem RepFs.drop {K : Fr} {F : Hp} {vs : List V} {ts : List T} (n : Nat) (h : RepFs K F vs ts) : RepFs K F (vs.drop n) (ts.drop n) := by
  obtain ⟨l, q⟩ := RepFs.iff.mp h
  refine RepFs.iff.mpr ⟨by simp [l], fun j w u e1 e2 => ?_⟩
  rw [List.getElem?_drop] at e1 e2
  exact q _ w u e1 e2
theorem RepF.notown {K : Fr} {F : Hp} {v : V} {t : T} (h : RepF K F v t) : t.own = false := by
  cases t <;> first | rfl | (unfold RepF at h; exact h.1)

/-- a tree stands at a value; an owned one outside the frozen part -/
def Rep (K : Fr) (F H : Hp) (v : V) : T → Prop
  | .lst true ts => ∃ p vs, v = .ref p ∧ F p = none ∧ H p = some (.lst vs) ∧ RepFs K F vs ts
  | .dic true ks ts => ∃ p kvs, v = .ref p ∧ F p = none ∧ H p = some (.dK kvs) ∧ kvs.map (·.1) = ks ∧ RepFs K F (kvs.map (·.2)) ts
  | .dit true ks ts => ∃ p kvs, v = .ref p ∧ F p = none ∧ H p = some (.dT kvs) ∧ kvs.map (·.1) = ks ∧ RepFs K F (kvs.map (·.2)) ts
  | t => RepF K F v t
theorem Rep.ofF {K : Fr} {F H : Hp} {v : V} {t : T} (h : RepF K F v t) : Rep K F H v t := by
  have e := h.notown
  unfold Rep
  split <;> first | (simp [T.own] at e; done) | exact h
theorem Rep.toF {K : Fr} {F H : Hp} {v : V} {t : T} (e : t.own = false) (h : Rep K F H v t) : RepF K F v t := by
  unfold Rep at h
  split at h <;> first | (simp [T.own] at e; done) | exact h
/-- the address of an owned tree -/
def OwnV (v : V) (t : T) (a : Addr) : Prop := t.own = true ∧ v = .ref a
theorem Rep.own_at {K : Fr} {F H : Hp} {v : V} {t : T} (h : Rep K F H v t) (e : t.own = true) : ∃ p o, v = .ref p ∧ F p = none ∧ H p = some o := by
  unfold Rep at h
  split at h
  · obtain ⟨p, vs, e1, e2, e3, _⟩ := h; exact ⟨p, _, e1, e2, e3⟩
  · obtain ⟨p, vs, e1, e2, e3, _⟩ := h; exact ⟨p, _, e1, e2, e3⟩
  · obtain ⟨p, vs, e1, e2, e3, _⟩ := h; exact ⟨p, _, e1, e2, e3⟩
  · rw [h.notown] at e; cases e
theorem Rep.ownV {K : Fr} {F H : Hp} {v : V} {t : T} {a : Addr} (h : Rep K F H v t) (e : OwnV v t a) : F a = none ∧ ∃ o, H a = some o := by
  obtain ⟨p, o, e1, e2, e3⟩ := h.own_at e.1
  have := e.2; rw [e1] at this; cases this
  exact ⟨e2, o, e3⟩
theorem Rep.ownV' {K : Fr} {F H : Hp} {v : V} {t : T} {a : Addr} (h : Rep K F H v t) (e : OwnV v t a) (ws : List V) : H a ≠ some (.tup ws) := by
  obtain ⟨e0, e1⟩ := e
  unfold Rep at h
  intro z
  split at h
  · obtain ⟨p, vs, a1, a2, a3, _⟩ := h; rw [a1] at e1; cases e1; rw [a3] at z; cases z
  · obtain ⟨p, vs, a1, a2, a3, _⟩ := h; rw [a1] at e1; cases e1; rw [a3] at z; cases z
  · obtain ⟨p, vs, a1, a2, a3, _⟩ := h; rw [a1] at e1; cases e1; rw [a3] at z; cases z
  · rw [h.notown] at e0; cases e0
theorem Rep.move {K : Fr} {F H F' H' : Hp} {v : V} {t : T} (h : Rep K F H v t) (s : Same F F') (ho : ∀ a, OwnV v t a → F' a = none ∧ H' a = H a) : Rep K F' H' v t := by
  unfold Rep at h ⊢
  split at h
  · obtain ⟨p, vs, e1, e2, e3, e4⟩ := h
    obtain ⟨h1, h2⟩ := ho p ⟨rfl, e1⟩
    exact ⟨p, vs, e1, h1, h2.trans e3, e4.mono s⟩
  · obtain ⟨p, vs, e1, e2, e3, e4, e5⟩ := h
    obtain ⟨h1, h2⟩ := ho p ⟨rfl, e1⟩
    exact ⟨p, vs, e1, h1, h2.trans e3, e4, e5.mono s⟩
  · obtain ⟨p, vs, e1, e2, e3, e4, e5⟩ := h
    obtain ⟨h1, h2⟩ := ho p ⟨rfl, e1⟩
    exact ⟨p, vs, e1, h1, h2.trans e3, e4, e5.mono s⟩
  · exact RepF.mono s _ _ h

/-! ### the names' values -/
abbrev Env := List (Option T)
def Own (σ : St) (env : Env) (a : Addr) : Prop := ∃ (i : Nat) (t : T), env[i]? = some (some t) ∧ t.own = true ∧ σ[i]? = some (some (V.ref a))
structure Sta (K : Fr) (F H : Hp) (σ : St) (env : Env) : Prop where
  len : σ.length = env.length
  sub : Same F H
  rep : ∀ (i : Nat) (t : T), env[i]? = some (some t) → ∃ v, σ[i]? = some (some v) ∧ Rep K F H v t
  sep : ∀ (i j : Nat) (t u : T) (v : V), env[i]? = some (some t) → env[j]? = some (some u) → t.own = true → u.own = true → σ[i]? = some (some v) → σ[j]? = some (some v) → i = j
/-- from F, H, with L owned, to F', H', with M owned -/
structure Ext (F H : Hp) (L : Addr → Prop) (F' H' : Hp) (M : Addr → Prop) : Prop where
  frz : Same F F'
  keep : ∀ a o, H a = some o → ¬ L a → H' a = some o
  own : ∀ a, M a → L a ∨ H a = none
  new : ∀ a o, F' a = some o → F a = some o ∨ L a ∨ H a = none ∨ ∃ vs, H a = some (.tup vs)
  dom : ∀ a, H' a = none → H a = none
theorem Ext.refl {F H : Hp} {L : Addr → Prop} : Ext F H L F H L := ⟨fun _ _ e => e, fun _ _ e _ => e, fun _ e => .inl e, fun _ _ e => .inl e, fun _ e => e⟩
theorem Ext.mono {F H F' H' : Hp} {L M M' : Addr → Prop} (x : Ext F H L F' H' M) (h : ∀ a, M' a → M a) : Ext F H L F' H' M' := ⟨x.frz, x.keep, fun a m => x.own a (h a m), x.new, x.dom⟩
theorem Ext.widen {F H F' H' : Hp} {L L' M : Addr → Prop} (x : Ext F H L F' H' M) (h : ∀ a, L a → L' a) : Ext F H L' F' H' M :=
  ⟨x.frz, fun a o e n => x.keep a o e fun l => n (h a l), fun a m => (x.own a m).imp (h a) id, fun a o e => (x.new a o e).imp id fun z => z.imp (h a) id, x.dom⟩
theorem Ext.trans {F H F1 H1 F2 H2 : Hp} {L M1 L1 M2 M : Addr → Prop} (x : Ext F H L F1 H1 M1) (y : Ext F1 H1 L1 F2 H2 M2) (hs : ∀ a, L1 a → M1 a) (hm : ∀ a, M a → M1 a ∨ M2 a) : Ext F H L F2 H2 M where
  frz := fun a o e => y.frz a o (x.frz a o e)
  keep := fun a o e n => y.keep a o (x.keep a o e n) fun l => by
    rcases x.own a (hs a l) with z | z
    · exact n z
    · rw [e] at z; cases z
  own := fun a m => by
    rcases hm a m with m | m
    · exact x.own a m
    · rcases y.own a m with l | l
      · exact x.own a (hs a l)
      · exact .inr (x.dom a l)
  new := fun a o e => by
    rcases y.new a o e with z | z | z | ⟨vs, z⟩
    · exact x.new a o z
    · rcases x.own a (hs a z) with l | l
      · exact .inr (.inl l)
      · exact .inr (.inr (.inl l))
    · exact .inr (.inr (.inl (x.dom a z)))
    · by_cases l : L a
      · exact .inr (.inl l)
      · cases q : H a with
        | none => exact .inr (.inr (.inl rfl))
        | some w =>
          rw [x.keep a w q l] at z
          exact .inr (.inr (.inr ⟨vs, z⟩))
  dom := fun a e => x.dom a (y.dom a e)
/-- a tree that another part does not own stays -/
theorem Ext.rep {K : Fr} {F H F' H' : Hp} {L M : Addr → Prop} (x : Ext F H L F' H' M) {v : V} {t : T} (h : Rep K F H v t) (n : ∀ a, OwnV v t a → ¬ L a) : Rep K F' H' v t := by
  refine h.move x.frz fun a o => ?_
  obtain ⟨e1, u, e2⟩ := h.ownV o
  refine ⟨?_, by rw [x.keep a u e2 (n a o), e2]⟩
  cases q : F' a with
  | none => rfl
  | some w =>
    rcases x.new a w q with z | z | z | ⟨vs, z⟩
    · rw [e1] at z; cases z
    · exact (n a o z).elim
    · rw [e2] at z; cases z
    · exact (h.ownV' o vs z).elim
theorem Sta.ownAt {K : Fr} {F H : Hp} {σ : St} {env : Env} {a : Addr} (S : Sta K F H σ env) (o : Own σ env a) : F a = none ∧ ∃ u, H a = some u := by
  obtain ⟨i, t, e, w, q⟩ := o
  obtain ⟨v, e2, r⟩ := S.rep i t e
  rw [q] at e2; cases e2
  exact r.ownV ⟨w, rfl⟩

/-! ### results -/
inductive R (α : Type) where
  | ok (a : α) (e : Env)
  | ex (c : Str) (e : Env)
  | no
abbrev M (α : Type) := Env → R α
def R.bind {α β : Type} (r : R α) (f : α → Env → R β) : R β := match r with
  | .ok a e => f a e
  | .ex c e => .ex c e
  | .no => .no

abbrev MG := Str → Option Value
/-- an exception's wish -/
def PostX (K : Fr) (W : WX) (mg : MG) (σ : St) (F H : Hp) (L : Addr → Prop) (c : Str) (env' : Env) : Prop :=
  ∀ F' H' C, Sta K F' H' σ env' → Ext F H L F' H' (Own σ env') → mg c = some (.ref C) → W (.ref C) none σ H'
def PostE (K : Fr) (W : WX) (mg : MG) (σ : St) (F H : Hp) (L : Addr → Prop) (r : R T) (Q : VK) : Prop := match r with
  | .ok t env' => ∀ F' H' v, Sta K F' H' σ env' → Rep K F' H' v t → (∀ a, OwnV v t a → ¬ Own σ env' a) → Ext F H L F' H' (fun a => Own σ env' a ∨ OwnV v t a) → Q v H'
  | .ex c env' => PostX K W mg σ F H L c env'
  | .no => False
def rdE (K : Fr) (W : WX) (mg : MG) (m : M T) : TE := fun σ H Q => ∃ F env, Sta K F H σ env ∧ PostE K W mg σ F H (Own σ env) (m env) Q
def PostT (K : Fr) (W : WX) (mg : MG) (σ : St) (F H : Hp) (L : Addr → Prop) (r : R Bool) (Q : Bool → Hp → Prop) : Prop := match r with
  | .ok b env' => ∀ F' H', Sta K F' H' σ env' → Ext F H L F' H' (Own σ env') → Q b H'
  | .ex c env' => PostX K W mg σ F H L c env'
  | .no => False
def rdT (K : Fr) (W : WX) (mg : MG) (m : M Bool) : TT := fun σ H Q => ∃ F env, Sta K F H σ env ∧ PostT K W mg σ F H (Own σ env) (m env) Q
/-- an operand: a value, or a name whose value is asked when all are there -/
inductive Ar where
  | val (t : T)
  | sl (i : Nat)
inductive Opd where
  | val (m : M T)
  | sl (i : Nat)
def ArOk (K : Fr) (F H : Hp) (σ : St) : List V → List Ar → Prop
  | vs, [] => vs = []
  | vs, .val t :: r => ∃ v ws, vs = v :: ws ∧ Rep K F H v t ∧ ArOk K F H σ ws r
  | vs, .sl i :: r => ∃ v ws, vs = v :: ws ∧ σ[i]? = some (some v) ∧ ArOk K F H σ ws r
/-- the owned values among the operands -/
def ArOwn : List V → List Ar → Addr → Prop
  | v :: vs, .val t :: r, a => OwnV v t a ∨ ArOwn vs r a
  | _ :: vs, .sl _ :: r, a => ArOwn vs r a
  | _, _, _ => False
def ArSep : List V → List Ar → Prop
  | v :: vs, .val t :: r => (∀ a, OwnV v t a → ¬ ArOwn vs r a) ∧ ArSep vs r
  | _ :: vs, .sl _ :: r => ArSep vs r
  | _, _ => True
def evOps : List Opd → M (List Ar)
  | [], env => .ok [] env
  | .val m :: r, env => (m env).bind fun t e => (evOps r e).bind fun ts e' => .ok (.val t :: ts) e'
  | .sl i :: r, env => match env[i]? with
    | some (some _) => (evOps r env).bind fun ts e' => .ok (.sl i :: ts) e'
    | _ => .no
def PostA (K : Fr) (W : WX) (mg : MG) (σ : St) (F H : Hp) (L : Addr → Prop) (r : R (List Ar)) (Q : List V → Hp → Prop) : Prop := match r with
  | .ok its env' => ∀ F' H' vs, Sta K F' H' σ env' → ArOk K F' H' σ vs its → ArSep vs its → (∀ a, ArOwn vs its a → ¬ Own σ env' a) → Ext F H L F' H' (fun a => Own σ env' a ∨ ArOwn vs its a) → Q vs H'
  | .ex c env' => PostX K W mg σ F H L c env'
  | .no => False
def rdA (K : Fr) (W : WX) (mg : MG) (ms : List Opd) : TA := fun σ H Q => ∃ F env, Sta K F H σ env ∧ PostA K W mg σ F H (Own σ env) (evOps ms env) Q

/-- statements: what stands behind -/
inductive SR where
  | nx (e : Env) | rt (t : T) (e : Env) | bk (e : Env) | ct (e : Env) | ex (c : Str) (e : Env) | no
abbrev MS := Env → SR
def SameOut (A : List Nat) (σ σ' : St) : Prop := σ'.length = σ.length ∧ ∀ i, i ∉ A → σ'[i]? = σ[i]?
theorem SameOut.refl {A : List Nat} {σ : St} : SameOut A σ σ := ⟨rfl, fun _ _ => rfl⟩
theorem SameOut.trans {A : List Nat} {σ σ1 σ2 : St} (a : SameOut A σ σ1) (b : SameOut A σ1 σ2) : SameOut A σ σ2 := ⟨b.1.trans a.1, fun i h => (b.2 i h).trans (a.2 i h)⟩
theorem SameOut.set {A : List Nat} {σ : St} {i : Nat} {o : Option V} (h : i ∈ A) : SameOut A σ (σ.set i o) := ⟨by simp, fun j hj => by
  rw [List.getElem?_set_ne]; rintro rfl; exact hj h⟩
def PostS (K : Fr) (W : WX) (mg : MG) (A : List Nat) (σ : St) (F H : Hp) (L : Addr → Prop) (r : SR) (D : Ends) : Prop := match r with
  | .nx env' => ∀ F' H' σ', Sta K F' H' σ' env' → SameOut A σ σ' → Ext F H L F' H' (Own σ' env') → D.nx σ' H'
  | .bk env' => ∀ F' H' σ', Sta K F' H' σ' env' → SameOut A σ σ' → Ext F H L F' H' (Own σ' env') → D.bk σ' H'
  | .ct env' => ∀ F' H' σ', Sta K F' H' σ' env' → SameOut A σ σ' → Ext F H L F' H' (Own σ' env') → D.ct σ' H'
  | .rt t env' => ∀ F' H' σ' v, Sta K F' H' σ' env' → SameOut A σ σ' → Rep K F' H' v t → (∀ a, OwnV v t a → ¬ Own σ' env' a) →
      Ext F H L F' H' (fun a => Own σ' env' a ∨ OwnV v t a) → D.rt v H'
  | .ex c env' => ∀ F' H' σ' C, Sta K F' H' σ' env' → SameOut A σ σ' → Ext F H L F' H' (Own σ' env') → mg c = some (.ref C) → W (.ref C) none σ' H'
  | .no => False
def rdS (K : Fr) (W : WX) (mg : MG) (A : List Nat) (m : MS) : TS := fun D σ H => ∃ F env, Sta K F H σ env ∧ PostS K W mg A σ F H (Own σ env) (m env) D

/-! ### judgements -/
def VE (X : Cx) (e : Expr) (m : M T) : Prop := ∀ W, Takes X W → PE X e (rdE X.K W X.mg m)
def VT (X : Cx) (e : Expr) (m : M Bool) : Prop := ∀ W, Takes X W → PT X e (rdT X.K W X.mg m)
def VA (X : Cx) (es : List Expr) (ms : List Opd) : Prop := ∀ W, Takes X W → PA X es (rdA X.K W X.mg ms)
def VS (X : Cx) (A : List Nat) (st : Stmt) (m : MS) : Prop := ∀ W, Takes X W → PS X st (rdS X.K W X.mg A m)
def VSs (X : Cx) (A : List Nat) (st : List Stmt) (m : MS) : Prop := ∀ W, Takes X W → PSs X st (rdS X.K W X.mg A m)

theorem _root_.L2.PE.weak {X : Cx} {e : Expr} {t t' : TE} (h : PE X e t) (w : ∀ σ H Q, t' σ H Q → t σ H Q) : PE X e t' := ⟨fun p s σ H Q I q => h.run p s σ H Q I (w _ _ _ q)⟩
theorem _root_.L2.PT.weak {X : Cx} {e : Expr} {t t' : TT} (h : PT X e t) (w : ∀ σ H Q, t' σ H Q → t σ H Q) : PT X e t' := ⟨fun p s σ H Q I q => h.run p s σ H Q I (w _ _ _ q)⟩
theorem _root_.L2.PA.weak {X : Cx} {e : List Expr} {t t' : TA} (h : PA X e t) (w : ∀ σ H Q, t' σ H Q → t σ H Q) : PA X e t' := ⟨fun o p s σ H Q I q => h.run o p s σ H Q I (w _ _ _ q)⟩
theorem _root_.L2.PS.weak {X : Cx} {e : Stmt} {t t' : TS} (h : PS X e t) (w : ∀ D σ H, t' D σ H → t D σ H) : PS X e t' := ⟨fun p s σ H D I q => h.run p s σ H D I (w _ _ _ q)⟩
theorem _root_.L2.PSs.weak {X : Cx} {e : List Stmt} {t t' : TS} (h : PSs X e t) (w : ∀ D σ H, t' D σ H → t D σ H) : PSs X e t' := ⟨fun p s σ H D I q => h.run p s σ H D I (w _ _ _ q)⟩
end VL

/-! Operands, constants, names, primitive operations. -/
namespace VL
open PySem L2
section
variable {K : Fr} {W : WX} {mg : MG} {F H : Hp} {σ : St} {env : Env}

/-! ### freezing -/
theorem frz_one {v : V} {t : T} (s : Same F H) (h : Rep K F H v t) : ∃ F', Same F F' ∧ Same F' H ∧ RepF K F' v t.frz ∧ ∀ a o, F' a = some o → F a = some o ∨ OwnV v t a := by
  by_cases e : t.own = true
  · obtain ⟨p, o, e1, e2, e3⟩ := h.own_at e
    refine ⟨upd F p o, fun a u q => ?_, fun a u q => ?_, ?_, fun a u q => ?_⟩
    · rw [upd_ne]; exact q
      rintro rfl; rw [e2] at q; cases q
    · by_cases z : a = p
      · subst z; rw [upd_same] at q; cases q; exact e3
      · rw [upd_ne z] at q; exact s a u q
    · have sm : Same F (upd F p o) := fun a u q => by
        rw [upd_ne]; exact q
        rintro rfl; rw [e2] at q; cases q
      unfold Rep at h
      split at h
      · obtain ⟨p', vs, q1, q2, q3, q4⟩ := h
        rw [e1] at q1; cases q1
        rw [e3] at q3; cases q3
        unfold T.frz RepF
        exact ⟨rfl, p, vs, e1, upd_same, q4.mono sm⟩
      · obtain ⟨p', vs, q1, q2, q3, q5, q4⟩ := h
        rw [e1] at q1; cases q1
        rw [e3] at q3; cases q3
        unfold T.frz RepF
        exact ⟨rfl, p, vs, e1, upd_same, q5, q4.mono sm⟩
      · obtain ⟨p', vs, q1, q2, q3, q5, q4⟩ := h
        rw [e1] at q1; cases q1
        rw [e3] at q3; cases q3
        unfold T.frz RepF
        exact ⟨rfl, p, vs, e1, upd_same, q5, q4.mono sm⟩
      · rw [h.notown] at e; cases e
    · by_cases z : a = p
      · subst z; exact .inr ⟨e, e1⟩
      · rw [upd_ne z] at q; exact .inl q
  · have e' : t.own = false := by simpa using e
    rw [T.frz_of e']
    exact ⟨F, fun _ _ q => q, s, h.toF e', fun _ _ q => .inl q⟩
theorem Ext.frzd {F' : Hp} {v : V} {t : T} {L : Addr → Prop} (s : Same F F') (n : ∀ a o, F' a = some o → F a = some o ∨ OwnV v t a) (hl : ∀ a, OwnV v t a → L a) {M : Addr → Prop} (hm : ∀ a, M a → L a) : Ext F H L F' H M :=
  ⟨s, fun _ _ e _ => e, fun a m => .inl (hm a m), fun a o e => (n a o e).imp id fun z => .inl (hl a z), fun _ e => e⟩
/-- the state behind a step that leaves its owned part alone -/
theorem Sta.ext {F' H' : Hp} {L M : Addr → Prop} (S : Sta K F H σ env) (x : Ext F H L F' H' M) (s : Same F' H') (n : ∀ a, Own σ env a → ¬ L a) : Sta K F' H' σ env :=
  ⟨S.len, s, fun i t e => by
    obtain ⟨v, e2, r⟩ := S.rep i t e
    exact ⟨v, e2, x.rep r fun a o l => n a ⟨i, t, e, o.1, by rw [e2, o.2]⟩ l⟩, S.sep⟩
theorem own_set {i : Nat} {o : Option T} {a : Addr} (h : Own σ (env.set i o) a) : Own σ env a ∨ (∃ t, o = some t ∧ t.own = true ∧ σ[i]? = some (some (V.ref a))) := by
  obtain ⟨j, t, e, w, q⟩ := h
  by_cases z : i = j
  · subst z
    rw [List.getElem?_set] at e
    simp only [if_true] at e
    split at e
    · cases e; exact .inr ⟨t, rfl, w, q⟩
    · cases e
  · rw [List.getElem?_set_ne z] at e
    exact .inl ⟨j, t, e, w, q⟩
/-- a name's tree is frozen -/
theorem Sta.freeze {i : Nat} {t : T} {v : V} (S : Sta K F H σ env) (e : env[i]? = some (some t)) (e2 : σ[i]? = some (some v)) :
    ∃ F', Sta K F' H σ (env.set i (some t.frz)) ∧ RepF K F' v t.frz ∧ Ext F H (Own σ env) F' H (Own σ (env.set i (some t.frz))) := by
  obtain ⟨v', e3, r⟩ := S.rep i t e
  rw [e2] at e3; cases e3
  obtain ⟨F', s1, s2, rf, n⟩ := frz_one S.sub r
  have hi : i < env.length := (List.getElem?_eq_some_iff.mp e).1
  have x : Ext F H (OwnV v t) F' H (fun _ => False) := Ext.frzd s1 n (fun _ z => z) (fun _ z => z.elim)
  have sub : ∀ a, Own σ (env.set i (some t.frz)) a → Own σ env a := fun a o => by
    rcases own_set o with z | ⟨u, z, w, _⟩
    · exact z
    · cases z; rw [T.frz_own] at w; cases w
  refine ⟨F', ⟨by rw [List.length_set]; exact S.len, s2, fun j u q => ?_, fun j k u w z q1 q2 o1 o2 z1 z2 => ?_⟩, rf, ?_⟩
  · by_cases z : i = j
    · subst z
      rw [List.getElem?_set_self hi] at q
      cases q
      exact ⟨v, e2, .ofF rf⟩
    · rw [List.getElem?_set_ne z] at q
      obtain ⟨w, q2, rw_⟩ := S.rep j u q
      refine ⟨w, q2, x.rep rw_ fun a o l => z ?_⟩
      have : w = v := o.2.trans l.2.symm
      subst this
      exact S.sep i j t u w e q l.1 o.1 e2 q2
  · have f : ∀ {j : Nat} {u : T}, (env.set i (some t.frz))[j]? = some (some u) → u.own = true → env[j]? = some (some u) := fun {j u} q o => by
      by_cases z : i = j
      · subst z
        rw [List.getElem?_set_self hi] at q
        cases q; rw [T.frz_own] at o; cases o
      · rw [List.getElem?_set_ne z] at q; exact q
    exact S.sep j k u w z (f q1 o1) (f q2 o2) o1 o2 z1 z2
  · exact Ext.frzd s1 n (fun a o => ⟨i, t, e, o.1, by rw [e2, o.2]⟩) sub
end

/-! ### monotonicity -/
section
variable {K : Fr} {W : WX} {mg : MG}
theorem rdE_mono {m : M T} {σ : St} {H : Hp} {Q Q' : VK} (h : rdE K W mg m σ H Q) (q : ∀ v H, Q v H → Q' v H) : rdE K W mg m σ H Q' := by
  obtain ⟨F, env, S, p⟩ := h
  refine ⟨F, env, S, ?_⟩
  unfold PostE at *
  split at p
  · exact fun F' H' v a b c d => q _ _ (p F' H' v a b c d)
  · exact p
  · exact p
theorem rdT_mono {m : M Bool} {σ : St} {H : Hp} {Q Q' : Bool → Hp → Prop} (h : rdT K W mg m σ H Q) (q : ∀ v H, Q v H → Q' v H) : rdT K W mg m σ H Q' := by
  obtain ⟨F, env, S, p⟩ := h
  refine ⟨F, env, S, ?_⟩
  unfold PostT at *
  split at p
  · exact fun F' H' a b => q _ _ (p F' H' a b)
  · exact p
  · exact p
theorem rdA_mono {m : List Opd} {σ : St} {H : Hp} {Q Q' : List V → Hp → Prop} (h : rdA K W mg m σ H Q) (q : ∀ v H, Q v H → Q' v H) : rdA K W mg m σ H Q' := by
  obtain ⟨F, env, S, p⟩ := h
  refine ⟨F, env, S, ?_⟩
  unfold PostA at *
  split at p
  · exact fun F' H' v a b c d f => q _ _ (p F' H' v a b c d f)
  · exact p
  · exact p
def tO (K : Fr) (W : WX) (mg : MG) : Opd → TE
  | .val m => rdE K W mg m
  | .sl i => tVar i
theorem tO_mono {o : Opd} {σ : St} {H : Hp} {Q Q' : VK} (h : tO K W mg o σ H Q) (q : ∀ v H, Q v H → Q' v H) : tO K W mg o σ H Q' := by
  cases o with
  | val m => exact rdE_mono h q
  | sl i => obtain ⟨v, e, h⟩ := h; exact ⟨v, e, q _ _ h⟩
end
def VO (X : Cx) (e : Expr) (o : Opd) : Prop := ∀ W, Takes X W → PE X e (tO X.K W X.mg o)
theorem vo_val {X : Cx} {e : Expr} {m : M T} (h : VE X e m) : VO X e (.val m) := h
theorem vo_sl {X : Cx} {i : Nat} {x : Str} {pos : Pos} (hN : X.N[i]? = some x) (hv : Vis X.env.scope x) (hd : (x == ("__debug__" : Str)) = false) (hcd : (x == ("__classdict__" : Str)) = false) : VO X (.Name x pos) (.sl i) := fun _ _ => pe_var hN hv hd hcd

section
variable {K : Fr} {W : WX} {mg : MG} {F H : Hp} {σ : St} {env : Env}
theorem PostX.trans {F1 H1 : Hp} {L M1 : Addr → Prop} {c : Str} {e1 e2 : Env} {σ : St} (h : PostX K W mg σ F H L c e2) (x : Ext F H L F1 H1 M1) (hs : ∀ a, Own σ e1 a → M1 a) : PostX K W mg σ F1 H1 (Own σ e1) c e2 :=
  fun F' H' C S y g => h F' H' C S (x.trans y hs fun a m => .inr m) g
theorem ArOk.ext {F' H' : Hp} {L M : Addr → Prop} (x : Ext F H L F' H' M) : ∀ {vs : List V} {its : List Ar}, ArOk K F H σ vs its → (∀ a, ArOwn vs its a → ¬ L a) → ArOk K F' H' σ vs its
  | vs, [], h, n => by unfold ArOk at *; exact h
  | vs, .val t :: r, h, n => by
    unfold ArOk at *
    obtain ⟨v, ws, e, h1, h2⟩ := h
    subst e
    exact ⟨v, ws, rfl, x.rep h1 fun a o => n a (by unfold ArOwn; exact .inl o), ArOk.ext x h2 fun a o => n a (by unfold ArOwn; exact .inr o)⟩
  | vs, .sl i :: r, h, n => by
    unfold ArOk at *
    obtain ⟨v, ws, e, h1, h2⟩ := h
    subst e
    exact ⟨v, ws, rfl, h1, ArOk.ext x h2 fun a o => n a (by unfold ArOwn; exact o)⟩
theorem ArOk.ownAt : ∀ {vs : List V} {its : List Ar} {a : Addr}, ArOk K F H σ vs its → ArOwn vs its a → F a = none ∧ ∃ o, H a = some o
  | vs, [], a, h, o => by
    unfold ArOk at h; subst h; unfold ArOwn at o; exact o.elim
  | vs, .val t :: r, a, h, o => by
    unfold ArOk at h
    obtain ⟨v, ws, e, h1, h2⟩ := h
    subst e
    unfold ArOwn at o
    rcases o with o | o
    · exact h1.ownV o
    · exact ArOk.ownAt h2 o
  | vs, .sl i :: r, a, h, o => by
    unfold ArOk at h
    obtain ⟨v, ws, e, h1, h2⟩ := h
    subst e
    unfold ArOwn at o
    exact ArOk.ownAt h2 o
theorem rdA_nil {Q : List V → Hp → Prop} (h : rdA K W mg [] σ H Q) : Q [] H := by
  obtain ⟨F, env, S, p⟩ := h
  exact p F H [] S (by unfold ArOk; rfl) (by unfold ArSep; trivial) (fun a o => by unfold ArOwn at o; exact o.elim) (Ext.refl.mono fun a m => by rcases m with m | m; exact m; unfold ArOwn at m; exact m.elim)
theorem rdA_cons {o : Opd} {r : List Opd} {Q : List V → Hp → Prop} (h : rdA K W mg (o :: r) σ H Q) : tO K W mg o σ H fun x H1 => rdA K W mg r σ H1 fun xs H2 => Q (x :: xs) H2 := by
  obtain ⟨F, env, S, p⟩ := h
  cases o with
  | val m =>
    refine ⟨F, env, S, ?_⟩
    unfold evOps at p
    cases hm : m env with
    | no => rw [hm] at p; exact p.elim
    | ex c e => rw [hm] at p; exact p
    | ok t e =>
      rw [hm] at p
      intro F1 H1 x S1 Rx nx E1
      refine ⟨F1, e, S1, ?_⟩
      simp only [R.bind] at p
      cases hr : evOps r e with
      | no => rw [hr] at p; exact p.elim
      | ex c e2 =>
        rw [hr] at p
        exact PostX.trans p E1 fun a o => .inl o
      | ok its e2 =>
        rw [hr] at p
        intro F2 H2 xs S2 okx sp nw E2
        have nown : ∀ a, OwnV x t a → ¬ Own σ e a := nx
        have rx2 := E2.rep Rx nown
        have fr : ∀ a, OwnV x t a → ¬ (Own σ e2 a ∨ ArOwn xs its a) := fun a o z => by
          rcases E2.own a z with z | z
          · exact nx a o z
          · obtain ⟨_, u, q⟩ := Rx.ownV o
            rw [q] at z; cases z
        refine p F2 H2 (x :: xs) S2 (by unfold ArOk; exact ⟨x, xs, rfl, rx2, okx⟩) (by unfold ArSep; exact ⟨fun a o z => fr a o (.inr z), sp⟩) (fun a o => ?_) (E1.trans E2 (fun a o => .inl o) fun a m => ?_)
        · unfold ArOwn at o
          rcases o with o | o
          · exact fun z => fr a o (.inl z)
          · exact nw a o
        · rcases m with m | m
          · exact .inr (.inl m)
          · unfold ArOwn at m
            rcases m with m | m
            · exact .inl (.inr m)
            · exact .inr (.inr m)
  | sl i =>
    unfold evOps at p
    split at p
    · rename_i t et
      obtain ⟨v, ev, _⟩ := S.rep i t et
      refine ⟨v, ev, F, env, S, ?_⟩
      cases hr : evOps r env with
      | no => rw [hr] at p; exact p.elim
      | ex c e2 => rw [hr] at p; exact p
      | ok its e2 =>
        rw [hr] at p
        intro F2 H2 xs S2 okx sp nw E2
        refine p F2 H2 (v :: xs) S2 (by unfold ArOk; exact ⟨v, xs, rfl, ev, okx⟩) (by unfold ArSep; exact sp) (fun a o => nw a (by unfold ArOwn at o; exact o)) (E2.mono fun a m => by
          rcases m with m | m
          · exact .inl m
          · unfold ArOwn at m; exact .inr m)
    · exact p.elim
end
theorem va_nil {X : Cx} : VA X [] [] := fun W _ => pa_nil.weak fun σ H Q h => rdA_nil h
theorem va_cons {X : Cx} {e : Expr} {es : List Expr} {o : Opd} {r : List Opd} (h : VO X e o) (hr : VA X es r) (hs : starEach (e :: es) X.env = (false, eval e X.env) :: starEach es X.env := by rfl) : VA X (e :: es) (o :: r) :=
  fun W tk => (pa_cons (h W tk) (hr W tk) hs).weak fun σ H Q q => rdA_cons q

/-! ### constants, names -/
def mC (t : T) : M T := fun env => .ok t env
def mVar (i : Nat) : M T := fun env => match env[i]? with
  | some (some t) => if t.own then .ok t.frz (env.set i (some t.frz)) else .ok t env
  | _ => .no
section
variable {K : Fr} {W : WX} {mg : MG} {σ : St} {H : Hp} {Q : VK}
theorem rdE_const {t : T} {v : V} (hf : ∀ F, RepF K F v t) (h : rdE K W mg (mC t) σ H Q) : Q v H := by
  obtain ⟨F, env, S, p⟩ := h
  refine p F H v S (.ofF (hf F)) (fun a o => ?_) (Ext.refl.mono fun a m => ?_)
  · have e := o.1; rw [(hf F).notown] at e; cases e
  · rcases m with m | m
    · exact m
    · have e := m.1; rw [(hf F).notown] at e; cases e
theorem rdE_var {i : Nat} (h : rdE K W mg (mVar i) σ H Q) : tVar i σ H Q := by
  obtain ⟨F, env, S, p⟩ := h
  unfold mVar at p
  split at p
  · rename_i t e
    obtain ⟨v, e2, r⟩ := S.rep i t e
    refine ⟨v, e2, ?_⟩
    by_cases o : t.own = true
    · rw [if_pos o] at p
      obtain ⟨F', S', rf, x⟩ := S.freeze e e2
      exact p F' H v S' (.ofF rf) (fun a o => by have := o.1; rw [T.frz_own] at this; cases this) (x.mono fun a m => m.elim id fun o => by have := o.1; rw [T.frz_own] at this; cases this)
    · rw [if_neg o] at p
      exact p F H v S r (fun a z => absurd z.1 o) (Ext.refl.mono fun a m => m.elim id fun z => absurd z.1 o)
  · exact p.elim
end
section
variable {X : Cx}
theorem ve_int {i : Int} {j pos} : VE X (.Constant (.int i) j pos) (mC (.int i)) := fun W _ => pe_int.weak fun σ H Q h => rdE_const (v := .int i) (fun F => by unfold RepF; rfl) h
theorem ve_bl {i : Bool} {j pos} : VE X (.Constant (.bool i) j pos) (mC (.bl i)) := fun W _ => pe_bl.weak fun σ H Q h => rdE_const (v := .bl i) (fun F => by unfold RepF; rfl) h
theorem ve_non {j pos} : VE X (.Constant .none j pos) (mC .non) := fun W _ => pe_non.weak fun σ H Q h => rdE_const (v := .non) (fun F => by unfold RepF; rfl) h
theorem ve_str {x : Str} {j pos} : VE X (.Constant (.str x) j pos) (mC (.str x)) := fun W _ => pe_str.weak fun σ H Q h => rdE_const (v := .str x) (fun F => by unfold RepF; rfl) h
theorem ve_var {i : Nat} {x : Str} {pos : Pos} (hN : X.N[i]? = some x) (hv : Vis X.env.scope x) (hd : (x == ("__debug__" : Str)) = false) (hcd : (x == ("__classdict__" : Str)) = false) : VE X (.Name x pos) (mVar i) :=
  fun W _ => (pe_var hN hv hd hcd).weak fun σ H Q h => rdE_var h
end

/-! ### primitive operations -/
abbrev RepL (K : Fr) (F H : Hp) : List V → List T → Prop := Paired (Rep K F H)
/-- an operation by values does on trees what p says -/
def Prim (K : Fr) (run : List V → Hp → VK → Prop) (p : List T → Option T) : Prop :=
  ∀ F H vs ts t Q, Same F H → RepL K F H vs ts → p ts = some t →
    (∀ F' H' v, Same F' H' → Rep K F' H' v t → Ext F H (fun _ => False) F' H' (OwnV v t) → Q v H') → run vs H Q
def fill : List Ar → Env → Option (List T)
  | [], _ => some []
  | .val t :: r, env => (fill r env).map (t :: ·)
  | .sl i :: r, env => match env[i]? with
    | some (some t) => (fill r env).map (t :: ·)
    | _ => none
def mPrim (p : List T → Option T) (ops : List Opd) : M T := fun env => (evOps ops env).bind fun its e => match (fill its e).bind p with
  | some t => .ok t e
  | none => .no
section
variable {K : Fr} {W : WX} {mg : MG} {F H : Hp} {σ : St} {env : Env}
theorem fill_ok (S : Sta K F H σ env) : ∀ {its : List Ar} {vs : List V} {ts : List T}, ArOk K F H σ vs its → fill its env = some ts → RepL K F H vs ts
  | [], vs, ts, h, e => by
    unfold ArOk at h; subst h
    cases e; exact .nil
  | .val t :: r, vs, ts, h, e => by
    unfold ArOk at h
    obtain ⟨v, ws, e1, h1, h2⟩ := h
    subst e1
    simp only [fill, Option.map_eq_some_iff] at e
    obtain ⟨us, e2, rfl⟩ := e
    exact .cons h1 (fill_ok S h2 e2)
  | .sl i :: r, vs, ts, h, e => by
    unfold ArOk at h
    obtain ⟨v, ws, e1, h1, h2⟩ := h
    subst e1
    unfold fill at e
    split at e
    · rename_i t et
      simp only [Option.map_eq_some_iff] at e
      obtain ⟨us, e2, rfl⟩ := e
      obtain ⟨v', q, rr⟩ := S.rep i t et
      rw [h1] at q; cases q
      exact .cons rr (fill_ok S h2 e2)
    · cases e
theorem lift_prim {run : List V → Hp → VK → Prop} {p : List T → Option T} {ops : List Opd} {Q : VK} (P : Prim K run p) (h : rdE K W mg (mPrim p ops) σ H Q) : rdA K W mg ops σ H fun vs H1 => run vs H1 Q := by
  obtain ⟨F, env, S, q⟩ := h
  refine ⟨F, env, S, ?_⟩
  unfold mPrim at q
  cases hr : evOps ops env with
  | no => rw [hr] at q; exact q.elim
  | ex c e => rw [hr] at q; exact q
  | ok its e =>
    rw [hr] at q
    simp only [R.bind] at q
    intro F1 H1 vs S1 okv sp nw E1
    cases hf : fill its e with
    | none => rw [hf] at q; exact q.elim
    | some ts =>
      rw [hf] at q
      simp only [Option.bind_some] at q
      cases hp : p ts with
      | none => rw [hp] at q; exact q.elim
      | some t =>
        rw [hp] at q
        refine P F1 H1 vs ts t Q S1.sub (fill_ok S1 okv hf) hp fun F2 H2 v sm rv E2 => ?_
        have hn : ∀ a, OwnV v t a → ¬ Own σ e a := fun a o z => by
          rcases E2.own a o with w | w
          · exact w
          · obtain ⟨_, u, q2⟩ := S1.ownAt z
            rw [q2] at w; cases w
        refine q F2 H2 v (S1.ext E2 sm fun a _ z => z) rv hn (E1.trans E2 (fun a z => z.elim) fun a m => ?_)
        exact m.elim (fun z => .inl (.inl z)) .inr
/-- one operand, two, three -/
theorem rdA1 {o : Opd} {Q : List V → Hp → Prop} (h : rdA K W mg [o] σ H Q) : tO K W mg o σ H fun x H1 => Q [x] H1 := tO_mono (rdA_cons h) fun _ _ q => rdA_nil q
theorem rdA2 {o u : Opd} {Q : List V → Hp → Prop} (h : rdA K W mg [o, u] σ H Q) : tO K W mg o σ H fun x H1 => tO K W mg u σ H1 fun y H2 => Q [x, y] H2 :=
  tO_mono (rdA_cons h) fun _ _ q => tO_mono (rdA_cons q) fun _ _ q => rdA_nil q
theorem rdA3 {o u w : Opd} {Q : List V → Hp → Prop} (h : rdA K W mg [o, u, w] σ H Q) : tO K W mg o σ H fun x H1 => tO K W mg u σ H1 fun y H2 => tO K W mg w σ H2 fun z H3 => Q [x, y, z] H3 :=
  tO_mono (rdA_cons h) fun _ _ q => rdA2 q
end
abbrev run1 (r : V → Hp → VK → Prop) : List V → Hp → VK → Prop := fun vs H Q => ∀ x, vs = [x] → r x H Q
abbrev run2 (r : R2) : List V → Hp → VK → Prop := fun vs H Q => ∀ x y, vs = [x, y] → r x y H Q
section
variable {X : Cx} {a b : Expr} {oa ob : Opd} {pos : Pos} {p : List T → Option T}
theorem ve_bin {op : Operator} {r : R2} (ho : OpR X (binaryOp op) r) (P : Prim X.K (run2 r) p) (ha : VO X a oa) (hb : VO X b ob) : VE X (.BinOp a op b pos) (mPrim p [oa, ob]) :=
  fun W tk => (pe_op ho (ha W tk) (hb W tk)).weak fun σ H Q h => tO_mono (rdA2 (lift_prim P h)) fun _ _ q => tO_mono q fun _ _ q => q _ _ rfl
theorem ve_cmp {op : CmpOp} {r : R2} (ho : OpR X (compareOp op) r) (P : Prim X.K (run2 r) p) (ha : VO X a oa) (hb : VO X b ob) (hm : behindInMarks op b = false) : VE X (.Compare a [op] [b] pos) (mPrim p [oa, ob]) :=
  fun W tk => (pe_cmpR ho (ha W tk) (hb W tk) hm).weak fun σ H Q h => tO_mono (rdA2 (lift_prim P h)) fun _ _ q => tO_mono q fun _ _ q => q _ _ rfl
theorem ve_un {op : UnaryOp} {r : V → Hp → VK → Prop} (ho : UnR X (unaryOp op) r) (P : Prim X.K (run1 r) p) (ha : VO X a oa) : VE X (.UnaryOp op a pos) (mPrim p [oa]) :=
  fun W tk => (pe_un ho (ha W tk)).weak fun σ H Q h => tO_mono (rdA1 (lift_prim P h)) fun _ _ q => q _ rfl
theorem ve_ix {r : R2} (hr : IxR X r) (P : Prim X.K (run2 r) p) (ha : VO X a oa) (hb : VO X b ob) (hs : PlainIx b) : VE X (.Subscript a b pos) (mPrim p [oa, ob]) :=
  fun W tk => (pe_ix hr (ha W tk) (hb W tk) hs).weak fun σ H Q h => tO_mono (rdA2 (lift_prim P h)) fun _ _ q => tO_mono q fun _ _ q => q _ _ rfl
end
end VL

/-! Tests, displays, statements, loops. -/
namespace VL
open PySem L2

/-! ### truth -/
def tru : T → Option Bool
  | .non => some false
  | .bl b => some b
  | .int i => some (i != 0)
  | .str x => if x.length ≤ sizeLine then some ((x.length : Int) != 0) else none
  | .tup ts => some (!ts.isEmpty)
  | .lst _ ts => some (!ts.isEmpty)
  | .dic _ ks _ => some (!ks.isEmpty)
  | .dit _ _ _ => none
  | .scr ns => some (!ns.isEmpty)
theorem isEmpty_len {α β : Type} {a : List α} {b : List β} (h : a.length = b.length) : a.isEmpty = b.isEmpty := by
  cases a <;> cases b <;> simp_all
section
variable {K : Fr} {W : WX} {mg : MG} {F H : Hp} {σ : St} {env : Env}
theorem tru_rep {v : V} {t : T} {b : Bool} (s : Same F H) (h : Rep K F H v t) (e : tru t = some b) : TruV K v H b := by
  cases t with
  | non => cases (show v = .non from by simpa [Rep, RepF] using h); cases e; rfl
  | bl c => cases (show v = .bl c from by simpa [Rep, RepF] using h); cases e; rfl
  | int i => cases (show v = .int i from by simpa [Rep, RepF] using h); cases e; rfl
  | str x =>
    cases (show v = .str x from by simpa [Rep, RepF] using h)
    simp only [tru] at e
    split at e
    · cases e; exact ⟨by assumption, rfl⟩
    · cases e
  | tup ts =>
    obtain ⟨p, vs, rfl, q, r⟩ := (show ∃ p vs, v = .ref p ∧ F p = some (.tup vs) ∧ RepFs K F vs ts from by simpa [Rep, RepF] using h)
    cases e
    exact .inr (.inl ⟨vs, SqT.of (s _ _ q), by rw [isEmpty_len r.len]⟩)
  | lst o ts =>
    have : ∃ p vs, v = .ref p ∧ H p = some (.lst vs) ∧ RepFs K F vs ts := by
      cases o with
      | true => obtain ⟨p, vs, a, b, c, d⟩ := h; exact ⟨p, vs, a, c, d⟩
      | false =>
        have h := h.toF rfl
        unfold RepF at h
        obtain ⟨_, p, vs, a, b, c⟩ := h
        exact ⟨p, vs, a, s _ _ b, c⟩
    obtain ⟨p, vs, rfl, q, r⟩ := this
    cases e
    exact .inl ⟨vs, SqL.of q, by rw [isEmpty_len r.len]⟩
  | dic o ks ts =>
    have : ∃ p kvs, v = .ref p ∧ H p = some (.dK kvs) ∧ kvs.map (·.1) = ks := by
      cases o with
      | true => obtain ⟨p, vs, a, b, c, d, _⟩ := h; exact ⟨p, vs, a, c, d⟩
      | false =>
        have h := h.toF rfl
        unfold RepF at h
        obtain ⟨_, p, vs, a, b, c, _⟩ := h
        exact ⟨p, vs, a, s _ _ b, c⟩
    obtain ⟨p, kvs, rfl, q, r⟩ := this
    cases e
    exact .inr (.inr ⟨kvs, q, by rw [← r, List.isEmpty_map]⟩)
  | dit o ks ts => cases e
  | scr ns =>
    obtain ⟨p, rfl, q⟩ := (show ∃ p, v = .ref p ∧ SqL K F p (ns.map V.int) from by simpa [Rep, RepF] using h)
    cases e
    exact .inl ⟨_, sqL_mono s q, by rw [List.isEmpty_map]⟩
def truR (o : Option Bool) (e : Env) : R Bool := match o with
  | some b => .ok b e
  | none => .no
def mTru : Opd → M Bool
  | .val m => fun env => (m env).bind fun t e => truR (tru t) e
  | .sl i => fun env => match env[i]? with
    | some (some t) => truR (tru t) env
    | _ => .no
theorem rdT_tru {o : Opd} {Q : Bool → Hp → Prop} {H : Hp} (h : rdT K W mg (mTru o) σ H Q) : tO K W mg o σ H fun x H1 => ∃ k, TruV K x H1 k ∧ Q k H1 := by
  obtain ⟨F, env, S, p⟩ := h
  cases o with
  | val m =>
    refine ⟨F, env, S, ?_⟩
    unfold mTru at p
    simp only at p
    cases hm : m env with
    | no => rw [hm] at p; exact p.elim
    | ex c e => rw [hm] at p; exact p
    | ok t e =>
      rw [hm] at p
      simp only [R.bind] at p
      intro F1 H1 x S1 Rx nx E1
      cases ht : tru t with
      | none => rw [ht] at p; exact p.elim
      | some b =>
        rw [ht] at p
        exact ⟨b, tru_rep S1.sub Rx ht, p F1 H1 S1 (E1.mono fun a m => .inl m)⟩
  | sl i =>
    unfold mTru at p
    simp only at p
    split at p
    · rename_i t et
      obtain ⟨v, e2, r⟩ := S.rep i t et
      refine ⟨v, e2, ?_⟩
      cases ht : tru t with
      | none => rw [ht] at p; exact p.elim
      | some b =>
        rw [ht] at p
        exact ⟨b, tru_rep S.sub r ht, p F H S Ext.refl⟩
    · exact p.elim
/-- the value is a truth -/
def mTst (m : M T) : M Bool := fun env => (m env).bind fun t e => match t with
  | .bl b => .ok b e
  | _ => .no
theorem rdT_tst {m : M T} {Q : Bool → Hp → Prop} {H : Hp} (h : rdT K W mg (mTst m) σ H Q) : rdE K W mg m σ H fun x H1 => ∃ k, x = .bl k ∧ Q k H1 := by
  obtain ⟨F, env, S, p⟩ := h
  refine ⟨F, env, S, ?_⟩
  unfold mTst at p
  cases hm : m env with
  | no => rw [hm] at p; exact p.elim
  | ex c e => rw [hm] at p; exact p
  | ok t e =>
    rw [hm] at p
    simp only [R.bind] at p
    intro F1 H1 x S1 Rx nx E1
    cases t with
    | bl b =>
      have rb : x = .bl b := by simpa [Rep, RepF] using Rx
      exact ⟨b, rb, p F1 H1 S1 (E1.mono fun a m => .inl m)⟩
    | _ => exact p.elim
def mNotT (m : M Bool) : M Bool := fun env => (m env).bind fun b e => .ok (!b) e
def mAndT (a b : M Bool) : M Bool := fun env => (a env).bind fun c e => if c then b e else .ok false e
def mOrT (a b : M Bool) : M Bool := fun env => (a env).bind fun c e => if c then .ok true e else b e
theorem PostT.trans {A : M Bool} {F1 H1 : Hp} {L M1 : Addr → Prop} {r : R Bool} {e1 : Env} {Q : Bool → Hp → Prop} (p : PostT K W mg σ F H L r Q) (x : Ext F H L F1 H1 M1) (hs : ∀ a, Own σ e1 a → M1 a) : PostT K W mg σ F1 H1 (Own σ e1) r Q := by
  cases r with
  | no => exact p
  | ex c e => exact PostX.trans p x hs
  | ok b e => exact fun F' H' S' y => p F' H' S' (x.trans y hs fun a m => .inr m)
theorem PostE.trans {F1 H1 : Hp} {L M1 : Addr → Prop} {r : R T} {e1 : Env} {Q : VK} (p : PostE K W mg σ F H L r Q) (x : Ext F H L F1 H1 M1) (hs : ∀ a, Own σ e1 a → M1 a) : PostE K W mg σ F1 H1 (Own σ e1) r Q := by
  cases r with
  | no => exact p
  | ex c e => exact PostX.trans p x hs
  | ok b e => exact fun F' H' v S' r n y => p F' H' v S' r n (x.trans y hs fun a m => .inr m)
theorem rdT_not {m : M Bool} {Q : Bool → Hp → Prop} {H : Hp} (h : rdT K W mg (mNotT m) σ H Q) : rdT K W mg m σ H fun b H1 => Q (!b) H1 := by
  obtain ⟨F, env, S, p⟩ := h
  refine ⟨F, env, S, ?_⟩
  unfold mNotT at p
  cases hm : m env with
  | no => rw [hm] at p; exact p.elim
  | ex c e => rw [hm] at p; exact p
  | ok b e => rw [hm] at p; exact p
theorem rdT_if {β : Type} {c : M Bool} {H : Hp} {Q : Bool → Hp → Prop} {m : M Bool} {k : Bool → M Bool} (e : m = fun env => (c env).bind fun b e => k b e) (h : rdT K W mg m σ H Q) : rdT K W mg c σ H fun b H1 => rdT K W mg (k b) σ H1 Q := by
  subst e
  obtain ⟨F, env, S, p⟩ := h
  refine ⟨F, env, S, ?_⟩
  simp only at p
  cases hm : c env with
  | no => rw [hm] at p; exact p.elim
  | ex c e => rw [hm] at p; exact p
  | ok b e =>
    rw [hm] at p
    simp only [R.bind] at p
    intro F1 H1 S1 E1
    exact ⟨F1, e, S1, PostT.trans (A := c) p E1 fun _ o => o⟩
theorem rdT_pure {b : Bool} {H : Hp} {Q : Bool → Hp → Prop} (h : rdT K W mg (fun e => .ok b e) σ H Q) : Q b H := by
  obtain ⟨F, env, S, p⟩ := h
  exact p F H S Ext.refl
end
section
variable {X : Cx} {a b c : Expr} {oa ob oc : Opd} {ma mb mc : M Bool} {pos : Pos} {rest : List Expr} {p p' : List T → Option T}
theorem vt_tru (h : VO X a oa) (he : ∀ whole, isTrue a X.env whole = (do let v ← whole; standAt a.pos; holding [v] (truthy v)) := by intro _; rfl) : VT X a (mTru oa) :=
  fun W tk => (pt_truth (h W tk) he).weak fun σ H Q h => rdT_tru h
theorem vt_cmp {op : CmpOp} {r : R2} (ho : OpR X (compareOp op) r) (P : Prim X.K (run2 r) p) (ha : VO X a oa) (hb : VO X b ob) (hm : behindInMarks op b = false) : VT X (.Compare a [op] [b] pos) (mTst (mPrim p [oa, ob])) :=
  fun W tk => (pt_cmpR ho (ha W tk) (hb W tk) hm).weak fun σ H Q h => tO_mono (rdA2 (lift_prim P (rdT_tst h))) fun _ _ q => tO_mono q fun _ _ q => q _ _ rfl
theorem vt_not (h : VT X a ma) : VT X (.UnaryOp .Not a pos) (mNotT ma) := fun W tk => (pt_not (h W tk)).weak fun σ H Q h => rdT_not h
/-- and, or as tests: the words of PW -/
def VW (X : Cx) (e : Expr) (m : M Bool) : Prop := ∀ W, Takes X W → PW X e (rdT X.K W X.mg m)
theorem _root_.L2.PW.weak {X : Cx} {e : Expr} {t t' : TT} (h : PW X e t) (w : ∀ σ H Q, t' σ H Q → t σ H Q) : PW X e t' := ⟨fun wh p s σ H Q I q => h.run wh p s σ H Q I (w _ _ _ q)⟩
theorem vt_w (h : VW X a ma) : VT X a ma := fun W tk => (h W tk).pt
theorem vw_and1 (h : VT X a ma) : VW X (.BoolOp .And [a] pos) ma := fun W tk => pw_and1 (h W tk)
theorem vw_or1 (h : VT X a ma) : VW X (.BoolOp .Or [a] pos) ma := fun W tk => pw_or1 (h W tk)
theorem vw_and (h : VT X a ma) (hb : VW X (.BoolOp .And (b :: rest) pos) mb) : VW X (.BoolOp .And (a :: b :: rest) pos) (mAndT ma mb) := fun W tk => (pw_and (h W tk) (hb W tk)).weak fun σ H Q h =>
  rdT_mono (rdT_if (β := Unit) (k := fun c => if c then mb else fun e => .ok false e) (by funext env; unfold mAndT; congr; funext c e; cases c <;> rfl) h) fun c H1 q => by
    cases c with
    | true => exact q
    | false => exact rdT_pure q
theorem vw_or (h : VT X a ma) (hb : VW X (.BoolOp .Or (b :: rest) pos) mb) : VW X (.BoolOp .Or (a :: b :: rest) pos) (mOrT ma mb) := fun W tk => (pw_or (h W tk) (hb W tk)).weak fun σ H Q h =>
  rdT_mono (rdT_if (β := Unit) (k := fun c => if c then (fun e => .ok true e) else mb) (by funext env; unfold mOrT; congr; funext c e; cases c <;> rfl) h) fun c H1 q => by
    cases c with
    | true => exact rdT_pure q
    | false => exact q
/-! ### the same as values -/
def mIte (c : M Bool) (a b : M T) : M T := fun env => (c env).bind fun d e => if d then a e else b e
theorem rdE_if {K : Fr} {W : WX} {mg : MG} {σ : St} {c : M Bool} {H : Hp} {Q : VK} {m n : M T} (h : rdE K W mg (mIte c m n) σ H Q) : rdT K W mg c σ H fun b H1 => if b = true then rdE K W mg m σ H1 Q else rdE K W mg n σ H1 Q := by
  obtain ⟨F, env, S, p⟩ := h
  refine ⟨F, env, S, ?_⟩
  unfold mIte at p
  cases hm : c env with
  | no => rw [hm] at p; exact p.elim
  | ex c e => rw [hm] at p; exact p
  | ok b e =>
    rw [hm] at p
    simp only [R.bind] at p
    intro F1 H1 S1 E1
    cases b with
    | true =>
      rw [if_pos rfl] at p ⊢
      exact ⟨F1, e, S1, PostE.trans p E1 fun _ o => o⟩
    | false =>
      rw [if_neg Bool.false_ne_true] at p ⊢
      exact ⟨F1, e, S1, PostE.trans p E1 fun _ o => o⟩
theorem ve_ite {m n : M T} (hc : VT X c mc) (ha : VE X a m) (hb : VE X b n) : VE X (.IfExp c a b pos) (mIte mc m n) := fun W tk => (pe_ifExp (hc W tk) (ha W tk) (hb W tk)).weak fun σ H Q h => rdE_if h
def mNot (o : Opd) : M T := fun env => (mTru o env).bind fun b e => .ok (.bl (!b)) e
theorem ve_not (h : VO X a oa) : VE X (.UnaryOp .Not a pos) (mNot oa) := fun W tk => (pe_notT (h W tk)).weak fun σ H Q h => by
  have h2 : rdT X.K W X.mg (mTru oa) σ H fun b H1 => Q (.bl (!b)) H1 := by
    obtain ⟨F, env, S, p⟩ := h
    refine ⟨F, env, S, ?_⟩
    unfold mNot at p
    cases hm : mTru oa env with
    | no => rw [hm] at p; exact p.elim
    | ex c e => rw [hm] at p; exact p
    | ok b e =>
      rw [hm] at p
      exact fun F' H' S' y => p F' H' (.bl (!b)) S' (by unfold Rep RepF; rfl) (fun a o => by have := o.1; cases this) (y.mono fun a m => m.elim id fun o => by have := o.1; cases this)
  exact tO_mono (rdT_tru h2) fun v H q => by
    obtain ⟨k, e, q⟩ := q
    exact ⟨k, e, q⟩
def mAnd (a b : M T) : M T := fun env => (a env).bind fun t e => match tru t with
  | some true => b e
  | some false => if t.own then .no else .ok t e
  | none => .no
def mOr (a b : M T) : M T := fun env => (a env).bind fun t e => match tru t with
  | some true => if t.own then .no else .ok t e
  | some false => b e
  | none => .no
theorem ve_one {op : BoolOp} {m : M T} (h : VE X a m) : VE X (.BoolOp op [a] pos) m := fun W tk => pe_one (h W tk)
theorem ve_and {m n : M T} (h : VE X a m) (hb : VE X (.BoolOp .And (b :: rest) pos) n) : VE X (.BoolOp .And (a :: b :: rest) pos) (mAnd m n) := fun W tk => (pe_andT (h W tk) (hb W tk)).weak fun σ H Q h => by
  obtain ⟨F, env, S, p⟩ := h
  refine ⟨F, env, S, ?_⟩
  unfold mAnd at p
  cases hm : m env with
  | no => rw [hm] at p; exact p.elim
  | ex c e => rw [hm] at p; exact p
  | ok t e =>
    rw [hm] at p
    simp only [R.bind] at p
    intro F1 H1 x S1 Rx nx E1
    cases ht : tru t with
    | none => rw [ht] at p; exact p.elim
    | some k =>
      rw [ht] at p
      refine ⟨k, tru_rep S1.sub Rx ht, ?_⟩
      cases k with
      | true => exact ⟨F1, e, S1, PostE.trans p E1 fun _ o => .inl o⟩
      | false =>
        simp only at p
        split at p
        · exact p.elim
        · rename_i no
          exact p F1 H1 x S1 Rx nx E1
theorem ve_or {m n : M T} (h : VE X a m) (hb : VE X (.BoolOp .Or (b :: rest) pos) n) : VE X (.BoolOp .Or (a :: b :: rest) pos) (mOr m n) := fun W tk => (pe_orT (h W tk) (hb W tk)).weak fun σ H Q h => by
  obtain ⟨F, env, S, p⟩ := h
  refine ⟨F, env, S, ?_⟩
  unfold mOr at p
  cases hm : m env with
  | no => rw [hm] at p; exact p.elim
  | ex c e => rw [hm] at p; exact p
  | ok t e =>
    rw [hm] at p
    simp only [R.bind] at p
    intro F1 H1 x S1 Rx nx E1
    cases ht : tru t with
    | none => rw [ht] at p; exact p.elim
    | some k =>
      rw [ht] at p
      refine ⟨k, tru_rep S1.sub Rx ht, ?_⟩
      cases k with
      | false => exact ⟨F1, e, S1, PostE.trans p E1 fun _ o => .inl o⟩
      | true =>
        simp only at p
        split at p
        · exact p.elim
        · rename_i no
          exact p F1 H1 x S1 Rx nx E1
end
end VL

/-! Displays, statements. -/
namespace VL
open PySem L2

def allV : List Ar → Option (List T)
  | [] => some []
  | .val t :: r => (allV r).map (t :: ·)
  | .sl _ :: _ => none
section
variable {K : Fr} {W : WX} {mg : MG} {F H : Hp} {σ : St} {env : Env}
theorem frz_all (s : Same F H) : ∀ {its : List Ar} {vs : List V} {ts : List T}, ArOk K F H σ vs its → allV its = some ts → ArSep vs its →
    ∃ F', Same F F' ∧ Same F' H ∧ RepFs K F' vs (ts.map T.frz) ∧ ∀ a o, F' a = some o → F a = some o ∨ ArOwn vs its a
  | [], vs, ts, h, e, sp => by
    unfold ArOk at h; subst h
    cases e
    exact ⟨F, fun _ _ q => q, s, .nil, fun _ _ q => .inl q⟩
  | .sl i :: r, vs, ts, h, e, sp => by cases e
  | .val t :: r, vs, ts, h, e, sp => by
    unfold ArOk at h
    obtain ⟨v, ws, e1, h1, h2⟩ := h
    subst e1
    simp only [allV, Option.map_eq_some_iff] at e
    obtain ⟨us, e2, rfl⟩ := e
    unfold ArSep at sp
    obtain ⟨F1, a1, a2, a3, a4⟩ := frz_all s h2 e2 sp.2
    have h1' : Rep K F1 H v t := h1.move a1 fun a o => by
      refine ⟨?_, rfl⟩
      cases q : F1 a with
      | none => rfl
      | some w =>
        rcases a4 a w q with z | z
        · rw [(h1.ownV o).1] at z; cases z
        · exact (sp.1 a o z).elim
    obtain ⟨F2, b1, b2, b3, b4⟩ := frz_one a2 h1'
    refine ⟨F2, fun a o q => b1 a o (a1 a o q), b2, .cons b3 (a3.mono b1), fun a o q => ?_⟩
    rcases b4 a o q with z | z
    · rcases a4 a o z with y | y
      · exact .inl y
      · exact .inr (by unfold ArOwn; exact .inr y)
    · exact .inr (by unfold ArOwn; exact .inl z)
theorem map_frz_len {ts : List T} : (ts.map T.frz).length = ts.length := by simp
/-- a new object from frozen parts: a tuple (frozen at once) or an owned list -/
def mTup (ops : List Opd) : M T := fun env => (evOps ops env).bind fun its e => match allV its with
  | some ts => .ok (.tup (ts.map T.frz)) e
  | none => .no
def mLst (ops : List Opd) : M T := fun env => (evOps ops env).bind fun its e => match allV its with
  | some ts => .ok (.lst true (ts.map T.frz)) e
  | none => .no
theorem upd_new {H : Hp} {p : Addr} {o : HO} (hp : H p = none) : ∀ a u, H a = some u → upd H p o a = some u := fun a u q => by
  rw [upd_ne]; exact q
  rintro rfl; rw [hp] at q; cases q
theorem upd_tup {H : Hp} {p : Addr} {o : HO} (h : ∀ vs, o ≠ .tup vs) {a : Addr} (q : upd H p o a = none ∨ ∃ vs, upd H p o a = some (.tup vs)) : H a = none ∨ ∃ vs, H a = some (.tup vs) := by
  by_cases z : a = p
  · subst z
    rw [upd_same] at q
    rcases q with q | ⟨vs, q⟩
    · cases q
    · cases q; exact (h vs rfl).elim
  · rw [upd_ne z] at q; exact q
theorem upd_dom {H : Hp} {p : Addr} {o : HO} : ∀ a, upd H p o a = none → H a = none := fun a q => by
  by_cases z : a = p
  · subst z; rw [upd_same] at q; cases q
  · rw [upd_ne z] at q; exact q
theorem arLen : ∀ {its : List Ar} {vs : List V} {ts : List T}, ArOk K F H σ vs its → allV its = some ts → vs.length = its.length
  | [], vs, ts, h, e => by unfold ArOk at h; subst h; rfl
  | .sl _ :: _, _, _, h, e => by cases e
  | .val t :: r, vs, ts, h, e => by
    unfold ArOk at h
    obtain ⟨v, ws, e1, h1, h2⟩ := h
    subst e1
    simp only [allV, Option.map_eq_some_iff] at e
    obtain ⟨us, e2, rfl⟩ := e
    simp [arLen h2 e2]
theorem evOps_len : ∀ {ops : List Opd} {env : Env} {its : List Ar} {e : Env}, evOps ops env = .ok its e → its.length = ops.length
  | [], env, its, e, h => by cases h; rfl
  | .val m :: r, env, its, e, h => by
    unfold evOps at h
    cases hm : m env with
    | no => rw [hm] at h; cases h
    | ex c e => rw [hm] at h; cases h
    | ok t e1 =>
      rw [hm] at h
      simp only [R.bind] at h
      cases hr : evOps r e1 with
      | no => rw [hr] at h; cases h
      | ex c e => rw [hr] at h; cases h
      | ok ts e2 => rw [hr] at h; cases h; simp [evOps_len hr]
  | .sl i :: r, env, its, e, h => by
    unfold evOps at h
    split at h
    · cases hr : evOps r env with
      | no => rw [hr] at h; cases h
      | ex c e => rw [hr] at h; cases h
      | ok ts e2 => rw [hr] at h; cases h; simp [evOps_len hr]
    · cases h
theorem rdE_tup {ops : List Opd} {Q : VK} {H : Hp} (hz : ops.length ≤ sizeLine) (h : rdE K W mg (mTup ops) σ H Q) : rdA K W mg ops σ H fun xs H1 => xs.length ≤ sizeLine ∧ ∀ p, H1 p = none → Q (.ref p) (upd H1 p (.tup xs)) := by
  obtain ⟨F, env, S, q⟩ := h
  refine ⟨F, env, S, ?_⟩
  unfold mTup at q
  cases hr : evOps ops env with
  | no => rw [hr] at q; exact q.elim
  | ex c e => rw [hr] at q; exact q
  | ok its e =>
    rw [hr] at q
    simp only [R.bind] at q
    intro F1 H1 vs S1 okv sp nw E1
    cases ha : allV its with
    | none => rw [ha] at q; exact q.elim
    | some ts =>
      rw [ha] at q
      refine ⟨by rw [arLen okv ha, evOps_len hr]; exact hz, fun p hp => ?_⟩
      obtain ⟨F2, a1, a2, a3, a4⟩ := frz_all S1.sub okv ha sp
      have hF2 : F2 p = none := by
        cases z : F2 p with
        | none => rfl
        | some w => rw [a2 p w z] at hp; cases hp
      have b1 : Same F2 (upd F2 p (.tup vs)) := upd_new hF2
      have x : Ext F1 H1 (ArOwn vs its) (upd F2 p (.tup vs)) (upd H1 p (.tup vs)) (fun _ => False) :=
        ⟨fun a o z => b1 a o (a1 a o z), fun a o z _ => upd_new hp a o z, fun a z => z.elim, fun a o z => by
          by_cases w : a = p
          · subst w; exact .inr (.inr (.inl hp))
          · rw [upd_ne w] at z
            exact (a4 a o z).imp id .inl, upd_dom⟩
      have sm : Same (upd F2 p (.tup vs)) (upd H1 p (.tup vs)) := fun a o z => by
        by_cases w : a = p
        · subst w; rw [upd_same] at z ⊢; exact z
        · rw [upd_ne w] at z ⊢; exact a2 a o z
      have nown : ∀ a, OwnV (.ref p) (T.tup (ts.map T.frz)) a → False := fun a o => by have := o.1; cases this
      refine q _ _ (.ref p) (S1.ext x sm fun a o z => nw a z o) (.ofF ?_) (fun a o => (nown a o).elim) (E1.trans (x.mono (M' := fun _ => False) fun _ z => z) (fun a z => .inr z) fun a m => ?_)
      · unfold RepF
        exact ⟨p, vs, rfl, upd_same, a3.mono b1⟩
      · exact m.elim (fun z => .inl (.inl z)) fun z => (nown a z).elim
theorem rdE_lst {ops : List Opd} {Q : VK} {H : Hp} (hz : ops.length ≤ sizeLine) (h : rdE K W mg (mLst ops) σ H Q) : rdA K W mg ops σ H fun xs H1 => xs.length ≤ sizeLine ∧ ∀ p, H1 p = none → Q (.ref p) (upd H1 p (.lst xs)) := by
  obtain ⟨F, env, S, q⟩ := h
  refine ⟨F, env, S, ?_⟩
  unfold mLst at q
  cases hr : evOps ops env with
  | no => rw [hr] at q; exact q.elim
  | ex c e => rw [hr] at q; exact q
  | ok its e =>
    rw [hr] at q
    simp only [R.bind] at q
    intro F1 H1 vs S1 okv sp nw E1
    cases ha : allV its with
    | none => rw [ha] at q; exact q.elim
    | some ts =>
      rw [ha] at q
      refine ⟨by rw [arLen okv ha, evOps_len hr]; exact hz, fun p hp => ?_⟩
      obtain ⟨F2, a1, a2, a3, a4⟩ := frz_all S1.sub okv ha sp
      have hF2 : F2 p = none := by
        cases z : F2 p with
        | none => rfl
        | some w => rw [a2 p w z] at hp; cases hp
      have x : Ext F1 H1 (ArOwn vs its) F2 (upd H1 p (.lst vs)) (fun a => a = p) :=
        ⟨a1, fun a o z _ => upd_new hp a o z, fun a z => .inr (by subst z; exact hp), fun a o z => (a4 a o z).imp id .inl, upd_dom⟩
      have sm : Same F2 (upd H1 p (.lst vs)) := fun a o z => upd_new hp a o (a2 a o z)
      have nown : ∀ a, OwnV (.ref p) (T.lst true (ts.map T.frz)) a → a = p := fun a o => by have := o.2; cases this; rfl
      refine q _ _ (.ref p) (S1.ext x sm fun a o z => nw a z o) ?_ (fun a o z => ?_) (E1.trans x (fun a z => .inr z) fun a m => ?_)
      · exact ⟨p, vs, rfl, hF2, upd_same, a3⟩
      · cases nown a o
        obtain ⟨_, u, w⟩ := S1.ownAt z
        rw [hp] at w; cases w
      · exact m.elim (fun z => .inl (.inl z)) fun z => .inr (nown a z)
end
section
variable {X : Cx} {es : List Expr} {ops : List Opd} {pos : Pos}
theorem ve_tup {k} (h : VA X es ops) (hz : ops.length ≤ sizeLine := by decide) : VE X (.Tuple es k pos) (mTup ops) := fun W tk => (pe_tup (h W tk)).weak fun σ H Q q => rdE_tup hz q
theorem ve_lst (h : VA X es ops) (hz : ops.length ≤ sizeLine := by decide) : VE X (.List es pos) (mLst ops) := fun W tk => (pe_lst (h W tk)).weak fun σ H Q q => rdE_lst hz q
end

/-! ### statements -/
section
variable {K : Fr} {W : WX} {mg : MG} {A : List Nat} {F H : Hp} {σ : St} {env : Env} {D : Ends}
theorem PostS.trans {F1 H1 : Hp} {L M1 : Addr → Prop} {r : SR} {σ1 : St} {e1 : Env} (p : PostS K W mg A σ F H L r D) (so : SameOut A σ σ1) (x : Ext F H L F1 H1 M1) (hs : ∀ a, Own σ1 e1 a → M1 a) : PostS K W mg A σ1 F1 H1 (Own σ1 e1) r D := by
  cases r with
  | no => exact p
  | nx e => exact fun F' H' σ' S s y => p F' H' σ' S (so.trans s) (x.trans y hs fun a m => .inr m)
  | bk e => exact fun F' H' σ' S s y => p F' H' σ' S (so.trans s) (x.trans y hs fun a m => .inr m)
  | ct e => exact fun F' H' σ' S s y => p F' H' σ' S (so.trans s) (x.trans y hs fun a m => .inr m)
  | rt t e => exact fun F' H' σ' v S s r n y => p F' H' σ' v S (so.trans s) r n (x.trans y hs fun a m => .inr m)
  | ex c e => exact fun F' H' σ' C S s y g => p F' H' σ' C S (so.trans s) (x.trans y hs fun a m => .inr m) g
/-- another end for what goes on -/
theorem PostS.ends {D' : Ends} {L : Addr → Prop} {r : SR} (p : PostS K W mg A σ F H L r D) (hrt : ∀ v H, D.rt v H → D'.rt v H) (hb : ∀ σ H, D.bk σ H → D'.bk σ H) (hc : ∀ σ H, D.ct σ H → D'.ct σ H) (hn : ∀ σ H, D.nx σ H → D'.nx σ H) : PostS K W mg A σ F H L r D' := by
  cases r with
  | no => exact p
  | nx e => exact fun F' H' σ' S s y => hn _ _ (p F' H' σ' S s y)
  | bk e => exact fun F' H' σ' S s y => hb _ _ (p F' H' σ' S s y)
  | ct e => exact fun F' H' σ' S s y => hc _ _ (p F' H' σ' S s y)
  | rt t e => exact fun F' H' σ' v S s r n y => hrt _ _ (p F' H' σ' v S s r n y)
  | ex c e => exact p
theorem PostS.ofX {L : Addr → Prop} {c : Str} {e : Env} (p : PostS K W mg A σ F H L (.ex c e) D) : PostX K W mg σ F H L c e := fun F' H' C S x g => p F' H' σ C S .refl x g
def mSkip : MS := fun env => .nx env
def mBreak : MS := fun env => .bk env
def mCont : MS := fun env => .ct env
def mSeq (a b : MS) : MS := fun env => match a env with
  | .nx e => b e
  | r => r
theorem rdS_seq {a b : MS} {H : Hp} (h : rdS K W mg A (mSeq a b) D σ H) : rdS K W mg A a { D with nx := fun σ H => rdS K W mg A b D σ H } σ H := by
  obtain ⟨F, env, S, p⟩ := h
  refine ⟨F, env, S, ?_⟩
  unfold mSeq at p
  cases ha : a env with
  | nx e =>
    rw [ha] at p
    intro F' H' σ' S' so x
    exact ⟨F', e, S', PostS.trans p so x fun _ o => o⟩
  | rt t e => rw [ha] at p; exact p
  | bk e => rw [ha] at p; exact p
  | ct e => rw [ha] at p; exact p
  | ex c e => rw [ha] at p; exact p
  | no => rw [ha] at p; exact p
/-- an expression's result goes on -/
def onE (m : M T) (k : T → MS) : MS := fun env => match m env with
  | .ok t e => k t e
  | .ex c e => .ex c e
  | .no => .no
theorem rdS_on {m : M T} {k : T → MS} {H : Hp} {Q : VK} (h : rdS K W mg A (onE m k) D σ H)
    (hk : ∀ t e F1 H1 v (L : Addr → Prop), Sta K F1 H1 σ e → Rep K F1 H1 v t → (∀ a, OwnV v t a → ¬ Own σ e a) → (∀ a, Own σ e a → L a) → (∀ a, OwnV v t a → L a) → PostS K W mg A σ F1 H1 L (k t e) D → Q v H1) : rdE K W mg m σ H Q := by
  obtain ⟨F, env, S, p⟩ := h
  refine ⟨F, env, S, ?_⟩
  unfold onE at p
  cases hm : m env with
  | no => rw [hm] at p; exact p
  | ex c e => rw [hm] at p; exact p.ofX
  | ok t e =>
    rw [hm] at p
    intro F1 H1 v S1 r n x
    refine hk t e F1 H1 v (fun a => Own σ e a ∨ OwnV v t a) S1 r n (fun a o => Or.inl o) (fun a o => Or.inr o) ?_
    have p : PostS K W mg A σ F H (Own σ env) (k t e) D := p
    generalize k t e = r at p ⊢
    cases r with
    | no => exact p
    | nx e2 => exact fun F' H' σ' S s y => p F' H' σ' S s (x.trans y (fun a o => o) fun a m => .inr m)
    | bk e2 => exact fun F' H' σ' S s y => p F' H' σ' S s (x.trans y (fun a o => o) fun a m => .inr m)
    | ct e2 => exact fun F' H' σ' S s y => p F' H' σ' S s (x.trans y (fun a o => o) fun a m => .inr m)
    | rt t2 e2 => exact fun F' H' σ' v S s r n y => p F' H' σ' v S s r n (x.trans y (fun a o => o) fun a m => .inr m)
    | ex c e2 => exact fun F' H' σ' C S s y g => p F' H' σ' C S s (x.trans y (fun a o => o) fun a m => .inr m) g
/-- a new value at a slot -/
theorem Sta.put {i : Nat} {t : T} {v : V} (S : Sta K F H σ env) (r : Rep K F H v t) (n : ∀ a, OwnV v t a → ¬ Own σ env a) : Sta K F H (σ.set i (some v)) (env.set i (some t)) := by
  refine ⟨by rw [List.length_set, List.length_set]; exact S.len, S.sub, fun j u e => ?_, fun j k u w z q1 q2 o1 o2 z1 z2 => ?_⟩
  · by_cases z : i = j
    · subst z
      have hi : i < env.length := by
        by_cases hi : i < env.length
        · exact hi
        · rw [List.getElem?_eq_none (by simp; omega)] at e; cases e
      rw [List.getElem?_set_self hi] at e
      cases e
      exact ⟨v, List.getElem?_set_self (by rw [S.len]; exact hi), r⟩
    · rw [List.getElem?_set_ne z] at e ⊢
      exact S.rep j u e
  · have own_old : ∀ {j : Nat} {u : T}, i ≠ j → (env.set i (some t))[j]? = some (some u) → env[j]? = some (some u) := fun {j u} h e => by rw [List.getElem?_set_ne h] at e; exact e
    have own_new : ∀ {u : T}, (env.set i (some t))[i]? = some (some u) → u = t := fun {u} e => by
      rw [List.getElem?_set] at e
      simp only [if_true] at e
      split at e
      · cases e; rfl
      · cases e
    have val_new : ∀ {z : V}, (σ.set i (some v))[i]? = some (some z) → z = v := fun {z} e => by
      rw [List.getElem?_set] at e
      simp only [if_true] at e
      split at e
      · cases e; rfl
      · cases e
    have val_old : ∀ {j : Nat} {z : V}, i ≠ j → (σ.set i (some v))[j]? = some (some z) → σ[j]? = some (some z) := fun {j z} h e => by rw [List.getElem?_set_ne h] at e; exact e
    by_cases hj : i = j
    · by_cases hk : i = k
      · rw [← hj, ← hk]
      · subst hj
        cases own_new q1
        cases val_new z1
        obtain ⟨p, o, e1, _, _⟩ := r.own_at o1
        exact (n p ⟨o1, e1⟩ ⟨k, w, own_old hk q2, o2, by rw [val_old hk z2, e1]⟩).elim
    · by_cases hk : i = k
      · subst hk
        cases own_new q2
        cases val_new z2
        obtain ⟨p, o, e1, _, _⟩ := r.own_at o2
        exact (n p ⟨o2, e1⟩ ⟨j, u, own_old hj q1, o1, by rw [val_old hj z1, e1]⟩).elim
      · exact S.sep j k u w z (own_old hj q1) (own_old hk q2) o1 o2 (val_old hj z1) (val_old hk z2)
theorem own_put {i : Nat} {t : T} {v : V} {a : Addr} (h : Own (σ.set i (some v)) (env.set i (some t)) a) : Own σ env a ∨ OwnV v t a := by
  obtain ⟨j, u, e, w, q⟩ := h
  by_cases z : i = j
  · subst z
    rw [List.getElem?_set] at e q
    simp only [if_true] at e q
    split at e
    · split at q
      · cases e; cases q; exact .inr ⟨w, rfl⟩
      · cases q
    · cases e
  · rw [List.getElem?_set_ne z] at e q
    exact .inl ⟨j, u, e, w, q⟩
def mSet (i : Nat) (m : M T) : MS := onE m fun t e => .nx (e.set i (some t))
def mRet (m : M T) : MS := onE m fun t e => .rt t e
def mExp (m : M T) : MS := onE m fun t e => .nx e
/-- a local name is handed back: it is moved out -/
def mRetV (i : Nat) : MS := fun env => match env[i]? with
  | some (some t) => .rt t (env.set i none)
  | _ => .no
def onT (c : M Bool) (k : Bool → MS) : MS := fun env => match c env with
  | .ok b e => k b e
  | .ex c e => .ex c e
  | .no => .no
def mIf (c : M Bool) (a b : MS) : MS := onT c fun d => if d then a else b
theorem rdS_onT {c : M Bool} {k : Bool → MS} {H : Hp} (h : rdS K W mg A (onT c k) D σ H) : rdT K W mg c σ H fun b H1 => rdS K W mg A (k b) D σ H1 := by
  obtain ⟨F, env, S, p⟩ := h
  refine ⟨F, env, S, ?_⟩
  unfold onT at p
  cases hm : c env with
  | no => rw [hm] at p; exact p
  | ex c e => rw [hm] at p; exact p.ofX
  | ok b e =>
    rw [hm] at p
    exact fun F1 H1 S1 x => ⟨F1, e, S1, PostS.trans p .refl x fun _ o => o⟩
end
section
variable {X : Cx} {A : List Nat} {st : Stmt} {rest : List Stmt} {m n : MS} {e : Expr} {me : M T} {pos : Pos}
theorem vss_nil : VSs X A [] mSkip := fun W _ => pss_nil.weak fun D σ H h => by
  obtain ⟨F, env, S, p⟩ := h
  exact p F H σ S .refl Ext.refl
theorem vss_cons (h : VS X A st m) (hr : VSs X A rest n) : VSs X A (st :: rest) (mSeq m n) := fun W tk => (pss_cons (h W tk) (hr W tk)).weak fun D σ H q => rdS_seq q
theorem vss_one (h : VS X A st m) : VSs X A [st] m := fun W tk => pss_one (h W tk)
theorem vs_pass : VS X A (.Pass pos) mSkip := fun W _ => ps_pass.weak fun D σ H h => by
  obtain ⟨F, env, S, p⟩ := h
  exact p F H σ S .refl Ext.refl
theorem vs_break : VS X A (.Break pos) mBreak := fun W _ => ps_break.weak fun D σ H h => by
  obtain ⟨F, env, S, p⟩ := h
  exact p F H σ S .refl Ext.refl
theorem vs_cont : VS X A (.Continue pos) mCont := fun W _ => ps_continue.weak fun D σ H h => by
  obtain ⟨F, env, S, p⟩ := h
  exact p F H σ S .refl Ext.refl
theorem vs_set {i : Nat} {x : Str} {px : Pos} (hN : X.N.Nodup) (hi : X.N[i]? = some x) (hx : Loc X.env.scope x) (hA : i ∈ A) (he : VE X e me) (hs : swapsWith e (some (.Name x px)) pos.line X.env = pure false) (hf : X.fn x = true ∨ X.env.scope.names.lookup x = some .local) :
    VS X A (.Assign [.Name x px] e pos) (mSet i me) := fun W tk => (ps_set hN hi hx (he W tk) hs hf).weak fun D σ H h =>
  rdS_on h fun t e F1 H1 v L S r n hl hv p => p F1 H1 (σ.set i (some v)) (S.put r n) (.set hA) (Ext.refl.mono fun a o => (own_put o).elim (hl a) (hv a))
theorem vs_ret (he : VE X e me) : VS X A (.Return (some e) pos) (mRet me) := fun W tk => (ps_ret (he W tk)).weak fun D σ H h =>
  rdS_on h fun t e F1 H1 v L S r n hl hv p => p F1 H1 σ v S .refl r n (Ext.refl.mono fun a o => o.elim (hl a) (hv a))
theorem vs_retN : VS X A (.Return none pos) (mRet (mC .non)) := fun W tk => ps_retN.weak fun D σ H h => by
  obtain ⟨F, env, S, p⟩ := h
  exact p F H σ .non S .refl (.ofF (by unfold RepF; rfl)) (fun a o => by have := o.1; cases this) (Ext.refl.mono fun a o => o.elim id fun o => by have := o.1; cases this)
theorem vs_retV {i : Nat} {x : Str} {px : Pos} (hN : X.N[i]? = some x) (hv : Vis X.env.scope x) (hd : (x == ("__debug__" : Str)) = false) (hcd : (x == ("__classdict__" : Str)) = false) : VS X A (.Return (some (.Name x px)) pos) (mRetV i) := fun W tk =>
  (ps_ret (pe_var hN hv hd hcd)).weak fun D σ H h => by
  obtain ⟨F, env, S, p⟩ := h
  unfold mRetV at p
  split at p
  · rename_i t et
    obtain ⟨v, e2, r⟩ := S.rep i t et
    refine ⟨v, e2, ?_⟩
    have hi : i < env.length := (List.getElem?_eq_some_iff.mp et).1
    have f : ∀ {j : Nat} {u : T}, (env.set i none)[j]? = some (some u) → i ≠ j ∧ env[j]? = some (some u) := fun {j u} q => by
      by_cases z : i = j
      · subst z; rw [List.getElem?_set_self hi] at q; cases q
      · rw [List.getElem?_set_ne z] at q; exact ⟨z, q⟩
    have sub : ∀ a, Own σ (env.set i none) a → Own σ env a := fun a ⟨j, u, q, o, w⟩ => ⟨j, u, (f q).2, o, w⟩
    refine p F H σ v ⟨by rw [List.length_set]; exact S.len, S.sub, fun j u q => S.rep j u (f q).2, fun j k u w z q1 q2 => S.sep j k u w z (f q1).2 (f q2).2⟩ .refl r (fun a o ⟨j, u, q, o2, w⟩ => ?_) (Ext.refl.mono fun a o => ?_)
    · refine (f q).1 (S.sep i j t u v et (f q).2 o.1 o2 e2 ?_)
      rw [w, o.2]
    · rcases o with o | o
      · exact sub a o
      · exact ⟨i, t, et, o.1, by rw [e2, o.2]⟩
  · exact p.elim
theorem vs_exp (he : VE X e me) (hs : swapsWith e none pos.line X.env = pure false) : VS X A (.Expr e pos) (mExp me) := fun W tk => (ps_expr (he W tk) hs).weak fun D σ H h =>
  rdS_on h fun t e F1 H1 v L S r n hl hv p => p F1 H1 σ S .refl (Ext.refl.mono hl)
theorem vs_if {c : Expr} {a b : List Stmt} {mc : M Bool} (hc : VT X c mc) (ha : VSs X A a m) (hb : VSs X A b n) : VS X A (.If c a b pos) (mIf mc m n) := fun W tk => (ps_if (hc W tk) (ha W tk) (hb W tk)).weak fun D σ H h =>
  rdT_mono (rdS_onT h) fun b H1 q => by
    cases b with
    | true => rw [if_pos rfl] at q ⊢; exact q
    | false => rw [if_neg Bool.false_ne_true] at q ⊢; exact q
end
end VL

/-! Loops, targets. -/
namespace VL
open PySem L2

section
variable {K : Fr} {W : WX} {mg : MG} {A : List Nat} {F H : Hp} {σ : St} {env : Env} {D : Ends}
/-- a turn's body, then k -/
def mBody (b k : MS) : MS := fun env => match b env with
  | .nx e => k e
  | .ct e => k e
  | .bk e => .nx e
  | r => r
theorem PostS.body {b k : MS} {L : Addr → Prop} (p : PostS K W mg A σ F H L (mBody b k env) D) : PostS K W mg A σ F H L (b env) { D with
    nx := fun σ' H' => ∃ F' e, b env = .nx e ∧ Sta K F' H' σ' e ∧ SameOut A σ σ' ∧ Ext F H L F' H' (Own σ' e) ∧ PostS K W mg A σ' F' H' (Own σ' e) (k e) D,
    ct := fun σ' H' => ∃ F' e, b env = .ct e ∧ Sta K F' H' σ' e ∧ SameOut A σ σ' ∧ Ext F H L F' H' (Own σ' e) ∧ PostS K W mg A σ' F' H' (Own σ' e) (k e) D, bk := D.nx } := by
  unfold mBody at p
  cases hb : b env with
  | nx e => rw [hb] at p; exact fun F' H' σ' S s x => ⟨F', e, rfl, S, s, x, PostS.trans p s x fun _ o => o⟩
  | ct e => rw [hb] at p; exact fun F' H' σ' S s x => ⟨F', e, rfl, S, s, x, PostS.trans p s x fun _ o => o⟩
  | bk e => rw [hb] at p; exact fun F' H' σ' S s x => p F' H' σ' S s x
  | rt t e => rw [hb] at p; exact p
  | ex c e => rw [hb] at p; exact p
  | no => rw [hb] at p; exact p
def mWhileF (c : M Bool) (b : MS) : Nat → MS
  | 0 => fun _ => .no
  | n + 1 => onT c fun d => if d then mBody b (mWhileF c b n) else mSkip
def fuel : Nat := 100000000
def mWhile (c : M Bool) (b : MS) : MS := mWhileF c b fuel
theorem rdS_while {c : M Bool} {b : MS} {n : Nat} {H : Hp} (h : rdS K W mg A (mWhileF c b n) D σ H) : tWhile (rdT K W mg c) (rdS K W mg A b) D σ H := by
  refine ⟨fun m σ H => rdS K W mg A (mWhileF c b m) D σ H, ⟨n, h⟩, fun m σ H w => ?_⟩
  cases m with
  | zero => obtain ⟨F, env, S, p⟩ := w; exact p.elim
  | succ m =>
    refine rdT_mono (rdS_onT w) fun b' H1 q => ?_
    cases b' with
    | false =>
      rw [if_neg Bool.false_ne_true] at q ⊢
      obtain ⟨F, env, S, p⟩ := q
      exact p F H1 σ S .refl Ext.refl
    | true =>
      rw [if_pos rfl] at q ⊢
      refine ⟨fun σ H => rdS K W mg A (mWhileF c b m) D σ H, fun σ' H' w => ⟨m, Nat.lt_succ_self _, w⟩, ?_⟩
      obtain ⟨F, env, S, p⟩ := q
      refine ⟨F, env, S, PostS.ends (PostS.body p) (fun _ _ q => q) (fun _ _ q => q) (fun σ' H' q => ?_) (fun σ' H' q => ?_)⟩
      · obtain ⟨F', e, _, S', _, _, p'⟩ := q; exact ⟨F', e, S', p'⟩
      · obtain ⟨F', e, _, S', _, _, p'⟩ := q; exact ⟨F', e, S', p'⟩
end
section
variable {X : Cx} {A : List Nat} {c : Expr} {body : List Stmt} {mc : M Bool} {mb : MS} {pos : Pos}
theorem vs_while (hp : PassesOwn (model X.prog X.w) X.A X.env X.xe) (hc : VT X c mc) (hb : VSs X A body mb) : VS X A (.While c body [] pos) (mWhile mc mb) :=
  fun W tk => (ps_while hp (hc W tk) (hb W tk)).weak fun D σ H h => rdS_while h
end

/-! ### targets -/
abbrev G := T → Env → R Unit
def PostG (K : Fr) (A : List Nat) (σ : St) (F H : Hp) (L : Addr → Prop) (r : R Unit) (Q : St → Hp → Prop) : Prop := match r with
  | .ok _ e => ∀ F' H' σ', Sta K F' H' σ' e → SameOut A σ σ' → Ext F H L F' H' (Own σ' e) → Q σ' H'
  | _ => False
def rdG (K : Fr) (A : List Nat) (g : G) : TG := fun v σ H Q => ∃ F env t, Sta K F H σ env ∧ Rep K F H v t ∧ (∀ a, OwnV v t a → ¬ Own σ env a) ∧ PostG K A σ F H (fun a => Own σ env a ∨ OwnV v t a) (g t env) Q
abbrev Gs := List T → Env → R Unit
def rdGs (K : Fr) (A : List Nat) (g : Gs) : TGs := fun vs σ H Q => ∃ F env ts, Sta K F H σ env ∧ RepFs K F vs ts ∧ PostG K A σ F H (Own σ env) (g ts env) Q
def VG (X : Cx) (A : List Nat) (e : Expr) (g : G) : Prop := ∀ W, Takes X W → PG X e (rdG X.K A g)
def VGs (X : Cx) (A : List Nat) (e : List Expr) (g : Gs) : Prop := ∀ W, Takes X W → PGs X e (rdGs X.K A g)
theorem _root_.L2.PG.weak {X : Cx} {e : Expr} {t t' : TG} (h : PG X e t) (w : ∀ v σ H Q, t' v σ H Q → t v σ H Q) : PG X e t' := ⟨fun p s σ H v u Q I r q => h.run p s σ H v u Q I r (w _ _ _ _ q)⟩
theorem _root_.L2.PGs.weak {X : Cx} {e : List Expr} {t t' : TGs} (h : PGs X e t) (w : ∀ v σ H Q, t' v σ H Q → t v σ H Q) : PGs X e t' := ⟨fun p s σ H v u Q I r q => h.run p s σ H v u Q I r (w _ _ _ _ q)⟩
def gName (i : Nat) : G := fun t e => .ok () (e.set i (some t))
def gsNil : Gs := fun ts e => match ts with
  | [] => .ok () e
  | _ => .no
def gsCons (g : G) (r : Gs) : Gs := fun ts e => match ts with
  | t :: ts => (g t e).bind fun _ e1 => r ts e1
  | _ => .no
def gTup (n : Nat) (r : Gs) : G := fun t e => match t with
  | .tup ts => if ts.length = n then r ts e else .no
  | .lst _ ts => if ts.length = n then r ts e else .no
  | _ => .no
section
open PySem.W in
/-- (a, b, ..) = a tuple, a list of that length -/
theorem pg_seq {X : Cx} {pos : Pos} {es : List Expr} {k : Nat} {t : TGs} {n : Nat} (hc : X.calm = true) (h : PGs X es t)
    (hn : (assignEach es X.env).length = n := by rfl) (hst : (assignEach es X.env).findIdx? (·.1) = none := by rfl) : PG X (.Tuple es k pos) (fun v σ H Q => ∃ a xs, v = .ref a ∧ (SqT X.K H a xs ∨ SqL X.K H a xs) ∧ xs.length = n ∧ t xs σ H Q) := by
  refine ⟨fun pins s σ H v u Q I r hw => ?_⟩
  obtain ⟨a, xs, e1, hq, hl, hw⟩ := hw
  subst e1
  cases r
  rcases hq with hq | hq
  · obtain ⟨its, rv, ht, hz⟩ := I.tuple hq
    refine PyProof.Rows.assign_Tuple_tuple (I.ok.hd hc) ht (by simp [hn, ← hl, rv.length]) hst fun h' hx => ?_
    exact h.run pins _ σ H xs _ Q (I.kept (t' := s.toks) fun b o e => hx b o (Nat.ne_of_lt (Heap.lt_size e)) e) (by simpa using rv) hw
  · obtain ⟨its, rv, ht, hz⟩ := I.list hq
    rw [PyProof.Rows.assign_Tuple]
    refine wpAny_bind (wpAny_standAt ?_)
    have hn' : (assignEach es X.env).length = its.toArray.size := by rw [hn, ← hl]; simpa using rv.length
    obtain ⟨o, m, h1, h2, h3, h4⟩ := ht
    unfold unpack
    rw [hn', hst]
    refine wpAny_bind (wpAny_holding (kun_itemsOf (I.ok.hd hc) ⟨o, h1, h2, m, h4⟩ fun h' hx => ?_))
    exact h.run pins _ σ H xs _ Q (I.kept (t' := s.toks) fun b o e => hx b o (Nat.ne_of_lt (Heap.lt_size e)) e) (by simpa using rv) hw
end
section
variable {K : Fr} {A : List Nat} {F H : Hp} {σ : St} {env : Env} {Q : St → Hp → Prop}
theorem PostG.trans {F1 H1 : Hp} {L M1 : Addr → Prop} {r : R Unit} {σ1 : St} {e1 : Env} (p : PostG K A σ F H L r Q) (so : SameOut A σ σ1) (x : Ext F H L F1 H1 M1) (hs : ∀ a, Own σ1 e1 a → M1 a) : PostG K A σ1 F1 H1 (Own σ1 e1) r Q := by
  cases r with
  | no => exact p
  | ex c e => exact p
  | ok u e => exact fun F' H' σ' S s y => p F' H' σ' S (so.trans s) (x.trans y hs fun a m => .inr m)
end
section
variable {X : Cx} {A : List Nat} {pos : Pos} {e : Expr} {es : List Expr} {g : G} {r : Gs}
theorem vg_name {i : Nat} {x : Str} (hN : X.N.Nodup) (hi : X.N[i]? = some x) (hx : Loc X.env.scope x) (hA : i ∈ A) (hf : X.fn x = true ∨ X.env.scope.names.lookup x = some .local) : VG X A (.Name x pos) (gName i) :=
  fun W _ => (pg_name hN hi hx hf).weak fun v σ H Q ⟨F, env, t, S, rp, n, p⟩ => p F H (σ.set i (some v)) (S.put rp n) (.set hA) (Ext.refl.mono fun a o => own_put o)
theorem vgs_nil : VGs X A [] gsNil := fun W _ => pgs_nil.weak fun vs σ H Q ⟨F, env, ts, S, rp, p⟩ => by
  cases ts with
  | nil =>
    unfold RepFs at rp
    exact ⟨rp, p F H σ S .refl Ext.refl⟩
  | cons t ts => exact p.elim
theorem vgs_cons (h : VG X A e g) (hr : VGs X A es r) (hs : (assignEach (e :: es) X.env).map (·.2) = assign e X.env :: (assignEach es X.env).map (·.2)) : VGs X A (e :: es) (gsCons g r) :=
  fun W tk => (pgs_cons (h W tk) (hr W tk) hs).weak fun vs σ H Q ⟨F, env, ts, S, rp, p⟩ => by
  cases ts with
  | nil => exact p.elim
  | cons t ts =>
    unfold RepFs at rp
    obtain ⟨v, vr, e1, r1, r2⟩ := rp
    refine ⟨v, vr, e1, F, env, t, S, .ofF r1, fun a o => ?_, ?_⟩
    · have := o.1; rw [r1.notown] at this; cases this
    · simp only [gsCons] at p
      cases hg : g t env with
      | no => rw [hg] at p; exact p.elim
      | ex c e => rw [hg] at p; exact p.elim
      | ok u e1 =>
        rw [hg] at p
        simp only [R.bind] at p
        intro F1 H1 σ1 S1 so x
        have x' : Ext F H (Own σ env) F1 H1 (Own σ1 e1) := x.widen (L' := Own σ env) fun a o => o.elim id fun o => by have := o.1; rw [r1.notown] at this; cases this
        exact ⟨F1, e1, ts, S1, r2.mono x.frz, PostG.trans p so x' fun _ o => o⟩
theorem vg_tup {k} {n : Nat} (hc : X.calm = true) (h : VGs X A es r) (hn : (assignEach es X.env).length = n) (hst : (assignEach es X.env).findIdx? (·.1) = none) : VG X A (.Tuple es k pos) (gTup n r) :=
  fun W tk => (pg_seq hc (h W tk) hn hst).weak fun v σ H Q ⟨F, env, t, S, rp, n', p⟩ => by
  have go : ∀ (q : Addr) (vs : List V) (ts : List T), v = .ref q → (SqT X.K H q vs ∨ SqL X.K H q vs) → RepFs X.K F vs ts → PostG X.K A σ F H (fun a => Own σ env a ∨ OwnV v t a) (if ts.length = n then r ts env else .no) Q →
      ∃ a xs, v = .ref a ∧ (SqT X.K H a xs ∨ SqL X.K H a xs) ∧ xs.length = n ∧ rdGs X.K A r xs σ H Q := by
    intro q vs ts e1 h1 h2 p
    by_cases z : ts.length = n
    · rw [if_pos z] at p
      exact ⟨q, vs, e1, h1, by rw [h2.len, z], F, env, ts, S, h2, by
        cases hr : r ts env with
        | no => rw [hr] at p; exact p
        | ex c e => rw [hr] at p; exact p
        | ok u e2 =>
          rw [hr] at p
          exact fun F' H' σ' S' s y => p F' H' σ' S' s (y.widen fun a o => .inl o)⟩
    · rw [if_neg z] at p; exact p.elim
  cases t with
  | tup ts =>
    have rp := rp.toF rfl
    unfold RepF at rp
    obtain ⟨q, vs, e1, h1, h2⟩ := rp
    exact go q vs ts e1 (.inl (SqT.of (S.sub _ _ h1))) h2 p
  | lst o ts =>
    cases o with
    | false =>
      have rp := rp.toF rfl
      unfold RepF at rp
      obtain ⟨_, q, vs, e1, h1, h2⟩ := rp
      exact go q vs ts e1 (.inr (SqL.of (S.sub _ _ h1))) h2 p
    | true =>
      unfold Rep at rp
      obtain ⟨q, vs, e1, h0, h1, h2⟩ := rp
      exact go q vs ts e1 (.inr (SqL.of h1)) h2 p
  | _ => exact p.elim
/-- target = value -/
def mAsg (m : M T) (g : G) : MS := onE m fun t e => match g t e with
  | .ok _ e' => .nx e'
  | _ => .no
theorem vs_asg {tg : Expr} {m : M T} (he : VE X e m) (hg : VG X A tg g) (hs : swapsWithSole [tg] e pos.line X.env = pure false) (hw : swappedStores [tg] e X.env = pure none)
    (h1 : (assignEach [tg] X.env).map (·.2) = [assign tg X.env]) : VS X A (.Assign [tg] e pos) (mAsg m g) := fun W tk => (ps_asg (he W tk) (hg W tk) hs hw h1).weak fun D σ H h =>
  rdS_on h fun t e F1 H1 v L S r n hl hv p => ⟨F1, e, t, S, r, n, by
    cases hr : g t e with
    | no => rw [hr] at p; exact p
    | ex c e => rw [hr] at p; exact p
    | ok u e2 =>
      rw [hr] at p
      exact fun F' H' σ' S' s y => p F' H' σ' S' s (y.widen fun a o => o.elim (hl a) (hv a))⟩
end

/-! ### what a loop walks -/
/-- at the turns i < n items that stand for ts -/
def Src (K : Fr) (J : It) (F : Hp) (ts : List T) : Prop := ∃ (Gd : Hp → Prop) (Y : Nat → Hp → V → Hp → Prop), Walk J ts.length Gd Y ∧ (∀ H, Same F H → Gd H) ∧
  ∀ (i : Nat) (t : T) F1 H x H', ts[i]? = some t → Same F F1 → Same F1 H → Y i H x H' → ∃ F', Same F' H' ∧ Ext F1 H (fun _ => False) F' H' (fun _ => False) ∧ RepF K F' x t
def PostI (K : Fr) (W : WX) (mg : MG) (σ : St) (F H : Hp) (L : Addr → Prop) (r : R (List T)) (Q : It → Hp → Prop) : Prop := match r with
  | .ok ts env' => ∀ F' H' J, Sta K F' H' σ env' → Ext F H L F' H' (Own σ env') → Src K J F' ts → Q J H'
  | .ex c env' => PostX K W mg σ F H L c env'
  | .no => False
def rdI (K : Fr) (W : WX) (mg : MG) (m : M (List T)) : TI := fun σ H Q => ∃ F env, Sta K F H σ env ∧ PostI K W mg σ F H (Own σ env) (m env) Q
def VI (X : Cx) (tg it : Expr) (m : M (List T)) : Prop := ∀ W, Takes X W → PI X tg it (rdI X.K W X.mg m)
theorem _root_.L2.PI.weak {X : Cx} {tg it : Expr} {t t' : TI} (h : PI X tg it t) (w : ∀ σ H Q, t' σ H Q → t σ H Q) : PI X tg it t' := ⟨fun p s σ H Q I q => h.run p s σ H Q I (w _ _ _ q)⟩
def mLoop (g : G) (b : MS) : List T → MS
  | [] => mSkip
  | t :: ts => fun env => match g t env with
    | .ok _ e => mBody b (mLoop g b ts) e
    | _ => .no
def mFor (m : M (List T)) (g : G) (b : MS) : MS := fun env => match m env with
  | .ok ts e => mLoop g b ts e
  | .ex c e => .ex c e
  | .no => .no
section
variable {K : Fr} {W : WX} {mg : MG} {A : List Nat} {F H : Hp} {σ : St} {env : Env} {D : Ends}
theorem rdS_for {m : M (List T)} {g : G} {b : MS} {H : Hp} (h : rdS K W mg A (mFor m g b) D σ H) : tFor (rdI K W mg m) (rdG K A g) (rdS K W mg A b) D σ H := by
  obtain ⟨F, env, S, p⟩ := h
  refine ⟨F, env, S, ?_⟩
  unfold mFor at p
  cases hm : m env with
  | no => rw [hm] at p; exact p
  | ex c e => rw [hm] at p; exact p.ofX
  | ok ts e =>
    rw [hm] at p
    intro F0 H0 J S0 x0 ⟨Gd, Y, wk, hG, hY⟩
    have p0 : PostS K W mg A σ F0 H0 (Own σ e) (mLoop g b ts e) D := PostS.trans p .refl x0 fun _ o => o
    refine for_it wk (fun i σ H => ∃ F env, Sta K F H σ env ∧ Same F0 F ∧ PostS K W mg A σ F H (Own σ env) (mLoop g b (ts.drop i) env) D) ⟨F0, e, S0, fun _ _ q => q, p0⟩ (fun i σ H _ ⟨F, env, S, s, _⟩ => hG H fun a o z => S.sub a o (s a o z)) (fun i x σ H H' hi ⟨F, env, S, s, p⟩ y => ?_) (fun σ H ⟨F, env, S, s, p⟩ => ?_)
    · rw [List.drop_eq_getElem_cons hi] at p
      obtain ⟨F', sm, xe, rp⟩ := hY i ts[i] F H x H' (List.getElem?_eq_getElem hi) s S.sub y
      have S' : Sta K F' H' σ env := S.ext xe sm fun a _ z => z
      have p' : PostS K W mg A σ F' H' (Own σ env) (mLoop g b (ts[i] :: ts.drop (i + 1)) env) D := by
        have xe' : Ext F H (Own σ env) F' H' (Own σ env) := ⟨xe.frz, fun a o z _ => xe.keep a o z fun w => w, fun a o => .inl o, fun a o z => (xe.new a o z).imp id fun w => w.elim (fun w => w.elim) .inr, xe.dom⟩
        exact PostS.trans p .refl xe' fun _ o => o
      refine ⟨F', env, ts[i], S', .ofF rp, fun a o => ?_, ?_⟩
      · have := o.1; rw [rp.notown] at this; cases this
      · simp only [mLoop] at p'
        cases hg : g ts[i] env with
        | no => rw [hg] at p'; exact p'
        | ex c e => rw [hg] at p'; exact p'
        | ok u e1 =>
          rw [hg] at p'
          intro F1 H1 σ1 S1 so x1
          have x1' : Ext F' H' (Own σ env) F1 H1 (Own σ1 e1) := x1.widen fun a o => o.elim id fun o => by have := o.1; rw [rp.notown] at this; cases this
          have s1 : Same F0 F1 := fun a o z => x1.frz a o (xe.frz a o (s a o z))
          have p1 : PostS K W mg A σ1 F1 H1 (Own σ1 e1) (mBody b (mLoop g b (ts.drop (i + 1))) e1) D := PostS.trans p' so x1' fun _ o => o
          refine ⟨F1, e1, S1, PostS.ends (PostS.body p1) (fun _ _ q => q) (fun _ _ q => q) (fun σ' H' q => ?_) (fun σ' H' q => ?_)⟩
          · obtain ⟨F', e, _, S', _, x, p'⟩ := q; exact ⟨F', e, S', fun a o z => x.frz a o (s1 a o z), p'⟩
          · obtain ⟨F', e, _, S', _, x, p'⟩ := q; exact ⟨F', e, S', fun a o z => x.frz a o (s1 a o z), p'⟩
    · rw [List.drop_length] at p
      exact p F H σ S .refl Ext.refl
end
section
variable {X : Cx} {A : List Nat} {tg it : Expr} {body : List Stmt} {m : M (List T)} {g : G} {mb : MS} {pos : Pos}
theorem vs_for (hp : PassesOwn (model X.prog X.w) X.A X.env X.xe) (hc : X.calm = true) (hi : VI X tg it m) (hg : VG X A tg g) (hb : VSs X A body mb) (hs : ∀ x, foldedSetIterable it X.env x = pure x) : VS X A (.For tg it body [] pos) (mFor m g mb) :=
  fun W tk => (ps_for hp hc (hi W tk) (hg W tk) (hb W tk) hs).weak fun D σ H h => rdS_for h
end
/-- a list, a tuple, a text of which the items are asked: the value is frozen -/
def itemsT : T → Option (List T)
  | .tup ts => some ts
  | .lst _ ts => some ts
  | .scr ns => some (ns.map T.int)
  | .str z => some (z.cps.toList.map fun c => .str ⟨#[c]⟩)
  | _ => none
def mItems (m : M T) : M (List T) := fun env => (m env).bind fun t e => match itemsT t with
  | some ts => .ok ts e
  | none => .no
section
variable {K : Fr} {W : WX} {mg : MG} {F H : Hp} {σ : St} {env : Env}
theorem src_list {a : Addr} {vs : List V} {ts : List T} (h : SqL K F a vs) (r : RepFs K F vs ts) : Src K (Itl K a) F ts := by
  refine ⟨fun H => SqL K H a vs, YAt vs, by rw [← r.len]; exact walk_list, fun H s => sqL_mono s h, fun i t F1 H x H' e s1 s2 y => ?_⟩
  obtain ⟨rfl, ex⟩ := y
  obtain ⟨v, ev, rv⟩ := r.get e
  rw [ex] at ev; cases ev
  exact ⟨F1, s2, Ext.refl, rv.mono s1⟩
theorem src_tup {a : Addr} {vs : List V} {ts : List T} (h : SqT K F a vs) (r : RepFs K F vs ts) : Src K (Itt K a) F ts := by
  refine ⟨fun H => SqT K H a vs, YAt vs, by rw [← r.len]; exact walk_tup, fun H s => sqT_mono s h, fun i t F1 H x H' e s1 s2 y => ?_⟩
  obtain ⟨rfl, ex⟩ := y
  obtain ⟨v, ev, rv⟩ := r.get e
  rw [ex] at ev; cases ev
  exact ⟨F1, s2, Ext.refl, rv.mono s1⟩
theorem src_str {z : Str} : Src K (Its z) F (z.cps.toList.map fun c => T.str ⟨#[c]⟩) := by
  refine ⟨fun _ => True, _, by rw [List.length_map, Array.length_toList]; exact walk_str, fun H s => trivial, fun i t F1 H x H' e s1 s2 y => ?_⟩
  obtain ⟨rfl, c, ec, rfl⟩ := y
  rw [List.getElem?_map, Array.getElem?_toList, ec] at e
  cases e
  exact ⟨F1, s2, Ext.refl, by unfold RepF; rfl⟩
theorem repInts {F : Hp} : ∀ ns : List Int, RepFs K F (ns.map V.int) (ns.map T.int)
  | [] => .nil
  | n :: ns => .cons (by unfold RepF; rfl) (repInts ns)
/-- a temporary value is frozen -/
theorem Sta.frzV {v : V} {t : T} (S : Sta K F H σ env) (r : Rep K F H v t) (n : ∀ a, OwnV v t a → ¬ Own σ env a) : ∃ F', Sta K F' H σ env ∧ RepF K F' v t.frz ∧ Ext F H (fun a => Own σ env a ∨ OwnV v t a) F' H (Own σ env) := by
  obtain ⟨F', s1, s2, rf, n'⟩ := frz_one S.sub r
  have x : Ext F H (OwnV v t) F' H (fun _ => False) := Ext.frzd s1 n' (fun _ z => z) (fun _ z => z.elim)
  exact ⟨F', S.ext x s2 fun a o z => n a z o, rf, Ext.frzd s1 n' (fun _ z => .inr z) fun _ z => .inl z⟩
end
section
variable {X : Cx} {tg it : Expr} {m : M T}
theorem vi_items (h : VE X it m) : VI X tg it (mItems m) := fun W tk => ⟨fun p s σ H Q I q => by
  have key : (iList X.K (rdE X.K W X.mg m) σ H Q ∨ iTup X.K (rdE X.K W X.mg m) σ H Q ∨ iStr (rdE X.K W X.mg m) σ H Q) := by
    obtain ⟨F, env, S, q⟩ := q
    unfold mItems at q
    cases hm : m env with
    | no => rw [hm] at q; exact q.elim
    | ex c e => rw [hm] at q; exact .inl ⟨F, env, S, by rw [hm]; exact q⟩
    | ok t e =>
      rw [hm] at q
      simp only [R.bind] at q
      cases t with
      | tup ts =>
        refine .inr (.inl ⟨F, env, S, ?_⟩)
        rw [hm]
        intro F1 H1 v S1 r n x
        have r := r.toF rfl
        unfold RepF at r
        obtain ⟨a, vs, rfl, h1, h2⟩ := r
        exact ⟨a, rfl, ⟨vs, SqT.of (S1.sub _ _ h1)⟩, q F1 H1 _ S1 (x.mono fun a o => .inl o) (src_tup (SqT.of h1) h2)⟩
      | lst o ts =>
        refine .inl ⟨F, env, S, ?_⟩
        rw [hm]
        intro F1 H1 v S1 r n x
        obtain ⟨F2, S2, rf, x2⟩ := S1.frzV r n
        unfold T.frz RepF at rf
        obtain ⟨_, a, vs, rfl, h1, h2⟩ := rf
        exact ⟨a, rfl, ⟨vs, SqL.of (S2.sub _ _ h1)⟩, q F2 H1 _ S2 (x.trans x2 (fun a o => o) fun a o => .inr o) (src_list (SqL.of h1) h2)⟩
      | scr ns =>
        refine .inl ⟨F, env, S, ?_⟩
        rw [hm]
        intro F1 H1 v S1 r n x
        have r := r.toF rfl
        unfold RepF at r
        obtain ⟨a, rfl, h1⟩ := r
        exact ⟨a, rfl, ⟨_, sqL_mono S1.sub h1⟩, q F1 H1 _ S1 (x.mono fun a o => .inl o) (src_list h1 (repInts ns))⟩
      | str z =>
        refine .inr (.inr ⟨F, env, S, ?_⟩)
        rw [hm]
        intro F1 H1 v S1 r n x
        have r := r.toF rfl
        unfold RepF at r
        subst r
        exact ⟨z, rfl, q F1 H1 _ S1 (x.mono fun a o => .inl o) src_str⟩
      | _ => exact q.elim
  rcases key with k | k | k
  · exact (pi_list (h W tk)).run p s σ H Q I k
  · exact (pi_tup (h W tk)).run p s σ H Q I k
  · exact (pi_str (h W tk)).run p s σ H Q I k⟩
end
end VL

/-! Defs: their promise, calls. -/
namespace VL
open PySem L2

/-- a def on trees: the answer, and what stands at the parameters then -/
abbrev Den := List T → R T
def envOf (ts : List T) : Env := ts.map some
def stOf (vs : List V) : L2.St := vs.map some
def PostF (K : Fr) (mg : MG) (vs : List V) (ts : List T) (F H : Hp) (r : R T) (Q : VK) (E : XK) : Prop := match r with
  | .ok t ps => ∀ F' H' v, Sta K F' H' (stOf vs) ps → Rep K F' H' v t → (∀ a, OwnV v t a → ¬ Own (stOf vs) ps a) → Ext F H (Own (stOf vs) (envOf ts)) F' H' (fun a => Own (stOf vs) ps a ∨ OwnV v t a) → Q v H'
  | .ex c ps => ∀ F' H' C, Sta K F' H' (stOf vs) ps → Ext F H (Own (stOf vs) (envOf ts)) F' H' (Own (stOf vs) ps) → mg c = some (.ref C) → E (.ref C) none H'
  | .no => False
def spOf (K : Fr) (mg : MG) (n : Nat) (d : Den) : Sp := fun vs H Q E => vs.length = n ∧ ∃ F ts, Sta K F H (stOf vs) (envOf ts) ∧ PostF K mg vs ts F H (d ts) Q E
structure Def (P : Program) (w : World) (K : Fr) (mg : MG) (base : Heap) (x : Str) (n k : Nat) (d : Den) : Prop where
  ex : ∃ f fd ps, ps.length = n ∧ mg x = some (.ref f) ∧ PySem.W.keepIn K (.ref f) = true ∧ Binds K fd ps [] ∧ FnOk P w K mg base (L2.CX P w) k f fd ps (spOf K mg n d)

/-! ### a def's body -/
def fin : List T → Env → Env
  | [], _ => []
  | t :: ts, [] => some t :: fin ts []
  | t :: ts, o :: e => (if t.own then o else some t) :: fin ts e
theorem fin_len : ∀ (ts : List T) (e : Env), (fin ts e).length = ts.length
  | [], _ => rfl
  | t :: ts, [] => by simp [fin, fin_len ts]
  | t :: ts, o :: e => by simp [fin, fin_len ts]
theorem fin_get : ∀ (ts : List T) (e : Env) (i : Nat) (u : T), (fin ts e)[i]? = some (some u) → ∃ t, ts[i]? = some t ∧ ((t.own = true ∧ e[i]? = some (some u)) ∨ u = t)
  | [], _, i, u, h => by simp [fin] at h
  | t :: ts, [], 0, u, h => by simp [fin] at h; exact ⟨t, rfl, .inr h.symm⟩
  | t :: ts, [], i + 1, u, h => by
    obtain ⟨t', h1, h2⟩ := fin_get ts [] i u (by simpa [fin] using h)
    exact ⟨t', by simpa using h1, h2.imp (fun z => ⟨z.1, by simpa using z.2⟩) id⟩
  | t :: ts, o :: e, 0, u, h => by
    simp only [fin, List.getElem?_cons_zero, Option.some.injEq] at h
    refine ⟨t, rfl, ?_⟩
    split at h
    · exact .inl ⟨by assumption, by simp [h]⟩
    · cases h; exact .inr rfl
  | t :: ts, o :: e, i + 1, u, h => by
    obtain ⟨t', h1, h2⟩ := fin_get ts e i u (by simpa [fin] using h)
    exact ⟨t', by simpa using h1, h2.imp (fun z => ⟨z.1, by simpa using z.2⟩) id⟩
/-- N names, n of them parameters; ap: the parameters that are stored anew -/
def mkDen (N n : Nat) (ap : List Nat) (body : MS) : Den := fun ts =>
  if (ts.length == n && ap.all fun i => !((ts[i]?.map T.own).getD false)) = true then
    match body (envOf ts ++ List.replicate (N - n) none) with
    | .nx e => .ok .non (fin ts e)
    | .rt t e => .ok t (fin ts e)
    | .ex c e => .ex c (fin ts e)
    | _ => .no
  else .no
section
variable {K : Fr} {mg : MG} {A : List Nat} {F H : Hp} {σ : St} {env : Env}
theorem sta_start {vs : List V} {ts : List T} {m : Nat} (S : Sta K F H (stOf vs) (envOf ts)) : Sta K F H (stOf vs ++ List.replicate m none) (envOf ts ++ List.replicate m none) := by
  have g : ∀ {i : Nat} {t : T}, (envOf ts ++ List.replicate m none)[i]? = some (some t) → (envOf ts)[i]? = some (some t) := fun {i t} e => by
    by_cases h : i < (envOf ts).length
    · rwa [List.getElem?_append_left h] at e
    · rw [List.getElem?_append_right (by omega), List.getElem?_replicate] at e
      split at e <;> cases e
  have g2 : ∀ {i : Nat} {t : V}, (stOf vs ++ List.replicate m none)[i]? = some (some t) → (stOf vs)[i]? = some (some t) := fun {i t} e => by
    by_cases h : i < (stOf vs).length
    · rwa [List.getElem?_append_left h] at e
    · rw [List.getElem?_append_right (by omega), List.getElem?_replicate] at e
      split at e <;> cases e
  refine ⟨by simp [S.len], S.sub, fun i t e => ?_, fun i j t u v q1 q2 o1 o2 z1 z2 => S.sep i j t u v (g q1) (g q2) o1 o2 (g2 z1) (g2 z2)⟩
  obtain ⟨v, e2, r⟩ := S.rep i t (g e)
  refine ⟨v, ?_, r⟩
  have hi : i < (stOf vs).length := (List.getElem?_eq_some_iff.mp e2).1
  rw [List.getElem?_append_left hi]; exact e2
theorem own_start {vs : List V} {ts : List T} {m : Nat} {a : Addr} (h : Own (stOf vs ++ List.replicate m none) (envOf ts ++ List.replicate m none) a) : Own (stOf vs) (envOf ts) a := by
  obtain ⟨i, t, e, o, q⟩ := h
  have e' : (envOf ts)[i]? = some (some t) := by
    by_cases h : i < (envOf ts).length
    · rwa [List.getElem?_append_left h] at e
    · rw [List.getElem?_append_right (by omega), List.getElem?_replicate] at e
      split at e <;> cases e
  have q' : (stOf vs)[i]? = some (some (V.ref a)) := by
    by_cases h : i < (stOf vs).length
    · rwa [List.getElem?_append_left h] at q
    · rw [List.getElem?_append_right (by omega), List.getElem?_replicate] at q
      split at q <;> cases q
  exact ⟨i, t, e', o, q'⟩
/-- the parameters behind the body -/
theorem sta_fin {vs : List V} {ts : List T} {m : Nat} {F' H' : Hp} {σ' : St} {e : Env} {L : Addr → Prop} (S : Sta K F H (stOf vs) (envOf ts)) (S' : Sta K F' H' σ' e)
    (so : SameOut A (stOf vs ++ List.replicate m none) σ') (hs : Same F F') (hA : ∀ i ∈ A, ∀ t, ts[i]? = some t → t.own = false) : Sta K F' H' (stOf vs) (fin ts e) ∧ (∀ a, Own (stOf vs) (fin ts e) a → Own σ' e a) := by
  have hl : vs.length = ts.length := by have := S.len; simpa [stOf, envOf] using this
  have key : ∀ (i : Nat) (u : T) (v : V), (fin ts e)[i]? = some (some u) → u.own = true → vs[i]? = some v → e[i]? = some (some u) ∧ σ'[i]? = some (some v) := fun i u v q o hv => by
    obtain ⟨t, h1, h2⟩ := fin_get ts e i u q
    rcases h2 with ⟨ot, h2⟩ | h2
    · refine ⟨h2, ?_⟩
      have hi : i ∉ A := fun hA' => by rw [hA i hA' t h1] at ot; cases ot
      rw [so.2 i hi, List.getElem?_append_left (by simp [stOf]; exact (List.getElem?_eq_some_iff.mp hv).1)]
      simp [stOf, hv]
    · subst h2
      have hi : i ∉ A := fun hA' => by rw [hA i hA' u h1] at o; cases o
      -- an own parameter: its slot in e
      have q2 := q
      have : ∀ (ts : List T) (e : Env) (i : Nat) (u : T), (fin ts e)[i]? = some (some u) → ts[i]? = some u → u.own = true → i < e.length → e[i]? = some (some u) := by
        intro ts
        induction ts with
        | nil => intro e i u h; simp [fin] at h
        | cons t ts ih =>
          intro e i u h1 h2 h3 h4
          cases e with
          | nil => simp at h4
          | cons o e =>
            cases i with
            | zero =>
              simp at h2; subst h2
              simp [fin, h3] at h1; simp [h1]
            | succ i => simpa using ih e i u (by simpa [fin] using h1) (by simpa using h2) h3 (by simpa using h4)
      have hil : i < e.length := by
        have h5 := S'.len
        have h6 := so.1
        have h7 := (List.getElem?_eq_some_iff.mp hv).1
        simp [stOf] at h6
        omega
      refine ⟨this ts e i u q2 h1 o hil, ?_⟩
      rw [so.2 i hi, List.getElem?_append_left (by simp [stOf]; exact (List.getElem?_eq_some_iff.mp hv).1)]
      simp [stOf, hv]
  have vals : ∀ {i : Nat} {v : V}, (stOf vs)[i]? = some (some v) → vs[i]? = some v := fun {i v} h => by
    unfold stOf at h
    rw [List.getElem?_map] at h
    cases q : vs[i]? with
    | none => rw [q] at h; cases h
    | some w => rw [q] at h; cases h; rfl
  refine ⟨⟨by simp [stOf, fin_len, hl], S'.sub, fun i u q => ?_, fun i j t u v q1 q2 o1 o2 z1 z2 => ?_⟩, fun a ⟨i, u, q, o, z⟩ => ?_⟩
  · obtain ⟨t, h1, h2⟩ := fin_get ts e i u q
    obtain ⟨v, e2, r⟩ := S.rep i t (by simp [envOf, h1])
    have hv := vals e2
    by_cases o : u.own = true
    · obtain ⟨k1, k2⟩ := key i u v q o hv
      obtain ⟨v', k3, k4⟩ := S'.rep i u k1
      rw [k2] at k3; cases k3
      exact ⟨v, e2, k4⟩
    · rcases h2 with ⟨ot, h2⟩ | h2
      · have hi : i ∉ A := fun hA' => by rw [hA i hA' t h1] at ot; cases ot
        obtain ⟨v', k3, k4⟩ := S'.rep i u h2
        have : σ'[i]? = some (some v) := by
          rw [so.2 i hi, List.getElem?_append_left (by simp [stOf]; exact (List.getElem?_eq_some_iff.mp hv).1)]
          simp [stOf, hv]
        rw [this] at k3; cases k3
        exact ⟨v, e2, k4⟩
      · subst h2
        have o' : u.own = false := by simpa using o
        exact ⟨v, e2, .ofF (RepF.mono hs _ _ (r.toF o'))⟩
  · obtain ⟨k1, k2⟩ := key i t v q1 o1 (vals z1)
    obtain ⟨k3, k4⟩ := key j u v q2 o2 (vals z2)
    exact S'.sep i j t u v k1 k3 o1 o2 k2 k4
  · obtain ⟨k1, k2⟩ := key i u _ q o (vals z)
    exact ⟨i, u, k1, o, k2⟩
end
/-- THE RULE for a def -/
theorem fnok_of {P : Program} {w : World} {K : Fr} {mg : MG} {base : Heap} {x qual : Str} {st : Stmt} {f : Addr} {fd : FuncData} {N ps : List Str} {k n : Nat} {ap A : List Nat} {body : MS}
    (Fn : Fun K x qual st f fd) (S : FnScope N ps (defScope st)) (hn : ps.length = n) (hA : ∀ i ∈ A, i < n → i ∈ ap)
    (hbody : ∀ (cdv : Value) (A' : Around) (outer : List PySem.Env) (s : Shared) (H : Hp) (E : XK), Room k (A'.deeper (PyProof.Rows.envOfC qual (defScope st) s.heap.objs.size f cdv)) →
      VSs (cxOf (L2.CX P w) P w K mg base N qual (defScope st) f cdv A' outer s H E) A (defBody st) body) : FnOk P w K mg base (L2.CX P w) (k + 1) f fd ps (spOf K mg n (mkDen N.length n ap body)) := by
  refine Fn.okX S (fun vs H Q E h => h.1.trans hn.symm) fun cdv A' outer s H vs Q E hr hsp => ?_
  obtain ⟨hl, F, ts, Sx, p⟩ := hsp
  have tk : Takes (cxOf (L2.CX P w) P w K mg base N qual (defScope st) f cdv A' outer s H E) (fun cls d _ H => E cls d H) := takes_of rfl rfl rfl rfl
  refine ⟨_, hbody cdv A' outer s H E hr _ tk, ?_⟩
  have hpl : ps.length ≤ N.length := by have := congrArg List.length S.pre; rw [List.length_take] at this; omega
  have hlt : vs.length = ts.length := by have := Sx.len; simpa [stOf, envOf] using this
  have est : L2.start N vs = stOf vs ++ List.replicate (N.length - n) none := by unfold L2.start stOf; rw [hl]
  rw [est]
  unfold mkDen at p
  split at p
  · rename_i hc
    simp only [Bool.and_eq_true, List.all_eq_true] at hc
    have hA' : ∀ i ∈ A, ∀ t, ts[i]? = some t → t.own = false := fun i hi t ht => by
      have hi' : i < n := by have := (List.getElem?_eq_some_iff.mp ht).1; omega
      have := hc.2 i (hA i hi hi')
      rw [ht] at this
      simpa using this
    refine ⟨F, envOf ts ++ List.replicate (N.length - n) none, sta_start Sx, ?_⟩
    have own0 : ∀ a, Own (stOf vs ++ List.replicate (N.length - n) none) (envOf ts ++ List.replicate (N.length - n) none) a → Own (stOf vs) (envOf ts) a := fun a => own_start
    cases hb : body (envOf ts ++ List.replicate (N.length - n) none) with
    | no => rw [hb] at p; exact p.elim
    | bk e => rw [hb] at p; exact p.elim
    | ct e => rw [hb] at p; exact p.elim
    | nx e =>
      rw [hb] at p
      intro F' H' σ' S' so x
      obtain ⟨g1, g2⟩ := sta_fin (L := fun _ => True) Sx S' so x.frz hA'
      exact p F' H' .non g1 (.ofF (by unfold RepF; rfl)) (fun a o => by have := o.1; cases this) ((x.widen own0).mono fun a o => o.elim (g2 a) fun o => by have := o.1; cases this)
    | rt t e =>
      rw [hb] at p
      intro F' H' σ' v S' so r nn x
      obtain ⟨g1, g2⟩ := sta_fin (L := fun _ => True) Sx S' so x.frz hA'
      exact p F' H' v g1 r (fun a o z => nn a o (g2 a z)) ((x.widen own0).mono fun a o => o.elim (fun z => .inl (g2 a z)) .inr)
    | ex c e =>
      rw [hb] at p
      intro F' H' σ' C S' so x g
      obtain ⟨g1, g2⟩ := sta_fin (L := fun _ => True) Sx S' so x.frz hA'
      exact p F' H' C g1 ((x.widen own0).mono g2) g
  · exact p.elim
theorem def_of {P : Program} {w : World} {K : Fr} {mg : MG} {base : Heap} {x qual : Str} {st : Stmt} {f : Addr} {fd : FuncData} {N ps : List Str} {k n : Nat} {ap A : List Nat} {body : MS}
    (Fn : Fun K x qual st f fd) (S : FnScope N ps (defScope st)) (hn : ps.length = n) (hm : mg x = some (.ref f)) (hb : Binds K fd ps []) (hA : ∀ i ∈ A, i < n → i ∈ ap)
    (hbody : ∀ (cdv : Value) (A' : Around) (outer : List PySem.Env) (s : Shared) (H : Hp) (E : XK), Room k (A'.deeper (PyProof.Rows.envOfC qual (defScope st) s.heap.objs.size f cdv)) →
      VSs (cxOf (L2.CX P w) P w K mg base N qual (defScope st) f cdv A' outer s H E) A (defBody st) body) : Def P w K mg base x n (k + 1) (mkDen N.length n ap body) :=
  ⟨f, fd, ps, hn, hm, Fn.kp, hb, fnok_of Fn S hn hA hbody⟩
end VL

/-! Calls of defs. -/
namespace VL
open PySem L2

/-- the names that are handed over with what they own -/
def ownSl : List Ar → List T → List Nat
  | .sl i :: r, t :: ts => if t.own then i :: ownSl r ts else ownSl r ts
  | .val _ :: r, _ :: ts => ownSl r ts
  | _, _ => []
def nodupB : List Nat → Bool
  | [] => true
  | i :: r => !r.contains i && nodupB r
theorem nodupB_iff : ∀ {l : List Nat}, nodupB l = true → l.Nodup
  | [], _ => .nil
  | i :: r, h => by
    simp only [nodupB, Bool.and_eq_true, Bool.not_eq_true', List.contains_eq_mem, decide_eq_false_iff_not] at h
    exact List.nodup_cons.mpr ⟨h.1, nodupB_iff h.2⟩
/-- what the callee left at its parameters goes back to the names -/
def wb : List Ar → List T → Env → Env → Env
  | .sl i :: r, t :: ts, o :: os, e => wb r ts os (if t.own then e.set i o else e)
  | .val _ :: r, _ :: ts, _ :: os, e => wb r ts os e
  | _, _, _, e => e
def mCall (d : Den) (ops : List Opd) : M T := fun env => (evOps ops env).bind fun its e => match fill its e with
  | some ts => if nodupB (ownSl its ts) = true then
      match d ts with
      | .ok t ps => .ok t (wb its ts ps e)
      | .ex c ps => .ex c (wb its ts ps e)
      | .no => .no
    else .no
  | none => .no
theorem mem_ownSl : ∀ {its : List Ar} {ts : List T} {k i : Nat} {t : T}, its[k]? = some (.sl i) → ts[k]? = some t → t.own = true → i ∈ ownSl its ts
  | [], _, k, i, t, h, _, _ => by simp at h
  | _ :: _, [], k, i, t, _, h, _ => by simp at h
  | a :: r, u :: ts, 0, i, t, h1, h2, h3 => by
    simp at h1 h2; subst h1; subst h2
    simp [ownSl, h3]
  | a :: r, u :: ts, k + 1, i, t, h1, h2, h3 => by
    have ih := mem_ownSl (its := r) (ts := ts) (by simpa using h1) (by simpa using h2) h3
    cases a with
    | val _ => simpa [ownSl] using ih
    | sl j => unfold ownSl; split; exact List.mem_cons_of_mem _ ih; exact ih
theorem ownSl_inj : ∀ {its : List Ar} {ts : List T} {k l i : Nat} {t u : T}, (ownSl its ts).Nodup → its[k]? = some (.sl i) → ts[k]? = some t → t.own = true → its[l]? = some (.sl i) → ts[l]? = some u → u.own = true → k = l
  | [], _, k, l, i, t, u, _, h, _, _, _, _, _ => by simp at h
  | _ :: _, [], k, l, i, t, u, _, _, h, _, _, _, _ => by simp at h
  | a :: r, w :: ts, 0, 0, i, t, u, _, _, _, _, _, _, _ => rfl
  | a :: r, w :: ts, 0, l + 1, i, t, u, nd, h1, h2, h3, h4, h5, h6 => by
    simp at h1 h2; subst h1; subst h2
    have := mem_ownSl (its := r) (ts := ts) (by simpa using h4) (by simpa using h5) h6
    simp only [ownSl, h3, if_true] at nd
    exact absurd this (List.nodup_cons.mp nd).1
  | a :: r, w :: ts, k + 1, 0, i, t, u, nd, h1, h2, h3, h4, h5, h6 => by
    simp at h4 h5; subst h4; subst h5
    have := mem_ownSl (its := r) (ts := ts) (by simpa using h1) (by simpa using h2) h3
    simp only [ownSl, h6, if_true] at nd
    exact absurd this (List.nodup_cons.mp nd).1
  | a :: r, w :: ts, k + 1, l + 1, i, t, u, nd, h1, h2, h3, h4, h5, h6 => by
    have nd' : (ownSl r ts).Nodup := by
      cases a with
      | val _ => simpa [ownSl] using nd
      | sl j =>
        unfold ownSl at nd
        split at nd
        · exact (List.nodup_cons.mp nd).2
        · exact nd
    exact congrArg (· + 1) (ownSl_inj (k := k) (l := l) (its := r) (ts := ts) nd' (by simpa using h1) (by simpa using h2) h3 (by simpa using h4) (by simpa using h5) h6)
/-- wb, name by name -/
theorem wb_len : ∀ {its : List Ar} {ts : List T} {ps e : Env}, (wb its ts ps e).length = e.length
  | [], _, _, _ => by simp [wb]
  | .sl i :: r, [], _, _ => by simp [wb]
  | .val _ :: r, [], _, _ => by simp [wb]
  | .sl i :: r, t :: ts, [], _ => by simp [wb]
  | .val _ :: r, _ :: ts, [], _ => by simp [wb]
  | .sl i :: r, t :: ts, o :: os, e => by
    unfold wb; rw [wb_len]; split <;> simp
  | .val _ :: r, _ :: ts, _ :: os, e => by unfold wb; rw [wb_len]
theorem wb_get : ∀ {its : List Ar} {ts : List T} {ps e : Env} {j : Nat} {o : Option T}, its.length = ts.length → ps.length = ts.length → (ownSl its ts).Nodup → (wb its ts ps e)[j]? = some o →
    (∃ (k : Nat) (t : T), its[k]? = some (Ar.sl j) ∧ ts[k]? = some t ∧ t.own = true ∧ ps[k]? = some o) ∨ (e[j]? = some o ∧ ∀ (k : Nat) (t : T), its[k]? = some (Ar.sl j) → ts[k]? = some t → t.own = false)
  | [], ts, ps, e, j, o, _, _, _, h => .inr ⟨by simpa [wb] using h, fun k t h => by simp at h⟩
  | a :: r, [], ps, e, j, o, h, _, _, _ => by simp at h
  | a :: r, t :: ts, [], e, j, o, _, h, _, _ => by simp at h
  | .val w :: r, t :: ts, p :: ps, e, j, o, l1, l2, nd, h => by
    unfold wb at h
    rcases wb_get (its := r) (ts := ts) (by simpa using l1) (by simpa using l2) (by simpa [ownSl] using nd) h with ⟨k, u, a, b, c, d⟩ | ⟨a, b⟩
    · exact .inl ⟨k + 1, u, by simpa using a, by simpa using b, c, by simpa using d⟩
    · refine .inr ⟨a, fun k u h1 h2 => ?_⟩
      cases k with
      | zero => simp at h1
      | succ k => exact b k u (by simpa using h1) (by simpa using h2)
  | .sl i :: r, t :: ts, p :: ps, e, j, o, l1, l2, nd, h => by
    unfold wb at h
    have nd' : (ownSl r ts).Nodup := by
      unfold ownSl at nd
      split at nd
      · exact (List.nodup_cons.mp nd).2
      · exact nd
    rcases wb_get (its := r) (ts := ts) (by simpa using l1) (by simpa using l2) nd' h with ⟨k, u, a, b, c, d⟩ | ⟨a, b⟩
    · exact .inl ⟨k + 1, u, by simpa using a, by simpa using b, c, by simpa using d⟩
    · by_cases ot : t.own = true
      · rw [if_pos ot] at a
        by_cases hj : i = j
        · subst hj
          rw [List.getElem?_set] at a
          simp only [if_true] at a
          split at a
          · cases a; exact .inl ⟨0, t, rfl, rfl, ot, rfl⟩
          · cases a
        · rw [List.getElem?_set_ne hj] at a
          refine .inr ⟨a, fun k u h1 h2 => ?_⟩
          cases k with
          | zero => simp at h1; exact absurd h1 hj
          | succ k => exact b k u (by simpa using h1) (by simpa using h2)
      · rw [if_neg ot] at a
        refine .inr ⟨a, fun k u h1 h2 => ?_⟩
        cases k with
        | zero => simp at h2; subst h2; simpa using ot
        | succ k => exact b k u (by simpa using h1) (by simpa using h2)
section
variable {K : Fr} {W : WX} {mg : MG} {F H : Hp} {σ : St} {env : Env}
theorem fill_get : ∀ {its : List Ar} {ts : List T} {k i : Nat}, fill its env = some ts → its[k]? = some (.sl i) → ∃ t, ts[k]? = some t ∧ env[i]? = some (some t)
  | [], _, k, i, _, h => by simp at h
  | .val t :: r, ts, k, i, h, h2 => by
    simp only [fill, Option.map_eq_some_iff] at h
    obtain ⟨us, e, rfl⟩ := h
    cases k with
    | zero => simp at h2
    | succ k => simpa using fill_get e (by simpa using h2)
  | .sl j :: r, ts, k, i, h, h2 => by
    unfold fill at h
    split at h
    · rename_i t et
      simp only [Option.map_eq_some_iff] at h
      obtain ⟨us, e, rfl⟩ := h
      cases k with
      | zero => simp at h2; subst h2; exact ⟨t, rfl, et⟩
      | succ k => simpa using fill_get e (by simpa using h2)
    · cases h
theorem fill_val : ∀ {its : List Ar} {ts : List T} {k : Nat} {t : T}, fill its env = some ts → its[k]? = some (.val t) → ts[k]? = some t
  | [], _, k, t, _, h => by simp at h
  | .val u :: r, ts, k, t, h, h2 => by
    simp only [fill, Option.map_eq_some_iff] at h
    obtain ⟨us, e, rfl⟩ := h
    cases k with
    | zero => simpa using h2
    | succ k => simpa using fill_val e (by simpa using h2)
  | .sl j :: r, ts, k, t, h, h2 => by
    unfold fill at h
    split at h
    · simp only [Option.map_eq_some_iff] at h
      obtain ⟨us, e, rfl⟩ := h
      cases k with
      | zero => simp at h2
      | succ k => simpa using fill_val e (by simpa using h2)
    · cases h
theorem fill_len : ∀ {its : List Ar} {ts : List T}, fill its env = some ts → its.length = ts.length
  | [], _, h => by cases h; rfl
  | .val t :: r, ts, h => by
    simp only [fill, Option.map_eq_some_iff] at h
    obtain ⟨us, e, rfl⟩ := h
    simp [fill_len e]
  | .sl j :: r, ts, h => by
    unfold fill at h
    split at h
    · simp only [Option.map_eq_some_iff] at h
      obtain ⟨us, e, rfl⟩ := h
      simp [fill_len e]
    · cases h
theorem arok_sl : ∀ {its : List Ar} {vs : List V} {k i : Nat} {v : V}, ArOk K F H σ vs its → its[k]? = some (.sl i) → vs[k]? = some v → σ[i]? = some (some v)
  | [], _, k, i, v, _, h, _ => by simp at h
  | .val t :: r, vs, k, i, v, h, h1, h2 => by
    unfold ArOk at h
    obtain ⟨x, ws, rfl, _, h⟩ := h
    cases k with
    | zero => simp at h1
    | succ k => exact arok_sl h (by simpa using h1) (by simpa using h2)
  | .sl j :: r, vs, k, i, v, h, h1, h2 => by
    unfold ArOk at h
    obtain ⟨x, ws, rfl, e, h⟩ := h
    cases k with
    | zero => simp at h1 h2; subst h1; subst h2; exact e
    | succ k => exact arok_sl h (by simpa using h1) (by simpa using h2)
theorem arown_mem : ∀ {its : List Ar} {vs : List V} {k : Nat} {t : T} {v : V} {a : Addr}, its[k]? = some (.val t) → vs[k]? = some v → OwnV v t a → ArOwn vs its a
  | [], _, k, t, v, a, h, _, _ => by simp at h
  | x :: r, [], k, t, v, a, _, h, _ => by simp at h
  | x :: r, w :: vs, 0, t, v, a, h1, h2, o => by
    simp at h1 h2; subst h1; subst h2
    unfold ArOwn; exact .inl o
  | x :: r, w :: vs, k + 1, t, v, a, h1, h2, o => by
    have ih := arown_mem (its := r) (vs := vs) (by simpa using h1) (by simpa using h2) o
    cases x with
    | val u => unfold ArOwn; exact .inr ih
    | sl j => unfold ArOwn; exact ih
theorem arsep_get : ∀ {its : List Ar} {vs : List V} {k l : Nat} {t u : T} {v w : V} {a : Addr}, ArSep vs its → k < l → its[k]? = some (.val t) → vs[k]? = some v → OwnV v t a → its[l]? = some (.val u) → vs[l]? = some w → OwnV w u a → False
  | [], _, k, l, t, u, v, w, a, _, _, h, _, _, _, _, _ => by simp at h
  | x :: r, [], k, l, t, u, v, w, a, _, _, _, h, _, _, _, _ => by simp at h
  | x :: r, z :: vs, k, 0, t, u, v, w, a, _, h, _, _, _, _, _, _ => by omega
  | x :: r, z :: vs, 0, l + 1, t, u, v, w, a, sp, _, h1, h2, h3, h4, h5, h6 => by
    simp at h1 h2; subst h1; subst h2
    unfold ArSep at sp
    exact sp.1 a h3 (arown_mem (its := r) (vs := vs) (by simpa using h4) (by simpa using h5) h6)
  | x :: r, z :: vs, k + 1, l + 1, t, u, v, w, a, sp, hl, h1, h2, h3, h4, h5, h6 => by
    have sp' : ArSep vs r := by
      cases x with
      | val _ => unfold ArSep at sp; exact sp.2
      | sl _ => unfold ArSep at sp; exact sp
    exact arsep_get (k := k) (l := l) sp' (by omega) (by simpa using h1) (by simpa using h2) h3 (by simpa using h4) (by simpa using h5) h6
/-- the callee's entry -/
theorem sta_enter {vs : List V} {its : List Ar} {ts : List T} (S : Sta K F H σ env) (okv : ArOk K F H σ vs its) (sp : ArSep vs its) (nw : ∀ a, ArOwn vs its a → ¬ Own σ env a) (hf : fill its env = some ts) (nd : (ownSl its ts).Nodup) :
    Sta K F H (stOf vs) (envOf ts) ∧ ∀ a, Own (stOf vs) (envOf ts) a → (∃ (k : Nat) (t : T) (i : Nat) (v : V), its[k]? = some (Ar.sl i) ∧ ts[k]? = some t ∧ t.own = true ∧ vs[k]? = some v ∧ v = .ref a) ∨ ArOwn vs its a := by
  have rl := fill_ok S okv hf
  have hl := fill_len hf
  have hlv : vs.length = ts.length := Paired.length rl
  have rget : ∀ {vs : List V} {ts : List T}, RepL K F H vs ts → ∀ (i : Nat) (t : T), ts[i]? = some t → ∃ v, vs[i]? = some v ∧ Rep K F H v t := by
    intro vs ts r
    induction r with
    | nil => intro i t h; simp at h
    | cons a b ih =>
      intro i t h
      cases i with
      | zero => simp at h; subst h; exact ⟨_, rfl, a⟩
      | succ i => simpa using ih i t (by simpa using h)
  have uT : ∀ {i : Nat} {t : T}, (envOf ts)[i]? = some (some t) → ts[i]? = some t := fun {i t} h => by
    unfold envOf at h
    rw [List.getElem?_map] at h
    cases q : ts[i]? with
    | none => rw [q] at h; cases h
    | some w => rw [q] at h; cases h; rfl
  have uV : ∀ {i : Nat} {t : V}, (stOf vs)[i]? = some (some t) → vs[i]? = some t := fun {i t} h => by
    unfold stOf at h
    rw [List.getElem?_map] at h
    cases q : vs[i]? with
    | none => rw [q] at h; cases h
    | some w => rw [q] at h; cases h; rfl
  -- what stands at place k
  have at_ : ∀ {k : Nat} {t : T}, ts[k]? = some t → ∃ a, its[k]? = some a ∧ (a = Ar.val t ∨ ∃ i, a = Ar.sl i ∧ env[i]? = some (some t)) := fun {k t} h => by
    have hk : k < its.length := by rw [hl]; exact (List.getElem?_eq_some_iff.mp h).1
    refine ⟨its[k], List.getElem?_eq_getElem hk, ?_⟩
    cases q : its[k] with
    | val u =>
      have := fill_val (k := k) (t := u) hf (by rw [List.getElem?_eq_getElem hk, q])
      rw [h] at this; cases this; exact .inl rfl
    | sl i =>
      obtain ⟨u, h1, h2⟩ := fill_get (k := k) (i := i) hf (by rw [List.getElem?_eq_getElem hk, q])
      rw [h] at h1; cases h1; exact .inr ⟨i, rfl, h2⟩
  refine ⟨⟨by simp [stOf, envOf, hlv], S.sub, fun i t e => ?_, fun k l t u v q1 q2 o1 o2 z1 z2 => ?_⟩, fun a ⟨k, t, q, o, z⟩ => ?_⟩
  · obtain ⟨v, h1, h2⟩ := rget rl i t (uT e)
    exact ⟨v, by simp [stOf, h1], h2⟩
  · have t1 := uT q1; have t2 := uT q2; have v1 := uV z1; have v2 := uV z2
    obtain ⟨a1, i1, c1⟩ := at_ t1
    obtain ⟨a2, i2, c2⟩ := at_ t2
    obtain ⟨w1, g1, r1⟩ := rget rl k t t1
    rw [v1] at g1; cases g1
    obtain ⟨p, o', ep, _, _⟩ := r1.own_at o1
    rcases c1 with rfl | ⟨s1, rfl, e1⟩
    · rcases c2 with rfl | ⟨s2, rfl, e2⟩
      · rcases Nat.lt_trichotomy k l with h | h | h
        · exact (arsep_get sp h i1 v1 ⟨o1, ep⟩ i2 v2 ⟨o2, ep⟩).elim
        · exact h
        · exact (arsep_get sp h i2 v2 ⟨o2, ep⟩ i1 v1 ⟨o1, ep⟩).elim
      · exact (nw p (arown_mem i1 v1 ⟨o1, ep⟩) ⟨s2, u, e2, o2, by rw [arok_sl okv i2 v2, ep]⟩).elim
    · rcases c2 with rfl | ⟨s2, rfl, e2⟩
      · exact (nw p (arown_mem i2 v2 ⟨o2, ep⟩) ⟨s1, t, e1, o1, by rw [arok_sl okv i1 v1, ep]⟩).elim
      · have : s1 = s2 := S.sep s1 s2 t u v e1 e2 o1 o2 (arok_sl okv i1 v1) (arok_sl okv i2 v2)
        subst this
        exact ownSl_inj nd i1 t1 o1 i2 t2 o2
  · have t1 := uT q; have v1 := uV z
    obtain ⟨a1, i1, c1⟩ := at_ t1
    rcases c1 with rfl | ⟨s1, rfl, e1⟩
    · exact .inr (arown_mem i1 v1 ⟨o, rfl⟩)
    · exact .inl ⟨k, t, s1, _, i1, t1, o, v1, rfl⟩
/-- behind the call -/
theorem sta_back {vs : List V} {its : List Ar} {ts : List T} {F' H' : Hp} {ps : Env} {M : Addr → Prop} (S : Sta K F H σ env) (okv : ArOk K F H σ vs its) (sp : ArSep vs its) (nw : ∀ a, ArOwn vs its a → ¬ Own σ env a) (hf : fill its env = some ts) (nd : (ownSl its ts).Nodup)
    (S' : Sta K F' H' (stOf vs) ps) (x : Ext F H (Own (stOf vs) (envOf ts)) F' H' M) (hM : ∀ a, Own (stOf vs) ps a → M a) :
    Sta K F' H' σ (wb its ts ps env) ∧ (∀ a, Own σ (wb its ts ps env) a → Own (stOf vs) ps a ∨ (Own σ env a ∧ ¬ Own (stOf vs) (envOf ts) a)) := by
  obtain ⟨S0, own0⟩ := sta_enter S okv sp nw hf nd
  have hl := fill_len hf
  have hlv : vs.length = ts.length := by have := S0.len; simpa [stOf, envOf] using this
  have hps : ps.length = ts.length := by have := S'.len; simp [stOf] at this; omega
  have uV : ∀ {i : Nat} {t : V}, (stOf vs)[i]? = some (some t) → vs[i]? = some t := fun {i t} h => by
    unfold stOf at h
    rw [List.getElem?_map] at h
    cases q : vs[i]? with
    | none => rw [q] at h; cases h
    | some w => rw [q] at h; cases h; rfl
  -- a name that keeps its own: the callee does not own it
  have kept : ∀ {j : Nat} {u : T} {a : Addr}, env[j]? = some (some u) → u.own = true → σ[j]? = some (some (V.ref a)) → (∀ (k : Nat) (t : T), its[k]? = some (Ar.sl j) → ts[k]? = some t → t.own = false) → ¬ Own (stOf vs) (envOf ts) a := fun {j u a} e o z hk w => by
    rcases own0 a w with ⟨k, t, i, v, h1, h2, h3, h4, h5⟩ | h
    · obtain ⟨t', h6, h7⟩ := fill_get hf h1
      rw [h2] at h6; cases h6
      have hi := arok_sl okv h1 h4
      rw [h5] at hi
      have : i = j := S.sep i j t u (.ref a) h7 e h3 o hi z
      subst this
      rw [hk k t h1 h2] at h3; cases h3
    · exact nw a h ⟨j, u, e, o, z⟩
  have from_ : ∀ {j : Nat} {u : T}, (wb its ts ps env)[j]? = some (some u) → (∃ (k : Nat) (t : T) (v : V), its[k]? = some (Ar.sl j) ∧ ts[k]? = some t ∧ t.own = true ∧ vs[k]? = some v ∧ ps[k]? = some (some u) ∧ σ[j]? = some (some v)) ∨
      (env[j]? = some (some u) ∧ ∀ (k : Nat) (t : T), its[k]? = some (Ar.sl j) → ts[k]? = some t → t.own = false) := fun {j u} h => by
    rcases wb_get hl hps nd h with ⟨k, t, h1, h2, h3, h4⟩ | h
    · have hk : k < vs.length := by have := (List.getElem?_eq_some_iff.mp h2).1; omega
      exact .inl ⟨k, t, vs[k], h1, h2, h3, List.getElem?_eq_getElem hk, h4, arok_sl okv h1 (List.getElem?_eq_getElem hk)⟩
    · exact .inr h
  refine ⟨⟨by rw [wb_len]; exact S.len, S'.sub, fun j u q => ?_, fun i j t u v q1 q2 o1 o2 z1 z2 => ?_⟩, fun a ⟨j, u, q, o, z⟩ => ?_⟩
  · rcases from_ q with ⟨k, t, v, h1, h2, h3, h4, h5, h6⟩ | ⟨h1, h2⟩
    · obtain ⟨v', g1, g2⟩ := S'.rep k u h5
      have := uV g1; rw [h4] at this; cases this
      exact ⟨v, h6, g2⟩
    · obtain ⟨v, g1, g2⟩ := S.rep j u h1
      refine ⟨v, g1, x.rep g2 fun a o => ?_⟩
      exact kept h1 o.1 (by rw [g1, o.2]) h2
  · rcases from_ q1 with ⟨k, t', w, h1, h2, h3, h4, h5, h6⟩ | ⟨h1, h2⟩
    · rcases from_ q2 with ⟨k2, t2, w2, g1, g2, g3, g4, g5, g6⟩ | ⟨g1, g2⟩
      · rw [z1] at h6; cases h6
        rw [z2] at g6; cases g6
        have : k = k2 := S'.sep k k2 t u v h5 g5 o1 o2 (by simp [stOf, h4]) (by simp [stOf, g4])
        subst this
        rw [h1] at g1; cases g1; rfl
      · obtain ⟨v', r1, r2⟩ := S'.rep k t h5
        have := uV r1; rw [h4] at this; cases this
        obtain ⟨p, ob, ep, _, _⟩ := r2.own_at o1
        rw [z1] at h6; cases h6
        have nk := kept g1 o2 (by rw [z2, ep]) g2
        rcases x.own p (hM p ⟨k, t, h5, o1, by simp [stOf, h4, ep]⟩) with w | w
        · exact (nk w).elim
        · obtain ⟨_, e2, e3⟩ := S.ownAt (a := p) ⟨j, u, g1, o2, by rw [z2, ep]⟩
          rw [e3] at w; cases w
    · rcases from_ q2 with ⟨k2, t2, w2, g1, g2, g3, g4, g5, g6⟩ | ⟨g1, g2⟩
      · obtain ⟨v', r1, r2⟩ := S'.rep k2 u g5
        have := uV r1; rw [g4] at this; cases this
        obtain ⟨p, ob, ep, _, _⟩ := r2.own_at o2
        rw [z2] at g6; cases g6
        have nk := kept h1 o1 (by rw [z1, ep]) h2
        rcases x.own p (hM p ⟨k2, u, g5, o2, by simp [stOf, g4, ep]⟩) with w | w
        · exact (nk w).elim
        · obtain ⟨_, e2, e3⟩ := S.ownAt (a := p) ⟨i, t, h1, o1, by rw [z1, ep]⟩
          rw [e3] at w; cases w
      · exact S.sep i j t u v h1 g1 o1 o2 z1 z2
  · rcases from_ q with ⟨k, t, v, h1, h2, h3, h4, h5, h6⟩ | ⟨h1, h2⟩
    · rw [z] at h6; cases h6
      exact .inl ⟨k, u, h5, o, by simp [stOf, h4]⟩
    · exact .inr ⟨⟨j, u, h1, o, z⟩, kept h1 o z h2⟩
theorem rdE_call {n : Nat} {d : Den} {ops : List Opd} {Q : VK} {H : Hp} (hn : ops.length = n) (h : rdE K W mg (mCall d ops) σ H Q) : rdA K W mg ops σ H fun vs H1 => spOf K mg n d vs H1 Q (WE W σ) := by
  obtain ⟨F, env, S, q⟩ := h
  refine ⟨F, env, S, ?_⟩
  unfold mCall at q
  cases hr : evOps ops env with
  | no => rw [hr] at q; exact q.elim
  | ex c e => rw [hr] at q; exact q
  | ok its e =>
    rw [hr] at q
    simp only [R.bind] at q
    intro F1 H1 vs S1 okv sp nw x1
    cases hf : fill its e with
    | none => rw [hf] at q; exact q.elim
    | some ts =>
      rw [hf] at q
      simp only at q
      split at q
      · rename_i ndb
        have nd := nodupB_iff ndb
        obtain ⟨S0, own0⟩ := sta_enter S1 okv sp nw hf nd
        have hlv : vs.length = ts.length := by have := S0.len; simpa [stOf, envOf] using this
        have sub : ∀ a, Own (stOf vs) (envOf ts) a → Own σ e a ∨ ArOwn vs its a := fun a o => by
          rcases own0 a o with ⟨k, t, i, v, h1, h2, h3, h4, h5⟩ | h
          · obtain ⟨t', h6, h7⟩ := fill_get hf h1
            rw [h2] at h6; cases h6
            exact .inl ⟨i, t, h7, h3, by rw [arok_sl okv h1 h4, h5]⟩
          · exact .inr h
        refine ⟨by rw [hlv, ← fill_len hf, evOps_len hr, hn], F1, ts, S0, ?_⟩
        cases hd : d ts with
        | no => rw [hd] at q; exact q.elim
        | ex c ps =>
          rw [hd] at q
          intro F2 H2 C S2 x2 g
          obtain ⟨b1, b2⟩ := sta_back S1 okv sp nw hf nd S2 x2 fun a o => o
          exact q F2 H2 C b1 (x1.trans x2 (fun a o => sub a o) fun a o => (b2 a o).elim .inr fun z => .inl (.inl z.1)) g
        | ok t ps =>
          rw [hd] at q
          intro F2 H2 v S2 r nn x2
          obtain ⟨b1, b2⟩ := sta_back S1 okv sp nw hf nd S2 x2 fun a o => .inl o
          refine q F2 H2 v b1 r (fun a o z => ?_) (x1.trans x2 (fun a o => sub a o) fun a o => ?_)
          · rcases b2 a z with w | ⟨w1, w2⟩
            · exact nn a o w
            · rcases x2.own a (.inr o) with w | w
              · exact w2 w
              · obtain ⟨_, u, w3⟩ := S1.ownAt w1
                rw [w3] at w; cases w
          · rcases o with o | o
            · exact (b2 a o).elim (fun z => .inr (.inl z)) fun z => .inl (.inl z.1)
            · exact .inr (.inr o)
      · exact q.elim
end
section
variable {X : Cx} {x : Str} {p pos : Pos} {e : Expr} {es : List Expr} {ops : List Opd} {k n : Nat} {d : Den}
theorem ve_call (Df : Def X.prog X.w X.K X.mg X.base x n k d) (hr : Room k X.A) (hg : Gl X x) (hn : ops.length = n) (ha : VA X (e :: es) ops) (hdb : (x == ("__debug__" : Str)) = false)
    (he : starEach (e :: es) X.env = (false, eval e X.env) :: starEach es X.env) (hpl : (backTo pos (starEach es X.env)).any (·.1) = false) : VE X (.Call (.Name x p) (e :: es) [] pos) (mCall d ops) := fun W tk => by
  obtain ⟨f, fd, ps, hps, hm, hk, hb, F⟩ := Df.ex
  exact (pe_callS (E := WE W) F hr hg hm hk hb (fun σ => passAt tk σ) (ha W tk) hdb he hpl).weak fun σ H Q h => rdE_call hn h
theorem ve_call0 (Df : Def X.prog X.w X.K X.mg X.base x 0 k d) (hr : Room k X.A) (hg : Gl X x) (hdb : (x == ("__debug__" : Str)) = false) : VE X (.Call (.Name x p) [] [] pos) (mCall d []) := fun W tk => by
  obtain ⟨f, fd, ps, hps, hm, hk, hb, F⟩ := Df.ex
  refine ⟨fun pins s σ H Q I h => ?_⟩
  have h2 := rdA_nil (rdE_call rfl h)
  refine PySem.wpAny_Call_Name_kw (ld_glob I hg hm ?_ hdb)
  exact PySem.W.callWith_K0 I.kIn hk (run_fnS (us := []) F hr hb (passAt tk σ) I .nil h2)
end
end VL

/-! List comprehensions. -/
namespace VL
open PySem L2

def wipeE (e : Env) : List Nat → Env
  | [] => e
  | v :: vs => (wipeE e vs).set v none
def restE (e0 e : Env) : List Nat → Env
  | [] => e
  | v :: vs => (restE e0 e vs).set v ((e0[v]?).getD none)
theorem wipeE_len (e : Env) : ∀ vs : List Nat, (wipeE e vs).length = e.length
  | [] => rfl
  | v :: vs => by simp [wipeE, wipeE_len e vs]
theorem restE_len (e0 e : Env) : ∀ vs : List Nat, (restE e0 e vs).length = e.length
  | [] => rfl
  | v :: vs => by simp [restE, restE_len e0 e vs]
theorem wipeE_get {e : Env} {i : Nat} {t : T} : ∀ {vs : List Nat}, (wipeE e vs)[i]? = some (some t) → i ∉ vs ∧ e[i]? = some (some t)
  | [], h => ⟨by simp, h⟩
  | v :: vs, h => by
    unfold wipeE at h
    by_cases hv : v = i
    · subst hv
      rw [List.getElem?_set] at h
      simp only [if_true] at h
      split at h <;> cases h
    · rw [List.getElem?_set_ne hv] at h
      obtain ⟨h1, h2⟩ := wipeE_get h
      exact ⟨by simp only [List.mem_cons, not_or]; exact ⟨fun z => hv z.symm, h1⟩, h2⟩
theorem restE_get {e0 e : Env} {i : Nat} {t : T} : ∀ {vs : List Nat}, (restE e0 e vs)[i]? = some (some t) → (i ∈ vs ∧ e0[i]? = some (some t)) ∨ (i ∉ vs ∧ e[i]? = some (some t))
  | [], h => .inr ⟨by simp, h⟩
  | v :: vs, h => by
    unfold restE at h
    by_cases hv : v = i
    · subst hv
      rw [List.getElem?_set] at h
      simp only [if_true] at h
      split at h
      · refine .inl ⟨by simp, ?_⟩
        simp only [Option.some.injEq] at h
        cases q : e0[v]? with
        | none => rw [q] at h; cases h
        | some o => rw [q] at h; simp at h; rw [h]
      · cases h
    · rw [List.getElem?_set_ne hv] at h
      rcases restE_get h with ⟨h1, h2⟩ | ⟨h1, h2⟩
      · exact .inl ⟨by simp [h1], h2⟩
      · exact .inr ⟨by simp only [List.mem_cons, not_or]; exact ⟨fun z => hv z.symm, h1⟩, h2⟩
theorem wipe_out {σ : St} {i : Nat} : ∀ {vs : List Nat}, i ∉ vs → (wipe σ vs)[i]? = σ[i]?
  | [], _ => rfl
  | v :: vs, h => by
    unfold wipe
    simp only [List.mem_cons, not_or] at h
    rw [List.getElem?_set_ne (fun z => h.1 z.symm), wipe_out h.2]
theorem wipe_in {σ : St} {i : Nat} : ∀ {vs : List Nat}, i ∈ vs → i < σ.length → (wipe σ vs)[i]? = some none
  | [], h, _ => by simp at h
  | v :: vs, h, hl => by
    unfold wipe
    by_cases hv : v = i
    · subst hv; rw [List.getElem?_set_self (by rw [wipe_length]; exact hl)]
    · rw [List.getElem?_set_ne hv]
      rcases List.mem_cons.mp h with z | z
      · exact absurd z.symm hv
      · exact wipe_in z hl
theorem wipe_same {σ σ2 : St} {vs : List Nat} (so : SameOut vs (wipe σ vs) σ2) : wipe σ2 vs = wipe σ vs := by
  have hl : σ2.length = σ.length := by rw [so.1, wipe_length]
  refine List.ext_getElem? fun i => ?_
  by_cases h : i ∈ vs
  · by_cases hi : i < σ.length
    · rw [wipe_in h (by omega), wipe_in h hi]
    · rw [List.getElem?_eq_none (by rw [wipe_length]; omega), List.getElem?_eq_none (by rw [wipe_length]; omega)]
  · rw [wipe_out h, so.2 i h]
/-- the turns of a comprehension: what is made so far, the names' values -/
def mTurns (vs : List Nat) (g : G) (c : M Bool) (elt : M T) : List T → List T → Env → R (List T)
  | [], acc, e => .ok acc e
  | t :: ts, acc, e => match g t e with
    | .ok _ e1 => match c e1 with
      | .ok true e2 => match elt e2 with
        | .ok y e3 => mTurns vs g c elt ts (acc ++ [y.frz]) (wipeE e3 vs)
        | _ => .no
      | .ok false e2 => mTurns vs g c elt ts acc (wipeE e2 vs)
      | _ => .no
    | _ => .no
def mComp (vs : List Nat) (src : M (List T)) (g : G) (c : M Bool) (elt : M T) : M T := fun env => match src env with
  | .ok ts e => if ts.length ≤ sizeLine then match mTurns vs g c elt ts [] (wipeE e vs) with
      | .ok acc e' => .ok (.lst true acc) (restE e e' vs)
      | _ => .no
    else .no
  | .ex c e => .ex c e
  | .no => .no
def mYes : M Bool := fun e => .ok true e
section
variable {K : Fr} {W : WX} {mg : MG} {F H : Hp} {σ : St} {env : Env}
theorem Sta.wiped {vs : List Nat} (S : Sta K F H σ env) : Sta K F H (wipe σ vs) (wipeE env vs) ∧ ∀ a, Own (wipe σ vs) (wipeE env vs) a → Own σ env a := by
  refine ⟨⟨by rw [wipe_length, wipeE_len]; exact S.len, S.sub, fun i t e => ?_, fun i j t u v q1 q2 o1 o2 z1 z2 => ?_⟩, fun a ⟨i, t, e, o, q⟩ => ?_⟩
  · obtain ⟨h1, h2⟩ := wipeE_get e
    obtain ⟨v, h3, h4⟩ := S.rep i t h2
    exact ⟨v, by rw [wipe_out h1]; exact h3, h4⟩
  · obtain ⟨h1, h2⟩ := wipeE_get q1
    obtain ⟨h3, h4⟩ := wipeE_get q2
    rw [wipe_out h1] at z1
    rw [wipe_out h3] at z2
    exact S.sep i j t u v h2 h4 o1 o2 z1 z2
  · obtain ⟨h1, h2⟩ := wipeE_get e
    rw [wipe_out h1] at q
    exact ⟨i, t, h2, o, q⟩
/-- behind a turn: the block's own names are forgotten -/
theorem Sta.rewiped {vs : List Nat} {σ2 : St} (S : Sta K F H σ2 env) (so : SameOut vs (wipe σ vs) σ2) : Sta K F H (wipe σ vs) (wipeE env vs) ∧ ∀ a, Own (wipe σ vs) (wipeE env vs) a → Own σ2 env a := by
  rw [← wipe_same so]; exact S.wiped
/-- the first names' values come back -/
theorem Sta.back {vs : List Nat} {F' H' : Hp} {e' : Env} {M : Addr → Prop} (S : Sta K F H σ env) (S' : Sta K F' H' (wipe σ vs) e') (x : Ext F H (Own (wipe σ vs) (wipeE env vs)) F' H' M) (hM : ∀ a, Own (wipe σ vs) e' a → M a) :
    Sta K F' H' σ (restE env e' vs) ∧ ∀ a, Own σ (restE env e' vs) a → Own (wipe σ vs) e' a ∨ (Own σ env a ∧ ¬ Own (wipe σ vs) (wipeE env vs) a) := by
  -- the block's own names have no owned part in the block
  have old : ∀ {i : Nat} {t : T} {a : Addr}, i ∈ vs → env[i]? = some (some t) → t.own = true → σ[i]? = some (some (V.ref a)) → ¬ Own (wipe σ vs) (wipeE env vs) a := fun {i t a} hi e o q ⟨j, u, e2, o2, q2⟩ => by
    obtain ⟨h1, h2⟩ := wipeE_get e2
    rw [wipe_out h1] at q2
    have := S.sep i j t u (.ref a) e h2 o o2 q q2
    subst this
    exact h1 hi
  have apart : ∀ {i j : Nat} {t u : T} {v : V}, i ∈ vs → env[i]? = some (some t) → j ∉ vs → e'[j]? = some (some u) → t.own = true → u.own = true → σ[i]? = some (some v) → σ[j]? = some (some v) → False := fun {i j t u v} hi e hj e2 o o2 q q2 => by
    obtain ⟨w, r1, r2⟩ := S.rep i t e
    rw [q] at r1; cases r1
    obtain ⟨p, ob, ep, _, hp⟩ := r2.own_at o
    subst ep
    have no := old hi e o q
    rcases x.own p (hM p ⟨j, u, e2, o2, by rw [wipe_out hj]; exact q2⟩) with z | z
    · exact no z
    · rw [hp] at z; cases z
  refine ⟨⟨by rw [restE_len, ← S'.len, wipe_length], S'.sub, fun i t e => ?_, fun i j t u v q1 q2 o1 o2 z1 z2 => ?_⟩, fun a ⟨i, t, e, o, q⟩ => ?_⟩
  · rcases restE_get e with ⟨h1, h2⟩ | ⟨h1, h2⟩
    · obtain ⟨v, g1, g2⟩ := S.rep i t h2
      exact ⟨v, g1, x.rep g2 fun a o => old h1 h2 o.1 (by rw [g1, o.2])⟩
    · obtain ⟨v, g1, g2⟩ := S'.rep i t h2
      rw [wipe_out h1] at g1
      exact ⟨v, g1, g2⟩
  · rcases restE_get q1 with ⟨h1, h2⟩ | ⟨h1, h2⟩
    · rcases restE_get q2 with ⟨h3, h4⟩ | ⟨h3, h4⟩
      · exact S.sep i j t u v h2 h4 o1 o2 z1 z2
      · exact (apart h1 h2 h3 h4 o1 o2 z1 z2).elim
    · rcases restE_get q2 with ⟨h3, h4⟩ | ⟨h3, h4⟩
      · exact (apart h3 h4 h1 h2 o2 o1 z2 z1).elim
      · exact S'.sep i j t u v h2 h4 o1 o2 (by rw [wipe_out h1]; exact z1) (by rw [wipe_out h3]; exact z2)
  · rcases restE_get e with ⟨h1, h2⟩ | ⟨h1, h2⟩
    · exact .inr ⟨⟨i, t, h2, o, q⟩, old h1 h2 o q⟩
    · exact .inl ⟨i, t, h2, o, by rw [wipe_out h1]; exact q⟩
theorem rdE_comp {vs : List Nat} {src : M (List T)} {g : G} {c : M Bool} {elt : M T} {Q : VK} {H : Hp} (h : rdE K W mg (mComp vs src g c elt) σ H Q) :
    tLc (rdI K W mg src) (rdG K vs g) (rdT K (fun _ _ _ _ => False) mg c) (rdE K (fun _ _ _ _ => False) mg elt) vs σ H Q := by
  obtain ⟨F, env, S, p⟩ := h
  refine ⟨F, env, S, ?_⟩
  unfold mComp at p
  cases hs : src env with
  | no => rw [hs] at p; exact p
  | ex c e => rw [hs] at p; exact p
  | ok ts e0 =>
    rw [hs] at p
    simp only at p
    intro F0 H0 J S0 x0 ⟨Gd, Y, wk, hG, hY⟩ D hD
    split at p
    · rename_i hz
      cases hr : mTurns vs g c elt ts [] (wipeE e0 vs) with
      | no => rw [hr] at p; exact p.elim
      | ex c e => rw [hr] at p; exact p.elim
      | ok fin' e' =>
        rw [hr] at p
        simp only at p
        have hF0 : F0 D = none := by
          cases z : F0 D with
          | none => rfl
          | some w => rw [S0.sub D w z] at hD; cases hD
        obtain ⟨Sw, ow⟩ := S0.wiped (vs := vs)
        have xD : Ext F0 H0 (fun _ => False) F0 (upd H0 D (.lst [])) (fun a => a = D) := ⟨fun _ _ q => q, fun a o q _ => upd_new hD a o q, fun a z => .inr (by subst z; exact hD), fun _ _ q => .inl q, upd_dom⟩
        have smD : Same F0 (upd H0 D (.lst [])) := fun a o q => upd_new hD a o (S0.sub a o q)
        refine lc_it wk (fun i H => ∃ F env acc accV, Sta K F H (wipe σ vs) env ∧ Same F0 F ∧ H D = some (.lst accV) ∧ F D = none ∧ RepFs K F accV acc ∧ ¬ Own (wipe σ vs) env D ∧ acc.length ≤ i ∧
          Ext F0 H0 (Own (wipe σ vs) (wipeE e0 vs)) F H (fun a => Own (wipe σ vs) env a ∨ a = D) ∧ mTurns vs g c elt (ts.drop i) acc env = .ok fin' e')
          ⟨F0, wipeE e0 vs, [], [], Sw.ext xD smD (fun a _ z => z), fun _ _ q => q, upd_same, hF0, .nil, fun o => ?_, Nat.zero_le _, ?_, hr⟩
          (fun i H _ ⟨F, env, acc, accV, S, s, _⟩ => hG H fun a o z => S.sub a o (s a o z))
          (fun i x H H' hi ⟨F, env, acc, accV, S, s, hl, hf, ra, no, hac, xt, hm⟩ y => ?_)
          (fun H ⟨F, env, acc, accV, S, s, hl, hf, ra, no, hac, xt, hm⟩ => ?_)
        · obtain ⟨_, u, z⟩ := Sw.ownAt o
          rw [hD] at z; cases z
        · exact (xD.widen (L' := Own (wipe σ vs) (wipeE e0 vs)) fun a z => z.elim) |> fun w => ⟨w.frz, w.keep, fun a m => m.elim .inl fun z => .inr (by subst z; exact hD), w.new, w.dom⟩
        · -- a turn
          rw [List.drop_eq_getElem_cons hi] at hm
          obtain ⟨F1, sm, xe, rp⟩ := hY i ts[i] F H x H' (List.getElem?_eq_getElem hi) s S.sub y
          have S1 : Sta K F1 H' (wipe σ vs) env := S.ext xe sm fun a _ z => z
          have hl1 : H' D = some (.lst accV) := xe.keep D _ hl fun z => z
          have hf1 : F1 D = none := by
            cases z : F1 D with
            | none => rfl
            | some w =>
              rcases xe.new D w z with q | q | q | ⟨_, q⟩
              · rw [hf] at q; cases q
              · exact q.elim
              · rw [hl] at q; cases q
              · rw [hl] at q; cases q
          refine ⟨F1, env, ts[i], S1, .ofF rp, fun a o => ?_, ?_⟩
          · have := o.1; rw [rp.notown] at this; cases this
          · simp only [mTurns] at hm
            cases hg : g ts[i] env with
            | no => rw [hg] at hm; cases hm
            | ex c e => rw [hg] at hm; cases hm
            | ok u e1 =>
              rw [hg] at hm
              simp only at hm
              intro F2 H2 σ2 S2 so x2
              have x2 := x2.widen (L' := Own (wipe σ vs) env) fun a o => o.elim id fun o => by have := o.1; rw [rp.notown] at this; cases this
              refine ⟨wipe_same so, ?_⟩
              -- D stays apart
              have apart : ∀ {F3 H3 : Hp} {F4 H4 : Hp} {L M : Addr → Prop}, Ext F3 H3 L F4 H4 M → ¬ L D → H3 D = some (.lst accV) → F3 D = none → H4 D = some (.lst accV) ∧ F4 D = none ∧ ¬ M D := fun {F3 H3 F4 H4 L M} x nl h1 h2 => by
                refine ⟨x.keep D _ h1 nl, ?_, fun m => ?_⟩
                · cases z : F4 D with
                  | none => rfl
                  | some w =>
                    rcases x.new D w z with q | q | q | ⟨_, q⟩
                    · rw [h2] at q; cases q
                    · exact (nl q).elim
                    · rw [h1] at q; cases q
                    · rw [h1] at q; cases q
                · rcases x.own D m with q | q
                  · exact nl q
                  · rw [h1] at q; cases q
              obtain ⟨hl2, hf2, no2⟩ := apart x2 no hl1 hf1
              refine ⟨F2, e1, S2, ?_⟩
              cases hc : c e1 with
              | no => rw [hc] at hm; cases hm
              | ex c e => rw [hc] at hm; cases hm
              | ok b e2 =>
                rw [hc] at hm
                intro F3 H3 S3 x3
                obtain ⟨hl3, hf3, no3⟩ := apart x3 no2 hl2 hf2
                have xe' : Ext F H (Own (wipe σ vs) env) F1 H' (Own (wipe σ vs) env) := ⟨xe.frz, fun a o z _ => xe.keep a o z fun w => w, fun a o => .inl o, fun a o z => (xe.new a o z).imp id fun w => w.elim (fun w => w.elim) .inr, xe.dom⟩
                have x03 : Ext F0 H0 (Own (wipe σ vs) (wipeE e0 vs)) F3 H3 (fun a => Own σ2 e2 a ∨ a = D) := by
                  have y1 := xt.trans xe' (M := fun a => Own (wipe σ vs) env a ∨ a = D) (fun a o => .inl o) fun a m => .inl m
                  have y2 := y1.trans x2 (M := fun a => Own σ2 e1 a ∨ a = D) (fun a o => .inl o) fun a m => m.elim .inr fun z => .inl (.inr z)
                  exact y2.trans x3 (M := fun a => Own σ2 e2 a ∨ a = D) (fun a o => .inl o) fun a m => m.elim .inr fun z => .inl (.inr z)
                have s3 : Same F0 F3 := x03.frz
                have ra3 : RepFs K F3 accV acc := ra.mono fun a o z => x3.frz a o (x2.frz a o (xe.frz a o z))
                cases b with
                | false =>
                  rw [if_neg Bool.false_ne_true]
                  obtain ⟨Sw3, ow3⟩ := S3.rewiped so
                  exact ⟨F3, wipeE e2 vs, acc, accV, Sw3, s3, hl3, hf3, ra3, fun o => no3 (ow3 D o), by omega, x03.mono fun a m => m.imp (ow3 a) id, hm⟩
                | true =>
                  rw [if_pos rfl]
                  refine ⟨F3, e2, S3, ?_⟩
                  simp only at hm
                  cases he : elt e2 with
                  | no => rw [he] at hm; cases hm
                  | ex c e => rw [he] at hm; cases hm
                  | ok yv e3 =>
                    rw [he] at hm
                    intro F4 H4 v S4 rv nv x4
                    obtain ⟨hl4, hf4, no4⟩ := apart x4 no3 hl3 hf3
                    obtain ⟨F5, S5, rf, x5⟩ := S4.frzV rv nv
                    obtain ⟨hl5, hf5, no5⟩ := apart x5 no4 hl4 hf4
                    refine ⟨accV, hl5, ?_, ?_⟩
                    · have := ra.len; omega
                    · obtain ⟨Sw5, ow5⟩ := S5.rewiped so
                      have noW : ¬ Own (wipe σ vs) (wipeE e3 vs) D := fun o => no5 (ow5 D o)
                      have x6 : Ext F5 H4 (fun a => a = D) F5 (upd H4 D (.lst (accV ++ [v]))) (fun a => a = D) := ⟨fun _ _ q => q, fun a o q n => by rw [upd_ne n]; exact q, fun a z => .inl z, fun _ _ q => .inl q, fun a q => by
                        by_cases z : a = D
                        · subst z; rw [upd_same] at q; cases q
                        · rw [upd_ne z] at q; exact q⟩
                      have sm6 : Same F5 (upd H4 D (.lst (accV ++ [v]))) := fun a o q => by
                        rw [upd_ne]; exact S5.sub a o q
                        rintro rfl; rw [hf5] at q; cases q
                      have x05 : Ext F0 H0 (Own (wipe σ vs) (wipeE e0 vs)) F5 H4 (fun a => Own σ2 e3 a ∨ a = D) := by
                        have y1 := x03.trans x4 (M := fun a => (Own σ2 e3 a ∨ OwnV v yv a) ∨ a = D) (fun a o => .inl o) fun a m => m.elim .inr fun z => .inl (.inr z)
                        exact y1.trans x5 (M := fun a => Own σ2 e3 a ∨ a = D) (fun a o => .inl o) fun a m => m.elim .inr fun z => .inl (.inr z)
                      have s5 : Same F0 F5 := x05.frz
                      exact ⟨F5, wipeE e3 vs, acc ++ [yv.frz], accV ++ [v], Sw5.ext x6 sm6 fun a o z => noW (by rw [← z]; exact o), s5, upd_same, hf5, (ra3.mono fun a o z => x5.frz a o (x4.frz a o z)).append (.cons rf .nil), noW, by simp; omega,
                        (x05.trans x6 (fun a z => .inr z) fun a m => .inl (m.imp (ow5 a) id)), hm⟩
        · -- the end
          rw [List.drop_length] at hm
          simp only [mTurns] at hm
          cases hm
          obtain ⟨Sb, ob⟩ := S0.back S xt fun a o => .inl o
          refine p F H (.ref D) Sb ⟨D, accV, rfl, hf, hl, ra⟩ (fun a o z => ?_) (x0.trans xt (fun a o => ow a o) fun a m => ?_)
          · have : a = D := by have := o.2; cases this; rfl
            subst this
            rcases ob a z with w | ⟨w, _⟩
            · exact no w
            · obtain ⟨_, u, q⟩ := S0.ownAt w
              rw [hD] at q; cases q
          · rcases m with m | m
            · rcases ob a m with w | ⟨w, _⟩
              · exact .inr (.inl w)
              · exact .inl w
            · have : a = D := by have := m.2; cases this; rfl
              exact .inr (.inr this)
    · exact p.elim
end
section
variable {X : Cx} {A : List Nat} {elt tg iter : Expr} {ifs : List Expr} {scope : Scope} {own : List (Str × Nat)} {pos : Pos} {src : M (List T)} {g : G} {c : M Bool} {me : M T}
/-- a block's context: no exception leaves it -/
abbrev VPTs (X : Cx) (ifs : List Expr) (m : M Bool) : Prop := PTs X ifs (rdT X.K (fun _ _ _ _ => False) X.mg m)
theorem vpts_nil {X : Cx} : VPTs X [] mYes := ⟨fun pins s σ H Q I h => pts_nil.run pins s σ H Q I (by
  obtain ⟨F, env, S, p⟩ := h
  exact p F H S Ext.refl)⟩
theorem vpts_one {X : Cx} {e : Expr} {m : M Bool} (h : VT X e m) : VPTs X [e] m := pts_one (h _ takes0)
theorem ve_comp (hc : X.calm = true) (hN : X.N.Nodup) (hi : VI X tg iter src) (ok : BlkOk X.N X.env.scope scope own)
    (hg : ∀ (s : Shared) (H : Hp) (C : Addr) (cl : List (Str × Addr)) (fp : List Addr), VG (X.blk s H scope (compEnvC scope cl C X.env) fp) (own.map (·.2)) tg g)
    (ht : ∀ (s : Shared) (H : Hp) (C : Addr) (cl : List (Str × Addr)) (fp : List Addr), VPTs (X.blk s H scope (compEnvC scope cl C X.env) fp) ifs c)
    (he : ∀ (s : Shared) (H : Hp) (C : Addr) (cl : List (Str × Addr)) (fp : List Addr), VE (X.blk s H scope (compEnvC scope cl C X.env) fp) elt me) (hs : ∀ x, foldedSetIterable iter X.env x = pure x) :
    VE X (.ListComp elt [⟨tg, iter, ifs, 0⟩] scope pos) (mComp (own.map (·.2)) src g c me) := fun W tk =>
  (pe_lc hc hN (hi W tk) ok (fun s H C cl fp => hg s H C cl fp _ takes0) (fun s H C cl fp => ht s H C cl fp) (fun s H C cl fp => he s H C cl fp _ takes0) hs).weak fun σ H Q h => rdE_comp h
theorem vs_setComp {i : Nat} {y : Str} {py spos : Pos} (hc : X.calm = true) (hN : X.N.Nodup) (hy : X.N[i]? = some y) (hyl : X.env.scope.names.lookup y = some .local) (hA : i ∈ A)
    (hsw : swapsWith (.ListComp elt [⟨tg, iter, ifs, 0⟩] scope pos) (some (.Name y py)) spos.line X.env = pure true) (hi : VI X tg iter src) (ok : BlkOk X.N X.env.scope scope own)
    (hg : ∀ (s : Shared) (H : Hp) (C : Addr) (cl : List (Str × Addr)) (fp : List Addr), VG (X.blk s H scope (compEnvC scope cl C X.env) fp) (own.map (·.2)) tg g)
    (ht : ∀ (s : Shared) (H : Hp) (C : Addr) (cl : List (Str × Addr)) (fp : List Addr), VPTs (X.blk s H scope (compEnvC scope cl C X.env) fp) ifs c)
    (he : ∀ (s : Shared) (H : Hp) (C : Addr) (cl : List (Str × Addr)) (fp : List Addr), VE (X.blk s H scope (compEnvC scope cl C X.env) fp) elt me) (hs : ∀ x, foldedSetIterable iter X.env x = pure x) :
    VS X A (.Assign [.Name y py] (.ListComp elt [⟨tg, iter, ifs, 0⟩] scope pos) spos) (mSet i (mComp (own.map (·.2)) src g c me)) := fun W tk =>
  (ps_setLc hc hN hy hyl hsw (hi W tk) ok (fun s H C cl fp => hg s H C cl fp _ takes0) (fun s H C cl fp => ht s H C cl fp) (fun s H C cl fp => he s H C cl fp _ takes0) hs).weak fun D σ H h =>
  rdE_comp (rdS_on (Q := fun v H1 => D.nx (σ.set i (some v)) H1) h fun t e F1 H1 v L S r n hl hv p => p F1 H1 (σ.set i (some v)) (S.put r n) (.set hA) (Ext.refl.mono fun a o => (own_put o).elim (hl a) (hv a)))
end
end VL

/-! Primitive operations: their tree functions and rules. -/
namespace VL
open PySem L2

/-! ### forms -/
section
variable {K : Fr} {F H : Hp} {v : V}
theorem rep_non (h : Rep K F H v .non) : v = .non := by simpa [Rep, RepF] using h
theorem rep_bl {b} (h : Rep K F H v (.bl b)) : v = .bl b := by simpa [Rep, RepF] using h
theorem rep_int {b} (h : Rep K F H v (.int b)) : v = .int b := by simpa [Rep, RepF] using h
theorem rep_str {b} (h : Rep K F H v (.str b)) : v = .str b := by simpa [Rep, RepF] using h
theorem rep_tup {ts} (s : Same F H) (h : Rep K F H v (.tup ts)) : ∃ p vs, v = .ref p ∧ H p = some (.tup vs) ∧ RepFs K F vs ts := by
  have h := h.toF rfl
  unfold RepF at h
  obtain ⟨p, vs, a, b, c⟩ := h
  exact ⟨p, vs, a, s _ _ b, c⟩
theorem rep_lst {o ts} (s : Same F H) (h : Rep K F H v (.lst o ts)) : ∃ p vs, v = .ref p ∧ H p = some (.lst vs) ∧ RepFs K F vs ts := by
  cases o with
  | true => obtain ⟨p, vs, a, b, c, d⟩ := h; exact ⟨p, vs, a, c, d⟩
  | false =>
    have h := h.toF rfl
    unfold RepF at h
    obtain ⟨_, p, vs, a, b, c⟩ := h
    exact ⟨p, vs, a, s _ _ b, c⟩
theorem rep_dic {o ks ts} (s : Same F H) (h : Rep K F H v (.dic o ks ts)) : ∃ p kvs, v = .ref p ∧ H p = some (.dK kvs) ∧ kvs.map (·.1) = ks ∧ RepFs K F (kvs.map (·.2)) ts := by
  cases o with
  | true => obtain ⟨p, vs, a, b, c, d⟩ := h; exact ⟨p, vs, a, c, d⟩
  | false =>
    have h := h.toF rfl
    unfold RepF at h
    obtain ⟨_, p, vs, a, b, c⟩ := h
    exact ⟨p, vs, a, s _ _ b, c⟩
theorem rep_dit {o ks ts} (s : Same F H) (h : Rep K F H v (.dit o ks ts)) : ∃ p kvs, v = .ref p ∧ H p = some (.dT kvs) ∧ kvs.map (·.1) = ks ∧ RepFs K F (kvs.map (·.2)) ts := by
  cases o with
  | true => obtain ⟨p, vs, a, b, c, d⟩ := h; exact ⟨p, vs, a, c, d⟩
  | false =>
    have h := h.toF rfl
    unfold RepF at h
    obtain ⟨_, p, vs, a, b, c⟩ := h
    exact ⟨p, vs, a, s _ _ b, c⟩
theorem rep_scr {ns} (s : Same F H) (h : Rep K F H v (.scr ns)) : ∃ p, v = .ref p ∧ SqL K H p (ns.map V.int) := by
  have h := h.toF rfl
  unfold RepF at h
  obtain ⟨p, a, b⟩ := h
  exact ⟨p, a, sqL_mono s b⟩
/-- what a primitive's caller is given: the answer stands there -/
abbrev Kont (K : Fr) (F H : Hp) (t : T) (Q : VK) : Prop := ∀ F' H' v, Same F' H' → Rep K F' H' v t → Ext F H (fun _ => False) F' H' (OwnV v t) → Q v H'
theorem ret_frz {t : T} {Q : VK} (s : Same F H) (k : Kont K F H t Q) (r : RepF K F v t) : Q v H :=
  k F H v s (.ofF r) (Ext.refl.mono fun a o => by have := o.1; rw [r.notown] at this; cases this)
theorem ret_int {i : Int} {Q : VK} (s : Same F H) (k : Kont K F H (.int i) Q) : Q (.int i) H := ret_frz s k (by unfold RepF; rfl)
theorem ret_bl {i : Bool} {Q : VK} (s : Same F H) (k : Kont K F H (.bl i) Q) : Q (.bl i) H := ret_frz s k (by unfold RepF; rfl)
theorem ret_str {i : Str} {Q : VK} (s : Same F H) (k : Kont K F H (.str i) Q) : Q (.str i) H := ret_frz s k (by unfold RepF; rfl)
theorem ret_non {Q : VK} (s : Same F H) (k : Kont K F H .non Q) : Q .non H := ret_frz s k (by unfold RepF; rfl)
theorem ret_lst {vs : List V} {ts : List T} {Q : VK} (s : Same F H) (k : Kont K F H (.lst true ts) Q) (r : RepFs K F vs ts) {p : Addr} (hp : H p = none) : Q (.ref p) (upd H p (.lst vs)) := by
  have hF : F p = none := by
    cases z : F p with
    | none => rfl
    | some w => rw [s p w z] at hp; cases hp
  exact k F _ (.ref p) (fun a o q => upd_new hp a o (s a o q)) ⟨p, vs, rfl, hF, upd_same, r⟩ ⟨fun _ _ q => q, fun a o q _ => upd_new hp a o q, fun a o => .inr (by have := o.2; cases this; exact hp), fun _ _ q => .inl q, upd_dom⟩
theorem ret_tup {vs : List V} {ts : List T} {Q : VK} (s : Same F H) (k : Kont K F H (.tup ts) Q) (r : RepFs K F vs ts) {p : Addr} (hp : H p = none) : Q (.ref p) (upd H p (.tup vs)) := by
  have hF : F p = none := by
    cases z : F p with
    | none => rfl
    | some w => rw [s p w z] at hp; cases hp
  refine k (upd F p (.tup vs)) _ (.ref p) (fun a o q => ?_) (.ofF ?_) ⟨upd_new hF, fun a o q _ => upd_new hp a o q, fun a o => (by have := o.1; cases this), fun a o q => ?_, upd_dom⟩
  · by_cases w : a = p
    · subst w; rw [upd_same] at q ⊢; exact q
    · rw [upd_ne w] at q ⊢; exact s a o q
  · unfold RepF
    exact ⟨p, vs, rfl, upd_same, r.mono (upd_new hF)⟩
  · by_cases w : a = p
    · subst w; exact .inr (.inr (.inl hp))
    · rw [upd_ne w] at q; exact .inl q
end

/-! ### arithmetic -/
def b2 (b : Bool) : Int := if b then 1 else 0
theorem b2_eq (b : Bool) : PyProof.Rows.b2i b = b2 b := by cases b <;> rfl
def pAdd : List T → Option T
  | [.int i, .int j] => some (.int (i + j))
  | [.int i, .bl k] => some (.int (i + b2 k))
  | [.bl k, .int j] => some (.int (b2 k + j))
  | [.bl i, .bl j] => some (.int (b2 i + b2 j))
  | [.str a, .str b] => if a.length + b.length ≤ sizeLine then some (.str (a ++ b)) else none
  | [.lst _ a, .lst _ b] => if a.length + b.length ≤ sizeLine then some (.lst true (a ++ b)) else none
  | [.tup a, .tup b] => if a.length + b.length ≤ sizeLine ∧ a ≠ [] then some (.tup (a ++ b)) else none
  | _ => none
def pSub : List T → Option T
  | [.int i, .int j] => some (.int (i - j))
  | [.bl i, .bl j] => some (.int (b2 i - b2 j))
  | [.int i, .bl j] => some (.int (i - b2 j))
  | _ => none
def mulOk (i j : Int) : Bool := decide (i.natAbs < 2 ^ 64) || decide (j.natAbs < 2 ^ 64) || decide (i.natAbs.log2 + j.natAbs.log2 < 1000000)
def repL (xs : List T) (k : Int) : List T := (List.replicate k.toNat xs).flatten
def pMul : List T → Option T
  | [.int i, .int j] => if mulOk i j then some (.int (i * j)) else none
  | [.int i, .bl j] => some (.int (i * b2 j))
  | [.lst _ xs, .int k] => if -(2 ^ 63) ≤ k ∧ k < 2 ^ 63 ∧ xs.length * k.toNat ≤ sizeLine then some (.lst true (repL xs k)) else none
  | [.str z, .int k] => if 0 ≤ k ∧ k < 1000 ∧ z.length < 1000 then some (.str (Txt.mul z k)) else none
  | _ => none
def pFdiv : List T → Option T
  | [.int i, .int j] => if 0 < j ∧ j.natAbs.log2 < 9000 then some (.int (i / j)) else if j ≠ 0 ∧ j.natAbs < 1073741824 then some (.int (i.fdiv j)) else none
  | _ => none
def pMod : List T → Option T
  | [.int i, .int j] => if 0 < j then some (.int (i % j)) else if j ≠ 0 then some (.int (i.fmod j)) else none
  | _ => none
def pPow : List T → Option T
  | [.int i, .int j] => if 0 ≤ j ∧ j ≤ 1000000 ∧ i.natAbs < 2 ^ 64 then some (.int (i ^ j.toNat)) else none
  | _ => none
def pNeg : List T → Option T
  | [.int i] => some (.int (-i))
  | _ => none
abbrev orR (r r' : R2) : R2 := fun x y H Q => r x y H Q ∨ r' x y H Q
def rIB (f : Int → Bool → V) : R2 := fun x y H Q => ∃ i k, x = .int i ∧ y = .bl k ∧ Q (f i k) H
def rBI (f : Bool → Int → V) : R2 := fun x y H Q => ∃ i k, x = .bl i ∧ y = .int k ∧ Q (f i k) H
def rBB (f : Bool → Bool → V) : R2 := fun x y H Q => ∃ i k, x = .bl i ∧ y = .bl k ∧ Q (f i k) H
section
variable {X : Cx}
theorem opIB {f : Value → Value → Sem Value} {g : Int → Bool → Int} (rule : ∀ (i : Int) (t : Tok) (k : Bool) (s : Shared) (Q : Value → Shared → Prop) (E : Value → Shared → Prop), Q (.int (g i k) s.toks) { s with toks := s.toks + 1 } → wpAny (model X.prog X.w) X.A (f (.int i t) (.bool k)) Q E s) : OpR X f (rIB fun i k => .int (g i k)) := by
  intro pins s σ H x y v u Q I rx ry h
  obtain ⟨i, k, rfl, rfl, q⟩ := h
  obtain ⟨t, rfl⟩ := rx
  cases ry
  exact rule i t k s _ _ ⟨.int (g i k), H, I.tok _, ⟨_, rfl⟩, q⟩
theorem opBI {f : Value → Value → Sem Value} {g : Bool → Int → Int} (rule : ∀ (i : Bool) (k : Int) (t : Tok) (s : Shared) (Q : Value → Shared → Prop) (E : Value → Shared → Prop), Q (.int (g i k) s.toks) { s with toks := s.toks + 1 } → wpAny (model X.prog X.w) X.A (f (.bool i) (.int k t)) Q E s) : OpR X f (rBI fun i k => .int (g i k)) := by
  intro pins s σ H x y v u Q I rx ry h
  obtain ⟨i, k, rfl, rfl, q⟩ := h
  obtain ⟨t, rfl⟩ := ry
  cases rx
  exact rule i k t s _ _ ⟨.int (g i k), H, I.tok _, ⟨_, rfl⟩, q⟩
theorem opBB {f : Value → Value → Sem Value} {g : Bool → Bool → Int} (rule : ∀ (i k : Bool) (s : Shared) (Q : Value → Shared → Prop) (E : Value → Shared → Prop), Q (.int (g i k) s.toks) { s with toks := s.toks + 1 } → wpAny (model X.prog X.w) X.A (f (.bool i) (.bool k)) Q E s) : OpR X f (rBB fun i k => .int (g i k)) := by
  intro pins s σ H x y v u Q I rx ry h
  obtain ⟨i, k, rfl, rfl, q⟩ := h
  cases rx
  cases ry
  exact rule i k s _ _ ⟨.int (g i k), H, I.tok _, ⟨_, rfl⟩, q⟩
theorem op_addA : OpR X (binaryOp .Add) (orR (rI0 fun i j => .int (i + j)) (orR (rIB fun i k => .int (i + b2 k)) (orR (rBI fun i k => .int (b2 i + k)) (orR (rBB fun i k => .int (b2 i + b2 k)) (orR (fun x y H Q => ∃ i j, x = .str i ∧ y = .str j ∧ i.length + j.length ≤ sizeLine ∧ Q (.str (i ++ j)) H) (orR rCat (rCatT X.K))))))) :=
  op_add.or ((opIB fun i t k s Q E q => PySem.add_int_bool q).or ((opBI fun i k t s Q E q => PySem.IntBool.add_bool_int q).or ((opBB fun i k s Q E q => PyProof.Rows.add_bool (by rw [b2_eq, b2_eq]; exact q)).or (op_add_str.or (op_cat.or op_catT)))))
theorem iop_addA : OpR X (inplaceOp .Add) (orR (rI0 fun i j => .int (i + j)) (orR (rIB fun i k => .int (i + b2 k)) (fun x y H Q => ∃ i j, x = .str i ∧ y = .str j ∧ i.length + j.length ≤ sizeLine ∧ Q (.str (i ++ j)) H))) :=
  iop_add.or ((opIB fun i t k s Q E q => PySem.iadd_int_bool q).or iop_add_str)
end
section
variable {K : Fr}
theorem prim1 {r : V → Hp → VK → Prop} {p : List T → Option T} (h : ∀ F H x a t Q, Same F H → Rep K F H x a → p [a] = some t → Kont K F H t Q → r x H Q) : Prim K (run1 r) p := fun F H vs ts t Q s rl e k x hv => by
  subst hv
  cases rl with
  | cons r1 rl => cases rl; exact h F H _ _ t Q s r1 e k
theorem prim2 {r : R2} {p : List T → Option T} (h : ∀ F H x y a b t Q, Same F H → Rep K F H x a → Rep K F H y b → p [a, b] = some t → Kont K F H t Q → r x y H Q) : Prim K (run2 r) p := fun F H vs ts t Q s rl e k x y hv => by
  subst hv
  cases rl with
  | cons r1 rl =>
    cases rl with
    | cons r2 rl => cases rl; exact h F H _ _ _ _ t Q s r1 r2 e k
theorem prim_add : Prim K (run2 (orR (rI0 fun i j => .int (i + j)) (orR (rIB fun i k => .int (i + b2 k)) (orR (rBI fun i k => .int (b2 i + k)) (orR (rBB fun i k => .int (b2 i + b2 k)) (orR (fun x y H Q => ∃ i j, x = .str i ∧ y = .str j ∧ i.length + j.length ≤ sizeLine ∧ Q (.str (i ++ j)) H) (orR rCat (rCatT K)))))))) pAdd := prim2 fun F H x y a b t Q s r1 r2 e k => by
  unfold pAdd at e
  split at e
  · rename_i i j heq; cases heq; cases e
    cases rep_int r1; cases rep_int r2
    exact .inl ⟨i, j, rfl, rfl, ret_int s k⟩
  · rename_i i j heq; cases heq; cases e
    cases rep_int r1; cases rep_bl r2
    exact .inr (.inl ⟨i, j, rfl, rfl, ret_int s k⟩)
  · rename_i i j heq; cases heq; cases e
    cases rep_bl r1; cases rep_int r2
    exact .inr (.inr (.inl ⟨i, j, rfl, rfl, ret_int s k⟩))
  · rename_i i j heq; cases heq; cases e
    cases rep_bl r1; cases rep_bl r2
    exact .inr (.inr (.inr (.inl ⟨i, j, rfl, rfl, ret_int s k⟩)))
  · rename_i i j heq; cases heq
    split at e
    · cases e
      cases rep_str r1; cases rep_str r2
      exact .inr (.inr (.inr (.inr (.inl ⟨i, j, rfl, rfl, by assumption, ret_str s k⟩))))
    · cases e
  · rename_i o1 i o2 j heq; cases heq
    split at e
    · cases e
      obtain ⟨p, vs, rfl, h1, h2⟩ := rep_lst s r1
      obtain ⟨q, ws, rfl, h3, h4⟩ := rep_lst s r2
      exact .inr (.inr (.inr (.inr (.inr (.inl ⟨p, q, vs, ws, rfl, rfl, h1, h3, by rw [h2.len, h4.len]; assumption, fun z hz => ret_lst s k (h2.append h4) hz⟩)))))
    · cases e
  · rename_i i j heq; cases heq
    split at e
    · rename_i hc
      cases e
      obtain ⟨p, vs, rfl, h1, h2⟩ := rep_tup s r1
      obtain ⟨q, ws, rfl, h3, h4⟩ := rep_tup s r2
      refine .inr (.inr (.inr (.inr (.inr (.inr ⟨p, q, vs, ws, rfl, rfl, SqT.of h1, SqT.of h3, fun z => hc.2 ?_, by rw [h2.len, h4.len]; exact hc.1, fun z => ?_, fun _ z hz => ret_tup s k (h2.append h4) hz⟩)))))
      · subst z
        have := h2.len
        exact List.length_eq_zero_iff.mp this.symm
      · subst z
        have : j = [] := List.length_eq_zero_iff.mp h4.len.symm
        subst this
        rw [List.append_nil] at k
        exact ret_frz s k (r1.toF rfl)
    · cases e
  · cases e
theorem prim_sub : Prim K (run2 (orR (rI0 fun i j => .int (i - j)) (orR (rBB fun i k => .int (b2 i - b2 k)) (rIB fun i k => .int (i - b2 k))))) pSub := prim2 fun F H x y a b t Q s r1 r2 e k => by
  unfold pSub at e
  split at e
  · rename_i i j heq; cases heq; cases e
    cases rep_int r1; cases rep_int r2
    exact .inl ⟨i, j, rfl, rfl, ret_int s k⟩
  · rename_i i j heq; cases heq; cases e
    cases rep_bl r1; cases rep_bl r2
    exact .inr (.inl ⟨i, j, rfl, rfl, ret_int s k⟩)
  · rename_i i j heq; cases heq; cases e
    cases rep_int r1; cases rep_bl r2
    exact .inr (.inr ⟨i, j, rfl, rfl, ret_int s k⟩)
  · cases e
theorem repFs_rep {F : Hp} {vs : List V} {ts : List T} (r : RepFs K F vs ts) : ∀ n : Nat, RepFs K F (List.replicate n vs).flatten (List.replicate n ts).flatten
  | 0 => .nil
  | n + 1 => by
    rw [List.replicate_succ, List.replicate_succ, List.flatten_cons, List.flatten_cons]
    exact r.append (repFs_rep r n)
def CMulA (i j : Int) : Prop := mulOk i j = true
def rMulA : R2 := rI CMulA fun i j => .int (i * j)
def rRepS : R2 := fun x y H Q => ∃ z k, x = .str z ∧ y = .int k ∧ PySem.MulOk z k ∧ Q (.str (Txt.mul z k)) H
theorem mulOkS {z : Str} {k : Int} (h0 : 0 ≤ k) (h1 : k < 1000) (h2 : z.length < 1000) : PySem.MulOk z k := by
  obtain ⟨n, rfl⟩ := Int.eq_ofNat_of_zero_le h0
  have hn : n < 1000 := by omega
  refine ⟨by simp; omega, fun a b => ?_, fun a b => ?_⟩
  · have h3 : (1000 : Int) ≤ (2 ^ 63 - 1) / (n : Int) := by
      rw [Int.le_ediv_iff_mul_le (by omega)]
      omega
    omega
  · unfold PySem.Builtin.Str.tooLong
    have hz : (1000000 : Nat) ≤ sizeLine := by decide
    have : z.length * n ≤ 1000 * 1000 := Nat.mul_le_mul (by omega) (by omega)
    rw [Int.toNat_natCast]
    simp only [gt_iff_lt, decide_eq_false_iff_not, Nat.not_lt]
    omega
theorem prim_mul : Prim K (run2 (orR rMulA (orR (rIB fun i k => .int (i * b2 k)) (orR rRep rRepS)))) pMul := prim2 fun F H x y a b t Q s r1 r2 e k => by
  unfold pMul at e
  split at e
  · rename_i i j heq; cases heq
    split at e
    · cases e
      cases rep_int r1; cases rep_int r2
      exact .inl ⟨i, j, rfl, rfl, by assumption, ret_int s k⟩
    · cases e
  · rename_i i j heq; cases heq; cases e
    cases rep_int r1; cases rep_bl r2
    exact .inr (.inl ⟨i, j, rfl, rfl, ret_int s k⟩)
  · rename_i o xs n heq; cases heq
    split at e
    · rename_i hc
      cases e
      obtain ⟨p, vs, rfl, h1, h2⟩ := rep_lst s r1
      cases rep_int r2
      exact .inr (.inr (.inl ⟨p, n, vs, rfl, rfl, h1, hc.1, hc.2.1, by rw [h2.len]; exact hc.2.2, fun z hz => ret_lst s k (repFs_rep h2 _) hz⟩))
    · cases e
  · rename_i z n heq; cases heq
    split at e
    · rename_i hc
      cases e
      cases rep_str r1; cases rep_int r2
      exact .inr (.inr (.inr ⟨z, n, rfl, rfl, mulOkS hc.1 hc.2.1 hc.2.2, ret_str s k⟩))
    · cases e
  · cases e
def rFdA : R2 := orR (rI CDivW fun i j => .int (i / j)) (rI CDivN fun i j => .int (i.fdiv j))
theorem prim_fdiv : Prim K (run2 rFdA) pFdiv := prim2 fun F H x y a b t Q s r1 r2 e k => by
  unfold pFdiv at e
  split at e
  · rename_i i j heq; cases heq
    cases rep_int r1; cases rep_int r2
    split at e
    · cases e
      exact .inl ⟨i, j, rfl, rfl, by assumption, ret_int s k⟩
    · split at e
      · cases e
        exact .inr ⟨i, j, rfl, rfl, by assumption, ret_int s k⟩
      · cases e
  · cases e
def rModA : R2 := orR (rI (fun _ j => 0 < j) fun i j => .int (i % j)) (rI (fun _ j => j ≠ 0) fun i j => .int (i.fmod j))
theorem prim_mod : Prim K (run2 rModA) pMod := prim2 fun F H x y a b t Q s r1 r2 e k => by
  unfold pMod at e
  split at e
  · rename_i i j heq; cases heq
    cases rep_int r1; cases rep_int r2
    split at e
    · cases e
      exact .inl ⟨i, j, rfl, rfl, by assumption, ret_int s k⟩
    · split at e
      · cases e
        exact .inr ⟨i, j, rfl, rfl, by assumption, ret_int s k⟩
      · cases e
  · cases e
theorem prim_pow : Prim K (run2 (rI CPow fun i j => .int (i ^ j.toNat))) pPow := prim2 fun F H x y a b t Q s r1 r2 e k => by
  unfold pPow at e
  split at e
  · rename_i i j heq; cases heq
    cases rep_int r1; cases rep_int r2
    split at e
    · cases e
      exact ⟨i, j, rfl, rfl, by assumption, ret_int s k⟩
    · cases e
  · cases e
theorem prim_neg : Prim K (run1 (rU fun i => .int (-i))) pNeg := prim1 fun F H x a t Q s r1 e k => by
  unfold pNeg at e
  split at e
  · rename_i i heq; cases heq; cases e
    cases rep_int r1
    exact ⟨i, rfl, ret_int s k⟩
  · cases e
end
section
variable {X : Cx}
theorem mulOk_ok {i j : Int} (h : mulOk i j = true) : PySem.IntMulOk i j := by
  unfold mulOk at h
  simp only [Bool.or_eq_true, decide_eq_true_eq] at h
  rcases h with (h | h) | h
  · exact CMul.ok (.inl ⟨by omega, by omega⟩)
  · exact CMul.ok (.inr ⟨by omega, by omega⟩)
  · exact CMulW.ok h
theorem op_subA : OpR X (binaryOp .Sub) (orR (rI0 fun i j => .int (i - j)) (orR (rBB fun i k => .int (b2 i - b2 k)) (rIB fun i k => .int (i - b2 k)))) :=
  op_sub.or ((opBB fun i k s Q E q => PyProof.Rows.sub_bool (by rw [b2_eq, b2_eq]; exact q)).or (opIB fun i t k s Q E q => PySem.IntBool.sub_int_bool q))
theorem op_rep_str : OpR X (binaryOp .Mult) rRepS := by
  intro pins s σ H x y v u Q I rx ry h
  obtain ⟨z, k, rfl, rfl, hz, q⟩ := h
  obtain ⟨t, rfl⟩ := rx
  obtain ⟨t', rfl⟩ := ry
  exact PySem.SB.mul hz fun t' tk => ⟨.str (Txt.mul z k), H, I.tok _, ⟨_, rfl⟩, q⟩
theorem op_mulA : OpR X (binaryOp .Mult) (orR rMulA (orR (rIB fun i k => .int (i * b2 k)) (orR rRep rRepS))) :=
  (opI fun _ _ _ _ _ _ _ hc q => PyProof.Rows.mul_int q (mulOk_ok hc)).or ((opIB fun i t k s Q E q => PySem.IntBool.mul_int_bool q).or (op_rep.or op_rep_str))
theorem op_fdivA : OpR X (binaryOp .FloorDiv) rFdA := op_fdivW.or op_fdivN
theorem op_modA : OpR X (binaryOp .Mod) rModA := op_mod.or op_modN
variable {a b : Expr} {oa ob : Opd} {pos : Pos}
theorem ve_add (ha : VO X a oa) (hb : VO X b ob) : VE X (.BinOp a .Add b pos) (mPrim pAdd [oa, ob]) := ve_bin op_addA prim_add ha hb
theorem ve_sub (ha : VO X a oa) (hb : VO X b ob) : VE X (.BinOp a .Sub b pos) (mPrim pSub [oa, ob]) := ve_bin op_subA prim_sub ha hb
theorem ve_mul (ha : VO X a oa) (hb : VO X b ob) : VE X (.BinOp a .Mult b pos) (mPrim pMul [oa, ob]) := ve_bin op_mulA prim_mul ha hb
theorem ve_fdiv (ha : VO X a oa) (hb : VO X b ob) : VE X (.BinOp a .FloorDiv b pos) (mPrim pFdiv [oa, ob]) := ve_bin op_fdivA prim_fdiv ha hb
theorem ve_mod (ha : VO X a oa) (hb : VO X b ob) : VE X (.BinOp a .Mod b pos) (mPrim pMod [oa, ob]) := ve_bin op_modA prim_mod ha hb
theorem ve_pow (ha : VO X a oa) (hb : VO X b ob) : VE X (.BinOp a .Pow b pos) (mPrim pPow [oa, ob]) := ve_bin op_pow prim_pow ha hb
theorem ve_neg (ha : VO X a oa) : VE X (.UnaryOp .USub a pos) (mPrim pNeg [oa]) := ve_un un_neg prim_neg ha
end

end VL

/-! Comparisons. -/
namespace VL
open PySem L2

/-! ### equality of data -/
mutual
def eqT : T → T → Bool
  | .non, .non => true
  | .bl a, .bl b => a == b
  | .bl a, .int j => (if a then 1 else 0) == j
  | .int i, .bl b => i == (if b then 1 else 0)
  | .int i, .int j => i == j
  | .str x, .str y => x == y
  | .lst _ xs, .lst _ ys => eqTs xs ys
  | .tup xs, .tup ys => eqTs xs ys
  | _, _ => false
def eqTs : List T → List T → Bool
  | [], [] => true
  | x :: xs, y :: ys => eqT x y && eqTs xs ys
  | _, _ => false
end
mutual
/-- data of at most so many storeys, texts of true signs -/
def okT : T → Nat → Bool
  | .non, _ => true
  | .bl _, _ => true
  | .int _, _ => true
  | .str x, _ => PyData.strOk x
  | .lst _ xs, n + 1 => okTs xs n
  | .tup xs, n + 1 => okTs xs n
  | _, _ => false
def okTs : List T → Nat → Bool
  | [], _ => true
  | x :: xs, n => okT x n && okTs xs n
end
mutual
def toD : T → PyData
  | .non => .none
  | .bl b => .bool b
  | .int i => .int i
  | .str x => .str x
  | .lst _ xs => .list (toDs xs)
  | .tup xs => .tuple (toDs xs)
  | _ => .none
def toDs : List T → List PyData
  | [] => []
  | x :: xs => toD x :: toDs xs
end
mutual
theorem okT_lay : ∀ (t : T) (n : Nat), okT t n = true → (toD t).canLay0 = true ∧ (toD t).depth ≤ n
  | .non, n, _ => by simp [toD, PyData.canLay0, PyData.depth]
  | .bl _, n, _ => by simp [toD, PyData.canLay0, PyData.depth]
  | .int _, n, _ => by simp [toD, PyData.canLay0, PyData.depth]
  | .str x, n, h => by simp only [okT] at h; simp [toD, PyData.canLay0, PyData.depth, h]
  | .lst _ xs, 0, h => by simp [okT] at h
  | .lst _ xs, n + 1, h => by
    simp only [okT] at h
    obtain ⟨h1, h2⟩ := okTs_lay xs n h
    simp only [toD, PyData.canLay0, PyData.depth]
    exact ⟨h1, by omega⟩
  | .tup xs, 0, h => by simp [okT] at h
  | .tup xs, n + 1, h => by
    simp only [okT] at h
    obtain ⟨h1, h2⟩ := okTs_lay xs n h
    simp only [toD, PyData.canLay0, PyData.depth]
    exact ⟨h1, by omega⟩
  | .dic _ _ _, n, h => by simp [okT] at h
  | .dit _ _ _, n, h => by simp [okT] at h
  | .scr _, n, h => by simp [okT] at h
theorem okTs_lay : ∀ (ts : List T) (n : Nat), okTs ts n = true → PyData.canLayAll0 (toDs ts) = true ∧ PyData.depthAll (toDs ts) ≤ n
  | [], n, _ => by simp [toDs, PyData.canLayAll0, PyData.depthAll]
  | t :: ts, n, h => by
    simp only [okTs, Bool.and_eq_true] at h
    obtain ⟨h1, h2⟩ := okT_lay t n h.1
    obtain ⟨h3, h4⟩ := okTs_lay ts n h.2
    simp only [toDs, PyData.canLayAll0, PyData.depthAll, h1, h3, Bool.and_self, true_and]
    omega
end
mutual
theorem eqT_eqv : ∀ (a b : T) (n m : Nat), okT a n = true → okT b m = true → PyData.eqv (toD a) (toD b) = eqT a b
  | a, b, n, m, ha, hb => by
    cases a with
    | non => cases b <;> first | (simp [okT] at hb; done) | simp [toD, PyData.eqv, eqT]
    | bl x => cases b <;> first | (simp [okT] at hb; done) | simp [toD, PyData.eqv, eqT]
    | int x => cases b <;> first | (simp [okT] at hb; done) | simp [toD, PyData.eqv, eqT]
    | str x => cases b <;> first | (simp [okT] at hb; done) | simp [toD, PyData.eqv, eqT]
    | lst o xs =>
      cases n with
      | zero => simp [okT] at ha
      | succ n =>
        cases b <;> first | (simp [okT] at hb; done) | (simp [toD, PyData.eqv, eqT]; done) | skip
        cases m with
        | zero => simp [okT] at hb
        | succ m =>
          simp only [toD, PyData.eqv, eqT]
          simp only [okT] at ha hb
          exact eqTs_eqv xs _ n m ha hb
    | tup xs =>
      cases n with
      | zero => simp [okT] at ha
      | succ n =>
        cases b <;> first | (simp [okT] at hb; done) | (simp [toD, PyData.eqv, eqT]; done) | skip
        cases m with
        | zero => simp [okT] at hb
        | succ m =>
          simp only [toD, PyData.eqv, eqT]
          simp only [okT] at ha hb
          exact eqTs_eqv xs _ n m ha hb
    | dic _ _ _ => simp [okT] at ha
    | dit _ _ _ => simp [okT] at ha
    | scr _ => simp [okT] at ha
theorem eqTs_eqv : ∀ (as bs : List T) (n m : Nat), okTs as n = true → okTs bs m = true → PyData.eqvAll (toDs as) (toDs bs) = eqTs as bs
  | [], [], _, _, _, _ => by simp [toDs, PyData.eqvAll, eqTs]
  | [], _ :: _, _, _, _, _ => by simp [toDs, PyData.eqvAll, eqTs]
  | _ :: _, [], _, _, _, _ => by simp [toDs, PyData.eqvAll, eqTs]
  | a :: as, b :: bs, n, m, ha, hb => by
    simp only [okTs, Bool.and_eq_true] at ha hb
    simp only [toDs, PyData.eqvAll, eqTs]
    rw [eqT_eqv a b n m ha.1 hb.1, eqTs_eqv as bs n m ha.2 hb.2]
end
section
variable {K : Fr} {F H : Hp}
mutual
theorem dp_of (s : Same F H) : ∀ (t : T) (n : Nat) (v : V), okT t n = true → RepF K F v t → Dp K H v (toD t)
  | .non, n, v, _, r => by unfold RepF at r; subst r; exact .non
  | .bl b, n, v, _, r => by unfold RepF at r; subst r; exact .bl b
  | .int b, n, v, _, r => by unfold RepF at r; subst r; exact .int b
  | .str b, n, v, _, r => by unfold RepF at r; subst r; exact .str b
  | .lst _ xs, 0, v, h, r => by simp [okT] at h
  | .lst _ xs, n + 1, v, h, r => by
    unfold RepF at r
    obtain ⟨_, p, vs, rfl, q, r⟩ := r
    simp only [okT] at h
    exact .lst (SqL.of (s _ _ q)) (dps_of s xs n vs h r)
  | .tup xs, 0, v, h, r => by simp [okT] at h
  | .tup xs, n + 1, v, h, r => by
    unfold RepF at r
    obtain ⟨p, vs, rfl, q, r⟩ := r
    simp only [okT] at h
    exact .tup (SqT.of (s _ _ q)) (dps_of s xs n vs h r)
  | .dic _ _ _, n, v, h, _ => by simp [okT] at h
  | .dit _ _ _, n, v, h, _ => by simp [okT] at h
  | .scr _, n, v, h, _ => by simp [okT] at h
theorem dps_of (s : Same F H) : ∀ (ts : List T) (n : Nat) (vs : List V), okTs ts n = true → RepFs K F vs ts → DpAll K H vs (toDs ts)
  | [], n, vs, _, r => by unfold RepFs at r; subst r; exact .nil
  | t :: ts, n, vs, h, r => by
    unfold RepFs at r
    obtain ⟨v, w, rfl, r1, r2⟩ := r
    simp only [okTs, Bool.and_eq_true] at h
    exact .cons (dp_of s t n v h.1 r1) (dps_of s ts n w h.2 r2)
end
theorem dp_rep (s : Same F H) {t : T} {n : Nat} {v : V} (h : okT t n = true) (r : Rep K F H v t) : Dp K H v (toD t) := by
  by_cases o : t.own = true
  · cases t with
    | lst b xs =>
      obtain ⟨p, vs, rfl, h1, h2⟩ := rep_lst s r
      cases n with
      | zero => simp [okT] at h
      | succ n =>
        simp only [okT] at h
        exact .lst (SqL.of h1) (dps_of s xs n vs h h2)
    | dic _ _ _ => simp [okT] at h
    | dit _ _ _ => simp [okT] at h
    | _ => cases o
  · exact dp_of s t n v h (r.toF (by simpa using o))
theorem shaped_of {t : T} (h : okT t 60 = true) : SeqAt.shaped (toD t) = true := by
  obtain ⟨h1, h2⟩ := okT_lay t 60 h
  unfold SeqAt.shaped
  rw [h1, Bool.true_and]
  exact decide_eq_true (by omega)
def pEq : List T → Option T
  | [a, b] => if okT a 60 && okT b 60 then some (.bl (eqT a b)) else none
  | _ => none
def pNe : List T → Option T
  | [a, b] => if okT a 60 && okT b 60 then some (.bl (!eqT a b)) else none
  | _ => none
theorem prim_eq : Prim K (run2 (rEqD K)) pEq := prim2 fun F H x y a b t Q s r1 r2 e k => by
  simp only [pEq] at e
  split at e
  · rename_i hc
    simp only [Bool.and_eq_true] at hc
    cases e
    refine ⟨toD a, toD b, dp_rep s hc.1 r1, dp_rep s hc.2 r2, shaped_of hc.1, shaped_of hc.2, ?_⟩
    rw [eqT_eqv a b 60 60 hc.1 hc.2]
    exact ret_bl s k
  · cases e
theorem prim_ne : Prim K (run2 (rNeD K)) pNe := prim2 fun F H x y a b t Q s r1 r2 e k => by
  simp only [pNe] at e
  split at e
  · rename_i hc
    simp only [Bool.and_eq_true] at hc
    cases e
    refine ⟨toD a, toD b, dp_rep s hc.1 r1, dp_rep s hc.2 r2, shaped_of hc.1, shaped_of hc.2, ?_⟩
    rw [eqT_eqv a b 60 60 hc.1 hc.2]
    exact ret_bl s k
  · cases e

/-! ### is, is not: None, True, False at the right -/
def isT : T → T → Option Bool
  | a, .non => some (match a with | .non => true | _ => false)
  | a, .bl b => some (match a with | .bl c => c == b | _ => false)
  | _, _ => none
def pIs : List T → Option T
  | [a, b] => (isT a b).map T.bl
  | _ => none
def pIsNot : List T → Option T
  | [a, b] => (isT a b).map fun c => T.bl (!c)
  | _ => none
def rIs (neg : Bool) : R2 := fun x y H Q => (y = .non ∨ ∃ b, y = .bl b) ∧ Q (.bl (if neg then !decide (x = y) else decide (x = y))) H
theorem is_rep {x y : V} {a b : T} {c : Bool} (s : Same F H) (r1 : Rep K F H x a) (r2 : Rep K F H y b) (e : isT a b = some c) : (y = .non ∨ ∃ b, y = .bl b) ∧ decide (x = y) = c := by
  have nref : ∀ {a : T}, Rep K F H x a → (∃ p, x = .ref p) ∨ (a = .non ∧ x = .non) ∨ (∃ i, a = .bl i ∧ x = .bl i) ∨ (∃ i, a = .int i ∧ x = .int i) ∨ (∃ i, a = .str i ∧ x = .str i) := fun {a} r => by
    cases a with
    | non => exact .inr (.inl ⟨rfl, rep_non r⟩)
    | bl i => exact .inr (.inr (.inl ⟨i, rfl, rep_bl r⟩))
    | int i => exact .inr (.inr (.inr (.inl ⟨i, rfl, rep_int r⟩)))
    | str i => exact .inr (.inr (.inr (.inr ⟨i, rfl, rep_str r⟩)))
    | tup ts => obtain ⟨p, _, e, _⟩ := rep_tup s r; exact .inl ⟨p, e⟩
    | lst o ts => obtain ⟨p, _, e, _⟩ := rep_lst s r; exact .inl ⟨p, e⟩
    | dic o k ts => obtain ⟨p, _, e, _⟩ := rep_dic s r; exact .inl ⟨p, e⟩
    | dit o k ts => obtain ⟨p, _, e, _⟩ := rep_dit s r; exact .inl ⟨p, e⟩
    | scr ns => obtain ⟨p, e, _⟩ := rep_scr s r; exact .inl ⟨p, e⟩
  cases b with
  | non =>
    cases rep_non r2
    simp only [isT, Option.some.injEq] at e
    refine ⟨.inl rfl, ?_⟩
    subst e
    cases a with
    | non => cases rep_non r1; rfl
    | bl i => cases rep_bl r1; rfl
    | int i => cases rep_int r1; rfl
    | str i => cases rep_str r1; rfl
    | tup ts => obtain ⟨p, _, e, _⟩ := rep_tup s r1; subst e; rfl
    | lst o ts => obtain ⟨p, _, e, _⟩ := rep_lst s r1; subst e; rfl
    | dic o k ts => obtain ⟨p, _, e, _⟩ := rep_dic s r1; subst e; rfl
    | dit o k ts => obtain ⟨p, _, e, _⟩ := rep_dit s r1; subst e; rfl
    | scr ns => obtain ⟨p, e, _⟩ := rep_scr s r1; subst e; rfl
  | bl b =>
    cases rep_bl r2
    simp only [isT, Option.some.injEq] at e
    refine ⟨.inr ⟨b, rfl⟩, ?_⟩
    subst e
    cases a with
    | non => cases rep_non r1; rfl
    | bl i => cases rep_bl r1; cases i <;> cases b <;> rfl
    | int i => cases rep_int r1; rfl
    | str i => cases rep_str r1; rfl
    | tup ts => obtain ⟨p, _, e, _⟩ := rep_tup s r1; subst e; rfl
    | lst o ts => obtain ⟨p, _, e, _⟩ := rep_lst s r1; subst e; rfl
    | dic o k ts => obtain ⟨p, _, e, _⟩ := rep_dic s r1; subst e; rfl
    | dit o k ts => obtain ⟨p, _, e, _⟩ := rep_dit s r1; subst e; rfl
    | scr ns => obtain ⟨p, e, _⟩ := rep_scr s r1; subst e; rfl
  | _ => cases e
theorem prim_is : Prim K (run2 (rIs false)) pIs := prim2 fun F H x y a b t Q s r1 r2 e k => by
  simp only [pIs, Option.map_eq_some_iff] at e
  obtain ⟨c, e, rfl⟩ := e
  obtain ⟨h1, h2⟩ := is_rep s r1 r2 e
  exact ⟨h1, by rw [if_neg Bool.false_ne_true, h2]; exact ret_bl s k⟩
theorem prim_isNot : Prim K (run2 (rIs true)) pIsNot := prim2 fun F H x y a b t Q s r1 r2 e k => by
  simp only [pIsNot, Option.map_eq_some_iff] at e
  obtain ⟨c, e, rfl⟩ := e
  obtain ⟨h1, h2⟩ := is_rep s r1 r2 e
  exact ⟨h1, by rw [if_pos rfl, h2]; exact ret_bl s k⟩
end
section
variable {X : Cx}
theorem plain_nb {x y : V} {v u : Value} (rx : RelV x v) (ry : RelV y u) (h : y = .non ∨ ∃ b, y = .bl b) : PySem.plainIs v u = true ∧ (v == u) = decide (x = y) := by
  rcases h with rfl | ⟨b, rfl⟩
  · cases ry
    cases x with
    | non => cases rx; exact ⟨rfl, rfl⟩
    | bl b => cases rx; exact ⟨rfl, rfl⟩
    | int i => obtain ⟨t, rfl⟩ := rx; exact ⟨rfl, rfl⟩
    | str i => obtain ⟨t, rfl⟩ := rx; exact ⟨rfl, rfl⟩
    | byt i => obtain ⟨t, rfl⟩ := rx; exact ⟨rfl, rfl⟩
    | flt i => obtain ⟨t, rfl⟩ := rx; exact ⟨rfl, rfl⟩
    | ref a => cases rx; exact ⟨rfl, rfl⟩
    | ty n => cases rx; exact ⟨rfl, rfl⟩
  · cases ry
    cases x with
    | non => cases rx; exact ⟨rfl, rfl⟩
    | bl c => cases rx; refine ⟨rfl, ?_⟩; cases b <;> cases c <;> rfl
    | int i => obtain ⟨t, rfl⟩ := rx; exact ⟨rfl, rfl⟩
    | str i => obtain ⟨t, rfl⟩ := rx; exact ⟨rfl, rfl⟩
    | byt i => obtain ⟨t, rfl⟩ := rx; exact ⟨rfl, rfl⟩
    | flt i => obtain ⟨t, rfl⟩ := rx; exact ⟨rfl, rfl⟩
    | ref a => cases rx; exact ⟨rfl, rfl⟩
    | ty n => cases rx; exact ⟨rfl, rfl⟩
theorem op_isA : OpR X (compareOp .Is) (rIs false) := by
  intro pins s σ H x y v u Q I rx ry h
  obtain ⟨hy, q⟩ := h
  obtain ⟨h1, h2⟩ := plain_nb rx ry hy
  refine PySem.wpAny_is_plain h1 ⟨.bl (v == u), H, I, rfl, ?_⟩
  rw [h2]; rw [if_neg Bool.false_ne_true] at q; exact q
theorem op_isNotA : OpR X (compareOp .IsNot) (rIs true) := by
  intro pins s σ H x y v u Q I rx ry h
  obtain ⟨hy, q⟩ := h
  obtain ⟨h1, h2⟩ := plain_nb rx ry hy
  refine PySem.wpAny_isNot_plain h1 ⟨.bl (!(v == u)), H, I, rfl, ?_⟩
  rw [h2]; rw [if_pos rfl] at q; exact q

/-! ### order: ints, texts -/
def cmpT (f : Int → Int → Bool) (g : List Nat → List Nat → Bool) : List T → Option T
  | [.int i, .int j] => some (.bl (f i j))
  | [.str a, .str b] => some (.bl (g a.cps.toList b.cps.toList))
  | _ => none
def pLt : List T → Option T := cmpT (fun i j => decide (i < j)) fun a b => decide (a < b)
def pLe : List T → Option T := cmpT (fun i j => decide (i ≤ j)) fun a b => !decide (b < a)
def pGt : List T → Option T := cmpT (fun i j => decide (j < i)) fun a b => decide (b < a)
def pGe : List T → Option T := cmpT (fun i j => decide (j ≤ i)) fun a b => !decide (a < b)
def rCmp (f : Int → Int → Bool) (g : List Nat → List Nat → Bool) : R2 := orR (rI0 fun i j => .bl (f i j)) (fun x y H Q => ∃ i j, x = .str i ∧ y = .str j ∧ Q (.bl (g i.cps.toList j.cps.toList)) H)
theorem prim_cmp {K : Fr} {f g} : Prim K (run2 (rCmp f g)) (cmpT f g) := prim2 fun F H x y a b t Q s r1 r2 e k => by
  unfold cmpT at e
  split at e
  · rename_i i j heq; cases heq; cases e
    cases rep_int r1; cases rep_int r2
    exact .inl ⟨i, j, rfl, rfl, ret_bl s k⟩
  · rename_i i j heq; cases heq; cases e
    cases rep_str r1; cases rep_str r2
    exact .inr ⟨i, j, rfl, rfl, ret_bl s k⟩
  · cases e
theorem op_ltA : OpR X (compareOp .Lt) (rCmp (fun i j => decide (i < j)) fun a b => decide (a < b)) := op_lt.or op_lt_str
theorem op_leA : OpR X (compareOp .LtE) (rCmp (fun i j => decide (i ≤ j)) fun a b => !decide (b < a)) := op_le.or op_le_str
theorem op_gtA : OpR X (compareOp .Gt) (rCmp (fun i j => decide (j < i)) fun a b => decide (b < a)) := op_gt.or op_gt_str
theorem op_geA : OpR X (compareOp .GtE) (rCmp (fun i j => decide (j ≤ i)) fun a b => !decide (a < b)) := op_ge.or op_ge_str

/-! ### in, not in -/
def memT (x : T) (ts : List T) : Bool := ts.any fun y => eqT y x
def inStr (a b : Str) : Bool := !(Builtin.Str.occurrences b a 0 b.length 1).isEmpty
def hasK {κ : Type} [DecidableEq κ] (ks : List κ) (k : κ) : Bool := ks.any fun a => decide (a = k)
def inT : T → T → Option Bool
  | .str a, .str b => some (inStr a b)
  | x, .lst _ ts => if okT x 59 && okTs ts 59 then some (memT x ts) else none
  | x, .tup ts => if okT x 59 && okTs ts 59 then some (memT x ts) else none
  | .int i, .dic _ ks _ => some (hasK ks (Sum.inl i))
  | .str i, .dic _ ks _ => some (hasK ks (Sum.inr i))
  | .tup ts, .dit _ ks _ => (keysOf ts).map fun k => hasK ks k
  | _, _ => none
where
  keysOf : List T → Option (List Key)
    | [] => some []
    | .int i :: r => (keysOf r).map (Sum.inl i :: ·)
    | .str i :: r => (keysOf r).map (Sum.inr i :: ·)
    | _ => none
def pIn : List T → Option T
  | [a, b] => (inT a b).map T.bl
  | _ => none
def pNotIn : List T → Option T
  | [a, b] => (inT a b).map fun c => T.bl (!c)
  | _ => none
inductive DpsAt (K : Fr) (H : Hp) (x : V) (y : V) (c : Bool) : Prop
  | sub (a b : Str) (h1 : x = .str a) (h2 : y = .str b) (h3 : c = inStr a b)
  | seq (p : Addr) (vs : List V) (d : PyData) (ds : List PyData) (h1 : y = .ref p) (h2 : SqL K H p vs ∨ SqT K H p vs) (h3 : Dp K H x d) (h4 : DpAll K H vs ds) (h5 : d.canLay0 = true ∧ d.depth ≤ 63) (h6 : PyData.canLayAll0 ds = true ∧ PyData.depthAll ds ≤ 63) (h7 : c = ds.any fun e => PyData.eqv e d)
  | dict (a : Addr) (o : Option V) (h1 : y = .ref a) (h2 : DGet H a x o) (h3 : c = o.isSome)
def rInA (K : Fr) (neg : Bool) : R2 := fun x y H Q => ∃ c, DpsAt K H x y c ∧ Q (.bl (if neg then !c else c)) H
theorem anyD : ∀ {ts : List T} {x : T} {n m : Nat}, okTs ts n = true → okT x m = true → ((toDs ts).any fun e => PyData.eqv e (toD x)) = memT x ts
  | [], x, n, m, _, _ => rfl
  | t :: ts, x, n, m, h1, h2 => by
    simp only [okTs, Bool.and_eq_true] at h1
    simp only [toDs, List.any_cons, memT]
    rw [eqT_eqv t x n m h1.1 h2]
    have := anyD (ts := ts) h1.2 h2
    unfold memT at this
    rw [this]
theorem val_mem {κ : Type} [DecidableEq κ] {kvs : List (κ × V)} {k : κ} : (valV kvs k).isSome = hasK (kvs.map (·.1)) k := by
  unfold valV hasK
  rw [Option.isSome_map, List.any_map, Bool.eq_iff_iff, List.find?_isSome, List.any_eq_true]
  simp
theorem keys_rep {K : Fr} {F : Hp} : ∀ {ts : List T} {ks : List Key} {vs : List V}, inT.keysOf ts = some ks → RepFs K F vs ts → vs = ks.map kV
  | [], ks, vs, h, r => by
    cases h
    unfold RepFs at r; exact r
  | t :: ts, ks, vs, h, r => by
    unfold RepFs at r
    obtain ⟨v, w, rfl, r1, r2⟩ := r
    cases t with
    | int i =>
      simp only [inT.keysOf, Option.map_eq_some_iff] at h
      obtain ⟨l, h, rfl⟩ := h
      unfold RepF at r1; subst r1
      rw [keys_rep h r2]; rfl
    | str i =>
      simp only [inT.keysOf, Option.map_eq_some_iff] at h
      obtain ⟨l, h, rfl⟩ := h
      unfold RepF at r1; subst r1
      rw [keys_rep h r2]; rfl
    | _ => cases h
theorem prim_in' {K : Fr} {F H : Hp} {x y : V} {a b : T} {c : Bool} (s : Same F H) (r1 : Rep K F H x a) (r2 : Rep K F H y b) (e : inT a b = some c) : DpsAt K H x y c := by
  have seq : ∀ {p : Addr} {vs : List V} {ts : List T} {a : T}, Rep K F H x a → (SqL K H p vs ∨ SqT K H p vs) → RepFs K F vs ts → okT a 59 = true → okTs ts 59 = true → y = .ref p → DpsAt K H x y (memT a ts) := fun {p vs ts a} r1 hq hr h1 h2 hy => by
    obtain ⟨l1, l2⟩ := okT_lay a 59 h1
    obtain ⟨l3, l4⟩ := okTs_lay ts 59 h2
    exact .seq p vs (toD a) (toDs ts) hy hq (dp_rep s h1 r1) (dps_of s ts 59 vs h2 hr) ⟨l1, by omega⟩ ⟨l3, by omega⟩ (anyD h2 h1).symm
  unfold inT at e
  split at e
  · cases e
    cases rep_str r1; cases rep_str r2
    exact .sub _ _ rfl rfl rfl
  · split at e
    · rename_i hc
      simp only [Bool.and_eq_true] at hc
      cases e
      obtain ⟨p, vs, rfl, h1, h2⟩ := rep_lst s r2
      exact seq r1 (.inl (SqL.of h1)) h2 hc.1 hc.2 rfl
    · cases e
  · split at e
    · rename_i hc
      simp only [Bool.and_eq_true] at hc
      cases e
      obtain ⟨p, vs, rfl, h1, h2⟩ := rep_tup s r2
      exact seq r1 (.inr (SqT.of h1)) h2 hc.1 hc.2 rfl
    · cases e
  · cases e
    cases rep_int r1
    obtain ⟨p, kvs, rfl, h1, h2, _⟩ := rep_dic s r2
    exact .dict p _ rfl (DGet.k (k := Sum.inl _) h1) (by rw [← h2, val_mem])
  · cases e
    cases rep_str r1
    obtain ⟨p, kvs, rfl, h1, h2, _⟩ := rep_dic s r2
    exact .dict p _ rfl (DGet.k (k := Sum.inr _) h1) (by rw [← h2, val_mem])
  · rename_i ts o ks xs
    simp only [Option.map_eq_some_iff] at e
    obtain ⟨k, hk, rfl⟩ := e
    obtain ⟨q, vs, rfl, g1, g2⟩ := rep_tup s r1
    obtain ⟨p, kvs, rfl, h1, h2, _⟩ := rep_dit s r2
    have := keys_rep hk g2
    subst this
    exact .dict p _ rfl (DGet.t h1 g1) (by rw [← h2, val_mem])
  · cases e
theorem prim_in {K : Fr} : Prim K (run2 (rInA K false)) pIn := prim2 fun F H x y a b t Q s r1 r2 e k => by
  simp only [pIn, Option.map_eq_some_iff] at e
  obtain ⟨c, e, rfl⟩ := e
  exact ⟨c, prim_in' s r1 r2 e, by rw [if_neg Bool.false_ne_true]; exact ret_bl s k⟩
theorem prim_notIn {K : Fr} : Prim K (run2 (rInA K true)) pNotIn := prim2 fun F H x y a b t Q s r1 r2 e k => by
  simp only [pNotIn, Option.map_eq_some_iff] at e
  obtain ⟨c, e, rfl⟩ := e
  exact ⟨c, prim_in' s r1 r2 e, by rw [if_pos rfl]; exact ret_bl s k⟩
theorem readsAll_get {h : Heap} : ∀ {us : List Value} {ds : List PyData} {as : List Addr}, PySem.ReadsAll h us ds as → ∀ (P : Value → PyData → Prop), (∀ u d bs, u ∈ us → d ∈ ds → PySem.Reads h u d bs → P u d) → Paired P us ds
  | _, _, _, .nil, P, _ => .nil
  | _, _, _, .cons r t, P, f => .cons (f _ _ _ List.mem_cons_self List.mem_cons_self r) (readsAll_get t P fun u d bs hu hd => f u d bs (List.mem_cons_of_mem _ hu) (List.mem_cons_of_mem _ hd))
theorem canAll_mem : ∀ {ds : List PyData} {d : PyData}, d ∈ ds → PyData.canLayAll0 ds = true → d.canLay0 = true
  | e :: ds, d, h, hc => by
    simp only [PyData.canLayAll0, Bool.and_eq_true] at hc
    rcases List.mem_cons.mp h with z | z
    · rw [z]; exact hc.1
    · exact canAll_mem z hc.2
theorem paired_any {P : Value → PyData → Prop} {f : Value → Bool} {g : PyData → Bool} : ∀ {us : List Value} {ds : List PyData}, Paired P us ds → (∀ u d, u ∈ us → P u d → f u = g d) → us.any f = ds.any g
  | _, _, .nil, _ => rfl
  | _, _, .cons r t, h => by
    rw [List.any_cons, List.any_cons, h _ _ List.mem_cons_self r, paired_any t fun u d hu => h u d (List.mem_cons_of_mem _ hu)]
theorem in_data {neg : Bool} (hu : X.A.units + 70 < cLine) {pins : List (Addr × Obj)} {s : Shared} {σ : St} {H : Hp} {x : V} {v : Value} {p : Addr} {vs : List V} {d : PyData} {ds : List PyData} {Q : VK} (I : L2.Inv X pins σ H s) (rx : RelV x v)
    (hq : SqL X.K H p vs ∨ SqT X.K H p vs) (h3 : Dp X.K H x d) (h4 : DpAll X.K H vs ds) (h5 : d.canLay0 = true ∧ d.depth ≤ 63) (h6 : PyData.canLayAll0 ds = true ∧ PyData.depthAll ds ≤ 63)
    (q : Q (.bl (if neg then !(ds.any fun e => PyData.eqv e d) else ds.any fun e => PyData.eqv e d)) H) :
    wpAny (model X.prog X.w) X.A (compareOp (if neg then .NotIn else .In) v (.ref p)) (EP X pins σ Q) X.xe s := by
  obtain ⟨as, ra⟩ := Dp.reads I d x v h3 rx
  have key : ∀ {us : List Value}, Vals vs us → ∃ f : Value → Bool, (∀ u ∈ us, SeqAt.EqAt X.A.in1 s u v (f u)) ∧ us.any f = ds.any fun e => PyData.eqv e d := fun {us} rv => by
    obtain ⟨bs, rb⟩ := Dp.readsAll I ds vs us h4 rv
    have pr : Paired (fun u e => e.canLay0 = true ∧ SeqAt.EqAt X.A.in1 s u v (PyData.eqv e d) ∧ ∃ cs, PySem.Reads s.heap u e cs) us ds := readsAll_get rb _ fun u e cs hu' he r => by
      have c := canAll_mem he h6.1
      refine ⟨c, SeqAt.eqAt_reads e d X.A.in1 s u v cs as r ra c h5.1 ?_, cs, r⟩
      have : min e.depth d.depth ≤ d.depth := Nat.min_le_right _ _
      show X.A.units + 1 + _ < _
      have := h5.2
      omega
    classical
    let f : Value → Bool := fun u => if h : ∃ e, e.canLay0 = true ∧ ∃ cs, PySem.Reads s.heap u e cs then PyData.eqv h.choose d else false
    have hf : ∀ u e, e.canLay0 = true → (∃ cs, PySem.Reads s.heap u e cs) → f u = PyData.eqv e d := fun u e hc ⟨cs, hr⟩ => by
      have h : ∃ e, e.canLay0 = true ∧ ∃ cs, PySem.Reads s.heap u e cs := ⟨e, hc, cs, hr⟩
      obtain ⟨h1, cs', h2⟩ := h.choose_spec
      have : h.choose = e := SeqAt.Reads.unique _ _ u _ _ h1 h2 hr
      show (if h : ∃ e, e.canLay0 = true ∧ ∃ cs, PySem.Reads s.heap u e cs then PyData.eqv h.choose d else false) = _
      rw [dif_pos h, this]
    refine ⟨f, ?_, paired_any pr fun u e _ z => hf u e z.1 z.2.2⟩
    have : ∀ {us : List Value} {ds : List PyData}, Paired (fun u e => e.canLay0 = true ∧ SeqAt.EqAt X.A.in1 s u v (PyData.eqv e d) ∧ ∃ cs, PySem.Reads s.heap u e cs) us ds → ∀ u ∈ us, SeqAt.EqAt X.A.in1 s u v (f u) := by
      intro us ds pr
      induction pr with
      | nil => intro u hu; cases hu
      | cons r t ih =>
        intro u hu
        rcases List.mem_cons.mp hu with z | z
        · rw [z, hf _ _ r.1 r.2.2]; exact r.2.1
        · exact ih u z
    exact this pr
  rcases hq with hq | hq
  · obtain ⟨us, rv, pl, _⟩ := I.list hq
    obtain ⟨f, hf, e⟩ := key rv
    cases neg with
    | false =>
      rw [if_neg Bool.false_ne_true] at q ⊢
      refine SeqAt.in_listAt f pl.isList (fun u hu' => hf u (by simpa using hu')) ⟨.bl _, H, I, rfl, ?_⟩
      rw [show us.toArray.any f = us.any f by simp, e]; exact q
    | true =>
      rw [if_pos rfl] at q ⊢
      refine SeqAt.notIn_listAt f pl.isList (fun u hu' => hf u (by simpa using hu')) ⟨.bl _, H, I, rfl, ?_⟩
      rw [show us.toArray.any f = us.any f by simp, e]; exact q
  · obtain ⟨us, rv, pl, _⟩ := I.tuple hq
    obtain ⟨f, hf, e⟩ := key rv
    cases neg with
    | false =>
      rw [if_neg Bool.false_ne_true] at q ⊢
      refine SeqAt.in_tupleAt f pl (fun u hu' => hf u (by simpa using hu')) ⟨.bl _, H, I, rfl, ?_⟩
      rw [show us.toArray.any f = us.any f by simp, e]; exact q
    | true =>
      rw [if_pos rfl] at q ⊢
      refine SeqAt.notIn_tupleAt f pl (fun u hu' => hf u (by simpa using hu')) ⟨.bl _, H, I, rfl, ?_⟩
      rw [show us.toArray.any f = us.any f by simp, e]; exact q
theorem op_inA (hu : X.A.units + 70 < cLine) : OpR X (compareOp .In) (rInA X.K false) := by
  intro pins s σ H x y v u Q I rx ry h
  obtain ⟨c, hc, q⟩ := h
  rw [if_neg Bool.false_ne_true] at q
  cases hc with
  | sub a b h1 h2 h3 => exact op_in_str pins s σ H x y v u Q I rx ry ⟨a, b, h1, h2, by rw [h3] at q; exact q⟩
  | seq p vs d ds h1 h2 h3 h4 h5 h6 h7 =>
    subst h1
    cases ry
    exact in_data (neg := false) hu I rx h2 h3 h4 h5 h6 (by rw [if_neg Bool.false_ne_true, ← h7]; exact q)
  | dict a o h1 h2 h3 =>
    subst h1
    cases ry
    exact d_in (by omega) I h2 rx fun s' I' => ⟨.bl o.isSome, H, I', rfl, by rw [← h3]; exact q⟩
theorem op_notInA (hu : X.A.units + 70 < cLine) : OpR X (compareOp .NotIn) (rInA X.K true) := by
  intro pins s σ H x y v u Q I rx ry h
  obtain ⟨c, hc, q⟩ := h
  rw [if_pos rfl] at q
  cases hc with
  | sub a b h1 h2 h3 => exact L2.op_notin_str pins s σ H x y v u Q I rx ry ⟨a, b, h1, h2, by rw [h3] at q; exact q⟩
  | seq p vs d ds h1 h2 h3 h4 h5 h6 h7 =>
    subst h1
    cases ry
    exact in_data (neg := true) hu I rx h2 h3 h4 h5 h6 (by rw [if_pos rfl, ← h7]; exact q)
  | dict a o h1 h2 h3 =>
    subst h1
    cases ry
    exact d_notIn (by omega) I h2 rx fun s' I' => ⟨.bl (!o.isSome), H, I', rfl, by rw [← h3]; exact q⟩

/-! ### the rules, as values and as tests -/
theorem units70 {k : Nat} (hr : Room k X.A) : X.A.units + 70 < cLine := by have := hr.un; omega
theorem units64 {k : Nat} (hr : Room k X.A) : X.A.units + 64 < cLine := by have := hr.un; omega
variable {a b : Expr} {oa ob : Opd} {pos : Pos} {k : Nat}
theorem ve_eq (hr : Room k X.A) (ha : VO X a oa) (hb : VO X b ob) : VE X (.Compare a [.Eq] [b] pos) (mPrim pEq [oa, ob]) := ve_cmp (op_eqD (units64 hr)) prim_eq ha hb (nomark _)
theorem ve_ne (hr : Room k X.A) (ha : VO X a oa) (hb : VO X b ob) : VE X (.Compare a [.NotEq] [b] pos) (mPrim pNe [oa, ob]) := ve_cmp (op_neD (units64 hr)) prim_ne ha hb (nomark _)
theorem ve_lt (ha : VO X a oa) (hb : VO X b ob) : VE X (.Compare a [.Lt] [b] pos) (mPrim pLt [oa, ob]) := ve_cmp op_ltA prim_cmp ha hb (nomark _)
theorem ve_le (ha : VO X a oa) (hb : VO X b ob) : VE X (.Compare a [.LtE] [b] pos) (mPrim pLe [oa, ob]) := ve_cmp op_leA prim_cmp ha hb (nomark _)
theorem ve_gt (ha : VO X a oa) (hb : VO X b ob) : VE X (.Compare a [.Gt] [b] pos) (mPrim pGt [oa, ob]) := ve_cmp op_gtA prim_cmp ha hb (nomark _)
theorem ve_ge (ha : VO X a oa) (hb : VO X b ob) : VE X (.Compare a [.GtE] [b] pos) (mPrim pGe [oa, ob]) := ve_cmp op_geA prim_cmp ha hb (nomark _)
theorem ve_is (ha : VO X a oa) (hb : VO X b ob) : VE X (.Compare a [.Is] [b] pos) (mPrim pIs [oa, ob]) := ve_cmp op_isA prim_is ha hb (nomark _)
theorem ve_isNot (ha : VO X a oa) (hb : VO X b ob) : VE X (.Compare a [.IsNot] [b] pos) (mPrim pIsNot [oa, ob]) := ve_cmp op_isNotA prim_isNot ha hb (nomark _)
theorem ve_in (hr : Room k X.A) (ha : VO X a oa) (hb : VO X b ob) (hm : behindInMarks .In b = false) : VE X (.Compare a [.In] [b] pos) (mPrim pIn [oa, ob]) := ve_cmp (op_inA (units70 hr)) prim_in ha hb hm
theorem ve_notIn (hr : Room k X.A) (ha : VO X a oa) (hb : VO X b ob) (hm : behindInMarks .NotIn b = false) : VE X (.Compare a [.NotIn] [b] pos) (mPrim pNotIn [oa, ob]) := ve_cmp (op_notInA (units70 hr)) prim_notIn ha hb hm
theorem vt_eq (hr : Room k X.A) (ha : VO X a oa) (hb : VO X b ob) : VT X (.Compare a [.Eq] [b] pos) (mTst (mPrim pEq [oa, ob])) := vt_cmp (op_eqD (units64 hr)) prim_eq ha hb (nomark _)
theorem vt_ne (hr : Room k X.A) (ha : VO X a oa) (hb : VO X b ob) : VT X (.Compare a [.NotEq] [b] pos) (mTst (mPrim pNe [oa, ob])) := vt_cmp (op_neD (units64 hr)) prim_ne ha hb (nomark _)
theorem vt_lt (ha : VO X a oa) (hb : VO X b ob) : VT X (.Compare a [.Lt] [b] pos) (mTst (mPrim pLt [oa, ob])) := vt_cmp op_ltA prim_cmp ha hb (nomark _)
theorem vt_le (ha : VO X a oa) (hb : VO X b ob) : VT X (.Compare a [.LtE] [b] pos) (mTst (mPrim pLe [oa, ob])) := vt_cmp op_leA prim_cmp ha hb (nomark _)
theorem vt_gt (ha : VO X a oa) (hb : VO X b ob) : VT X (.Compare a [.Gt] [b] pos) (mTst (mPrim pGt [oa, ob])) := vt_cmp op_gtA prim_cmp ha hb (nomark _)
theorem vt_ge (ha : VO X a oa) (hb : VO X b ob) : VT X (.Compare a [.GtE] [b] pos) (mTst (mPrim pGe [oa, ob])) := vt_cmp op_geA prim_cmp ha hb (nomark _)
theorem vt_is (ha : VO X a oa) (hb : VO X b ob) : VT X (.Compare a [.Is] [b] pos) (mTst (mPrim pIs [oa, ob])) := vt_cmp op_isA prim_is ha hb (nomark _)
theorem vt_isNot (ha : VO X a oa) (hb : VO X b ob) : VT X (.Compare a [.IsNot] [b] pos) (mTst (mPrim pIsNot [oa, ob])) := vt_cmp op_isNotA prim_isNot ha hb (nomark _)
theorem vt_in (hr : Room k X.A) (ha : VO X a oa) (hb : VO X b ob) (hm : behindInMarks .In b = false) : VT X (.Compare a [.In] [b] pos) (mTst (mPrim pIn [oa, ob])) := vt_cmp (op_inA (units70 hr)) prim_in ha hb hm
theorem vt_notIn (hr : Room k X.A) (ha : VO X a oa) (hb : VO X b ob) (hm : behindInMarks .NotIn b = false) : VT X (.Compare a [.NotIn] [b] pos) (mTst (mPrim pNotIn [oa, ob])) := vt_cmp (op_notInA (units70 hr)) prim_notIn ha hb hm
end
end VL

/-! Subscripts, slices, builtins. -/
namespace VL
open PySem L2

/-! ### subscripts -/
def lookK {κ : Type} [DecidableEq κ] (ks : List κ) (ts : List T) (k : κ) : Option T := ((ks.zip ts).find? fun p => decide (p.1 = k)).map (·.2)
def pIx : List T → Option T
  | [.lst _ ts, .int i] => atI ts i
  | [.tup ts, .int i] => atI ts i
  | [.str z, .int i] => if z.length ≤ sizeLine then (atI z.cps.toList i).map fun c => .str ⟨#[c]⟩ else none
  | [.dic _ ks ts, .int i] => lookK ks ts (Sum.inl i)
  | [.dic _ ks ts, .str i] => lookK ks ts (Sum.inr i)
  | [.dit _ ks ts, .tup k] => (inT.keysOf k).bind fun k => lookK ks ts k
  | _ => none
def rIxDict : R2 := fun x y H Q => ∃ a v, x = .ref a ∧ DGet H a y (some v) ∧ Q v H
def rIxA (K : Fr) : R2 := orR (rIx K) rIxDict
section
variable {K : Fr} {F H : Hp}
theorem atI_rep {vs : List V} {ts : List T} {i : Int} {t : T} (r : RepFs K F vs ts) (e : atI ts i = some t) : ∃ v, atI vs i = some v ∧ RepF K F v t := by
  unfold atI at e ⊢
  rw [r.len]
  simp only [Option.bind_eq_some_iff] at e
  obtain ⟨j, h1, h2⟩ := e
  obtain ⟨v, h3, h4⟩ := r.get h2
  exact ⟨v, by rw [h1]; exact h3, h4⟩
theorem lookK_rep {κ : Type} [DecidableEq κ] {kvs : List (κ × V)} {ts : List T} {k : κ} {t : T} (r : RepFs K F (kvs.map (·.2)) ts) (e : lookK (kvs.map (·.1)) ts k = some t) : ∃ v, valV kvs k = some v ∧ RepF K F v t := by
  induction kvs generalizing ts with
  | nil => simp [lookK] at e
  | cons p q ih =>
    unfold RepFs at r
    cases ts with
    | nil => simp [lookK] at e
    | cons u us =>
      obtain ⟨v, w, e1, r1, r2⟩ := r
      simp only [List.map_cons, List.cons.injEq] at e1
      obtain ⟨rfl, rfl⟩ := e1
      unfold lookK at e
      simp only [List.map_cons, List.zip_cons_cons, List.find?_cons] at e
      unfold valV
      rw [List.find?_cons]
      by_cases h : p.1 = k
      · simp only [h, decide_true, Option.map_some, Option.some.injEq] at e ⊢
        subst e
        exact ⟨p.2, rfl, r1⟩
      · simp only [h, decide_false] at e ⊢
        exact ih r2 e
theorem prim_ix : Prim K (run2 (rIxA K)) pIx := prim2 fun F H x y a b t Q s r1 r2 e k => by
  unfold pIx at e
  split at e
  · rename_i o ts i heq; cases heq
    obtain ⟨p, vs, rfl, h1, h2⟩ := rep_lst s r1
    cases rep_int r2
    obtain ⟨v, h3, h4⟩ := atI_rep h2 e
    exact .inl (.inl ⟨p, vs, i, v, rfl, rfl, SqL.of h1, h3, ret_frz s k h4⟩)
  · rename_i ts i heq; cases heq
    obtain ⟨p, vs, rfl, h1, h2⟩ := rep_tup s r1
    cases rep_int r2
    obtain ⟨v, h3, h4⟩ := atI_rep h2 e
    exact .inl (.inr (.inl ⟨p, vs, i, v, rfl, rfl, SqT.of h1, h3, ret_frz s k h4⟩))
  · rename_i z i heq; cases heq
    split at e
    · rename_i hz
      cases rep_str r1; cases rep_int r2
      simp only [Option.map_eq_some_iff] at e
      obtain ⟨c, h1, rfl⟩ := e
      exact .inl (.inr (.inr ⟨z, i, c, rfl, rfl, hz, h1, ret_str s k⟩))
    · cases e
  · rename_i o ks ts i heq; cases heq
    obtain ⟨p, kvs, rfl, h1, h2, h3⟩ := rep_dic s r1
    cases rep_int r2
    subst h2
    obtain ⟨v, h4, h5⟩ := lookK_rep h3 e
    exact .inr ⟨p, v, rfl, by have := DGet.k (k := Sum.inl i) h1; rw [h4] at this; exact this, ret_frz s k h5⟩
  · rename_i o ks ts i heq; cases heq
    obtain ⟨p, kvs, rfl, h1, h2, h3⟩ := rep_dic s r1
    cases rep_str r2
    subst h2
    obtain ⟨v, h4, h5⟩ := lookK_rep h3 e
    exact .inr ⟨p, v, rfl, by have := DGet.k (k := Sum.inr i) h1; rw [h4] at this; exact this, ret_frz s k h5⟩
  · rename_i o ks ts kk heq; cases heq
    simp only [Option.bind_eq_some_iff] at e
    obtain ⟨l, e1, e⟩ := e
    obtain ⟨p, kvs, rfl, h1, h2, h3⟩ := rep_dit s r1
    obtain ⟨q, vs, rfl, g1, g2⟩ := rep_tup s r2
    have := keys_rep e1 g2
    subst this
    subst h2
    obtain ⟨v, h4, h5⟩ := lookK_rep h3 e
    exact .inr ⟨p, v, rfl, by have := DGet.t h1 g1; rw [h4] at this; exact this, ret_frz s k h5⟩
  · cases e
end
section
variable {X : Cx}
theorem ix_dict (hu : X.A.units + 1 < cLine) : IxR X rIxDict := by
  intro value slice pins s σ H x y v u Q I rx ry h hs
  obtain ⟨p, z, rfl, g, q⟩ := h
  obtain rfl : v = Value.ref p := rx
  exact PyProof.Rows.tail_any (dict_typeIs I g) PySem.F.slot_dict_getitem.lookup (d_getItem hu I g ry fun w' s3 I3 rw' => ⟨z, H, I3, rw', q⟩) hs
theorem ix_all (hu : X.A.units + 1 < cLine) : IxR X (rIxA X.K) := ix_seq.or (ix_dict hu)
variable {a b : Expr} {oa ob : Opd} {pos : Pos} {k : Nat}
theorem ve_sub_ (hr : Room k X.A) (ha : VO X a oa) (hb : VO X b ob) (hs : PlainIx b) : VE X (.Subscript a b pos) (mPrim pIx [oa, ob]) := ve_ix (ix_all (hu_of hr)) prim_ix ha hb hs
end

/-! ### slices -/
def cutT (xs : List T) (lo hi : Option Int) : List T := (xs.drop (HT.sIx xs.length 0 lo)).take (HT.sIx xs.length xs.length hi - HT.sIx xs.length 0 lo)
def slT (t : T) (lo hi : Option Int) : Option T := match t with
  | .lst _ ts => some (.lst true (cutT ts lo hi))
  | .tup ts => some (.tup (cutT ts lo hi))
  | .str z => if z.length ≤ sizeLine then some (.str (cutS z lo hi)) else none
  | _ => none
def partT : T → Option (Option Int)
  | .int i => some (some i)
  | _ => none
/-- lo?, hi?: whether they are written -/
def pSl (lo hi : Bool) : List T → Option T
  | t :: r => match lo, hi, r with
    | false, false, [] => slT t none none
    | true, false, [a] => (partT a).bind fun i => slT t i none
    | false, true, [b] => (partT b).bind fun j => slT t none j
    | true, true, [a, b] => (partT a).bind fun i => (partT b).bind fun j => slT t i j
    | _, _, _ => none
  | _ => none
/-- a whole tuple is itself -/
def rSlTA (K : Fr) : V → Option Int → Option Int → Hp → VK → Prop := fun x lo hi H Q => ∃ a xs, x = .ref a ∧ SqT K H a xs ∧
  ((HT.sIx xs.length 0 lo = 0 ∧ HT.sIx xs.length xs.length hi = xs.length) → Q (.ref a) H) ∧
  (¬ (HT.sIx xs.length 0 lo = 0 ∧ HT.sIx xs.length xs.length hi = xs.length) → ∀ p, H p = none → Q (.ref p) (upd H p (.tup (cutV xs lo hi))))
def rSlA (K : Fr) : V → Option Int → Option Int → Hp → VK → Prop := fun x lo hi H Q => rSlL K x lo hi H Q ∨ rSlTA K x lo hi H Q ∨ rSlS x lo hi H Q
section
variable {K : Fr} {F H : Hp}
theorem cut_rep {vs : List V} {ts : List T} (r : RepFs K F vs ts) (lo hi : Option Int) : RepFs K F (cutV vs lo hi) (cutT ts lo hi) := by
  unfold cutV cutT
  rw [r.len]
  exact (r.drop _).take _
theorem slT_rep {x : V} {t u : T} {lo hi : Option Int} {Q : VK} (s : Same F H) (r : Rep K F H x t) (e : slT t lo hi = some u) (k : Kont K F H u Q) : rSlA K x lo hi H Q := by
  unfold slT at e
  split at e
  · cases e
    obtain ⟨p, vs, rfl, h1, h2⟩ := rep_lst s r
    exact .inl ⟨p, vs, rfl, SqL.of h1, fun q hq => ret_lst s k (cut_rep h2 lo hi) hq⟩
  · rename_i ts
    cases e
    obtain ⟨p, vs, rfl, h1, h2⟩ := rep_tup s r
    refine .inr (.inl ⟨p, vs, rfl, SqT.of h1, fun hw => ?_, fun _ q hq => ret_tup s k (cut_rep h2 lo hi) hq⟩)
    have : cutT ts lo hi = ts := by
      unfold cutT
      rw [h2.len] at hw
      rw [hw.1, hw.2]
      simp
    rw [this] at k
    exact ret_frz s k (r.toF rfl)
  · split at e
    · rename_i hz
      cases e
      cases rep_str r
      exact .inr (.inr ⟨_, rfl, hz, ret_str s k⟩)
    · cases e
  · cases e
end
end VL
namespace HT
open PySem PyProof.Rows
section
variable {prog : Program} {w : World} {A : Around} {E : Value → Shared → Prop} {s : Shared}
theorem vl_tuple_whole {t sl : Addr} {items : Array Value} {vl vu : Value} {lo hi : Option Int} {Q : Value → Shared → Prop} (ht : IsTup s.heap t items) (hs : s.heap.IsSliceOf sl vl vu .none) (pl : IsPart vl lo) (pu : IsPart vu hi)
    (hw : sIx items.size 0 lo = 0 ∧ sIx items.size items.size hi = items.size) (h : Q (.ref t) s) : wpAny (model prog w) A (getItem (.ref t) (.ref sl)) Q E s := by
  obtain ⟨os, hos, hcs, hds⟩ := id hs
  have hTs : s.TypeIs (.ref sl) "slice" := ⟨os, hos, hcs⟩
  unfold getItem
  try with_reducible refine wpAny_holding ?_
  first | refine wpAny_bind (wpAny_pure ?_) | skip
  refine wpAny_bind (wpAny_sequenceKey ht.typeIs (by decide) ?_)
  refine wpAny_bind (wpAny_callSpecial?_slot (name := Str.ofString "__getitem__") ht.typeIs PyProof.Rows.slot_tuple_getitem
    (wpAny_call_entry PyProof.Rows.slot_tuple_getitem ht.typeIs entry_tuple_getitem ?_ (args_tuple_getitem _ _)))
  show wpAny _ _ (Builtin.Tuple.tupleItemsOf (.ref t) >>= _) _ _ s
  refine wpAny_bind (tupleItemsOf_ ht ?_)
  refine wpAny_bind (wpAny_typeOf hTs ?_)
  rw [if_pos (by decide)]
  refine wpAny_bind (sliceApplied_gen hs pl pu ?_)
  have hyes : ((((sIx items.size 0 lo : Nat) : Int) == 0 && (1 : Int) == 1 && (sIx items.size items.size hi - sIx items.size 0 lo) == items.size) = true) := by
    rw [hw.1, hw.2]
    simp
  show wpAny _ _ (if (((sIx items.size 0 lo : Nat) : Int) == 0 && (1 : Int) == 1 && (sIx items.size items.size hi - sIx items.size 0 lo) == items.size) = true then _ else _) _ _ s
  rw [if_pos hyes]
  refine wpAny_bind ?_
  unfold Builtin.Tuple.tupleIsExact
  refine wpAny_bind (wpAny_typeOf ht.typeIs (wpAny_pure ?_))
  rw [if_pos (by decide)]
  wp_walk
  exact ⟨_, rfl, wpAny_pure h⟩
end
end HT
namespace VL
open PySem L2
section
variable {X : Cx} {a lo hi : Expr} {oa ol oh : Opd} {pos p2 : Pos}
theorem sl_tupA : SlR X (rSlTA X.K) := by
  intro pins s σ H x v vl vu lo hi sl Q I rx hs pl pu h
  obtain ⟨a, xs, rfl, hx, q1, q2⟩ := h
  by_cases hw : HT.sIx xs.length 0 lo = 0 ∧ HT.sIx xs.length xs.length hi = xs.length
  · cases rx
    obtain ⟨its, r, ht, hz⟩ := I.tuple hx
    have hlen : its.toArray.size = xs.length := by rw [List.size_toArray]; exact r.length.symm
    exact ⟨"tuple", _, PyProof.Rows.slot_tuple_getitem.lookup, ht.typeIs, HT.vl_tuple_whole ht hs pl pu (by rw [hlen]; exact hw) ⟨.ref a, H, I, rfl, q1 hw⟩⟩
  · exact sl_tup pins s σ H (.ref a) v vl vu lo hi sl Q I rx hs pl pu ⟨a, xs, rfl, hx, hw, q2 hw⟩
theorem sl_all : SlR X (rSlA X.K) := sl_list.or (sl_tupA.or sl_str)
/-- the parts of a slice, as operands -/
theorem po_of {e : Expr} {o : Opd} {W : WX} (h : PE X e (tO X.K W X.mg o)) : PO X (some e) (tPart (tO X.K W X.mg o)) := po_some h
theorem rep_part {K : Fr} {F H : Hp} {v : V} {t : T} {i : Option Int} (r : Rep K F H v t) (e : partT t = some i) : ∃ j, v = .int j ∧ i = some j := by
  cases t with
  | int j => cases e; exact ⟨j, rep_int r, rfl⟩
  | _ => cases e
def rdSl (K : Fr) (lo hi : Bool) : List V → Hp → VK → Prop := fun vs H Q => match vs, lo, hi with
  | [x], false, false => rSlA K x none none H Q
  | [x, a], true, false => ∃ i, a = .int i ∧ rSlA K x (some i) none H Q
  | [x, b], false, true => ∃ j, b = .int j ∧ rSlA K x none (some j) H Q
  | [x, a, b], true, true => ∃ i, a = .int i ∧ ∃ j, b = .int j ∧ rSlA K x (some i) (some j) H Q
  | _, _, _ => False
theorem prim_sl {K : Fr} {lo hi : Bool} : Prim K (rdSl K lo hi) (pSl lo hi) := fun F H vs ts t Q s rl e k => by
  cases rl with
  | nil => cases e
  | cons r1 rl =>
    cases lo <;> cases hi
    · cases rl with
      | nil => exact slT_rep s r1 e k
      | cons _ _ => cases e
    · cases rl with
      | nil => cases e
      | cons r2 rl =>
        cases rl with
        | nil =>
          simp only [pSl, Option.bind_eq_some_iff] at e
          obtain ⟨j, h1, e⟩ := e
          obtain ⟨j', rfl, rfl⟩ := rep_part r2 h1
          exact ⟨j', rfl, slT_rep s r1 e k⟩
        | cons _ _ => cases e
    · cases rl with
      | nil => cases e
      | cons r2 rl =>
        cases rl with
        | nil =>
          simp only [pSl, Option.bind_eq_some_iff] at e
          obtain ⟨j, h1, e⟩ := e
          obtain ⟨j', rfl, rfl⟩ := rep_part r2 h1
          exact ⟨j', rfl, slT_rep s r1 e k⟩
        | cons _ _ => cases e
    · cases rl with
      | nil => cases e
      | cons r2 rl =>
        cases rl with
        | nil => cases e
        | cons r3 rl =>
          cases rl with
          | nil =>
            simp only [pSl, Option.bind_eq_some_iff] at e
            obtain ⟨i, h1, j, h2, e⟩ := e
            obtain ⟨i', rfl, rfl⟩ := rep_part r2 h1
            obtain ⟨j', rfl, rfl⟩ := rep_part r3 h2
            exact ⟨i', rfl, j', rfl, slT_rep s r1 e k⟩
          | cons _ _ => cases e
/-- an operand that is an int -/
def mInt : Opd → M T
  | .val m => fun env => (m env).bind fun t e => match t with
    | .int i => .ok (.int i) e
    | _ => .no
  | .sl i => fun env => match env[i]? with
    | some (some (.int j)) => .ok (.int j) env
    | _ => .no
theorem rdE_int {K : Fr} {W : WX} {mg : MG} {σ : St} {H : Hp} {Q : VK} {o : Opd} (h : rdE K W mg (mInt o) σ H Q) : tO K W mg o σ H fun x H1 => (∃ i, x = .int i) ∧ Q x H1 := by
  obtain ⟨F, env, S, p⟩ := h
  cases o with
  | val m =>
    refine ⟨F, env, S, ?_⟩
    unfold mInt at p
    simp only at p
    cases hm : m env with
    | no => rw [hm] at p; exact p.elim
    | ex c e => rw [hm] at p; exact p
    | ok t e =>
      rw [hm] at p
      simp only [R.bind] at p
      cases t with
      | int i =>
        intro F' H' v a b c d
        exact ⟨⟨i, rep_int b⟩, p F' H' v a b c d⟩
      | _ => exact p.elim
  | sl i =>
    unfold mInt at p
    simp only at p
    split at p
    · rename_i j ej
      obtain ⟨v, e2, r⟩ := S.rep i _ ej
      exact ⟨v, e2, ⟨j, rep_int r⟩, p F H v S r (fun a o => by have := o.1; cases this) (Ext.refl.mono fun a m => m.elim id fun o => by have := o.1; cases this)⟩
    · exact p.elim
theorem ve_slNN (ha : VO X a oa) : VE X (.Subscript a (.Slice none none none p2) pos) (mPrim (pSl false false) [oa]) := fun W tk =>
  (pe_slice sl_all (ha W tk) po_none po_none).weak fun σ H Q h => tO_mono (rdA1 (lift_prim prim_sl h)) fun _ _ q => q
theorem ve_slLN (ha : VO X a oa) (hl : VO X lo ol) : VE X (.Subscript a (.Slice (some lo) none none p2) pos) (mPrim (pSl true false) [oa, ol]) := fun W tk =>
  (pe_slice sl_all (ha W tk) (po_some (hl W tk)) po_none).weak fun σ H Q h => tO_mono (rdA2 (lift_prim prim_sl h)) fun _ _ q => tO_mono q fun _ _ q => q
theorem ve_slNH (ha : VO X a oa) (hh : VO X hi oh) : VE X (.Subscript a (.Slice none (some hi) none p2) pos) (mPrim (pSl false true) [oa, oh]) := fun W tk =>
  (pe_slice sl_all (ha W tk) po_none (po_some (hh W tk))).weak fun σ H Q h => tO_mono (rdA2 (lift_prim prim_sl h)) fun _ _ q => tO_mono q fun _ _ q => q
theorem ve_slLH (ha : VO X a oa) (hl : VO X lo ol) (hh : VO X hi oh) : VE X (.Subscript a (.Slice (some lo) (some hi) none p2) pos) (mPrim (pSl true true) [oa, .val (mInt ol), oh]) := fun W tk =>
  (pe_slice sl_all (ha W tk) (po_some (hl W tk)) (po_some (hh W tk))).weak fun σ H Q h => tO_mono (rdA3 (lift_prim prim_sl h)) fun v H q => tO_mono (rdE_int q) fun x H q => by
    obtain ⟨⟨i, rfl⟩, q⟩ := q
    refine ⟨i, rfl, tO_mono q fun y H q => ?_⟩
    obtain ⟨i', e1, j, e2, q⟩ := q
    cases e1
    exact ⟨j, e2, q⟩
end

/-! ### calls of builtins -/
section
variable {X : Cx} {x : Str} {p pos : Pos} {e : Expr} {es : List Expr} {id ty : String} {r : List V → Hp → VK → Prop} {ops : List Opd} {pf : List T → Option T}
theorem ve_blt (hc : CallR X (.builtin id) r) (P : Prim X.K r pf) (hg : Gl X x) (hm : X.mg x = none) (hv : PySem.bootBuiltins x = some (.builtin id)) (ha : VA X (e :: es) ops) (hn : x ≠ "__name__") (hdb : (x == ("__debug__" : Str)) = false)
    (he : starEach (e :: es) X.env = (false, eval e X.env) :: starEach es X.env) (hpl : (backTo pos (starEach es X.env)).any (·.1) = false) : VE X (.Call (.Name x p) (e :: es) [] pos) (mPrim pf ops) := fun W tk =>
  (pe_callB hc hg hm hv (ha W tk) hn hdb he hpl).weak fun σ H Q h => lift_prim P h
theorem ve_bty (hc : CallR X (.type ty) r) (P : Prim X.K r pf) (hg : Gl X x) (hm : X.mg x = none) (hv : PySem.bootBuiltins x = some (.type ty)) (ha : VA X (e :: es) ops) (hn : x ≠ "__name__") (hdb : (x == ("__debug__" : Str)) = false)
    (he : starEach (e :: es) X.env = (false, eval e X.env) :: starEach es X.env) (hpl : (backTo pos (starEach es X.env)).any (·.1) = false) : VE X (.Call (.Name x p) (e :: es) [] pos) (mPrim pf ops) := fun W tk =>
  (pe_callTy hc hg hm hv (ha W tk) hn hdb he hpl).weak fun σ H Q h => lift_prim P h
end
theorem primL1 {K : Fr} {r : List V → Hp → VK → Prop} {p : List T → Option T} (h1 : ∀ F H x a t Q, Same F H → Rep K F H x a → p [a] = some t → Kont K F H t Q → r [x] H Q) (h0 : p [] = none) (h2 : ∀ a b c, p (a :: b :: c) = none) : Prim K r p := fun F H vs ts t Q s rl e k => by
  cases rl with
  | nil => rw [h0] at e; cases e
  | cons r1 rl =>
    cases rl with
    | nil => exact h1 F H _ _ t Q s r1 e k
    | cons _ _ => rw [h2] at e; cases e
theorem primL2 {K : Fr} {r : List V → Hp → VK → Prop} {p : List T → Option T} (h : ∀ F H x y a b t Q, Same F H → Rep K F H x a → Rep K F H y b → p [a, b] = some t → Kont K F H t Q → r [x, y] H Q) (h0 : p [] = none) (h1 : ∀ a, p [a] = none) (h3 : ∀ a b c d, p (a :: b :: c :: d) = none) : Prim K r p := fun F H vs ts t Q s rl e k => by
  cases rl with
  | nil => rw [h0] at e; cases e
  | cons r1 rl =>
    cases rl with
    | nil => rw [h1] at e; cases e
    | cons r2 rl =>
      cases rl with
      | nil => exact h F H _ _ _ _ t Q s r1 r2 e k
      | cons _ _ => rw [h3] at e; cases e
/-- len: texts, lists, tuples, dicts -/
def pLen : List T → Option T
  | [.str z] => if z.length ≤ sizeLine then some (.int z.length) else none
  | [.lst _ ts] => some (.int ts.length)
  | [.tup ts] => some (.int ts.length)
  | [.dic _ ks _] => some (.int ks.length)
  | [.scr ns] => some (.int ns.length)
  | _ => none
def rLenA (K : Fr) : List V → Hp → VK → Prop := fun xs H Q => (∃ x n, xs = [x] ∧ LenV K x H n ∧ Q (.int n) H) ∨ ∃ d kvs, xs = [.ref d] ∧ H d = some (.dK kvs) ∧ Q (.int kvs.length) H
theorem prim_len {K : Fr} : Prim K (rLenA K) pLen := primL1 (fun F H x a t Q s r e k => by
  cases a with
  | str z =>
    simp only [pLen] at e
    split at e
    · cases e
      cases rep_str r
      exact .inl ⟨_, z.length, rfl, ⟨by assumption, rfl⟩, ret_int s k⟩
    · cases e
  | lst o ts =>
    cases e
    obtain ⟨p, vs, rfl, h1, h2⟩ := rep_lst s r
    exact .inl ⟨_, ts.length, rfl, .inl ⟨vs, SqL.of h1, h2.len.symm⟩, ret_int s k⟩
  | tup ts =>
    cases e
    obtain ⟨p, vs, rfl, h1, h2⟩ := rep_tup s r
    exact .inl ⟨_, ts.length, rfl, .inr ⟨vs, SqT.of h1, h2.len.symm⟩, ret_int s k⟩
  | dic o ks ts =>
    cases e
    obtain ⟨p, kvs, rfl, h1, h2, h3⟩ := rep_dic s r
    refine .inr ⟨p, kvs, rfl, h1, ?_⟩
    have : kvs.length = ks.length := by rw [← h2, List.length_map]
    rw [this]
    exact ret_int s k
  | scr ns =>
    cases e
    obtain ⟨p, rfl, h1⟩ := rep_scr s r
    exact .inl ⟨_, ns.length, rfl, .inl ⟨_, h1, by rw [List.length_map]⟩, ret_int s k⟩
  | _ => cases e) rfl (fun a b c => by cases a <;> rfl)
theorem call_lenA {X : Cx} : CallR X (.builtin "len") (rLenA X.K) := by
  intro pins s σ H xs us Q I r h
  rcases h with h | ⟨d, kvs, rfl, h1, q⟩
  · exact call_len pins s σ H xs us Q I r h
  · exact call_lenD pins s σ H _ us Q I r ⟨d, kvs, rfl, h1, q⟩
def pAbs : List T → Option T
  | [.int i] => some (.int (if i < 0 then -i else i))
  | _ => none
theorem prim_abs {K : Fr} : Prim K (fun xs H Q => ∃ i, xs = [.int i] ∧ Q (.int (if i < 0 then -i else i)) H) pAbs := primL1 (fun F H x a t Q s r e k => by
  cases a with
  | int i => cases e; cases rep_int r; exact ⟨i, rfl, ret_int s k⟩
  | _ => cases e) rfl (fun a b c => by cases a <;> rfl)
def pMax2 : List T → Option T
  | [.int i, .int j] => some (.int (if j > i then j else i))
  | _ => none
def pMin2 : List T → Option T
  | [.int i, .int j] => some (.int (if j < i then j else i))
  | _ => none
theorem prim_max2 {K : Fr} : Prim K (fun xs H Q => ∃ i j, xs = [.int i, .int j] ∧ Q (.int (if j > i then j else i)) H) pMax2 := primL2 (fun F H x y a b t Q s r1 r2 e k => by
  unfold pMax2 at e
  split at e
  · rename_i i j heq; cases heq; cases e
    cases rep_int r1; cases rep_int r2
    exact ⟨i, j, rfl, ret_int s k⟩
  · cases e) rfl (fun a => by cases a <;> rfl) (fun a b c d => by cases a <;> cases b <;> rfl)
theorem prim_min2 {K : Fr} : Prim K (fun xs H Q => ∃ i j, xs = [.int i, .int j] ∧ Q (.int (if j < i then j else i)) H) pMin2 := primL2 (fun F H x y a b t Q s r1 r2 e k => by
  unfold pMin2 at e
  split at e
  · rename_i i j heq; cases heq; cases e
    cases rep_int r1; cases rep_int r2
    exact ⟨i, j, rfl, ret_int s k⟩
  · cases e) rfl (fun a => by cases a <;> rfl) (fun a b c d => by cases a <;> cases b <;> rfl)
def pIntOf : List T → Option T
  | [.int i] => some (.int i)
  | [.bl b] => some (.int (if b then 1 else 0))
  | _ => none
theorem prim_intOf {K : Fr} : Prim K (fun xs H Q => (∃ i, xs = [.int i] ∧ Q (.int i) H) ∨ ∃ k, xs = [.bl k] ∧ Q (.int (if k then 1 else 0)) H) pIntOf := primL1 (fun F H x a t Q s r e k => by
  cases a with
  | int i => cases e; cases rep_int r; exact .inl ⟨i, rfl, ret_int s k⟩
  | bl i => cases e; cases rep_bl r; exact .inr ⟨i, rfl, ret_int s k⟩
  | _ => cases e) rfl (fun a b c => by cases a <;> rfl)
/-- list(..), tuple(..) of a list or a tuple -/
def pListOf : List T → Option T
  | [.lst _ ts] => some (.lst true ts)
  | [.tup ts] => some (.lst true ts)
  | _ => none
def pTupOf : List T → Option T
  | [.lst _ ts] => some (.tup ts)
  | [.tup ts] => some (.tup ts)
  | _ => none
theorem prim_listOf {K : Fr} : Prim K (fun xs H Q => ∃ p ys, xs = [.ref p] ∧ (SqL K H p ys ∨ SqT K H p ys) ∧ ∀ l, H l = none → Q (.ref l) (upd H l (.lst ys))) pListOf := primL1 (fun F H x a t Q s r e k => by
  cases a with
  | lst o ts =>
    cases e
    obtain ⟨p, vs, rfl, h1, h2⟩ := rep_lst s r
    exact ⟨p, vs, rfl, .inl (SqL.of h1), fun l hl => ret_lst s k h2 hl⟩
  | tup ts =>
    cases e
    obtain ⟨p, vs, rfl, h1, h2⟩ := rep_tup s r
    exact ⟨p, vs, rfl, .inr (SqT.of h1), fun l hl => ret_lst s k h2 hl⟩
  | _ => cases e) rfl (fun a b c => by cases a <;> rfl)
theorem prim_tupOf {K : Fr} : Prim K (fun xs H Q => ∃ p ys, xs = [.ref p] ∧ ((SqL K H p ys ∧ ∀ l, H l = none → Q (.ref l) (upd H l (.tup ys))) ∨ (SqT K H p ys ∧ Q (.ref p) H))) pTupOf := primL1 (fun F H x a t Q s r e k => by
  cases a with
  | lst o ts =>
    cases e
    obtain ⟨p, vs, rfl, h1, h2⟩ := rep_lst s r
    exact ⟨p, vs, rfl, .inl ⟨SqL.of h1, fun l hl => ret_tup s k h2 hl⟩⟩
  | tup ts =>
    cases e
    have r' := r.toF rfl
    obtain ⟨p, vs, rfl, h1, h2⟩ := rep_tup s r
    exact ⟨p, vs, rfl, .inr ⟨SqT.of h1, ret_frz s k r'⟩⟩
  | _ => cases e) rfl (fun a b c => by cases a <;> rfl)
/-- lists of ints, of truths -/
def intsOf : List T → Option (List Int)
  | [] => some []
  | .int i :: r => (intsOf r).map (i :: ·)
  | _ => none
def blsOf : List T → Option (List Bool)
  | [] => some []
  | .bl i :: r => (blsOf r).map (i :: ·)
  | _ => none
theorem intsOf_rep {K : Fr} {F : Hp} : ∀ {ts : List T} {ns : List Int} {vs : List V}, intsOf ts = some ns → RepFs K F vs ts → vs = ns.map V.int
  | [], ns, vs, h, r => by cases h; unfold RepFs at r; exact r
  | t :: ts, ns, vs, h, r => by
    unfold RepFs at r
    obtain ⟨v, w, rfl, r1, r2⟩ := r
    cases t with
    | int i =>
      simp only [intsOf, Option.map_eq_some_iff] at h
      obtain ⟨l, h, rfl⟩ := h
      unfold RepF at r1; subst r1
      rw [intsOf_rep h r2]; rfl
    | _ => cases h
theorem blsOf_rep {K : Fr} {F : Hp} : ∀ {ts : List T} {ns : List Bool} {vs : List V}, blsOf ts = some ns → RepFs K F vs ts → vs = ns.map V.bl
  | [], ns, vs, h, r => by cases h; unfold RepFs at r; exact r
  | t :: ts, ns, vs, h, r => by
    unfold RepFs at r
    obtain ⟨v, w, rfl, r1, r2⟩ := r
    cases t with
    | bl i =>
      simp only [blsOf, Option.map_eq_some_iff] at h
      obtain ⟨l, h, rfl⟩ := h
      unfold RepF at r1; subst r1
      rw [blsOf_rep h r2]; rfl
    | _ => cases h
def pSum : List T → Option T
  | [.lst _ ts] => (intsOf ts).map fun ns => .int ns.sum
  | _ => none
def pMaxL : List T → Option T
  | [.lst _ ts] => (intsOf ts).bind fun ns => ns.max?.map T.int
  | _ => none
def pMinL : List T → Option T
  | [.lst _ ts] => (intsOf ts).bind fun ns => ns.min?.map T.int
  | _ => none
def pAny : List T → Option T
  | [.lst _ ts] => (blsOf ts).map fun bs => .bl (bs.any id)
  | _ => none
def pAll : List T → Option T
  | [.lst _ ts] => (blsOf ts).map fun bs => .bl (bs.all id)
  | _ => none
theorem prim_sum {K : Fr} : Prim K (rSum K) pSum := primL1 (fun F H x a t Q s r e k => by
  cases a with
  | lst o ts =>
    simp only [pSum, Option.map_eq_some_iff] at e
    obtain ⟨ns, h, rfl⟩ := e
    obtain ⟨p, vs, rfl, h1, h2⟩ := rep_lst s r
    have := intsOf_rep h h2; subst this
    exact ⟨p, ns, rfl, SqL.of h1, ret_int s k⟩
  | _ => cases e) rfl (fun a b c => by cases a <;> rfl)
theorem prim_maxL {K : Fr} : Prim K (rMax K) pMaxL := primL1 (fun F H x a t Q s r e k => by
  cases a with
  | lst o ts =>
    simp only [pMaxL, Option.bind_eq_some_iff, Option.map_eq_some_iff] at e
    obtain ⟨ns, h, m, hm, rfl⟩ := e
    obtain ⟨p, vs, rfl, h1, h2⟩ := rep_lst s r
    have := intsOf_rep h h2; subst this
    have hne : ns ≠ [] := by rintro rfl; cases hm
    refine ⟨p, ns, rfl, SqL.of h1, by cases ns; exact (hne rfl).elim; simp, fun m' hm1 hm2 => ?_⟩
    have := List.max?_eq_some_iff.mp hm
    have e : m' = m := by have a1 := this.2 m' hm1; have a2 := hm2 m this.1; omega
    subst e
    exact ret_int s k
  | _ => cases e) rfl (fun a b c => by cases a <;> rfl)
theorem prim_minL {K : Fr} : Prim K (rMin K) pMinL := primL1 (fun F H x a t Q s r e k => by
  cases a with
  | lst o ts =>
    simp only [pMinL, Option.bind_eq_some_iff, Option.map_eq_some_iff] at e
    obtain ⟨ns, h, m, hm, rfl⟩ := e
    obtain ⟨p, vs, rfl, h1, h2⟩ := rep_lst s r
    have := intsOf_rep h h2; subst this
    have hne : ns ≠ [] := by rintro rfl; cases hm
    refine ⟨p, ns, rfl, SqL.of h1, by cases ns; exact (hne rfl).elim; simp, fun m' hm1 hm2 => ?_⟩
    have := List.min?_eq_some_iff.mp hm
    have e : m' = m := by have a1 := this.2 m' hm1; have a2 := hm2 m this.1; omega
    subst e
    exact ret_int s k
  | _ => cases e) rfl (fun a b c => by cases a <;> rfl)
theorem prim_any {K : Fr} : Prim K (rAny K) pAny := primL1 (fun F H x a t Q s r e k => by
  cases a with
  | lst o ts =>
    simp only [pAny, Option.map_eq_some_iff] at e
    obtain ⟨ns, h, rfl⟩ := e
    obtain ⟨p, vs, rfl, h1, h2⟩ := rep_lst s r
    have := blsOf_rep h h2; subst this
    exact ⟨p, ns, rfl, SqL.of h1, ret_bl s k⟩
  | _ => cases e) rfl (fun a b c => by cases a <;> rfl)
theorem prim_all {K : Fr} : Prim K (rAll K) pAll := primL1 (fun F H x a t Q s r e k => by
  cases a with
  | lst o ts =>
    simp only [pAll, Option.map_eq_some_iff] at e
    obtain ⟨ns, h, rfl⟩ := e
    obtain ⟨p, vs, rfl, h1, h2⟩ := rep_lst s r
    have := blsOf_rep h h2; subst this
    exact ⟨p, ns, rfl, SqL.of h1, ret_bl s k⟩
  | _ => cases e) rfl (fun a b c => by cases a <;> rfl)

/-! ### isinstance -/
inductive Ty where
  | non | bool | int | str | tup | lst | dic
  deriving DecidableEq
def Ty.name : Ty → String
  | .non => "NoneType" | .bool => "bool" | .int => "int" | .str => "str" | .tup => "tuple" | .lst => "list" | .dic => "dict"
def Ty.sub (a b : Ty) : Bool := decide (a = b) || (decide (a = .bool) && decide (b = .int))
def tyOf : T → Ty
  | .non => .non | .bl _ => .bool | .int _ => .int | .str _ => .str | .tup _ => .tup | .lst _ _ => .lst | .dic _ _ _ => .dic | .dit _ _ _ => .dic | .scr _ => .lst
def pIsi (bs : List Ty) : List T → Option T
  | [.scr _] => none
  | [t] => some (.bl (bs.any fun b => (tyOf t).sub b))
  | _ => none
theorem kit_sub (a b : Ty) : kitB a.name b.name = some (a.sub b) := by
  cases a <;> cases b <;> decide +kernel
theorem kitAny_sub {K : Fr} (a : Ty) : ∀ bs : List Ty, PySem.W.kitAny K (.type a.name) (bs.map fun b => Value.type b.name) = some (bs.any fun b => a.sub b)
  | [] => rfl
  | b :: bs => by
    rw [List.map_cons, List.any_cons]
    refine kitAny_cons (b := a.sub b) (kit_ty (kit_sub a b)) (fun h => ?_) (fun h => ?_)
    · rw [h, Bool.false_or]; exact kitAny_sub a bs
    · rw [h, Bool.true_or]
theorem ty_rep {K : Fr} {F H : Hp} {x : V} {t : T} (s : Same F H) (r : Rep K F H x t) (h : ∀ ns, t ≠ .scr ns) : TyOf K H x (.type (tyOf t).name) := by
  cases t with
  | non => cases rep_non r; exact .non
  | bl b => cases rep_bl r; exact .bl b
  | int i => cases rep_int r; exact .int i
  | str z => cases rep_str r; exact .str z
  | tup ts => obtain ⟨p, vs, rfl, h1, h2⟩ := rep_tup s r; exact .tup h1
  | lst o ts => obtain ⟨p, vs, rfl, h1, h2⟩ := rep_lst s r; exact .lst h1
  | dic o ks ts => obtain ⟨p, vs, rfl, h1, h2⟩ := rep_dic s r; exact .dK h1
  | dit o ks ts => obtain ⟨p, vs, rfl, h1, h2⟩ := rep_dit s r; exact .dT h1
  | scr ns => exact (h ns rfl).elim
theorem TyOf.mono {K : Fr} {H H' : Hp} {x : V} {t : Ty} (s : Same H H') (h : TyOf K H x (.type t.name)) : TyOf K H' x (.type t.name) := by
  generalize hg : Value.type t.name = u at h
  cases h with
  | non => exact .non
  | bl b => exact .bl b
  | int b => exact .int b
  | str b => exact .str b
  | flt b => exact .flt b
  | lst e => exact .lst (s _ _ e)
  | frz e => exact .frz (s _ _ e)
  | tup e => exact .tup (s _ _ e)
  | dK e => exact .dK (s _ _ e)
  | dT e => exact .dT (s _ _ e)
  | ins e a b c d f => cases hg
/-- isinstance(x, T); isinstance(x, (T1, ..)) : the tuple is laid anew -/
def rIsi1 (K : Fr) (b : Ty) : V → Hp → VK → Prop := fun x H Q => ∃ t : Ty, TyOf K H x (.type t.name) ∧ Q (.bl (t.sub b)) H
def rIsiN (K : Fr) (bs : List Ty) : V → Hp → VK → Prop := fun x H Q => ∃ t : Ty, TyOf K H x (.type t.name) ∧ ∀ p, H p = none → Q (.bl (bs.any fun b => t.sub b)) (upd H p (.tup (bs.map fun b => V.ty b.name)))
theorem prim_isi1 {K : Fr} {b : Ty} : Prim K (run1 (rIsi1 K b)) (pIsi [b]) := prim1 fun F H x a t Q s r e k => by
  by_cases h : ∀ ns, a ≠ .scr ns
  · have e' : some (T.bl ([b].any fun b => (tyOf a).sub b)) = some t := by
      rw [← e]
      cases a <;> first | rfl | exact (h _ rfl).elim
    cases e'
    exact ⟨tyOf a, ty_rep s r h, by have := ret_bl s k; simpa using this⟩
  · have : ∃ ns, a = .scr ns := Classical.byContradiction fun z => h fun ns w => z ⟨ns, w⟩
    obtain ⟨ns, rfl⟩ := this
    cases e
theorem prim_isiN {K : Fr} {bs : List Ty} : Prim K (run1 (rIsiN K bs)) (pIsi bs) := prim1 fun F H x a t Q s r e k => by
  by_cases h : ∀ ns, a ≠ .scr ns
  · have e' : some (T.bl (bs.any fun b => (tyOf a).sub b)) = some t := by
      rw [← e]
      cases a <;> first | rfl | exact (h _ rfl).elim
    cases e'
    refine ⟨tyOf a, ty_rep s r h, fun p hp => ?_⟩
    have sm : Same F (upd H p (.tup (bs.map fun b => V.ty b.name))) := fun a o q => upd_new hp a o (s a o q)
    exact k F _ (.bl _) sm (.ofF (by unfold RepF; rfl)) ⟨fun _ _ q => q, fun a o q _ => upd_new hp a o q, fun a o => (by have := o.1; cases this), fun _ _ q => .inl q, upd_dom⟩
  · have : ∃ ns, a = .scr ns := Classical.byContradiction fun z => h fun ns w => z ⟨ns, w⟩
    obtain ⟨ns, rfl⟩ := this
    cases e
section
variable {X : Cx} {p pos px pt : Pos} {a : Expr} {oa : Opd} {n : Str} {b : Ty}
theorem pe_ty {n : Str} {t : String} {pos : Pos} (hg : Gl X n) (hm : X.mg n = none) (hv : PySem.bootBuiltins n = some (.type t)) (hn : n ≠ "__name__") (hd : (n == ("__debug__" : Str)) = false) : PE X (.Name n pos) (tC (.ty t)) := pe_bltn hg hm hv rfl hn hd
theorem ve_isi1 (hg : Gl X "isinstance") (hm : X.mg "isinstance" = none) (hv : PySem.bootBuiltins "isinstance" = some (.builtin "isinstance")) (ha : VO X a oa) (ht : PE X (.Name n px) (tC (.ty b.name)))
    (he : starEach [a, .Name n px] X.env = (false, eval a X.env) :: starEach [.Name n px] X.env) (he2 : starEach [.Name n px] X.env = (false, eval (.Name n px) X.env) :: starEach [] X.env) (hpl : (backTo pos (starEach [.Name n px] X.env)).any (·.1) = false) :
    VE X (.Call (.Name "isinstance" p) [a, .Name n px] [] pos) (mPrim (pIsi [b]) [oa]) := fun W tk =>
  (pe_callB call_isi hg hm hv (pa_cons (ha W tk) (pa_cons ht pa_nil he2) he) (by decide) (by decide) he hpl).weak fun σ H Q h => tO_mono (rdA1 (lift_prim prim_isi1 h)) fun v H q => by
    obtain ⟨t, ty, q⟩ := q _ rfl
    exact ⟨v, .ty b.name, .type t.name, .type b.name, t.sub b, rfl, .ty _, .base ty, kit_ty (kit_sub t b), q⟩
/-- a row of built-in classes -/
inductive Tys (X : Cx) : List Expr → List Ty → Prop
  | nil : Tys X [] []
  | cons {e : Expr} {es : List Expr} {b : Ty} {bs : List Ty} (h : PE X e (tC (.ty b.name))) (hs : starEach (e :: es) X.env = (false, eval e X.env) :: starEach es X.env) (r : Tys X es bs) : Tys X (e :: es) (b :: bs)
theorem pa_tys : ∀ {es : List Expr} {bs : List Ty}, Tys X es bs → PA X es (fun _ H Q => Q (bs.map fun b => V.ty b.name) H)
  | _, _, .nil => pa_nil.weak fun σ H Q h => h
  | _, _, .cons h hs r => (pa_cons h (pa_tys r) hs).weak fun σ H Q q => q
theorem paired_ty : ∀ bs : List Ty, Paired ClsV (bs.map fun b => V.ty b.name) (bs.map fun b => Value.type b.name)
  | [] => .nil
  | b :: bs => .cons (.ty _) (paired_ty bs)
theorem ve_isiN {es : List Expr} {bs : List Ty} {k : Nat} (hg : Gl X "isinstance") (hm : X.mg "isinstance" = none) (hv : PySem.bootBuiltins "isinstance" = some (.builtin "isinstance")) (ha : VO X a oa) (ht : Tys X es bs) (hz : bs.length ≤ sizeLine)
    (he : starEach [a, .Tuple es k pt] X.env = (false, eval a X.env) :: starEach [.Tuple es k pt] X.env) (he2 : starEach [.Tuple es k pt] X.env = (false, eval (.Tuple es k pt) X.env) :: starEach [] X.env) (hpl : (backTo pos (starEach [.Tuple es k pt] X.env)).any (·.1) = false) :
    VE X (.Call (.Name "isinstance" p) [a, .Tuple es k pt] [] pos) (mPrim (pIsi bs) [oa]) := fun W tk =>
  (pe_callB call_isiT hg hm hv (pa_cons (ha W tk) (pa_cons (pe_tup (pa_tys ht)) pa_nil he2) he) (by decide) (by decide) he hpl).weak fun σ H Q h => tO_mono (rdA1 (lift_prim prim_isiN h)) fun v H q => by
    obtain ⟨t, ty, q⟩ := q _ rfl
    refine ⟨by simpa using hz, fun q' hq => ⟨v, q', _, .type t.name, bs.map fun b => Value.type b.name, bs.any fun b => t.sub b, rfl, upd_same, ?_, .base (TyOf.mono (upd_new hq) ty), kitAny_sub t bs, q q' hq⟩⟩
    exact paired_ty bs
end
end VL

/-! Changes: methods of lists, +=, stores by place, dicts. -/
namespace VL
open PySem L2

section
variable {K : Fr} {W : WX} {mg : MG} {A : List Nat} {F H : Hp} {σ : St} {env : Env} {D : Ends}
/-- a name's own object changes -/
theorem Sta.mut {i : Nat} {t t' : T} {p : Addr} {o' : HO} (S : Sta K F H σ env) (e : env[i]? = some (some t)) (o : t.own = true) (e2 : σ[i]? = some (some (V.ref p))) (r : Rep K F (upd H p o') (.ref p) t') :
    Sta K F (upd H p o') σ (env.set i (some t')) ∧ Ext F H (Own σ env) F (upd H p o') (Own σ (env.set i (some t'))) ∧ ∀ a, Own σ (env.set i (some t')) a → Own σ env a := by
  have hp : F p = none := (S.ownAt ⟨i, t, e, o, e2⟩).1
  have hi : i < env.length := (List.getElem?_eq_some_iff.mp e).1
  have x : Ext F H (fun a => a = p) F (upd H p o') (fun a => a = p) := ⟨fun _ _ q => q, fun a u q n => by rw [upd_ne n]; exact q, fun a z => .inl z, fun _ _ q => .inl q, fun a q => by
    by_cases z : a = p
    · subst z; rw [upd_same] at q; cases q
    · rw [upd_ne z] at q; exact q⟩
  have sub : ∀ a, Own σ (env.set i (some t')) a → Own σ env a := fun a z => by
    rcases own_set z with w | ⟨u, q1, q2, q3⟩
    · exact w
    · exact ⟨i, t, e, o, q3⟩
  refine ⟨⟨by rw [List.length_set]; exact S.len, fun a u q => ?_, fun j u q => ?_, fun j k u w z q1 q2 o1 o2 z1 z2 => ?_⟩, ?_, sub⟩
  · rw [upd_ne]; exact S.sub a u q
    rintro rfl; rw [hp] at q; cases q
  · by_cases z : i = j
    · subst z
      rw [List.getElem?_set_self hi] at q
      cases q
      exact ⟨_, e2, r⟩
    · rw [List.getElem?_set_ne z] at q
      obtain ⟨v, g1, g2⟩ := S.rep j u q
      refine ⟨v, g1, x.rep g2 fun a ow za => z ?_⟩
      subst za
      exact S.sep i j t u (.ref a) e q o ow.1 e2 (by rw [g1, ow.2])
  · have f : ∀ {j : Nat} {u : T}, (env.set i (some t'))[j]? = some (some u) → u.own = true → ∃ u', env[j]? = some (some u') ∧ u'.own = true := fun {j u} q o' => by
      by_cases z : i = j
      · subst z; exact ⟨t, e, o⟩
      · rw [List.getElem?_set_ne z] at q; exact ⟨u, q, o'⟩
    obtain ⟨u', q1', o1'⟩ := f q1 o1
    obtain ⟨w', q2', o2'⟩ := f q2 o2
    exact S.sep j k u' w' z q1' q2' o1' o2' z1 z2
  · exact (x.widen (L' := Own σ env) fun a z => by subst z; exact ⟨i, t, e, o, e2⟩).mono (M' := fun _ => False) (fun _ z => z.elim) |> fun y => ⟨y.frz, y.keep, fun a m => .inl (sub a m), y.new, y.dom⟩
/-- what a list's method does: from what it holds and the (frozen) arguments to the answer and what it holds then -/
def LMut (K : Fr) (r : V → List V → Hp → VK → Prop) (f : List T → List T → Option (T × List T)) : Prop :=
  ∀ F H p vs ts as us u ts' Q, Same F H → H p = some (.lst vs) → F p = none → RepFs K F vs ts → RepFs K F as us → f ts us = some (u, ts') →
    (∀ v vs', RepF K F v u → RepFs K F vs' ts' → Q v (upd H p (.lst vs'))) → r (.ref p) as H Q
def mMut (f : List T → List T → Option (T × List T)) (i : Nat) (ops : List Opd) : M T := fun env => match env[i]? with
  | some (some (.lst true _)) => (evOps ops env).bind fun its e => match allV its, e[i]? with
    | some us, some (some (.lst true ts)) => match f ts (us.map T.frz) with
      | some (u, ts') => .ok u (e.set i (some (.lst true ts')))
      | none => .no
    | _, _ => .no
  | _ => .no
theorem rdE_mut {r : V → List V → Hp → VK → Prop} {f : List T → List T → Option (T × List T)} {i : Nat} {ops : List Opd} {Q : VK} {H : Hp} (P : LMut K r f) (h : rdE K W mg (mMut f i ops) σ H Q) :
    tVar i σ H fun x H1 => tyV K "list" x H1 ∧ rdA K W mg ops σ H1 fun xs H2 => r x xs H2 Q := by
  obtain ⟨F, env, S, q⟩ := h
  unfold mMut at q
  split at q
  · rename_i ts0 e0
    obtain ⟨v, e2, r0⟩ := S.rep i _ e0
    obtain ⟨p, vs0, rfl, hF, hH, rf0⟩ := r0
    refine ⟨_, e2, .inl ⟨rfl, vs0, SqL.of hH⟩, F, env, S, ?_⟩
    cases hr : evOps ops env with
    | no => rw [hr] at q; exact q.elim
    | ex c e => rw [hr] at q; exact q
    | ok its e =>
      rw [hr] at q
      simp only [R.bind] at q
      intro F1 H1 as S1 okv sp nw x1
      split at q
      · rename_i us ts ha ei
        cases hf : f ts (us.map T.frz) with
        | none => rw [hf] at q; exact q.elim
        | some w =>
          obtain ⟨u, ts'⟩ := w
          rw [hf] at q
          simp only at q
          obtain ⟨F2, a1, a2, a3, a4⟩ := frz_all S1.sub okv ha sp
          have xf : Ext F1 H1 (ArOwn as its) F2 H1 (fun _ => False) := ⟨a1, fun _ _ e _ => e, fun a z => z.elim, fun a o z => (a4 a o z).imp id .inl, fun _ e => e⟩
          have S2 : Sta K F2 H1 σ e := S1.ext xf a2 fun a o z => nw a z o
          obtain ⟨v', g1, g2⟩ := S2.rep i _ ei
          rw [e2] at g1; cases g1
          obtain ⟨p', vs, hp', hF2, hH2, rf⟩ := g2
          cases hp'
          refine P F2 H1 p vs ts as (us.map T.frz) u ts' Q a2 hH2 hF2 rf a3 hf fun v vs' ru rv' => ?_
          obtain ⟨S3, x3, sub3⟩ := S2.mut (t' := .lst true ts') (o' := .lst vs') ei rfl e2 ⟨p, vs', rfl, hF2, upd_same, rv'⟩
          refine q F2 _ v S3 (.ofF ru) (fun a o => by have := o.1; rw [ru.notown] at this; cases this) ?_
          have y1 := x1.trans xf (M := Own σ e) (fun a z => .inr z) fun a z => .inl (.inl z)
          exact y1.trans x3 (fun a z => z) fun a m => m.elim .inr fun o => by have := o.1; rw [ru.notown] at this; cases this
      · exact q.elim
  · exact q.elim
def fAppend : List T → List T → Option (T × List T)
  | ts, [t] => if ts.length < sizeLine then some (.non, ts ++ [t]) else none
  | _, _ => none
def fPop : List T → List T → Option (T × List T)
  | ts, [] => (ts[ts.length - 1]?).map fun t => (t, ts.dropLast)
  | ts, [.int i] => if -(2 ^ 63) ≤ i ∧ i < 2 ^ 63 then (ixN ts.length i).bind fun k => (ts[k]?).map fun t => (t, ts.eraseIdx k) else none
  | _, _ => none
def fInsert : List T → List T → Option (T × List T)
  | ts, [.int i, t] => if ts.length < sizeLine ∧ 0 ≤ i ∧ i < 2 ^ 63 then some (.non, ts.take i.toNat ++ [t] ++ ts.drop i.toNat) else none
  | _, _ => none
def fExtend : List T → List T → Option (T × List T)
  | ts, [.lst _ us] => if ts.length + us.length ≤ sizeLine then some (.non, ts ++ us) else none
  | _, _ => none
theorem lmut_append : LMut K rAppend fAppend := fun F H p vs ts as us u ts' Q s hH hF r ra e k => by
  unfold fAppend at e
  split at e
  · rename_i t
    split at e
    · rename_i hz
      cases e
      unfold RepFs at ra
      obtain ⟨v, w, rfl, r1, r2⟩ := ra
      unfold RepFs at r2; subst r2
      exact ⟨p, vs, v, rfl, rfl, hH, by rw [r.len]; exact hz, k _ _ (by unfold RepF; rfl) (r.append (.cons r1 .nil))⟩
    · cases e
  · cases e
theorem RepFs.dropLast {F : Hp} {vs : List V} {ts : List T} (r : RepFs K F vs ts) : RepFs K F vs.dropLast ts.dropLast := by
  rw [List.dropLast_eq_take, List.dropLast_eq_take, r.len]; exact r.take _
theorem RepFs.eraseIdx {F : Hp} {vs : List V} {ts : List T} (k : Nat) (r : RepFs K F vs ts) : RepFs K F (vs.eraseIdx k) (ts.eraseIdx k) := by
  rw [List.eraseIdx_eq_take_drop_succ, List.eraseIdx_eq_take_drop_succ]
  exact (r.take _).append (r.drop _)
def rPopA : V → List V → Hp → VK → Prop := fun x xs H Q => rPop x xs H Q ∨ rPopAt x xs H Q
theorem lmut_pop : LMut K rPopA fPop := fun F H p vs ts as us u ts' Q s hH hF r ra e k => by
  unfold fPop at e
  split at e
  · simp only [Option.map_eq_some_iff] at e
    obtain ⟨t, h1, h2⟩ := e
    cases h2
    obtain ⟨v, h3, h4⟩ := r.get h1
    unfold RepFs at ra; subst ra
    exact .inl ⟨p, vs, v, rfl, rfl, hH, by rw [r.len]; exact h3, k v _ h4 r.dropLast⟩
  · rename_i i
    split at e
    · rename_i hc
      simp only [Option.bind_eq_some_iff, Option.map_eq_some_iff] at e
      obtain ⟨n, h0, t, h1, h2⟩ := e
      cases h2
      obtain ⟨v, h3, h4⟩ := r.get h1
      unfold RepFs at ra
      obtain ⟨a, w, rfl, r1, r2⟩ := ra
      unfold RepFs at r2; subst r2
      unfold RepF at r1; subst r1
      exact .inr ⟨p, vs, i, n, v, rfl, rfl, hH, hc.1, hc.2, by rw [r.len]; exact (ixN_seq h0).1, h3, k v _ h4 (r.eraseIdx n)⟩
    · cases e
  · cases e
theorem lmut_insert : LMut K (fun x vs H Q => ∃ (l : Addr) (xs : List V) (i : Int) (y : V), x = .ref l ∧ vs = [.int i, y] ∧ H l = some (.lst xs) ∧ xs.length < sizeLine ∧ 0 ≤ i ∧ i < 2 ^ 63 ∧
    Q .non (upd H l (.lst (xs.take i.toNat ++ [y] ++ xs.drop i.toNat)))) fInsert := fun F H p vs ts as us u ts' Q s hH hF r ra e k => by
  unfold fInsert at e
  split at e
  · rename_i i t
    split at e
    · rename_i hc
      cases e
      unfold RepFs at ra
      obtain ⟨a, w, rfl, r1, r2⟩ := ra
      unfold RepFs at r2
      obtain ⟨b, w2, rfl, r3, r4⟩ := r2
      unfold RepFs at r4; subst r4
      unfold RepF at r1; subst r1
      exact ⟨p, vs, i, b, rfl, rfl, hH, by rw [r.len]; exact hc.1, hc.2.1, hc.2.2, k _ _ (by unfold RepF; rfl) (((r.take _).append (.cons r3 .nil)).append (r.drop _))⟩
    · cases e
  · cases e
end
section
variable {X : Cx} {i : Nat} {x : Str} {pos apos cpos : Pos} {e : Expr} {es : List Expr} {ops : List Opd} {id : String} {name : Str} {r : V → List V → Hp → VK → Prop} {f : List T → List T → Option (T × List T)}
theorem ve_mut (pa : PySem.PlainAttrs "list") (slot : PySem.Slot "list" name id) (hty : PySem.typeOf (.builtin id) = pure (.type "method_descriptor")) (hm : MtR X id r) (P : LMut X.K r f)
    (hN : X.N[i]? = some x) (hv : Vis X.env.scope x) (hd : (x == ("__debug__" : Str)) = false) (hcd : (x == ("__classdict__" : Str)) = false) (ha : VA X (e :: es) ops)
    (hbase : attributeBase (.Name x pos) name X.env (eval (.Name x pos) X.env) = eval (.Name x pos) X.env)
    (hfew : ((backTo cpos (starEach (e :: es) X.env)).all (fun x => !x.1) && (backToKw cpos (keywordEach [] X.env)).all (fun x => x.1.isSome)
      && decide ((e :: es).length + ([] : List Keyword).length + (if ([] : List Keyword).isEmpty then 0 else 1) < 30)) = true)
    (hline : (apos.endLine == cpos.line) = true) (hs : starEach (e :: es) X.env = (false, eval e X.env) :: starEach es X.env) (hplain : (backTo cpos (starEach es X.env)).any (·.1) = false) :
    VE X (.Call (.Attribute (.Name x pos) name apos) (e :: es) [] cpos) (mMut f i ops) := fun W tk =>
  (pe_bm pa slot hty hm (pe_var hN hv hd hcd) (ha W tk) hbase hfew hline hs hplain).weak fun σ H Q h => rdE_mut P h
theorem ve_mut0 (pa : PySem.PlainAttrs "list") (slot : PySem.Slot "list" name id) (hty : PySem.typeOf (.builtin id) = pure (.type "method_descriptor")) (hm : MtR X id r) (P : LMut X.K r f)
    (hN : X.N[i]? = some x) (hv : Vis X.env.scope x) (hd : (x == ("__debug__" : Str)) = false) (hcd : (x == ("__classdict__" : Str)) = false)
    (hbase : attributeBase (.Name x pos) name X.env (eval (.Name x pos) X.env) = eval (.Name x pos) X.env) (hline : (apos.endLine == cpos.line) = true) :
    VE X (.Call (.Attribute (.Name x pos) name apos) [] [] cpos) (mMut f i []) := fun W tk =>
  (pe_bm0 pa slot hty hm (pe_var hN hv hd hcd) hbase hline).weak fun σ H Q h => by
    obtain ⟨v, e, ty, q⟩ := rdE_mut P h
    exact ⟨v, e, ty, rdA_nil q⟩
end

/-! ### name op= e -/
section
variable {K : Fr} {W : WX} {mg : MG} {A : List Nat} {F H : Hp} {σ : St} {env : Env} {D : Ends}
def putAt (i : Nat) (o : Option T) (e : Env) : SR := match o with
  | some t => .nx (e.set i (some t))
  | none => .no
/-- += of a list grows it; any other value is stored anew -/
def mAug (p : List T → Option T) (ext : Bool) (i : Nat) (o : Opd) : MS := fun env => match env[i]? with
  | some (some (.lst true _)) => if ext then match (evOps [o] env) with
      | .ok its e => match fill its e, e[i]? with
        | some [.lst _ us], some (some (.lst true ts)) => if ts.length + us.length ≤ sizeLine then .nx (e.set i (some (.lst true (ts ++ us)))) else .no
        | _, _ => .no
      | .ex c e => .ex c e
      | .no => .no
    else .no
  | some (some t) => if t.own then .no else match (evOps [o] env) with
      | .ok its e => match (fill its e).bind fun us => p (t :: us) with
        | some u => .nx (e.set i (some u))
        | none => .no
      | .ex c e => .ex c e
      | .no => .no
  | _ => .no
theorem rdS_aug {r : R2} {p : List T → Option T} {ext : Bool} {i : Nat} {o : Opd} {H : Hp} (hA : i ∈ A) (P : Prim K (run2 r) p) (h : rdS K W mg A (mAug p ext i o) D σ H) :
    ∃ x, σ[i]? = some (some x) ∧ tO K W mg o σ H fun y H1 => (r x y H1 fun z H2 => D.nx (σ.set i (some z)) H2) ∨ (ext = true ∧ rExt2 x y H1 fun z H2 => D.nx (σ.set i (some z)) H2) := by
  obtain ⟨F, env, S, q⟩ := h
  have so : ∀ z, σ[i]? = some (some z) → σ.set i (some z) = σ := fun z hz => by
    refine List.ext_getElem? fun j => ?_
    by_cases w : i = j
    · subst w; rw [List.getElem?_set_self (List.getElem?_eq_some_iff.mp hz).1, hz]
    · rw [List.getElem?_set_ne w]
  unfold mAug at q
  split at q
  · rename_i ts0 e0
    obtain ⟨v, e2, r0⟩ := S.rep i _ e0
    obtain ⟨pp, vs0, rfl, hF, hH, rf0⟩ := r0
    refine ⟨_, e2, ?_⟩
    split at q
    · rename_i hext
      have key : rdA K W mg [o] σ H fun ys H1 => ∀ y, ys = [y] → (r (.ref pp) y H1 fun z H2 => D.nx (σ.set i (some z)) H2) ∨ (ext = true ∧ rExt2 (.ref pp) y H1 fun z H2 => D.nx (σ.set i (some z)) H2) := by
        refine ⟨F, env, S, ?_⟩
        cases hr : evOps [o] env with
        | no => rw [hr] at q; exact q.elim
        | ex c e => rw [hr] at q; exact q.ofX
        | ok its e =>
          rw [hr] at q
          simp only at q
          intro F1 H1 ys S1 okv sp nw x1 y hy
          subst hy
          split at q
          · rename_i o' us ts hf ei
            split at q
            · rename_i hz
              have rl := fill_ok S1 okv hf
              cases rl with
              | cons ry rl =>
                obtain ⟨b, ws, rfl, hb, rb⟩ := rep_lst S1.sub ry
                obtain ⟨v', g1, g2⟩ := S1.rep i _ ei
                rw [e2] at g1; cases g1
                obtain ⟨p', vs, hp', hF2, hH2, rf⟩ := g2
                cases hp'
                refine .inr ⟨hext, pp, b, vs, ws, rfl, rfl, hH2, hb, by rw [rf.len, rb.len]; exact hz, ?_⟩
                obtain ⟨S3, x3, sub3⟩ := S1.mut (t' := .lst true (ts ++ us)) (o' := .lst (vs ++ ws)) ei rfl e2 ⟨pp, vs ++ ws, rfl, hF2, upd_same, rf.append rb⟩
                rw [so _ e2]
                exact q F1 _ σ S3 .refl (x1.trans x3 (fun a z => .inl z) fun a m => .inr m)
            · exact q.elim
          · exact q.elim
      exact tO_mono (rdA1 key) fun y H1 q => q y rfl
    · exact q.elim
  · rename_i t nl e0
    obtain ⟨v, e2, r0⟩ := S.rep i _ e0
    refine ⟨_, e2, ?_⟩
    split at q
    · exact q.elim
    · rename_i hno
      have hno : t.own = false := by simpa using hno
      have r0 := r0.toF hno
      have key : rdA K W mg [o] σ H fun ys H1 => ∀ y, ys = [y] → (r v y H1 fun z H2 => D.nx (σ.set i (some z)) H2) ∨ (ext = true ∧ rExt2 v y H1 fun z H2 => D.nx (σ.set i (some z)) H2) := by
        refine ⟨F, env, S, ?_⟩
        cases hr : evOps [o] env with
        | no => rw [hr] at q; exact q.elim
        | ex c e => rw [hr] at q; exact q.ofX
        | ok its e =>
          rw [hr] at q
          simp only at q
          intro F1 H1 ys S1 okv sp nw x1 y hy
          subst hy
          cases hf : fill its e with
          | none => rw [hf] at q; exact q.elim
          | some us =>
            rw [hf] at q
            simp only [Option.bind_some] at q
            cases hp : p (t :: us) with
            | none => rw [hp] at q; exact q.elim
            | some u =>
              rw [hp] at q
              have rl := fill_ok S1 okv hf
              refine .inl (P F1 H1 [v, y] (t :: us) u _ S1.sub (.cons (.ofF (RepF.mono x1.frz _ _ r0)) rl) hp (fun F2 H2 z s2 rz x2 => ?_) v y rfl)
              have hn : ∀ a, OwnV z u a → ¬ Own σ e a := fun a o' w => by
                rcases x2.own a o' with w2 | w2
                · exact w2
                · obtain ⟨_, o2, q2⟩ := S1.ownAt w
                  rw [q2] at w2; cases w2
              have S2 : Sta K F2 H2 σ e := S1.ext x2 s2 fun a _ w => w
              refine q F2 H2 (σ.set i (some z)) (S2.put rz hn) (.set hA) (x1.trans x2 (fun a w => w.elim) fun a m => ?_)
              exact (own_put m).elim (fun w => .inl (.inl w)) .inr
      exact tO_mono (rdA1 key) fun y H1 q => q y rfl
  · exact q.elim
end
section
variable {X : Cx} {A : List Nat} {i : Nat} {x : Str} {e : Expr} {o : Opd} {op : Operator} {r : R2} {p : List T → Option T} {px pos : Pos}
theorem vs_aug (hN : X.N.Nodup) (hi : X.N[i]? = some x) (hx : Loc X.env.scope x) (hA : i ∈ A) (he : VO X e o) (ho : OpR X (inplaceOp op) r) (P : Prim X.K (run2 r) p) (hf : X.fn x = true ∨ X.env.scope.names.lookup x = some .local) :
    VS X A (.AugAssign (.Name x px) op e pos) (mAug p false i o) := fun W tk => (ps_aug hN hi hx (he W tk) ho hf).weak fun D σ H h => by
  obtain ⟨z, e1, q⟩ := rdS_aug hA P h
  exact ⟨z, e1, tO_mono q fun y H1 q => q.elim id fun q => by cases q.1⟩
theorem vs_augL (hN : X.N.Nodup) (hi : X.N[i]? = some x) (hx : Loc X.env.scope x) (hA : i ∈ A) (he : VO X e o) (ho : OpR X (inplaceOp .Add) r) (P : Prim X.K (run2 r) p) (hf : X.fn x = true ∨ X.env.scope.names.lookup x = some .local) :
    VS X A (.AugAssign (.Name x px) .Add e pos) (mAug p true i o) := fun W tk => (ps_aug hN hi hx (he W tk) (ho.or iop_ext) hf).weak fun D σ H h => by
  obtain ⟨z, e1, q⟩ := rdS_aug hA P h
  exact ⟨z, e1, tO_mono q fun y H1 q => q.elim .inl fun q => .inr q.2⟩
def piAdd : List T → Option T
  | [.int i, .int j] => some (.int (i + j))
  | [.int i, .bl k] => some (.int (i + b2 k))
  | [.str a, .str b] => if a.length + b.length ≤ sizeLine then some (.str (a ++ b)) else none
  | _ => none
theorem prim_iadd {K : Fr} : Prim K (run2 (orR (rI0 fun i j => .int (i + j)) (orR (rIB fun i k => .int (i + b2 k)) (fun x y H Q => ∃ i j, x = .str i ∧ y = .str j ∧ i.length + j.length ≤ sizeLine ∧ Q (.str (i ++ j)) H)))) piAdd := prim2 fun F H x y a b t Q s r1 r2 e k => by
  unfold piAdd at e
  split at e
  · rename_i i j heq; cases heq; cases e
    cases rep_int r1; cases rep_int r2
    exact .inl ⟨i, j, rfl, rfl, ret_int s k⟩
  · rename_i i j heq; cases heq; cases e
    cases rep_int r1; cases rep_bl r2
    exact .inr (.inl ⟨i, j, rfl, rfl, ret_int s k⟩)
  · rename_i i j heq; cases heq
    split at e
    · cases e
      cases rep_str r1; cases rep_str r2
      exact .inr (.inr ⟨i, j, rfl, rfl, by assumption, ret_str s k⟩)
    · cases e
  · cases e
def piSub : List T → Option T
  | [.int i, .int j] => some (.int (i - j))
  | _ => none
def piMul : List T → Option T
  | [.int i, .int j] => if mulOk i j then some (.int (i * j)) else none
  | _ => none
theorem prim_isub {K : Fr} : Prim K (run2 (rI0 fun i j => .int (i - j))) piSub := prim2 fun F H x y a b t Q s r1 r2 e k => by
  unfold piSub at e
  split at e
  · rename_i i j heq; cases heq; cases e
    cases rep_int r1; cases rep_int r2
    exact ⟨i, j, rfl, rfl, ret_int s k⟩
  · cases e
theorem prim_imul {K : Fr} : Prim K (run2 rMulA) piMul := prim2 fun F H x y a b t Q s r1 r2 e k => by
  unfold piMul at e
  split at e
  · rename_i i j heq; cases heq
    split at e
    · cases e
      cases rep_int r1; cases rep_int r2
      exact ⟨i, j, rfl, rfl, by assumption, ret_int s k⟩
    · cases e
  · cases e
theorem iop_mulA : OpR X (inplaceOp .Mult) rMulA := opI fun _ _ _ _ _ _ _ hc q => PyProof.Rows.imul_int q (mulOk_ok hc)
end
end VL

/-! Stores by place, dicts made, pairs of names, ranges. -/
namespace VL
open PySem L2

/-! ### dicts as two rows -/
def putG {κ α : Type} [DecidableEq κ] (kvs : List (κ × α)) (k : κ) (v : α) : List (κ × α) :=
  if (kvs.any fun kv => decide (kv.1 = k)) = true then kvs.map (fun kv => if kv.1 = k then (kv.1, v) else kv) else kvs ++ [(k, v)]
def ksP {κ : Type} [DecidableEq κ] (ks : List κ) (k : κ) : List κ := if hasK ks k = true then ks else ks ++ [k]
def tsP {κ : Type} [DecidableEq κ] (ks : List κ) (ts : List T) (k : κ) (t : T) : List T :=
  if hasK ks k = true then (ks.zip ts).map fun kt => if kt.1 = k then t else kt.2 else ts ++ [t]
section
variable {K : Fr} {F : Hp} {κ : Type} [DecidableEq κ]
theorem hasK_map {α : Type} {kvs : List (κ × α)} {k : κ} : (kvs.any fun kv => decide (kv.1 = k)) = hasK (kvs.map (·.1)) k := by
  simp [hasK, List.any_map]; rfl
theorem put_keys {kvs : List (κ × V)} {k : κ} {v : V} : (putK kvs k v).map (·.1) = ksP (kvs.map (·.1)) k := by
  unfold putK ksP
  rw [hasK_map]
  split
  · rw [List.map_map]
    congr 1
    funext kv
    simp only [Function.comp]
    split <;> rfl
  · simp
theorem put_vals {v : V} {t : T} {k : κ} (rv : RepF K F v t) : ∀ {kvs : List (κ × V)} {ts : List T}, RepFs K F (kvs.map (·.2)) ts →
    RepFs K F ((kvs.map fun kv => if kv.1 = k then (kv.1, v) else kv).map (·.2)) (((kvs.map (·.1)).zip ts).map fun kt => if kt.1 = k then t else kt.2)
  | [], ts, r => by
    cases ts with
    | nil => exact .nil
    | cons t ts => unfold RepFs at r; obtain ⟨_, _, e, _⟩ := r; cases e
  | (a, w) :: kvs, ts, r => by
    cases ts with
    | nil => unfold RepFs at r; cases r
    | cons u us =>
      obtain ⟨r1, r2⟩ := r.out
      simp only [List.map_cons, List.zip_cons_cons]
      refine .cons ?_ (put_vals rv r2)
      by_cases z : a = k
      · simp only [z, if_true]; exact rv
      · simp only [if_neg z]; exact r1
theorem put_rep {kvs : List (κ × V)} {ts : List T} {k : κ} {v : V} {t : T} (r : RepFs K F (kvs.map (·.2)) ts) (rv : RepF K F v t) : RepFs K F ((putK kvs k v).map (·.2)) (tsP (kvs.map (·.1)) ts k t) := by
  unfold putK tsP
  rw [hasK_map]
  split
  · exact put_vals rv r
  · rw [List.map_append]
    exact r.append (.cons rv .nil)
end
def putT (c k t : T) : Option T := match c, k with
  | .lst true ts, .int i => (ixN ts.length i).map fun j => .lst true (ts.set j t)
  | .dic true ks ts, .int i => if ts.length < sizeLine then some (.dic true (ksP ks (Sum.inl i)) (tsP ks ts (Sum.inl i) t)) else none
  | .dic true ks ts, .str i => if ts.length < sizeLine then some (.dic true (ksP ks (Sum.inr i)) (tsP ks ts (Sum.inr i) t)) else none
  | .dit true ks ts, .tup us => (inT.keysOf us).bind fun k => if ts.length < sizeLine then some (.dit true (ksP ks k) (tsP ks ts k t)) else none
  | _, _ => none
def rSetA : TSet := fun o i v H Q => rSetL o i v H Q ∨ rSetD o i v H Q
theorem set_all {X : Cx} (hu : X.A.units + 1 < cLine) : PSet X rSetA := fun pins s σ H o i v ov iv u Q I ro ri rv h => h.elim (set_list pins s σ H o i v ov iv u Q I ro ri rv) (set_dict hu pins s σ H o i v ov iv u Q I ro ri rv)
theorem putT_own {c k t c' : T} (h : putT c k t = some c') : c.own = true := by
  unfold putT at h
  split at h <;> first | rfl | cases h
/-- the store of a frozen value in an owned list, an owned dict -/
theorem putT_rep {K : Fr} {F H : Hp} {x iv v : V} {c k t c' : T} {Q : Hp → Prop} (s : Same F H) (rc : Rep K F H x c) (rk : Rep K F H iv k) (rv : RepF K F v t) (e : putT c k t = some c')
    (q : ∀ p o', x = .ref p → Rep K F (upd H p o') (.ref p) c' → Q (upd H p o')) : rSetA x iv v H Q := by
  unfold putT at e
  split at e
  · rename_i ts i
    obtain ⟨p, vs, rfl, hF, hH, r⟩ := rc
    rw [Option.map_eq_some_iff] at e
    obtain ⟨j, e1, rfl⟩ := e
    cases rep_int rk
    exact .inl ⟨p, vs, i, j, rfl, rfl, hH, by rw [r.len]; exact e1, q p _ rfl ⟨p, _, rfl, hF, upd_same, r.set j rv⟩⟩
  · rename_i ks ts i
    obtain ⟨p, kvs, rfl, hF, hH, rfl, r⟩ := rc
    split at e
    · rename_i hz
      cases e
      cases rep_int rk
      exact .inr ⟨p, _, rfl, DPut.k (k := Sum.inl i) hH (by have := r.len; rw [List.length_map] at this; omega), q p _ rfl ⟨p, _, rfl, hF, upd_same, put_keys, put_rep r rv⟩⟩
    · cases e
  · rename_i ks ts i
    obtain ⟨p, kvs, rfl, hF, hH, rfl, r⟩ := rc
    split at e
    · rename_i hz
      cases e
      cases rep_str rk
      exact .inr ⟨p, _, rfl, DPut.k (k := Sum.inr i) hH (by have := r.len; rw [List.length_map] at this; omega), q p _ rfl ⟨p, _, rfl, hF, upd_same, put_keys, put_rep r rv⟩⟩
    · cases e
  · rename_i ks ts us
    obtain ⟨p, kvs, rfl, hF, hH, rfl, r⟩ := rc
    rw [Option.bind_eq_some_iff] at e
    obtain ⟨kk, e1, e2⟩ := e
    split at e2
    · rename_i hz
      cases e2
      obtain ⟨b, ws, rfl, hb, rb⟩ := rep_tup s rk
      have ew := keys_rep e1 rb
      subst ew
      exact .inr ⟨p, _, rfl, DPut.t (k := kk) hH hb (by have := r.len; rw [List.length_map] at this; omega), q p _ rfl ⟨p, _, rfl, hF, upd_same, put_keys, put_rep r rv⟩⟩
    · cases e2
  · cases e
/-- slot i, by place: the value is frozen -/
def gStore (i : Nat) (k : Opd) : G := fun t e => match e[i]? with
  | some (some _) => match evOps [k] e with
    | .ok its e1 => match fill its e1, e1[i]? with
      | some [kt], some (some c) => match putT c kt t.frz with
        | some c' => .ok () (e1.set i (some c'))
        | none => .no
      | _, _ => .no
    | _ => .no
  | _ => .no
section
variable {X : Cx} {A : List Nat} {i : Nat} {x : Str} {px pos : Pos} {ke : Expr} {k : Opd} {n : Nat}
theorem vg_store (hr : Room n X.A) (hN : X.N[i]? = some x) (hv : Vis X.env.scope x) (hd : (x == ("__debug__" : Str)) = false) (hcd : (x == ("__classdict__" : Str)) = false) (hk : VO X ke k)
    (ha : ∀ v, assign (.Subscript (.Name x px) ke pos) X.env v = (do
      let ov ← holding [v] (eval (.Name x px) X.env)
      let iv ← holding [v, ov] (eval ke X.env)
      standAt pos
      holding [v, ov, iv] (setItem ov iv v)
      release [v, ov, iv] [])) : VG X A (.Subscript (.Name x px) ke pos) (gStore i k) := fun W tk =>
  (pg_sub (pe_var hN hv hd hcd) (hk W tk) (set_all (by have := units64 hr; omega)) ha).weak fun v σ H Q ⟨F, env, t, S, rp, nw, p⟩ => by
  unfold gStore at p
  split at p
  · rename_i c0 e0
    obtain ⟨xv, e2, r0⟩ := S.rep i _ e0
    obtain ⟨F1, S1, rf, x1⟩ := S.frzV rp nw
    refine ⟨xv, e2, ?_⟩
    have key : rdA X.K W X.mg [k] σ H fun vs H2 => ∀ iv, vs = [iv] → rSetA xv iv v H2 fun H3 => Q σ H3 := by
      refine ⟨F1, env, S1, ?_⟩
      cases hr : evOps [k] env with
      | no => rw [hr] at p; exact p.elim
      | ex c e => rw [hr] at p; exact p.elim
      | ok its e =>
        rw [hr] at p
        simp only at p
        intro F2 H2 vs S2 okv sp nw2 x2 iv hvs
        subst hvs
        split at p
        · rename_i kt c hf ec
          split at p
          · rename_i c' hp
            have rl := fill_ok S2 okv hf
            cases rl with
            | cons rk _ =>
            obtain ⟨xv', e2', rc⟩ := S2.rep i _ ec
            rw [e2] at e2'; cases e2'
            refine putT_rep S2.sub rc rk (rf.mono x2.frz) hp fun q o' hq rc' => ?_
            subst hq
            obtain ⟨S3, x3, _⟩ := S2.mut (o' := o') ec (putT_own hp) e2 rc'
            refine p F2 _ σ S3 .refl ?_
            exact (x1.trans x2 (fun a z => z) (fun a z => .inr z)).trans x3 (fun a z => .inl z) fun a z => .inr z
          · exact p.elim
        · exact p.elim
    exact tO_mono (rdA1 key) fun y H1 q => q y rfl
  · exact p.elim
end

/-! ### a, b = e1, e2 -/
def putAll : List Nat → List T → Env → Env
  | i :: r, t :: ts, e => putAll r ts (e.set i (some t))
  | _, _, e => e
def putV : List Nat → List V → St → St
  | i :: r, v :: vs, σ => putV r vs (σ.set i (some v))
  | _, _, σ => σ
def mPar (is : List Nat) (ops : List Opd) : MS := fun env => match evOps ops env with
  | .ok its e => match allV its with
    | some ts => .nx (putAll is ts e)
    | none => .no
  | .ex c e => .ex c e
  | .no => .no
section
variable {K : Fr} {W : WX} {mg : MG} {A : List Nat} {F H : Hp} {σ : St} {env : Env} {D : Ends}
theorem sta_putAll {σ0 : St} : ∀ {is : List Nat} {its : List Ar} {vs : List V} {ts : List T} {σ : St} {env : Env}, Sta K F H σ env → ArOk K F H σ0 vs its → allV its = some ts → ArSep vs its → (∀ a, ArOwn vs its a → ¬ Own σ env a) → is.length = its.length → (∀ i ∈ is, i ∈ A) →
    Sta K F H (putV is vs σ) (putAll is ts env) ∧ SameOut A σ (putV is vs σ) ∧ ∀ a, Own (putV is vs σ) (putAll is ts env) a → Own σ env a ∨ ArOwn vs its a
  | [], its, vs, ts, σ, env, S, okv, ha, sp, nw, hl, hA => by
    unfold putV putAll
    exact ⟨S, .refl, fun a o => .inl o⟩
  | i :: is, [], vs, ts, σ, env, S, okv, ha, sp, nw, hl, hA => by cases hl
  | i :: is, .sl _ :: its, vs, ts, σ, env, S, okv, ha, sp, nw, hl, hA => by cases ha
  | i :: is, .val t :: its, vs, ts, σ, env, S, okv, ha, sp, nw, hl, hA => by
    unfold ArOk at okv
    obtain ⟨v, ws, rfl, r, okv⟩ := okv
    simp only [allV, Option.map_eq_some_iff] at ha
    obtain ⟨us, ha, rfl⟩ := ha
    unfold ArSep at sp
    have n1 : ∀ a, OwnV v t a → ¬ Own σ env a := fun a o => nw a (by unfold ArOwn; exact .inl o)
    have S1 := S.put (i := i) r n1
    obtain ⟨S2, so, sub⟩ := sta_putAll (is := is) S1 okv ha sp.2 (fun a o z => (own_put z).elim (nw a (by unfold ArOwn; exact .inr o)) (fun z => sp.1 a z o)) (by simpa using hl) (fun j hj => hA j (by simp [hj]))
    refine ⟨S2, (SameOut.set (hA i (by simp))).trans so, fun a o => ?_⟩
    rcases sub a o with z | z
    · exact (own_put z).imp id fun z => by unfold ArOwn; exact .inl z
    · exact .inr (by unfold ArOwn; exact .inr z)
theorem rdS_par {is : List Nat} {ops : List Opd} {H : Hp} (hA : ∀ i ∈ is, i ∈ A) (hl : is.length = ops.length) (h : rdS K W mg A (mPar is ops) D σ H) : rdA K W mg ops σ H fun vs H1 => vs.length = ops.length ∧ D.nx (putV is vs σ) H1 := by
  obtain ⟨F, env, S, q⟩ := h
  refine ⟨F, env, S, ?_⟩
  unfold mPar at q
  cases hr : evOps ops env with
  | no => rw [hr] at q; exact q.elim
  | ex c e => rw [hr] at q; exact fun F' H' C S' x' hc => q F' H' σ C S' .refl x' hc
  | ok its e =>
    rw [hr] at q
    simp only at q
    intro F1 H1 vs S1 okv sp nw x1
    cases ha : allV its with
    | none => rw [ha] at q; exact q.elim
    | some ts =>
      rw [ha] at q
      obtain ⟨S2, so, sub⟩ := sta_putAll (A := A) (is := is) S1 okv ha sp nw (by rw [hl, evOps_len hr]) hA
      exact ⟨by rw [arLen okv ha, evOps_len hr], q F1 H1 _ S2 so (x1.mono sub)⟩
end
section
variable {X : Cx} {A : List Nat} {i j l : Nat} {x y z : Str} {a b c : Expr} {ops : List Opd} {px py pz pt pt2 pos : Pos} {kt k2 : Nat}
theorem vs_par (hc : X.calm = true) (hN : X.N.Nodup) (hi : X.N[i]? = some x) (hj : X.N[j]? = some y) (hij : i ≠ j) (hA : ∀ k ∈ [i, j], k ∈ A)
    (hx : X.env.scope.names.lookup x = some .local) (hy : X.env.scope.names.lookup y = some .local) (ha : VA X [a, b] ops) (hl : ops.length = 2)
    (hw : swappedStores [.Tuple [.Name x px, .Name y py] kt pt] (.Tuple [a, b] k2 pt2) X.env = pure (some [x, y]))
    (hs : swapsWithSole [.Tuple [.Name x px, .Name y py] kt pt] (.Tuple [a, b] k2 pt2) pos.line X.env = pure false) :
    VS X A (.Assign [.Tuple [.Name x px, .Name y py] kt pt] (.Tuple [a, b] k2 pt2) pos) (mPar [i, j] ops) := fun W tk =>
  (ps_par hc hN hi hj hij hx hy (ha W tk) hw hs).weak fun D σ H h => by
  obtain ⟨F, env, S, q⟩ := rdS_par hA (by rw [hl]; rfl) h
  refine ⟨F, env, S, ?_⟩
  cases hr : evOps ops env with
  | no => rw [hr] at q; exact q
  | ex c e => rw [hr] at q; exact q
  | ok its e =>
    rw [hr] at q
    exact fun F1 H1 vs S1 okv sp nw x1 => by
      obtain ⟨q1, q2⟩ := q F1 H1 vs S1 okv sp nw x1
      rw [hl] at q1
      match vs, q1, q2 with
      | [v, w], _, q2 => exact ⟨v, w, rfl, q2⟩
theorem vs_par3 (hc : X.calm = true) (hN : X.N.Nodup) (hi : X.N[i]? = some x) (hj : X.N[j]? = some y) (hk : X.N[l]? = some z) (hij : i ≠ j) (hil : i ≠ l) (hjl : j ≠ l) (hA : ∀ k ∈ [i, j, l], k ∈ A)
    (hx : X.env.scope.names.lookup x = some .local) (hy : X.env.scope.names.lookup y = some .local) (hz : X.env.scope.names.lookup z = some .local) (ha : VA X [a, b, c] ops) (hl : ops.length = 3)
    (hw : swappedStores [.Tuple [.Name x px, .Name y py, .Name z pz] kt pt] (.Tuple [a, b, c] k2 pt2) X.env = pure (some [x, y, z]))
    (hs : swapsWithSole [.Tuple [.Name x px, .Name y py, .Name z pz] kt pt] (.Tuple [a, b, c] k2 pt2) pos.line X.env = pure false) :
    VS X A (.Assign [.Tuple [.Name x px, .Name y py, .Name z pz] kt pt] (.Tuple [a, b, c] k2 pt2) pos) (mPar [i, j, l] ops) := fun W tk =>
  (ps_par3 hc hN hi hj hk hij hil hjl hx hy hz (ha W tk) hw hs).weak fun D σ H h => by
  obtain ⟨F, env, S, q⟩ := rdS_par hA (by rw [hl]; rfl) h
  refine ⟨F, env, S, ?_⟩
  cases hr : evOps ops env with
  | no => rw [hr] at q; exact q
  | ex c e => rw [hr] at q; exact q
  | ok its e =>
    rw [hr] at q
    exact fun F1 H1 vs S1 okv sp nw x1 => by
      obtain ⟨q1, q2⟩ := q F1 H1 vs S1 okv sp nw x1
      rw [hl] at q1
      match vs, q1, q2 with
      | [v, w, u], _, q2 => exact ⟨v, w, u, rfl, q2⟩
end

/-! ### a = b = e -/
def mAsg2 (m : M T) (g1 g2 : G) : MS := onE m fun t e => if t.own then .no else match g1 t e with
  | .ok _ e1 => match g2 t e1 with
    | .ok _ e2 => .nx e2
    | _ => .no
  | _ => .no
section
variable {X : Cx} {A : List Nat} {t1 t2 e : Expr} {m : M T} {g1 g2 : G} {pos : Pos}
theorem vs_asg2 (he : VE X e m) (h1 : VG X A t1 g1) (h2 : VG X A t2 g2) (ha : (assignEach [t1, t2] X.env).map (·.2) = [assign t1 X.env, assign t2 X.env]) (hw : swappedStores [t1, t2] e X.env = pure none)
    : VS X A (.Assign [t1, t2] e pos) (mAsg2 m g1 g2) := fun W tk =>
  (ps_asg2 (he W tk) (h1 W tk) (h2 W tk) ha hw).weak fun D σ H h => rdS_on h fun t e1 F1 H1 v L S1 r n hs hv p => by
  by_cases ho : t.own = true
  · rw [if_pos ho] at p; exact p.elim
  · rw [if_neg ho] at p
    have ho : t.own = false := by simpa using ho
    refine ⟨F1, e1, t, S1, r, n, ?_⟩
    cases hg : g1 t e1 with
    | no => rw [hg] at p; exact p.elim
    | ex c e => rw [hg] at p; exact p.elim
    | ok _ e2 =>
      rw [hg] at p
      simp only at p
      intro F2 H2 σ2 S2 so2 x2
      have r2 : RepF X.K F2 v t := (r.toF ho).mono x2.frz
      refine ⟨F2, e2, t, S2, .ofF r2, (fun a o => by have := o.1; rw [ho] at this; cases this), ?_⟩
      cases hg2 : g2 t e2 with
      | no => rw [hg2] at p; exact p.elim
      | ex c e => rw [hg2] at p; exact p.elim
      | ok _ e3 =>
        rw [hg2] at p
        intro F3 H3 σ3 S3 so3 x3
        have nov : ∀ a, ¬ OwnV v t a := fun a o => by have := o.1; rw [ho] at this; cases this
        refine p F3 H3 σ3 S3 (so2.trans so3) ?_
        exact (x2.widen (L' := L) fun a z => z.elim (hs a) fun z => (nov a z).elim).trans x3 (fun a z => z.elim id fun z => (nov a z).elim) fun a z => .inr z
end

/-! ### dicts made -/
def keyOf : T → Option Key
  | .int i => some (Sum.inl i)
  | .str s => some (Sum.inr s)
  | _ => none
def pairsOf : List T → Option (List (Key × T))
  | [] => some []
  | k :: t :: r => (keyOf k).bind fun k => (pairsOf r).map ((k, t) :: ·)
  | _ => none
def putD (d : T) (kt : Key × T) : T := match d with
  | .dic _ ks ts => .dic true (ksP ks kt.1) (tsP ks ts kt.1 kt.2)
  | d => d
def mkDic (kts : List (Key × T)) : T := kts.foldl putD (.dic true [] [])
def mDict (ops : List Opd) : M T := fun env => (evOps ops env).bind fun its e => match (allV its).bind fun ts => pairsOf (ts.map T.frz) with
  | some kts => .ok (mkDic kts) e
  | none => .no
def mNewK : M T := mC (.dic true [] [])
def mNewT : M T := mC (.dit true [] [])
section
variable {K : Fr} {W : WX} {mg : MG} {F H : Hp} {σ : St} {env : Env}
theorem rdE_new {t : T} {o : HO} {Q : VK} {H : Hp} (ht : t.own = true) (hrep : ∀ F H p, F p = none → H p = some o → Rep K F H (.ref p) t) (h : rdE K W mg (mC t) σ H Q) : ∀ p, H p = none → Q (.ref p) (upd H p o) := by
  obtain ⟨F, env, S, q⟩ := h
  intro p hp
  have hF : F p = none := by
    cases z : F p with
    | none => rfl
    | some o => have := S.sub _ _ z; rw [hp] at this; cases this
  have x : Ext F H (fun _ => False) F (upd H p o) (fun a => a = p) := ⟨fun _ _ q => q, fun a u q _ => upd_new hp a u q, fun a z => .inr (by rw [z]; exact hp), fun _ _ q => .inl q, upd_dom⟩
  have S1 : Sta K F (upd H p o) σ env := S.ext x (fun a u q => upd_new hp a u (S.sub a u q)) fun a o z => z
  refine q F _ _ S1 (hrep _ _ p hF upd_same) (fun a o z => ?_) ⟨x.frz, fun a o q n => x.keep a o q fun z => z, fun a z => z.elim .inl fun z => .inr (by have := z.2; cases this; exact hp), fun a o q => .inl q, x.dom⟩
  obtain ⟨_, u, hu⟩ := S.ownAt z
  have := o.2; cases this
  rw [hp] at hu; cases hu
end
section
variable {X : Cx} {pos : Pos}
theorem ve_newK : VE X (.Dict [] [] pos) mNewK := fun W _ => pe_dnewK.weak fun σ H Q h => rdE_new (t := .dic true [] []) rfl (fun F H p hF hH => ⟨p, [], rfl, hF, hH, rfl, .nil⟩) h
theorem ve_newT : VE X (.Dict [] [] pos) mNewT := fun W _ => pe_dnewT.weak fun σ H Q h => rdE_new (t := .dit true [] []) rfl (fun F H p hF hH => ⟨p, [], rfl, hF, hH, rfl, .nil⟩) h
end
/-- keys and values of a display -/
inductive VP (X : Cx) : List (Option Expr) → List Expr → List Opd → Prop
  | nil : VP X [] [] []
  | cons {k v : Expr} {ks : List (Option Expr)} {vs : List Expr} {ok ov : Opd} {r : List Opd} (hk : VO X k ok) (hv : VO X v ov) (hr : VP X ks vs r) : VP X (some k :: ks) (v :: vs) (ok :: ov :: r)
def trsOf (K : Fr) (W : WX) (mg : MG) : List Opd → List (TE × TE)
  | a :: b :: r => (tO K W mg a, tO K W mg b) :: trsOf K W mg r
  | _ => []
def evenV : List V → List (V × V)
  | a :: b :: r => (a, b) :: evenV r
  | _ => []
theorem VP.pps {X : Cx} {W : WX} (tk : Takes X W) {pos : Pos} : ∀ {ks : List (Option Expr)} {vs : List Expr} {ops : List Opd}, VP X ks vs ops → PPs X pos ks vs (trsOf X.K W X.mg ops) ∧ ops.length = 2 * ks.length
  | _, _, _, .nil => ⟨pps_nil, rfl⟩
  | _, _, _, .cons hk hv hr => by
    obtain ⟨h1, h2⟩ := VP.pps tk hr
    exact ⟨pps_cons (hk W tk) (hv W tk) h1, by simp [h2]; omega⟩
theorem rdA_pairs {K : Fr} {W : WX} {mg : MG} {σ : St} : ∀ {n : Nat} {ops : List Opd} {H : Hp} {Q : List V → Hp → Prop}, ops.length = 2 * n → rdA K W mg ops σ H Q → tPairs (trsOf K W mg ops) σ H fun ps H2 => ∃ vs, evenV vs = ps ∧ vs.length = 2 * n ∧ Q vs H2
  | 0, [], H, Q, _, h => ⟨[], rfl, rfl, rdA_nil h⟩
  | n + 1, a :: b :: r, H, Q, hl, h => by
    unfold trsOf tPairs
    refine tO_mono (rdA_cons h) fun x H1 h1 => tO_mono (rdA_cons h1) fun y H2 h2 => ?_
    have ih := rdA_pairs (n := n) (by simpa [Nat.mul_add] using hl) h2
    have mono : ∀ (trs : List (TE × TE)) (P P' : List (V × V) → Hp → Prop) (H : Hp) (ops : List Opd), trs = trsOf K W mg ops → (∀ a b, P a b → P' a b) → tPairs trs σ H P → tPairs trs σ H P' := by
      intro trs
      induction trs with
      | nil => intro P P' H ops _ hp h; exact hp _ _ h
      | cons t trs ih =>
        intro P P' H ops e hp h
        match ops, e with
        | a :: b :: r, e =>
          unfold trsOf at e
          cases e
          unfold tPairs at h ⊢
          exact tO_mono h fun x H1 h1 => tO_mono h1 fun y H2 h2 => ih _ _ _ r rfl (fun a b q => hp _ _ q) h2
        | [a], e => unfold trsOf at e; cases e
        | [], e => unfold trsOf at e; cases e
    refine mono _ _ _ _ r rfl (fun ps H3 q => ?_) ih
    obtain ⟨vs, e1, e2, q⟩ := q
    exact ⟨x :: y :: vs, by simp [evenV, e1], by simp [e2]; omega, q⟩
theorem pairs_rep {K : Fr} {F : Hp} : ∀ {vs : List V} {ts : List T} {kts : List (Key × T)}, RepFs K F vs ts → pairsOf ts = some kts → ∃ kvs : List (Key × V), evenV vs = kvs.map (fun kv => (kV kv.1, kv.2)) ∧ kvs.map (·.1) = kts.map (·.1) ∧ RepFs K F (kvs.map (·.2)) (kts.map (·.2))
  | vs, [], kts, r, e => by
    cases e
    unfold RepFs at r; subst r
    exact ⟨[], rfl, rfl, .nil⟩
  | vs, [a], kts, r, e => by cases e
  | vs, a :: t :: ts, kts, r, e => by
    unfold RepFs at r
    obtain ⟨v, r', rfl, r1, r⟩ := r
    unfold RepFs at r
    obtain ⟨w, r'', rfl, r2, r⟩ := r
    unfold pairsOf at e
    rw [Option.bind_eq_some_iff] at e
    obtain ⟨k, e1, e2⟩ := e
    rw [Option.map_eq_some_iff] at e2
    obtain ⟨kts', e3, rfl⟩ := e2
    obtain ⟨kvs, g1, g2, g3⟩ := pairs_rep r e3
    have hv : v = kV k := by
      unfold keyOf at e1
      split at e1
      · cases e1; unfold RepF at r1; exact r1
      · cases e1; unfold RepF at r1; exact r1
      · cases e1
    refine ⟨(k, w) :: kvs, by simp [evenV, g1, hv], by simp [g2], .cons r2 g3⟩
theorem mkDic_rep {K : Fr} {F H : Hp} {p : Addr} : ∀ {kvs : List (Key × V)} {kts : List (Key × T)} {kvs0 : List (Key × V)} {ts0 : List T}, kvs.map (·.1) = kts.map (·.1) → RepFs K F (kvs.map (·.2)) (kts.map (·.2)) → RepFs K F (kvs0.map (·.2)) ts0 →
    F p = none → Rep K F (upd H p (.dK (mergeK kvs0 kvs))) (.ref p) (kts.foldl putD (.dic true (kvs0.map (·.1)) ts0))
  | [], [], kvs0, ts0, e, r, r0, hF => ⟨p, kvs0, rfl, hF, upd_same, rfl, r0⟩
  | [], _ :: _, kvs0, ts0, e, r, r0, hF => by cases e
  | _ :: _, [], kvs0, ts0, e, r, r0, hF => by cases e
  | (k, v) :: kvs, (k', t) :: kts, kvs0, ts0, e, r, r0, hF => by
    simp only [List.map_cons, List.cons.injEq] at e
    obtain ⟨rfl, e⟩ := e
    obtain ⟨r1, r2⟩ := r.out
    have := mkDic_rep (H := H) (p := p) (kvs0 := putK kvs0 k v) (ts0 := tsP (kvs0.map (·.1)) ts0 k t) e r2 (put_rep r0 r1) hF
    rw [put_keys] at this
    exact this
section
variable {X : Cx} {pos : Pos} {ks : List (Option Expr)} {vs : List Expr} {ops : List Opd}
theorem ve_dict (h : VP X ks vs ops) (hall : ks.all (·.isSome) = true) (hl : ks.length = vs.length) (h0 : ks ≠ []) (h15 : ks.length ≤ 15) : VE X (.Dict ks vs pos) (mDict ops) := fun W tk =>
  (pe_disp (h.pps tk).1 hall hl h0 h15).weak fun σ H Q q => by
  intro p hp
  have hlen := (h.pps (pos := pos) tk).2
  obtain ⟨F, env, S, q⟩ := q
  have hF : F p = none := by
    cases z : F p with
    | none => rfl
    | some o => have := S.sub _ _ z; rw [hp] at this; cases this
  have x0 : Ext F H (fun _ => False) F (upd H p (.dK [])) (fun a => a = p) := ⟨fun _ _ q => q, fun a u q _ => upd_new hp a u q, fun a z => .inr (by rw [z]; exact hp), fun _ _ q => .inl q, upd_dom⟩
  have S0 : Sta X.K F (upd H p (.dK [])) σ env := S.ext x0 (fun a u q => upd_new hp a u (S.sub a u q)) fun a o z => z
  have hnp : ¬ Own σ env p := fun z => by
    obtain ⟨_, u, hu⟩ := S.ownAt z
    rw [hp] at hu; cases hu
  have key : rdA X.K W X.mg ops σ (upd H p (.dK [])) fun xs H2 => H2 p = some (.dK []) ∧ ∃ kvs : List (Key × V), evenV xs = kvs.map (fun kv => (kV kv.1, kv.2)) ∧ kvs.length ≤ 15 ∧ Q (.ref p) (upd H2 p (.dK (mergeK [] kvs))) := by
    refine ⟨F, env, S0, ?_⟩
    unfold mDict at q
    cases hr : evOps ops env with
    | no => rw [hr] at q; exact q.elim
    | ex c e =>
      rw [hr] at q
      intro F' H' C S' x' hc
      refine q F' H' C S' ?_ hc
      exact ⟨x'.frz, fun a o z n => x'.keep a o (upd_new hp a o z) n, fun a z => (x'.own a z).imp id (upd_dom a), fun a o z => (x'.new a o z).imp id fun z => z.imp id (upd_tup (fun _ e => by cases e)), fun a z => upd_dom a (x'.dom a z)⟩
    | ok its e =>
      rw [hr] at q
      simp only [R.bind] at q
      intro F1 H1 xs S1 okv sp nw x1
      cases ha : allV its with
      | none => rw [ha] at q; exact q.elim
      | some ts =>
        rw [ha] at q
        simp only [Option.bind_some] at q
        cases hk : pairsOf (ts.map T.frz) with
        | none => rw [hk] at q; exact q.elim
        | some kts =>
          rw [hk] at q
          simp only at q
          obtain ⟨F2, a1, a2, a3, a4⟩ := frz_all S1.sub okv ha sp
          have xf : Ext F1 H1 (ArOwn xs its) F2 H1 (fun _ => False) := ⟨a1, fun _ _ e _ => e, fun a z => z.elim, fun a o z => (a4 a o z).imp id .inl, fun _ e => e⟩
          have S2 : Sta X.K F2 H1 σ e := S1.ext xf a2 fun a o z => nw a z o
          have hH1 : H1 p = some (.dK []) := x1.keep p _ upd_same hnp
          have no1 : ∀ a, (Own σ e a ∨ ArOwn xs its a) → a ≠ p := fun a z => by
            rintro rfl
            rcases x1.own _ z with z | z
            · exact hnp z
            · rw [upd_same] at z; cases z
          have hF2 : F2 p = none := by
            cases z : F2 p with
            | none => rfl
            | some o =>
              rcases a4 p o z with z | z
              · rcases x1.new p o z with z | z | z | ⟨_, z⟩
                · rw [hF] at z; cases z
                · exact (hnp z).elim
                · rw [upd_same] at z; cases z
                · rw [upd_same] at z; cases z
              · exact (no1 p (.inr z) rfl).elim
          obtain ⟨kvs, g1, g2, g3⟩ := pairs_rep a3 hk
          have lk : kvs.length ≤ 15 := by
            have e1 := congrArg List.length g1
            rw [List.length_map] at e1
            have el : ∀ (n : Nat) (l : List V), l.length = 2 * n → (evenV l).length = n := by
              intro n
              induction n with
              | zero => intro l hl; have := List.length_eq_zero_iff.mp hl; subst this; rfl
              | succ n ih =>
                intro l hl
                match l, hl with
                | a :: b :: r, hl => simp [evenV, ih r (by simp at hl; omega)]
                | [a], hl => simp at hl; omega
                | [], hl => simp at hl
            have := el ks.length xs (by rw [arLen okv ha, evOps_len hr, hlen])
            omega
          refine ⟨hH1, kvs, g1, lk, ?_⟩
          have hp2 : ¬ Own σ e p := fun z => no1 p (.inl z) rfl
          have x3 : Ext F2 H1 (fun a => a = p) F2 (upd H1 p (.dK (mergeK [] kvs))) (fun a => a = p) := ⟨fun _ _ q => q, fun a u q n => by rw [upd_ne n]; exact q, fun a z => .inl z, fun _ _ q => .inl q, upd_dom⟩
          have S3 : Sta X.K F2 (upd H1 p (.dK (mergeK [] kvs))) σ e := S2.ext x3 (fun a u q => by
            rw [upd_ne]; exact S2.sub a u q
            rintro rfl; rw [hF2] at q; cases q) fun a o z => by subst z; exact hp2 o
          have rep := mkDic_rep (H := H1) (p := p) (kvs0 := []) (ts0 := []) g2 g3 .nil hF2
          have own_t : ∀ (kts : List (Key × T)) (ks0 : List Key) (ts0 : List T), (kts.foldl putD (.dic true ks0 ts0)).own = true := by
            intro kts
            induction kts with
            | nil => intro ks0 ts0; rfl
            | cons kt kts ih => intro ks0 ts0; exact ih _ _
          refine q F2 _ _ S3 rep (fun a o z => ?_) ?_
          · have := o.2; cases this; exact hp2 z
          · refine ⟨fun a o z => a1 a o (x1.frz a o z), fun a o z n => ?_, fun a z => ?_, fun a o z => ?_, fun a z => ?_⟩
            · have hap : a ≠ p := by rintro rfl; rw [hp] at z; cases z
              rw [upd_ne hap]
              exact x1.keep a o (upd_new hp a o z) n
            · rcases z with z | z
              · exact (x1.own a (.inl z)).imp id (upd_dom a)
              · have := z.2; cases this; exact .inr hp
            · rcases a4 a o z with z | z
              · exact (x1.new a o z).imp id fun z => z.imp id (upd_tup (fun _ e => by cases e))
              · exact .inr ((x1.own a (.inr z)).imp id fun z => .inl (upd_dom a z))
            · exact upd_dom a (x1.dom a (upd_dom a z))
  have w := rdA_pairs hlen key
  have mono : ∀ (trs : List (TE × TE)) (P P' : List (V × V) → Hp → Prop) (H : Hp) (ops : List Opd), trs = trsOf X.K W X.mg ops → (∀ a b, P a b → P' a b) → tPairs trs σ H P → tPairs trs σ H P' := by
    intro trs
    induction trs with
    | nil => intro P P' H ops _ hp h; exact hp _ _ h
    | cons t trs ih =>
      intro P P' H ops e hp h
      match ops, e with
      | a :: b :: r, e =>
        unfold trsOf at e
        cases e
        unfold tPairs at h ⊢
        exact tO_mono h fun x H1 h1 => tO_mono h1 fun y H2 h2 => ih _ _ _ r rfl (fun a b q => hp _ _ q) h2
      | [a], e => unfold trsOf at e; cases e
      | [], e => unfold trsOf at e; cases e
  refine mono _ _ _ _ ops rfl (fun ps H2 q => ?_) w
  obtain ⟨xs, e1, e2, g1, kvs, g2, g3, g4⟩ := q
  exact ⟨g1, kvs, by rw [← e1]; exact g2, g3, g4⟩
end

/-! ### ranges -/
def rngT (lo : Int) (n : Nat) : List T := (List.range n).map fun (i : Nat) => .int (lo + (i : Int))
def okR (i : Int) : Bool := decide (i.natAbs < 4611686018427387904)
theorem okR_b {i : Int} (h : okR i = true) : -(2 ^ 62) ≤ i ∧ i < 2 ^ 62 := by
  unfold okR at h
  have := of_decide_eq_true h
  omega
def rngOf : List T → Option (List T)
  | [.int j] => if okR j then some (rngT 0 j.toNat) else none
  | [.int i, .int j] => if okR i && okR j then some (rngT i (j - i).toNat) else none
  | _ => none
def mRng (ops : List Opd) : M (List T) := fun env => (evOps ops env).bind fun its e => match (fill its e).bind rngOf with
  | some ts => .ok ts e
  | none => .no
section
variable {K : Fr} {W : WX} {mg : MG} {F H : Hp} {σ : St} {env : Env}
theorem src_rng {lo : Int} {n : Nat} : Src K (Itr lo n) F (rngT lo n) := by
  refine ⟨fun _ => True, YFn fun i => .int (lo + i), by simp only [rngT, List.length_map, List.length_range]; exact walk_range, fun _ _ => trivial, fun i t F1 H x H' e s1 s2 y => ?_⟩
  obtain ⟨rfl, rfl⟩ := y
  rw [rngT, List.getElem?_map, Option.map_eq_some_iff] at e
  obtain ⟨j, e1, rfl⟩ := e
  rw [List.getElem?_range] at e1
  · cases e1
    exact ⟨F1, s2, Ext.refl, by unfold RepF; rfl⟩
  · obtain ⟨h, _⟩ := List.getElem?_eq_some_iff.mp e1
    simpa using h
theorem rdI_rng {ops : List Opd} {Q : It → Hp → Prop} (h : rdI K W mg (mRng ops) σ H Q) : rdA K W mg ops σ H fun vs H1 => (∃ j : Int, vs = [.int j] ∧ -(2 ^ 62) ≤ j ∧ j < 2 ^ 62 ∧ Q (Itr 0 j.toNat) H1) ∨
    ∃ i j : Int, vs = [.int i, .int j] ∧ (-(2 ^ 62) ≤ i ∧ i < 2 ^ 62 ∧ -(2 ^ 62) ≤ j ∧ j < 2 ^ 62) ∧ Q (Itr i (j - i).toNat) H1 := by
  obtain ⟨F, env, S, q⟩ := h
  refine ⟨F, env, S, ?_⟩
  unfold mRng at q
  cases hr : evOps ops env with
  | no => rw [hr] at q; exact q.elim
  | ex c e => rw [hr] at q; exact q
  | ok its e =>
    rw [hr] at q
    simp only [R.bind] at q
    intro F1 H1 vs S1 okv sp nw x1
    cases hf : fill its e with
    | none => rw [hf] at q; exact q.elim
    | some ts =>
      rw [hf] at q
      simp only [Option.bind_some] at q
      have rl := fill_ok S1 okv hf
      unfold rngOf at q
      split at q
      · rename_i us he
        split at he
        · rename_i j
          split at he
          · rename_i hb
            cases he
            have hb := okR_b hb
            cases rl with
            | cons r1 r2 =>
            cases r2
            cases rep_int r1
            exact .inl ⟨j, rfl, hb.1, hb.2, q F1 H1 _ S1 (x1.mono fun a o => .inl o) src_rng⟩
          · cases he
        · rename_i i j
          split at he
          · rename_i hb
            cases he
            simp only [Bool.and_eq_true] at hb
            have hb := And.intro (okR_b hb.1) (okR_b hb.2)
            cases rl with
            | cons r1 r2 =>
            cases r2 with
            | cons r2 r3 =>
            cases r3
            cases rep_int r1
            cases rep_int r2
            exact .inr ⟨i, j, rfl, ⟨hb.1.1, hb.1.2, hb.2.1, hb.2.2⟩, q F1 H1 _ S1 (x1.mono fun a o => .inl o) src_rng⟩
          · cases he
        · cases he
      · exact q.elim
end
section
variable {X : Cx} {tg a b : Expr} {oa ob : Opd} {p pos : Pos}
theorem rdA_len {K : Fr} {W : WX} {mg : MG} {σ : St} : ∀ {ops : List Opd} {H : Hp} {Q : List V → Hp → Prop}, rdA K W mg ops σ H Q → rdA K W mg ops σ H fun vs H1 => vs.length = ops.length ∧ Q vs H1 := by
  intro ops H Q h
  obtain ⟨F, env, S, q⟩ := h
  refine ⟨F, env, S, ?_⟩
  cases hr : evOps ops env with
  | no => rw [hr] at q; exact q
  | ex c e => rw [hr] at q; exact q
  | ok its e =>
    rw [hr] at q
    intro F1 H1 vs S1 okv sp nw x1
    refine ⟨?_, q F1 H1 vs S1 okv sp nw x1⟩
    have : ∀ {its : List Ar} {vs : List V} , ArOk K F1 H1 σ vs its → vs.length = its.length := by
      intro its
      induction its with
      | nil => intro vs h; unfold ArOk at h; subst h; rfl
      | cons a its ih =>
        intro vs h
        cases a <;> (unfold ArOk at h; obtain ⟨v, ws, rfl, _, h⟩ := h; simp [ih h])
    rw [this okv, evOps_len hr]
theorem vi_rng1 (hg : Gl X "range") (hm : X.mg "range" = none) (ha : VA X [a] [oa]) (hs : starEach [a] X.env = [(false, eval a X.env)]) : VI X tg (.Call (.Name "range" p) [a] [] pos) (mRng [oa]) := fun W tk =>
  (pi_range1 hg hm (ha W tk) hs).weak fun σ H Q q => rdA_mono (rdA_len (rdI_rng q)) fun vs H1 ⟨hl, q⟩ => q.elim id fun ⟨i, j, e, _⟩ => by subst e; cases hl
theorem vi_rng2 (hg : Gl X "range") (hm : X.mg "range" = none) (ha : VA X [a, b] [oa, ob]) (hs : starEach [a, b] X.env = [(false, eval a X.env), (false, eval b X.env)]) (hs2 : starEach [b] X.env = [(false, eval b X.env)]) : VI X tg (.Call (.Name "range" p) [a, b] [] pos) (mRng [oa, ob]) := fun W tk =>
  (pi_range2 hg hm (ha W tk) hs hs2).weak fun σ H Q q => rdA_mono (rdA_len (rdI_rng q)) fun vs H1 ⟨hl, q⟩ => q.elim (fun ⟨j, e, _⟩ => by subst e; cases hl) id
/-- nothing is said of what is never reached -/
theorem ve_no {e : Expr} : VE X e (fun _ => .no) := fun W tk => ⟨fun p s σ H Q I q => by obtain ⟨F, env, S, q⟩ := q; exact q.elim⟩
end
end VL

/-! The rules once more, their small premises found by themselves. -/
namespace VL
open PySem L2
section
variable {X : Cx} {A : List Nat} {x y z : Str} {p pos px py pz pt pt2 apos cpos spos : Pos} {a b c e : Expr} {es : List Expr} {oa ob oc : Opd} {ops : List Opd} {k n kt k2 : Nat}
theorem o_sl (i : Nat) (hN : X.N[i]? = some x := by rfl) (hv : Vis X.env.scope x := by first | exact .inl rfl | exact .inr (.inl rfl) | exact .inr (.inr rfl)) (hd : (x == ("__debug__" : Str)) = false := by decide) (hcd : (x == ("__classdict__" : Str)) = false := by decide) : VO X (.Name x pos) (.sl i) := vo_sl hN hv hd hcd
theorem e_var (i : Nat) (hN : X.N[i]? = some x := by rfl) (hv : Vis X.env.scope x := by first | exact .inl rfl | exact .inr (.inl rfl) | exact .inr (.inr rfl)) (hd : (x == ("__debug__" : Str)) = false := by decide) (hcd : (x == ("__classdict__" : Str)) = false := by decide) : VE X (.Name x pos) (mVar i) := ve_var hN hv hd hcd
theorem s_retV (i : Nat) (hN : X.N[i]? = some x := by rfl) (hv : Vis X.env.scope x := by first | exact .inl rfl | exact .inr (.inl rfl) | exact .inr (.inr rfl)) (hd : (x == ("__debug__" : Str)) = false := by decide) (hcd : (x == ("__classdict__" : Str)) = false := by decide) : VS X A (.Return (some (.Name x px)) pos) (mRetV i) := vs_retV hN hv hd hcd
theorem s_set (i : Nat) {me : M T} (he : VE X e me) (hN : X.N.Nodup := by assumption) (hi : X.N[i]? = some x := by rfl) (hx : Loc X.env.scope x := by first | exact .inl rfl | exact .inr rfl) (hA : i ∈ A := by decide) (hs : swapsWith e (some (.Name x px)) pos.line X.env = pure false := by rfl)
    (hf : X.fn x = true ∨ X.env.scope.names.lookup x = some .local := by first | exact .inl rfl | exact .inr rfl) : VS X A (.Assign [.Name x px] e pos) (mSet i me) := vs_set hN hi hx hA he hs hf
theorem s_exp {me : M T} (he : VE X e me) (hs : swapsWith e none pos.line X.env = pure false := by rfl) : VS X A (.Expr e pos) (mExp me) := vs_exp he hs
theorem g_name (i : Nat) (hN : X.N.Nodup := by assumption) (hi : X.N[i]? = some x := by rfl) (hx : Loc X.env.scope x := by first | exact .inl rfl | exact .inr rfl) (hA : i ∈ A := by decide) (hf : X.fn x = true ∨ X.env.scope.names.lookup x = some .local := by first | exact .inl rfl | exact .inr rfl) : VG X A (.Name x pos) (gName i) := vg_name hN hi hx hA hf
theorem gs_cons {g : G} {r : Gs} (h : VG X A e g) (hr : VGs X A es r) (hs : (assignEach (e :: es) X.env).map (·.2) = assign e X.env :: (assignEach es X.env).map (·.2) := by rfl) : VGs X A (e :: es) (gsCons g r) := vgs_cons h hr hs
theorem g_tup {r : Gs} (h : VGs X A es r) (hc : X.calm = true := by rfl) (hn : (assignEach es X.env).length = n := by rfl) (hst : (assignEach es X.env).findIdx? (·.1) = none := by rfl) : VG X A (.Tuple es k pos) (gTup n r) := vg_tup hc h hn hst
theorem g_store (i : Nat) {ke : Expr} {ok : Opd} (hr : Room n X.A) (hk : VO X ke ok) (hN : X.N[i]? = some x := by rfl) (hv : Vis X.env.scope x := by first | exact .inl rfl | exact .inr (.inl rfl) | exact .inr (.inr rfl)) (hd : (x == ("__debug__" : Str)) = false := by decide) (hcd : (x == ("__classdict__" : Str)) = false := by decide)
    (ha : ∀ v, assign (.Subscript (.Name x px) ke pos) X.env v = (do
      let ov ← holding [v] (eval (.Name x px) X.env)
      let iv ← holding [v, ov] (eval ke X.env)
      standAt pos
      holding [v, ov, iv] (setItem ov iv v)
      release [v, ov, iv] []) := by intro _; rfl) : VG X A (.Subscript (.Name x px) ke pos) (gStore i ok) := vg_store hr hN hv hd hcd hk ha
theorem s_asg {m : M T} {g : G} {tg : Expr} (he : VE X e m) (hg : VG X A tg g) (hs : swapsWithSole [tg] e pos.line X.env = pure false := by rfl) (hw : swappedStores [tg] e X.env = pure none := by rfl)
    (h1 : (assignEach [tg] X.env).map (·.2) = [assign tg X.env] := by rfl) : VS X A (.Assign [tg] e pos) (mAsg m g) := vs_asg he hg hs hw h1
theorem s_asg2 {m : M T} {g1 g2 : G} {t1 t2 : Expr} (he : VE X e m) (h1 : VG X A t1 g1) (h2 : VG X A t2 g2) (ha : (assignEach [t1, t2] X.env).map (·.2) = [assign t1 X.env, assign t2 X.env] := by rfl) (hw : swappedStores [t1, t2] e X.env = pure none := by rfl) :
    VS X A (.Assign [t1, t2] e pos) (mAsg2 m g1 g2) := vs_asg2 he h1 h2 ha hw
theorem s_par (i j : Nat) (ha : VA X [a, b] [oa, ob]) (hc : X.calm = true := by rfl) (hN : X.N.Nodup := by assumption) (hi : X.N[i]? = some x := by rfl) (hj : X.N[j]? = some y := by rfl) (hij : i ≠ j := by decide) (hA : ∀ k ∈ [i, j], k ∈ A := by decide)
    (hx : X.env.scope.names.lookup x = some .local := by rfl) (hy : X.env.scope.names.lookup y = some .local := by rfl)
    (hw : swappedStores [.Tuple [.Name x px, .Name y py] kt pt] (.Tuple [a, b] k2 pt2) X.env = pure (some [x, y]) := by rfl)
    (hs : swapsWithSole [.Tuple [.Name x px, .Name y py] kt pt] (.Tuple [a, b] k2 pt2) pos.line X.env = pure false := by rfl) :
    VS X A (.Assign [.Tuple [.Name x px, .Name y py] kt pt] (.Tuple [a, b] k2 pt2) pos) (mPar [i, j] [oa, ob]) := vs_par hc hN hi hj hij hA hx hy ha rfl hw hs
theorem s_par3 (i j l : Nat) (ha : VA X [a, b, c] [oa, ob, oc]) (hc : X.calm = true := by rfl) (hN : X.N.Nodup := by assumption) (hi : X.N[i]? = some x := by rfl) (hj : X.N[j]? = some y := by rfl) (hk : X.N[l]? = some z := by rfl) (hij : i ≠ j := by decide) (hil : i ≠ l := by decide) (hjl : j ≠ l := by decide) (hA : ∀ k ∈ [i, j, l], k ∈ A := by decide)
    (hx : X.env.scope.names.lookup x = some .local := by rfl) (hy : X.env.scope.names.lookup y = some .local := by rfl) (hz : X.env.scope.names.lookup z = some .local := by rfl)
    (hw : swappedStores [.Tuple [.Name x px, .Name y py, .Name z pz] kt pt] (.Tuple [a, b, c] k2 pt2) X.env = pure (some [x, y, z]) := by rfl)
    (hs : swapsWithSole [.Tuple [.Name x px, .Name y py, .Name z pz] kt pt] (.Tuple [a, b, c] k2 pt2) pos.line X.env = pure false := by rfl) :
    VS X A (.Assign [.Tuple [.Name x px, .Name y py, .Name z pz] kt pt] (.Tuple [a, b, c] k2 pt2) pos) (mPar [i, j, l] [oa, ob, oc]) := vs_par3 hc hN hi hj hk hij hil hjl hA hx hy hz ha rfl hw hs
theorem s_for {tg it : Expr} {body : List Stmt} {m : M (List T)} {g : G} {mb : MS} (hp : PassesOwn (model X.prog X.w) X.A X.env X.xe) (hi : VI X tg it m) (hg : VG X A tg g) (hb : VSs X A body mb) (hc : X.calm = true := by rfl) (hs : ∀ x, foldedSetIterable it X.env x = pure x := by intro _; rfl) :
    VS X A (.For tg it body [] pos) (mFor m g mb) := vs_for hp hc hi hg hb hs
theorem e_call {d : Den} (Df : Def X.prog X.w X.K X.mg X.base x n k d) (hr : Room k X.A) (ha : VA X (e :: es) ops) (hn : ops.length = n := by rfl) (hg : Gl X x := by rfl) (hdb : (x == ("__debug__" : Str)) = false := by decide)
    (he : starEach (e :: es) X.env = (false, eval e X.env) :: starEach es X.env := by rfl) (hpl : (backTo pos (starEach es X.env)).any (·.1) = false := by rfl) : VE X (.Call (.Name x p) (e :: es) [] pos) (mCall d ops) := ve_call Df hr hg hn ha hdb he hpl
theorem e_call0 {d : Den} (Df : Def X.prog X.w X.K X.mg X.base x 0 k d) (hr : Room k X.A) (hg : Gl X x := by rfl) (hdb : (x == ("__debug__" : Str)) = false := by decide) : VE X (.Call (.Name x p) [] [] pos) (mCall d []) := ve_call0 Df hr hg hdb
theorem e_sub (hr : Room k X.A) (ha : VO X a oa) (hb : VO X b ob) (hs : PlainIx b := by intro _ _; rfl) : VE X (.Subscript a b pos) (mPrim pIx [oa, ob]) := ve_sub_ hr ha hb hs
theorem e_in (hr : Room k X.A) (ha : VO X a oa) (hb : VO X b ob) (hm : behindInMarks .In b = false := by rfl) : VE X (.Compare a [.In] [b] pos) (mPrim pIn [oa, ob]) := ve_in hr ha hb hm
theorem e_notIn (hr : Room k X.A) (ha : VO X a oa) (hb : VO X b ob) (hm : behindInMarks .NotIn b = false := by rfl) : VE X (.Compare a [.NotIn] [b] pos) (mPrim pNotIn [oa, ob]) := ve_notIn hr ha hb hm
theorem t_in (hr : Room k X.A) (ha : VO X a oa) (hb : VO X b ob) (hm : behindInMarks .In b = false := by rfl) : VT X (.Compare a [.In] [b] pos) (mTst (mPrim pIn [oa, ob])) := vt_in hr ha hb hm
theorem t_notIn (hr : Room k X.A) (ha : VO X a oa) (hb : VO X b ob) (hm : behindInMarks .NotIn b = false := by rfl) : VT X (.Compare a [.NotIn] [b] pos) (mTst (mPrim pNotIn [oa, ob])) := vt_notIn hr ha hb hm
theorem t_tru (h : VO X a oa) (he : ∀ whole, isTrue a X.env whole = (do let v ← whole; standAt a.pos; holding [v] (truthy v)) := by intro _; rfl) : VT X a (mTru oa) := vt_tru h he
theorem a_cons {o : Opd} {r : List Opd} (h : VO X e o) (hr : VA X es r) (hs : starEach (e :: es) X.env = (false, eval e X.env) :: starEach es X.env := by rfl) : VA X (e :: es) (o :: r) := va_cons h hr hs
theorem i_rng1 {tg : Expr} (hm : X.mg "range" = none) (ha : VA X [a] [oa]) (hg : Gl X "range" := by rfl) (hs : starEach [a] X.env = [(false, eval a X.env)] := by rfl) : VI X tg (.Call (.Name "range" p) [a] [] pos) (mRng [oa]) := vi_rng1 hg hm ha hs
theorem i_rng2 {tg : Expr} (hm : X.mg "range" = none) (ha : VA X [a, b] [oa, ob]) (hg : Gl X "range" := by rfl) (hs : starEach [a, b] X.env = [(false, eval a X.env), (false, eval b X.env)] := by rfl) (hs2 : starEach [b] X.env = [(false, eval b X.env)] := by rfl) : VI X tg (.Call (.Name "range" p) [a, b] [] pos) (mRng [oa, ob]) := vi_rng2 hg hm ha hs hs2
theorem e_dict {ks : List (Option Expr)} {vs : List Expr} (h : VP X ks vs ops) (hall : ks.all (·.isSome) = true := by rfl) (hl : ks.length = vs.length := by rfl) (h0 : ks ≠ [] := by intro h; cases h) (h15 : ks.length ≤ 15 := by decide) : VE X (.Dict ks vs pos) (mDict ops) := ve_dict h hall hl h0 h15
/-! builtins -/
theorem e_len (hm : X.mg "len" = none) (ha : VA X (e :: es) ops) (hg : Gl X "len" := by rfl) (he : starEach (e :: es) X.env = (false, eval e X.env) :: starEach es X.env := by rfl) (hpl : (backTo pos (starEach es X.env)).any (·.1) = false := by rfl) : VE X (.Call (.Name "len" p) (e :: es) [] pos) (mPrim pLen ops) :=
  ve_blt call_lenA prim_len hg hm (by decide +kernel) ha (by decide) (by decide) he hpl
theorem e_abs (hm : X.mg "abs" = none) (ha : VA X (e :: es) ops) (hg : Gl X "abs" := by rfl) (he : starEach (e :: es) X.env = (false, eval e X.env) :: starEach es X.env := by rfl) (hpl : (backTo pos (starEach es X.env)).any (·.1) = false := by rfl) : VE X (.Call (.Name "abs" p) (e :: es) [] pos) (mPrim pAbs ops) :=
  ve_blt call_abs prim_abs hg hm (by decide +kernel) ha (by decide) (by decide) he hpl
theorem e_max2 (hm : X.mg "max" = none) (ha : VA X (e :: es) ops) (hg : Gl X "max" := by rfl) (hc : X.calm = true := by rfl) (he : starEach (e :: es) X.env = (false, eval e X.env) :: starEach es X.env := by rfl) (hpl : (backTo pos (starEach es X.env)).any (·.1) = false := by rfl) : VE X (.Call (.Name "max" p) (e :: es) [] pos) (mPrim pMax2 ops) :=
  ve_blt (call_max2 hc) prim_max2 hg hm (by decide +kernel) ha (by decide) (by decide) he hpl
theorem e_min2 (hm : X.mg "min" = none) (ha : VA X (e :: es) ops) (hg : Gl X "min" := by rfl) (hc : X.calm = true := by rfl) (he : starEach (e :: es) X.env = (false, eval e X.env) :: starEach es X.env := by rfl) (hpl : (backTo pos (starEach es X.env)).any (·.1) = false := by rfl) : VE X (.Call (.Name "min" p) (e :: es) [] pos) (mPrim pMin2 ops) :=
  ve_blt (call_min2 hc) prim_min2 hg hm (by decide +kernel) ha (by decide) (by decide) he hpl
theorem e_maxL (hm : X.mg "max" = none) (ha : VA X (e :: es) ops) (hg : Gl X "max" := by rfl) (hc : X.calm = true := by rfl) (he : starEach (e :: es) X.env = (false, eval e X.env) :: starEach es X.env := by rfl) (hpl : (backTo pos (starEach es X.env)).any (·.1) = false := by rfl) : VE X (.Call (.Name "max" p) (e :: es) [] pos) (mPrim pMaxL ops) :=
  ve_blt (cr_max hc) prim_maxL hg hm (by decide +kernel) ha (by decide) (by decide) he hpl
theorem e_minL (hm : X.mg "min" = none) (ha : VA X (e :: es) ops) (hg : Gl X "min" := by rfl) (hc : X.calm = true := by rfl) (he : starEach (e :: es) X.env = (false, eval e X.env) :: starEach es X.env := by rfl) (hpl : (backTo pos (starEach es X.env)).any (·.1) = false := by rfl) : VE X (.Call (.Name "min" p) (e :: es) [] pos) (mPrim pMinL ops) :=
  ve_blt (cr_min hc) prim_minL hg hm (by decide +kernel) ha (by decide) (by decide) he hpl
theorem e_sum (hm : X.mg "sum" = none) (ha : VA X (e :: es) ops) (hg : Gl X "sum" := by rfl) (hc : X.calm = true := by rfl) (he : starEach (e :: es) X.env = (false, eval e X.env) :: starEach es X.env := by rfl) (hpl : (backTo pos (starEach es X.env)).any (·.1) = false := by rfl) : VE X (.Call (.Name "sum" p) (e :: es) [] pos) (mPrim pSum ops) :=
  ve_blt (cr_sum hc) prim_sum hg hm (by decide +kernel) ha (by decide) (by decide) he hpl
theorem e_any (hm : X.mg "any" = none) (ha : VA X (e :: es) ops) (hg : Gl X "any" := by rfl) (hc : X.calm = true := by rfl) (he : starEach (e :: es) X.env = (false, eval e X.env) :: starEach es X.env := by rfl) (hpl : (backTo pos (starEach es X.env)).any (·.1) = false := by rfl) : VE X (.Call (.Name "any" p) (e :: es) [] pos) (mPrim pAny ops) :=
  ve_blt (cr_any hc) prim_any hg hm (by decide +kernel) ha (by decide) (by decide) he hpl
theorem e_all (hm : X.mg "all" = none) (ha : VA X (e :: es) ops) (hg : Gl X "all" := by rfl) (hc : X.calm = true := by rfl) (he : starEach (e :: es) X.env = (false, eval e X.env) :: starEach es X.env := by rfl) (hpl : (backTo pos (starEach es X.env)).any (·.1) = false := by rfl) : VE X (.Call (.Name "all" p) (e :: es) [] pos) (mPrim pAll ops) :=
  ve_blt (cr_all hc) prim_all hg hm (by decide +kernel) ha (by decide) (by decide) he hpl
theorem e_int (hm : X.mg "int" = none) (ha : VA X (e :: es) ops) (hg : Gl X "int" := by rfl) (he : starEach (e :: es) X.env = (false, eval e X.env) :: starEach es X.env := by rfl) (hpl : (backTo pos (starEach es X.env)).any (·.1) = false := by rfl) : VE X (.Call (.Name "int" p) (e :: es) [] pos) (mPrim pIntOf ops) :=
  ve_bty call_int1 prim_intOf hg hm (by decide +kernel) ha (by decide) (by decide) he hpl
theorem e_list (hm : X.mg "list" = none) (ha : VA X (e :: es) ops) (hg : Gl X "list" := by rfl) (he : starEach (e :: es) X.env = (false, eval e X.env) :: starEach es X.env := by rfl) (hpl : (backTo pos (starEach es X.env)).any (·.1) = false := by rfl) : VE X (.Call (.Name "list" p) (e :: es) [] pos) (mPrim pListOf ops) :=
  ve_bty call_list_of prim_listOf hg hm (by decide +kernel) ha (by decide) (by decide) he hpl
theorem e_tuple (hm : X.mg "tuple" = none) (ha : VA X (e :: es) ops) (hg : Gl X "tuple" := by rfl) (he : starEach (e :: es) X.env = (false, eval e X.env) :: starEach es X.env := by rfl) (hpl : (backTo pos (starEach es X.env)).any (·.1) = false := by rfl) : VE X (.Call (.Name "tuple" p) (e :: es) [] pos) (mPrim pTupOf ops) :=
  ve_bty call_tuple_of prim_tupOf hg hm (by decide +kernel) ha (by decide) (by decide) he hpl
/-! isinstance -/
theorem bt_bool : PySem.bootBuiltins "bool" = some (.type "bool") := by decide +kernel
theorem bt_int : PySem.bootBuiltins "int" = some (.type "int") := by decide +kernel
theorem bt_str : PySem.bootBuiltins "str" = some (.type "str") := by decide +kernel
theorem bt_list : PySem.bootBuiltins "list" = some (.type "list") := by decide +kernel
theorem bt_tuple : PySem.bootBuiltins "tuple" = some (.type "tuple") := by decide +kernel
theorem bt_dict : PySem.bootBuiltins "dict" = some (.type "dict") := by decide +kernel
theorem ty_bool (hm : X.mg "bool" = none) (hg : Gl X "bool" := by rfl) : PE X (.Name "bool" pos) (tC (.ty Ty.bool.name)) := pe_ty hg hm bt_bool (by decide) (by decide)
theorem ty_int (hm : X.mg "int" = none) (hg : Gl X "int" := by rfl) : PE X (.Name "int" pos) (tC (.ty Ty.int.name)) := pe_ty hg hm bt_int (by decide) (by decide)
theorem ty_str (hm : X.mg "str" = none) (hg : Gl X "str" := by rfl) : PE X (.Name "str" pos) (tC (.ty Ty.str.name)) := pe_ty hg hm bt_str (by decide) (by decide)
theorem ty_list (hm : X.mg "list" = none) (hg : Gl X "list" := by rfl) : PE X (.Name "list" pos) (tC (.ty Ty.lst.name)) := pe_ty hg hm bt_list (by decide) (by decide)
theorem ty_tuple (hm : X.mg "tuple" = none) (hg : Gl X "tuple" := by rfl) : PE X (.Name "tuple" pos) (tC (.ty Ty.tup.name)) := pe_ty hg hm bt_tuple (by decide) (by decide)
theorem ty_dict (hm : X.mg "dict" = none) (hg : Gl X "dict" := by rfl) : PE X (.Name "dict" pos) (tC (.ty Ty.dic.name)) := pe_ty hg hm bt_dict (by decide) (by decide)
theorem bt_isinstance : PySem.bootBuiltins "isinstance" = some (.builtin "isinstance") := by decide +kernel
theorem e_isi1 {m : Str} {t : Ty} (hm : X.mg "isinstance" = none) (ha : VO X a oa) (ht : PE X (.Name m px) (tC (.ty t.name))) (hg : Gl X "isinstance" := by rfl)
    (he : starEach [a, .Name m px] X.env = (false, eval a X.env) :: starEach [.Name m px] X.env := by rfl) (he2 : starEach [.Name m px] X.env = (false, eval (.Name m px) X.env) :: starEach [] X.env := by rfl) (hpl : (backTo pos (starEach [.Name m px] X.env)).any (·.1) = false := by rfl) :
    VE X (.Call (.Name "isinstance" p) [a, .Name m px] [] pos) (mPrim (pIsi [t]) [oa]) := ve_isi1 hg hm bt_isinstance ha ht he he2 hpl
theorem tys_cons {t : Ty} {bs : List Ty} (h : PE X e (tC (.ty t.name))) (r : Tys X es bs) (hs : starEach (e :: es) X.env = (false, eval e X.env) :: starEach es X.env := by rfl) : Tys X (e :: es) (t :: bs) := .cons h hs r
theorem e_isiN {bs : List Ty} (hm : X.mg "isinstance" = none) (ha : VO X a oa) (ht : Tys X es bs) (hz : bs.length ≤ sizeLine := by decide) (hg : Gl X "isinstance" := by rfl)
    (he : starEach [a, .Tuple es k pt] X.env = (false, eval a X.env) :: starEach [.Tuple es k pt] X.env := by rfl) (he2 : starEach [.Tuple es k pt] X.env = (false, eval (.Tuple es k pt) X.env) :: starEach [] X.env := by rfl) (hpl : (backTo pos (starEach [.Tuple es k pt] X.env)).any (·.1) = false := by rfl) :
    VE X (.Call (.Name "isinstance" p) [a, .Tuple es k pt] [] pos) (mPrim (pIsi bs) [oa]) := ve_isiN hg hm bt_isinstance ha ht hz he he2 hpl
/-! methods of lists -/
theorem lmut_extend {K : Fr} : LMut K rExtend fExtend := fun F H p vs ts as us u ts' Q s hH hF r ra e k => by
  unfold fExtend at e
  split at e
  · rename_i ys us0 o
    split at e
    · rename_i hz
      cases e
      unfold RepFs at ra
      obtain ⟨v, w, rfl, r1, r2⟩ := ra
      unfold RepFs at r2; subst r2
      unfold RepF at r1
      obtain ⟨rfl, q, ws, rfl, hq, rw'⟩ := r1
      have hqH := s _ _ hq
      exact ⟨p, q, vs, ws, rfl, rfl, hH, hqH, by rw [r.len, rw'.len]; exact hz, k .non _ (by unfold RepF; rfl) (r.append rw')⟩
    · cases e
  · cases e
theorem e_append (i : Nat) (ha : VA X (e :: es) ops) (hN : X.N[i]? = some x := by rfl) (hv : Vis X.env.scope x := by first | exact .inl rfl | exact .inr (.inl rfl) | exact .inr (.inr rfl)) (hd : (x == ("__debug__" : Str)) = false := by decide) (hcd : (x == ("__classdict__" : Str)) = false := by decide)
    (hbase : attributeBase (.Name x pos) "append" X.env (eval (.Name x pos) X.env) = eval (.Name x pos) X.env := by rfl)
    (hfew : ((backTo cpos (starEach (e :: es) X.env)).all (fun x => !x.1) && (backToKw cpos (keywordEach [] X.env)).all (fun x => x.1.isSome)
      && decide ((e :: es).length + ([] : List Keyword).length + (if ([] : List Keyword).isEmpty then 0 else 1) < 30)) = true := by rfl)
    (hline : (apos.endLine == cpos.line) = true := by rfl) (hs : starEach (e :: es) X.env = (false, eval e X.env) :: starEach es X.env := by rfl) (hplain : (backTo cpos (starEach es X.env)).any (·.1) = false := by rfl) :
    VE X (.Call (.Attribute (.Name x pos) "append" apos) (e :: es) [] cpos) (mMut fAppend i ops) := ve_mut PySem.F.plainAttrs_list PySem.F.slot_list_append PySem.F.type_list_append mt_append lmut_append hN hv hd hcd ha hbase hfew hline hs hplain
theorem e_insert (i : Nat) (ha : VA X (e :: es) ops) (hN : X.N[i]? = some x := by rfl) (hv : Vis X.env.scope x := by first | exact .inl rfl | exact .inr (.inl rfl) | exact .inr (.inr rfl)) (hd : (x == ("__debug__" : Str)) = false := by decide) (hcd : (x == ("__classdict__" : Str)) = false := by decide)
    (hbase : attributeBase (.Name x pos) "insert" X.env (eval (.Name x pos) X.env) = eval (.Name x pos) X.env := by rfl)
    (hfew : ((backTo cpos (starEach (e :: es) X.env)).all (fun x => !x.1) && (backToKw cpos (keywordEach [] X.env)).all (fun x => x.1.isSome)
      && decide ((e :: es).length + ([] : List Keyword).length + (if ([] : List Keyword).isEmpty then 0 else 1) < 30)) = true := by rfl)
    (hline : (apos.endLine == cpos.line) = true := by rfl) (hs : starEach (e :: es) X.env = (false, eval e X.env) :: starEach es X.env := by rfl) (hplain : (backTo cpos (starEach es X.env)).any (·.1) = false := by rfl) :
    VE X (.Call (.Attribute (.Name x pos) "insert" apos) (e :: es) [] cpos) (mMut fInsert i ops) := ve_mut PySem.F.plainAttrs_list PySem.F.slot_list_insert PySem.F.type_list_insert mt_insert lmut_insert hN hv hd hcd ha hbase hfew hline hs hplain
theorem e_extend (i : Nat) (ha : VA X (e :: es) ops) (hN : X.N[i]? = some x := by rfl) (hv : Vis X.env.scope x := by first | exact .inl rfl | exact .inr (.inl rfl) | exact .inr (.inr rfl)) (hd : (x == ("__debug__" : Str)) = false := by decide) (hcd : (x == ("__classdict__" : Str)) = false := by decide)
    (hbase : attributeBase (.Name x pos) "extend" X.env (eval (.Name x pos) X.env) = eval (.Name x pos) X.env := by rfl)
    (hfew : ((backTo cpos (starEach (e :: es) X.env)).all (fun x => !x.1) && (backToKw cpos (keywordEach [] X.env)).all (fun x => x.1.isSome)
      && decide ((e :: es).length + ([] : List Keyword).length + (if ([] : List Keyword).isEmpty then 0 else 1) < 30)) = true := by rfl)
    (hline : (apos.endLine == cpos.line) = true := by rfl) (hs : starEach (e :: es) X.env = (false, eval e X.env) :: starEach es X.env := by rfl) (hplain : (backTo cpos (starEach es X.env)).any (·.1) = false := by rfl) :
    VE X (.Call (.Attribute (.Name x pos) "extend" apos) (e :: es) [] cpos) (mMut fExtend i ops) := ve_mut PySem.F.plainAttrs_list PySem.F.slot_list_extend PySem.F.type_list_extend mt_extend lmut_extend hN hv hd hcd ha hbase hfew hline hs hplain
theorem e_pop (i : Nat) (ha : VA X (e :: es) ops) (hN : X.N[i]? = some x := by rfl) (hv : Vis X.env.scope x := by first | exact .inl rfl | exact .inr (.inl rfl) | exact .inr (.inr rfl)) (hd : (x == ("__debug__" : Str)) = false := by decide) (hcd : (x == ("__classdict__" : Str)) = false := by decide)
    (hbase : attributeBase (.Name x pos) "pop" X.env (eval (.Name x pos) X.env) = eval (.Name x pos) X.env := by rfl)
    (hfew : ((backTo cpos (starEach (e :: es) X.env)).all (fun x => !x.1) && (backToKw cpos (keywordEach [] X.env)).all (fun x => x.1.isSome)
      && decide ((e :: es).length + ([] : List Keyword).length + (if ([] : List Keyword).isEmpty then 0 else 1) < 30)) = true := by rfl)
    (hline : (apos.endLine == cpos.line) = true := by rfl) (hs : starEach (e :: es) X.env = (false, eval e X.env) :: starEach es X.env := by rfl) (hplain : (backTo cpos (starEach es X.env)).any (·.1) = false := by rfl) :
    VE X (.Call (.Attribute (.Name x pos) "pop" apos) (e :: es) [] cpos) (mMut fPop i ops) := ve_mut PySem.F.plainAttrs_list PySem.F.slot_list_pop PySem.F.type_list_pop (MtR.or mt_pop mt_popAt) lmut_pop hN hv hd hcd ha hbase hfew hline hs hplain
theorem e_pop0 (i : Nat) (hN : X.N[i]? = some x := by rfl) (hv : Vis X.env.scope x := by first | exact .inl rfl | exact .inr (.inl rfl) | exact .inr (.inr rfl)) (hd : (x == ("__debug__" : Str)) = false := by decide) (hcd : (x == ("__classdict__" : Str)) = false := by decide)
    (hbase : attributeBase (.Name x pos) "pop" X.env (eval (.Name x pos) X.env) = eval (.Name x pos) X.env := by rfl)
    (hline : (apos.endLine == cpos.line) = true := by rfl) :
    VE X (.Call (.Attribute (.Name x pos) "pop" apos) [] [] cpos) (mMut fPop i []) := ve_mut0 PySem.F.plainAttrs_list PySem.F.slot_list_pop PySem.F.type_list_pop (MtR.or mt_pop mt_popAt) lmut_pop hN hv hd hcd hbase hline
/-! comprehensions -/
theorem e_comp {elt tg iter : Expr} {ifs : List Expr} {scope : Scope} {src : M (List T)} {g : G} {c : M Bool} {me : M T} (own : List (Str × Nat)) (hi : VI X tg iter src)
    (hg : ∀ (s : Shared) (H : Hp) (C : Addr) (cl : List (Str × Addr)) (fp : List Addr), VG (X.blk s H scope (compEnvC scope cl C X.env) fp) (own.map (·.2)) tg g)
    (ht : ∀ (s : Shared) (H : Hp) (C : Addr) (cl : List (Str × Addr)) (fp : List Addr), VPTs (X.blk s H scope (compEnvC scope cl C X.env) fp) ifs c)
    (he : ∀ (s : Shared) (H : Hp) (C : Addr) (cl : List (Str × Addr)) (fp : List Addr), VE (X.blk s H scope (compEnvC scope cl C X.env) fp) elt me)
    (hc : X.calm = true := by rfl) (hN : X.N.Nodup := by assumption) (ok : BlkOk X.N X.env.scope scope own := by (refine blkOk_by ?_; dsimp only [cxOf, PyProof.Rows.envOfC, compEnvC, relabel, Env.kindOf]; first | decide +kernel | rfl)) (hs : ∀ x, foldedSetIterable iter X.env x = pure x := by intro _; rfl) :
    VE X (.ListComp elt [⟨tg, iter, ifs, 0⟩] scope pos) (mComp (own.map (·.2)) src g c me) := ve_comp hc hN hi ok hg ht he hs
theorem s_setComp (i : Nat) {elt tg iter : Expr} {ifs : List Expr} {scope : Scope} {src : M (List T)} {g : G} {c : M Bool} {me : M T} (own : List (Str × Nat)) (hi : VI X tg iter src)
    (hg : ∀ (s : Shared) (H : Hp) (C : Addr) (cl : List (Str × Addr)) (fp : List Addr), VG (X.blk s H scope (compEnvC scope cl C X.env) fp) (own.map (·.2)) tg g)
    (ht : ∀ (s : Shared) (H : Hp) (C : Addr) (cl : List (Str × Addr)) (fp : List Addr), VPTs (X.blk s H scope (compEnvC scope cl C X.env) fp) ifs c)
    (he : ∀ (s : Shared) (H : Hp) (C : Addr) (cl : List (Str × Addr)) (fp : List Addr), VE (X.blk s H scope (compEnvC scope cl C X.env) fp) elt me)
    (hc : X.calm = true := by rfl) (hN : X.N.Nodup := by assumption) (ok : BlkOk X.N X.env.scope scope own := by (refine blkOk_by ?_; dsimp only [cxOf, PyProof.Rows.envOfC, compEnvC, relabel, Env.kindOf]; first | decide +kernel | rfl)) (hs : ∀ x, foldedSetIterable iter X.env x = pure x := by intro _; rfl)
    (hy : X.N[i]? = some y := by rfl) (hyl : X.env.scope.names.lookup y = some .local := by rfl) (hA : i ∈ A := by decide) (hsw : swapsWith (.ListComp elt [⟨tg, iter, ifs, 0⟩] scope pos) (some (.Name y py)) spos.line X.env = pure true := by exact sw_true rfl rfl rfl (by decide +kernel)) :
    VS X A (.Assign [.Name y py] (.ListComp elt [⟨tg, iter, ifs, 0⟩] scope pos) spos) (mSet i (mComp (own.map (·.2)) src g c me)) := vs_setComp hc hN hy hyl hA hsw hi ok hg ht he hs
/-! tests of two -/
theorem t_eq (hr : Room k X.A) (ha : VO X a oa) (hb : VO X b ob) : VT X (.Compare a [.Eq] [b] pos) (mTst (mPrim pEq [oa, ob])) := vt_eq hr ha hb
end
end VL

/-! More rules. -/
namespace VL
open PySem L2
section
variable {X : Cx} {A : List Nat} {x : Str} {px pos : Pos} {tg it e : Expr} {o : Opd} {op : Operator} {r : R2} {p : List T → Option T}
theorem vi_no : VI X tg it (fun _ => .no) := fun W tk => ⟨fun p s σ H Q I q => by obtain ⟨F, env, S, q⟩ := q; exact q.elim⟩
theorem s_augL (i : Nat) (he : VO X e o) (hN : X.N.Nodup := by assumption) (hi : X.N[i]? = some x := by rfl) (hx : Loc X.env.scope x := by first | exact .inl rfl | exact .inr rfl) (hA : i ∈ A := by decide) (hf : X.fn x = true ∨ X.env.scope.names.lookup x = some .local := by first | exact .inl rfl | exact .inr rfl) :
    VS X A (.AugAssign (.Name x px) .Add e pos) (mAug piAdd true i o) := vs_augL hN hi hx hA he (iop_addA) prim_iadd hf
theorem s_aug (i : Nat) (he : VO X e o) (ho : OpR X (inplaceOp op) r) (P : Prim X.K (run2 r) p) (hN : X.N.Nodup := by assumption) (hi : X.N[i]? = some x := by rfl) (hx : Loc X.env.scope x := by first | exact .inl rfl | exact .inr rfl) (hA : i ∈ A := by decide) (hf : X.fn x = true ∨ X.env.scope.names.lookup x = some .local := by first | exact .inl rfl | exact .inr rfl) :
    VS X A (.AugAssign (.Name x px) op e pos) (mAug p false i o) := vs_aug hN hi hx hA he ho P hf
end
theorem no_fn {P : Program} {w : World} {K : Fr} {mg : MG} {base : Heap} {CX : CXT} {k n : Nat} {f : Addr} {fd : FuncData} {ps : List Str} : FnOk P w K mg base CX k f fd ps (spOf K mg n fun _ => .no) := by
  have no : ∀ vs H Q E, ¬ spOf K mg n (fun _ => .no) vs H Q E := fun vs H Q E h => by
    obtain ⟨_, F, ts, S, q⟩ := h
    exact q
  exact ⟨fun vs H Q E h => absurd h (no vs H Q E), fun A outer s H args us vs Q E _ _ _ _ h => absurd h (no vs H Q E)⟩
end VL

/-! The law's end. -/
namespace VL
open PySem L2
/-- what law(script) promises -/
def spLaw (K : Fr) : Sp := fun vs H Q _ => ∃ (a : Addr) (ns : List Int), vs = [.ref a] ∧ SqL K H a (ns.map V.int) ∧ ns.length ≤ 63 ∧ ∀ H', Q (.bl true) H'
theorem law_fn {P : Program} {w : World} {K : Fr} {mg : MG} {base : Heap} {CX : CXT} {k : Nat} {f : Addr} {fd : FuncData} {ps : List Str} {d : Den} (F : FnOk P w K mg base CX k f fd ps (spOf K mg 1 d))
    (hd : ∀ ns : List Int, ns.length ≤ 63 → ∃ e, d [.scr ns] = .ok (.bl true) e) : FnOk P w K mg base CX k f fd ps (spLaw K) := F.imp fun vs H Q E h => by
  obtain ⟨a, ns, rfl, hS, hl, q⟩ := h
  obtain ⟨e, he⟩ := hd ns hl
  refine ⟨rfl, H, [.scr ns], ⟨rfl, fun _ _ z => z, fun i t z => ?_, fun i j t u v z1 z2 o1 o2 _ _ => ?_⟩, ?_⟩
  · match i, z with
    | 0, z => cases z; exact ⟨_, rfl, .ofF (by unfold RepF; exact ⟨a, rfl, hS⟩)⟩
  · match i, z1 with
    | 0, z1 => cases z1; cases o1
  · rw [he]
    intro F' H' v S' r n x
    cases rep_bl r
    exact q H'
theorem law_walk {l : PySem.W.OpenLaw} {q : Program} {loose : List Str} {XP : (Str → Option Value) → Heap → Prop} {YP : World → Heap → Prop} {d : DefRec} {K : Params → Fr} {k : Nat} (hn : l.most = some 63) (hk : Room k callerA) (hdf : d.params.defaults = [])
    (hY : ∀ (w : World) (h : Heap), YP w h → (K w.params).In h)
    (F : ∀ (w : World) (mg : Str → Option Value) (fa : Addr) (h : Heap), (K w.params).In h → h.Ns mainGlobals mg → mg d.name = some (.ref fa) →
      ∃ fd : FuncData, (∀ (s : Shared) (u : Value), BindsTo s fd ⟨[u], []⟩ [("script", u)]) ∧ ∀ base : Heap, (K w.params).In base → base.Ns mainGlobals mg → FnOk l.prog w (K w.params) mg base (L2.CX l.prog w) k fa fd ["script"] (spLaw (K w.params))) :
    PySem.W.WalkO q loose XP YP l.row.toRowW d [] (fun f vs => PySem.call f vs) :=
  L2.walk_of (n := 63) (k := k) (x := "script") (CX := fun w => L2.CX l.prog w) (sp := fun w => spLaw (K w.params)) hn (by decide) hdf hk hY F (fun _ _ a ns hl _ hS => ⟨a, ns, rfl, hS, hl, fun _ => rfl⟩) fun w H s e s' h => by
    obtain ⟨_, _, _, h⟩ := h
    simp_all
end VL
namespace VL
open PySem L2
def DefAt (K : Fr) (mg : MG) (x : Str) (st : Stmt) : Prop := ∃ f fd, Fun K x x st f fd ∧ mg x = some (.ref f)
theorem def_at {K : Fr} {h : Heap} {mg : MG} {x : Str} {st : Stmt} {f : Addr} {od an : Option Addr} {sl : Array (Option Value)} {oc kV dc pm cd ct : Value} (X : K.In h) (G : h.Ns mainGlobals mg)
    (a : PySem.W.nsIn K mainGlobals x = some (some (.ref f))) (l : K.lookup f = some ⟨oc, od, .func (PySem.W.fnOf x x (defArgs st) (defBody st) (defScope st) .none kV dc pm an cd ct), sl⟩) (c : PySem.W.codeIn K cd x = true) (k : PySem.W.keepIn K (.ref f) = true) : DefAt K mg x st :=
  ⟨f, _, fun_mk l c k, PySem.W.mg_of X G a⟩
end VL

set_option maxHeartbeats 1000000
/-! enumerate of lists and tuples, zip. -/
namespace VLE
open PySem
open PySem.Sem (wp)
theorem meets_enumT (l : Addr) (items : Array Value) :
    Meets (Builtin.«enumerate.__new__» ⟨[.type "enumerate", .ref l], []⟩) (fun _ R s => s.heap.IsTuple l items ∧
      R (.ok (.ret (.ref (s.heap.push { cls := .type "tuple_iterator", data := .fields #[.ref l, .int 0 0] }).objs.size)))
        { s with heap := (s.heap.push { cls := .type "tuple_iterator", data := .fields #[.ref l, .int 0 0] }).push { cls := .type "enumerate", data := .fields #[.none, .bool false, .ref s.heap.objs.size, rawInt 0, .none, .none] } }) :=
  .of_wp fun prog w A R s h => by
    obtain ⟨hp, g, d, tk, os⟩ := s; obtain ⟨hl, h⟩ := h
    have hsub := sub_enumerate
    have hL : Heap.IsTuple (Shared.heap ⟨hp, g, d, tk, os⟩) l items := hl
    wp_walk
    refine wpAny_stack_any fun st => wpAny_pure ?_
    split
    · rename_i c _ _ _ _ _
      cases (c == Value.type "enumerate")
      · wp_walk using wpAny_pyIter_tuple hL
        exact ⟨_, rfl, h⟩
      · wp_walk using wpAny_pyIter_tuple hL
        exact ⟨_, rfl, h⟩
    · wp_walk using wpAny_pyIter_tuple hL
      exact ⟨_, rfl, h⟩
section
variable {prog : Program} {w : World} {A : Around} {E : Value → Shared → Prop} {s : Shared}
theorem call_enumT {l : Addr} {items : Array Value} {Q : Value → Shared → Prop} (hL : s.heap.IsTuple l items)
    (h : ∀ h', IsEnum h' (s.heap.objs.size + 1) s.heap.objs.size 0 .none → h'.IsTupleIter s.heap.objs.size l 0 → h'.objs.size = s.heap.objs.size + 2 →
      (∀ b o, s.heap.get? b = some o → h'.get? b = some o) → Q (.ref (s.heap.objs.size + 1)) { s with heap := h' }) :
    wpAny (model prog w) A (call (.type "enumerate") [.ref l]) Q E s := by
  refine callType_new F.called_enumerate (by decide) (F.typeCall_enumerate_1 _) (F.newCall_enumerate_1 _) (fun obj => F.args_object_init_2 obj _) F.entry_enumerate_new
    (meets_enumT l items) ⟨hL, ?_⟩
  have hz : (s.heap.push { cls := .type "tuple_iterator", data := .fields #[.ref l, .int 0 0] }).objs.size = s.heap.objs.size + 1 := Heap.size_push ..
  show _ ∧ _
  rw [hz]
  have he : IsEnum ((s.heap.push { cls := .type "tuple_iterator", data := .fields #[.ref l, .int 0 0] }).push
      { cls := .type "enumerate", data := .fields #[.none, .bool false, .ref s.heap.objs.size, rawInt 0, .none, .none] }) (s.heap.objs.size + 1) s.heap.objs.size 0 .none := by
    have := Heap.get?_push_size (s.heap.push { cls := .type "tuple_iterator", data := .fields #[.ref l, .int 0 0] })
      (o := { cls := .type "enumerate", data := .fields #[.none, .bool false, .ref s.heap.objs.size, rawInt 0, .none, .none] }) rfl
    rw [hz] at this; exact this
  refine ⟨⟨_, he, rfl⟩, h _ he ⟨_, Heap.get?_push_of_some _ (Heap.get?_push_size _ rfl), rfl, rfl⟩ (by rw [Heap.size_push, hz]) fun b o x => Heap.get?_push_of_some _ (Heap.get?_push_of_some _ x)⟩
end
theorem drawsT {prog : Program} {w : World} {A : Around} (hh : A.handled = none) (it l : Addr) (hne : l ≠ it) (items : Array Value) :
    Draws prog w A it [it, l] items.size (fun i v => items[i]? = some v) (fun i h => h.IsTupleIter it l i ∧ h.IsTuple l items) where
  live := fun _ _ st => let ⟨o, ho, _⟩ := st.1; ⟨o, ho⟩
  frame := fun _ _ _ st hk => ⟨st.1.at fun o e => hk it (by simp) o e, by
    obtain ⟨o, ho, r⟩ := st.2
    exact ⟨o, hk l (by simp) o ho, r⟩⟩
  item := fun i s Q E hi st hQ => by
    refine RZ.nextOf_tuple_item st.1 st.2 (x := items[i]) (by simp [hi]) fun h' hit' hs' => ?_
    exact hQ _ h' s.toks (by simp [hi]) ⟨hit', st.2.extBut hs'.extBut hne⟩ hs'
  done := fun s Q E st hE => RZ.nextOf_tuple_end hh st.1 st.2 (by simp) hE
end VLE
namespace VL
open PySem PySem.Spec PyProof.Rows L2
/-- the tuple at a as it stands, each item in a new pair -/
def IteT (K : Fr) (a : Addr) : It :=
  ⟨fun i H => ∃ (xs : List V) (x : V), SqT K H a xs ∧ xs[i]? = some x, fun i H v H' => ∃ T x, v = .ref T ∧ H T = none ∧ H' = upd H T (.tup [.int (i : Nat), x]) ∧ ∀ xs, SqT K H a xs → xs[i]? = some x, fun i H => ∃ xs : List V, SqT K H a xs ∧ xs.length = i⟩
theorem turn_enumT {P : Program} {w : World} {K : Fr} {elts : List Expr} {kk : Nat} {tpos : Pos} (a e it : Addr) :
    Turn P w K (.Tuple elts kk tpos) (IteT K a) [e, it] e (fun i h => (∃ old, IsEnum h e it ((i : Nat) : Int) old) ∧ h.IsTupleIter it a i ∧ e ≠ it ∧ a ≠ e ∧ a ≠ it) where
  mem := by simp
  obj := fun i h st b hb => by
    obtain ⟨⟨old, he⟩, ⟨o, ho, hc, hd⟩, _⟩ := st
    have e' : b = e ∨ b = it := by simpa using hb
    rcases e' with z | z
    · rw [z]; exact ⟨_, he, fun v q => nomatch q⟩
    · rw [z]; exact ⟨o, ho, fun v q => by rw [hd] at q; cases q⟩
  keep := fun i h h' st k => let ⟨⟨old, he⟩, hi, hne⟩ := st; ⟨⟨old, k e (by simp) _ he⟩, hi.at fun o q => k it (by simp) o q, hne⟩
  item := by
    intro X hP hw hK hc i pins s σ H E I hf st hg
    subst hP hw hK
    obtain ⟨⟨old, he⟩, hit, hne, hae, hai⟩ := st
    obtain ⟨xs, x, hq, hx⟩ := hg
    obtain ⟨its, rv, p, hz⟩ := I.tuple hq
    obtain ⟨u, hu, ru⟩ := rv.get hx
    have hel : e < s.heap.objs.size := Heap.lt_size he
    have hil : it < s.heap.objs.size := by obtain ⟨_, q, _⟩ := hit; exact Heap.lt_size q
    have hilt : i < its.toArray.size := by
      have := (List.getElem?_eq_some_iff.mp hx).1
      have := rv.length
      simp; omega
    have D := VLE.drawsT (prog := X.prog) (w := X.w) (A := X.A.in1) (I.ok.hd hc) it a hai its.toArray
    refine wpAny_pyNext_enum_itemD D he ⟨hit, p⟩ hilt hne (by simp [hne, Ne.symm hae]) fun y h' tk hy ho hst hT hsz hk => ?_
    have hyu : y = u := by
      have : its.toArray[i]? = some u := by simpa using hu
      rw [this] at hy; exact (Option.some.inj hy).symm
    subst hyu
    have hit' := hst.1
    refine ⟨_, rfl, wpAny_letOwnedTupleGo_enum (s := { s with heap := h', toks := tk + 1 }) ho fun h'' he' sb => ?_⟩
    have hT2 : h''.get? s.heap.objs.size = some { cls := .type "tuple", data := .seq #[.int i tk, y] } := (sb.2 _ (Nat.ne_of_gt hel)).trans hT
    have new : ObjOk X.prog X.w (upd H s.heap.objs.size (.tup [.int (i : Nat), x])) h'' s.heap.objs.size (.tup [.int (i : Nat), x]) :=
      ⟨by show 2 ≤ sizeLine; decide, [.int i tk, y], .cons ⟨_, rfl⟩ (.cons ru .nil), ⟨_, hT2, rfl, _, rfl⟩⟩
    have I1 : L2.Inv X pins σ (upd H s.heap.objs.size (.tup [.int (i : Nat), x])) { s with heap := h'', toks := tk + 1 } :=
      I.turnedNew (ch := [e, it]) (fun b ob hb q => (sb.2 b (fun z => hb (by simp [z]))).trans (hk b ob (fun z => hb (by simp [z])) (fun z => hb (by simp [z])) q)) hf (Nat.le_refl _) new
    refine ⟨.ref s.heap.objs.size, _, I1, rfl, ⟨_, x, rfl, I.hok.fresh (Nat.le_refl _), rfl, fun ys hy => by rw [I.tuple_inj hy hq]; exact hx⟩, ⟨⟨y, ?_⟩, hit'.at fun o q => (sb.2 it (Ne.symm hne)).trans q, hne, hae, hai⟩, fun b hb => ?_⟩
    · have e1 : ((i + 1 : Nat) : Int) = (i : Int) + 1 := by omega
      rw [e1]; exact he'
    · have hb' : b < s.heap.objs.size := by
        have e' : b = e ∨ b = it := by simpa using hb
        rcases e' with z | z
        · rw [z]; exact hel
        · rw [z]; exact hil
      rw [upd_ne (Nat.ne_of_lt hb')]
      exact (hf b hb).1
  done := by
    intro X hP hw hK hc i pins s σ H E I hf st hg
    subst hP hw hK
    obtain ⟨⟨old, he⟩, hit, hne, hae, hai⟩ := st
    obtain ⟨xs, hq, hx⟩ := hg
    obtain ⟨its, rv, p, hz⟩ := I.tuple hq
    obtain ⟨f0, f1, f2, f3, f4, f5⟩ := hf it (by simp)
    have hl := rv.length
    have D := VLE.drawsT (prog := X.prog) (w := X.w) (A := X.A.in1) (I.ok.hd hc) it a hai its.toArray
    have hi : i = its.toArray.size := by simp; omega
    subst hi
    exact wpAny_pyNext_enum_endD D he ⟨hit, p⟩ fun h' eb => ⟨rfl, I.turned (t' := s.toks) (fun b o hb q => eb b o hb q) f0 f1 f3 f4 f5⟩
  self := fun A i s Q E st h => let ⟨⟨_, he⟩, _⟩ := st; wpAny_pyIter_enum he h
def iEnumT (K : Fr) (ta : TA) : TI := fun σ H R => ta σ H fun vs H1 => ∃ a xs, vs = [.ref a] ∧ SqT K H1 a xs ∧ R (IteT K a) H1
theorem pi_enumT {X : Cx} {e : Expr} {ta : TA} {p pos tpos : Pos} {elts : List Expr} {kk : Nat} (hg : Gl X "enumerate") (hm : X.mg "enumerate" = none) (ha : PA X [e] ta) (hs : starEach [e] X.env = [(false, eval e X.env)]) :
    PI X (.Tuple elts kk tpos) (.Call (.Name "enumerate" p) [e] [] pos) (iEnumT X.K ta) := by
  refine ⟨fun pins s σ H R I h => ?_⟩
  refine Call_ (ld_blt I hg hm boot_enumerate (PyProof.Rows.callWith_type1 (thn (ha.run pos pins s σ H _ I h) fun us s1 ⟨vs, H1, I1, r1, q1⟩ => ?_) hs rfl))
  obtain ⟨a, xs, ex, hq, q⟩ := q1
  subst ex
  cases r1 with
  | cons r rr =>
    cases rr
    cases r
    obtain ⟨its, rv, p', hz⟩ := I1.tuple hq
    have hal : a < s1.heap.objs.size := by obtain ⟨o, ho, _⟩ := id p'; exact Heap.lt_size ho
    refine VLE.call_enumT p' fun h' he hit hsz hk => wpAny_pyIter_enum he ?_
    have I2 : L2.Inv X pins σ H1 { s1 with heap := h' } := I1.kept (t' := s1.toks) hk
    refine ⟨s1.heap.objs.size + 1, [s1.heap.objs.size + 1, s1.heap.objs.size], _, _, H1, rfl, I2, turn_enumT a (s1.heap.objs.size + 1) s1.heap.objs.size, ⟨⟨.none, he⟩, hit, Nat.succ_ne_self _, Nat.ne_of_lt (Nat.lt_succ_of_lt hal), Nat.ne_of_lt hal⟩, fun b hb => ?_, q⟩
    have e' : b = s1.heap.objs.size + 1 ∨ b = s1.heap.objs.size := by simpa using hb
    have hle : s1.heap.objs.size ≤ b := by
      rcases e' with z | z
      · rw [z]; exact Nat.le_add_right _ _
      · rw [z]; exact Nat.le_refl _
    exact I1.fpOk hle (I1.hok.fresh hle)
theorem walk_enumT {K : Fr} {a : Addr} {xs : List V} : Walk (IteT K a) xs.length (fun H => SqT K H a xs) (YPair (fun i => some (.int (i : Nat))) (fun i => xs[i]?)) := by
  refine ⟨fun i _ hi q => ⟨xs, xs[i], q, by simp [hi]⟩, fun _ q => ⟨xs, q, rfl⟩, fun i H v H' _ q y => ?_⟩
  obtain ⟨T, x, h1, h2, h3, h4⟩ := y
  exact ⟨T, .int (i : Nat), x, h1, h2, h3, rfl, h4 xs q⟩
end VL
namespace VL
open PySem L2
/-- new pairs of frozen parts -/
theorem src_pair {K : Fr} {F : Hp} {J : It} {n : Nat} {Gd : Hp → Prop} {xs ys : Nat → Option V} {as bs : List T} (w : Walk J n Gd (YPair xs ys)) (hG : ∀ H, Same F H → Gd H) (ha : as.length = n) (hb : bs.length = n)
    (hx : ∀ (i : Nat) (v : V) (t : T), xs i = some v → as[i]? = some t → RepF K F v t) (hy : ∀ (i : Nat) (v : V) (t : T), ys i = some v → bs[i]? = some t → RepF K F v t) : Src K J F (List.zipWith (fun a b => .tup [a, b]) as bs) := by
  refine ⟨Gd, YPair xs ys, by simp only [List.length_zipWith, ha, hb, Nat.min_self]; exact w, hG, fun i t F1 H x H' e s1 s2 y => ?_⟩
  obtain ⟨p, u, v, rfl, hp, rfl, e1, e2⟩ := y
  rw [List.getElem?_zipWith] at e
  cases qa : as[i]? with
  | none => rw [qa] at e; cases e
  | some a =>
    cases qb : bs[i]? with
    | none => rw [qa, qb] at e; cases e
    | some b =>
      rw [qa, qb] at e
      cases e
      have hF : F1 p = none := by
        cases z : F1 p with
        | none => rfl
        | some o => have := s2 _ _ z; rw [hp] at this; cases this
      refine ⟨upd F1 p (.tup [u, v]), ?_, ⟨upd_new hF, fun a o e _ => upd_new hp a o e, fun _ z => z.elim, fun a o e => ?_, upd_dom⟩, ?_⟩
      · intro a o e
        by_cases z : a = p
        · subst z; rw [upd_same] at e ⊢; exact e
        · rw [upd_ne z] at e ⊢; exact s2 a o e
      · by_cases z : a = p
        · subst z; exact .inr (.inr (.inl hp))
        · rw [upd_ne z] at e; exact .inl e
      · unfold RepF
        refine ⟨p, [u, v], rfl, upd_same, ?_⟩
        have m : Same F (upd F1 p (.tup [u, v])) := fun a o q => upd_new hF a o (s1 a o q)
        exact .cons ((hx i u a e1 qa).mono m) (.cons ((hy i v b e2 qb).mono m) .nil)
def enumT (ts : List T) : List T := List.zipWith (fun a b => .tup [a, b]) (rngT 0 ts.length) ts
def zipT (as bs : List T) : List T := List.zipWith (fun a b => .tup [a, b]) (as.take bs.length) (bs.take as.length)
def mEnum (m : M T) : M (List T) := fun env => (m env).bind fun t e => match t with
  | .lst _ ts => .ok (enumT ts) e
  | .tup ts => .ok (enumT ts) e
  | _ => .no
theorem src_enum {K : Fr} {F : Hp} {J : It} {vs : List V} {ts : List T} {Gd : Hp → Prop} (w : Walk J vs.length Gd (YPair (fun i => some (.int (i : Nat))) (fun i => vs[i]?))) (hG : ∀ H, Same F H → Gd H) (r : RepFs K F vs ts) : Src K J F (enumT ts) := by
  refine src_pair w hG (by simp [rngT, r.len]) r.len.symm (fun i v t e1 e2 => ?_) (fun i v t e1 e2 => ?_)
  · cases e1
    rw [rngT, List.getElem?_map, Option.map_eq_some_iff] at e2
    obtain ⟨j, e3, rfl⟩ := e2
    obtain ⟨h1, h2⟩ := List.getElem?_eq_some_iff.mp e3
    simp at h2; subst h2
    simp [RepF]
  · obtain ⟨t', e3, r3⟩ := r.get' e1
    rw [e2] at e3; cases e3; exact r3
section
variable {X : Cx} {elts : List Expr} {kk : Nat} {tpos p pos : Pos} {e e2 : Expr} {m : M T} {oa ob : Opd}
theorem vi_enum (hg : Gl X "enumerate") (hm : X.mg "enumerate" = none) (h : VE X e m) (hs : starEach [e] X.env = [(false, eval e X.env)]) (hse : starEach [e] X.env = (false, eval e X.env) :: starEach [] X.env) :
    VI X (.Tuple elts kk tpos) (.Call (.Name "enumerate" p) [e] [] pos) (mEnum m) := fun W tk => ⟨fun ps s σ H Q I q => by
  have key : (iEnum X.K (rdA X.K W X.mg [.val m]) σ H Q ∨ iEnumT X.K (rdA X.K W X.mg [.val m]) σ H Q) := by
    obtain ⟨F, env, S, q⟩ := q
    unfold mEnum at q
    cases hmv : m env with
    | no => rw [hmv] at q; exact q.elim
    | ex c e => rw [hmv] at q; exact .inl ⟨F, env, S, by rw [show evOps [.val m] env = .ex c e by simp only [evOps, hmv]; rfl]; exact q⟩
    | ok t e =>
      rw [hmv] at q
      simp only [R.bind] at q
      have ho : evOps [.val m] env = .ok [.val t] e := by simp only [evOps, hmv]; rfl
      cases t with
      | tup ts =>
        refine .inr ⟨F, env, S, ?_⟩
        rw [ho]
        intro F1 H1 vs S1 okv sp n x
        unfold ArOk at okv
        obtain ⟨v, ws, rfl, r, okv⟩ := okv
        unfold ArOk at okv; subst okv
        have r := r.toF rfl
        unfold RepF at r
        obtain ⟨a, us, rfl, h1, h2⟩ := r
        exact ⟨a, us, rfl, SqT.of (S1.sub _ _ h1), q F1 H1 _ S1 (x.mono fun a o => .inl o) (src_enum walk_enumT (fun H s => SqT.of (s _ _ h1)) h2)⟩
      | lst o ts =>
        refine .inl ⟨F, env, S, ?_⟩
        rw [ho]
        intro F1 H1 vs S1 okv sp n x
        unfold ArOk at okv
        obtain ⟨v, ws, rfl, r, okv⟩ := okv
        unfold ArOk at okv; subst okv
        have n' : ∀ a, OwnV v (.lst o ts) a → ¬ Own σ e a := fun a z => n a (by unfold ArOwn; exact .inl z)
        obtain ⟨F2, S2, rf, x2⟩ := S1.frzV r n'
        unfold T.frz RepF at rf
        obtain ⟨_, a, us, rfl, h1, h2⟩ := rf
        refine ⟨a, us, rfl, SqL.of (S2.sub _ _ h1), q F2 H1 _ S2 (x.trans x2 (fun a z => z.elim .inl fun z => .inr (by unfold ArOwn; exact .inl z)) fun a z => .inr z) (src_enum walk_enum (fun H s => SqL.of (s _ _ h1)) h2)⟩
      | _ => exact q.elim
  rcases key with k | k
  · exact (pi_enum hg hm (va_cons (vo_val h) va_nil hse W tk) hs).run ps s σ H Q I k
  · exact (pi_enumT hg hm (va_cons (vo_val h) va_nil hse W tk) hs).run ps s σ H Q I k⟩
/-- zip of two lists, of two tuples -/
def seqOf : T → Option (Bool × List T)
  | .lst _ ts => some (true, ts)
  | .tup ts => some (false, ts)
  | _ => none
def zipOf : List T → Option (List T)
  | [a, b] => match seqOf a, seqOf b with
    | some (true, xs), some (true, ys) => some (zipT xs ys)
    | some (false, xs), some (false, ys) => some (zipT xs ys)
    | _, _ => none
  | _ => none
def mZip (ops : List Opd) : M (List T) := fun env => (evOps ops env).bind fun its e => match (allV its).bind fun ts => zipOf (ts.map T.frz) with
  | some ts => .ok ts e
  | none => .no
theorem src_zip {K : Fr} {F : Hp} {J : It} {vs ws : List V} {ts us : List T} {Gd : Hp → Prop} (w : Walk J (min vs.length ws.length) Gd (YPair (fun i => vs[i]?) (fun i => ws[i]?))) (hG : ∀ H, Same F H → Gd H) (r : RepFs K F vs ts) (r2 : RepFs K F ws us) : Src K J F (zipT ts us) := by
  refine src_pair w hG (by simp [r.len, r2.len]; omega) (by simp [r.len, r2.len]) (fun i v t e1 e2 => ?_) (fun i v t e1 e2 => ?_)
  · obtain ⟨t', e3, r3⟩ := r.get' e1
    rw [List.getElem?_take] at e2
    split at e2
    · rw [e2] at e3; cases e3; exact r3
    · cases e2
  · obtain ⟨t', e3, r3⟩ := r2.get' e1
    rw [List.getElem?_take] at e2
    split at e2
    · rw [e2] at e3; cases e3; exact r3
    · cases e2
theorem walk_zipT {K : Fr} {a b : Addr} {xs ys : List V} : Walk (RZ.ItzT K a b) (min xs.length ys.length) (fun H => SqT K H a xs ∧ SqT K H b ys) (YPair (fun i => xs[i]?) (fun i => ys[i]?)) := by
  refine ⟨fun i _ hi q => ?_, fun _ q => ⟨xs, ys, q.1, q.2, by omega⟩, fun i H v H' _ q y => ?_⟩
  · have h1 : i < xs.length := by omega
    have h2 : i < ys.length := by omega
    exact ⟨xs, ys, xs[i], ys[i], q.1, q.2, by simp [h1], by simp [h2]⟩
  · obtain ⟨T, x, z, h1, h2, h3, h4, h5⟩ := y
    exact ⟨T, x, z, h1, h2, h3, h4 xs q.1, h5 ys q.2⟩
theorem vi_zip (hg : Gl X "zip") (hm : X.mg "zip" = none) (ha : VA X [e, e2] [oa, ob]) (hs : starEach [e, e2] X.env = (false, eval e X.env) :: starEach [e2] X.env) (hpl : (backTo pos (starEach [e2] X.env)).any (·.1) = false) :
    VI X (.Tuple elts kk tpos) (.Call (.Name "zip" p) [e, e2] [] pos) (mZip [oa, ob]) := fun W tk => (RZ.pi_zipA hg hm (ha W tk) hs hpl).weak fun σ H Q q => by
  obtain ⟨F, env, S, q⟩ := q
  refine ⟨F, env, S, ?_⟩
  unfold mZip at q
  cases hr : evOps [oa, ob] env with
  | no => rw [hr] at q; exact q.elim
  | ex c e => rw [hr] at q; exact q
  | ok its e =>
    rw [hr] at q
    simp only [R.bind] at q
    intro F1 H1 vs S1 okv sp nw x1
    cases ha : allV its with
    | none => rw [ha] at q; exact q.elim
    | some ts =>
      rw [ha] at q
      simp only [Option.bind_some] at q
      obtain ⟨F2, a1, a2, a3, a4⟩ := frz_all S1.sub okv ha sp
      have xf : Ext F1 H1 (ArOwn vs its) F2 H1 (fun _ => False) := ⟨a1, fun _ _ e _ => e, fun a z => z.elim, fun a o z => (a4 a o z).imp id .inl, fun _ e => e⟩
      have S2 : Sta X.K F2 H1 σ e := S1.ext xf a2 fun a o z => nw a z o
      have y1 : Ext F H (Own σ env) F2 H1 (Own σ e) := x1.trans xf (M := Own σ e) (fun a z => .inr z) fun a z => .inl (.inl z)
      cases hz : zipOf (ts.map T.frz) with
      | none => rw [hz] at q; exact q.elim
      | some zs =>
        rw [hz] at q
        unfold zipOf at hz
        split at hz
        · rename_i a b he
          rw [he] at a3
          unfold RepFs at a3
          obtain ⟨v, r', rfl, r1, a3⟩ := a3
          unfold RepFs at a3
          obtain ⟨w', r'', rfl, r2, a3⟩ := a3
          unfold RepFs at a3; subst a3
          split at hz
          · rename_i xs ys q1 q2
            cases hz
            have f : ∀ {t : T} {xs : List T}, seqOf t = some (true, xs) → ∃ o, t = .lst o xs := fun {t xs} h => by unfold seqOf at h; split at h <;> cases h; exact ⟨_, rfl⟩
            obtain ⟨o1, rfl⟩ := f q1
            obtain ⟨o2, rfl⟩ := f q2
            unfold RepF at r1 r2
            obtain ⟨_, a, us, rfl, h1, h2⟩ := r1
            obtain ⟨_, b, us2, rfl, h3, h4⟩ := r2
            exact ⟨a, b, us, us2, rfl, .inl ⟨SqL.of (S2.sub _ _ h1), SqL.of (S2.sub _ _ h3), q F2 H1 _ S2 y1 (src_zip (walk_zip rfl) (fun H s => ⟨SqL.of (s _ _ h1), SqL.of (s _ _ h3)⟩) h2 h4)⟩⟩
          · rename_i xs ys q1 q2
            cases hz
            have f : ∀ {t : T} {xs : List T}, seqOf t = some (false, xs) → t = .tup xs := fun {t xs} h => by unfold seqOf at h; split at h <;> cases h; rfl
            obtain rfl := f q1
            obtain rfl := f q2
            unfold RepF at r1 r2
            obtain ⟨a, us, rfl, h1, h2⟩ := r1
            obtain ⟨b, us2, rfl, h3, h4⟩ := r2
            exact ⟨a, b, us, us2, rfl, .inr ⟨SqT.of (S2.sub _ _ h1), SqT.of (S2.sub _ _ h3), q F2 H1 _ S2 y1 (src_zip walk_zipT (fun H s => ⟨SqT.of (s _ _ h1), SqT.of (s _ _ h3)⟩) h2 h4)⟩⟩
          · cases hz
        · cases hz
theorem i_enum (hm : X.mg "enumerate" = none) (h : VE X e m) (hg : Gl X "enumerate" := by rfl) (hs : starEach [e] X.env = [(false, eval e X.env)] := by rfl) (hse : starEach [e] X.env = (false, eval e X.env) :: starEach [] X.env := by rfl) :
    VI X (.Tuple elts kk tpos) (.Call (.Name "enumerate" p) [e] [] pos) (mEnum m) := vi_enum hg hm h hs hse
theorem i_zip (hm : X.mg "zip" = none) (ha : VA X [e, e2] [oa, ob]) (hg : Gl X "zip" := by rfl) (hs : starEach [e, e2] X.env = (false, eval e X.env) :: starEach [e2] X.env := by rfl) (hpl : (backTo pos (starEach [e2] X.env)).any (·.1) = false := by rfl) :
    VI X (.Tuple elts kk tpos) (.Call (.Name "zip" p) [e, e2] [] pos) (mZip [oa, ob]) := vi_zip hg hm ha hs hpl
end
end VL

/-! zip of any two sequences; enumerate of it. -/
namespace VLE
open PySem
open PySem.Sem (wp)
abbrev IsZ (h : Heap) (z TI TO : Addr) (f0 f1 : Value) : Prop :=
  h.get? z = some { cls := .type "zip", dict := none, data := .fields #[f0, f1, .bool false, .ref TI, .ref TO], slots := #[] }
def Fld (f0 f1 : Value) : Prop := (f0 = .none ∨ ∃ a : Addr, f0 = rawInt a) ∧ ∃ b, f1 = .bool b
structure Apart (z TI TO i1 i2 : Addr) (fp1 fp2 : List Addr) : Prop where
  TIz : TI ≠ z
  TOz : TO ≠ z
  TITO : TI ≠ TO
  TIi1 : TI ≠ i1
  TIi2 : TI ≠ i2
  TOi1 : TO ≠ i1
  TOi2 : TO ≠ i2
  i1z : i1 ≠ z
  i2z : i2 ≠ z
  i12 : i1 ≠ i2
  zf1 : z ∉ fp1
  zf2 : z ∉ fp2
  TOf1 : TO ∉ fp1
  TOf2 : TO ∉ fp2
  i1f2 : i1 ∉ fp2
  i2f1 : i2 ∉ fp1
section
variable {prog : Program} {w : World} {A : Around} {E : Value → Shared → Prop} {s : Shared}
theorem wp_alive {a : Addr} {Q : Option Obj → Shared → Prop} (h : Q (s.heap.get? a) s) : wpAny (model prog w) A (loadIfAlive a) Q E s := fun Γ p _ => by
  show wp _ _ (.loadIfAlive a .pure) _ _ _ _
  rw [Sem.wp_loadIfAlive]
  exact h
theorem isFree {z TI TO : Addr} {f0 f1 : Value} {Q : Bool → Shared → Prop} (hz : IsZ s.heap z TI TO f0 f1) (hf : Fld f0 f1) (hT : Q true s) (hF : ∀ h' g1, IsZ h' z TI TO f0 g1 → (∃ b, g1 = .bool b) → Heap.SameBut z s.heap h' → Q false { s with heap := h' }) :
    wpAny (model prog w) A (Builtin.SmallTypes.ownedTupleIsFree (.ref z)) Q E s := by
  unfold Builtin.SmallTypes.ownedTupleIsFree
  rcases hf with ⟨rfl | ⟨a, rfl⟩, b, rfl⟩
  · exact wpAny_bind (wpAny_field hz rfl (x := .none) rfl (wpAny_pure hT))
  · refine wpAny_bind (wpAny_field hz rfl (x := rawInt a) rfl ?_)
    show wpAny _ _ (loadIfAlive (Int.toNat a) >>= _) _ _ _
    refine wpAny_bind (wp_alive ?_)
    cases hg : (s.heap.get? (Int.toNat a)).isNone
    · rw [if_neg (by simp [hg])]
      refine wpAny_bind (wpAny_field hz rfl (x := .bool b) rfl ?_)
      cases b
      · show wpAny _ _ (setField (.ref z) 1 (.bool true) >>= _) _ _ _
        refine wpAny_bind (wpAny_setField_rec hz (by simp) fun h' hz' hs' => wpAny_pure ?_)
        exact hF h' _ hz' ⟨_, rfl⟩ hs'
      · show wpAny _ _ (pure false) _ _ _
        exact wpAny_pure (hF s.heap _ hz ⟨_, rfl⟩ ⟨rfl, fun _ _ => rfl⟩)
    · rw [if_pos (by simp [hg])]
      exact wpAny_pure hT

variable {z TI TO i1 i2 : Addr} {fp1 fp2 : List Addr} {n1 n2 k : Nat} {P1 P2 : Nat → Value → Prop} {S1 S2 : Nat → Heap → Prop} {f0 f1 : Value}
/-- what a turn of zip leaves -/
structure After (z TI TO i1 i2 : Addr) (S1 S2 : Nat → Heap → Prop) (k : Nat) (h h' : Heap) : Prop where
  zip : ∃ f0 f1, IsZ h' z TI TO f0 f1 ∧ Fld f0 f1
  ti : IsPair h' TI (.ref i1) (.ref i2)
  to : ∃ a b, IsPair h' TO a b
  st1 : S1 (k + 1) h'
  st2 : S2 (k + 1) h'
  kept : ∀ c o, c ≠ z → c ≠ TO → c ≠ i1 → c ≠ i2 → h.get? c = some o → h'.get? c = some o
theorem zipM_item {Q : Value → Shared → Prop} (D1 : Draws prog w A i1 fp1 n1 P1 S1) (D2 : Draws prog w A i2 fp2 n2 P2 S2) (ap : Apart z TI TO i1 i2 fp1 fp2) (hz : IsZ s.heap z TI TO f0 f1) (hf : Fld f0 f1) (hTI : IsPair s.heap TI (.ref i1) (.ref i2)) (hTO : ∃ a b, IsPair s.heap TO a b)
    (h1 : S1 k s.heap) (h2 : S2 k s.heap) (hk1 : k < n1) (hk2 : k < n2)
    (hQ : ∀ u1 u2 h' tk, P1 k u1 → P2 k u2 → After z TI TO i1 i2 S1 S2 k s.heap h' → IsPair h' s.heap.objs.size u1 u2 → h'.objs.size = s.heap.objs.size + 1 → Q (.ref s.heap.objs.size) { s with heap := h', toks := tk }) :
    wpAny (model prog w) A (Builtin.«zip.__next__» ⟨[.ref z], []⟩) (fun fin s' => ∃ v, fin = .done (.ret v) ∧ Q v s') E s := by
  obtain ⟨a, b, hTO⟩ := hTO
  show wpAny _ _ (field (.ref z) 2 >>= _) _ _ _
  refine wpAny_bind (wpAny_field hz rfl (x := .bool false) rfl ?_)
  show wpAny _ _ (field (.ref z) 3 >>= _) _ _ _
  refine wpAny_bind (wpAny_field hz rfl (x := .ref TI) rfl ?_)
  refine wpAny_bind (wpAny_seqItems hTI rfl ?_)
  show wpAny _ _ (Builtin.SmallTypes.ownedTupleIsFree (.ref z) >>= _) _ _ _
  refine wpAny_bind (isFree hz hf ?_ ?_)
  · simp only [if_true]
    refine wpAny_bind (wpAny_rule ?_)
    refine wpAny_bind (wpAny_field hz rfl (x := .ref TO) rfl ?_)
    refine wpAny_bind (wpAny_setField_rec hz (by simp) fun ha hza sa => ?_)
    replace hza : IsZ ha z TI TO .ellipsis f1 := hza
    have h1a : S1 k ha := D1.frame _ _ _ h1 fun b hb o q => sa.extBut _ _ (fun z => ap.zf1 (z ▸ hb)) q
    have h2a : S2 k ha := D2.frame _ _ _ h2 fun b hb o q => sa.extBut _ _ (fun z => ap.zf2 (z ▸ hb)) q
    have hTIa : IsPair ha TI (.ref i1) (.ref i2) := sa.extBut _ _ ap.TIz hTI
    have hTOa : IsPair ha TO a b := sa.extBut _ _ ap.TOz hTO
    refine wpAny_bind ?_
    simp only [List.zipIdx_cons, List.zipIdx_nil, List.forIn_cons, List.forIn_nil]
    refine wpAny_bind (wpAny_bind (wpAny_onRaise ?_))
    show wpAny _ _ (Builtin.SmallTypes.nextOf (.ref i1) >>= _) _ _ _
    refine wpAny_bind (D1.item k _ _ _ hk1 h1a fun u1 hb tk1 p1 st1 sb => wpAny_pure ?_)
    replace sb : Heap.SameBut i1 ha hb := sb
    have hTOb : IsPair hb TO a b := sb.extBut _ _ ap.TOi1 hTOa
    have hTIb : IsPair hb TI (.ref i1) (.ref i2) := sb.extBut _ _ ap.TIi1 hTIa
    have hzb : IsZ hb z TI TO .ellipsis f1 := sb.extBut _ _ (Ne.symm ap.i1z) hza
    have h2b : S2 k hb := D2.frame _ _ _ h2a fun b hb' o q => sb.extBut _ _ (fun z => ap.i1f2 (z ▸ hb')) q
    refine wpAny_bind (wpAny_seqItems hTOb rfl ?_)
    refine wpAny_bind (wpAny_updateSeq_pair hTOb fun hc hTOc sc => ?_)
    replace hTOc : IsPair hc TO u1 b := hTOc
    refine wpAny_bind (wpAny_letGo (wpAny_pure ?_))
    have h1c : S1 (k + 1) hc := D1.frame _ _ _ st1 fun b hb' o q => sc.extBut _ _ (fun z => ap.TOf1 (z ▸ hb')) q
    have h2c : S2 k hc := D2.frame _ _ _ h2b fun b hb' o q => sc.extBut _ _ (fun z => ap.TOf2 (z ▸ hb')) q
    have hzc : IsZ hc z TI TO .ellipsis f1 := sc.extBut _ _ (Ne.symm ap.TOz) hzb
    have hTIc : IsPair hc TI (.ref i1) (.ref i2) := sc.extBut _ _ ap.TITO hTIb
    refine wpAny_bind (wpAny_bind (wpAny_onRaise ?_))
    show wpAny _ _ (Builtin.SmallTypes.nextOf (.ref i2) >>= _) _ _ _
    refine wpAny_bind (D2.item k _ _ _ hk2 h2c fun u2 hd tk2 p2 st2 sd => wpAny_pure ?_)
    replace sd : Heap.SameBut i2 hc hd := sd
    have hTOd : IsPair hd TO u1 b := sd.extBut _ _ ap.TOi2 hTOc
    have hTId : IsPair hd TI (.ref i1) (.ref i2) := sd.extBut _ _ ap.TIi2 hTIc
    have hzd : IsZ hd z TI TO .ellipsis f1 := sd.extBut _ _ (Ne.symm ap.i2z) hzc
    have h1d : S1 (k + 1) hd := D1.frame _ _ _ h1c fun b hb' o q => sd.extBut _ _ (fun z => ap.i2f1 (z ▸ hb')) q
    refine wpAny_bind (wpAny_seqItems hTOd rfl ?_)
    refine wpAny_bind (wpAny_updateSeq_pair hTOd fun he hTOe se => ?_)
    replace hTOe : IsPair he TO u1 u2 := hTOe
    refine wpAny_bind (wpAny_letGo (wpAny_pure (wpAny_pure ?_)))
    have h1e : S1 (k + 1) he := D1.frame _ _ _ h1d fun b hb' o q => se.extBut _ _ (fun z => ap.TOf1 (z ▸ hb')) q
    have h2e : S2 (k + 1) he := D2.frame _ _ _ st2 fun b hb' o q => se.extBut _ _ (fun z => ap.TOf2 (z ▸ hb')) q
    have hze : IsZ he z TI TO .ellipsis f1 := se.extBut _ _ (Ne.symm ap.TOz) hzd
    have hTIe : IsPair he TI (.ref i1) (.ref i2) := se.extBut _ _ ap.TITO hTId
    refine wpAny_bind (wpAny_seqItems hTOe rfl ?_)
    refine wpAny_bind (wpAny_newTuple ?_)
    have hsz : he.objs.size = s.heap.objs.size := by rw [se.1, sd.1, sc.1, sb.1, sa.1]
    have up0 : ∀ c o, c ≠ z → c ≠ TO → c ≠ i1 → c ≠ i2 → s.heap.get? c = some o → he.get? c = some o := fun c o c1 c2 c3 c4 q =>
      se.extBut _ _ c2 (sd.extBut _ _ c4 (sc.extBut _ _ c2 (sb.extBut _ _ c3 (sa.extBut _ _ c1 q))))
    show wpAny _ _ (Builtin.SmallTypes.ownedTupleHandOut (.ref z) (.ref he.objs.size) >>= _) _ _ _
    refine wpAny_bind ?_
    unfold Builtin.SmallTypes.ownedTupleHandOut
    have hzf : IsZ (he.push { cls := .type "tuple", data := .seq #[u1, u2] }) z TI TO .ellipsis f1 := Heap.get?_push_of_some _ hze
    refine wpAny_bind (wpAny_setField_rec hzf (by simp) fun hg hzg sg => ?_)
    replace hzg : IsZ hg z TI TO (rawInt he.objs.size) f1 := hzg
    refine wpAny_setField_rec hzg (by simp) fun hh hzh sh => ?_
    replace hzh : IsZ hh z TI TO (rawInt he.objs.size) (.bool false) := hzh
    have up : ∀ c o, c ≠ z → he.get? c = some o → hh.get? c = some o := fun c o c1 q => sh.extBut _ _ c1 (sg.extBut _ _ c1 (Heap.get?_push_of_some _ q))
    have hzlt : z < he.objs.size := Heap.lt_size hze
    have hT : IsPair hh he.objs.size u1 u2 := sh.extBut _ _ (Nat.ne_of_gt hzlt) (sg.extBut _ _ (Nat.ne_of_gt hzlt) (Heap.get?_push_size _ rfl))
    have hhz : hh.objs.size = he.objs.size + 1 := by rw [sh.1, sg.1, Heap.size_push]
    refine wpAny_pure ⟨_, rfl, ?_⟩
    show Q (.ref he.objs.size) _
    rw [hsz] at hT hhz hzh
    rw [hsz]
    refine hQ u1 u2 hh _ p1 p2 ⟨⟨_, _, hzh, .inr ⟨_, rfl⟩, _, rfl⟩, up _ _ ap.TIz hTIe, ⟨_, _, up _ _ ap.TOz hTOe⟩, ?_, ?_, fun c o c1 c2 c3 c4 q => up c o c1 (up0 c o c1 c2 c3 c4 q)⟩ hT hhz
    · exact D1.frame _ _ _ h1e fun b hb' o q => up b o (fun z => ap.zf1 (z ▸ hb')) q
    · exact D2.frame _ _ _ h2e fun b hb' o q => up b o (fun z => ap.zf2 (z ▸ hb')) q
  · intro h0 g1 hz0 hg1 hs0
    simp only [Bool.false_eq_true, if_false]
    have hTI0 : IsPair h0 TI (.ref i1) (.ref i2) := hs0.extBut _ _ ap.TIz hTI
    have hTO0 : IsPair h0 TO a b := hs0.extBut _ _ ap.TOz hTO
    have h10 : S1 k h0 := D1.frame _ _ _ h1 fun b hb o q => hs0.extBut _ _ (fun z => ap.zf1 (z ▸ hb)) q
    have h20 : S2 k h0 := D2.frame _ _ _ h2 fun b hb o q => hs0.extBut _ _ (fun z => ap.zf2 (z ▸ hb)) q
    simp only [← Array.forIn_toList, List.forIn_cons, List.forIn_nil]
    refine wpAny_bind (wpAny_bind (wpAny_bind (wpAny_holding ?_)))
    show wpAny _ _ (Builtin.SmallTypes.nextOf (.ref i1) >>= _) _ _ _
    refine wpAny_bind (D1.item k _ _ _ hk1 h10 fun u1 hb tk1 p1 st1 sb => wpAny_pure (wpAny_pure ?_))
    replace sb : Heap.SameBut i1 h0 hb := sb
    have hTOb : IsPair hb TO a b := sb.extBut _ _ ap.TOi1 hTO0
    have hTIb : IsPair hb TI (.ref i1) (.ref i2) := sb.extBut _ _ ap.TIi1 hTI0
    have hzb : IsZ hb z TI TO f0 g1 := sb.extBut _ _ (Ne.symm ap.i1z) hz0
    have h2b : S2 k hb := D2.frame _ _ _ h20 fun b hb' o q => sb.extBut _ _ (fun z => ap.i1f2 (z ▸ hb')) q
    refine wpAny_bind (wpAny_bind (wpAny_holding ?_))
    show wpAny _ _ (Builtin.SmallTypes.nextOf (.ref i2) >>= _) _ _ _
    refine wpAny_bind (D2.item k _ _ _ hk2 h2b fun u2 hd tk2 p2 st2 sd => wpAny_pure (wpAny_pure (wpAny_pure ?_)))
    replace sd : Heap.SameBut i2 hb hd := sd
    have hTOd : IsPair hd TO a b := sd.extBut _ _ ap.TOi2 hTOb
    have hTId : IsPair hd TI (.ref i1) (.ref i2) := sd.extBut _ _ ap.TIi2 hTIb
    have hzd : IsZ hd z TI TO f0 g1 := sd.extBut _ _ (Ne.symm ap.i2z) hzb
    have h1d : S1 (k + 1) hd := D1.frame _ _ _ st1 fun b hb' o q => sd.extBut _ _ (fun z => ap.i2f1 (z ▸ hb')) q
    show wpAny _ _ (newTuple [u1, u2] >>= _) _ _ _
    refine wpAny_bind (wpAny_newTuple (wpAny_pure ⟨_, rfl, ?_⟩))
    have hsz : hd.objs.size = s.heap.objs.size := by rw [sd.1, sb.1, hs0.1]
    show Q (.ref hd.objs.size) _
    have up : ∀ c o, hd.get? c = some o → (hd.push { cls := .type "tuple", data := .seq #[u1, u2] }).get? c = some o := fun c o q => Heap.get?_push_of_some _ q
    have hT : IsPair (hd.push { cls := .type "tuple", data := .seq #[u1, u2] }) hd.objs.size u1 u2 := Heap.get?_push_size _ rfl
    have hhz : (hd.push { cls := .type "tuple", data := .seq #[u1, u2] }).objs.size = hd.objs.size + 1 := Heap.size_push ..
    rw [hsz] at hT hhz
    rw [hsz]
    refine hQ u1 u2 _ _ p1 p2 ⟨⟨f0, g1, up _ _ hzd, hf.1, hg1⟩, up _ _ hTId, ⟨_, _, up _ _ hTOd⟩, ?_, ?_, fun c o c1 c2 c3 c4 q => up c o (sd.extBut _ _ c4 (sb.extBut _ _ c3 (hs0.extBut _ _ c1 q)))⟩ hT hhz
    · exact D1.frame _ _ _ h1d fun b hb' o q => up b o q
    · exact D2.frame _ _ _ st2 fun b hb' o q => up b o q
theorem zipM_end {Q : Fin → Shared → Prop} (D1 : Draws prog w A i1 fp1 n1 P1 S1) (D2 : Draws prog w A i2 fp2 n2 P2 S2) (ap : Apart z TI TO i1 i2 fp1 fp2) (hz : IsZ s.heap z TI TO f0 f1) (hf : Fld f0 f1) (hTI : IsPair s.heap TI (.ref i1) (.ref i2)) (hTO : ∃ a b, IsPair s.heap TO a b)
    (h1 : S1 k s.heap) (h2 : S2 k s.heap) (hend : k = n1 ∨ (k < n1 ∧ k = n2))
    (hE : ∀ h' tk e, (∀ c o, c ≠ z → c ≠ TO → c ≠ i1 → c ≠ i2 → s.heap.get? c = some o → h'.get? c = some o) → (∃ o, h'.get? e = some o ∧ o.cls = .type "StopIteration") → E (.ref e) { s with heap := h', toks := tk }) :
    wpAny (model prog w) A (Builtin.«zip.__next__» ⟨[.ref z], []⟩) Q E s := by
  obtain ⟨a, b, hTO⟩ := hTO
  show wpAny _ _ (field (.ref z) 2 >>= _) _ _ _
  refine wpAny_bind (wpAny_field hz rfl (x := .bool false) rfl ?_)
  show wpAny _ _ (field (.ref z) 3 >>= _) _ _ _
  refine wpAny_bind (wpAny_field hz rfl (x := .ref TI) rfl ?_)
  refine wpAny_bind (wpAny_seqItems hTI rfl ?_)
  show wpAny _ _ (Builtin.SmallTypes.ownedTupleIsFree (.ref z) >>= _) _ _ _
  refine wpAny_bind (isFree hz hf ?_ ?_)
  · simp only [if_true]
    refine wpAny_bind (wpAny_rule ?_)
    refine wpAny_bind (wpAny_field hz rfl (x := .ref TO) rfl ?_)
    refine wpAny_bind (wpAny_setField_rec hz (by simp) fun ha hza sa => ?_)
    replace hza : IsZ ha z TI TO .ellipsis f1 := hza
    have h1a : S1 k ha := D1.frame _ _ _ h1 fun b hb o q => sa.extBut _ _ (fun z => ap.zf1 (z ▸ hb)) q
    have h2a : S2 k ha := D2.frame _ _ _ h2 fun b hb o q => sa.extBut _ _ (fun z => ap.zf2 (z ▸ hb)) q
    have hTOa : IsPair ha TO a b := sa.extBut _ _ ap.TOz hTO
    refine wpAny_bind ?_
    simp only [List.zipIdx_cons, List.zipIdx_nil, List.forIn_cons, List.forIn_nil]
    refine wpAny_bind (wpAny_bind (wpAny_onRaise ?_))
    show wpAny _ _ (Builtin.SmallTypes.nextOf (.ref i1) >>= _) _ _ _
    rcases hend with rfl | ⟨hk1, rfl⟩
    · refine wpAny_bind (D1.done _ _ _ h1a fun hb e sb he => ?_)
      obtain ⟨oe, hoe, hce⟩ := he
      have hzb : IsZ hb z TI TO .ellipsis f1 := sb _ _ (Ne.symm ap.i1z) hza
      have hez : e ≠ z := fun x => by subst x; rw [hzb] at hoe; cases hoe; simp at hce
      refine wpAny_setField_rec hzb (by simp) fun hc _ sc => ?_
      exact hE hc _ e (fun c o c1 _ c3 _ x => sc.extBut _ _ c1 (sb _ _ c3 (sa.extBut _ _ c1 x))) ⟨oe, sc.extBut _ _ hez hoe, hce⟩
    · refine wpAny_bind (D1.item k _ _ _ hk1 h1a fun u1 hb tk1 p1 st1 sb => wpAny_pure ?_)
      replace sb : Heap.SameBut i1 ha hb := sb
      have hTOb : IsPair hb TO a b := sb.extBut _ _ ap.TOi1 hTOa
      have hzb : IsZ hb z TI TO .ellipsis f1 := sb.extBut _ _ (Ne.symm ap.i1z) hza
      have h2b : S2 k hb := D2.frame _ _ _ h2a fun b hb' o q => sb.extBut _ _ (fun z => ap.i1f2 (z ▸ hb')) q
      refine wpAny_bind (wpAny_seqItems hTOb rfl ?_)
      refine wpAny_bind (wpAny_updateSeq_pair hTOb fun hc hTOc sc => ?_)
      refine wpAny_bind (wpAny_letGo (wpAny_pure ?_))
      have h2c : S2 k hc := D2.frame _ _ _ h2b fun b hb' o q => sc.extBut _ _ (fun z => ap.TOf2 (z ▸ hb')) q
      have hzc : IsZ hc z TI TO .ellipsis f1 := sc.extBut _ _ (Ne.symm ap.TOz) hzb
      refine wpAny_bind (wpAny_bind (wpAny_onRaise ?_))
      show wpAny _ _ (Builtin.SmallTypes.nextOf (.ref i2) >>= _) _ _ _
      refine wpAny_bind (D2.done _ _ _ h2c fun hd e sd he => ?_)
      obtain ⟨oe, hoe, hce⟩ := he
      have hzd : IsZ hd z TI TO .ellipsis f1 := sd _ _ (Ne.symm ap.i2z) hzc
      have hez : e ≠ z := fun x => by subst x; rw [hzd] at hoe; cases hoe; simp at hce
      refine wpAny_setField_rec hzd (by simp) fun hx _ sx => ?_
      exact hE hx _ e (fun c o c1 c2 c3 c4 x => sx.extBut _ _ c1 (sd _ _ c4 (sc.extBut _ _ c2 (sb.extBut _ _ c3 (sa.extBut _ _ c1 x))))) ⟨oe, sx.extBut _ _ hez hoe, hce⟩
  · intro h0 g1 hz0 hg1 hs0
    simp only [Bool.false_eq_true, if_false]
    have h10 : S1 k h0 := D1.frame _ _ _ h1 fun b hb o q => hs0.extBut _ _ (fun z => ap.zf1 (z ▸ hb)) q
    have h20 : S2 k h0 := D2.frame _ _ _ h2 fun b hb o q => hs0.extBut _ _ (fun z => ap.zf2 (z ▸ hb)) q
    simp only [← Array.forIn_toList, List.forIn_cons, List.forIn_nil]
    refine wpAny_bind (wpAny_bind (wpAny_bind (wpAny_holding ?_)))
    show wpAny _ _ (Builtin.SmallTypes.nextOf (.ref i1) >>= _) _ _ _
    rcases hend with rfl | ⟨hk1, rfl⟩
    · refine wpAny_bind (D1.done _ _ _ h10 fun hb e sb he => ?_)
      exact hE hb _ e (fun c o c1 _ c3 _ x => sb _ _ c3 (hs0.extBut _ _ c1 x)) he
    · refine wpAny_bind (D1.item k _ _ _ hk1 h10 fun u1 hb tk1 p1 st1 sb => wpAny_pure (wpAny_pure ?_))
      replace sb : Heap.SameBut i1 h0 hb := sb
      have h2b : S2 k hb := D2.frame _ _ _ h20 fun b hb' o q => sb.extBut _ _ (fun z => ap.i1f2 (z ▸ hb')) q
      refine wpAny_bind (wpAny_bind (wpAny_holding ?_))
      show wpAny _ _ (Builtin.SmallTypes.nextOf (.ref i2) >>= _) _ _ _
      refine wpAny_bind (D2.done _ _ _ h2b fun hd e sd he => ?_)
      exact hE hd _ e (fun c o c1 _ c3 c4 x => sd _ _ c4 (sb.extBut _ _ c3 (hs0.extBut _ _ c1 x))) he
/-- zip's turn within another's -/
theorem nextOf_zip {Q : Value → Shared → Prop} (hz : IsZ s.heap z TI TO f0 f1) (h : wpAny (model prog w) A.in1 (Builtin.«zip.__next__» ⟨[.ref z], []⟩) (fun fin s' => ∃ v, fin = .done (.ret v) ∧ Q v s') E s) : wpAny (model prog w) A (Builtin.SmallTypes.nextOf (.ref z)) Q E s := by
  have hT : s.TypeIs (.ref z) "zip" := ⟨_, hz, rfl⟩
  unfold Builtin.SmallTypes.nextOf
  refine wpAny_bind (wpAny_callSpecial?_slot (name := Str.ofString "__next__") hT F.slot_zip_next (wpAny_call_entry F.slot_zip_next hT F.entry_zip_next ?_ (F.args_zip_next_1 _)))
  refine wpAny_mono h (fun fin s' ⟨v, e, q⟩ => ⟨v, e, wpAny_pure q⟩) fun _ _ q => q
theorem nextOf_zipE {Q : Value → Shared → Prop} (hz : IsZ s.heap z TI TO f0 f1) (h : ∀ Q : Fin → Shared → Prop, wpAny (model prog w) A.in1 (Builtin.«zip.__next__» ⟨[.ref z], []⟩) Q E s) : wpAny (model prog w) A (Builtin.SmallTypes.nextOf (.ref z)) Q E s := by
  have hT : s.TypeIs (.ref z) "zip" := ⟨_, hz, rfl⟩
  unfold Builtin.SmallTypes.nextOf
  exact wpAny_bind (wpAny_callSpecial?_slot (name := Str.ofString "__next__") hT F.slot_zip_next (wpAny_call_entry F.slot_zip_next hT F.entry_zip_next (h _) (F.args_zip_next_1 _)))
end
end VLE
namespace VLE
open PySem
open PySem.Sem (wp)
section
variable {prog : Program} {w : World} {A : Around} {E : Value → Shared → Prop} {s : Shared}
variable {z TI TO i1 i2 e : Addr} {fp1 fp2 : List Addr} {n1 n2 k : Nat} {P1 P2 : Nat → Value → Prop} {S1 S2 : Nat → Heap → Prop} {f0 f1 : Value}
/-- zip's own objects at the k-th turn -/
structure ZAt (z TI TO i1 i2 : Addr) (S1 S2 : Nat → Heap → Prop) (k : Nat) (h : Heap) : Prop where
  zip : ∃ f0 f1, IsZ h z TI TO f0 f1 ∧ Fld f0 f1
  ti : IsPair h TI (.ref i1) (.ref i2)
  to : ∃ a b, IsPair h TO a b
  st1 : S1 k h
  st2 : S2 k h
theorem After.at {h h' : Heap} (a : After z TI TO i1 i2 S1 S2 k h h') : ZAt z TI TO i1 i2 S1 S2 (k + 1) h' := ⟨a.zip, a.ti, a.to, a.st1, a.st2⟩
theorem ZAt.frame {h h' : Heap} (D1 : Draws prog w A i1 fp1 n1 P1 S1) (D2 : Draws prog w A i2 fp2 n2 P2 S2) (a : ZAt z TI TO i1 i2 S1 S2 k h) (hk : ∀ b o, b ∈ z :: TI :: TO :: (fp1 ++ fp2) → h.get? b = some o → h'.get? b = some o) : ZAt z TI TO i1 i2 S1 S2 k h' := by
  obtain ⟨⟨f0, f1, hz, hf⟩, ti, ⟨x, y, to⟩, s1, s2⟩ := a
  exact ⟨⟨f0, f1, hk _ _ (by simp) hz, hf⟩, hk _ _ (by simp) ti, ⟨x, y, hk _ _ (by simp) to⟩, D1.frame _ _ _ s1 fun b hb o q => hk b o (by simp [hb]) q, D2.frame _ _ _ s2 fun b hb o q => hk b o (by simp [hb]) q⟩
theorem enumZ_item {old : Value} {Q : Value → Shared → Prop} (D1 : Draws prog w A.in1 i1 fp1 n1 P1 S1) (D2 : Draws prog w A.in1 i2 fp2 n2 P2 S2) (ap : Apart z TI TO i1 i2 fp1 fp2) (he : IsEnum s.heap e z k old) (hst : ZAt z TI TO i1 i2 S1 S2 k s.heap) (hk1 : k < n1) (hk2 : k < n2)
    (hel : e ∉ z :: TI :: TO :: (fp1 ++ fp2)) (he1 : e ≠ i1) (he2 : e ≠ i2)
    (hQ : ∀ u1 u2 h' tk, P1 k u1 → P2 k u2 → IsEnumOut h' e z ((k : Int) + 1) (.ref s.heap.objs.size) (s.heap.objs.size + 1) → ZAt z TI TO i1 i2 S1 S2 (k + 1) h' → IsPair h' s.heap.objs.size u1 u2 →
      IsPair h' (s.heap.objs.size + 1) (.int k tk) (.ref s.heap.objs.size) → h'.objs.size = s.heap.objs.size + 2 → (∀ c o, c ≠ e → c ≠ z → c ≠ TO → c ≠ i1 → c ≠ i2 → s.heap.get? c = some o → h'.get? c = some o) →
      Q (.ref (s.heap.objs.size + 1)) { s with heap := h', toks := tk + 1 }) :
    wpAny (model prog w) A (Builtin.«enumerate.__next__» ⟨[.ref e], []⟩) (fun fin s' => ∃ v, fin = .done (.ret v) ∧ Q v s') E s := by
  simp only [List.mem_cons, List.mem_append, not_or] at hel
  obtain ⟨hez, heTI, heTO, hef1, hef2⟩ := hel
  obtain ⟨⟨f0, f1, hz, hf⟩, ti, to, s1, s2⟩ := hst
  show wpAny _ _ (field (.ref e) 2 >>= _) _ _ _
  refine wpAny_bind (wpAny_field he rfl (x := .ref z) rfl ?_)
  refine wpAny_bind (nextOf_zip hz (zipM_item D1 D2 ap hz hf ti to s1 s2 hk1 hk2 fun u1 u2 ha tk p1 p2 af hT hsz => ?_))
  have hea : IsEnum ha e z k old := af.kept _ _ hez heTO he1 he2 he
  have hel : e < s.heap.objs.size := Heap.lt_size he
  show wpAny _ _ (field (.ref e) 3 >>= _) _ _ _
  refine wpAny_bind (wpAny_field hea rfl (x := rawInt k) rfl ?_)
  show wpAny _ _ (field (.ref e) 4 >>= _) _ _ _
  refine wpAny_bind (wpAny_field hea rfl (x := .none) rfl ?_)
  show wpAny _ _ (mkInt k >>= _) _ _ _
  refine wpAny_bind (wpAny_mkInt ?_)
  show wpAny _ _ (setField (.ref e) 3 (rawInt ((k : Int) + 1)) >>= _) _ _ _
  refine wpAny_bind (wpAny_setField_rec hea (by simp) fun hb heb sb => ?_)
  replace heb : IsEnum hb e z ((k : Int) + 1) old := heb
  replace sb : Heap.SameBut e ha hb := sb
  show wpAny _ _ (setField (.ref e) 4 .none >>= _) _ _ _
  refine wpAny_bind (wpAny_setField_rec heb (by simp) fun hc hec sc => ?_)
  replace hec : IsEnum hc e z ((k : Int) + 1) old := hec
  replace sc : Heap.SameBut e hb hc := sc
  show wpAny _ _ (newTuple [.int k tk, .ref s.heap.objs.size] >>= _) _ _ _
  refine wpAny_bind (wpAny_newTuple ?_)
  have hcz : hc.objs.size = s.heap.objs.size + 1 := by rw [sc.1, sb.1]; exact hsz
  have hed : IsEnum (hc.push { cls := .type "tuple", data := .seq #[.int k tk, .ref s.heap.objs.size] }) e z ((k : Int) + 1) old := Heap.get?_push_of_some _ hec
  have hTd : IsPair (hc.push { cls := .type "tuple", data := .seq #[.int k tk, .ref s.heap.objs.size] }) (s.heap.objs.size + 1) (.int k tk) (.ref s.heap.objs.size) := by rw [← hcz]; exact Heap.get?_push_size _ rfl
  have hdz : (hc.push { cls := .type "tuple", data := .seq #[.int k tk, .ref s.heap.objs.size] }).objs.size = s.heap.objs.size + 2 := by rw [Heap.size_push, hcz]
  have upd_ : ∀ c o, c ≠ e → ha.get? c = some o → (hc.push { cls := .type "tuple", data := .seq #[.int k tk, .ref s.heap.objs.size] }).get? c = some o := fun c o c1 q => Heap.get?_push_of_some _ (sc.extBut _ _ c1 (sb.extBut _ _ c1 q))
  generalize hdd : hc.push { cls := .type "tuple", data := .seq #[.int k tk, .ref s.heap.objs.size] } = hd at hed hTd hdz upd_
  show wpAny _ _ (Builtin.SmallTypes.ownedTupleIsFree (.ref e) >>= _) _ _ _
  refine wpAny_bind ?_
  unfold Builtin.SmallTypes.ownedTupleIsFree
  refine wpAny_bind (wpAny_field hed rfl (x := .none) rfl (wpAny_pure ?_))
  simp only [if_true]
  refine wpAny_bind (wpAny_rule ?_)
  refine wpAny_bind (wpAny_field hed rfl (x := old) rfl ?_)
  refine wpAny_bind (wpAny_setField_rec hed (by simp) fun hx hex sx => ?_)
  replace hex : IsEnum hx e z ((k : Int) + 1) (.ref s.heap.objs.size) := hex
  replace sx : Heap.SameBut e hd hx := sx
  rw [hcz]
  show wpAny _ _ (Builtin.SmallTypes.ownedTupleHandOut (.ref e) (.ref (s.heap.objs.size + 1)) >>= _) _ _ _
  refine wpAny_bind ?_
  unfold Builtin.SmallTypes.ownedTupleHandOut
  refine wpAny_bind (wpAny_setField_rec hex (by simp) fun hy hey sy => ?_)
  replace hey : IsEnumOut hy e z ((k : Int) + 1) (.ref s.heap.objs.size) (s.heap.objs.size + 1) := hey
  replace sy : Heap.SameBut e hx hy := sy
  refine wpAny_setField_rec hey (by simp) fun hw hew sw => ?_
  replace hew : IsEnumOut hw e z ((k : Int) + 1) (.ref s.heap.objs.size) (s.heap.objs.size + 1) := hew
  replace sw : Heap.SameBut e hy hw := sw
  have up2 : ∀ c o, c ≠ e → hd.get? c = some o → hw.get? c = some o := fun c o c1 q => sw.extBut _ _ c1 (sy.extBut _ _ c1 (sx.extBut _ _ c1 q))
  have up : ∀ c o, c ≠ e → ha.get? c = some o → hw.get? c = some o := fun c o c1 q => up2 c o c1 (upd_ c o c1 q)
  refine wpAny_bind (wpAny_letGo (wpAny_pure ⟨_, rfl, hQ u1 u2 hw tk p1 p2 hew ?_ ?_ ?_ ?_ ?_⟩))
  · refine af.at.frame D1 D2 fun b o hb q => up b o ?_ q
    rintro rfl
    simp only [List.mem_cons, List.mem_append] at hb
    rcases hb with hb | hb | hb | hb | hb
    · exact hez hb
    · exact heTI hb
    · exact heTO hb
    · exact hef1 hb
    · exact hef2 hb
  · exact up _ _ (Nat.ne_of_gt hel) hT
  · exact up2 _ _ (Nat.ne_of_gt (Nat.lt_succ_of_lt hel)) hTd
  · rw [sw.1, sy.1, sx.1, hdz]
  · exact fun c o c0 c1 c2 c3 c4 q => up c o c0 (af.kept c o c1 c2 c3 c4 q)
theorem pyNext_enumZ {old : Value} {Q : Option Value → Shared → Prop} (D1 : Draws prog w A.in1.in1 i1 fp1 n1 P1 S1) (D2 : Draws prog w A.in1.in1 i2 fp2 n2 P2 S2) (ap : Apart z TI TO i1 i2 fp1 fp2) (he : IsEnum s.heap e z k old) (hst : ZAt z TI TO i1 i2 S1 S2 k s.heap) (hk1 : k < n1) (hk2 : k < n2)
    (hel : e ∉ z :: TI :: TO :: (fp1 ++ fp2)) (he1 : e ≠ i1) (he2 : e ≠ i2)
    (hQ : ∀ u1 u2 h' tk, P1 k u1 → P2 k u2 → IsEnumOut h' e z ((k : Int) + 1) (.ref s.heap.objs.size) (s.heap.objs.size + 1) → ZAt z TI TO i1 i2 S1 S2 (k + 1) h' → IsPair h' s.heap.objs.size u1 u2 →
      IsPair h' (s.heap.objs.size + 1) (.int k tk) (.ref s.heap.objs.size) → h'.objs.size = s.heap.objs.size + 2 → (∀ c o, c ≠ e → c ≠ z → c ≠ TO → c ≠ i1 → c ≠ i2 → s.heap.get? c = some o → h'.get? c = some o) →
      Q (some (.ref (s.heap.objs.size + 1))) { s with heap := h', toks := tk + 1 }) : wpAny (model prog w) A (pyNext (.ref e)) Q E s := by
  have hT : s.TypeIs (.ref e) "enumerate" := ⟨_, he, rfl⟩
  unfold pyNext
  refine wpAny_bind (wpAny_attempt (wpAny_callSpecial?_slot (name := Str.ofString "__next__") hT F.slot_enumerate_next (wpAny_call_entry F.slot_enumerate_next hT F.entry_enumerate_next ?_ (F.args_enumerate_next_1 _))))
  exact enumZ_item D1 D2 ap he hst hk1 hk2 hel he1 he2 fun u1 u2 h' tk a1 a2 a3 a4 a5 a6 a7 a8 => wpAny_pure (hQ u1 u2 h' tk a1 a2 a3 a4 a5 a6 a7 a8)
theorem pyNext_enumZ_end {old : Value} {Q : Option Value → Shared → Prop} (D1 : Draws prog w A.in1.in1 i1 fp1 n1 P1 S1) (D2 : Draws prog w A.in1.in1 i2 fp2 n2 P2 S2) (ap : Apart z TI TO i1 i2 fp1 fp2) (he : IsEnum s.heap e z k old) (hst : ZAt z TI TO i1 i2 S1 S2 k s.heap) (hend : k = n1 ∨ (k < n1 ∧ k = n2))
    (hQ : ∀ h' tk, (∀ c o, c ≠ z → c ≠ TO → c ≠ i1 → c ≠ i2 → s.heap.get? c = some o → h'.get? c = some o) → Q none { s with heap := h', toks := tk }) : wpAny (model prog w) A (pyNext (.ref e)) Q E s := by
  have hT : s.TypeIs (.ref e) "enumerate" := ⟨_, he, rfl⟩
  obtain ⟨⟨f0, f1, hz, hf⟩, ti, to, s1, s2⟩ := hst
  unfold pyNext
  refine wpAny_bind (wpAny_attempt (wpAny_callSpecial?_slot (name := Str.ofString "__next__") hT F.slot_enumerate_next (wpAny_call_entry F.slot_enumerate_next hT F.entry_enumerate_next ?_ (F.args_enumerate_next_1 _))))
  show wpAny _ _ (field (.ref e) 2 >>= _) _ _ _
  refine wpAny_bind (wpAny_field he rfl (x := .ref z) rfl ?_)
  refine wpAny_bind (nextOf_zipE hz fun Q' => zipM_end D1 D2 ap hz hf ti to s1 s2 hend fun h' tk x hk hx => ?_)
  obtain ⟨o, ho, hc⟩ := hx
  refine wpAny_bind (wpAny_isInstance (T := "StopIteration") (b := true) ⟨o, ho, hc⟩ isSubtype_stop ?_)
  exact wpAny_pure (hQ _ _ hk)
end
end VLE
namespace VL
open PySem PySem.Spec PyProof.Rows L2
section
variable {X : Cx} {pins : List (Addr × Obj)} {σ : L2.St} {H : Hp} {s : Shared} {h' : Heap}
/-- records of ours have turned, two new objects stand -/
theorem inv_two {t' : Nat} {ch : List Addr} {T U : Addr} {ob ob2 : HO} (I : L2.Inv X pins σ H s) (k : ∀ b o, b ∉ ch → s.heap.get? b = some o → h'.get? b = some o) (hf : ∀ b ∈ ch, FpOk X pins H b) (hT : s.heap.objs.size ≤ T) (hU : s.heap.objs.size ≤ U) (hTU : T ≠ U)
    (new : ObjOk X.prog X.w (upd (upd H T ob) U ob2) h' T ob) (new2 : ObjOk X.prog X.w (upd (upd H T ob) U ob2) h' U ob2) : L2.Inv X pins σ (upd (upd H T ob) U ob2) { s with heap := h', toks := t' } := by
  have n1 : H T = none := I.hok.fresh hT
  have n2 : H U = none := I.hok.fresh hU
  have out : ∀ b u, H b = some u → upd (upd H T ob) U ob2 b = some u := fun b u e => by
    rw [upd_ne (ne_of_none e n2), upd_ne (ne_of_none e n1)]; exact e
  have nit : ∀ b u, H b = some u → b ∉ ch := fun b u e z => by
    have q := (hf b z).1
    rw [q] at e; cases e
  refine I.step (g' := s.gens) (d' := s.drawn) (ch := ch) (fun b hb => ⟨(hf b hb).2.2.2.1, (hf b hb).2.1, (hf b hb).2.2.2.2.1, (hf b hb).2.2.2.2.2⟩) (fun b o _ _ hc e _ => k b o hc e) (fun b o _ _ hc e _ => ⟨o.slots, k b o hc e⟩)
    (fun b o _ e n => ?_) (fun b o hc e => ⟨o, k b o hc e⟩) (fun b xs e => out _ _ e) (fun b o u e => out _ _ e) (fun b ps e => ⟨#[], by rw [out _ _ e]; simp⟩) (fun m hm => ?_) (fun b u e => ?_) I.bare
  · have hl := Heap.lt_size e
    rw [upd_ne (Nat.ne_of_lt (Nat.lt_of_lt_of_le hl hU)), upd_ne (Nat.ne_of_lt (Nat.lt_of_lt_of_le hl hT))]; exact n
  · obtain ⟨o, es, ep, ho, r⟩ := hm
    exact ⟨o, es, ep, k _ o (fun z => (hf _ z).2.1 rfl) ho, r⟩
  · by_cases hb : b = U
    · subst hb
      rw [upd_same] at e
      cases e
      exact new2
    · rw [upd_ne hb] at e
      by_cases hb' : b = T
      · subst hb'
        rw [upd_same] at e
        cases e
        exact new
      · rw [upd_ne hb'] at e
        refine (I.hok b u e).stay (fun c v hc q => k c v ?_ q) (fun c q => out _ _ q) fun c xs q => out _ _ q
        rcases hc with z | z
        · rw [z]; exact nit b u e
        · exact nit c _ z
end
/-! a sequence: a list (true) or a tuple -/
def SqX (K : Fr) (H : Hp) (p : Bool × Addr) (xs : List V) : Prop := if p.1 = true then SqL K H p.2 xs else SqT K H p.2 xs
def SeqAt (b : Bool) (h : Heap) (l : Addr) (its : Array Value) : Prop := if b = true then h.IsList l its else h.IsTuple l its
def ItAt (b : Bool) (h : Heap) (it l : Addr) (k : Nat) : Prop := if b = true then h.IsListIter it l k else h.IsTupleIter it l k
theorem drawsX {prog : Program} {w : World} {A : Around} (hh : A.handled = none) (b : Bool) (it l : Addr) (hne : l ≠ it) (its : Array Value) :
    Draws prog w A it [it, l] its.size (fun i v => its[i]? = some v) (fun i h => ItAt b h it l i ∧ SeqAt b h l its) := by
  cases b
  · exact VLE.drawsT hh it l hne its
  · exact Draws.list hh it l hne its
theorem seq_inv {X : Cx} {pins : List (Addr × Obj)} {σ : L2.St} {H : Hp} {s : Shared} {p : Bool × Addr} {xs : List V} (I : L2.Inv X pins σ H s) (h : SqX X.K H p xs) : ∃ its : List Value, Vals xs its ∧ SeqAt p.1 s.heap p.2 its.toArray := by
  obtain ⟨b, a⟩ := p
  cases b
  · obtain ⟨its, r, t, _⟩ := I.tuple h
    exact ⟨its, r, t⟩
  · obtain ⟨its, r, t, _⟩ := I.list h
    exact ⟨its, r, t.isList⟩
theorem seq_inj {X : Cx} {pins : List (Addr × Obj)} {σ : L2.St} {H : Hp} {s : Shared} {p : Bool × Addr} {xs ys : List V} (I : L2.Inv X pins σ H s) (h : SqX X.K H p xs) (h2 : SqX X.K H p ys) : xs = ys := by
  obtain ⟨b, a⟩ := p
  cases b
  · exact I.tuple_inj h h2
  · exact I.list_inj h h2
theorem SeqAt.lt {b : Bool} {h : Heap} {l : Addr} {its : Array Value} (q : SeqAt b h l its) : l < h.objs.size := by
  cases b
  · obtain ⟨o, ho, _⟩ := q; exact Heap.lt_size ho
  · obtain ⟨o, ho, _⟩ := q; exact Heap.lt_size ho
theorem ItAt.ex {b : Bool} {h : Heap} {it l : Addr} {k : Nat} (q : ItAt b h it l k) : ∃ o, h.get? it = some o ∧ ∀ v, o.data ≠ .cell v := by
  cases b
  · obtain ⟨o, ho, _, hd⟩ := q; exact ⟨o, ho, fun v z => by rw [hd] at z; cases z⟩
  · obtain ⟨o, ho, _, hd⟩ := q; exact ⟨o, ho, fun v z => by rw [hd] at z; cases z⟩
theorem ItAt.keep {b : Bool} {h h' : Heap} {it l : Addr} {k : Nat} (q : ItAt b h it l k) (f : ∀ o, h.get? it = some o → h'.get? it = some o) : ItAt b h' it l k := by
  cases b
  · obtain ⟨o, ho, r⟩ := q; exact ⟨o, f o ho, r⟩
  · obtain ⟨o, ho, r⟩ := q; exact ⟨o, f o ho, r⟩
/-- enumerate(zip(..)) -/
def IteZ (K : Fr) (p q : Bool × Addr) : It :=
  ⟨fun i H => ∃ (xs ys : List V) (x y : V), SqX K H p xs ∧ SqX K H q ys ∧ xs[i]? = some x ∧ ys[i]? = some y,
    fun i H v H' => ∃ T U x y, v = .ref U ∧ H T = none ∧ H U = none ∧ T ≠ U ∧ H' = upd (upd H T (.tup [x, y])) U (.tup [.int (i : Nat), .ref T]) ∧ (∀ xs, SqX K H p xs → xs[i]? = some x) ∧ ∀ ys, SqX K H q ys → ys[i]? = some y,
    fun i H => ∃ xs ys : List V, SqX K H p xs ∧ SqX K H q ys ∧ (xs.length = i ∨ (i < xs.length ∧ ys.length = i))⟩
/-- what stands of it -/
structure EZ (p q : Bool × Addr) (e z TI TO i1 i2 : Addr) (i : Nat) (h : Heap) : Prop where
  en : ∃ old, IsEnum h e z ((i : Nat) : Int) old
  zip : ∃ f0 f1, VLE.IsZ h z TI TO f0 f1 ∧ VLE.Fld f0 f1
  ti : IsPair h TI (.ref i1) (.ref i2)
  to : ∃ a b, IsPair h TO a b
  st1 : ItAt p.1 h i1 p.2 i
  st2 : ItAt q.1 h i2 q.2 i
theorem turn_enumZ {P : Program} {w : World} {K : Fr} {elts : List Expr} {kk : Nat} {tpos : Pos} {p q : Bool × Addr} {e z TI TO i1 i2 : Addr} (ap : VLE.Apart z TI TO i1 i2 [i1, p.2] [i2, q.2]) (hel : e ∉ z :: TI :: TO :: ([i1, p.2] ++ [i2, q.2])) (hp1 : p.2 ≠ i1) (hq2 : q.2 ≠ i2) :
    Turn P w K (.Tuple elts kk tpos) (IteZ K p q) [e, z, TI, TO, i1, i2] e (EZ p q e z TI TO i1 i2) where
  mem := by simp
  obj := fun i h st b hb => by
    obtain ⟨⟨old, he⟩, ⟨f0, f1, hz, _⟩, ti, ⟨x, y, to⟩, s1, s2⟩ := st
    simp only [List.mem_cons, List.not_mem_nil, or_false] at hb
    rcases hb with r | r | r | r | r | r
    · rw [r]; exact ⟨_, he, fun v q => nomatch q⟩
    · rw [r]; exact ⟨_, hz, fun v q => nomatch q⟩
    · rw [r]; exact ⟨_, ti, fun v q => nomatch q⟩
    · rw [r]; exact ⟨_, to, fun v q => nomatch q⟩
    · rw [r]; exact s1.ex
    · rw [r]; exact s2.ex
  keep := fun i h h' st k => by
    obtain ⟨⟨old, he⟩, ⟨f0, f1, hz, hf⟩, ti, ⟨x, y, to⟩, s1, s2⟩ := st
    exact ⟨⟨old, k e (by simp) _ he⟩, ⟨f0, f1, k z (by simp) _ hz, hf⟩, k TI (by simp) _ ti, ⟨x, y, k TO (by simp) _ to⟩, s1.keep fun o r => k i1 (by simp) o r, s2.keep fun o r => k i2 (by simp) o r⟩
  item := by
    intro X hP hw hK hc i pins s σ H E I hf st hg
    subst hP hw hK
    obtain ⟨⟨old, he⟩, zp, ti, to, s1, s2⟩ := st
    obtain ⟨xs, ys, x, y, hqx, hqy, hx, hy⟩ := hg
    obtain ⟨its, rv, q1⟩ := seq_inv I hqx
    obtain ⟨its2, rv2, q2⟩ := seq_inv I hqy
    obtain ⟨u, hu, ru⟩ := rv.get hx
    obtain ⟨u2, hu2, ru2⟩ := rv2.get hy
    have hel' := hel
    simp only [List.mem_cons, List.mem_append, List.not_mem_nil, or_false, not_or] at hel'
    have hh : X.A.in1.in1.handled = none := I.ok.hd hc
    have D1 := drawsX (prog := X.prog) (w := X.w) (A := X.A.in1.in1) hh p.1 i1 p.2 hp1 its.toArray
    have D2 := drawsX (prog := X.prog) (w := X.w) (A := X.A.in1.in1) hh q.1 i2 q.2 hq2 its2.toArray
    have l1 := rv.length
    have l2 := rv2.length
    have k1 : i < its.toArray.size := by have := (List.getElem?_eq_some_iff.mp hx).1; simp; omega
    have k2 : i < its2.toArray.size := by have := (List.getElem?_eq_some_iff.mp hy).1; simp; omega
    have hlt : ∀ c ∈ [e, z, TI, TO, i1, i2], c < s.heap.objs.size := by
      intro c hcm
      simp only [List.mem_cons, List.not_mem_nil, or_false] at hcm
      obtain ⟨f0, f1, hz, _⟩ := zp
      obtain ⟨a1, b1, hto⟩ := to
      obtain ⟨o1, g1, _⟩ := s1.ex
      obtain ⟨o2, g2, _⟩ := s2.ex
      rcases hcm with r | r | r | r | r | r <;> rw [r]
      · exact Heap.lt_size he
      · exact Heap.lt_size hz
      · exact Heap.lt_size ti
      · exact Heap.lt_size hto
      · exact Heap.lt_size g1
      · exact Heap.lt_size g2
    refine VLE.pyNext_enumZ D1 D2 ap he ⟨zp, ti, to, ⟨s1, q1⟩, ⟨s2, q2⟩⟩ k1 k2 hel hel'.2.2.2.1.1 hel'.2.2.2.2.1 fun v1 v2 h' tk p1 p2 ho za hT hU hsz hk => ?_
    have e1 : v1 = u := by
      have : its.toArray[i]? = some u := by simpa using hu
      rw [this] at p1; exact (Option.some.inj p1).symm
    have e2 : v2 = u2 := by
      have : its2.toArray[i]? = some u2 := by simpa using hu2
      rw [this] at p2; exact (Option.some.inj p2).symm
    subst e1 e2
    refine ⟨_, rfl, wpAny_letOwnedTupleGo_enum (s := { s with heap := h', toks := tk + 1 }) ho fun h'' he' sb => ?_⟩
    have hee : e < s.heap.objs.size := hlt e (by simp)
    have hT2 : IsPair h'' s.heap.objs.size v1 v2 := (sb.2 _ (Nat.ne_of_gt hee)).trans hT
    have hU2 : IsPair h'' (s.heap.objs.size + 1) (.int i tk) (.ref s.heap.objs.size) := (sb.2 _ (Nat.ne_of_gt (Nat.lt_succ_of_lt hee))).trans hU
    have nTU : s.heap.objs.size ≠ s.heap.objs.size + 1 := Nat.ne_of_lt (Nat.lt_succ_self _)
    have new : ObjOk X.prog X.w (upd (upd H s.heap.objs.size (.tup [x, y])) (s.heap.objs.size + 1) (.tup [.int (i : Nat), .ref s.heap.objs.size])) h'' s.heap.objs.size (.tup [x, y]) :=
      ⟨by show 2 ≤ sizeLine; decide, [v1, v2], .cons ru (.cons ru2 .nil), ⟨_, hT2, rfl, _, rfl⟩⟩
    have new2 : ObjOk X.prog X.w (upd (upd H s.heap.objs.size (.tup [x, y])) (s.heap.objs.size + 1) (.tup [.int (i : Nat), .ref s.heap.objs.size])) h'' (s.heap.objs.size + 1) (.tup [.int (i : Nat), .ref s.heap.objs.size]) :=
      ⟨by show 2 ≤ sizeLine; decide, [.int i tk, .ref s.heap.objs.size], .cons ⟨_, rfl⟩ (.cons rfl .nil), ⟨_, hU2, rfl, _, rfl⟩⟩
    have I1 : L2.Inv X pins σ (upd (upd H s.heap.objs.size (.tup [x, y])) (s.heap.objs.size + 1) (.tup [.int (i : Nat), .ref s.heap.objs.size])) { s with heap := h'', toks := tk + 1 } :=
      inv_two (ch := [e, z, TI, TO, i1, i2]) I (fun b ob hb g => (sb.2 b (fun r => hb (by simp [r]))).trans (hk b ob (fun r => hb (by simp [r])) (fun r => hb (by simp [r])) (fun r => hb (by simp [r])) (fun r => hb (by simp [r])) (fun r => hb (by simp [r])) g)) hf (Nat.le_refl _) (Nat.le_succ _) nTU new new2
    refine ⟨.ref (s.heap.objs.size + 1), _, I1, rfl, ⟨_, _, x, y, rfl, I.hok.fresh (Nat.le_refl _), I.hok.fresh (Nat.le_succ _), nTU, rfl, fun l hl => by rw [seq_inj I hl hqx]; exact hx, fun l hl => by rw [seq_inj I hl hqy]; exact hy⟩, ?_, fun c hcm => ?_⟩
    · have up : ∀ c o, c ≠ e → h'.get? c = some o → h''.get? c = some o := fun c o c1 g => (sb.2 c c1).trans g
      obtain ⟨⟨g0, g1, hz', hf'⟩, ti', ⟨a', b', to'⟩, ⟨s1', _⟩, ⟨s2', _⟩⟩ := za
      refine ⟨⟨.ref s.heap.objs.size, ?_⟩, ⟨g0, g1, up _ _ (Ne.symm hel'.1) hz', hf'⟩, up _ _ (Ne.symm hel'.2.1) ti', ⟨a', b', up _ _ (Ne.symm hel'.2.2.1) to'⟩, s1'.keep fun o r => up _ o (Ne.symm hel'.2.2.2.1.1) r, s2'.keep fun o r => up _ o (Ne.symm hel'.2.2.2.2.1) r⟩
      have e1 : ((i + 1 : Nat) : Int) = (i : Int) + 1 := by omega
      rw [e1]; exact he'
    · have hb' := hlt c hcm
      rw [upd_ne (Nat.ne_of_lt (Nat.lt_succ_of_lt hb')), upd_ne (Nat.ne_of_lt hb')]
      exact (hf c hcm).1
  done := by
    intro X hP hw hK hc i pins s σ H E I hf st hg
    subst hP hw hK
    obtain ⟨⟨old, he⟩, zp, ti, to, s1, s2⟩ := st
    obtain ⟨xs, ys, hqx, hqy, hend⟩ := hg
    obtain ⟨its, rv, q1⟩ := seq_inv I hqx
    obtain ⟨its2, rv2, q2⟩ := seq_inv I hqy
    have hh : X.A.in1.in1.handled = none := I.ok.hd hc
    have D1 := drawsX (prog := X.prog) (w := X.w) (A := X.A.in1.in1) hh p.1 i1 p.2 hp1 its.toArray
    have D2 := drawsX (prog := X.prog) (w := X.w) (A := X.A.in1.in1) hh q.1 i2 q.2 hq2 its2.toArray
    have l1 := rv.length
    have l2 := rv2.length
    refine VLE.pyNext_enumZ_end D1 D2 ap he ⟨zp, ti, to, ⟨s1, q1⟩, ⟨s2, q2⟩⟩ (by rcases hend with r | ⟨r1, r2⟩ <;> simp <;> omega) fun h' tk hk => ⟨rfl, ?_⟩
    exact I.turnedL (t' := tk) (ch := [e, z, TI, TO, i1, i2]) (fun c o hb g => hk c o (fun r => hb (by simp [r])) (fun r => hb (by simp [r])) (fun r => hb (by simp [r])) (fun r => hb (by simp [r])) g) hf
  self := fun A i s Q E st h => let ⟨_, he⟩ := st.en; wpAny_pyIter_enum he h
end VL
namespace VLE
open PySem
open PySem.Sem (wp)
abbrev itName (b : Bool) : String := if b = true then "list_iterator" else "tuple_iterator"
abbrev itObj (b : Bool) (l : Addr) : Obj := { cls := .type (itName b), data := .fields #[.ref l, .int 0 0] }
section
variable {prog : Program} {w : World} {A : Around} {E : Value → Shared → Prop} {s : Shared}
theorem pyIterX {b : Bool} {l : Addr} {its : Array Value} {Q : Value → Shared → Prop} (hl : VL.SeqAt b s.heap l its) (hQ : Q (.ref s.heap.objs.size) { s with heap := s.heap.push (itObj b l) }) : wpAny (model prog w) A (pyIter (.ref l)) Q E s := by
  cases b
  · exact wpAny_pyIter_tuple (show s.heap.IsTuple l its from hl) hQ
  · exact wpAny_pyIter_list (show s.heap.IsList l its from hl) hQ
end
theorem seq_push {b : Bool} {h : Heap} {l : Addr} {its : Array Value} {o : Obj} (q : VL.SeqAt b h l its) : VL.SeqAt b (h.push o) l its := by
  cases b
  · exact Heap.IsTuple.push (show h.IsTuple l its from q) _
  · exact Heap.IsList.push (show h.IsList l its from q) _
abbrev xH1 (b : Bool) (h : Heap) (l1 : Addr) : Heap := h.push (itObj b l1)
abbrev xH2 (b c : Bool) (h : Heap) (l1 l2 : Addr) : Heap := (xH1 b h l1).push (itObj c l2)
abbrev xH3 (b c : Bool) (h : Heap) (l1 l2 : Addr) : Heap := (xH2 b c h l1 l2).push { cls := .type "tuple", data := .seq #[.ref h.objs.size, .ref (xH1 b h l1).objs.size] }
abbrev xH4 (b c : Bool) (h : Heap) (l1 l2 : Addr) : Heap := (xH3 b c h l1 l2).push { cls := .type "tuple", data := .seq #[.none, .none] }
abbrev xH5 (b c : Bool) (h : Heap) (l1 l2 : Addr) : Heap := (xH4 b c h l1 l2).push { cls := .type "zip", data := .fields #[.none, .bool false, .bool false, .ref (xH2 b c h l1 l2).objs.size, .ref (xH3 b c h l1 l2).objs.size] }
theorem meets_zipX (b c : Bool) (l1 l2 : Addr) (xs ys : Array Value) :
    Meets (Builtin.«zip.__new__» ⟨[.type "zip", .ref l1, .ref l2], []⟩) (fun _ R s => VL.SeqAt b s.heap l1 xs ∧ VL.SeqAt c s.heap l2 ys ∧ R (.ok (.ret (.ref (xH4 b c s.heap l1 l2).objs.size))) { s with heap := xH5 b c s.heap l1 l2 }) :=
  .of_wp fun prog w A R s h => by
    obtain ⟨hp, g, d, tk, os⟩ := s; obtain ⟨hl1, hl2, h⟩ := h
    have hsub := sub_zip
    have hL1 : VL.SeqAt b (Shared.heap ⟨hp, g, d, tk, os⟩) l1 xs := hl1
    have hL2 : VL.SeqAt c (Shared.heap ⟨hp.push (itObj b l1), g, d, tk, os⟩) l2 ys := seq_push hl2
    wp_walk using pyIterX hL1, pyIterX hL2
    exact ⟨_, rfl, h⟩
theorem meets_enumZ (z TI TO : Addr) :
    Meets (Builtin.«enumerate.__new__» ⟨[.type "enumerate", .ref z], []⟩) (fun _ R s => IsZip s.heap z TI TO .none ∧
      R (.ok (.ret (.ref s.heap.objs.size))) { s with heap := s.heap.push { cls := .type "enumerate", data := .fields #[.none, .bool false, .ref z, rawInt 0, .none, .none] } }) :=
  .of_wp fun prog w A R s h => by
    obtain ⟨hp, g, d, tk, os⟩ := s; obtain ⟨hl, h⟩ := h
    have hsub := sub_enumerate
    have hL : IsZip (Shared.heap ⟨hp, g, d, tk, os⟩) z TI TO .none := hl
    wp_walk
    refine wpAny_stack_any fun st => wpAny_pure ?_
    split
    · rename_i c _ _ _ _ _
      cases (c == Value.type "enumerate")
      · wp_walk using wpAny_pyIter_zip hL
        exact ⟨_, rfl, h⟩
      · wp_walk using wpAny_pyIter_zip hL
        exact ⟨_, rfl, h⟩
    · wp_walk using wpAny_pyIter_zip hL
      exact ⟨_, rfl, h⟩
section
variable {prog : Program} {w : World} {A : Around} {E : Value → Shared → Prop} {s : Shared}
theorem call_zipX {b c : Bool} {l1 l2 : Addr} {xs ys : Array Value} {Q : Value → Shared → Prop} (hl1 : VL.SeqAt b s.heap l1 xs) (hl2 : VL.SeqAt c s.heap l2 ys)
    (h : ∀ h', IsZip h' (s.heap.objs.size + 4) (s.heap.objs.size + 2) (s.heap.objs.size + 3) .none → IsPair h' (s.heap.objs.size + 2) (.ref s.heap.objs.size) (.ref (s.heap.objs.size + 1)) →
      IsPair h' (s.heap.objs.size + 3) .none .none → VL.ItAt b h' s.heap.objs.size l1 0 → VL.ItAt c h' (s.heap.objs.size + 1) l2 0 → h'.objs.size = s.heap.objs.size + 5 →
      (∀ c o, s.heap.get? c = some o → h'.get? c = some o) → Q (.ref (s.heap.objs.size + 4)) { s with heap := h' }) :
    wpAny (model prog w) A (call (.type "zip") [.ref l1, .ref l2]) Q E s := by
  refine callType_new F.called_zip (by decide) (F.typeCall_zip_2 _ _) (F.newCall_zip_2 _ _) (fun obj => F.args_object_init_3 obj _ _) F.entry_zip_new
    (meets_zipX b c l1 l2 xs ys) ⟨hl1, hl2, ?_⟩
  have z1 : (xH1 b s.heap l1).objs.size = s.heap.objs.size + 1 := Heap.size_push ..
  have z2 : (xH2 b c s.heap l1 l2).objs.size = s.heap.objs.size + 2 := by rw [Heap.size_push, z1]
  have z3 : (xH3 b c s.heap l1 l2).objs.size = s.heap.objs.size + 3 := by rw [Heap.size_push, z2]
  have z4 : (xH4 b c s.heap l1 l2).objs.size = s.heap.objs.size + 4 := by rw [Heap.size_push, z3]
  have z5 : (xH5 b c s.heap l1 l2).objs.size = s.heap.objs.size + 5 := by rw [Heap.size_push, z4]
  have g5 : (xH5 b c s.heap l1 l2).get? (xH4 b c s.heap l1 l2).objs.size = some _ := Heap.get?_push_size _ rfl
  have g4 : (xH5 b c s.heap l1 l2).get? (xH3 b c s.heap l1 l2).objs.size = some _ := Heap.get?_push_of_some _ (Heap.get?_push_size _ rfl)
  have g3 : (xH5 b c s.heap l1 l2).get? (xH2 b c s.heap l1 l2).objs.size = some _ := Heap.get?_push_of_some _ (Heap.get?_push_of_some _ (Heap.get?_push_size _ rfl))
  have g2 : (xH5 b c s.heap l1 l2).get? (xH1 b s.heap l1).objs.size = some (itObj c l2) := Heap.get?_push_of_some _ (Heap.get?_push_of_some _ (Heap.get?_push_of_some _ (Heap.get?_push_size _ rfl)))
  have g1 : (xH5 b c s.heap l1 l2).get? s.heap.objs.size = some (itObj b l1) := Heap.get?_push_of_some _ (Heap.get?_push_of_some _ (Heap.get?_push_of_some _ (Heap.get?_push_of_some _ (Heap.get?_push_size _ rfl))))
  show _ ∧ _
  rw [z2, z3, z4] at g5
  rw [z1, z2] at g3
  rw [z3] at g4
  rw [z1] at g2
  rw [z4]
  refine ⟨⟨_, g5, rfl⟩, h _ g5 g3 g4 ?_ ?_ z5 fun c o x => Heap.get?_push_of_some _ (Heap.get?_push_of_some _ (Heap.get?_push_of_some _ (Heap.get?_push_of_some _ (Heap.get?_push_of_some _ x))))⟩
  · cases b
    · exact ⟨_, g1, rfl, rfl⟩
    · exact ⟨_, g1, rfl, rfl⟩
  · cases c
    · exact ⟨_, g2, rfl, rfl⟩
    · exact ⟨_, g2, rfl, rfl⟩
theorem call_enumZ {z TI TO : Addr} {Q : Value → Shared → Prop} (hz : IsZip s.heap z TI TO .none)
    (h : ∀ h', IsEnum h' s.heap.objs.size z 0 .none → h'.objs.size = s.heap.objs.size + 1 → (∀ b o, s.heap.get? b = some o → h'.get? b = some o) → Q (.ref s.heap.objs.size) { s with heap := h' }) :
    wpAny (model prog w) A (call (.type "enumerate") [.ref z]) Q E s := by
  refine callType_new F.called_enumerate (by decide) (F.typeCall_enumerate_1 _) (F.newCall_enumerate_1 _) (fun obj => F.args_object_init_2 obj _) F.entry_enumerate_new
    (meets_enumZ z TI TO) ⟨hz, ?_⟩
  show _ ∧ _
  have he : IsEnum (s.heap.push { cls := .type "enumerate", data := .fields #[.none, .bool false, .ref z, rawInt 0, .none, .none] }) s.heap.objs.size z 0 .none := Heap.get?_push_size _ rfl
  exact ⟨⟨_, he, rfl⟩, h _ he (Heap.size_push ..) fun b o x => Heap.get?_push_of_some _ x⟩
end
end VLE
namespace VL
open PySem PySem.Spec PyProof.Rows L2
def iEnumZ (K : Fr) (ta : TA) : TI := fun σ H R => ta σ H fun vs H1 => ∃ (p q : Bool × Addr) (xs ys : List V), vs = [.ref p.2, .ref q.2] ∧ SqX K H1 p xs ∧ SqX K H1 q ys ∧ R (IteZ K p q) H1
theorem pi_enumZ {X : Cx} {a b : Expr} {ta : TA} {p p2 pos pos2 tpos : Pos} {elts : List Expr} {kk : Nat} (hg : Gl X "enumerate") (hm : X.mg "enumerate" = none) (hgz : Gl X "zip") (hmz : X.mg "zip" = none) (ha : PA X [a, b] ta)
    (hs : starEach [.Call (.Name "zip" p2) [a, b] [] pos2] X.env = (false, eval (.Call (.Name "zip" p2) [a, b] [] pos2) X.env) :: starEach [] X.env) (hpl0 : (backTo pos (starEach [] X.env)).any (·.1) = false)
    (hs2 : starEach [a, b] X.env = (false, eval a X.env) :: starEach [b] X.env) (hpl : (backTo pos2 (starEach [b] X.env)).any (·.1) = false) (hnil : backTo pos (starEach [] X.env) = []) :
    PI X (.Tuple elts kk tpos) (.Call (.Name "enumerate" p) [.Call (.Name "zip" p2) [a, b] [] pos2] [] pos) (iEnumZ X.K ta) := by
  refine ⟨fun pins s σ H R I h => ?_⟩
  refine Call_ (ld_blt I hg hm boot_enumerate (PyProof.Rows.callWith_type1 ?_ hs hpl0))
  rw [hs]
  show wpAny _ _ (spliced ((false, eval (.Call (.Name "zip" p2) [a, b] [] pos2) X.env) :: backTo pos (starEach [] X.env))) _ _ s
  rw [hnil]
  refine Calls.spliced_cons ?_
  refine Call_ (ld_blt I hgz hmz PyProof.Rows.boot_zip (PyProof.Rows.callWith_type1 (thn (ha.run pos2 pins s σ H _ I h) fun us s1 ⟨vs, H1, I1, r1, q1⟩ => ?_) hs2 hpl))
  obtain ⟨⟨b1, l1⟩, ⟨b2, l2⟩, xs, ys, ex, hqx, hqy, q⟩ := q1
  subst ex
  cases r1 with
  | cons r rr =>
    cases rr with
    | cons r' rr =>
      cases rr
      cases r
      cases r'
      obtain ⟨its, rv, sa⟩ := seq_inv I1 hqx
      obtain ⟨its2, rv2, sb⟩ := seq_inv I1 hqy
      have m1 : l1 < s1.heap.objs.size := sa.lt
      have m2 : l2 < s1.heap.objs.size := sb.lt
      refine VLE.call_zipX sa sb fun h' hz hTI hTO h1 h2 hsz hk => ?_
      refine Calls.spliced_nil ?_
      refine VLE.call_enumZ (s := { s1 with heap := h' }) hz fun h'' he hsz2 hk2 => ?_
      have hsz' : ({ s1 with heap := h' } : Shared).heap.objs.size = s1.heap.objs.size + 5 := hsz
      rw [hsz'] at he hsz2 ⊢
      refine wpAny_pyIter_enum (s := { s1 with heap := h'' }) he ?_
      have I2 : L2.Inv X pins σ H1 { s1 with heap := h'' } := I1.kept (t' := s1.toks) fun c o e => hk2 c o (hk c o e)
      generalize hn : s1.heap.objs.size = n at *
      have hlt : ∀ (m : Nat) (j : Nat), m < n → m ≠ n + j := fun m j hm z => by omega
      have hadd : ∀ (i j : Nat), i ≠ j → n + i ≠ n + j := fun i j hij z => hij (by omega)
      have l1n : ∀ j : Nat, l1 ≠ n + j := fun j => hlt l1 j m1
      have l2n : ∀ j : Nat, l2 ≠ n + j := fun j => hlt l2 j m2
      have n0 : (n : Nat) = n + 0 := rfl
      have ap : VLE.Apart (n + 4) (n + 2) (n + 3) (n + 0) (n + 1) [n + 0, l1] [n + 1, l2] := {
        TIz := hadd 2 4 (by decide), TOz := hadd 3 4 (by decide), TITO := hadd 2 3 (by decide), TIi1 := hadd 2 0 (by decide), TIi2 := hadd 2 1 (by decide),
        TOi1 := hadd 3 0 (by decide), TOi2 := hadd 3 1 (by decide), i1z := hadd 0 4 (by decide), i2z := hadd 1 4 (by decide), i12 := hadd 0 1 (by decide),
        zf1 := by simp only [List.mem_cons, List.not_mem_nil, or_false, not_or]; exact ⟨hadd 4 0 (by decide), (l1n 4).symm⟩
        zf2 := by simp only [List.mem_cons, List.not_mem_nil, or_false, not_or]; exact ⟨hadd 4 1 (by decide), (l2n 4).symm⟩
        TOf1 := by simp only [List.mem_cons, List.not_mem_nil, or_false, not_or]; exact ⟨hadd 3 0 (by decide), (l1n 3).symm⟩
        TOf2 := by simp only [List.mem_cons, List.not_mem_nil, or_false, not_or]; exact ⟨hadd 3 1 (by decide), (l2n 3).symm⟩
        i1f2 := by simp only [List.mem_cons, List.not_mem_nil, or_false, not_or]; exact ⟨hadd 0 1 (by decide), (l2n 0).symm⟩
        i2f1 := by simp only [List.mem_cons, List.not_mem_nil, or_false, not_or]; exact ⟨hadd 1 0 (by decide), (l1n 1).symm⟩ }
      have hel : (n + 5 : Addr) ∉ (n + 4) :: (n + 2) :: (n + 3) :: ([n + 0, l1] ++ [n + 1, l2]) := by
        simp only [List.mem_cons, List.mem_append, List.not_mem_nil, or_false, not_or]
        exact ⟨hadd 5 4 (by decide), hadd 5 2 (by decide), hadd 5 3 (by decide), ⟨hadd 5 0 (by decide), (l1n 5).symm⟩, hadd 5 1 (by decide), (l2n 5).symm⟩
      refine ⟨n + 5, [n + 5, n + 4, n + 2, n + 3, n + 0, n + 1], _, _, H1, rfl, I2, turn_enumZ (p := (b1, l1)) (q := (b2, l2)) ap hel (l1n 0) (l2n 1), ?_, fun c hcm => ?_, q⟩
      · exact ⟨⟨.none, he⟩, ⟨_, _, hk2 _ _ hz, .inl rfl, _, rfl⟩, hk2 _ _ hTI, ⟨_, _, hk2 _ _ hTO⟩, h1.keep fun o r => hk2 _ o r, h2.keep fun o r => hk2 _ o r⟩
      · have hle : s1.heap.objs.size ≤ c := by
          rw [hn]
          simp only [List.mem_cons, List.not_mem_nil, or_false] at hcm
          rcases hcm with r | r | r | r | r | r <;> rw [r] <;> exact Nat.le_add_right _ _
        have f1 := I1.fpOk hle (I1.hok.fresh hle)
        exact f1
end VL
namespace VL
open PySem L2
def seqX : T → Option (Bool × List T)
  | .lst _ ts => some (true, ts)
  | .tup ts => some (false, ts)
  | _ => none
def zipX : List T → Option (List T)
  | [a, b] => (seqX a).bind fun x => (seqX b).map fun y => zipT x.2 y.2
  | _ => none
def mEnumZ (ops : List Opd) : M (List T) := fun env => (evOps ops env).bind fun its e => match (allV its).bind fun ts => zipX (ts.map T.frz) with
  | some ts => .ok (enumT ts) e
  | none => .no
theorem sqX_of {K : Fr} {F H : Hp} {v : V} {t : T} {b : Bool} {ts : List T} (r : RepF K F v t) (e : seqX t = some (b, ts)) : ∃ a us, v = .ref a ∧ RepFs K F us ts ∧ ∀ H, Same F H → SqX K H (b, a) us := by
  unfold seqX at e
  split at e
  · cases e
    unfold RepF at r
    obtain ⟨_, a, us, rfl, h1, h2⟩ := r
    exact ⟨a, us, rfl, h2, fun H s => SqL.of (s _ _ h1)⟩
  · cases e
    unfold RepF at r
    obtain ⟨a, us, rfl, h1, h2⟩ := r
    exact ⟨a, us, rfl, h2, fun H s => SqT.of (s _ _ h1)⟩
  · cases e
theorem src_enumZ {K : Fr} {F : Hp} {p q : Bool × Addr} {vs ws : List V} {ts us : List T} (h1 : ∀ H, Same F H → SqX K H p vs) (h2 : ∀ H, Same F H → SqX K H q ws) (r : RepFs K F vs ts) (r2 : RepFs K F ws us) : Src K (IteZ K p q) F (enumT (zipT ts us)) := by
  have hl : (enumT (zipT ts us)).length = min vs.length ws.length := by
    simp only [enumT, zipT, List.length_zipWith, List.length_take, r.len, r2.len, rngT, List.length_map, List.length_range]
    omega
  refine ⟨fun H => SqX K H p vs ∧ SqX K H q ws, fun i H v H' => ∃ A B x y, v = .ref B ∧ H A = none ∧ H B = none ∧ A ≠ B ∧ H' = upd (upd H A (.tup [x, y])) B (.tup [.int (i : Nat), .ref A]) ∧ vs[i]? = some x ∧ ws[i]? = some y, ⟨fun i H hi g => ?_, fun H g => ?_, fun i H v H' hi g y => ?_⟩, fun H s => ⟨h1 H s, h2 H s⟩, fun i t F1 H v H' e s1 s2 y => ?_⟩
  · rw [hl] at hi
    have a1 : i < vs.length := by omega
    have a2 : i < ws.length := by omega
    exact ⟨vs, ws, vs[i], ws[i], g.1, g.2, by simp [a1], by simp [a2]⟩
  · rw [hl]
    refine ⟨vs, ws, g.1, g.2, ?_⟩
    by_cases z : vs.length ≤ ws.length
    · left; omega
    · right; constructor <;> omega
  · obtain ⟨A, B, x, z, e1, e2, e3, e4, e5, e6, e7⟩ := y
    exact ⟨A, B, x, z, e1, e2, e3, e4, e5, e6 vs g.1, e7 ws g.2⟩
  · obtain ⟨A, B, x, z, rfl, hA, hB, nAB, rfl, ex, ez⟩ := y
    obtain ⟨a, ea, rfl⟩ := (by
      unfold enumT at e
      rw [List.getElem?_zipWith] at e
      cases qa : (rngT 0 (zipT ts us).length)[i]? with
      | none => rw [qa] at e; cases e
      | some w =>
        cases qb : (zipT ts us)[i]? with
        | none => rw [qa, qb] at e; cases e
        | some w2 =>
          rw [qa, qb] at e
          cases e
          have hw : w = .int (i : Int) := by
            unfold rngT at qa
            rw [List.getElem?_map, Option.map_eq_some_iff] at qa
            obtain ⟨j, h3, rfl⟩ := qa
            obtain ⟨_, h4⟩ := List.getElem?_eq_some_iff.mp h3
            simp at h4; subst h4; simp
          exact ⟨w2, rfl, by rw [hw]⟩ : ∃ a, (zipT ts us)[i]? = some a ∧ t = .tup [.int (i : Int), a])
    unfold zipT at ea
    rw [List.getElem?_zipWith] at ea
    obtain ⟨t1, g1, k1⟩ := r.get' ex
    obtain ⟨t2, g2, k2⟩ := r2.get' ez
    have b1 : i < ts.length := (List.getElem?_eq_some_iff.mp g1).1
    have b2 : i < us.length := (List.getElem?_eq_some_iff.mp g2).1
    rw [List.getElem?_take, if_pos b2, List.getElem?_take, if_pos b1, g1, g2] at ea
    cases ea
    have fA : F1 A = none := by
      cases z : F1 A with
      | none => rfl
      | some o => have := s2 _ _ z; rw [hA] at this; cases this
    have fB : F1 B = none := by
      cases z : F1 B with
      | none => rfl
      | some o => have := s2 _ _ z; rw [hB] at this; cases this
    have up : ∀ (G : Hp), G A = none → G B = none → ∀ c o, G c = some o → upd (upd G A (.tup [x, z])) B (.tup [.int (i : Nat), .ref A]) c = some o := fun G n1 n2 c o g => by
      rw [upd_ne (by rintro rfl; rw [n2] at g; cases g), upd_ne (by rintro rfl; rw [n1] at g; cases g)]; exact g
    refine ⟨upd (upd F1 A (.tup [x, z])) B (.tup [.int (i : Nat), .ref A]), fun c o g => ?_, ⟨up F1 fA fB, fun c o g _ => up H hA hB c o g, fun _ z => z.elim, fun c o g => ?_, fun c g => upd_dom c (upd_dom c g)⟩, ?_⟩
    · by_cases zb : c = B
      · subst zb; rw [upd_same] at g ⊢; exact g
      · rw [upd_ne zb] at g ⊢
        by_cases za : c = A
        · subst za; rw [upd_same] at g ⊢; exact g
        · rw [upd_ne za] at g ⊢; exact s2 c o g
    · by_cases zb : c = B
      · subst zb; exact .inr (.inr (.inl hB))
      · rw [upd_ne zb] at g
        by_cases za : c = A
        · subst za; exact .inr (.inr (.inl hA))
        · rw [upd_ne za] at g; exact .inl g
    · have m : Same F (upd (upd F1 A (.tup [x, z])) B (.tup [.int (i : Nat), .ref A])) := fun c o g => up F1 fA fB c o (s1 c o g)
      unfold RepF
      refine ⟨B, [.int (i : Nat), .ref A], rfl, upd_same, .cons (by unfold RepF; rfl) (.cons ?_ .nil)⟩
      unfold RepF
      exact ⟨A, [x, z], rfl, by rw [upd_ne nAB, upd_same], .cons (k1.mono m) (.cons (k2.mono m) .nil)⟩
section
variable {X : Cx} {elts : List Expr} {kk : Nat} {tpos p p2 pos pos2 : Pos} {a b : Expr} {oa ob : Opd}
theorem i_enumZ (hm : X.mg "enumerate" = none) (hmz : X.mg "zip" = none) (ha : VA X [a, b] [oa, ob]) (hg : Gl X "enumerate" := by rfl) (hgz : Gl X "zip" := by rfl)
    (hs : starEach [.Call (.Name "zip" p2) [a, b] [] pos2] X.env = (false, eval (.Call (.Name "zip" p2) [a, b] [] pos2) X.env) :: starEach [] X.env := by rfl) (hpl0 : (backTo pos (starEach [] X.env)).any (·.1) = false := by rfl)
    (hs2 : starEach [a, b] X.env = (false, eval a X.env) :: starEach [b] X.env := by rfl) (hpl : (backTo pos2 (starEach [b] X.env)).any (·.1) = false := by rfl) (hnil : backTo pos (starEach [] X.env) = [] := by rfl) :
    VI X (.Tuple elts kk tpos) (.Call (.Name "enumerate" p) [.Call (.Name "zip" p2) [a, b] [] pos2] [] pos) (mEnumZ [oa, ob]) := fun W tk => (pi_enumZ hg hm hgz hmz (ha W tk) hs hpl0 hs2 hpl hnil).weak fun σ H Q q => by
  obtain ⟨F, env, S, q⟩ := q
  refine ⟨F, env, S, ?_⟩
  unfold mEnumZ at q
  cases hr : evOps [oa, ob] env with
  | no => rw [hr] at q; exact q.elim
  | ex c e => rw [hr] at q; exact q
  | ok its e =>
    rw [hr] at q
    simp only [R.bind] at q
    intro F1 H1 vs S1 okv sp nw x1
    cases ha : allV its with
    | none => rw [ha] at q; exact q.elim
    | some ts =>
      rw [ha] at q
      simp only [Option.bind_some] at q
      obtain ⟨F2, a1, a2, a3, a4⟩ := frz_all S1.sub okv ha sp
      have xf : Ext F1 H1 (ArOwn vs its) F2 H1 (fun _ => False) := ⟨a1, fun _ _ e _ => e, fun a z => z.elim, fun a o z => (a4 a o z).imp id .inl, fun _ e => e⟩
      have S2 : Sta X.K F2 H1 σ e := S1.ext xf a2 fun a o z => nw a z o
      have y1 : Ext F H (Own σ env) F2 H1 (Own σ e) := x1.trans xf (M := Own σ e) (fun a z => .inr z) fun a z => .inl (.inl z)
      cases hz : zipX (ts.map T.frz) with
      | none => rw [hz] at q; exact q.elim
      | some zs =>
        rw [hz] at q
        unfold zipX at hz
        split at hz
        · rename_i t u he
          rw [he] at a3
          unfold RepFs at a3
          obtain ⟨v, r', rfl, r1, a3⟩ := a3
          unfold RepFs at a3
          obtain ⟨w', r'', rfl, r2, a3⟩ := a3
          unfold RepFs at a3; subst a3
          rw [Option.bind_eq_some_iff] at hz
          obtain ⟨⟨b1, xs⟩, e1, hz⟩ := hz
          rw [Option.map_eq_some_iff] at hz
          obtain ⟨⟨b2, ys⟩, e2, rfl⟩ := hz
          obtain ⟨l1, us1, rfl, k1, c1⟩ := sqX_of (H := H1) r1 e1
          obtain ⟨l2, us2, rfl, k2, c2⟩ := sqX_of (H := H1) r2 e2
          exact ⟨(b1, l1), (b2, l2), us1, us2, rfl, c1 _ S2.sub, c2 _ S2.sub, q F2 H1 _ S2 y1 (src_enumZ c1 c2 k1 k2)⟩
        · cases hz
end
end VL

/-! list(a dict), the place of an equal item. -/
namespace VL
open PySem L2
section
variable {K : Fr} {F H : Hp}
def keyT : Key → T
  | .inl i => .int i
  | .inr x => .str x
theorem keyT_rep {k : Key} : RepF K F (kV k) (keyT k) := by
  cases k <;> (unfold keyT kV; unfold RepF; rfl)
theorem keysT_rep : ∀ {ks : List Key}, RepFs K F (ks.map kV) (ks.map keyT)
  | [] => .nil
  | k :: ks => .cons keyT_rep keysT_rep
/-- key tuples that stand in the heap are taken in -/
theorem take_keys (s : Same F H) : ∀ {kvs : List (List Key × V)} {bs : List Addr}, IsKeys H kvs bs →
    ∃ F', Same F F' ∧ Same F' H ∧ RepFs K F' (bs.map V.ref) ((kvs.map (·.1)).map fun k => T.tup (k.map keyT)) ∧ ∀ a o, F' a = some o → F a = some o ∨ ∃ vs, H a = some (.tup vs)
  | [], bs, h => by
    unfold IsKeys at h
    cases h
    exact ⟨F, fun _ _ q => q, s, .nil, fun _ _ q => .inl q⟩
  | kv :: kvs, bs, h => by
    unfold IsKeys at h
    cases h with
    | cons h1 h2 =>
      rename_i b bs
      obtain ⟨F1, a1, a2, a3, a4⟩ := take_keys s (kvs := kvs) h2
      have sm : Same F1 (upd F1 b (.tup (kv.1.map kV))) := fun a o q => by
        by_cases w : a = b
        · subst w
          rw [upd_same]
          have := a2 _ _ q
          rw [h1] at this
          exact this
        · rw [upd_ne w]; exact q
      refine ⟨upd F1 b (.tup (kv.1.map kV)), fun a o q => sm a o (a1 a o q), fun a o q => ?_, .cons ?_ (a3.mono sm), fun a o q => ?_⟩
      · by_cases w : a = b
        · subst w; rw [upd_same] at q; rw [h1]; exact q
        · rw [upd_ne w] at q; exact a2 a o q
      · unfold RepF
        exact ⟨b, _, rfl, upd_same, keysT_rep⟩
      · by_cases w : a = b
        · subst w; exact .inr ⟨_, h1⟩
        · rw [upd_ne w] at q; exact a4 a o q
theorem isKeys_same {kvs : List (List Key × V)} {bs : List Addr} (h : IsKeys H kvs bs) {p : Addr} {o : HO} (hp : H p = none) : IsKeys (upd H p o) kvs bs := by
  unfold IsKeys at h ⊢
  induction h with
  | nil => exact .nil
  | cons a b ih => exact .cons (upd_new hp _ _ a) ih
end
def pListAny : List T → Option T
  | [.lst _ ts] => some (.lst true ts)
  | [.tup ts] => some (.lst true ts)
  | [.dic _ ks _] => some (.lst true (ks.map keyT))
  | [.dit _ ks _] => some (.lst true (ks.map fun k => .tup (k.map keyT)))
  | _ => none

section
variable {X : Cx}
def rListAny (K : Fr) : List V → Hp → VK → Prop := fun xs H Q => (∃ p ys, xs = [.ref p] ∧ (SqL K H p ys ∨ SqT K H p ys) ∧ ∀ l, H l = none → Q (.ref l) (upd H l (.lst ys))) ∨ rListD xs H Q ∨
  (∃ d kvs, xs = [V.ref d] ∧ Rd H d (.dT kvs) ∧ ∀ p bs, H p = none → IsKeys H kvs bs → Q (.ref p) (upd H p (.lst (bs.map V.ref))))
theorem call_list_any (hc : X.calm = true) : CallR X (.type "list") (rListAny X.K) := call_list_of.or ((call_list_dK hc).or (call_list_dT hc))
theorem prim_listAny {K : Fr} : Prim K (rListAny K) pListAny := primL1 (fun F H x a t Q s r e k => by
  cases a with
  | lst o ts =>
    cases e
    obtain ⟨p, vs, rfl, h1, h2⟩ := rep_lst s r
    exact .inl ⟨p, vs, rfl, .inl (SqL.of h1), fun l hl => ret_lst s k h2 hl⟩
  | tup ts =>
    cases e
    obtain ⟨p, vs, rfl, h1, h2⟩ := rep_tup s r
    exact .inl ⟨p, vs, rfl, .inr (SqT.of h1), fun l hl => ret_lst s k h2 hl⟩
  | dic o ks ts =>
    cases e
    obtain ⟨p, kvs, rfl, h1, h2, h3⟩ := rep_dic s r
    refine .inr (.inl ⟨p, kvs, rfl, h1, fun l hl => ret_lst s k ?_ hl⟩)
    rw [← h2, show (kvs.map fun kv => kV kv.1) = (kvs.map (·.1)).map kV by rw [List.map_map]; rfl]
    exact keysT_rep
  | dit o ks ts =>
    cases e
    obtain ⟨p, kvs, rfl, h1, h2, h3⟩ := rep_dit s r
    refine .inr (.inr ⟨p, kvs, rfl, .inl h1, fun l bs hl hk => ?_⟩)
    obtain ⟨F1, a1, a2, a3, a4⟩ := take_keys s hk
    rw [h2] at a3
    have hF : F1 l = none := by
      cases z : F1 l with
      | none => rfl
      | some w => rw [a2 l w z] at hl; cases hl
    refine k F1 _ (.ref l) (fun a o q => upd_new hl a o (a2 a o q)) ⟨l, _, rfl, hF, upd_same, a3⟩ ⟨a1, fun a o q _ => upd_new hl a o q, fun a o => .inr (by have := o.2; cases this; exact hl), fun a o q => (a4 a o q).imp id fun z => .inr (.inr z), upd_dom⟩
  | _ => cases e) rfl (fun a b c => by cases a <;> rfl)
variable {e : Expr} {es : List Expr} {ops : List Opd} {p pos : Pos}
theorem e_listAny (hm : X.mg "list" = none) (ha : VA X (e :: es) ops) (hg : Gl X "list" := by rfl) (hc : X.calm = true := by rfl) (he : starEach (e :: es) X.env = (false, eval e X.env) :: starEach es X.env := by rfl) (hpl : (backTo pos (starEach es X.env)).any (·.1) = false := by rfl) : VE X (.Call (.Name "list" p) (e :: es) [] pos) (mPrim pListAny ops) :=
  ve_bty (call_list_any hc) prim_listAny hg hm (by decide +kernel) ha (by decide) (by decide) he hpl
end

/-! ### what a list tells of an item -/
def LAsk (K : Fr) (r : V → List V → Hp → VK → Prop) (f : List T → List T → Option T) : Prop :=
  ∀ F H p o ts as us u Q, Same F H → Rep K F H (.ref p) (.lst o ts) → RepFs K F as us → f ts us = some u → (∀ v, RepF K F v u → Q v H) → r (.ref p) as H Q
def mAsk (f : List T → List T → Option T) (i : Nat) (ops : List Opd) : M T := fun env => match env[i]? with
  | some (some (.lst _ _)) => (evOps ops env).bind fun its e => match allV its, e[i]? with
    | some us, some (some (.lst _ ts)) => match f ts (us.map T.frz) with
      | some u => if u.own then .no else .ok u e
      | none => .no
    | _, _ => .no
  | _ => .no
section
variable {K : Fr} {W : WX} {mg : MG} {σ : St}
theorem rdE_ask {r : V → List V → Hp → VK → Prop} {f : List T → List T → Option T} {i : Nat} {ops : List Opd} {Q : VK} {H : Hp} (P : LAsk K r f) (h : rdE K W mg (mAsk f i ops) σ H Q) :
    tVar i σ H fun x H1 => tyV K "list" x H1 ∧ rdA K W mg ops σ H1 fun xs H2 => r x xs H2 Q := by
  obtain ⟨F, env, S, q⟩ := h
  unfold mAsk at q
  split at q
  · rename_i o0 ts0 e0
    obtain ⟨v, e2, r0⟩ := S.rep i _ e0
    obtain ⟨p, vs0, rfl, hH, rf0⟩ := rep_lst S.sub r0
    refine ⟨_, e2, .inl ⟨rfl, vs0, SqL.of hH⟩, F, env, S, ?_⟩
    cases hr : evOps ops env with
    | no => rw [hr] at q; exact q.elim
    | ex c e => rw [hr] at q; exact q
    | ok its e =>
      rw [hr] at q
      simp only [R.bind] at q
      intro F1 H1 as S1 okv sp nw x1
      split at q
      · rename_i us o ts ha ei
        cases hf : f ts (us.map T.frz) with
        | none => rw [hf] at q; exact q.elim
        | some u =>
          rw [hf] at q
          simp only at q
          split at q
          · exact q.elim
          · rename_i hu
            obtain ⟨F2, a1, a2, a3, a4⟩ := frz_all S1.sub okv ha sp
            have xf : Ext F1 H1 (ArOwn as its) F2 H1 (fun _ => False) := ⟨a1, fun _ _ e _ => e, fun a z => z.elim, fun a o z => (a4 a o z).imp id .inl, fun _ e => e⟩
            have S2 : Sta K F2 H1 σ e := S1.ext xf a2 fun a o z => nw a z o
            obtain ⟨v', g1, g2⟩ := S2.rep i _ ei
            rw [e2] at g1; cases g1
            refine P F2 H1 p o ts as (us.map T.frz) u Q a2 g2 a3 hf fun v ru => ?_
            refine q F2 _ v S2 (.ofF ru) (fun a o => by have := o.1; rw [ru.notown] at this; cases this) ?_
            have y1 := x1.trans xf (M := Own σ e) (fun a z => .inr z) fun a z => .inl (.inl z)
            exact y1.mono fun a m => m.elim id fun o => by have := o.1; rw [ru.notown] at this; cases this
      · exact q.elim
  · exact q.elim
end
def fIndex : List T → List T → Option T
  | ts, [x] => if okTs ts 59 && okT x 59 then (ts.findIdx? fun y => eqT y x).map fun j => T.int (j : Nat) else none
  | _, _ => none
theorem toDs_get : ∀ {ts : List T} {j : Nat}, (toDs ts)[j]? = (ts[j]?).map toD
  | [], j => by simp [toDs]
  | t :: ts, 0 => by simp [toDs]
  | t :: ts, j + 1 => by simp only [toDs, List.getElem?_cons_succ]; exact toDs_get
theorem okTs_get : ∀ {ts : List T} {n j : Nat} {t : T}, okTs ts n = true → ts[j]? = some t → okT t n = true
  | [], n, j, t, h, e => by cases e
  | x :: ts, n, 0, t, h, e => by
    simp only [okTs, Bool.and_eq_true] at h
    cases e; exact h.1
  | x :: ts, n, j + 1, t, h, e => by
    simp only [okTs, Bool.and_eq_true] at h
    exact okTs_get h.2 e
theorem lask_index {K : Fr} : LAsk K (rIndexD K) fIndex := fun F H p o ts as us u Q s rl ra e k => by
  unfold fIndex at e
  split at e
  · rename_i x
    split at e
    · rename_i hc
      simp only [Bool.and_eq_true] at hc
      rw [Option.map_eq_some_iff] at e
      obtain ⟨j, hj, rfl⟩ := e
      rw [List.findIdx?_eq_some_iff_getElem] at hj
      obtain ⟨hl, h1, h2⟩ := hj
      unfold RepFs at ra
      obtain ⟨v, w, rfl, r1, r2⟩ := ra
      unfold RepFs at r2; subst r2
      have okl : okT (.lst o ts) 60 = true := hc.1
      have gj : ts[j]? = some ts[j] := List.getElem?_eq_getElem hl
      refine ⟨p, v, toD x, toDs ts, j, toD ts[j], rfl, rfl, ?_, dp_of s x 59 v hc.2 r1, ?_, ?_, by rw [toDs_get, gj]; rfl, ?_, fun m z' hm hz' => ?_, k _ (by unfold RepF; rfl)⟩
      · have := dp_rep s okl rl
        exact this
      · have := shaped_of okl
        exact this
      · obtain ⟨l1, l2⟩ := okT_lay x 59 hc.2
        unfold SeqAt.shaped
        rw [l1, Bool.true_and]
        exact decide_eq_true (by omega)
      · rw [eqT_eqv _ _ 59 59 (okTs_get hc.1 gj) hc.2]; exact h1
      · rw [toDs_get] at hz'
        have hml : m < ts.length := by omega
        rw [List.getElem?_eq_getElem hml] at hz'
        cases hz'
        rw [eqT_eqv _ _ 59 59 (okTs_get hc.1 (List.getElem?_eq_getElem hml)) hc.2]
        exact Bool.eq_false_iff.mpr (h2 m hm)
    · cases e
  · cases e
section
variable {X : Cx} {x : Str} {pos apos cpos : Pos} {e : Expr} {es : List Expr} {ops : List Opd} {n : Nat}
theorem e_index (hr : Room n X.A) (i : Nat) (ha : VA X (e :: es) ops) (hN : X.N[i]? = some x := by rfl) (hv : Vis X.env.scope x := by first | exact .inl rfl | exact .inr (.inl rfl) | exact .inr (.inr rfl)) (hd : (x == ("__debug__" : Str)) = false := by decide) (hcd : (x == ("__classdict__" : Str)) = false := by decide)
    (hbase : attributeBase (.Name x pos) "index" X.env (eval (.Name x pos) X.env) = eval (.Name x pos) X.env := by rfl)
    (hfew : ((backTo cpos (starEach (e :: es) X.env)).all (fun x => !x.1) && (backToKw cpos (keywordEach [] X.env)).all (fun x => x.1.isSome)
      && decide ((e :: es).length + ([] : List Keyword).length + (if ([] : List Keyword).isEmpty then 0 else 1) < 30)) = true := by rfl)
    (hline : (apos.endLine == cpos.line) = true := by rfl) (hs : starEach (e :: es) X.env = (false, eval e X.env) :: starEach es X.env := by rfl) (hplain : (backTo cpos (starEach es X.env)).any (·.1) = false := by rfl) :
    VE X (.Call (.Attribute (.Name x pos) "index" apos) (e :: es) [] cpos) (mAsk fIndex i ops) := fun W tk =>
  (pe_bm PySem.F.plainAttrs_list PySem.F.slot_list_index PySem.F.type_list_index (mt_indexD (by have := units70 hr; omega)) (pe_var hN hv hd hcd) (ha W tk) hbase hfew hline hs hplain).weak fun σ H Q h => rdE_ask lask_index h
end
end VL

/-! a, b = x, y where a, b may be cells: a pair is made and taken apart. -/
namespace VL
open PySem L2
section
variable {K : Fr} {W : WX} {mg : MG} {A : List Nat} {F H : Hp} {σ : St} {env : Env} {D : Ends}
theorem rdS_parT {is : List Nat} {ops : List Opd} {H : Hp} (hA : ∀ i ∈ is, i ∈ A) (hl : is.length = ops.length) (h : rdS K W mg A (mPar is ops) D σ H) : rdA K W mg ops σ H fun vs H1 => vs.length = ops.length ∧ ∀ p, H1 p = none → D.nx (putV is vs σ) (upd H1 p (.tup vs)) := by
  obtain ⟨F, env, S, q⟩ := h
  refine ⟨F, env, S, ?_⟩
  unfold mPar at q
  cases hr : evOps ops env with
  | no => rw [hr] at q; exact q.elim
  | ex c e => rw [hr] at q; exact fun F' H' C S' x' hc => q F' H' σ C S' .refl x' hc
  | ok its e =>
    rw [hr] at q
    simp only at q
    intro F1 H1 vs S1 okv sp nw x1
    cases ha : allV its with
    | none => rw [ha] at q; exact q.elim
    | some ts =>
      rw [ha] at q
      obtain ⟨S2, so, sub⟩ := sta_putAll (A := A) (is := is) S1 okv ha sp nw (by rw [hl, evOps_len hr]) hA
      refine ⟨by rw [arLen okv ha, evOps_len hr], fun p hp => ?_⟩
      have x3 : Ext F1 H1 (fun _ => False) F1 (upd H1 p (.tup vs)) (fun _ => False) := ⟨fun _ _ q => q, fun a u q _ => upd_new hp a u q, fun a z => z.elim, fun _ _ q => .inl q, upd_dom⟩
      have S3 := S2.ext x3 (fun a u q => upd_new hp a u (S2.sub a u q)) fun a _ z => z
      have x4 := x1.mono sub
      exact q F1 _ _ S3 so ⟨x4.frz, fun a o e n => upd_new hp a o (x4.keep a o e n), x4.own, x4.new, fun a e => x4.dom a (upd_dom a e)⟩
end
section
variable {X : Cx} {A : List Nat} {i j : Nat} {x y : Str} {a b : Expr} {oa ob : Opd} {px py pt pt2 pos : Pos} {kt k2 : Nat}
theorem s_parT (i j : Nat) (ha : VA X [a, b] [oa, ob]) (hc : X.calm = true := by rfl) (hN : X.N.Nodup := by assumption) (hi : X.N[i]? = some x := by rfl) (hj : X.N[j]? = some y := by rfl) (hA : ∀ k ∈ [i, j], k ∈ A := by decide)
    (hx : Loc X.env.scope x := by first | exact .inl rfl | exact .inr rfl) (hy : Loc X.env.scope y := by first | exact .inl rfl | exact .inr rfl)
    (hfx : X.fn x = true ∨ X.env.scope.names.lookup x = some .local := by first | exact .inl rfl | exact .inr rfl) (hfy : X.fn y = true ∨ X.env.scope.names.lookup y = some .local := by first | exact .inl rfl | exact .inr rfl)
    (hs : swapsWithSole [.Tuple [.Name x px, .Name y py] kt pt] (.Tuple [a, b] k2 pt2) pos.line X.env = pure false := by rfl)
    (hw : swappedStores [.Tuple [.Name x px, .Name y py] kt pt] (.Tuple [a, b] k2 pt2) X.env = pure none := by rfl)
    (h1 : (assignEach [.Tuple [.Name x px, .Name y py] kt pt] X.env).map (·.2) = [assign (.Tuple [.Name x px, .Name y py] kt pt) X.env] := by rfl)
    (g1 : (assignEach [.Name x px, .Name y py] X.env).map (·.2) = assign (.Name x px) X.env :: (assignEach [.Name y py] X.env).map (·.2) := by rfl)
    (g2 : (assignEach [.Name y py] X.env).map (·.2) = assign (.Name y py) X.env :: (assignEach [] X.env).map (·.2) := by rfl)
    (hn : (assignEach [.Name x px, .Name y py] X.env).length = 2 := by rfl) (hst : (assignEach [.Name x px, .Name y py] X.env).findIdx? (·.1) = none := by rfl) :
    VS X A (.Assign [.Tuple [.Name x px, .Name y py] kt pt] (.Tuple [a, b] k2 pt2) pos) (mPar [i, j] [oa, ob]) := fun W tk =>
  (ps_asg (pe_tup (ha W tk)) (pg_tup hc (pgs_cons (pg_name hN hi hx hfx) (pgs_cons (pg_name hN hj hy hfy) pgs_nil g2) g1) hn hst) hs hw h1).weak fun D σ H h => by
    obtain ⟨F, env, S, q⟩ := rdS_parT hA rfl h
    refine ⟨F, env, S, ?_⟩
    cases hr : evOps [oa, ob] env with
    | no => rw [hr] at q; exact q
    | ex c e => rw [hr] at q; exact q
    | ok its e =>
      rw [hr] at q
      exact fun F1 H1 vs S1 okv sp nw x1 => by
        obtain ⟨q1, q2⟩ := q F1 H1 vs S1 okv sp nw x1
        match vs, q1, q2 with
        | [v, w], _, q2 => exact ⟨show 2 ≤ sizeLine by decide, fun p hp => ⟨p, [v, w], rfl, SqT.of upd_same, rfl, v, [w], rfl, w, [], rfl, rfl, q2 p hp⟩⟩
end
end VL

/-! a loop over an own list of a name that stays own: the body does not touch the name. -/
namespace VL
open PySem L2
def hidR (i : Nat) (ts : List T) : SR → SR
  | .nx e => match e[i]? with
    | some none => .nx (e.set i (some (.lst true ts)))
    | _ => .no
  | .rt t e => .rt t e
  | .ex c e => .ex c e
  | _ => .no
def mForL (i : Nat) (g : G) (b : MS) : MS := fun env => match env[i]? with
  | some (some (.lst true ts)) => hidR i ts (mLoop g b ts (env.set i none))
  | _ => .no
section
variable {K : Fr} {W : WX} {mg : MG} {A A' : List Nat} {F H : Hp} {σ : St} {env : Env} {D : Ends}
theorem PostS.transL {F1 H1 : Hp} {L L1 M1 : Addr → Prop} {r : SR} {σ1 : St} (p : PostS K W mg A σ F H L r D) (so : SameOut A σ σ1) (x : Ext F H L F1 H1 M1) (hs : ∀ a, L1 a → M1 a) : PostS K W mg A σ1 F1 H1 L1 r D := by
  cases r with
  | no => exact p
  | nx e => exact fun F' H' σ' S s y => p F' H' σ' S (so.trans s) (x.trans y hs fun a m => .inr m)
  | bk e => exact fun F' H' σ' S s y => p F' H' σ' S (so.trans s) (x.trans y hs fun a m => .inr m)
  | ct e => exact fun F' H' σ' S s y => p F' H' σ' S (so.trans s) (x.trans y hs fun a m => .inr m)
  | rt t e => exact fun F' H' σ' v S s r n y => p F' H' σ' v S (so.trans s) r n (x.trans y hs fun a m => .inr m)
  | ex c e => exact fun F' H' σ' C S s y g => p F' H' σ' C S (so.trans s) (x.trans y hs fun a m => .inr m) g
theorem own_hide {i : Nat} {a : Addr} (o : Own σ (env.set i none) a) : Own σ env a := by
  obtain ⟨j, t, e, w, q⟩ := o
  by_cases z : i = j
  · subst z
    rw [List.getElem?_set] at e
    simp only [if_true] at e
    split at e <;> cases e
  · rw [List.getElem?_set_ne z] at e
    exact ⟨j, t, e, w, q⟩
theorem Sta.hide (S : Sta K F H σ env) (i : Nat) : Sta K F H σ (env.set i none) := by
  have f : ∀ {j : Nat} {t : T}, (env.set i none)[j]? = some (some t) → env[j]? = some (some t) := fun {j t} e => by
    by_cases z : i = j
    · subst z
      rw [List.getElem?_set] at e
      simp only [if_true] at e
      split at e <;> cases e
    · rw [List.getElem?_set_ne z] at e; exact e
  exact ⟨by rw [List.length_set]; exact S.len, S.sub, fun j t e => S.rep j t (f e), fun j k t u v e1 e2 => S.sep j k t u v (f e1) (f e2)⟩
/-- the list of a hidden name -/
structure Hid (K : Fr) (F H : Hp) (σ : St) (env : Env) (i : Nat) (p : Addr) (vs : List V) (ts : List T) : Prop where
  fp : F p = none
  hp : H p = some (.lst vs)
  rp : RepFs K F vs ts
  at_ : σ[i]? = some (some (.ref p))
  no : ¬ Own σ env p
theorem Hid.go {i p vs ts} {F1 H1 : Hp} {σ1 : St} {e1 : Env} {L : Addr → Prop} (h : Hid K F H σ env i p vs ts) (x : Ext F H L F1 H1 (Own σ1 e1)) (hl : ¬ L p) (so : SameOut A' σ σ1) (hi : i ∉ A') : Hid K F1 H1 σ1 e1 i p vs ts where
  fp := by
    cases z : F1 p with
    | none => rfl
    | some w =>
      rcases x.new p w z with q | q | q | ⟨_, q⟩
      · rw [h.fp] at q; cases q
      · exact (hl q).elim
      · rw [h.hp] at q; cases q
      · rw [h.hp] at q; cases q
  hp := x.keep p _ h.hp hl
  rp := h.rp.mono x.frz
  at_ := (so.2 i hi).trans h.at_
  no := fun o => by
    rcases x.own p o with q | q
    · exact hl q
    · rw [h.hp] at q; cases q
theorem own_back {i : Nat} {p : Addr} {ts : List T} (hat : σ[i]? = some (some (.ref p))) {a : Addr} (o : Own σ (env.set i (some (.lst true ts))) a) : Own σ env a ∨ a = p := by
  obtain ⟨j, t, e, w, q⟩ := o
  by_cases z : i = j
  · subst z
    rw [hat] at q; cases q
    exact .inr rfl
  · rw [List.getElem?_set_ne z] at e
    exact .inl ⟨j, t, e, w, q⟩
theorem Hid.back {i p vs ts} (h : Hid K F H σ env i p vs ts) (S : Sta K F H σ env) (hi : env[i]? = some none) : Sta K F H σ (env.set i (some (.lst true ts))) := by
  have hlt : i < env.length := (List.getElem?_eq_some_iff.mp hi).1
  have f : ∀ {j : Nat} {t : T}, (env.set i (some (.lst true ts)))[j]? = some (some t) → (i = j ∧ t = .lst true ts) ∨ (i ≠ j ∧ env[j]? = some (some t)) := fun {j t} e => by
    by_cases z : i = j
    · subst z
      rw [List.getElem?_set_self hlt] at e
      cases e
      exact .inl ⟨rfl, rfl⟩
    · rw [List.getElem?_set_ne z] at e; exact .inr ⟨z, e⟩
  refine ⟨by rw [List.length_set]; exact S.len, S.sub, fun j t e => ?_, fun j k t u v e1 e2 o1 o2 z1 z2 => ?_⟩
  · rcases f e with ⟨rfl, rfl⟩ | ⟨_, e⟩
    · exact ⟨.ref p, h.at_, p, vs, rfl, h.fp, h.hp, h.rp⟩
    · exact S.rep j t e
  · rcases f e1 with ⟨rfl, rfl⟩ | ⟨n1, e1⟩ <;> rcases f e2 with ⟨rfl, rfl⟩ | ⟨n2, e2⟩
    · rfl
    · rw [h.at_] at z1; cases z1
      exact (h.no ⟨k, u, e2, o2, z2⟩).elim
    · rw [h.at_] at z2; cases z2
      exact (h.no ⟨j, t, e1, o1, z1⟩).elim
    · exact S.sep j k t u v e1 e2 o1 o2 z1 z2
theorem SameOut.wide {σ1 : St} (so : SameOut A' σ σ1) (h : ∀ k ∈ A', k ∈ A) : SameOut A σ σ1 := ⟨so.1, fun i hi => so.2 i fun z => hi (h i z)⟩
theorem rdS_forL {i : Nat} {g : G} {b : MS} {H : Hp} (hi : i ∉ A') (hA : ∀ k ∈ A', k ∈ A) (h : rdS K W mg A (mForL i g b) D σ H) : tFor (iList K (tVar i)) (rdG K A' g) (rdS K W mg A' b) D σ H := by
  obtain ⟨F, env, S, q⟩ := h
  unfold mForL at q
  split at q
  · rename_i ts e0
    obtain ⟨v, e2, r0⟩ := S.rep i _ e0
    obtain ⟨p, vs, rfl, hF, hH, rf⟩ := r0
    refine ⟨_, e2, p, rfl, ⟨vs, SqL.of hH⟩, ?_⟩
    have S0 : Sta K F H σ (env.set i none) := S.hide i
    have no0 : ¬ Own σ (env.set i none) p := fun o => by
      obtain ⟨j, t, e, w, z⟩ := o
      by_cases y : i = j
      · subst y
        rw [List.getElem?_set] at e
        simp only [if_true] at e
        split at e <;> cases e
      · rw [List.getElem?_set_ne y] at e
        exact y (S.sep i j _ t (.ref p) e0 e rfl w e2 z)
    have ownp : Own σ env p := ⟨i, _, e0, rfl, e2⟩
    have q0 : PostS K W mg A σ F H (fun a => Own σ (env.set i none) a ∨ a = p) (hidR i ts (mLoop g b ts (env.set i none))) D := PostS.transL q .refl Ext.refl fun a o => o.elim own_hide fun z => by subst z; exact ownp
    have wk := walk_list (K := K) (a := p) (xs := vs)
    rw [rf.len] at wk
    refine for_it wk (fun j σ H => ∃ F env, Sta K F H σ env ∧ Hid K F H σ env i p vs ts ∧ PostS K W mg A σ F H (fun a => Own σ env a ∨ a = p) (hidR i ts (mLoop g b (ts.drop j) env)) D) ⟨F, _, S0, ⟨hF, hH, rf, e2, no0⟩, q0⟩ (fun j σ H _ ⟨F, env, S, hd, _⟩ => SqL.of hd.hp) (fun j x σ H H' hj ⟨F, env, S, hd, q⟩ y => ?_) (fun σ H ⟨F, env, S, hd, q⟩ => ?_)
    · obtain ⟨rfl, ex⟩ := y
      obtain ⟨v, ev, rv⟩ := hd.rp.get (List.getElem?_eq_getElem hj)
      rw [ex] at ev; cases ev
      rw [List.drop_eq_getElem_cons hj] at q
      refine ⟨F, env, ts[j], S, .ofF rv, fun a o => ?_, ?_⟩
      · have := o.1; rw [rv.notown] at this; cases this
      · simp only [mLoop] at q
        cases hg : g ts[j] env with
        | no => rw [hg] at q; exact q
        | ex c e => rw [hg] at q; exact q
        | ok u e1 =>
          rw [hg] at q
          intro F1 H1 σ1 S1 so x1
          have x1 : Ext F H' (Own σ env) F1 H1 (Own σ1 e1) := x1.widen fun a o => o.elim id fun o => by have := o.1; rw [rv.notown] at this; cases this
          have hd1 := hd.go x1 hd.no so hi
          refine ⟨F1, e1, S1, ?_⟩
          have xp : ∀ {F2 H2 : Hp} {σ2 : St} {e : Env} {M : Addr → Prop}, Ext F1 H1 (Own σ1 e1) F2 H2 M → Ext F H' (fun a => Own σ env a ∨ a = p) F2 H2 (fun a => M a ∨ a = p) := fun {F2 H2 σ2 e M} x2 => by
            have y := (x1.trans x2 (fun _ o => o) (M := M) fun a m => .inr m).widen (L' := fun a => Own σ env a ∨ a = p) fun a o => .inl o
            exact ⟨y.frz, y.keep, fun a m => m.elim (y.own a) fun z => .inl (.inr z), y.new, y.dom⟩
          simp only [mBody] at q
          cases hb : b e1 with
          | nx e =>
            rw [hb] at q
            exact fun F2 H2 σ2 S2 so2 x2 => ⟨F2, e, S2, hd1.go x2 hd1.no so2 hi, PostS.transL q ((so.trans so2).wide hA) (xp (σ2 := σ2) (e := e) x2) fun _ o => o⟩
          | ct e =>
            rw [hb] at q
            exact fun F2 H2 σ2 S2 so2 x2 => ⟨F2, e, S2, hd1.go x2 hd1.no so2 hi, PostS.transL q ((so.trans so2).wide hA) (xp (σ2 := σ2) (e := e) x2) fun _ o => o⟩
          | bk e =>
            rw [hb] at q
            intro F2 H2 σ2 S2 so2 x2
            have hd2 := hd1.go x2 hd1.no so2 hi
            simp only [hidR] at q
            split at q
            · rename_i he
              exact q F2 H2 σ2 (hd2.back S2 he) ((so.trans so2).wide hA) ((xp (σ2 := σ2) (e := e) x2).mono fun a o => own_back hd2.at_ o)
            · exact q.elim
          | rt t e =>
            rw [hb] at q
            intro F2 H2 σ2 v S2 so2 r2 n2 x2
            exact q F2 H2 σ2 v S2 ((so.trans so2).wide hA) r2 n2 ((xp (σ2 := σ2) (e := e) x2).mono fun a o => .inl o)
          | ex c e =>
            rw [hb] at q
            intro F2 H2 σ2 C S2 so2 x2 hc
            exact q F2 H2 σ2 C S2 ((so.trans so2).wide hA) ((xp (σ2 := σ2) (e := e) x2).mono fun a o => .inl o) hc
          | no => rw [hb] at q; exact q
    · rw [List.drop_length] at q
      simp only [mLoop, mSkip, hidR] at q
      split at q
      · rename_i he
        exact q F H σ (hd.back S he) .refl (Ext.refl.mono fun a o => own_back hd.at_ o)
      · exact q.elim
  · exact q.elim
end
section
variable {X : Cx} {A : List Nat} {x : Str} {px pos : Pos} {tg : Expr} {body : List Stmt} {g : G} {mb : MS}
theorem s_forL (i : Nat) (A' : List Nat) (hp : PassesOwn (model X.prog X.w) X.A X.env X.xe) (hg : VG X A' tg g) (hb : VSs X A' body mb) (hi : i ∉ A' := by decide) (hA : ∀ k ∈ A', k ∈ A := by decide) (hc : X.calm = true := by rfl)
    (hN : X.N[i]? = some x := by rfl) (hv : Vis X.env.scope x := by first | exact .inl rfl | exact .inr (.inl rfl) | exact .inr (.inr rfl)) (hd : (x == ("__debug__" : Str)) = false := by decide) (hcd : (x == ("__classdict__" : Str)) = false := by decide)
    (hs : ∀ v, foldedSetIterable (.Name x px) X.env v = pure v := by intro _; rfl) : VS X A (.For tg (.Name x px) body [] pos) (mForL i g mb) := fun W tk =>
  (ps_for hp hc (pi_list (pe_var hN hv hd hcd)) (hg W tk) (hb W tk) hs).weak fun D σ H h => rdS_forL hi hA h
end
end VL

/-! Methods of a text that tell a flat value; chained comparisons. -/
namespace VL
open PySem L2
/-- what a text tells, asked with items -/
def LStr (r : V → List V → Hp → VK → Prop) (f : Str → List T → Option T) (K : Fr) : Prop :=
  ∀ F H z as us u Q, Same F H → RepL K F H as us → f z us = some u → (∀ v, RepF K F v u → Q v H) → r (.str z) as H Q
def askS (f : Str → List T → Option T) (z : Str) (ops : List Opd) : M T := fun env => (evOps ops env).bind fun its e => match (fill its e).bind (f z) with
  | some u => if u.own then .no else .ok u e
  | none => .no
def mStrM (f : Str → List T → Option T) (o : Opd) (ops : List Opd) : M T := fun env => match o with
  | .val m => (m env).bind fun t e => match t with
    | .str z => askS f z ops e
    | _ => .no
  | .sl i => match env[i]? with
    | some (some (.str z)) => askS f z ops env
    | _ => .no
section
variable {K : Fr} {W : WX} {mg : MG} {σ : St}
theorem rdE_askS {r : V → List V → Hp → VK → Prop} {f : Str → List T → Option T} {z : Str} {ops : List Opd} {F H : Hp} {env : Env} {Q : VK} {L M0 : Addr → Prop} {F0 H0 : Hp} (P : LStr r f K) (S : Sta K F H σ env) (x0 : Ext F0 H0 L F H M0) (hm : ∀ a, Own σ env a → M0 a)
    (q : PostE K W mg σ F0 H0 L (askS f z ops env) Q) : rdA K W mg ops σ H fun xs H2 => r (.str z) xs H2 Q := by
  refine ⟨F, env, S, ?_⟩
  unfold askS at q
  cases hr : evOps ops env with
  | no => rw [hr] at q; exact q.elim
  | ex c e => rw [hr] at q; exact PostX.trans q x0 hm
  | ok its e =>
    rw [hr] at q
    simp only [R.bind] at q
    intro F2 H2 as S2 okv sp nw x2
    cases hf : fill its e with
    | none => rw [hf] at q; exact q.elim
    | some us =>
      rw [hf] at q
      simp only [Option.bind_some] at q
      cases hp : f z us with
      | none => rw [hp] at q; exact q.elim
      | some u =>
        rw [hp] at q
        simp only at q
        split at q
        · exact q.elim
        · refine P F2 H2 z as us u Q S2.sub (fill_ok S2 okv hf) hp fun v ru => ?_
          refine q F2 H2 v S2 (.ofF ru) (fun a o => by have := o.1; rw [ru.notown] at this; cases this) ?_
          exact x0.trans x2 hm fun a m => m.elim (fun o => .inr (.inl o)) fun o => by have := o.1; rw [ru.notown] at this; cases this
theorem rdE_str {r : V → List V → Hp → VK → Prop} {f : Str → List T → Option T} {o : Opd} {ops : List Opd} {H : Hp} {Q : VK} (P : LStr r f K) (h : rdE K W mg (mStrM f o ops) σ H Q) :
    tO K W mg o σ H fun x H1 => tyV K "str" x H1 ∧ rdA K W mg ops σ H1 fun xs H2 => r x xs H2 Q := by
  obtain ⟨F, env, S, q⟩ := h
  cases o with
  | val m =>
    refine ⟨F, env, S, ?_⟩
    unfold mStrM at q
    simp only at q
    cases hm : m env with
    | no => rw [hm] at q; exact q.elim
    | ex c e => rw [hm] at q; exact q
    | ok t e =>
      rw [hm] at q
      simp only [R.bind] at q
      intro F1 H1 v S1 r1 n1 x1
      split at q
      · rename_i z
        cases rep_str r1
        exact ⟨rfl, rdE_askS P S1 x1 (fun a o => .inl o) q⟩
      · exact q.elim
  | sl i =>
    unfold mStrM at q
    simp only at q
    split at q
    · rename_i z e0
      obtain ⟨v, ev, rv⟩ := S.rep i _ e0
      cases rep_str rv
      exact ⟨_, ev, rfl, rdE_askS P S (Ext.refl (L := Own σ env)) (fun a o => o) q⟩
    · exact q.elim
end
def fCount : Str → List T → Option T
  | z, [.str y] => some (.int (Txt.count z y))
  | _, _ => none
theorem repL_str {K : Fr} {F H : Hp} {as : List V} {y : Str} (h : RepL K F H as [.str y]) : as = [.str y] := by
  cases h with
  | cons a b => cases b; cases rep_str a; rfl
theorem lstr_count {K : Fr} : LStr (fun x xs H Q => ∃ a b, x = .str a ∧ xs = [.str b] ∧ Q (.int (Txt.count a b)) H) fCount K := fun F H z as us u Q s ra e k => by
  unfold fCount at e
  split at e
  · rename_i y
    cases e
    rw [repL_str ra]
    exact ⟨z, y, rfl, rfl, k _ (by unfold RepF; rfl)⟩
  · cases e
section
variable {X : Cx} {o e : Expr} {oo oe : Opd} {es : List Expr} {ops : List Opd} {apos cpos : Pos}
theorem e_count (ho : VO X o oo) (ha : VA X (e :: es) ops) (hbase : attributeBase o "count" X.env (eval o X.env) = eval o X.env := by rfl)
    (hfew : ((backTo cpos (starEach (e :: es) X.env)).all (fun x => !x.1) && (backToKw cpos (keywordEach [] X.env)).all (fun x => x.1.isSome)
      && decide ((e :: es).length + ([] : List Keyword).length + (if ([] : List Keyword).isEmpty then 0 else 1) < 30)) = true := by rfl)
    (hline : (apos.endLine == cpos.line) = true := by rfl) (hs : starEach (e :: es) X.env = (false, eval e X.env) :: starEach es X.env := by rfl) (hplain : (backTo cpos (starEach es X.env)).any (·.1) = false := by rfl) :
    VE X (.Call (.Attribute o "count" apos) (e :: es) [] cpos) (mStrM fCount oo ops) := fun W tk =>
  (pe_bm PySem.F.plainAttrs_str PySem.F.slot_str_count PySem.F.type_str_count mt_count (ho W tk) (ha W tk) hbase hfew hline hs hplain).weak fun σ H Q h => rdE_str lstr_count h
end
/-! ### a op b op' c, b flat -/
def flatT : T → Bool
  | .int _ => true
  | .str _ => true
  | .bl _ => true
  | _ => false
def mChain (p p' : List T → Option T) (oa ob oc : Opd) : M T := fun env => (evOps [oa, ob] env).bind fun its e => match fill its e with
  | some [ta, tb] => if flatT tb then match p [ta, tb] with
    | some (.bl true) => (evOps [oc] e).bind fun its' e' => match fill its' e' with
      | some [tc] => match p' [tb, tc] with
        | some t => .ok t e'
        | none => .no
      | _ => .no
    | some (.bl false) => .ok (.bl false) e
    | _ => .no
    else .no
  | _ => .no
theorem flat_rep {K : Fr} {F H F' H' : Hp} {v : V} {t : T} (h : flatT t = true) (r : Rep K F H v t) : Rep K F' H' v t := by
  cases t <;> first | (cases h; done) | (simpa [Rep, RepF] using r)
section
variable {K : Fr} {W : WX} {mg : MG} {σ : St}
theorem rdE_chain {r r' : R2} {p p' : List T → Option T} {oa ob oc : Opd} {H : Hp} {Q : VK} (P : Prim K (run2 r) p) (P' : Prim K (run2 r') p') (h : rdE K W mg (mChain p p' oa ob oc) σ H Q) :
    tChain r r' (tO K W mg oa) (tO K W mg ob) (tO K W mg oc) σ H Q := by
  have key : rdA K W mg [oa, ob] σ H fun vs H1 => ∀ x y, vs = [x, y] → r x y H1 fun z H3 => ∃ k, z = .bl k ∧ (if k = true then tO K W mg oc σ H3 fun w' H4 => r' y w' H4 Q else Q (.bl false) H3) := by
    obtain ⟨F, env, S, q⟩ := h
    refine ⟨F, env, S, ?_⟩
    unfold mChain at q
    cases hr : evOps [oa, ob] env with
    | no => rw [hr] at q; exact q.elim
    | ex c e => rw [hr] at q; exact q
    | ok its e =>
      rw [hr] at q
      simp only [R.bind] at q
      intro F1 H1 vs S1 okv sp nw x1 x y hxy
      split at q
      · rename_i ta tb hf
        have rl := fill_ok S1 okv hf
        subst hxy
        split at q
        · rename_i hfl
          have ry : Rep K F1 H1 y tb := by
            cases rl with
            | cons a b => cases b with
              | cons c d => exact c
          split at q
          · rename_i hp
            refine P F1 H1 [x, y] [ta, tb] (.bl true) _ S1.sub rl hp (fun F2 H2 v sm rv E2 => ?_) x y rfl
            cases rep_bl rv
            refine ⟨true, rfl, ?_⟩
            simp only [if_true]
            have S2 : Sta K F2 H2 σ e := S1.ext E2 sm fun a _ z => z
            have x2 : Ext F H (Own σ env) F2 H2 (fun a => Own σ e a ∨ ArOwn [x, y] its a) := x1.trans E2 (fun a z => z.elim) fun a m => .inl m
            have x2' : Ext F H (Own σ env) F2 H2 (Own σ e) := x2.mono fun a o => .inl o
            refine tO_mono (rdA1 (Q := fun ws H4 => ∀ w', ws = [w'] → r' y w' H4 Q) ⟨F2, e, S2, ?_⟩) fun w' H4 g => g w' rfl
            cases hr2 : evOps [oc] e with
            | no => rw [hr2] at q; exact q.elim
            | ex c e2 => rw [hr2] at q; exact PostX.trans q x2' fun a o => o
            | ok its2 e2 =>
              rw [hr2] at q
              simp only [R.bind] at q
              intro F3 H3 ws S3 okv3 sp3 nw3 x3 w' hw
              subst hw
              split at q
              · rename_i tc hf2
                have rl3 := fill_ok S3 okv3 hf2
                split at q
                · rename_i t hp2
                  have rw3 : Rep K F3 H3 w' tc := by
                    cases rl3 with
                    | cons a b => exact a
                  refine P' F3 H3 [y, w'] [tb, tc] t Q S3.sub (.cons (flat_rep hfl ry) (.cons rw3 .nil)) hp2 (fun F4 H4 v sm4 rv4 E4 => ?_) y w' rfl
                  have hn : ∀ a, OwnV v t a → ¬ Own σ e2 a := fun a o z => by
                    rcases E4.own a o with w | w
                    · exact w
                    · obtain ⟨_, u, q2⟩ := S3.ownAt z
                      rw [q2] at w; cases w
                  have x3' : Ext F H (Own σ env) F3 H3 (Own σ e2) := (x2'.trans x3 (fun a o => o) fun a m => .inr m).mono fun a o => .inl o
                  refine q F4 H4 v (S3.ext E4 sm4 fun a _ z => z) rv4 hn (x3'.trans E4 (fun a z => z.elim) fun a m => m)
                · exact q.elim
              · exact q.elim
          · rename_i hp
            refine P F1 H1 [x, y] [ta, tb] (.bl false) _ S1.sub rl hp (fun F2 H2 v sm rv E2 => ?_) x y rfl
            cases rep_bl rv
            refine ⟨false, rfl, ?_⟩
            simp only [Bool.false_eq_true, if_false]
            have S2 : Sta K F2 H2 σ e := S1.ext E2 sm fun a _ z => z
            have x2 : Ext F H (Own σ env) F2 H2 (fun a => Own σ e a ∨ ArOwn [x, y] its a) := x1.trans E2 (fun a z => z.elim) fun a m => .inl m
            exact q F2 H2 (.bl false) S2 (.ofF (by unfold RepF; rfl)) (fun a o => by cases o.1) (x2.mono fun a m => m.elim .inl fun o => by cases o.1)
          · exact q.elim
        · exact q.elim
      · exact q.elim
  exact tO_mono (rdA2 key) fun x H1 q => tO_mono q fun y H2 q => q x y rfl
end
section
variable {X : Cx} {a b c : Expr} {oa ob oc : Opd} {pos : Pos} {op op' : CmpOp} {r r' : R2} {p p' : List T → Option T}
theorem ve_chain (ho : OpR X (compareOp op) r) (ho' : OpR X (compareOp op') r') (P : Prim X.K (run2 r) p) (P' : Prim X.K (run2 r') p') (ha : VO X a oa) (hb : VO X b ob) (hc : VO X c oc) (hm : lastMarks [op, op'] [b, c] = false := by with_unfolding_all rfl) :
    VE X (.Compare a [op, op'] [b, c] pos) (mChain p p' oa ob oc) := fun W tk => (pe_chain ho ho' (ha W tk) (hb W tk) (hc W tk) hm).weak fun σ H Q h => rdE_chain P P' h
theorem vt_chain (ho : OpR X (compareOp op) r) (ho' : OpR X (compareOp op') r') (P : Prim X.K (run2 r) p) (P' : Prim X.K (run2 r') p') (ha : VO X a oa) (hb : VO X b ob) (hc : VO X c oc) (hm : lastMarks [op, op'] [b, c] = false := by with_unfolding_all rfl) :
    VT X (.Compare a [op, op'] [b, c] pos) (mTst (mChain p p' oa ob oc)) := fun W tk => (pt_chain ho ho' (ha W tk) (hb W tk) (hc W tk) hm).weak fun σ H Q h => rdE_chain P P' (rdT_tst h)
end
end VL

/-! Reckoning with the terms: what simp may use. -/
namespace VL
open PySem L2
section
variable {α β : Type} {a : α} {e env : Env} {c : Str} {t u : T} {i j : Int} {n k : Nat}
@[simp] theorem bind_ok {f : α → Env → R β} : (R.ok a e).bind f = f a e := rfl
@[simp] theorem bind_no {f : α → Env → R β} : (R.no : R α).bind f = .no := rfl
@[simp] theorem bind_ex {f : α → Env → R β} : (R.ex c e : R α).bind f = .ex c e := rfl
@[simp] theorem evOps_nil' : evOps [] env = .ok [] env := rfl
@[simp] theorem evOps_val' {m : M T} {r : List Opd} : evOps (.val m :: r) env = (m env).bind fun t e => (evOps r e).bind fun ts e' => .ok (.val t :: ts) e' := rfl
theorem evOps_sl' {r : List Opd} : evOps (.sl n :: r) env = match env[n]? with
    | some (some _) => (evOps r env).bind fun ts e' => .ok (.sl n :: ts) e'
    | _ => .no := rfl
@[simp] theorem fill_nil' : fill [] env = some [] := rfl
@[simp] theorem fill_val' {r : List Ar} : fill (.val t :: r) env = (fill r env).map (t :: ·) := rfl
theorem fill_sl' {r : List Ar} : fill (.sl n :: r) env = match env[n]? with
    | some (some t) => (fill r env).map (t :: ·)
    | _ => none := rfl
@[simp] theorem evOps_sl1 {r : List Opd} (h : env[n]? = some (some t)) : evOps (.sl n :: r) env = (evOps r env).bind fun ts e' => .ok (.sl n :: ts) e' := by rw [evOps_sl', h]
@[simp] theorem fill_sl1 {r : List Ar} (h : env[n]? = some (some t)) : fill (.sl n :: r) env = (fill r env).map (t :: ·) := by rw [fill_sl', h]
@[simp] theorem allV_nil' : allV [] = some [] := rfl
@[simp] theorem allV_val' {r : List Ar} : allV (.val t :: r) = (allV r).map (t :: ·) := rfl
@[simp] theorem mPrim_eq {p : List T → Option T} {ops : List Opd} : mPrim p ops env = (evOps ops env).bind fun its e => match (fill its e).bind p with
  | some t => .ok t e
  | none => .no := rfl
@[simp] theorem mC_eq : mC t env = .ok t env := rfl
@[simp] theorem mVar_1 (h : env[n]? = some (some t)) : mVar n env = if t.own then .ok t.frz (env.set n (some t.frz)) else .ok t env := by unfold mVar; rw [h]
@[simp] theorem mTru_val {m : M T} : mTru (.val m) env = (m env).bind fun t e => truR (tru t) e := rfl
@[simp] theorem mTru_sl (h : env[n]? = some (some t)) : mTru (.sl n) env = truR (tru t) env := by unfold mTru; simp [h]
@[simp] theorem truR_some {b : Bool} : truR (some b) env = .ok b env := rfl
@[simp] theorem mTst_eq {m : M T} : mTst m env = (m env).bind fun t e => match t with
  | .bl b => .ok b e
  | _ => .no := rfl
@[simp] theorem mNotT_eq {m : M Bool} : mNotT m env = (m env).bind fun b e => .ok (!b) e := rfl
@[simp] theorem mAndT_eq {m n : M Bool} : mAndT m n env = (m env).bind fun c e => if c then n e else .ok false e := rfl
@[simp] theorem mOrT_eq {m n : M Bool} : mOrT m n env = (m env).bind fun c e => if c then .ok true e else n e := rfl
@[simp] theorem mIte_eq {c : M Bool} {a b : M T} : mIte c a b env = (c env).bind fun d e => if d then a e else b e := rfl
@[simp] theorem mNot_eq {o : Opd} : mNot o env = (mTru o env).bind fun b e => .ok (.bl (!b)) e := rfl
@[simp] theorem mAnd_eq {a b : M T} : mAnd a b env = (a env).bind fun t e => match tru t with
  | some true => b e
  | some false => if t.own then .no else .ok t e
  | none => .no := rfl
@[simp] theorem mOr_eq {a b : M T} : mOr a b env = (a env).bind fun t e => match tru t with
  | some true => if t.own then .no else .ok t e
  | some false => b e
  | none => .no := rfl
@[simp] theorem mTup_eq {ops : List Opd} : mTup ops env = (evOps ops env).bind fun its e => match allV its with
  | some ts => .ok (.tup (ts.map T.frz)) e
  | none => .no := rfl
@[simp] theorem mLst_eq {ops : List Opd} : mLst ops env = (evOps ops env).bind fun its e => match allV its with
  | some ts => .ok (.lst true (ts.map T.frz)) e
  | none => .no := rfl
@[simp] theorem mDict_eq {ops : List Opd} : mDict ops env = (evOps ops env).bind fun its e => match (allV its).bind fun ts => pairsOf (ts.map T.frz) with
  | some kts => .ok (mkDic kts) e
  | none => .no := rfl
@[simp] theorem mCall_eq {d : Den} {ops : List Opd} : mCall d ops env = (evOps ops env).bind fun its e => match fill its e with
  | some ts => if nodupB (ownSl its ts) = true then
      match d ts with
      | .ok t ps => .ok t (wb its ts ps e)
      | .ex c ps => .ex c (wb its ts ps e)
      | .no => .no
    else .no
  | none => .no := rfl
@[simp] theorem mSkip_eq : mSkip env = .nx env := rfl
@[simp] theorem mBreak_eq : mBreak env = .bk env := rfl
@[simp] theorem mCont_eq : mCont env = .ct env := rfl
@[simp] theorem mSeq_eq {a b : MS} : mSeq a b env = match a env with
  | .nx e => b e
  | r => r := rfl
@[simp] theorem mSet_eq {m : M T} : mSet n m env = match m env with
  | .ok t e => .nx (e.set n (some t))
  | .ex c e => .ex c e
  | .no => .no := rfl
@[simp] theorem mRet_eq {m : M T} : mRet m env = match m env with
  | .ok t e => .rt t e
  | .ex c e => .ex c e
  | .no => .no := rfl
@[simp] theorem mExp_eq {m : M T} : mExp m env = match m env with
  | .ok t e => .nx e
  | .ex c e => .ex c e
  | .no => .no := rfl
@[simp] theorem mRetV_eq (h : env[n]? = some (some t)) : mRetV n env = .rt t (env.set n none) := by unfold mRetV; rw [h]
@[simp] theorem mIf_eq {c : M Bool} {a b : MS} : mIf c a b env = match c env with
  | .ok d e => if d then a e else b e
  | .ex c e => .ex c e
  | .no => .no := by unfold mIf onT; cases c env <;> simp; split <;> rfl
@[simp] theorem mPar_eq {is : List Nat} {ops : List Opd} : mPar is ops env = match evOps ops env with
  | .ok its e => match allV its with
    | some ts => .nx (putAll is ts e)
    | none => .no
  | .ex c e => .ex c e
  | .no => .no := rfl
@[simp] theorem putAll_nil {ts : List T} : putAll [] ts env = env := rfl
@[simp] theorem putAll_cons {is : List Nat} {ts : List T} : putAll (n :: is) (t :: ts) env = putAll is ts (env.set n (some t)) := rfl
@[simp] theorem mAsg_eq {m : M T} {g : G} : mAsg m g env = match m env with
  | .ok t e => match g t e with
    | .ok _ e' => .nx e'
    | _ => .no
  | .ex c e => .ex c e
  | .no => .no := rfl
@[simp] theorem gName_eq : gName n t env = .ok () (env.set n (some t)) := rfl
@[simp] theorem gsNil_eq : gsNil [] env = .ok () env := rfl
@[simp] theorem gsCons_eq {g : G} {r : Gs} {ts : List T} : gsCons g r (t :: ts) env = (g t env).bind fun _ e1 => r ts e1 := rfl
@[simp] theorem gTup_eq {r : Gs} {ts : List T} : gTup n r (.tup ts) env = if ts.length = n then r ts env else .no := rfl
@[simp] theorem mLoop_nil {g : G} {b : MS} : mLoop g b [] env = .nx env := rfl
theorem mLoop_cons {g : G} {b : MS} {ts : List T} : mLoop g b (t :: ts) env = match g t env with
    | .ok _ e => mBody b (mLoop g b ts) e
    | _ => .no := rfl
theorem mBody_eq {b k : MS} : mBody b k env = match b env with
  | .nx e => k e
  | .ct e => k e
  | .bk e => .nx e
  | r => r := rfl
@[simp] theorem mFor_eq {m : M (List T)} {g : G} {b : MS} : mFor m g b env = match m env with
  | .ok ts e => mLoop g b ts e
  | .ex c e => .ex c e
  | .no => .no := rfl
@[simp] theorem mItems_eq {m : M T} : mItems m env = (m env).bind fun t e => match itemsT t with
  | some ts => .ok ts e
  | none => .no := rfl
@[simp] theorem mRng_eq {ops : List Opd} : mRng ops env = (evOps ops env).bind fun its e => match (fill its e).bind rngOf with
  | some ts => .ok ts e
  | none => .no := rfl
@[simp] theorem mMut_eq {f : List T → List T → Option (T × List T)} {ops : List Opd} {ts0 : List T} (h : env[n]? = some (some (.lst true ts0))) : mMut f n ops env = (evOps ops env).bind fun its e => match allV its, e[n]? with
    | some us, some (some (.lst true ts)) => match f ts (us.map T.frz) with
      | some (u, ts') => .ok u (e.set n (some (.lst true ts')))
      | none => .no
    | _, _ => .no := by unfold mMut; first | (simp [h]; done) | (simp [h]; rfl)
@[simp] theorem gStore_eq {k : Opd} (h : env[n]? = some (some u)) : gStore n k t env = match evOps [k] env with
    | .ok its e1 => match fill its e1, e1[n]? with
      | some [kt], some (some c) => match putT c kt t.frz with
        | some c' => .ok () (e1.set n (some c'))
        | none => .no
      | _, _ => .no
    | _ => .no := by unfold gStore; first | (simp [h]; done) | (simp [h]; rfl)

@[simp] theorem wb_nil {ts : List T} {os : Env} : wb [] ts os env = env := by simp [wb]
@[simp] theorem wb_sl {r : List Ar} {ts : List T} {o : Option T} {os : Env} : wb (.sl n :: r) (t :: ts) (o :: os) env = wb r ts os (if t.own then env.set n o else env) := rfl
@[simp] theorem wb_val {r : List Ar} {ts : List T} {o : Option T} {os : Env} : wb (.val u :: r) (t :: ts) (o :: os) env = wb r ts os env := rfl
@[simp] theorem mkDen_eq {N : Nat} {ap : List Nat} {body : MS} {ts : List T} : mkDen N n ap body ts = if (ts.length == n && ap.all fun i => !((ts[i]?.map T.own).getD false)) = true then
    match body (envOf ts ++ List.replicate (N - n) none) with
    | .nx e => .ok .non (fin ts e)
    | .rt t e => .ok t (fin ts e)
    | .ex c e => .ex c (fin ts e)
    | _ => .no
  else .no := rfl
@[simp] theorem envOf_nil : envOf [] = [] := rfl
@[simp] theorem envOf_cons {ts : List T} : envOf (t :: ts) = some t :: envOf ts := rfl
/-! primitive operations -/
@[simp] theorem pAdd_ii : pAdd [.int i, .int j] = some (.int (i + j)) := rfl
@[simp] theorem pSub_ii : pSub [.int i, .int j] = some (.int (i - j)) := rfl
@[simp] theorem pMul_ii : pMul [.int i, .int j] = if mulOk i j then some (.int (i * j)) else none := rfl
@[simp] theorem pFdiv_ii : pFdiv [.int i, .int j] = if 0 < j ∧ j.natAbs.log2 < 9000 then some (.int (i / j)) else if j ≠ 0 ∧ j.natAbs < 1073741824 then some (.int (i.fdiv j)) else none := rfl
@[simp] theorem pMod_ii : pMod [.int i, .int j] = if 0 < j then some (.int (i % j)) else if j ≠ 0 then some (.int (i.fmod j)) else none := rfl
@[simp] theorem pNeg_i : pNeg [.int i] = some (.int (-i)) := rfl
@[simp] theorem pAbs_i : pAbs [.int i] = some (.int (if i < 0 then -i else i)) := rfl
@[simp] theorem pMax2_ii : pMax2 [.int i, .int j] = some (.int (if j > i then j else i)) := rfl
@[simp] theorem pMin2_ii : pMin2 [.int i, .int j] = some (.int (if j < i then j else i)) := rfl
@[simp] theorem pIntOf_i : pIntOf [.int i] = some (.int i) := rfl
@[simp] theorem pIntOf_b {b : Bool} : pIntOf [.bl b] = some (.int (if b then 1 else 0)) := rfl
@[simp] theorem pLt_ii : pLt [.int i, .int j] = some (.bl (decide (i < j))) := rfl
@[simp] theorem pLe_ii : pLe [.int i, .int j] = some (.bl (decide (i ≤ j))) := rfl
@[simp] theorem pGt_ii : pGt [.int i, .int j] = some (.bl (decide (j < i))) := rfl
@[simp] theorem pGe_ii : pGe [.int i, .int j] = some (.bl (decide (j ≤ i))) := rfl
@[simp] theorem pEq_ii : pEq [.int i, .int j] = some (.bl (i == j)) := rfl
@[simp] theorem pNe_ii : pNe [.int i, .int j] = some (.bl (!(i == j))) := rfl
@[simp] theorem pEq_bb {a b : Bool} : pEq [.bl a, .bl b] = some (.bl (a == b)) := rfl
@[simp] theorem pIx_l {o : Bool} {ts : List T} : pIx [.lst o ts, .int i] = atI ts i := rfl
@[simp] theorem pIx_t {ts : List T} : pIx [.tup ts, .int i] = atI ts i := rfl
@[simp] theorem pLen_l {o : Bool} {ts : List T} : pLen [.lst o ts] = some (.int ts.length) := rfl
@[simp] theorem pLen_t {ts : List T} : pLen [.tup ts] = some (.int ts.length) := rfl
@[simp] theorem pListOf_l {o : Bool} {ts : List T} : pListOf [.lst o ts] = some (.lst true ts) := rfl
@[simp] theorem pListOf_t {ts : List T} : pListOf [.tup ts] = some (.lst true ts) := rfl
@[simp] theorem pTupOf_l {o : Bool} {ts : List T} : pTupOf [.lst o ts] = some (.tup ts) := rfl
@[simp] theorem pTupOf_t {ts : List T} : pTupOf [.tup ts] = some (.tup ts) := rfl
end
end VL
namespace VL
open PySem L2
section
variable {t : T} {ts : List T} {o : Bool} {i : Int} {b : Bool} {z : Str} {ks : List Key} {env : Env} {x : Option T}
@[simp] theorem own_non : T.own .non = false := rfl
@[simp] theorem own_bl : T.own (.bl b) = false := rfl
@[simp] theorem own_int : T.own (.int i) = false := rfl
@[simp] theorem own_str : T.own (.str z) = false := rfl
@[simp] theorem own_tup : T.own (.tup ts) = false := rfl
@[simp] theorem own_lst : T.own (.lst o ts) = o := rfl
@[simp] theorem own_dic : T.own (.dic o ks ts) = o := rfl
@[simp] theorem own_scr {ns : List Int} : T.own (.scr ns) = false := rfl
@[simp] theorem frz_non : T.frz .non = .non := rfl
@[simp] theorem frz_bl : T.frz (.bl b) = .bl b := rfl
@[simp] theorem frz_int : T.frz (.int i) = .int i := rfl
@[simp] theorem frz_str : T.frz (.str z) = .str z := rfl
@[simp] theorem frz_tup : T.frz (.tup ts) = .tup ts := rfl
@[simp] theorem frz_lst : T.frz (.lst o ts) = .lst false ts := rfl
@[simp] theorem frz_dic : T.frz (.dic o ks ts) = .dic false ks ts := rfl
@[simp] theorem frz_scr {ns : List Int} : T.frz (.scr ns) = .scr ns := rfl
@[simp] theorem tru_non : tru .non = some false := rfl
@[simp] theorem tru_bl : tru (.bl b) = some b := rfl
@[simp] theorem tru_int : tru (.int i) = some (i != 0) := rfl
@[simp] theorem tru_lst : tru (.lst o ts) = some (!ts.isEmpty) := rfl
@[simp] theorem tru_tup : tru (.tup ts) = some (!ts.isEmpty) := rfl
@[simp] theorem items_tup : itemsT (.tup ts) = some ts := rfl
@[simp] theorem items_lst : itemsT (.lst o ts) = some ts := rfl
@[simp] theorem items_scr {ns : List Int} : itemsT (.scr ns) = some (ns.map T.int) := rfl
@[simp] theorem fin_nil : fin [] env = [] := rfl
@[simp] theorem fin_cons {e : Env} : fin (t :: ts) (x :: e) = (if t.own then x else some t) :: fin ts e := rfl
@[simp] theorem ownSl_nil : ownSl [] ts = [] := by simp [ownSl]
@[simp] theorem ownSl_sl {n : Nat} {r : List Ar} : ownSl (.sl n :: r) (t :: ts) = if t.own then n :: ownSl r ts else ownSl r ts := rfl
@[simp] theorem ownSl_val {u : T} {r : List Ar} : ownSl (.val u :: r) (t :: ts) = ownSl r ts := rfl
@[simp] theorem nodupB_nil : nodupB [] = true := rfl
@[simp] theorem nodupB_cons {n : Nat} {r : List Nat} : nodupB (n :: r) = (!r.contains n && nodupB r) := rfl
@[simp] theorem mYes_eq : mYes env = .ok true env := rfl
end
end VL

/-! Reckoning with the terms: what holds behind them. -/
namespace VL
open PySem L2
def Ok0 {α : Type} (r : R α) (Q : α → Env → Prop) : Prop := match r with
  | .ok a e => Q a e
  | _ => False
def SOk0 (r : SR) (nx : Env → Prop) (rt : T → Env → Prop) (bk ct : Env → Prop) : Prop := match r with
  | .nx e => nx e
  | .rt t e => rt t e
  | .bk e => bk e
  | .ct e => ct e
  | _ => False
inductive Ok {α : Type} (r : R α) (Q : α → Env → Prop) : Prop
  | mk (h : Ok0 r Q)
  | mk2 (h : Ok0 r Q) (z : True)
inductive SOk (r : SR) (nx : Env → Prop) (rt : T → Env → Prop) (bk ct : Env → Prop) : Prop
  | mk (h : SOk0 r nx rt bk ct)
  | mk2 (h : SOk0 r nx rt bk ct) (z : True)
theorem Ok.out {α : Type} {r : R α} {Q : α → Env → Prop} (h : Ok r Q) : Ok0 r Q := by cases h <;> assumption
theorem SOk.out {r : SR} {nx : Env → Prop} {rt : T → Env → Prop} {bk ct : Env → Prop} (h : SOk r nx rt bk ct) : SOk0 r nx rt bk ct := by cases h <;> assumption
section
variable {α : Type} {Q Q' : α → Env → Prop} {r : R α} {a : α} {e env : Env} {t u : T} {n i : Nat}
theorem Ok.mono (h : Ok r Q) (q : ∀ a e, Q a e → Q' a e) : Ok r Q' := by
  cases r with
  | ok a e => exact (.mk (q a e h.out))
  | ex c e => exact h.out.elim
  | no => exact h.out.elim
theorem ok_of (h : r = .ok a e) (q : Q a e) : Ok r Q := by rw [h]; exact (.mk (q))
theorem Ok.get (h : Ok r Q) : ∃ a e, r = .ok a e ∧ Q a e := by
  cases r with
  | ok a e => exact ⟨a, e, rfl, h.out⟩
  | ex c e => exact h.out.elim
  | no => exact h.out.elim
end
section
variable {Q : T → Env → Prop} {QB : Bool → Env → Prop} {QA : List Ar → Env → Prop} {QI : List T → Env → Prop} {QU : Unit → Env → Prop} {e env : Env} {t u : T} {n i : Nat} {p : List T → Option T} {ops r : List Opd} {m : M T} {mb mc : M Bool} {o : Opd}
theorem ok_bind {α β : Type} {x : R α} {f : α → Env → R β} {Q : β → Env → Prop} (h : Ok x fun a e => Ok (f a e) Q) : Ok (x.bind f) Q := by
  cases x with
  | ok a e => exact h.out
  | ex c e => exact h.out.elim
  | no => exact h.out.elim
theorem w_C (q : Q t env) : Ok (mC t env) Q := (.mk (q))
theorem w_var (h : env[n]? = some (some t)) (ho : t.own = false) (q : Q t env) : Ok (mVar n env) Q := by unfold mVar; rw [h]; simp only [ho]; exact (.mk (q))
theorem w_varO (h : env[n]? = some (some t)) (ho : t.own = true) (q : Q t.frz (env.set n (some t.frz))) : Ok (mVar n env) Q := by unfold mVar; rw [h]; simp only [ho]; exact (.mk (q))
theorem w_nil (q : QA [] env) : Ok (evOps [] env) QA := (.mk (q))
theorem w_val (h : Ok (m env) fun t e => Ok (evOps r e) fun ts e' => QA (.val t :: ts) e') : Ok (evOps (.val m :: r) env) QA := ok_bind (h.mono fun t e h => ok_bind (h.mono fun _ _ q => (.mk (q))))
theorem w_sl (h : env[n]? = some (some t)) (q : Ok (evOps r env) fun ts e' => QA (.sl n :: ts) e') : Ok (evOps (.sl n :: r) env) QA := by
  unfold evOps; rw [h]; exact ok_bind (q.mono fun _ _ q => (.mk (q)))
/-- a primitive operation -/
theorem w_prim (h : Ok (evOps ops env) fun its e => ∃ ts, fill its e = some ts ∧ ∃ t, p ts = some t ∧ Q t e) : Ok (mPrim p ops env) Q := by
  unfold mPrim
  refine ok_bind (h.mono fun its e ⟨ts, h1, t, h2, q⟩ => ?_)
  rw [h1, Option.bind_some, h2]
  exact (.mk (q))
theorem w_tup (h : Ok (evOps ops env) fun its e => ∃ ts, allV its = some ts ∧ Q (.tup (ts.map T.frz)) e) : Ok (mTup ops env) Q := by
  unfold mTup
  refine ok_bind (h.mono fun its e ⟨ts, h1, q⟩ => ?_)
  rw [h1]; exact (.mk (q))
theorem w_lst (h : Ok (evOps ops env) fun its e => ∃ ts, allV its = some ts ∧ Q (.lst true (ts.map T.frz)) e) : Ok (mLst ops env) Q := by
  unfold mLst
  refine ok_bind (h.mono fun its e ⟨ts, h1, q⟩ => ?_)
  rw [h1]; exact (.mk (q))
theorem w_dict (h : Ok (evOps ops env) fun its e => ∃ ts, allV its = some ts ∧ ∃ kts, pairsOf (ts.map T.frz) = some kts ∧ Q (mkDic kts) e) : Ok (mDict ops env) Q := by
  unfold mDict
  refine ok_bind (h.mono fun its e ⟨ts, h1, kts, h2, q⟩ => ?_)
  rw [h1, Option.bind_some, h2]; exact (.mk (q))
theorem w_call {d : Den} (h : Ok (evOps ops env) fun its e => ∃ ts, fill its e = some ts ∧ nodupB (ownSl its ts) = true ∧ Ok (d ts) fun t ps => Q t (wb its ts ps e)) : Ok (mCall d ops env) Q := by
  unfold mCall
  refine ok_bind (h.mono fun its e ⟨ts, h1, h2, q⟩ => ?_)
  rw [h1]
  simp only [h2, if_true]
  cases hd : d ts with
  | ok t ps => rw [hd] at q; exact (.mk (q.out))
  | ex c e => rw [hd] at q; exact q.out.elim
  | no => rw [hd] at q; exact q.out.elim
theorem w_truV (h : Ok (m env) fun t e => ∃ b, tru t = some b ∧ QB b e) : Ok (mTru (.val m) env) QB := by
  unfold mTru
  refine ok_bind (h.mono fun t e ⟨b, h1, q⟩ => ?_)
  rw [h1]; exact (.mk (q))
theorem w_truS {b : Bool} (h : env[n]? = some (some t)) (hb : tru t = some b) (q : QB b env) : Ok (mTru (.sl n) env) QB := by
  unfold mTru
  simp only [h, hb]; exact (.mk (q))
theorem w_tst (h : Ok (m env) fun t e => ∃ b, t = .bl b ∧ QB b e) : Ok (mTst m env) QB := by
  unfold mTst
  refine ok_bind (h.mono fun t e ⟨b, h1, q⟩ => ?_)
  subst h1; exact (.mk (q))
theorem w_notT (h : Ok (mb env) fun b e => QB (!b) e) : Ok (mNotT mb env) QB := ok_bind (h.mono fun _ _ q => (.mk (q)))
theorem w_andT (h : Ok (mb env) fun b e => (b = true → Ok (mc e) QB) ∧ (b = false → QB false e)) : Ok (mAndT mb mc env) QB := ok_bind (h.mono fun b e h => by
  cases b
  · exact (.mk (h.2 rfl))
  · exact h.1 rfl)
theorem w_orT (h : Ok (mb env) fun b e => (b = true → QB true e) ∧ (b = false → Ok (mc e) QB)) : Ok (mOrT mb mc env) QB := ok_bind (h.mono fun b e h => by
  cases b
  · exact h.2 rfl
  · exact (.mk (h.1 rfl)))
theorem w_ite {a b : M T} (h : Ok (mb env) fun c e => (c = true → Ok (a e) Q) ∧ (c = false → Ok (b e) Q)) : Ok (mIte mb a b env) Q := ok_bind (h.mono fun c e h => by
  cases c
  · exact h.2 rfl
  · exact h.1 rfl)
theorem w_not (h : Ok (mTru o env) fun b e => Q (.bl (!b)) e) : Ok (mNot o env) Q := ok_bind (h.mono fun _ _ q => (.mk (q)))
theorem w_and {a b : M T} (h : Ok (a env) fun t e => ∃ c, tru t = some c ∧ (c = true → Ok (b e) Q) ∧ (c = false → t.own = false ∧ Q t e)) : Ok (mAnd a b env) Q := ok_bind (h.mono fun t e ⟨c, h1, h2, h3⟩ => by
  cases c
  · obtain ⟨h4, h5⟩ := h3 rfl
    simp only [h1, h4]; exact (.mk (h5))
  · simp only [h1]; exact h2 rfl)
theorem w_or {a b : M T} (h : Ok (a env) fun t e => ∃ c, tru t = some c ∧ (c = true → t.own = false ∧ Q t e) ∧ (c = false → Ok (b e) Q)) : Ok (mOr a b env) Q := ok_bind (h.mono fun t e ⟨c, h1, h2, h3⟩ => by
  cases c
  · simp only [h1]; exact h3 rfl
  · obtain ⟨h4, h5⟩ := h2 rfl
    simp only [h1, h4]; exact (.mk (h5)))
theorem w_mut {f : List T → List T → Option (T × List T)} {ts0 : List T} (h0 : env[n]? = some (some (.lst true ts0))) (h : Ok (evOps ops env) fun its e => ∃ us ts u ts', allV its = some us ∧ e[n]? = some (some (.lst true ts)) ∧ f ts (us.map T.frz) = some (u, ts') ∧ Q u (e.set n (some (.lst true ts')))) : Ok (mMut f n ops env) Q := by
  unfold mMut
  rw [h0]
  refine ok_bind (h.mono fun its e ⟨us, ts, u, ts', h1, h2, h3, q⟩ => ?_)
  rw [h1, h2]
  simp only [h3]
  exact (.mk (q))
theorem w_ask {f : List T → List T → Option T} {o0 : Bool} {ts0 : List T} (h0 : env[n]? = some (some (.lst o0 ts0))) (h : Ok (evOps ops env) fun its e => ∃ us o ts u, allV its = some us ∧ e[n]? = some (some (.lst o ts)) ∧ f ts (us.map T.frz) = some u ∧ u.own = false ∧ Q u e) : Ok (mAsk f n ops env) Q := by
  unfold mAsk
  rw [h0]
  refine ok_bind (h.mono fun its e ⟨us, o, ts, u, h1, h2, h3, h4, q⟩ => ?_)
  rw [h1, h2]
  simp only [h3, h4]
  exact (.mk (q))
theorem w_items (h : Ok (m env) fun t e => ∃ ts, itemsT t = some ts ∧ QI ts e) : Ok (mItems m env) QI := ok_bind (h.mono fun t e ⟨ts, h1, q⟩ => by rw [h1]; exact (.mk (q)))
theorem w_rng (h : Ok (evOps ops env) fun its e => ∃ ts, fill its e = some ts ∧ ∃ us, rngOf ts = some us ∧ QI us e) : Ok (mRng ops env) QI := ok_bind (h.mono fun its e ⟨ts, h1, us, h2, q⟩ => by rw [h1, Option.bind_some, h2]; exact (.mk (q)))
theorem w_gName (q : QU () (env.set n (some t))) : Ok (gName n t env) QU := (.mk (q))
theorem w_gsNil (q : QU () env) : Ok (gsNil [] env) QU := (.mk (q))
theorem w_gsCons {g : G} {r : Gs} {ts : List T} (h : Ok (g t env) fun _ e => Ok (r ts e) QU) : Ok (gsCons g r (t :: ts) env) QU := ok_bind h
theorem w_gTup {r : Gs} {ts : List T} (hl : ts.length = n) (h : Ok (r ts env) QU) : Ok (gTup n r (.tup ts) env) QU := by unfold gTup; simp only [hl, if_true]; exact h
theorem w_gStore {k : Opd} (h0 : env[n]? = some (some u)) (h : Ok (evOps [k] env) fun its e => ∃ kt c c', fill its e = some [kt] ∧ e[n]? = some (some c) ∧ putT c kt t.frz = some c' ∧ QU () (e.set n (some c'))) : Ok (gStore n k t env) QU := by
  unfold gStore
  rw [h0]
  obtain ⟨its, e, h1, kt, c, c', h2, h3, h4, q⟩ := h.get
  simp only [h1, h2, h3, h4]
  exact (.mk (q))
end
section
variable {nx bk ct nx' bk' ct' : Env → Prop} {rt rt' : T → Env → Prop} {r : SR} {a b : MS} {env e : Env} {t : T} {n i : Nat} {m : M T} {mb : M Bool} {ops : List Opd}
theorem SOk.mono (h : SOk r nx rt bk ct) (h1 : ∀ e, nx e → nx' e) (h2 : ∀ t e, rt t e → rt' t e) (h3 : ∀ e, bk e → bk' e) (h4 : ∀ e, ct e → ct' e) : SOk r nx' rt' bk' ct' := by
  cases r with
  | nx e => exact (.mk (h1 e h.out))
  | rt t e => exact (.mk (h2 t e h.out))
  | bk e => exact (.mk (h3 e h.out))
  | ct e => exact (.mk (h4 e h.out))
  | ex c e => exact h.out.elim
  | no => exact h.out.elim
theorem s_skip (q : nx env) : SOk (mSkip env) nx rt bk ct := (.mk (q))
theorem s_brk (q : bk env) : SOk (mBreak env) nx rt bk ct := (.mk (q))
theorem s_cnt (q : ct env) : SOk (mCont env) nx rt bk ct := (.mk (q))
theorem s_seq (h : SOk (a env) (fun e => SOk (b e) nx rt bk ct) rt bk ct) : SOk (mSeq a b env) nx rt bk ct := by
  unfold mSeq
  cases ha : a env with
  | nx e => rw [ha] at h; exact h.out
  | rt t e => rw [ha] at h; exact (.mk (h.out))
  | bk e => rw [ha] at h; exact (.mk (h.out))
  | ct e => rw [ha] at h; exact (.mk (h.out))
  | ex c e => rw [ha] at h; exact h.out.elim
  | no => rw [ha] at h; exact h.out.elim
theorem s_onE {k : T → MS} (h : Ok (m env) fun t e => SOk (k t e) nx rt bk ct) : SOk (onE m k env) nx rt bk ct := by
  obtain ⟨t, e, h1, h2⟩ := h.get
  unfold onE; rw [h1]; exact h2
theorem s_set_ (h : Ok (m env) fun t e => nx (e.set n (some t))) : SOk (mSet n m env) nx rt bk ct := s_onE (h.mono fun _ _ q => (.mk (q)))
theorem s_ret (h : Ok (m env) fun t e => rt t e) : SOk (mRet m env) nx rt bk ct := s_onE (h.mono fun _ _ q => (.mk (q)))
theorem s_exp_ (h : Ok (m env) fun _ e => nx e) : SOk (mExp m env) nx rt bk ct := s_onE (h.mono fun _ _ q => (.mk (q)))
theorem s_retv (h : env[n]? = some (some t)) (q : rt t (env.set n none)) : SOk (mRetV n env) nx rt bk ct := by unfold mRetV; rw [h]; exact (.mk (q))
theorem s_if (h : Ok (mb env) fun c e => (c = true → SOk (a e) nx rt bk ct) ∧ (c = false → SOk (b e) nx rt bk ct)) : SOk (mIf mb a b env) nx rt bk ct := by
  obtain ⟨c, e, h1, h2, h3⟩ := h.get
  unfold mIf onT; rw [h1]
  cases c
  · exact h3 rfl
  · exact h2 rfl
theorem s_par_ {is : List Nat} (h : Ok (evOps ops env) fun its e => ∃ ts, allV its = some ts ∧ nx (putAll is ts e)) : SOk (mPar is ops env) nx rt bk ct := by
  obtain ⟨its, e, h1, ts, h2, q⟩ := h.get
  unfold mPar; rw [h1]; simp only [h2]; exact (.mk (q))
theorem s_asg_ {g : G} (h : Ok (m env) fun t e => Ok (g t e) fun _ e' => nx e') : SOk (mAsg m g env) nx rt bk ct := s_onE (h.mono fun t e h => by
  obtain ⟨_, e', h1, q⟩ := h.get
  rw [h1]; exact (.mk (q)))
theorem s_asg2_ {g1 g2 : G} (h : Ok (m env) fun t e => t.own = false ∧ Ok (g1 t e) fun _ e1 => Ok (g2 t e1) fun _ e2 => nx e2) : SOk (mAsg2 m g1 g2 env) nx rt bk ct := s_onE (h.mono fun t e ⟨ho, h⟩ => by
  obtain ⟨_, e1, h1, h⟩ := h.get
  obtain ⟨_, e2, h2, q⟩ := h.get
  simp only [ho, h1, h2]; exact (.mk (q)))
theorem s_for_ {ml : M (List T)} {g : G} (h : Ok (ml env) fun ts e => SOk (mLoop g b ts e) nx rt bk ct) : SOk (mFor ml g b env) nx rt bk ct := by
  obtain ⟨ts, e, h1, h2⟩ := h.get
  unfold mFor; rw [h1]; exact h2
theorem s_forL_ {g : G} {i : Nat} {ts : List T} (h0 : env[i]? = some (some (.lst true ts))) (h : SOk (mLoop g b ts (env.set i none)) (fun e => e[i]? = some none ∧ nx (e.set i (some (.lst true ts)))) rt (fun _ => False) (fun _ => False)) : SOk (mForL i g b env) nx rt bk ct := by
  unfold mForL
  rw [h0]
  simp only
  cases hr : mLoop g b ts (env.set i none) with
  | nx e =>
    rw [hr] at h
    obtain ⟨h1, h2⟩ := h.out
    simp only [hidR, h1]
    exact .mk h2
  | rt t e => rw [hr] at h; exact .mk h.out
  | bk e => rw [hr] at h; exact h.out.elim
  | ct e => rw [hr] at h; exact h.out.elim
  | ex c e => rw [hr] at h; exact .mk h.out
  | no => rw [hr] at h; exact .mk h.out
theorem s_body {k : MS} (h : SOk (b env) (fun e => SOk (k e) nx rt bk ct) rt nx (fun e => SOk (k e) nx rt bk ct)) : SOk (mBody b k env) nx rt bk ct := by
  unfold mBody
  cases hb : b env with
  | nx e => rw [hb] at h; exact h.out
  | rt t e => rw [hb] at h; exact (.mk (h.out))
  | bk e => rw [hb] at h; exact (.mk (h.out))
  | ct e => rw [hb] at h; exact h.out
  | ex c e => rw [hb] at h; exact h.out.elim
  | no => rw [hb] at h; exact h.out.elim
/-- THE RULE for a loop -/
theorem s_loop {g : G} (I : Nat → Env → Prop) : ∀ {ts : List T} {env : Env} {k : Nat}, I k env →
    (∀ i t e, ts[i]? = some t → I (k + i) e → Ok (g t e) fun _ e1 => SOk (b e1) (I (k + i + 1)) rt nx (I (k + i + 1))) → (∀ e, I (k + ts.length) e → nx e) → SOk (mLoop g b ts env) nx rt bk ct
  | [], env, k, h0, hs, hd => (.mk (hd env h0))
  | t :: ts, env, k, h0, hs, hd => by
    unfold mLoop
    obtain ⟨_, e, h1, h2⟩ := (hs 0 t env rfl h0).get
    rw [h1]
    have go : ∀ e, I (k + 0 + 1) e → SOk (mLoop g b ts e) nx rt bk ct := fun e h => s_loop I (k := k + 1) h (fun i t e ht hi => by
      have e1 : k + 1 + i = k + (i + 1) := by omega
      rw [e1] at hi ⊢
      exact hs (i + 1) t e ht hi) fun e h => hd e (by
        have e1 : k + (t :: ts).length = k + 1 + ts.length := by simp only [List.length_cons]; omega
        rw [e1]; exact h)
    exact s_body (h2.mono go (fun _ _ q => q) (fun _ q => q) go)
theorem s_loop0 {g : G} {ts : List T} (I : Nat → Env → Prop) (h0 : I 0 env) (hs : ∀ i t e, ts[i]? = some t → I i e → Ok (g t e) fun _ e1 => SOk (b e1) (I (i + 1)) rt nx (I (i + 1))) (hd : ∀ e, I ts.length e → nx e) : SOk (mLoop g b ts env) nx rt bk ct :=
  s_loop I (k := 0) h0 (fun i t e h1 h2 => by rw [Nat.zero_add] at h2 ⊢; exact hs i t e h1 h2) fun e h => hd e (by rw [Nat.zero_add] at h; exact h)
theorem rng_get {lo : Int} {n i : Nat} {t : T} (h : (rngT lo n)[i]? = some t) : i < n ∧ t = .int (lo + i) := by
  unfold rngT at h
  rw [List.getElem?_map, Option.map_eq_some_iff] at h
  obtain ⟨j, h1, rfl⟩ := h
  rw [List.getElem?_eq_some_iff] at h1
  obtain ⟨h2, h3⟩ := h1
  simp at h2 h3
  subst h3
  exact ⟨h2, rfl⟩
theorem rng_len {lo : Int} {n : Nat} : (rngT lo n).length = n := by simp [rngT]
theorem s_loopR {g : G} {lo : Int} {n : Nat} (I : Nat → Env → Prop) (h0 : I 0 env) (hs : ∀ i e, i < n → I i e → Ok (g (.int (lo + i)) e) fun _ e1 => SOk (b e1) (I (i + 1)) rt nx (I (i + 1))) (hd : ∀ e, I n e → nx e) : SOk (mLoop g b (rngT lo n) env) nx rt bk ct :=
  s_loop0 I h0 (fun i t e h1 h2 => by obtain ⟨h3, rfl⟩ := rng_get h1; exact hs i e h3 h2) fun e h => hd e (by rw [rng_len] at h; exact h)
/-- a while loop: a measure -/
theorem s_whileF {c : M Bool} (I : Nat → Env → Prop) : ∀ {f k : Nat} {env : Env}, k < f → I k env → (∀ k e, I k e → Ok (c e) fun d e1 => (d = true → SOk (b e1) (fun e => ∃ j, j < k ∧ I j e) rt nx (fun e => ∃ j, j < k ∧ I j e)) ∧ (d = false → nx e1)) → SOk (mWhileF c b f env) nx rt bk ct
  | 0, k, env, hk, h0, hs => by omega
  | f + 1, k, env, hk, h0, hs => by
    unfold mWhileF onT
    obtain ⟨d, e, h1, h2, h3⟩ := (hs k env h0).get
    rw [h1]
    cases d
    · exact (.mk (h3 rfl))
    · have go : ∀ e, (∃ j, j < k ∧ I j e) → SOk (mWhileF c b f e) nx rt bk ct := fun e ⟨j, hj, h⟩ => s_whileF I (k := j) (by omega) h hs
      exact s_body ((h2 rfl).mono go (fun _ _ q => q) (fun _ q => q) go)
theorem s_while {c : M Bool} (I : Nat → Env → Prop) {k : Nat} (hk : k < 100000000) (h0 : I k env) (hs : ∀ k e, I k e → Ok (c e) fun d e1 => (d = true → SOk (b e1) (fun e => ∃ j, j < k ∧ I j e) rt nx (fun e => ∃ j, j < k ∧ I j e)) ∧ (d = false → nx e1)) : SOk (mWhile c b env) nx rt bk ct := s_whileF I hk h0 hs
theorem s_aug_ {p : List T → Option T} {ext : Bool} {o : Opd} (h0 : env[i]? = some (some t)) (ho : t.own = false) (h : Ok (evOps [o] env) fun its e => ∃ us, fill its e = some us ∧ ∃ u, p (t :: us) = some u ∧ nx (e.set i (some u))) : SOk (mAug p ext i o env) nx rt bk ct := by
  obtain ⟨its, e, h1, us, h2, u, h3, q⟩ := h.get
  unfold mAug
  rw [h0]
  split
  · rename_i heq; cases heq; cases ho
  · rename_i heq; cases heq
    simp only [ho, h1, h2, Option.bind_some, h3]
    exact (.mk (q))
  · rename_i h1 h2; exact (h2 t rfl).elim
/-- a def's body -/
theorem den_ok {N n : Nat} {ap : List Nat} {body : MS} {ts : List T} {Q : T → Env → Prop} (hc : (ts.length == n && ap.all fun i => !((ts[i]?.map T.own).getD false)) = true)
    (h : SOk (body (envOf ts ++ List.replicate (N - n) none)) (fun e => Q .non (fin ts e)) (fun t e => Q t (fin ts e)) (fun _ => False) (fun _ => False)) : Ok (mkDen N n ap body ts) Q := by
  unfold mkDen
  rw [if_pos hc]
  cases hb : body (envOf ts ++ List.replicate (N - n) none) with
  | nx e => rw [hb] at h; exact (.mk (h.out))
  | rt t e => rw [hb] at h; exact (.mk (h.out))
  | bk e => rw [hb] at h; exact h.out.elim
  | ct e => rw [hb] at h; exact h.out.elim
  | ex c e => rw [hb] at h; exact h.out.elim
  | no => rw [hb] at h; exact h.out.elim
end
/-- THE RULE for a comprehension -/
theorem turns_ok {vs : List Nat} {g : G} {c : M Bool} {elt : M T} {Q : List T → Env → Prop} (I : Nat → List T → Env → Prop) : ∀ {ts : List T} {acc : List T} {env : Env} {k : Nat}, I k acc env →
    (∀ i t acc e, ts[i]? = some t → I (k + i) acc e → Ok (g t e) fun _ e1 => Ok (c e1) fun b e2 => (b = true → Ok (elt e2) fun y e3 => I (k + i + 1) (acc ++ [y.frz]) (wipeE e3 vs)) ∧ (b = false → I (k + i + 1) acc (wipeE e2 vs))) →
    (∀ acc e, I (k + ts.length) acc e → Q acc e) → Ok (mTurns vs g c elt ts acc env) Q
  | [], acc, env, k, h0, hs, hd => (.mk (hd acc env h0))
  | t :: ts, acc, env, k, h0, hs, hd => by
    unfold mTurns
    obtain ⟨_, e1, h1, h2⟩ := (hs 0 t acc env rfl h0).get
    obtain ⟨b, e2, h3, h4, h5⟩ := h2.get
    have go : ∀ acc e, I (k + 0 + 1) acc e → Ok (mTurns vs g c elt ts acc e) Q := fun acc e h => turns_ok I (k := k + 1) h (fun i t acc e ht hi => by
      have e1 : k + 1 + i = k + (i + 1) := by omega
      rw [e1] at hi ⊢
      exact hs (i + 1) t acc e ht hi) fun acc e h => hd acc e (by
        have e1 : k + (t :: ts).length = k + 1 + ts.length := by simp only [List.length_cons]; omega
        rw [e1]; exact h)
    simp only [h1, h3]
    cases b
    · exact go _ _ (h5 rfl)
    · obtain ⟨y, e3, h6, h7⟩ := (h4 rfl).get
      simp only [h6]
      exact go _ _ h7
theorem w_comp {vs : List Nat} {src : M (List T)} {g : G} {c : M Bool} {elt : M T} {env : Env} {Q : T → Env → Prop} (h : Ok (src env) fun ts e => ts.length ≤ sizeLine ∧ ∃ I : Nat → List T → Env → Prop, I 0 [] (wipeE e vs) ∧
    (∀ i t acc e, ts[i]? = some t → I i acc e → Ok (g t e) fun _ e1 => Ok (c e1) fun b e2 => (b = true → Ok (elt e2) fun y e3 => I (i + 1) (acc ++ [y.frz]) (wipeE e3 vs)) ∧ (b = false → I (i + 1) acc (wipeE e2 vs))) ∧
    ∀ acc e', I ts.length acc e' → Q (.lst true acc) (restE e e' vs)) : Ok (mComp vs src g c elt env) Q := by
  obtain ⟨ts, e, h1, hz, I, h0, hs, hd⟩ := h.get
  unfold mComp
  simp only [h1, hz, if_true]
  have := turns_ok (Q := fun acc e' => Q (.lst true acc) (restE e e' vs)) I (k := 0) (ts := ts) h0 (fun i t acc e ht hi => by rw [Nat.zero_add] at hi ⊢; exact hs i t acc e ht hi) fun acc e h => hd acc e (by rw [Nat.zero_add] at h; exact h)
  obtain ⟨acc, e', h2, q⟩ := this.get
  simp only [h2]
  exact (.mk (q))
/-- one step -/
local macro_rules | `(tactic| walk_at "v") => `(tactic| first
  | refine s_seq ?_ | refine s_set_ ?_ | refine s_ret ?_ | refine s_exp_ ?_ | refine s_if ?_ | refine s_par_ ?_ | refine s_asg_ ?_ | refine s_for_ ?_ | refine s_retv rfl ?_ | refine s_skip ?_ | refine s_brk ?_ | refine s_cnt ?_ | refine s_asg2_ ?_
  | refine w_C ?_ | refine w_nil ?_ | refine w_val ?_ | refine w_sl rfl ?_ | refine w_prim ?_ | refine w_tup ?_ | refine w_lst ?_ | refine w_dict ?_ | refine w_call ?_ | refine w_truV ?_ | refine w_truS rfl rfl ?_ | refine w_tst ?_ | refine w_notT ?_ | refine w_andT ?_ | refine w_orT ?_ | refine w_ite ?_ | refine w_not ?_ | refine w_and ?_ | refine w_or ?_
  | refine w_mut rfl ?_ | refine w_items ?_ | refine w_rng ?_ | refine w_gName ?_ | refine w_gsNil ?_ | refine w_gsCons ?_ | refine w_gTup rfl ?_ | refine w_gStore rfl ?_ | refine w_var rfl rfl ?_ | refine w_varO rfl rfl ?_ | refine s_aug_ rfl rfl ?_)
example (a b : Int) (hb : 0 < b) : SOk ((mPar [0, 1] [.val (mVar 1), .val (mPrim pMod [.sl 0, .sl 1])]) [some (.int a), some (.int b)]) (fun e => e = [some (.int b), some (.int (a % b))]) (fun _ _ => False) (fun _ => False) (fun _ => False) := by
  repeat walk_at "v"
  refine ⟨_, rfl, _, by rw [pMod_ii, if_pos hb], ?_⟩
  repeat walk_at "v"
  exact ⟨_, rfl, rfl⟩
end VL
namespace VL
open PySem L2
theorem s_augE {nx bk ct : Env → Prop} {rt : T → Env → Prop} {env : Env} {i : Nat} {p : List T → Option T} {o : Opd} {ts0 : List T} (h0 : env[i]? = some (some (.lst true ts0)))
    (h : Ok (evOps [o] env) fun its e => ∃ o' us ts, fill its e = some [.lst o' us] ∧ e[i]? = some (some (.lst true ts)) ∧ ts.length + us.length ≤ 1000 ∧ nx (e.set i (some (.lst true (ts ++ us))))) : SOk (mAug p true i o env) nx rt bk ct := by
  obtain ⟨its, e, h1, o', us, ts, h2, h3, h4, q⟩ := h.get
  have h4 : ts.length + us.length ≤ sizeLine := Nat.le_trans h4 (by decide)
  unfold mAug
  rw [h0]
  simp only [if_true, h1, h2, h3, h4]
  exact .mk q
end VL
namespace VL
open PySem L2
section
variable {nx bk ct : Env → Prop} {rt : T → Env → Prop} {env env' : Env} {g : G} {b : MS} {t : T} {ts : List T}
theorem s_lnil (q : nx env) : SOk (mLoop g b [] env) nx rt bk ct := .mk q
theorem s_lcons (h : Ok (g t env) fun _ e => SOk (b e) (fun e => SOk (mLoop g b ts e) nx rt bk ct) rt nx (fun e => SOk (mLoop g b ts e) nx rt bk ct)) : SOk (mLoop g b (t :: ts) env) nx rt bk ct := by
  unfold mLoop
  obtain ⟨_, e, h1, h2⟩ := h.get
  rw [h1]
  exact s_body h2
theorem enum_get {ts : List T} {i : Nat} {t : T} (h : (enumT ts)[i]? = some t) : ∃ x, ts[i]? = some x ∧ t = .tup [.int (i : Int), x] := by
  unfold enumT at h
  rw [List.getElem?_zipWith] at h
  cases q : (rngT 0 ts.length)[i]? with
  | none => rw [q] at h; cases h
  | some a =>
    cases q2 : ts[i]? with
    | none => rw [q, q2] at h; cases h
    | some b =>
      rw [q, q2] at h
      cases h
      obtain ⟨_, rfl⟩ := rng_get q
      exact ⟨b, rfl, by rw [Int.zero_add]⟩
theorem enum_len {ts : List T} : (enumT ts).length = ts.length := by simp [enumT, rng_len]
end
end VL
namespace VL
open PySem L2
def seqT : T → Option (List T)
  | .lst _ ts => some ts
  | .tup ts => some ts
  | _ => none
theorem w_enum {m : M T} {env : Env} {Q : List T → Env → Prop} (h : Ok (m env) fun t e => ∃ ts, seqT t = some ts ∧ Q (enumT ts) e) : Ok (mEnum m env) Q := ok_bind (h.mono fun t e ⟨ts, h1, q⟩ => by
  unfold seqT at h1
  split at h1
  · cases h1; exact .mk q
  · cases h1; exact .mk q
  · cases h1)
theorem w_zip {ops : List Opd} {env : Env} {Q : List T → Env → Prop} (h : Ok (evOps ops env) fun its e => ∃ ts, allV its = some ts ∧ ∃ us, zipOf (ts.map T.frz) = some us ∧ Q us e) : Ok (mZip ops env) Q := ok_bind (h.mono fun its e ⟨ts, h1, us, h2, q⟩ => by
  rw [h1, Option.bind_some, h2]; exact .mk q)
theorem w_boolEq {x y : Int} : eqT (.int x) (.int y) = decide (x = y) := by simp [eqT, BEq.beq]
end VL
namespace VL
open PySem L2
theorem w_yes {env : Env} {Q : Bool → Env → Prop} (q : Q true env) : Ok (mYes env) Q := .mk q
end VL
namespace VL
open PySem L2
theorem w_gsConsE {g : G} {r : Gs} {us ts : List T} {t : T} {env : Env} {QU : Unit → Env → Prop} (h0 : us = t :: ts) (h : Ok (g t env) fun _ e => Ok (r ts e) QU) : Ok (gsCons g r us env) QU := by subst h0; exact w_gsCons h
theorem w_gsNilE {us : List T} {env : Env} {QU : Unit → Env → Prop} (h0 : us = []) (q : QU () env) : Ok (gsNil us env) QU := by subst h0; exact .mk q
theorem w_gTupE {n : Nat} {r : Gs} {t : T} {ts : List T} {env : Env} {QU : Unit → Env → Prop} (h0 : t = .tup ts) (hl : ts.length = n) (h : Ok (r ts env) QU) : Ok (gTup n r t env) QU := by subst h0; exact w_gTup hl h
end VL
namespace VL
open PySem L2
theorem w_enumZ {ops : List Opd} {env : Env} {Q : List T → Env → Prop} (h : Ok (evOps ops env) fun its e => ∃ ts, allV its = some ts ∧ ∃ us, zipX (ts.map T.frz) = some us ∧ Q (enumT us) e) : Ok (mEnumZ ops env) Q := ok_bind (h.mono fun its e ⟨ts, h1, us, h2, q⟩ => by
  rw [h1, Option.bind_some, h2]; exact .mk q)
end VL

/-! Fractions: sizes. -/
namespace VL
open PySem L2
theorem mulOk_of {i j : Int} {k l : Nat} (h1 : i.natAbs < 2 ^ k) (h2 : j.natAbs < 2 ^ l) (h : k + l ≤ 900000) : mulOk i j = true := by
  unfold mulOk
  by_cases z1 : i.natAbs = 0
  · simp [z1]
  by_cases z2 : j.natAbs = 0
  · simp [z2]
  have a1 : i.natAbs.log2 < k := (Nat.log2_lt z1).mpr h1
  have a2 : j.natAbs.log2 < l := (Nat.log2_lt z2).mpr h2
  simp only [Bool.or_eq_true, decide_eq_true_eq]
  right; omega
theorem mul_ok {i j : Int} (h : mulOk i j = true) : pMul [.int i, .int j] = some (.int (i * j)) := by simp [h]
theorem fdiv_ok {i j : Int} {k : Nat} (h0 : 0 < j) (h1 : j.natAbs < 2 ^ k) (h : k ≤ 9000) : pFdiv [.int i, .int j] = some (.int (i / j)) := by
  have a1 : j.natAbs.log2 < k := (Nat.log2_lt (by omega)).mpr h1
  rw [pFdiv_ii, if_pos ⟨h0, by omega⟩]
theorem mod_ok {i j : Int} (h : 0 < j) : pMod [.int i, .int j] = some (.int (i % j)) := by rw [pMod_ii, if_pos h]
/-- a fraction in lowest terms -/
def tq (q : Rat) : T := .tup [.int q.num, .int q.den]
def Bd (k : Nat) (q : Rat) : Prop := q.num.natAbs < 2 ^ k ∧ q.den < 2 ^ k
theorem Bd.mono {k l : Nat} {q : Rat} (h : Bd k q) (hl : k ≤ l) : Bd l q := ⟨Nat.lt_of_lt_of_le h.1 (Nat.pow_le_pow_right (by decide) hl), Nat.lt_of_lt_of_le h.2 (Nat.pow_le_pow_right (by decide) hl)⟩
theorem gcd_mod {a b : Int} : Int.gcd b (a % b) = Int.gcd a b := by
  rw [Int.emod_def, Int.gcd_comm a b]
  have : a - b * (a / b) = a + b * (-(a / b)) := by rw [Int.mul_neg]; omega
  rw [this]
  simp
theorem bd_divInt {a b : Int} {k : Nat} (h1 : a.natAbs < 2 ^ k) (h2 : b.natAbs < 2 ^ k) (hb : b ≠ 0) : Bd k (Rat.divInt a b) := by
  refine ⟨?_, ?_⟩
  · rw [Rat.num_divInt]
    refine Nat.lt_of_le_of_lt (Int.natAbs_ediv_le_natAbs _ _) ?_
    rw [Int.natAbs_mul, Int.natAbs_sign_of_ne_zero hb, Nat.one_mul]
    exact h1
  · rw [Rat.den_divInt, if_neg hb]
    exact Nat.lt_of_le_of_lt (Nat.div_le_self _ _) h2
theorem add_as (p q : Rat) : p + q = Rat.divInt (p.num * q.den + q.num * p.den) ((p.den : Int) * q.den) := by
  rw [Rat.add_def', show ((p.den : Int) * q.den) = ((p.den * q.den : Nat) : Int) by simp, Rat.divInt_ofNat]
theorem sub_as (p q : Rat) : p - q = Rat.divInt (p.num * q.den - q.num * p.den) ((p.den : Int) * q.den) := by
  rw [Rat.sub_def', show ((p.den : Int) * q.den) = ((p.den * q.den : Nat) : Int) by simp, Rat.divInt_ofNat]
theorem mul_as (p q : Rat) : p * q = Rat.divInt (p.num * q.num) ((p.den : Int) * q.den) := by
  rw [Rat.mul_def', show ((p.den : Int) * q.den) = ((p.den * q.den : Nat) : Int) by simp, Rat.divInt_ofNat]
theorem div_as (p q : Rat) : p / q = Rat.divInt (p.num * q.den) ((p.den : Int) * q.num) := by
  rw [Rat.div_def]
  have h1 := Rat.num_divInt_den p
  have h2 := Rat.num_divInt_den q
  conv => lhs; rw [← h1, ← h2, Rat.inv_divInt, Rat.divInt_mul_divInt]
theorem den_pos (q : Rat) : (0 : Int) < q.den := by have := q.den_pos; omega
theorem pow2_add {k l : Nat} {a b : Nat} (h1 : a < 2 ^ k) (h2 : b < 2 ^ l) : a * b < 2 ^ (k + l) := by
  rw [Nat.pow_add]
  exact Nat.mul_lt_mul'' h1 h2
theorem natAbs_den (q : Rat) : ((q.den : Int)).natAbs = q.den := rfl
theorem sz_mul {a b : Int} {k l : Nat} (h1 : a.natAbs < 2 ^ k) (h2 : b.natAbs < 2 ^ l) : (a * b).natAbs < 2 ^ (k + l) := by rw [Int.natAbs_mul]; exact pow2_add h1 h2
theorem sz_add {a b : Int} {k : Nat} (h1 : a.natAbs < 2 ^ k) (h2 : b.natAbs < 2 ^ k) : (a + b).natAbs < 2 ^ (k + 1) := by
  rw [Nat.pow_succ]; have := Int.natAbs_add_le a b; omega
theorem sz_sub {a b : Int} {k : Nat} (h1 : a.natAbs < 2 ^ k) (h2 : b.natAbs < 2 ^ k) : (a - b).natAbs < 2 ^ (k + 1) := by
  rw [Nat.pow_succ]; have := Int.natAbs_sub_le a b; omega
theorem sz_mono {a : Nat} {k l : Nat} (h : a < 2 ^ k) (hl : k ≤ l) : a < 2 ^ l := Nat.lt_of_lt_of_le h (Nat.pow_le_pow_right (by decide) hl)
theorem bd_add {p q : Rat} {k l : Nat} (h1 : Bd k p) (h2 : Bd l q) : Bd (k + l + 1) (p + q) := by
  rw [add_as]
  have a := sz_mul (b := (q.den : Int)) h1.1 h2.2
  have b := sz_mul (b := (p.den : Int)) h2.1 h1.2
  rw [Nat.add_comm] at b
  refine bd_divInt (sz_add a b) (sz_mono (sz_mul (a := (p.den : Int)) (b := (q.den : Int)) h1.2 h2.2) (by omega)) ?_
  have := Int.mul_pos (den_pos p) (den_pos q); omega
theorem bd_sub {p q : Rat} {k l : Nat} (h1 : Bd k p) (h2 : Bd l q) : Bd (k + l + 1) (p - q) := by
  rw [sub_as]
  have a := sz_mul (b := (q.den : Int)) h1.1 h2.2
  have b := sz_mul (b := (p.den : Int)) h2.1 h1.2
  rw [Nat.add_comm] at b
  refine bd_divInt (sz_sub a b) (sz_mono (sz_mul (a := (p.den : Int)) (b := (q.den : Int)) h1.2 h2.2) (by omega)) ?_
  have := Int.mul_pos (den_pos p) (den_pos q); omega
theorem bd_mul {p q : Rat} {k l : Nat} (h1 : Bd k p) (h2 : Bd l q) : Bd (k + l) (p * q) := by
  rw [mul_as]
  refine bd_divInt (sz_mul h1.1 h2.1) (sz_mul (a := (p.den : Int)) (b := (q.den : Int)) h1.2 h2.2) ?_
  have := Int.mul_pos (den_pos p) (den_pos q); omega
theorem bd_div {p q : Rat} {k l : Nat} (h1 : Bd k p) (h2 : Bd l q) (h0 : q ≠ 0) : Bd (k + l) (p / q) := by
  rw [div_as]
  refine bd_divInt (sz_mul (b := (q.den : Int)) h1.1 h2.2) (sz_mul (a := (p.den : Int)) h1.2 h2.1) ?_
  have := den_pos p
  have h3 : q.num ≠ 0 := fun z => h0 (Rat.num_eq_zero.mp z)
  exact Int.mul_ne_zero (by omega) h3
theorem bd_int {i : Int} {k : Nat} (h : i.natAbs < 2 ^ k) (hk : 0 < k) : Bd k (i : Rat) := ⟨h, by
  show 1 < 2 ^ k
  calc 1 < 2 ^ 1 := by decide
    _ ≤ 2 ^ k := Nat.pow_le_pow_right (by decide) hk⟩
theorem tq_own (q : Rat) : (tq q).own = false := rfl
end VL
namespace VL
theorem c_tf {P : Prop} (h : true = false) : P := nomatch h
theorem c_ft {P : Prop} (h : false = true) : P := nomatch h
end VL
namespace VL
open PySem L2
theorem mul_okL {i j : Int} (h : i.natAbs < 2 ^ 64) : pMul [.int i, .int j] = some (.int (i * j)) := mul_ok (by unfold mulOk; simp [h])
theorem mul_okR {i j : Int} (h : j.natAbs < 2 ^ 64) : pMul [.int i, .int j] = some (.int (i * j)) := mul_ok (by unfold mulOk; simp [h])
theorem pow18 : pPow [.int 10, .int 18] = some (.int 1000000000000000000) := by unfold pPow; simp
theorem fdiv_okC {i j : Int} (h0 : 0 < j) (h : j.natAbs < 1073741824) : pFdiv [.int i, .int j] = some (.int (i / j)) := fdiv_ok (k := 30) h0 h (by decide)
end VL
namespace VL
open PySem L2
theorem app_ok {ts : List T} {t : T} (h : ts.length < 1000) : fAppend ts [t] = some (.non, ts ++ [t]) := by
  have : (1000 : Nat) ≤ sizeLine := by decide
  unfold fAppend
  simp only
  rw [if_pos (by omega)]
theorem cat_ok {xs ys : List T} {o o' : Bool} (h : xs.length + ys.length ≤ 1000) : pAdd [.lst o xs, .lst o' ys] = some (.lst true (xs ++ ys)) := by
  have : (1000 : Nat) ≤ sizeLine := by decide
  show (if xs.length + ys.length ≤ sizeLine then _ else _) = _
  rw [if_pos (by omega)]
theorem map_snoc {α β : Type} {f : α → β} {xs : List α} {x : α} : xs.map f ++ [f x] = (xs ++ [x]).map f := by simp
end VL
namespace VL
open PySem L2
theorem wb_no : ∀ {its : List Ar} {ts : List T} {ps e : Env}, (ts.all fun t => !t.own) = true → wb its ts ps e = e
  | [], _, _, _, _ => by unfold wb; rfl
  | _ :: _, [], _, _, _ => by unfold wb; split <;> first | rfl | contradiction
  | _ :: _, _ :: _, [], _, _ => by unfold wb; split <;> first | rfl | contradiction
  | .val u :: r, t :: ts, o :: os, e, h => by
    simp only [List.all_cons, Bool.and_eq_true] at h
    show wb r ts os e = e
    exact wb_no h.2
  | .sl i :: r, t :: ts, o :: os, e, h => by
    simp only [List.all_cons, Bool.and_eq_true, Bool.not_eq_true'] at h
    show wb r ts os (if t.own then e.set i o else e) = e
    rw [h.1]
    exact wb_no h.2
end VL

/-! Rules that spare invariants: comprehensions as map and filter, loops relative to the names' values. -/
namespace VL
open PySem L2
def bx (row : List Int) (at_ : Int) : T := .dic true [Sum.inr "row", Sum.inr "at"] [.lst false (row.map T.int), .int at_]
theorem bx_at {row : List Int} {i : Int} : pIx [bx row i, .str "at"] = some (.int i) := rfl
theorem bx_row {row : List Int} {i : Int} : pIx [bx row i, .str "row"] = some (.lst false (row.map T.int)) := rfl
theorem bx_put {row : List Int} {i j : Int} : putT (bx row i) (.str "at") (.int j) = some (bx row j) := rfl
theorem atI_map {α β : Type} {f : α → β} {xs : List α} {i : Int} (h0 : 0 ≤ i) (h1 : i < xs.length) : ∃ x, xs[i.toNat]? = some x ∧ atI (xs.map f) i = some (f x) := by
  have h : i.toNat < xs.length := by omega
  refine ⟨xs[i.toNat], List.getElem?_eq_getElem h, ?_⟩
  unfold atI ixN
  simp only [List.length_map, h0, h1, if_true, Option.bind_some]
  simp [h]
theorem atI_nat' {α : Type} {xs : List α} {k : Nat} {x : α} (h : xs[k]? = some x) : atI xs (k : Int) = some x := by
  have hk := (List.getElem?_eq_some_iff.mp h).1
  unfold atI ixN
  simp only [Int.toNat_natCast, Int.natCast_nonneg, if_true]
  rw [if_pos (by omega)]
  exact h
end VL
namespace VL
open PySem L2
/-- a turn's element; its test -/
inductive CT (y fx : T) (e3 : Env) (vs : List Nat) (e0 : Env) : Prop
  | mk (h : y.frz = fx) (g : wipeE e3 vs = e0)
  | mk2 (h : y.frz = fx) (g : wipeE e3 vs = e0) (z : True)
inductive CB (b px : Bool) (A : Prop) (e2 : Env) (vs : List Nat) (e0 : Env) : Prop
  | mk (h : b = px) (h1 : px = true → A) (g : wipeE e2 vs = e0)
  | mk2 (h : b = px) (h1 : px = true → A) (g : wipeE e2 vs = e0) (z : True)
theorem CT.out {y fx : T} {e3 : Env} {vs : List Nat} {e0 : Env} (h : CT y fx e3 vs e0) : y.frz = fx ∧ wipeE e3 vs = e0 := by cases h <;> exact ⟨by assumption, by assumption⟩
theorem CB.out {b px : Bool} {A : Prop} {e2 : Env} {vs : List Nat} {e0 : Env} (h : CB b px A e2 vs e0) : b = px ∧ (px = true → A) ∧ wipeE e2 vs = e0 := by cases h <;> exact ⟨by assumption, by assumption, by assumption⟩
section
variable {α : Type} {vs : List Nat} {src : M (List T)} {g : G} {c : M Bool} {elt : M T} {env : Env} {Q : T → Env → Prop}
theorem congr2 {α β γ : Type} {f : α → β → γ} {a a' : α} {b b' : β} (h : a = a') (g : b = b') : f a b = f a' b' := by rw [h, g]
theorem take_next {ls : List α} {i : Nat} {x : α} (h : ls[i]? = some x) : ls.take (i + 1) = ls.take i ++ [x] := by rw [List.take_succ, h]; rfl
/-- a comprehension that leaves the names alone is a map of a filter -/
theorem w_compF (f : α → T) (p : α → Bool) (h : Ok (src env) fun ts e => ∃ (ls : List α) (emb : α → T), ts = ls.map emb ∧ ls.length ≤ 1000 ∧
    (∀ x ∈ ls, Ok (g (emb x) (wipeE e vs)) fun _ e1 => Ok (c e1) fun b e2 => CB b (p x) (Ok (elt e2) fun y e3 => CT y (f x) e3 vs (wipeE e vs)) e2 vs (wipeE e vs)) ∧
    Q (.lst true ((ls.filter p).map f)) (restE e (wipeE e vs) vs)) : Ok (mComp vs src g c elt env) Q := by
  refine w_comp (h.mono fun ts e ⟨ls, emb, h1, h2, h3, h4⟩ => ?_)
  subst h1
  refine ⟨by rw [List.length_map]; exact Nat.le_trans h2 (by decide), fun i acc e' => acc = ((ls.take i).filter p).map f ∧ e' = wipeE e vs, ⟨rfl, rfl⟩, ?_, ?_⟩
  · rintro i t acc e' ht ⟨rfl, rfl⟩
    rw [List.getElem?_map, Option.map_eq_some_iff] at ht
    obtain ⟨x, hx, rfl⟩ := ht
    refine (h3 x (List.mem_of_getElem? hx)).mono fun _ e1 q => q.mono fun b e2 q => ?_
    obtain ⟨q1, q2, q3⟩ := q.out
    subst q1
    refine ⟨fun z => (q2 z).mono fun y e3 r => ⟨?_, r.out.2⟩, fun z => ⟨?_, q3⟩⟩
    · have r1 := r.out.1
      rw [take_next hx, List.filter_append, List.map_append, r1]
      simp [z]
    · rw [take_next hx, List.filter_append, List.map_append]
      simp [z]
  · rintro acc e' ⟨rfl, rfl⟩
    rw [List.length_map, List.take_length]
    exact h4
theorem w_compM (f : α → T) (h : Ok (src env) fun ts e => ∃ (ls : List α) (emb : α → T), ts = ls.map emb ∧ ls.length ≤ 1000 ∧
    (∀ x ∈ ls, Ok (g (emb x) (wipeE e vs)) fun _ e1 => Ok (elt e1) fun y e3 => CT y (f x) e3 vs (wipeE e vs)) ∧
    Q (.lst true (ls.map f)) (restE e (wipeE e vs) vs)) : Ok (mComp vs src g mYes elt env) Q := by
  refine w_comp (h.mono fun ts e ⟨ls, emb, h1, h2, h3, h4⟩ => ?_)
  subst h1
  refine ⟨by rw [List.length_map]; exact Nat.le_trans h2 (by decide), fun i acc e' => acc = (ls.take i).map f ∧ e' = wipeE e vs, ⟨rfl, rfl⟩, ?_, ?_⟩
  · rintro i t acc e' ht ⟨rfl, rfl⟩
    rw [List.getElem?_map, Option.map_eq_some_iff] at ht
    obtain ⟨x, hx, rfl⟩ := ht
    refine (h3 x (List.mem_of_getElem? hx)).mono fun _ e1 q => w_yes ⟨fun _ => q.mono fun y e3 r => ⟨?_, r.out.2⟩, c_tf⟩
    have r1 := r.out.1
    rw [take_next hx, List.map_append, r1]
    simp
  · rintro acc e' ⟨rfl, rfl⟩
    rw [List.length_map, List.take_length]
    exact h4
end
/-- names whose values are nothing to what follows -/
def setJ (e : Env) (z : Nat → Option T) : List Nat → Env
  | [] => e
  | j :: js => (setJ e z js).set j (z j)
theorem setJ_nil {e : Env} {z : Nat → Option T} : setJ e z [] = e := rfl
theorem setJ_cons {e : Env} {z : Nat → Option T} {j : Nat} {js : List Nat} : setJ e z (j :: js) = (setJ e z js).set j (z j) := rfl
def atJ (e : Env) (i : Nat) : Option T := (e[i]?).getD none
/-- what holds behind a turn -/
inductive LE {σ : Type} (js : List Nat) (env : Env) (E : Env → σ → Env) (P : σ → Prop) (e : Env) : Prop
  | mk (s : σ) (he : e = E (setJ env (atJ e) js) s) (h : P s)
  | mk2 (s : σ) (he : e = E (setJ env (atJ e) js) s) (h : P s) (z : True)
theorem LE.out {σ : Type} {js : List Nat} {env : Env} {E : Env → σ → Env} {P : σ → Prop} {e : Env} (h : LE js env E P e) : ∃ s, e = E (setJ env (atJ e) js) s ∧ P s := by
  cases h with
  | mk s a b => exact ⟨s, a, b⟩
  | mk2 s a b _ => exact ⟨s, a, b⟩
section
variable {σ : Type} {nx bk ct : Env → Prop} {rt : T → Env → Prop} {b : MS} {env : Env} {g : G}
/-- a loop over a list, its names' values relative to those ahead of it -/
theorem s_loopE (js : List Nat) (E : Env → σ → Env) (I : Nat → σ → Prop) (s0 : σ) {ts : List T} (he : env = E (setJ env (atJ env) js) s0) (h0 : I 0 s0)
    (hs : ∀ i t z s, ts[i]? = some t → I i s → Ok (g t (E (setJ env z js) s)) fun _ e1 => SOk (b e1) (LE js env E (I (i + 1))) rt nx (LE js env E (I (i + 1))))
    (hd : ∀ z s, I ts.length s → nx (E (setJ env z js) s)) : SOk (mLoop g b ts env) nx rt bk ct :=
  s_loop0 (I := fun i e => ∃ s, e = E (setJ env (atJ e) js) s ∧ I i s) ⟨s0, he, h0⟩ (fun i t e ht ⟨s, he, hi⟩ => by rw [he]; exact (hs i t _ s ht hi).mono fun _ _ q => q.mono (fun _ q => q.out) (fun _ _ q => q) (fun _ q => q) (fun _ q => q.out)) fun e ⟨s, he, hi⟩ => by rw [he]; exact hd _ s hi
theorem s_loopER (js : List Nat) (E : Env → σ → Env) (I : Nat → σ → Prop) (s0 : σ) {lo : Int} {n : Nat} (he : env = E (setJ env (atJ env) js) s0) (h0 : I 0 s0)
    (hs : ∀ i z s, i < n → I i s → Ok (g (.int (lo + i)) (E (setJ env z js) s)) fun _ e1 => SOk (b e1) (LE js env E (I (i + 1))) rt nx (LE js env E (I (i + 1))))
    (hd : ∀ z s, I n s → nx (E (setJ env z js) s)) : SOk (mLoop g b (rngT lo n) env) nx rt bk ct :=
  s_loopE js E I s0 he h0 (fun i t z s ht hi => by obtain ⟨h3, rfl⟩ := rng_get ht; exact hs i z s h3 hi) fun z s hi => hd z s (by rw [rng_len] at hi; exact hi)
/-- over the elements of a list -/
theorem s_loopEM {α : Type} (js : List Nat) (E : Env → σ → Env) (I : Nat → σ → Prop) (s0 : σ) {ls : List α} {emb : α → T} (he : env = E (setJ env (atJ env) js) s0) (h0 : I 0 s0)
    (hs : ∀ i x z s, ls[i]? = some x → I i s → Ok (g (emb x) (E (setJ env z js) s)) fun _ e1 => SOk (b e1) (LE js env E (I (i + 1))) rt nx (LE js env E (I (i + 1))))
    (hd : ∀ z s, I ls.length s → nx (E (setJ env z js) s)) : SOk (mLoop g b (ls.map emb) env) nx rt bk ct :=
  s_loopE js E I s0 he h0 (fun i t z s ht hi => by
    rw [List.getElem?_map, Option.map_eq_some_iff] at ht
    obtain ⟨x, hx, rfl⟩ := ht
    exact hs i x z s hx hi) fun z s hi => hd z s (by rw [List.length_map] at hi; exact hi)
theorem s_whileE {c : M Bool} (js : List Nat) (E : Env → σ → Env) (I : Nat → σ → Prop) (s0 : σ) {k : Nat} (hk : k < 100000000) (he : env = E (setJ env (atJ env) js) s0) (h0 : I k s0)
    (hs : ∀ k z s, I k s → Ok (c (E (setJ env z js) s)) fun d e1 => (d = true → SOk (b e1) (LE js env E fun s' => ∃ j, j < k ∧ I j s') rt nx (LE js env E fun s' => ∃ j, j < k ∧ I j s')) ∧ (d = false → nx e1)) : SOk (mWhile c b env) nx rt bk ct :=
  s_while (I := fun k e => ∃ s, e = E (setJ env (atJ e) js) s ∧ I k s) hk ⟨s0, he, h0⟩ fun k e ⟨s, he, hi⟩ => by
    rw [he]
    refine (hs k _ s hi).mono fun d e1 ⟨h1, h2⟩ => ⟨fun hd => (h1 hd).mono (fun e q => ?_) (fun _ _ q => q) (fun _ q => q) (fun e q => ?_), h2⟩
    · obtain ⟨s', a, j, hj, b⟩ := q.out
      exact ⟨j, hj, s', a, b⟩
    · obtain ⟨s', a, j, hj, b⟩ := q.out
      exact ⟨j, hj, s', a, b⟩
end
/-- what a comprehension's turn leaves -/
inductive CE {σ : Type} (vs : List Nat) (e0 : Env) (E : Env → σ → Env) (P : σ → Prop) (e3 : Env) : Prop
  | mk (s : σ) (he : wipeE e3 vs = E e0 s) (h : P s)
  | mk2 (s : σ) (he : wipeE e3 vs = E e0 s) (h : P s) (z : True)
theorem CE.out {σ : Type} {vs : List Nat} {e0 : Env} {E : Env → σ → Env} {P : σ → Prop} {e : Env} (h : CE vs e0 E P e) : ∃ s, wipeE e vs = E e0 s ∧ P s := by
  cases h with
  | mk s a b => exact ⟨s, a, b⟩
  | mk2 s a b _ => exact ⟨s, a, b⟩
/-- a comprehension whose body changes the names' values: a state -/
theorem w_compS {σ : Type} {vs : List Nat} {src : M (List T)} {g : G} {elt : M T} {env : Env} {Q : T → Env → Prop} (E : Env → σ → Env) (P : Nat → σ → List T → Prop) (h : Ok (src env) fun ts e => ts.length ≤ 1000 ∧ (∃ s0, wipeE e vs = E (wipeE e vs) s0 ∧ P 0 s0 []) ∧
    (∀ i t s acc, ts[i]? = some t → P i s acc → Ok (g t (E (wipeE e vs) s)) fun _ e1 => Ok (elt e1) fun y e3 => CE vs (wipeE e vs) E (fun s' => P (i + 1) s' (acc ++ [y.frz])) e3) ∧
    (∀ s acc, P ts.length s acc → Q (.lst true acc) (restE e (E (wipeE e vs) s) vs))) : Ok (mComp vs src g mYes elt env) Q := by
  refine w_comp (h.mono fun ts e ⟨h1, ⟨s0, h2, h3⟩, h4, h5⟩ => ?_)
  refine ⟨Nat.le_trans h1 (by decide), fun i acc e' => ∃ s, e' = E (wipeE e vs) s ∧ P i s acc, ⟨s0, h2, h3⟩, ?_, ?_⟩
  · rintro i t acc e' ht ⟨s, rfl, hp⟩
    exact (h4 i t s acc ht hp).mono fun _ e1 q => w_yes ⟨fun _ => q.mono fun y e3 q => q.out, c_tf⟩
  · rintro acc e' ⟨s, rfl, hp⟩
    exact h5 s acc hp
theorem rng_map {lo : Int} {n : Nat} : rngT lo n = (List.range n).map fun (i : Nat) => T.int (lo + (i : Int)) := rfl
theorem w_gTupL {n : Nat} {r : Gs} {t : T} {o : Bool} {ts : List T} {env : Env} {QU : Unit → Env → Prop} (h0 : t = .lst o ts) (hl : ts.length = n) (h : Ok (r ts env) QU) : Ok (gTup n r t env) QU := by subst h0; unfold gTup; simp only [hl, if_true]; exact h
inductive EV {α : Type} (a : α) (e : Env) (b : α) (f : Env) : Prop
  | mk (h : b = a) (g : f = e)
  | mk2 (h : b = a) (g : f = e) (z : True)
theorem ok_viaS {α : Type} {m : M α} {env : Env} {Q : α → Env → Prop} (a : α) (h : Ok (m env) (EV a env)) (q : Q a env) : Ok (m env) Q := h.mono fun b f h => by
  cases h with
  | mk h1 h2 => subst h1 h2; exact q
  | mk2 h1 h2 _ => subst h1 h2; exact q
theorem own_bx {row : List Int} {i : Int} : T.own (bx row i) = true := rfl
theorem own_tq {q : Rat} : T.own (tq q) = false := rfl
theorem frz_tq {q : Rat} : T.frz (tq q) = tq q := rfl
theorem w_varF {n : Nat} {env : Env} {Q : T → Env → Prop} {o : Bool} {ts : List T} (h : env[n]? = some (some (.lst o ts))) (q : Q (.lst false ts) (env.set n (some (.lst false ts)))) : Ok (mVar n env) Q := by
  cases o with
  | true => exact w_varO h rfl q
  | false =>
    refine w_var h rfl ?_
    have e : env.set n (some (.lst false ts)) = env := by
      obtain ⟨hn, e⟩ := List.getElem?_eq_some_iff.mp h
      rw [← e]; exact List.set_getElem_self hn
    rw [e] at q
    exact q
theorem w_newT {env : Env} {Q : T → Env → Prop} (q : Q (.dit true [] []) env) : Ok (mNewT env) Q := .mk q
theorem w_newK {env : Env} {Q : T → Env → Prop} (q : Q (.dic true [] []) env) : Ok (mNewK env) Q := .mk q
theorem restE_nil {e0 e : Env} : restE e0 e [] = e := rfl
theorem restE_cons {e0 e : Env} {v : Nat} {vs : List Nat} : restE e0 e (v :: vs) = (restE e0 e vs).set v ((e0[v]?).getD none) := rfl
theorem wipeE_nil {e : Env} : wipeE e [] = e := rfl
theorem wipeE_cons {e : Env} {v : Nat} {vs : List Nat} : wipeE e (v :: vs) = (wipeE e vs).set v none := rfl
end VL

/-! Texts as lists of codes; answers found by reckoning. -/
namespace VL
open PySem L2
/-! texts of two signs -/
def tx (l : List Nat) : Str := ⟨l.toArray⟩
theorem tx_app {a b : List Nat} : tx a ++ tx b = tx (a ++ b) := by
  show Str.mk (a.toArray ++ b.toArray) = _
  unfold tx
  simp
theorem tx_len {a : List Nat} : (tx a).length = a.length := by simp [tx, Str.length]
theorem tx_list {a : List Nat} : (tx a).cps.toList = a := by simp [tx]
theorem tx_inj {a b : List Nat} : tx a = tx b ↔ a = b := by
  constructor
  · intro h
    have := congrArg (fun z : Str => z.cps.toList) h
    simpa [tx] using this
  · rintro rfl; rfl
theorem tx_cut {a : List Nat} {lo hi : Option Int} : cutS (tx a) lo hi = tx ((a.drop (HT.sIx a.length 0 lo)).take (HT.sIx a.length a.length hi - HT.sIx a.length 0 lo)) := by
  unfold cutS
  rw [tx_list, tx_len]
  rfl
theorem tx_to {a : List Nat} {n : Nat} : cutS (tx a) none (some (n : Int)) = tx (a.take n) := by
  rw [tx_cut, HT.sIx_nat, HT.sIx_none, List.drop_zero, Nat.sub_zero]
  congr 1
  rw [List.take_eq_take_iff]
  omega
theorem tx_from {a : List Nat} {n : Nat} : cutS (tx a) (some (n : Int)) none = tx (a.drop n) := by
  rw [tx_cut, HT.sIx_nat, HT.sIx_none]
  congr 1
  by_cases h : n ≤ a.length
  · rw [Nat.min_eq_left h, List.take_of_length_le (by rw [List.length_drop]; omega)]
  · rw [Nat.min_eq_right (by omega), List.drop_length, List.drop_of_length_le (by omega)]
    simp
theorem occ_cnt (x : List Nat) (c limit : Nat) : ∀ (m k : Nat) (st : Array Nat × Nat), st.2 ≤ k → st.1.size + m ≤ limit →
    (forIn (m := Id) (List.range' k m) st (PySem.StrLaws.occBody (tx x) ⟨#[c]⟩ (tx x).length limit)).run.1.size = st.1.size + ((x.drop k).take m).count c
  | 0, k, st, _, _ => by simp
  | m + 1, k, st, h1, h2 => by
    rw [List.range'_succ, List.forIn_cons]
    have hs := PySem.StrLaws.subAt_one (tx x) c k
    rw [tx_list] at hs
    unfold PySem.StrLaws.occBody
    by_cases hc : x[k]? = some c
    · obtain ⟨a, b⟩ := hs.mpr hc
      have hk := (List.getElem?_eq_some_iff.mp hc).1
      rw [if_pos ⟨⟨⟨by omega, h1⟩, a⟩, b⟩]
      have ih := occ_cnt x c limit m (k + 1) (st.1.push k, k + (⟨#[c]⟩ : Str).length) (by show k + 1 ≤ k + 1; omega) (by simp; omega)
      simp only [Array.size_push] at ih
      refine ih.trans ?_
      rw [List.drop_eq_getElem_cons hk, List.take_succ_cons, (List.getElem?_eq_some_iff.mp hc).2, List.count_cons_self]
      omega
    · rw [if_neg (fun h => hc (hs.mp ⟨h.1.2, h.2⟩))]
      have ih := occ_cnt x c limit m (k + 1) (st.1, st.2) (by show st.2 ≤ k + 1; omega) (by show st.1.size + m ≤ limit; omega)
      refine ih.trans ?_
      by_cases hk : k < x.length
      · rw [List.drop_eq_getElem_cons hk, List.take_succ_cons, List.count_cons_of_ne]
        intro z
        exact hc (by rw [List.getElem?_eq_getElem hk, z])
      · rw [List.drop_of_length_le (by omega), List.drop_of_length_le (by omega)]
        simp
theorem tx_count {x : List Nat} {c : Nat} : Txt.count (tx x) ⟨#[c]⟩ = (x.count c : Int) := by
  unfold Txt.count
  rw [PySem.StrLaws.occ_eq]
  have h := occ_cnt x c ((tx x).length + 1) ((tx x).length + 1 - 0) 0 (#[], 0) (Nat.le_refl _) (by simp)
  rw [Array.length_toList]
  refine congrArg (Int.ofNat) (h.trans ?_)
  rw [List.drop_zero, List.take_of_length_le (by rw [tx_len]; omega)]
  simp
/-- exactly the same tree -/
def bT : Nat → T → T → Bool
  | 0, _, _ => false
  | n + 1, a, b => match a, b with
    | .non, .non => true
    | .bl a, .bl b => a == b
    | .int a, .int b => a == b
    | .str a, .str b => decide (a = b)
    | .tup a, .tup b => a.length == b.length && (a.zip b).all fun p => bT n p.1 p.2
    | .lst o a, .lst p b => o == p && (a.length == b.length && (a.zip b).all fun p => bT n p.1 p.2)
    | _, _ => false
theorem all_eq {α : Type} {p : α → α → Bool} (h : ∀ a b, p a b = true → a = b) : ∀ {xs ys : List α}, xs.length = ys.length → ((xs.zip ys).all fun q => p q.1 q.2) = true → xs = ys
  | [], [], _, _ => rfl
  | [], _ :: _, h1, _ => by cases h1
  | _ :: _, [], h1, _ => by cases h1
  | x :: xs, y :: ys, h1, h2 => by
    simp only [List.zip_cons_cons, List.all_cons, Bool.and_eq_true] at h2
    rw [h x y h2.1, all_eq h (by simpa using h1) h2.2]
theorem bT_eq : ∀ (n : Nat) (a b : T), bT n a b = true → a = b
  | 0, _, _, h => by cases h
  | n + 1, a, b, h => by
    have ih := bT_eq n
    unfold bT at h
    split at h
    · rfl
    · rw [eq_of_beq h]
    · rw [eq_of_beq h]
    · rw [of_decide_eq_true h]
    · simp only [Bool.and_eq_true, beq_iff_eq] at h
      rw [all_eq ih h.1 h.2]
    · simp only [Bool.and_eq_true, beq_iff_eq] at h
      rw [h.1, all_eq ih h.2.1 h.2.2]
    · cases h
/-- a def's answer, found by reckoning -/
def isR (r : R T) (t : T) : Bool := match r with
  | .ok u _ => bT 9 u t
  | _ => false
theorem isR_ok {r : R T} {t : T} (h : isR r t = true) {Q : T → Env → Prop} (q : ∀ ps, Q t ps) : Ok r Q := by
  unfold isR at h
  split at h
  · rw [bT_eq _ _ _ h]; exact .mk (q _)
  · cases h
/-! dicts by a function on keys -/
section
variable {α κ : Type} [DecidableEq κ] {k : α → κ} {f : α → T}
theorem hasK_mapI (inj : ∀ a b, k a = k b → a = b) [DecidableEq α] {L : List α} {x : α} : hasK (L.map k) (k x) = decide (x ∈ L) := by
  unfold hasK
  rw [List.any_map, Bool.eq_iff_iff, List.any_eq_true, decide_eq_true_eq]
  constructor
  · rintro ⟨y, hy, h⟩
    have := inj _ _ (of_decide_eq_true h)
    exact this ▸ hy
  · intro h
    exact ⟨x, h, by simp⟩
theorem look_map (inj : ∀ a b, k a = k b → a = b) : ∀ {L : List α} {x : α}, x ∈ L → lookK (L.map k) (L.map f) (k x) = some (f x)
  | a :: L, x, h => by
    unfold lookK
    simp only [List.map_cons, List.zip_cons_cons, List.find?_cons]
    by_cases z : k a = k x
    · have := inj _ _ z
      subst this
      simp
    · have hx : x ∈ L := by
        rcases List.mem_cons.mp h with rfl | h
        · exact (z rfl).elim
        · exact h
      have ih := look_map inj hx
      unfold lookK at ih
      simp only [z, decide_false]
      exact ih
theorem put_ks (inj : ∀ a b, k a = k b → a = b) [DecidableEq α] {L : List α} {x : α} (h : x ∉ L) : ksP (L.map k) (k x) = (L ++ [x]).map k := by
  unfold ksP
  rw [hasK_mapI inj]
  simp [h]
theorem put_ts (inj : ∀ a b, k a = k b → a = b) [DecidableEq α] {L : List α} {x : α} (h : x ∉ L) : tsP (L.map k) (L.map f) (k x) (f x) = (L ++ [x]).map f := by
  unfold tsP
  rw [hasK_mapI inj]
  simp [h]
end
end VL
namespace VL
open PySem L2
/-- the same data: the flags of the outermost lists are nothing to it -/
def Sm : Nat → T → T → Prop
  | 0, _, _ => False
  | n + 1, a, b => match b with
    | .non => a = .non
    | .bl k => a = .bl k
    | .int i => a = .int i
    | .str z => a = .str z ∧ PyData.strOk z = true
    | .tup ys => ∃ xs, a = .tup xs ∧ ys.length ≤ 1000 ∧ xs.length = ys.length ∧ ∀ (i : Nat) (x y : T), xs[i]? = some x → ys[i]? = some y → Sm n x y
    | .lst _ ys => ∃ o xs, a = .lst o xs ∧ ys.length ≤ 1000 ∧ xs.length = ys.length ∧ ∀ (i : Nat) (x y : T), xs[i]? = some x → ys[i]? = some y → Sm n x y
    | _ => False
theorem okR_n {n : Nat} (h : n ≤ 1000) : okR (n : Int) = true := by unfold okR; simp; omega
theorem rng_n {n : Nat} (h : n ≤ 1000) : rngOf [.int (n : Int)] = some (rngT 0 n) := by
  show (if okR (n : Int) then _ else _) = _
  rw [if_pos (okR_n h)]; simp
theorem len_sz {n : Nat} (h : n ≤ 1000) : n ≤ sizeLine := Nat.le_trans h (by decide)
theorem all_rep : ∀ n : Nat, pAll [.lst true (List.replicate n (.bl true))] = some (.bl true) := by
  intro n
  have : ∀ n : Nat, blsOf (List.replicate n (T.bl true)) = some (List.replicate n true) := by
    intro n
    induction n with
    | zero => rfl
    | succ n ih => rw [List.replicate_succ, List.replicate_succ]; unfold blsOf; rw [ih]; rfl
  unfold pAll
  simp only [this, Option.map_some]
  congr 2
  induction n with
  | zero => rfl
  | succ n ih => rw [List.replicate_succ]; simpa using ih
end VL
namespace VL
open PySem L2
theorem sm_int {n : Nat} {i : Int} : Sm (n + 1) (.int i) (.int i) := rfl
theorem sm_bl {n : Nat} {b : Bool} : Sm (n + 1) (.bl b) (.bl b) := rfl
theorem sm_non {n : Nat} : Sm (n + 1) .non .non := rfl
theorem sm_list {n : Nat} {o o' : Bool} {ts : List T} (hz : ts.length ≤ 1000) (h : ∀ t ∈ ts, Sm n t t) : Sm (n + 1) (.lst o ts) (.lst o' ts) :=
  ⟨o, ts, rfl, hz, rfl, fun i x y e1 e2 => by rw [e1] at e2; cases e2; exact h x (List.mem_of_getElem? e1)⟩
theorem sm_tup {n : Nat} {ts : List T} (hz : ts.length ≤ 1000) (h : ∀ t ∈ ts, Sm n t t) : Sm (n + 1) (.tup ts) (.tup ts) :=
  ⟨ts, rfl, hz, rfl, fun i x y e1 e2 => by rw [e1] at e2; cases e2; exact h x (List.mem_of_getElem? e1)⟩
theorem rep_ok {o : Bool} {t : T} {n : Nat} (h : n ≤ 1000) : pMul [.lst o [t], .int (n : Int)] = some (.lst true (List.replicate n t)) := by
  have e : repL [t] (n : Int) = List.replicate n t := by
    unfold repL
    rw [Int.toNat_natCast]
    induction n with
    | zero => rfl
    | succ n ih => rw [List.replicate_succ, List.flatten_cons, ih (by omega), List.replicate_succ]; rfl
  have hz : (1000 : Nat) ≤ sizeLine := by decide
  unfold pMul
  simp only
  rw [if_pos ⟨by omega, by omega, by simp; omega⟩, e]
theorem bool2 {i : Nat} {t : T} (h : [T.bl true, T.bl false][i]? = some t) : ∃ w, t = .bl w := by
  match i, h with
  | 0, h => cases h; exact ⟨_, rfl⟩
  | 1, h => cases h; exact ⟨_, rfl⟩
/-- what is put in a room of its own -/
theorem ok_wb {Q : T → Env → Prop} {t : T} {e e' : Env} (h : e = e') (q : Q t e') : Q t e := by subst h; exact q
end VL
namespace VL
open PySem L2
theorem bd_frac {a b : Int} {k : Nat} (ha : 0 ≤ a) (ha2 : a < 2 ^ k) (hb : 0 < b) (hb2 : b < 2 ^ k) : Bd k (Rat.divInt a b) := by
  have e : ((2 ^ k : Nat) : Int) = (2 : Int) ^ k := by simp
  exact bd_divInt (by omega) (by omega) (by omega)
theorem bd_one : Bd 1 1 := ⟨by decide, by decide⟩
theorem bd_zero : Bd 1 0 := ⟨by decide, by decide⟩
theorem tq_one : tq 1 = .tup [.int 1, .int 1] := rfl
theorem tq_zero : tq 0 = .tup [.int 0, .int 1] := rfl
theorem map_get {qs : List Rat} {i : Nat} {t : T} (h : (qs.map tq)[i]? = some t) : ∃ x, qs[i]? = some x ∧ t = tq x := by
  rw [List.getElem?_map, Option.map_eq_some_iff] at h
  obtain ⟨x, h1, rfl⟩ := h
  exact ⟨x, h1, rfl⟩
theorem blsOf_map {α : Type} {f : α → Bool} {xs : List α} : blsOf (xs.map fun x => T.bl (f x)) = some (xs.map f) := by
  induction xs with
  | nil => rfl
  | cons x r ih => simp [blsOf, ih]
theorem any_ok {α : Type} {o : Bool} {f : α → Bool} {xs : List α} : pAny [.lst o (xs.map fun x => T.bl (f x))] = some (.bl ((xs.map f).any id)) := by
  show (blsOf (xs.map fun x => T.bl (f x))).map (fun bs => T.bl (bs.any id)) = _
  rw [blsOf_map]; rfl
theorem ix_r {f : Nat → T} {o : Bool} {k i : Nat} (h : i < k) : pIx [.lst o ((List.range k).map f), .int (i : Int)] = some (f i) := atI_nat' (by rw [List.getElem?_map, List.getElem?_range h]; rfl)
theorem rmap_get {f : Nat → T} {k i : Nat} {t : T} (h : ((List.range k).map f)[i]? = some t) : i < k ∧ t = f i := by
  have hi : i < k := by simpa using (List.getElem?_eq_some_iff.mp h).1
  rw [List.getElem?_map, List.getElem?_range hi] at h
  exact ⟨hi, (Option.some.inj h).symm⟩
theorem tq_of {q : Rat} {a b : Int} (h1 : q.num = a) (h2 : (q.den : Int) = b) : T.tup [.int a, .int b] = tq q := by subst h1 h2; rfl
end VL
namespace G
open PySem L2 VL
theorem ne_same {o o' : Bool} {ts : List T} (h1 : okTs ts 59 = true) (h2 : eqTs ts ts = true) : pNe [.lst o ts, .lst o' ts] = some (.bl false) := by
  show (if okT (.lst o ts) 60 && okT (.lst o' ts) 60 then some (T.bl (!eqT (.lst o ts) (.lst o' ts))) else none) = _
  have h3 : okT (.lst o ts) 60 = true := h1
  have h4 : okT (.lst o' ts) 60 = true := h1
  have h5 : eqT (.lst o ts) (.lst o' ts) = true := h2
  rw [h3, h4, h5]
  rfl
theorem ne_q {o o' : Bool} {qs : List Rat} : pNe [.lst o (qs.map tq), .lst o' (qs.map tq)] = some (.bl false) := by
  refine ne_same ?_ ?_
  · induction qs with
    | nil => rfl
    | cons x r ih => simp [okTs, okT, tq, ih]
  · induction qs with
    | nil => rfl
    | cons x r ih => simp [eqTs, eqT, tq, ih]
theorem sm_tq {n : Nat} {q : Rat} : Sm (n + 2) (tq q) (tq q) := sm_tup (by simp) (by intro t ht; simp at ht; rcases ht with rfl | rfl <;> exact sm_int)
theorem sm_eq {n : Nat} {p q : Rat} (h : p = q) : Sm (n + 2) (tq p) (tq q) := by subst h; exact sm_tq
theorem filt_step {p : Nat → Bool} {f : Nat → T} {j : Nat} : ((List.range (j + 1)).filter p).map f = ((List.range j).filter p).map f ++ (if p j = true then [f j] else []) := by
  rw [List.range_succ, List.filter_append, List.map_append]
  congr 1
  by_cases h : p j = true
  · simp [h]
  · simp [h]
end G
namespace VL
open PySem L2
theorem lmap_get {α : Type} {f : α → T} {qs : List α} {i : Nat} {t : T} (h : (qs.map f)[i]? = some t) : ∃ x, qs[i]? = some x ∧ t = f x := by
  rw [List.getElem?_map, Option.map_eq_some_iff] at h
  obtain ⟨x, h1, rfl⟩ := h
  exact ⟨x, h1, rfl⟩
end VL
namespace VL
open PySem L2
theorem take_map {α : Type} {f : α → T} {qs : List α} {i : Nat} {x : α} (h : qs[i]? = some x) : (qs.take i).map f ++ [f x] = (qs.take (i + 1)).map f := by
  rw [List.take_succ, h, List.map_append]; rfl
end VL
namespace VL
open PySem L2
def nT (n : Nat) : T := .int (n : Int)
end VL
namespace VL
open PySem L2
theorem ix_l {α : Type} {f : α → T} {xs : List α} {i : Nat} {x : α} {j : Int} {o : Bool} (hj : j = (i : Int)) (h : xs[i]? = some x) : pIx [.lst o (xs.map f), .int j] = some (f x) := by
  subst hj
  exact atI_nat' (by rw [List.getElem?_map, h]; rfl)
end VL

namespace G
open PySem L2 VL
def top (i : Nat) : Stmt := PySem.Challenge.pw_leaguestold_k39_chances_of_series.main.body.getD i (.Pass ⟨0, 0, 0, 0⟩)
abbrev s_common_divisor : Stmt := top 1
def b_common_divisor : MS := (mSeq (mWhile (mTru (.sl 1))
  (mPar [0, 1] [.val (mVar 1), .val (mPrim pMod [.sl 0, .sl 1])]))
  (mRet (mPrim pAbs [.sl 0])))
def d_common_divisor : Den := mkDen 2 2 [0, 1] b_common_divisor
abbrev s_fraction : Stmt := top 2
def b_fraction : MS := (mSeq (mIf (mTst (mPrim pLt [.sl 1, .val (mC (.int 0))]))
  (mPar [0, 1] [.val (mPrim pNeg [.sl 0]), .val (mPrim pNeg [.sl 1])])
  mSkip)
  (mSeq (mSet 2 (mCall d_common_divisor [.sl 0, .sl 1]))
  (mRet (mTup [.val (mPrim pFdiv [.sl 0, .sl 2]), .val (mPrim pFdiv [.sl 1, .sl 2])]))))
def d_fraction : Den := mkDen 3 2 [0, 1] b_fraction
abbrev s_plus : Stmt := top 3
def b_plus : MS := (mRet (mCall d_fraction [.val (mPrim pAdd [.val (mPrim pMul [.val (mPrim pIx [.sl 0, .val (mC (.int 0))]), .val (mPrim pIx [.sl 1, .val (mC (.int 1))])]), .val (mPrim pMul [.val (mPrim pIx [.sl 1, .val (mC (.int 0))]), .val (mPrim pIx [.sl 0, .val (mC (.int 1))])])]), .val (mPrim pMul [.val (mPrim pIx [.sl 0, .val (mC (.int 1))]), .val (mPrim pIx [.sl 1, .val (mC (.int 1))])])]))
def d_plus : Den := mkDen 2 2 [] b_plus
abbrev s_minus : Stmt := top 4
def b_minus : MS := (mRet (mCall d_fraction [.val (mPrim pSub [.val (mPrim pMul [.val (mPrim pIx [.sl 0, .val (mC (.int 0))]), .val (mPrim pIx [.sl 1, .val (mC (.int 1))])]), .val (mPrim pMul [.val (mPrim pIx [.sl 1, .val (mC (.int 0))]), .val (mPrim pIx [.sl 0, .val (mC (.int 1))])])]), .val (mPrim pMul [.val (mPrim pIx [.sl 0, .val (mC (.int 1))]), .val (mPrim pIx [.sl 1, .val (mC (.int 1))])])]))
def d_minus : Den := mkDen 2 2 [] b_minus
abbrev s_times : Stmt := top 5
def b_times : MS := (mRet (mCall d_fraction [.val (mPrim pMul [.val (mPrim pIx [.sl 0, .val (mC (.int 0))]), .val (mPrim pIx [.sl 1, .val (mC (.int 0))])]), .val (mPrim pMul [.val (mPrim pIx [.sl 0, .val (mC (.int 1))]), .val (mPrim pIx [.sl 1, .val (mC (.int 1))])])]))
def d_times : Den := mkDen 2 2 [] b_times
abbrev s_choose : Stmt := top 6
def b_choose : MS := (mSeq (mIf (mNotT (mTst (mChain pLe pLe (.val (mC (.int 0))) (.sl 1) (.sl 0))))
  (mRet (mC (.int 0)))
  mSkip)
  (mSeq (mSet 2 (mC (.int 1)))
  (mSeq (mFor (mRng [.sl 1]) (gName 3)
  (mSet 2 (mPrim pFdiv [.val (mPrim pMul [.sl 2, .val (mPrim pSub [.sl 0, .sl 3])]), .val (mPrim pAdd [.sl 3, .val (mC (.int 1))])])))
  (mRetV 2))))
def d_choose : Den := mkDen 4 2 [] b_choose
abbrev s_power : Stmt := top 8
def b_power : MS := (mSeq (mSet 2 (mTup [.val (mC (.int 1)), .val (mC (.int 1))]))
  (mSeq (mFor (mRng [.sl 1]) (gName 3)
  (mSet 2 (mCall d_times [.sl 2, .sl 0])))
  (mRetV 2)))
def d_power : Den := mkDen 4 2 [] b_power
abbrev s_chance_to_win : Stmt := top 9
def b_chance_to_win : MS := (mSeq (mSet 2 (mTup [.val (mC (.int 0)), .val (mC (.int 1))]))
  (mSeq (mSet 3 (mCall d_minus [.val (mTup [.val (mC (.int 1)), .val (mC (.int 1))]), .sl 0]))
  (mSeq (mFor (mRng [.sl 1]) (gName 4)
  (mSeq (mSet 5 (mCall d_choose [.val (mPrim pAdd [.val (mPrim pSub [.sl 1, .val (mC (.int 1))]), .sl 4]), .sl 4]))
  (mSet 2 (mCall d_plus [.sl 2, .val (mCall d_times [.val (mTup [.val (mVar 5), .val (mC (.int 1))]), .val (mCall d_times [.val (mCall d_power [.sl 0, .sl 1]), .val (mCall d_power [.sl 3, .sl 4])])])]))))
  (mRetV 2))))
def d_chance_to_win : Den := mkDen 6 2 [] b_chance_to_win
abbrev s_length_chances : Stmt := top 10
def b_length_chances : MS := (mSeq (mSet 2 (mLst []))
  (mSeq (mSet 3 (mCall d_minus [.val (mTup [.val (mC (.int 1)), .val (mC (.int 1))]), .sl 0]))
  (mSeq (mFor (mRng [.sl 1]) (gName 4)
  (mSeq (mSet 5 (mTup [.val (mCall d_choose [.val (mPrim pAdd [.val (mPrim pSub [.sl 1, .val (mC (.int 1))]), .sl 4]), .sl 4]), .val (mC (.int 1))]))
  (mSeq (mSet 6 (mCall d_times [.val (mCall d_power [.sl 0, .sl 1]), .val (mCall d_power [.sl 3, .sl 4])]))
  (mSeq (mSet 7 (mCall d_times [.val (mCall d_power [.sl 3, .sl 1]), .val (mCall d_power [.sl 0, .sl 4])]))
  (mExp (mMut fAppend 2 [.val (mTup [.val (mPrim pAdd [.sl 1, .sl 4]), .val (mCall d_times [.sl 5, .val (mCall d_plus [.sl 6, .sl 7])])])]))))))
  (mRetV 2))))
def d_length_chances : Den := mkDen 8 2 [] b_length_chances
abbrev s_mean_length : Stmt := top 11
def b_mean_length : MS := (mSeq (mSet 2 (mTup [.val (mC (.int 0)), .val (mC (.int 1))]))
  (mSeq (mFor (mItems (mCall d_length_chances [.sl 0, .sl 1])) (gTup 2 (gsCons (gName 3) (gsCons (gName 4) gsNil)))
  (mSet 2 (mCall d_plus [.sl 2, .val (mCall d_times [.val (mTup [.val (mVar 3), .val (mC (.int 1))]), .sl 4])])))
  (mRetV 2)))
def d_mean_length : Den := mkDen 5 2 [] b_mean_length
abbrev s_chance_from : Stmt := top 12
def b_chance_from : MS := (mSeq (mSet 3 mNewT)
  (mSeq (mFor (mRng [.val (mPrim pAdd [.sl 1, .val (mC (.int 1))])]) (gName 4)
  (mFor (mRng [.val (mPrim pAdd [.sl 2, .val (mC (.int 1))])]) (gName 5)
  (mIf (mTst (mPrim pEq [.sl 4, .val (mC (.int 0))]))
  (mAsg (mTup [.val (mC (.int 1)), .val (mC (.int 1))]) (gStore 3 (.val (mTup [.val (mVar 4), .val (mVar 5)]))))
  (mIf (mTst (mPrim pEq [.sl 5, .val (mC (.int 0))]))
  (mAsg (mTup [.val (mC (.int 0)), .val (mC (.int 1))]) (gStore 3 (.val (mTup [.val (mVar 4), .val (mVar 5)]))))
  (mSeq (mSet 6 (mCall d_times [.sl 0, .val (mPrim pIx [.sl 3, .val (mTup [.val (mPrim pSub [.sl 4, .val (mC (.int 1))]), .val (mVar 5)])])]))
  (mAsg (mCall d_plus [.sl 6, .val (mCall d_times [.val (mCall d_minus [.val (mTup [.val (mC (.int 1)), .val (mC (.int 1))]), .sl 0]), .val (mPrim pIx [.sl 3, .val (mTup [.val (mVar 4), .val (mPrim pSub [.sl 5, .val (mC (.int 1))])])])])]) (gStore 3 (.val (mTup [.val (mVar 4), .val (mVar 5)])))))))))
  (mRet (mPrim pIx [.sl 3, .val (mTup [.val (mVar 1), .val (mVar 2)])]))))
def d_chance_from : Den := mkDen 7 3 [] b_chance_from
abbrev s_fair_series : Stmt := top 13
def b_fair_series : MS := (mSeq (mFor (mRng [.val (mC (.int 1)), .val (mPrim pAdd [.val (mPrim pIx [.sl 1, .val (mC (.int 0))]), .val (mC (.int 1))])]) (gName 2)
  (mSeq (mSet 3 (mCall d_chance_to_win [.sl 0, .sl 2]))
  (mIf (mTst (mPrim pGe [.val (mPrim pMul [.val (mPrim pIx [.sl 3, .val (mC (.int 0))]), .val (mPrim pIx [.val (mPrim pIx [.sl 1, .val (mC (.int 1))]), .val (mC (.int 1))])]), .val (mPrim pMul [.val (mPrim pIx [.val (mPrim pIx [.sl 1, .val (mC (.int 1))]), .val (mC (.int 0))]), .val (mPrim pIx [.sl 3, .val (mC (.int 1))])])]))
  (mRetV 2)
  mSkip)))
  (mRet (mC .non)))
def d_fair_series : Den := mkDen 4 2 [] b_fair_series
abbrev s_both_ways : Stmt := top 14
def b_both_ways : MS := (mRet (mTup [.val (mCall d_chance_to_win [.sl 0, .sl 1]), .val (mCall d_chance_to_win [.val (mCall d_fraction [.val (mPrim pSub [.val (mPrim pIx [.sl 0, .val (mC (.int 1))]), .val (mPrim pIx [.sl 0, .val (mC (.int 0))])]), .val (mPrim pIx [.sl 0, .val (mC (.int 1))])]), .sl 1])]))
def d_both_ways : Den := mkDen 2 2 [] b_both_ways
abbrev s__law_draws : Stmt := top 16
def b__law_draws : MS := (mSeq (mSet 3 (mVar 0))
  (mSeq (mIf (mTst (mPrim pLt [.sl 3, .val (mC (.int 0))]))
  (mSet 3 (mPrim pSub [.val (mPrim pSub [.val (mC (.int 0)), .val (mC (.int 1))]), .sl 3]))
  mSkip)
  (mSeq (mSet 4 (mLst []))
  (mSeq (mIf (mTst (mPrim pGe [.sl 3, .val (mPrim pPow [.val (mC (.int 10)), .val (mC (.int 18))])]))
  (mSeq (mFor (mRng [.sl 2]) (gName 5)
  (mSeq (mExp (mMut fAppend 4 [.val (mPrim pMod [.val (mPrim pIntOf [.sl 3]), .sl 1])]))
  (mSet 3 (mPrim pFdiv [.sl 3, .sl 1]))))
  (mRetV 4))
  mSkip)
  (mSeq (mFor (mRng [.sl 2]) (gName 5)
  (mSeq (mSet 6 (mPrim pMod [.val (mPrim pIntOf [.val (mPrim pMul [.val (mPrim pAdd [.val (mPrim pAdd [.sl 3, .val (mPrim pMul [.val (mC (.int 7)), .sl 5])]), .val (mC (.int 1))]), .val (mC (.int 48271))])]), .val (mC (.int 2147483647))]))
  (mSeq (mSet 6 (mPrim pMod [.val (mPrim pIntOf [.val (mPrim pAdd [.val (mPrim pMul [.sl 6, .val (mC (.int 69621))]), .val (mPrim pMul [.val (mC (.int 31)), .sl 5])])]), .val (mC (.int 2147483629))]))
  (mExp (mMut fAppend 4 [.val (mPrim pMod [.val (mPrim pIntOf [.val (mPrim pFdiv [.sl 6, .val (mC (.int 7))])]), .sl 1])])))))
  (mRetV 4))))))
def d__law_draws : Den := mkDen 7 3 [] b__law_draws
abbrev s__law_box : Stmt := top 17
def b__law_box : MS := (mSeq (mSet 1 (mLst []))
  (mSeq (mFor (mItems (mVar 0)) (gName 2)
  (mSet 1 (mPrim pAdd [.sl 1, .val (mCall d__law_draws [.sl 2, .val (mC (.int 1000003)), .val (mC (.int 6))])])))
  (mSeq (mIf (mTst (mPrim pEq [.val (mPrim pLen [.sl 1]), .val (mC (.int 0))]))
  (mSet 1 (mLst [.val (mC (.int 11)), .val (mC (.int 5)), .val (mC (.int 2)), .val (mC (.int 7)), .val (mC (.int 31)), .val (mC (.int 101)), .val (mC (.int 997))]))
  mSkip)
  (mRet (mDict [.val (mC (.str "row")), .val (mVar 1), .val (mC (.str "at")), .val (mC (.int 0))])))))
def d__law_box : Den := mkDen 3 1 [] b__law_box
abbrev s__law_next : Stmt := top 18
def b__law_next : MS := (mSeq (mSet 2 (mPrim pIx [.sl 0, .val (mC (.str "at"))]))
  (mSeq (mAsg (mPrim pAdd [.sl 2, .val (mC (.int 1))]) (gStore 0 (.val (mC (.str "at")))))
  (mSeq (mSet 3 (mPrim pIx [.val (mPrim pIx [.sl 0, .val (mC (.str "row"))]), .val (mPrim pMod [.sl 2, .val (mPrim pLen [.val (mPrim pIx [.sl 0, .val (mC (.str "row"))])])])]))
  (mRet (mPrim pMod [.val (mPrim pIntOf [.val (mPrim pAdd [.sl 3, .val (mPrim pMul [.val (mC (.int 7919)), .val (mPrim pFdiv [.sl 2, .val (mPrim pLen [.val (mPrim pIx [.sl 0, .val (mC (.str "row"))])])])])])]), .sl 1])))))
def d__law_next : Den := mkDen 4 2 [] b__law_next
abbrev s__law_is : Stmt := top 19
def b__law_is (n : Nat) (d__law_is : Nat → Den) : MS := (mSeq (mIf (mTru (.val (mPrim (pIsi [.lst, .tup]) [.sl 1])))
  (mSeq (mSet 2 (mIte (mTru (.val (mPrim (pIsi [.lst]) [.sl 1]))) (mPrim (pIsi [.lst]) [.sl 0]) (mPrim (pIsi [.tup]) [.sl 0])))
  (mRet (mAnd (mVar 2) (mAnd (mPrim pEq [.val (mPrim pLen [.sl 0]), .val (mPrim pLen [.sl 1])]) (mPrim pAll [.val (mComp [3] (mRng [.val (mPrim pLen [.sl 1])]) (gName 3) mYes (mCall (d__law_is n) [.val (mPrim pIx [.sl 0, .sl 3]), .val (mPrim pIx [.sl 1, .sl 3])]))])))))
  mSkip)
  (mSeq (mIf (mTru (.val (mPrim (pIsi [.dic]) [.sl 1])))
  (mRet (mAnd (mPrim (pIsi [.dic]) [.sl 0]) (mCall (d__law_is n) [.val (fun _ => .no), .val (fun _ => .no)])))
  mSkip)
  (mSeq (mIf (mTst (mPrim pIs [.sl 1, .val (mC .non)]))
  (mRet (mPrim pIs [.sl 0, .val (mC .non)]))
  mSkip)
  (mSeq (mIf (mTru (.val (mPrim (pIsi [.bool]) [.sl 1])))
  (mRet (mAnd (mPrim (pIsi [.bool]) [.sl 0]) (mPrim pEq [.sl 0, .sl 1])))
  mSkip)
  (mSeq (mIf (mTru (.val (mPrim (pIsi [.int]) [.sl 1])))
  (mRet (mAnd (mPrim (pIsi [.int]) [.sl 0]) (mAnd (mNot (.val (mPrim (pIsi [.bool]) [.sl 0]))) (mPrim pEq [.sl 0, .sl 1]))))
  mSkip)
  (mRet (mAnd (mPrim (pIsi [.str]) [.sl 0]) (mPrim pEq [.sl 0, .sl 1]))))))))
def d__law_is : Nat → Den
  | 0 => fun _ => .no
  | n + 1 => mkDen 4 2 [] (b__law_is n (fun _ => d__law_is n))
abbrev s__law_least : Stmt := top 20
def b__law_least : MS := (mSeq (mPar [2, 3] [.val (mPrim pMax2 [.sl 0, .val (mPrim pSub [.val (mC (.int 0)), .sl 0])]), .val (mPrim pMax2 [.sl 1, .val (mPrim pSub [.val (mC (.int 0)), .sl 1])])])
  (mSeq (mWhile (mTst (mPrim pGt [.sl 3, .val (mC (.int 0))]))
  (mPar [2, 3] [.val (mVar 3), .val (mPrim pSub [.sl 2, .val (mPrim pMul [.val (mPrim pFdiv [.sl 2, .sl 3]), .sl 3])])]))
  (mSeq (mSet 4 (mIte (mTst (mPrim pGt [.sl 1, .val (mC (.int 0))])) (mC (.int 1)) (mPrim pSub [.val (mC (.int 0)), .val (mC (.int 1))])))
  (mRet (mTup [.val (mPrim pFdiv [.val (mPrim pMul [.sl 4, .sl 0]), .sl 2]), .val (mPrim pFdiv [.val (mPrim pMul [.sl 4, .sl 1]), .sl 2])])))))
def d__law_least : Den := mkDen 5 2 [] b__law_least
abbrev s__law_odds : Stmt := top 21
def b__law_odds : MS := (mSeq (mSet 1 (mPrim pAdd [.val (mC (.int 1)), .val (mCall d__law_next [.sl 0, .val (mC (.int 9))])]))
  (mRet (mCall d__law_least [.val (mCall d__law_next [.sl 0, .val (mPrim pAdd [.sl 1, .val (mC (.int 1))])]), .sl 1])))
def d__law_odds : Den := mkDen 2 1 [] b__law_odds
abbrev s__law_plus : Stmt := top 22
def b__law_plus : MS := (mRet (mCall d__law_least [.val (mPrim pAdd [.val (mPrim pMul [.val (mPrim pIx [.sl 0, .val (mC (.int 0))]), .val (mPrim pIx [.sl 1, .val (mC (.int 1))])]), .val (mPrim pMul [.val (mPrim pIx [.sl 1, .val (mC (.int 0))]), .val (mPrim pIx [.sl 0, .val (mC (.int 1))])])]), .val (mPrim pMul [.val (mPrim pIx [.sl 0, .val (mC (.int 1))]), .val (mPrim pIx [.sl 1, .val (mC (.int 1))])])]))
def d__law_plus : Den := mkDen 2 2 [] b__law_plus
abbrev s__law_minus : Stmt := top 23
def b__law_minus : MS := (mRet (mCall d__law_least [.val (mPrim pSub [.val (mPrim pMul [.val (mPrim pIx [.sl 0, .val (mC (.int 0))]), .val (mPrim pIx [.sl 1, .val (mC (.int 1))])]), .val (mPrim pMul [.val (mPrim pIx [.sl 1, .val (mC (.int 0))]), .val (mPrim pIx [.sl 0, .val (mC (.int 1))])])]), .val (mPrim pMul [.val (mPrim pIx [.sl 0, .val (mC (.int 1))]), .val (mPrim pIx [.sl 1, .val (mC (.int 1))])])]))
def d__law_minus : Den := mkDen 2 2 [] b__law_minus
abbrev s__law_times : Stmt := top 24
def b__law_times : MS := (mRet (mCall d__law_least [.val (mPrim pMul [.val (mPrim pIx [.sl 0, .val (mC (.int 0))]), .val (mPrim pIx [.sl 1, .val (mC (.int 0))])]), .val (mPrim pMul [.val (mPrim pIx [.sl 0, .val (mC (.int 1))]), .val (mPrim pIx [.sl 1, .val (mC (.int 1))])])]))
def d__law_times : Den := mkDen 2 2 [] b__law_times
abbrev s__law_less : Stmt := top 25
def b__law_less : MS := (mRet (mPrim pLt [.val (mPrim pMul [.val (mPrim pIx [.sl 0, .val (mC (.int 0))]), .val (mPrim pIx [.sl 1, .val (mC (.int 1))])]), .val (mPrim pMul [.val (mPrim pIx [.sl 1, .val (mC (.int 0))]), .val (mPrim pIx [.sl 0, .val (mC (.int 1))])])]))
def d__law_less : Den := mkDen 2 2 [] b__law_less
abbrev s__law_longer : Stmt := top 27
def b__law_longer : MS := (mSeq (mSet 2 (mLst []))
  (mSeq (mFor (mItems (mVar 0)) (gName 3)
  (mIf (mTst (mPrim pLt [.val (mPrim pMax2 [.val (mStrM fCount (.sl 3) [.val (mC (.str "W"))]), .val (mStrM fCount (.sl 3) [.val (mC (.str "L"))])]), .sl 1]))
  (mSet 2 (mPrim pAdd [.sl 2, .val (mLst [.val (mPrim pAdd [.sl 3, .val (mC (.str "W"))]), .val (mPrim pAdd [.sl 3, .val (mC (.str "L"))])])]))
  mSkip))
  (mRetV 2)))
def d__law_longer : Den := mkDen 4 2 [] b__law_longer
abbrev s__law_words : Stmt := top 26
def b__law_words : MS := (mSeq (mPar [1, 2] [.val (mLst []), .val (mLst [.val (mC (.str ""))])])
  (mSeq (mWhile (mTst (mPrim pGt [.val (mPrim pLen [.sl 2]), .val (mC (.int 0))]))
  (mSeq (mSet 1 (mPrim pAdd [.sl 1, .val (mComp [3] (mItems (mVar 2)) (gName 3) (mTst (mPrim pEq [.val (mPrim pMax2 [.val (mStrM fCount (.sl 3) [.val (mC (.str "W"))]), .val (mStrM fCount (.sl 3) [.val (mC (.str "L"))])]), .sl 0])) (mVar 3))]))
  (mSet 2 (mCall d__law_longer [.sl 2, .sl 0]))))
  (mRetV 1)))
def d__law_words : Den := mkDen 4 1 [] b__law_words
abbrev s__law_chance : Stmt := top 28
def b__law_chance : MS := (mSeq (mSet 2 (mTup [.val (mC (.int 1)), .val (mC (.int 1))]))
  (mSeq (mFor (mItems (mVar 1)) (gName 3)
  (mSet 2 (mCall d__law_times [.sl 2, .val (mIte (mTst (mPrim pEq [.sl 3, .val (mC (.str "W"))])) (mVar 0) (mCall d__law_minus [.val (mTup [.val (mC (.int 1)), .val (mC (.int 1))]), .sl 0]))])))
  (mRetV 2)))
def d__law_chance : Den := mkDen 4 2 [] b__law_chance
abbrev s__law_sum : Stmt := top 29
def b__law_sum : MS := (mSeq (mSet 1 (mTup [.val (mC (.int 0)), .val (mC (.int 1))]))
  (mSeq (mFor (mItems (mVar 0)) (gName 2)
  (mSet 1 (mCall d__law_plus [.sl 1, .sl 2])))
  (mRetV 1)))
def d__law_sum : Den := mkDen 3 1 [] b__law_sum
abbrev s_law : Stmt := top 30
def b_law : MS := (mSeq (mSet 1 (mCall d__law_box [.sl 0]))
  (mSeq (mFor (mItems (mTup [.val (mCall d__law_odds [.sl 1]), .val (mTup [.val (mC (.int 1)), .val (mC (.int 2))]), .val (mTup [.val (mC (.int 0)), .val (mC (.int 1))]), .val (mTup [.val (mC (.int 1)), .val (mC (.int 1))]), .val (mCall d__law_odds [.sl 1])])) (gName 2)
  (mSeq (mSet 3 (mPrim pAdd [.val (mC (.int 1)), .val (mCall d__law_next [.sl 1, .val (mC (.int 5))])]))
  (mSeq (mSet 4 (mCall d__law_words [.sl 3]))
  (mSeq (mSet 5 (mCall d__law_sum [.val (mComp [16] (mItems (mVar 4)) (gName 16) (mTst (mPrim pEq [.val (mPrim pIx [.sl 16, .val (mPrim pNeg [.val (mC (.int 1))])]), .val (mC (.str "W"))])) (mCall d__law_chance [.sl 2, .sl 16]))]))
  (mSeq (mIf (mOrT (mNotT (mTru (.val (mCall (d__law_is 8) [.val (mCall d_chance_to_win [.sl 2, .sl 3]), .sl 5])))) (mNotT (mTru (.val (mCall (d__law_is 8) [.val (mCall d_both_ways [.sl 2, .sl 3]), .val (mTup [.val (mVar 5), .val (mCall d__law_minus [.val (mTup [.val (mC (.int 1)), .val (mC (.int 1))]), .sl 5])])])))))
  (mRet (mC (.bl false)))
  mSkip)
  (mSeq (mSet 6 (mComp [17] (mRng [.sl 3, .val (mPrim pMul [.val (mC (.int 2)), .sl 3])]) (gName 17) mYes (mTup [.val (mVar 17), .val (mCall d__law_sum [.val (mComp [16] (mItems (mVar 4)) (gName 16) (mTst (mPrim pEq [.val (mPrim pLen [.sl 16]), .sl 17])) (mCall d__law_chance [.sl 2, .sl 16]))])])))
  (mSeq (mIf (mOrT (mNotT (mTru (.val (mCall (d__law_is 8) [.val (mComp [18] (mItems (mCall d_length_chances [.sl 2, .sl 3])) (gName 18) mYes (mPrim pTupOf [.sl 18])), .sl 6])))) (mNotT (mTru (.val (mCall (d__law_is 8) [.val (mCall d_mean_length [.sl 2, .sl 3]), .val (mCall d__law_sum [.val (mComp [17, 19] (mItems (mVar 6)) (gTup 2 (gsCons (gName 17) (gsCons (gName 19) gsNil))) mYes (mCall d__law_times [.val (mTup [.val (mVar 17), .val (mC (.int 1))]), .sl 19]))])])))))
  (mRet (mC (.bl false)))
  mSkip)
  (mSeq (mFor (mRng [.val (mC (.int 1)), .val (mPrim pAdd [.sl 3, .val (mC (.int 1))])]) (gName 7)
  (mFor (mRng [.val (mC (.int 1)), .val (mPrim pAdd [.sl 3, .val (mC (.int 1))])]) (gName 8)
  (mSeq (mSet 9 (mPrim pAdd [.val (mPrim pMul [.val (mC (.str "W")), .val (mPrim pSub [.sl 3, .sl 7])]), .val (mPrim pMul [.val (mC (.str "L")), .val (mPrim pSub [.sl 3, .sl 8])])]))
  (mSeq (mSet 10 (mCall d__law_sum [.val (mComp [16] (mItems (mVar 4)) (gName 16) (mAndT (mTst (mPrim pEq [.val (mPrim (pSl false true) [.sl 16, .val (mPrim pLen [.sl 9])]), .sl 9])) (mTst (mPrim pEq [.val (mPrim pIx [.sl 16, .val (mPrim pNeg [.val (mC (.int 1))])]), .val (mC (.str "W"))]))) (mCall d__law_chance [.sl 2, .val (mPrim (pSl true false) [.sl 16, .val (mPrim pLen [.sl 9])])]))]))
  (mIf (mNotT (mTru (.val (mCall (d__law_is 8) [.val (mCall d_chance_from [.sl 2, .sl 7, .sl 8]), .sl 10]))))
  (mRet (mC (.bl false)))
  mSkip)))))
  (mSeq (mPar [11, 12] [.val (mCall d__law_odds [.sl 1]), .val (mPrim pAdd [.val (mC (.int 1)), .val (mCall d__law_next [.sl 1, .val (mC (.int 5))])])])
  (mSeq (mSet 13 (mComp [15] (mRng [.val (mC (.int 1)), .val (mPrim pAdd [.sl 12, .val (mC (.int 1))])]) (gName 15) (mNotT (mTru (.val (mCall d__law_less [.val (mCall d__law_sum [.val (mComp [16] (mItems (mCall d__law_words [.sl 15])) (gName 16) (mTst (mPrim pEq [.val (mPrim pIx [.sl 16, .val (mPrim pNeg [.val (mC (.int 1))])]), .val (mC (.str "W"))])) (mCall d__law_chance [.sl 2, .sl 16]))]), .sl 11])))) (mVar 15)))
  (mSeq (mIf (mNotT (mTru (.val (mCall (d__law_is 8) [.val (mCall d_fair_series [.sl 2, .val (mTup [.val (mVar 12), .val (mVar 11)])]), .val (mIte (mTst (mPrim pGt [.val (mPrim pLen [.sl 13]), .val (mC (.int 0))])) (mPrim pIx [.sl 13, .val (mC (.int 0))]) (mC .non))]))))
  (mRet (mC (.bl false)))
  mSkip)
  (mSeq (mSet 14 (mTup [.val (mC (.int 1)), .val (mC (.int 1))]))
  (mFor (mRng [.val (mC (.int 6))]) (gName 15)
  (mSeq (mIf (mNotT (mTru (.val (mCall (d__law_is 8) [.val (mCall d_power [.sl 2, .sl 15]), .sl 14]))))
  (mRet (mC (.bl false)))
  mSkip)
  (mSet 14 (mCall d__law_times [.sl 14, .sl 2]))))))))))))))))
  (mRet (mAnd (mCall (d__law_is 8) [.val (mCall d_chance_to_win [.val (mTup [.val (mC (.int 2)), .val (mC (.int 3))]), .val (mC (.int 2))]), .val (mTup [.val (mC (.int 20)), .val (mC (.int 27))])]) (mAnd (mCall (d__law_is 8) [.val (mCall d_chance_from [.val (mTup [.val (mC (.int 1)), .val (mC (.int 2))]), .val (mC (.int 1)), .val (mC (.int 2))]), .val (mTup [.val (mC (.int 3)), .val (mC (.int 4))])]) (mCall (d__law_is 8) [.val (mCall d_mean_length [.val (mTup [.val (mC (.int 1)), .val (mC (.int 2))]), .val (mC (.int 4))]), .val (mTup [.val (mC (.int 93)), .val (mC (.int 16))])]))))))
def d_law : Den := mkDen 20 1 [] b_law
section
variable {P : Program} {w : World} {K : Fr} {mg : MG} {base : Heap}
theorem sc_common_divisor : FnScope ["one", "two"] ["one", "two"] (defScope s_common_divisor) := ⟨rfl, rfl, rfl, by decide +kernel, rfl, by decide +kernel, by decide +kernel⟩
theorem ok_common_divisor {f : Addr} {fd : FuncData} (F : Fun K "common_divisor" "common_divisor" s_common_divisor f fd) (b : Binds K fd ["one", "two"] []) (m : mg "common_divisor" = some (.ref f)) (z_abs : mg "abs" = none) : Def P w K mg base "common_divisor" 2 1 d_common_divisor := by
  refine def_of F sc_common_divisor rfl m b (A := [0, 1]) (k := 0) (by decide) fun cdv A' outer s H E hr => ?_
  have nd := sc_common_divisor.nd
  unfold b_common_divisor
  exact (vss_cons (vs_while (passes_of rfl) (t_tru (o_sl 1))
  (vss_one (s_par 0 1 (a_cons (vo_val (e_var 1)) (a_cons (vo_val (ve_mod (o_sl 0) (o_sl 1))) va_nil)))))
  (vss_one (vs_ret (e_abs z_abs (a_cons (o_sl 0) va_nil)))))
theorem sc_fraction : FnScope ["above", "below", "common"] ["above", "below"] (defScope s_fraction) := ⟨rfl, rfl, rfl, by decide +kernel, rfl, by decide +kernel, by decide +kernel⟩
theorem ok_fraction {f : Addr} {fd : FuncData} (F : Fun K "fraction" "fraction" s_fraction f fd) (b : Binds K fd ["above", "below"] []) (m : mg "fraction" = some (.ref f)) (D_common_divisor : Def P w K mg base "common_divisor" 2 1 d_common_divisor) : Def P w K mg base "fraction" 2 2 d_fraction := by
  refine def_of F sc_fraction rfl m b (A := [0, 1, 2]) (k := 1) (by decide) fun cdv A' outer s H E hr => ?_
  have nd := sc_fraction.nd
  unfold b_fraction
  exact (vss_cons (vs_if (vt_lt (o_sl 1) (vo_val ve_int))
  (vss_one (s_par 0 1 (a_cons (vo_val (ve_neg (o_sl 0))) (a_cons (vo_val (ve_neg (o_sl 1))) va_nil))))
  vss_nil)
  (vss_cons (s_set 2 (e_call D_common_divisor (hr.mono (by omega)) (a_cons (o_sl 0) (a_cons (o_sl 1) va_nil))))
  (vss_one (vs_ret (ve_tup (a_cons (vo_val (ve_fdiv (o_sl 0) (o_sl 2))) (a_cons (vo_val (ve_fdiv (o_sl 1) (o_sl 2))) va_nil)))))))
theorem sc_plus : FnScope ["one", "two"] ["one", "two"] (defScope s_plus) := ⟨rfl, rfl, rfl, by decide +kernel, rfl, by decide +kernel, by decide +kernel⟩
theorem ok_plus {f : Addr} {fd : FuncData} (F : Fun K "plus" "plus" s_plus f fd) (b : Binds K fd ["one", "two"] []) (m : mg "plus" = some (.ref f)) (D_fraction : Def P w K mg base "fraction" 2 2 d_fraction) : Def P w K mg base "plus" 2 3 d_plus := by
  refine def_of F sc_plus rfl m b (A := []) (k := 2) (by decide) fun cdv A' outer s H E hr => ?_
  have nd := sc_plus.nd
  unfold b_plus
  exact (vss_one (vs_ret (e_call D_fraction (hr.mono (by omega)) (a_cons (vo_val (ve_add (vo_val (ve_mul (vo_val (e_sub hr (o_sl 0) (vo_val ve_int))) (vo_val (e_sub hr (o_sl 1) (vo_val ve_int))))) (vo_val (ve_mul (vo_val (e_sub hr (o_sl 1) (vo_val ve_int))) (vo_val (e_sub hr (o_sl 0) (vo_val ve_int))))))) (a_cons (vo_val (ve_mul (vo_val (e_sub hr (o_sl 0) (vo_val ve_int))) (vo_val (e_sub hr (o_sl 1) (vo_val ve_int))))) va_nil)))))
theorem sc_minus : FnScope ["one", "two"] ["one", "two"] (defScope s_minus) := ⟨rfl, rfl, rfl, by decide +kernel, rfl, by decide +kernel, by decide +kernel⟩
theorem ok_minus {f : Addr} {fd : FuncData} (F : Fun K "minus" "minus" s_minus f fd) (b : Binds K fd ["one", "two"] []) (m : mg "minus" = some (.ref f)) (D_fraction : Def P w K mg base "fraction" 2 2 d_fraction) : Def P w K mg base "minus" 2 3 d_minus := by
  refine def_of F sc_minus rfl m b (A := []) (k := 2) (by decide) fun cdv A' outer s H E hr => ?_
  have nd := sc_minus.nd
  unfold b_minus
  exact (vss_one (vs_ret (e_call D_fraction (hr.mono (by omega)) (a_cons (vo_val (ve_sub (vo_val (ve_mul (vo_val (e_sub hr (o_sl 0) (vo_val ve_int))) (vo_val (e_sub hr (o_sl 1) (vo_val ve_int))))) (vo_val (ve_mul (vo_val (e_sub hr (o_sl 1) (vo_val ve_int))) (vo_val (e_sub hr (o_sl 0) (vo_val ve_int))))))) (a_cons (vo_val (ve_mul (vo_val (e_sub hr (o_sl 0) (vo_val ve_int))) (vo_val (e_sub hr (o_sl 1) (vo_val ve_int))))) va_nil)))))
theorem sc_times : FnScope ["one", "two"] ["one", "two"] (defScope s_times) := ⟨rfl, rfl, rfl, by decide +kernel, rfl, by decide +kernel, by decide +kernel⟩
theorem ok_times {f : Addr} {fd : FuncData} (F : Fun K "times" "times" s_times f fd) (b : Binds K fd ["one", "two"] []) (m : mg "times" = some (.ref f)) (D_fraction : Def P w K mg base "fraction" 2 2 d_fraction) : Def P w K mg base "times" 2 3 d_times := by
  refine def_of F sc_times rfl m b (A := []) (k := 2) (by decide) fun cdv A' outer s H E hr => ?_
  have nd := sc_times.nd
  unfold b_times
  exact (vss_one (vs_ret (e_call D_fraction (hr.mono (by omega)) (a_cons (vo_val (ve_mul (vo_val (e_sub hr (o_sl 0) (vo_val ve_int))) (vo_val (e_sub hr (o_sl 1) (vo_val ve_int))))) (a_cons (vo_val (ve_mul (vo_val (e_sub hr (o_sl 0) (vo_val ve_int))) (vo_val (e_sub hr (o_sl 1) (vo_val ve_int))))) va_nil)))))
theorem sc_choose : FnScope ["many", "some", "found", "step"] ["many", "some"] (defScope s_choose) := ⟨rfl, rfl, rfl, by decide +kernel, rfl, by decide +kernel, by decide +kernel⟩
theorem ok_choose {f : Addr} {fd : FuncData} (F : Fun K "choose" "choose" s_choose f fd) (b : Binds K fd ["many", "some"] []) (m : mg "choose" = some (.ref f)) (z_range : mg "range" = none) : Def P w K mg base "choose" 2 1 d_choose := by
  refine def_of F sc_choose rfl m b (A := [2, 3]) (k := 0) (by decide) fun cdv A' outer s H E hr => ?_
  have nd := sc_choose.nd
  unfold b_choose
  exact (vss_cons (vs_if (vt_not (vt_chain op_leA op_leA prim_cmp prim_cmp (vo_val ve_int) (o_sl 1) (o_sl 0)))
  (vss_one (vs_ret ve_int))
  vss_nil)
  (vss_cons (s_set 2 ve_int)
  (vss_cons (s_for (passes_of rfl) (i_rng1 z_range (a_cons (o_sl 1) va_nil)) (g_name 3)
  (vss_one (s_set 2 (ve_fdiv (vo_val (ve_mul (o_sl 2) (vo_val (ve_sub (o_sl 0) (o_sl 3))))) (vo_val (ve_add (o_sl 3) (vo_val ve_int)))))))
  (vss_one (s_retV 2)))))
theorem sc_power : FnScope ["one", "number", "found", "_"] ["one", "number"] (defScope s_power) := ⟨rfl, rfl, rfl, by decide +kernel, rfl, by decide +kernel, by decide +kernel⟩
theorem ok_power {f : Addr} {fd : FuncData} (F : Fun K "power" "power" s_power f fd) (b : Binds K fd ["one", "number"] []) (m : mg "power" = some (.ref f)) (D_times : Def P w K mg base "times" 2 3 d_times) (z_range : mg "range" = none) : Def P w K mg base "power" 2 4 d_power := by
  refine def_of F sc_power rfl m b (A := [2, 3]) (k := 3) (by decide) fun cdv A' outer s H E hr => ?_
  have nd := sc_power.nd
  unfold b_power
  exact (vss_cons (s_set 2 (ve_tup (a_cons (vo_val ve_int) (a_cons (vo_val ve_int) va_nil))))
  (vss_cons (s_for (passes_of rfl) (i_rng1 z_range (a_cons (o_sl 1) va_nil)) (g_name 3)
  (vss_one (s_set 2 (e_call D_times (hr.mono (by omega)) (a_cons (o_sl 2) (a_cons (o_sl 0) va_nil))))))
  (vss_one (s_retV 2))))
theorem sc_chance_to_win : FnScope ["odds", "wins", "found", "lost", "losses", "ways"] ["odds", "wins"] (defScope s_chance_to_win) := ⟨rfl, rfl, rfl, by decide +kernel, rfl, by decide +kernel, by decide +kernel⟩
theorem ok_chance_to_win {f : Addr} {fd : FuncData} (F : Fun K "chance_to_win" "chance_to_win" s_chance_to_win f fd) (b : Binds K fd ["odds", "wins"] []) (m : mg "chance_to_win" = some (.ref f)) (D_plus : Def P w K mg base "plus" 2 3 d_plus) (D_minus : Def P w K mg base "minus" 2 3 d_minus) (D_times : Def P w K mg base "times" 2 3 d_times) (D_choose : Def P w K mg base "choose" 2 1 d_choose) (D_power : Def P w K mg base "power" 2 4 d_power) (z_range : mg "range" = none) : Def P w K mg base "chance_to_win" 2 5 d_chance_to_win := by
  refine def_of F sc_chance_to_win rfl m b (A := [2, 3, 4, 5]) (k := 4) (by decide) fun cdv A' outer s H E hr => ?_
  have nd := sc_chance_to_win.nd
  unfold b_chance_to_win
  exact (vss_cons (s_set 2 (ve_tup (a_cons (vo_val ve_int) (a_cons (vo_val ve_int) va_nil))))
  (vss_cons (s_set 3 (e_call D_minus (hr.mono (by omega)) (a_cons (vo_val (ve_tup (a_cons (vo_val ve_int) (a_cons (vo_val ve_int) va_nil)))) (a_cons (o_sl 0) va_nil))))
  (vss_cons (s_for (passes_of rfl) (i_rng1 z_range (a_cons (o_sl 1) va_nil)) (g_name 4)
  (vss_cons (s_set 5 (e_call D_choose (hr.mono (by omega)) (a_cons (vo_val (ve_add (vo_val (ve_sub (o_sl 1) (vo_val ve_int))) (o_sl 4))) (a_cons (o_sl 4) va_nil))))
  (vss_one (s_set 2 (e_call D_plus (hr.mono (by omega)) (a_cons (o_sl 2) (a_cons (vo_val (e_call D_times (hr.mono (by omega)) (a_cons (vo_val (ve_tup (a_cons (vo_val (e_var 5)) (a_cons (vo_val ve_int) va_nil)))) (a_cons (vo_val (e_call D_times (hr.mono (by omega)) (a_cons (vo_val (e_call D_power (hr.mono (by omega)) (a_cons (o_sl 0) (a_cons (o_sl 1) va_nil)))) (a_cons (vo_val (e_call D_power (hr.mono (by omega)) (a_cons (o_sl 3) (a_cons (o_sl 4) va_nil)))) va_nil)))) va_nil)))) va_nil)))))))
  (vss_one (s_retV 2)))))
theorem sc_length_chances : FnScope ["odds", "wins", "found", "lost", "losses", "ways", "one", "two"] ["odds", "wins"] (defScope s_length_chances) := ⟨rfl, rfl, rfl, by decide +kernel, rfl, by decide +kernel, by decide +kernel⟩
theorem ok_length_chances {f : Addr} {fd : FuncData} (F : Fun K "length_chances" "length_chances" s_length_chances f fd) (b : Binds K fd ["odds", "wins"] []) (m : mg "length_chances" = some (.ref f)) (D_plus : Def P w K mg base "plus" 2 3 d_plus) (D_minus : Def P w K mg base "minus" 2 3 d_minus) (D_times : Def P w K mg base "times" 2 3 d_times) (D_choose : Def P w K mg base "choose" 2 1 d_choose) (D_power : Def P w K mg base "power" 2 4 d_power) (z_range : mg "range" = none) : Def P w K mg base "length_chances" 2 5 d_length_chances := by
  refine def_of F sc_length_chances rfl m b (A := [2, 3, 4, 5, 6, 7]) (k := 4) (by decide) fun cdv A' outer s H E hr => ?_
  have nd := sc_length_chances.nd
  unfold b_length_chances
  exact (vss_cons (s_set 2 (ve_lst va_nil))
  (vss_cons (s_set 3 (e_call D_minus (hr.mono (by omega)) (a_cons (vo_val (ve_tup (a_cons (vo_val ve_int) (a_cons (vo_val ve_int) va_nil)))) (a_cons (o_sl 0) va_nil))))
  (vss_cons (s_for (passes_of rfl) (i_rng1 z_range (a_cons (o_sl 1) va_nil)) (g_name 4)
  (vss_cons (s_set 5 (ve_tup (a_cons (vo_val (e_call D_choose (hr.mono (by omega)) (a_cons (vo_val (ve_add (vo_val (ve_sub (o_sl 1) (vo_val ve_int))) (o_sl 4))) (a_cons (o_sl 4) va_nil)))) (a_cons (vo_val ve_int) va_nil))))
  (vss_cons (s_set 6 (e_call D_times (hr.mono (by omega)) (a_cons (vo_val (e_call D_power (hr.mono (by omega)) (a_cons (o_sl 0) (a_cons (o_sl 1) va_nil)))) (a_cons (vo_val (e_call D_power (hr.mono (by omega)) (a_cons (o_sl 3) (a_cons (o_sl 4) va_nil)))) va_nil))))
  (vss_cons (s_set 7 (e_call D_times (hr.mono (by omega)) (a_cons (vo_val (e_call D_power (hr.mono (by omega)) (a_cons (o_sl 3) (a_cons (o_sl 1) va_nil)))) (a_cons (vo_val (e_call D_power (hr.mono (by omega)) (a_cons (o_sl 0) (a_cons (o_sl 4) va_nil)))) va_nil))))
  (vss_one (s_exp (e_append 2 (a_cons (vo_val (ve_tup (a_cons (vo_val (ve_add (o_sl 1) (o_sl 4))) (a_cons (vo_val (e_call D_times (hr.mono (by omega)) (a_cons (o_sl 5) (a_cons (vo_val (e_call D_plus (hr.mono (by omega)) (a_cons (o_sl 6) (a_cons (o_sl 7) va_nil)))) va_nil)))) va_nil)))) va_nil))))))))
  (vss_one (s_retV 2)))))
theorem sc_mean_length : FnScope ["odds", "wins", "found", "number", "chance"] ["odds", "wins"] (defScope s_mean_length) := ⟨rfl, rfl, rfl, by decide +kernel, rfl, by decide +kernel, by decide +kernel⟩
theorem ok_mean_length {f : Addr} {fd : FuncData} (F : Fun K "mean_length" "mean_length" s_mean_length f fd) (b : Binds K fd ["odds", "wins"] []) (m : mg "mean_length" = some (.ref f)) (D_plus : Def P w K mg base "plus" 2 3 d_plus) (D_times : Def P w K mg base "times" 2 3 d_times) (D_length_chances : Def P w K mg base "length_chances" 2 5 d_length_chances) : Def P w K mg base "mean_length" 2 6 d_mean_length := by
  refine def_of F sc_mean_length rfl m b (A := [2, 3, 4]) (k := 5) (by decide) fun cdv A' outer s H E hr => ?_
  have nd := sc_mean_length.nd
  unfold b_mean_length
  exact (vss_cons (s_set 2 (ve_tup (a_cons (vo_val ve_int) (a_cons (vo_val ve_int) va_nil))))
  (vss_cons (s_for (passes_of rfl) (vi_items (e_call D_length_chances (hr.mono (by omega)) (a_cons (o_sl 0) (a_cons (o_sl 1) va_nil)))) (g_tup (gs_cons (g_name 3) (gs_cons (g_name 4) vgs_nil)))
  (vss_one (s_set 2 (e_call D_plus (hr.mono (by omega)) (a_cons (o_sl 2) (a_cons (vo_val (e_call D_times (hr.mono (by omega)) (a_cons (vo_val (ve_tup (a_cons (vo_val (e_var 3)) (a_cons (vo_val ve_int) va_nil)))) (a_cons (o_sl 4) va_nil)))) va_nil))))))
  (vss_one (s_retV 2))))
theorem sc_chance_from : FnScope ["odds", "mine", "others", "row", "one", "two", "won"] ["odds", "mine", "others"] (defScope s_chance_from) := ⟨rfl, rfl, rfl, by decide +kernel, rfl, by decide +kernel, by decide +kernel⟩
theorem ok_chance_from {f : Addr} {fd : FuncData} (F : Fun K "chance_from" "chance_from" s_chance_from f fd) (b : Binds K fd ["odds", "mine", "others"] []) (m : mg "chance_from" = some (.ref f)) (D_plus : Def P w K mg base "plus" 2 3 d_plus) (D_minus : Def P w K mg base "minus" 2 3 d_minus) (D_times : Def P w K mg base "times" 2 3 d_times) (z_range : mg "range" = none) : Def P w K mg base "chance_from" 3 4 d_chance_from := by
  refine def_of F sc_chance_from rfl m b (A := [3, 4, 5, 6]) (k := 3) (by decide) fun cdv A' outer s H E hr => ?_
  have nd := sc_chance_from.nd
  unfold b_chance_from
  exact (vss_cons (s_set 3 ve_newT)
  (vss_cons (s_for (passes_of rfl) (i_rng1 z_range (a_cons (vo_val (ve_add (o_sl 1) (vo_val ve_int))) va_nil)) (g_name 4)
  (vss_one (s_for (passes_of rfl) (i_rng1 z_range (a_cons (vo_val (ve_add (o_sl 2) (vo_val ve_int))) va_nil)) (g_name 5)
  (vss_one (vs_if (vt_eq hr (o_sl 4) (vo_val ve_int))
  (vss_one (s_asg (ve_tup (a_cons (vo_val ve_int) (a_cons (vo_val ve_int) va_nil))) (g_store 3 hr (vo_val (ve_tup (a_cons (vo_val (e_var 4)) (a_cons (vo_val (e_var 5)) va_nil)))))))
  (vss_one (vs_if (vt_eq hr (o_sl 5) (vo_val ve_int))
  (vss_one (s_asg (ve_tup (a_cons (vo_val ve_int) (a_cons (vo_val ve_int) va_nil))) (g_store 3 hr (vo_val (ve_tup (a_cons (vo_val (e_var 4)) (a_cons (vo_val (e_var 5)) va_nil)))))))
  (vss_cons (s_set 6 (e_call D_times (hr.mono (by omega)) (a_cons (o_sl 0) (a_cons (vo_val (e_sub hr (o_sl 3) (vo_val (ve_tup (a_cons (vo_val (ve_sub (o_sl 4) (vo_val ve_int))) (a_cons (vo_val (e_var 5)) va_nil)))))) va_nil))))
  (vss_one (s_asg (e_call D_plus (hr.mono (by omega)) (a_cons (o_sl 6) (a_cons (vo_val (e_call D_times (hr.mono (by omega)) (a_cons (vo_val (e_call D_minus (hr.mono (by omega)) (a_cons (vo_val (ve_tup (a_cons (vo_val ve_int) (a_cons (vo_val ve_int) va_nil)))) (a_cons (o_sl 0) va_nil)))) (a_cons (vo_val (e_sub hr (o_sl 3) (vo_val (ve_tup (a_cons (vo_val (e_var 4)) (a_cons (vo_val (ve_sub (o_sl 5) (vo_val ve_int))) va_nil)))))) va_nil)))) va_nil))) (g_store 3 hr (vo_val (ve_tup (a_cons (vo_val (e_var 4)) (a_cons (vo_val (e_var 5)) va_nil)))))))))))))))
  (vss_one (vs_ret (e_sub hr (o_sl 3) (vo_val (ve_tup (a_cons (vo_val (e_var 1)) (a_cons (vo_val (e_var 2)) va_nil)))))))))
theorem sc_fair_series : FnScope ["odds", "wins", "number", "chance"] ["odds", "wins"] (defScope s_fair_series) := ⟨rfl, rfl, rfl, by decide +kernel, rfl, by decide +kernel, by decide +kernel⟩
theorem ok_fair_series {f : Addr} {fd : FuncData} (F : Fun K "fair_series" "fair_series" s_fair_series f fd) (b : Binds K fd ["odds", "wins"] []) (m : mg "fair_series" = some (.ref f)) (D_chance_to_win : Def P w K mg base "chance_to_win" 2 5 d_chance_to_win) (z_range : mg "range" = none) : Def P w K mg base "fair_series" 2 6 d_fair_series := by
  refine def_of F sc_fair_series rfl m b (A := [2, 3]) (k := 5) (by decide) fun cdv A' outer s H E hr => ?_
  have nd := sc_fair_series.nd
  unfold b_fair_series
  exact (vss_cons (s_for (passes_of rfl) (i_rng2 z_range (a_cons (vo_val ve_int) (a_cons (vo_val (ve_add (vo_val (e_sub hr (o_sl 1) (vo_val ve_int))) (vo_val ve_int))) va_nil))) (g_name 2)
  (vss_cons (s_set 3 (e_call D_chance_to_win (hr.mono (by omega)) (a_cons (o_sl 0) (a_cons (o_sl 2) va_nil))))
  (vss_one (vs_if (vt_ge (vo_val (ve_mul (vo_val (e_sub hr (o_sl 3) (vo_val ve_int))) (vo_val (e_sub hr (vo_val (e_sub hr (o_sl 1) (vo_val ve_int))) (vo_val ve_int))))) (vo_val (ve_mul (vo_val (e_sub hr (vo_val (e_sub hr (o_sl 1) (vo_val ve_int))) (vo_val ve_int))) (vo_val (e_sub hr (o_sl 3) (vo_val ve_int))))))
  (vss_one (s_retV 2))
  vss_nil))))
  (vss_one (vs_ret ve_non)))
theorem sc_both_ways : FnScope ["odds", "wins"] ["odds", "wins"] (defScope s_both_ways) := ⟨rfl, rfl, rfl, by decide +kernel, rfl, by decide +kernel, by decide +kernel⟩
theorem ok_both_ways {f : Addr} {fd : FuncData} (F : Fun K "both_ways" "both_ways" s_both_ways f fd) (b : Binds K fd ["odds", "wins"] []) (m : mg "both_ways" = some (.ref f)) (D_fraction : Def P w K mg base "fraction" 2 2 d_fraction) (D_chance_to_win : Def P w K mg base "chance_to_win" 2 5 d_chance_to_win) : Def P w K mg base "both_ways" 2 6 d_both_ways := by
  refine def_of F sc_both_ways rfl m b (A := []) (k := 5) (by decide) fun cdv A' outer s H E hr => ?_
  have nd := sc_both_ways.nd
  unfold b_both_ways
  exact (vss_one (vs_ret (ve_tup (a_cons (vo_val (e_call D_chance_to_win (hr.mono (by omega)) (a_cons (o_sl 0) (a_cons (o_sl 1) va_nil)))) (a_cons (vo_val (e_call D_chance_to_win (hr.mono (by omega)) (a_cons (vo_val (e_call D_fraction (hr.mono (by omega)) (a_cons (vo_val (ve_sub (vo_val (e_sub hr (o_sl 0) (vo_val ve_int))) (vo_val (e_sub hr (o_sl 0) (vo_val ve_int))))) (a_cons (vo_val (e_sub hr (o_sl 0) (vo_val ve_int))) va_nil)))) (a_cons (o_sl 1) va_nil)))) va_nil)))))
theorem sc__law_draws : FnScope ["cell", "modulus", "count", "number", "row", "k", "mixed"] ["cell", "modulus", "count"] (defScope s__law_draws) := ⟨rfl, rfl, rfl, by decide +kernel, rfl, by decide +kernel, by decide +kernel⟩
theorem ok__law_draws {f : Addr} {fd : FuncData} (F : Fun K "_law_draws" "_law_draws" s__law_draws f fd) (b : Binds K fd ["cell", "modulus", "count"] []) (m : mg "_law_draws" = some (.ref f)) (z_int : mg "int" = none) (z_range : mg "range" = none) : Def P w K mg base "_law_draws" 3 1 d__law_draws := by
  refine def_of F sc__law_draws rfl m b (A := [3, 4, 5, 6]) (k := 0) (by decide) fun cdv A' outer s H E hr => ?_
  have nd := sc__law_draws.nd
  unfold b__law_draws
  exact (vss_cons (s_set 3 (e_var 0))
  (vss_cons (vs_if (vt_lt (o_sl 3) (vo_val ve_int))
  (vss_one (s_set 3 (ve_sub (vo_val (ve_sub (vo_val ve_int) (vo_val ve_int))) (o_sl 3))))
  vss_nil)
  (vss_cons (s_set 4 (ve_lst va_nil))
  (vss_cons (vs_if (vt_ge (o_sl 3) (vo_val (ve_pow (vo_val ve_int) (vo_val ve_int))))
  (vss_cons (s_for (passes_of rfl) (i_rng1 z_range (a_cons (o_sl 2) va_nil)) (g_name 5)
  (vss_cons (s_exp (e_append 4 (a_cons (vo_val (ve_mod (vo_val (e_int z_int (a_cons (o_sl 3) va_nil))) (o_sl 1))) va_nil)))
  (vss_one (s_set 3 (ve_fdiv (o_sl 3) (o_sl 1))))))
  (vss_one (s_retV 4)))
  vss_nil)
  (vss_cons (s_for (passes_of rfl) (i_rng1 z_range (a_cons (o_sl 2) va_nil)) (g_name 5)
  (vss_cons (s_set 6 (ve_mod (vo_val (e_int z_int (a_cons (vo_val (ve_mul (vo_val (ve_add (vo_val (ve_add (o_sl 3) (vo_val (ve_mul (vo_val ve_int) (o_sl 5))))) (vo_val ve_int))) (vo_val ve_int))) va_nil))) (vo_val ve_int)))
  (vss_cons (s_set 6 (ve_mod (vo_val (e_int z_int (a_cons (vo_val (ve_add (vo_val (ve_mul (o_sl 6) (vo_val ve_int))) (vo_val (ve_mul (vo_val ve_int) (o_sl 5))))) va_nil))) (vo_val ve_int)))
  (vss_one (s_exp (e_append 4 (a_cons (vo_val (ve_mod (vo_val (e_int z_int (a_cons (vo_val (ve_fdiv (o_sl 6) (vo_val ve_int))) va_nil))) (o_sl 1))) va_nil)))))))
  (vss_one (s_retV 4)))))))
theorem sc__law_box : FnScope ["script", "row", "cell"] ["script"] (defScope s__law_box) := ⟨rfl, rfl, rfl, by decide +kernel, rfl, by decide +kernel, by decide +kernel⟩
theorem ok__law_box {f : Addr} {fd : FuncData} (F : Fun K "_law_box" "_law_box" s__law_box f fd) (b : Binds K fd ["script"] []) (m : mg "_law_box" = some (.ref f)) (D__law_draws : Def P w K mg base "_law_draws" 3 1 d__law_draws) (z_len : mg "len" = none) : Def P w K mg base "_law_box" 1 2 d__law_box := by
  refine def_of F sc__law_box rfl m b (A := [1, 2]) (k := 1) (by decide) fun cdv A' outer s H E hr => ?_
  have nd := sc__law_box.nd
  unfold b__law_box
  exact (vss_cons (s_set 1 (ve_lst va_nil))
  (vss_cons (s_for (passes_of rfl) (vi_items (e_var 0)) (g_name 2)
  (vss_one (s_set 1 (ve_add (o_sl 1) (vo_val (e_call D__law_draws (hr.mono (by omega)) (a_cons (o_sl 2) (a_cons (vo_val ve_int) (a_cons (vo_val ve_int) va_nil)))))))))
  (vss_cons (vs_if (vt_eq hr (vo_val (e_len z_len (a_cons (o_sl 1) va_nil))) (vo_val ve_int))
  (vss_one (s_set 1 (ve_lst (a_cons (vo_val ve_int) (a_cons (vo_val ve_int) (a_cons (vo_val ve_int) (a_cons (vo_val ve_int) (a_cons (vo_val ve_int) (a_cons (vo_val ve_int) (a_cons (vo_val ve_int) va_nil))))))))))
  vss_nil)
  (vss_one (vs_ret (e_dict (.cons (vo_val ve_str) (vo_val (e_var 1)) (.cons (vo_val ve_str) (vo_val ve_int) .nil))))))))
theorem sc__law_next : FnScope ["box", "modulus", "at", "number"] ["box", "modulus"] (defScope s__law_next) := ⟨rfl, rfl, rfl, by decide +kernel, rfl, by decide +kernel, by decide +kernel⟩
theorem ok__law_next {f : Addr} {fd : FuncData} (F : Fun K "_law_next" "_law_next" s__law_next f fd) (b : Binds K fd ["box", "modulus"] []) (m : mg "_law_next" = some (.ref f)) (z_int : mg "int" = none) (z_len : mg "len" = none) : Def P w K mg base "_law_next" 2 1 d__law_next := by
  refine def_of F sc__law_next rfl m b (A := [2, 3]) (k := 0) (by decide) fun cdv A' outer s H E hr => ?_
  have nd := sc__law_next.nd
  unfold b__law_next
  exact (vss_cons (s_set 2 (e_sub hr (o_sl 0) (vo_val ve_str)))
  (vss_cons (s_asg (ve_add (o_sl 2) (vo_val ve_int)) (g_store 0 hr (vo_val ve_str)))
  (vss_cons (s_set 3 (e_sub hr (vo_val (e_sub hr (o_sl 0) (vo_val ve_str))) (vo_val (ve_mod (o_sl 2) (vo_val (e_len z_len (a_cons (vo_val (e_sub hr (o_sl 0) (vo_val ve_str))) va_nil)))))))
  (vss_one (vs_ret (ve_mod (vo_val (e_int z_int (a_cons (vo_val (ve_add (o_sl 3) (vo_val (ve_mul (vo_val ve_int) (vo_val (ve_fdiv (o_sl 2) (vo_val (e_len z_len (a_cons (vo_val (e_sub hr (o_sl 0) (vo_val ve_str))) va_nil))))))))) va_nil))) (o_sl 1)))))))
theorem sc__law_is : FnScope ["got", "due", "same", "k"] ["got", "due"] (defScope s__law_is) := ⟨rfl, rfl, rfl, by decide +kernel, rfl, by decide +kernel, by decide +kernel⟩
theorem ok__law_is {f : Addr} {fd : FuncData} (F : Fun K "_law_is" "_law_is" s__law_is f fd) (b : Binds K fd ["got", "due"] []) (m : mg "_law_is" = some (.ref f)) (z_all : mg "all" = none) (z_bool : mg "bool" = none) (z_dict : mg "dict" = none) (z_int : mg "int" = none) (z_isinstance : mg "isinstance" = none) (z_len : mg "len" = none) (z_list : mg "list" = none) (z_range : mg "range" = none) (z_str : mg "str" = none) (z_tuple : mg "tuple" = none) : ∀ n : Nat, Def P w K mg base "_law_is" 2 (0 + n) (d__law_is n)
  | 0 => ⟨_, _, _, rfl, m, F.kp, b, no_fn⟩
  | n + 1 => by
    have D__law_is := ok__law_is F b m z_all z_bool z_dict z_int z_isinstance z_len z_list z_range z_str z_tuple n
    refine def_of F sc__law_is rfl m b (A := [2]) (k := 0 + n) (by decide) fun cdv A' outer s H E hr => ?_
    have nd := sc__law_is.nd
    unfold b__law_is
    exact (vss_cons (vs_if (t_tru (vo_val (e_isiN z_isinstance (o_sl 1) (tys_cons (ty_list z_list) (tys_cons (ty_tuple z_tuple) .nil)))))
  (vss_cons (s_set 2 (ve_ite (t_tru (vo_val (e_isi1 z_isinstance (o_sl 1) (ty_list z_list)))) (e_isi1 z_isinstance (o_sl 0) (ty_list z_list)) (e_isi1 z_isinstance (o_sl 0) (ty_tuple z_tuple))))
  (vss_one (vs_ret (ve_and (e_var 2) (ve_and (ve_eq hr (vo_val (e_len z_len (a_cons (o_sl 0) va_nil))) (vo_val (e_len z_len (a_cons (o_sl 1) va_nil)))) (ve_one (e_all z_all (a_cons (vo_val (e_comp [("k", 3)] (i_rng1 z_range (a_cons (vo_val (e_len z_len (a_cons (o_sl 1) va_nil))) va_nil)) (fun _ _ _ _ _ => (g_name 3)) (fun _ _ _ _ _ => vpts_nil) (fun _ _ _ _ _ => (e_call D__law_is (hr.mono (by omega)) (a_cons (vo_val (e_sub hr (o_sl 0) (o_sl 3))) (a_cons (vo_val (e_sub hr (o_sl 1) (o_sl 3))) va_nil)))))) va_nil))))))))
  vss_nil)
  (vss_cons (vs_if (t_tru (vo_val (e_isi1 z_isinstance (o_sl 1) (ty_dict z_dict))))
  (vss_one (vs_ret (ve_and (e_isi1 z_isinstance (o_sl 0) (ty_dict z_dict)) (ve_one (e_call D__law_is (hr.mono (by omega)) (a_cons (vo_val ve_no) (a_cons (vo_val ve_no) va_nil)))))))
  vss_nil)
  (vss_cons (vs_if (vt_is (o_sl 1) (vo_val ve_non))
  (vss_one (vs_ret (ve_is (o_sl 0) (vo_val ve_non))))
  vss_nil)
  (vss_cons (vs_if (t_tru (vo_val (e_isi1 z_isinstance (o_sl 1) (ty_bool z_bool))))
  (vss_one (vs_ret (ve_and (e_isi1 z_isinstance (o_sl 0) (ty_bool z_bool)) (ve_one (ve_eq hr (o_sl 0) (o_sl 1))))))
  vss_nil)
  (vss_cons (vs_if (t_tru (vo_val (e_isi1 z_isinstance (o_sl 1) (ty_int z_int))))
  (vss_one (vs_ret (ve_and (e_isi1 z_isinstance (o_sl 0) (ty_int z_int)) (ve_and (ve_not (vo_val (e_isi1 z_isinstance (o_sl 0) (ty_bool z_bool)))) (ve_one (ve_eq hr (o_sl 0) (o_sl 1)))))))
  vss_nil)
  (vss_one (vs_ret (ve_and (e_isi1 z_isinstance (o_sl 0) (ty_str z_str)) (ve_one (ve_eq hr (o_sl 0) (o_sl 1)))))))))))
theorem sc__law_least : FnScope ["above", "below", "a", "b", "sign"] ["above", "below"] (defScope s__law_least) := ⟨rfl, rfl, rfl, by decide +kernel, rfl, by decide +kernel, by decide +kernel⟩
theorem ok__law_least {f : Addr} {fd : FuncData} (F : Fun K "_law_least" "_law_least" s__law_least f fd) (b : Binds K fd ["above", "below"] []) (m : mg "_law_least" = some (.ref f)) (z_max : mg "max" = none) : Def P w K mg base "_law_least" 2 1 d__law_least := by
  refine def_of F sc__law_least rfl m b (A := [2, 3, 4]) (k := 0) (by decide) fun cdv A' outer s H E hr => ?_
  have nd := sc__law_least.nd
  unfold b__law_least
  exact (vss_cons (s_par 2 3 (a_cons (vo_val (e_max2 z_max (a_cons (o_sl 0) (a_cons (vo_val (ve_sub (vo_val ve_int) (o_sl 0))) va_nil)))) (a_cons (vo_val (e_max2 z_max (a_cons (o_sl 1) (a_cons (vo_val (ve_sub (vo_val ve_int) (o_sl 1))) va_nil)))) va_nil)))
  (vss_cons (vs_while (passes_of rfl) (vt_gt (o_sl 3) (vo_val ve_int))
  (vss_one (s_par 2 3 (a_cons (vo_val (e_var 3)) (a_cons (vo_val (ve_sub (o_sl 2) (vo_val (ve_mul (vo_val (ve_fdiv (o_sl 2) (o_sl 3))) (o_sl 3))))) va_nil)))))
  (vss_cons (s_set 4 (ve_ite (vt_gt (o_sl 1) (vo_val ve_int)) ve_int (ve_sub (vo_val ve_int) (vo_val ve_int))))
  (vss_one (vs_ret (ve_tup (a_cons (vo_val (ve_fdiv (vo_val (ve_mul (o_sl 4) (o_sl 0))) (o_sl 2))) (a_cons (vo_val (ve_fdiv (vo_val (ve_mul (o_sl 4) (o_sl 1))) (o_sl 2))) va_nil))))))))
theorem sc__law_odds : FnScope ["box", "under"] ["box"] (defScope s__law_odds) := ⟨rfl, rfl, rfl, by decide +kernel, rfl, by decide +kernel, by decide +kernel⟩
theorem ok__law_odds {f : Addr} {fd : FuncData} (F : Fun K "_law_odds" "_law_odds" s__law_odds f fd) (b : Binds K fd ["box"] []) (m : mg "_law_odds" = some (.ref f)) (D__law_next : Def P w K mg base "_law_next" 2 1 d__law_next) (D__law_least : Def P w K mg base "_law_least" 2 1 d__law_least) : Def P w K mg base "_law_odds" 1 2 d__law_odds := by
  refine def_of F sc__law_odds rfl m b (A := [1]) (k := 1) (by decide) fun cdv A' outer s H E hr => ?_
  have nd := sc__law_odds.nd
  unfold b__law_odds
  exact (vss_cons (s_set 1 (ve_add (vo_val ve_int) (vo_val (e_call D__law_next (hr.mono (by omega)) (a_cons (o_sl 0) (a_cons (vo_val ve_int) va_nil))))))
  (vss_one (vs_ret (e_call D__law_least (hr.mono (by omega)) (a_cons (vo_val (e_call D__law_next (hr.mono (by omega)) (a_cons (o_sl 0) (a_cons (vo_val (ve_add (o_sl 1) (vo_val ve_int))) va_nil)))) (a_cons (o_sl 1) va_nil))))))
theorem sc__law_plus : FnScope ["one", "two"] ["one", "two"] (defScope s__law_plus) := ⟨rfl, rfl, rfl, by decide +kernel, rfl, by decide +kernel, by decide +kernel⟩
theorem ok__law_plus {f : Addr} {fd : FuncData} (F : Fun K "_law_plus" "_law_plus" s__law_plus f fd) (b : Binds K fd ["one", "two"] []) (m : mg "_law_plus" = some (.ref f)) (D__law_least : Def P w K mg base "_law_least" 2 1 d__law_least) : Def P w K mg base "_law_plus" 2 2 d__law_plus := by
  refine def_of F sc__law_plus rfl m b (A := []) (k := 1) (by decide) fun cdv A' outer s H E hr => ?_
  have nd := sc__law_plus.nd
  unfold b__law_plus
  exact (vss_one (vs_ret (e_call D__law_least (hr.mono (by omega)) (a_cons (vo_val (ve_add (vo_val (ve_mul (vo_val (e_sub hr (o_sl 0) (vo_val ve_int))) (vo_val (e_sub hr (o_sl 1) (vo_val ve_int))))) (vo_val (ve_mul (vo_val (e_sub hr (o_sl 1) (vo_val ve_int))) (vo_val (e_sub hr (o_sl 0) (vo_val ve_int))))))) (a_cons (vo_val (ve_mul (vo_val (e_sub hr (o_sl 0) (vo_val ve_int))) (vo_val (e_sub hr (o_sl 1) (vo_val ve_int))))) va_nil)))))
theorem sc__law_minus : FnScope ["one", "two"] ["one", "two"] (defScope s__law_minus) := ⟨rfl, rfl, rfl, by decide +kernel, rfl, by decide +kernel, by decide +kernel⟩
theorem ok__law_minus {f : Addr} {fd : FuncData} (F : Fun K "_law_minus" "_law_minus" s__law_minus f fd) (b : Binds K fd ["one", "two"] []) (m : mg "_law_minus" = some (.ref f)) (D__law_least : Def P w K mg base "_law_least" 2 1 d__law_least) : Def P w K mg base "_law_minus" 2 2 d__law_minus := by
  refine def_of F sc__law_minus rfl m b (A := []) (k := 1) (by decide) fun cdv A' outer s H E hr => ?_
  have nd := sc__law_minus.nd
  unfold b__law_minus
  exact (vss_one (vs_ret (e_call D__law_least (hr.mono (by omega)) (a_cons (vo_val (ve_sub (vo_val (ve_mul (vo_val (e_sub hr (o_sl 0) (vo_val ve_int))) (vo_val (e_sub hr (o_sl 1) (vo_val ve_int))))) (vo_val (ve_mul (vo_val (e_sub hr (o_sl 1) (vo_val ve_int))) (vo_val (e_sub hr (o_sl 0) (vo_val ve_int))))))) (a_cons (vo_val (ve_mul (vo_val (e_sub hr (o_sl 0) (vo_val ve_int))) (vo_val (e_sub hr (o_sl 1) (vo_val ve_int))))) va_nil)))))
theorem sc__law_times : FnScope ["one", "two"] ["one", "two"] (defScope s__law_times) := ⟨rfl, rfl, rfl, by decide +kernel, rfl, by decide +kernel, by decide +kernel⟩
theorem ok__law_times {f : Addr} {fd : FuncData} (F : Fun K "_law_times" "_law_times" s__law_times f fd) (b : Binds K fd ["one", "two"] []) (m : mg "_law_times" = some (.ref f)) (D__law_least : Def P w K mg base "_law_least" 2 1 d__law_least) : Def P w K mg base "_law_times" 2 2 d__law_times := by
  refine def_of F sc__law_times rfl m b (A := []) (k := 1) (by decide) fun cdv A' outer s H E hr => ?_
  have nd := sc__law_times.nd
  unfold b__law_times
  exact (vss_one (vs_ret (e_call D__law_least (hr.mono (by omega)) (a_cons (vo_val (ve_mul (vo_val (e_sub hr (o_sl 0) (vo_val ve_int))) (vo_val (e_sub hr (o_sl 1) (vo_val ve_int))))) (a_cons (vo_val (ve_mul (vo_val (e_sub hr (o_sl 0) (vo_val ve_int))) (vo_val (e_sub hr (o_sl 1) (vo_val ve_int))))) va_nil)))))
theorem sc__law_less : FnScope ["one", "two"] ["one", "two"] (defScope s__law_less) := ⟨rfl, rfl, rfl, by decide +kernel, rfl, by decide +kernel, by decide +kernel⟩
theorem ok__law_less {f : Addr} {fd : FuncData} (F : Fun K "_law_less" "_law_less" s__law_less f fd) (b : Binds K fd ["one", "two"] []) (m : mg "_law_less" = some (.ref f)) : Def P w K mg base "_law_less" 2 1 d__law_less := by
  refine def_of F sc__law_less rfl m b (A := []) (k := 0) (by decide) fun cdv A' outer s H E hr => ?_
  have nd := sc__law_less.nd
  unfold b__law_less
  exact (vss_one (vs_ret (ve_lt (vo_val (ve_mul (vo_val (e_sub hr (o_sl 0) (vo_val ve_int))) (vo_val (e_sub hr (o_sl 1) (vo_val ve_int))))) (vo_val (ve_mul (vo_val (e_sub hr (o_sl 1) (vo_val ve_int))) (vo_val (e_sub hr (o_sl 0) (vo_val ve_int))))))))
theorem sc__law_words : FnScope ["wins", "done", "rows", "word"] ["wins"] (defScope s__law_words) := ⟨rfl, rfl, rfl, by decide +kernel, rfl, by decide +kernel, by decide +kernel⟩
theorem ok__law_words {f : Addr} {fd : FuncData} (F : Fun K "_law_words" "_law_words" s__law_words f fd) (b : Binds K fd ["wins"] []) (m : mg "_law_words" = some (.ref f)) (D__law_longer : Def P w K mg base "_law_longer" 2 1 d__law_longer) (z_len : mg "len" = none) (z_max : mg "max" = none) : Def P w K mg base "_law_words" 1 2 d__law_words := by
  refine def_of F sc__law_words rfl m b (A := [1, 2]) (k := 1) (by decide) fun cdv A' outer s H E hr => ?_
  have nd := sc__law_words.nd
  unfold b__law_words
  exact (vss_cons (s_par 1 2 (a_cons (vo_val (ve_lst va_nil)) (a_cons (vo_val (ve_lst (a_cons (vo_val ve_str) va_nil))) va_nil)))
  (vss_cons (vs_while (passes_of rfl) (vt_gt (vo_val (e_len z_len (a_cons (o_sl 2) va_nil))) (vo_val ve_int))
  (vss_cons (s_set 1 (ve_add (o_sl 1) (vo_val (e_comp [("word", 3)] (vi_items (e_var 2)) (fun _ _ _ _ _ => (g_name 3)) (fun _ _ _ _ _ => (vpts_one (vt_eq hr (vo_val (e_max2 z_max (a_cons (vo_val (e_count (o_sl 3) (a_cons (vo_val ve_str) va_nil))) (a_cons (vo_val (e_count (o_sl 3) (a_cons (vo_val ve_str) va_nil))) va_nil)))) (o_sl 0)))) (fun _ _ _ _ _ => (e_var 3))))))
  (vss_one (s_set 2 (e_call D__law_longer (hr.mono (by omega)) (a_cons (o_sl 2) (a_cons (o_sl 0) va_nil)))))))
  (vss_one (s_retV 1))))
theorem sc__law_longer : FnScope ["rows", "wins", "found", "word"] ["rows", "wins"] (defScope s__law_longer) := ⟨rfl, rfl, rfl, by decide +kernel, rfl, by decide +kernel, by decide +kernel⟩
theorem ok__law_longer {f : Addr} {fd : FuncData} (F : Fun K "_law_longer" "_law_longer" s__law_longer f fd) (b : Binds K fd ["rows", "wins"] []) (m : mg "_law_longer" = some (.ref f)) (z_max : mg "max" = none) : Def P w K mg base "_law_longer" 2 1 d__law_longer := by
  refine def_of F sc__law_longer rfl m b (A := [2, 3]) (k := 0) (by decide) fun cdv A' outer s H E hr => ?_
  have nd := sc__law_longer.nd
  unfold b__law_longer
  exact (vss_cons (s_set 2 (ve_lst va_nil))
  (vss_cons (s_for (passes_of rfl) (vi_items (e_var 0)) (g_name 3)
  (vss_one (vs_if (vt_lt (vo_val (e_max2 z_max (a_cons (vo_val (e_count (o_sl 3) (a_cons (vo_val ve_str) va_nil))) (a_cons (vo_val (e_count (o_sl 3) (a_cons (vo_val ve_str) va_nil))) va_nil)))) (o_sl 1))
  (vss_one (s_set 2 (ve_add (o_sl 2) (vo_val (ve_lst (a_cons (vo_val (ve_add (o_sl 3) (vo_val ve_str))) (a_cons (vo_val (ve_add (o_sl 3) (vo_val ve_str))) va_nil)))))))
  vss_nil)))
  (vss_one (s_retV 2))))
theorem sc__law_chance : FnScope ["odds", "word", "found", "sign"] ["odds", "word"] (defScope s__law_chance) := ⟨rfl, rfl, rfl, by decide +kernel, rfl, by decide +kernel, by decide +kernel⟩
theorem ok__law_chance {f : Addr} {fd : FuncData} (F : Fun K "_law_chance" "_law_chance" s__law_chance f fd) (b : Binds K fd ["odds", "word"] []) (m : mg "_law_chance" = some (.ref f)) (D__law_minus : Def P w K mg base "_law_minus" 2 2 d__law_minus) (D__law_times : Def P w K mg base "_law_times" 2 2 d__law_times) : Def P w K mg base "_law_chance" 2 3 d__law_chance := by
  refine def_of F sc__law_chance rfl m b (A := [2, 3]) (k := 2) (by decide) fun cdv A' outer s H E hr => ?_
  have nd := sc__law_chance.nd
  unfold b__law_chance
  exact (vss_cons (s_set 2 (ve_tup (a_cons (vo_val ve_int) (a_cons (vo_val ve_int) va_nil))))
  (vss_cons (s_for (passes_of rfl) (vi_items (e_var 1)) (g_name 3)
  (vss_one (s_set 2 (e_call D__law_times (hr.mono (by omega)) (a_cons (o_sl 2) (a_cons (vo_val (ve_ite (vt_eq hr (o_sl 3) (vo_val ve_str)) (e_var 0) (e_call D__law_minus (hr.mono (by omega)) (a_cons (vo_val (ve_tup (a_cons (vo_val ve_int) (a_cons (vo_val ve_int) va_nil)))) (a_cons (o_sl 0) va_nil))))) va_nil))))))
  (vss_one (s_retV 2))))
theorem sc__law_sum : FnScope ["values", "whole", "value"] ["values"] (defScope s__law_sum) := ⟨rfl, rfl, rfl, by decide +kernel, rfl, by decide +kernel, by decide +kernel⟩
theorem ok__law_sum {f : Addr} {fd : FuncData} (F : Fun K "_law_sum" "_law_sum" s__law_sum f fd) (b : Binds K fd ["values"] []) (m : mg "_law_sum" = some (.ref f)) (D__law_plus : Def P w K mg base "_law_plus" 2 2 d__law_plus) : Def P w K mg base "_law_sum" 1 3 d__law_sum := by
  refine def_of F sc__law_sum rfl m b (A := [1, 2]) (k := 2) (by decide) fun cdv A' outer s H E hr => ?_
  have nd := sc__law_sum.nd
  unfold b__law_sum
  exact (vss_cons (s_set 1 (ve_tup (a_cons (vo_val ve_int) (a_cons (vo_val ve_int) va_nil))))
  (vss_cons (s_for (passes_of rfl) (vi_items (e_var 0)) (g_name 2)
  (vss_one (s_set 1 (e_call D__law_plus (hr.mono (by omega)) (a_cons (o_sl 1) (a_cons (o_sl 2) va_nil))))))
  (vss_one (s_retV 1))))
theorem sc_law : FnScope ["script", "box", "odds", "wins", "words", "won", "sizes", "mine", "others", "start", "due", "goal", "most", "able", "here", "number", "word", "size", "one", "chance"] ["script"] (defScope s_law) := ⟨rfl, rfl, rfl, by decide +kernel, rfl, by decide +kernel, by decide +kernel⟩
theorem ok_law {f : Addr} {fd : FuncData} (F : Fun K "law" "law" s_law f fd) (D_power : Def P w K mg base "power" 2 4 d_power) (D_chance_to_win : Def P w K mg base "chance_to_win" 2 5 d_chance_to_win) (D_length_chances : Def P w K mg base "length_chances" 2 5 d_length_chances) (D_mean_length : Def P w K mg base "mean_length" 2 6 d_mean_length) (D_chance_from : Def P w K mg base "chance_from" 3 4 d_chance_from) (D_fair_series : Def P w K mg base "fair_series" 2 6 d_fair_series) (D_both_ways : Def P w K mg base "both_ways" 2 6 d_both_ways) (D__law_box : Def P w K mg base "_law_box" 1 2 d__law_box) (D__law_next : Def P w K mg base "_law_next" 2 1 d__law_next) (D__law_is : Def P w K mg base "_law_is" 2 8 (d__law_is 8)) (D__law_odds : Def P w K mg base "_law_odds" 1 2 d__law_odds) (D__law_minus : Def P w K mg base "_law_minus" 2 2 d__law_minus) (D__law_times : Def P w K mg base "_law_times" 2 2 d__law_times) (D__law_less : Def P w K mg base "_law_less" 2 1 d__law_less) (D__law_words : Def P w K mg base "_law_words" 1 2 d__law_words) (D__law_chance : Def P w K mg base "_law_chance" 2 3 d__law_chance) (D__law_sum : Def P w K mg base "_law_sum" 1 3 d__law_sum) (z_len : mg "len" = none) (z_range : mg "range" = none) (z_tuple : mg "tuple" = none) : FnOk P w K mg base (L2.CX P w) 9 f fd ["script"] (spOf K mg 1 d_law) := by
  refine fnok_of F sc_law rfl (A := [1, 2, 3, 4, 5, 6, 7, 8, 9, 10, 11, 12, 13, 14, 15]) (k := 8) (by decide) fun cdv A' outer s H E hr => ?_
  have nd := sc_law.nd
  unfold b_law
  exact (vss_cons (s_set 1 (e_call D__law_box (hr.mono (by omega)) (a_cons (o_sl 0) va_nil)))
  (vss_cons (s_for (passes_of rfl) (vi_items (ve_tup (a_cons (vo_val (e_call D__law_odds (hr.mono (by omega)) (a_cons (o_sl 1) va_nil))) (a_cons (vo_val (ve_tup (a_cons (vo_val ve_int) (a_cons (vo_val ve_int) va_nil)))) (a_cons (vo_val (ve_tup (a_cons (vo_val ve_int) (a_cons (vo_val ve_int) va_nil)))) (a_cons (vo_val (ve_tup (a_cons (vo_val ve_int) (a_cons (vo_val ve_int) va_nil)))) (a_cons (vo_val (e_call D__law_odds (hr.mono (by omega)) (a_cons (o_sl 1) va_nil))) va_nil))))))) (g_name 2)
  (vss_cons (s_set 3 (ve_add (vo_val ve_int) (vo_val (e_call D__law_next (hr.mono (by omega)) (a_cons (o_sl 1) (a_cons (vo_val ve_int) va_nil))))))
  (vss_cons (s_set 4 (e_call D__law_words (hr.mono (by omega)) (a_cons (o_sl 3) va_nil)))
  (vss_cons (s_set 5 (e_call D__law_sum (hr.mono (by omega)) (a_cons (vo_val (e_comp [("word", 16)] (vi_items (e_var 4)) (fun _ _ _ _ _ => (g_name 16)) (fun _ _ _ _ _ => (vpts_one (vt_eq hr (vo_val (e_sub hr (o_sl 16) (vo_val (ve_neg (vo_val ve_int))))) (vo_val ve_str)))) (fun _ _ _ _ _ => (e_call D__law_chance (hr.mono (by omega)) (a_cons (o_sl 2) (a_cons (o_sl 16) va_nil)))))) va_nil)))
  (vss_cons (vs_if (vt_w (vw_or (vt_not (t_tru (vo_val (e_call D__law_is (hr.mono (by omega)) (a_cons (vo_val (e_call D_chance_to_win (hr.mono (by omega)) (a_cons (o_sl 2) (a_cons (o_sl 3) va_nil)))) (a_cons (o_sl 5) va_nil)))))) (vw_or1 (vt_not (t_tru (vo_val (e_call D__law_is (hr.mono (by omega)) (a_cons (vo_val (e_call D_both_ways (hr.mono (by omega)) (a_cons (o_sl 2) (a_cons (o_sl 3) va_nil)))) (a_cons (vo_val (ve_tup (a_cons (vo_val (e_var 5)) (a_cons (vo_val (e_call D__law_minus (hr.mono (by omega)) (a_cons (vo_val (ve_tup (a_cons (vo_val ve_int) (a_cons (vo_val ve_int) va_nil)))) (a_cons (o_sl 5) va_nil)))) va_nil)))) va_nil)))))))))
  (vss_one (vs_ret ve_bl))
  vss_nil)
  (vss_cons (s_setComp 6 [("size", 17)] (i_rng2 z_range (a_cons (o_sl 3) (a_cons (vo_val (ve_mul (vo_val ve_int) (o_sl 3))) va_nil))) (fun _ _ _ _ _ => (g_name 17)) (fun _ _ _ _ _ => vpts_nil) (fun _ _ _ _ _ => (ve_tup (a_cons (vo_val (e_var 17)) (a_cons (vo_val (e_call D__law_sum (hr.mono (by omega)) (a_cons (vo_val (e_comp [("word", 16)] (vi_items (e_var 4)) (fun _ _ _ _ _ => (g_name 16)) (fun _ _ _ _ _ => (vpts_one (vt_eq hr (vo_val (e_len z_len (a_cons (o_sl 16) va_nil))) (o_sl 17)))) (fun _ _ _ _ _ => (e_call D__law_chance (hr.mono (by omega)) (a_cons (o_sl 2) (a_cons (o_sl 16) va_nil)))))) va_nil))) va_nil)))))
  (vss_cons (vs_if (vt_w (vw_or (vt_not (t_tru (vo_val (e_call D__law_is (hr.mono (by omega)) (a_cons (vo_val (e_comp [("one", 18)] (vi_items (e_call D_length_chances (hr.mono (by omega)) (a_cons (o_sl 2) (a_cons (o_sl 3) va_nil)))) (fun _ _ _ _ _ => (g_name 18)) (fun _ _ _ _ _ => vpts_nil) (fun _ _ _ _ _ => (e_tuple z_tuple (a_cons (o_sl 18) va_nil))))) (a_cons (o_sl 6) va_nil)))))) (vw_or1 (vt_not (t_tru (vo_val (e_call D__law_is (hr.mono (by omega)) (a_cons (vo_val (e_call D_mean_length (hr.mono (by omega)) (a_cons (o_sl 2) (a_cons (o_sl 3) va_nil)))) (a_cons (vo_val (e_call D__law_sum (hr.mono (by omega)) (a_cons (vo_val (e_comp [("size", 17), ("chance", 19)] (vi_items (e_var 6)) (fun _ _ _ _ _ => (g_tup (gs_cons (g_name 17) (gs_cons (g_name 19) vgs_nil)))) (fun _ _ _ _ _ => vpts_nil) (fun _ _ _ _ _ => (e_call D__law_times (hr.mono (by omega)) (a_cons (vo_val (ve_tup (a_cons (vo_val (e_var 17)) (a_cons (vo_val ve_int) va_nil)))) (a_cons (o_sl 19) va_nil)))))) va_nil))) va_nil)))))))))
  (vss_one (vs_ret ve_bl))
  vss_nil)
  (vss_cons (s_for (passes_of rfl) (i_rng2 z_range (a_cons (vo_val ve_int) (a_cons (vo_val (ve_add (o_sl 3) (vo_val ve_int))) va_nil))) (g_name 7)
  (vss_one (s_for (passes_of rfl) (i_rng2 z_range (a_cons (vo_val ve_int) (a_cons (vo_val (ve_add (o_sl 3) (vo_val ve_int))) va_nil))) (g_name 8)
  (vss_cons (s_set 9 (ve_add (vo_val (ve_mul (vo_val ve_str) (vo_val (ve_sub (o_sl 3) (o_sl 7))))) (vo_val (ve_mul (vo_val ve_str) (vo_val (ve_sub (o_sl 3) (o_sl 8)))))))
  (vss_cons (s_set 10 (e_call D__law_sum (hr.mono (by omega)) (a_cons (vo_val (e_comp [("word", 16)] (vi_items (e_var 4)) (fun _ _ _ _ _ => (g_name 16)) (fun _ _ _ _ _ => (vpts_one (vt_w (vw_and (vt_eq hr (vo_val (ve_slNH (o_sl 16) (vo_val (e_len z_len (a_cons (o_sl 9) va_nil))))) (o_sl 9)) (vw_and1 (vt_eq hr (vo_val (e_sub hr (o_sl 16) (vo_val (ve_neg (vo_val ve_int))))) (vo_val ve_str))))))) (fun _ _ _ _ _ => (e_call D__law_chance (hr.mono (by omega)) (a_cons (o_sl 2) (a_cons (vo_val (ve_slLN (o_sl 16) (vo_val (e_len z_len (a_cons (o_sl 9) va_nil))))) va_nil)))))) va_nil)))
  (vss_one (vs_if (vt_not (t_tru (vo_val (e_call D__law_is (hr.mono (by omega)) (a_cons (vo_val (e_call D_chance_from (hr.mono (by omega)) (a_cons (o_sl 2) (a_cons (o_sl 7) (a_cons (o_sl 8) va_nil))))) (a_cons (o_sl 10) va_nil))))))
  (vss_one (vs_ret ve_bl))
  vss_nil)))))))
  (vss_cons (s_parT 11 12 (a_cons (vo_val (e_call D__law_odds (hr.mono (by omega)) (a_cons (o_sl 1) va_nil))) (a_cons (vo_val (ve_add (vo_val ve_int) (vo_val (e_call D__law_next (hr.mono (by omega)) (a_cons (o_sl 1) (a_cons (vo_val ve_int) va_nil)))))) va_nil)))
  (vss_cons (s_setComp 13 [("number", 15)] (i_rng2 z_range (a_cons (vo_val ve_int) (a_cons (vo_val (ve_add (o_sl 12) (vo_val ve_int))) va_nil))) (fun _ _ _ _ _ => (g_name 15)) (fun _ _ _ _ _ => (vpts_one (vt_not (t_tru (vo_val (e_call D__law_less (hr.mono (by omega)) (a_cons (vo_val (e_call D__law_sum (hr.mono (by omega)) (a_cons (vo_val (e_comp [("word", 16)] (vi_items (e_call D__law_words (hr.mono (by omega)) (a_cons (o_sl 15) va_nil))) (fun _ _ _ _ _ => (g_name 16)) (fun _ _ _ _ _ => (vpts_one (vt_eq hr (vo_val (e_sub hr (o_sl 16) (vo_val (ve_neg (vo_val ve_int))))) (vo_val ve_str)))) (fun _ _ _ _ _ => (e_call D__law_chance (hr.mono (by omega)) (a_cons (o_sl 2) (a_cons (o_sl 16) va_nil)))))) va_nil))) (a_cons (o_sl 11) va_nil)))))))) (fun _ _ _ _ _ => (e_var 15)))
  (vss_cons (vs_if (vt_not (t_tru (vo_val (e_call D__law_is (hr.mono (by omega)) (a_cons (vo_val (e_call D_fair_series (hr.mono (by omega)) (a_cons (o_sl 2) (a_cons (vo_val (ve_tup (a_cons (vo_val (e_var 12)) (a_cons (vo_val (e_var 11)) va_nil)))) va_nil)))) (a_cons (vo_val (ve_ite (vt_gt (vo_val (e_len z_len (a_cons (o_sl 13) va_nil))) (vo_val ve_int)) (e_sub hr (o_sl 13) (vo_val ve_int)) ve_non)) va_nil))))))
  (vss_one (vs_ret ve_bl))
  vss_nil)
  (vss_cons (s_set 14 (ve_tup (a_cons (vo_val ve_int) (a_cons (vo_val ve_int) va_nil))))
  (vss_one (s_for (passes_of rfl) (i_rng1 z_range (a_cons (vo_val ve_int) va_nil)) (g_name 15)
  (vss_cons (vs_if (vt_not (t_tru (vo_val (e_call D__law_is (hr.mono (by omega)) (a_cons (vo_val (e_call D_power (hr.mono (by omega)) (a_cons (o_sl 2) (a_cons (o_sl 15) va_nil)))) (a_cons (o_sl 14) va_nil))))))
  (vss_one (vs_ret ve_bl))
  vss_nil)
  (vss_one (s_set 14 (e_call D__law_times (hr.mono (by omega)) (a_cons (o_sl 14) (a_cons (o_sl 2) va_nil))))))))))))))))))))
  (vss_one (vs_ret (ve_and (e_call D__law_is (hr.mono (by omega)) (a_cons (vo_val (e_call D_chance_to_win (hr.mono (by omega)) (a_cons (vo_val (ve_tup (a_cons (vo_val ve_int) (a_cons (vo_val ve_int) va_nil)))) (a_cons (vo_val ve_int) va_nil)))) (a_cons (vo_val (ve_tup (a_cons (vo_val ve_int) (a_cons (vo_val ve_int) va_nil)))) va_nil))) (ve_and (e_call D__law_is (hr.mono (by omega)) (a_cons (vo_val (e_call D_chance_from (hr.mono (by omega)) (a_cons (vo_val (ve_tup (a_cons (vo_val ve_int) (a_cons (vo_val ve_int) va_nil)))) (a_cons (vo_val ve_int) (a_cons (vo_val ve_int) va_nil))))) (a_cons (vo_val (ve_tup (a_cons (vo_val ve_int) (a_cons (vo_val ve_int) va_nil)))) va_nil))) (ve_one (e_call D__law_is (hr.mono (by omega)) (a_cons (vo_val (e_call D_mean_length (hr.mono (by omega)) (a_cons (vo_val (ve_tup (a_cons (vo_val ve_int) (a_cons (vo_val ve_int) va_nil)))) (a_cons (vo_val ve_int) va_nil)))) (a_cons (vo_val (ve_tup (a_cons (vo_val ve_int) (a_cons (vo_val ve_int) va_nil)))) va_nil))))))))))
end
end G

open VL
local macro_rules | `(tactic| walk_at "v") => `(tactic| first
  | with_reducible (first
    | refine s_seq ?_ | refine s_set_ ?_ | refine s_ret ?_ | refine s_exp_ ?_ | refine s_if ?_ | refine s_par_ ?_ | refine s_asg_ ?_ | refine s_for_ ?_ | refine s_skip ?_ | refine s_brk ?_ | refine s_cnt ?_ | refine s_asg2_ ?_
    | refine w_C ?_ | refine w_newT ?_ | refine w_newK ?_ | refine w_nil ?_ | refine w_val ?_ | refine w_prim ?_ | refine w_tup ?_ | refine w_lst ?_ | refine w_dict ?_ | refine w_call ?_ | refine w_truV ?_ | refine w_tst ?_ | refine w_notT ?_ | refine w_andT ?_ | refine w_orT ?_ | refine w_ite ?_ | refine w_not ?_ | refine w_and ?_ | refine w_or ?_
    | refine w_items ?_ | refine w_yes ?_ | refine w_rng ?_ | refine w_enum ?_ | refine w_zip ?_ | refine w_enumZ ?_ | refine w_gName ?_ | refine w_gsNil ?_ | refine w_gsCons ?_)
  | ((with_reducible refine' w_sl ?va ?vg); (case va => exact rfl)) | ((with_reducible refine' s_retv ?va ?vg); (case va => exact rfl)) | ((with_reducible refine' w_var ?va ?vb ?vg); (case va => exact rfl); (case vb => exact rfl)) | ((with_reducible refine' w_varO ?va ?vb ?vg); (case va => exact rfl); (case vb => exact rfl)) | ((with_reducible refine' w_varF ?va ?vg); (case va => exact rfl)) | ((with_reducible refine' w_truS ?va ?vb ?vg); (case va => exact rfl); (case vb => exact rfl)) | ((with_reducible refine' w_mut ?va ?vg); (case va => exact rfl)) | ((with_reducible refine' w_ask ?va ?vg); (case va => exact rfl)) | ((with_reducible refine' s_forL_ ?va ?vg); (case va => exact rfl)) | ((with_reducible refine' w_gTup ?va ?vg); (case va => exact rfl)) | ((with_reducible refine' w_gStore ?va ?vg); (case va => exact rfl)) | ((with_reducible refine' s_aug_ ?va ?vb ?vg); (case va => exact rfl); (case vb => exact rfl))
  | ((with_reducible refine' w_gsConsE ?va ?vg); (case va => exact rfl)) | ((with_reducible refine' w_gsNilE ?va ?vg); (case va => exact rfl)) | ((with_reducible refine' w_gTupE ?va ?vb ?vg); (case va => exact rfl); (case vb => exact rfl)) | ((with_reducible refine' w_gTupL ?va ?vb ?vg); (case va => exact rfl); (case vb => exact rfl))
  | refine ⟨_, _, _, _, rfl, rfl, rfl, ?_⟩ | refine ⟨_, _, _, rfl, rfl, rfl, ?_⟩ | refine ⟨_, rfl, _, rfl, ?_⟩ | refine ⟨_, rfl, rfl, ?_⟩ | refine ⟨_, rfl, ?_⟩ | with_reducible refine ⟨fun _ => ?_, c_tf⟩ | with_reducible refine ⟨c_ft, fun _ => ?_⟩
  | refine ⟨_, mul_okL (by decide), ?_⟩ | refine ⟨_, mul_okR (by decide), ?_⟩ | refine ⟨_, mod_ok (by decide), ?_⟩ | refine ⟨_, fdiv_okC (by decide) (by decide), ?_⟩
  | refine ⟨fun _ => ?_, c_tf⟩ | refine ⟨c_ft, fun _ => ?_⟩ | fail "v")
local macro_rules | `(tactic| walk_at "u") => `(tactic| first
  | with_reducible (first
    | refine s_seq ?_ | refine s_set_ ?_ | refine s_ret ?_ | refine s_exp_ ?_ | refine s_par_ ?_ | refine s_asg_ ?_ | refine s_for_ ?_ | refine s_skip ?_ | refine s_brk ?_ | refine s_cnt ?_ | refine s_asg2_ ?_
    | refine w_C ?_ | refine w_newT ?_ | refine w_newK ?_ | refine w_nil ?_ | refine w_val ?_ | refine w_prim ?_ | refine w_tup ?_ | refine w_lst ?_ | refine w_dict ?_ | refine w_call ?_ | refine w_truV ?_ | refine w_tst ?_ | refine w_notT ?_ | refine w_andT ?_ | refine w_orT ?_ | refine w_not ?_ 
    | refine w_items ?_ | refine w_yes ?_ | refine w_rng ?_ | refine w_enum ?_ | refine w_zip ?_ | refine w_enumZ ?_ | refine w_gName ?_ | refine w_gsNil ?_ | refine w_gsCons ?_)
  | ((with_reducible refine' w_sl ?va ?vg); (case va => exact rfl)) | ((with_reducible refine' s_retv ?va ?vg); (case va => exact rfl)) | ((with_reducible refine' w_var ?va ?vb ?vg); (case va => exact rfl); (case vb => exact rfl)) | ((with_reducible refine' w_varO ?va ?vb ?vg); (case va => exact rfl); (case vb => exact rfl)) | ((with_reducible refine' w_varF ?va ?vg); (case va => exact rfl)) | ((with_reducible refine' w_truS ?va ?vb ?vg); (case va => exact rfl); (case vb => exact rfl)) | ((with_reducible refine' w_mut ?va ?vg); (case va => exact rfl)) | ((with_reducible refine' w_ask ?va ?vg); (case va => exact rfl)) | ((with_reducible refine' s_forL_ ?va ?vg); (case va => exact rfl)) | ((with_reducible refine' w_gTup ?va ?vg); (case va => exact rfl)) | ((with_reducible refine' w_gStore ?va ?vg); (case va => exact rfl)) | ((with_reducible refine' s_aug_ ?va ?vb ?vg); (case va => exact rfl); (case vb => exact rfl))
  | ((with_reducible refine' w_gsConsE ?va ?vg); (case va => exact rfl)) | ((with_reducible refine' w_gsNilE ?va ?vg); (case va => exact rfl)) | ((with_reducible refine' w_gTupE ?va ?vb ?vg); (case va => exact rfl); (case vb => exact rfl)) | ((with_reducible refine' w_gTupL ?va ?vb ?vg); (case va => exact rfl); (case vb => exact rfl))
  | refine ⟨_, _, _, _, rfl, rfl, rfl, ?_⟩ | refine ⟨_, _, _, rfl, rfl, rfl, ?_⟩ | refine ⟨_, rfl, _, rfl, ?_⟩ | refine ⟨_, rfl, rfl, ?_⟩ | refine ⟨_, rfl, ?_⟩ | with_reducible refine ⟨fun _ => ?_, c_tf⟩ | with_reducible refine ⟨c_ft, fun _ => ?_⟩
  | refine ⟨_, mul_okL (by decide), ?_⟩ | refine ⟨_, mul_okR (by decide), ?_⟩ | refine ⟨_, mod_ok (by decide), ?_⟩ | refine ⟨_, fdiv_okC (by decide) (by decide), ?_⟩
  | refine ⟨fun _ => ?_, c_tf⟩ | refine ⟨c_ft, fun _ => ?_⟩ | fail "u")
local macro_rules | `(tactic| walk_at "e") => `(tactic| try simp only [setJ_cons, setJ_nil, wipeE_nil, wipeE_cons, restE_nil, restE_cons, List.set_cons_succ, List.set_cons_zero, envOf_cons, envOf_nil, List.cons_append, List.nil_append, List.reduceReplicate, Nat.reduceSub, Nat.reduceAdd, List.map_nil, List.length_map, List.length_range, List.length_replicate, List.getElem?_cons_succ, List.getElem?_cons_zero, Option.getD_some, frz_non, frz_bl, frz_int, frz_str, frz_tup, frz_lst, frz_dic, frz_tq, wb_sl, wb_val, wb_nil, own_bx, own_tq, own_lst, own_tup, own_int, own_bl, own_str, own_non, own_scr, own_dic, if_true, if_false, Bool.false_eq_true, Int.zero_add, putAll_nil, putAll_cons])
local macro_rules | `(tactic| walk_at "w") => `(tactic| repeat' walk_at "v")
local macro_rules | `(tactic| walk_at "d") => `(tactic| (refine den_ok rfl ?_; simp only [envOf_cons, envOf_nil, List.cons_append, List.nil_append, List.reduceReplicate, Nat.reduceSub]))

namespace G
open PySem L2 VL
/-! Euclid's loop, as the program has it -/
theorem cd_ok {a b : Int} {l : Nat} (hb : 0 ≤ b) (hl : b.natAbs < 2 ^ l) (hl2 : l ≤ 40000000) : d_common_divisor [.int a, .int b] = .ok (.int (Int.gcd a b)) [some (.int a), some (.int b)] := by
  have key : Ok (d_common_divisor [.int a, .int b]) fun t ps => t = .int (Int.gcd a b) ∧ ps = [some (.int a), some (.int b)] := by
    refine den_ok rfl ?_
    unfold b_common_divisor
    refine s_seq ?_
    refine s_while (I := fun k e => (k = 2 * l + 1 ∧ e = [some (.int a), some (.int b)]) ∨ ∃ x y : Int, e = [some (.int x), some (.int y)] ∧ 0 ≤ y ∧ y < x ∧ Int.gcd x y = Int.gcd a b ∧ k ≤ 2 * l ∧ (x * y).natAbs < 2 ^ k) (k := 2 * l + 1) (by omega) (.inl ⟨rfl, rfl⟩) ?_
    rintro k e (⟨rfl, rfl⟩ | ⟨x, y, rfl, hy0, hyx, hg, hk, hp⟩)
    · walk_at "v"
      refine ⟨fun h => ?_, fun h => ?_⟩
      · have hb' : 0 < b := by simp at h; omega
        repeat' walk_at "v"
        refine ⟨_, mod_ok hb', ?_⟩
        repeat' walk_at "v"
        refine ⟨2 * l, by omega, .inr ⟨_, _, rfl, ?_⟩⟩
        have h1 := Int.emod_nonneg a (show b ≠ 0 by omega)
        have h2 := Int.emod_lt_of_pos a hb'
        refine ⟨h1, h2, gcd_mod, Nat.le_refl _, ?_⟩
        rw [show 2 * l = l + l by omega]
        exact sz_mul hl (Nat.lt_of_lt_of_le (show (a % b).natAbs < b.natAbs by omega) (Nat.le_of_lt hl))
      · have hb' : b = 0 := by simpa using h
        subst hb'
        repeat' walk_at "v"
        refine ⟨?_, rfl⟩
        simp only [Int.gcd_zero]
        congr 1
        split <;> omega
    · walk_at "v"
      refine ⟨fun h => ?_, fun h => ?_⟩
      · have hy : 0 < y := by simp at h; omega
        repeat' walk_at "v"
        refine ⟨_, mod_ok hy, ?_⟩
        repeat' walk_at "v"
        have h1 := Int.emod_nonneg x (show y ≠ 0 by omega)
        have h2 := Int.emod_lt_of_pos x hy
        have hd : 2 * (x % y) < x := by
          have e1 := Int.emod_add_mul_ediv x y
          have e2 : 1 ≤ x / y := by
            have := Int.ediv_le_ediv (c := y) hy (show y ≤ x by omega)
            rw [Int.ediv_self (by omega)] at this
            exact this
          have e3 : y * 1 ≤ y * (x / y) := Int.mul_le_mul_of_nonneg_left e2 (by omega)
          omega
        have hp2 : 2 * (y * (x % y)).natAbs < (x * y).natAbs := by
          rw [Int.natAbs_mul, Int.natAbs_mul, Nat.mul_comm x.natAbs]
          have : y.natAbs * (2 * (x % y).natAbs) < y.natAbs * x.natAbs := Nat.mul_lt_mul_of_pos_left (by omega) (by omega)
          calc 2 * (y.natAbs * (x % y).natAbs) = y.natAbs * (2 * (x % y).natAbs) := by rw [Nat.mul_left_comm]
            _ < _ := this
        have hk1 : 0 < k := by
          cases k with
          | zero => rw [Nat.pow_zero] at hp; omega
          | succ k => omega
        refine ⟨k - 1, by omega, .inr ⟨_, _, rfl, h1, h2, gcd_mod.trans hg, by omega, ?_⟩⟩
        have e : 2 ^ k = 2 ^ (k - 1) * 2 := by rw [← Nat.pow_succ]; congr 1; omega
        rw [e] at hp
        omega
      · have hy : y = 0 := by simpa using h
        subst hy
        repeat' walk_at "v"
        refine ⟨?_, rfl⟩
        rw [← hg, Int.gcd_zero]
        congr 1
        split <;> omega
  obtain ⟨t, ps, h, rfl, rfl⟩ := key.get
  exact h
theorem fraction_ok {a b : Int} {l : Nat} (hb : b ≠ 0) (hl : b.natAbs < 2 ^ l) (hl2 : l ≤ 8000) : d_fraction [.int a, .int b] = .ok (tq (Rat.divInt a b)) [some (.int a), some (.int b)] := by
  have key : Ok (d_fraction [.int a, .int b]) fun t ps => t = tq (Rat.divInt a b) ∧ ps = [some (.int a), some (.int b)] := by
    have hg0 : 0 < (Int.gcd a b : Int) := by have := Int.gcd_pos_of_ne_zero_right a hb; omega
    have hgl : Int.gcd a b < 2 ^ l := Nat.lt_of_le_of_lt (Nat.le_of_dvd (by omega) (by have := Int.gcd_dvd_right a b; have := Int.natAbs_dvd_natAbs.mpr this; simpa using this)) hl
    have fin_ : ∀ x y : Int, 0 < y → y = b.sign * b → x = b.sign * a → SOk ((mSeq (mSet 2 (mCall d_common_divisor [.sl 0, .sl 1])) (mRet (mTup [.val (mPrim pFdiv [.sl 0, .sl 2]), .val (mPrim pFdiv [.sl 1, .sl 2])]))) [some (.int x), some (.int y), none]) (fun e => T.non = tq (Rat.divInt a b) ∧ fin [.int a, .int b] e = [some (.int a), some (.int b)]) (fun t e => t = tq (Rat.divInt a b) ∧ fin [.int a, .int b] e = [some (.int a), some (.int b)]) (fun _ => False) (fun _ => False) := by
      intro x y hy hyb hxa
      have hgg : Int.gcd x y = Int.gcd a b := by
        rw [hxa, hyb, Int.gcd_mul_left, Int.natAbs_sign_of_ne_zero hb, Nat.one_mul]
      have hyl : y.natAbs < 2 ^ l := by rw [hyb, Int.natAbs_mul, Int.natAbs_sign_of_ne_zero hb, Nat.one_mul]; exact hl
      repeat' walk_at "v"
      repeat' walk_at "v"
      refine ok_of (cd_ok (by omega) hyl (by omega)) ?_
      rw [hgg]
      repeat' walk_at "v"
      refine ⟨_, fdiv_ok hg0 (show (Int.natAbs (Int.gcd a b : Int)) < 2 ^ l from hgl) (by omega), ?_⟩
      repeat' walk_at "v"
      refine ⟨_, fdiv_ok hg0 (show (Int.natAbs (Int.gcd a b : Int)) < 2 ^ l from hgl) (by omega), ?_⟩
      repeat' walk_at "v"
      refine ⟨?_, rfl⟩
      unfold tq
      rw [Rat.num_divInt, Rat.den_divInt, if_neg hb, hxa, hyb, Int.gcd_comm b a]
      have : b.sign * b = b.natAbs := by
        rcases Int.lt_trichotomy b 0 with z | z | z
        · rw [Int.sign_eq_neg_one_of_neg z]; omega
        · exact absurd z hb
        · rw [Int.sign_eq_one_of_pos z]; omega
      rw [this]
      rfl
    refine den_ok rfl ?_
    unfold b_fraction
    repeat' walk_at "v"
    refine ⟨fun h => ?_, fun h => ?_⟩
    · have hb' : b < 0 := by simpa using h
      iterate 13 walk_at "v"
      refine fin_ (-a) (-b) (by omega) ?_ ?_
      · rw [Int.sign_eq_neg_one_of_neg hb']; omega
      · rw [Int.sign_eq_neg_one_of_neg hb']; omega
    · have hb' : 0 < b := by simp at h; omega
      walk_at "v"
      refine fin_ a b hb' ?_ ?_
      · rw [Int.sign_eq_one_of_pos hb']; omega
      · rw [Int.sign_eq_one_of_pos hb']; omega
  obtain ⟨t, ps, h, rfl, rfl⟩ := key.get
  exact h
end G

namespace G
open PySem L2 VL
section
variable {p q : Rat} {k l : Nat}
theorem plus_ok (hp : Bd k p) (hq : Bd l q) (h : k + l ≤ 8000) : d_plus [tq p, tq q] = .ok (tq (p + q)) [some (tq p), some (tq q)] := by
  have key : Ok (d_plus [tq p, tq q]) fun t ps => t = tq (p + q) ∧ ps = [some (tq p), some (tq q)] := by
    refine den_ok rfl ?_
    unfold b_plus
    repeat' walk_at "v"
    refine ⟨_, mul_ok (mulOk_of hp.1 (j := (q.den : Int)) hq.2 (by omega)), ?_⟩
    repeat' walk_at "v"
    refine ⟨_, mul_ok (mulOk_of hq.1 (j := (p.den : Int)) hp.2 (by omega)), ?_⟩
    repeat' walk_at "v"
    refine ⟨_, mul_ok (mulOk_of (i := (p.den : Int)) (j := (q.den : Int)) hp.2 hq.2 (by omega)), ?_⟩
    repeat' walk_at "v"
    have := Int.mul_pos (den_pos p) (den_pos q)
    refine ok_of (fraction_ok (l := k + l) (by omega) (sz_mul (a := (p.den : Int)) (b := (q.den : Int)) hp.2 hq.2) h) ?_
    rw [add_as]
    exact ⟨rfl, rfl⟩
  obtain ⟨t, ps, h, rfl, rfl⟩ := key.get
  exact h
theorem minus_ok (hp : Bd k p) (hq : Bd l q) (h : k + l ≤ 8000) : d_minus [tq p, tq q] = .ok (tq (p - q)) [some (tq p), some (tq q)] := by
  have key : Ok (d_minus [tq p, tq q]) fun t ps => t = tq (p - q) ∧ ps = [some (tq p), some (tq q)] := by
    refine den_ok rfl ?_
    unfold b_minus
    repeat' walk_at "v"
    refine ⟨_, mul_ok (mulOk_of hp.1 (j := (q.den : Int)) hq.2 (by omega)), ?_⟩
    repeat' walk_at "v"
    refine ⟨_, mul_ok (mulOk_of hq.1 (j := (p.den : Int)) hp.2 (by omega)), ?_⟩
    repeat' walk_at "v"
    refine ⟨_, mul_ok (mulOk_of (i := (p.den : Int)) (j := (q.den : Int)) hp.2 hq.2 (by omega)), ?_⟩
    repeat' walk_at "v"
    have := Int.mul_pos (den_pos p) (den_pos q)
    refine ok_of (fraction_ok (l := k + l) (by omega) (sz_mul (a := (p.den : Int)) (b := (q.den : Int)) hp.2 hq.2) h) ?_
    rw [sub_as]
    exact ⟨rfl, rfl⟩
  obtain ⟨t, ps, h, rfl, rfl⟩ := key.get
  exact h
theorem times_ok (hp : Bd k p) (hq : Bd l q) (h : k + l ≤ 8000) : d_times [tq p, tq q] = .ok (tq (p * q)) [some (tq p), some (tq q)] := by
  have key : Ok (d_times [tq p, tq q]) fun t ps => t = tq (p * q) ∧ ps = [some (tq p), some (tq q)] := by
    refine den_ok rfl ?_
    unfold b_times
    repeat' walk_at "v"
    refine ⟨_, mul_ok (mulOk_of hp.1 hq.1 (by omega)), ?_⟩
    repeat' walk_at "v"
    refine ⟨_, mul_ok (mulOk_of (i := (p.den : Int)) (j := (q.den : Int)) hp.2 hq.2 (by omega)), ?_⟩
    repeat' walk_at "v"
    have := Int.mul_pos (den_pos p) (den_pos q)
    refine ok_of (fraction_ok (l := k + l) (by omega) (sz_mul (a := (p.den : Int)) (b := (q.den : Int)) hp.2 hq.2) h) ?_
    rw [mul_as]
    exact ⟨rfl, rfl⟩
  obtain ⟨t, ps, h, rfl, rfl⟩ := key.get
  exact h
end
end G

namespace G
open PySem L2 VL
theorem least_ok {a b : Int} {l m : Nat} (hb : b ≠ 0) (hl : b.natAbs < 2 ^ l) (hl2 : l ≤ 8000) (ha : a.natAbs < 2 ^ m) (hm : m ≤ 400000) : d__law_least [.int a, .int b] = .ok (tq (Rat.divInt a b)) [some (.int a), some (.int b)] := by
  have key : Ok (d__law_least [.int a, .int b]) fun t ps => t = tq (Rat.divInt a b) ∧ ps = [some (.int a), some (.int b)] := by
    have hg0 : 0 < (Int.gcd a b : Int) := by have := Int.gcd_pos_of_ne_zero_right a hb; omega
    have hgl : Int.gcd a b < 2 ^ l := Nat.lt_of_le_of_lt (Nat.le_of_dvd (by omega) (by have := Int.gcd_dvd_right a b; have := Int.natAbs_dvd_natAbs.mpr this; simpa using this)) hl
    have fin_ : ∀ s : Int, s = b.sign → ∀ z, SOk ((mRet (mTup [.val (mPrim pFdiv [.val (mPrim pMul [.sl 4, .sl 0]), .sl 2]), .val (mPrim pFdiv [.val (mPrim pMul [.sl 4, .sl 1]), .sl 2])])) [some (.int a), some (.int b), some (.int (Int.gcd a b : Int)), z, some (.int s)]) (fun e => T.non = tq (Rat.divInt a b) ∧ fin [.int a, .int b] e = [some (.int a), some (.int b)]) (fun t e => t = tq (Rat.divInt a b) ∧ fin [.int a, .int b] e = [some (.int a), some (.int b)]) (fun _ => False) (fun _ => False) := by
      intro s hs z
      have hsz : s.natAbs < 2 ^ 1 := by rw [hs, Int.natAbs_sign_of_ne_zero hb]; decide
      have hm : ∀ x : Int, mulOk s x = true := fun x => by unfold mulOk; simp only [Bool.or_eq_true, decide_eq_true_eq]; left; left; omega
      repeat' walk_at "v"
      refine ⟨_, mul_ok (hm _), ?_⟩
      repeat' walk_at "v"
      refine ⟨_, fdiv_ok hg0 (show (Int.natAbs (Int.gcd a b : Int)) < 2 ^ l from hgl) (by omega), ?_⟩
      repeat' walk_at "v"
      refine ⟨_, mul_ok (hm _), ?_⟩
      repeat' walk_at "v"
      refine ⟨_, fdiv_ok hg0 (show (Int.natAbs (Int.gcd a b : Int)) < 2 ^ l from hgl) (by omega), ?_⟩
      repeat' walk_at "v"
      refine ⟨?_, rfl⟩
      unfold tq
      rw [Rat.num_divInt, Rat.den_divInt, if_neg hb, hs, Int.gcd_comm b a]
      have : b.sign * b = b.natAbs := by
        rcases Int.lt_trichotomy b 0 with z | z | z
        · rw [Int.sign_eq_neg_one_of_neg z]; omega
        · exact absurd z hb
        · rw [Int.sign_eq_one_of_pos z]; omega
      rw [this]
      rfl
    refine den_ok rfl ?_
    unfold b__law_least
    repeat' walk_at "v"
    have ea : (if 0 - a > a then 0 - a else a) = (a.natAbs : Int) := by split <;> omega
    have eb : (if 0 - b > b then 0 - b else b) = (b.natAbs : Int) := by split <;> omega
    rw [ea, eb]
    refine s_while (I := fun k e => (k = 2 * l + 1 ∧ e = [some (.int a), some (.int b), some (.int a.natAbs), some (.int b.natAbs), none]) ∨ ∃ x y : Int, e = [some (.int a), some (.int b), some (.int x), some (.int y), none] ∧ x.natAbs < 2 ^ l ∧ 0 ≤ y ∧ y < x ∧ Int.gcd x y = Int.gcd a b ∧ k ≤ 2 * l ∧ (x * y).natAbs < 2 ^ k) (k := 2 * l + 1) (by omega) (.inl ⟨rfl, rfl⟩) ?_
    have turn : ∀ (k : Nat) (x y : Int) (e : VL.Env), e = [some (.int a), some (.int b), some (.int x), some (.int y), none] → 0 < y → y.natAbs < 2 ^ l → Int.gcd x y = Int.gcd a b → (k = 2 * l + 1 ∨ (y < x ∧ k ≤ 2 * l ∧ (x * y).natAbs < 2 ^ k)) → ∃ j, j < k ∧ ((j = 2 * l + 1 ∧ [some (T.int a), some (.int b), some (.int y), some (.int (x - x / y * y)), none] = [some (.int a), some (.int b), some (.int a.natAbs), some (.int b.natAbs), none]) ∨ ∃ x' y' : Int, [some (T.int a), some (.int b), some (.int y), some (.int (x - x / y * y)), none] = [some (.int a), some (.int b), some (.int x'), some (.int y'), none] ∧ x'.natAbs < 2 ^ l ∧ 0 ≤ y' ∧ y' < x' ∧ Int.gcd x' y' = Int.gcd a b ∧ j ≤ 2 * l ∧ (x' * y').natAbs < 2 ^ j) := by
      intro k x y e he hy hyl hg hk
      have em : x - x / y * y = x % y := by rw [Int.emod_def, Int.mul_comm]
      rw [em]
      have h1 := Int.emod_nonneg x (show y ≠ 0 by omega)
      have h2 := Int.emod_lt_of_pos x hy
      rcases hk with hk | ⟨hyx, hk, hp⟩
      · refine ⟨2 * l, by omega, .inr ⟨_, _, rfl, hyl, h1, h2, gcd_mod.trans hg, Nat.le_refl _, ?_⟩⟩
        rw [show 2 * l = l + l by omega]
        exact sz_mul hyl (Nat.lt_of_lt_of_le (show (x % y).natAbs < y.natAbs by omega) (Nat.le_of_lt hyl))
      · have hd : 2 * (x % y) < x := by
          have e1 := Int.emod_add_mul_ediv x y
          have e2 : 1 ≤ x / y := by
            have := Int.ediv_le_ediv (c := y) hy (show y ≤ x by omega)
            rw [Int.ediv_self (by omega)] at this
            exact this
          have e3 : y * 1 ≤ y * (x / y) := Int.mul_le_mul_of_nonneg_left e2 (by omega)
          omega
        have hp2 : 2 * (y * (x % y)).natAbs < (x * y).natAbs := by
          rw [Int.natAbs_mul, Int.natAbs_mul, Nat.mul_comm x.natAbs]
          have : y.natAbs * (2 * (x % y).natAbs) < y.natAbs * x.natAbs := Nat.mul_lt_mul_of_pos_left (by omega) (by omega)
          calc 2 * (y.natAbs * (x % y).natAbs) = y.natAbs * (2 * (x % y).natAbs) := by rw [Nat.mul_left_comm]
            _ < _ := this
        have hk1 : 0 < k := by
          cases k with
          | zero => rw [Nat.pow_zero] at hp; omega
          | succ k => omega
        refine ⟨k - 1, by omega, .inr ⟨_, _, rfl, hyl, h1, h2, gcd_mod.trans hg, by omega, ?_⟩⟩
        have e : 2 ^ k = 2 ^ (k - 1) * 2 := by rw [← Nat.pow_succ]; congr 1; omega
        rw [e] at hp
        omega
    have hgn : Int.gcd (a.natAbs : Int) (b.natAbs : Int) = Int.gcd a b := by simp [Int.gcd_eq_natAbs_gcd_natAbs]
    have turnOk : ∀ (k n : Nat) (x y : Int), x.natAbs < 2 ^ n → n ≤ 400000 → 0 ≤ y → y.natAbs < 2 ^ l → Int.gcd x y = Int.gcd a b → (k = 2 * l + 1 ∨ (y < x ∧ k ≤ 2 * l ∧ (x * y).natAbs < 2 ^ k)) → (y = 0 → x = Int.gcd a b) → Ok (mTst (mPrim pGt [.sl 3, .val (mC (.int 0))]) [some (.int a), some (.int b), some (.int x), some (.int y), none]) fun d e1 =>
        (d = true → SOk ((mPar [2, 3] [.val (mVar 3), .val (mPrim pSub [.sl 2, .val (mPrim pMul [.val (mPrim pFdiv [.sl 2, .sl 3]), .sl 3])])]) e1) (fun e => ∃ j, j < k ∧ ((j = 2 * l + 1 ∧ e = [some (.int a), some (.int b), some (.int a.natAbs), some (.int b.natAbs), none]) ∨ ∃ x y : Int, e = [some (.int a), some (.int b), some (.int x), some (.int y), none] ∧ x.natAbs < 2 ^ l ∧ 0 ≤ y ∧ y < x ∧ Int.gcd x y = Int.gcd a b ∧ j ≤ 2 * l ∧ (x * y).natAbs < 2 ^ j)) (fun t e => t = tq (Rat.divInt a b) ∧ fin [.int a, .int b] e = [some (.int a), some (.int b)]) (fun e => SOk ((mSeq (mSet 4 (mIte (mTst (mPrim pGt [.sl 1, .val (mC (.int 0))])) (mC (.int 1)) (mPrim pSub [.val (mC (.int 0)), .val (mC (.int 1))]))) (mRet (mTup [.val (mPrim pFdiv [.val (mPrim pMul [.sl 4, .sl 0]), .sl 2]), .val (mPrim pFdiv [.val (mPrim pMul [.sl 4, .sl 1]), .sl 2])]))) e) (fun e => T.non = tq (Rat.divInt a b) ∧ fin [.int a, .int b] e = [some (.int a), some (.int b)]) (fun t e => t = tq (Rat.divInt a b) ∧ fin [.int a, .int b] e = [some (.int a), some (.int b)]) (fun _ => False) (fun _ => False)) (fun e => ∃ j, j < k ∧ ((j = 2 * l + 1 ∧ e = [some (.int a), some (.int b), some (.int a.natAbs), some (.int b.natAbs), none]) ∨ ∃ x y : Int, e = [some (.int a), some (.int b), some (.int x), some (.int y), none] ∧ x.natAbs < 2 ^ l ∧ 0 ≤ y ∧ y < x ∧ Int.gcd x y = Int.gcd a b ∧ j ≤ 2 * l ∧ (x * y).natAbs < 2 ^ j))) ∧
        (d = false → SOk ((mSeq (mSet 4 (mIte (mTst (mPrim pGt [.sl 1, .val (mC (.int 0))])) (mC (.int 1)) (mPrim pSub [.val (mC (.int 0)), .val (mC (.int 1))]))) (mRet (mTup [.val (mPrim pFdiv [.val (mPrim pMul [.sl 4, .sl 0]), .sl 2]), .val (mPrim pFdiv [.val (mPrim pMul [.sl 4, .sl 1]), .sl 2])]))) e1) (fun e => T.non = tq (Rat.divInt a b) ∧ fin [.int a, .int b] e = [some (.int a), some (.int b)]) (fun t e => t = tq (Rat.divInt a b) ∧ fin [.int a, .int b] e = [some (.int a), some (.int b)]) (fun _ => False) (fun _ => False)) := by
      intro k n x y hxn hn hy0 hyl hg hk hz
      repeat' walk_at "v"
      refine ⟨fun h => ?_, fun h => ?_⟩
      · have hy : 0 < y := by simpa using h
        repeat' walk_at "v"
        refine ⟨_, fdiv_ok hy hyl (by omega), ?_⟩
        repeat' walk_at "v"
        refine ⟨_, mul_ok ?_, ?_⟩
        · exact mulOk_of (Nat.lt_of_le_of_lt (Int.natAbs_ediv_le_natAbs x y) hxn) hyl (by omega)
        repeat' walk_at "v"
        exact turn k x y _ rfl hy hyl hg hk
      · have hy : y = 0 := by simp at h; omega
        have hx := hz hy
        subst hy
        subst hx
        repeat' walk_at "v"
        refine ⟨fun h => ?_, fun h => ?_⟩
        · have hb' : 0 < b := by simpa using h
          walk_at "v"
          exact fin_ 1 (Int.sign_eq_one_of_pos hb').symm _
        · have hb' : b < 0 := by simp at h; omega
          iterate 7 walk_at "v"
          exact fin_ (-1) (Int.sign_eq_neg_one_of_neg hb').symm _
    rintro k e (⟨rfl, rfl⟩ | ⟨x, y, rfl, hx, hy0, hyx, hg, hk, hp⟩)
    · exact turnOk _ m _ _ (by simpa using ha) hm (by omega) (by simpa using hl) hgn (.inl rfl) (fun h => by omega)
    · exact turnOk _ l _ _ hx (by omega) hy0 (Nat.lt_trans (by omega) hx) hg (.inr ⟨hyx, hk, hp⟩) (fun h => by subst h; rw [← hg, Int.gcd_zero]; omega)
  obtain ⟨t, ps, h, rfl, rfl⟩ := key.get
  exact h
end G

namespace G
open PySem L2 VL
section
variable {p q : Rat} {k l : Nat}
theorem lplus_ok (hp : Bd k p) (hq : Bd l q) (h : k + l ≤ 8000) : d__law_plus [tq p, tq q] = .ok (tq (p + q)) [some (tq p), some (tq q)] := by
  have key : Ok (d__law_plus [tq p, tq q]) fun t ps => t = tq (p + q) ∧ ps = [some (tq p), some (tq q)] := by
    refine den_ok rfl ?_
    unfold b__law_plus
    repeat' walk_at "v"
    refine ⟨_, mul_ok (mulOk_of hp.1 (j := (q.den : Int)) hq.2 (by omega)), ?_⟩
    repeat' walk_at "v"
    refine ⟨_, mul_ok (mulOk_of hq.1 (j := (p.den : Int)) hp.2 (by omega)), ?_⟩
    repeat' walk_at "v"
    refine ⟨_, mul_ok (mulOk_of (i := (p.den : Int)) (j := (q.den : Int)) hp.2 hq.2 (by omega)), ?_⟩
    repeat' walk_at "v"
    have := Int.mul_pos (den_pos p) (den_pos q)
    have a := sz_mul (b := (q.den : Int)) hp.1 hq.2
    have b := sz_mul (b := (p.den : Int)) hq.1 hp.2
    rw [Nat.add_comm] at b
    refine ok_of (least_ok (l := k + l) (m := k + l + 1) (by omega) (sz_mul (a := (p.den : Int)) (b := (q.den : Int)) hp.2 hq.2) h (sz_add a b) (by omega)) ?_
    rw [add_as]
    exact ⟨rfl, rfl⟩
  obtain ⟨t, ps, h, rfl, rfl⟩ := key.get
  exact h
theorem lminus_ok (hp : Bd k p) (hq : Bd l q) (h : k + l ≤ 8000) : d__law_minus [tq p, tq q] = .ok (tq (p - q)) [some (tq p), some (tq q)] := by
  have key : Ok (d__law_minus [tq p, tq q]) fun t ps => t = tq (p - q) ∧ ps = [some (tq p), some (tq q)] := by
    refine den_ok rfl ?_
    unfold b__law_minus
    repeat' walk_at "v"
    refine ⟨_, mul_ok (mulOk_of hp.1 (j := (q.den : Int)) hq.2 (by omega)), ?_⟩
    repeat' walk_at "v"
    refine ⟨_, mul_ok (mulOk_of hq.1 (j := (p.den : Int)) hp.2 (by omega)), ?_⟩
    repeat' walk_at "v"
    refine ⟨_, mul_ok (mulOk_of (i := (p.den : Int)) (j := (q.den : Int)) hp.2 hq.2 (by omega)), ?_⟩
    repeat' walk_at "v"
    have := Int.mul_pos (den_pos p) (den_pos q)
    have a := sz_mul (b := (q.den : Int)) hp.1 hq.2
    have b := sz_mul (b := (p.den : Int)) hq.1 hp.2
    rw [Nat.add_comm] at b
    refine ok_of (least_ok (l := k + l) (m := k + l + 1) (by omega) (sz_mul (a := (p.den : Int)) (b := (q.den : Int)) hp.2 hq.2) h (sz_sub a b) (by omega)) ?_
    rw [sub_as]
    exact ⟨rfl, rfl⟩
  obtain ⟨t, ps, h, rfl, rfl⟩ := key.get
  exact h
theorem ltimes_ok (hp : Bd k p) (hq : Bd l q) (h : k + l ≤ 8000) : d__law_times [tq p, tq q] = .ok (tq (p * q)) [some (tq p), some (tq q)] := by
  have key : Ok (d__law_times [tq p, tq q]) fun t ps => t = tq (p * q) ∧ ps = [some (tq p), some (tq q)] := by
    refine den_ok rfl ?_
    unfold b__law_times
    repeat' walk_at "v"
    refine ⟨_, mul_ok (mulOk_of hp.1 hq.1 (by omega)), ?_⟩
    repeat' walk_at "v"
    refine ⟨_, mul_ok (mulOk_of (i := (p.den : Int)) (j := (q.den : Int)) hp.2 hq.2 (by omega)), ?_⟩
    repeat' walk_at "v"
    have := Int.mul_pos (den_pos p) (den_pos q)
    refine ok_of (least_ok (l := k + l) (m := k + l) (by omega) (sz_mul (a := (p.den : Int)) (b := (q.den : Int)) hp.2 hq.2) h (sz_mul hp.1 hq.1) (by omega)) ?_
    rw [mul_as]
    exact ⟨rfl, rfl⟩
  obtain ⟨t, ps, h, rfl, rfl⟩ := key.get
  exact h
theorem lless_ok (hp : Bd k p) (hq : Bd l q) (h : k + l ≤ 8000) : d__law_less [tq p, tq q] = .ok (.bl (decide (p < q))) [some (tq p), some (tq q)] := by
  have key : Ok (d__law_less [tq p, tq q]) fun t ps => t = .bl (decide (p < q)) ∧ ps = [some (tq p), some (tq q)] := by
    refine den_ok rfl ?_
    unfold b__law_less
    repeat' walk_at "v"
    refine ⟨_, mul_ok (mulOk_of hp.1 (j := (q.den : Int)) hq.2 (by omega)), ?_⟩
    repeat' walk_at "v"
    refine ⟨_, mul_ok (mulOk_of hq.1 (j := (p.den : Int)) hp.2 (by omega)), ?_⟩
    repeat' walk_at "v"
    refine ⟨?_, rfl⟩
    congr 1
    exact decide_eq_decide.mpr (Rat.lt_iff p q).symm
  obtain ⟨t, ps, h, rfl, rfl⟩ := key.get
  exact h
end
end G

namespace G
open PySem L2 VL
/-- the box: a row and a place -/
def BoxR (row : List Int) (i : Int) : Prop := 0 < row.length ∧ row.length < 2 ^ 30 ∧ 0 ≤ i
theorem BoxR.next {row : List Int} {i : Int} (h : BoxR row i) : BoxR row (i + 1) := ⟨h.1, h.2.1, by have := h.2.2; omega⟩
theorem next_ok {row : List Int} {i : Int} (hb : BoxR row i) {m : Int} (hm : 0 < m) : Ok (d__law_next [bx row i, .int m]) fun t ps => ∃ r, t = .int r ∧ ps = [some (bx row (i + 1)), some (.int m)] ∧ 0 ≤ r ∧ r < m := by
  obtain ⟨hr0, hr1, hi⟩ := hb
  refine den_ok rfl ?_
  unfold b__law_next
  have hl : (0 : Int) < ((row.map T.int).length : Int) := by simp; omega
  have hl2 : ((row.map T.int).length : Int).natAbs < 2 ^ 30 := by simpa using hr1
  repeat' walk_at "v"
  refine ⟨_, mod_ok hl, ?_⟩
  repeat' walk_at "v"
  have h1 := Int.emod_nonneg i (show ((row.map T.int).length : Int) ≠ 0 by omega)
  have h2 := Int.emod_lt_of_pos i hl
  obtain ⟨x, _, hx⟩ := atI_map (f := T.int) (xs := row) h1 (by simpa using h2)
  refine ⟨_, hx, ?_⟩
  repeat' walk_at "v"
  refine ⟨_, fdiv_ok hl hl2 (by omega), ?_⟩
  repeat' walk_at "v"
  refine ⟨_, mod_ok hm, ?_⟩
  exact ⟨_, rfl, rfl, Int.emod_nonneg _ (by omega), Int.emod_lt_of_pos _ hm⟩
theorem small6 : (6 : Nat) ≤ sizeLine := by decide
theorem draws_ok {n : Int} : Ok (d__law_draws [.int n, .int 1000003, .int 6]) fun t ps => ∃ row : List Int, t = .lst true (row.map T.int) ∧ row.length = 6 := by
  refine den_ok rfl ?_
  unfold b__law_draws
  have main : ∀ z : Int, 0 ≤ z → SOk ((mSeq (mSet 4 (mLst []))
  (mSeq (mIf (mTst (mPrim pGe [.sl 3, .val (mPrim pPow [.val (mC (.int 10)), .val (mC (.int 18))])]))
  (mSeq (mFor (mRng [.sl 2]) (gName 5)
  (mSeq (mExp (mMut fAppend 4 [.val (mPrim pMod [.val (mPrim pIntOf [.sl 3]), .sl 1])]))
  (mSet 3 (mPrim pFdiv [.sl 3, .sl 1]))))
  (mRetV 4))
  mSkip)
  (mSeq (mFor (mRng [.sl 2]) (gName 5)
  (mSeq (mSet 6 (mPrim pMod [.val (mPrim pIntOf [.val (mPrim pMul [.val (mPrim pAdd [.val (mPrim pAdd [.sl 3, .val (mPrim pMul [.val (mC (.int 7)), .sl 5])]), .val (mC (.int 1))]), .val (mC (.int 48271))])]), .val (mC (.int 2147483647))]))
  (mSeq (mSet 6 (mPrim pMod [.val (mPrim pIntOf [.val (mPrim pAdd [.val (mPrim pMul [.sl 6, .val (mC (.int 69621))]), .val (mPrim pMul [.val (mC (.int 31)), .sl 5])])]), .val (mC (.int 2147483629))]))
  (mExp (mMut fAppend 4 [.val (mPrim pMod [.val (mPrim pIntOf [.val (mPrim pFdiv [.sl 6, .val (mC (.int 7))])]), .sl 1])])))))
  (mRetV 4)))) [some (.int n), some (.int 1000003), some (.int 6), some (.int z), none, none, none]) (fun e => ∃ row : List Int, T.non = .lst true (row.map T.int) ∧ row.length = 6) (fun t e => ∃ row : List Int, t = .lst true (row.map T.int) ∧ row.length = 6) (fun _ => False) (fun _ => False) := by
    intro z hz
    have hz6 : (6 : Nat) ≤ sizeLine := small6
    iterate 17 walk_at "v"
    refine ⟨_, rfl, _, pow18, ?_⟩
    repeat' walk_at "v"
    refine ⟨fun h => ?_, fun h => ?_⟩
    · repeat' walk_at "v"
      refine s_loopR (I := fun i e => ∃ (row : List Int) (z : Int) (a b : Option T), e = [some (.int n), some (.int 1000003), some (.int 6), some (.int z), some (.lst true (row.map T.int)), a, b] ∧ row.length = i) ⟨[], z, _, _, rfl, rfl⟩ ?_ ?_
      · rintro i e hi ⟨row, z, a, b, rfl, hl⟩
        have hi' : i < 6 := hi
        repeat' walk_at "v"
        refine ⟨_, _, _, _, rfl, rfl, (app_ok (by simp; omega)), ?_⟩
        repeat' walk_at "v"
        refine' ⟨row ++ [z % 1000003], z / 1000003, _, _, ?g, ?h⟩
        case g => rw [← map_snoc]; rfl
        case h => simp [hl]
      · rintro e ⟨row, z, a, b, rfl, hl⟩
        repeat' walk_at "v"
        exact hl
    · repeat' walk_at "v"
      refine s_loopR (I := fun i e => ∃ (row : List Int) (a b : Option T), e = [some (.int n), some (.int 1000003), some (.int 6), some (.int z), some (.lst true (row.map T.int)), a, b] ∧ row.length = i) ⟨[], _, _, rfl, rfl⟩ ?_ ?_
      · rintro i e hi ⟨row, a, b, rfl, hl⟩
        have hi' : i < 6 := hi
        repeat' walk_at "v"
        refine ⟨_, _, _, _, rfl, rfl, (app_ok (by simp; omega)), ?_⟩
        refine' ⟨row ++ [_], _, _, ?g, ?h⟩
        case g => rw [← map_snoc]; rfl
        case h => simp [hl]
      · rintro e ⟨row, a, b, rfl, hl⟩
        repeat' walk_at "v"
        exact hl
  repeat' walk_at "v"
  refine ⟨fun h => ?_, fun h => ?_⟩
  · have h' : n < 0 := by simpa using h
    iterate 13 walk_at "v"
    exact main (0 - 1 - n) (by omega)
  · have h' : 0 ≤ n := by simp at h; omega
    walk_at "v"
    exact main n h'
end G

namespace G
open PySem L2 VL
theorem box_ok {ns : List Int} (hn : ns.length ≤ 63) : Ok (d__law_box [.scr ns]) fun b _ => ∃ row, b = bx row 0 ∧ BoxR row 0 := by
  refine den_ok rfl ?_
  unfold b__law_box
  repeat' walk_at "v"
  refine s_loop0 (I := fun i e => ∃ (row : List Int) (a : Option T), e = [some (.scr ns), some (.lst true (row.map T.int)), a] ∧ row.length = 6 * i) ⟨[], _, rfl, rfl⟩ ?_ ?_
  · rintro i t e ht ⟨row, a, rfl, hl⟩
    have hi : i < 63 := by have := (List.getElem?_eq_some_iff.mp ht).1; simp at this; omega
    rw [List.getElem?_map, Option.map_eq_some_iff] at ht
    obtain ⟨n, _, rfl⟩ := ht
    repeat' walk_at "v"
    refine draws_ok.mono ?_
    rintro _ ps ⟨r2, rfl, hr2⟩
    rw [wb_no rfl]
    repeat' walk_at "v"
    refine ⟨_, cat_ok (by simp; omega), ?_⟩
    repeat' walk_at "v"
    refine' ⟨row ++ r2, _, ?g, ?h⟩
    case g => rw [List.map_append]; rfl
    case h => simp [hl, hr2]; omega
  · rintro e ⟨row, a, rfl, hl⟩
    have hl63 : row.length ≤ 378 := by rw [hl]; simp; omega
    repeat' walk_at "v"
    refine ⟨fun h => ?_, fun h => ?_⟩
    · repeat' walk_at "v"
      exact ⟨[11, 5, 2, 7, 31, 101, 997], rfl, by decide, by decide, by decide⟩
    · have h' : row.length ≠ 0 := by
        have h2 : eqT (.int ((row.map T.int).length : Int)) (.int 0) = false := h
        simp [eqT] at h2
        intro z; apply h2; exact List.length_eq_zero_iff.mp z
      repeat' walk_at "v"
      exact ⟨by omega, by omega, by decide⟩
end G

namespace G
open PySem L2 VL
theorem is_ok : ∀ {n : Nat} {a b : T}, Sm n a b → d__law_is n [a, b] = .ok (.bl true) [some a, some b] := by
  intro n
  induction n with
  | zero => intro a b h; exact h.elim
  | succ n ih =>
    intro a b h
    have seq : ∀ (xs ys : List T), ys.length ≤ 1000 → xs.length = ys.length → (∀ (i : Nat) (x y : T), xs[i]? = some x → ys[i]? = some y → Sm n x y) → ∀ (a b : T), (∀ i : Int, pIx [a, .int i] = atI xs i) → (∀ i : Int, pIx [b, .int i] = atI ys i) → pLen [b] = some (.int ys.length) → ∀ (Q : T → VL.Env → Prop), (∀ z, Q (.bl true) [some a, some b, some (.bl true), z]) →
        Ok (mPrim pAll [.val (mComp [3] (mRng [.val (mPrim pLen [.sl 1])]) (VL.gName 3) mYes (mCall (d__law_is n) [.val (mPrim pIx [.sl 0, .sl 3]), .val (mPrim pIx [.sl 1, .sl 3])]))] [some a, some b, some (.bl true), none]) Q := by
      intro xs ys hz hl hs a b ha hb hlb Q q
      walk_at "v"; walk_at "v"
      refine w_comp ?_
      walk_at "v"; walk_at "v"; walk_at "v"; walk_at "v"; walk_at "v"
      refine ⟨_, rfl, _, hlb, ?_⟩
      walk_at "v"
      refine ⟨_, rfl, _, rng_n hz, ?_⟩
      refine ⟨by rw [rng_len]; exact len_sz hz, fun i acc e => acc = List.replicate i (.bl true) ∧ e = [some a, some b, some (.bl true), none], ⟨rfl, rfl⟩, ?_, ?_⟩
      · rintro i t acc e ht ⟨rfl, rfl⟩
        obtain ⟨hi, rfl⟩ := rng_get ht
        walk_at "v"
        refine ok_of rfl ?_
        refine ⟨fun _ => ?_, c_tf⟩
        have hx : xs[i]? = some xs[i] := List.getElem?_eq_getElem (by omega)
        have hy : ys[i]? = some ys[i] := List.getElem?_eq_getElem (by omega)
        rw [Int.zero_add]
        walk_at "v"; walk_at "v"; walk_at "v"; walk_at "v"; walk_at "v"; walk_at "v"
        refine ⟨_, rfl, _, (ha _).trans (atI_nat' hx), ?_⟩
        walk_at "v"; walk_at "v"; walk_at "v"; walk_at "v"; walk_at "v"
        refine ⟨_, rfl, _, (hb _).trans (atI_nat' hy), ?_⟩
        walk_at "v"
        refine ⟨_, rfl, rfl, ?_⟩
        refine ok_of (ih (hs i _ _ hx hy)) ?_
        refine ⟨by rw [List.replicate_succ']; rfl, rfl⟩
      · rintro acc e ⟨rfl, rfl⟩
        rw [rng_len]
        walk_at "v"
        refine ⟨_, rfl, _, all_rep _, ?_⟩
        exact q _
    have key : Ok (d__law_is (n + 1) [a, b]) fun t ps => t = .bl true ∧ ps = [some a, some b] := by
      refine den_ok rfl ?_
      unfold b__law_is
      cases b with
      | non =>
        cases h
        repeat' walk_at "v"
        exact ⟨rfl, rfl⟩
      | bl k =>
        cases h
        repeat' walk_at "v"
        exact ⟨by simp [eqT], rfl⟩
      | int i =>
        cases h
        repeat' walk_at "v"
        exact ⟨by simp [eqT], rfl⟩
      | str z =>
        obtain ⟨rfl, hz⟩ := h
        repeat' walk_at "v"
        refine ⟨_, by show (if okT _ 60 && okT _ 60 then _ else _) = _; simp only [okT, hz, Bool.and_self, if_true]; rfl, ?_⟩
        exact ⟨by simp [eqT], rfl⟩
      | tup ys =>
        obtain ⟨xs, rfl, hz, hl, hs⟩ := h
        repeat' walk_at "v"
        refine ⟨fun _ => ?_, fun h => by simp [eqT, hl] at h⟩
        exact seq xs ys hz hl hs (.tup xs) (.tup ys) (fun _ => rfl) (fun _ => rfl) rfl _ fun z => ⟨rfl, rfl⟩
      | lst o ys =>
        obtain ⟨o', xs, rfl, hz, hl, hs⟩ := h
        repeat' walk_at "v"
        refine ⟨fun _ => ?_, fun h => by simp [eqT, hl] at h⟩
        exact seq xs ys hz hl hs (.lst o' xs) (.lst o ys) (fun _ => rfl) (fun _ => rfl) rfl _ fun z => ⟨rfl, by cases o <;> cases o' <;> rfl⟩
      | dic o ks ts => exact h.elim
      | dit o ks ts => exact h.elim
      | scr ns => exact h.elim
    obtain ⟨t, ps, h, rfl, rfl⟩ := key.get
    exact h
end G

namespace VL
open PySem L2
/-! words of won and lost games -/
def chS (b : Bool) : Nat := if b then 87 else 76
def wS (w : List Bool) : Str := tx (w.map chS)
def wT (w : List Bool) : T := .str (wS w)
theorem chS_inj {a b : Bool} : chS a = chS b ↔ a = b := by cases a <;> cases b <;> simp [chS]
theorem wS_inj {a b : List Bool} : wS a = wS b ↔ a = b := by
  unfold wS
  rw [tx_inj]
  constructor
  · intro h
    exact (List.map_inj_right (fun x y h => chS_inj.mp h)).mp h
  · rintro rfl; rfl
theorem count_map {c : Bool} {w : List Bool} : (w.map chS).count (chS c) = w.count c := by
  induction w with
  | nil => rfl
  | cons a w ih =>
    rw [List.map_cons, List.count_cons, List.count_cons, ih]
    congr 1
    have : (chS a == chS c) = (a == c) := by cases a <;> cases c <;> rfl
    rw [this]
theorem cntW {w : List Bool} : Txt.count (wS w) "W" = (w.count true : Int) := by
  have := tx_count (x := w.map chS) (c := 87)
  rw [show (87 : Nat) = chS true from rfl, count_map] at this
  exact this
theorem cntL {w : List Bool} : Txt.count (wS w) "L" = (w.count false : Int) := by
  have := tx_count (x := w.map chS) (c := 76)
  rw [show (76 : Nat) = chS false from rfl, count_map] at this
  exact this
def nt (w : List Bool) : Nat := w.count true
def nf (w : List Bool) : Nat := w.count false
/-- the words of a series to so many wins, by their lengths -/
def longer (n : Nat) (rows : List (List Bool)) : List (List Bool) := rows.flatMap fun w => if max (nt w) (nf w) < n then [w ++ [true], w ++ [false]] else []
def wordsF (n : Nat) : Nat → List (List Bool) → List (List Bool)
  | 0, _ => []
  | k + 1, rows => rows.filter (fun w => max (nt w) (nf w) == n) ++ wordsF n k (longer n rows)
def W (n : Nat) : List (List Bool) := wordsF n (2 * n) [[]]
def wonB (w : List Bool) : Bool := w.getLast? == some true
/-- its chance -/
def chW (p : Rat) (w : List Bool) : Rat := w.foldl (fun a b => a * (if b = true then p else 1 - p)) 1
theorem chW_snoc {p : Rat} {w : List Bool} {b : Bool} : chW p (w ++ [b]) = chW p w * (if b = true then p else 1 - p) := by simp [chW]
def pw (p : Rat) : Nat → Rat
  | 0 => 1
  | n + 1 => pw p n * p
theorem chW_eq {p : Rat} (w : List Bool) : chW p w = pw p (nt w) * pw (1 - p) (nf w) := by
  suffices h : ∀ (w r : List Bool), w = r.reverse → chW p w = pw p (nt w) * pw (1 - p) (nf w) from h w w.reverse (by simp)
  intro w r
  induction r generalizing w with
  | nil => rintro rfl; simp [chW, nt, nf, pw]
  | cons b r ih =>
    rintro rfl
    rw [List.reverse_cons, chW_snoc, ih _ rfl]
    cases b <;> simp [nt, nf, pw] <;> grind
def sumR (l : List Rat) : Rat := l.foldl (· + ·) 0
theorem foldl_add {l : List Rat} {a : Rat} : l.foldl (· + ·) a = a + sumR l := by
  unfold sumR
  induction l generalizing a with
  | nil => simp; grind
  | cons x l ih =>
    rw [List.foldl_cons, List.foldl_cons, ih, ih (a := 0 + x)]
    grind
theorem sumR_cons {x : Rat} {l : List Rat} : sumR (x :: l) = x + sumR l := by
  unfold sumR
  rw [List.foldl_cons, foldl_add]
  unfold sumR
  grind
/-- Pascal's numbers -/
def cho : Nat → Nat → Nat
  | _, 0 => 1
  | 0, _ + 1 => 0
  | n + 1, k + 1 => cho n k + cho n (k + 1)
/-- a sum by the numbers of losses -/
def sumL (p q : Rat) (m : Nat) (f : Nat → Nat) : Nat → Rat
  | 0 => 0
  | o + 1 => sumL p q m f o + (f o : Rat) * (pw p m * pw q o)
theorem sumL_add {p q : Rat} {m : Nat} {f g : Nat → Nat} : ∀ {o : Nat}, sumL p q m (fun l => f l + g l) o = sumL p q m f o + sumL p q m g o
  | 0 => by simp [sumL]; grind
  | o + 1 => by
    simp only [sumL, sumL_add (o := o)]
    have : (((f o + g o : Nat)) : Rat) = (f o : Rat) + (g o : Rat) := by simp
    rw [this]
    grind
theorem sumL_one {p q : Rat} {m a : Nat} : ∀ {o : Nat}, sumL p q m (fun l => if l = a then 1 else 0) o = if a < o then pw p m * pw q a else 0
  | 0 => by simp [sumL]
  | o + 1 => by
    simp only [sumL, sumL_one (o := o)]
    by_cases h : o = a
    · subst h
      simp
      grind
    · rw [if_neg h]
      by_cases h2 : a < o
      · rw [if_pos h2, if_pos (by omega)]; simp; grind
      · rw [if_neg h2, if_neg (by omega)]; simp; grind
theorem sumL_congr {p q : Rat} {m : Nat} {f g : Nat → Nat} : ∀ {o : Nat}, (∀ l, l < o → f l = g l) → sumL p q m f o = sumL p q m g o
  | 0, _ => rfl
  | o + 1, h => by simp only [sumL]; rw [sumL_congr (o := o) (fun l hl => h l (by omega)), h o (by omega)]
theorem sum_by {p : Rat} {m o : Nat} : ∀ {L : List (List Bool)}, (∀ x ∈ L, nt x = m ∧ nf x < o) → sumR (L.map (chW p)) = sumL p (1 - p) m (fun l => L.countP fun x => nf x == l) o
  | [], _ => by
    have : ∀ o, sumL p (1 - p) m (fun _ => 0) o = 0 := fun o => by
      induction o with
      | zero => rfl
      | succ o ih => simp [sumL, ih]; grind
    exact (this o).symm
  | x :: L, h => by
    obtain ⟨h1, h2⟩ := h x (by simp)
    rw [List.map_cons, sumR_cons, sum_by (fun y hy => h y (List.mem_cons_of_mem _ hy))]
    have e : ∀ l, l < o → ((x :: L).countP fun y => nf y == l) = (L.countP fun y => nf y == l) + (if l = nf x then 1 else 0) := fun l _ => by
      rw [List.countP_cons]
      congr 1
      by_cases z : nf x = l
      · simp [z]
      · simp [z, Ne.symm z]
    rw [sumL_congr e, sumL_add, sumL_one, if_pos h2, chW_eq, h1]
    grind
/-- the chance to win with so many wins and losses lacking -/
def P (p : Rat) : Nat → Nat → Rat
  | 0, _ => 1
  | _ + 1, 0 => 0
  | m + 1, o + 1 => p * P p m (o + 1) + (1 - p) * P p (m + 1) o
theorem cho_zero {n : Nat} : cho n 0 = 1 := by cases n <;> rfl
theorem P_eq {p : Rat} : ∀ {m o : Nat}, P p (m + 1) o = sumL p (1 - p) (m + 1) (fun l => cho (m + l) l) o
  | m, 0 => by simp [P, sumL]
  | 0, o + 1 => by
    have one : ∀ l, cho (0 + l) l = 1 := fun l => by
      induction l with
      | zero => rfl
      | succ l ih =>
        have : ∀ n, cho n (n + 1) = 0 ∧ ∀ k, cho n (n + 1 + k) = 0 := fun n => by
          induction n with
          | zero => exact ⟨rfl, fun k => by cases k <;> simp [cho, Nat.add_comm]⟩
          | succ n ih =>
            refine ⟨?_, fun k => ?_⟩
            · show cho n (n + 1) + cho n (n + 1 + 1) = 0
              rw [ih.1, ih.2 1]
            · rw [show n + 1 + 1 + k = (n + 1 + k) + 1 by omega]
              show cho n (n + 1 + k) + cho n (n + 1 + k + 1) = 0
              rw [ih.2 k, show n + 1 + k + 1 = n + 1 + (k + 1) by omega, ih.2 (k + 1)]
        rw [show 0 + (l + 1) = l + 1 by omega]
        show cho l l + cho l (l + 1) = 1
        rw [(this l).1]
        simpa using ih
    rw [P, P_eq (m := 0) (o := o), P]
    have e1 : ∀ o, sumL p (1 - p) (0 + 1) (fun l => cho (0 + l) l) o = sumL p (1 - p) 1 (fun _ => 1) o := fun o => sumL_congr fun l _ => one l
    rw [e1, e1]
    have : ∀ o, sumL p (1 - p) 1 (fun _ => 1) (o + 1) = p * 1 + (1 - p) * sumL p (1 - p) 1 (fun _ => 1) o := fun o => by
      induction o with
      | zero => simp [sumL, pw]; grind
      | succ o ih =>
        have e2 : sumL p (1 - p) 1 (fun _ => 1) (o + 1 + 1) = sumL p (1 - p) 1 (fun _ => 1) (o + 1) + ((1 : Nat) : Rat) * (pw p 1 * (pw (1 - p) o * (1 - p))) := rfl
        have e3 : sumL p (1 - p) 1 (fun _ => 1) (o + 1) = sumL p (1 - p) 1 (fun _ => 1) o + ((1 : Nat) : Rat) * (pw p 1 * pw (1 - p) o) := rfl
        rw [e2]
        grind
    exact (this o).symm
  | m + 1, o + 1 => by
    rw [P, P_eq (m := m) (o := o + 1), P_eq (m := m + 1) (o := o)]
    have : ∀ o, sumL p (1 - p) (m + 1 + 1) (fun l => cho (m + 1 + l) l) (o + 1) = p * sumL p (1 - p) (m + 1) (fun l => cho (m + l) l) (o + 1) + (1 - p) * sumL p (1 - p) (m + 1 + 1) (fun l => cho (m + 1 + l) l) o := fun o => by
      induction o with
      | zero => simp [sumL, pw, cho_zero]; grind
      | succ o ih =>
        rw [show sumL p (1 - p) (m + 1 + 1) (fun l => cho (m + 1 + l) l) (o + 1 + 1) = sumL p (1 - p) (m + 1 + 1) (fun l => cho (m + 1 + l) l) (o + 1) + ((cho (m + 1 + (o + 1)) (o + 1) : Nat) : Rat) * (pw p (m + 1 + 1) * pw (1 - p) (o + 1)) from rfl]
        have pas : ((cho (m + 1 + (o + 1)) (o + 1) : Nat) : Rat) = (cho (m + 1 + o) o : Rat) + (cho (m + (o + 1)) (o + 1) : Rat) := by
          rw [show m + 1 + (o + 1) = (m + 1 + o) + 1 by omega]
          show ((cho (m + 1 + o) o + cho (m + 1 + o) (o + 1) : Nat) : Rat) = _
          rw [show m + 1 + o = m + (o + 1) by omega]
          simp
        rw [pas]
        have e3 : sumL p (1 - p) (m + 1) (fun l => cho (m + l) l) (o + 1 + 1) = sumL p (1 - p) (m + 1) (fun l => cho (m + l) l) (o + 1) + (cho (m + (o + 1)) (o + 1) : Rat) * (pw p (m + 1) * pw (1 - p) (o + 1)) := rfl
        have e4 : sumL p (1 - p) (m + 1 + 1) (fun l => cho (m + 1 + l) l) (o + 1) = sumL p (1 - p) (m + 1 + 1) (fun l => cho (m + 1 + l) l) o + (cho (m + 1 + o) o : Rat) * (pw p (m + 1 + 1) * pw (1 - p) o) := rfl
        have e5 : pw (1 - p) (o + 1) = pw (1 - p) o * (1 - p) := rfl
        have e6 : pw p (m + 1 + 1) = pw p (m + 1) * p := rfl
        grind
    exact (this o).symm
theorem P_both {p : Rat} : ∀ {m o : Nat}, 0 < m ∨ 0 < o → P p m o + P (1 - p) o m = 1
  | 0, 0, h => by omega
  | 0, o + 1, _ => by simp [P]; grind
  | m + 1, 0, _ => by simp [P]; grind
  | m + 1, o + 1, _ => by
    have h1 := P_both (p := p) (m := m) (o := o + 1) (by omega)
    have h2 := P_both (p := p) (m := m + 1) (o := o) (by omega)
    simp only [P]
    have : 1 - (1 - p) = p := by grind
    rw [this]
    grind
end VL

namespace G
open PySem L2 VL
theorem words_ok {n : Nat} (hn : n < 5) : Ok (d__law_words [.int ((n + 1 : Nat) : Int)]) fun t _ => t = .lst true ((W (n + 1)).map wT) := by
  have h : ∀ n : Nat, n < 5 → isR (d__law_words [.int ((n + 1 : Nat) : Int)]) (.lst true ((W (n + 1)).map wT)) = true := by decide +kernel
  exact isR_ok (h n hn) fun _ => rfl
end G

namespace VL
open PySem L2
structure OddsR (p : Rat) : Prop where
  nn : 0 ≤ p
  le : p ≤ 1
  bd : Bd 4 p
theorem OddsR.num {p : Rat} (h : OddsR p) : 0 ≤ p.num ∧ p.num ≤ p.den := by
  refine ⟨Rat.num_nonneg.mpr h.nn, ?_⟩
  have := (Rat.le_iff p 1).mp h.le
  simpa using this
theorem one_sub {p : Rat} : 1 - p = Rat.divInt ((p.den : Int) - p.num) p.den := by
  rw [sub_as]
  simp
theorem OddsR.flip {p : Rat} (h : OddsR p) : OddsR (1 - p) := by
  obtain ⟨h1, h2⟩ := h.num
  refine ⟨by have := h.le; grind, by have := h.nn; grind, ?_⟩
  rw [one_sub]
  have hd := p.den_pos
  have h3 := h.bd.2
  exact bd_divInt (by omega) (by omega) (by omega)
theorem odds_of {a b : Int} (h0 : 0 ≤ a) (h1 : a ≤ b) (h2 : 0 < b) (h3 : b < 16) : OddsR (Rat.divInt a b) := by
  refine ⟨Rat.divInt_nonneg h0 (by omega), ?_, bd_divInt (by omega) (by omega) (by omega)⟩
  rw [Rat.divInt_eq_div]
  have hb : (0 : Rat) < b := by exact_mod_cast h2
  have hab : (a : Rat) ≤ b := Rat.intCast_le_intCast.mpr h1
  have hi : (0 : Rat) < (b : Rat)⁻¹ := Rat.inv_pos.mpr hb
  have h4 := Rat.mul_le_mul_of_nonneg_right hab (Rat.le_of_lt hi)
  rw [Rat.mul_inv_cancel _ (by grind)] at h4
  rw [Rat.div_def]
  exact h4
theorem bd_pw {p : Rat} (h : Bd 4 p) : ∀ n, Bd (4 * n + 1) (pw p n)
  | 0 => bd_one
  | n + 1 => (bd_mul (bd_pw h n) h).mono (by omega)
theorem tq_nat1 {n : Nat} : T.tup [.int (n : Int), .int 1] = tq (n : Rat) := rfl
theorem bd_nat {n k : Nat} (h : n < 2 ^ k) (hk : 0 < k) : Bd k (n : Rat) := bd_int (i := (n : Int)) (by simpa using h) hk
def lenC (p : Rat) (w l : Nat) : Rat := (cho (w - 1 + l) l : Rat) * (pw p w * pw (1 - p) l + pw (1 - p) w * pw p l)
theorem cho_lt : ∀ n, n < 9 → ∀ k, k < 5 → cho n k < 128 := by decide
theorem bd_lenC {p : Rat} {w l : Nat} (h : OddsR p) (hw : 0 < w) (hw2 : w ≤ 5) (hl : l < w) : Bd 90 (lenC p w l) := by
  have c : Bd 7 (cho (w - 1 + l) l : Rat) := bd_nat (k := 7) (cho_lt _ (by omega) _ (by omega)) (by omega)
  have a := bd_mul (bd_pw h.bd w) (bd_pw h.flip.bd l)
  have b := bd_mul (bd_pw h.flip.bd w) (bd_pw h.bd l)
  exact (bd_mul c (bd_add a b)).mono (by omega)
def eT (x : Nat × Rat) : T := .tup [.int (x.1 : Int), tq x.2]
end VL
namespace G
open PySem L2 VL
theorem choose_ok {n k : Nat} (hn : n < 9) (hk : k < 5) : Ok (d_choose [.int (n : Int), .int (k : Int)]) fun t _ => t = .int (cho n k : Int) := by
  have h : ∀ n : Nat, n < 9 → ∀ k : Nat, k < 5 → isR (d_choose [.int (n : Int), .int (k : Int)]) (.int (cho n k : Int)) = true := by decide +kernel
  exact isR_ok (h n hn k hk) fun _ => rfl
theorem power_ok {p : Rat} {k : Nat} (h : Bd 4 p) (hk : k ≤ 10) : Ok (d_power [tq p, .int (k : Int)]) fun t ps => t = tq (pw p k) ∧ ps = [some (tq p), some (.int (k : Int))] := by
  walk_at "d"
  unfold b_power
  repeat' walk_at "v"
  walk_at "e"
  refine ⟨_, rng_n (by omega), ?_⟩
  refine s_loopER [3] (fun e (f : Rat) => e.set 2 (some (tq f))) (fun i f => f = pw p i) 1 rfl rfl ?_ ?_
  · rintro i z f hi rfl
    walk_at "e"
    repeat' walk_at "v"
    refine ok_of (times_ok (bd_pw h i) h (by omega)) ?_
    repeat' walk_at "v"
    exact .mk _ rfl rfl
  · rintro z f rfl
    walk_at "e"
    repeat' walk_at "v"
    exact ⟨rfl, rfl⟩
/-- a win's part, by so many losses -/
def winT (p : Rat) (w l : Nat) : Rat := (cho (w - 1 + l) l : Rat) * (pw p w * pw (1 - p) l)
theorem bd_winT {p : Rat} {w l : Nat} (h : OddsR p) (hw : 0 < w) (hw2 : w ≤ 5) (hl : l < w) : Bd 50 (winT p w l) := by
  have c : Bd 7 (cho (w - 1 + l) l : Rat) := bd_nat (k := 7) (cho_lt _ (by omega) _ (by omega)) (by omega)
  exact (bd_mul c (bd_mul (bd_pw h.bd w) (bd_pw h.flip.bd l))).mono (by omega)
theorem flip_ok {p : Rat} (h : OddsR p) : d_minus [tq 1, tq p] = .ok (tq (1 - p)) [some (tq 1), some (tq p)] := minus_ok bd_one h.bd (by omega)
theorem win_ok {p : Rat} {w : Nat} (h : OddsR p) (hw : 0 < w) (hw2 : w ≤ 5) : Ok (d_chance_to_win [tq p, .int (w : Int)]) fun t ps => t = tq (P p w w) ∧ ps = [some (tq p), some (.int (w : Int))] := by
  walk_at "d"
  unfold b_chance_to_win
  repeat' walk_at "v"
  refine ok_of (flip_ok h) ?_
  repeat' walk_at "v"
  walk_at "e"
  refine ⟨_, rng_n (by omega), ?_⟩
  refine s_loopER [4, 5] (fun e (f : Rat) => e.set 2 (some (tq f))) (fun i f => f = sumL p (1 - p) w (fun l => cho (w - 1 + l) l) i ∧ Bd (51 * i + 1) f) 0 rfl ⟨rfl, bd_zero⟩ ?_ ?_
  · rintro i z f hi ⟨rfl, hB⟩
    walk_at "e"
    repeat' walk_at "v"
    rw [show (w : Int) - 1 + (i : Int) = ((w - 1 + i : Nat) : Int) by omega]
    refine (choose_ok (by omega) (by omega)).mono ?_
    rintro _ _ rfl
    rw [wb_no rfl]
    repeat' walk_at "v"
    refine (power_ok h.bd (by omega)).mono ?_
    rintro _ _ ⟨rfl, rfl⟩
    repeat' walk_at "v"
    refine (power_ok h.flip.bd (by omega)).mono ?_
    rintro _ _ ⟨rfl, rfl⟩
    repeat' walk_at "v"
    refine ok_of (times_ok (bd_pw h.bd w) (bd_pw h.flip.bd i) (by omega)) ?_
    repeat' walk_at "v"
    show Ok (d_times [tq ((cho (w - 1 + i) i : Nat) : Rat), tq (pw p w * pw (1 - p) i)]) _
    have c : Bd 7 ((cho (w - 1 + i) i : Nat) : Rat) := bd_nat (k := 7) (cho_lt _ (by omega) _ (by omega)) (by omega)
    refine ok_of (times_ok c (bd_mul (bd_pw h.bd w) (bd_pw h.flip.bd i)) (by omega)) ?_
    repeat' walk_at "v"
    refine ok_of (plus_ok hB (bd_mul c (bd_mul (bd_pw h.bd w) (bd_pw h.flip.bd i))) (by omega)) ?_
    repeat' walk_at "v"
    exact .mk _ rfl ⟨rfl, (bd_add hB (bd_winT h hw hw2 hi)).mono (by omega)⟩
  · rintro z f ⟨rfl, hB⟩
    walk_at "e"
    repeat' walk_at "v"
    obtain ⟨m, rfl⟩ : ∃ m, w = m + 1 := ⟨w - 1, by omega⟩
    rw [P_eq]
    exact ⟨rfl, rfl⟩
theorem lengths_ok {p : Rat} {w : Nat} (h : OddsR p) (hw : 0 < w) (hw2 : w ≤ 5) : Ok (d_length_chances [tq p, .int (w : Int)]) fun t ps => t = .lst true ((List.range w).map fun l => eT (w + l, lenC p w l)) ∧ ps = [some (tq p), some (.int (w : Int))] := by
  walk_at "d"
  unfold b_length_chances
  repeat' walk_at "v"
  refine ok_of (flip_ok h) ?_
  repeat' walk_at "v"
  walk_at "e"
  refine ⟨_, rng_n (by omega), ?_⟩
  refine s_loopER [4, 5, 6, 7] (fun e (n : Nat) => e.set 2 (some (.lst true ((List.range n).map fun l => eT (w + l, lenC p w l))))) (fun i n => n = i) 0 rfl rfl ?_ ?_
  · rintro i z n hi rfl
    walk_at "e"
    repeat' walk_at "v"
    rw [show (w : Int) - 1 + (n : Int) = ((w - 1 + n : Nat) : Int) by omega]
    refine (choose_ok (by omega) (by omega)).mono ?_
    rintro _ _ rfl
    rw [wb_no rfl]
    repeat' walk_at "v"
    refine (power_ok h.bd (by omega)).mono ?_
    rintro _ _ ⟨rfl, rfl⟩
    repeat' walk_at "v"
    refine (power_ok h.flip.bd (by omega)).mono ?_
    rintro _ _ ⟨rfl, rfl⟩
    repeat' walk_at "v"
    refine ok_of (times_ok (bd_pw h.bd w) (bd_pw h.flip.bd n) (by omega)) ?_
    repeat' walk_at "v"
    refine (power_ok h.flip.bd (by omega)).mono ?_
    rintro _ _ ⟨rfl, rfl⟩
    repeat' walk_at "v"
    refine (power_ok h.bd (by omega)).mono ?_
    rintro _ _ ⟨rfl, rfl⟩
    repeat' walk_at "v"
    refine ok_of (times_ok (bd_pw h.flip.bd w) (bd_pw h.bd n) (by omega)) ?_
    repeat' walk_at "v"
    have b1 := bd_mul (bd_pw h.bd w) (bd_pw h.flip.bd n)
    have b2 := bd_mul (bd_pw h.flip.bd w) (bd_pw h.bd n)
    refine ok_of (plus_ok b1 b2 (by omega)) ?_
    repeat' walk_at "v"
    show Ok (d_times [tq ((cho (w - 1 + n) n : Nat) : Rat), tq (pw p w * pw (1 - p) n + pw (1 - p) w * pw p n)]) _
    have c : Bd 7 ((cho (w - 1 + n) n : Nat) : Rat) := bd_nat (k := 7) (cho_lt _ (by omega) _ (by omega)) (by omega)
    refine ok_of (times_ok c (bd_add b1 b2) (by omega)) ?_
    repeat' walk_at "v"
    refine ⟨_, _, _, _, rfl, rfl, app_ok (by simp; omega), ?_⟩
    exact .mk (n + 1) (by rw [List.range_succ, List.map_append]; rfl) rfl
  · rintro z n rfl
    walk_at "e"
    repeat' walk_at "v"
    exact ⟨rfl, rfl⟩
/-- the mean -/
def meanR (p : Rat) (w : Nat) (k : Nat) : Rat := sumR ((List.range k).map fun l => ((w + l : Nat) : Rat) * lenC p w l)
theorem meanR_succ {p : Rat} {w k : Nat} : meanR p w (k + 1) = meanR p w k + ((w + k : Nat) : Rat) * lenC p w k := by
  simp [meanR, sumR, List.range_succ]
theorem bd_meanT {p : Rat} {w l : Nat} (h : OddsR p) (hw : 0 < w) (hw2 : w ≤ 5) (hl : l < w) : Bd 100 (((w + l : Nat) : Rat) * lenC p w l) := (bd_mul (bd_nat (k := 4) (by omega) (by omega)) (bd_lenC h hw hw2 hl)).mono (by omega)
theorem bd_mean {p : Rat} {w : Nat} (h : OddsR p) (hw : 0 < w) (hw2 : w ≤ 5) : ∀ k, k ≤ w → Bd (101 * k + 1) (meanR p w k)
  | 0, _ => bd_zero
  | k + 1, hk => by
    rw [meanR_succ]
    exact (bd_add (bd_mean h hw hw2 k (by omega)) (bd_meanT h hw hw2 (by omega))).mono (by omega)
theorem mean_ok {p : Rat} {w : Nat} (h : OddsR p) (hw : 0 < w) (hw2 : w ≤ 5) : Ok (d_mean_length [tq p, .int (w : Int)]) fun t _ => t = tq (meanR p w w) := by
  walk_at "d"
  unfold b_mean_length
  repeat' walk_at "v"
  refine (lengths_ok h hw hw2).mono ?_
  rintro _ _ ⟨rfl, rfl⟩
  repeat' walk_at "v"
  walk_at "e"
  refine s_loopEM [3, 4] (fun e (f : Rat) => e.set 2 (some (tq f))) (fun i f => f = meanR p w i) 0 rfl rfl ?_ ?_
  · rintro i l z f hl rfl
    have hi : i < w := by have := (List.getElem?_eq_some_iff.mp hl).1; simpa using this
    rw [List.getElem?_range hi] at hl
    cases hl
    walk_at "e"
    unfold eT
    repeat' walk_at "v"
    show Ok (d_times [tq ((w + i : Nat) : Rat), tq (lenC p w i)]) _
    refine ok_of (times_ok (bd_nat (k := 4) (by omega) (by omega)) (bd_lenC h hw hw2 hi) (by omega)) ?_
    repeat' walk_at "v"
    refine ok_of (plus_ok (bd_mean h hw hw2 i (by omega)) (bd_meanT h hw hw2 hi) (by omega)) ?_
    repeat' walk_at "v"
    exact .mk _ rfl meanR_succ.symm
  · rintro z f rfl
    walk_at "e"
    repeat' walk_at "v"
    rfl
theorem both_ok {p : Rat} {w : Nat} (h : OddsR p) (hw : 0 < w) (hw2 : w ≤ 5) : Ok (d_both_ways [tq p, .int (w : Int)]) fun t _ => t = .tup [tq (P p w w), tq (1 - P p w w)] := by
  walk_at "d"
  unfold b_both_ways
  repeat' walk_at "v"
  refine (win_ok h hw hw2).mono ?_
  rintro _ _ ⟨rfl, rfl⟩
  repeat' walk_at "v"
  have hd := p.den_pos
  refine ok_of (fraction_ok (l := 4) (by omega) h.bd.2 (by omega)) ?_
  repeat' walk_at "v"
  rw [← one_sub]
  refine (win_ok h.flip hw hw2).mono ?_
  rintro _ _ ⟨rfl, rfl⟩
  repeat' walk_at "v"
  have e := P_both (p := p) (m := w) (o := w) (by omega)
  rw [show 1 - P p w w = P (1 - p) w w by grind]
  rfl
end G

namespace VL
open PySem L2
theorem bd_sumL {p : Rat} {m : Nat} {f : Nat → Nat} (h : OddsR p) (hm : m ≤ 5) : ∀ {o : Nat}, o ≤ 5 → (∀ l, l < o → f l < 128) → Bd (51 * o + 1) (sumL p (1 - p) m f o)
  | 0, _, _ => bd_zero
  | o + 1, ho, hf => by
    have a := bd_sumL h hm (o := o) (by omega) (fun l hl => hf l (by omega))
    have b := bd_mul (bd_nat (k := 7) (hf o (by omega)) (by omega)) (bd_mul (bd_pw h.bd m) (bd_pw h.flip.bd o))
    exact (bd_add a b).mono (by omega)
theorem bd_P {p : Rat} {m o : Nat} (h : OddsR p) (hm : m ≤ 5) (ho : o ≤ 5) : Bd 260 (P p m o) := by
  cases m with
  | zero =>
    rw [show P p 0 o = 1 by simp [P]]
    exact bd_one.mono (by omega)
  | succ m =>
    rw [P_eq]
    have b := bd_sumL (f := fun l => cho (m + l) l) h hm ho (fun l hl => cho_lt _ (by omega) _ (by omega))
    exact b.mono (by omega)
def kp (x : Nat × Nat) : List Key := [Sum.inl (x.1 : Int), Sum.inl (x.2 : Int)]
theorem kp_inj : ∀ a b, kp a = kp b → a = b := fun a b h => by
  unfold kp at h
  simp only [List.cons.injEq, Sum.inl.injEq, and_true] at h
  exact Prod.ext (by omega) (by omega)
def dC (p : Rat) (L : List (Nat × Nat)) : T := .dit true (L.map kp) (L.map fun x => tq (P p x.1 x.2))
theorem dC_get {p : Rat} {L : List (Nat × Nat)} {a b : Nat} (h : (a, b) ∈ L) : pIx [dC p L, .tup [.int (a : Int), .int (b : Int)]] = some (tq (P p a b)) := look_map (k := kp) (f := fun x => tq (P p x.1 x.2)) kp_inj h
theorem dC_put {p : Rat} {L : List (Nat × Nat)} {a b : Nat} (h : (a, b) ∉ L) (hl : L.length ≤ 1000) : putT (dC p L) (.tup [.int (a : Int), .int (b : Int)]) (tq (P p a b)) = some (dC p (L ++ [(a, b)])) := by
  have hz : (1000 : Nat) < sizeLine := by decide
  show (if (L.map fun x => tq (P p x.1 x.2)).length < sizeLine then some (T.dit true (ksP (L.map kp) (kp (a, b))) (tsP (L.map kp) (L.map fun x => tq (P p x.1 x.2)) (kp (a, b)) (tq (P p a b)))) else none) = _
  rw [if_pos (by rw [List.length_map]; omega), put_ks kp_inj h, put_ts (k := kp) (f := fun x => tq (P p x.1 x.2)) kp_inj h]
  rfl
def vis (o i j : Nat) : List (Nat × Nat) := ((List.range i).flatMap fun a => (List.range (o + 1)).map fun b => (a, b)) ++ (List.range j).map fun b => (i, b)
theorem vis_mem {o i j a b : Nat} : (a, b) ∈ vis o i j ↔ (a < i ∧ b ≤ o) ∨ (a = i ∧ b < j) := by
  simp only [vis, List.mem_append, List.mem_flatMap, List.mem_map, List.mem_range, Prod.mk.injEq]
  constructor
  · rintro (⟨x, hx, y, hy, rfl, rfl⟩ | ⟨y, hy, rfl, rfl⟩)
    · exact .inl ⟨hx, by omega⟩
    · exact .inr ⟨rfl, hy⟩
  · rintro (⟨h1, h2⟩ | ⟨rfl, h2⟩)
    · exact .inl ⟨a, h1, b, by omega, rfl, rfl⟩
    · exact .inr ⟨b, h2, rfl, rfl⟩
theorem vis_next {o i j : Nat} : vis o i (j + 1) = vis o i j ++ [(i, j)] := by
  simp [vis, List.range_succ]
theorem vis_row {o i : Nat} : vis o i (o + 1) = vis o (i + 1) 0 := by
  simp [vis, List.range_succ]
theorem vis_len {o i j : Nat} (ho : o ≤ 10) (hi : i ≤ 10) (hj : j ≤ 11) : (vis o i j).length ≤ 1000 := by
  have : ((List.range i).flatMap fun a => (List.range (o + 1)).map fun b => (a, b)).length = i * (o + 1) := by
    rw [List.length_flatMap]
    simp [List.map_const']
  rw [vis, List.length_append, this, List.length_map, List.length_range]
  have : i * (o + 1) ≤ 10 * 11 := Nat.mul_le_mul hi (by omega)
  omega
end VL
namespace G
open PySem L2 VL
theorem rng_1 {n : Nat} (h : n ≤ 900) : rngOf [.int 1, .int ((n + 1 : Nat) : Int)] = some (rngT 1 n) := by
  show (if okR 1 && okR ((n + 1 : Nat) : Int) then _ else _) = _
  have h1 := okR_n (n := n + 1) (by omega)
  have h2 := okR_n (n := 1) (by decide)
  rw [h1, show okR 1 = true from h2]
  simp
theorem from_ok {p : Rat} {m o : Nat} (h : OddsR p) (hm : m ≤ 5) (ho : o ≤ 5) : Ok (d_chance_from [tq p, .int (m : Int), .int (o : Int)]) fun t _ => t = tq (P p m o) := by
  walk_at "d"
  unfold b_chance_from
  repeat' walk_at "v"
  walk_at "e"
  rw [show (m : Int) + 1 = ((m + 1 : Nat) : Int) by omega]
  refine ⟨_, rng_n (by omega), ?_⟩
  refine s_loopER [4, 5, 6] (fun e (L : List (Nat × Nat)) => e.set 3 (some (dC p L))) (fun i L => L = vis o i 0) [] rfl rfl ?_ ?_
  · rintro i z L hi rfl
    walk_at "e"
    repeat' walk_at "v"
    walk_at "e"
    rw [show (o : Int) + 1 = ((o + 1 : Nat) : Int) by omega]
    refine ⟨_, rng_n (by omega), ?_⟩
    refine s_loopER [5, 6] (fun e (L : List (Nat × Nat)) => e.set 3 (some (dC p L))) (fun j L => L = vis o i j) _ rfl rfl ?_ ?_
    · rintro j z L hj rfl
      have hn : (i, j) ∉ vis o i j := fun h => by rcases vis_mem.mp h with h | h <;> omega
      have hl := vis_len (o := o) (i := i) (j := j) (by omega) (by omega) (by omega)
      have put := dC_put (p := p) hn hl
      rw [← vis_next] at put
      walk_at "e"
      repeat' walk_at "v"
      rw [w_boolEq]
      refine ⟨fun hc => ?_, fun hc => ?_⟩
      · have hc : i = 0 := by simpa using hc
        subst hc
        rw [show P p 0 j = 1 by simp [P]] at put
        repeat' walk_at "v"
        refine ⟨_, _, _, rfl, rfl, put, ?_⟩
        exact .mk _ rfl rfl
      · have hc : i ≠ 0 := by simpa using hc
        obtain ⟨i, rfl⟩ : ∃ k, i = k + 1 := ⟨i - 1, by omega⟩
        repeat' walk_at "v"
        rw [w_boolEq]
        refine ⟨fun hc => ?_, fun hc => ?_⟩
        · have hc : j = 0 := by simpa using hc
          subst hc
          rw [show P p (i + 1) 0 = 0 by simp [P]] at put
          repeat' walk_at "v"
          refine ⟨_, _, _, rfl, rfl, put, ?_⟩
          exact .mk _ rfl rfl
        · have hc : j ≠ 0 := by simpa using hc
          obtain ⟨j, rfl⟩ : ∃ k, j = k + 1 := ⟨j - 1, by omega⟩
          repeat' walk_at "v"
          rw [show P p (i + 1) (j + 1) = p * P p i (j + 1) + (1 - p) * P p (i + 1) j by rw [P]] at put
          have g1 : pIx [dC p (vis o (i + 1) (j + 1)), .tup [.int (((i + 1 : Nat) : Int) - 1), .int ((j + 1 : Nat) : Int)]] = some (tq (P p i (j + 1))) := by
            rw [show ((i + 1 : Nat) : Int) - 1 = (i : Int) by omega]
            exact dC_get (vis_mem.mpr (.inl ⟨by omega, by omega⟩))
          refine ⟨_, g1, ?_⟩
          repeat' walk_at "v"
          have b1 := bd_P h (m := i) (o := j + 1) (by omega) (by omega)
          have b2 := bd_P h (m := i + 1) (o := j) (by omega) (by omega)
          refine ok_of (times_ok h.bd b1 (by omega)) ?_
          repeat' walk_at "v"
          refine ok_of (flip_ok h) ?_
          repeat' walk_at "v"
          have g2 : pIx [dC p (vis o (i + 1) (j + 1)), .tup [.int ((i + 1 : Nat) : Int), .int (((j + 1 : Nat) : Int) - 1)]] = some (tq (P p (i + 1) j)) := by
            rw [show ((j + 1 : Nat) : Int) - 1 = (j : Int) by omega]
            exact dC_get (vis_mem.mpr (.inr ⟨rfl, by omega⟩))
          refine ⟨_, g2, ?_⟩
          repeat' walk_at "v"
          refine ok_of (times_ok h.flip.bd b2 (by omega)) ?_
          repeat' walk_at "v"
          refine ok_of (plus_ok (bd_mul h.bd b1) (bd_mul h.flip.bd b2) (by omega)) ?_
          repeat' walk_at "v"
          refine ⟨_, _, _, rfl, rfl, put, ?_⟩
          exact .mk _ rfl rfl
    · rintro z L rfl
      exact .mk _ rfl vis_row
  · rintro z L rfl
    walk_at "e"
    repeat' walk_at "v"
    refine ⟨_, dC_get (vis_mem.mpr (.inl ⟨by omega, by omega⟩)), rfl⟩
theorem fair_ok {p goal : Rat} {n : Nat} (h : OddsR p) (hg : OddsR goal) (hn : n ≤ 5) : Ok (d_fair_series [tq p, .tup [.int (n : Int), tq goal]]) fun t _ => t = (match ((List.range n).map (· + 1)).find? fun w => decide (goal ≤ P p w w) with
    | some w => .int (w : Int)
    | none => .non) := by
  walk_at "d"
  unfold b_fair_series
  repeat' walk_at "v"
  rw [show (n : Int) + 1 = ((n + 1 : Nat) : Int) by omega]
  refine ⟨_, rng_1 (by omega), ?_⟩
  refine s_loopER [2, 3] (fun e (_ : Unit) => e) (fun i _ => ∀ w, 0 < w → w ≤ i → ¬ goal ≤ P p w w) () rfl (fun w h1 h2 => by omega) ?_ ?_
  · rintro i z _ hi hno
    walk_at "e"
    rw [show (1 : Int) + (i : Int) = ((i + 1 : Nat) : Int) by omega]
    repeat' walk_at "v"
    refine (win_ok h (by omega) (by omega)).mono ?_
    rintro _ _ ⟨rfl, rfl⟩
    repeat' walk_at "v"
    have b := bd_P h (m := i + 1) (o := i + 1) (by omega) (by omega)
    refine ⟨_, mul_ok (mulOk_of b.1 (j := (goal.den : Int)) hg.bd.2 (by omega)), ?_⟩
    repeat' walk_at "v"
    refine ⟨_, mul_ok (mulOk_of hg.bd.1 (j := ((P p (i + 1) (i + 1)).den : Int)) b.2 (by omega)), ?_⟩
    repeat' walk_at "v"
    refine ⟨fun hc => ?_, fun hc => ?_⟩
    · have hc : goal ≤ P p (i + 1) (i + 1) := (Rat.le_iff _ _).mpr (of_decide_eq_true hc)
      repeat' walk_at "v"
      have : ((List.range n).map (· + 1)).find? (fun w => decide (goal ≤ P p w w)) = some (i + 1) := by
        rw [List.find?_eq_some_iff_getElem]
        refine ⟨by simpa using hc, i, by simpa using hi, by simp, fun j hj => ?_⟩
        have := hno (j + 1) (by omega) (by omega)
        simpa using this
      rw [this]
    · have hc : ¬ goal ≤ P p (i + 1) (i + 1) := fun z => of_decide_eq_false hc ((Rat.le_iff _ _).mp z)
      repeat' walk_at "v"
      refine .mk () rfl fun w h1 h2 => ?_
      by_cases z : w = i + 1
      · subst z; exact hc
      · exact hno w h1 (by omega)
  · rintro z _ hno
    walk_at "e"
    repeat' walk_at "v"
    have : ((List.range n).map (· + 1)).find? (fun w => decide (goal ≤ P p w w)) = none := by
      rw [List.find?_eq_none]
      intro w hw
      simp only [List.mem_map, List.mem_range] at hw
      obtain ⟨a, ha, rfl⟩ := hw
      have := hno (a + 1) (by omega) (by omega)
      simpa using this
    rw [this]
end G

namespace VL
open PySem L2
theorem strOk_w {x : List Bool} : PyData.strOk (wS x) = true := by
  unfold PyData.strOk wS tx
  rw [← Array.all_toList, List.all_eq_true]
  intro c hc
  simp only [List.mem_map] at hc
  obtain ⟨b, _, rfl⟩ := hc
  cases b <;> decide
theorem eq_w {a b : List Bool} : pEq [wT a, wT b] = some (.bl (a == b)) := by
  show (if okT (wT a) 60 && okT (wT b) 60 then some (T.bl (eqT (wT a) (wT b))) else none) = _
  have h1 : okT (wT a) 60 = true := strOk_w
  have h2 : okT (wT b) 60 = true := strOk_w
  rw [h1, h2]
  have : eqT (wT a) (wT b) = (a == b) := by
    show (wS a == wS b) = _
    rw [Bool.eq_iff_iff, beq_iff_eq, beq_iff_eq, wS_inj]
  rw [this]
  rfl
theorem eqC {b : Bool} : pEq [.str ⟨#[chS b]⟩, .str "W"] = some (.bl b) := by
  have := eq_w (a := [b]) (b := [true])
  rw [show ([b] == [true]) = b by cases b <;> rfl] at this
  exact this
theorem len_w {x : List Bool} : (wS x).length = x.length := by unfold wS; rw [tx_len, List.length_map]
theorem pLen_w {x : List Bool} (h : x.length ≤ 1000) : pLen [wT x] = some (.int (x.length : Int)) := by
  have hz : (1000 : Nat) ≤ sizeLine := by decide
  show (if (wS x).length ≤ sizeLine then some (T.int ((wS x).length : Int)) else none) = _
  rw [len_w, if_pos (by omega)]
theorem last_w {x : List Bool} {b : Bool} (h : x.length ≤ 1000) : pIx [wT (x ++ [b]), .int (-1)] = some (.str ⟨#[chS b]⟩) := by
  have hz : (2000 : Nat) ≤ sizeLine := by decide
  show (if (wS (x ++ [b])).length ≤ sizeLine then (atI (wS (x ++ [b])).cps.toList (-1)).map fun c => T.str ⟨#[c]⟩ else none) = _
  rw [len_w, if_pos (by simp; omega)]
  unfold wS
  rw [tx_list]
  unfold atI ixN
  simp only [List.length_append, List.length_map, List.length_singleton]
  rw [if_neg (by omega), if_pos (by omega)]
  have : ((-1 : Int) + ((x.length : Int) + 1)).toNat = x.length := by omega
  simp [this]
theorem to_w {x : List Bool} {n : Nat} (h : x.length ≤ 1000) : pSl false true [wT x, .int (n : Int)] = some (wT (x.take n)) := by
  have hz : (2000 : Nat) ≤ sizeLine := by decide
  show (if (wS x).length ≤ sizeLine then some (T.str (cutS (wS x) none (some (n : Int)))) else none) = _
  rw [len_w, if_pos (by omega)]
  unfold wT wS
  rw [tx_to, List.map_take]
theorem from_w {x : List Bool} {n : Nat} (h : x.length ≤ 1000) : pSl true false [wT x, .int (n : Int)] = some (wT (x.drop n)) := by
  have hz : (2000 : Nat) ≤ sizeLine := by decide
  show (if (wS x).length ≤ sizeLine then some (T.str (cutS (wS x) (some (n : Int)) none)) else none) = _
  rw [len_w, if_pos (by omega)]
  unfold wT wS
  rw [tx_from, List.map_drop]
theorem add_w {a b : List Bool} (h : a.length + b.length ≤ 1000) : pAdd [wT a, wT b] = some (wT (a ++ b)) := by
  have hz : (2000 : Nat) ≤ sizeLine := by decide
  show (if (wS a).length + (wS b).length ≤ sizeLine then some (T.str (wS a ++ wS b)) else none) = _
  rw [len_w, len_w, if_pos (by omega)]
  unfold wT wS
  rw [tx_app, List.map_append]
theorem mulW : ∀ k : Nat, k < 5 → Txt.mul "W" (k : Int) = wS (List.replicate k true) ∧ Txt.mul "L" (k : Int) = wS (List.replicate k false) := by decide +kernel
theorem mul_W {k : Nat} (h : k < 5) : pMul [.str "W", .int (k : Int)] = some (wT (List.replicate k true)) := by
  show (if 0 ≤ (k : Int) ∧ (k : Int) < 1000 ∧ ("W" : Str).length < 1000 then some (T.str (Txt.mul "W" (k : Int))) else none) = _
  rw [if_pos ⟨by omega, by omega, by decide +kernel⟩, (mulW k h).1]
  rfl
theorem mul_L {k : Nat} (h : k < 5) : pMul [.str "L", .int (k : Int)] = some (wT (List.replicate k false)) := by
  show (if 0 ≤ (k : Int) ∧ (k : Int) < 1000 ∧ ("L" : Str).length < 1000 then some (T.str (Txt.mul "L" (k : Int))) else none) = _
  rw [if_pos ⟨by omega, by omega, by decide +kernel⟩, (mulW k h).2]
  rfl
theorem items_w {x : List Bool} : ((wS x).cps.toList.map fun c => T.str ⟨#[c]⟩) = x.map fun b => T.str ⟨#[chS b]⟩ := by
  unfold wS
  rw [tx_list, List.map_map]
  rfl
/-! sums over words -/
theorem fcN : ∀ n, n < 5 → ((W (n + 1)).filter wonB).length ≤ 130 := by decide +kernel
theorem fc1 : ∀ n, n < 5 → (W (n + 1)).length ≤ 300 ∧ (W (n + 1)).all (fun x => x != [] && decide (x.length ≤ 9)) = true := by decide +kernel
theorem W_len {n : Nat} (h : n < 5) : (W (n + 1)).length ≤ 300 := (fc1 n h).1
theorem W_mem {n : Nat} (h : n < 5) {x : List Bool} (hx : x ∈ W (n + 1)) : x ≠ [] ∧ x.length ≤ 9 := by
  have := List.all_eq_true.mp (fc1 n h).2 x hx
  simpa using this
def stW (n m o : Nat) : List Bool := List.replicate (n - m) true ++ List.replicate (n - o) false
def preW (n m o : Nat) (x : List Bool) : Bool := (x.take (stW n m o).length == stW n m o) && wonB x
def restW (n m o : Nat) : List (List Bool) := ((W n).filter (preW n m o)).map fun x => x.drop (stW n m o).length
def okW2 (n m o : Nat) : Bool := ((restW n m o).all fun x => nt x == m && decide (nf x < o)) && (List.range o).all fun l => ((restW n m o).countP fun x => nf x == l) == cho (m - 1 + l) l
theorem fcE : ∀ n, n < 5 → ∀ m, m < n + 1 → ∀ o, o < n + 1 → okW2 (n + 1) (m + 1) (o + 1) = true := by decide +kernel
theorem sum_from {p : Rat} {n m o : Nat} (hn : n < 5) (hm : m < n + 1) (ho : o < n + 1) : sumR ((restW (n + 1) (m + 1) (o + 1)).map (chW p)) = P p (m + 1) (o + 1) := by
  have h := fcE n hn m hm o ho
  unfold okW2 at h
  simp only [Bool.and_eq_true, List.all_eq_true, beq_iff_eq, decide_eq_true_eq, List.mem_range] at h
  rw [sum_by (m := m + 1) (o := o + 1) h.1, P_eq]
  exact sumL_congr fun l hl => (h.2 l hl)
theorem rest_len {n m o : Nat} (hn : n < 5) : (restW (n + 1) m o).length ≤ 130 := by
  unfold restW
  rw [List.length_map]
  refine Nat.le_trans ?_ (fcN n hn)
  have : (W (n + 1)).filter (preW (n + 1) m o) = ((W (n + 1)).filter wonB).filter (fun x => x.take (stW (n + 1) m o).length == stW (n + 1) m o) := by
    rw [List.filter_filter]
    rfl
  rw [this]
  exact List.length_filter_le _ _
theorem sum_won {p : Rat} {n : Nat} (hn : n < 5) : sumR (((W (n + 1)).filter wonB).map (chW p)) = P p (n + 1) (n + 1) := by
  rw [← sum_from hn (Nat.lt_succ_self n) (Nat.lt_succ_self n)]
  congr 2
  have e : stW (n + 1) (n + 1) (n + 1) = [] := by simp [stW]
  unfold restW preW
  rw [e]
  simp
theorem W_won {n : Nat} (h : n < 5) : ((W (n + 1)).filter wonB).length ≤ 130 := fcN n h
def sizeW (n s : Nat) : List (List Bool) := (W n).filter fun x => x.length == s
def okC (n l : Nat) : Bool := ((sizeW n (n + l)).all fun x => (nt x == n && nf x == l) || (nf x == n && nt x == l)) && (((sizeW n (n + l)).countP fun x => nt x == n) == cho (n - 1 + l) l && ((sizeW n (n + l)).countP fun x => !(nt x == n)) == cho (n - 1 + l) l)
theorem fcC : ∀ n, n < 5 → ∀ l, l < n + 1 → okC (n + 1) l = true := by decide +kernel
theorem fcS : ∀ n, n < 5 → ∀ l, l < n + 1 → (sizeW (n + 1) (n + 1 + l)).length ≤ 150 := by decide +kernel
theorem sum_two {p : Rat} {w l : Nat} (hl : l < w) : ∀ {L : List (List Bool)}, (∀ x ∈ L, (nt x = w ∧ nf x = l) ∨ (nf x = w ∧ nt x = l)) → sumR (L.map (chW p)) = ((L.countP fun x => nt x == w : Nat) : Rat) * (pw p w * pw (1 - p) l) + ((L.countP fun x => !(nt x == w) : Nat) : Rat) * (pw (1 - p) w * pw p l)
  | [], _ => by simp [sumR]; grind
  | x :: L, h => by
    rw [List.map_cons, sumR_cons, sum_two hl (fun y hy => h y (List.mem_cons_of_mem _ hy)), List.countP_cons, List.countP_cons, chW_eq]
    rcases h x (by simp) with ⟨h1, h2⟩ | ⟨h1, h2⟩
    · have e1 : ((L.countP (fun x => nt x == w) + (if (nt x == w) = true then 1 else 0) : Nat) : Rat) = ((L.countP fun x => nt x == w : Nat) : Rat) + 1 := by simp [h1]
      have e2 : (if (!(nt x == w)) = true then 1 else 0) = 0 := by simp [h1]
      rw [e1, e2, h1, h2, Nat.add_zero]
      grind
    · have n1 : ¬ nt x = w := by omega
      have e1 : (if (nt x == w) = true then 1 else 0) = 0 := by simp [n1]
      have e2 : ((L.countP (fun x => !(nt x == w)) + (if (!(nt x == w)) = true then 1 else 0) : Nat) : Rat) = ((L.countP fun x => !(nt x == w) : Nat) : Rat) + 1 := by simp [n1]
      rw [e1, e2, h1, h2, Nat.add_zero]
      grind
theorem sum_size {p : Rat} {n l : Nat} (hn : n < 5) (hl : l < n + 1) : sumR ((sizeW (n + 1) (n + 1 + l)).map (chW p)) = lenC p (n + 1) l := by
  have h := fcC n hn l hl
  unfold okC at h
  simp only [Bool.and_eq_true, List.all_eq_true, Bool.or_eq_true, beq_iff_eq] at h
  obtain ⟨h1, h2, h3⟩ := h
  rw [sum_two hl h1, h2, h3]
  unfold lenC
  grind
theorem bd_chW {p : Rat} (h : OddsR p) {x : List Bool} (hx : x.length ≤ 9) : Bd 37 (chW p x) := by
  suffices g : ∀ (r : List Bool), Bd (4 * r.length + 1) (chW p r.reverse) by
    have := g x.reverse
    rw [List.reverse_reverse, List.length_reverse] at this
    exact this.mono (by omega)
  intro r
  induction r with
  | nil => exact bd_one
  | cons b r ih =>
    rw [List.reverse_cons, chW_snoc, List.length_cons]
    cases b
    · exact (bd_mul ih h.flip.bd).mono (by omega)
    · exact (bd_mul ih h.bd).mono (by omega)
theorem rng_ab {a b : Nat} (ha : a ≤ 900) (hb : b ≤ 900) : rngOf [.int (a : Int), .int (b : Int)] = some (rngT (a : Int) (b - a)) := by
  show (if okR (a : Int) && okR (b : Int) then _ else _) = _
  rw [okR_n (n := a) (by omega), okR_n (n := b) (by omega)]
  simp only [Bool.and_self, if_true]
  congr 2
  omega
theorem sm_eT {n : Nat} {x : Nat × Rat} : Sm (n + 3) (eT x) (eT x) := sm_tup (by simp) (by intro t ht; simp at ht; rcases ht with rfl | rfl; exact sm_int; exact G.sm_tq)
theorem sm_qq {n : Nat} {x y : Rat} : Sm (n + 3) (.tup [tq x, tq y]) (.tup [tq x, tq y]) := sm_tup (by simp) (by intro t ht; simp at ht; rcases ht with rfl | rfl <;> exact G.sm_tq)
theorem tq_half : T.tup [.int 1, .int 2] = tq (1 / 2) := tq_of (by decide +kernel) (by decide +kernel)
theorem tq_23 : T.tup [.int 2, .int 3] = tq (2 / 3) := tq_of (by decide +kernel) (by decide +kernel)
theorem tq_e1 : T.tup [.int 20, .int 27] = tq (20 / 27) := tq_of (by decide +kernel) (by decide +kernel)
theorem tq_e2 : T.tup [.int 3, .int 4] = tq (3 / 4) := tq_of (by decide +kernel) (by decide +kernel)
theorem tq_e3 : T.tup [.int 93, .int 16] = tq (93 / 16) := tq_of (by decide +kernel) (by decide +kernel)
theorem v1 : P (2 / 3) 2 2 = 20 / 27 := by rw [P_eq]; decide +kernel
theorem v2 : P (1 / 2) 1 2 = 3 / 4 := by rw [P_eq]; decide +kernel
theorem find_succ {n : Nat} {g : Nat → Bool} : ((List.range n).map (· + 1)).find? g = (((List.range n).filter fun i => g (i + 1)).head?).map (· + 1) := by
  rw [List.find?_map, List.head?_filter]
  rfl
end VL
namespace G
open PySem L2 VL
theorem v3 : meanR (1 / 2) 4 4 = 93 / 16 := by decide +kernel
theorem law_odds_ok {row : List Int} {i : Int} (hb : BoxR row i) : Ok (d__law_odds [bx row i]) fun t ps => ∃ p j, t = tq p ∧ ps = [some (bx row j)] ∧ BoxR row j ∧ OddsR p := by
  walk_at "d"
  unfold b__law_odds
  repeat' walk_at "v"
  refine (next_ok hb (by decide)).mono ?_
  rintro _ _ ⟨r, rfl, rfl, ra, rb⟩
  repeat' walk_at "v"
  refine (next_ok hb.next (by omega)).mono ?_
  rintro _ _ ⟨u, rfl, rfl, ua, ub⟩
  repeat' walk_at "v"
  refine ok_of (least_ok (l := 5) (m := 5) (by omega) (by omega) (by omega) (by omega) (by omega)) ?_
  exact ⟨_, _, rfl, rfl, hb.next.next, odds_of ua (by omega) (by omega) (by omega)⟩
theorem law_chance_ok {p : Rat} {x : List Bool} (h : OddsR p) (hx : x.length ≤ 9) : Ok (d__law_chance [tq p, wT x]) fun t ps => t = tq (chW p x) ∧ ps = [some (tq p), some (wT x)] := by
  walk_at "d"
  unfold b__law_chance
  repeat' walk_at "v"
  walk_at "e"
  rw [items_w]
  refine s_loopEM [3] (fun e (f : Rat) => e.set 2 (some (tq f))) (fun i f => f = chW p (x.take i) ∧ Bd 37 f) 1 rfl ⟨rfl, bd_one.mono (by omega)⟩ ?_ ?_
  · rintro i b z f hb ⟨rfl, hB⟩
    have hi := (List.getElem?_eq_some_iff.mp hb).1
    have e : chW p (x.take (i + 1)) = chW p (x.take i) * (if b = true then p else 1 - p) := by rw [take_next hb, chW_snoc]
    have hB2 := bd_chW h (x := x.take (i + 1)) (by rw [List.length_take]; omega)
    rw [e] at hB2
    walk_at "e"
    repeat' walk_at "v"
    refine ⟨_, eqC, ?_⟩
    repeat' walk_at "v"
    refine ⟨fun hc => ?_, fun hc => ?_⟩
    · rw [hc] at e hB2
      repeat' walk_at "v"
      refine ok_of (ltimes_ok hB h.bd (by omega)) ?_
      repeat' walk_at "v"
      exact .mk _ rfl ⟨e.symm, hB2⟩
    · rw [hc] at e hB2
      repeat' walk_at "v"
      show Ok (d__law_minus [tq 1, tq p]) _
      refine ok_of (lminus_ok bd_one h.bd (by omega)) ?_
      repeat' walk_at "v"
      refine ok_of (ltimes_ok hB h.flip.bd (by omega)) ?_
      repeat' walk_at "v"
      exact .mk _ rfl ⟨e.symm, hB2⟩
  · rintro z f ⟨rfl, hB⟩
    walk_at "e"
    repeat' walk_at "v"
    exact ⟨by rw [List.take_length], rfl⟩
theorem law_sum_ok {qs : List Rat} {o : Bool} {b : Nat} (hq : ∀ q ∈ qs, Bd b q) (hl : (b + 1) * qs.length + 1 + b ≤ 8000) : Ok (d__law_sum [.lst o (qs.map tq)]) fun t ps => t = tq (sumR qs) ∧ ps = [some (.lst false (qs.map tq))] := by
  cases o
  all_goals
    walk_at "d"
    unfold b__law_sum
    repeat' walk_at "v"
    walk_at "e"
    refine s_loopEM [2] (fun e (f : Rat) => e.set 1 (some (tq f))) (fun i f => f = sumR (qs.take i) ∧ Bd ((b + 1) * i + 1) f) 0 rfl ⟨rfl, bd_zero⟩ ?_ ?_
    · rintro i x z f hx ⟨rfl, hB⟩
      have bx := hq x (List.mem_of_getElem? hx)
      have hi := (List.getElem?_eq_some_iff.mp hx).1
      have hm : (b + 1) * i ≤ (b + 1) * qs.length := Nat.mul_le_mul_left _ (by omega)
      walk_at "e"
      repeat' walk_at "v"
      refine ok_of (lplus_ok hB bx (by omega)) ?_
      repeat' walk_at "v"
      have e : sumR (qs.take (i + 1)) = sumR (qs.take i) + x := by
        rw [take_next hx]
        simp [sumR]
      refine .mk _ rfl ⟨e.symm, (bd_add hB bx).mono ?_⟩
      rw [Nat.mul_add, Nat.mul_one]
      omega
    · rintro z f ⟨rfl, hB⟩
      walk_at "e"
      repeat' walk_at "v"
      exact ⟨by rw [List.take_length], rfl⟩
end G

namespace G
open PySem L2 VL
set_option maxHeartbeats 0 in
theorem law_ok {ns : List Int} (hn : ns.length ≤ 63) : Ok (d_law [.scr ns]) fun t _ => t = .bl true := by
  walk_at "d"
  unfold b_law
  repeat' walk_at "v"
  refine (box_ok hn).mono ?_
  rintro _ ps ⟨row, rfl, hrow⟩
  rw [wb_no rfl]
  repeat' walk_at "v"
  walk_at "e"
  refine (law_odds_ok hrow).mono ?_
  rintro _ _ ⟨p0, j, rfl, rfl, hb, hp0⟩
  repeat' walk_at "v"
  refine (law_odds_ok hb).mono ?_
  rintro _ _ ⟨p4, j, rfl, rfl, hb, hp4⟩
  repeat' walk_at "v"
  walk_at "e"
  show SOk (mLoop _ _ [tq p0, .tup [.int 1, .int 2], tq 0, tq 1, tq p4] _) _ _ _ _
  rw [tq_half]
  show SOk (mLoop _ _ (([p0, 1 / 2, 0, 1, p4] : List Rat).map tq) _) _ _ _ _
  have hps : ∀ p ∈ ([p0, 1 / 2, 0, 1, p4] : List Rat), OddsR p := by
    intro p hp
    simp only [List.mem_cons, List.not_mem_nil, or_false] at hp
    rcases hp with rfl | rfl | rfl | rfl | rfl
    · exact hp0
    · exact ⟨by decide +kernel, by decide +kernel, by decide +kernel, by decide +kernel⟩
    · exact ⟨by decide +kernel, by decide +kernel, by decide +kernel, by decide +kernel⟩
    · exact ⟨by decide +kernel, by decide +kernel, by decide +kernel, by decide +kernel⟩
    · exact hp4
  refine s_loopEM [2, 3, 4, 5, 6, 7, 8, 9, 10, 11, 12, 13, 14, 15] (fun e (a : Int) => e.set 1 (some (bx row a))) (fun _ a => BoxR row a) j rfl hb ?_ ?_
  · rintro i p z a hpi hb
    have hp := hps p (List.mem_of_getElem? hpi)
    walk_at "e"
    repeat' walk_at "v"
    refine (next_ok hb (by decide)).mono ?_
    rintro _ _ ⟨r, rfl, rfl, ra, rb⟩
    obtain ⟨n, rfl⟩ := Int.eq_ofNat_of_zero_le ra
    have hn5 : n < 5 := by omega
    have hb := hb.next
    repeat' walk_at "v"
    walk_at "e"
    rw [show (1 : Int) + (n : Int) = ((n + 1 : Nat) : Int) by omega]
    refine (words_ok hn5).mono ?_
    rintro _ ps rfl
    rw [wb_no rfl]
    repeat' walk_at "v"
    walk_at "e"
    have wl := W_len hn5
    have wm : ∀ x ∈ W (n + 1), ∃ y b, x = y ++ [b] ∧ y.length ≤ 1000 ∧ wonB x = b ∧ x.length ≤ 9 := fun x hx => by
      obtain ⟨h1, h2⟩ := W_mem hn5 hx
      refine ⟨x.dropLast, x.getLast h1, (List.dropLast_concat_getLast h1).symm, by rw [List.length_dropLast]; omega, ?_, h2⟩
      unfold wonB
      rw [List.getLast?_eq_some_getLast h1]
      cases x.getLast h1 <;> rfl
    refine w_compF (fun x => tq (chW p x)) wonB ?_
    repeat' walk_at "v"
    refine ⟨W (n + 1), wT, rfl, by omega, fun x hx => ?_, ?_⟩
    · obtain ⟨y, b, rfl, hy, hbw, hx9⟩ := wm x hx
      walk_at "e"
      repeat' walk_at "v"
      refine ⟨_, last_w hy, ?_⟩
      repeat' walk_at "v"
      refine ⟨_, eqC, ?_⟩
      repeat' walk_at "v"
      refine .mk hbw.symm (fun _ => ?_) rfl
      repeat' walk_at "v"
      refine (law_chance_ok hp hx9).mono ?_
      rintro _ _ ⟨rfl, rfl⟩
      exact .mk rfl rfl
    walk_at "e"
    repeat' walk_at "v"
    walk_at "e"
    rw [show (((W (n + 1)).filter wonB).map fun x => tq (chW p x)) = (((W (n + 1)).filter wonB).map (chW p)).map tq by rw [List.map_map]; rfl]
    have bw : ∀ q ∈ ((W (n + 1)).filter wonB).map (chW p), Bd 37 q := fun q hq => by
      obtain ⟨x, hx, rfl⟩ := List.mem_map.mp hq
      exact bd_chW hp (W_mem hn5 (List.mem_filter.mp hx).1).2
    have lw := W_won hn5
    refine (law_sum_ok bw (by rw [List.length_map]; omega)).mono ?_
    rintro _ _ ⟨rfl, rfl⟩
    rw [sum_won hn5]
    repeat' walk_at "v"
    walk_at "e"
    refine (win_ok hp (by omega) (by omega)).mono ?_
    rintro _ _ ⟨rfl, rfl⟩
    repeat' walk_at "v"
    refine ok_of (is_ok sm_tq) ?_
    repeat' walk_at "v"
    walk_at "e"
    refine (both_ok hp (by omega) (by omega)).mono ?_
    rintro _ ps rfl
    rw [wb_no rfl]
    repeat' walk_at "v"
    have bP := bd_P hp (m := n + 1) (o := n + 1) (by omega) (by omega)
    show Ok (d__law_minus [tq 1, tq (P p (n + 1) (n + 1))]) _
    refine ok_of (lminus_ok bd_one bP (by omega)) ?_
    repeat' walk_at "v"
    walk_at "e"
    refine ok_of (is_ok sm_qq) ?_
    repeat' walk_at "v"
    walk_at "e"
    refine w_compM (fun l => eT (n + 1 + l, lenC p (n + 1) l)) ?_
    repeat' walk_at "v"
    rw [show (2 : Int) * ((n + 1 : Nat) : Int) = ((2 * (n + 1) : Nat) : Int) by omega]
    refine ⟨_, rng_ab (by omega) (by omega), ?_⟩
    rw [show 2 * (n + 1) - (n + 1) = n + 1 by omega]
    refine ⟨List.range (n + 1), fun i => .int (((n + 1 : Nat) : Int) + (i : Int)), rfl, by rw [List.length_range]; omega, fun l hl => ?_, ?_⟩
    · have hl := List.mem_range.mp hl
      walk_at "e"
      rw [show ((n + 1 : Nat) : Int) + (l : Int) = ((n + 1 + l : Nat) : Int) by omega]
      repeat' walk_at "v"
      walk_at "e"
      refine w_compF (fun x => tq (chW p x)) (fun x => x.length == n + 1 + l) ?_
      repeat' walk_at "v"
      refine ⟨W (n + 1), wT, rfl, by omega, fun x hx => ?_, ?_⟩
      · obtain ⟨y, b, rfl, hy, hbw, hx9⟩ := wm x hx
        walk_at "e"
        repeat' walk_at "v"
        refine ⟨_, pLen_w (by omega), ?_⟩
        repeat' walk_at "v"
        refine .mk ?_ (fun _ => ?_) rfl
        · rw [w_boolEq, Bool.eq_iff_iff]
          simp only [decide_eq_true_eq, beq_iff_eq]
          omega
        · repeat' walk_at "v"
          refine (law_chance_ok hp hx9).mono ?_
          rintro _ _ ⟨rfl, rfl⟩
          exact .mk rfl rfl
      walk_at "e"
      repeat' walk_at "v"
      walk_at "e"
      have e0 : ((W (n + 1)).filter fun x => x.length == n + 1 + l) = sizeW (n + 1) (n + 1 + l) := rfl
      rw [e0, show ((sizeW (n + 1) (n + 1 + l)).map fun x => tq (chW p x)) = ((sizeW (n + 1) (n + 1 + l)).map (chW p)).map tq by rw [List.map_map]; rfl]
      have bs : ∀ q ∈ (sizeW (n + 1) (n + 1 + l)).map (chW p), Bd 37 q := fun q hq => by
        obtain ⟨x, hx, rfl⟩ := List.mem_map.mp hq
        exact bd_chW hp (W_mem hn5 (List.mem_filter.mp hx).1).2
      have ls := fcS n hn5 l hl
      refine (law_sum_ok bs (by rw [List.length_map]; omega)).mono ?_
      rintro _ _ ⟨rfl, rfl⟩
      rw [sum_size hn5 hl]
      repeat' walk_at "v"
      exact .mk rfl rfl
    walk_at "e"
    repeat' walk_at "v"
    walk_at "e"
    refine w_compM (fun l => eT (n + 1 + l, lenC p (n + 1) l)) ?_
    repeat' walk_at "v"
    refine (lengths_ok hp (by omega) (by omega)).mono ?_
    rintro _ _ ⟨rfl, rfl⟩
    repeat' walk_at "v"
    refine ⟨List.range (n + 1), fun l => eT (n + 1 + l, lenC p (n + 1) l), rfl, by rw [List.length_range]; omega, fun l hl => ?_, ?_⟩
    · walk_at "e"
      repeat' walk_at "v"
      exact .mk rfl rfl
    walk_at "e"
    repeat' walk_at "v"
    walk_at "e"
    refine ok_of (is_ok (sm_list (by rw [List.length_map, List.length_range]; omega) fun t ht => ?_)) ?_
    · obtain ⟨l, _, rfl⟩ := List.mem_map.mp ht
      exact sm_eT
    repeat' walk_at "v"
    walk_at "e"
    refine (mean_ok hp (by omega) (by omega)).mono ?_
    rintro _ ps rfl
    rw [wb_no rfl]
    repeat' walk_at "v"
    walk_at "e"
    refine w_compM (fun l => tq (((n + 1 + l : Nat) : Rat) * lenC p (n + 1) l)) ?_
    repeat' walk_at "v"
    refine ⟨List.range (n + 1), fun l => eT (n + 1 + l, lenC p (n + 1) l), rfl, by rw [List.length_range]; omega, fun l hl => ?_, ?_⟩
    · have hl := List.mem_range.mp hl
      walk_at "e"
      unfold eT
      repeat' walk_at "v"
      show Ok (d__law_times [tq ((n + 1 + l : Nat) : Rat), tq (lenC p (n + 1) l)]) _
      refine ok_of (ltimes_ok (bd_nat (k := 4) (by omega) (by omega)) (bd_lenC hp (by omega) (by omega) (by omega)) (by omega)) ?_
      exact .mk rfl rfl
    walk_at "e"
    repeat' walk_at "v"
    walk_at "e"
    rw [show ((List.range (n + 1)).map fun l => tq (((n + 1 + l : Nat) : Rat) * lenC p (n + 1) l)) = ((List.range (n + 1)).map fun l => ((n + 1 + l : Nat) : Rat) * lenC p (n + 1) l).map tq by rw [List.map_map]; rfl]
    have bm : ∀ q ∈ (List.range (n + 1)).map (fun l => ((n + 1 + l : Nat) : Rat) * lenC p (n + 1) l), Bd 100 q := fun q hq => by
      obtain ⟨l, hl, rfl⟩ := List.mem_map.mp hq
      exact bd_meanT hp (by omega) (by omega) (List.mem_range.mp hl)
    refine (law_sum_ok bm (by rw [List.length_map, List.length_range]; omega)).mono ?_
    rintro _ _ ⟨rfl, rfl⟩
    repeat' walk_at "v"
    walk_at "e"
    refine ok_of (is_ok (sm_eq rfl)) ?_
    repeat' walk_at "v"
    walk_at "e"
    rw [show ((n + 1 : Nat) : Int) + 1 = ((n + 1 + 1 : Nat) : Int) by omega]
    refine ⟨_, rng_1 (by omega), ?_⟩
    refine s_loopER [7, 8, 9, 10] (fun e (_ : Unit) => e) (fun _ _ => True) () rfl trivial ?_ ?_
    · rintro m z _ hm -
      walk_at "e"
      rw [show (1 : Int) + (m : Int) = ((m + 1 : Nat) : Int) by omega]
      repeat' walk_at "v"
      walk_at "e"
      rw [show ((n + 1 : Nat) : Int) + 1 = ((n + 1 + 1 : Nat) : Int) by omega]
      refine ⟨_, rng_1 (by omega), ?_⟩
      refine s_loopER [8, 9, 10] (fun e (_ : Unit) => e) (fun _ _ => True) () rfl trivial ?_ ?_
      · rintro o z _ ho -
        walk_at "e"
        rw [show (1 : Int) + (o : Int) = ((o + 1 : Nat) : Int) by omega]
        repeat' walk_at "v"
        rw [show ((n + 1 : Nat) : Int) - ((m + 1 : Nat) : Int) = ((n + 1 - (m + 1) : Nat) : Int) by omega]
        refine ⟨_, mul_W (by omega), ?_⟩
        repeat' walk_at "v"
        rw [show ((n + 1 : Nat) : Int) - ((o + 1 : Nat) : Int) = ((n + 1 - (o + 1) : Nat) : Int) by omega]
        refine ⟨_, mul_L (by omega), ?_⟩
        repeat' walk_at "v"
        refine ⟨_, add_w (by simp; omega), ?_⟩
        have e0 : List.replicate (n + 1 - (m + 1)) true ++ List.replicate (n + 1 - (o + 1)) false = stW (n + 1) (m + 1) (o + 1) := rfl
        rw [e0]
        have hst : (stW (n + 1) (m + 1) (o + 1)).length ≤ 10 := by simp [stW]; omega
        repeat' walk_at "v"
        walk_at "e"
        refine w_compF (fun x => tq (chW p (x.drop (stW (n + 1) (m + 1) (o + 1)).length))) (preW (n + 1) (m + 1) (o + 1)) ?_
        repeat' walk_at "v"
        refine ⟨W (n + 1), wT, rfl, by omega, fun x hx => ?_, ?_⟩
        · obtain ⟨y, b, rfl, hy, hbw, hx9⟩ := wm x hx
          walk_at "e"
          repeat' walk_at "v"
          refine ⟨_, pLen_w (by omega), ?_⟩
          repeat' walk_at "v"
          refine ⟨_, to_w (by omega), ?_⟩
          repeat' walk_at "v"
          refine ⟨_, eq_w, ?_⟩
          repeat' walk_at "v"
          refine ⟨fun hc => ?_, fun hc => ?_⟩
          · repeat' walk_at "v"
            refine ⟨_, last_w hy, ?_⟩
            repeat' walk_at "v"
            refine ⟨_, eqC, ?_⟩
            repeat' walk_at "v"
            refine .mk (by unfold preW; rw [hc, hbw]; rfl) (fun _ => ?_) rfl
            repeat' walk_at "v"
            refine ⟨_, pLen_w (by omega), ?_⟩
            repeat' walk_at "v"
            refine ⟨_, from_w (by omega), ?_⟩
            repeat' walk_at "v"
            refine (law_chance_ok hp (by rw [List.length_drop]; omega)).mono ?_
            rintro _ _ ⟨rfl, rfl⟩
            exact .mk rfl rfl
          · refine .mk (by unfold preW; rw [hc]; rfl) (fun hp => ?_) rfl
            unfold preW at hp
            rw [hc] at hp
            cases hp
        walk_at "e"
        repeat' walk_at "v"
        walk_at "e"
        rw [show (((W (n + 1)).filter (preW (n + 1) (m + 1) (o + 1))).map fun x => tq (chW p (x.drop (stW (n + 1) (m + 1) (o + 1)).length))) = ((restW (n + 1) (m + 1) (o + 1)).map (chW p)).map tq by unfold restW; rw [List.map_map, List.map_map]; rfl]
        have br : ∀ q ∈ (restW (n + 1) (m + 1) (o + 1)).map (chW p), Bd 37 q := fun q hq => by
          obtain ⟨y, hy, rfl⟩ := List.mem_map.mp hq
          obtain ⟨x, hx, rfl⟩ := List.mem_map.mp hy
          have := (W_mem hn5 (List.mem_filter.mp hx).1).2
          exact bd_chW hp (by rw [List.length_drop]; omega)
        have lr := rest_len (m := m + 1) (o := o + 1) hn5
        refine (law_sum_ok br (by rw [List.length_map]; omega)).mono ?_
        rintro _ _ ⟨rfl, rfl⟩
        rw [sum_from hn5 hm ho]
        repeat' walk_at "v"
        walk_at "e"
        refine (from_ok hp (by omega) (by omega)).mono ?_
        rintro _ ps rfl
        rw [wb_no rfl]
        repeat' walk_at "v"
        refine ok_of (is_ok sm_tq) ?_
        repeat' walk_at "v"
        walk_at "e"
        exact .mk () rfl trivial
      · rintro z _ -
        exact .mk () rfl trivial
    · rintro z _ -
      walk_at "e"
      repeat' walk_at "v"
      refine (law_odds_ok hb).mono ?_
      rintro _ _ ⟨goal, j, rfl, rfl, hb, hg⟩
      repeat' walk_at "v"
      refine (next_ok hb (by decide)).mono ?_
      rintro _ _ ⟨u, rfl, rfl, ua, ub⟩
      obtain ⟨k, rfl⟩ := Int.eq_ofNat_of_zero_le ua
      have hk5 : k < 5 := by omega
      have hb := hb.next
      repeat' walk_at "v"
      walk_at "e"
      rw [show (1 : Int) + (k : Int) = ((k + 1 : Nat) : Int) by omega]
      refine w_compF (fun (i : Nat) => T.int (1 + (i : Int))) (fun i => decide (goal ≤ P p (i + 1) (i + 1))) ?_
      repeat' walk_at "v"
      rw [show ((k + 1 : Nat) : Int) + 1 = ((k + 1 + 1 : Nat) : Int) by omega]
      refine ⟨_, rng_1 (by omega), ?_⟩
      refine ⟨List.range (k + 1), fun i => .int (1 + (i : Int)), rfl, by rw [List.length_range]; omega, fun i hi => ?_, ?_⟩
      · have hi := List.mem_range.mp hi
        have hi5 : i < 5 := by omega
        walk_at "e"
        repeat' walk_at "v"
        walk_at "e"
        rw [show (1 : Int) + (i : Int) = ((i + 1 : Nat) : Int) by omega]
        have wl := W_len hi5
        refine w_compF (fun x => tq (chW p x)) wonB ?_
        repeat' walk_at "v"
        refine (words_ok hi5).mono ?_
        rintro _ ps rfl
        rw [wb_no rfl]
        repeat' walk_at "v"
        refine ⟨W (i + 1), wT, rfl, by omega, fun x hx => ?_, ?_⟩
        · obtain ⟨h1, hx9⟩ := W_mem hi5 hx
          obtain ⟨y, b, rfl⟩ : ∃ y b, x = y ++ [b] := ⟨x.dropLast, x.getLast h1, (List.dropLast_concat_getLast h1).symm⟩
          walk_at "e"
          repeat' walk_at "v"
          refine ⟨_, last_w (by rw [List.length_append] at hx9; omega), ?_⟩
          repeat' walk_at "v"
          refine ⟨_, eqC, ?_⟩
          repeat' walk_at "v"
          refine .mk (by simp [wonB]) (fun _ => ?_) rfl
          repeat' walk_at "v"
          refine (law_chance_ok hp hx9).mono ?_
          rintro _ _ ⟨rfl, rfl⟩
          exact .mk rfl rfl
        walk_at "e"
        repeat' walk_at "v"
        walk_at "e"
        rw [show (((W (i + 1)).filter wonB).map fun x => tq (chW p x)) = (((W (i + 1)).filter wonB).map (chW p)).map tq by rw [List.map_map]; rfl]
        have bw : ∀ q ∈ ((W (i + 1)).filter wonB).map (chW p), Bd 37 q := fun q hq => by
          obtain ⟨x, hx, rfl⟩ := List.mem_map.mp hq
          exact bd_chW hp (W_mem hi5 (List.mem_filter.mp hx).1).2
        have lw := W_won hi5
        refine (law_sum_ok bw (by rw [List.length_map]; omega)).mono ?_
        rintro _ _ ⟨rfl, rfl⟩
        rw [sum_won hi5]
        repeat' walk_at "v"
        walk_at "e"
        refine ok_of (lless_ok (bd_P hp (by omega) (by omega)) hg.bd (by omega)) ?_
        repeat' walk_at "v"
        refine .mk ?_ (fun _ => ?_) rfl
        · rw [Bool.eq_iff_iff]
          simp [Rat.not_lt]
        · repeat' walk_at "v"
          exact .mk rfl rfl
      walk_at "e"
      repeat' walk_at "v"
      walk_at "e"
      refine (fair_ok hp hg (by omega)).mono ?_
      rintro _ ps rfl
      rw [find_succ]
      generalize ((List.range (k + 1)).filter fun i => decide (goal ≤ P p (i + 1) (i + 1))) = L
      rw [wb_no rfl]
      cases L with
      | nil =>
        simp only [List.head?_nil, Option.map_none]
        repeat' walk_at "v"
        refine ok_of (is_ok sm_non) ?_
        repeat' walk_at "v"
        walk_at "e"
        refine s_loopER [15] (fun e (f : Rat) => e.set 14 (some (tq f))) (fun k f => f = pw p k) 1 rfl rfl ?_ ?_
        · rintro k z f hk rfl
          have hk : k < 6 := hk
          walk_at "e"
          repeat' walk_at "v"
          refine (power_ok hp.bd (by omega)).mono ?_
          rintro _ _ ⟨rfl, rfl⟩
          repeat' walk_at "v"
          refine ok_of (is_ok sm_tq) ?_
          repeat' walk_at "v"
          walk_at "e"
          refine ok_of (ltimes_ok (bd_pw hp.bd k) hp.bd (by omega)) ?_
          repeat' walk_at "v"
          walk_at "e"
          exact .mk _ rfl rfl
        · rintro z f rfl
          exact .mk _ rfl hb
      | cons i r =>
        simp only [List.head?_cons, Option.map_some]
        rw [show ((i + 1 : Nat) : Int) = 1 + (i : Int) by omega]
        repeat' walk_at "v"
        refine ⟨fun _ => ?_, fun h => by simp at h⟩
        repeat' walk_at "v"
        refine ⟨_, atI_nat' (k := 0) rfl, ?_⟩
        repeat' walk_at "v"
        walk_at "e"
        refine ok_of (is_ok sm_int) ?_
        repeat' walk_at "v"
        walk_at "e"
        refine s_loopER [15] (fun e (f : Rat) => e.set 14 (some (tq f))) (fun k f => f = pw p k) 1 rfl rfl ?_ ?_
        · rintro k z f hk rfl
          have hk : k < 6 := hk
          walk_at "e"
          repeat' walk_at "v"
          refine (power_ok hp.bd (by omega)).mono ?_
          rintro _ _ ⟨rfl, rfl⟩
          repeat' walk_at "v"
          refine ok_of (is_ok sm_tq) ?_
          repeat' walk_at "v"
          walk_at "e"
          refine ok_of (ltimes_ok (bd_pw hp.bd k) hp.bd (by omega)) ?_
          repeat' walk_at "v"
          walk_at "e"
          exact .mk _ rfl rfl
        · rintro z f rfl
          exact .mk _ rfl hb
  · rintro z a hb
    walk_at "e"
    repeat' walk_at "v"
    show Ok (d_chance_to_win [.tup [.int 2, .int 3], .int ((2 : Nat) : Int)]) _
    rw [tq_23]
    refine (win_ok ⟨by decide +kernel, by decide +kernel, by decide +kernel, by decide +kernel⟩ (by decide) (by decide)).mono ?_
    rintro _ _ ⟨rfl, rfl⟩
    rw [v1]
    repeat' walk_at "v"
    show Ok (d__law_is 8 [_, .tup [.int 20, .int 27]]) _
    rw [tq_e1]
    refine ok_of (is_ok sm_tq) ?_
    repeat' walk_at "v"
    show Ok (d_chance_from [.tup [.int 1, .int 2], .int ((1 : Nat) : Int), .int ((2 : Nat) : Int)]) _
    rw [tq_half]
    refine (from_ok ⟨by decide +kernel, by decide +kernel, by decide +kernel, by decide +kernel⟩ (by decide) (by decide)).mono ?_
    rintro _ ps rfl
    rw [wb_no rfl, v2]
    repeat' walk_at "v"
    show Ok (d__law_is 8 [_, .tup [.int 3, .int 4]]) _
    rw [tq_e2]
    refine ok_of (is_ok sm_tq) ?_
    repeat' walk_at "v"
    show Ok (d_mean_length [.tup [.int 1, .int 2], .int ((4 : Nat) : Int)]) _
    rw [tq_half]
    refine (mean_ok ⟨by decide +kernel, by decide +kernel, by decide +kernel, by decide +kernel⟩ (by decide) (by decide)).mono ?_
    rintro _ ps rfl
    rw [wb_no rfl, v3]
    repeat' walk_at "v"
    show Ok (d__law_is 8 [_, .tup [.int 93, .int 16]]) _
    rw [tq_e3]
    refine ok_of (is_ok sm_tq) ?_
    repeat' walk_at "v"
    rfl
end G

theorem G.law_true : ∀ ns : List Int, ns.length ≤ 63 → ∃ e, G.d_law [.scr ns] = .ok (.bl true) e := fun ns hn => by
  obtain ⟨t, e, h, rfl⟩ := (G.law_ok hn).get
  exact ⟨e, h⟩
namespace G
open PySem L2 VL
theorem all_mk {P : Program} {w : World} {K : Fr} {mg : MG} {fa : Addr} (hfa : mg "law" = some (.ref fa)) (E_common_divisor : DefAt K mg "common_divisor" s_common_divisor) (E_fraction : DefAt K mg "fraction" s_fraction) (E_plus : DefAt K mg "plus" s_plus) (E_minus : DefAt K mg "minus" s_minus) (E_times : DefAt K mg "times" s_times) (E_choose : DefAt K mg "choose" s_choose) (E_power : DefAt K mg "power" s_power) (E_chance_to_win : DefAt K mg "chance_to_win" s_chance_to_win) (E_length_chances : DefAt K mg "length_chances" s_length_chances) (E_mean_length : DefAt K mg "mean_length" s_mean_length) (E_chance_from : DefAt K mg "chance_from" s_chance_from) (E_fair_series : DefAt K mg "fair_series" s_fair_series) (E_both_ways : DefAt K mg "both_ways" s_both_ways) (E__law_draws : DefAt K mg "_law_draws" s__law_draws) (E__law_box : DefAt K mg "_law_box" s__law_box) (E__law_next : DefAt K mg "_law_next" s__law_next) (E__law_is : DefAt K mg "_law_is" s__law_is) (E__law_least : DefAt K mg "_law_least" s__law_least) (E__law_odds : DefAt K mg "_law_odds" s__law_odds) (E__law_plus : DefAt K mg "_law_plus" s__law_plus) (E__law_minus : DefAt K mg "_law_minus" s__law_minus) (E__law_times : DefAt K mg "_law_times" s__law_times) (E__law_less : DefAt K mg "_law_less" s__law_less) (E__law_words : DefAt K mg "_law_words" s__law_words) (E__law_longer : DefAt K mg "_law_longer" s__law_longer) (E__law_chance : DefAt K mg "_law_chance" s__law_chance) (E__law_sum : DefAt K mg "_law_sum" s__law_sum) (E_law : DefAt K mg "law" s_law) (z_abs : mg "abs" = none) (z_all : mg "all" = none) (z_bool : mg "bool" = none) (z_dict : mg "dict" = none) (z_int : mg "int" = none) (z_isinstance : mg "isinstance" = none) (z_len : mg "len" = none) (z_list : mg "list" = none) (z_max : mg "max" = none) (z_range : mg "range" = none) (z_str : mg "str" = none) (z_tuple : mg "tuple" = none) :
    ∃ fd : FuncData, (∀ (s : Shared) (v : Value), BindsTo s fd ⟨[v], []⟩ [("script", v)]) ∧ ∀ base : Heap, K.In base → base.Ns mainGlobals mg → FnOk P w K mg base (L2.CX P w) 9 fa fd ["script"] (spLaw K) := by
  obtain ⟨f_common_divisor, fd_common_divisor, F_common_divisor, m_common_divisor⟩ := E_common_divisor
  have b_common_divisor := F_common_divisor.binds (ps := ["one", "two"]) fun _ _ _ _ _ _ us hl => match us, hl with | [_, _], _ => rfl
  obtain ⟨f_fraction, fd_fraction, F_fraction, m_fraction⟩ := E_fraction
  have b_fraction := F_fraction.binds (ps := ["above", "below"]) fun _ _ _ _ _ _ us hl => match us, hl with | [_, _], _ => rfl
  obtain ⟨f_plus, fd_plus, F_plus, m_plus⟩ := E_plus
  have b_plus := F_plus.binds (ps := ["one", "two"]) fun _ _ _ _ _ _ us hl => match us, hl with | [_, _], _ => rfl
  obtain ⟨f_minus, fd_minus, F_minus, m_minus⟩ := E_minus
  have b_minus := F_minus.binds (ps := ["one", "two"]) fun _ _ _ _ _ _ us hl => match us, hl with | [_, _], _ => rfl
  obtain ⟨f_times, fd_times, F_times, m_times⟩ := E_times
  have b_times := F_times.binds (ps := ["one", "two"]) fun _ _ _ _ _ _ us hl => match us, hl with | [_, _], _ => rfl
  obtain ⟨f_choose, fd_choose, F_choose, m_choose⟩ := E_choose
  have b_choose := F_choose.binds (ps := ["many", "some"]) fun _ _ _ _ _ _ us hl => match us, hl with | [_, _], _ => rfl
  obtain ⟨f_power, fd_power, F_power, m_power⟩ := E_power
  have b_power := F_power.binds (ps := ["one", "number"]) fun _ _ _ _ _ _ us hl => match us, hl with | [_, _], _ => rfl
  obtain ⟨f_chance_to_win, fd_chance_to_win, F_chance_to_win, m_chance_to_win⟩ := E_chance_to_win
  have b_chance_to_win := F_chance_to_win.binds (ps := ["odds", "wins"]) fun _ _ _ _ _ _ us hl => match us, hl with | [_, _], _ => rfl
  obtain ⟨f_length_chances, fd_length_chances, F_length_chances, m_length_chances⟩ := E_length_chances
  have b_length_chances := F_length_chances.binds (ps := ["odds", "wins"]) fun _ _ _ _ _ _ us hl => match us, hl with | [_, _], _ => rfl
  obtain ⟨f_mean_length, fd_mean_length, F_mean_length, m_mean_length⟩ := E_mean_length
  have b_mean_length := F_mean_length.binds (ps := ["odds", "wins"]) fun _ _ _ _ _ _ us hl => match us, hl with | [_, _], _ => rfl
  obtain ⟨f_chance_from, fd_chance_from, F_chance_from, m_chance_from⟩ := E_chance_from
  have b_chance_from := F_chance_from.binds (ps := ["odds", "mine", "others"]) fun _ _ _ _ _ _ us hl => match us, hl with | [_, _, _], _ => rfl
  obtain ⟨f_fair_series, fd_fair_series, F_fair_series, m_fair_series⟩ := E_fair_series
  have b_fair_series := F_fair_series.binds (ps := ["odds", "wins"]) fun _ _ _ _ _ _ us hl => match us, hl with | [_, _], _ => rfl
  obtain ⟨f_both_ways, fd_both_ways, F_both_ways, m_both_ways⟩ := E_both_ways
  have b_both_ways := F_both_ways.binds (ps := ["odds", "wins"]) fun _ _ _ _ _ _ us hl => match us, hl with | [_, _], _ => rfl
  obtain ⟨f__law_draws, fd__law_draws, F__law_draws, m__law_draws⟩ := E__law_draws
  have b__law_draws := F__law_draws.binds (ps := ["cell", "modulus", "count"]) fun _ _ _ _ _ _ us hl => match us, hl with | [_, _, _], _ => rfl
  obtain ⟨f__law_box, fd__law_box, F__law_box, m__law_box⟩ := E__law_box
  have b__law_box := F__law_box.binds (ps := ["script"]) fun _ _ _ _ _ _ us hl => match us, hl with | [_], _ => rfl
  obtain ⟨f__law_next, fd__law_next, F__law_next, m__law_next⟩ := E__law_next
  have b__law_next := F__law_next.binds (ps := ["box", "modulus"]) fun _ _ _ _ _ _ us hl => match us, hl with | [_, _], _ => rfl
  obtain ⟨f__law_is, fd__law_is, F__law_is, m__law_is⟩ := E__law_is
  have b__law_is := F__law_is.binds (ps := ["got", "due"]) fun _ _ _ _ _ _ us hl => match us, hl with | [_, _], _ => rfl
  obtain ⟨f__law_least, fd__law_least, F__law_least, m__law_least⟩ := E__law_least
  have b__law_least := F__law_least.binds (ps := ["above", "below"]) fun _ _ _ _ _ _ us hl => match us, hl with | [_, _], _ => rfl
  obtain ⟨f__law_odds, fd__law_odds, F__law_odds, m__law_odds⟩ := E__law_odds
  have b__law_odds := F__law_odds.binds (ps := ["box"]) fun _ _ _ _ _ _ us hl => match us, hl with | [_], _ => rfl
  obtain ⟨f__law_plus, fd__law_plus, F__law_plus, m__law_plus⟩ := E__law_plus
  have b__law_plus := F__law_plus.binds (ps := ["one", "two"]) fun _ _ _ _ _ _ us hl => match us, hl with | [_, _], _ => rfl
  obtain ⟨f__law_minus, fd__law_minus, F__law_minus, m__law_minus⟩ := E__law_minus
  have b__law_minus := F__law_minus.binds (ps := ["one", "two"]) fun _ _ _ _ _ _ us hl => match us, hl with | [_, _], _ => rfl
  obtain ⟨f__law_times, fd__law_times, F__law_times, m__law_times⟩ := E__law_times
  have b__law_times := F__law_times.binds (ps := ["one", "two"]) fun _ _ _ _ _ _ us hl => match us, hl with | [_, _], _ => rfl
  obtain ⟨f__law_less, fd__law_less, F__law_less, m__law_less⟩ := E__law_less
  have b__law_less := F__law_less.binds (ps := ["one", "two"]) fun _ _ _ _ _ _ us hl => match us, hl with | [_, _], _ => rfl
  obtain ⟨f__law_words, fd__law_words, F__law_words, m__law_words⟩ := E__law_words
  have b__law_words := F__law_words.binds (ps := ["wins"]) fun _ _ _ _ _ _ us hl => match us, hl with | [_], _ => rfl
  obtain ⟨f__law_longer, fd__law_longer, F__law_longer, m__law_longer⟩ := E__law_longer
  have b__law_longer := F__law_longer.binds (ps := ["rows", "wins"]) fun _ _ _ _ _ _ us hl => match us, hl with | [_, _], _ => rfl
  obtain ⟨f__law_chance, fd__law_chance, F__law_chance, m__law_chance⟩ := E__law_chance
  have b__law_chance := F__law_chance.binds (ps := ["odds", "word"]) fun _ _ _ _ _ _ us hl => match us, hl with | [_, _], _ => rfl
  obtain ⟨f__law_sum, fd__law_sum, F__law_sum, m__law_sum⟩ := E__law_sum
  have b__law_sum := F__law_sum.binds (ps := ["values"]) fun _ _ _ _ _ _ us hl => match us, hl with | [_], _ => rfl
  obtain ⟨f_law, fd_law, F_law, m_law⟩ := E_law
  have e := hfa.symm.trans m_law; cases e
  refine ⟨fd_law, ?_, fun base _ _ => ?_⟩
  · obtain ⟨oc, od, kV, dc, pm, an, cd, ct, sl, rfl, _⟩ := F_law.ex; exact fun s v => .of_eq rfl
  have D_common_divisor := ok_common_divisor (P := P) (w := w) (base := base) F_common_divisor b_common_divisor m_common_divisor z_abs
  have D_fraction := ok_fraction (P := P) (w := w) (base := base) F_fraction b_fraction m_fraction D_common_divisor
  have D_times := ok_times (P := P) (w := w) (base := base) F_times b_times m_times D_fraction
  have D_power := ok_power (P := P) (w := w) (base := base) F_power b_power m_power D_times z_range
  have D_plus := ok_plus (P := P) (w := w) (base := base) F_plus b_plus m_plus D_fraction
  have D_minus := ok_minus (P := P) (w := w) (base := base) F_minus b_minus m_minus D_fraction
  have D_choose := ok_choose (P := P) (w := w) (base := base) F_choose b_choose m_choose z_range
  have D_chance_to_win := ok_chance_to_win (P := P) (w := w) (base := base) F_chance_to_win b_chance_to_win m_chance_to_win D_plus D_minus D_times D_choose D_power z_range
  have D_length_chances := ok_length_chances (P := P) (w := w) (base := base) F_length_chances b_length_chances m_length_chances D_plus D_minus D_times D_choose D_power z_range
  have D_mean_length := ok_mean_length (P := P) (w := w) (base := base) F_mean_length b_mean_length m_mean_length D_plus D_times D_length_chances
  have D_chance_from := ok_chance_from (P := P) (w := w) (base := base) F_chance_from b_chance_from m_chance_from D_plus D_minus D_times z_range
  have D_fair_series := ok_fair_series (P := P) (w := w) (base := base) F_fair_series b_fair_series m_fair_series D_chance_to_win z_range
  have D_both_ways := ok_both_ways (P := P) (w := w) (base := base) F_both_ways b_both_ways m_both_ways D_fraction D_chance_to_win
  have D__law_draws := ok__law_draws (P := P) (w := w) (base := base) F__law_draws b__law_draws m__law_draws z_int z_range
  have D__law_box := ok__law_box (P := P) (w := w) (base := base) F__law_box b__law_box m__law_box D__law_draws z_len
  have D__law_next := ok__law_next (P := P) (w := w) (base := base) F__law_next b__law_next m__law_next z_int z_len
  have D__law_is := ok__law_is (P := P) (w := w) (base := base) F__law_is b__law_is m__law_is z_all z_bool z_dict z_int z_isinstance z_len z_list z_range z_str z_tuple 8
  have D__law_least := ok__law_least (P := P) (w := w) (base := base) F__law_least b__law_least m__law_least z_max
  have D__law_odds := ok__law_odds (P := P) (w := w) (base := base) F__law_odds b__law_odds m__law_odds D__law_next D__law_least
  have D__law_minus := ok__law_minus (P := P) (w := w) (base := base) F__law_minus b__law_minus m__law_minus D__law_least
  have D__law_times := ok__law_times (P := P) (w := w) (base := base) F__law_times b__law_times m__law_times D__law_least
  have D__law_less := ok__law_less (P := P) (w := w) (base := base) F__law_less b__law_less m__law_less
  have D__law_longer := ok__law_longer (P := P) (w := w) (base := base) F__law_longer b__law_longer m__law_longer z_max
  have D__law_words := ok__law_words (P := P) (w := w) (base := base) F__law_words b__law_words m__law_words D__law_longer z_len z_max
  have D__law_chance := ok__law_chance (P := P) (w := w) (base := base) F__law_chance b__law_chance m__law_chance D__law_minus D__law_times
  have D__law_plus := ok__law_plus (P := P) (w := w) (base := base) F__law_plus b__law_plus m__law_plus D__law_least
  have D__law_sum := ok__law_sum (P := P) (w := w) (base := base) F__law_sum b__law_sum m__law_sum D__law_plus
  exact law_fn (ok_law F_law D_power D_chance_to_win D_length_chances D_mean_length D_chance_from D_fair_series D_both_ways D__law_box D__law_next D__law_is D__law_odds D__law_minus D__law_times D__law_less D__law_words D__law_chance D__law_sum z_len z_range z_tuple) law_true
end G
open PySem PySem.W PyProof.Rows
set_option maxRecDepth 100000 in
set_option maxHeartbeats 0 in
theorem PySem.Challenge.cw_leaguestold_k39_chances_of_series_holds : PySem.Challenge.rw_leaguestold_k39_chances_of_series.Holds := by
  w_on; o_law; k_head; (case hw => w_witness2)
  k_fill
  refine VL.law_walk (l := PySem.Challenge.rw_leaguestold_k39_chances_of_series) (k := 9) rfl ⟨rfl, by decide, by decide⟩ rfl (fun w h Y => PySem.W.kIn_of Y) ?F
  case F =>
    intro w mg fa h KX G hmg
    refine' _root_.G.all_mk hmg ?D0 ?D1 ?D2 ?D3 ?D4 ?D5 ?D6 ?D7 ?D8 ?D9 ?D10 ?D11 ?D12 ?D13 ?D14 ?D15 ?D16 ?D17 ?D18 ?D19 ?D20 ?D21 ?D22 ?D23 ?D24 ?D25 ?D26 ?D27 ?z0 ?z1 ?z2 ?z3 ?z4 ?z5 ?z6 ?z7 ?z8 ?z9 ?z10 ?z11
    (case D0 => (refine' VL.def_at KX G ?a ?l ?c ?k; (case a => k_is); (case l => k_is); (case c => k_is); (case k => k_is)))
    (case D1 => (refine' VL.def_at KX G ?a ?l ?c ?k; (case a => k_is); (case l => k_is); (case c => k_is); (case k => k_is)))
    (case D2 => (refine' VL.def_at KX G ?a ?l ?c ?k; (case a => k_is); (case l => k_is); (case c => k_is); (case k => k_is)))
    (case D3 => (refine' VL.def_at KX G ?a ?l ?c ?k; (case a => k_is); (case l => k_is); (case c => k_is); (case k => k_is)))
    (case D4 => (refine' VL.def_at KX G ?a ?l ?c ?k; (case a => k_is); (case l => k_is); (case c => k_is); (case k => k_is)))
    (case D5 => (refine' VL.def_at KX G ?a ?l ?c ?k; (case a => k_is); (case l => k_is); (case c => k_is); (case k => k_is)))
    (case D6 => (refine' VL.def_at KX G ?a ?l ?c ?k; (case a => k_is); (case l => k_is); (case c => k_is); (case k => k_is)))
    (case D7 => (refine' VL.def_at KX G ?a ?l ?c ?k; (case a => k_is); (case l => k_is); (case c => k_is); (case k => k_is)))
    (case D8 => (refine' VL.def_at KX G ?a ?l ?c ?k; (case a => k_is); (case l => k_is); (case c => k_is); (case k => k_is)))
    (case D9 => (refine' VL.def_at KX G ?a ?l ?c ?k; (case a => k_is); (case l => k_is); (case c => k_is); (case k => k_is)))
    (case D10 => (refine' VL.def_at KX G ?a ?l ?c ?k; (case a => k_is); (case l => k_is); (case c => k_is); (case k => k_is)))
    (case D11 => (refine' VL.def_at KX G ?a ?l ?c ?k; (case a => k_is); (case l => k_is); (case c => k_is); (case k => k_is)))
    (case D12 => (refine' VL.def_at KX G ?a ?l ?c ?k; (case a => k_is); (case l => k_is); (case c => k_is); (case k => k_is)))
    (case D13 => (refine' VL.def_at KX G ?a ?l ?c ?k; (case a => k_is); (case l => k_is); (case c => k_is); (case k => k_is)))
    (case D14 => (refine' VL.def_at KX G ?a ?l ?c ?k; (case a => k_is); (case l => k_is); (case c => k_is); (case k => k_is)))
    (case D15 => (refine' VL.def_at KX G ?a ?l ?c ?k; (case a => k_is); (case l => k_is); (case c => k_is); (case k => k_is)))
    (case D16 => (refine' VL.def_at KX G ?a ?l ?c ?k; (case a => k_is); (case l => k_is); (case c => k_is); (case k => k_is)))
    (case D17 => (refine' VL.def_at KX G ?a ?l ?c ?k; (case a => k_is); (case l => k_is); (case c => k_is); (case k => k_is)))
    (case D18 => (refine' VL.def_at KX G ?a ?l ?c ?k; (case a => k_is); (case l => k_is); (case c => k_is); (case k => k_is)))
    (case D19 => (refine' VL.def_at KX G ?a ?l ?c ?k; (case a => k_is); (case l => k_is); (case c => k_is); (case k => k_is)))
    (case D20 => (refine' VL.def_at KX G ?a ?l ?c ?k; (case a => k_is); (case l => k_is); (case c => k_is); (case k => k_is)))
    (case D21 => (refine' VL.def_at KX G ?a ?l ?c ?k; (case a => k_is); (case l => k_is); (case c => k_is); (case k => k_is)))
    (case D22 => (refine' VL.def_at KX G ?a ?l ?c ?k; (case a => k_is); (case l => k_is); (case c => k_is); (case k => k_is)))
    (case D23 => (refine' VL.def_at KX G ?a ?l ?c ?k; (case a => k_is); (case l => k_is); (case c => k_is); (case k => k_is)))
    (case D24 => (refine' VL.def_at KX G ?a ?l ?c ?k; (case a => k_is); (case l => k_is); (case c => k_is); (case k => k_is)))
    (case D25 => (refine' VL.def_at KX G ?a ?l ?c ?k; (case a => k_is); (case l => k_is); (case c => k_is); (case k => k_is)))
    (case D26 => (refine' VL.def_at KX G ?a ?l ?c ?k; (case a => k_is); (case l => k_is); (case c => k_is); (case k => k_is)))
    (case D27 => (refine' VL.def_at KX G ?a ?l ?c ?k; (case a => k_is); (case l => k_is); (case c => k_is); (case k => k_is)))
    (case z0 => (refine' PySem.W.mg_none_of KX G ?a; (case a => k_is)))
    (case z1 => (refine' PySem.W.mg_none_of KX G ?a; (case a => k_is)))
    (case z2 => (refine' PySem.W.mg_none_of KX G ?a; (case a => k_is)))
    (case z3 => (refine' PySem.W.mg_none_of KX G ?a; (case a => k_is)))
    (case z4 => (refine' PySem.W.mg_none_of KX G ?a; (case a => k_is)))
    (case z5 => (refine' PySem.W.mg_none_of KX G ?a; (case a => k_is)))
    (case z6 => (refine' PySem.W.mg_none_of KX G ?a; (case a => k_is)))
    (case z7 => (refine' PySem.W.mg_none_of KX G ?a; (case a => k_is)))
    (case z8 => (refine' PySem.W.mg_none_of KX G ?a; (case a => k_is)))
    (case z9 => (refine' PySem.W.mg_none_of KX G ?a; (case a => k_is)))
    (case z10 => (refine' PySem.W.mg_none_of KX G ?a; (case a => k_is)))
    (case z11 => (refine' PySem.W.mg_none_of KX G ?a; (case a => k_is)))

