import PyProof.Rows.All
import Wide.All
import OpenK.AllK
import Wide.FinOn
import HandS.ForMost
import HandS.ForExc
import HandS.HotCalls
import HandS.ExcIs
import HandS.ExcOwn
import HandS.ExcCtx
import HandS.Wide
import HandS.SortInts
import HandS.Conv
import HandS.Style
import HandS.Deep
import HandS.More
import HandS.IsInst
import HandS.Text
import KE.BitLaws
import PySem.Challenge.RW_ledhome_k47_no_things_of_a_cube
set_option Elab.async false
set_option linter.all false
set_option maxRecDepth 100000
namespace DL
open PySem PySem.Spec PyProof.Rows L2

inductive D where
  | non | bl (b : Bool) | int (i : Int) | str (s : Str)
  | lst (xs : List D) | tup (xs : List D)
  | dk (ks : List Key) (vs : List D) | dt (ks : List (List Key)) (vs : List D)
  | exc (c : Nat) | scr (ns : List Int)
  | ty (u : V) | own (c : Nat)

abbrev Val := Nat × D
abbrev Env := List (Option Val)

def ExcObj (C a : Addr) : HO := .ext fun h => ∃ oe, h.get? a = some oe ∧ Zc (.ref C) none oe ∧ ∃ vs, oe.data = .fields vs

section
variable (cl : Nat → Addr) (F : Hp)
mutual
def RepF : D → V → Prop
  | .non, v => v = .non
  | .bl b, v => v = .bl b
  | .int i, v => v = .int i
  | .str s, v => v = .str s
  | .lst ds, v => ∃ a vs, v = .ref a ∧ F a = some (.lst vs) ∧ RepFs ds vs
  | .tup ds, v => ∃ a vs, v = .ref a ∧ F a = some (.tup vs) ∧ RepFs ds vs
  | .dk ks ds, v => ∃ a vs, v = .ref a ∧ F a = some (.dK (ks.zip vs)) ∧ ks.length = vs.length ∧ RepFs ds vs
  | .dt ks ds, v => ∃ a vs, v = .ref a ∧ F a = some (.dT (ks.zip vs)) ∧ ks.length = vs.length ∧ RepFs ds vs
  | .exc c, v => ∃ a, v = .ref a ∧ F a = some (ExcObj (cl c) a)
  | .scr ns, v => ∃ a o, v = .ref a ∧ F a = some (.frz o (.lst (ns.map V.int)))
  | .ty u, v => v = u ∧ u ≠ .non
  | .own c, v => v = .ref (cl c)
def RepFs : List D → List V → Prop
  | [], vs => vs = []
  | d :: ds, vs => ∃ v r, vs = v :: r ∧ RepF d v ∧ RepFs ds r
end
end

section
variable (cl : Nat → Addr) (F H : Hp)
mutual
def RepO : D → Nat → V → List Addr → Prop
  | .lst ds, n, v, A => match n with
    | 0 => RepF cl F (.lst ds) v ∧ A = []
    | n + 1 => ∃ a vs A', v = .ref a ∧ H a = some (.lst vs) ∧ F a = none ∧ A = a :: A' ∧ RepOs ds n vs A'
  | .tup ds, n, v, A => ∃ a vs, v = .ref a ∧ F a = some (.tup vs) ∧ RepOs ds n vs A
  | .dk ks ds, n, v, A => match n with
    | 0 => RepF cl F (.dk ks ds) v ∧ A = []
    | _ + 1 => ∃ a vs, v = .ref a ∧ H a = some (.dK (ks.zip vs)) ∧ F a = none ∧ A = [a] ∧ ks.length = vs.length ∧ RepFs cl F ds vs
  | .dt ks ds, n, v, A => match n with
    | 0 => RepF cl F (.dt ks ds) v ∧ A = []
    | _ + 1 => ∃ a vs, v = .ref a ∧ H a = some (.dT (ks.zip vs)) ∧ F a = none ∧ A = [a] ∧ ks.length = vs.length ∧ RepFs cl F ds vs
  | .non, _, v, A => RepF cl F .non v ∧ A = []
  | .bl b, _, v, A => RepF cl F (.bl b) v ∧ A = []
  | .int i, _, v, A => RepF cl F (.int i) v ∧ A = []
  | .str s, _, v, A => RepF cl F (.str s) v ∧ A = []
  | .exc c, _, v, A => RepF cl F (.exc c) v ∧ A = []
  | .scr ns, _, v, A => RepF cl F (.scr ns) v ∧ A = []
  | .ty n, _, v, A => RepF cl F (.ty n) v ∧ A = []
  | .own c, _, v, A => RepF cl F (.own c) v ∧ A = []
def RepOs : List D → Nat → List V → List Addr → Prop
  | [], _, vs, A => vs = [] ∧ A = []
  | d :: ds, n, vs, A => ∃ v r A1 A2, vs = v :: r ∧ A = A1 ++ A2 ∧ RepO d n v A1 ∧ RepOs ds n r A2
end
def RelL : Env → L2.St → List Addr → Prop
  | [], σ, A => σ = [] ∧ A = []
  | none :: env, σ, A => ∃ s r, σ = s :: r ∧ RelL env r A
  | some (n, d) :: env, σ, A => ∃ v r A1 A2, σ = some v :: r ∧ A = A1 ++ A2 ∧ RepO cl F H d n v A1 ∧ RelL env r A2
end

theorem repO0 {cl : Nat → Addr} {F H : Hp} : ∀ {d : D} {v : V} {A : List Addr}, RepO cl F H d 0 v A ↔ RepF cl F d v ∧ A = [] := by
  have key : ∀ (d : D) (v : V) (A : List Addr), RepO cl F H d 0 v A ↔ RepF cl F d v ∧ A = [] := by
    intro d
    refine D.rec (motive_1 := fun d => ∀ (v : V) (A : List Addr), RepO cl F H d 0 v A ↔ RepF cl F d v ∧ A = [])
      (motive_2 := fun ds => ∀ (vs : List V) (A : List Addr), RepOs cl F H ds 0 vs A ↔ RepFs cl F ds vs ∧ A = []) ?_ ?_ ?_ ?_ ?_ ?_ ?_ ?_ ?_ ?_ ?_ ?_ ?_ ?_ d
    · intro v A; simp [RepO]
    · intro b v A; simp [RepO]
    · intro b v A; simp [RepO]
    · intro b v A; simp [RepO]
    · intro ds ih v A; simp [RepO]
    · intro ds ih v A
      simp only [RepO, RepF]
      constructor
      · rintro ⟨a, vs, e1, e2, h⟩
        obtain ⟨h1, h2⟩ := (ih vs A).mp h
        exact ⟨⟨a, vs, e1, e2, h1⟩, h2⟩
      · rintro ⟨⟨a, vs, e1, e2, h1⟩, h2⟩
        exact ⟨a, vs, e1, e2, (ih vs A).mpr ⟨h1, h2⟩⟩
    · intro ks ds ih v A; simp [RepO]
    · intro ks ds ih v A; simp [RepO]
    · intro b v A; simp [RepO]
    · intro b v A; simp [RepO]
    · intro b v A; simp [RepO]
    · intro b v A; simp [RepO]
    · intro vs A; simp [RepOs, RepFs]
    · intro d ds ih1 ih2 vs A
      simp only [RepOs, RepFs]
      constructor
      · rintro ⟨v, r, A1, A2, e1, e2, h1, h2⟩
        obtain ⟨g1, g2⟩ := (ih1 v A1).mp h1
        obtain ⟨g3, g4⟩ := (ih2 r A2).mp h2
        exact ⟨⟨v, r, e1, g1, g3⟩, by rw [e2, g2, g4]; rfl⟩
      · rintro ⟨⟨v, r, e1, g1, g3⟩, e2⟩
        exact ⟨v, r, [], [], e1, by rw [e2]; rfl, (ih1 v []).mpr ⟨g1, rfl⟩, (ih2 r []).mpr ⟨g3, rfl⟩⟩
  intro d v A
  exact key d v A

section
variable {cl : Nat → Addr} {F F' H H' : Hp}
theorem repF_mono (e : Same F F') : ∀ {d : D} {v : V}, RepF cl F d v → RepF cl F' d v := by
  have key : ∀ (d : D) (v : V), RepF cl F d v → RepF cl F' d v := by
    intro d
    refine D.rec (motive_1 := fun d => ∀ (v : V), RepF cl F d v → RepF cl F' d v) (motive_2 := fun ds => ∀ (vs : List V), RepFs cl F ds vs → RepFs cl F' ds vs) ?_ ?_ ?_ ?_ ?_ ?_ ?_ ?_ ?_ ?_ ?_ ?_ ?_ ?_ d
    · intro v h; exact h
    · intro b v h; exact h
    · intro b v h; exact h
    · intro b v h; exact h
    · intro ds ih v h
      obtain ⟨a, vs, e1, e2, h⟩ := h
      exact ⟨a, vs, e1, e _ _ e2, ih vs h⟩
    · intro ds ih v h
      obtain ⟨a, vs, e1, e2, h⟩ := h
      exact ⟨a, vs, e1, e _ _ e2, ih vs h⟩
    · intro ks ds ih v h
      obtain ⟨a, vs, e1, e2, e3, h⟩ := h
      exact ⟨a, vs, e1, e _ _ e2, e3, ih vs h⟩
    · intro ks ds ih v h
      obtain ⟨a, vs, e1, e2, e3, h⟩ := h
      exact ⟨a, vs, e1, e _ _ e2, e3, ih vs h⟩
    · intro c v h
      obtain ⟨a, e1, e2⟩ := h
      exact ⟨a, e1, e _ _ e2⟩
    · intro c v h
      obtain ⟨a, o, e1, e2⟩ := h
      exact ⟨a, o, e1, e _ _ e2⟩
    · intro b v h; exact h
    · intro b v h; exact h
    · intro vs h; exact h
    · intro d ds ih1 ih2 vs h
      obtain ⟨v, r, e1, h1, h2⟩ := h
      exact ⟨v, r, e1, ih1 v h1, ih2 r h2⟩
  intro d v h
  exact key d v h
theorem repFs_mono (e : Same F F') : ∀ {ds : List D} {vs : List V}, RepFs cl F ds vs → RepFs cl F' ds vs
  | [], _, h => h
  | _ :: _, _, ⟨v, r, e1, h1, h2⟩ => ⟨v, r, e1, repF_mono e h1, repFs_mono e h2⟩
theorem repFs_len : ∀ {ds : List D} {vs : List V}, RepFs cl F ds vs → ds.length = vs.length
  | [], _, h => by cases (show _ = _ from h); rfl
  | _ :: _, _, ⟨v, r, e1, h1, h2⟩ => by subst e1; simp [repFs_len h2]
theorem repFs_get : ∀ {ds : List D} {vs : List V} {i : Nat} {d : D}, RepFs cl F ds vs → ds[i]? = some d → ∃ v, vs[i]? = some v ∧ RepF cl F d v
  | [], _, _, _, _, e => by simp at e
  | d :: ds, _, 0, d', ⟨v, r, e1, h1, h2⟩, e => by
    subst e1; simp at e; subst e
    exact ⟨v, rfl, h1⟩
  | d :: ds, _, i + 1, d', ⟨v, r, e1, h1, h2⟩, e => by
    subst e1
    obtain ⟨u, e2, h3⟩ := repFs_get (i := i) h2 (by simpa using e)
    exact ⟨u, by simpa using e2, h3⟩
theorem repFs_getV : ∀ {ds : List D} {vs : List V} {i : Nat} {v : V}, RepFs cl F ds vs → vs[i]? = some v → ∃ d, ds[i]? = some d ∧ RepF cl F d v
  | [], _, _, _, h, e => by cases (show _ = _ from h); simp at e
  | d :: ds, _, 0, v', ⟨v, r, e1, h1, h2⟩, e => by
    subst e1; simp at e; subst e
    exact ⟨d, rfl, h1⟩
  | d :: ds, _, i + 1, v', ⟨v, r, e1, h1, h2⟩, e => by
    subst e1
    obtain ⟨u, e2, h3⟩ := repFs_getV (i := i) h2 (by simpa using e)
    exact ⟨u, by simpa using e2, h3⟩
theorem repFs_app : ∀ {ds es : List D} {vs us : List V}, RepFs cl F ds vs → RepFs cl F es us → RepFs cl F (ds ++ es) (vs ++ us)
  | [], _, _, _, h, h' => by cases (show _ = _ from h); exact h'
  | _ :: _, _, _, _, ⟨v, r, e1, h1, h2⟩, h' => by subst e1; exact ⟨v, r ++ _, rfl, h1, repFs_app h2 h'⟩
theorem repFs_take : ∀ {ds : List D} {vs : List V} (n : Nat), RepFs cl F ds vs → RepFs cl F (ds.take n) (vs.take n)
  | _, _, 0, _ => rfl
  | [], _, n + 1, h => by cases (show _ = _ from h); rfl
  | _ :: _, _, n + 1, ⟨v, r, e1, h1, h2⟩ => by subst e1; exact ⟨v, r.take n, rfl, h1, repFs_take n h2⟩
theorem repFs_drop : ∀ {ds : List D} {vs : List V} (n : Nat), RepFs cl F ds vs → RepFs cl F (ds.drop n) (vs.drop n)
  | _, _, 0, h => h
  | [], _, n + 1, h => by cases (show _ = _ from h); rfl
  | _ :: _, _, n + 1, ⟨v, r, e1, h1, h2⟩ => by subst e1; exact repFs_drop n h2
theorem repFs_rev {ds : List D} {vs : List V} (h : RepFs cl F ds vs) : RepFs cl F ds.reverse vs.reverse := by
  induction ds generalizing vs with
  | nil => cases (show _ = _ from h); rfl
  | cons d ds ih =>
    obtain ⟨v, r, e1, h1, h2⟩ := h
    subst e1
    rw [List.reverse_cons, List.reverse_cons]
    exact repFs_app (ih h2) ⟨v, [], rfl, h1, rfl⟩
theorem repFs_set : ∀ {ds : List D} {vs : List V} {d : D} {v : V} (i : Nat), RepFs cl F ds vs → RepF cl F d v → RepFs cl F (ds.set i d) (vs.set i v)
  | [], _, _, _, _, h, _ => by cases (show _ = _ from h); rfl
  | _ :: _, _, d, v, 0, ⟨w, r, e1, h1, h2⟩, h => by subst e1; exact ⟨v, r, rfl, h, h2⟩
  | _ :: _, _, d, v, i + 1, ⟨w, r, e1, h1, h2⟩, h => by subst e1; exact ⟨w, r.set i v, rfl, h1, repFs_set i h2 h⟩
theorem repFs_erase : ∀ {ds : List D} {vs : List V} (i : Nat), RepFs cl F ds vs → RepFs cl F (ds.eraseIdx i) (vs.eraseIdx i)
  | [], _, _, h => by cases (show _ = _ from h); rfl
  | _ :: _, _, 0, ⟨w, r, e1, h1, h2⟩ => by subst e1; exact h2
  | _ :: _, _, i + 1, ⟨w, r, e1, h1, h2⟩ => by subst e1; exact ⟨w, r.eraseIdx i, rfl, h1, repFs_erase i h2⟩
theorem repFs_rep {ds : List D} {vs : List V} (h : RepFs cl F ds vs) : ∀ k : Nat, RepFs cl F (List.replicate k ds).flatten (List.replicate k vs).flatten
  | 0 => rfl
  | k + 1 => by
    rw [List.replicate_succ, List.replicate_succ, List.flatten_cons, List.flatten_cons]
    exact repFs_app h (repFs_rep h k)
theorem repFs_ints : ∀ {ns : List Int}, RepFs cl F (ns.map D.int) (ns.map V.int)
  | [] => rfl
  | n :: ns => ⟨.int n, ns.map V.int, rfl, rfl, repFs_ints⟩
theorem repFs_intsV : ∀ {ns : List Int} {vs : List V}, RepFs cl F (ns.map D.int) vs → vs = ns.map V.int
  | [], _, h => h
  | n :: ns, _, ⟨v, r, e1, h1, h2⟩ => by
    have e : v = .int n := h1
    rw [e1, e, repFs_intsV h2]; rfl

theorem repO_own (le : Same F H) : ∀ {d : D} {n : Nat} {v : V} {A : List Addr}, RepO cl F H d n v A → ∀ a ∈ A, H a ≠ none ∧ F a = none := by
  have key : ∀ (d : D) (n : Nat) (v : V) (A : List Addr), RepO cl F H d n v A → ∀ a ∈ A, H a ≠ none ∧ F a = none := by
    intro d
    refine D.rec (motive_1 := fun d => ∀ (n : Nat) (v : V) (A : List Addr), RepO cl F H d n v A → ∀ a ∈ A, H a ≠ none ∧ F a = none)
      (motive_2 := fun ds => ∀ (n : Nat) (vs : List V) (A : List Addr), RepOs cl F H ds n vs A → ∀ a ∈ A, H a ≠ none ∧ F a = none) ?_ ?_ ?_ ?_ ?_ ?_ ?_ ?_ ?_ ?_ ?_ ?_ ?_ ?_ d
    · intro n v A h; simp only [RepO] at h; rw [h.2]; simp
    · intro b n v A h; simp only [RepO] at h; rw [h.2]; simp
    · intro b n v A h; simp only [RepO] at h; rw [h.2]; simp
    · intro b n v A h; simp only [RepO] at h; rw [h.2]; simp
    · intro ds ih n v A h
      cases n with
      | zero => simp only [RepO] at h; rw [h.2]; simp
      | succ n =>
        simp only [RepO] at h
        obtain ⟨a, vs, A', e1, e2, e3, e4, h⟩ := h
        subst e4
        intro b hb
        rcases List.mem_cons.mp hb with e | hb
        · subst e; exact ⟨by rw [e2]; simp, e3⟩
        · exact ih n vs A' h b hb
    · intro ds ih n v A h
      simp only [RepO] at h
      obtain ⟨a, vs, e1, e2, h⟩ := h
      exact ih n vs A h
    · intro ks ds ih n v A h
      cases n with
      | zero => simp only [RepO] at h; rw [h.2]; simp
      | succ n =>
        simp only [RepO] at h
        obtain ⟨a, vs, e1, e2, e3, e4, h⟩ := h
        subst e4
        intro b hb
        simp at hb; subst hb
        exact ⟨by rw [e2]; simp, e3⟩
    · intro ks ds ih n v A h
      cases n with
      | zero => simp only [RepO] at h; rw [h.2]; simp
      | succ n =>
        simp only [RepO] at h
        obtain ⟨a, vs, e1, e2, e3, e4, h⟩ := h
        subst e4
        intro b hb
        simp at hb; subst hb
        exact ⟨by rw [e2]; simp, e3⟩
    · intro b n v A h; simp only [RepO] at h; rw [h.2]; simp
    · intro b n v A h; simp only [RepO] at h; rw [h.2]; simp
    · intro b n v A h; simp only [RepO] at h; rw [h.2]; simp
    · intro b n v A h; simp only [RepO] at h; rw [h.2]; simp
    · intro n vs A h; simp only [RepOs] at h; rw [h.2]; simp
    · intro d ds ih1 ih2 n vs A h
      simp only [RepOs] at h
      obtain ⟨v, r, A1, A2, e1, e2, h1, h2⟩ := h
      subst e2
      intro b hb
      rcases List.mem_append.mp hb with hb | hb
      · exact ih1 n v A1 h1 b hb
      · exact ih2 n r A2 h2 b hb
  intro d n v A h
  exact key d n v A h
theorem repOs_own (le : Same F H) : ∀ {ds : List D} {n : Nat} {vs : List V} {A : List Addr}, RepOs cl F H ds n vs A → ∀ a ∈ A, H a ≠ none ∧ F a = none
  | [], _, _, _, h => by simp only [RepOs] at h; rw [h.2]; simp
  | d :: ds, n, vs, A, h => by
    simp only [RepOs] at h
    obtain ⟨v, r, A1, A2, e1, e2, h1, h2⟩ := h
    subst e2
    intro b hb
    rcases List.mem_append.mp hb with hb | hb
    · exact repO_own le h1 b hb
    · exact repOs_own le h2 b hb
theorem repO_frame (e : Same F F') : ∀ {d : D} {n : Nat} {v : V} {A : List Addr}, RepO cl F H d n v A → (∀ a ∈ A, H' a = H a) → (∀ a ∈ A, F' a = none) → RepO cl F' H' d n v A := by
  have key : ∀ (d : D) (n : Nat) (v : V) (A : List Addr), RepO cl F H d n v A → (∀ a ∈ A, H' a = H a) → (∀ a ∈ A, F' a = none) → RepO cl F' H' d n v A := by
    intro d
    refine D.rec (motive_1 := fun d => ∀ (n : Nat) (v : V) (A : List Addr), RepO cl F H d n v A → (∀ a ∈ A, H' a = H a) → (∀ a ∈ A, F' a = none) → RepO cl F' H' d n v A)
      (motive_2 := fun ds => ∀ (n : Nat) (vs : List V) (A : List Addr), RepOs cl F H ds n vs A → (∀ a ∈ A, H' a = H a) → (∀ a ∈ A, F' a = none) → RepOs cl F' H' ds n vs A) ?_ ?_ ?_ ?_ ?_ ?_ ?_ ?_ ?_ ?_ ?_ ?_ ?_ ?_ d
    · intro n v A h _ _; simp only [RepO] at h ⊢; exact ⟨repF_mono e h.1, h.2⟩
    · intro b n v A h _ _; simp only [RepO] at h ⊢; exact ⟨repF_mono e h.1, h.2⟩
    · intro b n v A h _ _; simp only [RepO] at h ⊢; exact ⟨repF_mono e h.1, h.2⟩
    · intro b n v A h _ _; simp only [RepO] at h ⊢; exact ⟨repF_mono e h.1, h.2⟩
    · intro ds ih n v A h p q
      cases n with
      | zero => simp only [RepO] at h ⊢; exact ⟨repF_mono e h.1, h.2⟩
      | succ n =>
        simp only [RepO] at h ⊢
        obtain ⟨a, vs, A', e1, e2, e3, e4, h⟩ := h
        subst e4
        exact ⟨a, vs, A', e1, (p a List.mem_cons_self).trans e2, q a List.mem_cons_self, rfl, ih n vs A' h (fun b hb => p b (List.mem_cons_of_mem _ hb)) fun b hb => q b (List.mem_cons_of_mem _ hb)⟩
    · intro ds ih n v A h p q
      simp only [RepO] at h ⊢
      obtain ⟨a, vs, e1, e2, h⟩ := h
      exact ⟨a, vs, e1, e _ _ e2, ih n vs A h p q⟩
    · intro ks ds ih n v A h p q
      cases n with
      | zero => simp only [RepO] at h ⊢; exact ⟨repF_mono e h.1, h.2⟩
      | succ n =>
        simp only [RepO] at h ⊢
        obtain ⟨a, vs, e1, e2, e3, e4, e5, h⟩ := h
        subst e4
        exact ⟨a, vs, e1, (p a (by simp)).trans e2, q a (by simp), rfl, e5, repFs_mono e h⟩
    · intro ks ds ih n v A h p q
      cases n with
      | zero => simp only [RepO] at h ⊢; exact ⟨repF_mono e h.1, h.2⟩
      | succ n =>
        simp only [RepO] at h ⊢
        obtain ⟨a, vs, e1, e2, e3, e4, e5, h⟩ := h
        subst e4
        exact ⟨a, vs, e1, (p a (by simp)).trans e2, q a (by simp), rfl, e5, repFs_mono e h⟩
    · intro b n v A h _ _; simp only [RepO] at h ⊢; exact ⟨repF_mono e h.1, h.2⟩
    · intro b n v A h _ _; simp only [RepO] at h ⊢; exact ⟨repF_mono e h.1, h.2⟩
    · intro b n v A h _ _; simp only [RepO] at h ⊢; exact ⟨repF_mono e h.1, h.2⟩
    · intro b n v A h _ _; simp only [RepO] at h ⊢; exact ⟨repF_mono e h.1, h.2⟩
    · intro n vs A h _ _; simp only [RepOs] at h ⊢; exact h
    · intro d ds ih1 ih2 n vs A h p q
      simp only [RepOs] at h ⊢
      obtain ⟨v, r, A1, A2, e1, e2, h1, h2⟩ := h
      subst e2
      exact ⟨v, r, A1, A2, e1, rfl, ih1 n v A1 h1 (fun b hb => p b (List.mem_append_left _ hb)) (fun b hb => q b (List.mem_append_left _ hb)),
        ih2 n r A2 h2 (fun b hb => p b (List.mem_append_right _ hb)) (fun b hb => q b (List.mem_append_right _ hb))⟩
  intro d n v A h
  exact key d n v A h
theorem repOs_frame (e : Same F F') : ∀ {ds : List D} {n : Nat} {vs : List V} {A : List Addr}, RepOs cl F H ds n vs A → (∀ a ∈ A, H' a = H a) → (∀ a ∈ A, F' a = none) → RepOs cl F' H' ds n vs A
  | [], _, _, _, h, _, _ => by simp only [RepOs] at h ⊢; exact h
  | d :: ds, n, vs, A, h, p, q => by
    simp only [RepOs] at h ⊢
    obtain ⟨v, r, A1, A2, e1, e2, h1, h2⟩ := h
    subst e2
    exact ⟨v, r, A1, A2, e1, rfl, repO_frame e h1 (fun b hb => p b (List.mem_append_left _ hb)) (fun b hb => q b (List.mem_append_left _ hb)),
        repOs_frame e h2 (fun b hb => p b (List.mem_append_right _ hb)) (fun b hb => q b (List.mem_append_right _ hb))⟩
theorem relL_frame (e : Same F F') : ∀ {env : Env} {σ : L2.St} {A : List Addr}, RelL cl F H env σ A → (∀ a ∈ A, H' a = H a) → (∀ a ∈ A, F' a = none) → RelL cl F' H' env σ A
  | [], _, _, h, _, _ => by simp only [RelL] at h ⊢; exact h
  | none :: env, σ, A, h, p, q => by
    simp only [RelL] at h ⊢
    obtain ⟨s, r, e1, h⟩ := h
    exact ⟨s, r, e1, relL_frame e h p q⟩
  | some (n, d) :: env, σ, A, h, p, q => by
    simp only [RelL] at h ⊢
    obtain ⟨v, r, A1, A2, e1, e2, h1, h2⟩ := h
    subst e2
    exact ⟨v, r, A1, A2, e1, rfl, repO_frame e h1 (fun b hb => p b (List.mem_append_left _ hb)) (fun b hb => q b (List.mem_append_left _ hb)),
        relL_frame e h2 (fun b hb => p b (List.mem_append_right _ hb)) (fun b hb => q b (List.mem_append_right _ hb))⟩
theorem relL_own (le : Same F H) : ∀ {env : Env} {σ : L2.St} {A : List Addr}, RelL cl F H env σ A → ∀ a ∈ A, H a ≠ none ∧ F a = none
  | [], _, _, h => by simp only [RelL] at h; rw [h.2]; simp
  | none :: env, σ, A, h => by
    simp only [RelL] at h
    obtain ⟨s, r, e1, h⟩ := h
    exact relL_own le h
  | some (n, d) :: env, σ, A, h => by
    simp only [RelL] at h
    obtain ⟨v, r, A1, A2, e1, e2, h1, h2⟩ := h
    subst e2
    intro b hb
    rcases List.mem_append.mp hb with hb | hb
    · exact repO_own le h1 b hb
    · exact relL_own le h2 b hb
def fz (F H : Hp) (A : List Addr) : Hp := fun a => if a ∈ A then H a else F a
theorem fz_same (h : ∀ a ∈ A, F a = none) : Same F (fz F H A) := fun a o e => by
  unfold fz
  by_cases m : a ∈ A
  · rw [h a m] at e; cases e
  · rw [if_neg m]; exact e
theorem fz_le (le : Same F H) : Same (fz F H A) H := fun a o e => by
  unfold fz at e
  by_cases m : a ∈ A
  · rw [if_pos m] at e; exact e
  · rw [if_neg m] at e; exact le a o e
theorem repO_fz {G : Hp} (e : Same F G) : ∀ {d : D} {n : Nat} {v : V} {A : List Addr}, RepO cl F H d n v A → (∀ a ∈ A, G a = H a) → RepF cl G d v := by
  have key : ∀ (d : D) (n : Nat) (v : V) (A : List Addr), RepO cl F H d n v A → (∀ a ∈ A, G a = H a) → RepF cl G d v := by
    intro d
    refine D.rec (motive_1 := fun d => ∀ (n : Nat) (v : V) (A : List Addr), RepO cl F H d n v A → (∀ a ∈ A, G a = H a) → RepF cl G d v)
      (motive_2 := fun ds => ∀ (n : Nat) (vs : List V) (A : List Addr), RepOs cl F H ds n vs A → (∀ a ∈ A, G a = H a) → RepFs cl G ds vs) ?_ ?_ ?_ ?_ ?_ ?_ ?_ ?_ ?_ ?_ ?_ ?_ ?_ ?_ d
    · intro n v A h _; simp only [RepO] at h; exact repF_mono e h.1
    · intro b n v A h _; simp only [RepO] at h; exact repF_mono e h.1
    · intro b n v A h _; simp only [RepO] at h; exact repF_mono e h.1
    · intro b n v A h _; simp only [RepO] at h; exact repF_mono e h.1
    · intro ds ih n v A h p
      cases n with
      | zero => simp only [RepO] at h; exact repF_mono e h.1
      | succ n =>
        simp only [RepO] at h
        obtain ⟨a, vs, A', e1, e2, e3, e4, h⟩ := h
        subst e4
        exact ⟨a, vs, e1, (p a List.mem_cons_self).trans e2, ih n vs A' h fun b hb => p b (List.mem_cons_of_mem _ hb)⟩
    · intro ds ih n v A h p
      simp only [RepO] at h
      obtain ⟨a, vs, e1, e2, h⟩ := h
      exact ⟨a, vs, e1, e _ _ e2, ih n vs A h p⟩
    · intro ks ds ih n v A h p
      cases n with
      | zero => simp only [RepO] at h; exact repF_mono e h.1
      | succ n =>
        simp only [RepO] at h
        obtain ⟨a, vs, e1, e2, e3, e4, e5, h⟩ := h
        subst e4
        exact ⟨a, vs, e1, (p a (by simp)).trans e2, e5, repFs_mono e h⟩
    · intro ks ds ih n v A h p
      cases n with
      | zero => simp only [RepO] at h; exact repF_mono e h.1
      | succ n =>
        simp only [RepO] at h
        obtain ⟨a, vs, e1, e2, e3, e4, e5, h⟩ := h
        subst e4
        exact ⟨a, vs, e1, (p a (by simp)).trans e2, e5, repFs_mono e h⟩
    · intro b n v A h _; simp only [RepO] at h; exact repF_mono e h.1
    · intro b n v A h _; simp only [RepO] at h; exact repF_mono e h.1
    · intro b n v A h _; simp only [RepO] at h; exact repF_mono e h.1
    · intro b n v A h _; simp only [RepO] at h; exact repF_mono e h.1
    · intro n vs A h _; simp only [RepOs] at h; rw [h.1]; rfl
    · intro d ds ih1 ih2 n vs A h p
      simp only [RepOs] at h
      obtain ⟨v, r, A1, A2, e1, e2, h1, h2⟩ := h
      subst e2
      exact ⟨v, r, e1, ih1 n v A1 h1 fun b hb => p b (List.mem_append_left _ hb), ih2 n r A2 h2 fun b hb => p b (List.mem_append_right _ hb)⟩
  intro d n v A h
  exact key d n v A h
end

structure Step (F H : Hp) (A : List Addr) (F' H' : Hp) (A' : List Addr) : Prop where
  mono : Same F F'
  keep : ∀ a o, H a = some o → a ∉ A → H' a = some o
  newF : ∀ a, F' a ≠ none → F a ≠ none ∨ a ∈ A ∨ H a = none
  newA : ∀ a ∈ A', a ∈ A ∨ H a = none
  live : ∀ a, H a ≠ none → H' a ≠ none
theorem Step.refl (F H : Hp) (A : List Addr) : Step F H A F H A := ⟨Same.refl F, fun _ _ e _ => e, fun _ h => .inl h, fun _ h => .inl h, fun _ h => h⟩
theorem Step.trans {F H F1 H1 F2 H2 : Hp} {A A1 A2 : List Addr} (s : Step F H A F1 H1 A1) (t : Step F1 H1 A1 F2 H2 A2) : Step F H A F2 H2 A2 where
  mono := s.mono.trans t.mono
  keep := fun a o e n => t.keep a o (s.keep a o e n) fun h => (s.newA a h).elim n fun z => by rw [e] at z; cases z
  newF := fun a h => by
    rcases t.newF a h with h | h | h
    · exact s.newF a h
    · rcases s.newA a h with h | h
      · exact .inr (.inl h)
      · exact .inr (.inr h)
    · refine .inr (.inr ?_)
      cases q : H a with
      | none => rfl
      | some o => exact absurd h (s.live a (by rw [q]; simp))
  newA := fun a h => by
    rcases t.newA a h with h | h
    · exact s.newA a h
    · refine .inr ?_
      cases q : H a with
      | none => rfl
      | some o => exact absurd h (s.live a (by rw [q]; simp))
  live := fun a h => t.live a (s.live a h)
theorem Step.less {F H F' H' : Hp} {A A' A'' : List Addr} (s : Step F H A F' H' A') (h : ∀ a ∈ A'', a ∈ A') : Step F H A F' H' A'' := ⟨s.mono, s.keep, s.newF, fun a q => s.newA a (h a q), s.live⟩
theorem Step.apart {F H F' H' : Hp} {A A' B : List Addr} (s : Step F H A F' H' A') (hB : ∀ a ∈ B, H a ≠ none ∧ F a = none) (d : ∀ a ∈ B, a ∉ A) :
    (∀ a ∈ B, H' a = H a) ∧ (∀ a ∈ B, F' a = none) ∧ ∀ a ∈ B, a ∉ A' := by
  refine ⟨fun a h => ?_, fun a h => ?_, fun a h q => ?_⟩
  · cases q : H a with
    | none => exact absurd q (hB a h).1
    | some o => exact s.keep a o q (d a h)
  · cases q : F' a with
    | none => rfl
    | some o =>
      rcases s.newF a (by rw [q]; simp) with z | z | z
      · exact absurd (hB a h).2 z
      · exact absurd z (d a h)
      · exact absurd z (hB a h).1
  · rcases s.newA a q with z | z
    · exact d a h z
    · exact (hB a h).1 z
end DL

namespace DL
open PySem PySem.Spec PyProof.Rows L2

section
variable {cl : Nat → Addr} {F F' H H' : Hp}
def RelSlot (cl : Nat → Addr) (F H : Hp) : Option Val → Option V → List Addr → Prop
  | none, _, B => B = []
  | some (n, d), s, B => ∃ v, s = some v ∧ RepO cl F H d n v B
theorem relL_len : ∀ {env : Env} {σ : L2.St} {A : List Addr}, RelL cl F H env σ A → env.length = σ.length
  | [], _, _, h => by simp only [RelL] at h; rw [h.1]; rfl
  | none :: env, σ, A, h => by
    simp only [RelL] at h
    obtain ⟨s, r, e1, h⟩ := h
    subst e1
    simp [relL_len h]
  | some (n, d) :: env, σ, A, h => by
    simp only [RelL] at h
    obtain ⟨v, r, A1, A2, e1, e2, h1, h2⟩ := h
    subst e1
    simp [relL_len h2]
theorem relL_split : ∀ {env : Env} {σ : L2.St} {A : List Addr} {i : Nat} {o : Option Val}, RelL cl F H env σ A → env[i]? = some o →
    ∃ s A1 Ai A2, σ[i]? = some s ∧ A = A1 ++ (Ai ++ A2) ∧ RelSlot cl F H o s Ai ∧ ∀ o' s' B, RelSlot cl F H o' s' B → RelL cl F H (env.set i o') (σ.set i s') (A1 ++ (B ++ A2))
  | [], _, _, _, _, _, e => by simp at e
  | none :: env, σ, A, 0, o, h, e => by
    simp only [RelL] at h
    obtain ⟨s, r, e1, h⟩ := h
    subst e1
    have e0 : none = o := by simpa using e
    subst e0
    refine ⟨s, [], [], A, rfl, rfl, rfl, fun o' s' B hB => ?_⟩
    cases o' with
    | none =>
      have eB : B = [] := hB
      subst eB
      exact ⟨s', r, rfl, h⟩
    | some p =>
      obtain ⟨n, d⟩ := p
      obtain ⟨v, e2, h2⟩ := hB
      subst e2
      exact ⟨v, r, B, A, rfl, rfl, h2, h⟩
  | some (n, d) :: env, σ, A, 0, o, h, e => by
    simp only [RelL] at h
    obtain ⟨v, r, A1, A2, e1, e2, h1, h2⟩ := h
    subst e1
    have e0 : some (n, d) = o := by simpa using e
    subst e0
    refine ⟨some v, [], A1, A2, rfl, e2, ⟨v, rfl, h1⟩, fun o' s' B hB => ?_⟩
    cases o' with
    | none =>
      have eB : B = [] := hB
      subst eB
      exact ⟨s', r, rfl, h2⟩
    | some p =>
      obtain ⟨n', d'⟩ := p
      obtain ⟨v', e3, h3⟩ := hB
      subst e3
      exact ⟨v', r, B, A2, rfl, rfl, h3, h2⟩
  | none :: env, σ, A, i + 1, o, h, e => by
    simp only [RelL] at h
    obtain ⟨s, r, e1, h⟩ := h
    subst e1
    obtain ⟨s2, A1, Ai, A2, q1, q2, q3, q4⟩ := relL_split (i := i) (o := o) h (by simpa using e)
    refine ⟨s2, A1, Ai, A2, by simpa using q1, q2, q3, fun o' s' B hB => ?_⟩
    exact ⟨s, r.set i s', rfl, q4 o' s' B hB⟩
  | some (n, d) :: env, σ, A, i + 1, o, h, e => by
    simp only [RelL] at h
    obtain ⟨v, r, A1, A2, e1, e2, h1, h2⟩ := h
    subst e1
    obtain ⟨s2, B1, Bi, B2, q1, q2, q3, q4⟩ := relL_split (i := i) (o := o) h2 (by simpa using e)
    refine ⟨s2, A1 ++ B1, Bi, B2, by simpa using q1, by rw [e2, q2, List.append_assoc], q3, fun o' s' B hB => ?_⟩
    exact ⟨v, r.set i s', A1, B1 ++ (B ++ B2), rfl, by rw [List.append_assoc], h1, q4 o' s' B hB⟩
theorem set_self {α : Type} : ∀ {l : List α} {i : Nat} {x : α}, l[i]? = some x → l.set i x = l
  | [], _, _, e => by simp at e
  | a :: l, 0, x, e => by simp at e; rw [e]; rfl
  | a :: l, i + 1, x, e => by
    show a :: l.set i x = a :: l
    rw [set_self (by simpa using e)]
theorem relL_freeze {env : Env} {σ : L2.St} {A : List Addr} {i n : Nat} {d : D} (le : Same F H) (h : RelL cl F H env σ A) (nd : A.Nodup) (e : env[i]? = some (some (n, d))) :
    ∃ v F' A', σ[i]? = some (some v) ∧ Step F H A F' H A' ∧ Same F' H ∧ RelL cl F' H (env.set i (some (0, d))) σ A' ∧ A'.Nodup ∧ RepF cl F' d v ∧ (∀ a ∈ A', a ∈ A) := by
  obtain ⟨s, A1, Ai, A2, q1, q2, ⟨v, q3, q4⟩, q5⟩ := relL_split h e
  subst q2 q3
  have own := relL_own le h
  have own1 : ∀ a ∈ Ai, F a = none := fun a ha => (own a (by simp [ha])).2
  have hs := fz_same (H := H) own1
  have hl := fz_le (A := Ai) le
  have sub : ∀ a ∈ A1 ++ A2, a ∈ A1 ++ (Ai ++ A2) := fun a ha => by
    rcases List.mem_append.mp ha with z | z <;> simp [z]
  have dis : ∀ a ∈ A1 ++ A2, a ∉ Ai := fun a ha hi => by
    rw [List.nodup_append] at nd
    obtain ⟨_, nd2, nd3⟩ := nd
    rw [List.nodup_append] at nd2
    rcases List.mem_append.mp ha with z | z
    · exact nd3 a z a (by simp [hi]) rfl
    · exact nd2.2.2 a hi a z rfl
  have hn : RelL cl F H (env.set i none) σ (A1 ++ A2) := by
    have := q5 none (some v) [] rfl
    rw [set_self q1] at this
    exact this
  have hn2 : RelL cl (fz F H Ai) H (env.set i none) σ (A1 ++ A2) := relL_frame hs hn (fun _ _ => rfl) fun a ha => by
    unfold fz
    rw [if_neg (dis a ha)]
    exact (own a (sub a ha)).2
  have rf : RepF cl (fz F H Ai) d v := repO_fz hs q4 fun a ha => by unfold fz; rw [if_pos ha]
  refine ⟨v, fz F H Ai, A1 ++ A2, q1, ⟨hs, fun _ _ e _ => e, fun a ha => ?_, fun a ha => .inl (sub a ha), fun _ h => h⟩, hl, ?_, ?_, rf, sub⟩
  · by_cases z : a ∈ Ai
    · exact .inr (.inl (by simp [z]))
    · unfold fz at ha
      rw [if_neg z] at ha
      exact .inl ha
  · have hlt : i < env.length := by
      rcases Nat.lt_or_ge i env.length with z | z
      · exact z
      · rw [List.getElem?_eq_none z] at e; cases e
    obtain ⟨s', B1, Bi, B2, p1, p2, p3, p4⟩ := relL_split (i := i) (o := none) hn2 (by rw [List.getElem?_set_self hlt])
    have eB : Bi = [] := p3
    subst eB
    rw [q1] at p1
    have es : some v = s' := Option.some.inj p1
    subst es
    have := p4 (some (0, d)) (some v) [] ⟨v, rfl, repO0.mpr ⟨rf, rfl⟩⟩
    rw [set_self q1, List.set_set] at this
    rw [p2]
    exact this
  · exact List.Nodup.sublist (List.Sublist.append (List.Sublist.refl _) (List.sublist_append_right _ _)) nd
end

structure Tb where
  P : Program
  w : World
  K : PySem.W.Frag
  mg : Str → Option Value
  base : Heap
  cl : Nat → Addr
structure Sc where
  N : List Str
  sc : Scope
  st : Str → Bool := fun _ => true
  hot : Bool := false
  exa : Option (Addr × Nat) := none
structure Fit (T : Tb) (k : Nat) (c : Sc) (W : WX) (X : Cx) : Prop where
  prog : X.prog = T.P
  w : X.w = T.w
  K : X.K = T.K
  mg : X.mg = T.mg
  base : X.base = T.base
  N : X.N = c.N
  sc : X.env.scope = c.sc
  nd : X.N.Nodup
  calm : c.hot = false → X.calm = true
  hd : c.hot = false → X.A.handled = none
  room : L2H.RoomH k X.A
  tk : L2N.Takes X W
  pin : ∀ a cc, c.exa = some (a, cc) → ∃ oe, (a, oe) ∈ X.pn ∧ L2N.Zn (.ref (T.cl cc)) none oe ∧ (∃ vs, oe.data = .fields vs) ∧ X.A.handled = some (.ref a)
  own : PassesOwn (model X.prog X.w) X.A X.env X.xe
  fn : ∀ x, c.st x = true → X.fn x = true ∨ X.env.scope.names.lookup x = some .local

theorem Fit.units {T : Tb} {k : Nat} {c : Sc} {W : WX} {X : Cx} (f : Fit T k c W X) : X.A.units + 64 < cLine := by have := f.room.un; omega
theorem Fit.cold {T : Tb} {k : Nat} {c : Sc} {W : WX} {X : Cx} (f : Fit T k c W X) (h : c.hot = false) : Room k X.A := ⟨f.hd h, f.room.dp, f.room.un⟩
def glB (sc : Scope) (x : Str) : Bool := match sc.names.lookup x with
  | some .globalImplicit => true
  | _ => false
theorem gl_of {T : Tb} {k : Nat} {c : Sc} {W : WX} {X : Cx} {x : Str} (f : Fit T k c W X) (h : glB c.sc x = true) : Gl X x := by
  unfold glB at h
  show X.env.scope.names.lookup x = some .globalImplicit
  rw [f.sc]
  split at h
  · rename_i e; exact e
  · cases h
abbrev Post := Val → DL.Env → Prop
abbrev XPo := Nat → DL.Env → Prop
abbrev WE := DL.Env → Post → XPo → Prop
abbrev WT := DL.Env → (Bool → DL.Env → Prop) → XPo → Prop
inductive Opd where
  | v (d : D) | s (i : Nat)
abbrev WI := DL.Env → (Opd → DL.Env → Prop) → XPo → Prop
abbrev WA := DL.Env → (List Opd → DL.Env → Prop) → XPo → Prop

def XOk (T : Tb) (W : WX) (ex : XPo) (F H : Hp) (A : List Addr) (σ : L2.St) : Prop :=
  ∀ c env' F' H' A', ex c env' → Step F H A F' H' A' → Same F' H' → RelL T.cl F' H' env' σ A' → A'.Nodup → W (.ref (T.cl c)) none σ H'
theorem XOk.step {T : Tb} {W : WX} {ex : XPo} {F H F1 H1 : Hp} {A A1 : List Addr} {σ : L2.St} (x : XOk T W ex F H A σ) (s : Step F H A F1 H1 A1) : XOk T W ex F1 H1 A1 σ :=
  fun c env' F' H' A' h s' => x c env' F' H' A' h (s.trans s')
def SemE (T : Tb) (W : WX) (w : WE) (t : TE) : Prop :=
  ∀ (env : DL.Env) (Q : Post) (ex : XPo), w env Q ex → ∀ (σ : L2.St) (F H : Hp) (A : List Addr), Same F H → RelL T.cl F H env σ A → A.Nodup → ∀ R : VK,
    (∀ r env' v F' H' A' B, Q r env' → Step F H A F' H' (A' ++ B) → Same F' H' → RelL T.cl F' H' env' σ A' → RepO T.cl F' H' r.2 r.1 v B → (A' ++ B).Nodup → R v H') →
    XOk T W ex F H A σ → t σ H R
def SemT (T : Tb) (W : WX) (w : WT) (t : TT) : Prop :=
  ∀ (env : DL.Env) (Q : Bool → DL.Env → Prop) (ex : XPo), w env Q ex → ∀ (σ : L2.St) (F H : Hp) (A : List Addr), Same F H → RelL T.cl F H env σ A → A.Nodup → ∀ R : Bool → Hp → Prop,
    (∀ b env' F' H' A', Q b env' → Step F H A F' H' A' → Same F' H' → RelL T.cl F' H' env' σ A' → A'.Nodup → R b H') →
    XOk T W ex F H A σ → t σ H R
def OpdAt (cl : Nat → Addr) (F : Hp) (σ : L2.St) : Opd → V → Prop
  | .v d, v => RepF cl F d v
  | .s i, v => σ[i]? = some (some v)
def OpdsAt (cl : Nat → Addr) (F : Hp) (σ : L2.St) : List Opd → List V → Prop
  | [], vs => vs = []
  | o :: os, vs => ∃ v r, vs = v :: r ∧ OpdAt cl F σ o v ∧ OpdsAt cl F σ os r
theorem OpdAt.mono {cl : Nat → Addr} {F F' : Hp} {σ : L2.St} (e : Same F F') : ∀ {o : Opd} {v : V}, OpdAt cl F σ o v → OpdAt cl F' σ o v
  | .v _, _, h => repF_mono e h
  | .s _, _, h => h
theorem OpdsAt.mono {cl : Nat → Addr} {F F' : Hp} {σ : L2.St} (e : Same F F') : ∀ {os : List Opd} {vs : List V}, OpdsAt cl F σ os vs → OpdsAt cl F' σ os vs
  | [], _, h => h
  | _ :: _, _, ⟨v, r, e1, h1, h2⟩ => ⟨v, r, e1, h1.mono e, h2.mono e⟩
def SemI (T : Tb) (W : WX) (w : WI) (t : TE) : Prop :=
  ∀ (env : DL.Env) (Q : Opd → DL.Env → Prop) (ex : XPo), w env Q ex → ∀ (σ : L2.St) (F H : Hp) (A : List Addr), Same F H → RelL T.cl F H env σ A → A.Nodup → ∀ R : VK,
    (∀ o env' v F' H' A', Q o env' → Step F H A F' H' A' → Same F' H' → RelL T.cl F' H' env' σ A' → A'.Nodup → OpdAt T.cl F' σ o v → R v H') →
    XOk T W ex F H A σ → t σ H R
def SemA (T : Tb) (W : WX) (w : WA) (t : TA) : Prop :=
  ∀ (env : DL.Env) (Q : List Opd → DL.Env → Prop) (ex : XPo), w env Q ex → ∀ (σ : L2.St) (F H : Hp) (A : List Addr), Same F H → RelL T.cl F H env σ A → A.Nodup → ∀ R : List V → Hp → Prop,
    (∀ os env' vs F' H' A', Q os env' → Step F H A F' H' A' → Same F' H' → RelL T.cl F' H' env' σ A' → A'.Nodup → OpdsAt T.cl F' σ os vs → R vs H') →
    XOk T W ex F H A σ → t σ H R

def JE (T : Tb) (k : Nat) (c : Sc) (e : Expr) (w : WE) : Prop := ∀ W : WX, ∃ t : TE, (∀ X, Fit T k c W X → PE X e t) ∧ SemE T W w t
def JT (T : Tb) (k : Nat) (c : Sc) (e : Expr) (w : WT) : Prop := ∀ W : WX, ∃ t : TT, (∀ X, Fit T k c W X → PT X e t) ∧ SemT T W w t
def JI (T : Tb) (k : Nat) (c : Sc) (e : Expr) (w : WI) : Prop := ∀ W : WX, ∃ t : TE, (∀ X, Fit T k c W X → PE X e t) ∧ SemI T W w t
def JA (T : Tb) (k : Nat) (c : Sc) (es : List Expr) (w : WA) : Prop := ∀ W : WX, ∃ t : TA, (∀ X, Fit T k c W X → PA X es t) ∧ SemA T W w t

def noStar : Expr → Bool
  | .Starred _ _ => false
  | _ => true
theorem starEach_ne {e : Expr} {es : List Expr} {env : PySem.Env} (h : noStar e = true) : starEach (e :: es) env = (false, eval e env) :: starEach es env := by
  cases e <;> first | rfl | (cases h)
theorem starNone : ∀ {es : List Expr} {pos : Pos} {env : PySem.Env}, es.all noStar = true → (backTo pos (starEach es env)).any (·.1) = false
  | [], _, _, _ => rfl
  | e :: es, pos, env, h => by
    rw [List.all_cons, Bool.and_eq_true] at h
    rw [starEach_ne h.1]
    show (false || (backTo pos (starEach es env)).any (·.1)) = false
    rw [starNone h.2]; rfl
def wVar (i : Nat) : WE := fun env Q _ => ∃ n d, env[i]? = some (some (n, d)) ∧ Q (0, d) (env.set i (some (0, d)))
def wMov (i : Nat) : WE := fun env Q _ => ∃ n d, env[i]? = some (some (n, d)) ∧ Q (n, d) (env.set i none)
def wC (d : D) : WE := fun env Q _ => Q (0, d) env
def iSlot (i : Nat) : WI := fun env Q _ => (∃ n d, env[i]? = some (some (n, d))) ∧ Q (.s i) env
def iVal (w : WE) : WI := fun env Q ex => w env (fun r env' => Q (.v r.2) env') ex
def aNil : WA := fun env Q _ => Q [] env
def aCons (w : WI) (u : WA) : WA := fun env Q ex => w env (fun o env1 => u env1 (fun os env2 => Q (o :: os) env2) ex) ex
section
variable {T : Tb} {k : Nat} {c : Sc} {e : Expr} {es : List Expr} {x : Str} {pos : Pos}
def visB (sc : Scope) (x : Str) : Bool := match sc.names.lookup x with
  | some .local => true
  | some .cell => true
  | some .free => true
  | _ => false
theorem vis_of {sc : Scope} {x : Str} (h : visB sc x = true) : Vis sc x := by
  unfold visB at h
  unfold Vis
  split at h
  · rename_i e; exact .inl e
  · rename_i e; exact .inr (.inl e)
  · rename_i e; exact .inr (.inr e)
  · cases h
theorem pe_varF {W : WX} {X : Cx} {i : Nat} (f : Fit T k c W X) (hN : c.N[i]? = some x) (hv : visB c.sc x = true) (hd : (x == ("__debug__" : Str)) = false) (hcd : (x == ("__classdict__" : Str)) = false) : PE X (.Name x pos) (tVar i) :=
  pe_var (by rw [f.N]; exact hN) (by rw [f.sc]; exact vis_of hv) hd hcd
theorem JE.var (i : Nat) (hN : c.N[i]? = some x := by rfl) (hv : visB c.sc x = true := by rfl) (hd : (x == ("__debug__" : Str)) = false := by rfl) (hcd : (x == ("__classdict__" : Str)) = false := by rfl) : JE T k c (.Name x pos) (wVar i) := by
  refine fun W => ⟨tVar i, fun X f => pe_varF f hN hv hd hcd, fun env Q ex h σ F H A le rel nd R k1 _ => ?_⟩
  obtain ⟨n, d, e1, q⟩ := h
  obtain ⟨v, F', A', e2, st, le', rel', nd', rf, sub⟩ := relL_freeze le rel nd e1
  refine ⟨v, e2, k1 (0, d) _ v F' H A' [] q (by simpa using st) le' rel' (repO0.mpr ⟨rf, rfl⟩) (by simpa using nd')⟩
theorem JE.mov (i : Nat) (hN : c.N[i]? = some x := by rfl) (hv : visB c.sc x = true := by rfl) (hd : (x == ("__debug__" : Str)) = false := by rfl) (hcd : (x == ("__classdict__" : Str)) = false := by rfl) : JE T k c (.Name x pos) (wMov i) := by
  refine fun W => ⟨tVar i, fun X f => pe_varF f hN hv hd hcd, fun env Q ex h σ F H A le rel nd R k1 _ => ?_⟩
  obtain ⟨n, d, e1, q⟩ := h
  obtain ⟨s, A1, Ai, A2, q1, q2, ⟨v, q3, q4⟩, q5⟩ := relL_split rel e1
  subst q2 q3
  have r2 := q5 none (some v) [] rfl
  rw [set_self q1] at r2
  have sub : ∀ a, a ∈ (A1 ++ ([] ++ A2)) ++ Ai → a ∈ A1 ++ (Ai ++ A2) := fun a ha => by
    simp only [List.nil_append, List.mem_append] at ha ⊢
    rcases ha with (h | h) | h
    · exact .inl h
    · exact .inr (.inr h)
    · exact .inr (.inl h)
  refine ⟨v, q1, k1 (n, d) _ v F H (A1 ++ ([] ++ A2)) Ai q ((Step.refl F H _).less sub) le r2 q4 ?_⟩
  rw [List.nodup_append] at nd ⊢
  obtain ⟨n1, n2, n3⟩ := nd
  rw [List.nodup_append] at n2
  obtain ⟨n4, n5, n6⟩ := n2
  refine ⟨?_, n4, ?_⟩
  · rw [List.nil_append, List.nodup_append]
    exact ⟨n1, n5, fun a h b h' => n3 a h b (List.mem_append_right _ h')⟩
  · intro a h b h'
    rw [List.nil_append] at h
    rcases List.mem_append.mp h with z | z
    · exact n3 a z b (List.mem_append_left _ h')
    · exact fun q => n6 b h' a z q.symm
theorem semC {W : WX} {v : V} {d : D} (h : ∀ F, RepF T.cl F d v) : SemE T W (wC d) (tC v) := fun env Q ex q σ F H A le rel nd R k1 _ =>
  k1 (0, d) env v F H A [] q (by simpa using Step.refl F H A) le rel (repO0.mpr ⟨h F, rfl⟩) (by simpa using nd)
theorem JE.int {i : Int} {j : Nat} : JE T k c (.Constant (.int i) j pos) (wC (.int i)) := fun W => ⟨_, fun _ _ => pe_int, semC fun _ => rfl⟩
theorem JE.bl {b : Bool} {j : Nat} : JE T k c (.Constant (.bool b) j pos) (wC (.bl b)) := fun W => ⟨_, fun _ _ => pe_bl, semC fun _ => rfl⟩
theorem JE.non {j : Nat} : JE T k c (.Constant .none j pos) (wC .non) := fun W => ⟨_, fun _ _ => pe_non, semC fun _ => rfl⟩
theorem JE.str {s : Str} {j : Nat} : JE T k c (.Constant (.str s) j pos) (wC (.str s)) := fun W => ⟨_, fun _ _ => pe_str, semC fun _ => rfl⟩
theorem JI.slot (i : Nat) (hN : c.N[i]? = some x := by rfl) (hv : visB c.sc x = true := by rfl) (hd : (x == ("__debug__" : Str)) = false := by rfl) (hcd : (x == ("__classdict__" : Str)) = false := by rfl) : JI T k c (.Name x pos) (iSlot i) := by
  refine fun W => ⟨tVar i, fun X f => pe_varF f hN hv hd hcd, fun env Q ex h σ F H A le rel nd R k1 _ => ?_⟩
  obtain ⟨⟨n, d, e1⟩, q⟩ := h
  obtain ⟨s, A1, Ai, A2, q1, q2, ⟨v, q3, q4⟩, q5⟩ := relL_split rel e1
  subst q3
  exact ⟨v, q1, k1 (.s i) env v F H A q (Step.refl F H A) le rel nd q1⟩
theorem freeze_tail {F H : Hp} {cl : Nat → Addr} {env : DL.Env} {σ : L2.St} {A B : List Addr} {d : D} {n : Nat} {v : V} (le : Same F H) (rel : RelL cl F H env σ A) (rp : RepO cl F H d n v B) (nd : (A ++ B).Nodup) :
    Step F H (A ++ B) (fz F H B) H A ∧ Same (fz F H B) H ∧ RelL cl (fz F H B) H env σ A ∧ RepF cl (fz F H B) d v := by
  have own := repO_own le rp
  have hs := fz_same (H := H) fun a ha => (own a ha).2
  rw [List.nodup_append] at nd
  have hA : ∀ a ∈ A, fz F H B a = none := fun a ha => by
    unfold fz
    rw [if_neg fun hb => nd.2.2 a ha a hb rfl]
    exact (relL_own le rel a ha).2
  refine ⟨⟨hs, fun _ _ e _ => e, fun a h => ?_, fun a h => .inl (List.mem_append_left _ h), fun _ h => h⟩, fz_le le, relL_frame hs rel (fun _ _ => rfl) hA, repO_fz hs rp fun a ha => by unfold fz; rw [if_pos ha]⟩
  by_cases z : a ∈ B
  · exact .inr (.inl (List.mem_append_right _ z))
  · unfold fz at h
    rw [if_neg z] at h
    exact .inl h
theorem JI.val {w : WE} (h : JE T k c e w) : JI T k c e (iVal w) := fun W => by
  obtain ⟨t, ht, hs⟩ := h W
  refine ⟨t, ht, fun env Q ex h σ F H A le rel nd R k1 kx => ?_⟩
  refine hs env _ ex h σ F H A le rel nd R (fun r env' v F' H' A' B q st le' rel' rp nd' => ?_) kx
  obtain ⟨s2, le2, rel2, rf⟩ := freeze_tail le' rel' rp nd'
  rw [List.nodup_append] at nd'
  exact k1 (.v r.2) env' v _ H' A' q (st.trans s2) le2 rel2 nd'.1 rf
theorem JA.nil : JA T k c [] aNil := fun W => ⟨tNil, fun _ _ => pa_nil, fun env Q ex h σ F H A le rel nd R k1 _ => k1 [] env [] F H A h (Step.refl F H A) le rel nd rfl⟩
theorem JA.cons {w : WI} {u : WA} (h : JI T k c e w) (h' : JA T k c es u) (ns : noStar e = true := by rfl) : JA T k c (e :: es) (aCons w u) := fun W => by
  obtain ⟨t, ht, hs⟩ := h W
  obtain ⟨t', ht', hs'⟩ := h' W
  refine ⟨tCons t t', fun X f => pa_cons (ht X f) (ht' X f) (starEach_ne ns), fun env Q ex h σ F H A le rel nd R k1 kx => ?_⟩
  refine hs env _ ex h σ F H A le rel nd _ (fun o env1 v F1 H1 A1 q st le1 rel1 nd1 ho => ?_) kx
  refine hs' env1 _ ex q σ F1 H1 A1 le1 rel1 nd1 _ (fun os env2 vs F2 H2 A2 q2 st2 le2 rel2 nd2 hos => ?_) (kx.step st)
  exact k1 (o :: os) env2 (v :: vs) F2 H2 A2 q2 (st.trans st2) le2 rel2 nd2 ⟨v, vs, rfl, ho.mono st2.mono, hos⟩
end
end DL

namespace DL
open PySem PySem.Spec PyProof.Rows L2

def ValAt (cl : Nat → Addr) (F H : Hp) (x : Val) (v : V) : Prop := ∃ A, RepO cl F H x.2 x.1 v A
def ValsAt (cl : Nat → Addr) (F H : Hp) : List Val → List V → Prop
  | [], vs => vs = []
  | x :: xs, vs => ∃ v r, vs = v :: r ∧ ValAt cl F H x v ∧ ValsAt cl F H xs r
def opVal (env : DL.Env) : Opd → Option Val
  | .v d => some (0, d)
  | .s i => match env[i]? with
    | some (some p) => some p
    | _ => none
def resolve (env : DL.Env) : List Opd → Option (List Val)
  | [] => some []
  | o :: os => match opVal env o, resolve env os with
    | some x, some xs => some (x :: xs)
    | _, _ => none
def OpSem (cl : Nat → Addr) (r : List V → Hp → VK → Prop) (g : List Val → Option Val) : Prop :=
  ∀ (F H : Hp) (xs : List Val) (vs : List V), Same F H → ValsAt cl F H xs vs → ∀ res, g xs = some res → ∀ R : VK,
    (∀ v F' H' B, Same F F' → Same H H' → Same F' H' → (∀ a, F' a ≠ none → F a ≠ none ∨ H a = none) → (∀ a ∈ B, H a = none) → B.Nodup → RepO cl F' H' res.2 res.1 v B → R v H') → r vs H R
def wOp (g : List Val → Option Val) (wa : WA) : WE := fun env Q ex => wa env (fun os env' => ∃ xs res, resolve env' os = some xs ∧ g xs = some res ∧ Q res env') ex

section
variable {cl : Nat → Addr} {F H F' H' : Hp}
theorem opVal_at {env : DL.Env} {σ : L2.St} {A : List Addr} (rel : RelL cl F H env σ A) : ∀ {o : Opd} {v : V} {x : Val}, OpdAt cl F σ o v → opVal env o = some x → ValAt cl F H x v
  | .v d, v, x, h, e => by
    simp only [opVal, Option.some.injEq] at e
    subst e
    exact ⟨[], repO0.mpr ⟨h, rfl⟩⟩
  | .s i, v, x, h, e => by
    simp only [opVal] at e
    cases q : env[i]? with
    | none => rw [q] at e; cases e
    | some o =>
      rw [q] at e
      cases o with
      | none => cases e
      | some p =>
        have e' : p = x := Option.some.inj e
        subst e'
        obtain ⟨s, A1, Ai, A2, q1, q2, ⟨v', q3, q4⟩, q5⟩ := relL_split rel q
        have h' : σ[i]? = some (some v) := h
        rw [h'] at q1
        have q1' : some v = s := Option.some.inj q1
        rw [q3] at q1'
        have q1' : v = v' := Option.some.inj q1'
        subst q1'
        exact ⟨Ai, q4⟩
theorem resolve_at {env : DL.Env} {σ : L2.St} {A : List Addr} (rel : RelL cl F H env σ A) : ∀ {os : List Opd} {vs : List V} {xs : List Val}, OpdsAt cl F σ os vs → resolve env os = some xs → ValsAt cl F H xs vs
  | [], vs, xs, h, e => by
    simp only [resolve, Option.some.injEq] at e
    subst e
    exact h
  | o :: os, vs, xs, ⟨v, r, e1, h1, h2⟩, e => by
    simp only [resolve] at e
    cases q : opVal env o with
    | none => rw [q] at e; cases e
    | some x =>
      cases q2 : resolve env os with
      | none => rw [q, q2] at e; cases e
      | some xr =>
        rw [q, q2] at e
        have e' : x :: xr = xs := Option.some.inj e
        subst e'
        exact ⟨v, r, e1, opVal_at rel h1 q, resolve_at rel h2 q2⟩
theorem after_pure {env : DL.Env} {σ : L2.St} {A B : List Addr} (le : Same F H) (rel : RelL cl F H env σ A) (nd : A.Nodup) (mF : Same F F') (mH : Same H H') (nF : ∀ a, F' a ≠ none → F a ≠ none ∨ H a = none) (nB : ∀ a ∈ B, H a = none) (ndB : B.Nodup) :
    Step F H A F' H' (A ++ B) ∧ RelL cl F' H' env σ A ∧ (A ++ B).Nodup := by
  have own := relL_own le rel
  have live : ∀ a, H a ≠ none → H' a ≠ none := fun a h => by
    cases q : H a with
    | none => exact absurd q h
    | some o => rw [mH a o q]; simp
  refine ⟨⟨mF, fun a o e _ => mH a o e, fun a h => (nF a h).elim .inl fun h => .inr (.inr h), fun a h => (List.mem_append.mp h).elim .inl fun h => .inr (nB a h), live⟩, ?_, ?_⟩
  · refine relL_frame mF rel (fun a ha => ?_) fun a ha => ?_
    · cases q : H a with
      | none => exact absurd q (own a ha).1
      | some o => exact mH a o q
    · cases q : F' a with
      | none => rfl
      | some o =>
        rcases nF a (by rw [q]; simp) with z | z
        · exact absurd (own a ha).2 z
        · exact absurd z (own a ha).1
  · rw [List.nodup_append]
    exact ⟨nd, ndB, fun a ha b hb e => by subst e; exact (own a ha).1 (nB a hb)⟩
end

section
variable {T : Tb} {k : Nat} {c : Sc} {W : WX}
theorem semOp {r : List V → Hp → VK → Prop} {g : List Val → Option Val} {wa : WA} {ta : TA} (o : OpSem T.cl r g) (h : SemA T W wa ta) : SemE T W (wOp g wa) (tCB r ta) := by
  intro env Q ex hw σ F H A le rel nd R k1 kx
  refine h env _ ex hw σ F H A le rel nd _ (fun os env' vs F1 H1 A1 q st le1 rel1 nd1 ho => ?_) kx
  obtain ⟨xs, res, e1, e2, q⟩ := q
  refine o F1 H1 xs vs le1 (resolve_at rel1 ho e1) res e2 R fun v F2 H2 B mF mH le2 nF nB ndB rp => ?_
  obtain ⟨s2, rel2, nd2⟩ := after_pure le1 rel1 nd1 mF mH nF nB ndB
  exact k1 res env' v F2 H2 A1 B q (st.trans s2) le2 rel2 rp nd2

def R2L (r : R2) : List V → Hp → VK → Prop
  | [x, y], H, Q => r x y H Q
  | _, _, _ => False
def R1L (r : V → Hp → VK → Prop) : List V → Hp → VK → Prop
  | [x], H, Q => r x H Q
  | _, _, _ => False
variable {a b : Expr} {wi wj : WI} {pos : Pos} {g : List Val → Option Val}
abbrev a1 (w : WI) : WA := aCons w aNil
abbrev a2 (w u : WI) : WA := aCons w (aCons u aNil)
abbrev a3 (w u z : WI) : WA := aCons w (aCons u (aCons z aNil))
theorem JI.two (ha : JI T k c a wi) (hb : JI T k c b wj) (W : WX) : ∃ ta tb, (∀ X, Fit T k c W X → PE X a ta) ∧ (∀ X, Fit T k c W X → PE X b tb) ∧ SemA T W (a2 wi wj) (tCons ta (tCons tb tNil)) := by
  obtain ⟨ta, pa, sa⟩ := ha W
  obtain ⟨tb, pb, sb⟩ := hb W
  refine ⟨ta, tb, pa, pb, fun env Q ex h σ F H A le rel nd R k1 kx => ?_⟩
  refine sa env _ ex h σ F H A le rel nd _ (fun o env1 v F1 H1 A1 q st le1 rel1 nd1 ho => ?_) kx
  refine sb env1 _ ex q σ F1 H1 A1 le1 rel1 nd1 _ (fun o2 env2 v2 F2 H2 A2 q2 st2 le2 rel2 nd2 ho2 => ?_) (kx.step st)
  exact k1 [o, o2] env2 [v, v2] F2 H2 A2 q2 (st.trans st2) le2 rel2 nd2 ⟨v, [v2], rfl, ho.mono st2.mono, v2, [], rfl, ho2, rfl⟩
theorem JI.one (ha : JI T k c a wi) (W : WX) : ∃ ta, (∀ X, Fit T k c W X → PE X a ta) ∧ SemA T W (a1 wi) (tCons ta tNil) := by
  obtain ⟨ta, pa, sa⟩ := ha W
  refine ⟨ta, pa, fun env Q ex h σ F H A le rel nd R k1 kx => ?_⟩
  refine sa env _ ex h σ F H A le rel nd _ (fun o env1 v F1 H1 A1 q st le1 rel1 nd1 ho => ?_) kx
  exact k1 [o] env1 [v] F1 H1 A1 q st le1 rel1 nd1 ⟨v, [], rfl, ho, rfl⟩
def Ft (T : Tb) (k : Nat) (c : Sc) (X : Cx) : Prop := ∃ W, Fit T k c W X
theorem JE.bin {op : Operator} {r : R2} (ho : ∀ X, Ft T k c X → OpR X (binaryOp op) r) (o : OpSem T.cl (R2L r) g) (ha : JI T k c a wi) (hb : JI T k c b wj) : JE T k c (.BinOp a op b pos) (wOp g (a2 wi wj)) := fun W => by
  obtain ⟨ta, tb, pa, pb, sa⟩ := JI.two ha hb W
  exact ⟨tCB (R2L r) (tCons ta (tCons tb tNil)), fun X f => show PE X _ (tOp r ta tb) from pe_op (ho X ⟨W, f⟩) (pa X f) (pb X f), semOp o sa⟩
theorem JE.un {op : UnaryOp} {r : V → Hp → VK → Prop} (ho : ∀ X : Cx, UnR X (unaryOp op) r) (o : OpSem T.cl (R1L r) g) (ha : JI T k c a wi) : JE T k c (.UnaryOp op a pos) (wOp g (a1 wi)) := fun W => by
  obtain ⟨ta, pa, sa⟩ := JI.one ha W
  exact ⟨tCB (R1L r) (tCons ta tNil), fun X f => show PE X _ (tUn r ta) from pe_un (ho X) (pa X f), semOp o sa⟩
theorem JE.cmp {op : CmpOp} {r : R2} (ho : ∀ X, Ft T k c X → OpR X (compareOp op) r) (o : OpSem T.cl (R2L r) g) (ha : JI T k c a wi) (hb : JI T k c b wj) (hm : behindInMarks op b = false := by first | exact nomark _ | rfl | with_unfolding_all rfl) :
    JE T k c (.Compare a [op] [b] pos) (wOp g (a2 wi wj)) := fun W => by
  obtain ⟨ta, tb, pa, pb, sa⟩ := JI.two ha hb W
  exact ⟨tCB (R2L r) (tCons ta (tCons tb tNil)), fun X f => show PE X _ (tOp r ta tb) from pe_cmpR (ho X ⟨W, f⟩) (pa X f) (pb X f) hm, semOp o sa⟩
def wTst (w : WE) : WT := fun env Q ex => w env (fun r env' => ∃ b, r.2 = .bl b ∧ Q b env') ex
theorem semTst {w : WE} {t : TE} {W : WX} (h : SemE T W w t) : SemT T W (wTst w) (tTest t) := fun env Q ex hw σ F H A le rel nd R k1 kx =>
  h env _ ex hw σ F H A le rel nd _ (fun r env' v F' H' A' B q st le' rel' rp nd' => by
    obtain ⟨b, e, q⟩ := q
    rw [e] at rp
    have e' : v = .bl b := by
      have : RepF T.cl F' (.bl b) v ∧ B = [] := by simpa only [RepO] using rp
      exact this.1
    exact ⟨b, e', k1 b env' F' H' A' q (st.less fun a ha => List.mem_append_left _ ha) le' rel' (List.nodup_append.mp nd').1⟩) kx
theorem JT.cmp {op : CmpOp} {r : R2} (ho : ∀ X, Ft T k c X → OpR X (compareOp op) r) (o : OpSem T.cl (R2L r) g) (ha : JI T k c a wi) (hb : JI T k c b wj) (hm : behindInMarks op b = false := by first | exact nomark _ | rfl | with_unfolding_all rfl) :
    JT T k c (.Compare a [op] [b] pos) (wTst (wOp g (a2 wi wj))) := fun W => by
  obtain ⟨ta, tb, pa, pb, sa⟩ := JI.two ha hb W
  exact ⟨tTest (tCB (R2L r) (tCons ta (tCons tb tNil))), fun X f => show PT X _ (tTest (tOp r ta tb)) from pt_cmpR (ho X ⟨W, f⟩) (pa X f) (pb X f) hm, semTst (semOp o sa)⟩
theorem JE.callB {es : List Expr} {e : Expr} {x : Str} {id : String} {r : List V → Hp → VK → Prop} {wa : WA} {p : Pos} (hc : ∀ X, Ft T k c X → CallR X (.builtin id) r) (o : OpSem T.cl r g) (hm : T.mg x = none) (hv : bootBuiltins x = some (.builtin id))
    (ha : JA T k c (e :: es) wa) (hg : glB c.sc x = true := by rfl) (ns : noStar e = true := by rfl) (nss : es.all noStar = true := by rfl) (hn : x ≠ "__name__" := by decide) (hdb : (x == ("__debug__" : Str)) = false := by rfl) : JE T k c (.Call (.Name x p) (e :: es) [] pos) (wOp g wa) := fun W => by
  obtain ⟨ta, pa, sa⟩ := ha W
  exact ⟨tCB r ta, fun X f => pe_callB (hc X ⟨W, f⟩) (gl_of f hg) (by rw [f.mg]; exact hm) hv (pa X f) hn hdb (starEach_ne ns) (starNone nss), semOp o sa⟩
theorem JE.callTy {es : List Expr} {e : Expr} {x : Str} {id : String} {r : List V → Hp → VK → Prop} {wa : WA} {p : Pos} (hc : ∀ X, Ft T k c X → CallR X (.type id) r) (o : OpSem T.cl r g) (hm : T.mg x = none) (hv : bootBuiltins x = some (.type id))
    (ha : JA T k c (e :: es) wa) (hg : glB c.sc x = true := by rfl) (ns : noStar e = true := by rfl) (nss : es.all noStar = true := by rfl) (hn : x ≠ "__name__" := by decide) (hdb : (x == ("__debug__" : Str)) = false := by rfl) : JE T k c (.Call (.Name x p) (e :: es) [] pos) (wOp g wa) := fun W => by
  obtain ⟨ta, pa, sa⟩ := ha W
  exact ⟨tCB r ta, fun X f => pe_callTy (hc X ⟨W, f⟩) (gl_of f hg) (by rw [f.mg]; exact hm) hv (pa X f) hn hdb (starEach_ne ns) (starNone nss), semOp o sa⟩
theorem JE.ix {r : R2} (ho : ∀ X, Ft T k c X → IxR X r) (o : OpSem T.cl (R2L r) g) (ha : JI T k c a wi) (hb : JI T k c b wj) (hs : PlainIx b := by exact fun _ _ => rfl) : JE T k c (.Subscript a b pos) (wOp g (a2 wi wj)) := fun W => by
  obtain ⟨ta, tb, pa, pb, sa⟩ := JI.two ha hb W
  exact ⟨tCB (R2L r) (tCons ta (tCons tb tNil)), fun X f => show PE X _ (tOp r ta tb) from pe_ix (ho X ⟨W, f⟩) (pa X f) (pb X f) hs, semOp o sa⟩
theorem JT.val {e : Expr} {w : WE} (h : JE T k c e w) (he : ∀ (env : PySem.Env) whole, isTrue e env whole = (do let v ← whole; standAt e.pos; holding [v] (truthy v)) := by intro _ _; rfl) : JT T k c e (wTst w) := fun W => by
  obtain ⟨t, pe, se⟩ := h W
  exact ⟨tTest t, fun X f => show PT X e (tB t) from pt_val (pe X f) (he X.env), semTst se⟩
def wNot (w : WT) : WT := fun env Q ex => w env (fun b env' => Q (!b) env') ex
theorem JT.not {w : WT} (h : JT T k c a w) : JT T k c (.UnaryOp .Not a pos) (wNot w) := fun W => by
  obtain ⟨t, pe, se⟩ := h W
  exact ⟨tNot t, fun X f => pt_not (pe X f), fun env Q ex hw σ F H A le rel nd R k1 kx => se env _ ex hw σ F H A le rel nd _ (fun b env' F' H' A' q st le' rel' nd' => k1 (!b) env' F' H' A' q st le' rel' nd') kx⟩
def JW (T : Tb) (k : Nat) (c : Sc) (e : Expr) (w : WT) : Prop := ∀ W : WX, ∃ t : TT, (∀ X, Fit T k c W X → PW X e t) ∧ SemT T W w t
theorem JW.t {e : Expr} {w : WT} (h : JW T k c e w) : JT T k c e w := fun W => by
  obtain ⟨t, pe, se⟩ := h W
  exact ⟨t, fun X f => (pe X f).pt, se⟩
def wAnd (w u : WT) : WT := fun env Q ex => w env (fun b env' => if b = true then u env' Q ex else Q false env') ex
def wOr (w u : WT) : WT := fun env Q ex => w env (fun b env' => if b = true then Q true env' else u env' Q ex) ex
theorem JW.and1 {w : WT} (h : JT T k c a w) : JW T k c (.BoolOp .And [a] pos) w := fun W => by
  obtain ⟨t, pe, se⟩ := h W
  exact ⟨t, fun X f => pw_and1 (pe X f), se⟩
theorem JW.or1 {w : WT} (h : JT T k c a w) : JW T k c (.BoolOp .Or [a] pos) w := fun W => by
  obtain ⟨t, pe, se⟩ := h W
  exact ⟨t, fun X f => pw_or1 (pe X f), se⟩
theorem JW.and {rest : List Expr} {w u : WT} (h : JT T k c a w) (h' : JW T k c (.BoolOp .And (b :: rest) pos) u) : JW T k c (.BoolOp .And (a :: b :: rest) pos) (wAnd w u) := fun W => by
  obtain ⟨t, pe, se⟩ := h W
  obtain ⟨t', pe', se'⟩ := h' W
  refine ⟨tAnd t t', fun X f => pw_and (pe X f) (pe' X f), fun env Q ex hw σ F H A le rel nd R k1 kx => ?_⟩
  refine se env _ ex hw σ F H A le rel nd _ (fun b env' F' H' A' q st le' rel' nd' => ?_) kx
  cases b with
  | true => exact se' env' Q ex q σ F' H' A' le' rel' nd' R (fun b2 env2 F2 H2 A2 q2 st2 => k1 b2 env2 F2 H2 A2 q2 (st.trans st2)) (kx.step st)
  | false => exact k1 false env' F' H' A' q st le' rel' nd'
theorem JW.or {rest : List Expr} {w u : WT} (h : JT T k c a w) (h' : JW T k c (.BoolOp .Or (b :: rest) pos) u) : JW T k c (.BoolOp .Or (a :: b :: rest) pos) (wOr w u) := fun W => by
  obtain ⟨t, pe, se⟩ := h W
  obtain ⟨t', pe', se'⟩ := h' W
  refine ⟨tOr t t', fun X f => pw_or (pe X f) (pe' X f), fun env Q ex hw σ F H A le rel nd R k1 kx => ?_⟩
  refine se env _ ex hw σ F H A le rel nd _ (fun b env' F' H' A' q st le' rel' nd' => ?_) kx
  cases b with
  | true => exact k1 true env' F' H' A' q st le' rel' nd'
  | false => exact se' env' Q ex q σ F' H' A' le' rel' nd' R (fun b2 env2 F2 H2 A2 q2 st2 => k1 b2 env2 F2 H2 A2 q2 (st.trans st2)) (kx.step st)
def wOfT (w : WT) : WE := fun env Q ex => w env (fun b env' => Q (0, .bl b) env') ex
def wAndV (w u : WE) : WE := fun env Q ex => w env (fun r env' => ∃ b, r.2 = .bl b ∧ if b = true then u env' Q ex else Q (0, .bl false) env') ex
def wOrV (w u : WE) : WE := fun env Q ex => w env (fun r env' => ∃ b, r.2 = .bl b ∧ if b = true then Q (0, .bl true) env' else u env' Q ex) ex
theorem rep_bl {cl : Nat → Addr} {F H : Hp} {b : Bool} {n : Nat} {v : V} {B : List Addr} (rp : RepO cl F H (.bl b) n v B) : v = .bl b ∧ B = [] := by
  have : RepF cl F (.bl b) v ∧ B = [] := by simpa only [RepO] using rp
  exact this
theorem JE.one {op : BoolOp} {w : WE} (h : JE T k c a w) : JE T k c (.BoolOp op [a] pos) w := fun W => by
  obtain ⟨t, pe, se⟩ := h W
  exact ⟨t, fun X f => pe_one (pe X f), se⟩
theorem JE.and {rest : List Expr} {w u : WE} (h : JE T k c a w) (h' : JE T k c (.BoolOp .And (b :: rest) pos) u) : JE T k c (.BoolOp .And (a :: b :: rest) pos) (wAndV w u) := fun W => by
  obtain ⟨t, pe, se⟩ := h W
  obtain ⟨t', pe', se'⟩ := h' W
  refine ⟨tAndV t t', fun X f => pe_and (pe X f) (pe' X f), fun env Q ex hw σ F H A le rel nd R k1 kx => ?_⟩
  refine se env _ ex hw σ F H A le rel nd _ (fun r env' v F' H' A' B q st le' rel' rp nd' => ?_) kx
  obtain ⟨b, e, q⟩ := q
  rw [e] at rp
  obtain ⟨e1, e2⟩ := rep_bl rp
  subst e1 e2
  rw [List.append_nil] at st nd'
  refine ⟨b, rfl, ?_⟩
  cases b with
  | true => exact se' env' Q ex q σ F' H' A' le' rel' nd' R (fun r2 env2 v2 F2 H2 A2 B2 q2 st2 => k1 r2 env2 v2 F2 H2 A2 B2 q2 (st.trans st2)) (kx.step st)
  | false => exact k1 _ env' _ F' H' A' [] q (by rw [List.append_nil]; exact st) le' rel' (repO0.mpr ⟨rfl, rfl⟩) (by rw [List.append_nil]; exact nd')
theorem JE.or {rest : List Expr} {w u : WE} (h : JE T k c a w) (h' : JE T k c (.BoolOp .Or (b :: rest) pos) u) : JE T k c (.BoolOp .Or (a :: b :: rest) pos) (wOrV w u) := fun W => by
  obtain ⟨t, pe, se⟩ := h W
  obtain ⟨t', pe', se'⟩ := h' W
  refine ⟨tOrV t t', fun X f => pe_or (pe X f) (pe' X f), fun env Q ex hw σ F H A le rel nd R k1 kx => ?_⟩
  refine se env _ ex hw σ F H A le rel nd _ (fun r env' v F' H' A' B q st le' rel' rp nd' => ?_) kx
  obtain ⟨b, e, q⟩ := q
  rw [e] at rp
  obtain ⟨e1, e2⟩ := rep_bl rp
  subst e1 e2
  rw [List.append_nil] at st nd'
  refine ⟨b, rfl, ?_⟩
  cases b with
  | true => exact k1 _ env' _ F' H' A' [] q (by rw [List.append_nil]; exact st) le' rel' (repO0.mpr ⟨rfl, rfl⟩) (by rw [List.append_nil]; exact nd')
  | false => exact se' env' Q ex q σ F' H' A' le' rel' nd' R (fun r2 env2 v2 F2 H2 A2 B2 q2 st2 => k1 r2 env2 v2 F2 H2 A2 B2 q2 (st.trans st2)) (kx.step st)
def wNotV (w : WE) : WE := fun env Q ex => w env (fun r env' => ∃ b, r.2 = .bl b ∧ Q (0, .bl (!b)) env') ex
theorem JE.not {w : WE} (h : JE T k c a w) : JE T k c (.UnaryOp .Not a pos) (wNotV w) := fun W => by
  obtain ⟨t, pe, se⟩ := h W
  refine ⟨tNotV t, fun X f => pe_not (pe X f), fun env Q ex hw σ F H A le rel nd R k1 kx => ?_⟩
  refine se env _ ex hw σ F H A le rel nd _ (fun r env' v F' H' A' B q st le' rel' rp nd' => ?_) kx
  obtain ⟨b, e, q⟩ := q
  rw [e] at rp
  obtain ⟨e1, e2⟩ := rep_bl rp
  subst e1 e2
  exact ⟨b, rfl, k1 _ env' _ F' H' A' [] q st le' rel' (repO0.mpr ⟨rfl, rfl⟩) nd'⟩
def wIf (t : WT) (w u : WE) : WE := fun env Q ex => t env (fun b env' => if b = true then w env' Q ex else u env' Q ex) ex
theorem JE.ifx {e : Expr} {wt : WT} {w u : WE} (ht : JT T k c e wt) (h : JE T k c a w) (h' : JE T k c b u) : JE T k c (.IfExp e a b pos) (wIf wt w u) := fun W => by
  obtain ⟨t0, pt, st0⟩ := ht W
  obtain ⟨t, pe, se⟩ := h W
  obtain ⟨t', pe', se'⟩ := h' W
  refine ⟨tIf t0 t t', fun X f => pe_ifExp (pt X f) (pe X f) (pe' X f), fun env Q ex hw σ F H A le rel nd R k1 kx => ?_⟩
  refine st0 env _ ex hw σ F H A le rel nd _ (fun b env' F' H' A' q st le' rel' nd' => ?_) kx
  cases b with
  | true => exact se env' Q ex q σ F' H' A' le' rel' nd' R (fun r2 env2 v2 F2 H2 A2 B2 q2 st2 => k1 r2 env2 v2 F2 H2 A2 B2 q2 (st.trans st2)) (kx.step st)
  | false => exact se' env' Q ex q σ F' H' A' le' rel' nd' R (fun r2 env2 v2 F2 H2 A2 B2 q2 st2 => k1 r2 env2 v2 F2 H2 A2 B2 q2 (st.trans st2)) (kx.step st)

def frz : DL.Env → DL.Env
  | [] => []
  | none :: env => none :: frz env
  | some (_, d) :: env => some (0, d) :: frz env
theorem relL_frz {cl : Nat → Addr} {F H G : Hp} (e : Same F G) : ∀ {env : DL.Env} {σ : L2.St} {A : List Addr}, RelL cl F H env σ A → (∀ a ∈ A, G a = H a) → RelL cl G H (frz env) σ []
  | [], _, _, h, _ => by simp only [RelL] at h; simp only [frz, RelL]; exact ⟨h.1, trivial⟩
  | none :: env, σ, A, h, p => by
    simp only [RelL] at h
    simp only [frz, RelL]
    obtain ⟨s, r, e1, h⟩ := h
    exact ⟨s, r, e1, relL_frz e h p⟩
  | some (n, d) :: env, σ, A, h, p => by
    simp only [RelL] at h
    simp only [frz, RelL]
    obtain ⟨v, r, A1, A2, e1, e2, h1, h2⟩ := h
    subst e2
    exact ⟨v, r, [], [], e1, rfl, repO0.mpr ⟨repO_fz e h1 fun a ha => p a (List.mem_append_left _ ha), rfl⟩, relL_frz e h2 fun a ha => p a (List.mem_append_right _ ha)⟩
theorem ro_back {cl : Nat → Addr} {F H F1 H1 : Hp} {env : DL.Env} {σ : L2.St} {A A1 : List Addr} (le : Same F H) (rel : RelL cl F H env σ A) (st : Step (fz F H A) H [] F1 H1 A1) :
    Step F H A F H1 A ∧ Same F H1 ∧ RelL cl F H1 env σ A := by
  have hk : Same H H1 := fun a o e => st.keep a o e (by simp)
  have own := relL_own le rel
  refine ⟨⟨Same.refl F, fun a o e _ => hk a o e, fun a h => .inl h, fun a h => .inl h, st.live⟩, le.trans hk, relL_frame (Same.refl F) rel (fun a ha => ?_) fun a ha => (own a ha).2⟩
  cases q : H a with
  | none => exact absurd q (own a ha).1
  | some o => exact hk a o q
def wRoT (w : WT) : WT := fun env Q ex => w (frz env) (fun b _ => Q b env) (fun n _ => ex n env)
theorem semRoT {w : WT} {t : TT} {W : WX} (h : SemT T W w t) : SemT T W (wRoT w) t := fun env Q ex hw σ F H A le rel nd R k1 kx => by
  have own := relL_own le rel
  have hs := fz_same (H := H) fun a ha => (own a ha).2
  refine h (frz env) _ _ hw σ (fz F H A) H [] (fz_le le) (relL_frz hs rel fun a ha => by unfold fz; rw [if_pos ha]) List.nodup_nil R (fun b env1 F1 H1 A1 q st le1 rel1 nd1 => ?_) (fun n env1 F1 H1 A1 q st le1 rel1 nd1 => ?_)
  · obtain ⟨s2, le2, rel2⟩ := ro_back le rel st
    exact k1 b env F H1 A q s2 le2 rel2 nd
  · obtain ⟨s2, le2, rel2⟩ := ro_back le rel st
    exact kx n env F H1 A q s2 le2 rel2 nd
theorem JT.ro {e : Expr} {w : WT} (h : JT T k c e w) : JT T k c e (wRoT w) := fun W => by
  obtain ⟨t, pe, se⟩ := h W
  exact ⟨t, pe, semRoT se⟩
def cov : D → Nat → Bool
  | .lst ds, n => match n with
    | 0 => false
    | n + 1 => covs ds n
  | .tup _, _ => false
  | .dk _ ds, n => match n with
    | 0 => false
    | _ + 1 => covs ds 0
  | .dt _ ds, n => match n with
    | 0 => false
    | _ + 1 => covs ds 0
  | .exc _, _ => false
  | .scr _, _ => false
  | .ty _, _ => true
  | .own _, _ => true
  | .non, _ => true
  | .bl _, _ => true
  | .int _, _ => true
  | .str _, _ => true
where covs : List D → Nat → Bool
  | [], _ => true
  | d :: ds, n => cov d n && covs ds n
theorem repO_cov {cl : Nat → Addr} {F F1 H : Hp} : ∀ {d : D} {n : Nat} {v : V} {B : List Addr}, cov d n = true → RepO cl F1 H d n v B → (∀ a ∈ B, F a = none) → RepO cl F H d n v B := by
  have key : ∀ (d : D) (n : Nat) (v : V) (B : List Addr), cov d n = true → RepO cl F1 H d n v B → (∀ a ∈ B, F a = none) → RepO cl F H d n v B := by
    intro d
    refine D.rec (motive_1 := fun d => ∀ (n : Nat) (v : V) (B : List Addr), cov d n = true → RepO cl F1 H d n v B → (∀ a ∈ B, F a = none) → RepO cl F H d n v B)
      (motive_2 := fun ds => ∀ (n : Nat) (vs : List V) (B : List Addr), cov.covs ds n = true → RepOs cl F1 H ds n vs B → (∀ a ∈ B, F a = none) → RepOs cl F H ds n vs B) ?_ ?_ ?_ ?_ ?_ ?_ ?_ ?_ ?_ ?_ ?_ ?_ ?_ ?_ d
    · intro n v B _ h _; simp only [RepO, RepF] at h ⊢; exact h
    · intro b n v B _ h _; simp only [RepO, RepF] at h ⊢; exact h
    · intro b n v B _ h _; simp only [RepO, RepF] at h ⊢; exact h
    · intro b n v B _ h _; simp only [RepO, RepF] at h ⊢; exact h
    · intro ds ih n v B c h p
      cases n with
      | zero => simp [cov] at c
      | succ n =>
        simp only [cov] at c
        simp only [RepO] at h ⊢
        obtain ⟨a, vs, A', e1, e2, e3, e4, h⟩ := h
        subst e4
        exact ⟨a, vs, A', e1, e2, p a List.mem_cons_self, rfl, ih n vs A' c h fun b hb => p b (List.mem_cons_of_mem _ hb)⟩
    · intro ds ih n v B c h p; simp [cov] at c
    · intro ks ds ih n v B c h p
      cases n with
      | zero => simp [cov] at c
      | succ n =>
        simp only [cov] at c
        simp only [RepO] at h ⊢
        obtain ⟨a, vs, e1, e2, e3, e4, e5, h⟩ := h
        subst e4
        refine ⟨a, vs, e1, e2, p a (by simp), rfl, e5, ?_⟩
        have z : ∀ (ds : List D) (vs : List V), RepFs cl F1 ds vs → RepOs cl F1 H ds 0 vs [] := fun ds => by
          induction ds with
          | nil => intro vs h; simp only [RepOs]; exact ⟨h, trivial⟩
          | cons d ds ih =>
            intro vs h
            obtain ⟨v, r, e1, h1, h2⟩ := h
            simp only [RepOs]
            exact ⟨v, r, [], [], e1, rfl, repO0.mpr ⟨h1, rfl⟩, ih r h2⟩
        have z2 : ∀ (ds : List D) (vs : List V), RepOs cl F H ds 0 vs [] → RepFs cl F ds vs := fun ds => by
          induction ds with
          | nil => intro vs h; simp only [RepOs] at h; exact h.1
          | cons d ds ih =>
            intro vs h
            simp only [RepOs] at h
            obtain ⟨v, r, A1, A2, e1, e2, h1, h2⟩ := h
            obtain ⟨e3, e4⟩ := List.append_eq_nil_iff.mp e2.symm
            subst e3 e4
            exact ⟨v, r, e1, (repO0.mp h1).1, ih r h2⟩
        exact z2 ds vs (ih 0 vs [] c (z ds vs h) (by simp))
    · intro ks ds ih n v B c h p
      cases n with
      | zero => simp [cov] at c
      | succ n =>
        simp only [cov] at c
        simp only [RepO] at h ⊢
        obtain ⟨a, vs, e1, e2, e3, e4, e5, h⟩ := h
        subst e4
        refine ⟨a, vs, e1, e2, p a (by simp), rfl, e5, ?_⟩
        have z : ∀ (ds : List D) (vs : List V), RepFs cl F1 ds vs → RepOs cl F1 H ds 0 vs [] := fun ds => by
          induction ds with
          | nil => intro vs h; simp only [RepOs]; exact ⟨h, trivial⟩
          | cons d ds ih =>
            intro vs h
            obtain ⟨v, r, e1, h1, h2⟩ := h
            simp only [RepOs]
            exact ⟨v, r, [], [], e1, rfl, repO0.mpr ⟨h1, rfl⟩, ih r h2⟩
        have z2 : ∀ (ds : List D) (vs : List V), RepOs cl F H ds 0 vs [] → RepFs cl F ds vs := fun ds => by
          induction ds with
          | nil => intro vs h; simp only [RepOs] at h; exact h.1
          | cons d ds ih =>
            intro vs h
            simp only [RepOs] at h
            obtain ⟨v, r, A1, A2, e1, e2, h1, h2⟩ := h
            obtain ⟨e3, e4⟩ := List.append_eq_nil_iff.mp e2.symm
            subst e3 e4
            exact ⟨v, r, e1, (repO0.mp h1).1, ih r h2⟩
        exact z2 ds vs (ih 0 vs [] c (z ds vs h) (by simp))
    · intro b n v B c h p; simp [cov] at c
    · intro b n v B c h p; simp [cov] at c
    · intro b n v B _ h _; simp only [RepO, RepF] at h ⊢; exact h
    · intro b n v B _ h _; simp only [RepO, RepF] at h ⊢; exact h
    · intro n vs B _ h _; simp only [RepOs] at h ⊢; exact h
    · intro d ds ih1 ih2 n vs B c h p
      simp only [cov.covs, Bool.and_eq_true] at c
      simp only [RepOs] at h ⊢
      obtain ⟨v, r, A1, A2, e1, e2, h1, h2⟩ := h
      subst e2
      exact ⟨v, r, A1, A2, e1, rfl, ih1 n v A1 c.1 h1 fun b hb => p b (List.mem_append_left _ hb), ih2 n r A2 c.2 h2 fun b hb => p b (List.mem_append_right _ hb)⟩
  intro d n v B
  exact key d n v B
def wRoE (w : WE) : WE := fun env Q ex => w (frz env) (fun r _ => cov r.2 r.1 = true ∧ Q r env) (fun n _ => ex n env)
theorem JE.ro {e : Expr} {w : WE} (h : JE T k c e w) : JE T k c e (wRoE w) := fun W => by
  obtain ⟨t, pe, se⟩ := h W
  refine ⟨t, pe, fun env Q ex hw σ F H A le rel nd R k1 kx => ?_⟩
  have own := relL_own le rel
  have hs := fz_same (H := H) fun a ha => (own a ha).2
  refine se (frz env) _ _ hw σ (fz F H A) H [] (fz_le le) (relL_frz hs rel fun a ha => by unfold fz; rw [if_pos ha]) List.nodup_nil R (fun r env1 v F1 H1 A1 B q st le1 rel1 rp nd1 => ?_) (fun n env1 F1 H1 A1 q st le1 rel1 nd1 => ?_)
  · obtain ⟨cv, q⟩ := q
    obtain ⟨s2, le2, rel2⟩ := ro_back le rel (st.less (A'' := []) (by simp))
    obtain ⟨_, ndB, _⟩ := List.nodup_append.mp nd1
    have hB : ∀ a ∈ B, H a = none := fun a ha => (st.newA a (List.mem_append_right _ ha)).elim (fun z => by simp at z) id
    have fB : ∀ a ∈ B, F a = none := fun a ha => le.free (hB a ha)
    refine k1 r env v F H1 A B q ⟨Same.refl F, s2.keep, fun a h => .inl h, fun a h => (List.mem_append.mp h).elim .inl fun h => .inr (hB a h), s2.live⟩ le2 rel2 (repO_cov cv rp fB) ?_
    rw [List.nodup_append]
    exact ⟨nd, ndB, fun a ha b hb e => by subst e; exact (own a ha).1 (hB a hb)⟩
  · obtain ⟨s2, le2, rel2⟩ := ro_back le rel st
    exact kx n env F H1 A q s2 le2 rel2 nd
end
end DL

namespace DL
open PySem PySem.Spec PyProof.Rows L2

section
variable {cl : Nat → Addr} {F H : Hp}
theorem va_atom {d : D} {n : Nat} {v : V} (hd : ∀ (n : Nat) (A : List Addr), RepO cl F H d n v A ↔ RepF cl F d v ∧ A = []) (h : ValAt cl F H (n, d) v) : RepF cl F d v := by
  obtain ⟨A, h⟩ := h
  exact ((hd n A).mp h).1
theorem va_int {n : Nat} {i : Int} {v : V} (h : ValAt cl F H (n, .int i) v) : v = .int i := va_atom (fun _ _ => by simp only [RepO]) h
theorem va_bl {n : Nat} {i : Bool} {v : V} (h : ValAt cl F H (n, .bl i) v) : v = .bl i := va_atom (fun _ _ => by simp only [RepO]) h
theorem va_str {n : Nat} {i : Str} {v : V} (h : ValAt cl F H (n, .str i) v) : v = .str i := va_atom (fun _ _ => by simp only [RepO]) h
theorem va_non {n : Nat} {v : V} (h : ValAt cl F H (n, .non) v) : v = .non := va_atom (fun _ _ => by simp only [RepO]) h
theorem va_scr {n : Nat} {ns : List Int} {v : V} (h : ValAt cl F H (n, .scr ns) v) : ∃ a o, v = .ref a ∧ F a = some (.frz o (.lst (ns.map V.int))) := va_atom (fun _ _ => by simp only [RepO]) h
theorem repOs0 : ∀ {ds : List D} {vs : List V} {A : List Addr}, RepOs cl F H ds 0 vs A → RepFs cl F ds vs
  | [], _, _, h => by simp only [RepOs] at h; exact h.1
  | d :: ds, _, _, h => by
    simp only [RepOs] at h
    obtain ⟨v, r, A1, A2, e1, e2, h1, h2⟩ := h
    exact ⟨v, r, e1, (repO0.mp h1).1, repOs0 h2⟩
theorem repOs0_nil : ∀ {ds : List D} {vs : List V} {A : List Addr}, RepOs cl F H ds 0 vs A → A = []
  | [], _, _, h => by simp only [RepOs] at h; exact h.2
  | d :: ds, _, _, h => by
    simp only [RepOs] at h
    obtain ⟨v, r, A1, A2, e1, e2, h1, h2⟩ := h
    rw [e2, (repO0.mp h1).2, repOs0_nil h2]; rfl
theorem repOs_len : ∀ {ds : List D} {n : Nat} {vs : List V} {A : List Addr}, RepOs cl F H ds n vs A → ds.length = vs.length
  | [], _, _, _, h => by simp only [RepOs] at h; rw [h.1]; rfl
  | d :: ds, _, _, _, h => by
    simp only [RepOs] at h
    obtain ⟨v, r, A1, A2, e1, e2, h1, h2⟩ := h
    subst e1
    simp [repOs_len h2]
theorem va_lst {n : Nat} {ds : List D} {v : V} (le : Same F H) (h : ValAt cl F H (n, .lst ds) v) (hn : n ≤ 1) : ∃ a vs, v = .ref a ∧ H a = some (.lst vs) ∧ RepFs cl F ds vs := by
  obtain ⟨A, h⟩ := h
  cases n with
  | zero =>
    obtain ⟨⟨a, vs, e1, e2, h⟩, _⟩ := repO0.mp h
    exact ⟨a, vs, e1, le _ _ e2, h⟩
  | succ n =>
    have : n = 0 := by omega
    subst this
    simp only [RepO] at h
    obtain ⟨a, vs, A', e1, e2, e3, e4, h⟩ := h
    exact ⟨a, vs, e1, e2, repOs0 h⟩
theorem va_lstN {n : Nat} {ds : List D} {v : V} (le : Same F H) (h : ValAt cl F H (n, .lst ds) v) : ∃ a vs, v = .ref a ∧ H a = some (.lst vs) ∧ ds.length = vs.length := by
  obtain ⟨A, h⟩ := h
  cases n with
  | zero =>
    obtain ⟨⟨a, vs, e1, e2, h⟩, _⟩ := repO0.mp h
    exact ⟨a, vs, e1, le _ _ e2, repFs_len h⟩
  | succ n =>
    simp only [RepO] at h
    obtain ⟨a, vs, A', e1, e2, e3, e4, h⟩ := h
    exact ⟨a, vs, e1, e2, repOs_len h⟩
theorem va_tup {ds : List D} {v : V} (le : Same F H) (h : ValAt cl F H (0, .tup ds) v) : ∃ a vs, v = .ref a ∧ F a = some (.tup vs) ∧ RepFs cl F ds vs := by
  obtain ⟨A, h⟩ := h
  obtain ⟨⟨a, vs, e1, e2, h⟩, _⟩ := repO0.mp h
  exact ⟨a, vs, e1, e2, h⟩
theorem va_tupN {n : Nat} {ds : List D} {v : V} (le : Same F H) (h : ValAt cl F H (n, .tup ds) v) : ∃ a vs, v = .ref a ∧ H a = some (.tup vs) ∧ ds.length = vs.length := by
  obtain ⟨A, h⟩ := h
  simp only [RepO] at h
  obtain ⟨a, vs, e1, e2, h⟩ := h
  exact ⟨a, vs, e1, le _ _ e2, repOs_len h⟩
theorem vs1 {x : Val} {vs : List V} (h : ValsAt cl F H [x] vs) : ∃ v, vs = [v] ∧ ValAt cl F H x v := by
  obtain ⟨v, r, e1, h1, e2⟩ := h
  exact ⟨v, by rw [e1, e2], h1⟩
theorem vs2 {x y : Val} {vs : List V} (h : ValsAt cl F H [x, y] vs) : ∃ v u, vs = [v, u] ∧ ValAt cl F H x v ∧ ValAt cl F H y u := by
  obtain ⟨v, r, e1, h1, h2⟩ := h
  obtain ⟨u, e2, h3⟩ := vs1 h2
  exact ⟨v, u, by rw [e1, e2], h1, h3⟩
end
section
variable {cl : Nat → Addr} {r : List V → Hp → VK → Prop} {g : List Val → Option Val}
theorem OpSem.val (h : ∀ (F H : Hp) (xs : List Val) (vs : List V), Same F H → ValsAt cl F H xs vs → ∀ res, g xs = some res → ∃ v d, res = (0, d) ∧ RepF cl F d v ∧ ∀ R : VK, R v H → r vs H R) : OpSem cl r g := by
  intro F H xs vs le hv res e R k
  obtain ⟨v, d, e1, rf, q⟩ := h F H xs vs le hv res e
  subst e1
  exact q R (k v F H [] (Same.refl F) (Same.refl H) le (fun a h => .inl h) (by simp) List.nodup_nil (repO0.mpr ⟨rf, rfl⟩))
theorem upd_new {F H : Hp} {p : Addr} {o : HO} (le : Same F H) (np : H p = none) : Same H (upd H p o) ∧ Same F (upd H p o) ∧ F p = none := by
  have h1 : Same H (upd H p o) := fun b u e => by rw [upd_ne (ne_of_none e np)]; exact e
  exact ⟨h1, le.trans h1, le.free np⟩
theorem OpSem.newL (h : ∀ (F H : Hp) (xs : List Val) (vs : List V), Same F H → ValsAt cl F H xs vs → ∀ res, g xs = some res → ∃ ds us, res = (1, .lst ds) ∧ RepFs cl F ds us ∧ ∀ R : VK, (∀ p, H p = none → R (.ref p) (upd H p (.lst us))) → r vs H R) : OpSem cl r g := by
  intro F H xs vs le hv res e R k
  obtain ⟨ds, us, e1, rf, q⟩ := h F H xs vs le hv res e
  subst e1
  refine q R fun p np => ?_
  obtain ⟨h1, h2, h3⟩ := upd_new (o := .lst us) le np
  refine k (.ref p) F _ [p] (Same.refl F) h1 h2 (fun a h => .inl h) (fun a ha => by simp at ha; rw [ha]; exact np) (by simp) ?_
  simp only [RepO]
  refine ⟨p, us, [], rfl, upd_same, h3, rfl, ?_⟩
  have z : ∀ (ds : List D) (us : List V), RepFs cl F ds us → RepOs cl F (upd H p (.lst us)) ds 0 us [] := fun ds => by
    intro us
    generalize upd H p (.lst us) = H'
    induction ds generalizing us with
    | nil => intro h; simp only [RepOs]; exact ⟨h, trivial⟩
    | cons d ds ih =>
      intro h
      obtain ⟨v, r, e1, h1, h2⟩ := h
      simp only [RepOs]
      exact ⟨v, r, [], [], e1, rfl, repO0.mpr ⟨h1, rfl⟩, ih r h2⟩
  exact z ds us rf
theorem OpSem.newT (h : ∀ (F H : Hp) (xs : List Val) (vs : List V), Same F H → ValsAt cl F H xs vs → ∀ res, g xs = some res → ∃ ds us, res = (0, .tup ds) ∧ RepFs cl F ds us ∧ ∀ R : VK, (∀ p, H p = none → R (.ref p) (upd H p (.tup us))) → r vs H R) : OpSem cl r g := by
  intro F H xs vs le hv res e R k
  obtain ⟨ds, us, e1, rf, q⟩ := h F H xs vs le hv res e
  subst e1
  refine q R fun p np => ?_
  obtain ⟨h1, h2, h3⟩ := upd_new (o := .tup us) le np
  have mF : Same F (upd F p (.tup us)) := fun b u e => by rw [upd_ne (ne_of_none e h3)]; exact e
  have le' : Same (upd F p (.tup us)) (upd H p (.tup us)) := fun b u e => by
    by_cases hb : b = p
    · subst hb; rw [upd_same] at e ⊢; exact e
    · rw [upd_ne hb] at e ⊢; exact le b u e
  refine k (.ref p) (upd F p (.tup us)) _ [] mF h1 le' (fun a h => ?_) (by simp) List.nodup_nil (repO0.mpr ⟨⟨p, us, rfl, upd_same, repFs_mono mF rf⟩, rfl⟩)
  by_cases hb : a = p
  · subst hb; exact .inr np
  · rw [upd_ne hb] at h; exact .inl h
theorem OpSem.or {r' : List V → Hp → VK → Prop} {g' : List Val → Option Val} (h : OpSem cl r g) (h' : OpSem cl r' g') : OpSem cl (fun vs H Q => r vs H Q ∨ r' vs H Q) (fun xs => g xs <|> g' xs) := by
  intro F H xs vs le hv res e R k
  have e : (g xs <|> g' xs) = some res := e
  cases q : g xs with
  | some z =>
    rw [q] at e
    have e' : z = res := Option.some.inj e
    subst e'
    exact .inl (h F H xs vs le hv z q R k)
  | none =>
    rw [q] at e
    exact .inr (h' F H xs vs le hv res e R k)
theorem OpSem.sub {g' : List Val → Option Val} (h : OpSem cl r g) (hg : ∀ xs res, g' xs = some res → g xs = some res) : OpSem cl r g' := fun F H xs vs le hv res e R k => h F H xs vs le hv res (hg xs res e) R k
end
def R2o (r r' : R2) : R2 := fun x y H Q => r x y H Q ∨ r' x y H Q
theorem R2o.op {X : Cx} {f : Value → Value → Sem Value} {r r' : R2} (h : OpR X f r) (h' : OpR X f r') : OpR X f (R2o r r') := by
  intro pins s σ H x y v u Q I rx ry q
  rcases q with q | q
  · exact h pins s σ H x y v u Q I rx ry q
  · exact h' pins s σ H x y v u Q I rx ry q
theorem R2o.ix {X : Cx} {r r' : R2} (h : IxR X r) (h' : IxR X r') : IxR X (R2o r r') := h.or h'
theorem R2L_or {cl : Nat → Addr} {r r' : R2} {g g' : List Val → Option Val} (h : OpSem cl (R2L r) g) (h' : OpSem cl (R2L r') g') : OpSem cl (R2L (R2o r r')) (fun xs => g xs <|> g' xs) := by
  intro F H xs vs le hv res e R k
  have q := OpSem.or h h' F H xs vs le hv res e R k
  match vs, q with
  | [x, y], q => exact q
  | [], q => exact q.elim id id
  | [x], q => exact q.elim id id
  | _ :: _ :: _ :: _, q => exact q.elim id id

def gI2 (f : Int → Int → Option D) : List Val → Option Val
  | [(_, .int a), (_, .int b)] => (f a b).map fun d => (0, d)
  | _ => none
theorem os_I2 {cl : Nat → Addr} {C : Int → Int → Prop} {h : Int → Int → V} {f : Int → Int → Option D} (hf : ∀ i j d, f i j = some d → C i j ∧ ∀ F, RepF cl F d (h i j)) : OpSem cl (R2L (rI C h)) (gI2 f) := by
  refine OpSem.val fun F H xs vs le hv res e => ?_
  unfold gI2 at e
  split at e
  · rename_i n a m b
    obtain ⟨v, u, e1, h1, h2⟩ := vs2 hv
    cases q : f a b with
    | none => rw [q] at e; cases e
    | some d =>
      rw [q] at e
      have e' : ((0 : Nat), d) = res := Option.some.inj e
      obtain ⟨hc, hr⟩ := hf a b d q
      refine ⟨h a b, d, e'.symm, hr F, fun R hR => ?_⟩
      rw [e1, va_int h1, va_int h2]
      exact ⟨a, b, rfl, rfl, hc, hR⟩
  · cases e
theorem os_I20 {cl : Nat → Addr} {h : Int → Int → V} {f : Int → Int → D} (hf : ∀ i j F, RepF cl F (f i j) (h i j)) : OpSem cl (R2L (rI0 h)) (gI2 fun i j => some (f i j)) := by
  refine OpSem.val fun F H xs vs le hv res e => ?_
  unfold gI2 at e
  split at e
  · rename_i n a m b
    obtain ⟨v, u, e1, h1, h2⟩ := vs2 hv
    have e' : ((0 : Nat), f a b) = res := Option.some.inj e
    refine ⟨h a b, f a b, e'.symm, hf a b F, fun R hR => ?_⟩
    rw [e1, va_int h1, va_int h2]
    exact ⟨a, b, rfl, rfl, hR⟩
  · cases e
def bits (i : Int) (n : Nat) : Bool := decide (i.natAbs.log2 < n)
def gSub := gI2 fun i j => some (.int (i - j))
def gFdiv := gI2 fun i j => if 0 < j ∧ j.natAbs.log2 < 9000 then some (.int (i / j)) else none
def gMod := gI2 fun i j => if 0 < j then some (.int (i % j)) else none
def gPow := gI2 fun i j => if 0 ≤ j ∧ j ≤ 1000000 ∧ i.natAbs < 2 ^ 64 then some (.int (i ^ j.toNat)) else none
def gShl := gI2 fun i j => if 0 ≤ j ∧ j ≤ 1000000 ∧ i.natAbs < 2 ^ 64 then some (.int (i * 2 ^ j.toNat)) else none
def gShr := gI2 fun i j => if 0 ≤ j then some (.int (i / 2 ^ j.toNat)) else none
def gAnd := gI2 fun i j => some (.int (Builtin.bitAnd i j))
def gOr := gI2 fun i j => some (.int (Builtin.bitOr i j))
def gXor := gI2 fun i j => some (.int (Builtin.bitXor i j))
def gMulI := gI2 fun i j => if i.natAbs.log2 + j.natAbs.log2 < 1000000 then some (.int (i * j)) else none
def gLt := gI2 fun i j => some (.bl (decide (i < j)))
def gLe := gI2 fun i j => some (.bl (decide (i ≤ j)))
def gGt := gI2 fun i j => some (.bl (decide (j < i)))
def gGe := gI2 fun i j => some (.bl (decide (j ≤ i)))
def gAddI := gI2 fun i j => some (.int (i + j))
section
variable {cl : Nat → Addr}
theorem iteSome {α : Type} {c : Prop} [Decidable c] {x y : α} (h : (if c then some x else none) = some y) : c ∧ x = y := by
  by_cases q : c
  · rw [if_pos q] at h; exact ⟨q, Option.some.inj h⟩
  · rw [if_neg q] at h; cases h
theorem os_sub : OpSem cl (R2L (rI0 fun i j => .int (i - j))) gSub := os_I20 fun _ _ _ => rfl
theorem os_addI : OpSem cl (R2L (rI0 fun i j => .int (i + j))) gAddI := os_I20 fun _ _ _ => rfl
theorem os_fdiv : OpSem cl (R2L (rI CDivW fun i j => .int (i / j))) gFdiv := os_I2 fun i j d h => by
  obtain ⟨h1, h2⟩ := iteSome h
  subst h2
  exact ⟨h1, fun _ => rfl⟩
theorem os_mod : OpSem cl (R2L (rI (fun _ j => 0 < j) fun i j => .int (i % j))) gMod := os_I2 fun i j d h => by
  obtain ⟨h1, h2⟩ := iteSome h
  subst h2
  exact ⟨h1, fun _ => rfl⟩
theorem os_pow : OpSem cl (R2L (rI CPow fun i j => .int (i ^ j.toNat))) gPow := os_I2 fun i j d h => by
  obtain ⟨h1, h2⟩ := iteSome h
  subst h2
  exact ⟨h1, fun _ => rfl⟩
theorem os_shl : OpSem cl (R2L (rI CPow fun i j => .int (i * 2 ^ j.toNat))) gShl := os_I2 fun i j d h => by
  obtain ⟨h1, h2⟩ := iteSome h
  subst h2
  exact ⟨h1, fun _ => rfl⟩
theorem os_shr : OpSem cl (R2L (rI (fun _ j => 0 ≤ j) fun i j => .int (i / 2 ^ j.toNat))) gShr := os_I2 fun i j d h => by
  obtain ⟨h1, h2⟩ := iteSome h
  subst h2
  exact ⟨h1, fun _ => rfl⟩
theorem os_mulI : OpSem cl (R2L (rI CMulW fun i j => .int (i * j))) gMulI := os_I2 fun i j d h => by
  obtain ⟨h1, h2⟩ := iteSome h
  subst h2
  exact ⟨h1, fun _ => rfl⟩
theorem os_and : OpSem cl (R2L (rI0 fun i j => .int (Builtin.bitAnd i j))) gAnd := os_I20 fun _ _ _ => rfl
theorem os_or : OpSem cl (R2L (rI0 fun i j => .int (Builtin.bitOr i j))) gOr := os_I20 fun _ _ _ => rfl
theorem os_xor : OpSem cl (R2L (rI0 fun i j => .int (Builtin.bitXor i j))) gXor := os_I20 fun _ _ _ => rfl
theorem os_lt : OpSem cl (R2L (rI0 fun i j => .bl (decide (i < j)))) gLt := os_I20 fun _ _ _ => rfl
theorem os_le : OpSem cl (R2L (rI0 fun i j => .bl (decide (i ≤ j)))) gLe := os_I20 fun _ _ _ => rfl
theorem os_gt : OpSem cl (R2L (rI0 fun i j => .bl (decide (j < i)))) gGt := os_I20 fun _ _ _ => rfl
theorem os_ge : OpSem cl (R2L (rI0 fun i j => .bl (decide (j ≤ i)))) gGe := os_I20 fun _ _ _ => rfl
def gI1 (f : Int → D) : List Val → Option Val
  | [(_, .int a)] => some (0, f a)
  | _ => none
def gNeg := gI1 fun i => .int (-i)
def gInv := gI1 fun i => .int (Builtin.bitNot i)
theorem os_I1 {h : Int → V} {f : Int → D} (hf : ∀ i F, RepF cl F (f i) (h i)) : OpSem cl (R1L (rU h)) (gI1 f) := by
  refine OpSem.val fun F H xs vs le hv res e => ?_
  unfold gI1 at e
  split at e
  · rename_i n a
    obtain ⟨v, e1, h1⟩ := vs1 hv
    have e' : ((0 : Nat), f a) = res := Option.some.inj e
    refine ⟨h a, f a, e'.symm, hf a F, fun R hR => ?_⟩
    rw [e1, va_int h1]
    exact ⟨a, rfl, hR⟩
  · cases e
theorem os_neg : OpSem cl (R1L (rU fun i => .int (-i))) gNeg := os_I1 fun _ _ => rfl
theorem os_inv : OpSem cl (R1L (rU fun i => .int (Builtin.bitNot i))) gInv := os_I1 fun _ _ => rfl

def gCatL : List Val → Option Val
  | [(n, .lst xs), (m, .lst ys)] => if n ≤ 1 ∧ m ≤ 1 ∧ xs.length + ys.length ≤ 16777216 then some (1, .lst (xs ++ ys)) else none
  | _ => none
theorem os_catL : OpSem cl (R2L rCat) gCatL := by
  refine OpSem.newL fun F H xs vs le hv res e => ?_
  unfold gCatL at e
  split at e
  · rename_i n ds m es
    obtain ⟨⟨hn, hm, hl⟩, e2⟩ := iteSome e
    obtain ⟨v, u, e1, h1, h2⟩ := vs2 hv
    obtain ⟨a, us, p1, p2, p3⟩ := va_lst le h1 hn
    obtain ⟨b, ws, q1, q2, q3⟩ := va_lst le h2 hm
    refine ⟨ds ++ es, us ++ ws, e2.symm, repFs_app p3 q3, fun R hR => ?_⟩
    rw [e1, p1, q1]
    exact ⟨a, b, us, ws, rfl, rfl, p2, q2, by rw [← repFs_len p3, ← repFs_len q3, sizeLine_eq]; exact hl, hR⟩
  · cases e
def rAddS : R2 := fun x y H Q => ∃ i j, x = .str i ∧ y = .str j ∧ i.length + j.length ≤ sizeLine ∧ Q (.str (i ++ j)) H
def gAddS : List Val → Option Val
  | [(_, .str a), (_, .str b)] => if a.length + b.length ≤ 16777216 then some (0, .str (a ++ b)) else none
  | _ => none
theorem os_addS : OpSem cl (R2L rAddS) gAddS := by
  refine OpSem.val fun F H xs vs le hv res e => ?_
  unfold gAddS at e
  split at e
  · rename_i n a m b
    obtain ⟨hl, e2⟩ := iteSome e
    obtain ⟨v, u, e1, h1, h2⟩ := vs2 hv
    refine ⟨.str (a ++ b), .str (a ++ b), e2.symm, rfl, fun R hR => ?_⟩
    rw [e1, va_str h1, va_str h2]
    exact ⟨a, b, rfl, rfl, by rw [sizeLine_eq]; exact hl, hR⟩
  · cases e
def gAdd : List Val → Option Val
  | [(_, .int a), (_, .int b)] => some (0, .int (a + b))
  | [(n, .lst xs), (m, .lst ys)] => if n ≤ 1 ∧ m ≤ 1 ∧ xs.length + ys.length ≤ 16777216 then some (1, .lst (xs ++ ys)) else none
  | [(_, .str a), (_, .str b)] => if a.length + b.length ≤ 16777216 then some (0, .str (a ++ b)) else none
  | _ => none
def rAddA : R2 := R2o (rI0 fun i j => .int (i + j)) (R2o rCat rAddS)
theorem op_addA {X : Cx} : OpR X (binaryOp .Add) rAddA := R2o.op op_add (R2o.op op_cat op_add_str)
theorem os_add : OpSem cl (R2L rAddA) gAdd := OpSem.sub (R2L_or os_addI (R2L_or os_catL os_addS)) fun xs res e => by
  unfold gAdd at e
  split at e
  · exact e
  · show (_ : Option Val) = _
    simp only [gAddI, gI2, gCatL]
    rw [e]; rfl
  · simp only [gAddI, gI2, gCatL, gAddS]
    rw [e]; rfl
  · cases e
def gMulL : List Val → Option Val
  | [(n, .lst xs), (_, .int k)] => if n ≤ 1 ∧ -(2 ^ 63) ≤ k ∧ k < 2 ^ 63 ∧ xs.length * k.toNat ≤ 16777216 then some (1, .lst (List.replicate k.toNat xs).flatten) else none
  | _ => none
theorem os_mulL : OpSem cl (R2L rRep) gMulL := by
  refine OpSem.newL fun F H xs vs le hv res e => ?_
  unfold gMulL at e
  split at e
  · rename_i n ds m k
    obtain ⟨⟨hn, h1, h2, hl⟩, e2⟩ := iteSome e
    obtain ⟨v, u, e1, h3, h4⟩ := vs2 hv
    obtain ⟨a, us, p1, p2, p3⟩ := va_lst le h3 hn
    refine ⟨_, _, e2.symm, repFs_rep p3 k.toNat, fun R hR => ?_⟩
    rw [e1, p1, va_int h4]
    exact ⟨a, k, us, rfl, rfl, p2, h1, h2, by rw [← repFs_len p3, sizeLine_eq]; exact hl, hR⟩
  · cases e
def gMul : List Val → Option Val
  | [(_, .int i), (_, .int j)] => if i.natAbs.log2 + j.natAbs.log2 < 1000000 then some (0, .int (i * j)) else none
  | [(n, .lst xs), (_, .int k)] => if n ≤ 1 ∧ -(2 ^ 63) ≤ k ∧ k < 2 ^ 63 ∧ xs.length * k.toNat ≤ 16777216 then some (1, .lst (List.replicate k.toNat xs).flatten) else none
  | _ => none
def rMulA : R2 := R2o (rI CMulW fun i j => .int (i * j)) rRep
theorem op_mulA {X : Cx} : OpR X (binaryOp .Mult) rMulA := R2o.op op_mulW op_rep
theorem os_mul : OpSem cl (R2L rMulA) gMul := OpSem.sub (R2L_or os_mulI os_mulL) fun xs res e => by
  unfold gMul at e
  split at e
  · show (_ : Option Val) = _
    simp only [gMulI, gI2]
    obtain ⟨h1, h2⟩ := iteSome e
    rw [if_pos h1, ← h2]; rfl
  · simp only [gMulI, gI2, gMulL]
    rw [e]; rfl
  · cases e

def py : D → PyData
  | .non => .none
  | .bl b => .bool b
  | .int i => .int i
  | .str s => .str s
  | .lst xs => .list (pys xs)
  | .tup xs => .tuple (pys xs)
  | .dk _ _ => .dict []
  | .dt _ _ => .dict []
  | .exc _ => .dict []
  | .scr _ => .dict []
  | .ty _ => .dict []
  | .own _ => .dict []
where pys : List D → List PyData
  | [] => []
  | d :: ds => py d :: pys ds
def shp : Nat → D → Bool
  | _, .non => true
  | _, .bl _ => true
  | _, .int _ => true
  | _, .str s => PyData.strOk s
  | 0, .lst _ => false
  | n + 1, .lst xs => shps n xs
  | 0, .tup _ => false
  | n + 1, .tup xs => shps n xs
  | _, _ => false
where shps : Nat → List D → Bool
  | _, [] => true
  | n, d :: ds => shp n d && shps n ds
def eqD (a b : D) : Bool := PyData.eqv (py a) (py b)
end
end DL

namespace DL
open PySem PySem.Spec PyProof.Rows L2

section
variable {K : PySem.W.Frag} {cl : Nat → Addr} {F H : Hp}
theorem repOs_of0 : ∀ {ds : List D} {vs : List V}, RepFs cl F ds vs → RepOs cl F H ds 0 vs []
  | [], _, h => by simp only [RepOs]; exact ⟨h, trivial⟩
  | d :: ds, _, ⟨v, r, e1, h1, h2⟩ => by
    simp only [RepOs]
    exact ⟨v, r, [], [], e1, rfl, repO0.mpr ⟨h1, rfl⟩, repOs_of0 h2⟩
theorem shp_shaped : ∀ {d : D} {m : Nat}, shp m d = true → (py d).canLay0 = true ∧ (py d).depth ≤ m := by
  have key : ∀ (d : D) (m : Nat), shp m d = true → (py d).canLay0 = true ∧ (py d).depth ≤ m := by
    intro d
    refine D.rec (motive_1 := fun d => ∀ (m : Nat), shp m d = true → (py d).canLay0 = true ∧ (py d).depth ≤ m)
      (motive_2 := fun ds => ∀ (m : Nat), shp.shps m ds = true → PyData.canLayAll0 (py.pys ds) = true ∧ PyData.depthAll (py.pys ds) ≤ m) ?_ ?_ ?_ ?_ ?_ ?_ ?_ ?_ ?_ ?_ ?_ ?_ ?_ ?_ d
    · intro m h; simp [py, PyData.canLay0, PyData.depth]
    · intro b m h; simp [py, PyData.canLay0, PyData.depth]
    · intro b m h; simp [py, PyData.canLay0, PyData.depth]
    · intro b m h
      have h' : PyData.strOk b = true := by cases m <;> simpa [shp] using h
      simp [py, PyData.canLay0, PyData.depth, h']
    · intro ds ih m h
      cases m with
      | zero => simp [shp] at h
      | succ m =>
        simp only [shp] at h
        obtain ⟨h1, h2⟩ := ih m h
        simp only [py, PyData.canLay0, PyData.depth]
        exact ⟨h1, by omega⟩
    · intro ds ih m h
      cases m with
      | zero => simp [shp] at h
      | succ m =>
        simp only [shp] at h
        obtain ⟨h1, h2⟩ := ih m h
        simp only [py, PyData.canLay0, PyData.depth]
        exact ⟨h1, by omega⟩
    · intro ks ds ih m h; cases m <;> simp [shp] at h
    · intro ks ds ih m h; cases m <;> simp [shp] at h
    · intro b m h; cases m <;> simp [shp] at h
    · intro b m h; cases m <;> simp [shp] at h
    · intro b m h; cases m <;> simp [shp] at h
    · intro b m h; cases m <;> simp [shp] at h
    · intro m h; simp [py.pys, PyData.canLayAll0, PyData.depthAll]
    · intro d ds ih1 ih2 m h
      simp only [shp.shps, Bool.and_eq_true] at h
      obtain ⟨h1, h2⟩ := ih1 m h.1
      obtain ⟨h3, h4⟩ := ih2 m h.2
      simp only [py.pys, PyData.canLayAll0, PyData.depthAll, Bool.and_eq_true]
      exact ⟨⟨h1, h3⟩, by omega⟩
  intro d m
  exact key d m
theorem repO_dp (le : Same F H) : ∀ {d : D} {n : Nat} {v : V} {A : List Addr} {m : Nat}, RepO cl F H d n v A → shp m d = true → Dp K H v (py d) := by
  have key : ∀ (d : D) (n : Nat) (v : V) (A : List Addr) (m : Nat), RepO cl F H d n v A → shp m d = true → Dp K H v (py d) := by
    intro d
    refine D.rec (motive_1 := fun d => ∀ (n : Nat) (v : V) (A : List Addr) (m : Nat), RepO cl F H d n v A → shp m d = true → Dp K H v (py d))
      (motive_2 := fun ds => ∀ (n : Nat) (vs : List V) (A : List Addr) (m : Nat), RepOs cl F H ds n vs A → shp.shps m ds = true → DpAll K H vs (py.pys ds)) ?_ ?_ ?_ ?_ ?_ ?_ ?_ ?_ ?_ ?_ ?_ ?_ ?_ ?_ d
    · intro n v A m h _; simp only [RepO, RepF] at h; rw [h.1]; exact .non
    · intro b n v A m h _; simp only [RepO, RepF] at h; rw [h.1]; exact .bl b
    · intro b n v A m h _; simp only [RepO, RepF] at h; rw [h.1]; exact .int b
    · intro b n v A m h _; simp only [RepO, RepF] at h; rw [h.1]; exact .str b
    · intro ds ih n v A m h s
      cases m with
      | zero => simp [shp] at s
      | succ m =>
        simp only [shp] at s
        cases n with
        | zero =>
          obtain ⟨⟨a, vs, e1, e2, hr⟩, _⟩ := repO0.mp h
          subst e1
          have : RepOs cl F H ds 0 vs [] := repOs_of0 hr
          exact .lst (.inl (.inl (le _ _ e2))) (ih 0 vs [] m this s)
        | succ n =>
          simp only [RepO] at h
          obtain ⟨a, vs, A', e1, e2, e3, e4, h⟩ := h
          subst e1
          exact .lst (.inl (.inl e2)) (ih n vs A' m h s)
    · intro ds ih n v A m h s
      cases m with
      | zero => simp [shp] at s
      | succ m =>
        simp only [shp] at s
        simp only [RepO] at h
        obtain ⟨a, vs, e1, e2, h⟩ := h
        subst e1
        exact .tup (.inl (.inl (le _ _ e2))) (ih n vs A m h s)
    · intro ks ds ih n v A m h s; cases m <;> simp [shp] at s
    · intro ks ds ih n v A m h s; cases m <;> simp [shp] at s
    · intro b n v A m h s; cases m <;> simp [shp] at s
    · intro b n v A m h s; cases m <;> simp [shp] at s
    · intro b n v A m h s; cases m <;> simp [shp] at s
    · intro b n v A m h s; cases m <;> simp [shp] at s
    · intro n vs A m h _; simp only [RepOs] at h; rw [h.1]; exact .nil
    · intro d ds ih1 ih2 n vs A m h s
      simp only [shp.shps, Bool.and_eq_true] at s
      simp only [RepOs] at h
      obtain ⟨v, r, A1, A2, e1, e2, h1, h2⟩ := h
      subst e1
      exact .cons (ih1 n v A1 m h1 s.1) (ih2 n r A2 m h2 s.2)
  intro d n v A m h s
  exact key d n v A m h s
theorem va_dp {n : Nat} {d : D} {v : V} {m : Nat} (le : Same F H) (h : ValAt cl F H (n, d) v) (s : shp m d = true) : Dp K H v (py d) := by
  obtain ⟨A, h⟩ := h
  exact repO_dp le h s
theorem shaped_of {d : D} (h : shp 16 d = true) : SeqAt.shaped (py d) = true := by
  obtain ⟨h1, h2⟩ := shp_shaped h
  unfold SeqAt.shaped
  rw [h1, decide_eq_true (by omega)]; rfl
end

section
variable {K : PySem.W.Frag} {cl : Nat → Addr}
def gEq : List Val → Option Val
  | [(_, a), (_, b)] => if shp 16 a = true ∧ shp 16 b = true then some (0, .bl (eqD a b)) else none
  | _ => none
def gNe : List Val → Option Val
  | [(_, a), (_, b)] => if shp 16 a = true ∧ shp 16 b = true then some (0, .bl (!eqD a b)) else none
  | _ => none
theorem os_eq : OpSem cl (R2L (rEqD K)) gEq := by
  refine OpSem.val fun F H xs vs le hv res e => ?_
  unfold gEq at e
  split at e
  · rename_i n a m b
    obtain ⟨⟨s1, s2⟩, e2⟩ := iteSome e
    obtain ⟨v, u, e1, h1, h2⟩ := vs2 hv
    refine ⟨.bl (eqD a b), .bl (eqD a b), e2.symm, rfl, fun R hR => ?_⟩
    rw [e1]
    exact ⟨py a, py b, va_dp le h1 s1, va_dp le h2 s2, shaped_of s1, shaped_of s2, hR⟩
  · cases e
theorem os_ne : OpSem cl (R2L (rNeD K)) gNe := by
  refine OpSem.val fun F H xs vs le hv res e => ?_
  unfold gNe at e
  split at e
  · rename_i n a m b
    obtain ⟨⟨s1, s2⟩, e2⟩ := iteSome e
    obtain ⟨v, u, e1, h1, h2⟩ := vs2 hv
    refine ⟨.bl (!eqD a b), .bl (!eqD a b), e2.symm, rfl, fun R hR => ?_⟩
    rw [e1]
    exact ⟨py a, py b, va_dp le h1 s1, va_dp le h2 s2, shaped_of s1, shaped_of s2, hR⟩
  · cases e
def isN : D → Bool
  | .non => true
  | _ => false
theorem va_isN {F H : Hp} {n : Nat} {d : D} {v : V} (h : ValAt cl F H (n, d) v) : decide (v = .non) = isN d := by
  cases d with
  | non => rw [va_non h]; rfl
  | bl b => rw [va_bl h]; rfl
  | int b => rw [va_int h]; rfl
  | str b => rw [va_str h]; rfl
  | lst ds =>
    obtain ⟨A, h⟩ := h
    cases n with
    | zero => obtain ⟨⟨a, vs, e1, _⟩, _⟩ := repO0.mp h; rw [e1]; rfl
    | succ n => simp only [RepO] at h; obtain ⟨a, vs, A', e1, _⟩ := h; rw [e1]; rfl
  | tup ds =>
    obtain ⟨A, h⟩ := h
    simp only [RepO] at h; obtain ⟨a, vs, e1, _⟩ := h; rw [e1]; rfl
  | dk ks ds =>
    obtain ⟨A, h⟩ := h
    cases n with
    | zero => obtain ⟨⟨a, vs, e1, _⟩, _⟩ := repO0.mp h; rw [e1]; rfl
    | succ n => simp only [RepO] at h; obtain ⟨a, vs, e1, _⟩ := h; rw [e1]; rfl
  | dt ks ds =>
    obtain ⟨A, h⟩ := h
    cases n with
    | zero => obtain ⟨⟨a, vs, e1, _⟩, _⟩ := repO0.mp h; rw [e1]; rfl
    | succ n => simp only [RepO] at h; obtain ⟨a, vs, e1, _⟩ := h; rw [e1]; rfl
  | exc c =>
    obtain ⟨A, h⟩ := h
    simp only [RepO, RepF] at h; obtain ⟨⟨a, e1, _⟩, _⟩ := h; rw [e1]; rfl
  | scr ns =>
    obtain ⟨a, o, e1, _⟩ := va_scr h; rw [e1]; rfl
  | ty n =>
    have e1 : v = n ∧ n ≠ .non := va_atom (d := .ty n) (fun _ _ => by simp only [RepO]) h
    rw [e1.1]; exact decide_eq_false e1.2
  | own n => have e1 : v = .ref (cl n) := va_atom (fun _ _ => by simp only [RepO]) h; rw [e1]; rfl
def rIsN : R2 := fun x y H Q => y = .non ∧ Q (.bl (decide (x = .non))) H
def rNotN : R2 := fun x y H Q => y = .non ∧ Q (.bl (!decide (x = .non))) H
def gIsN : List Val → Option Val
  | [(_, a), (_, .non)] => some (0, .bl (isN a))
  | _ => none
def gNotN : List Val → Option Val
  | [(_, a), (_, .non)] => some (0, .bl (!isN a))
  | _ => none
theorem os_isN : OpSem cl (R2L rIsN) gIsN := by
  refine OpSem.val fun F H xs vs le hv res e => ?_
  unfold gIsN at e
  split at e
  · rename_i n a m
    obtain ⟨v, u, e1, h1, h2⟩ := vs2 hv
    refine ⟨.bl (isN a), .bl (isN a), (Option.some.inj e).symm, rfl, fun R hR => ?_⟩
    rw [e1]
    exact ⟨va_non h2, by rw [va_isN h1]; exact hR⟩
  · cases e
theorem os_notN : OpSem cl (R2L rNotN) gNotN := by
  refine OpSem.val fun F H xs vs le hv res e => ?_
  unfold gNotN at e
  split at e
  · rename_i n a m
    obtain ⟨v, u, e1, h1, h2⟩ := vs2 hv
    refine ⟨.bl (!isN a), .bl (!isN a), (Option.some.inj e).symm, rfl, fun R hR => ?_⟩
    rw [e1]
    exact ⟨va_non h2, by rw [va_isN h1]; exact hR⟩
  · cases e

def keyOf : D → Option Key
  | .int i => some (.inl i)
  | .str s => some (.inr s)
  | _ => none
def keysOf : List D → Option (List Key)
  | [] => some []
  | d :: ds => match keyOf d, keysOf ds with
    | some k, some ks => some (k :: ks)
    | _, _ => none
def lookD {κ : Type} [DecidableEq κ] : List κ → List D → κ → Option D
  | k :: ks, d :: ds, x => if k = x then some d else lookD ks ds x
  | _, _, _ => none
theorem keyOf_v {F : Hp} {d : D} {k : Key} {v : V} (e : keyOf d = some k) (h : RepF cl F d v) : v = kV k := by
  cases d with
  | int i => cases e; exact h
  | str i => cases e; exact h
  | _ => cases e
theorem keysOf_v {F : Hp} : ∀ {ds : List D} {ks : List Key} {vs : List V}, keysOf ds = some ks → RepFs cl F ds vs → vs = ks.map kV
  | [], ks, vs, e, h => by
    simp only [keysOf, Option.some.injEq] at e
    subst e
    exact h
  | d :: ds, ks, vs, e, ⟨v, r, e1, h1, h2⟩ => by
    simp only [keysOf] at e
    cases q : keyOf d with
    | none => rw [q] at e; cases e
    | some k =>
      cases q2 : keysOf ds with
      | none => rw [q, q2] at e; cases e
      | some kr =>
        rw [q, q2] at e
        have e' : k :: kr = ks := Option.some.inj e
        subst e'
        rw [e1, keyOf_v q h1, keysOf_v q2 h2]; rfl
theorem lookD_v {κ : Type} [DecidableEq κ] {F : Hp} : ∀ {ks : List κ} {ds : List D} {vs : List V} {k : κ}, ks.length = vs.length → RepFs cl F ds vs →
    (∀ d, lookD ks ds k = some d → ∃ v, valV (ks.zip vs) k = some v ∧ RepF cl F d v) ∧ (lookD ks ds k = none → valV (ks.zip vs) k = none)
  | [], ds, vs, k, hl, h => by
    refine ⟨fun d e => ?_, fun _ => rfl⟩
    simp [lookD] at e
  | a :: ks, [], vs, k, hl, h => by
    have : vs = [] := h
    subst this
    simp at hl
  | a :: ks, d :: ds, vs, k, hl, ⟨v, r, e1, h1, h2⟩ => by
    subst e1
    have ih := lookD_v (k := k) (by simpa using hl) h2
    rw [List.zip_cons_cons]
    by_cases q : a = k
    · rw [valV_pos q]
      simp only [lookD, if_pos q]
      exact ⟨fun d' e => ⟨v, rfl, by have := Option.some.inj e; subst this; exact h1⟩, fun e => by cases e⟩
    · rw [valV_neg q]
      simp only [lookD, if_neg q]
      exact ih
def gGet : D → D → Option (Option D)
  | .dk ks ds, k => (keyOf k).map fun k => lookD ks ds k
  | .dt ks ds, .tup k => (keysOf k).map fun k => lookD ks ds k
  | _, _ => none
theorem va_dk {n : Nat} {F H : Hp} {ks : List Key} {ds : List D} {v : V} (le : Same F H) (h : ValAt cl F H (n, .dk ks ds) v) : ∃ a vs, v = .ref a ∧ H a = some (.dK (ks.zip vs)) ∧ ks.length = vs.length ∧ RepFs cl F ds vs := by
  obtain ⟨A, h⟩ := h
  cases n with
  | zero =>
    obtain ⟨⟨a, vs, e1, e2, e3, h⟩, _⟩ := repO0.mp h
    exact ⟨a, vs, e1, le _ _ e2, e3, h⟩
  | succ n =>
    simp only [RepO] at h
    obtain ⟨a, vs, e1, e2, e3, e4, e5, h⟩ := h
    exact ⟨a, vs, e1, e2, e5, h⟩
theorem va_dt {n : Nat} {F H : Hp} {ks : List (List Key)} {ds : List D} {v : V} (le : Same F H) (h : ValAt cl F H (n, .dt ks ds) v) : ∃ a vs, v = .ref a ∧ H a = some (.dT (ks.zip vs)) ∧ ks.length = vs.length ∧ RepFs cl F ds vs := by
  obtain ⟨A, h⟩ := h
  cases n with
  | zero =>
    obtain ⟨⟨a, vs, e1, e2, e3, h⟩, _⟩ := repO0.mp h
    exact ⟨a, vs, e1, le _ _ e2, e3, h⟩
  | succ n =>
    simp only [RepO] at h
    obtain ⟨a, vs, e1, e2, e3, e4, e5, h⟩ := h
    exact ⟨a, vs, e1, e2, e5, h⟩
theorem gGet_v {n m : Nat} {F H : Hp} {d k : D} {v u : V} {o : Option D} (le : Same F H) (hd : ValAt cl F H (n, d) v) (hk : ValAt cl F H (m, k) u) (e : gGet d k = some o) :
    ∃ a, v = .ref a ∧ (∀ x, o = some x → ∃ y, DGet H a u (some y) ∧ RepF cl F x y) ∧ (o = none → DGet H a u none) := by
  cases d with
  | dk ks ds =>
    simp only [gGet] at e
    obtain ⟨a, vs, e1, e2, e3, h⟩ := va_dk le hd
    cases q : keyOf k with
    | none => rw [q] at e; cases e
    | some kk =>
      rw [q] at e
      have e' : lookD ks ds kk = o := Option.some.inj e
      have eu : u = kV kk := by
        cases k with
        | int i => cases q; exact va_int hk
        | str i => cases q; exact va_str hk
        | _ => cases q
      obtain ⟨l1, l2⟩ := lookD_v (k := kk) e3 h
      refine ⟨a, e1, fun x ex => ?_, fun ex => ?_⟩
      · obtain ⟨y, p1, p2⟩ := l1 x (e'.trans ex)
        exact ⟨y, .inl ⟨_, kk, .inl e2, eu, p1.symm⟩, p2⟩
      · exact .inl ⟨_, kk, .inl e2, eu, (l2 (e'.trans ex)).symm⟩
  | dt ks ds =>
    cases k with
    | tup kd =>
      simp only [gGet] at e
      obtain ⟨a, vs, e1, e2, e3, h⟩ := va_dt le hd
      cases q : keysOf kd with
      | none => rw [q] at e; cases e
      | some kk =>
        rw [q] at e
        have e' : lookD ks ds kk = o := Option.some.inj e
        have hb : ∃ b, u = .ref b ∧ H b = some (.tup (kk.map kV)) := by
          obtain ⟨A, hk⟩ := hk
          simp only [RepO] at hk
          obtain ⟨b, us, p1, p2, p3⟩ := hk
          refine ⟨b, p1, ?_⟩
          have : ∀ (kd : List D) (kk : List Key) (us : List V) (A : List Addr), keysOf kd = some kk → RepOs cl F H kd m us A → us = kk.map kV := fun kd => by
            induction kd with
            | nil => intro kk us A e h; simp only [keysOf, Option.some.injEq] at e; subst e; simp only [RepOs] at h; exact h.1
            | cons d kd ih =>
              intro kk us A e h
              simp only [RepOs] at h
              obtain ⟨v, r, A1, A2, e1, e2, h1, h2⟩ := h
              simp only [keysOf] at e
              cases q : keyOf d with
              | none => rw [q] at e; cases e
              | some k =>
                cases q2 : keysOf kd with
                | none => rw [q, q2] at e; cases e
                | some kr =>
                  rw [q, q2] at e
                  have e' : k :: kr = kk := Option.some.inj e
                  subst e'
                  have ev : v = kV k := by
                    cases d with
                    | int i => cases q; simp only [RepO, RepF] at h1; exact h1.1
                    | str i => cases q; simp only [RepO, RepF] at h1; exact h1.1
                    | _ => cases q
                  rw [e1, ev, ih kr r A2 q2 h2]; rfl
          rw [← this kd kk us A q p3]
          exact le _ _ p2
        obtain ⟨b, eu, eb⟩ := hb
        obtain ⟨l1, l2⟩ := lookD_v (k := kk) e3 h
        refine ⟨a, e1, fun x ex => ?_, fun ex => ?_⟩
        · obtain ⟨y, p1, p2⟩ := l1 x (e'.trans ex)
          exact ⟨y, .inr ⟨_, kk, b, .inl e2, eu, eb, p1.symm⟩, p2⟩
        · exact .inr ⟨_, kk, b, .inl e2, eu, eb, (l2 (e'.trans ex)).symm⟩
    | _ => simp [gGet] at e
  | _ => simp [gGet] at e
def rIxD : R2 := fun x y H Q => ∃ a v, x = .ref a ∧ DGet H a y (some v) ∧ Q v H
theorem ix_dict {X : Cx} (hu : X.A.units + 1 < cLine) : IxR X rIxD := by
  intro value slice pins s σ H x y v u Q I rx ry h hs
  obtain ⟨a, z, rfl, g, q⟩ := h
  obtain rfl : v = Value.ref a := rx
  have hT := dict_typeIs I g
  have h₂ : wpAny (model X.prog X.w) X.A (getItem (.ref a) u) (EP X pins σ Q) X.xe s := d_getItem hu I g ry fun w' s3 I3 rw' => ⟨z, H, I3, rw', q⟩
  unfold subscriptTail
  refine wpAny_bind ?_
  rw [getitemInPython_of_ne hT.not_modules]
  refine wpAny_bind (wpAny_specialOf hT PySem.F.slot_dict_getitem.lookup ?_)
  have fin : wpAny (model X.prog X.w) X.A (subscripted slice false (.ref a) u) (fun r s₃ => wpAny (model X.prog X.w) X.A (letTemporaryGo value (.ref a) r >>= fun _ => pure r) (EP X pins σ Q) X.xe s₃) X.xe s := by
    rw [hs]
    exact wpAny_operating (wpAny_mono h₂ (fun r s₃ h₃ => wpAny_bind (wpAny_letTemporaryGo (wpAny_pure h₃))) fun _ _ x => x)
  first
    | exact wpAny_pure (wpAny_bind fin)
    | exact wpAny_bind (wpAny_pure (wpAny_bind fin))
    | exact wpAny_bind fin
def gIxD : List Val → Option Val
  | [(_, d), (_, k)] => match gGet d k with
    | some (some x) => some (0, x)
    | _ => none
  | _ => none
theorem os_ixD : OpSem cl (R2L rIxD) gIxD := by
  refine OpSem.val fun F H xs vs le hv res e => ?_
  unfold gIxD at e
  split at e
  · rename_i n d m k
    split at e
    · rename_i x q
      obtain ⟨v, u, e1, h1, h2⟩ := vs2 hv
      obtain ⟨a, ea, p1, _⟩ := gGet_v le h1 h2 q
      obtain ⟨y, p2, p3⟩ := p1 x rfl
      refine ⟨y, x, (Option.some.inj e).symm, p3, fun R hR => ?_⟩
      rw [e1, ea]
      exact ⟨a, y, rfl, p2, hR⟩
    · cases e
  · cases e
theorem atI_fs {F : Hp} {ds : List D} {vs : List V} {i : Int} {d : D} (h : RepFs cl F ds vs) (e : atI ds i = some d) : ∃ v, atI vs i = some v ∧ RepF cl F d v := by
  unfold atI at e ⊢
  rw [← repFs_len h]
  cases q : ixN ds.length i with
  | none => rw [q] at e; cases e
  | some j =>
    rw [q] at e
    obtain ⟨v, p1, p2⟩ := repFs_get h (show ds[j]? = some d from e)
    exact ⟨v, p1, p2⟩
def gIxS : List Val → Option Val
  | [(n, .lst ds), (_, .int i)] => if n ≤ 1 then (atI ds i).map fun d => (0, d) else none
  | [(0, .tup ds), (_, .int i)] => (atI ds i).map fun d => (0, d)
  | [(_, .str s), (_, .int i)] => if s.length ≤ 16777216 then (atI s.cps.toList i).map fun c => (0, .str ⟨#[c]⟩) else none
  | [(_, .scr ns), (_, .int i)] => (atI ns i).map fun n => (0, .int n)
  | _ => none
theorem os_ixS : OpSem cl (R2L (rIx K)) gIxS := by
  refine OpSem.val fun F H xs vs le hv res e => ?_
  unfold gIxS at e
  split at e
  · rename_i n ds m i
    split at e
    · rename_i hn
      obtain ⟨v, u, e1, h1, h2⟩ := vs2 hv
      obtain ⟨a, us, p1, p2, p3⟩ := va_lst le h1 hn
      cases q : atI ds i with
      | none => rw [q] at e; cases e
      | some d =>
        rw [q] at e
        obtain ⟨w, p4, p5⟩ := atI_fs p3 q
        refine ⟨w, d, (Option.some.inj e).symm, p5, fun R hR => ?_⟩
        rw [e1, p1, va_int h2]
        exact .inl ⟨a, us, i, w, rfl, rfl, .inl (.inl p2), p4, hR⟩
    · cases e
  · rename_i ds m i
    obtain ⟨v, u, e1, h1, h2⟩ := vs2 hv
    obtain ⟨a, us, p1, p2, p3⟩ := va_tup le h1
    cases q : atI ds i with
    | none => rw [q] at e; cases e
    | some d =>
      rw [q] at e
      obtain ⟨w, p4, p5⟩ := atI_fs p3 q
      refine ⟨w, d, (Option.some.inj e).symm, p5, fun R hR => ?_⟩
      rw [e1, p1, va_int h2]
      exact .inr (.inl ⟨a, us, i, w, rfl, rfl, .inl (.inl (le _ _ p2)), p4, hR⟩)
  · rename_i n z m i
    split at e
    · rename_i hz
      obtain ⟨v, u, e1, h1, h2⟩ := vs2 hv
      cases q : atI z.cps.toList i with
      | none => rw [q] at e; cases e
      | some c =>
        rw [q] at e
        refine ⟨.str ⟨#[c]⟩, .str ⟨#[c]⟩, (Option.some.inj e).symm, rfl, fun R hR => ?_⟩
        rw [e1, va_str h1, va_int h2]
        exact .inr (.inr ⟨z, i, c, rfl, rfl, by rw [sizeLine_eq]; exact hz, q, hR⟩)
    · cases e
  · rename_i n ns m i
    obtain ⟨v, u, e1, h1, h2⟩ := vs2 hv
    obtain ⟨a, o, p1, p2⟩ := va_scr h1
    cases q : atI ns i with
    | none => rw [q] at e; cases e
    | some d =>
      rw [q] at e
      refine ⟨.int d, .int d, (Option.some.inj e).symm, rfl, fun R hR => ?_⟩
      rw [e1, p1, va_int h2]
      refine .inl ⟨a, ns.map V.int, i, .int d, rfl, rfl, .inl (.inr ⟨o, le _ _ p2⟩), ?_, hR⟩
      unfold atI at q ⊢
      rw [List.length_map]
      cases q2 : ixN ns.length i with
      | none => rw [q2] at q; cases q
      | some j =>
        rw [q2] at q
        have q' : ns[j]? = some d := q
        show (ns.map V.int)[j]? = some (.int d)
        rw [List.getElem?_map, q']; rfl
  · cases e
def gIx : List Val → Option Val := fun xs => gIxS xs <|> gIxD xs
def rIxA (K : PySem.W.Frag) : R2 := R2o (rIx K) rIxD
theorem os_ix : OpSem cl (R2L (rIxA K)) gIx := R2L_or os_ixS os_ixD
end
end DL

namespace DL
open PySem PySem.Spec PyProof.Rows L2

structure KS where
  nx : DL.Env → Prop
  rt : Val → DL.Env → Prop
  ex : XPo
abbrev WS := DL.Env → KS → Prop
def Kp (P : Nat → Bool) (σ σ' : L2.St) : Prop := σ'.length = σ.length ∧ ∀ p, P p = true → σ'[p]? = σ[p]?
theorem Kp.refl (P : Nat → Bool) (σ : L2.St) : Kp P σ σ := ⟨rfl, fun _ _ => rfl⟩
theorem Kp.trans {P : Nat → Bool} {σ σ1 σ2 : L2.St} (a : Kp P σ σ1) (b : Kp P σ1 σ2) : Kp P σ σ2 := ⟨b.1.trans a.1, fun p h => (b.2 p h).trans (a.2 p h)⟩
theorem Kp.set {P : Nat → Bool} {σ : L2.St} {i : Nat} {x : Option V} (h : P i = false) : Kp P σ (σ.set i x) := ⟨List.length_set, fun p hp => by
  rw [List.getElem?_set_ne]
  intro e; subst e; rw [h] at hp; cases hp⟩
def NxOk (T : Tb) (P : Nat → Bool) (nx : DL.Env → Prop) (F H : Hp) (A : List Addr) (σ : L2.St) (R : L2.St → Hp → Prop) : Prop :=
  ∀ env' σ' F' H' A', nx env' → Kp P σ σ' → Step F H A F' H' A' → Same F' H' → RelL T.cl F' H' env' σ' A' → A'.Nodup → R σ' H'
def RtOk (T : Tb) (P : Nat → Bool) (rt : Val → DL.Env → Prop) (F H : Hp) (A : List Addr) (σ : L2.St) (R : VK) : Prop :=
  ∀ r env' σ' v F' H' A' B, rt r env' → Kp P σ σ' → Step F H A F' H' (A' ++ B) → Same F' H' → RelL T.cl F' H' env' σ' A' → RepO T.cl F' H' r.2 r.1 v B → (A' ++ B).Nodup → R v H'
def ExOk (T : Tb) (W : WX) (P : Nat → Bool) (ex : XPo) (F H : Hp) (A : List Addr) (σ : L2.St) : Prop :=
  ∀ c env' σ' F' H' A', ex c env' → Kp P σ σ' → Step F H A F' H' A' → Same F' H' → RelL T.cl F' H' env' σ' A' → A'.Nodup → W (.ref (T.cl c)) none σ' H'
section
variable {T : Tb} {P : Nat → Bool} {F H F1 H1 : Hp} {A A1 : List Addr} {σ σ1 : L2.St}
theorem NxOk.step {nx : DL.Env → Prop} {R : L2.St → Hp → Prop} (x : NxOk T P nx F H A σ R) (k : Kp P σ σ1) (s : Step F H A F1 H1 A1) : NxOk T P nx F1 H1 A1 σ1 R := fun e σ' F' H' A' h k' s' => x e σ' F' H' A' h (k.trans k') (s.trans s')
theorem RtOk.step {rt : Val → DL.Env → Prop} {R : VK} (x : RtOk T P rt F H A σ R) (k : Kp P σ σ1) (s : Step F H A F1 H1 A1) : RtOk T P rt F1 H1 A1 σ1 R := fun r e σ' v F' H' A' B h k' s' => x r e σ' v F' H' A' B h (k.trans k') (s.trans s')
theorem ExOk.step {W : WX} {ex : XPo} (x : ExOk T W P ex F H A σ) (k : Kp P σ σ1) (s : Step F H A F1 H1 A1) : ExOk T W P ex F1 H1 A1 σ1 := fun c e σ' F' H' A' h k' s' => x c e σ' F' H' A' h (k.trans k') (s.trans s')
theorem ExOk.x {W : WX} {ex : XPo} (x : ExOk T W P ex F H A σ) : XOk T W ex F H A σ := fun c e F' H' A' h s => x c e σ F' H' A' h (Kp.refl P σ) s
end
def SemS (T : Tb) (W : WX) (P : Nat → Bool) (w : WS) (t : TS) : Prop :=
  ∀ (env : DL.Env) (K : KS), w env K → ∀ (σ : L2.St) (F H : Hp) (A : List Addr), Same F H → RelL T.cl F H env σ A → A.Nodup → ∀ D : Ends,
    NxOk T P K.nx F H A σ D.nx → RtOk T P K.rt F H A σ D.rt → ExOk T W P K.ex F H A σ → t D σ H
structure FitS (T : Tb) (k : Nat) (c : Sc) (W : WX) (X : Cx) : Prop extends Fit T k c W X where
  hs : X.stack = X.env :: X.outer
  hf : X.env.frame = some X.env.locals
  ex0 : X.ex = []
def JS (T : Tb) (k : Nat) (c : Sc) (P : Nat → Bool) (st : Stmt) (w : WS) : Prop := ∀ W : WX, ∃ t : TS, (∀ X, FitS T k c W X → PS X st t) ∧ SemS T W P w t
def JB (T : Tb) (k : Nat) (c : Sc) (P : Nat → Bool) (sts : List Stmt) (w : WS) : Prop := ∀ W : WX, ∃ t : TS, (∀ X, FitS T k c W X → PSs X sts t) ∧ SemS T W P w t

def wNext : WS := fun env K => K.nx env
def wSeq (w u : WS) : WS := fun env K => w env { K with nx := fun env' => u env' K }
def fgt (js : List Nat) (env : DL.Env) : DL.Env := js.foldl (fun e j => e.set j none) env
def wFgt (js : List Nat) (w : WS) : WS := fun env K => w env { K with nx := fun env' => K.nx (fgt js env') }
section
variable {T : Tb} {k : Nat} {c : Sc} {P : Nat → Bool} {st : Stmt} {sts : List Stmt} {pos : Pos}
theorem JB.nil : JB T k c P [] wNext := fun W => ⟨tNext, fun _ _ => pss_nil, fun env K h σ F H A le rel nd D kn kr kx => kn env σ F H A h (Kp.refl P σ) (Step.refl F H A) le rel nd⟩
theorem JB.cons {w u : WS} (h : JS T k c P st w) (h' : JB T k c P sts u) : JB T k c P (st :: sts) (wSeq w u) := fun W => by
  obtain ⟨t, pt, s⟩ := h W
  obtain ⟨t', pt', s'⟩ := h' W
  refine ⟨tSeq t t', fun X f => pss_cons (pt X f) (pt' X f), fun env K hw σ F H A le rel nd D kn kr kx => ?_⟩
  exact s env _ hw σ F H A le rel nd _ (fun env1 σ1 F1 H1 A1 q kp st1 le1 rel1 nd1 => s' env1 K q σ1 F1 H1 A1 le1 rel1 nd1 D (kn.step kp st1) (kr.step kp st1) (kx.step kp st1)) kr kx
theorem JB.one {w : WS} (h : JS T k c P st w) : JB T k c P [st] w := fun W => by
  obtain ⟨t, pt, s⟩ := h W
  exact ⟨t, fun X f => pss_one (pt X f), s⟩
theorem relL_fgt {cl : Nat → Addr} {F H : Hp} : ∀ (js : List Nat) {env : DL.Env} {σ : L2.St} {A : List Addr}, RelL cl F H env σ A → ∃ A', RelL cl F H (fgt js env) σ A' ∧ (∀ a ∈ A', a ∈ A) ∧ (A.Nodup → A'.Nodup)
  | [], env, σ, A, h => ⟨A, h, fun _ q => q, fun q => q⟩
  | j :: js, env, σ, A, h => by
    cases e : env[j]? with
    | none =>
      have : env.set j none = env := by
        rw [List.set_eq_of_length_le]
        exact List.getElem?_eq_none_iff.mp e
      show ∃ A', RelL cl F H (fgt js (env.set j none)) σ A' ∧ _
      rw [this]
      exact relL_fgt js h
    | some o =>
      obtain ⟨s, A1, Ai, A2, q1, q2, q3, q4⟩ := relL_split h e
      have r := q4 none s [] rfl
      rw [set_self q1] at r
      obtain ⟨A', r', sub, nd⟩ := relL_fgt js r
      refine ⟨A', r', fun a ha => ?_, fun n => nd ?_⟩
      · have := sub a ha
        rw [q2]
        simp only [List.nil_append, List.mem_append] at this ⊢
        rcases this with z | z
        · exact .inl z
        · exact .inr (.inr z)
      · rw [q2] at n
        exact n.sublist (List.Sublist.append (List.Sublist.refl _) (List.Sublist.append (List.nil_sublist _) (List.Sublist.refl _)))
theorem JB.fgt {w : WS} (js : List Nat) (h : JB T k c P sts w) : JB T k c P sts (wFgt js w) := fun W => by
  obtain ⟨t, pt, s⟩ := h W
  refine ⟨t, pt, fun env K hw σ F H A le rel nd D kn kr kx => ?_⟩
  refine s env _ hw σ F H A le rel nd D (fun env1 σ1 F1 H1 A1 q kp st1 le1 rel1 nd1 => ?_) kr kx
  obtain ⟨A', r', sub, nd'⟩ := relL_fgt js rel1
  exact kn _ σ1 F1 H1 A' q kp (st1.less sub) le1 r' (nd' nd1)
theorem JS.fgt {w : WS} (js : List Nat) (h : JS T k c P st w) : JS T k c P st (wFgt js w) := fun W => by
  obtain ⟨t, pt, s⟩ := h W
  refine ⟨t, pt, fun env K hw σ F H A le rel nd D kn kr kx => ?_⟩
  refine s env _ hw σ F H A le rel nd D (fun env1 σ1 F1 H1 A1 q kp st1 le1 rel1 nd1 => ?_) kr kx
  obtain ⟨A', r', sub, nd'⟩ := relL_fgt js rel1
  exact kn _ σ1 F1 H1 A' q kp (st1.less sub) le1 r' (nd' nd1)

theorem JS.pass : JS T k c P (.Pass pos) wNext := fun W => ⟨tNext, fun _ _ => ps_pass, fun env K h σ F H A le rel nd D kn kr kx => kn env σ F H A h (Kp.refl P σ) (Step.refl F H A) le rel nd⟩
def wDrop (w : WE) : WS := fun env K => w env (fun _ env' => K.nx env') K.ex
theorem JS.expr {e : Expr} {w : WE} (h : JE T k c e w) (hs : ∀ env : PySem.Env, swapsWith e none pos.line env = pure false := by intro _; rfl) : JS T k c P (.Expr e pos) (wDrop w) := fun W => by
  obtain ⟨t, pt, s⟩ := h W
  refine ⟨tDrop t, fun X f => ps_expr (pt X f.toFit) (hs X.env), fun env K hw σ F H A le rel nd D kn kr kx => ?_⟩
  exact s env _ _ hw σ F H A le rel nd _ (fun r env1 v F1 H1 A1 B q st1 le1 rel1 rp nd1 => kn env1 σ F1 H1 A1 q (Kp.refl P σ) (st1.less fun a ha => List.mem_append_left _ ha) le1 rel1 (List.nodup_append.mp nd1).1) kx.x
def wRet (w : WE) : WS := fun env K => w env K.rt K.ex
theorem JS.ret {e : Expr} {w : WE} (h : JE T k c e w) : JS T k c P (.Return (some e) pos) (wRet w) := fun W => by
  obtain ⟨t, pt, s⟩ := h W
  refine ⟨tRet t, fun X f => ps_ret (pt X f.toFit), fun env K hw σ F H A le rel nd D kn kr kx => ?_⟩
  exact s env _ _ hw σ F H A le rel nd _ (fun r env1 v F1 H1 A1 B q st1 le1 rel1 rp nd1 => kr r env1 σ v F1 H1 A1 B q (Kp.refl P σ) st1 le1 rel1 rp nd1) kx.x
def wIfS (t : WT) (w u : WS) : WS := fun env K => t env (fun b env' => if b = true then w env' K else u env' K) K.ex
theorem JS.iff {e : Expr} {a b : List Stmt} {wt : WT} {w u : WS} (ht : JT T k c e wt) (h : JB T k c P a w) (h' : JB T k c P b u) : JS T k c P (.If e a b pos) (wIfS wt w u) := fun W => by
  obtain ⟨t0, p0, s0⟩ := ht W
  obtain ⟨t, pt, s⟩ := h W
  obtain ⟨t', pt', s'⟩ := h' W
  refine ⟨tIfS t0 t t', fun X f => ps_if (p0 X f.toFit) (pt X f) (pt' X f), fun env K hw σ F H A le rel nd D kn kr kx => ?_⟩
  refine s0 env _ _ hw σ F H A le rel nd _ (fun b env1 F1 H1 A1 q st1 le1 rel1 nd1 => ?_) kx.x
  cases b with
  | true => exact s env1 K q σ F1 H1 A1 le1 rel1 nd1 D (kn.step (Kp.refl P σ) st1) (kr.step (Kp.refl P σ) st1) (kx.step (Kp.refl P σ) st1)
  | false => exact s' env1 K q σ F1 H1 A1 le1 rel1 nd1 D (kn.step (Kp.refl P σ) st1) (kr.step (Kp.refl P σ) st1) (kx.step (Kp.refl P σ) st1)

def locB (sc : Scope) (x : Str) : Bool := match sc.names.lookup x with
  | some .local => true
  | some .cell => true
  | _ => false
theorem loc_of {sc : Scope} {x : Str} (h : locB sc x = true) : L2.Loc sc x := by
  unfold locB at h
  unfold L2.Loc
  split at h
  · rename_i e; exact .inl e
  · rename_i e; exact .inr e
  · cases h
def wAsg (i : Nat) (keep : Bool) (w : WE) : WS := fun env K => w env (fun r env' => i < env'.length ∧ K.nx (env'.set i (some (if keep then r.1 else 0, r.2)))) K.ex
theorem asg_core {i : Nat} {keep : Bool} {r : Val} {env : DL.Env} {σ : L2.St} {F H : Hp} {A B : List Addr} {v : V} {nx : DL.Env → Prop} {R : L2.St → Hp → Prop} (hP : P i = false) (le : Same F H) (rel : RelL T.cl F H env σ A) (rp : RepO T.cl F H r.2 r.1 v B) (nd : (A ++ B).Nodup)
    (hl : i < env.length) (q : nx (env.set i (some (if keep then r.1 else 0, r.2)))) (kn : NxOk T P nx F H (A ++ B) σ R) : R (σ.set i (some v)) H := by
  obtain ⟨o, e⟩ : ∃ o, env[i]? = some o := ⟨env[i], List.getElem?_eq_getElem hl⟩
  cases keep with
  | true =>
    obtain ⟨s, A1, Ai, A2, q1, q2, q3, q4⟩ := relL_split rel e
    have rel' := q4 (some (r.1, r.2)) (some v) B ⟨v, rfl, rp⟩
    refine kn _ _ F H _ q (Kp.set hP) ((Step.refl F H _).less fun a ha => ?_) le rel' ?_
    · rw [q2]
      simp only [List.mem_append] at ha ⊢
      rcases ha with z | z | z
      · exact .inl (.inl z)
      · exact .inr z
      · exact .inl (.inr (.inr z))
    · subst q2
      rw [List.nodup_append] at nd
      obtain ⟨n1, n2, n3⟩ := nd
      have n1' : (A1 ++ A2).Nodup := n1.sublist (List.Sublist.append (List.Sublist.refl _) (List.sublist_append_right _ _))
      rw [List.nodup_append] at n1' ⊢
      obtain ⟨m1, m2, m3⟩ := n1'
      refine ⟨m1, ?_, fun a ha b hb => ?_⟩
      · rw [List.nodup_append]
        exact ⟨n2, m2, fun a ha b hb z => n3 b (by simp [hb]) a ha z.symm⟩
      · rcases List.mem_append.mp hb with z | z
        · exact n3 a (by simp [ha]) b z
        · exact m3 a ha b z
  | false =>
    obtain ⟨s2, le2, rel2, rf⟩ := freeze_tail le rel rp nd
    obtain ⟨s, A1, Ai, A2, q1, q2, q3, q4⟩ := relL_split rel2 e
    have rel' := q4 (some (0, r.2)) (some v) [] ⟨v, rfl, repO0.mpr ⟨rf, rfl⟩⟩
    refine kn _ _ _ H _ q (Kp.set hP) (s2.less fun a ha => ?_) le2 rel' ?_
    · rw [q2]
      simp only [List.nil_append, List.mem_append] at ha ⊢
      rcases ha with z | z
      · exact .inl z
      · exact .inr (.inr z)
    · subst q2
      have n1 := (List.nodup_append.mp nd).1
      exact n1.sublist (List.Sublist.append (List.Sublist.refl _) (List.Sublist.append (List.nil_sublist _) (List.Sublist.refl _)))
theorem JS.asg {e : Expr} {x : Str} {w : WE} {p : Pos} (i : Nat) (keep : Bool) (h : JE T k c e w) (hP : P i = false := by rfl) (hN : c.N[i]? = some x := by rfl) (hx : locB c.sc x = true := by rfl) (hst : c.st x = true := by rfl)
    (hs : ∀ env : PySem.Env, env.scope = c.sc → swapsWith e (some (.Name x p)) pos.line env = pure false := by intro _ _; rfl) : JS T k c P (.Assign [.Name x p] e pos) (wAsg i keep w) := fun W => by
  obtain ⟨t, pt, s⟩ := h W
  refine ⟨tAsg t (gName i), fun X f => ps_set f.nd (by rw [f.N]; exact hN) (by rw [f.sc]; exact loc_of hx) (pt X f.toFit) (hs X.env f.sc) (f.fn x hst), fun env K hw σ F H A le rel nd D kn kr kx => ?_⟩
  refine s env _ _ hw σ F H A le rel nd _ (fun r env1 v F1 H1 A1 B q st1 le1 rel1 rp nd1 => ?_) kx.x
  exact asg_core hP le1 rel1 rp nd1 q.1 q.2 (kn.step (Kp.refl P σ) st1)
def wAug (i : Nat) (g : List Val → Option Val) (w : WI) : WS := fun env K => (∃ n d, env[i]? = some (some (n, d))) ∧ w env (fun o env' => ∃ x y res, opVal env' (.s i) = some x ∧ opVal env' o = some y ∧ g [x, y] = some res ∧ res.1 = 0 ∧ i < env'.length ∧ K.nx (env'.set i (some res))) K.ex
theorem JS.aug {e : Expr} {x : Str} {w : WI} {p : Pos} {op : Operator} {r : R2} {g : List Val → Option Val} (i : Nat) (ho : ∀ X, Ft T k c X → PIp X op r) (o : OpSem T.cl (R2L r) g) (h : JI T k c e w) (hP : P i = false := by rfl) (hN : c.N[i]? = some x := by rfl) (hx : locB c.sc x = true := by rfl) (hst : c.st x = true := by rfl) :
    JS T k c P (.AugAssign (.Name x p) op e pos) (wAug i g w) := fun W => by
  obtain ⟨t, pt, s⟩ := h W
  refine ⟨fun D σ H => ∃ x, σ[i]? = some (some x) ∧ t σ H fun y H1 => r x y H1 fun z H2 => D.nx (σ.set i (some z)) H2, fun X f => show PS X _ (tAug i t r) from ps_aug f.nd (by rw [f.N]; exact hN) (by rw [f.sc]; exact loc_of hx) (pt X f.toFit) (ho X ⟨W, f.toFit⟩) (f.fn x hst), fun env K hw σ F H A le rel nd D kn kr kx => ?_⟩
  obtain ⟨⟨n, d, e0⟩, hw⟩ := hw
  obtain ⟨s0, A1, Ai, A2, q1, q2, ⟨v, q3, q4⟩, q5⟩ := relL_split rel e0
  subst q3
  refine ⟨v, q1, s env _ _ hw σ F H A le rel nd _ (fun od env1 u F1 H1 A1 q st1 le1 rel1 nd1 ho1 => ?_) kx.x⟩
  obtain ⟨x, y, res, e1, e2, e3, e4, hl, q⟩ := q
  have hx1 : ValAt T.cl F1 H1 x v := opVal_at (o := .s i) rel1 q1 e1
  have hy1 : ValAt T.cl F1 H1 y u := opVal_at rel1 ho1 e2
  refine o F1 H1 [x, y] [v, u] le1 ⟨v, [u], rfl, hx1, u, [], rfl, hy1, rfl⟩ res e3 (fun z H2 => D.nx (σ.set i (some z)) H2) fun z F2 H2 B mF mH le2 nF nB ndB rp => ?_
  obtain ⟨s2, rel2, nd2⟩ := after_pure le1 rel1 nd1 mF mH nF nB ndB
  exact asg_core (keep := true) (r := res) hP le2 rel2 rp nd2 hl q (kn.step (Kp.refl P σ) (st1.trans s2))
abbrev WG := D → DL.Env → (DL.Env → Prop) → XPo → Prop
def SemG (T : Tb) (W : WX) (P : Nat → Bool) (w : WG) (g : TG) : Prop :=
  ∀ (d : D) (env : DL.Env) (Q : DL.Env → Prop) (ex : XPo), w d env Q ex → ∀ (σ : L2.St) (F H : Hp) (A : List Addr) (v : V), Same F H → RelL T.cl F H env σ A → A.Nodup → RepF T.cl F d v → ∀ R : L2.St → Hp → Prop,
    NxOk T P Q F H A σ R → XOk T W ex F H A σ → g v σ H R
def JG (T : Tb) (k : Nat) (c : Sc) (P : Nat → Bool) (e : Expr) (w : WG) : Prop := ∀ W : WX, ∃ g : TG, (∀ X, Fit T k c W X → PG X e g) ∧ SemG T W P w g
end
end DL

namespace DL
open PySem PySem.Spec PyProof.Rows L2

section
variable {cl : Nat → Addr} {F F' H H' : Hp}
theorem relL_out {env : DL.Env} {σ : L2.St} {A : List Addr} {i n : Nat} {d : D} (h : RelL cl F H env σ A) (e : env[i]? = some (some (n, d))) :
    ∃ v A1 Ai A2, σ[i]? = some (some v) ∧ A = A1 ++ (Ai ++ A2) ∧ RepO cl F H d n v Ai ∧ RelL cl F H (env.set i none) σ (A1 ++ A2) := by
  obtain ⟨s, A1, Ai, A2, q1, q2, ⟨v, q3, q4⟩, q5⟩ := relL_split h e
  subst q3
  have r := q5 none (some v) [] rfl
  rw [set_self q1] at r
  exact ⟨v, A1, Ai, A2, q1, q2, q4, r⟩
theorem relL_in {env : DL.Env} {σ : L2.St} {A B : List Addr} {i n : Nat} {d : D} {v : V} (h : RelL cl F H env σ A) (hl : i < env.length) (e : σ[i]? = some (some v)) (rp : RepO cl F H d n v B) (nd : (A ++ B).Nodup) :
    ∃ A', RelL cl F H (env.set i (some (n, d))) σ A' ∧ (∀ a ∈ A', a ∈ A ∨ a ∈ B) ∧ A'.Nodup := by
  obtain ⟨s, A1, Ai, A2, q1, q2, q3, q4⟩ := relL_split h (List.getElem?_eq_getElem hl)
  have r := q4 (some (n, d)) (some v) B ⟨v, rfl, rp⟩
  rw [set_self e] at r
  refine ⟨_, r, fun a ha => ?_, ?_⟩
  · rw [q2]
    simp only [List.mem_append] at ha ⊢
    rcases ha with z | z | z
    · exact .inl (.inl z)
    · exact .inr z
    · exact .inl (.inr (.inr z))
  · subst q2
    rw [List.nodup_append] at nd
    obtain ⟨n1, n2, n3⟩ := nd
    have n1' : (A1 ++ A2).Nodup := n1.sublist (List.Sublist.append (List.Sublist.refl _) (List.sublist_append_right _ _))
    rw [List.nodup_append] at n1' ⊢
    obtain ⟨m1, m2, m3⟩ := n1'
    refine ⟨m1, ?_, fun a ha b hb => ?_⟩
    · rw [List.nodup_append]
      exact ⟨n2, m2, fun a ha b hb z => n3 b (by simp [hb]) a ha z.symm⟩
    · rcases List.mem_append.mp hb with z | z
      · exact n3 a (by simp [ha]) b z
      · exact m3 a ha b z
theorem nd_mid {A1 Ai A2 : List Addr} (nd : (A1 ++ (Ai ++ A2)).Nodup) : ((A1 ++ A2) ++ Ai).Nodup := by
  rw [List.nodup_append] at nd ⊢
  obtain ⟨n1, n2, n3⟩ := nd
  rw [List.nodup_append] at n2
  obtain ⟨m1, m2, m3⟩ := n2
  refine ⟨?_, m1, fun a ha b hb => ?_⟩
  · rw [List.nodup_append]
    exact ⟨n1, m2, fun a ha b hb => n3 a ha b (by simp [hb])⟩
  · rcases List.mem_append.mp ha with z | z
    · exact n3 a z b (by simp [hb])
    · exact fun e => m3 b hb a z e.symm
theorem mem_mid {A1 Ai A2 : List Addr} {a : Addr} : a ∈ (A1 ++ A2) ++ Ai ↔ a ∈ A1 ++ (Ai ++ A2) := by
  simp only [List.mem_append]
  constructor
  · rintro ((h | h) | h)
    · exact .inl h
    · exact .inr (.inr h)
    · exact .inr (.inl h)
  · rintro (h | h | h)
    · exact .inl (.inl h)
    · exact .inr h
    · exact .inl (.inr h)
theorem step_upd {A A' : List Addr} {a : Addr} {o : HO} (le : Same F H) (ha : a ∈ A) (hF : F a = none) (hA : ∀ b ∈ A', b ∈ A) : Step F H A F (upd H a o) A' ∧ Same F (upd H a o) := by
  refine ⟨⟨Same.refl F, fun b u e n => ?_, fun b h => .inl h, fun b h => .inl (hA b h), fun b h => ?_⟩, fun b u e => ?_⟩
  · rw [upd_ne (fun z => n (by rw [z]; exact ha))]; exact e
  · by_cases q : b = a
    · subst q; rw [upd_same]; simp
    · rw [upd_ne q]; exact h
  · rw [upd_ne (fun z => by rw [z, hF] at e; cases e)]; exact le b u e
end

section
variable {T : Tb} {k : Nat} {c : Sc} {P : Nat → Bool} {pos : Pos}
def gNm (i : Nat) : WG := fun d env Q _ => i < env.length ∧ Q (env.set i (some (0, d)))
theorem JG.name {x : Str} (i : Nat) (hP : P i = false := by rfl) (hN : c.N[i]? = some x := by rfl) (hx : locB c.sc x = true := by rfl) (hst : c.st x = true := by rfl) : JG T k c P (.Name x pos) (gNm i) := fun W => by
  refine ⟨gName i, fun X f => pg_name f.nd (by rw [f.N]; exact hN) (by rw [f.sc]; exact loc_of hx) (f.fn x hst), fun d env Q ex h σ F H A v le rel nd rf R kn _ => ?_⟩
  exact asg_core (keep := false) (r := (0, d)) (B := []) hP le rel (repO0.mpr ⟨rf, rfl⟩) (by simpa using nd) h.1 h.2 (by simpa using kn)
abbrev WGs := List D → DL.Env → (DL.Env → Prop) → XPo → Prop
def SemGs (T : Tb) (W : WX) (P : Nat → Bool) (w : WGs) (g : TGs) : Prop :=
  ∀ (ds : List D) (env : DL.Env) (Q : DL.Env → Prop) (ex : XPo), w ds env Q ex → ∀ (σ : L2.St) (F H : Hp) (A : List Addr) (vs : List V), Same F H → RelL T.cl F H env σ A → A.Nodup → RepFs T.cl F ds vs → ∀ R : L2.St → Hp → Prop,
    NxOk T P Q F H A σ R → (∀ σ', Kp P σ σ' → XOk T W ex F H A σ') → g vs σ H R
def gNms : List Nat → WGs
  | [], ds, env, Q, _ => ds = [] ∧ Q env
  | i :: is, ds, env, Q, ex => ∃ d r, ds = d :: r ∧ i < env.length ∧ gNms is r (env.set i (some (0, d))) Q ex
def JGs (T : Tb) (k : Nat) (c : Sc) (P : Nat → Bool) (es : List Expr) (w : WGs) : Prop := ∀ W : WX, ∃ g : TGs, (∀ X, Fit T k c W X → PGs X es g) ∧ (∀ (ds : List D) (env : DL.Env) (Q : DL.Env → Prop) (ex : XPo), w ds env Q ex → ∀ (σ : L2.St) (F H : Hp) (A : List Addr) (vs : List V), Same F H → RelL T.cl F H env σ A → A.Nodup → RepFs T.cl F ds vs → ∀ R : L2.St → Hp → Prop,
    NxOk T P Q F H A σ R → g vs σ H R)
def nameE : Expr → Bool
  | .Name _ _ => true
  | _ => false
theorem assignEach_name {x : Str} {p : Pos} {es : List Expr} {env : PySem.Env} : assignEach (.Name x p :: es) env = (false, assign (.Name x p) env) :: assignEach es env := rfl
theorem JGs.nil : JGs T k c P [] (gNms []) := fun W => ⟨gNil, fun _ _ => pgs_nil, fun ds env Q ex h σ F H A vs le rel nd rf R kn => by
  obtain ⟨e, q⟩ := h
  subst e
  have : vs = [] := rf
  exact ⟨this, kn env σ F H A q (Kp.refl P σ) (Step.refl F H A) le rel nd⟩⟩
theorem JGs.cons {x : Str} {p : Pos} {es : List Expr} {is : List Nat} (i : Nat) (h : JGs T k c P es (gNms is)) (hP : P i = false := by rfl) (hN : c.N[i]? = some x := by rfl) (hx : locB c.sc x = true := by rfl) (hst : c.st x = true := by rfl) :
    JGs T k c P (.Name x p :: es) (gNms (i :: is)) := fun W => by
  obtain ⟨g, pg, sg⟩ := h W
  refine ⟨gCons (gName i) g, fun X f => pgs_cons (pg_name f.nd (by rw [f.N]; exact hN) (by rw [f.sc]; exact loc_of hx) (f.fn x hst)) (pg X f), fun ds env Q ex hw σ F H A vs le rel nd rf R kn => ?_⟩
  obtain ⟨d, r, e1, hl, q⟩ := hw
  subst e1
  obtain ⟨v, vr, e2, r1, r2⟩ := rf
  subst e2
  refine ⟨v, vr, rfl, ?_⟩
  refine asg_core (T := T) (keep := false) (r := (0, d)) (B := []) (P := P) (env := env) (A := A) (nx := fun env1 => gNms is r env1 Q ex) (R := fun σ' H' => g vr σ' H' R) hP le rel (repO0.mpr ⟨r1, rfl⟩) (by simpa using nd) hl q ?_
  rw [List.append_nil]
  intro env1 σ1 F1 H1 A1 q1 kp st le1 rel1 nd1
  exact sg r env1 Q ex q1 σ1 F1 H1 A1 vr le1 rel1 nd1 (repFs_mono st.mono r2) R (kn.step kp st)
def gTp (is : List Nat) : WG := fun d env Q ex => match d with
  | .tup ds => ds.length = is.length ∧ gNms is ds env Q ex
  | .lst ds => ds.length = is.length ∧ gNms is ds env Q ex
  | _ => False
theorem JG.tup {es : List Expr} {kk : Nat} {is : List Nat} (h : JGs T k c P es (gNms is)) (hn : ∀ env : PySem.Env, (assignEach es env).length = is.length := by intro _; rfl) (hst : ∀ env : PySem.Env, (assignEach es env).findIdx? (·.1) = none := by intro _; rfl) (hh : c.hot = false := by rfl) :
    JG T k c P (.Tuple es kk pos) (gTp is) := fun W => by
  obtain ⟨g, pg, sg⟩ := h W
  refine ⟨fun v σ H Q => gTup T.K is.length g v σ H Q ∨ gLst T.K is.length g v σ H Q, fun X f => ?_, fun d env Q ex hw σ F H A v le rel nd rf R kn _ => ?_⟩
  · have p1 : PG X (.Tuple es kk pos) (gTup X.K is.length g) := pg_tup (f.calm hh) (pg X f) (hn X.env) (hst X.env)
    have p2 : PG X (.Tuple es kk pos) (gLst X.K is.length g) := pg_lst (f.calm hh) (pg X f) (hn X.env) (hst X.env)
    rw [f.K] at p1 p2
    refine ⟨fun pins s σ H v u Q I r hq => ?_⟩
    rcases hq with hq | hq
    · exact p1.run pins s σ H v u Q I r hq
    · exact p2.run pins s σ H v u Q I r hq
  · cases d with
    | tup ds =>
      obtain ⟨a, vs, e1, e2, h2⟩ := rf
      obtain ⟨hl, hw⟩ := hw
      exact .inl ⟨a, vs, e1, .inl (.inl (le _ _ e2)), by rw [← repFs_len h2]; exact hl, sg ds env Q ex hw σ F H A vs le rel nd h2 R kn⟩
    | lst ds =>
      obtain ⟨a, vs, e1, e2, h2⟩ := rf
      obtain ⟨hl, hw⟩ := hw
      exact .inr ⟨a, vs, e1, .inl (.inl (le _ _ e2)), by rw [← repFs_len h2]; exact hl, sg ds env Q ex hw σ F H A vs le rel nd h2 R kn⟩
    | _ => exact hw.elim

abbrev WIt := DL.Env → (List D → DL.Env → Prop) → XPo → Prop
def ItOk (cl : Nat → Addr) (F : Hp) (J : It) (ds : List D) : Prop :=
  ∀ F2 H2, Same F F2 → Same F2 H2 → ∀ i, (∀ d, ds[i]? = some d → J.go i H2 ∧ ∀ x H3, J.yld i H2 x H3 → ∃ F3, Same F2 F3 ∧ Same H2 H3 ∧ Same F3 H3 ∧ (∀ a, F3 a ≠ none → F2 a ≠ none ∨ H2 a = none) ∧ RepF cl F3 d x) ∧ (ds.length ≤ i → J.stop i H2)
def SemIt (T : Tb) (W : WX) (w : WIt) (t : TI) : Prop :=
  ∀ (env : DL.Env) (Q : List D → DL.Env → Prop) (ex : XPo), w env Q ex → ∀ (σ : L2.St) (F H : Hp) (A : List Addr), Same F H → RelL T.cl F H env σ A → A.Nodup → ∀ R : It → Hp → Prop,
    (∀ ds env' J F' H' A', Q ds env' → Step F H A F' H' A' → Same F' H' → RelL T.cl F' H' env' σ A' → A'.Nodup → ItOk T.cl F' J ds → R J H') →
    XOk T W ex F H A σ → t σ H R
def JIt (T : Tb) (k : Nat) (c : Sc) (tg e : Expr) (w : WIt) : Prop := ∀ W : WX, ∃ t : TI, (∀ X, Fit T k c W X → PI X tg e t) ∧ SemIt T W w t
def itL (w : WI) : WIt := fun env Q ex => w env (fun o env' => ∃ ds, o = .v (.lst ds) ∧ Q ds env') ex
def itT (w : WI) : WIt := fun env Q ex => w env (fun o env' => ∃ ds, o = .v (.tup ds) ∧ Q ds env') ex
theorem repFs_inj_len {cl : Nat → Addr} {F : Hp} {ds : List D} {xs : List V} (h : RepFs cl F ds xs) : ds.length = xs.length := repFs_len h
theorem sql_inj {K : PySem.W.Frag} {H : Hp} {a : Addr} {xs ys : List V} (h : H a = some (.lst xs)) (hK : ∀ o, K.lookup a = some o → False) (h' : SqL K H a ys) : xs = ys := by
  rcases h' with (h' | ⟨o, h'⟩) | ⟨o, its, n, e, _⟩
  · rw [h] at h'; cases h'; rfl
  · rw [h] at h'; cases h'
  · exact (hK o e).elim
theorem JIt.lst {tg e : Expr} {w : WI} (h : JI T k c e w) : JIt T k c tg e (itL w) := fun W => by
  obtain ⟨t, pt, s⟩ := h W
  refine ⟨iList T.K t, fun X f => by have := pi_list (tg := tg) (pt X f); rw [f.K] at this; exact this, fun env Q ex hw σ F H A le rel nd R k1 kx => ?_⟩
  refine s env _ ex hw σ F H A le rel nd _ (fun o env1 v F1 H1 A1 q st le1 rel1 nd1 ho => ?_) kx
  obtain ⟨ds, e1, q⟩ := q
  subst e1
  obtain ⟨a, vs, e2, e3, hr⟩ := (show RepF T.cl F1 (.lst ds) v from ho)
  refine ⟨a, e2, ⟨vs, .inl (.inl (le1 _ _ e3))⟩, k1 ds env1 _ F1 H1 A1 q st le1 rel1 nd1 fun F2 H2 m le2 i => ?_⟩
  have hq : SqL T.K H2 a vs := .inl (.inl (le2 _ _ (m _ _ e3)))
  refine ⟨fun d ed => ?_, fun hi => ⟨vs, hq, by rw [← repFs_len hr]; exact hi⟩⟩
  obtain ⟨x, ex1, rx⟩ := repFs_get hr ed
  refine ⟨⟨vs, x, hq, ex1⟩, fun y H3 hy => ?_⟩
  obtain ⟨e4, hy⟩ := hy
  subst e4
  have ey : vs[i]? = some y := hy vs hq
  rw [ex1] at ey
  have ey' : x = y := Option.some.inj ey
  subst ey'
  exact ⟨F2, Same.refl F2, Same.refl _, le2, fun a h => .inl h, repF_mono m rx⟩
theorem JIt.tup {tg e : Expr} {w : WI} (h : JI T k c e w) : JIt T k c tg e (itT w) := fun W => by
  obtain ⟨t, pt, s⟩ := h W
  refine ⟨iTup T.K t, fun X f => by have := pi_tup (tg := tg) (pt X f); rw [f.K] at this; exact this, fun env Q ex hw σ F H A le rel nd R k1 kx => ?_⟩
  refine s env _ ex hw σ F H A le rel nd _ (fun o env1 v F1 H1 A1 q st le1 rel1 nd1 ho => ?_) kx
  obtain ⟨ds, e1, q⟩ := q
  subst e1
  obtain ⟨a, vs, e2, e3, hr⟩ := (show RepF T.cl F1 (.tup ds) v from ho)
  refine ⟨a, e2, ⟨vs, .inl (.inl (le1 _ _ e3))⟩, k1 ds env1 _ F1 H1 A1 q st le1 rel1 nd1 fun F2 H2 m le2 i => ?_⟩
  have hq : SqT T.K H2 a vs := .inl (.inl (le2 _ _ (m _ _ e3)))
  refine ⟨fun d ed => ?_, fun hi => ⟨vs, hq, by rw [← repFs_len hr]; exact hi⟩⟩
  obtain ⟨x, ex1, rx⟩ := repFs_get hr ed
  refine ⟨⟨vs, x, hq, ex1⟩, fun y H3 hy => ?_⟩
  obtain ⟨e4, hy⟩ := hy
  subst e4
  have ey : vs[i]? = some y := hy vs hq
  rw [ex1] at ey
  have ey' : x = y := Option.some.inj ey
  subst ey'
  exact ⟨F2, Same.refl F2, Same.refl _, le2, fun a h => .inl h, repF_mono m rx⟩
def rgD (lo hi : Int) : List D := (List.range (hi - lo).toNat).map fun i => .int (lo + (i : Nat))
def smallI (i : Int) : Prop := -(2 ^ 62) ≤ i ∧ i < 2 ^ 62
theorem rgD_get {lo hi : Int} {i : Nat} {d : D} (h : (rgD lo hi)[i]? = some d) : i < (hi - lo).toNat ∧ d = .int (lo + i) := by
  unfold rgD at h
  rw [List.getElem?_map] at h
  by_cases q : i < (hi - lo).toNat
  · rw [List.getElem?_range q] at h
    exact ⟨q, (Option.some.inj h).symm⟩
  · rw [List.getElem?_eq_none (by simpa using q)] at h
    cases h
theorem rgD_len {lo hi : Int} : (rgD lo hi).length = (hi - lo).toNat := by unfold rgD; rw [List.length_map, List.length_range]
theorem itr_ok {cl : Nat → Addr} {F : Hp} {lo hi : Int} : ItOk cl F (Itr lo (hi - lo).toNat) (rgD lo hi) := fun F2 H2 m le2 i => by
  refine ⟨fun d ed => ?_, fun h => by rw [rgD_len] at h; exact h⟩
  obtain ⟨h1, h2⟩ := rgD_get ed
  subst h2
  refine ⟨h1, fun x H3 hy => ?_⟩
  obtain ⟨e1, e2⟩ := hy
  subst e1 e2
  exact ⟨F2, Same.refl _, Same.refl _, le2, fun a h => .inl h, rfl⟩
def itR1 (wa : WA) : WIt := fun env Q ex => wa env (fun os env' => ∃ j n, resolve env' os = some [(n, .int j)] ∧ smallI j ∧ Q (rgD 0 j) env') ex
def itR2 (wa : WA) : WIt := fun env Q ex => wa env (fun os env' => ∃ i j n m, resolve env' os = some [(n, .int i), (m, .int j)] ∧ smallI i ∧ smallI j ∧ Q (rgD i j) env') ex
theorem JIt.range1 {tg a : Expr} {wa : WA} {p : Pos} (hm : T.mg "range" = none) (h : JA T k c [a] wa) (ns : noStar a = true := by rfl) (hg : glB c.sc "range" = true := by rfl) : JIt T k c tg (.Call (.Name "range" p) [a] [] pos) (itR1 wa) := fun W => by
  obtain ⟨t, pt, s⟩ := h W
  refine ⟨iRng1 t, fun X f => pi_range1 (gl_of f hg) (by rw [f.mg]; exact hm) (pt X f) (starEach_ne ns), fun env Q ex hw σ F H A le rel nd R k1 kx => ?_⟩
  refine s env _ ex hw σ F H A le rel nd _ (fun os env1 vs F1 H1 A1 q st le1 rel1 nd1 ho => ?_) kx
  obtain ⟨j, n, e1, ⟨s1, s2⟩, q⟩ := q
  obtain ⟨v, e2, h2⟩ := vs1 (resolve_at rel1 ho e1)
  have e3 := va_int h2
  subst e3
  refine ⟨j, e2, s1, s2, ?_⟩
  have hj : j.toNat = (j - 0).toNat := by rw [Int.sub_zero]
  rw [hj]
  exact k1 (rgD 0 j) env1 _ F1 H1 A1 q st le1 rel1 nd1 itr_ok
theorem JIt.range2 {tg a b : Expr} {wa : WA} {p : Pos} (hm : T.mg "range" = none) (h : JA T k c [a, b] wa) (ns : noStar a = true := by rfl) (ns2 : noStar b = true := by rfl) (hg : glB c.sc "range" = true := by rfl) : JIt T k c tg (.Call (.Name "range" p) [a, b] [] pos) (itR2 wa) := fun W => by
  obtain ⟨t, pt, s⟩ := h W
  refine ⟨iRng2 t, fun X f => pi_range2 (gl_of f hg) (by rw [f.mg]; exact hm) (pt X f) (by rw [starEach_ne ns, starEach_ne ns2]; rfl) (starEach_ne ns2), fun env Q ex hw σ F H A le rel nd R k1 kx => ?_⟩
  refine s env _ ex hw σ F H A le rel nd _ (fun os env1 vs F1 H1 A1 q st le1 rel1 nd1 ho => ?_) kx
  obtain ⟨i, j, n, m, e1, ⟨s1, s2⟩, ⟨s3, s4⟩, q⟩ := q
  obtain ⟨v, u, e2, h2, h3⟩ := vs2 (resolve_at rel1 ho e1)
  have e3 := va_int h2
  have e4 := va_int h3
  subst e3 e4
  exact ⟨i, j, e2, ⟨s1, s2, s3, s4⟩, k1 (rgD i j) env1 _ F1 H1 A1 q st le1 rel1 nd1 itr_ok⟩

def wFor (wi : WIt) (wg : WG) (wb : WS) : WS := fun env K => wi env (fun ds env1 => ∃ Inv : Nat → DL.Env → Prop, Inv 0 env1 ∧
    (∀ i env2 d, ds[i]? = some d → Inv i env2 → wg d env2 (fun env3 => wb env3 { K with nx := fun e => Inv (i + 1) e }) K.ex) ∧ ∀ env2, Inv ds.length env2 → K.nx env2) K.ex
theorem JS.for {tg e : Expr} {body : List Stmt} {wi : WIt} {wg : WG} {wb : WS} (hi : JIt T k c tg e wi) (hg : JG T k c P tg wg) (hb : JB T k c P body wb) (hs : ∀ (env : PySem.Env) x, foldedSetIterable e env x = pure x := by intro _ _; rfl) (hh : c.hot = false := by rfl) : JS T k c P (.For tg e body [] pos) (wFor wi wg wb) := fun W => by
  obtain ⟨ti, pi, si⟩ := hi W
  obtain ⟨g, pg, sg⟩ := hg W
  obtain ⟨tb, pb, sb⟩ := hb W
  refine ⟨tFor ti g tb, fun X f => ps_for f.own (f.calm hh) (pi X f.toFit) (pg X f.toFit) (pb X f) (hs X.env), fun env K hw σ F H A le rel nd D kn kr kx => ?_⟩
  refine si env _ _ hw σ F H A le rel nd _ (fun ds env1 J F1 H1 A1 q st1 le1 rel1 nd1 hJ => ?_) kx.x
  obtain ⟨Inv, i0, it, i1⟩ := q
  refine ⟨fun i m σ' H' => m = ds.length - i ∧ i ≤ ds.length ∧ ∃ env' F' A', Inv i env' ∧ Kp P σ σ' ∧ Step F H A F' H' A' ∧ Same F1 F' ∧ Same F' H' ∧ RelL T.cl F' H' env' σ' A' ∧ A'.Nodup,
    ⟨ds.length, by omega, Nat.zero_le _, env1, F1, A1, i0, Kp.refl P σ, st1, Same.refl F1, le1, rel1, nd1⟩, ?_⟩
  rintro i m σ2 H2 ⟨em, hi2, env2, F2, A2, inv, kp2, st2, mF, le2, rel2, nd2⟩
  have hJ2 := hJ F2 H2 mF le2 i
  rcases Nat.lt_or_ge i ds.length with hlt | hge
  · obtain ⟨d, ed⟩ : ∃ d, ds[i]? = some d := ⟨ds[i], List.getElem?_eq_getElem hlt⟩
    obtain ⟨hgo, hy⟩ := hJ2.1 d ed
    refine .inr ⟨hgo, fun σ' H' => ∃ env' F' A', Inv (i + 1) env' ∧ Kp P σ σ' ∧ Step F H A F' H' A' ∧ Same F1 F' ∧ Same F' H' ∧ RelL T.cl F' H' env' σ' A' ∧ A'.Nodup, fun σ' H' hN => ⟨ds.length - (i + 1), by omega, rfl, hlt, hN⟩, fun x H3 hx => ?_⟩
    obtain ⟨F3, mF3, mH3, le3, nF3, rx⟩ := hy x H3 hx
    obtain ⟨st3, rel3, nd3⟩ := after_pure (B := []) le2 rel2 nd2 mF3 mH3 nF3 (by simp) List.nodup_nil
    rw [List.append_nil] at st3 nd3
    have st23 := st2.trans st3
    refine sg d env2 _ _ (it i env2 d ed inv) σ2 F3 H3 A2 x le3 rel3 nd3 rx _ (fun env4 σ4 F4 H4 A4 q4 kp4 st4 le4 rel4 nd4 => ?_) (kx.x.step st23 |> fun z => ?_)
    · refine sb env4 _ q4 σ4 F4 H4 A4 le4 rel4 nd4 _ (fun env5 σ5 F5 H5 A5 q5 kp5 st5 le5 rel5 nd5 => ?_) (kr.step (kp2.trans kp4) (st23.trans st4)) (kx.step (kp2.trans kp4) (st23.trans st4))
      exact ⟨env5, F5, A5, q5, (kp2.trans kp4).trans kp5, (st23.trans st4).trans st5, ((mF.trans mF3).trans st4.mono).trans st5.mono, le5, rel5, nd5⟩
    · exact (kx.step kp2 st23).x
  · have e : i = ds.length := Nat.le_antisymm hi2 hge
    subst e
    exact .inl ⟨hJ2.2 (Nat.le_refl _), kn env2 σ2 F2 H2 A2 (i1 env2 inv) kp2 st2 le2 rel2 nd2⟩
def wWhile (wt : WT) (wb : WS) : WS := fun env K => ∃ Inv : Nat → DL.Env → Prop, (∃ n, Inv n env) ∧ ∀ n env1, Inv n env1 → wt env1 (fun b env2 => if b = true then wb env2 { K with nx := fun e => ∃ m, m < n ∧ Inv m e } else K.nx env2) K.ex
theorem JS.while {e : Expr} {body : List Stmt} {wt : WT} {wb : WS} (ht : JT T k c e wt) (hb : JB T k c P body wb) : JS T k c P (.While e body [] pos) (wWhile wt wb) := fun W => by
  obtain ⟨t, pt, s⟩ := ht W
  obtain ⟨tb, pb, sb⟩ := hb W
  refine ⟨tWhile t tb, fun X f => ps_while f.own (pt X f.toFit) (pb X f), fun env K hw σ F H A le rel nd D kn kr kx => ?_⟩
  obtain ⟨Inv, ⟨n0, i0⟩, it⟩ := hw
  refine ⟨fun m σ' H' => ∃ env' F' A', Inv m env' ∧ Kp P σ σ' ∧ Step F H A F' H' A' ∧ Same F' H' ∧ RelL T.cl F' H' env' σ' A' ∧ A'.Nodup, ⟨n0, env, F, A, i0, Kp.refl P σ, Step.refl F H A, le, rel, nd⟩, ?_⟩
  rintro m σ1 H1 ⟨env1, F1, A1, inv, kp1, st1, le1, rel1, nd1⟩
  refine s env1 _ _ (it m env1 inv) σ1 F1 H1 A1 le1 rel1 nd1 _ (fun b env2 F2 H2 A2 q st2 le2 rel2 nd2 => ?_) (kx.step kp1 st1).x
  have st12 := st1.trans st2
  cases b with
  | true =>
    refine ⟨fun σ' H' => ∃ m', m' < m ∧ ∃ env' F' A', Inv m' env' ∧ Kp P σ σ' ∧ Step F H A F' H' A' ∧ Same F' H' ∧ RelL T.cl F' H' env' σ' A' ∧ A'.Nodup, fun _ _ h => h, ?_⟩
    refine sb env2 _ q σ1 F2 H2 A2 le2 rel2 nd2 _ (fun env5 σ5 F5 H5 A5 q5 kp5 st5 le5 rel5 nd5 => ?_) (kr.step kp1 st12) (kx.step kp1 st12)
    obtain ⟨m', hm, q5⟩ := q5
    exact ⟨m', hm, env5, F5, A5, q5, kp1.trans kp5, st12.trans st5, le5, rel5, nd5⟩
  | false => exact kn env2 σ1 F2 H2 A2 q kp1 st12 le2 rel2 nd2
end
end DL

namespace DL
open PySem PySem.Spec PyProof.Rows L2

section
variable {cl : Nat → Addr} {F H : Hp}
theorem relL_ptw : ∀ {env : DL.Env} {σ : L2.St} {A : List Addr} {env' : DL.Env} {σ' : L2.St}, RelL cl F H env σ A → env'.length = env.length → σ'.length = σ.length →
    (∀ (i : Nat) (o : Option Val), env'[i]? = some o → o = none ∨ (∃ (d : D) (v : V), o = some (0, d) ∧ σ'[i]? = some (some v) ∧ RepF cl F d v) ∨ (env[i]? = some o ∧ σ'[i]? = σ[i]?)) → ∃ A', RelL cl F H env' σ' A' ∧ A'.Sublist A
  | [], σ, A, env', σ', h, h1, h2, _ => by
    simp only [RelL] at h
    obtain ⟨rfl, rfl⟩ := h
    have e1 : env' = [] := List.eq_nil_of_length_eq_zero h1
    have e2 : σ' = [] := List.eq_nil_of_length_eq_zero h2
    subst e1 e2
    exact ⟨[], by simp only [RelL]; exact ⟨trivial, trivial⟩, List.Sublist.refl _⟩
  | o0 :: env, σ, A, [], σ', h, h1, h2, _ => by simp at h1
  | o0 :: env, σ, A, o' :: env', σ', h, h1, h2, p => by
    have hσ : ∃ s r A1 A2, σ = s :: r ∧ A = A1 ++ A2 ∧ RelSlot cl F H o0 s A1 ∧ RelL cl F H env r A2 := by
      cases o0 with
      | none =>
        simp only [RelL] at h
        obtain ⟨s, r, e1, h⟩ := h
        exact ⟨s, r, [], A, e1, rfl, rfl, h⟩
      | some x =>
        obtain ⟨n, d⟩ := x
        simp only [RelL] at h
        obtain ⟨v, r, A1, A2, e1, e2, h3, h4⟩ := h
        exact ⟨some v, r, A1, A2, e1, e2, ⟨v, rfl, h3⟩, h4⟩
    obtain ⟨s, r, A1, A2, e1, e2, h3, h4⟩ := hσ
    subst e1 e2
    cases σ' with
    | nil => simp at h2
    | cons s' r' =>
      obtain ⟨A', h5, sub⟩ := relL_ptw (env' := env') (σ' := r') h4 (by simpa using h1) (by simpa using h2) fun i o e => by
        have := p (i + 1) o (by simpa using e)
        simpa using this
      have h0 := p 0 o' rfl
      rcases h0 with h0 | ⟨d, v, h0, h6, h7⟩ | ⟨h0, h6⟩
      · subst h0
        exact ⟨A', by simp only [RelL]; exact ⟨s', r', rfl, h5⟩, sub.trans (List.sublist_append_right _ _)⟩
      · subst h0
        have es : s' = some v := by simpa using h6
        subst es
        exact ⟨A', by simp only [RelL]; exact ⟨v, r', [], A', rfl, rfl, repO0.mpr ⟨h7, rfl⟩, h5⟩, sub.trans (List.sublist_append_right _ _)⟩
      · have eo : o0 = o' := by simpa using h0
        have es : s' = s := by simpa using h6
        subst eo es
        cases o0 with
        | none =>
          have : A1 = [] := h3
          subst this
          exact ⟨A', by simp only [RelL]; exact ⟨s', r', rfl, h5⟩, sub⟩
        | some x =>
          obtain ⟨n, d⟩ := x
          obtain ⟨v, e3, h3⟩ := h3
          subst e3
          exact ⟨A1 ++ A', by simp only [RelL]; exact ⟨v, r', A1, A', rfl, rfl, h3, h5⟩, List.Sublist.append (List.Sublist.refl _) sub⟩
theorem fgt_len : ∀ (js : List Nat) (env : DL.Env), (fgt js env).length = env.length
  | [], _ => rfl
  | j :: js, env => by
    show (fgt js (env.set j none)).length = _
    rw [fgt_len js, List.length_set]
theorem fgt_get : ∀ (js : List Nat) (env : DL.Env) (i : Nat), (i ∈ js → ∀ o, (fgt js env)[i]? = some o → o = none) ∧ (i ∉ js → (fgt js env)[i]? = env[i]?)
  | [], env, i => ⟨fun h => by simp at h, fun _ => rfl⟩
  | j :: js, env, i => by
    obtain ⟨h1, h2⟩ := fgt_get js (env.set j none) i
    refine ⟨fun hi o e => ?_, fun hi => ?_⟩
    · by_cases q : i ∈ js
      · exact h1 q o e
      · have ij : i = j := (List.mem_cons.mp hi).resolve_right q
        subst ij
        have e' : (fgt js (env.set i none))[i]? = some o := e
        rw [h2 q] at e'
        by_cases hl : i < env.length
        · rw [List.getElem?_set_self hl] at e'
          exact (Option.some.inj e').symm
        · rw [List.getElem?_eq_none (by simpa using hl)] at e'; cases e'
    · rw [List.mem_cons, not_or] at hi
      show (fgt js (env.set j none))[i]? = _
      rw [h2 hi.2, List.getElem?_set_ne (Ne.symm hi.1)]
def rst (js : List Nat) (env0 env : DL.Env) : DL.Env := js.foldl (fun e j => e.set j (match env0[j]? with | some o => o | none => none)) env
theorem rst_len : ∀ (js : List Nat) (env0 env : DL.Env), (rst js env0 env).length = env.length
  | [], _, _ => rfl
  | j :: js, env0, env => by
    show (rst js env0 (env.set j _)).length = _
    rw [rst_len js, List.length_set]
theorem rst_get : ∀ (js : List Nat) (env0 env : DL.Env) (i : Nat), env0.length = env.length → (i ∈ js → (rst js env0 env)[i]? = env0[i]?) ∧ (i ∉ js → (rst js env0 env)[i]? = env[i]?)
  | [], env0, env, i, _ => ⟨fun h => by simp at h, fun _ => rfl⟩
  | j :: js, env0, env, i, hl => by
    obtain ⟨h1, h2⟩ := rst_get js env0 (env.set j (match env0[j]? with | some o => o | none => none)) i (by rw [List.length_set]; exact hl)
    refine ⟨fun hi => ?_, fun hi => ?_⟩
    · by_cases q : i ∈ js
      · exact h1 q
      · have ij : i = j := (List.mem_cons.mp hi).resolve_right q
        subst ij
        show (rst js env0 (env.set i _))[i]? = _
        rw [h2 q]
        by_cases hlt : i < env.length
        · rw [List.getElem?_set_self hlt, List.getElem?_eq_getElem (show i < env0.length by omega)]
        · rw [List.getElem?_eq_none (by simpa using hlt), List.getElem?_eq_none (by omega)]
    · rw [List.mem_cons, not_or] at hi
      show (rst js env0 (env.set j _))[i]? = _
      rw [h2 hi.2, List.getElem?_set_ne (Ne.symm hi.1)]
theorem wipe_ne {σ : L2.St} {i : Nat} : ∀ {vs : List Nat}, i ∉ vs → (wipe σ vs)[i]? = σ[i]?
  | [], _ => rfl
  | v :: vs, h => by
    rw [List.mem_cons, not_or] at h
    show ((wipe σ vs).set v none)[i]? = _
    rw [List.getElem?_set_ne (Ne.symm h.1), wipe_ne h.2]
theorem wipe_in {σ : L2.St} {i : Nat} : ∀ {vs : List Nat}, i ∈ vs → ∀ x, (wipe σ vs)[i]? = some x → x = none
  | v :: vs, h, x, e => by
    have e' : ((wipe σ vs).set v none)[i]? = some x := e
    by_cases q : i = v
    · subst q
      by_cases hl : i < (wipe σ vs).length
      · rw [List.getElem?_set_self hl] at e'; exact (Option.some.inj e').symm
      · rw [List.getElem?_eq_none (by simpa using hl)] at e'; cases e'
    · rw [List.getElem?_set_ne (Ne.symm q)] at e'
      exact wipe_in ((List.mem_cons.mp h).resolve_left q) x e'
theorem wipe_eq {σ σ' : L2.St} {vs : List Nat} (hl : σ'.length = σ.length) (h : ∀ i, i ∉ vs → σ'[i]? = σ[i]?) : wipe σ' vs = wipe σ vs := by
  refine List.ext_getElem? fun i => ?_
  by_cases q : i ∈ vs
  · by_cases hi : i < σ.length
    · have l1 : i < (wipe σ' vs).length := by rw [wipe_length, hl]; exact hi
      have l2 : i < (wipe σ vs).length := by rw [wipe_length]; exact hi
      have a1 := wipe_in q _ (List.getElem?_eq_getElem l1)
      have a2 := wipe_in q _ (List.getElem?_eq_getElem l2)
      rw [List.getElem?_eq_getElem l1, List.getElem?_eq_getElem l2, a1, a2]
    · rw [List.getElem?_eq_none (by rw [wipe_length, hl]; omega), List.getElem?_eq_none (by rw [wipe_length]; omega)]
  · rw [wipe_ne q, wipe_ne q, h i q]
def ownOk (own : List Nat) (env : DL.Env) : Prop := ∀ i ∈ own, env[i]? = some none ∨ ∃ d, env[i]? = some (some (0, d))
theorem repO_back {G : Hp} {env : DL.Env} {σ : L2.St} {A : List Addr} {i : Nat} {d : D} (h : RelL cl F H env σ A) (e : env[i]? = some (some (0, d))) : ∃ v, σ[i]? = some (some v) ∧ RepF cl F d v := by
  obtain ⟨s, A1, Ai, A2, q1, q2, ⟨v, q3, q4⟩, q5⟩ := relL_split h e
  subst q3
  exact ⟨v, q1, (repO0.mp q4).1⟩
theorem repOs_app : ∀ {ds es : List D} {n : Nat} {vs us : List V} {A B : List Addr}, RepOs cl F H ds n vs A → RepOs cl F H es n us B → RepOs cl F H (ds ++ es) n (vs ++ us) (A ++ B)
  | [], _, _, _, _, _, _, h, h' => by
    simp only [RepOs] at h
    obtain ⟨rfl, rfl⟩ := h
    exact h'
  | d :: ds, es, n, vs, us, A, B, h, h' => by
    simp only [RepOs] at h
    obtain ⟨v, r, A1, A2, e1, e2, h1, h2⟩ := h
    subst e1 e2
    show RepOs cl F H (d :: (ds ++ es)) n _ _
    simp only [RepOs]
    exact ⟨v, r ++ us, A1, A2 ++ B, rfl, by rw [List.append_assoc], h1, repOs_app h2 h'⟩
end
def nox : XPo := fun _ _ => False
def wTrue : WT := fun env Q _ => Q true env
def wLc (own : List Nat) (wi : WIt) (wg : WG) (wc : WT) (we : WE) (dep : Nat) : WE := fun env Q ex => wi env (fun ds env1 => ∃ Inv : Nat → List D → DL.Env → Prop, Inv 0 [] env1 ∧
  (∀ i acc env2 d, ds[i]? = some d → Inv i acc env2 → ownOk own env2 ∧ acc.length < 16777216 ∧ wg d (fgt own env2) (fun env3 => wc env3 (fun b env4 =>
    if b = true then we env4 (fun r env5 => env5.length = env2.length ∧ (dep ≠ 0 → r.1 = dep) ∧ Inv (i + 1) (acc ++ [r.2]) (rst own env2 env5)) nox else env4.length = env2.length ∧ Inv (i + 1) acc (rst own env2 env4)) nox) nox) ∧
  ∀ acc env2, Inv ds.length acc env2 → Q (dep + 1, .lst acc) env2) ex
def cP (own : List Nat) : Nat → Bool := fun i => !own.contains i
section
variable {T : Tb} {k : Nat} {c : Sc} {pos : Pos}
def JTs (T : Tb) (k : Nat) (c : Sc) (es : List Expr) (w : WT) : Prop := ∀ W : WX, ∃ t : TT, (∀ X, Fit T k c W X → PTs X es t) ∧ SemT T W w t
theorem JTs.nil : JTs T k c [] wTrue := fun W => ⟨tYes, fun _ _ => pts_nil, fun env Q ex h σ F H A le rel nd R k1 _ => k1 true env F H A h (Step.refl F H A) le rel nd⟩
theorem JTs.one {e : Expr} {w : WT} (h : JT T k c e w) : JTs T k c [e] w := fun W => by
  obtain ⟨t, pt, s⟩ := h W
  exact ⟨t, fun X f => pts_one (pt X f), s⟩
def blkSc (c : Sc) (scope : Scope) : Sc := ⟨c.N, relS scope c.sc, fun x => match scope.names.lookup x with
  | some .local => true
  | some .cell => true
  | _ => false, c.hot, none⟩
theorem takesN {X : Cx} : L2N.Takes X (fun _ _ _ _ => False) := fun _ _ x => by
  obtain ⟨_, _, _, _, _, _, _, _, _, _, _, _, _, _, _, _, z⟩ := x; exact z.elim
abbrev W0 : WX := fun _ _ _ _ => False
theorem fit_blk {W : WX} {X : Cx} {scope : Scope} (f : Fit T k c W X) (s : Shared) (H : Hp) (C : Addr) (cll : List (Str × Addr)) (fp : List Addr) : Fit T k (blkSc c scope) W0 (X.blk s H scope (compEnvC scope cll C X.env) fp) where
  prog := f.prog
  w := f.w
  K := f.K
  mg := f.mg
  base := f.base
  N := f.N
  sc := by show relS scope X.env.scope = relS scope c.sc; rw [f.sc]
  nd := f.nd
  calm := f.calm
  hd := f.hd
  room := f.room
  tk := takesN
  pin := fun _ _ h => by cases h
  own := PassesOwn.never
  fn := fun x h => by
    unfold blkSc at h
    dsimp only at h
    split at h
    · rename_i e
      exact .inr (lookup_relS_keep (by decide) e)
    · rename_i e
      refine .inl ?_
      show (scope.names.lookup x == some NameKind.cell) = true
      rw [e]; rfl
    · cases h
theorem lc_sem {W : WX} {own : List Nat} {wi : WIt} {wg : WG} {wc : WT} {we : WE} {dep : Nat} {ti : TI} {g : TG} {tt : TT} {te : TE} (si : SemIt T W wi ti) (sg : SemG T W0 (cP own) wg g) (st : SemT T W0 wc tt) (se : SemE T W0 we te) :
    ∀ (env : DL.Env) (Q : Post) (ex : XPo), wLc own wi wg wc we dep env Q ex → ∀ (σ : L2.St) (F H : Hp) (A : List Addr), Same F H → RelL T.cl F H env σ A → A.Nodup → ∀ R : VK,
    (∀ r env' v F' H' A' B, Q r env' → Step F H A F' H' (A' ++ B) → Same F' H' → RelL T.cl F' H' env' σ A' → RepO T.cl F' H' r.2 r.1 v B → (A' ++ B).Nodup → R v H') →
    XOk T W ex F H A σ → tLc ti g tt te own σ H R := by
  intro env Q ex hw σ F H A le rel nd R k1 kx
  refine si env _ ex hw σ F H A le rel nd _ (fun ds env1 J F1 H1 A1 q st1 le1 rel1 nd1 hJ => ?_) kx
  obtain ⟨Inv, i0, it, i1⟩ := q
  intro Dl hD
  have fD : F1 Dl = none := le1.free hD
  have own1 := relL_own le1 rel1
  have hDA : Dl ∉ A1 := fun h => (own1 Dl h).1 hD
  have mH : Same H1 (upd H1 Dl (.lst [])) := fun b u e => by rw [upd_ne (ne_of_none e hD)]; exact e
  refine ⟨fun i m H' => m = ds.length - i ∧ i ≤ ds.length ∧ ∃ acc vs env' F' A' B', Inv i acc env' ∧ Step F H A F' H' (A' ++ Dl :: B') ∧ Same F1 F' ∧ Same F' H' ∧ RelL T.cl F' H' env' σ A' ∧ H' Dl = some (.lst vs) ∧ F' Dl = none ∧ RepOs T.cl F' H' acc dep vs B' ∧ (A' ++ Dl :: B').Nodup,
    ⟨ds.length, by omega, Nat.zero_le _, [], [], env1, F1, A1, [], i0, ?_, Same.refl F1, le1.trans mH, ?_, upd_same, fD, by simp only [RepOs]; exact ⟨trivial, trivial⟩, ?_⟩, ?_⟩
  · have s2 : Step F1 H1 A1 F1 (upd H1 Dl (.lst [])) (A1 ++ [Dl]) := ⟨Same.refl F1, fun a o e _ => mH a o e, fun a h => .inl h, fun a h => (List.mem_append.mp h).elim .inl fun h => by simp at h; subst h; exact .inr hD, fun a h => by
      cases q : H1 a with
      | none => exact absurd q h
      | some o => rw [mH a o q]; simp⟩
    exact st1.trans s2
  · refine relL_frame (Same.refl F1) rel1 (fun a ha => ?_) fun a ha => (own1 a ha).2
    exact upd_ne fun z => hDA (by rw [← z]; exact ha)
  · rw [List.nodup_append]
    exact ⟨nd1, by simp, fun a ha b hb e => by simp at hb; subst hb; subst e; exact hDA ha⟩
  rintro i m H2 ⟨em, hi2, acc, vs, env2, F2, A2, B2, inv, st2, mF, le2, rel2, hD2, fD2, rp2, nd2⟩
  have hJ2 := hJ F2 H2 mF le2 i
  have ndA2 : A2.Nodup := (List.nodup_append.mp nd2).1
  rcases Nat.lt_or_ge i ds.length with hlt | hge
  · obtain ⟨d, ed⟩ : ∃ d, ds[i]? = some d := ⟨ds[i], List.getElem?_eq_getElem hlt⟩
    obtain ⟨hgo, hy⟩ := hJ2.1 d ed
    refine .inr ⟨hgo, fun H' => ∃ acc vs env' F' A' B', Inv (i + 1) acc env' ∧ Step F H A F' H' (A' ++ Dl :: B') ∧ Same F1 F' ∧ Same F' H' ∧ RelL T.cl F' H' env' σ A' ∧ H' Dl = some (.lst vs) ∧ F' Dl = none ∧ RepOs T.cl F' H' acc dep vs B' ∧ (A' ++ Dl :: B').Nodup, fun H' hN => ⟨ds.length - (i + 1), by omega, rfl, hlt, hN⟩, fun x H3 hx => ?_⟩
    obtain ⟨F3, mF3, mH3, le3, nF3, rx⟩ := hy x H3 hx
    obtain ⟨ok, hz, hwg⟩ := it i acc env2 d ed inv
    obtain ⟨st3, rel3, nd3⟩ := after_pure (B := []) le2 rel2 ndA2 mF3 mH3 nF3 (by simp) List.nodup_nil
    rw [List.append_nil] at st3 nd3
    obtain ⟨A3, rel3', sub3⟩ := relL_ptw (env' := fgt own env2) (σ' := wipe σ own) rel3 (fgt_len _ _) (wipe_length _ _) fun j o e => by
      by_cases hj : j ∈ own
      · exact .inl ((fgt_get own env2 j).1 hj o e)
      · exact .inr (.inr ⟨by rw [← (fgt_get own env2 j).2 hj]; exact e, wipe_ne hj⟩)
    have nd3' : A3.Nodup := ndA2.sublist sub3
    have pend : ∀ a ∈ Dl :: B2, H2 a ≠ none ∧ F2 a = none := fun a ha => by
      rcases List.mem_cons.mp ha with e | h
      · subst e; exact ⟨by rw [hD2]; simp, fD2⟩
      · exact repOs_own le2 rp2 a h
    have dis : ∀ a ∈ Dl :: B2, a ∉ A3 := fun a ha h => (List.nodup_append.mp nd2).2.2 a (sub3.subset h) a ha rfl
    have back : ∀ {F5 H5 : Hp} {A5 : List Addr} {env5 : DL.Env} {σ5 : L2.St}, Step F3 H3 A3 F5 H5 A5 → Same F5 H5 → RelL T.cl F5 H5 env5 σ5 A5 → A5.Nodup → wipe σ5 own = wipe σ own → env5.length = env2.length →
        ∃ A6, RelL T.cl F5 H5 (rst own env2 env5) σ A6 ∧ A6.Sublist A5 ∧ H5 Dl = some (.lst vs) ∧ F5 Dl = none ∧ RepOs T.cl F5 H5 acc dep vs B2 ∧ (∀ a ∈ Dl :: B2, a ∉ A5) ∧ Step F H A F5 H5 (A5 ++ Dl :: B2) := by
      intro F5 H5 A5 env5 σ5 s5 le5 rel5 nd5 hw5 hl5
      have pend3 : ∀ a ∈ Dl :: B2, H3 a ≠ none ∧ F3 a = none := fun a ha => by
        obtain ⟨p1, p2⟩ := pend a ha
        refine ⟨fun z => ?_, ?_⟩
        · cases q : H2 a with
          | none => exact p1 q
          | some o => rw [mH3 a o q] at z; cases z
        · cases q : F3 a with
          | none => rfl
          | some o =>
            rcases nF3 a (by rw [q]; simp) with z | z
            · exact absurd p2 z
            · exact absurd z p1
      obtain ⟨k1', k2', k3'⟩ := s5.apart pend3 dis
      have hsame : ∀ a ∈ Dl :: B2, H5 a = H2 a := fun a ha => by
        rw [k1' a ha]
        cases q : H2 a with
        | none => exact absurd q (pend a ha).1
        | some o => exact mH3 a o q
      obtain ⟨A6, rel6, sub6⟩ := relL_ptw (env' := rst own env2 env5) (σ' := σ) rel5 (rst_len _ _ _) (by
        have := congrArg List.length hw5
        rw [wipe_length, wipe_length] at this
        exact this.symm) fun j o e => by
        obtain ⟨r1, r2⟩ := rst_get own env2 env5 j hl5.symm
        by_cases hj : j ∈ own
        · rw [r1 hj] at e
          rcases ok j hj with z | ⟨d', z⟩
          · rw [z] at e; exact .inl (Option.some.inj e).symm
          · rw [z] at e
            obtain ⟨v', p1, p2⟩ := repO_back (G := F5) rel2 z
            exact .inr (.inl ⟨d', v', (Option.some.inj e).symm, p1, repF_mono (mF3.trans s5.mono) p2⟩)
        · rw [r2 hj] at e
          refine .inr (.inr ⟨e, ?_⟩)
          have a1 := wipe_ne (σ := σ5) hj
          have a2 := wipe_ne (σ := σ) hj
          rw [← a1, ← a2, hw5]
      refine ⟨A6, rel6, sub6, (hsame Dl (by simp)).trans hD2, k2' Dl (by simp), repOs_frame (mF3.trans s5.mono) rp2 (fun a ha => hsame a (by simp [ha])) (fun a ha => k2' a (by simp [ha])), k3', ?_⟩
      have s23 : Step F2 H2 A2 F3 H3 A2 := st3
      have s25 : Step F2 H2 (A2 ++ Dl :: B2) F5 H5 (A5 ++ Dl :: B2) := by
        refine ⟨mF3.trans s5.mono, fun a o e n => ?_, fun a h => ?_, fun a h => ?_, fun a h => s5.live a (st3.live a h)⟩
        · refine s5.keep a o (mH3 a o e) fun h => n (List.mem_append_left _ (sub3.subset h))
        · rcases s5.newF a h with z | z | z
          · rcases nF3 a z with z | z
            · exact .inl z
            · exact .inr (.inr z)
          · exact .inr (.inl (List.mem_append_left _ (sub3.subset z)))
          · refine .inr (.inr ?_)
            cases q : H2 a with
            | none => rfl
            | some o => rw [mH3 a o q] at z; cases z
        · rcases List.mem_append.mp h with h | h
          · rcases s5.newA a h with z | z
            · exact .inl (List.mem_append_left _ (sub3.subset z))
            · refine .inr ?_
              cases q : H2 a with
              | none => rfl
              | some o => rw [mH3 a o q] at z; cases z
          · exact .inl (List.mem_append_right _ h)
      exact st2.trans s25
    have st33 : Step F2 H2 A2 F3 H3 A3 := st3.less fun a h => sub3.subset h
    refine sg d (fgt own env2) _ _ hwg (wipe σ own) F3 H3 A3 x le3 rel3' nd3' rx _ (fun env4 σ4 F4 H4 A4 q4 kp4 st4 le4 rel4 nd4 => ?_) (fun _ _ _ _ _ z => z.elim)
    have hw4 : wipe σ4 own = wipe σ own := by
      have : wipe σ4 own = wipe (wipe σ own) own := wipe_eq kp4.1 fun j hj => kp4.2 j (by simp [cP, hj])
      rw [this]
      exact wipe_eq (wipe_length _ _) fun j hj => wipe_ne hj
    refine ⟨hw4, ?_⟩
    refine st env4 _ _ q4 σ4 F4 H4 A4 le4 rel4 nd4 _ (fun b env5 F5 H5 A5 q5 st5 le5 rel5 nd5 => ?_) (fun _ _ _ _ _ z => z.elim)
    cases b with
    | false =>
      obtain ⟨hl5, q5⟩ : env5.length = env2.length ∧ Inv (i + 1) acc (rst own env2 env5) := q5
      obtain ⟨A6, rel6, sub6, e1, e2, e3, e4, e5⟩ := back (st4.trans st5) le5 rel5 nd5 hw4 hl5
      refine ⟨acc, vs, _, F5, A6, B2, q5, e5.less fun a h => ?_, (mF.trans mF3).trans (st4.mono.trans st5.mono), le5, rel6, e1, e2, e3, ?_⟩
      · rcases List.mem_append.mp h with z | z
        · exact List.mem_append_left _ (sub6.subset z)
        · exact List.mem_append_right _ z
      · rw [List.nodup_append]
        exact ⟨nd5.sublist sub6, (List.nodup_append.mp nd2).2.1, fun a ha b hb z => by subst z; exact e4 a hb (sub6.subset ha)⟩
    | true =>
      have q5' : we env5 (fun r env5 => env5.length = env2.length ∧ (dep ≠ 0 → r.1 = dep) ∧ Inv (i + 1) (acc ++ [r.2]) (rst own env2 env5)) nox := q5
      refine se env5 _ _ q5' σ4 F5 H5 A5 le5 rel5 nd5 _ (fun r env6 y F6 H6 A6 B6 q6 st6 le6 rel6 rp6 nd6 => ?_) (fun _ _ _ _ _ z => z.elim)
      obtain ⟨hl6, hdep, q6⟩ := q6
      have ndA6 := (List.nodup_append.mp nd6).1
      have item : ∃ F7 B7, Step F6 H6 (A6 ++ B6) F7 H6 (A6 ++ B7) ∧ Same F7 H6 ∧ RelL T.cl F7 H6 env6 σ4 A6 ∧ RepO T.cl F7 H6 r.2 dep y B7 ∧ (A6 ++ B7).Nodup := by
        by_cases hd : dep = 0
        · subst hd
          obtain ⟨s7, le7, rel7, rf⟩ := freeze_tail le6 rel6 rp6 nd6
          exact ⟨_, [], by simpa using s7, le7, rel7, repO0.mpr ⟨rf, rfl⟩, by simpa using ndA6⟩
        · exact ⟨F6, B6, Step.refl _ _ _, le6, rel6, by rw [← hdep hd]; exact rp6, nd6⟩
      obtain ⟨F7, B7, s7, le7, rel7, rp7, nd7⟩ := item
      obtain ⟨A8, rel8, sub8, e1, e2, e3, e4, e5⟩ := back (((st4.trans st5).trans st6).trans s7 |>.less (A'' := A6) fun a h => List.mem_append_left _ h) le7 rel7 ndA6 hw4 hl6
      have sB7 : ∀ a ∈ Dl :: B2, a ∉ B7 := fun a ha hb => by
        rcases (((st4.trans st5).trans st6).trans s7).newA a (List.mem_append_right _ hb) with z | z
        · exact dis a ha z
        · obtain ⟨p1, p2⟩ := pend a ha
          cases q : H2 a with
          | none => exact p1 q
          | some o => rw [mH3 a o q] at z; cases z
      have hDl : H6 Dl = some (.lst vs) := e1
      have nB7 : ∀ a ∈ B7, a ≠ Dl := fun a ha z => sB7 Dl (by simp) (by rw [← z]; exact ha)
      have nA8 : ∀ a ∈ A8, a ≠ Dl := fun a ha z => e4 Dl (by simp) (by rw [← z]; exact sub8.subset ha)
      have nB2 : ∀ a ∈ B2, a ≠ Dl := fun a ha z => by
        have := (List.nodup_append.mp nd2).2.1
        rw [List.nodup_cons] at this
        exact this.1 (by rw [← z]; exact ha)
      refine ⟨vs, hDl, by rw [sizeLine_eq, ← repOs_len rp2]; exact hz, acc ++ [r.2], vs ++ [y], _, F7, A8, B2 ++ B7, q6, ?_, (mF.trans mF3).trans (((st4.mono.trans st5.mono).trans st6.mono).trans s7.mono), ?_, ?_, upd_same, e2, ?_, ?_⟩
      · -- the step
        have s67 : Step F H A F7 H6 (A6 ++ Dl :: B2) := e5
        have hB7new : ∀ a ∈ B7, a ∈ A ∨ H a = none := fun a ha => by
          rcases (((st4.trans st5).trans st6).trans s7).newA a (List.mem_append_right _ ha) with z | z
          · rcases (st2.less (A'' := A2) fun b hb => List.mem_append_left _ hb).newA a (sub3.subset z) with z | z
            · exact .inl z
            · exact .inr z
          · refine .inr ?_
            cases q : H a with
            | none => rfl
            | some o =>
              have h2 := st2.live a (by rw [q]; simp)
              cases q2 : H2 a with
              | none => exact absurd q2 h2
              | some o2 => rw [mH3 a o2 q2] at z; cases z
        refine ⟨s67.mono, fun a o e hn => ?_, s67.newF, fun a ha => ?_, fun a ha => ?_⟩
        · have : a ≠ Dl := fun z => by
            subst z
            rcases s67.newA a (by simp) with z | z
            · exact hn z
            · rw [e] at z; cases z
          rw [upd_ne this]
          exact s67.keep a o e hn
        · simp only [List.mem_append, List.mem_cons] at ha
          rcases ha with z | z | z | z
          · exact s67.newA a (List.mem_append_left _ (sub8.subset z))
          · exact s67.newA a (by simp [z])
          · exact s67.newA a (by simp [z])
          · exact hB7new a z
        · by_cases z : a = Dl
          · subst z; rw [upd_same]; simp
          · rw [upd_ne z]; exact s67.live a ha
      · intro b u e
        rw [upd_ne fun z => by rw [z, e2] at e; cases e]
        exact le7 b u e
      · exact relL_frame (Same.refl F7) rel8 (fun a ha => upd_ne (nA8 a ha)) fun a ha => (relL_own le7 rel8 a ha).2
      · refine repOs_app (repOs_frame (Same.refl F7) e3 (fun a ha => upd_ne (nB2 a ha)) fun a ha => (repOs_own le7 e3 a ha).2) ?_
        simp only [RepOs]
        refine ⟨y, [], B7, [], rfl, (List.append_nil _).symm, repO_frame (Same.refl F7) rp7 (fun a ha => upd_ne (nB7 a ha)) (fun a ha => (repO_own le7 rp7 a ha).2), rfl, rfl⟩
      · have n67 := List.nodup_append.mp nd7
        have nDB := (List.nodup_append.mp nd2).2.1
        rw [List.nodup_append]
        refine ⟨ndA6.sublist sub8, ?_, fun a ha b hb z => ?_⟩
        · show (Dl :: (B2 ++ B7)).Nodup
          rw [← List.cons_append, List.nodup_append]
          exact ⟨nDB, n67.2.1, fun a ha b hb z => by subst z; exact sB7 a ha hb⟩
        · subst z
          have hb' : a ∈ (Dl :: B2) ++ B7 := hb
          rcases List.mem_append.mp hb' with z | z
          · exact e4 a z (sub8.subset ha)
          · exact n67.2.2 a (sub8.subset ha) a z rfl
  · have e : i = ds.length := Nat.le_antisymm hi2 hge
    subst e
    refine .inl ⟨hJ2.2 (Nat.le_refl _), k1 (dep + 1, .lst acc) env2 (.ref Dl) F2 H2 A2 (Dl :: B2) (i1 acc env2 inv) st2 le2 rel2 ?_ nd2⟩
    simp only [RepO]
    exact ⟨Dl, vs, B2, rfl, hD2, fD2, rfl, rp2⟩
theorem JE.lc {elt tg iter : Expr} {ifs : List Expr} {scope : Scope} {wi : WIt} {wg : WG} {wc : WT} {we : WE} (own : List (Str × Nat)) (dep : Nat) (hi : JIt T k c tg iter wi) (hg : JG T k (blkSc c scope) (cP (own.map (·.2))) tg wg) (ht : JTs T k (blkSc c scope) ifs wc) (he : JE T k (blkSc c scope) elt we)
    (hb : blkC c.N c.sc scope own = true := by decide +kernel) (hs : ∀ (env : PySem.Env) x, foldedSetIterable iter env x = pure x := by intro _ _; rfl) (hh : c.hot = false := by rfl) : JE T k c (.ListComp elt [⟨tg, iter, ifs, 0⟩] scope pos) (wLc (own.map (·.2)) wi wg wc we dep) := fun W => by
  obtain ⟨ti, pi, si⟩ := hi W
  obtain ⟨g, pg, sg⟩ := hg W0
  obtain ⟨tt, pt, st⟩ := ht W0
  obtain ⟨te, pe, se⟩ := he W0
  refine ⟨tLc ti g tt te (own.map (·.2)), fun X f => ?_, fun env Q ex => lc_sem (dep := dep) si sg st se env Q ex⟩
  refine pe_lc (f.calm hh) f.nd (pi X f) (blkOk_by ?_) (fun s H C cll fp => pg _ (fit_blk f s H C cll fp)) (fun s H C cll fp => pt _ (fit_blk f s H C cll fp)) (fun s H C cll fp => pe _ (fit_blk f s H C cll fp)) (hs X.env)
  rw [f.N, f.sc]; exact hb
end
section
variable {T : Tb} {k : Nat} {c : Sc} {P : Nat → Bool} {pos : Pos}
theorem JS.asgLc {elt tg iter : Expr} {ifs : List Expr} {scope : Scope} {wi : WIt} {wg : WG} {wc : WT} {we : WE} {x : Str} {p pos2 : Pos} (own : List (Str × Nat)) (dep : Nat) (i : Nat) (keep : Bool) (hi : JIt T k c tg iter wi) (hg : JG T k (blkSc c scope) (cP (own.map (·.2))) tg wg) (ht : JTs T k (blkSc c scope) ifs wc) (he : JE T k (blkSc c scope) elt we)
    (hP : P i = false := by rfl) (hN : c.N[i]? = some x := by rfl) (hx : (match c.sc.names.lookup x with | some .local => true | _ => false) = true := by rfl) (hk : (match c.sc.kind with | .function => true | _ => false) = true := by rfl) (hl : (p.line == pos2.line) = true := by rfl)
    (ha : (scope.names.any fun (n, k) => n == x && (k == .local || k == .cell)) = false := by decide +kernel)
    (hb : blkC c.N c.sc scope own = true := by decide +kernel) (hs : ∀ (env : PySem.Env) x, foldedSetIterable iter env x = pure x := by intro _ _; rfl) (hh : c.hot = false := by rfl) : JS T k c P (.Assign [.Name x p] (.ListComp elt [⟨tg, iter, ifs, 0⟩] scope pos2) pos) (wAsg i keep (wLc (own.map (·.2)) wi wg wc we dep)) := fun W => by
  obtain ⟨ti, pi, si⟩ := hi W
  obtain ⟨g, pg, sg⟩ := hg W0
  obtain ⟨tt, pt, st⟩ := ht W0
  obtain ⟨te, pe, se⟩ := he W0
  have s := lc_sem (dep := dep) si sg st se
  have hxl : c.sc.names.lookup x = some .local := by
    revert hx
    split
    · rename_i e; exact fun _ => e
    · intro h; cases h
  have hkf : c.sc.kind = .function := by
    revert hk
    split
    · rename_i e; exact fun _ => e
    · intro h; cases h
  refine ⟨tAsg (tLc ti g tt te (own.map (·.2))) (gName i), fun X f => ?_, fun env K hw σ F H A le rel nd D kn kr kx => ?_⟩
  · refine ps_setLc (f.calm hh) f.nd (by rw [f.N]; exact hN) (by rw [f.sc]; exact hxl) (sw_true (by rw [f.sc]; exact hkf) (by rw [f.sc]; exact hxl) hl ha) (pi X f.toFit) (blkOk_by ?_) (fun s H C cll fp => pg _ (fit_blk f.toFit s H C cll fp)) (fun s H C cll fp => pt _ (fit_blk f.toFit s H C cll fp)) (fun s H C cll fp => pe _ (fit_blk f.toFit s H C cll fp)) (hs X.env)
    rw [f.N, f.sc]; exact hb
  · refine s env _ _ hw σ F H A le rel nd _ (fun r env1 v F1 H1 A1 B q st1 le1 rel1 rp nd1 => ?_) kx.x
    exact asg_core hP le1 rel1 rp nd1 q.1 q.2 (kn.step (Kp.refl P σ) st1)
end
end DL

namespace DL
open PySem PySem.Spec PyProof.Rows L2

abbrev FSp := List D → (Val → List D → Prop) → (Nat → Prop) → Prop
section
variable (cl : Nat → Addr) (F H : Hp)
def ArgsAt : List Nat → List D → List V → List Addr → Prop
  | [], ds, vs, A => ds = [] ∧ vs = [] ∧ A = []
  | m :: ms, ds, vs, A => ∃ d dr v r A1 A2, ds = d :: dr ∧ vs = v :: r ∧ A = A1 ++ A2 ∧ RepO cl F H d m v A1 ∧ ArgsAt ms dr r A2
def MutAt : List Nat → List D → List V → List Addr → Prop
  | [], os, vs, A => os = [] ∧ vs = [] ∧ A = []
  | 0 :: ms, os, vs, A => ∃ v r, vs = v :: r ∧ MutAt ms os r A
  | (m + 1) :: ms, os, vs, A => ∃ d dr v r A1 A2, os = d :: dr ∧ vs = v :: r ∧ A = A1 ++ A2 ∧ RepO cl F H d (m + 1) v A1 ∧ MutAt ms dr r A2
end
def spOf (T : Tb) (ms : List Nat) (sp : FSp) : Sp := fun vs H Q E => ∃ F A ds, Same F H ∧ ArgsAt T.cl F H ms ds vs A ∧ A.Nodup ∧ ∃ (Qd : Val → List D → Prop) (Ed : Nat → Prop), sp ds Qd Ed ∧
  (∀ r outs v F' H' A' B, Qd r outs → Step F H A F' H' (A' ++ B) → Same F' H' → MutAt T.cl F' H' ms outs vs A' → RepO T.cl F' H' r.2 r.1 v B → (A' ++ B).Nodup → Q v H') ∧
  ∀ c F' H' A', Ed c → Step F H A F' H' A' → Same F' H' → E (.ref (T.cl c)) none H'
theorem argsAt_len {cl : Nat → Addr} {F H : Hp} : ∀ {ms : List Nat} {ds : List D} {vs : List V} {A : List Addr}, ArgsAt cl F H ms ds vs A → vs.length = ms.length ∧ ds.length = ms.length
  | [], _, _, _, h => by obtain ⟨rfl, rfl, _⟩ := h; exact ⟨rfl, rfl⟩
  | m :: ms, _, _, _, h => by
    obtain ⟨d, dr, v, r, A1, A2, rfl, rfl, _, _, h⟩ := h
    obtain ⟨h1, h2⟩ := argsAt_len h
    exact ⟨by simp [h1], by simp [h2]⟩
def argD : List Nat → DL.Env → List Opd → Option (List D × DL.Env)
  | [], env, [] => some ([], env)
  | 0 :: ms, env, .v d :: os => match argD ms env os with
    | some (ds, e) => some (d :: ds, e)
    | none => none
  | (m + 1) :: ms, env, .s i :: os => match env[i]? with
    | some (some (n, d)) => if n = m + 1 then (match argD ms (env.set i none) os with
      | some (ds, e) => some (d :: ds, e)
      | none => none) else none
    | _ => none
  | _, _, _ => none
def putD : List Nat → DL.Env → List Opd → List D → Option DL.Env
  | [], env, [], [] => some env
  | 0 :: ms, env, _ :: os, ds => putD ms env os ds
  | (m + 1) :: ms, env, .s i :: os, d :: ds => if i < env.length then putD ms (env.set i (some (m + 1, d))) os ds else none
  | _, _, _, _ => none
def wCall (sp : FSp) (ms : List Nat) (wa : WA) : WE := fun env Q ex => wa env (fun os env1 => ∃ ds env2, argD ms env1 os = some (ds, env2) ∧
  sp ds (fun r outs => ∃ env3, putD ms env2 os outs = some env3 ∧ Q r env3) (fun c => ex c env2)) ex
section
variable {cl : Nat → Addr} {F H : Hp}
theorem args_take : ∀ {ms : List Nat} {env : DL.Env} {os : List Opd} {ds : List D} {env' : DL.Env} {σ : L2.St} {A : List Addr} {vs : List V}, RelL cl F H env σ A → OpdsAt cl F σ os vs → argD ms env os = some (ds, env') → A.Nodup →
    ∃ B A', RelL cl F H env' σ A' ∧ ArgsAt cl F H ms ds vs B ∧ (∀ a ∈ A' ++ B, a ∈ A) ∧ (A' ++ B).Nodup
  | [], env, [], ds, env', σ, A, vs, rel, ho, e, nd => by
    simp only [argD, Option.some.injEq, Prod.mk.injEq] at e
    obtain ⟨rfl, rfl⟩ := e
    have : vs = [] := ho
    subst this
    exact ⟨[], A, rel, ⟨rfl, rfl, rfl⟩, fun a h => by simpa using h, by simpa using nd⟩
  | 0 :: ms, env, .v d :: os, ds, env', σ, A, vs, rel, ho, e, nd => by
    obtain ⟨v, r, rfl, h1, h2⟩ := ho
    simp only [argD] at e
    cases q : argD ms env os with
    | none => rw [q] at e; cases e
    | some p =>
      obtain ⟨ds1, e1⟩ := p
      rw [q] at e
      simp only [Option.some.injEq, Prod.mk.injEq] at e
      obtain ⟨rfl, rfl⟩ := e
      obtain ⟨B, A', r1, r2, r3, r4⟩ := args_take rel h2 q nd
      exact ⟨B, A', r1, ⟨d, ds1, v, r, [], B, rfl, rfl, rfl, repO0.mpr ⟨h1, rfl⟩, r2⟩, r3, r4⟩
  | (m + 1) :: ms, env, .s i :: os, ds, env', σ, A, vs, rel, ho, e, nd => by
    obtain ⟨v, r, rfl, h1, h2⟩ := ho
    simp only [argD] at e
    split at e
    · rename_i n d q
      split at e
      · rename_i hn
        subst hn
        cases q2 : argD ms (env.set i none) os with
        | none => rw [q2] at e; cases e
        | some p =>
          obtain ⟨ds1, e1⟩ := p
          rw [q2] at e
          simp only [Option.some.injEq, Prod.mk.injEq] at e
          obtain ⟨rfl, rfl⟩ := e
          obtain ⟨v', A1, Ai, A2, p1, p2, p3, p4⟩ := relL_out rel q
          have h1' : σ[i]? = some (some v) := h1
          rw [h1'] at p1
          have p1' : v = v' := by simpa using p1
          subst p1' p2
          have nd2 := nd_mid nd
          obtain ⟨B, A', r1, r2, r3, r4⟩ := args_take p4 h2 q2 (List.nodup_append.mp nd2).1
          refine ⟨Ai ++ B, A', r1, ⟨d, ds1, v, r, Ai, B, rfl, rfl, rfl, p3, r2⟩, fun a ha => ?_, ?_⟩
          · rcases List.mem_append.mp ha with z | z
            · exact mem_mid.mp (List.mem_append_left _ (r3 a (List.mem_append_left _ z)))
            · rcases List.mem_append.mp z with z | z
              · exact mem_mid.mp (List.mem_append_right _ z)
              · exact mem_mid.mp (List.mem_append_left _ (r3 a (List.mem_append_right _ z)))
          · rw [List.nodup_append] at nd2 r4 ⊢
            obtain ⟨n1, n2, n3⟩ := nd2
            obtain ⟨m1, m2, m3⟩ := r4
            refine ⟨m1, ?_, fun a ha b hb => ?_⟩
            · rw [List.nodup_append]
              exact ⟨n2, m2, fun a ha b hb z => n3 b (r3 b (List.mem_append_right _ hb)) a ha z.symm⟩
            · rcases List.mem_append.mp hb with z | z
              · exact n3 a (r3 a (List.mem_append_left _ ha)) b z
              · exact m3 a ha b z
      · cases e
    · cases e
  | [], _, _ :: _, _, _, _, _, _, _, _, e, _ => by simp [argD] at e
  | 0 :: _, _, [], _, _, _, _, _, _, _, e, _ => by simp [argD] at e
  | 0 :: _, _, .s _ :: _, _, _, _, _, _, _, _, e, _ => by simp [argD] at e
  | (_ + 1) :: _, _, [], _, _, _, _, _, _, _, e, _ => by simp [argD] at e
  | (_ + 1) :: _, _, .v _ :: _, _, _, _, _, _, _, _, e, _ => by simp [argD] at e
theorem args_put : ∀ {ms : List Nat} {env : DL.Env} {os : List Opd} {outs : List D} {env' : DL.Env} {σ : L2.St} {A B : List Addr} {vs : List V}, RelL cl F H env σ A → OpdsAt cl F σ os vs → putD ms env os outs = some env' → MutAt cl F H ms outs vs B → (A ++ B).Nodup →
    ∃ A', RelL cl F H env' σ A' ∧ (∀ a ∈ A', a ∈ A ++ B) ∧ A'.Nodup
  | [], env, [], [], env', σ, A, B, vs, rel, ho, e, hm, nd => by
    simp only [putD, Option.some.injEq] at e
    subst e
    exact ⟨A, rel, fun a h => List.mem_append_left _ h, (List.nodup_append.mp nd).1⟩
  | 0 :: ms, env, o :: os, outs, env', σ, A, B, vs, rel, ho, e, hm, nd => by
    obtain ⟨v, r, rfl, h1, h2⟩ := ho
    obtain ⟨v', r', e1, hm⟩ := hm
    obtain ⟨rfl, rfl⟩ := List.cons.inj e1
    exact args_put rel h2 e hm nd
  | (m + 1) :: ms, env, .s i :: os, d :: outs, env', σ, A, B, vs, rel, ho, e, hm, nd => by
    obtain ⟨v, r, rfl, h1, h2⟩ := ho
    obtain ⟨d', dr, v', r', B1, B2, e1, e2, rfl, rp, hm⟩ := hm
    obtain ⟨rfl, rfl⟩ := List.cons.inj e1
    obtain ⟨rfl, rfl⟩ := List.cons.inj e2
    simp only [putD] at e
    split at e
    · rename_i hl
      rw [← List.append_assoc] at nd
      have nd1 := List.nodup_append.mp nd
      obtain ⟨A', r1, r2, r3⟩ := relL_in rel hl (show σ[i]? = some (some v) from h1) rp nd1.1
      have nd2 : (A' ++ B2).Nodup := by
        rw [List.nodup_append]
        refine ⟨r3, nd1.2.1, fun a ha b hb => nd1.2.2 a ?_ b hb⟩
        exact (r2 a ha).elim (fun h => List.mem_append_left _ h) fun h => List.mem_append_right _ h
      obtain ⟨A'', s1, s2, s3⟩ := args_put r1 h2 e hm nd2
      refine ⟨A'', s1, fun a ha => ?_, s3⟩
      rcases List.mem_append.mp (s2 a ha) with z | z
      · rcases r2 a z with z | z
        · exact List.mem_append_left _ z
        · exact List.mem_append_right _ (List.mem_append_left _ z)
      · exact List.mem_append_right _ (List.mem_append_right _ z)
    · cases e
  | [], _, _ :: _, _, _, _, _, _, _, _, _, e, _, _ => by simp [putD] at e
  | [], _, [], _ :: _, _, _, _, _, _, _, _, e, _, _ => by simp [putD] at e
  | 0 :: _, _, [], _, _, _, _, _, _, _, _, e, _, _ => by simp [putD] at e
  | (_ + 1) :: _, _, [], _, _, _, _, _, _, _, _, e, _, _ => by simp [putD] at e
  | (_ + 1) :: _, _, .v _ :: _, _, _, _, _, _, _, _, _, e, _, _ => by simp [putD] at e
  | (_ + 1) :: _, _, .s _ :: _, [], _, _, _, _, _, _, _, e, _, _ => by simp [putD] at e
theorem argsAt_own (le : Same F H) : ∀ {ms : List Nat} {ds : List D} {vs : List V} {A : List Addr}, ArgsAt cl F H ms ds vs A → ∀ a ∈ A, H a ≠ none ∧ F a = none
  | [], _, _, _, h => by obtain ⟨_, _, rfl⟩ := h; simp
  | m :: ms, _, _, _, h => by
    obtain ⟨d, dr, v, r, A1, A2, _, _, rfl, h1, h2⟩ := h
    intro a ha
    rcases List.mem_append.mp ha with z | z
    · exact repO_own le h1 a z
    · exact argsAt_own le h2 a z
end

section
variable {T : Tb} {k : Nat} {c : Sc} {pos : Pos}
theorem semCall {W : WX} {sp : FSp} {ms : List Nat} {wa : WA} {t : TA} (h : SemA T W wa t) : SemE T W (wCall sp ms wa) (tCallS (spOf T ms sp) (L2.WE W) t) := by
  intro env Q ex hw σ F H A le rel nd R k1 kx
  refine h env _ ex hw σ F H A le rel nd _ (fun os env1 vs F1 H1 A1 q st1 le1 rel1 nd1 ho => ?_) kx
  obtain ⟨ds, env2, e1, q⟩ := q
  obtain ⟨B, A2, rel2, ha, sub, nd2⟩ := args_take rel1 ho e1 nd1
  obtain ⟨n1, n2, n3⟩ := List.nodup_append.mp nd2
  have own2 := relL_own le1 rel2
  refine ⟨F1, B, ds, le1, ha, n2, _, _, q, fun r outs v F' H' A' C hq st2 le2 hm rp nd3 => ?_, fun c F' H' A' hq st2 le2 => ?_⟩
  · obtain ⟨env3, e3, hq⟩ := hq
    obtain ⟨p1, p2, p3⟩ := st2.apart own2 fun a ha hb => n3 a ha a hb rfl
    have rel3 : RelL T.cl F' H' env2 σ A2 := relL_frame st2.mono rel2 p1 p2
    obtain ⟨m1, m2, m3⟩ := List.nodup_append.mp nd3
    have nd4 : (A2 ++ A').Nodup := by
      rw [List.nodup_append]
      exact ⟨n1, m1, fun a ha b hb z => by subst z; exact p3 a ha (List.mem_append_left _ hb)⟩
    obtain ⟨A4, rel4, sub4, nd5⟩ := args_put rel3 (ho.mono st2.mono) e3 hm nd4
    refine k1 r env3 v F' H' A4 C hq (st1.trans ⟨st2.mono, fun a o e n => ?_, fun a h => ?_, fun a h => ?_, st2.live⟩) le2 rel4 rp ?_
    · exact st2.keep a o e fun hb => n (sub a (List.mem_append_right _ hb))
    · rcases st2.newF a h with z | z | z
      · exact .inl z
      · exact .inr (.inl (sub a (List.mem_append_right _ z)))
      · exact .inr (.inr z)
    · have key : a ∈ A2 ∨ a ∈ A' ++ C := by
        rcases List.mem_append.mp h with z | z
        · rcases List.mem_append.mp (sub4 a z) with z | z
          · exact .inl z
          · exact .inr (List.mem_append_left _ z)
        · exact .inr (List.mem_append_right _ z)
      rcases key with z | z
      · exact .inl (sub a (List.mem_append_left _ z))
      · rcases st2.newA a z with z | z
        · exact .inl (sub a (List.mem_append_right _ z))
        · exact .inr z
    · rw [List.nodup_append]
      refine ⟨nd5, m2, fun a ha b hb z => ?_⟩
      subst z
      rcases List.mem_append.mp (sub4 a ha) with z | z
      · exact p3 a z (List.mem_append_right _ hb)
      · exact m3 a z a hb rfl
  · obtain ⟨p1, p2, p3⟩ := st2.apart own2 fun a ha hb => n3 a ha a hb rfl
    refine kx c env2 F' H' A2 hq (st1.trans ⟨st2.mono, fun a o e n => ?_, fun a h => ?_, fun a h => .inl (sub a (List.mem_append_left _ h)), st2.live⟩) le2 (relL_frame st2.mono rel2 p1 p2) n1
    · exact st2.keep a o e fun hb => n (sub a (List.mem_append_right _ hb))
    · rcases st2.newF a h with z | z | z
      · exact .inl z
      · exact .inr (.inl (sub a (List.mem_append_right _ z)))
      · exact .inr (.inr z)
structure Fn (T : Tb) (k : Nat) (x : Str) (ms : List Nat) (sp : FSp) : Prop where
  ok : ∃ f fd ps, FnOk T.P T.w T.K T.mg T.base (L2N.CX T.P T.w) k f fd ps (spOf T ms sp) ∧ T.mg x = some (.ref f) ∧ PySem.W.keepIn T.K (.ref f) = true ∧ Binds T.K fd ps []
theorem Fn.mono {k j : Nat} {x : Str} {ms : List Nat} {sp : FSp} (F : Fn T k x ms sp) (h : k ≤ j) : Fn T j x ms sp := by
  obtain ⟨f, fd, ps, G, a, b, d⟩ := F.ok
  exact ⟨f, fd, ps, G.mono h, a, b, d⟩
theorem fn_at {W : WX} {X : Cx} {k j : Nat} {f : Addr} {fd : FuncData} {ps : List Str} {s : Sp} (ft : Fit T k c W X) (G : FnOk T.P T.w T.K T.mg T.base (L2N.CX T.P T.w) j f fd ps s) : FnOk X.prog X.w X.K X.mg X.base (L2N.CX X.prog X.w) j f fd ps s := by
  rw [ft.prog, ft.w, ft.K, ft.mg, ft.base]; exact G
theorem JE.call {x : Str} {p : Pos} {e : Expr} {es : List Expr} {ms : List Nat} {sp : FSp} {wa : WA} (G : Fn T k x ms sp) (ha : JA T k c (e :: es) wa) (hg : glB c.sc x = true := by rfl) (ns : noStar e = true := by rfl) (nss : es.all noStar = true := by rfl) (hdb : (x == ("__debug__" : Str)) = false := by rfl) (hh : c.hot = false := by rfl) :
    JE T k c (.Call (.Name x p) (e :: es) [] pos) (wCall sp ms wa) := fun W => by
  obtain ⟨t, pt, s⟩ := ha W
  obtain ⟨f, fd, ps, G, g1, g2, g3⟩ := G.ok
  refine ⟨tCallS (spOf T ms sp) (L2.WE W) t, fun X ft => ?_, semCall s⟩
  exact pe_callS (fn_at ft G) (ft.cold hh) (gl_of ft hg) (by rw [ft.mg]; exact g1) (by rw [ft.K]; exact g2) (by rw [ft.K]; exact g3) (fun σ => L2N.passAt ft.tk σ) (pt X ft) hdb (starEach_ne ns) (starNone nss)
theorem pe_call0S {X : Cx} {CX : CXT} {j : Nat} {f : Addr} {fd : FuncData} {ps : List Str} {sp : Sp} {E : L2.St → XK} {x : Str} {p pos : Pos} (F : FnOk X.prog X.w X.K X.mg X.base CX j f fd ps sp) (hr : Room j X.A) (hg : Gl X x) (hm : X.mg x = some (.ref f)) (hk : PySem.W.keepIn X.K (.ref f) = true) (hb : Binds X.K fd ps []) (hx : ∀ σ, PassesAt CX X σ (E σ))
    (hdb : (x == ("__debug__" : Str)) = false) : PE X (.Call (.Name x p) [] [] pos) (tCallS sp E tNil) := by
  refine ⟨fun pins s σ H Q I h => ?_⟩
  refine wpAny_Call_Name_kw (ld_glob I hg hm ?_ hdb)
  exact PySem.W.callWith_K0 I.kIn hk (run_fnS (us := []) F hr hb (hx σ) I .nil h)
theorem JE.call0 {x : Str} {p : Pos} {ms : List Nat} {sp : FSp} (G : Fn T k x ms sp) (hg : glB c.sc x = true := by rfl) (hdb : (x == ("__debug__" : Str)) = false := by rfl) (hh : c.hot = false := by rfl) : JE T k c (.Call (.Name x p) [] [] pos) (wCall sp ms aNil) := fun W => by
  obtain ⟨t, pt, s⟩ := (JA.nil (T := T) (k := k) (c := c)) W
  obtain ⟨f, fd, ps, G, g1, g2, g3⟩ := G.ok
  refine ⟨tCallS (spOf T ms sp) (L2.WE W) tNil, fun X ft => pe_call0S (fn_at ft G) (ft.cold hh) (gl_of ft hg) (by rw [ft.mg]; exact g1) (by rw [ft.K]; exact g2) (by rw [ft.K]; exact g3) (fun σ => L2N.passAt ft.tk σ) hdb, semCall ?_⟩
  exact fun env Q ex h σ F H A le rel nd R k1 _ => k1 [] env [] F H A h (Step.refl F H A) le rel nd rfl

def env0 : List Nat → List D → Nat → DL.Env
  | [], _, n => List.replicate n none
  | m :: ms, d :: ds, n => some (m, d) :: env0 ms ds (n - 1)
  | _ :: _, [], n => List.replicate n none
def outsD : List Nat → DL.Env → Option (List D)
  | [], _ => some []
  | 0 :: ms, _ :: env => outsD ms env
  | (m + 1) :: ms, some (n, d) :: env => if n = m + 1 then (outsD ms env).map (d :: ·) else none
  | _, _ => none
def mutS (ms : List Nat) : Nat → Bool := fun i => match ms[i]? with
  | some (_ + 1) => true
  | _ => false
section
variable {cl : Nat → Addr} {F H : Hp}
theorem start_rel : ∀ {ms : List Nat} {ds : List D} {vs : List V} {A : List Addr} (n : Nat), ArgsAt cl F H ms ds vs A → ms.length ≤ n → RelL cl F H (env0 ms ds n) (vs.map some ++ List.replicate (n - vs.length) none) A
  | [], ds, vs, A, n, h, _ => by
    obtain ⟨rfl, rfl, rfl⟩ := h
    show RelL cl F H (List.replicate n none) (List.replicate n none) []
    induction n with
    | zero => simp only [List.replicate, RelL]; exact ⟨trivial, trivial⟩
    | succ n ih =>
      rw [List.replicate_succ, List.replicate_succ]
      simp only [RelL]
      exact ⟨none, _, rfl, ih (Nat.zero_le _)⟩
  | m :: ms, ds, vs, A, n, h, hl => by
    obtain ⟨d, dr, v, r, A1, A2, rfl, rfl, rfl, h1, h2⟩ := h
    simp only [List.length_cons] at hl
    have ih := start_rel (n - 1) h2 (by omega)
    show RelL cl F H (some (m, d) :: env0 ms dr (n - 1)) (some v :: (r.map some ++ List.replicate (n - (r.length + 1)) none)) (A1 ++ A2)
    simp only [RelL]
    refine ⟨v, _, A1, A2, rfl, rfl, h1, ?_⟩
    rw [show n - (r.length + 1) = n - 1 - r.length by omega]
    exact ih
theorem outs_rel : ∀ {ms : List Nat} {env : DL.Env} {σ : L2.St} {A : List Addr} {outs : List D} {vs : List V}, RelL cl F H env σ A → outsD ms env = some outs → vs.length = ms.length → (∀ i, mutS ms i = true → σ[i]? = (vs[i]?).map some) →
    ∃ A', MutAt cl F H ms outs vs A' ∧ A'.Sublist A
  | [], env, σ, A, outs, vs, rel, e, hl, hσ => by
    simp only [outsD, Option.some.injEq] at e
    subst e
    have : vs = [] := List.eq_nil_of_length_eq_zero hl
    subst this
    exact ⟨[], ⟨rfl, rfl, rfl⟩, List.nil_sublist _⟩
  | m :: ms, [], σ, A, outs, vs, rel, e, hl, hσ => by
    cases m <;> simp [outsD] at e
  | m :: ms, o :: env, σ, A, outs, [], rel, e, hl, hσ => by simp at hl
  | m :: ms, o :: env, σ, A, outs, v :: vs, rel, e, hl, hσ => by
    have hσ' : ∃ s r A1 A2, σ = s :: r ∧ A = A1 ++ A2 ∧ RelSlot cl F H o s A1 ∧ RelL cl F H env r A2 := by
      cases o with
      | none =>
        simp only [RelL] at rel
        obtain ⟨s, r, e1, h⟩ := rel
        exact ⟨s, r, [], A, e1, rfl, rfl, h⟩
      | some x =>
        obtain ⟨n, d⟩ := x
        simp only [RelL] at rel
        obtain ⟨v, r, A1, A2, e1, e2, h3, h4⟩ := rel
        exact ⟨some v, r, A1, A2, e1, e2, ⟨v, rfl, h3⟩, h4⟩
    obtain ⟨s, r, A1, A2, rfl, rfl, h3, h4⟩ := hσ'
    have tail : ∀ i, mutS ms i = true → r[i]? = (vs[i]?).map some := fun i hi => by
      have := hσ (i + 1) (by simpa [mutS] using hi)
      simpa using this
    cases m with
    | zero =>
      simp only [outsD] at e
      obtain ⟨A', h5, sub⟩ := outs_rel h4 e (by simpa using hl) tail
      exact ⟨A', ⟨v, vs, rfl, h5⟩, sub.trans (List.sublist_append_right _ _)⟩
    | succ m =>
      cases o with
      | none => simp [outsD] at e
      | some x =>
        obtain ⟨n, d⟩ := x
        simp only [outsD] at e
        split at e
        · rename_i hn
          subst hn
          cases q : outsD ms env with
          | none => rw [q] at e; cases e
          | some o1 =>
            rw [q] at e
            have e' : d :: o1 = outs := Option.some.inj e
            subst e'
            obtain ⟨A', h5, sub⟩ := outs_rel h4 q (by simpa using hl) tail
            obtain ⟨v', e1, h3⟩ := h3
            have h0 := hσ 0 (by simp [mutS])
            subst e1
            have ev : v' = v := by simpa using h0
            subst ev
            exact ⟨A1 ++ A', ⟨d, o1, v', vs, A1, A', rfl, rfl, rfl, h3, h5⟩, List.Sublist.append (List.Sublist.refl _) sub⟩
        · cases e
end
theorem fit_def {T : Tb} {k : Nat} {N ps : List Str} {qual : Str} {scope : Scope} {f : Addr} {cd : Value} {A : Around} {outer : List PySem.Env} {s : Shared} {H : Hp} {E : XK} (S : FnScope N ps scope) (hr : Room k (A.deeper (envOfC qual scope s.heap.objs.size f cd))) :
    FitS T k ⟨N, scope, fun _ => true, false, none⟩ (fun cls d _ H => E cls d H) (cxOf (L2N.CX T.P T.w) T.P T.w T.K T.mg T.base N qual scope f cd A outer s H E) where
  prog := rfl
  w := rfl
  K := rfl
  mg := rfl
  base := rfl
  N := rfl
  sc := rfl
  nd := S.nd
  calm := fun _ => rfl
  hd := fun _ => hr.hd
  room := ⟨hr.dp, hr.un⟩
  tk := L2N.takes_of rfl rfl rfl rfl
  pin := fun _ _ h => by cases h
  own := passes_of rfl
  fn := fun x _ => .inl rfl
  hs := rfl
  hf := rfl
  ex0 := rfl
theorem fun_okN {P : Program} {w : World} {K : PySem.W.Frag} {mg : Str → Option Value} {base : Heap} {x qual : Str} {st : Stmt} {f : Addr} {fd : FuncData} {N ps : List Str} {k : Nat} {sp : Sp} (F : Fun K x qual st f fd) (S : FnScope N ps (defScope st)) (hlen : ∀ vs H Q E, sp vs H Q E → vs.length = ps.length)
    (hb : ∀ (cd : Value) (A : Around) (ou : List PySem.Env) (s : Shared) (H : Hp) (vs : List V) (Q : VK) (E : XK), Room k (A.deeper (envOfC qual (defScope st) s.heap.objs.size f cd)) → sp vs H Q E → ∃ t, PSs (cxOf (L2N.CX P w) P w K mg base N qual (defScope st) f cd A ou s H E) (defBody st) t ∧ t { nx := fun _ H' => Q .non H', rt := Q } (L2.start N vs) H) :
    FnOk P w K mg base (L2N.CX P w) (k + 1) f fd ps sp := by
  obtain ⟨_, _, _, _, _, _, cdv, _, _, rfl, lk, hcd⟩ := F.ex
  exact fn_of lk hcd S hlen fun A ou s H vs Q E => hb cdv A ou s H vs Q E
theorem fn_ok0 {T : Tb} {k : Nat} {x qual : Str} {st : Stmt} {f : Addr} {fd : FuncData} {N ps : List Str} {ms : List Nat} {sp : FSp} {w : WS} (F : Fun T.K x qual st f fd) (S : FnScope N ps (defScope st))
    (hl : ps.length = ms.length) (hn : ms.length ≤ N.length) (body : JB T k ⟨N, defScope st, fun _ => true, false, none⟩ (mutS ms) (defBody st) w)
    (h : ∀ ds Q Ex, ds.length = ms.length → sp ds Q Ex → w (env0 ms ds N.length) ⟨fun env => ∃ outs, outsD ms env = some outs ∧ Q (0, .non) outs, fun r env => ∃ outs, outsD ms env = some outs ∧ Q r outs, fun n _ => Ex n⟩) : FnOk T.P T.w T.K T.mg T.base (L2N.CX T.P T.w) (k + 1) f fd ps (spOf T ms sp) := by
  refine fun_okN F S (fun vs H Q E hs => ?_) (fun cdv A outer s H vs Q E hr hs => ?_)
  · obtain ⟨F0, A, ds, _, ha, _⟩ := hs
    rw [hl, (argsAt_len ha).1]
  · obtain ⟨F0, A0, ds, le, ha, nd, Qd, Ed, hsp, hq, hx⟩ := hs
    have ft := fit_def (T := T) (qual := qual) (f := f) (cd := cdv) (outer := outer) (H := H) (E := E) S hr
    obtain ⟨t, pt, s1⟩ := body (fun cls d _ H => E cls d H)
    refine ⟨t, pt _ ft, ?_⟩
    obtain ⟨l1, l2⟩ := argsAt_len ha
    have rel : RelL T.cl F0 H (env0 ms ds N.length) (L2.start N vs) A0 := start_rel N.length ha hn
    have hσ0 : ∀ i, mutS ms i = true → (L2.start N vs)[i]? = (vs[i]?).map some := fun i hi => by
      have hi' : i < ms.length := by
        unfold mutS at hi
        rcases Nat.lt_or_ge i ms.length with z | z
        · exact z
        · rw [List.getElem?_eq_none z] at hi; cases hi
      unfold L2.start
      rw [List.getElem?_append_left (by rw [List.length_map, l1]; exact hi'), List.getElem?_map]
    refine s1 _ _ (h ds Qd Ed l2 hsp) (L2.start N vs) F0 H A0 le rel nd _ (fun env' σ' F' H' A' q kp st le' rel' nd' => ?_) (fun r env' σ' v F' H' A' B q kp st le' rel' rp nd' => ?_) (fun c env' σ' F' H' A' q kp st le' rel' nd' => hx c F' H' A' q st le')
    · obtain ⟨outs, e, q⟩ := q
      obtain ⟨A2, hm2, sub⟩ := outs_rel rel' e l1 fun i hi => (kp.2 i hi).trans (hσ0 i hi)
      exact hq (0, .non) outs .non F' H' A2 [] q (st.less fun a ha => by rw [List.append_nil] at ha; exact sub.subset ha) le' hm2 (repO0.mpr ⟨rfl, rfl⟩) (by rw [List.append_nil]; exact nd'.sublist sub)
    · obtain ⟨outs, e, q⟩ := q
      obtain ⟨A2, hm2, sub⟩ := outs_rel rel' e l1 fun i hi => (kp.2 i hi).trans (hσ0 i hi)
      exact hq r outs v F' H' A2 B q (st.less fun a ha => (List.mem_append.mp ha).elim (fun z => List.mem_append_left _ (sub.subset z)) fun z => List.mem_append_right _ z) le' hm2 rp (nd'.sublist (List.Sublist.append sub (List.Sublist.refl _)))
theorem fn_ok {T : Tb} {k : Nat} {x qual : Str} {st : Stmt} {f : Addr} {fd : FuncData} {N ps : List Str} {ms : List Nat} {sp : FSp} {w : WS} (F : Fun T.K x qual st f fd) (S : FnScope N ps (defScope st)) (hm : T.mg x = some (.ref f)) (hb : Binds T.K fd ps [])
    (hl : ps.length = ms.length) (hn : ms.length ≤ N.length) (body : JB T k ⟨N, defScope st, fun _ => true, false, none⟩ (mutS ms) (defBody st) w)
    (h : ∀ ds Q Ex, ds.length = ms.length → sp ds Q Ex → w (env0 ms ds N.length) ⟨fun env => ∃ outs, outsD ms env = some outs ∧ Q (0, .non) outs, fun r env => ∃ outs, outsD ms env = some outs ∧ Q r outs, fun n _ => Ex n⟩) : Fn T (k + 1) x ms sp :=
  ⟨f, fd, ps, fn_ok0 F S hl hn body h, hm, F.kp, hb⟩
end
end DL

namespace DL
open PySem PySem.Spec PyProof.Rows L2

section
variable {cl : Nat → Addr} {F H : Hp}
def isCont : D → Bool
  | .lst _ => true
  | .dk _ _ => true
  | .dt _ _ => true
  | _ => false
theorem cont_root {d : D} {n : Nat} {v : V} {B : List Addr} (hc : isCont d = true) (h : RepO cl F H d (n + 1) v B) : ∃ a B', v = .ref a ∧ B = a :: B' ∧ F a = none := by
  cases d with
  | lst ds => simp only [RepO] at h; obtain ⟨a, vs, A', e1, e2, e3, e4, h⟩ := h; exact ⟨a, A', e1, e4, e3⟩
  | dk ks ds => simp only [RepO] at h; obtain ⟨a, vs, e1, e2, e3, e4, h⟩ := h; exact ⟨a, [], e1, e4, e3⟩
  | dt ks ds => simp only [RepO] at h; obtain ⟨a, vs, e1, e2, e3, e4, h⟩ := h; exact ⟨a, [], e1, e4, e3⟩
  | _ => cases hc
theorem mut_root {env : DL.Env} {σ : L2.St} {A : List Addr} {i n : Nat} {d : D} (le : Same F H) (rel : RelL cl F H env σ A) (nd : A.Nodup) (e : env[i]? = some (some (n + 1, d))) (hc : isCont d = true) :
    ∃ a A' R, σ[i]? = some (some (.ref a)) ∧ F a = none ∧ RepO cl F H d (n + 1) (.ref a) (a :: A') ∧ (∀ b, b ∈ A ↔ b = a ∨ b ∈ A' ∨ b ∈ R) ∧ (a :: (A' ++ R)).Nodup ∧
      ∀ (o : HO) (d' : D) (B' : List Addr), RepO cl F (upd H a o) d' (n + 1) (.ref a) (a :: B') → (a :: (B' ++ R)).Nodup → ∃ A'', RelL cl F (upd H a o) (env.set i (some (n + 1, d'))) σ A'' ∧ A''.Nodup ∧ ∀ b ∈ A'', b = a ∨ b ∈ B' ∨ b ∈ R := by
  obtain ⟨v, A1, Ai, A2, p1, p2, p3, p4⟩ := relL_out rel e
  obtain ⟨a, A', e1, e4, e3⟩ := cont_root hc p3
  subst e1 e4 p2
  have nd2 := nd_mid nd
  obtain ⟨n1, n2, n3⟩ := List.nodup_append.mp nd2
  have hl : i < env.length := by
    rcases Nat.lt_or_ge i env.length with z | z
    · exact z
    · rw [List.getElem?_eq_none z] at e; cases e
  refine ⟨a, A', A1 ++ A2, p1, e3, p3, fun b => ?_, ?_, fun o d' B' h1 h2 => ?_⟩
  · rw [← mem_mid]
    simp only [List.mem_append, List.mem_cons]
    constructor
    · rintro ((h | h) | h | h)
      · exact .inr (.inr (.inl h))
      · exact .inr (.inr (.inr h))
      · exact .inl h
      · exact .inr (.inl h)
    · rintro (h | h | h | h)
      · exact .inr (.inl h)
      · exact .inr (.inr h)
      · exact .inl (.inl h)
      · exact .inl (.inr h)
  · show ((a :: A') ++ (A1 ++ A2)).Nodup
    rw [List.nodup_append]
    exact ⟨n2, n1, fun x hx y hy z => n3 y hy x hx z.symm⟩
  · have h2' : ((a :: B') ++ (A1 ++ A2)).Nodup := h2
    obtain ⟨m1, m2, m3⟩ := List.nodup_append.mp h2'
    have nA : ∀ b ∈ A1 ++ A2, b ≠ a := fun b hb z => m3 a (by simp) b hb z.symm
    have own1 := relL_own le p4
    have r1 : RelL cl F (upd H a o) (env.set i none) σ (A1 ++ A2) := relL_frame (Same.refl F) p4 (fun b hb => upd_ne (nA b hb)) fun b hb => (own1 b hb).2
    obtain ⟨A'', s1, s2, s3⟩ := relL_in r1 (by rw [List.length_set]; exact hl) p1 h1 (by
      rw [List.nodup_append]
      exact ⟨m2, m1, fun x hx y hy z => m3 y hy x hx z.symm⟩)
    rw [List.set_set] at s1
    refine ⟨A'', s1, s3, fun b hb => ?_⟩
    rcases s2 b hb with z | z
    · exact .inr (.inr z)
    · rcases List.mem_cons.mp z with z | z
      · exact .inl z
      · exact .inr (.inl z)
end

abbrev GM := D → List D → Option (D × D)
def FlatM (cl : Nat → Addr) (T : String) (r : V → List V → Hp → VK → Prop) (g : GM) : Prop :=
  ∀ (F H : Hp) (d : D) (v : V) (B : List Addr) (es : List D) (us : List V), Same F H → RepO cl F H d 1 v B → RepFs cl F es us → ∀ res d', g d es = some (res, d') →
    isCont d = true ∧ ∃ a y o, v = .ref a ∧ RepF cl F res y ∧ RepO cl F (upd H a o) d' 1 (.ref a) [a] ∧ ∀ R : VK, R y (upd H a o) → r v us H R
def frozenOs : List Opd → Option (List D)
  | [] => some []
  | .v d :: os => (frozenOs os).map (d :: ·)
  | .s _ :: _ => none
theorem frozen_at {cl : Nat → Addr} {F : Hp} {σ : L2.St} : ∀ {os : List Opd} {vs : List V} {ds : List D}, OpdsAt cl F σ os vs → frozenOs os = some ds → RepFs cl F ds vs
  | [], vs, ds, h, e => by
    simp only [frozenOs, Option.some.injEq] at e
    subst e
    exact h
  | .v d :: os, vs, ds, h, e => by
    obtain ⟨v, r, e1, h1, h2⟩ := h
    simp only [frozenOs] at e
    cases q : frozenOs os with
    | none => rw [q] at e; cases e
    | some dr =>
      rw [q] at e
      have e' : d :: dr = ds := Option.some.inj e
      subst e'
      exact ⟨v, r, e1, h1, frozen_at h2 q⟩
  | .s _ :: os, vs, ds, h, e => by simp [frozenOs] at e
def tyD (T : String) : D → Bool
  | .lst _ => T == "list"
  | .dk _ _ => T == "dict"
  | .dt _ _ => T == "dict"
  | .str _ => T == "str"
  | _ => false
theorem va_ty {cl : Nat → Addr} {K : PySem.W.Frag} {F H : Hp} {T : String} {d : D} {n : Nat} {v : V} (le : Same F H) (h : ValAt cl F H (n, d) v) (t : tyD T d = true) : tyV K T v H := by
  cases d with
  | lst ds =>
    obtain ⟨a, vs, e1, e2, _⟩ := va_lstN le h
    subst e1
    exact .inl ⟨by simpa [tyD] using t, vs, .inl (.inl e2)⟩
  | dk ks ds =>
    obtain ⟨a, vs, e1, e2, _⟩ := va_dk le h
    subst e1
    exact .inr (.inr (.inl ⟨by simpa [tyD] using t, .inl ⟨_, e2⟩⟩))
  | dt ks ds =>
    obtain ⟨a, vs, e1, e2, _⟩ := va_dt le h
    subst e1
    exact .inr (.inr (.inl ⟨by simpa [tyD] using t, .inr ⟨_, e2⟩⟩))
  | str s =>
    rw [va_str h]
    show T = "str"
    simpa [tyD] using t
  | _ => cases t
def wMet (T : String) (i : Nat) (g : GM) (wa : WA) : WE := fun env Q ex => (∃ n d, env[i]? = some (some (n, d)) ∧ tyD T d = true) ∧
  wa env (fun os env1 => ∃ ds d res d', frozenOs os = some ds ∧ env1[i]? = some (some (1, d)) ∧ g d ds = some (res, d') ∧ Q (0, res) (env1.set i (some (1, d')))) ex
section
variable {T : Tb} {k : Nat} {c : Sc} {pos : Pos}
theorem semMet {W : WX} {ty : String} {i : Nat} {g : GM} {r : V → List V → Hp → VK → Prop} {wa : WA} {t : TA} (hf : FlatM T.cl ty r g) (h : SemA T W wa t) : SemE T W (wMet ty i g wa) (tBM T.K ty r (tVar i) t) := by
  intro env Q ex hw σ F H A le rel nd R k1 kx
  obtain ⟨⟨n0, d0, e0, t0⟩, hw⟩ := hw
  obtain ⟨v0, B1, Bi, B2, q1, q2, q3, q4⟩ := relL_out rel e0
  refine ⟨v0, q1, va_ty le (show ValAt T.cl F H (n0, d0) v0 from ⟨Bi, q3⟩) t0, ?_⟩
  refine h env _ ex hw σ F H A le rel nd _ (fun os env1 vs F1 H1 A1 q st1 le1 rel1 nd1 ho => ?_) kx
  obtain ⟨ds, d, res, d', e1, e2, e3, q⟩ := q
  have hv := frozen_at ho e1
  obtain ⟨v1, C1, Ci, C2, p1, p2, p3, p4⟩ := relL_out rel1 e2
  rw [q1] at p1
  have ev : v0 = v1 := by simpa using p1
  subst ev
  obtain ⟨hc, a, y, o, ea, ry, ro, hr⟩ := hf F1 H1 d v0 Ci ds vs le1 p3 hv res d' e3
  subst ea
  obtain ⟨a', A', Rr, m1, m2, m3, m4, m5, m6⟩ := mut_root le1 rel1 nd1 e2 hc
  rw [q1] at m1
  have ea : a = a' := by simpa using m1
  subst ea
  have eA : A' = [] := by
    have : ∀ b ∈ A', False := by
      intro b hb
      cases d with
      | lst ds =>
        simp only [RepO] at m3
        obtain ⟨a2, vs2, A2', f1, f2, f3, f4, f5⟩ := m3
        have := List.cons.inj f4
        have hz : A2' = [] := repOs0_nil f5
        rw [this.2, hz] at hb; cases hb
      | dk ks ds => simp only [RepO] at m3; obtain ⟨a2, vs2, f1, f2, f3, f4, f5⟩ := m3; have := (List.cons.inj f4).2; rw [this] at hb; cases hb
      | dt ks ds => simp only [RepO] at m3; obtain ⟨a2, vs2, f1, f2, f3, f4, f5⟩ := m3; have := (List.cons.inj f4).2; rw [this] at hb; cases hb
      | _ => cases hc
    cases A' with
    | nil => rfl
    | cons b _ => exact (this b (by simp)).elim
  subst eA
  obtain ⟨A'', s1, s2, s3⟩ := m6 o d' [] ro m5
  have hA'' : ∀ b ∈ A'', b ∈ A1 := fun b hb => (m4 b).mpr (by simpa using s3 b hb)
  obtain ⟨st2, le2⟩ := step_upd (o := o) le1 ((m4 a).mpr (.inl rfl)) m2 hA''
  refine hr R (k1 (0, res) _ y F1 _ A'' [] q (by rw [List.append_nil]; exact st1.trans st2) le2 s1 (repO0.mpr ⟨ry, rfl⟩) (by rw [List.append_nil]; exact s2))
theorem JE.met {x name : Str} {p apos : Pos} {e : Expr} {es : List Expr} {ty id : String} {r : V → List V → Hp → VK → Prop} {g : GM} {wa : WA} (i : Nat) (pa : PlainAttrs ty) (slot : Slot ty name id) (hty : typeOf (.builtin id) = pure (.type "method_descriptor")) (hm : ∀ X, Ft T k c X → MtR X id r) (hf : FlatM T.cl ty r g) (ha : JA T k c (e :: es) wa)
    (hN : c.N[i]? = some x := by rfl) (hv : visB c.sc x = true := by rfl) (hd : (x == ("__debug__" : Str)) = false := by rfl) (hcd : (x == ("__classdict__" : Str)) = false := by rfl)
    (hbase : ∀ env : PySem.Env, attributeBase (.Name x p) name env (eval (.Name x p) env) = eval (.Name x p) env := by intro _; rfl)
    (hfew : ∀ env : PySem.Env, ((backTo pos (starEach (e :: es) env)).all (fun x => !x.1) && (backToKw pos (keywordEach [] env)).all (fun x => x.1.isSome)
      && decide ((e :: es).length + ([] : List Keyword).length + (if ([] : List Keyword).isEmpty then 0 else 1) < 30)) = true := by intro _; rfl)
    (hline : (apos.endLine == pos.line) = true := by rfl) (ns : noStar e = true := by rfl) (nss : es.all noStar = true := by rfl) :
    JE T k c (.Call (.Attribute (.Name x p) name apos) (e :: es) [] pos) (wMet ty i g wa) := fun W => by
  obtain ⟨t, pt, s⟩ := ha W
  refine ⟨tBM T.K ty r (tVar i) t, fun X f => ?_, semMet hf s⟩
  have := pe_bm (apos := apos) (cpos := pos) pa slot hty (hm X ⟨W, f⟩) (pe_varF (pos := p) f hN hv hd hcd) (pt X f) (hbase X.env) (hfew X.env) hline (starEach_ne ns) (starNone nss)
  rw [f.K] at this
  exact this
theorem semMet0 {W : WX} {ty : String} {i : Nat} {g : GM} {r : V → List V → Hp → VK → Prop} (hf : FlatM T.cl ty r g) : SemE T W (wMet ty i g aNil) (tBM0 T.K ty r (tVar i)) := fun env Q ex hw σ F H A le rel nd R k1 kx =>
  semMet (t := tNil) hf (fun env Q ex h σ F H A le rel nd R k1 _ => k1 [] env [] F H A h (Step.refl F H A) le rel nd rfl) env Q ex hw σ F H A le rel nd R k1 kx
theorem JE.met0 {x name : Str} {p apos : Pos} {ty id : String} {r : V → List V → Hp → VK → Prop} {g : GM} (i : Nat) (pa : PlainAttrs ty) (slot : Slot ty name id) (hty : typeOf (.builtin id) = pure (.type "method_descriptor")) (hm : ∀ X, Ft T k c X → MtR X id r) (hf : FlatM T.cl ty r g)
    (hN : c.N[i]? = some x := by rfl) (hv : visB c.sc x = true := by rfl) (hd : (x == ("__debug__" : Str)) = false := by rfl) (hcd : (x == ("__classdict__" : Str)) = false := by rfl)
    (hbase : ∀ env : PySem.Env, attributeBase (.Name x p) name env (eval (.Name x p) env) = eval (.Name x p) env := by intro _; rfl)
    (hline : (apos.endLine == pos.line) = true := by rfl) :
    JE T k c (.Call (.Attribute (.Name x p) name apos) [] [] pos) (wMet ty i g aNil) := fun W => by
  refine ⟨tBM0 T.K ty r (tVar i), fun X f => ?_, semMet0 hf⟩
  have := pe_bm0 (apos := apos) (cpos := pos) pa slot hty (hm X ⟨W, f⟩) (pe_varF (pos := p) f hN hv hd hcd) (hbase X.env) hline
  rw [f.K] at this
  exact this
end
section
variable {cl : Nat → Addr} {F H : Hp}
theorem lst1 {ds : List D} {v : V} {B : List Addr} (h : RepO cl F H (.lst ds) 1 v B) : ∃ a vs, v = .ref a ∧ H a = some (.lst vs) ∧ F a = none ∧ RepFs cl F ds vs := by
  simp only [RepO] at h
  obtain ⟨a, vs, A', e1, e2, e3, e4, h⟩ := h
  exact ⟨a, vs, e1, e2, e3, repOs0 h⟩
theorem mk_lst1 {ds : List D} {vs : List V} {a : Addr} (hF : F a = none) (h : RepFs cl F ds vs) : RepO cl F (upd H a (.lst vs)) (.lst ds) 1 (.ref a) [a] := by
  simp only [RepO]
  exact ⟨a, vs, [], rfl, upd_same, hF, rfl, repOs_of0 h⟩
theorem FlatM.lst {r : V → List V → Hp → VK → Prop} {g : List D → List D → Option (D × List D)} (h : ∀ (F H : Hp) (ds : List D) (a : Addr) (vs : List V) (es : List D) (us : List V), Same F H → H a = some (.lst vs) → F a = none → RepFs cl F ds vs → RepFs cl F es us → ∀ res ds', g ds es = some (res, ds') →
    ∃ y vs', RepF cl F res y ∧ RepFs cl F ds' vs' ∧ ∀ R : VK, R y (upd H a (.lst vs')) → r (.ref a) us H R) : FlatM cl "list" r (fun d es => match d with
      | .lst ds => (g ds es).map fun p => (p.1, .lst p.2)
      | _ => none) := by
  intro F H d v B es us le hr he res d' e
  cases d with
  | lst ds =>
    obtain ⟨a, vs, e1, e2, e3, h1⟩ := lst1 hr
    cases q : g ds es with
    | none => simp [q] at e
    | some p =>
      obtain ⟨p1, p2⟩ := p
      simp only [q, Option.map_some, Option.some.injEq, Prod.mk.injEq] at e
      obtain ⟨rfl, rfl⟩ := e
      obtain ⟨y, vs', r1, r2, r3⟩ := h F H ds a vs es us le e2 e3 h1 he p1 p2 q
      exact ⟨rfl, a, y, .lst vs', e1, r1, mk_lst1 e3 r2, fun R hR => by rw [e1]; exact r3 R hR⟩
  | _ => simp at e
def lApp : List D → List D → Option (D × List D)
  | ds, [d] => if ds.length < 16777216 then some (.non, ds ++ [d]) else none
  | _, _ => none
def lPop : List D → List D → Option (D × List D)
  | ds, [] => (ds[ds.length - 1]?).map fun d => (d, ds.dropLast)
  | _, _ => none
def lPopAt : List D → List D → Option (D × List D)
  | ds, [.int i] => if -(2 ^ 63) ≤ i ∧ i < 2 ^ 63 then (match ixN ds.length i with
    | some j => (ds[j]?).map fun d => (d, ds.eraseIdx j)
    | none => none) else none
  | _, _ => none
def lIns : List D → List D → Option (D × List D)
  | ds, [.int i, d] => if ds.length < 16777216 ∧ 0 ≤ i ∧ i < 2 ^ 63 then some (.non, ds.take i.toNat ++ [d] ++ ds.drop i.toNat) else none
  | _, _ => none
def lExt : List D → List D → Option (D × List D)
  | ds, [.lst es] => if ds.length + es.length ≤ 16777216 then some (.non, ds ++ es) else none
  | _, _ => none
abbrev onL (g : List D → List D → Option (D × List D)) : GM := fun d es => match d with
  | .lst ds => (g ds es).map fun p => (p.1, .lst p.2)
  | _ => none
theorem fm_app : FlatM cl "list" rAppend (onL lApp) := FlatM.lst fun F H ds a vs es us le ha hF hr he res ds' e => by
  unfold lApp at e
  split at e
  · rename_i d
    obtain ⟨hz, e⟩ := iteSome e
    cases e
    obtain ⟨u, r, e1, h1, h2⟩ := he
    have : r = [] := h2
    subst this
    exact ⟨.non, vs ++ [u], rfl, repFs_app hr ⟨u, [], rfl, h1, rfl⟩, fun R hR => ⟨a, vs, u, rfl, e1, ha, by rw [sizeLine_eq, ← repFs_len hr]; exact hz, hR⟩⟩
  · cases e
theorem fm_pop : FlatM cl "list" rPop (onL lPop) := FlatM.lst fun F H ds a vs es us le ha hF hr he res ds' e => by
  unfold lPop at e
  split at e
  · cases q : ds[ds.length - 1]? with
    | none => rw [q] at e; cases e
    | some d =>
      rw [q] at e
      cases e
      have : us = [] := he
      subst this
      obtain ⟨v, p1, p2⟩ := repFs_get hr q
      refine ⟨v, vs.dropLast, p2, ?_, fun R hR => ⟨a, vs, v, rfl, rfl, ha, by rw [← repFs_len hr]; exact p1, hR⟩⟩
      rw [List.dropLast_eq_take, List.dropLast_eq_take, ← repFs_len hr]
      exact repFs_take _ hr
  · cases e
theorem ixN_seqI {n : Nat} {i : Int} {j : Nat} (h : ixN n i = some j) : seqIndex? i n = some j := (ixN_seq h).1
theorem fm_popAt : FlatM cl "list" rPopAt (onL lPopAt) := FlatM.lst fun F H ds a vs es us le ha hF hr he res ds' e => by
  unfold lPopAt at e
  split at e
  · rename_i i
    split at e
    · rename_i hi
      cases q : ixN ds.length i with
      | none => rw [q] at e; cases e
      | some j =>
        rw [q] at e
        simp only at e
        cases q2 : ds[j]? with
        | none => rw [q2] at e; cases e
        | some d =>
          rw [q2] at e
          cases e
          obtain ⟨u, r, e1, h1, h2⟩ := he
          have : r = [] := h2
          subst this
          have eu : u = .int i := h1
          subst eu
          obtain ⟨v, p1, p2⟩ := repFs_get hr q2
          exact ⟨v, vs.eraseIdx j, p2, repFs_erase j hr, fun R hR => ⟨a, vs, i, j, v, rfl, e1, ha, hi.1, hi.2, by rw [← repFs_len hr]; exact ixN_seqI q, p1, hR⟩⟩
    · cases e
  · cases e
def rIns : V → List V → Hp → VK → Prop := fun x vs H Q => ∃ (l : Addr) (xs : List V) (i : Int) (y : V), x = .ref l ∧ vs = [.int i, y] ∧ H l = some (.lst xs) ∧ xs.length < sizeLine ∧ 0 ≤ i ∧ i < 2 ^ 63 ∧
    Q .non (upd H l (.lst (xs.take i.toNat ++ [y] ++ xs.drop i.toNat)))
theorem fm_ins : FlatM cl "list" rIns (onL lIns) := FlatM.lst fun F H ds a vs es us le ha hF hr he res ds' e => by
  unfold lIns at e
  split at e
  · rename_i i d
    obtain ⟨⟨hz, h0, h1⟩, e⟩ := iteSome e
    cases e
    obtain ⟨u, r, e1, h2, w, r2, e2, h3, h4⟩ := he
    have : r2 = [] := h4
    subst this
    have eu : u = .int i := h2
    subst eu e2
    exact ⟨.non, _, rfl, repFs_app (repFs_app (repFs_take _ hr) ⟨w, [], rfl, h3, rfl⟩) (repFs_drop _ hr), fun R hR => ⟨a, vs, i, w, rfl, e1, ha, by rw [sizeLine_eq, ← repFs_len hr]; exact hz, h0, h1, hR⟩⟩
  · cases e
theorem fm_ext : FlatM cl "list" rExtend (onL lExt) := FlatM.lst fun F H ds a vs es us le ha hF hr he res ds' e => by
  unfold lExt at e
  split at e
  · rename_i es
    obtain ⟨hz, e⟩ := iteSome e
    cases e
    obtain ⟨u, r, e1, h1, h2⟩ := he
    have : r = [] := h2
    subst this
    obtain ⟨b, ws, e2, e3, h3⟩ := h1
    subst e2
    exact ⟨.non, vs ++ ws, rfl, repFs_app hr h3, fun R hR => ⟨a, b, vs, ws, rfl, e1, ha, le _ _ e3, by rw [sizeLine_eq, ← repFs_len hr, ← repFs_len h3]; exact hz, hR⟩⟩
  · cases e
end
section
variable {T : Tb} {k : Nat} {c : Sc} {pos : Pos} {x : Str} {p apos : Pos} {e : Expr} {es : List Expr} {wa : WA}
end

def hasK {κ : Type} [DecidableEq κ] (ks : List κ) (k : κ) : Bool := ks.any fun x => decide (x = k)
def setD : D → D → D → Option D
  | .lst ds, .int i, d => (ixN ds.length i).map fun j => .lst (ds.set j d)
  | .dk ks ds, k, d => match keyOf k with
    | some k => if ks.length < 16777216 then (if hasK ks k = true then some (.dk ks (putDs ks ds k d)) else some (.dk (ks ++ [k]) (ds ++ [d]))) else none
    | none => none
  | .dt ks ds, .tup kd, d => match keysOf kd with
    | some k => if ks.length < 16777216 then (if hasK ks k = true then some (.dt ks (putDs ks ds k d)) else some (.dt (ks ++ [k]) (ds ++ [d]))) else none
    | none => none
  | _, _, _ => none
where putDs {κ : Type} [DecidableEq κ] : List κ → List D → κ → D → List D
  | k :: ks, d :: ds, x, y => (if k = x then y else d) :: putDs ks ds x y
  | _, ds, _, _ => ds
section
variable {cl : Nat → Addr} {F H : Hp}
theorem zip_put {κ : Type} [DecidableEq κ] {d : D} {v : V} (hd : RepF cl F d v) : ∀ {ks : List κ} {ds : List D} {vs : List V} (k : κ), ks.length = vs.length → RepFs cl F ds vs →
    ∃ vs', RepFs cl F (setD.putDs ks ds k d) vs' ∧ vs'.length = vs.length ∧ (ks.zip vs).map (fun kv => if kv.1 = k then (kv.1, v) else kv) = ks.zip vs'
  | [], ds, vs, k, hl, h => ⟨vs, by simpa [setD.putDs] using h, rfl, rfl⟩
  | k0 :: ks, [], vs, k, hl, h => by
    have : vs = [] := h
    subst this
    simp at hl
  | k0 :: ks, d0 :: ds, vs, k, hl, ⟨v0, r, e1, h1, h2⟩ => by
    subst e1
    obtain ⟨vs', p1, p2, p3⟩ := zip_put hd k (ks := ks) (by simpa using hl) h2
    by_cases q : k0 = k
    · refine ⟨v :: vs', ?_, by simp [p2], by simp [q, p3]⟩
      simp only [setD.putDs, if_pos q]
      exact ⟨v, vs', rfl, hd, p1⟩
    · refine ⟨v0 :: vs', ?_, by simp [p2], by simp [q, p3]⟩
      simp only [setD.putDs, if_neg q]
      exact ⟨v0, vs', rfl, h1, p1⟩
theorem any_zip {κ : Type} [DecidableEq κ] : ∀ {ks : List κ} {vs : List V} {k : κ}, ks.length = vs.length → ((ks.zip vs).any fun kv => decide (kv.1 = k)) = hasK ks k
  | [], vs, k, _ => rfl
  | k0 :: ks, [], k, h => by simp at h
  | k0 :: ks, v :: vs, k, h => by
    rw [List.zip_cons_cons, List.any_cons, any_zip (by simpa using h)]
    rfl
theorem zip_app {κ : Type} : ∀ {ks : List κ} {vs : List V} {k : κ} {v : V}, ks.length = vs.length → (ks ++ [k]).zip (vs ++ [v]) = ks.zip vs ++ [(k, v)]
  | [], [], k, v, _ => rfl
  | [], _ :: _, _, _, h => by simp at h
  | _ :: _, [], _, _, h => by simp at h
  | k0 :: ks, v0 :: vs, k, v, h => by
    show (k0, v0) :: ((ks ++ [k]).zip (vs ++ [v])) = (k0, v0) :: (ks.zip vs ++ [(k, v)])
    rw [zip_app (by simpa using h)]
theorem keysO_v : ∀ {kd : List D} {kk : List Key} {m : Nat} {us : List V} {A : List Addr}, keysOf kd = some kk → RepOs cl F H kd m us A → us = kk.map kV
  | [], kk, m, us, A, e, h => by
    simp only [keysOf, Option.some.injEq] at e
    subst e
    simp only [RepOs] at h
    exact h.1
  | d :: kd, kk, m, us, A, e, h => by
    simp only [RepOs] at h
    obtain ⟨v, r, A1, A2, e1, e2, h1, h2⟩ := h
    simp only [keysOf] at e
    cases q : keyOf d with
    | none => rw [q] at e; cases e
    | some k =>
      cases q2 : keysOf kd with
      | none => rw [q, q2] at e; cases e
      | some kr =>
        rw [q, q2] at e
        have e' : k :: kr = kk := Option.some.inj e
        subst e'
        have ev : v = kV k := by
          cases d with
          | int i => cases q; simp only [RepO, RepF] at h1; exact h1.1
          | str i => cases q; simp only [RepO, RepF] at h1; exact h1.1
          | _ => cases q
        rw [e1, ev, keysO_v q2 h2]; rfl
def rSetA : TSet := fun o i v H Q => rSetL o i v H Q ∨ ∃ a H4, o = .ref a ∧ DPut H a i v H4 ∧ Q H4
theorem set_any {X : Cx} (hu : X.A.units + 1 < cLine) : PSet X rSetA := by
  intro pins s σ H o i v ov iv u Q I ro ri rv h
  rcases h with h | ⟨a, H4, rfl, g, q⟩
  · exact set_list pins s σ H o i v ov iv u Q I ro ri rv h
  · obtain rfl : ov = Value.ref a := ro
    exact d_setItem hu I g ri rv fun s4 I4 => ⟨H4, I4, q⟩
theorem setD_sem {d kd x d' : D} {v i u : V} {B : List Addr} (le : Same F H) (h : RepO cl F H d 1 v B) (hk : ∃ n, ValAt cl F H (n, kd) i) (hx : RepF cl F x u) (e : setD d kd x = some d') :
    isCont d = true ∧ ∃ a o, v = .ref a ∧ RepO cl F (upd H a o) d' 1 (.ref a) [a] ∧ ∀ Q : Hp → Prop, Q (upd H a o) → rSetA v i u H Q := by
  obtain ⟨n, hk⟩ := hk
  cases d with
  | lst ds =>
    cases kd with
    | int k =>
      simp only [setD] at e
      obtain ⟨a, vs, e1, e2, e3, h1⟩ := lst1 h
      cases q : ixN ds.length k with
      | none => rw [q] at e; cases e
      | some j =>
        rw [q] at e
        cases e
        refine ⟨rfl, a, .lst (vs.set j u), e1, mk_lst1 e3 (repFs_set j h1 hx), fun Q hQ => .inl ⟨a, vs, k, j, e1, va_int hk, e2, by rw [← repFs_len h1]; exact q, hQ⟩⟩
    | _ => simp [setD] at e
  | dk ks ds =>
    simp only [setD] at e
    simp only [RepO] at h
    obtain ⟨a, vs, e1, e2, e3, e4, e5, h1⟩ := h
    cases q : keyOf kd with
    | none => rw [q] at e; cases e
    | some k =>
      rw [q] at e
      simp only at e
      obtain ⟨hz, e⟩ : ks.length < 16777216 ∧ (if hasK ks k = true then some (D.dk ks (setD.putDs ks ds k x)) else some (D.dk (ks ++ [k]) (ds ++ [x]))) = some d' := by
        by_cases hz : ks.length < 16777216
        · rw [if_pos hz] at e; exact ⟨hz, e⟩
        · rw [if_neg hz] at e; cases e
      have ei : i = kV k := by
        cases kd with
        | int i => cases q; exact va_int hk
        | str i => cases q; exact va_str hk
        | _ => cases q
      have hz' : (ks.zip vs).length < sizeLine := by rw [List.length_zip, ← e5, Nat.min_self, sizeLine_eq]; exact hz
      by_cases hm : hasK ks k = true
      · rw [if_pos hm] at e
        cases e
        obtain ⟨vs', p1, p2, p3⟩ := zip_put hx k e5 h1
        refine ⟨rfl, a, .dK (ks.zip vs'), e1, ?_, fun Q hQ => .inr ⟨a, _, e1, .inl ⟨_, k, e2, ei, hz', ?_⟩, hQ⟩⟩
        · simp only [RepO]
          exact ⟨a, vs', rfl, upd_same, e3, rfl, by rw [p2]; exact e5, p1⟩
        · unfold putK
          rw [any_zip e5, if_pos hm, p3]
      · rw [if_neg hm] at e
        cases e
        refine ⟨rfl, a, .dK ((ks ++ [k]).zip (vs ++ [u])), e1, ?_, fun Q hQ => .inr ⟨a, _, e1, .inl ⟨_, k, e2, ei, hz', ?_⟩, hQ⟩⟩
        · simp only [RepO]
          exact ⟨a, vs ++ [u], rfl, upd_same, e3, rfl, by simp [e5], repFs_app h1 ⟨u, [], rfl, hx, rfl⟩⟩
        · unfold putK
          rw [any_zip e5, if_neg hm, zip_app e5]
  | dt ks ds =>
    cases kd with
    | tup kd =>
      simp only [setD] at e
      have h0 := h
      simp only [RepO] at h
      obtain ⟨a, vs, e1, e2, e3, e4, e5, h1⟩ := h
      cases q : keysOf kd with
      | none => rw [q] at e; cases e
      | some k =>
        rw [q] at e
        simp only at e
        obtain ⟨hz, e⟩ : ks.length < 16777216 ∧ (if hasK ks k = true then some (D.dt ks (setD.putDs ks ds k x)) else some (D.dt (ks ++ [k]) (ds ++ [x]))) = some d' := by
          by_cases hz : ks.length < 16777216
          · rw [if_pos hz] at e; exact ⟨hz, e⟩
          · rw [if_neg hz] at e; cases e
        have hg : ∃ o, gGet (.dt ks ds) (.tup kd) = some o := ⟨lookD ks ds k, by simp [gGet, q]⟩
        obtain ⟨o, hg⟩ := hg
        have hb : ∃ b, i = .ref b ∧ H b = some (.tup (k.map kV)) := by
          obtain ⟨a', ea', g1, g2⟩ := gGet_v (n := 1) le (show ValAt cl F H (1, .dt ks ds) v from ⟨B, h0⟩) hk hg
          have dg : ∃ r, DGet H a' i r := by
            cases o with
            | none => exact ⟨_, g2 rfl⟩
            | some x => obtain ⟨y, g, _⟩ := g1 x rfl; exact ⟨_, g⟩
          obtain ⟨r, dg⟩ := dg
          rw [e1] at ea'
          have ea : a = a' := by simpa using ea'
          subst ea
          rcases dg with ⟨kvs, k', rd, _⟩ | ⟨kvs, k', b, rd, eb, hb, _⟩
          · rcases rd with rd | ⟨ob, rd⟩ <;> (rw [e2] at rd; cases rd)
          · refine ⟨b, eb, ?_⟩
            obtain ⟨A, hk⟩ := hk
            simp only [RepO] at hk
            obtain ⟨b', us, p1, p2, p3⟩ := hk
            rw [eb] at p1
            have : b = b' := by simpa using p1
            subst this
            have hus : us = k.map kV := keysO_v q p3
            rw [← hus]
            exact le _ _ p2
        obtain ⟨b, ei, eb⟩ := hb
        have hz' : (ks.zip vs).length < sizeLine := by rw [List.length_zip, ← e5, Nat.min_self, sizeLine_eq]; exact hz
        by_cases hm : hasK ks k = true
        · rw [if_pos hm] at e
          cases e
          obtain ⟨vs', p1, p2, p3⟩ := zip_put hx k e5 h1
          refine ⟨rfl, a, .dT (ks.zip vs'), e1, ?_, fun Q hQ => .inr ⟨a, _, e1, .inr ⟨_, k, b, e2, ei, eb, hz', ?_⟩, hQ⟩⟩
          · simp only [RepO]
            exact ⟨a, vs', rfl, upd_same, e3, rfl, by rw [p2]; exact e5, p1⟩
          · unfold putK
            rw [any_zip e5, if_pos hm, p3]
        · rw [if_neg hm] at e
          cases e
          refine ⟨rfl, a, .dT ((ks ++ [k]).zip (vs ++ [u])), e1, ?_, fun Q hQ => .inr ⟨a, _, e1, .inr ⟨_, k, b, e2, ei, eb, hz', ?_⟩, hQ⟩⟩
          · simp only [RepO]
            exact ⟨a, vs ++ [u], rfl, upd_same, e3, rfl, by simp [e5], repFs_app h1 ⟨u, [], rfl, hx, rfl⟩⟩
          · unfold putK
            rw [any_zip e5, if_neg hm, zip_app e5]
    | _ => simp [setD] at e
  | _ => simp [setD] at e
end
end DL

namespace DL
open PySem PySem.Spec PyProof.Rows L2

section
variable {T : Tb} {k : Nat} {c : Sc} {P : Nat → Bool} {pos : Pos}
def allFz : List Val → Option (List D)
  | [] => some []
  | (0, d) :: xs => (allFz xs).map (d :: ·)
  | _ :: _ => none
theorem allFz_at {cl : Nat → Addr} {F H : Hp} : ∀ {xs : List Val} {vs : List V} {ds : List D}, ValsAt cl F H xs vs → allFz xs = some ds → RepFs cl F ds vs
  | [], vs, ds, h, e => by simp only [allFz, Option.some.injEq] at e; subst e; exact h
  | (n, d) :: xs, vs, ds, ⟨v, r, e1, ⟨A, h1⟩, h2⟩, e => by
    cases n with
    | zero =>
      simp only [allFz] at e
      cases q : allFz xs with
      | none => rw [q] at e; cases e
      | some dr =>
        rw [q] at e
        have e' : d :: dr = ds := Option.some.inj e
        subst e'
        exact ⟨v, r, e1, (repO0.mp h1).1, allFz_at h2 q⟩
    | succ n => simp [allFz] at e
def gLst : List Val → Option Val := fun xs => (allFz xs).bind fun ds => if ds.length ≤ 16777216 then some (1, .lst ds) else none
def gTup : List Val → Option Val := fun xs => (allFz xs).bind fun ds => if ds.length ≤ 16777216 then some (0, .tup ds) else none
def rLst : List V → Hp → VK → Prop := fun xs H1 Q => xs.length ≤ sizeLine ∧ ∀ p, H1 p = none → Q (.ref p) (upd H1 p (.lst xs))
def rTup : List V → Hp → VK → Prop := fun xs H1 Q => xs.length ≤ sizeLine ∧ ∀ p, H1 p = none → Q (.ref p) (upd H1 p (.tup xs))
theorem os_lst {cl : Nat → Addr} : OpSem cl rLst gLst := by
  refine OpSem.newL fun F H xs vs le hv res e => ?_
  unfold gLst at e
  cases q : allFz xs with
  | none => rw [q] at e; cases e
  | some ds =>
    rw [q] at e
    obtain ⟨hz, e⟩ := iteSome (show (if ds.length ≤ 16777216 then some ((1 : Nat), D.lst ds) else none) = some res from e)
    have hr := allFz_at hv q
    exact ⟨ds, vs, e.symm, hr, fun R hR => ⟨by rw [sizeLine_eq, ← repFs_len hr]; exact hz, hR⟩⟩
theorem os_tup {cl : Nat → Addr} : OpSem cl rTup gTup := by
  refine OpSem.newT fun F H xs vs le hv res e => ?_
  unfold gTup at e
  cases q : allFz xs with
  | none => rw [q] at e; cases e
  | some ds =>
    rw [q] at e
    obtain ⟨hz, e⟩ := iteSome (show (if ds.length ≤ 16777216 then some ((0 : Nat), D.tup ds) else none) = some res from e)
    have hr := allFz_at hv q
    exact ⟨ds, vs, e.symm, hr, fun R hR => ⟨by rw [sizeLine_eq, ← repFs_len hr]; exact hz, hR⟩⟩
theorem JE.lst {es : List Expr} {wa : WA} (h : JA T k c es wa) : JE T k c (.List es pos) (wOp gLst wa) := fun W => by
  obtain ⟨t, pt, s⟩ := h W
  exact ⟨tCB rLst t, fun X f => show PE X _ (tLst t) from pe_lst (pt X f), semOp os_lst s⟩
theorem JE.tup {es : List Expr} {kk : Nat} {wa : WA} (h : JA T k c es wa) : JE T k c (.Tuple es kk pos) (wOp gTup wa) := fun W => by
  obtain ⟨t, pt, s⟩ := h W
  exact ⟨tCB rTup t, fun X f => show PE X _ (tTup t) from pe_tup (pt X f), semOp os_tup s⟩
def gNewK : List Val → Option Val
  | [] => some (1, .dk [] [])
  | _ => none
def gNewT : List Val → Option Val
  | [] => some (1, .dt [] [])
  | _ => none
theorem JE.newK : JE T k c (.Dict [] [] pos) (wOp gNewK aNil) := fun W => by
  refine ⟨tDNewK, fun X f => pe_dnewK, fun env Q ex hw σ F H A le rel nd R k1 kx => fun p np => ?_⟩
  obtain ⟨xs, res, e1, e2, q⟩ := hw
  simp only [resolve, Option.some.injEq] at e1
  subst e1
  simp only [gNewK, Option.some.injEq] at e2
  subst e2
  obtain ⟨h1, h2, h3⟩ := upd_new (o := .dK []) le np
  obtain ⟨s2, rel2, nd2⟩ := after_pure (B := [p]) le rel nd (Same.refl F) h1 (fun a h => .inl h) (fun a ha => by simp at ha; rw [ha]; exact np) (by simp)
  refine k1 _ env (.ref p) F _ A [p] q s2 h2 rel2 ?_ nd2
  simp only [RepO]
  exact ⟨p, [], rfl, upd_same, h3, rfl, rfl, rfl⟩
theorem JE.newT : JE T k c (.Dict [] [] pos) (wOp gNewT aNil) := fun W => by
  refine ⟨tDNewT, fun X f => pe_dnewT, fun env Q ex hw σ F H A le rel nd R k1 kx => fun p np => ?_⟩
  obtain ⟨xs, res, e1, e2, q⟩ := hw
  simp only [resolve, Option.some.injEq] at e1
  subst e1
  simp only [gNewT, Option.some.injEq] at e2
  subst e2
  obtain ⟨h1, h2, h3⟩ := upd_new (o := .dT []) le np
  obtain ⟨s2, rel2, nd2⟩ := after_pure (B := [p]) le rel nd (Same.refl F) h1 (fun a h => .inl h) (fun a ha => by simp at ha; rw [ha]; exact np) (by simp)
  refine k1 _ env (.ref p) F _ A [p] q s2 h2 rel2 ?_ nd2
  simp only [RepO]
  exact ⟨p, [], rfl, upd_same, h3, rfl, rfl, rfl⟩
abbrev WO := DL.Env → (Option Int → DL.Env → Prop) → XPo → Prop
def oNo : WO := fun env Q _ => Q none env
def oSome (w : WE) : WO := fun env Q ex => w env (fun r env' => ∃ i, r.2 = .int i ∧ Q (Option.some i) env') ex
def JO (T : Tb) (k : Nat) (c : Sc) (e : Option Expr) (w : WO) : Prop := ∀ W : WX, ∃ t : TO, (∀ X, Fit T k c W X → PO X e t) ∧ ∀ (env : DL.Env) (Q : Option Int → DL.Env → Prop) (ex : XPo), w env Q ex → ∀ (σ : L2.St) (F H : Hp) (A : List Addr), Same F H → RelL T.cl F H env σ A → A.Nodup → ∀ R : Option Int → Hp → Prop,
  (∀ o env' F' H' A', Q o env' → Step F H A F' H' A' → Same F' H' → RelL T.cl F' H' env' σ A' → A'.Nodup → R o H') → XOk T W ex F H A σ → t σ H R
theorem JO.no : JO T k c none oNo := fun W => ⟨tNoPart, fun _ _ => po_none, fun env Q ex h σ F H A le rel nd R k1 _ => k1 none env F H A h (Step.refl F H A) le rel nd⟩
theorem JO.yes {e : Expr} {w : WE} (h : JE T k c e w) : JO T k c (Option.some e) (oSome w) := fun W => by
  obtain ⟨t, pt, s⟩ := h W
  refine ⟨tPart t, fun X f => po_some (pt X f), fun env Q ex hw σ F H A le rel nd R k1 kx => ?_⟩
  refine s env _ ex hw σ F H A le rel nd _ (fun r env1 v F1 H1 A1 B q st le1 rel1 rp nd1 => ?_) kx
  obtain ⟨i, e1, q⟩ := q
  rw [e1] at rp
  have ev : v = .int i := va_int (n := r.1) ⟨B, rp⟩
  exact ⟨i, ev, k1 (some i) env1 F1 H1 A1 q (st.less fun a ha => List.mem_append_left _ ha) le1 rel1 (List.nodup_append.mp nd1).1⟩
def cutD (ds : List D) (lo hi : Option Int) : List D := (ds.drop (HT.sIx ds.length 0 lo)).take (HT.sIx ds.length ds.length hi - HT.sIx ds.length 0 lo)
def gCut (x : Val) (lo hi : Option Int) : Option Val := match x with
  | (n, .lst ds) => if n ≤ 1 then some (1, .lst (cutD ds lo hi)) else none
  | (_, .scr ns) => some (1, .lst (cutD (ns.map D.int) lo hi))
  | (_, .str s) => if s.length ≤ 16777216 then some (0, .str (cutS s lo hi)) else none
  | _ => none
def rCut (K : PySem.W.Frag) : V → Option Int → Option Int → Hp → VK → Prop := fun x lo hi H Q => rSlL K x lo hi H Q ∨ rSlS x lo hi H Q
def wCut (w : WI) (u z : WO) : WE := fun env Q ex => w env (fun o env1 => u env1 (fun lo env2 => z env2 (fun hi env3 => ∃ x res, opVal env3 o = some x ∧ gCut x lo hi = some res ∧ Q res env3) ex) ex) ex
theorem repFs_cut {cl : Nat → Addr} {F : Hp} {ds : List D} {vs : List V} (h : RepFs cl F ds vs) (lo hi : Option Int) : RepFs cl F (cutD ds lo hi) (cutV vs lo hi) := by
  unfold cutD cutV
  rw [← repFs_len h]
  exact repFs_take _ (repFs_drop _ h)
theorem JE.cut {e : Expr} {lo hi : Option Expr} {w : WI} {u z : WO} {p2 : Pos} (h : JI T k c e w) (hl : JO T k c lo u) (hh : JO T k c hi z) : JE T k c (.Subscript e (.Slice lo hi none p2) pos) (wCut w u z) := fun W => by
  obtain ⟨t, pt, s⟩ := h W
  obtain ⟨tl, pl, sl⟩ := hl W
  obtain ⟨th, ph, sh⟩ := hh W
  refine ⟨tSl (rCut T.K) t tl th, fun X f => ?_, fun env Q ex hw σ F H A le rel nd R k1 kx => ?_⟩
  · have hr : SlR X (rCut X.K) := sl_list.or sl_str
    rw [f.K] at hr
    exact pe_slice hr (pt X f) (pl X f) (ph X f)
  · refine s env _ ex hw σ F H A le rel nd _ (fun o env1 v F1 H1 A1 q st1 le1 rel1 nd1 ho => ?_) kx
    refine sl env1 _ ex q σ F1 H1 A1 le1 rel1 nd1 _ (fun l env2 F2 H2 A2 q st2 le2 rel2 nd2 => ?_) (kx.step st1)
    refine sh env2 _ ex q σ F2 H2 A2 le2 rel2 nd2 _ (fun u env3 F3 H3 A3 q st3 le3 rel3 nd3 => ?_) (kx.step (st1.trans st2))
    obtain ⟨x, res, e1, e2, q⟩ := q
    have hx := opVal_at rel3 ((ho.mono st2.mono).mono st3.mono) e1
    have stA := (st1.trans st2).trans st3
    have newl : ∀ ds vs, RepFs T.cl F3 ds vs → res = (1, .lst ds) → ∀ p, H3 p = none → R (.ref p) (upd H3 p (.lst vs)) := fun ds vs hr er p np => by
      subst er
      obtain ⟨h1, h2, h3⟩ := upd_new (o := .lst vs) le3 np
      obtain ⟨s4, rel4, nd4⟩ := after_pure (B := [p]) le3 rel3 nd3 (Same.refl F3) h1 (fun a h => .inl h) (fun a ha => by simp at ha; rw [ha]; exact np) (by simp)
      refine k1 _ env3 (.ref p) F3 _ A3 [p] q (stA.trans s4) h2 rel4 (mk_lst1 h3 hr) nd4
    unfold gCut at e2
    split at e2
    · rename_i n ds
      obtain ⟨hn, e2⟩ := iteSome e2
      obtain ⟨a, vs, p1, p2, p3⟩ := va_lst le3 hx hn
      exact .inl ⟨a, vs, p1, .inl (.inl p2), newl _ _ (repFs_cut p3 l u) e2.symm⟩
    · rename_i n ns
      obtain ⟨a, ob, p1, p2⟩ := va_scr hx
      exact .inl ⟨a, ns.map V.int, p1, .inl (.inr ⟨ob, le3 _ _ p2⟩), newl _ _ (repFs_cut repFs_ints l u) (Option.some.inj e2).symm⟩
    · rename_i n z
      obtain ⟨hz, e2⟩ := iteSome e2
      subst e2
      exact .inr ⟨z, va_str hx, by rw [sizeLine_eq]; exact hz, k1 _ env3 _ F3 H3 A3 [] q (by rw [List.append_nil]; exact stA) le3 rel3 (repO0.mpr ⟨rfl, rfl⟩) (by rw [List.append_nil]; exact nd3)⟩
    · cases e2
def gRev : List Val → Option Val
  | [(n, .lst ds)] => if n ≤ 1 then some (1, .lst ds.reverse) else none
  | _ => none
def rRev (K : PySem.W.Frag) : List V → Hp → VK → Prop := R1L fun x H1 Q => ∃ a xs, x = .ref a ∧ SqL K H1 a xs ∧ ∀ p, H1 p = none → Q (.ref p) (upd H1 p (.lst xs.reverse))
theorem os_rev {cl : Nat → Addr} {K : PySem.W.Frag} : OpSem cl (rRev K) gRev := by
  refine OpSem.newL fun F H xs vs le hv res e => ?_
  unfold gRev at e
  split at e
  · rename_i n ds
    obtain ⟨hn, e⟩ := iteSome e
    obtain ⟨v, e1, h1⟩ := vs1 hv
    obtain ⟨a, us, p1, p2, p3⟩ := va_lst le h1 hn
    refine ⟨ds.reverse, us.reverse, e.symm, repFs_rev p3, fun R hR => ?_⟩
    rw [e1]
    exact ⟨a, us, p1, .inl (.inl p2), hR⟩
  · cases e
theorem JE.rev {e : Expr} {w : WI} {kk : Nat} {p1 p2 p3 : Pos} (h : JI T k c e w) : JE T k c (.Subscript e (.Slice none none (some (.UnaryOp .USub (.Constant (.int 1) kk p1) p2)) p3) pos) (wOp gRev (a1 w)) := fun W => by
  obtain ⟨t, pt, s⟩ := JI.one h W
  exact ⟨tCB (rRev T.K) (tCons t tNil), fun X f => by
    have := pe_revL (k := kk) (p1 := p1) (p2 := p2) (p3 := p3) (pos := pos) (pt X f)
    rw [f.K] at this
    exact this, semOp os_rev s⟩
end

section
variable {cl : Nat → Addr} {K : PySem.W.Frag}
def flatD : D → Bool
  | .non => true
  | .bl _ => true
  | .int _ => true
  | .str _ => true
  | _ => false
theorem flat_v {F : Hp} {d : D} {v : V} (f : flatD d = true) (h : RepF cl F d v) : flatV v = true := by
  cases d with
  | non => rw [show v = .non from h]; rfl
  | bl b => rw [show v = .bl b from h]; rfl
  | int b => rw [show v = .int b from h]; rfl
  | str b => rw [show v = .str b from h]; rfl
  | _ => cases f
theorem eqV_D {F : Hp} {d e : D} {v u : V} (f : flatD d = true) (f' : flatD e = true) (h : RepF cl F d v) (h' : RepF cl F e u) : eqV v u = eqD d e := by
  cases d with
  | non => cases e with
    | non => simp only [RepF] at h h'; subst h h'; simp [eqV, eqD, py, PyData.eqv]
    | bl _ => simp only [RepF] at h h'; subst h h'; simp [eqV, eqD, py, PyData.eqv]
    | int _ => simp only [RepF] at h h'; subst h h'; simp [eqV, eqD, py, PyData.eqv]
    | str _ => simp only [RepF] at h h'; subst h h'; simp [eqV, eqD, py, PyData.eqv]
    | _ => cases f'
  | bl _ => cases e with
    | non => simp only [RepF] at h h'; subst h h'; simp [eqV, eqD, py, PyData.eqv]
    | bl _ => simp only [RepF] at h h'; subst h h'; simp [eqV, eqD, py, PyData.eqv]
    | int _ => simp only [RepF] at h h'; subst h h'; simp [eqV, eqD, py, PyData.eqv]
    | str _ => simp only [RepF] at h h'; subst h h'; simp [eqV, eqD, py, PyData.eqv]
    | _ => cases f'
  | int _ => cases e with
    | non => simp only [RepF] at h h'; subst h h'; simp [eqV, eqD, py, PyData.eqv]
    | bl _ => simp only [RepF] at h h'; subst h h'; simp [eqV, eqD, py, PyData.eqv]
    | int _ => simp only [RepF] at h h'; subst h h'; simp [eqV, eqD, py, PyData.eqv]
    | str _ => simp only [RepF] at h h'; subst h h'; simp [eqV, eqD, py, PyData.eqv]
    | _ => cases f'
  | str _ => cases e with
    | non => simp only [RepF] at h h'; subst h h'; simp [eqV, eqD, py, PyData.eqv]
    | bl _ => simp only [RepF] at h h'; subst h h'; simp [eqV, eqD, py, PyData.eqv]
    | int _ => simp only [RepF] at h h'; subst h h'; simp [eqV, eqD, py, PyData.eqv]
    | str _ => simp only [RepF] at h h'; subst h h'; simp [eqV, eqD, py, PyData.eqv]
    | _ => cases f'
  | _ => cases f
theorem inV_D {F : Hp} {x : D} {u : V} (f : flatD x = true) (h : RepF cl F x u) : ∀ {ds : List D} {vs : List V}, RepFs cl F ds vs → ds.all flatD = true → inV u vs = ds.any (fun z => eqD z x) ∧ vs.all flatV = true
  | [], vs, hr, _ => by
    have : vs = [] := hr
    subst this
    exact ⟨rfl, rfl⟩
  | d :: ds, vs, ⟨v, r, e1, h1, h2⟩, hf => by
    subst e1
    rw [List.all_cons, Bool.and_eq_true] at hf
    obtain ⟨i1, i2⟩ := inV_D f h h2 hf.2
    refine ⟨?_, ?_⟩
    · unfold inV at i1 ⊢
      rw [List.any_cons, List.any_cons, i1, eqV_D hf.1 f h1 h]
    · rw [List.all_cons, flat_v hf.1 h1, i2]; rfl
def inD (x : D) : Val → Option Bool
  | (_, .lst ys) => if shp 15 x = true ∧ shp 16 (.lst ys) = true then some (ys.any fun z => eqD z x) else none
  | (0, .tup ys) => if flatD x = true ∧ ys.all flatD = true then some (ys.any fun z => eqD z x) else none
  | (_, .str s) => match x with
    | .str t => some (!(Builtin.Str.occurrences s t 0 s.length 1).isEmpty)
    | _ => none
  | (_, d) => (gGet d x).map (·.isSome)
def gIn : List Val → Option Val
  | [(_, x), y] => (inD x y).map fun b => (0, .bl b)
  | _ => none
def gNotIn : List Val → Option Val
  | [(_, x), y] => (inD x y).map fun b => (0, .bl (!b))
  | _ => none
def rInA (K : PySem.W.Frag) (neg : Bool) : R2 := fun x y H Q =>
  (∃ d ds, Dp K H x d ∧ Dp K H y (.list ds) ∧ SeqAt.shaped d = true ∧ SeqAt.shaped (.list ds) = true ∧ Q (.bl (if neg then !ds.any fun z => PyData.eqv z d else ds.any fun z => PyData.eqv z d)) H) ∨ rIn K neg x y H Q ∨
  (∃ i j, x = .str i ∧ y = .str j ∧ Q (.bl (if neg then !(!(Builtin.Str.occurrences j i 0 j.length 1).isEmpty) else !(Builtin.Str.occurrences j i 0 j.length 1).isEmpty)) H) ∨
  ∃ a o, y = .ref a ∧ DGet H a x o ∧ Q (.bl (if neg then !o.isSome else o.isSome)) H
theorem op_inA {X : Cx} (hu : X.A.units + 65 < cLine) : OpR X (compareOp .In) (rInA X.K false) := by
  intro pins s σ H x y v u Q I rx ry h
  rcases h with h | h | h | ⟨a, o, rfl, g, q⟩
  · exact op_inD hu pins s σ H x y v u Q I rx ry h
  · exact op_in_seq pins s σ H x y v u Q I rx ry h
  · exact op_in_str pins s σ H x y v u Q I rx ry h
  · obtain rfl : u = Value.ref a := ry
    exact d_in (by omega) I g rx fun s3 I3 => ⟨.bl o.isSome, H, I3, rfl, q⟩
theorem op_notInA {X : Cx} (hu : X.A.units + 65 < cLine) : OpR X (compareOp .NotIn) (rInA X.K true) := by
  intro pins s σ H x y v u Q I rx ry h
  rcases h with h | h | h | ⟨a, o, rfl, g, q⟩
  · exact op_notInD hu pins s σ H x y v u Q I rx ry h
  · exact op_notIn_seq pins s σ H x y v u Q I rx ry h
  · exact op_notIn_str pins s σ H x y v u Q I rx ry h
  · obtain rfl : u = Value.ref a := ry
    exact d_notIn (by omega) I g rx fun s3 I3 => ⟨.bl (!o.isSome), H, I3, rfl, q⟩
theorem pys_any {x : D} : ∀ ys : List D, (py.pys ys).any (fun z => PyData.eqv z (py x)) = ys.any fun z => eqD z x
  | [] => rfl
  | y :: ys => by
    rw [show py.pys (y :: ys) = py y :: py.pys ys from rfl, List.any_cons, List.any_cons, pys_any ys]
    rfl
theorem inA_sem {F H : Hp} {x : Val} {n : Nat} {d : D} {v u : V} {b neg : Bool} (le : Same F H) (h1 : ValAt cl F H (n, d) v) (h2 : ValAt cl F H x u) (e : inD d x = some b) (Q : VK) (q : Q (.bl (if neg then !b else b)) H) : rInA K neg v u H Q := by
  unfold inD at e
  split at e
  · rename_i m ys
    obtain ⟨⟨s1, s2⟩, e⟩ := iteSome e
    subst e
    have s1' : shp 16 d = true := by
      have : ∀ (d : D) (m : Nat), shp m d = true → shp (m + 1) d = true := by
        intro d
        refine D.rec (motive_1 := fun d => ∀ m, shp m d = true → shp (m + 1) d = true) (motive_2 := fun ds => ∀ m, shp.shps m ds = true → shp.shps (m + 1) ds = true) ?_ ?_ ?_ ?_ ?_ ?_ ?_ ?_ ?_ ?_ ?_ ?_ ?_ ?_ d
        · intro m h; simp [shp]
        · intro b m h; simp [shp]
        · intro b m h; simp [shp]
        · intro b m h; cases m <;> simpa [shp] using h
        · intro ds ih m h
          cases m with
          | zero => simp [shp] at h
          | succ m => simp only [shp] at h ⊢; exact ih m h
        · intro ds ih m h
          cases m with
          | zero => simp [shp] at h
          | succ m => simp only [shp] at h ⊢; exact ih m h
        · intro _ _ _ m h; cases m <;> simp [shp] at h
        · intro _ _ _ m h; cases m <;> simp [shp] at h
        · intro _ m h; cases m <;> simp [shp] at h
        · intro _ m h; cases m <;> simp [shp] at h
        · intro _ m h; cases m <;> simp [shp] at h
        · intro _ m h; cases m <;> simp [shp] at h
        · intro m h; simp [shp.shps]
        · intro d ds h1 h2 m h
          simp only [shp.shps, Bool.and_eq_true] at h ⊢
          exact ⟨h1 m h.1, h2 m h.2⟩
      exact this d 15 s1
    refine .inl ⟨py d, py.pys ys, va_dp le h1 s1, va_dp le h2 s2, shaped_of s1', shaped_of s2, ?_⟩
    rw [pys_any]; exact q
  · rename_i ys
    obtain ⟨⟨f1, f2⟩, e⟩ := iteSome e
    subst e
    obtain ⟨a, us, p1, p2, p3⟩ := va_tup le h2
    have hv : RepF cl F d v := by
      obtain ⟨A, h1⟩ := h1
      cases d with
      | non => simp only [RepO] at h1; exact h1.1
      | bl _ => simp only [RepO] at h1; exact h1.1
      | int _ => simp only [RepO] at h1; exact h1.1
      | str _ => simp only [RepO] at h1; exact h1.1
      | _ => cases f1
    obtain ⟨i1, i2⟩ := inV_D f1 hv p3 f2
    exact .inr (.inl ⟨a, us, p1, .inr (.inl (.inl (le _ _ p2))), flat_v f1 hv, i2, by rw [i1]; exact q⟩)
  · rename_i m s
    split at e
    · rename_i t
      cases e
      exact .inr (.inr (.inl ⟨t, s, va_str h1, va_str h2, q⟩))
    · cases e
  · rename_i m d' _ _ _
    cases g : gGet d' d with
    | none => rw [g] at e; cases e
    | some o =>
      rw [g] at e
      have e' : o.isSome = b := Option.some.inj e
      subst e'
      obtain ⟨a, ea, g1, g2⟩ := gGet_v le h2 h1 g
      refine .inr (.inr (.inr ?_))
      cases o with
      | none => exact ⟨a, none, ea, g2 rfl, q⟩
      | some y =>
        obtain ⟨z, g3, _⟩ := g1 y rfl
        exact ⟨a, some z, ea, g3, q⟩
theorem os_in : OpSem cl (R2L (rInA K false)) gIn := by
  refine OpSem.val fun F H xs vs le hv res e => ?_
  unfold gIn at e
  split at e
  · rename_i n d y
    obtain ⟨v, u, e1, h1, h2⟩ := vs2 hv
    cases q : inD d y with
    | none => rw [q] at e; cases e
    | some b =>
      rw [q] at e
      refine ⟨.bl b, .bl b, (Option.some.inj e).symm, rfl, fun R hR => ?_⟩
      rw [e1]
      exact inA_sem le h1 h2 q R hR
  · cases e
theorem os_notIn : OpSem cl (R2L (rInA K true)) gNotIn := by
  refine OpSem.val fun F H xs vs le hv res e => ?_
  unfold gNotIn at e
  split at e
  · rename_i n d y
    obtain ⟨v, u, e1, h1, h2⟩ := vs2 hv
    cases q : inD d y with
    | none => rw [q] at e; cases e
    | some b =>
      rw [q] at e
      refine ⟨.bl (!b), .bl (!b), (Option.some.inj e).symm, rfl, fun R hR => ?_⟩
      rw [e1]
      exact inA_sem le h1 h2 q R hR
  · cases e

def gLen : List Val → Option Val
  | [(_, .lst ds)] => some (0, .int ds.length)
  | [(_, .tup ds)] => some (0, .int ds.length)
  | [(_, .str s)] => if s.length ≤ 16777216 then some (0, .int s.length) else none
  | [(_, .scr ns)] => some (0, .int ns.length)
  | _ => none
def rLen (K : PySem.W.Frag) : List V → Hp → VK → Prop := fun xs H Q => ∃ x n, xs = [x] ∧ LenV K x H n ∧ Q (.int n) H
theorem os_len : OpSem cl (rLen K) gLen := by
  refine OpSem.val fun F H xs vs le hv res e => ?_
  unfold gLen at e
  split at e
  · rename_i n ds
    obtain ⟨v, e1, h1⟩ := vs1 hv
    obtain ⟨a, us, p1, p2, p3⟩ := va_lstN le h1
    refine ⟨.int ds.length, _, (Option.some.inj e).symm, rfl, fun R hR => ⟨v, ds.length, e1, ?_, hR⟩⟩
    rw [p1]; exact .inl ⟨us, .inl (.inl p2), p3⟩
  · rename_i n ds
    obtain ⟨v, e1, h1⟩ := vs1 hv
    obtain ⟨a, us, p1, p2, p3⟩ := va_tupN le h1
    refine ⟨.int ds.length, _, (Option.some.inj e).symm, rfl, fun R hR => ⟨v, ds.length, e1, ?_, hR⟩⟩
    rw [p1]; exact .inr ⟨us, .inl (.inl p2), p3⟩
  · rename_i n s
    obtain ⟨hz, e⟩ := iteSome e
    obtain ⟨v, e1, h1⟩ := vs1 hv
    refine ⟨.int s.length, _, e.symm, rfl, fun R hR => ⟨v, s.length, e1, ?_, hR⟩⟩
    rw [va_str h1]; exact ⟨by rw [sizeLine_eq]; exact hz, rfl⟩
  · rename_i n ns
    obtain ⟨v, e1, h1⟩ := vs1 hv
    obtain ⟨a, o, p1, p2⟩ := va_scr h1
    refine ⟨.int ns.length, _, (Option.some.inj e).symm, rfl, fun R hR => ⟨v, ns.length, e1, ?_, hR⟩⟩
    rw [p1]; exact .inl ⟨ns.map V.int, .inl (.inr ⟨o, le _ _ p2⟩), by simp⟩
  · cases e
def gList : List Val → Option Val
  | [(n, .lst ds)] => if n ≤ 1 then some (1, .lst ds) else none
  | [(0, .tup ds)] => some (1, .lst ds)
  | _ => none
def rList (K : PySem.W.Frag) : List V → Hp → VK → Prop := fun xs H Q => ∃ p ys, xs = [.ref p] ∧ (SqL K H p ys ∨ SqT K H p ys) ∧ ∀ l, H l = none → Q (.ref l) (upd H l (.lst ys))
theorem os_list : OpSem cl (rList K) gList := by
  refine OpSem.newL fun F H xs vs le hv res e => ?_
  unfold gList at e
  split at e
  · rename_i n ds
    obtain ⟨hn, e⟩ := iteSome e
    obtain ⟨v, e1, h1⟩ := vs1 hv
    obtain ⟨a, us, p1, p2, p3⟩ := va_lst le h1 hn
    exact ⟨ds, us, e.symm, p3, fun R hR => ⟨a, us, by rw [e1, p1], .inl (.inl (.inl p2)), hR⟩⟩
  · rename_i ds
    obtain ⟨v, e1, h1⟩ := vs1 hv
    obtain ⟨a, us, p1, p2, p3⟩ := va_tup le h1
    exact ⟨ds, us, (Option.some.inj e).symm, p3, fun R hR => ⟨a, us, by rw [e1, p1], .inr (.inl (.inl (le _ _ p2))), hR⟩⟩
  · cases e
def gTuple : List Val → Option Val
  | [(n, .lst ds)] => if n ≤ 1 then some (0, .tup ds) else none
  | _ => none
def rTuple (K : PySem.W.Frag) : List V → Hp → VK → Prop := fun xs H Q => ∃ p ys, xs = [.ref p] ∧ ((SqL K H p ys ∧ ∀ l, H l = none → Q (.ref l) (upd H l (.tup ys))) ∨ (SqT K H p ys ∧ Q (.ref p) H))
theorem os_tuple : OpSem cl (rTuple K) gTuple := by
  refine OpSem.newT fun F H xs vs le hv res e => ?_
  unfold gTuple at e
  split at e
  · rename_i n ds
    obtain ⟨hn, e⟩ := iteSome e
    obtain ⟨v, e1, h1⟩ := vs1 hv
    obtain ⟨a, us, p1, p2, p3⟩ := va_lst le h1 hn
    exact ⟨ds, us, e.symm, p3, fun R hR => ⟨a, us, by rw [e1, p1], .inl ⟨.inl (.inl p2), hR⟩⟩⟩
  · cases e
def toInts : List D → Option (List Int)
  | [] => some []
  | .int i :: ds => (toInts ds).map (i :: ·)
  | _ :: _ => none
theorem toInts_map : ∀ ns : List Int, toInts (ns.map D.int) = some ns
  | [] => rfl
  | n :: ns => by rw [List.map_cons]; simp only [toInts, toInts_map ns]; rfl
theorem toInts_eq : ∀ {ds : List D} {ns : List Int}, toInts ds = some ns → ds = ns.map D.int
  | [], ns, e => by simp only [toInts, Option.some.injEq] at e; subst e; rfl
  | d :: ds, ns, e => by
    cases d with
    | int i =>
      simp only [toInts] at e
      cases q : toInts ds with
      | none => rw [q] at e; cases e
      | some r =>
        rw [q] at e
        have e' : i :: r = ns := Option.some.inj e
        subst e'
        rw [toInts_eq q]; rfl
    | _ => simp [toInts] at e
def isort (ns : List Int) : List Int := ns.mergeSort (fun a b => decide (a ≤ b))
theorem isort_perm (ns : List Int) : (isort ns).Perm ns := List.mergeSort_perm _ _
theorem isort_sorted (ns : List Int) : (isort ns).Pairwise (· ≤ ·) := by
  have h := List.pairwise_mergeSort (le := fun a b : Int => decide (a ≤ b)) (fun a b c h1 h2 => by
    rw [decide_eq_true_eq] at h1 h2 ⊢; omega) (fun a b => by simp only [Bool.or_eq_true, decide_eq_true_eq]; omega) ns
  exact h.imp fun h => of_decide_eq_true h
theorem isort_unique {ns ms : List Int} (h1 : ms.Perm ns) (h2 : ms.Pairwise (· ≤ ·)) : ms = isort ns :=
  List.Perm.eq_of_pairwise (fun a b _ _ p q => Int.le_antisymm p q) h2 (isort_sorted ns) (h1.trans (isort_perm ns).symm)
def gSortI : List Val → Option Val
  | [(n, .lst ds)] => if n ≤ 1 then (toInts ds).map fun ns => (1, .lst ((isort ns).map D.int)) else none
  | _ => none
theorem os_sortI : OpSem cl (rSortedI K) gSortI := by
  refine OpSem.newL fun F H xs vs le hv res e => ?_
  unfold gSortI at e
  split at e
  · rename_i n ds
    split at e
    · rename_i hn
      obtain ⟨v, e1, h1⟩ := vs1 hv
      obtain ⟨a, us, p1, p2, p3⟩ := va_lst le h1 hn
      cases q : toInts ds with
      | none => rw [q] at e; cases e
      | some ns =>
        rw [q] at e
        have ed := toInts_eq q
        subst ed
        have eu := repFs_intsV p3
        subst eu
        refine ⟨_, (isort ns).map V.int, (Option.some.inj e).symm, repFs_ints, fun R hR => ⟨a, ns, by rw [e1, p1], .inl (.inl p2), fun ns' p hp hs np => ?_⟩⟩
        rw [isort_unique hp hs]
        exact hR p np
    · cases e
  · cases e
def gAbs := gI1 fun i => .int (if i < 0 then -i else i)
theorem os_abs : OpSem cl (fun xs H Q => ∃ i, xs = [.int i] ∧ Q (.int (if i < 0 then -i else i)) H) gAbs := by
  refine OpSem.val fun F H xs vs le hv res e => ?_
  unfold gAbs gI1 at e
  split at e
  · rename_i n a
    obtain ⟨v, e1, h1⟩ := vs1 hv
    exact ⟨_, _, (Option.some.inj e).symm, rfl, fun R hR => ⟨a, by rw [e1, va_int h1], hR⟩⟩
  · cases e
def gMax2 := gI2 fun i j => some (.int (if j > i then j else i))
def gMin2 := gI2 fun i j => some (.int (if j < i then j else i))
theorem os_max2 : OpSem cl (fun xs H Q => ∃ i j, xs = [.int i, .int j] ∧ Q (.int (if j > i then j else i)) H) gMax2 := by
  refine OpSem.val fun F H xs vs le hv res e => ?_
  unfold gMax2 gI2 at e
  split at e
  · rename_i n a m b
    obtain ⟨v, u, e1, h1, h2⟩ := vs2 hv
    exact ⟨_, _, (Option.some.inj e).symm, rfl, fun R hR => ⟨a, b, by rw [e1, va_int h1, va_int h2], hR⟩⟩
  · cases e
theorem os_min2 : OpSem cl (fun xs H Q => ∃ i j, xs = [.int i, .int j] ∧ Q (.int (if j < i then j else i)) H) gMin2 := by
  refine OpSem.val fun F H xs vs le hv res e => ?_
  unfold gMin2 gI2 at e
  split at e
  · rename_i n a m b
    obtain ⟨v, u, e1, h1, h2⟩ := vs2 hv
    exact ⟨_, _, (Option.some.inj e).symm, rfl, fun R hR => ⟨a, b, by rw [e1, va_int h1, va_int h2], hR⟩⟩
  · cases e
def gInt : List Val → Option Val
  | [(_, .int i)] => some (0, .int i)
  | [(_, .bl b)] => some (0, .int (if b then 1 else 0))
  | _ => none
theorem os_int : OpSem cl (fun xs H Q => (∃ i, xs = [.int i] ∧ Q (.int i) H) ∨ ∃ k, xs = [.bl k] ∧ Q (.int (if k then 1 else 0)) H) gInt := by
  refine OpSem.val fun F H xs vs le hv res e => ?_
  unfold gInt at e
  split at e
  · rename_i n a
    obtain ⟨v, e1, h1⟩ := vs1 hv
    exact ⟨_, _, (Option.some.inj e).symm, rfl, fun R hR => .inl ⟨a, by rw [e1, va_int h1], hR⟩⟩
  · rename_i n a
    obtain ⟨v, e1, h1⟩ := vs1 hv
    exact ⟨_, _, (Option.some.inj e).symm, rfl, fun R hR => .inr ⟨a, by rw [e1, va_bl h1], hR⟩⟩
  · cases e
end
end DL

namespace DL
open PySem PySem.Spec PyProof.Rows L2

section
variable {T : Tb} {k : Nat} {c : Sc} {P : Nat → Bool} {pos : Pos} {st : Stmt} {sts : List Stmt}
def wNever : WS := fun _ _ => False
theorem JS.never : JS T k c P st wNever := fun W => ⟨tNever, fun _ _ => ps_never, fun _ _ h => h.elim⟩
theorem JB.never : JB T k c P sts wNever := fun W => ⟨tNever, fun _ _ => pss_never, fun _ _ h => h.elim⟩

def gSet (i : Nat) (wi : WI) : WG := fun d env Q ex => (∃ x, env[i]? = some (some x)) ∧ wi env (fun o env1 => ∃ n kd d0 d', opVal env1 o = some (n, kd) ∧ env1[i]? = some (some (1, d0)) ∧ setD d0 kd d = some d' ∧ Q (env1.set i (some (1, d')))) ex
theorem JG.item {x : Str} {e : Expr} {wi : WI} {p : Pos} (i : Nat) (h : JI T k c e wi) (hN : c.N[i]? = some x := by rfl) (hv : visB c.sc x = true := by rfl) (hd : (x == ("__debug__" : Str)) = false := by rfl) (hcd : (x == ("__classdict__" : Str)) = false := by rfl)
    (ha : ∀ (env : PySem.Env) v, assign (.Subscript (.Name x p) e pos) env v = (do
      let ov ← holding [v] (eval (.Name x p) env)
      let iv ← holding [v, ov] (eval e env)
      standAt pos
      holding [v, ov, iv] (setItem ov iv v)
      release [v, ov, iv] []) := by intro _ _; rfl) : JG T k c P (.Subscript (.Name x p) e pos) (gSet i wi) := fun W => by
  obtain ⟨t, pt, s⟩ := h W
  refine ⟨L2.gSub (tVar i) t rSetA, fun X f => pg_sub (pe_varF (pos := p) f hN hv hd hcd) (pt X f) (set_any (by have := f.units; omega)) (ha X.env), fun d env Q ex hw σ F H A v le rel nd rf R kn kx => ?_⟩
  obtain ⟨⟨x0, e0⟩, hw⟩ := hw
  obtain ⟨n0, d00⟩ := x0
  obtain ⟨v0, B1, Bi, B2, q1, q2, q3, q4⟩ := relL_out rel e0
  refine ⟨v0, q1, ?_⟩
  refine s env _ ex hw σ F H A le rel nd _ (fun o env1 u F1 H1 A1 q st1 le1 rel1 nd1 ho => ?_) kx
  obtain ⟨n, kd, d0, d', e1, e2, e3, q⟩ := q
  have hk := opVal_at rel1 ho e1
  obtain ⟨v1, C1, Ci, C2, p1, p2, p3, p4⟩ := relL_out rel1 e2
  rw [q1] at p1
  have ev : v0 = v1 := by simpa using p1
  subst ev
  obtain ⟨hc, a, o, ea, ro, hr⟩ := setD_sem le1 p3 ⟨n, hk⟩ (repF_mono st1.mono rf) e3
  subst ea
  obtain ⟨a', A', Rr, m1, m2, m3, m4, m5, m6⟩ := mut_root le1 rel1 nd1 e2 hc
  rw [q1] at m1
  have ea : a = a' := by simpa using m1
  subst ea
  have eA : A' = [] := by
    have : ∀ b ∈ A', False := by
      intro b hb
      cases d0 with
      | lst ds =>
        simp only [RepO] at m3
        obtain ⟨a2, vs2, A2', f1, f2, f3, f4, f5⟩ := m3
        have := List.cons.inj f4
        have hz : A2' = [] := repOs0_nil f5
        rw [this.2, hz] at hb; cases hb
      | dk ks ds => simp only [RepO] at m3; obtain ⟨a2, vs2, f1, f2, f3, f4, f5⟩ := m3; have := (List.cons.inj f4).2; rw [this] at hb; cases hb
      | dt ks ds => simp only [RepO] at m3; obtain ⟨a2, vs2, f1, f2, f3, f4, f5⟩ := m3; have := (List.cons.inj f4).2; rw [this] at hb; cases hb
      | _ => cases hc
    cases A' with
    | nil => rfl
    | cons b _ => exact (this b (by simp)).elim
  subst eA
  obtain ⟨A'', s1, s2, s3⟩ := m6 o d' [] ro m5
  have hA'' : ∀ b ∈ A'', b ∈ A1 := fun b hb => (m4 b).mpr (by simpa using s3 b hb)
  obtain ⟨st2, le2⟩ := step_upd (o := o) le1 ((m4 a).mpr (.inl rfl)) m2 hA''
  exact hr _ (kn _ σ F1 _ A'' q (Kp.refl P σ) (st1.trans st2) le2 s1 s2)
def wAsgG (w : WE) (g : WG) : WS := fun env K => w env (fun r env1 => g r.2 env1 K.nx K.ex) K.ex
theorem JS.asgG {tg e : Expr} {w : WE} {g : WG} (h : JE T k c e w) (hg : JG T k c P tg g) (hs : ∀ env : PySem.Env, swapsWithSole [tg] e pos.line env = pure false := by intro _; rfl) (hw : ∀ env : PySem.Env, swappedStores [tg] e env = pure none := by intro env; first | rfl | (unfold swappedStores; generalize (env.blockKind != .function) = b; cases b <;> rfl))
    (h1 : ∀ env : PySem.Env, (assignEach [tg] env).map (·.2) = [assign tg env] := by intro _; rfl) : JS T k c P (.Assign [tg] e pos) (wAsgG w g) := fun W => by
  obtain ⟨t, pt, s⟩ := h W
  obtain ⟨g, pg, sg⟩ := hg W
  refine ⟨tAsg t g, fun X f => ps_asg (pt X f.toFit) (pg X f.toFit) (hs X.env) (hw X.env) (h1 X.env), fun env K hw σ F H A le rel nd D kn kr kx => ?_⟩
  refine s env _ _ hw σ F H A le rel nd _ (fun r env1 v F1 H1 A1 B q st1 le1 rel1 rp nd1 => ?_) kx.x
  obtain ⟨s2, le2, rel2, rf⟩ := freeze_tail le1 rel1 rp nd1
  have st12 := st1.trans s2
  exact sg r.2 env1 _ _ q σ _ H1 A1 v le2 rel2 (List.nodup_append.mp nd1).1 rf _ (kn.step (Kp.refl P σ) st12) (kx.step (Kp.refl P σ) st12).x
def JGz (T : Tb) (k : Nat) (c : Sc) (P : Nat → Bool) (es : List Expr) (w : List D → DL.Env → (DL.Env → Prop) → Prop) : Prop := ∀ W : WX, ∃ g : TGs, (∀ X, Fit T k c W X → PGs X es g) ∧ (∀ (ds : List D) (env : DL.Env) (Q : DL.Env → Prop), w ds env Q → ∀ (σ : L2.St) (F H : Hp) (A : List Addr) (vs : List V), Same F H → RelL T.cl F H env σ A → A.Nodup → RepFs T.cl F ds vs → ∀ R : L2.St → Hp → Prop,
    NxOk T P Q F H A σ R → g vs σ H R)
def zNil : List D → DL.Env → (DL.Env → Prop) → Prop := fun ds env Q => ds = [] ∧ Q env
def zCons (g : WG) (z : List D → DL.Env → (DL.Env → Prop) → Prop) : List D → DL.Env → (DL.Env → Prop) → Prop := fun ds env Q => ∃ d r, ds = d :: r ∧ g d env (fun env1 => z r env1 Q) fun _ _ => False
theorem JGz.nil : JGz T k c P [] zNil := fun W => ⟨gNil, fun _ _ => pgs_nil, fun ds env Q h σ F H A vs le rel nd rf R kn => by
  obtain ⟨e, q⟩ := h
  subst e
  have : vs = [] := rf
  exact ⟨this, kn env σ F H A q (Kp.refl P σ) (Step.refl F H A) le rel nd⟩⟩
theorem JGz.cons {e : Expr} {es : List Expr} {g : WG} {z : List D → DL.Env → (DL.Env → Prop) → Prop} (h : JG T k c P e g) (h' : JGz T k c P es z) (hs : ∀ env : PySem.Env, (assignEach (e :: es) env).map (·.2) = assign e env :: (assignEach es env).map (·.2) := by intro _; rfl) : JGz T k c P (e :: es) (zCons g z) := fun W => by
  obtain ⟨g1, pg1, sg1⟩ := h W
  obtain ⟨g2, pg2, sg2⟩ := h' W
  refine ⟨gCons g1 g2, fun X f => pgs_cons (pg1 X f) (pg2 X f) (hs X.env), fun ds env Q hw σ F H A vs le rel nd rf R kn => ?_⟩
  obtain ⟨d, r, e1, hw⟩ := hw
  subst e1
  obtain ⟨v, vr, e2, r1, r2⟩ := rf
  subst e2
  refine ⟨v, vr, rfl, sg1 d env _ _ hw σ F H A v le rel nd r1 _ (fun env1 σ1 F1 H1 A1 q kp st le1 rel1 nd1 => ?_) fun _ _ _ _ _ h => h.elim⟩
  exact sg2 r env1 Q q σ1 F1 H1 A1 vr le1 rel1 nd1 (repFs_mono st.mono r2) R (kn.step kp st)
def gTz (n : Nat) (z : List D → DL.Env → (DL.Env → Prop) → Prop) : WG := fun d env Q _ => match d with
  | .tup ds => ds.length = n ∧ z ds env Q
  | .lst ds => ds.length = n ∧ z ds env Q
  | _ => False
theorem JG.tupz {es : List Expr} {kk n : Nat} {z : List D → DL.Env → (DL.Env → Prop) → Prop} (h : JGz T k c P es z) (hn : ∀ env : PySem.Env, (assignEach es env).length = n := by intro _; rfl) (hst : ∀ env : PySem.Env, (assignEach es env).findIdx? (·.1) = none := by intro _; rfl) (hh : c.hot = false := by rfl) :
    JG T k c P (.Tuple es kk pos) (gTz n z) := fun W => by
  obtain ⟨g, pg, sg⟩ := h W
  refine ⟨fun v σ H Q => L2.gTup T.K n g v σ H Q ∨ L2.gLst T.K n g v σ H Q, fun X f => ?_, fun d env Q ex hw σ F H A v le rel nd rf R kn _ => ?_⟩
  · have p1 : PG X (.Tuple es kk pos) (L2.gTup X.K n g) := pg_tup (f.calm hh) (pg X f) (hn X.env) (hst X.env)
    have p2 : PG X (.Tuple es kk pos) (L2.gLst X.K n g) := pg_lst (f.calm hh) (pg X f) (hn X.env) (hst X.env)
    rw [f.K] at p1 p2
    refine ⟨fun pins s σ H v u Q I r hq => ?_⟩
    rcases hq with hq | hq
    · exact p1.run pins s σ H v u Q I r hq
    · exact p2.run pins s σ H v u Q I r hq
  · cases d with
    | tup ds =>
      obtain ⟨a, vs, e1, e2, h2⟩ := rf
      obtain ⟨hl, hw⟩ := hw
      exact .inl ⟨a, vs, e1, .inl (.inl (le _ _ e2)), by rw [← repFs_len h2]; exact hl, sg ds env Q hw σ F H A vs le rel nd h2 R kn⟩
    | lst ds =>
      obtain ⟨a, vs, e1, e2, h2⟩ := rf
      obtain ⟨hl, hw⟩ := hw
      exact .inr ⟨a, vs, e1, .inl (.inl (le _ _ e2)), by rw [← repFs_len h2]; exact hl, sg ds env Q hw σ F H A vs le rel nd h2 R kn⟩
    | _ => exact hw.elim

def wRoS (js : List Nat) (w : WS) : WS := fun env K => w (frz env) ⟨fun _ => K.nx (fgt js env), fun r _ => cov r.2 r.1 = true ∧ K.rt r (fgt js env), fun n _ => K.ex n (fgt js env)⟩
theorem kp_fgt {cl : Nat → Addr} {F H : Hp} {js : List Nat} {env : DL.Env} {σ σ' : L2.St} {A : List Addr} (rel : RelL cl F H env σ A) (kp : Kp (fun i => P i || !js.contains i) σ σ') (nd : A.Nodup) : ∃ A', RelL cl F H (fgt js env) σ' A' ∧ A'.Sublist A ∧ Kp P σ σ' := by
  obtain ⟨A', r, sub⟩ := relL_ptw (env' := fgt js env) (σ' := σ') rel (fgt_len js env) kp.1 fun i o e => by
    by_cases q : i ∈ js
    · exact .inl ((fgt_get js env i).1 q o e)
    · refine .inr (.inr ⟨?_, kp.2 i ?_⟩)
      · rw [← (fgt_get js env i).2 q]; exact e
      · simp [q]
  exact ⟨A', r, sub, kp.1, fun p hp => kp.2 p (by simp [hp])⟩
theorem JS.ro {w : WS} (js : List Nat) (h : JS T k c (fun i => P i || !js.contains i) st w) : JS T k c P st (wRoS js w) := fun W => by
  obtain ⟨t, pt, s⟩ := h W
  refine ⟨t, pt, fun env K hw σ F H A le rel nd D kn kr kx => ?_⟩
  have own := relL_own le rel
  have hs := fz_same (H := H) fun a ha => (own a ha).2
  refine s (frz env) _ hw σ (fz F H A) H [] (fz_le le) (relL_frz hs rel fun a ha => by unfold fz; rw [if_pos ha]) List.nodup_nil D (fun env1 σ1 F1 H1 A1 q kp st1 le1 rel1 nd1 => ?_) (fun r env1 σ1 v F1 H1 A1 B q kp st1 le1 rel1 rp nd1 => ?_) (fun n env1 σ1 F1 H1 A1 q kp st1 le1 rel1 nd1 => ?_)
  · obtain ⟨s2, le2, rel2⟩ := ro_back le rel (st1.less (A'' := []) (by simp))
    obtain ⟨A2, rel3, sub, kp'⟩ := kp_fgt rel2 kp nd
    exact kn _ σ1 F H1 A2 q kp' (s2.less fun a ha => sub.subset ha) le2 rel3 (nd.sublist sub)
  · obtain ⟨cv, q⟩ := q
    obtain ⟨s2, le2, rel2⟩ := ro_back le rel (st1.less (A'' := []) (by simp))
    obtain ⟨A2, rel3, sub, kp'⟩ := kp_fgt rel2 kp nd
    obtain ⟨_, ndB, _⟩ := List.nodup_append.mp nd1
    have hB : ∀ a ∈ B, H a = none := fun a ha => (st1.newA a (List.mem_append_right _ ha)).elim (fun z => by simp at z) id
    have fB : ∀ a ∈ B, F a = none := fun a ha => le.free (hB a ha)
    refine kr r _ σ1 v F H1 A2 B q kp' ⟨Same.refl F, s2.keep, fun a h => .inl h, fun a h => (List.mem_append.mp h).elim (fun z => .inl (sub.subset z)) fun h => .inr (hB a h), s2.live⟩ le2 rel3 (repO_cov cv rp fB) ?_
    rw [List.nodup_append]
    exact ⟨nd.sublist sub, ndB, fun a ha b hb e => by subst e; exact (own a (sub.subset ha)).1 (hB a hb)⟩
  · obtain ⟨s2, le2, rel2⟩ := ro_back le rel (st1.less (A'' := []) (by simp))
    obtain ⟨A2, rel3, sub, kp'⟩ := kp_fgt rel2 kp nd
    exact kx n _ σ1 F H1 A2 q kp' (s2.less fun a ha => sub.subset ha) le2 rel3 (nd.sublist sub)
end

section
variable {T : Tb} {k : Nat} {c : Sc} {pos : Pos} {a b : Expr}
theorem rgV_rep {cl : Nat → Addr} {F : Hp} {lo hi : Int} : RepFs cl F (rgD lo hi) (rgV lo hi) := by
  unfold rgD rgV
  have h : ∀ l : List Nat, RepFs cl F (l.map fun i => D.int (lo + (i : Nat))) (l.map fun i => V.int (lo + (i : Nat))) := by
    intro l
    induction l with
    | nil => rfl
    | cons x l ih => exact ⟨_, _, rfl, rfl, ih⟩
  exact h _
def wLR1 (wi : WI) : WE := fun env Q ex => wi env (fun o env1 => ∃ n j, opVal env1 o = some (n, .int j) ∧ 0 ≤ j ∧ j ≤ 16777216 ∧ Q (1, .lst (rgD 0 j)) env1) ex
theorem JE.listRg1 {p1 p2 p3 : Pos} {wi : WI} (hm1 : T.mg "list" = none) (hm2 : T.mg "range" = none) (h : JI T k c a wi) (ns : noStar a = true := by rfl) (hg : glB c.sc "range" = true := by rfl) (hg2 : glB c.sc "list" = true := by rfl) (hh : c.hot = false := by rfl) :
    JE T k c (.Call (.Name "list" p1) [.Call (.Name "range" p2) [a] [] p3] [] pos) (wLR1 wi) := fun W => by
  obtain ⟨t, pt, s⟩ := h W
  refine ⟨tLstRg (tRg1 t), fun X f => pe_listRg (f.calm hh) (gl_of f hg2) (by rw [f.mg]; exact hm1) (prg_1 (gl_of f hg) (by rw [f.mg]; exact hm2) (pt X f) (starEach_ne ns)), fun env Q ex hw σ F H A le rel nd R k1 kx => ?_⟩
  refine s env _ ex hw σ F H A le rel nd _ (fun o env1 v F1 H1 A1 q st1 le1 rel1 nd1 ho => ?_) kx
  obtain ⟨n, j, e1, h0, h1, q⟩ := q
  have ev := va_int (opVal_at rel1 ho e1)
  subst ev
  refine ⟨j, rfl, RgOk.of_le (Int.le_refl 0) h1 (by decide) h0, fun p np => ?_⟩
  obtain ⟨g1, g2, g3⟩ := upd_new (o := .lst (rgV 0 j)) le1 np
  obtain ⟨s4, rel4, nd4⟩ := after_pure (B := [p]) le1 rel1 nd1 (Same.refl F1) g1 (fun a h => .inl h) (fun a ha => by simp at ha; rw [ha]; exact np) (by simp)
  exact k1 _ env1 (.ref p) F1 _ A1 [p] q (st1.trans s4) g2 rel4 (mk_lst1 g3 rgV_rep) nd4
end

def putM (p : List Key × List D) (k : Key) (d : D) : List Key × List D := if hasK p.1 k = true then (p.1, setD.putDs p.1 p.2 k d) else (p.1 ++ [k], p.2 ++ [d])
def mergeD : List Key × List D → List D → Option (List Key × List D)
  | p, [] => some p
  | p, .tup [k, d] :: r => match keyOf k with
    | some k => mergeD (putM p k d) r
    | none => none
  | _, _ => none
theorem mergeD_cons {p q : List Key × List D} {d : D} {ds : List D} (e : mergeD p (d :: ds) = some q) : ∃ k x kk, d = .tup [k, x] ∧ keyOf k = some kk ∧ mergeD (putM p kk x) ds = some q := by
  unfold mergeD at e
  split at e
  · rename_i e0; cases e0
  · rename_i k x r' e0
    cases e0
    cases q1 : keyOf k with
    | none => rw [q1] at e; cases e
    | some kk =>
      rw [q1] at e
      exact ⟨k, x, kk, rfl, q1, e⟩
  · cases e
theorem mergeD_v {cl : Nat → Addr} {K : PySem.W.Frag} {F H : Hp} (le : Same F H) : ∀ {ds : List D} {vs : List V} {p q : List Key × List D} {us : List V}, RepFs cl F ds vs → mergeD p ds = some q → p.1.length = us.length → RepFs cl F p.2 us →
    ∃ (ps : List Addr) (kvs : List (Key × V)) (us' : List V), vs = ps.map V.ref ∧ Paired (fun p kv => SqT K H p [kV kv.1, kv.2]) ps kvs ∧ mergeK (p.1.zip us) kvs = q.1.zip us' ∧ q.1.length = us'.length ∧ RepFs cl F q.2 us'
  | [], vs, p, q, us, h, e, hl, hu => by
    have : vs = [] := h
    subst this
    simp only [mergeD, Option.some.injEq] at e
    subst e
    exact ⟨[], [], us, rfl, .nil, rfl, hl, hu⟩
  | d :: ds, vs, p, q, us, ⟨v, r, e1, h1, h2⟩, e, hl, hu => by
    subst e1
    obtain ⟨k, x, kk, ed, q1, e'⟩ := mergeD_cons e
    subst ed
    obtain ⟨a, ws, e2, e3, w1, wr, e4, g1, w2, wr2, e5, g2, g3⟩ := h1
    have : wr2 = [] := g3
    subst this e5 e4 e2
    have ek := keyOf_v q1 g1
    subst ek
    have key : ∃ us1, (putM p kk x).1.length = us1.length ∧ RepFs cl F (putM p kk x).2 us1 ∧ putK (p.1.zip us) kk w2 = (putM p kk x).1.zip us1 := by
      unfold putM putK
      rw [any_zip hl]
      by_cases hm : hasK p.1 kk = true
      · rw [if_pos hm, if_pos hm]
        obtain ⟨us1, p1, p2, p3⟩ := zip_put g2 kk hl hu
        exact ⟨us1, by rw [p2]; exact hl, p1, p3⟩
      · rw [if_neg hm, if_neg hm]
        exact ⟨us ++ [w2], by simp [hl], repFs_app hu ⟨w2, [], rfl, g2, rfl⟩, (zip_app hl).symm⟩
    obtain ⟨us1, l1, r1, z1⟩ := key
    obtain ⟨ps, kvs, us', i1, i2, i3, i4, i5⟩ := mergeD_v (K := K) le h2 e' l1 r1
    refine ⟨a :: ps, (kk, w2) :: kvs, us', by rw [i1]; rfl, .cons (.inl (.inl (le _ _ e3))) i2, ?_, i4, i5⟩
    show mergeK (putK (p.1.zip us) kk w2) kvs = _
    rw [z1]; exact i3
def gDictP : List Val → Option Val
  | [(n, .lst ds)] => if n ≤ 1 then (match mergeD ([], []) ds with | some q => some (1, .dk q.1 q.2) | none => none) else none
  | _ => none
def rDictP (K : PySem.W.Frag) : List V → Hp → VK → Prop := fun xs H Q => ∃ (a : Addr) (ps : List Addr) (kvs : List (Key × V)), xs = [.ref a] ∧ SqL K H a (ps.map V.ref) ∧ Paired (fun p kv => SqT K H p [kV kv.1, kv.2]) ps kvs ∧
    ∀ p, H p = none → Q (.ref p) (upd H p (.dK (mergeK [] kvs)))
theorem os_dictP {cl : Nat → Addr} {K : PySem.W.Frag} : OpSem cl (rDictP K) gDictP := by
  intro F H xs vs le hv res e R kk
  unfold gDictP at e
  split at e
  · rename_i n ds
    split at e
    case isFalse => cases e
    rename_i hn
    obtain ⟨v, e1, h1⟩ := vs1 hv
    obtain ⟨a, us, p1, p2, p3⟩ := va_lst le h1 hn
    cases q : mergeD ([], []) ds with
    | none => rw [q] at e; cases e
    | some qq =>
      rw [q] at e
      have e' : (1, D.dk qq.1 qq.2) = res := Option.some.inj e
      subst e'
      obtain ⟨ps, kvs, us', i1, i2, i3, i4, i5⟩ := mergeD_v (K := K) (us := []) le p3 q rfl rfl
      refine ⟨a, ps, kvs, by rw [e1, p1], .inl (.inl (by rw [p2, i1])), i2, fun p np => ?_⟩
      obtain ⟨h1, h2, h3⟩ := upd_new (o := .dK (mergeK [] kvs)) le np
      refine kk (.ref p) F _ [p] (Same.refl F) h1 h2 (fun a h => .inl h) (fun a ha => by simp at ha; rw [ha]; exact np) (by simp) ?_
      simp only [RepO]
      refine ⟨p, us', rfl, ?_, h3, rfl, i4, i5⟩
      rw [upd_same]
      have : mergeK [] kvs = qq.1.zip us' := i3
      rw [this]
  · cases e

def tyN : D → Option String
  | .non => some "NoneType"
  | .bl _ => some "bool"
  | .int _ => some "int"
  | .str _ => some "str"
  | .lst _ => some "list"
  | .tup _ => some "tuple"
  | .dk _ _ => some "dict"
  | .dt _ _ => some "dict"
  | .scr _ => some "list"
  | _ => none
theorem va_tyx {cl : Nat → Addr} {K : PySem.W.Frag} {F H : Hp} {n : Nat} {d : D} {v : V} {s : String} (le : Same F H) (h : ValAt cl F H (n, d) v) (e : tyN d = some s) : TyX K H v (.type s) := by
  cases d with
  | non => cases e; rw [va_non h]; exact .base .non
  | bl b => cases e; rw [va_bl h]; exact .base (.bl b)
  | int b => cases e; rw [va_int h]; exact .base (.int b)
  | str b => cases e; rw [va_str h]; exact .base (.str b)
  | lst ds => cases e; obtain ⟨a, vs, e1, e2, _⟩ := va_lstN le h; rw [e1]; exact .base (.lst e2)
  | tup ds => cases e; obtain ⟨a, vs, e1, e2, _⟩ := va_tupN le h; rw [e1]; exact .base (.tup e2)
  | dk ks ds => cases e; obtain ⟨a, vs, e1, e2, _⟩ := va_dk le h; rw [e1]; exact .base (.dK e2)
  | dt ks ds => cases e; obtain ⟨a, vs, e1, e2, _⟩ := va_dt le h; rw [e1]; exact .base (.dT e2)
  | scr ns => cases e; obtain ⟨a, o, e1, e2⟩ := va_scr h; rw [e1]; exact .base (.frz (le _ _ e2))
  | _ => cases e
def isaB : String → String → Option Bool
  | "NoneType", t => if t ∈ ["int", "bool", "str", "list", "tuple", "dict"] then some false else none
  | "bool", t => if t ∈ ["int", "bool"] then some true else if t ∈ ["str", "list", "tuple", "dict"] then some false else none
  | "int", t => if t ∈ ["int"] then some true else if t ∈ ["bool", "str", "list", "tuple", "dict"] then some false else none
  | "str", t => if t ∈ ["str"] then some true else if t ∈ ["int", "bool", "list", "tuple", "dict"] then some false else none
  | "list", t => if t ∈ ["list"] then some true else if t ∈ ["int", "bool", "str", "tuple", "dict"] then some false else none
  | "tuple", t => if t ∈ ["tuple"] then some true else if t ∈ ["int", "bool", "str", "list", "dict"] then some false else none
  | "dict", t => if t ∈ ["dict"] then some true else if t ∈ ["int", "bool", "str", "list", "tuple"] then some false else none
  | _, _ => none
theorem isaB_kit {a t : String} {b : Bool} (e : isaB a t = some b) : kitB a t = some b := by
  unfold isaB at e
  split at e
  all_goals
    repeat' split at e
    all_goals first
      | cases e
      | skip
    all_goals
      rename_i h
      simp only [List.mem_cons, List.not_mem_nil, or_false] at h
      first
        | (rcases h with h | h | h | h | h | h <;> (subst h; decide +kernel))
        | (rcases h with h | h | h | h | h <;> (subst h; decide +kernel))
        | (rcases h with h | h | h | h <;> (subst h; decide +kernel))
        | (rcases h with h | h <;> (subst h; decide +kernel))
        | (subst h; decide +kernel)
def gIsi : List Val → Option Val
  | [(_, d), (_, .ty (.ty t))] => match tyN d with
    | some a => match isaB a t with
      | some b => some (0, .bl b)
      | none => none
    | none => none
  | _ => none
theorem os_isi {cl : Nat → Addr} {K : PySem.W.Frag} : OpSem cl (rIsi K) gIsi := by
  refine OpSem.val fun F H xs vs le hv res e => ?_
  unfold gIsi at e
  split at e
  · rename_i n d m t
    obtain ⟨v, u, e1, h1, h2⟩ := vs2 hv
    cases q : tyN d with
    | none => rw [q] at e; cases e
    | some a =>
      rw [q] at e
      simp only at e
      cases q2 : isaB a t with
      | none => rw [q2] at e; cases e
      | some b =>
        rw [q2] at e
        have eu : u = .ty t := by
          obtain ⟨B, h2⟩ := h2
          simp only [RepO, RepF] at h2
          exact h2.1.1
        refine ⟨.bl b, .bl b, (Option.some.inj e).symm, rfl, fun R hR => ⟨v, u, _, _, b, e1, ?_, va_tyx le h1 q, kit_ty (isaB_kit q2), hR⟩⟩
        rw [eu]; exact .ty t
  · cases e
section
variable {T : Tb} {k : Nat} {c : Sc} {pos : Pos}
theorem JE.tyv {x : Str} {n : String} (hm : T.mg x = none) (hv : bootBuiltins x = some (.type n)) (hg : glB c.sc x = true := by rfl) (hn : x ≠ "__name__" := by decide) (hd : (x == ("__debug__" : Str)) = false := by rfl) : JE T k c (.Name x pos) (wC (.ty (.ty n))) := fun W => by
  refine ⟨tC (.ty n), fun X f => pe_bltn (gl_of f hg) (by rw [f.mg]; exact hm) hv rfl hn hd, fun env Q ex h σ F H A le rel nd R k1 _ => ?_⟩
  exact k1 _ env _ F H A [] h (by rw [List.append_nil]; exact Step.refl F H A) le rel (repO0.mpr ⟨⟨rfl, by simp⟩, rfl⟩) (by rw [List.append_nil]; exact nd)

def enumD (ds : List D) : List D := (ds.zipIdx).map fun p => .tup [.int (p.2 : Nat), p.1]
theorem enumD_len {ds : List D} : (enumD ds).length = ds.length := by unfold enumD; rw [List.length_map, List.length_zipIdx]
theorem enumD_get {ds : List D} {i : Nat} : (enumD ds)[i]? = (ds[i]?).map fun d => .tup [.int (i : Nat), d] := by
  unfold enumD
  rw [List.getElem?_map, List.getElem?_zipIdx]
  cases ds[i]? <;> simp
def itE (wa : WA) : WIt := fun env Q ex => wa env (fun os env' => ∃ ds, os = [.v (.lst ds)] ∧ Q (enumD ds) env') ex
theorem JIt.enum {elts : List Expr} {kk : Nat} {tpos p : Pos} {a : Expr} {wa : WA} (hm : T.mg "enumerate" = none) (h : JA T k c [a] wa) (ns : noStar a = true := by rfl) (hg : glB c.sc "enumerate" = true := by rfl) : JIt T k c (.Tuple elts kk tpos) (.Call (.Name "enumerate" p) [a] [] pos) (itE wa) := fun W => by
  obtain ⟨t, pt, s⟩ := h W
  refine ⟨iEnum T.K t, fun X f => by
    have := pi_enum (elts := elts) (kk := kk) (tpos := tpos) (p := p) (pos := pos) (gl_of f hg) (by rw [f.mg]; exact hm) (pt X f) (starEach_ne ns)
    rw [f.K] at this; exact this, fun env Q ex hw σ F H A le rel nd R k1 kx => ?_⟩
  refine s env _ ex hw σ F H A le rel nd _ (fun os env1 vs F1 H1 A1 q st le1 rel1 nd1 ho => ?_) kx
  obtain ⟨ds, e1, q⟩ := q
  subst e1
  obtain ⟨v, vr, e2, ho1, ho2⟩ := ho
  have : vr = [] := ho2
  subst this e2
  obtain ⟨a, us, e2, e3, hr⟩ := (show RepF T.cl F1 (.lst ds) v from ho1)
  subst e2
  refine ⟨a, us, rfl, .inl (.inl (le1 _ _ e3)), k1 (enumD ds) env1 _ F1 H1 A1 q st le1 rel1 nd1 fun F2 H2 m le2 i => ?_⟩
  have hq : SqL T.K H2 a us := .inl (.inl (le2 _ _ (m _ _ e3)))
  refine ⟨fun d ed => ?_, fun hi => ⟨us, hq, by rw [← repFs_len hr, ← enumD_len]; exact hi⟩⟩
  rw [enumD_get] at ed
  cases q1 : ds[i]? with
  | none => rw [q1] at ed; cases ed
  | some d0 =>
    rw [q1] at ed
    have ed' := (Option.some.inj ed).symm
    subst ed'
    obtain ⟨x, ex1, rx⟩ := repFs_get hr q1
    refine ⟨⟨us, x, hq, ex1⟩, fun y H3 hy => ?_⟩
    obtain ⟨p, y1, e4, np, e5, hy⟩ := hy
    have ey : us[i]? = some y1 := hy us hq
    rw [ex1] at ey
    have ey' : x = y1 := Option.some.inj ey
    subst ey' e4 e5
    obtain ⟨h1, h2, h3⟩ := upd_new (o := .tup [.int (i : Nat), x]) le2 np
    have mF : Same F2 (upd F2 p (.tup [.int (i : Nat), x])) := fun b u e => by rw [upd_ne (ne_of_none e h3)]; exact e
    refine ⟨upd F2 p (.tup [.int (i : Nat), x]), mF, h1, fun b u e => ?_, fun b hb => ?_, ⟨p, _, rfl, upd_same, _, _, rfl, rfl, _, _, rfl, repF_mono (m.trans mF) rx, rfl⟩⟩
    · by_cases z : b = p
      · subst z; rw [upd_same] at e ⊢; exact e
      · rw [upd_ne z] at e ⊢; exact le2 _ _ e
    · by_cases z : b = p
      · subst z; exact .inr np
      · rw [upd_ne z] at hb; exact .inl hb
end
end DL

namespace DL
open PySem PySem.Spec PyProof.Rows L2
section
variable {T : Tb} {k : Nat} {c : Sc} {P : Nat → Bool} {pos : Pos} {a b : Expr} {wi wj : WI}
theorem JE.add (ha : JI T k c a wi) (hb : JI T k c b wj) : JE T k c (.BinOp a .Add b pos) (wOp gAdd (a2 wi wj)) := JE.bin (fun _ _ => op_addA) os_add ha hb
theorem JE.sub (ha : JI T k c a wi) (hb : JI T k c b wj) : JE T k c (.BinOp a .Sub b pos) (wOp gSub (a2 wi wj)) := JE.bin (fun _ _ => op_sub) os_sub ha hb
theorem JE.mul (ha : JI T k c a wi) (hb : JI T k c b wj) : JE T k c (.BinOp a .Mult b pos) (wOp gMul (a2 wi wj)) := JE.bin (fun _ _ => op_mulA) os_mul ha hb
theorem JE.fdiv (ha : JI T k c a wi) (hb : JI T k c b wj) : JE T k c (.BinOp a .FloorDiv b pos) (wOp gFdiv (a2 wi wj)) := JE.bin (fun _ _ => op_fdivW) os_fdiv ha hb
theorem JE.mod (ha : JI T k c a wi) (hb : JI T k c b wj) : JE T k c (.BinOp a .Mod b pos) (wOp gMod (a2 wi wj)) := JE.bin (fun _ _ => op_mod) os_mod ha hb
theorem JE.pow (ha : JI T k c a wi) (hb : JI T k c b wj) : JE T k c (.BinOp a .Pow b pos) (wOp gPow (a2 wi wj)) := JE.bin (fun _ _ => op_pow) os_pow ha hb
theorem JE.shl (ha : JI T k c a wi) (hb : JI T k c b wj) : JE T k c (.BinOp a .LShift b pos) (wOp gShl (a2 wi wj)) := JE.bin (fun _ _ => op_shl) os_shl ha hb
theorem JE.shr (ha : JI T k c a wi) (hb : JI T k c b wj) : JE T k c (.BinOp a .RShift b pos) (wOp gShr (a2 wi wj)) := JE.bin (fun _ _ => op_shr) os_shr ha hb
theorem JE.band (ha : JI T k c a wi) (hb : JI T k c b wj) : JE T k c (.BinOp a .BitAnd b pos) (wOp gAnd (a2 wi wj)) := JE.bin (fun _ _ => op_and) os_and ha hb
theorem JE.bor (ha : JI T k c a wi) (hb : JI T k c b wj) : JE T k c (.BinOp a .BitOr b pos) (wOp gOr (a2 wi wj)) := JE.bin (fun _ _ => op_or) os_or ha hb
theorem JE.bxor (ha : JI T k c a wi) (hb : JI T k c b wj) : JE T k c (.BinOp a .BitXor b pos) (wOp gXor (a2 wi wj)) := JE.bin (fun _ _ => op_xor) os_xor ha hb
theorem JE.lt (ha : JI T k c a wi) (hb : JI T k c b wj) (hm : behindInMarks .Lt b = false := by first | exact nomark _ | rfl | with_unfolding_all rfl) : JE T k c (.Compare a [.Lt] [b] pos) (wOp gLt (a2 wi wj)) := JE.cmp (fun _ _ => op_lt) os_lt ha hb hm
theorem JT.lt (ha : JI T k c a wi) (hb : JI T k c b wj) (hm : behindInMarks .Lt b = false := by first | exact nomark _ | rfl | with_unfolding_all rfl) : JT T k c (.Compare a [.Lt] [b] pos) (wTst (wOp gLt (a2 wi wj))) := JT.cmp (fun _ _ => op_lt) os_lt ha hb hm
theorem JE.le (ha : JI T k c a wi) (hb : JI T k c b wj) (hm : behindInMarks .LtE b = false := by first | exact nomark _ | rfl | with_unfolding_all rfl) : JE T k c (.Compare a [.LtE] [b] pos) (wOp gLe (a2 wi wj)) := JE.cmp (fun _ _ => op_le) os_le ha hb hm
theorem JT.le (ha : JI T k c a wi) (hb : JI T k c b wj) (hm : behindInMarks .LtE b = false := by first | exact nomark _ | rfl | with_unfolding_all rfl) : JT T k c (.Compare a [.LtE] [b] pos) (wTst (wOp gLe (a2 wi wj))) := JT.cmp (fun _ _ => op_le) os_le ha hb hm
theorem JE.gt (ha : JI T k c a wi) (hb : JI T k c b wj) (hm : behindInMarks .Gt b = false := by first | exact nomark _ | rfl | with_unfolding_all rfl) : JE T k c (.Compare a [.Gt] [b] pos) (wOp gGt (a2 wi wj)) := JE.cmp (fun _ _ => op_gt) os_gt ha hb hm
theorem JT.gt (ha : JI T k c a wi) (hb : JI T k c b wj) (hm : behindInMarks .Gt b = false := by first | exact nomark _ | rfl | with_unfolding_all rfl) : JT T k c (.Compare a [.Gt] [b] pos) (wTst (wOp gGt (a2 wi wj))) := JT.cmp (fun _ _ => op_gt) os_gt ha hb hm
theorem JE.ge (ha : JI T k c a wi) (hb : JI T k c b wj) (hm : behindInMarks .GtE b = false := by first | exact nomark _ | rfl | with_unfolding_all rfl) : JE T k c (.Compare a [.GtE] [b] pos) (wOp gGe (a2 wi wj)) := JE.cmp (fun _ _ => op_ge) os_ge ha hb hm
theorem JT.ge (ha : JI T k c a wi) (hb : JI T k c b wj) (hm : behindInMarks .GtE b = false := by first | exact nomark _ | rfl | with_unfolding_all rfl) : JT T k c (.Compare a [.GtE] [b] pos) (wTst (wOp gGe (a2 wi wj))) := JT.cmp (fun _ _ => op_ge) os_ge ha hb hm
theorem JE.isn (ha : JI T k c a wi) (hb : JI T k c b wj) (hm : behindInMarks .Is b = false := by first | exact nomark _ | rfl | with_unfolding_all rfl) : JE T k c (.Compare a [.Is] [b] pos) (wOp gIsN (a2 wi wj)) := JE.cmp (fun _ _ => op_isN) os_isN ha hb hm
theorem JT.isn (ha : JI T k c a wi) (hb : JI T k c b wj) (hm : behindInMarks .Is b = false := by first | exact nomark _ | rfl | with_unfolding_all rfl) : JT T k c (.Compare a [.Is] [b] pos) (wTst (wOp gIsN (a2 wi wj))) := JT.cmp (fun _ _ => op_isN) os_isN ha hb hm
theorem JE.notn (ha : JI T k c a wi) (hb : JI T k c b wj) (hm : behindInMarks .IsNot b = false := by first | exact nomark _ | rfl | with_unfolding_all rfl) : JE T k c (.Compare a [.IsNot] [b] pos) (wOp gNotN (a2 wi wj)) := JE.cmp (fun _ _ => op_notN) os_notN ha hb hm
theorem JT.notn (ha : JI T k c a wi) (hb : JI T k c b wj) (hm : behindInMarks .IsNot b = false := by first | exact nomark _ | rfl | with_unfolding_all rfl) : JT T k c (.Compare a [.IsNot] [b] pos) (wTst (wOp gNotN (a2 wi wj))) := JT.cmp (fun _ _ => op_notN) os_notN ha hb hm
theorem JE.eq (ha : JI T k c a wi) (hb : JI T k c b wj) (hm : behindInMarks .Eq b = false := by first | exact nomark _ | rfl | with_unfolding_all rfl) : JE T k c (.Compare a [.Eq] [b] pos) (wOp gEq (a2 wi wj)) := JE.cmp (fun X f => by obtain ⟨W, f⟩ := f; have := op_eqD (X := X) f.units; rw [f.K] at this; exact this) os_eq ha hb hm
theorem JT.eq (ha : JI T k c a wi) (hb : JI T k c b wj) (hm : behindInMarks .Eq b = false := by first | exact nomark _ | rfl | with_unfolding_all rfl) : JT T k c (.Compare a [.Eq] [b] pos) (wTst (wOp gEq (a2 wi wj))) := JT.cmp (fun X f => by obtain ⟨W, f⟩ := f; have := op_eqD (X := X) f.units; rw [f.K] at this; exact this) os_eq ha hb hm
theorem JE.ne (ha : JI T k c a wi) (hb : JI T k c b wj) (hm : behindInMarks .NotEq b = false := by first | exact nomark _ | rfl | with_unfolding_all rfl) : JE T k c (.Compare a [.NotEq] [b] pos) (wOp gNe (a2 wi wj)) := JE.cmp (fun X f => by obtain ⟨W, f⟩ := f; have := op_neD (X := X) f.units; rw [f.K] at this; exact this) os_ne ha hb hm
theorem JT.ne (ha : JI T k c a wi) (hb : JI T k c b wj) (hm : behindInMarks .NotEq b = false := by first | exact nomark _ | rfl | with_unfolding_all rfl) : JT T k c (.Compare a [.NotEq] [b] pos) (wTst (wOp gNe (a2 wi wj))) := JT.cmp (fun X f => by obtain ⟨W, f⟩ := f; have := op_neD (X := X) f.units; rw [f.K] at this; exact this) os_ne ha hb hm
theorem JE.inn (ha : JI T k c a wi) (hb : JI T k c b wj) (hm : behindInMarks .In b = false := by first | exact nomark _ | rfl | with_unfolding_all rfl) : JE T k c (.Compare a [.In] [b] pos) (wOp gIn (a2 wi wj)) := JE.cmp (fun X f => by obtain ⟨W, f⟩ := f; have := op_inA (X := X) (by have := f.room.un; omega); rw [f.K] at this; exact this) os_in ha hb hm
theorem JT.inn (ha : JI T k c a wi) (hb : JI T k c b wj) (hm : behindInMarks .In b = false := by first | exact nomark _ | rfl | with_unfolding_all rfl) : JT T k c (.Compare a [.In] [b] pos) (wTst (wOp gIn (a2 wi wj))) := JT.cmp (fun X f => by obtain ⟨W, f⟩ := f; have := op_inA (X := X) (by have := f.room.un; omega); rw [f.K] at this; exact this) os_in ha hb hm
theorem JE.nin (ha : JI T k c a wi) (hb : JI T k c b wj) (hm : behindInMarks .NotIn b = false := by first | exact nomark _ | rfl | with_unfolding_all rfl) : JE T k c (.Compare a [.NotIn] [b] pos) (wOp gNotIn (a2 wi wj)) := JE.cmp (fun X f => by obtain ⟨W, f⟩ := f; have := op_notInA (X := X) (by have := f.room.un; omega); rw [f.K] at this; exact this) os_notIn ha hb hm
theorem JT.nin (ha : JI T k c a wi) (hb : JI T k c b wj) (hm : behindInMarks .NotIn b = false := by first | exact nomark _ | rfl | with_unfolding_all rfl) : JT T k c (.Compare a [.NotIn] [b] pos) (wTst (wOp gNotIn (a2 wi wj))) := JT.cmp (fun X f => by obtain ⟨W, f⟩ := f; have := op_notInA (X := X) (by have := f.room.un; omega); rw [f.K] at this; exact this) os_notIn ha hb hm
theorem JE.neg (ha : JI T k c a wi) : JE T k c (.UnaryOp .USub a pos) (wOp gNeg (a1 wi)) := JE.un (fun _ => un_neg) os_neg ha
theorem JE.inv (ha : JI T k c a wi) : JE T k c (.UnaryOp .Invert a pos) (wOp gInv (a1 wi)) := JE.un (fun _ => un_inv) os_inv ha
theorem JE.get (ha : JI T k c a wi) (hb : JI T k c b wj) (hs : PlainIx b := by exact fun _ _ => rfl) : JE T k c (.Subscript a b pos) (wOp gIx (a2 wi wj)) := JE.ix (fun X f => by
  obtain ⟨W, f⟩ := f
  have := R2o.ix (ix_seq (X := X)) (ix_dict (X := X) (by have := f.room.un; omega))
  rw [f.K] at this
  exact this) os_ix ha hb hs
theorem JE.c_len {es : List Expr} {e : Expr} {wa : WA} {p : Pos} (hm : T.mg "len" = none) (ha : JA T k c (e :: es) wa) (hg : glB c.sc "len" = true := by rfl) (ns : noStar e = true := by rfl) (nss : es.all noStar = true := by rfl) : JE T k c (.Call (.Name "len" p) (e :: es) [] pos) (wOp gLen wa) := JE.callB (fun X f => by obtain ⟨W, f⟩ := f; have := call_len (X := X); rw [f.K] at this; exact this) os_len hm rfl ha hg ns nss
theorem JE.c_abs {es : List Expr} {e : Expr} {wa : WA} {p : Pos} (hm : T.mg "abs" = none) (ha : JA T k c (e :: es) wa) (hg : glB c.sc "abs" = true := by rfl) (ns : noStar e = true := by rfl) (nss : es.all noStar = true := by rfl) : JE T k c (.Call (.Name "abs" p) (e :: es) [] pos) (wOp gAbs wa) := JE.callB (fun X f => call_abs) os_abs hm rfl ha hg ns nss
theorem JE.c_max2 {es : List Expr} {e : Expr} {wa : WA} {p : Pos} (hm : T.mg "max" = none) (ha : JA T k c (e :: es) wa) (hg : glB c.sc "max" = true := by rfl) (ns : noStar e = true := by rfl) (nss : es.all noStar = true := by rfl) (hh : c.hot = false := by rfl) : JE T k c (.Call (.Name "max" p) (e :: es) [] pos) (wOp gMax2 wa) := JE.callB (fun X f => by obtain ⟨W, f⟩ := f; exact call_max2 (f.calm hh)) os_max2 hm rfl ha hg ns nss
theorem JE.c_min2 {es : List Expr} {e : Expr} {wa : WA} {p : Pos} (hm : T.mg "min" = none) (ha : JA T k c (e :: es) wa) (hg : glB c.sc "min" = true := by rfl) (ns : noStar e = true := by rfl) (nss : es.all noStar = true := by rfl) (hh : c.hot = false := by rfl) : JE T k c (.Call (.Name "min" p) (e :: es) [] pos) (wOp gMin2 wa) := JE.callB (fun X f => by obtain ⟨W, f⟩ := f; exact call_min2 (f.calm hh)) os_min2 hm rfl ha hg ns nss
theorem JE.c_int {es : List Expr} {e : Expr} {wa : WA} {p : Pos} (hm : T.mg "int" = none) (ha : JA T k c (e :: es) wa) (hg : glB c.sc "int" = true := by rfl) (ns : noStar e = true := by rfl) (nss : es.all noStar = true := by rfl) : JE T k c (.Call (.Name "int" p) (e :: es) [] pos) (wOp gInt wa) := JE.callTy (fun X f => call_int1) os_int hm rfl ha hg ns nss
theorem JE.c_list {es : List Expr} {e : Expr} {wa : WA} {p : Pos} (hm : T.mg "list" = none) (ha : JA T k c (e :: es) wa) (hg : glB c.sc "list" = true := by rfl) (ns : noStar e = true := by rfl) (nss : es.all noStar = true := by rfl) : JE T k c (.Call (.Name "list" p) (e :: es) [] pos) (wOp gList wa) := JE.callTy (fun X f => by obtain ⟨W, f⟩ := f; have := call_list_of (X := X); rw [f.K] at this; exact this) os_list hm rfl ha hg ns nss
theorem JE.c_tuple {es : List Expr} {e : Expr} {wa : WA} {p : Pos} (hm : T.mg "tuple" = none) (ha : JA T k c (e :: es) wa) (hg : glB c.sc "tuple" = true := by rfl) (ns : noStar e = true := by rfl) (nss : es.all noStar = true := by rfl) : JE T k c (.Call (.Name "tuple" p) (e :: es) [] pos) (wOp gTuple wa) := JE.callTy (fun X f => by obtain ⟨W, f⟩ := f; have := call_tuple_of (X := X); rw [f.K] at this; exact this) os_tuple hm rfl ha hg ns nss
theorem JE.c_sortI {es : List Expr} {e : Expr} {wa : WA} {p : Pos} (hm : T.mg "sorted" = none) (ha : JA T k c (e :: es) wa) (hg : glB c.sc "sorted" = true := by rfl) (ns : noStar e = true := by rfl) (nss : es.all noStar = true := by rfl) : JE T k c (.Call (.Name "sorted" p) (e :: es) [] pos) (wOp gSortI wa) := JE.callB (fun X f => by obtain ⟨W, f⟩ := f; have := cr_sortedI (X := X); rw [f.K] at this; exact this) os_sortI hm rfl ha hg ns nss
theorem JE.c_dictP {es : List Expr} {e : Expr} {wa : WA} {p : Pos} (hm : T.mg "dict" = none) (ha : JA T k c (e :: es) wa) (hg : glB c.sc "dict" = true := by rfl) (ns : noStar e = true := by rfl) (nss : es.all noStar = true := by rfl) (hh : c.hot = false := by rfl) : JE T k c (.Call (.Name "dict" p) (e :: es) [] pos) (wOp gDictP wa) := JE.callTy (fun X f => by obtain ⟨W, f⟩ := f; have := call_dictP (X := X) (f.calm hh); rw [f.K] at this; exact this) os_dictP hm rfl ha hg ns nss
theorem JE.c_isi {es : List Expr} {e : Expr} {wa : WA} {p : Pos} (hm : T.mg "isinstance" = none) (ha : JA T k c (e :: es) wa) (hg : glB c.sc "isinstance" = true := by rfl) (ns : noStar e = true := by rfl) (nss : es.all noStar = true := by rfl) : JE T k c (.Call (.Name "isinstance" p) (e :: es) [] pos) (wOp gIsi wa) := JE.callB (fun X f => by obtain ⟨W, f⟩ := f; have := call_isi (X := X); rw [f.K] at this; exact this) os_isi hm rfl ha hg ns nss
end
section
variable {T : Tb} {k : Nat} {c : Sc} {x : Str} {p apos pos : Pos} {e : Expr} {es : List Expr} {wa : WA}
theorem JE.m_append (i : Nat) (ha : JA T k c (e :: es) wa) (hN : c.N[i]? = some x := by rfl) (hv : visB c.sc x = true := by rfl) (hd : (x == ("__debug__" : Str)) = false := by rfl) (hcd : (x == ("__classdict__" : Str)) = false := by rfl)
    (hbase : ∀ env : PySem.Env, attributeBase (.Name x p) "append" env (eval (.Name x p) env) = eval (.Name x p) env := by intro _; rfl)
    (hfew : ∀ env : PySem.Env, ((backTo pos (starEach (e :: es) env)).all (fun x => !x.1) && (backToKw pos (keywordEach [] env)).all (fun x => x.1.isSome)
      && decide ((e :: es).length + ([] : List Keyword).length + (if ([] : List Keyword).isEmpty then 0 else 1) < 30)) = true := by intro _; rfl)
    (hline : (apos.endLine == pos.line) = true := by rfl) (ns : noStar e = true := by rfl) (nss : es.all noStar = true := by rfl) :
    JE T k c (.Call (.Attribute (.Name x p) "append" apos) (e :: es) [] pos) (wMet "list" i (onL lApp) wa) := JE.met i PySem.F.plainAttrs_list PySem.F.slot_list_append PySem.F.type_list_append (fun X f => mt_append) fm_app ha hN hv hd hcd hbase hfew hline ns nss
theorem JE.m_popAt (i : Nat) (ha : JA T k c (e :: es) wa) (hN : c.N[i]? = some x := by rfl) (hv : visB c.sc x = true := by rfl) (hd : (x == ("__debug__" : Str)) = false := by rfl) (hcd : (x == ("__classdict__" : Str)) = false := by rfl)
    (hbase : ∀ env : PySem.Env, attributeBase (.Name x p) "pop" env (eval (.Name x p) env) = eval (.Name x p) env := by intro _; rfl)
    (hfew : ∀ env : PySem.Env, ((backTo pos (starEach (e :: es) env)).all (fun x => !x.1) && (backToKw pos (keywordEach [] env)).all (fun x => x.1.isSome)
      && decide ((e :: es).length + ([] : List Keyword).length + (if ([] : List Keyword).isEmpty then 0 else 1) < 30)) = true := by intro _; rfl)
    (hline : (apos.endLine == pos.line) = true := by rfl) (ns : noStar e = true := by rfl) (nss : es.all noStar = true := by rfl) :
    JE T k c (.Call (.Attribute (.Name x p) "pop" apos) (e :: es) [] pos) (wMet "list" i (onL lPopAt) wa) := JE.met i PySem.F.plainAttrs_list PySem.F.slot_list_pop PySem.F.type_list_pop (fun X f => mt_popAt) fm_popAt ha hN hv hd hcd hbase hfew hline ns nss
theorem JE.m_insert (i : Nat) (ha : JA T k c (e :: es) wa) (hN : c.N[i]? = some x := by rfl) (hv : visB c.sc x = true := by rfl) (hd : (x == ("__debug__" : Str)) = false := by rfl) (hcd : (x == ("__classdict__" : Str)) = false := by rfl)
    (hbase : ∀ env : PySem.Env, attributeBase (.Name x p) "insert" env (eval (.Name x p) env) = eval (.Name x p) env := by intro _; rfl)
    (hfew : ∀ env : PySem.Env, ((backTo pos (starEach (e :: es) env)).all (fun x => !x.1) && (backToKw pos (keywordEach [] env)).all (fun x => x.1.isSome)
      && decide ((e :: es).length + ([] : List Keyword).length + (if ([] : List Keyword).isEmpty then 0 else 1) < 30)) = true := by intro _; rfl)
    (hline : (apos.endLine == pos.line) = true := by rfl) (ns : noStar e = true := by rfl) (nss : es.all noStar = true := by rfl) :
    JE T k c (.Call (.Attribute (.Name x p) "insert" apos) (e :: es) [] pos) (wMet "list" i (onL lIns) wa) := JE.met i PySem.F.plainAttrs_list PySem.F.slot_list_insert PySem.F.type_list_insert (fun X f => mt_insert) fm_ins ha hN hv hd hcd hbase hfew hline ns nss
theorem JE.m_extend (i : Nat) (ha : JA T k c (e :: es) wa) (hN : c.N[i]? = some x := by rfl) (hv : visB c.sc x = true := by rfl) (hd : (x == ("__debug__" : Str)) = false := by rfl) (hcd : (x == ("__classdict__" : Str)) = false := by rfl)
    (hbase : ∀ env : PySem.Env, attributeBase (.Name x p) "extend" env (eval (.Name x p) env) = eval (.Name x p) env := by intro _; rfl)
    (hfew : ∀ env : PySem.Env, ((backTo pos (starEach (e :: es) env)).all (fun x => !x.1) && (backToKw pos (keywordEach [] env)).all (fun x => x.1.isSome)
      && decide ((e :: es).length + ([] : List Keyword).length + (if ([] : List Keyword).isEmpty then 0 else 1) < 30)) = true := by intro _; rfl)
    (hline : (apos.endLine == pos.line) = true := by rfl) (ns : noStar e = true := by rfl) (nss : es.all noStar = true := by rfl) :
    JE T k c (.Call (.Attribute (.Name x p) "extend" apos) (e :: es) [] pos) (wMet "list" i (onL lExt) wa) := JE.met i PySem.F.plainAttrs_list PySem.F.slot_list_extend PySem.F.type_list_extend (fun X f => mt_extend) fm_ext ha hN hv hd hcd hbase hfew hline ns nss
theorem JE.m_pop (i : Nat) (hN : c.N[i]? = some x := by rfl) (hv : visB c.sc x = true := by rfl) (hd : (x == ("__debug__" : Str)) = false := by rfl) (hcd : (x == ("__classdict__" : Str)) = false := by rfl)
    (hbase : ∀ env : PySem.Env, attributeBase (.Name x p) "pop" env (eval (.Name x p) env) = eval (.Name x p) env := by intro _; rfl)
    (hline : (apos.endLine == pos.line) = true := by rfl) :
    JE T k c (.Call (.Attribute (.Name x p) "pop" apos) [] [] pos) (wMet "list" i (onL lPop) aNil) := JE.met0 i PySem.F.plainAttrs_list PySem.F.slot_list_pop PySem.F.type_list_pop (fun X f => mt_pop) fm_pop hN hv hd hcd hbase hline
end
end DL

namespace DL
open PySem PySem.Spec PyProof.Rows L2
def rg3 (lo hi c : Int) : List D := (List.range (Builtin.Range.rangeSize lo hi c).toNat).map fun i => .int (lo + (i : Nat) * c)
def sml (i : Int) : Prop := -1099511627776 ≤ i ∧ i ≤ 1099511627776
theorem rangeSize_nn (lo hi c : Int) (hc : c ≠ 0) : 0 ≤ Builtin.Range.rangeSize lo hi c := by
  unfold Builtin.Range.rangeSize
  split
  · split
    · have : 0 ≤ (hi - lo - 1) / c := Int.ediv_nonneg (by omega) (by omega)
      omega
    · omega
  · split
    · have : 0 ≤ (lo - hi - 1) / (-c) := Int.ediv_nonneg (by omega) (by omega)
      omega
    · omega
theorem rangeSize_le {lo hi c : Int} (hl : sml lo) (hh : sml hi) (hc : c ≠ 0) : Builtin.Range.rangeSize lo hi c ≤ 4398046511104 := by
  obtain ⟨l1, l2⟩ := hl
  obtain ⟨h1, h2⟩ := hh
  unfold Builtin.Range.rangeSize
  split
  · split
    · have : (hi - lo - 1) / c ≤ hi - lo - 1 := Int.ediv_le_self _ (by omega)
      omega
    · omega
  · split
    · have : (lo - hi - 1) / (-c) ≤ lo - hi - 1 := Int.ediv_le_self _ (by omega)
      omega
    · omega
theorem small3 {lo hi c : Int} (hl : sml lo) (hh : sml hi) (hc : c ≠ 0) (hc2 : -1073741823 ≤ c ∧ c ≤ 1073741823) : Builtin.Range.small lo hi c = true := by
  have s1 := rangeSize_nn lo hi c hc
  have s2 := rangeSize_le hl hh hc
  obtain ⟨l1, l2⟩ := hl
  obtain ⟨h1, h2⟩ := hh
  unfold Builtin.Range.small
  simp only [Builtin.Range.rangeFitsLong, Bool.and_eq_true, Bool.or_eq_true, decide_eq_true_eq, beq_iff_eq]
  refine ⟨⟨⟨⟨⟨?_, ?_⟩, ⟨?_, ?_⟩⟩, ⟨?_, ?_⟩⟩, ⟨?_, ?_⟩⟩, .inr ?_⟩
  all_goals first | omega | skip
  split <;> simp only [Bool.and_eq_true, decide_eq_true_eq] <;> omega
theorem rg3_get {lo hi c : Int} {i : Nat} {d : D} (h : (rg3 lo hi c)[i]? = some d) : i < (Builtin.Range.rangeSize lo hi c).toNat ∧ d = .int (lo + i * c) := by
  unfold rg3 at h
  rw [List.getElem?_map] at h
  by_cases q : i < (Builtin.Range.rangeSize lo hi c).toNat
  · rw [List.getElem?_range q] at h
    exact ⟨q, (Option.some.inj h).symm⟩
  · rw [List.getElem?_eq_none (by simpa using q)] at h
    cases h
theorem rg3_len {lo hi c : Int} : (rg3 lo hi c).length = (Builtin.Range.rangeSize lo hi c).toNat := by unfold rg3; rw [List.length_map, List.length_range]
theorem itc_ok {cl : Nat → Addr} {F : Hp} {lo hi c : Int} : ItOk cl F (Itc lo c (Builtin.Range.rangeSize lo hi c).toNat) (rg3 lo hi c) := fun F2 H2 m le2 i => by
  refine ⟨fun d ed => ?_, fun h => by rw [rg3_len] at h; exact h⟩
  obtain ⟨h1, h2⟩ := rg3_get ed
  subst h2
  refine ⟨h1, fun x H3 hy => ?_⟩
  obtain ⟨e1, e2⟩ := hy
  subst e1 e2
  exact ⟨F2, Same.refl _, Same.refl _, le2, fun a h => .inl h, rfl⟩
def itR3 (wa : WA) : WIt := fun env Q ex => wa env (fun os env' => ∃ i j s n m l, resolve env' os = some [(n, .int i), (m, .int j), (l, .int s)] ∧ sml i ∧ sml j ∧ s ≠ 0 ∧ -1073741823 ≤ s ∧ s ≤ 1073741823 ∧ Q (rg3 i j s) env') ex
theorem vs3 {cl : Nat → Addr} {F H : Hp} {x y z : Val} {vs : List V} (h : ValsAt cl F H [x, y, z] vs) : ∃ v u w, vs = [v, u, w] ∧ ValAt cl F H x v ∧ ValAt cl F H y u ∧ ValAt cl F H z w := by
  obtain ⟨v, r, e1, h1, u, r2, e2, h2, w, r3, e3, h3, h4⟩ := h
  have : r3 = [] := h4
  subst this e3 e2 e1
  exact ⟨v, u, w, rfl, h1, h2, h3⟩
section
variable {T : Tb} {k : Nat} {c : Sc} {P : Nat → Bool} {pos : Pos}
theorem JIt.range3 {tg a b s : Expr} {wa : WA} {p : Pos} (hm : T.mg "range" = none) (h : JA T k c [a, b, s] wa) (ns : noStar a = true := by rfl) (ns2 : [b, s].all noStar = true := by rfl) (hg : glB c.sc "range" = true := by rfl) : JIt T k c tg (.Call (.Name "range" p) [a, b, s] [] pos) (itR3 wa) := fun W => by
  obtain ⟨t, pt, sm⟩ := h W
  refine ⟨iRng3 t, fun X f => pi_range3 (gl_of f hg) (by rw [f.mg]; exact hm) (pt X f) (starEach_ne ns) (starNone ns2), fun env Q ex hw σ F H A le rel nd R k1 kx => ?_⟩
  refine sm env _ ex hw σ F H A le rel nd _ (fun os env1 vs F1 H1 A1 q st le1 rel1 nd1 ho => ?_) kx
  obtain ⟨i, j, s, n, m, l, e1, si, sj, s0, s1, s2, q⟩ := q
  obtain ⟨v, u, w, e2, h2, h3, h4⟩ := vs3 (resolve_at rel1 ho e1)
  have e3 := va_int h2
  have e4 := va_int h3
  have e5 := va_int h4
  subst e3 e4 e5
  refine ⟨i, j, s, (Builtin.Range.rangeSize i j s).toNat, e2, ⟨s0, by omega, small3 si sj s0 ⟨s1, s2⟩, ?_⟩, k1 (rg3 i j s) env1 _ F1 H1 A1 q st le1 rel1 nd1 itc_ok⟩
  have := rangeSize_nn i j s s0
  omega
theorem JS.augAdd {e : Expr} {x : Str} {w : WI} {p : Pos} (i : Nat) (h : JI T k c e w) (hP : P i = false := by rfl) (hN : c.N[i]? = some x := by rfl) (hx : locB c.sc x = true := by rfl) (hst : c.st x = true := by rfl) : JS T k c P (.AugAssign (.Name x p) .Add e pos) (wAug i gAddI w) := JS.aug i (r := rI0 fun i j => .int (i + j)) (fun X f => by
  intro pins s σ H x y v u Q I rx ry h
  obtain ⟨a, b, e1, e2, q⟩ := h
  exact ip_add pins s σ H x y v u Q I rx ry ⟨a, b, e1, e2, q⟩) os_addI h hP hN hx hst
end
end DL

namespace DL
open PySem PySem.Spec PyProof.Rows L2
section
variable {w u : WS} {env e' : DL.Env} {K : KS} {i : Nat} {wt vt : WT} {we ue : WE} {wi : WI} {wa ua : WA} {g : WG} {G : List Val → Option Val} {Q : Val → DL.Env → Prop} {QA : List Opd → DL.Env → Prop} {QI : Opd → DL.Env → Prop} {QT : Bool → DL.Env → Prop} {ex : XPo} {n : Nat} {d : D} {js : List Nat}
theorem i_seq {nx : DL.Env → Prop} {rt : Val → DL.Env → Prop} (h : w env ⟨fun e => u e ⟨nx, rt, ex⟩, rt, ex⟩) : wSeq w u env ⟨nx, rt, ex⟩ := h
theorem i_seqM {nx : DL.Env → Prop} {rt : Val → DL.Env → Prop} (M : DL.Env → Prop) (h1 : ∀ N : DL.Env → Prop, (∀ e, M e → N e) → w env ⟨N, rt, ex⟩) (h2 : ∀ e, M e → u e ⟨nx, rt, ex⟩) : wSeq w u env ⟨nx, rt, ex⟩ := h1 _ h2
theorem i_next {nx : DL.Env → Prop} {rt : Val → DL.Env → Prop} (h : nx env) : wNext env ⟨nx, rt, ex⟩ := h
theorem i_drop {nx : DL.Env → Prop} {rt : Val → DL.Env → Prop} (h : we env (fun _ e => nx e) ex) : wDrop we env ⟨nx, rt, ex⟩ := h
theorem i_ret {nx : DL.Env → Prop} {rt : Val → DL.Env → Prop} (h : we env rt ex) : wRet we env ⟨nx, rt, ex⟩ := h
theorem i_if {nx : DL.Env → Prop} {rt : Val → DL.Env → Prop} (h : wt env (fun b e => if b = true then w e ⟨nx, rt, ex⟩ else u e ⟨nx, rt, ex⟩) ex) : wIfS wt w u env ⟨nx, rt, ex⟩ := h
def AsgE (i : Nat) (r : Val) (e : DL.Env) (nx : DL.Env → Prop) : Prop := i < e.length ∧ nx (e.set i (some r))
theorem i_asg {nx : DL.Env → Prop} {rt : Val → DL.Env → Prop} (h : we env (fun r e => AsgE i r e nx) ex) : wAsg i true we env ⟨nx, rt, ex⟩ := h
theorem i_asgF {nx : DL.Env → Prop} {rt : Val → DL.Env → Prop} (h : we env (fun r e => AsgE i (0, r.2) e nx) ex) : wAsg i false we env ⟨nx, rt, ex⟩ := h
theorem i_set {r : Val} {nx : DL.Env → Prop} (he : env.set i (some r) = e') (hl : Nat.ble (i + 1) env.length = true) (h : nx e') : AsgE i r env nx := ⟨Nat.le_of_ble_eq_true hl, he ▸ h⟩
theorem i_asgG {nx : DL.Env → Prop} {rt : Val → DL.Env → Prop} (h : we env (fun r e => g r.2 e nx ex) ex) : wAsgG we g env ⟨nx, rt, ex⟩ := h
theorem i_ro {nx : DL.Env → Prop} {rt : Val → DL.Env → Prop} (he : frz env = e') (h : w e' ⟨fun _ => nx (fgt js env), fun r _ => cov r.2 r.1 = true ∧ rt r (fgt js env), fun n _ => ex n (fgt js env)⟩) : wRoS js w env ⟨nx, rt, ex⟩ := by subst he; exact h
theorem i_var (e : env[i]? = some (some (n, d))) (he : env.set i (some (0, d)) = e') (h : Q (0, d) e') : wVar i env Q ex := ⟨n, d, e, he ▸ h⟩
theorem i_mov (e : env[i]? = some (some (n, d))) (he : env.set i none = e') (h : Q (n, d) e') : wMov i env Q ex := ⟨n, d, e, he ▸ h⟩
theorem i_c (h : Q (0, d) env) : wC d env Q ex := h
def OpG (G : List Val → Option Val) (Q : Val → DL.Env → Prop) (os : List Opd) (env : DL.Env) : Prop := ∃ xs res, resolve env os = some xs ∧ G xs = some res ∧ Q res env
theorem i_op (h : wa env (fun os e => OpG G Q os e) ex) : wOp G wa env Q ex := h
theorem i_g {os : List Opd} {xs : List Val} {res : Val} (hr : resolve env os = some xs) (hg : G xs = some res) (h : Q res env) : OpG G Q os env := ⟨xs, res, hr, hg, h⟩
theorem i_nil (h : QA [] env) : aNil env QA ex := h
theorem i_cons (h : wi env (fun o e1 => ua e1 (fun os e2 => QA (o :: os) e2) ex) ex) : aCons wi ua env QA ex := h
theorem i_slot (e : env[i]? = some (some (n, d))) (h : QI (.s i) env) : iSlot i env QI ex := ⟨⟨n, d, e⟩, h⟩
theorem i_val (h : we env (fun r e => QI (.v r.2) e) ex) : iVal we env QI ex := h
def TstG (Q : Bool → DL.Env → Prop) (d : D) (env : DL.Env) : Prop := ∃ b, d = .bl b ∧ Q b env
theorem i_tst (h : we env (fun r e => TstG QT r.2 e) ex) : wTst we env QT ex := h
theorem i_b {b : Bool} (h : QT b env) : TstG QT (.bl b) env := ⟨b, rfl, h⟩
theorem i_not (h : wt env (fun b e => QT (!b) e) ex) : wNot wt env QT ex := h
theorem i_and (h : wt env (fun b e => if b = true then vt e QT ex else QT false e) ex) : wAnd wt vt env QT ex := h
theorem i_or (h : wt env (fun b e => if b = true then QT true e else vt e QT ex) ex) : wOr wt vt env QT ex := h
theorem i_roT (he : frz env = e') (h : wt e' (fun b _ => QT b env) (fun n _ => ex n env)) : wRoT wt env QT ex := by subst he; exact h
theorem i_true (h : QT true env) : wTrue env QT ex := h
theorem i_notV (h : we env (fun r e => TstG (fun b e => Q (0, .bl (!b)) e) r.2 e) ex) : wNotV we env Q ex := h
theorem i_andV (h : we env (fun r e => TstG (fun b e => if b = true then ue e Q ex else Q (0, .bl false) e) r.2 e) ex) : wAndV we ue env Q ex := h
theorem i_orV (h : we env (fun r e => TstG (fun b e => if b = true then Q (0, .bl true) e else ue e Q ex) r.2 e) ex) : wOrV we ue env Q ex := h
theorem i_ifx (h : wt env (fun b e => if b = true then we e Q ex else ue e Q ex) ex) : wIf wt we ue env Q ex := h
def AugG (i : Nat) (G : List Val → Option Val) (nx : DL.Env → Prop) (o : Opd) (e1 : DL.Env) : Prop := ∃ x y res, opVal e1 (.s i) = some x ∧ opVal e1 o = some y ∧ G [x, y] = some res ∧ res.1 = 0 ∧ AsgE i res e1 nx
theorem i_aug {nx : DL.Env → Prop} {rt : Val → DL.Env → Prop} {G : List Val → Option Val} {n : Nat} {d : D} (e : env[i]? = some (some (n, d))) (h : wi env (fun o e1 => AugG i G nx o e1) ex) : wAug i G wi env ⟨nx, rt, ex⟩ := ⟨⟨n, d, e⟩, h⟩
theorem i_ag {nx : DL.Env → Prop} {G : List Val → Option Val} {x y : Val} {d : D} {o : Opd} (h1 : opVal env (.s i) = some x) (h2 : opVal env o = some y) (h3 : G [x, y] = some (0, d)) (h : AsgE i (0, d) env nx) : AugG i G nx o env := ⟨x, y, _, h1, h2, h3, rfl, h⟩
def MetG (i : Nat) (g : GM) (Q : Val → DL.Env → Prop) (os : List Opd) (env : DL.Env) : Prop := ∃ ds d res d', frozenOs os = some ds ∧ env[i]? = some (some (1, d)) ∧ g d ds = some (res, d') ∧ Q (0, res) (env.set i (some (1, d')))
theorem i_met {T : String} {gm : GM} (e : env[i]? = some (some (n, d))) (t : tyD T d = true) (h : wa env (fun os e => MetG i gm Q os e) ex) : wMet T i gm wa env Q ex := ⟨⟨n, d, e, t⟩, h⟩
theorem i_m {gm : GM} {os : List Opd} {ds : List D} {d d' res : D} (ho : frozenOs os = some ds) (e : env[i]? = some (some (1, d))) (hg : gm d ds = some (res, d')) (he : env.set i (some (1, d')) = e') (h : Q (0, res) e') : MetG i gm Q os env := ⟨ds, d, res, d', ho, e, hg, he ▸ h⟩
def CallG (sp : FSp) (ms : List Nat) (Q : Val → DL.Env → Prop) (ex : XPo) (os : List Opd) (env : DL.Env) : Prop := ∃ ds env2, argD ms env os = some (ds, env2) ∧ sp ds (fun r outs => ∃ env3, putD ms env2 os outs = some env3 ∧ Q r env3) fun c => ex c env2
theorem i_call {sp : FSp} {ms : List Nat} (h : wa env (fun os e => CallG sp ms Q ex os e) ex) : wCall sp ms wa env Q ex := h
theorem i_cg {sp : FSp} {ms : List Nat} {os : List Opd} {ds : List D} {e2 : DL.Env} (ha : argD ms env os = some (ds, e2)) (h : sp ds (fun r outs => ∃ env3, putD ms e2 os outs = some env3 ∧ Q r env3) fun c => ex c e2) : CallG sp ms Q ex os env := ⟨ds, e2, ha, h⟩
theorem i_put {ms : List Nat} {os : List Opd} {outs : List D} {e3 : DL.Env} {P : DL.Env → Prop} (h1 : putD ms env os outs = some e3) (h : P e3) : ∃ env3, putD ms env os outs = some env3 ∧ P env3 := ⟨e3, h1, h⟩
def frzO : Option Val → Option Val
  | none => none
  | some (_, d) => some (0, d)
theorem frz_x {l l' : DL.Env} {x : Option Val} (h : frz l = l') : frz (x :: l) = frzO x :: l' := by
  cases x with
  | none => rw [frz, h]; rfl
  | some x => obtain ⟨n, d⟩ := x; rw [frz, h]; rfl
theorem frz_n : frz [] = [] := rfl
theorem frz_c {l l' : DL.Env} (h : frz l = l') : frz (none :: l) = none :: l' := by rw [frz, h]
theorem frz_s {l l' : DL.Env} {n : Nat} {d : D} (h : frz l = l') : frz (some (n, d) :: l) = some (0, d) :: l' := by rw [frz, h]
def SetG (i : Nat) (d : D) (Q : DL.Env → Prop) (o : Opd) (env1 : DL.Env) : Prop := ∃ n kd d0 d', opVal env1 o = some (n, kd) ∧ env1[i]? = some (some (1, d0)) ∧ setD d0 kd d = some d' ∧ Q (env1.set i (some (1, d')))
theorem i_gset {QG : DL.Env → Prop} {x : Val} (e : env[i]? = some (some x)) (h : wi env (fun o e => SetG i d QG o e) ex) : gSet i wi d env QG ex := ⟨⟨x, e⟩, h⟩
theorem i_sg {QG : DL.Env → Prop} {o : Opd} {n : Nat} {kd d0 d' : D} (h1 : opVal env o = some (n, kd)) (h2 : env[i]? = some (some (1, d0))) (h3 : setD d0 kd d = some d') (he : env.set i (some (1, d')) = e') (h : QG e') : SetG i d QG o env := ⟨n, kd, d0, d', h1, h2, h3, he ▸ h⟩
theorem i_gnm {QG : DL.Env → Prop} (he : env.set i (some (0, d)) = e') (hl : Nat.ble (i + 1) env.length = true) (h : QG e') : gNm i d env QG ex := ⟨Nat.le_of_ble_eq_true hl, he ▸ h⟩
theorem i_gtpT {is : List Nat} {ds : List D} {QG : DL.Env → Prop} (hl : ds.length = is.length) (h : gNms is ds env QG ex) : gTp is (.tup ds) env QG ex := ⟨hl, h⟩
theorem i_gtpL {is : List Nat} {ds : List D} {QG : DL.Env → Prop} (hl : ds.length = is.length) (h : gNms is ds env QG ex) : gTp is (.lst ds) env QG ex := ⟨hl, h⟩
theorem i_nms0 {QG : DL.Env → Prop} (h : QG env) : gNms [] [] env QG ex := ⟨rfl, h⟩
theorem i_nms {is : List Nat} {ds : List D} {QG : DL.Env → Prop} (he : env.set i (some (0, d)) = e') (hl : Nat.ble (i + 1) env.length = true) (h : gNms is ds e' QG ex) : gNms (i :: is) (d :: ds) env QG ex := ⟨d, ds, rfl, Nat.le_of_ble_eq_true hl, he ▸ h⟩
theorem i_gtzT {n : Nat} {z : List D → DL.Env → (DL.Env → Prop) → Prop} {ds : List D} {QG : DL.Env → Prop} (hl : ds.length = n) (h : z ds env QG) : gTz n z (.tup ds) env QG ex := ⟨hl, h⟩
theorem i_z0 {QG : DL.Env → Prop} (h : QG env) : zNil [] env QG := ⟨rfl, h⟩
theorem i_z {z : List D → DL.Env → (DL.Env → Prop) → Prop} {ds : List D} {QG : DL.Env → Prop} (h : g d env (fun e => z ds e QG) fun _ _ => False) : zCons g z (d :: ds) env QG := ⟨d, ds, rfl, h⟩
def ForG (wg : WG) (w : WS) (nx : DL.Env → Prop) (rt : Val → DL.Env → Prop) (ex : XPo) (ds : List D) (e1 : DL.Env) : Prop := ∃ Inv : Nat → DL.Env → Prop, Inv 0 e1 ∧
    (∀ i env2 d, ds[i]? = some d → Inv i env2 → wg d env2 (fun env3 => w env3 ⟨fun e => Inv (i + 1) e, rt, ex⟩) ex) ∧ ∀ env2, Inv ds.length env2 → nx env2
theorem i_for {nx : DL.Env → Prop} {rt : Val → DL.Env → Prop} {wit : WIt} {wg : WG} (h : wit env (fun ds e1 => ForG wg w nx rt ex ds e1) ex) : wFor wit wg w env ⟨nx, rt, ex⟩ := h
theorem i_fg {nx : DL.Env → Prop} {rt : Val → DL.Env → Prop} {wg : WG} {ds : List D} (Inv : Nat → DL.Env → Prop) (h0 : Inv 0 env) (h1 : ∀ i env2 d, ds[i]? = some d → Inv i env2 → wg d env2 (fun env3 => w env3 ⟨fun e => Inv (i + 1) e, rt, ex⟩) ex) (h2 : ∀ env2, Inv ds.length env2 → nx env2) : ForG wg w nx rt ex ds env := ⟨Inv, h0, h1, h2⟩
variable {QD : List D → DL.Env → Prop}
def LstG (Q : List D → DL.Env → Prop) (o : Opd) (e : DL.Env) : Prop := ∃ ds, o = .v (.lst ds) ∧ Q ds e
theorem i_itL (h : wi env (fun o e => LstG QD o e) ex) : itL wi env QD ex := h
theorem i_lg {ds : List D} (h : QD ds env) : LstG QD (.v (.lst ds)) env := ⟨ds, rfl, h⟩
def TupG (Q : List D → DL.Env → Prop) (o : Opd) (e : DL.Env) : Prop := ∃ ds, o = .v (.tup ds) ∧ Q ds e
theorem i_itT (h : wi env (fun o e => TupG QD o e) ex) : itT wi env QD ex := h
theorem i_tg {ds : List D} (h : QD ds env) : TupG QD (.v (.tup ds)) env := ⟨ds, rfl, h⟩
def Rg1G (Q : List D → DL.Env → Prop) (os : List Opd) (e : DL.Env) : Prop := ∃ j n, resolve e os = some [(n, .int j)] ∧ smallI j ∧ Q (rgD 0 j) e
theorem i_itR1 (h : wa env (fun os e => Rg1G QD os e) ex) : itR1 wa env QD ex := h
theorem i_r1 {os : List Opd} {j : Int} {n : Nat} (hr : resolve env os = some [(n, .int j)]) (hs : smallI j) (h : QD (rgD 0 j) env) : Rg1G QD os env := ⟨j, n, hr, hs, h⟩
def Rg2G (Q : List D → DL.Env → Prop) (os : List Opd) (e : DL.Env) : Prop := ∃ i j n m, resolve e os = some [(n, .int i), (m, .int j)] ∧ smallI i ∧ smallI j ∧ Q (rgD i j) e
theorem i_itR2 (h : wa env (fun os e => Rg2G QD os e) ex) : itR2 wa env QD ex := h
theorem i_r2 {os : List Opd} {i j : Int} {n m : Nat} (hr : resolve env os = some [(n, .int i), (m, .int j)]) (hs : smallI i) (hs2 : smallI j) (h : QD (rgD i j) env) : Rg2G QD os env := ⟨i, j, n, m, hr, hs, hs2, h⟩
def Rg3G (Q : List D → DL.Env → Prop) (os : List Opd) (env' : DL.Env) : Prop := ∃ i j s n m l, resolve env' os = some [(n, .int i), (m, .int j), (l, .int s)] ∧ sml i ∧ sml j ∧ s ≠ 0 ∧ -1073741823 ≤ s ∧ s ≤ 1073741823 ∧ Q (rg3 i j s) env'
theorem i_itR3 (h : wa env (fun os e => Rg3G QD os e) ex) : itR3 wa env QD ex := h
theorem i_r3 {os : List Opd} {i j s : Int} {n m l : Nat} (hr : resolve env os = some [(n, .int i), (m, .int j), (l, .int s)]) (hs : sml i) (hs2 : sml j) (h0 : s ≠ 0) (h1 : -1073741823 ≤ s) (h2 : s ≤ 1073741823) (h : QD (rg3 i j s) env) : Rg3G QD os env := ⟨i, j, s, n, m, l, hr, hs, hs2, h0, h1, h2, h⟩
def EnG (Q : List D → DL.Env → Prop) (os : List Opd) (e : DL.Env) : Prop := ∃ ds, os = [.v (.lst ds)] ∧ Q (enumD ds) e
theorem i_itE (h : wa env (fun os e => EnG QD os e) ex) : itE wa env QD ex := h
theorem i_eg {ds : List D} (h : QD (enumD ds) env) : EnG QD [.v (.lst ds)] env := ⟨ds, rfl, h⟩
def LR1G (Q : Val → DL.Env → Prop) (o : Opd) (e : DL.Env) : Prop := ∃ n j, opVal e o = some (n, .int j) ∧ 0 ≤ j ∧ j ≤ 16777216 ∧ Q (1, .lst (rgD 0 j)) e
theorem i_lr1 (h : wi env (fun o e => LR1G Q o e) ex) : wLR1 wi env Q ex := h
theorem i_l1 {o : Opd} {n : Nat} {j : Int} (h1 : opVal env o = some (n, .int j)) (h2 : 0 ≤ j) (h3 : j ≤ 16777216) (h : Q (1, .lst (rgD 0 j)) env) : LR1G Q o env := ⟨n, j, h1, h2, h3, h⟩
def CutG (Q : Val → DL.Env → Prop) (o : Opd) (lo hi : Option Int) (e : DL.Env) : Prop := ∃ x res, opVal e o = some x ∧ gCut x lo hi = some res ∧ Q res e
variable {wo zo : WO} {QO : Option Int → DL.Env → Prop}
theorem i_cut (h : wi env (fun o e1 => wo e1 (fun lo e2 => zo e2 (fun hi e3 => CutG Q o lo hi e3) ex) ex) ex) : wCut wi wo zo env Q ex := h
theorem i_cg3 {o : Opd} {lo hi : Option Int} {x res : Val} (h1 : opVal env o = some x) (h2 : gCut x lo hi = some res) (h : Q res env) : CutG Q o lo hi env := ⟨x, res, h1, h2, h⟩
theorem i_oNo (h : QO none env) : oNo env QO ex := h
def OSG (Q : Option Int → DL.Env → Prop) (d : D) (e : DL.Env) : Prop := ∃ i, d = .int i ∧ Q (some i) e
theorem i_oSome (h : we env (fun r e => OSG QO r.2 e) ex) : oSome we env QO ex := h
theorem i_os {j : Int} (h : QO (some j) env) : OSG QO (.int j) env := ⟨j, rfl, h⟩
theorem i_while {nx : DL.Env → Prop} {rt : Val → DL.Env → Prop} (Inv : Nat → DL.Env → Prop) (n : Nat) (h0 : Inv n env) (h : ∀ n env1, Inv n env1 → wt env1 (fun b env2 => if b = true then w env2 ⟨fun e => ∃ m, m < n ∧ Inv m e, rt, ex⟩ else nx env2) ex) : wWhile wt w env ⟨nx, rt, ex⟩ := ⟨Inv, ⟨n, h0⟩, h⟩
def LcG (own : List Nat) (wg : WG) (wc : WT) (we : WE) (dep : Nat) (Q : Val → DL.Env → Prop) (ds : List D) (env1 : DL.Env) : Prop := ∃ Inv : Nat → List D → DL.Env → Prop, Inv 0 [] env1 ∧
  (∀ i acc env2 d, ds[i]? = some d → Inv i acc env2 → ownOk own env2 ∧ acc.length < 16777216 ∧ wg d (fgt own env2) (fun env3 => wc env3 (fun b env4 =>
    if b = true then we env4 (fun r env5 => env5.length = env2.length ∧ (dep ≠ 0 → r.1 = dep) ∧ Inv (i + 1) (acc ++ [r.2]) (rst own env2 env5)) nox else env4.length = env2.length ∧ Inv (i + 1) acc (rst own env2 env4)) nox) nox) ∧
  ∀ acc env2, Inv ds.length acc env2 → Q (dep + 1, .lst acc) env2
theorem i_lc {own : List Nat} {wit : WIt} {wg : WG} {wc : WT} {dep : Nat} (h : wit env (fun ds e1 => LcG own wg wc we dep Q ds e1) ex) : wLc own wit wg wc we dep env Q ex := h
theorem i_lcg {own : List Nat} {wg : WG} {wc : WT} {dep : Nat} {ds : List D} (Inv : Nat → List D → DL.Env → Prop) (h0 : Inv 0 [] env) (h1 : ∀ i acc env2 d, ds[i]? = some d → Inv i acc env2 → ownOk own env2 ∧ acc.length < 16777216 ∧ wg d (fgt own env2) (fun env3 => wc env3 (fun b env4 =>
    if b = true then we env4 (fun r env5 => env5.length = env2.length ∧ (dep ≠ 0 → r.1 = dep) ∧ Inv (i + 1) (acc ++ [r.2]) (rst own env2 env5)) nox else env4.length = env2.length ∧ Inv (i + 1) acc (rst own env2 env4)) nox) nox) (h2 : ∀ acc env2, Inv ds.length acc env2 → Q (dep + 1, .lst acc) env2) : LcG own wg wc we dep Q ds env := ⟨Inv, h0, h1, h2⟩
end
section
variable {α : Type}
theorem st0 {x0 y : α} {l : List α} : List.set (x0 :: l) 0 y = y :: l := rfl
theorem st1 {x0 x1 y : α} {l : List α} : List.set (x0 :: x1 :: l) 1 y = x0 :: y :: l := rfl
theorem st2 {x0 x1 x2 y : α} {l : List α} : List.set (x0 :: x1 :: x2 :: l) 2 y = x0 :: x1 :: y :: l := rfl
theorem st3 {x0 x1 x2 x3 y : α} {l : List α} : List.set (x0 :: x1 :: x2 :: x3 :: l) 3 y = x0 :: x1 :: x2 :: y :: l := rfl
theorem st4 {x0 x1 x2 x3 x4 y : α} {l : List α} : List.set (x0 :: x1 :: x2 :: x3 :: x4 :: l) 4 y = x0 :: x1 :: x2 :: x3 :: y :: l := rfl
theorem st5 {x0 x1 x2 x3 x4 x5 y : α} {l : List α} : List.set (x0 :: x1 :: x2 :: x3 :: x4 :: x5 :: l) 5 y = x0 :: x1 :: x2 :: x3 :: x4 :: y :: l := rfl
theorem st6 {x0 x1 x2 x3 x4 x5 x6 y : α} {l : List α} : List.set (x0 :: x1 :: x2 :: x3 :: x4 :: x5 :: x6 :: l) 6 y = x0 :: x1 :: x2 :: x3 :: x4 :: x5 :: y :: l := rfl
theorem st7 {x0 x1 x2 x3 x4 x5 x6 x7 y : α} {l : List α} : List.set (x0 :: x1 :: x2 :: x3 :: x4 :: x5 :: x6 :: x7 :: l) 7 y = x0 :: x1 :: x2 :: x3 :: x4 :: x5 :: x6 :: y :: l := rfl
theorem st8 {x0 x1 x2 x3 x4 x5 x6 x7 x8 y : α} {l : List α} : List.set (x0 :: x1 :: x2 :: x3 :: x4 :: x5 :: x6 :: x7 :: x8 :: l) 8 y = x0 :: x1 :: x2 :: x3 :: x4 :: x5 :: x6 :: x7 :: y :: l := rfl
theorem st9 {x0 x1 x2 x3 x4 x5 x6 x7 x8 x9 y : α} {l : List α} : List.set (x0 :: x1 :: x2 :: x3 :: x4 :: x5 :: x6 :: x7 :: x8 :: x9 :: l) 9 y = x0 :: x1 :: x2 :: x3 :: x4 :: x5 :: x6 :: x7 :: x8 :: y :: l := rfl
theorem st10 {x0 x1 x2 x3 x4 x5 x6 x7 x8 x9 x10 y : α} {l : List α} : List.set (x0 :: x1 :: x2 :: x3 :: x4 :: x5 :: x6 :: x7 :: x8 :: x9 :: x10 :: l) 10 y = x0 :: x1 :: x2 :: x3 :: x4 :: x5 :: x6 :: x7 :: x8 :: x9 :: y :: l := rfl
theorem st11 {x0 x1 x2 x3 x4 x5 x6 x7 x8 x9 x10 x11 y : α} {l : List α} : List.set (x0 :: x1 :: x2 :: x3 :: x4 :: x5 :: x6 :: x7 :: x8 :: x9 :: x10 :: x11 :: l) 11 y = x0 :: x1 :: x2 :: x3 :: x4 :: x5 :: x6 :: x7 :: x8 :: x9 :: x10 :: y :: l := rfl
theorem st12 {x0 x1 x2 x3 x4 x5 x6 x7 x8 x9 x10 x11 x12 y : α} {l : List α} : List.set (x0 :: x1 :: x2 :: x3 :: x4 :: x5 :: x6 :: x7 :: x8 :: x9 :: x10 :: x11 :: x12 :: l) 12 y = x0 :: x1 :: x2 :: x3 :: x4 :: x5 :: x6 :: x7 :: x8 :: x9 :: x10 :: x11 :: y :: l := rfl
theorem st13 {x0 x1 x2 x3 x4 x5 x6 x7 x8 x9 x10 x11 x12 x13 y : α} {l : List α} : List.set (x0 :: x1 :: x2 :: x3 :: x4 :: x5 :: x6 :: x7 :: x8 :: x9 :: x10 :: x11 :: x12 :: x13 :: l) 13 y = x0 :: x1 :: x2 :: x3 :: x4 :: x5 :: x6 :: x7 :: x8 :: x9 :: x10 :: x11 :: x12 :: y :: l := rfl
theorem st14 {x0 x1 x2 x3 x4 x5 x6 x7 x8 x9 x10 x11 x12 x13 x14 y : α} {l : List α} : List.set (x0 :: x1 :: x2 :: x3 :: x4 :: x5 :: x6 :: x7 :: x8 :: x9 :: x10 :: x11 :: x12 :: x13 :: x14 :: l) 14 y = x0 :: x1 :: x2 :: x3 :: x4 :: x5 :: x6 :: x7 :: x8 :: x9 :: x10 :: x11 :: x12 :: x13 :: y :: l := rfl
theorem st15 {x0 x1 x2 x3 x4 x5 x6 x7 x8 x9 x10 x11 x12 x13 x14 x15 y : α} {l : List α} : List.set (x0 :: x1 :: x2 :: x3 :: x4 :: x5 :: x6 :: x7 :: x8 :: x9 :: x10 :: x11 :: x12 :: x13 :: x14 :: x15 :: l) 15 y = x0 :: x1 :: x2 :: x3 :: x4 :: x5 :: x6 :: x7 :: x8 :: x9 :: x10 :: x11 :: x12 :: x13 :: x14 :: y :: l := rfl
theorem st16 {x0 x1 x2 x3 x4 x5 x6 x7 x8 x9 x10 x11 x12 x13 x14 x15 x16 y : α} {l : List α} : List.set (x0 :: x1 :: x2 :: x3 :: x4 :: x5 :: x6 :: x7 :: x8 :: x9 :: x10 :: x11 :: x12 :: x13 :: x14 :: x15 :: x16 :: l) 16 y = x0 :: x1 :: x2 :: x3 :: x4 :: x5 :: x6 :: x7 :: x8 :: x9 :: x10 :: x11 :: x12 :: x13 :: x14 :: x15 :: y :: l := rfl
theorem st17 {x0 x1 x2 x3 x4 x5 x6 x7 x8 x9 x10 x11 x12 x13 x14 x15 x16 x17 y : α} {l : List α} : List.set (x0 :: x1 :: x2 :: x3 :: x4 :: x5 :: x6 :: x7 :: x8 :: x9 :: x10 :: x11 :: x12 :: x13 :: x14 :: x15 :: x16 :: x17 :: l) 17 y = x0 :: x1 :: x2 :: x3 :: x4 :: x5 :: x6 :: x7 :: x8 :: x9 :: x10 :: x11 :: x12 :: x13 :: x14 :: x15 :: x16 :: y :: l := rfl
theorem st18 {x0 x1 x2 x3 x4 x5 x6 x7 x8 x9 x10 x11 x12 x13 x14 x15 x16 x17 x18 y : α} {l : List α} : List.set (x0 :: x1 :: x2 :: x3 :: x4 :: x5 :: x6 :: x7 :: x8 :: x9 :: x10 :: x11 :: x12 :: x13 :: x14 :: x15 :: x16 :: x17 :: x18 :: l) 18 y = x0 :: x1 :: x2 :: x3 :: x4 :: x5 :: x6 :: x7 :: x8 :: x9 :: x10 :: x11 :: x12 :: x13 :: x14 :: x15 :: x16 :: x17 :: y :: l := rfl
theorem st19 {x0 x1 x2 x3 x4 x5 x6 x7 x8 x9 x10 x11 x12 x13 x14 x15 x16 x17 x18 x19 y : α} {l : List α} : List.set (x0 :: x1 :: x2 :: x3 :: x4 :: x5 :: x6 :: x7 :: x8 :: x9 :: x10 :: x11 :: x12 :: x13 :: x14 :: x15 :: x16 :: x17 :: x18 :: x19 :: l) 19 y = x0 :: x1 :: x2 :: x3 :: x4 :: x5 :: x6 :: x7 :: x8 :: x9 :: x10 :: x11 :: x12 :: x13 :: x14 :: x15 :: x16 :: x17 :: x18 :: y :: l := rfl
theorem st20 {x0 x1 x2 x3 x4 x5 x6 x7 x8 x9 x10 x11 x12 x13 x14 x15 x16 x17 x18 x19 x20 y : α} {l : List α} : List.set (x0 :: x1 :: x2 :: x3 :: x4 :: x5 :: x6 :: x7 :: x8 :: x9 :: x10 :: x11 :: x12 :: x13 :: x14 :: x15 :: x16 :: x17 :: x18 :: x19 :: x20 :: l) 20 y = x0 :: x1 :: x2 :: x3 :: x4 :: x5 :: x6 :: x7 :: x8 :: x9 :: x10 :: x11 :: x12 :: x13 :: x14 :: x15 :: x16 :: x17 :: x18 :: x19 :: y :: l := rfl
theorem st21 {x0 x1 x2 x3 x4 x5 x6 x7 x8 x9 x10 x11 x12 x13 x14 x15 x16 x17 x18 x19 x20 x21 y : α} {l : List α} : List.set (x0 :: x1 :: x2 :: x3 :: x4 :: x5 :: x6 :: x7 :: x8 :: x9 :: x10 :: x11 :: x12 :: x13 :: x14 :: x15 :: x16 :: x17 :: x18 :: x19 :: x20 :: x21 :: l) 21 y = x0 :: x1 :: x2 :: x3 :: x4 :: x5 :: x6 :: x7 :: x8 :: x9 :: x10 :: x11 :: x12 :: x13 :: x14 :: x15 :: x16 :: x17 :: x18 :: x19 :: x20 :: y :: l := rfl
theorem st22 {x0 x1 x2 x3 x4 x5 x6 x7 x8 x9 x10 x11 x12 x13 x14 x15 x16 x17 x18 x19 x20 x21 x22 y : α} {l : List α} : List.set (x0 :: x1 :: x2 :: x3 :: x4 :: x5 :: x6 :: x7 :: x8 :: x9 :: x10 :: x11 :: x12 :: x13 :: x14 :: x15 :: x16 :: x17 :: x18 :: x19 :: x20 :: x21 :: x22 :: l) 22 y = x0 :: x1 :: x2 :: x3 :: x4 :: x5 :: x6 :: x7 :: x8 :: x9 :: x10 :: x11 :: x12 :: x13 :: x14 :: x15 :: x16 :: x17 :: x18 :: x19 :: x20 :: x21 :: y :: l := rfl
theorem st23 {x0 x1 x2 x3 x4 x5 x6 x7 x8 x9 x10 x11 x12 x13 x14 x15 x16 x17 x18 x19 x20 x21 x22 x23 y : α} {l : List α} : List.set (x0 :: x1 :: x2 :: x3 :: x4 :: x5 :: x6 :: x7 :: x8 :: x9 :: x10 :: x11 :: x12 :: x13 :: x14 :: x15 :: x16 :: x17 :: x18 :: x19 :: x20 :: x21 :: x22 :: x23 :: l) 23 y = x0 :: x1 :: x2 :: x3 :: x4 :: x5 :: x6 :: x7 :: x8 :: x9 :: x10 :: x11 :: x12 :: x13 :: x14 :: x15 :: x16 :: x17 :: x18 :: x19 :: x20 :: x21 :: x22 :: y :: l := rfl
theorem st24 {x0 x1 x2 x3 x4 x5 x6 x7 x8 x9 x10 x11 x12 x13 x14 x15 x16 x17 x18 x19 x20 x21 x22 x23 x24 y : α} {l : List α} : List.set (x0 :: x1 :: x2 :: x3 :: x4 :: x5 :: x6 :: x7 :: x8 :: x9 :: x10 :: x11 :: x12 :: x13 :: x14 :: x15 :: x16 :: x17 :: x18 :: x19 :: x20 :: x21 :: x22 :: x23 :: x24 :: l) 24 y = x0 :: x1 :: x2 :: x3 :: x4 :: x5 :: x6 :: x7 :: x8 :: x9 :: x10 :: x11 :: x12 :: x13 :: x14 :: x15 :: x16 :: x17 :: x18 :: x19 :: x20 :: x21 :: x22 :: x23 :: y :: l := rfl
theorem st25 {x0 x1 x2 x3 x4 x5 x6 x7 x8 x9 x10 x11 x12 x13 x14 x15 x16 x17 x18 x19 x20 x21 x22 x23 x24 x25 y : α} {l : List α} : List.set (x0 :: x1 :: x2 :: x3 :: x4 :: x5 :: x6 :: x7 :: x8 :: x9 :: x10 :: x11 :: x12 :: x13 :: x14 :: x15 :: x16 :: x17 :: x18 :: x19 :: x20 :: x21 :: x22 :: x23 :: x24 :: x25 :: l) 25 y = x0 :: x1 :: x2 :: x3 :: x4 :: x5 :: x6 :: x7 :: x8 :: x9 :: x10 :: x11 :: x12 :: x13 :: x14 :: x15 :: x16 :: x17 :: x18 :: x19 :: x20 :: x21 :: x22 :: x23 :: x24 :: y :: l := rfl
end
def finN (ms : List Nat) (Q : Val → List D → Prop) : DL.Env → Prop := fun env => ∃ outs, outsD ms env = some outs ∧ Q (0, .non) outs
def finR (ms : List Nat) (Q : Val → List D → Prop) : Val → DL.Env → Prop := fun r env => ∃ outs, outsD ms env = some outs ∧ Q r outs
theorem i_fr {ms : List Nat} {Q : Val → List D → Prop} {r : Val} {env : DL.Env} {outs : List D} (e : outsD ms env = some outs) (h : Q r outs) : finR ms Q r env := ⟨outs, e, h⟩
theorem i_fn {ms : List Nat} {Q : Val → List D → Prop} {env : DL.Env} {outs : List D} (e : outsD ms env = some outs) (h : Q (0, .non) outs) : finN ms Q env := ⟨outs, e, h⟩
def OkF (ms : List Nat) (n : Nat) (sp : FSp) (w : WS) : Prop := ∀ ds Q (Ex : Nat → Prop), ds.length = ms.length → sp ds Q Ex → w (env0 ms ds n) ⟨finN ms Q, finR ms Q, fun c _ => Ex c⟩
section
variable {n m : Nat} {i j : Int} {ds es : List D} {d e : D}
theorem g_sub : gSub [(n, .int i), (m, .int j)] = some (0, .int (i - j)) := rfl
theorem g_add : gAdd [(n, .int i), (m, .int j)] = some (0, .int (i + j)) := rfl
theorem g_addI : gAddI [(n, .int i), (m, .int j)] = some (0, .int (i + j)) := rfl
theorem g_cat (h1 : n ≤ 1) (h2 : m ≤ 1) (h : ds.length + es.length ≤ 16777216) : gAdd [(n, .lst ds), (m, .lst es)] = some (1, .lst (ds ++ es)) := if_pos ⟨h1, h2, h⟩
theorem g_mul (h : i.natAbs.log2 + j.natAbs.log2 < 1000000) : gMul [(n, .int i), (m, .int j)] = some (0, .int (i * j)) := if_pos h
theorem log2_lt {i : Int} {a : Nat} (h : i.natAbs < 2 ^ a) : i.natAbs.log2 < a + 1 := by
  by_cases q : i.natAbs = 0
  · rw [q]; simp
  · exact Nat.lt_succ_of_lt ((Nat.log2_lt q).mpr h)
theorem g_mulS (hi : -4611686018427387904 ≤ i ∧ i ≤ 4611686018427387904) (hj : -4611686018427387904 ≤ j ∧ j ≤ 4611686018427387904) : gMul [(n, .int i), (m, .int j)] = some (0, .int (i * j)) := by
  have h1 := log2_lt (i := i) (a := 63) (by omega)
  have h2 := log2_lt (i := j) (a := 63) (by omega)
  exact g_mul (by omega)
theorem g_rep {d : D} (h : n ≤ 1) (hj : 0 ≤ j) (h2 : j ≤ 16777216) : gMul [(n, .lst [d]), (m, .int j)] = some (1, .lst (List.replicate j.toNat d)) := by
  have e : (List.replicate j.toNat [d]).flatten = List.replicate j.toNat d := by
    induction j.toNat with
    | zero => rfl
    | succ k ih => rw [List.replicate_succ, List.replicate_succ, List.flatten_cons, ih]; rfl
  rw [← e]
  exact if_pos ⟨h, by omega, by omega, by simp; omega⟩
theorem g_fdiv (h : 0 < j) (h2 : j ≤ 4611686018427387904) : gFdiv [(n, .int i), (m, .int j)] = some (0, .int (i / j)) := by
  have h1 := log2_lt (i := j) (a := 63) (by omega)
  show (if 0 < j ∧ j.natAbs.log2 < 9000 then some (D.int (i / j)) else none).map _ = _
  rw [if_pos ⟨h, by omega⟩]; rfl
theorem g_fdivL (h : 0 < j) (h2 : j ≤ 1000000000000000000000000000000) : gFdiv [(n, .int i), (m, .int j)] = some (0, .int (i / j)) := by
  have h1 := log2_lt (i := j) (a := 100) (by omega)
  show (if 0 < j ∧ j.natAbs.log2 < 9000 then some (D.int (i / j)) else none).map _ = _
  rw [if_pos ⟨h, by omega⟩]; rfl
theorem g_mod (h : 0 < j) : gMod [(n, .int i), (m, .int j)] = some (0, .int (i % j)) := by
  show (if 0 < j then some (D.int (i % j)) else none).map _ = _
  rw [if_pos h]; rfl
theorem g_pow (h : 0 ≤ j) (h2 : j ≤ 1000000) (h3 : i.natAbs < 2 ^ 64) : gPow [(n, .int i), (m, .int j)] = some (0, .int (i ^ j.toNat)) := by
  show (if 0 ≤ j ∧ j ≤ 1000000 ∧ i.natAbs < 2 ^ 64 then some (D.int (i ^ j.toNat)) else none).map _ = _
  rw [if_pos ⟨h, h2, h3⟩]; rfl
theorem g_shl (h : 0 ≤ j) (h2 : j ≤ 1000000) (h3 : i.natAbs < 2 ^ 64) : gShl [(n, .int i), (m, .int j)] = some (0, .int (i * 2 ^ j.toNat)) := by
  show (if 0 ≤ j ∧ j ≤ 1000000 ∧ i.natAbs < 2 ^ 64 then some (D.int (i * 2 ^ j.toNat)) else none).map _ = _
  rw [if_pos ⟨h, h2, h3⟩]; rfl
theorem g_shr (h : 0 ≤ j) : gShr [(n, .int i), (m, .int j)] = some (0, .int (i / 2 ^ j.toNat)) := by
  show (if 0 ≤ j then some (D.int (i / 2 ^ j.toNat)) else none).map _ = _
  rw [if_pos h]; rfl
theorem g_and : gAnd [(n, .int i), (m, .int j)] = some (0, .int (Builtin.bitAnd i j)) := rfl
theorem g_or : gOr [(n, .int i), (m, .int j)] = some (0, .int (Builtin.bitOr i j)) := rfl
theorem g_xor : gXor [(n, .int i), (m, .int j)] = some (0, .int (Builtin.bitXor i j)) := rfl
theorem g_lt : gLt [(n, .int i), (m, .int j)] = some (0, .bl (decide (i < j))) := rfl
theorem g_le : gLe [(n, .int i), (m, .int j)] = some (0, .bl (decide (i ≤ j))) := rfl
theorem g_gt : gGt [(n, .int i), (m, .int j)] = some (0, .bl (decide (j < i))) := rfl
theorem g_ge : gGe [(n, .int i), (m, .int j)] = some (0, .bl (decide (j ≤ i))) := rfl
theorem g_neg : gNeg [(n, .int i)] = some (0, .int (-i)) := rfl
theorem g_inv : gInv [(n, .int i)] = some (0, .int (Builtin.bitNot i)) := rfl
theorem g_eqI : gEq [(n, .int i), (m, .int j)] = some (0, .bl (decide (i = j))) := by
  show some _ = some _
  congr 3
theorem g_neI : gNe [(n, .int i), (m, .int j)] = some (0, .bl (!decide (i = j))) := by
  show some _ = some _
  congr 3
theorem g_eq (h1 : shp 16 d = true) (h2 : shp 16 e = true) : gEq [(n, d), (m, e)] = some (0, .bl (eqD d e)) := if_pos ⟨h1, h2⟩
theorem g_ne (h1 : shp 16 d = true) (h2 : shp 16 e = true) : gNe [(n, d), (m, e)] = some (0, .bl (!eqD d e)) := if_pos ⟨h1, h2⟩
theorem g_isN : gIsN [(n, d), (m, .non)] = some (0, .bl (isN d)) := rfl
theorem g_notN : gNotN [(n, d), (m, .non)] = some (0, .bl (!isN d)) := rfl
theorem g_lenL : gLen [(n, .lst ds)] = some (0, .int (ds.length : Nat)) := rfl
theorem g_lenT : gLen [(n, .tup ds)] = some (0, .int (ds.length : Nat)) := rfl
theorem g_list (h : n ≤ 1) : gList [(n, .lst ds)] = some (1, .lst ds) := if_pos h
theorem g_listT : gList [(0, .tup ds)] = some (1, .lst ds) := rfl
theorem g_tuple (h : n ≤ 1) : gTuple [(n, .lst ds)] = some (0, .tup ds) := if_pos h
theorem g_max : gMax2 [(n, .int i), (m, .int j)] = some (0, .int (max i j)) := by
  show some (0, D.int (if j > i then j else i)) = _
  congr 3
  split <;> omega
theorem g_min : gMin2 [(n, .int i), (m, .int j)] = some (0, .int (min i j)) := by
  show some (0, D.int (if j < i then j else i)) = _
  congr 3
  split <;> omega
theorem g_intB {b : Bool} : gInt [(n, .bl b)] = some (0, .int (if b then 1 else 0)) := rfl
theorem g_intI : gInt [(n, .int i)] = some (0, .int i) := rfl
theorem g_rev (h : n ≤ 1) : gRev [(n, .lst ds)] = some (1, .lst ds.reverse) := if_pos h
theorem ixN_nat {k l : Nat} (h : k < l) : ixN l (k : Int) = some k := by
  unfold ixN
  rw [if_pos (by omega)]
  simpa using h
theorem g_ix {k : Nat} (h : ds[k]? = some d) (hn : n ≤ 1) : gIx [(n, .lst ds), (m, .int (k : Int))] = some (0, d) := by
  have hk : k < ds.length := by
    rcases Nat.lt_or_ge k ds.length with z | z
    · exact z
    · rw [List.getElem?_eq_none z] at h; cases h
  have : gIxS [(n, .lst ds), (m, .int (k : Int))] = some (0, d) := by
    show (if n ≤ 1 then (atI ds k).map _ else none) = _
    rw [if_pos hn, atI_nat h]; rfl
  show (gIxS _ <|> gIxD _) = _
  rw [this]; rfl
theorem g_ixT {k : Nat} (h : ds[k]? = some d) : gIx [(0, .tup ds), (m, .int (k : Int))] = some (0, d) := by
  have : gIxS [(0, .tup ds), (m, .int (k : Int))] = some (0, d) := by
    show (atI ds k).map _ = _
    rw [atI_nat h]; rfl
  show (gIxS _ <|> gIxD _) = _
  rw [this]; rfl
end
end DL

namespace DL
open PySem PySem.Spec PyProof.Rows L2
def noLst (K : PySem.W.Frag) : Bool := K.all fun p => match p.2.cls with
  | .type n => n != "list"
  | _ => true
theorem noLst_at {a : Addr} {o : Obj} : ∀ {K : PySem.W.Frag}, noLst K = true → K.lookup a = some o → o.cls = .type "list" → False
  | [], _, e, _ => by cases e
  | (b, u) :: K, h, e, c => by
    unfold noLst at h
    rw [List.all_cons, Bool.and_eq_true] at h
    rw [List.lookup_cons] at e
    split at e
    · cases e
      have := h.1
      simp only [c] at this
      exact absurd this (by decide)
    · exact noLst_at (K := K) h.2 e c
def spL (P : Program) (w : World) (K : PySem.W.Frag) (cl : Nat → Addr) (ms : List Nat) (sp : FSp) : Sp := spOf ⟨P, w, K, fun _ => none, default, cl⟩ ms sp
theorem law_sp {P : Program} {w : World} {K : PySem.W.Frag} {cl : Nat → Addr} {sp : FSp} {H : Hp} {a : Addr} {ns : List Int} (hK : noLst K = true) (hO : Only H) (hS : SqL K H a (ns.map V.int)) (h : ∀ Q E, Q (0, .bl true) [] → sp [.scr ns] Q E) :
    spL P w K cl [0] sp [.ref a] H (fun v _ => v = .bl true) fun _ _ _ => False := by
  obtain ⟨o, ho⟩ : ∃ o, H a = some (.frz o (.lst (ns.map V.int))) := by
    rcases hS with (z | ⟨o, z⟩) | ⟨o, its, n, e, c, _⟩
    · rcases hO a with y | ⟨o, xs, y⟩ <;> (rw [z] at y; cases y)
    · exact ⟨o, z⟩
    · exact (noLst_at hK e c).elim
  refine ⟨H, [], [.scr ns], Same.refl H, ⟨.scr ns, [], .ref a, [], [], [], rfl, rfl, rfl, repO0.mpr ⟨⟨a, o, rfl, ho⟩, rfl⟩, rfl, rfl, rfl⟩, List.nodup_nil, fun r _ => r.2 = .bl true, fun _ => False, h _ _ rfl, fun r outs v F' H' A' B q st le hm rp nd => ?_, fun _ _ _ _ h => h.elim⟩
  have q' : r.2 = .bl true := q
  rw [q'] at rp
  exact (rep_bl rp).1
end DL

namespace DL
open PySem PySem.Spec PyProof.Rows L2
theorem inv_track {X : Cx} {pins : List (Addr × Obj)} {σ : L2.St} {H : Hp} {s : Shared} {a C : Addr} {oe : Obj} (I : Inv X ((a, oe) :: pins) σ H s) (h0 : X.s_0.heap.get? a = none) (hp : ∀ p ∈ X.pn ++ pins, p.1 ≠ a) (hz : Zc (.ref C) none oe) (hd : ∃ vs, oe.data = .fields vs) :
    Inv X pins σ (upd H a (ExcObj C a)) s := by
  obtain ⟨ga, na, nL, nF, nc⟩ := I.pin (a, oe) (List.mem_append_right _ List.mem_cons_self)
  have ne0 : ∀ {b u}, X.s_0.heap.get? b = some u → b ≠ a := fun e z => by subst z; rw [h0] at e; cases e
  refine ⟨I.ok, I.os, I.bare, ⟨I.base.keep, I.base.slot, fun b u e n x => ?_, I.base.there, fun b xs e => ?_, fun b u w e => ?_, fun b ps e => ?_⟩, I.loc, I.cell, ?_, fun y c e => ?_, fun p h => ?_, fun b u e => ?_, I.len⟩
  · rw [upd_ne (ne0 e)]; exact I.base.free b u e n x
  · have q := I.base.tups b xs e; rw [upd_ne (ne_of_none q na)]; exact q
  · have q := I.base.frzs b u w e; rw [upd_ne (ne_of_none q na)]; exact q
  · obtain ⟨more, q⟩ := I.base.tbls b ps e; exact ⟨more, by rw [upd_ne (ne_of_none q na)]; exact q⟩
  · rw [upd_ne nL.symm]; exact I.free
  · obtain ⟨v, o, hc, ho⟩ := I.cell y c e
    have : c ≠ a := fun z => by
      subst z
      have ga' : s.heap.get? c = some oe := ga
      rw [hc] at ga'
      cases ga'
      exact nc v ho
    rw [upd_ne this]; exact I.freeC y c e
  · obtain ⟨g1, g2, g3⟩ := I.pin p (by
      rcases List.mem_append.mp h with z | z
      · exact List.mem_append_left _ z
      · exact List.mem_append_right _ (List.mem_cons_of_mem _ z))
    exact ⟨g1, by rw [upd_ne (hp p h)]; exact g2, g3⟩
  · by_cases z : b = a
    · subst z
      rw [upd_same] at e
      cases e
      exact ⟨⟨oe, ga, hz, hd⟩, ⟨oe, ga⟩, fun h1 h2 ⟨o1, e1, z1, d1⟩ k => ⟨o1, k _ e1, z1, d1⟩⟩
    · rw [upd_ne z] at e
      exact (I.hok b u e).stay (fun _ _ _ q => q) (fun c q => by rw [upd_ne (ne_of_none q na)]; exact q) fun c xs q => by rw [upd_ne (ne_of_none q na)]; exact q
def wKeep (K : PySem.W.Frag) (c : Value) (i : Nat) (ts : Addr → Addr → TS) (Wout : WX) (D : Ends) : WX := fun cls d σ H => ∃ b C, PySem.W.exmOne K cls c = some b ∧ cls = .ref C ∧ d = none ∧
  (b = true → ∀ a, H a = none → ts a C ⟨fun σ' H' => H' a = none → D.nx (σ'.set i none) (upd H' a (ExcObj C a)), D.rt, fun σ' H' => D.bk (σ'.set i none) H', fun σ' H' => D.ct (σ'.set i none) H'⟩ (σ.set i (some (.ref a))) H) ∧ (b = false → Wout cls d σ H)
section
variable {X : Cx} {x n : Str} {c : Value} {i : Nat} {body suite : List Stmt} {b₀ : Stmt} {np pos pos' : Pos} {tb : WX → TS} {ts : Addr → Addr → TS} {Wout : WX}
theorem ps_try_keep (hs : X.stack = X.env :: X.outer) (hf : X.env.frame = some X.env.locals) (hex : X.ex = []) (hN : X.N.Nodup) (hi : X.N[i]? = some n) (hln : X.env.kindOf n = some .local) (hc : Names X x c) (tk : L2N.Takes X Wout)
    (hb : ∀ (W : WX) (pn : List (Addr × Obj)) (q : Value → Shared → Prop), L2N.Takes (X.tr pn q) W → PassesOwn (model X.prog X.w) X.A X.env q → PSs (X.tr pn q) body (tb W))
    (hsu : ∀ (a : Addr) (oe : Obj) (C : Addr) (pn : List (Addr × Obj)), L2N.Zn (.ref C) none oe → (∃ vs, oe.data = .fields vs) → PSs (X.suite a ((a, oe) :: pn)) (b₀ :: suite) (ts a C)) :
    PS X (.Try body [.ExceptHandler (some (.Name x np)) (some n) (b₀ :: suite) pos'] [] [] pos) (fun D σ H => tb (wKeep X.K c i ts Wout D) D σ H) := by
  constructor
  intro pins s σ H D I hw
  have okX := I.ok
  have frX : X.A.frames = some (X.env :: X.outer) := okX.frames.trans (congrArg some hs)
  have ss : ∀ {f : Flow} {s1 : Shared} {hook : Value → Shared → Prop}, SP (X.tr (X.pn ++ pins) hook) [] D f s1 → SP X pins D f s1 := fun {f s1 hook} h => by
    cases f with
    | ret u => obtain ⟨v, σ1, H1, J, h⟩ := h; exact ⟨v, σ1, H1, J.ofTry okX, h⟩
    | next => obtain ⟨σ1, H1, J, h⟩ := h; exact ⟨σ1, H1, J.ofTry okX, h⟩
    | brk => obtain ⟨σ1, H1, J, h⟩ := h; exact ⟨σ1, H1, J.ofTry okX, h⟩
    | cont => obtain ⟨σ1, H1, J, h⟩ := h; exact ⟨σ1, H1, J.ofTry okX, h⟩
  refine wpAny_Try_except ?_
  have run := hb (wKeep X.K c i ts Wout D) (X.pn ++ pins) (fun e s₁ => wpAny (model X.prog X.w) X.A (noteFrame e X.env) (fun _ s₂ => wpAny (model X.prog X.w) X.A (setFlight e none) (fun _ s₃ => wpAny (model X.prog X.w) X.A (handleBy e X.env [.ExceptHandler (some (.Name x np)) (some n) (b₀ :: suite) pos']) (SP X pins D) X.xe s₃) X.xe s₂) X.xe s₁) ?takes PassesOwn.looking
  case takes =>
    rintro u s' ⟨a, B, sI, pins', σ', H', cls, d, rfl, J', nb, up, sky, na, os, ag, b, C, hb1, rfl, rfl, hyes, hno⟩
    have J : Inv X pins σ' H' sI := J'.ofTry okX
    rw [show (X.tr (X.pn ++ pins) _).stack = X.env :: X.outer from hs] at sky
    refine L2N.Sky.land L2N.Zn.steady frX hf sky fun h3 fl3 up3 => ?_
    have J3 : Inv X pins σ' H' { s' with heap := h3 } := J.landed nb fl3.1 (up.trans up3) os ag
    obtain ⟨oe3, vs3, he3, hz3, hd3⟩ := fl3.there
    have nfr : a ∉ frs (X.env :: X.outer) := fun hm => by
      obtain ⟨_, o', e', hnf⟩ := fl3.2.2.1.mem hm
      rw [he3] at e'; cases e'
      exact hnf _ hd3
    have nL : a ≠ X.env.locals := fun z => nfr (List.mem_filterMap.mpr ⟨X.env, List.mem_cons_self, hf.trans (congrArg some z.symm)⟩)
    have nF : a ∉ X.fs := fun hm => by
      obtain ⟨e, he, q⟩ := List.mem_filterMap.mp hm
      exact nfr (List.mem_filterMap.mpr ⟨e, List.mem_cons_of_mem _ he, q⟩)
    have nI : sI.heap.get? a = none := by
      cases q : sI.heap.get? a with
      | none => rfl
      | some o =>
        have q2 := nb a o q (by rw [show (X.tr (X.pn ++ pins) _).stack = X.env :: X.outer from hs]; exact nfr)
        rw [fl3.2.1] at q2; cases q2
    have n0 : X.s_0.heap.get? a = none := by
      cases q : X.s_0.heap.get? a with
      | none => rfl
      | some o =>
        obtain ⟨o', q2⟩ := J.base.there a o q (by rw [hex]; exact List.not_mem_nil)
        rw [nI] at q2; cases q2
    have nP : ∀ p ∈ X.pn ++ pins, p.1 ≠ a := fun p hp z => by
      have := (J.pin p hp).1
      rw [z, nI] at this; cases this
    have S3 := J3.suite he3 hd3 na nL nF
    refine wpAny_handleBy_cons (codeAny_handlers_test ?_) fun q => by cases q
    have LT : PySem.W.Looks (model X.prog X.w) h3 (typeOf (.ref a)) (.ref C) := fun A Q E s k q => wpAny_typeOf_ref (k _ _ he3) (hz3.1.symm ▸ q)
    have LM := PySem.W.exm_one (M := model X.prog X.w) J3.kIn LT hb1
    have test : ∀ {Q E : Value → Shared → Prop}, Q c { s' with heap := h3 } → wpAny (model X.prog X.w) (X.A.mark (some (.ref a))) (eval (.Name x np) X.env) Q E { s' with heap := h3 } := fun {Q E} q => by
      rcases hc with ⟨g1, g2, g3 | ⟨g3, g4, g5⟩⟩
      · exact ld_glob (X := X.suite a ((a, oe3) :: (X.pn ++ pins))) S3 g1 g3 q g2
      · exact ld_blt (X := X.suite a ((a, oe3) :: (X.pn ++ pins))) S3 g1 g3 g4 q g5 g2
    refine test (LM.here ?_)
    cases b with
    | true =>
      refine codeAny_handlers_suite_as (HandSPX.lands_againZ fl3 fun h4 fl4 up4 => ?_)
      have J4 : Inv X pins σ' H' { s' with heap := h4 } := J.landed nb fl4.1 ((up.trans up3).trans up4) os ag
      obtain ⟨oe4, vs4, he4, hz4, hd4⟩ := fl4.there
      refine store_ok (X := X.suite a ((a, oe4) :: (X.pn ++ pins))) (v := .ref a) (J4.suite he4 hd4 na nL nF) hN hi (.inl hln) rfl (fun s5 S5 => ?_) (.inr hln)
      refine wpAny_mono ((hsu a oe4 C (X.pn ++ pins) hz4 ⟨_, hd4⟩).run [] s5 _ H' _ S5 (hyes rfl a na)) (fun f s6 hsp => ?_) fun _ _ z => z.elim
      have tail : ∀ {σ6 : L2.St} {H6 : Hp} {Q : Shared → Prop}, Inv (X.suite a ((a, oe4) :: (X.pn ++ pins))) [] σ6 H6 s6 → (∀ s7, Inv X ((a, oe4) :: pins) (σ6.set i none) H6 s7 → Q s7) →
          wpAny (model X.prog X.w) X.A (do bindName X.env n .none; unbindBehindTheSuite X.env n pos') (fun _ s7 => Q s7) X.xe s6 := fun {σ6 H6 Q} S6 hq => by
        refine gone_ok (X := X) (pins := (a, oe4) :: pins) ⟨okX, S6.os, S6.bare, S6.base, S6.loc, S6.cell, S6.free, S6.freeC, fun p hp => S6.pin p (List.mem_append_left _ ?_), S6.hok, S6.len⟩ hN hi hln hq
        simp only [List.mem_append, List.mem_cons] at hp ⊢
        rcases hp with z | z | z
        · exact .inr (.inl z)
        · exact .inl z
        · exact .inr (.inr z)
      have drop : ∀ {σ7 : L2.St} {H7 : Hp} {s7 : Shared}, Inv X ((a, oe4) :: pins) σ7 H7 s7 → Inv X pins σ7 H7 s7 := fun {σ7 H7 s7} I7 => ⟨I7.ok, I7.os, I7.bare, I7.base, I7.loc, I7.cell, I7.free, I7.freeC, fun p hp => I7.pin p (by
        rcases List.mem_append.mp hp with z | z
        · exact List.mem_append_left _ z
        · exact List.mem_append_right _ (List.mem_cons_of_mem _ z)), I7.hok, I7.len⟩
      cases f with
      | ret u =>
        obtain ⟨v6, σ6, H6, S6, r6, q6⟩ := hsp
        exact tail S6 fun s7 J7 => ⟨v6, _, H6, drop J7, r6, q6⟩
      | next =>
        obtain ⟨σ6, H6, S6, q6⟩ := hsp
        exact tail S6 fun s7 J7 => ⟨_, _, inv_track J7 n0 nP hz4.zc ⟨_, hd4⟩, q6 (J7.pin (a, oe4) (List.mem_append_right _ List.mem_cons_self)).2.1⟩
      | brk =>
        obtain ⟨σ6, H6, S6, q6⟩ := hsp
        exact tail S6 fun s7 J7 => ⟨_, H6, drop J7, q6⟩
      | cont =>
        obtain ⟨σ6, H6, S6, q6⟩ := hsp
        exact tail S6 fun s7 J7 => ⟨_, H6, drop J7, q6⟩
    | false =>
      refine wpAny_handleBy_nil ?_
      obtain ⟨k1, k2, k3, oe, vs, T, oT, ts', he, hz, hd, h1, hr⟩ := id fl3
      unfold PySem.passOn
      refine wpAny_bind (wpAny_field he hd h1 ?_)
      rw [if_neg (show ¬ ((Value.ref T == Value.none) = true) from by simp)]
      have out : wpAny (model X.prog X.w) X.A (setFlight (.ref a) X.env.frame) (fun _ s4 => wpAny (model X.prog X.w) X.A (throw (.ref a) : Sem Flow) (SP X pins D) X.xe s4) X.xe { s' with heap := h3 } := by
        rw [hf]
        refine HandSPX.setFlight_upZ fl3 fun h4 hh4 up4 => wpAny_throw (tk _ _ ⟨a, B, sI, pins, σ', H', .ref C, none, rfl, J, ?_, (up.trans up3).trans up4, .inr (.inr ?_), na, os, ag, hno rfl⟩)
        · intro b o e1 e2; exact nb b o e1 e2
        · rw [hs]; exact hh4
      first
        | exact wpAny_bind (wpAny_pure (wpAny_bind out))
        | exact wpAny_bind out
  refine wpAny_mono (run.run [] s σ H D (I.toTry _) hw) (fun f s1 hsp => ?_) fun e s1 he => he
  have h2 := ss hsp
  cases f with
  | next => exact wpAny_execs_nil h2
  | ret u => exact h2
  | brk => exact h2
  | cont => exact h2
end
structure ExF (T : Tb) (x : Str) (cc : Nat) : Prop where
  gC : T.mg x = some (.ref (T.cl cc))
  kC : PySem.W.keepIn T.K (.ref (T.cl cc)) = true
  bs : ∃ B newId initId bmB, ExcBaseFacts B newId initId bmB ∧ PySem.W.excIn T.K (T.cl cc) bmB newId = true
  sB : PySem.W.subIn T.K (.ref (T.cl cc)) (.type "BaseException") = some true
  ty : PySem.W.typeIn T.K (.ref (T.cl cc)) = some (.type "type")
def wRaise (cc : Nat) : WS := fun env K => K.ex cc env
section
variable {T : Tb} {k : Nat} {c : Sc} {P : Nat → Bool} {pos : Pos}
theorem JS.raise {x m : Str} {j : Nat} {p p2 pos1 : Pos} (cc : Nat) (F : ExF T x cc) (hg : glB c.sc x = true := by rfl) (hdb : (x == ("__debug__" : Str)) = false := by rfl) (hh : c.hot = false := by rfl) :
    JS T k c P (.Raise (some (.Call (.Name x p) [.Constant (.str m) j p2] [] pos1)) none pos) (wRaise cc) := fun W => by
  obtain ⟨B, newId, initId, bmB, F1, F2⟩ := F.bs
  refine ⟨fun _ σ H => (fun (_ : L2.St) (H : Hp) (Q : XK) => Q (.ref (T.cl cc)) none H) σ H fun cls d H' => W cls d σ H', fun X f => ?_, fun env K hw σ F H A le rel nd D kn kr kx => ?_⟩
  · exact L2N.ps_raise (f.calm hh) f.tk (L2N.pmk_own F1 (by rw [f.K]; exact F2) (by rw [f.mg]; exact F.gC) (by rw [f.K]; exact F.kC) (raises_own (by rw [f.K]; exact F.sB) (by rw [f.K]; exact F.ty)) (gl_of f.toFit hg) hdb)
  · exact kx cc env σ F H A hw (Kp.refl P σ) (Step.refl F H A) le rel nd
def unpinO (a : Addr) (cc : Nat) : Option Val → Option Val
  | some (n, .ty (.ref b)) => if b = a then some (n, .exc cc) else some (n, .ty (.ref b))
  | x => x
def unpin (a : Addr) (cc : Nat) (env : DL.Env) : DL.Env := env.map (unpinO a cc)
theorem unpin_rel {cl : Nat → Addr} {F H : Hp} {a : Addr} {cc : Nat} (hF : F a = some (ExcObj (cl cc) a)) : ∀ {env : DL.Env} {σ : L2.St} {A : List Addr}, RelL cl F H env σ A → RelL cl F H (unpin a cc env) σ A
  | [], σ, A, h => h
  | none :: env, σ, A, h => by
    simp only [RelL] at h
    obtain ⟨s, r, e1, h⟩ := h
    show RelL cl F H (none :: unpin a cc env) σ A
    simp only [RelL]
    exact ⟨s, r, e1, unpin_rel hF h⟩
  | some (n, d) :: env, σ, A, h => by
    simp only [RelL] at h
    obtain ⟨v, r, A1, A2, e1, e2, h1, h2⟩ := h
    have h2 := unpin_rel hF h2
    have key : ∃ d', unpinO a cc (some (n, d)) = some (n, d') ∧ RepO cl F H d' n v A1 := by
      unfold unpinO
      split
      · rename_i m b e
        cases e
        by_cases q : b = a
        · rw [if_pos q]
          refine ⟨.exc cc, rfl, ?_⟩
          simp only [RepO, RepF] at h1 ⊢
          obtain ⟨⟨e3, _⟩, e4⟩ := h1
          exact ⟨⟨a, by rw [e3, q], hF⟩, e4⟩
        · rw [if_neg q]; exact ⟨_, rfl, h1⟩
      · exact ⟨d, rfl, h1⟩
    obtain ⟨d', e3, h3⟩ := key
    show RelL cl F H (unpinO a cc (some (n, d)) :: unpin a cc env) σ A
    rw [e3]
    simp only [RelL]
    exact ⟨v, r, A1, A2, e1, e2, h3, h2⟩
def wTry (i : Nat) (ct : Nat → Option Bool) (wb : WS) (ws : Addr → Nat → WS) : WS := fun env K => wb env ⟨K.nx, K.rt, fun cc env1 => i < env1.length ∧ ∃ b, ct cc = some b ∧
  (b = true → ∀ a, ws a cc (env1.set i (some (0, .ty (.ref a)))) ⟨fun env2 => i < env2.length ∧ K.nx (unpin a cc (env2.set i none)), K.rt, fun _ _ => False⟩) ∧ (b = false → K.ex cc env1)⟩
theorem fit_try {W W' : WX} {X : Cx} {pn : List (Addr × Obj)} {q : Value → Shared → Prop} (f : FitS T k c W X) (he : c.exa = none) (tk : L2N.Takes (X.tr pn q) W') (po : PassesOwn (model X.prog X.w) X.A X.env q) : FitS T k c W' (X.tr pn q) where
  prog := f.prog
  w := f.w
  K := f.K
  mg := f.mg
  base := f.base
  N := f.N
  sc := f.sc
  nd := f.nd
  calm := f.calm
  hd := f.hd
  room := f.room
  tk := tk
  pin := fun a cc h => by rw [he] at h; cases h
  own := po
  fn := f.fn
  hs := f.hs
  hf := f.hf
  ex0 := f.ex0
theorem fit_suite {W : WX} {X : Cx} {a : Addr} {cc : Nat} {oe : Obj} {pn : List (Addr × Obj)} (f : FitS T k c W X) (hz : L2N.Zn (.ref (T.cl cc)) none oe) (hd : ∃ vs, oe.data = .fields vs) : FitS T k ⟨c.N, c.sc, c.st, true, some (a, cc)⟩ W0 (X.suite a ((a, oe) :: pn)) where
  prog := f.prog
  w := f.w
  K := f.K
  mg := f.mg
  base := f.base
  N := f.N
  sc := f.sc
  nd := f.nd
  calm := fun h => by cases h
  hd := fun h => by cases h
  room := ⟨f.room.dp, f.room.un⟩
  tk := takesN
  pin := fun b dd h => by
    cases h
    exact ⟨oe, List.mem_cons_self, hz, hd, rfl⟩
  own := PassesOwn.never
  fn := f.fn
  hs := f.hs
  hf := f.hf
  ex0 := f.ex0
theorem JS.try {x n : Str} {np pos' : Pos} {body suite : List Stmt} {b₀ : Stmt} {wb : WS} {ws : Addr → Nat → WS} (i hc : Nat) (ct : Nat → Option Bool) (gC : T.mg x = some (.ref (T.cl hc))) (hct : ∀ cc b, ct cc = some b → PySem.W.exmOne T.K (.ref (T.cl cc)) (.ref (T.cl hc)) = some b)
    (h : JB T k c P body wb) (h' : ∀ a cc, JB T k ⟨c.N, c.sc, c.st, true, some (a, cc)⟩ P (b₀ :: suite) (ws a cc)) (hP : P i = false := by rfl) (hN : c.N[i]? = some n := by rfl) (hx : (match c.sc.names.lookup n with | some .local => true | _ => false) = true := by rfl)
    (hg : glB c.sc x = true := by rfl) (hdb : (x == ("__debug__" : Str)) = false := by rfl) (he : c.exa = none := by rfl) : JS T k c P (.Try body [.ExceptHandler (some (.Name x np)) (some n) (b₀ :: suite) pos'] [] [] pos) (wTry i ct wb ws) := fun W => by
  have hb : ∀ W' : WX, ∃ t : TS, (∀ X, FitS T k c W' X → PSs X body t) ∧ SemS T W' P wb t := h
  have hs : ∀ q : Addr × Nat, ∃ t : TS, (∀ X, FitS T k ⟨c.N, c.sc, c.st, true, some (q.1, q.2)⟩ W0 X → PSs X (b₀ :: suite) t) ∧ SemS T W0 P (ws q.1 q.2) t := fun q => h' q.1 q.2 W0
  let tb : WX → TS := fun W' => Classical.choose (hb W')
  have tb1 : ∀ W', (∀ X, FitS T k c W' X → PSs X body (tb W')) ∧ SemS T W' P wb (tb W') := fun W' => Classical.choose_spec (hb W')
  let tq : Addr × Nat → TS := fun q => Classical.choose (hs q)
  have tq1 : ∀ q, (∀ X, FitS T k ⟨c.N, c.sc, c.st, true, some (q.1, q.2)⟩ W0 X → PSs X (b₀ :: suite) (tq q)) ∧ SemS T W0 P (ws q.1 q.2) (tq q) := fun q => Classical.choose_spec (hs q)
  let ts : Addr → Addr → TS := fun a C D σ H => ∃ cc, T.cl cc = C ∧ tq (a, cc) D σ H
  have hln : c.sc.names.lookup n = some .local := by
    split at hx
    · rename_i e; exact e
    · cases hx
  refine ⟨fun D σ H => tb (wKeep T.K (.ref (T.cl hc)) i ts W D) D σ H, fun X f => ?_, fun env K hw σ F H A le rel nd D kn kr kx => ?_⟩
  · have := ps_try_keep (X := X) (x := x) (n := n) (c := .ref (T.cl hc)) (i := i) (body := body) (suite := suite) (b₀ := b₀) (np := np) (pos := pos) (pos' := pos') (tb := tb) (ts := ts) (Wout := W) f.hs f.hf f.ex0 f.nd (by rw [f.N]; exact hN) (by show X.env.scope.names.lookup n = _; rw [f.sc]; exact hln) ⟨gl_of f.toFit hg, hdb, .inl (by rw [f.mg]; exact gC)⟩ f.tk
      (fun W' pn q tk po => (tb1 W').1 _ (fit_try f he tk po)) (fun a oe C pn hz hd => ?_)
    · rw [f.K] at this; exact this
    · refine ⟨fun pins s σ H D I h => ?_⟩
      obtain ⟨cc, e, h⟩ := h
      subst e
      exact ((tq1 (a, cc)).1 _ (fit_suite f hz hd)).run pins s σ H D I h
  · refine (tb1 _).2 env _ hw σ F H A le rel nd D kn kr fun cc env1 σ1 F1 H1 A1 q kp1 st1 le1 rel1 nd1 => ?_
    obtain ⟨hl, b, eb, hy, hno⟩ := q
    refine ⟨b, T.cl cc, hct cc b eb, rfl, rfl, fun hbt a na => ⟨cc, rfl, ?_⟩, fun hbf => kx cc env1 σ1 F1 H1 A1 (hno hbf) kp1 st1 le1 rel1 nd1⟩
    have hq := hy hbt a
    refine asg_core (T := T) (P := P) (keep := false) (r := (0, .ty (.ref a))) (v := .ref a) (B := []) (env := env1) (nx := fun e => ws a cc e ⟨fun env2 => i < env2.length ∧ K.nx (unpin a cc (env2.set i none)), K.rt, fun _ _ => False⟩) (R := fun σ' H' => tq (a, cc) _ σ' H') hP le1 rel1 (repO0.mpr ⟨⟨rfl, by simp⟩, rfl⟩) (by simpa using nd1) hl hq fun env2 σ2 F2 H2 A2 q2 kp2 st2 le2 rel2 nd2 => ?_
    rw [List.append_nil] at st2
    have st12 := st1.trans st2
    refine (tq1 (a, cc)).2 env2 _ q2 σ2 F2 H2 A2 le2 rel2 nd2 _ (fun env3 σ3 F3 H3 A3 q3 kp3 st3 le3 rel3 nd3 => ?_) (kr.step (kp1.trans kp2) st12) fun _ _ _ _ _ _ z => z.elim
    intro na3
    obtain ⟨hl3, q3⟩ := q3
    obtain ⟨s0, B1, Bi, B2, p1, p2, p3, p4⟩ := relL_split rel3 (List.getElem?_eq_getElem hl3)
    have rel4 := p4 none none [] rfl
    have nd4 : (B1 ++ ([] ++ B2)).Nodup := by
      rw [p2] at nd3
      exact nd3.sublist (List.Sublist.append (List.Sublist.refl _) (List.Sublist.append (List.nil_sublist _) (List.Sublist.refl _)))
    have sub4 : ∀ x ∈ B1 ++ ([] ++ B2), x ∈ A3 := fun x hx => by
      rw [p2]
      simp only [List.nil_append, List.mem_append] at hx ⊢
      rcases hx with z | z
      · exact .inl z
      · exact .inr (.inr z)
    have fa : F3 a = none := le3.free na3
    have mF : Same F3 (upd F3 a (ExcObj (T.cl cc) a)) := fun b u e => by rw [upd_ne (ne_of_none e fa)]; exact e
    have mH : Same H3 (upd H3 a (ExcObj (T.cl cc) a)) := fun b u e => by rw [upd_ne (ne_of_none e na3)]; exact e
    obtain ⟨s5, rel5, nd5⟩ := after_pure (B := []) le3 rel4 nd4 mF mH (fun b hb => by
      by_cases z : b = a
      · subst z; exact .inr na3
      · rw [upd_ne z] at hb; exact .inl hb) (by simp) List.nodup_nil
    rw [List.append_nil] at s5 nd5
    refine kn _ _ _ _ _ q3 (((kp1.trans kp2).trans kp3).trans (Kp.set hP)) (((st12.trans st3).less sub4).trans s5) (fun b u e => ?_) (unpin_rel upd_same rel5) nd5
    by_cases z : b = a
    · subst z; rw [upd_same] at e ⊢; exact e
    · rw [upd_ne z] at e ⊢; exact le3 b u e
end
end DL

namespace DL
open PySem PySem.Spec PyProof.Rows L2
section
variable {X : Cx}
def IsAns (K : PySem.W.Frag) (H : Hp) (D : Addr) (c : V) (b : Bool) : Prop := (∃ cv, (∀ u, RelV c u → u = cv) ∧ PySem.W.kitOne K (.ref D) cv = some b) ∨
  ∃ tp cs us, c = .ref tp ∧ H tp = some (.tup cs) ∧ Paired ClsV cs us ∧ PySem.W.kitAny K (.ref D) us = some b
theorem isx_core {pins : List (Addr × Obj)} {s : Shared} {σ : L2.St} {H : Hp} {a D : Addr} {oe : Obj} {c : V} {b : Bool} {w : Value} {Q : VK} (C : ExcC X.K D) (I : Inv X pins σ H s) (hget : s.heap.get? a = some oe) (hz : Zc (.ref D) none oe) (hf : ∃ vs, oe.data = .fields vs) (hi : IsAns X.K H D c b) (rt : RelV c w) (q : Q (.bl b) H) :
    wpAny (model X.prog X.w) X.A (call (.builtin "isinstance") [.ref a, w]) (EP X pins σ Q) X.xe s := by
  have J : PySem.W.InstAt s.heap a oe D none := by
    obtain ⟨vs, hv⟩ := hf
    obtain ⟨oc, od, oda, osl⟩ := oe
    rcases hz with ⟨h1, h2⟩
    simp only at h1 h2 hv
    subst h1 h2 hv
    exact ⟨hget, rfl, rfl, trivial⟩
  have Z := PySem.W.handS_kitx_exc (x := a) (ox := oe) C.hg C.hk C.hs C.hd C.ha C.hn C.ht C.hm
  rcases hi with ⟨cv, hcv, e⟩ | ⟨tp, cs, us, rfl, hT, hk, e⟩
  · rw [hcv _ rt]
    exact PySem.W.kia_one Z I.kIn J e (fun z => nomatch z) fun tk => ⟨.bl b, H, I.kept (t' := tk) fun _ _ z => z, rfl, q⟩
  · obtain rfl : w = .ref tp := rt
    obtain ⟨_, its, rv, o, h1, h2, n, h3⟩ := (show ObjOk X.prog X.w H s.heap tp (.tup cs) from I.hok tp _ hT)
    have e3 := ClsV.all hk rv
    subst e3
    obtain ⟨oc, od, dt, sl⟩ := o
    simp only at h2 h3
    subst h2 h3
    exact PySem.W.kia_tup Z I.kIn J h1 e (fun z => nomatch z) fun tk => ⟨.bl b, H, I.tok tk, rfl, q⟩
def rIsX (K : PySem.W.Frag) : List V → Hp → VK → Prop := fun xs H Q => ∃ (a D : Addr) (c : V) (b : Bool), xs = [.ref a, c] ∧ H a = some (ExcObj D a) ∧ ExcC K D ∧ IsAns K H D c b ∧ Q (.bl b) H
theorem call_isX : CallR X (.builtin "isinstance") (rIsX X.K) := by
  intro pins s σ H xs us Q I r h
  obtain ⟨a, D, c, b, rfl, ha, C, hi, q⟩ := h
  obtain ⟨u1, u2, rfl, r1, r2⟩ := vals2 r
  obtain rfl : u1 = .ref a := r1
  obtain ⟨⟨oe, hget, hz, hf⟩, _⟩ := (show ObjOk X.prog X.w H s.heap a (ExcObj D a) from I.hok a _ ha)
  exact isx_core C I hget hz hf hi r2 q
def rIsP (K : PySem.W.Frag) (a D : Addr) : List V → Hp → VK → Prop := fun xs H Q => ∃ (c : V) (b : Bool), xs = [.ref a, c] ∧ ExcC K D ∧ IsAns K H D c b ∧ Q (.bl b) H
theorem call_isP {a D : Addr} {oe : Obj} (hp : (a, oe) ∈ X.pn) (hz : Zc (.ref D) none oe) (hf : ∃ vs, oe.data = .fields vs) : CallR X (.builtin "isinstance") (rIsP X.K a D) := by
  intro pins s σ H xs us Q I r h
  obtain ⟨c, b, rfl, C, hi, q⟩ := h
  obtain ⟨u1, u2, rfl, r1, r2⟩ := vals2 r
  obtain rfl : u1 = .ref a := r1
  exact isx_core C I (I.pin (a, oe) (List.mem_append_left _ hp)).1 hz hf hi r2 q
end
def isX (sub : Nat → Nat → Option Bool) (cc : Nat) : D → Option Bool
  | .own m => sub cc m
  | .ty (.ty s) => if s = "ValueError" ∧ (sub cc cc).isSome = true then some true else none
  | _ => none
def isXs (sub : Nat → Nat → Option Bool) (cc : Nat) : List D → Option Bool
  | [] => some false
  | d :: ds => match isX sub cc d, isXs sub cc ds with
    | some a, some b => some (a || b)
    | _, _ => none
def isXd (sub : Nat → Nat → Option Bool) (cc : Nat) : D → Option Bool
  | .tup ds => isXs sub cc ds
  | d => isX sub cc d
structure Cls3 (K : PySem.W.Frag) (cl : Nat → Addr) (sub : Nat → Nat → Option Bool) : Prop where
  sb : ∀ cc m b, sub cc m = some b → PySem.W.kitOne K (.ref (cl cc)) (.ref (cl m)) = some b
  ve : ∀ cc, (sub cc cc).isSome = true → PySem.W.kitOne K (.ref (cl cc)) (.type "ValueError") = some true
  ex : ∀ cc m b, sub cc m = some b → ExcC K (cl cc)
section
variable {K : PySem.W.Frag} {cl : Nat → Addr} {sub : Nat → Nat → Option Bool}
theorem isX_one (C : Cls3 K cl sub) {F : Hp} {cc : Nat} {d : D} {c : V} {b : Bool} (e : isX sub cc d = some b) (h : RepF cl F d c) : ∃ cv, ClsV c cv ∧ PySem.W.kitOne K (.ref (cl cc)) cv = some b ∧ ExcC K (cl cc) := by
  unfold isX at e
  split at e
  · rename_i m
    obtain rfl : c = .ref (cl m) := h
    exact ⟨.ref (cl m), .own _, C.sb cc m b e, C.ex cc m b e⟩
  · rename_i s
    obtain ⟨rfl, _⟩ := h
    split at e
    · rename_i hq
      cases e
      obtain ⟨rfl, h2⟩ := hq
      obtain ⟨b2, hb2⟩ := Option.isSome_iff_exists.mp h2
      exact ⟨.type "ValueError", .ty _, C.ve cc h2, C.ex cc cc b2 hb2⟩
    · cases e
  · cases e
theorem isX_all (C : Cls3 K cl sub) {F : Hp} {cc : Nat} : ∀ {ds : List D} {vs : List V} {b : Bool}, isXs sub cc ds = some b → RepFs cl F ds vs → ∃ us, Paired ClsV vs us ∧ PySem.W.kitAny K (.ref (cl cc)) us = some b ∧ (ds ≠ [] → ExcC K (cl cc))
  | [], vs, b, e, h => by
    have : vs = [] := h
    subst this
    cases e
    exact ⟨[], .nil, rfl, fun n => absurd rfl n⟩
  | d :: ds, vs, b, e, ⟨v, r, e1, h1, h2⟩ => by
    subst e1
    simp only [isXs] at e
    cases q : isX sub cc d with
    | none => rw [q] at e; cases e
    | some b1 =>
      obtain ⟨cv, k1, k2, k3⟩ := isX_one C q h1
      cases q2 : isXs sub cc ds with
      | none => rw [q, q2] at e; cases e
      | some b2 =>
        rw [q, q2] at e
        have e' : (b1 || b2) = b := Option.some.inj e
        subst e'
        obtain ⟨us, i1, i2, _⟩ := isX_all C q2 h2
        refine ⟨cv :: us, .cons k1 i1, kitAny_cons k2 (fun h => ?_) (fun h => by rw [h]; rfl), fun _ => k3⟩
        rw [i2, h]; rfl
theorem isXd_ans (C : Cls3 K cl sub) {F H : Hp} (le : Same F H) {cc : Nat} {d : D} {c : V} {b : Bool} (e : isXd sub cc d = some b) (h : ∃ n, ValAt cl F H (n, d) c) (hn : d ≠ .tup []) : IsAns K H (cl cc) c b ∧ ExcC K (cl cc) := by
  obtain ⟨n, h⟩ := h
  have one : isX sub cc d = some b → RepF cl F d c → IsAns K H (cl cc) c b ∧ ExcC K (cl cc) := fun e h => by
    obtain ⟨cv, k1, k2, k3⟩ := isX_one C e h
    exact ⟨.inl ⟨cv, fun u r => k1.eq r, k2⟩, k3⟩
  cases d with
  | tup ds =>
    obtain ⟨A, h⟩ := h
    simp only [RepO] at h
    obtain ⟨a, vs, e1, e2, h3⟩ := h
    have h3' : RepFs cl F ds vs := by
      have key : ∀ {ds : List D} {vs : List V} {b : Bool} {n : Nat} {A : List Addr}, isXs sub cc ds = some b → RepOs cl F H ds n vs A → RepFs cl F ds vs := by
        intro ds
        induction ds with
        | nil => intro vs b n A _ h; simp only [RepOs] at h; exact h.1
        | cons d ds ih =>
          intro vs b n A e h
          simp only [RepOs] at h
          obtain ⟨v, r, A1, A2, e1, _, h1, h2⟩ := h
          simp only [isXs] at e
          cases q : isX sub cc d with
          | none => rw [q] at e; cases e
          | some b1 =>
            cases q2 : isXs sub cc ds with
            | none => rw [q, q2] at e; cases e
            | some b2 =>
              refine ⟨v, r, e1, ?_, ih q2 h2⟩
              unfold isX at q
              split at q
              · simp only [RepO] at h1; exact h1.1
              · simp only [RepO] at h1; exact h1.1
              · cases q
      exact key e h3
    obtain ⟨us, i1, i2, i3⟩ := isX_all C (cc := cc) e h3'
    exact ⟨.inr ⟨a, vs, us, e1, le _ _ e2, i1, i2⟩, i3 fun z => hn (by rw [z])⟩
  | own m => obtain ⟨A, h⟩ := h; simp only [RepO] at h; exact one e h.1
  | ty m => obtain ⟨A, h⟩ := h; simp only [RepO] at h; exact one e h.1
  | non => cases e
  | bl _ => cases e
  | int _ => cases e
  | str _ => cases e
  | lst _ => cases e
  | dk _ _ => cases e
  | dt _ _ => cases e
  | exc _ => cases e
  | scr _ => cases e
def noTup : D → Bool
  | .tup [] => false
  | _ => true
def gIsX (sub : Nat → Nat → Option Bool) : List Val → Option Val
  | [(_, .exc cc), (_, d)] => if noTup d = true then (match isXd sub cc d with | some b => some (0, .bl b) | none => none) else none
  | _ => none
def gIsP (sub : Nat → Nat → Option Bool) (a : Addr) (cc : Nat) : List Val → Option Val
  | [(_, .ty (.ref b)), (_, d)] => if b = a ∧ noTup d = true then (match isXd sub cc d with | some b => some (0, .bl b) | none => none) else none
  | _ => none
theorem noTup_ne {d : D} (h : noTup d = true) : d ≠ .tup [] := fun e => by subst e; cases h
theorem os_isX (C : Cls3 K cl sub) : OpSem cl (rIsX K) (gIsX sub) := by
  refine OpSem.val fun F H xs vs le hv res e => ?_
  unfold gIsX at e
  split at e
  · rename_i n cc m d
    split at e
    · rename_i hn
      obtain ⟨v, u, e1, h1, h2⟩ := vs2 hv
      cases q : isXd sub cc d with
      | none => rw [q] at e; cases e
      | some b =>
        rw [q] at e
        obtain ⟨i1, i2⟩ := isXd_ans C le q ⟨_, h2⟩ (noTup_ne hn)
        obtain ⟨A, h1⟩ := h1
        simp only [RepO, RepF] at h1
        obtain ⟨⟨a, ea, ha⟩, _⟩ := h1
        exact ⟨.bl b, .bl b, (Option.some.inj e).symm, rfl, fun R hR => ⟨a, cl cc, u, b, by rw [e1, ea], le _ _ ha, i2, i1, hR⟩⟩
    · cases e
  · cases e
theorem os_isP (C : Cls3 K cl sub) {a : Addr} {cc : Nat} : OpSem cl (rIsP K a (cl cc)) (gIsP sub a cc) := by
  refine OpSem.val fun F H xs vs le hv res e => ?_
  unfold gIsP at e
  split at e
  · rename_i n b m d
    split at e
    · rename_i hn
      obtain ⟨rfl, hn⟩ := hn
      obtain ⟨v, u, e1, h1, h2⟩ := vs2 hv
      cases q : isXd sub cc d with
      | none => rw [q] at e; cases e
      | some y =>
        rw [q] at e
        obtain ⟨i1, i2⟩ := isXd_ans C le q ⟨_, h2⟩ (noTup_ne hn)
        obtain ⟨A, h1⟩ := h1
        simp only [RepO, RepF] at h1
        obtain ⟨⟨ea, _⟩, _⟩ := h1
        exact ⟨.bl y, .bl y, (Option.some.inj e).symm, rfl, fun R hR => ⟨u, y, by rw [e1, ea], i2, i1, hR⟩⟩
    · cases e
  · cases e
end
section
variable {T : Tb} {k : Nat} {c : Sc} {pos : Pos}
theorem JE.isx {sub : Nat → Nat → Option Bool} {es : List Expr} {e : Expr} {wa : WA} {p : Pos} (C : Cls3 T.K T.cl sub) (hm : T.mg "isinstance" = none) (ha : JA T k c (e :: es) wa) (hg : glB c.sc "isinstance" = true := by rfl) (ns : noStar e = true := by rfl) (nss : es.all noStar = true := by rfl) :
    JE T k c (.Call (.Name "isinstance" p) (e :: es) [] pos) (wOp (gIsX sub) wa) := JE.callB (fun X f => by
  obtain ⟨W, f⟩ := f
  have := call_isX (X := X)
  rw [f.K] at this
  exact this) (os_isX C) hm rfl ha hg ns nss
theorem JE.isp {sub : Nat → Nat → Option Bool} {es : List Expr} {e : Expr} {wa : WA} {p : Pos} {a : Addr} {cc : Nat} (C : Cls3 T.K T.cl sub) (hm : T.mg "isinstance" = none) (ha : JA T k c (e :: es) wa) (hx : c.exa = some (a, cc) := by rfl) (hg : glB c.sc "isinstance" = true := by rfl) (ns : noStar e = true := by rfl) (nss : es.all noStar = true := by rfl) :
    JE T k c (.Call (.Name "isinstance" p) (e :: es) [] pos) (wOp (gIsP sub a cc) wa) := JE.callB (fun X f => by
  obtain ⟨W, f⟩ := f
  obtain ⟨oe, p1, p2, p3, _⟩ := f.pin a cc hx
  have := call_isP (X := X) p1 p2.zc p3
  rw [f.K] at this
  exact this) (os_isP C) hm rfl ha hg ns nss
theorem JE.clsv {x : Str} (m : Nat) (gC : T.mg x = some (.ref (T.cl m))) (hg : glB c.sc x = true := by rfl) (hd : (x == ("__debug__" : Str)) = false := by rfl) : JE T k c (.Name x pos) (wC (.own m)) := fun W =>
  ⟨tC (.ref (T.cl m)), fun X f => pe_glob (gl_of f hg) (by rw [f.mg]; exact gC) rfl hd, semC fun _ => rfl⟩

def wMetR (ty : String) (i : Nat) (g : List Val → Option Val) (wa : WA) : WE := fun env Q ex => (∃ n d, env[i]? = some (some (n, d)) ∧ tyD ty d = true) ∧
  wa env (fun os env1 => ∃ xs res, resolve env1 (.s i :: os) = some xs ∧ g xs = some res ∧ Q res env1) ex
def recv (r : V → List V → Hp → VK → Prop) : List V → Hp → VK → Prop := fun xs H Q => ∃ x ys, xs = x :: ys ∧ r x ys H Q
theorem semMetR {W : WX} {ty : String} {i : Nat} {g : List Val → Option Val} {r : V → List V → Hp → VK → Prop} {wa : WA} {t : TA} (o : OpSem T.cl (recv r) g) (h : SemA T W wa t) : SemE T W (wMetR ty i g wa) (tBM T.K ty r (tVar i) t) := by
  intro env Q ex hw σ F H A le rel nd R k1 kx
  obtain ⟨⟨n0, d0, e0, t0⟩, hw⟩ := hw
  obtain ⟨v0, B1, Bi, B2, q1, q2, q3, q4⟩ := relL_out rel e0
  refine ⟨v0, q1, va_ty le (show ValAt T.cl F H (n0, d0) v0 from ⟨Bi, q3⟩) t0, ?_⟩
  refine h env _ ex hw σ F H A le rel nd _ (fun os env1 vs F1 H1 A1 q st1 le1 rel1 nd1 ho => ?_) kx
  obtain ⟨xs, res, e1, e2, q⟩ := q
  have hv := resolve_at (os := .s i :: os) (vs := v0 :: vs) rel1 ⟨v0, vs, rfl, q1, ho⟩ e1
  obtain ⟨x, ys, ex, hr⟩ := o F1 H1 xs (v0 :: vs) le1 hv res e2 R fun z F2 H2 B mF mH le2 nF nB ndB rp => by
    obtain ⟨s2, rel2, nd2⟩ := after_pure le1 rel1 nd1 mF mH nF nB ndB
    exact k1 res env1 z F2 H2 A1 B q (st1.trans s2) le2 rel2 rp nd2
  obtain ⟨rfl, rfl⟩ := List.cons.inj ex
  exact hr
theorem JE.metR {x name : Str} {p apos : Pos} {e : Expr} {es : List Expr} {ty id : String} {r : V → List V → Hp → VK → Prop} {g : List Val → Option Val} {wa : WA} (i : Nat) (pa : PlainAttrs ty) (slot : Slot ty name id) (hty : typeOf (.builtin id) = pure (.type "method_descriptor")) (hm : ∀ X, Ft T k c X → MtR X id r) (o : OpSem T.cl (recv r) g) (ha : JA T k c (e :: es) wa)
    (hN : c.N[i]? = some x := by rfl) (hv : visB c.sc x = true := by rfl) (hd : (x == ("__debug__" : Str)) = false := by rfl) (hcd : (x == ("__classdict__" : Str)) = false := by rfl)
    (hbase : ∀ env : PySem.Env, attributeBase (.Name x p) name env (eval (.Name x p) env) = eval (.Name x p) env := by intro _; rfl)
    (hfew : ∀ env : PySem.Env, ((backTo pos (starEach (e :: es) env)).all (fun x => !x.1) && (backToKw pos (keywordEach [] env)).all (fun x => x.1.isSome)
      && decide ((e :: es).length + ([] : List Keyword).length + (if ([] : List Keyword).isEmpty then 0 else 1) < 30)) = true := by intro _; rfl)
    (hline : (apos.endLine == pos.line) = true := by rfl) (ns : noStar e = true := by rfl) (nss : es.all noStar = true := by rfl) :
    JE T k c (.Call (.Attribute (.Name x p) name apos) (e :: es) [] pos) (wMetR ty i g wa) := fun W => by
  obtain ⟨t, pt, s⟩ := ha W
  refine ⟨tBM T.K ty r (tVar i) t, fun X f => ?_, semMetR o s⟩
  have := pe_bm (apos := apos) (cpos := pos) pa slot hty (hm X ⟨W, f⟩) (pe_varF (pos := p) f hN hv hd hcd) (pt X f) (hbase X.env) (hfew X.env) hline (starEach_ne ns) (starNone nss)
  rw [f.K] at this
  exact this
end
end DL

namespace DL
open PySem PySem.Spec PyProof.Rows L2
def rCountD (K : PySem.W.Frag) : V → List V → Hp → VK → Prop := fun x xs H Q => ∃ (a : Addr) (y : V) (d : PyData) (ds : List PyData), x = V.ref a ∧ xs = [y] ∧ Dp K H (V.ref a) (.list ds) ∧ Dp K H y d ∧ SeqAt.shaped (.list ds) = true ∧ SeqAt.shaped d = true ∧
  Q (.int ((ds.countP fun z => PyData.eqv z d : Nat) : Int)) H
theorem mt_countD {X : Cx} (hu : X.A.units + 65 < cLine) : MtR X "list.count" (rCountD X.K) := by
  rintro pins s σ H x xs v us Q I rx rxs ⟨a, y, d, ds, rfl, rfl, hl, hy, sl, sd, q⟩
  obtain rfl : v = .ref a := rx
  obtain ⟨uy, rfl, ry⟩ := rxs.one
  obtain ⟨bs, r1⟩ := Dp.reads I d y uy hy ry
  have hxs : PyData.canLayAll0 ds = true := SeqAt.canLay_of_shaped sl
  cases hl with
  | lst hs ha =>
    obtain ⟨its, rv, ⟨⟨cls, dd, data, sls⟩, n, ho, hc, hdn, hdt⟩, hlen⟩ := I.list hs
    simp only at hc hdt
    subst hc hdt
    obtain ⟨as, h4⟩ := Dp.readsAll I ds _ its ha rv
    have hmap : its.map (SeqAt.readOf s.heap) = ds := SeqAt.readsAll_map ds its as hxs h4
    refine call_meets PySem.F.slot_list_count ⟨_, ho, rfl⟩ PySem.F.entry_list_count (PySem.F.args_list_count_2 _ _)
      (SeqAt.list_countAt a its.toArray n dd sls uy fun u => PyData.eqv (SeqAt.readOf s.heap u) d) ⟨ho, SeqAt.items_eqAt (vs := its.toArray) (show ReadsAll s.heap its.toArray.toList ds as from h4) r1 hxs (SeqAt.canLay_of_shaped sd) (room_in_shaped sd hu), ?_⟩
    have ec : its.toArray.toList.countP (fun u => PyData.eqv (SeqAt.readOf s.heap u) d) = ds.countP fun z => PyData.eqv z d := by
      rw [← hmap, List.countP_map]; rfl
    exact ⟨.int ((ds.countP fun z => PyData.eqv z d : Nat) : Int), H, I.tok _, ⟨s.toks, by rw [ec]⟩, q⟩
def gCount : List Val → Option Val
  | [(_, .lst ds), (_, d)] => if shp 16 (.lst ds) = true ∧ shp 16 d = true then some (0, .int ((ds.countP fun z => eqD z d : Nat) : Int)) else none
  | _ => none
def gIndex : List Val → Option Val
  | [(_, .lst ds), (_, d)] => if shp 16 (.lst ds) = true ∧ shp 16 d = true then (match ds.findIdx? fun z => eqD z d with | some j => some (0, .int (j : Int)) | none => none) else none
  | _ => none
theorem pys_count {d : D} : ∀ ds : List D, (py.pys ds).countP (fun z => PyData.eqv z (py d)) = ds.countP fun z => eqD z d
  | [] => rfl
  | y :: ys => by
    rw [show py.pys (y :: ys) = py y :: py.pys ys from rfl, List.countP_cons, List.countP_cons, pys_count ys]; rfl
theorem pys_get : ∀ {ds : List D} {j : Nat}, (py.pys ds)[j]? = (ds[j]?).map py
  | [], j => by simp [py.pys]
  | y :: ys, 0 => by simp [py.pys]
  | y :: ys, j + 1 => by
    rw [show py.pys (y :: ys) = py y :: py.pys ys from rfl, List.getElem?_cons_succ, List.getElem?_cons_succ, pys_get]
section
variable {cl : Nat → Addr} {K : PySem.W.Frag}
theorem os_count : OpSem cl (recv (rCountD K)) gCount := by
  refine OpSem.val fun F H xs vs le hv res e => ?_
  unfold gCount at e
  split at e
  · rename_i n ds m d
    obtain ⟨⟨s1, s2⟩, e⟩ := iteSome e
    obtain ⟨v, u, e1, h1, h2⟩ := vs2 hv
    obtain ⟨a, us, p1, p2, _⟩ := va_lstN le h1
    refine ⟨.int _, .int _, e.symm, rfl, fun R hR => ⟨v, [u], e1, a, u, py d, py.pys ds, p1, rfl, ?_, va_dp le h2 s2, shaped_of s1, shaped_of s2, ?_⟩⟩
    · rw [← p1]; exact va_dp le h1 s1
    · rw [pys_count]; exact hR
  · cases e
theorem os_index : OpSem cl (recv (rIndexD K)) gIndex := by
  refine OpSem.val fun F H xs vs le hv res e => ?_
  unfold gIndex at e
  split at e
  · rename_i n ds m d
    split at e
    · rename_i hs
      obtain ⟨s1, s2⟩ := hs
      obtain ⟨v, u, e1, h1, h2⟩ := vs2 hv
      obtain ⟨a, us, p1, p2, _⟩ := va_lstN le h1
      cases q : ds.findIdx? fun z => eqD z d with
      | none => rw [q] at e; cases e
      | some j =>
        rw [q] at e
        obtain ⟨hj, hy, hno⟩ := List.findIdx?_eq_some_iff_getElem.mp q
        refine ⟨.int _, .int _, (Option.some.inj e).symm, rfl, fun R hR => ⟨v, [u], e1, a, u, py d, py.pys ds, j, py ds[j], p1, rfl, ?_, va_dp le h2 s2, shaped_of s1, shaped_of s2, ?_, hy, fun i z hi hz => ?_, hR⟩⟩
        · rw [← p1]; exact va_dp le h1 s1
        · rw [pys_get, List.getElem?_eq_getElem hj]; rfl
        · rw [pys_get, List.getElem?_eq_getElem (show i < ds.length by omega)] at hz
          have hz' := Option.some.inj hz
          subst hz'
          have h5 := hno i hi
          have h6 : eqD ds[i] d = false := by simpa using h5
          exact h6
    · cases e
  · cases e
end
section
variable {T : Tb} {k : Nat} {c : Sc} {x : Str} {p apos pos : Pos} {e : Expr} {es : List Expr} {wa : WA}
theorem JE.m_count (i : Nat) (ha : JA T k c (e :: es) wa) (hN : c.N[i]? = some x := by rfl) (hv : visB c.sc x = true := by rfl) (hd : (x == ("__debug__" : Str)) = false := by rfl) (hcd : (x == ("__classdict__" : Str)) = false := by rfl)
    (hbase : ∀ env : PySem.Env, attributeBase (.Name x p) "count" env (eval (.Name x p) env) = eval (.Name x p) env := by intro _; rfl)
    (hfew : ∀ env : PySem.Env, ((backTo pos (starEach (e :: es) env)).all (fun x => !x.1) && (backToKw pos (keywordEach [] env)).all (fun x => x.1.isSome)
      && decide ((e :: es).length + ([] : List Keyword).length + (if ([] : List Keyword).isEmpty then 0 else 1) < 30)) = true := by intro _; rfl)
    (hline : (apos.endLine == pos.line) = true := by rfl) (ns : noStar e = true := by rfl) (nss : es.all noStar = true := by rfl) :
    JE T k c (.Call (.Attribute (.Name x p) "count" apos) (e :: es) [] pos) (wMetR "list" i gCount wa) := JE.metR i PySem.F.plainAttrs_list PySem.F.slot_list_count PySem.F.type_list_count (fun X f => by
      obtain ⟨W, f⟩ := f
      have := mt_countD (X := X) (by have := f.room.un; omega)
      rw [f.K] at this; exact this) os_count ha hN hv hd hcd hbase hfew hline ns nss
theorem JE.m_index (i : Nat) (ha : JA T k c (e :: es) wa) (hN : c.N[i]? = some x := by rfl) (hv : visB c.sc x = true := by rfl) (hd : (x == ("__debug__" : Str)) = false := by rfl) (hcd : (x == ("__classdict__" : Str)) = false := by rfl)
    (hbase : ∀ env : PySem.Env, attributeBase (.Name x p) "index" env (eval (.Name x p) env) = eval (.Name x p) env := by intro _; rfl)
    (hfew : ∀ env : PySem.Env, ((backTo pos (starEach (e :: es) env)).all (fun x => !x.1) && (backToKw pos (keywordEach [] env)).all (fun x => x.1.isSome)
      && decide ((e :: es).length + ([] : List Keyword).length + (if ([] : List Keyword).isEmpty then 0 else 1) < 30)) = true := by intro _; rfl)
    (hline : (apos.endLine == pos.line) = true := by rfl) (ns : noStar e = true := by rfl) (nss : es.all noStar = true := by rfl) :
    JE T k c (.Call (.Attribute (.Name x p) "index" apos) (e :: es) [] pos) (wMetR "list" i gIndex wa) := JE.metR i PySem.F.plainAttrs_list PySem.F.slot_list_index PySem.F.type_list_index (fun X f => by
      obtain ⟨W, f⟩ := f
      have := mt_indexD (X := X) (by have := f.room.un; omega)
      rw [f.K] at this; exact this) os_index ha hN hv hd hcd hbase hfew hline ns nss
theorem i_raise {cc : Nat} {env : DL.Env} {K : KS} (h : K.ex cc env) : wRaise cc env K := h
def MetRG (i : Nat) (g : List Val → Option Val) (Q : Val → DL.Env → Prop) (os : List Opd) (env1 : DL.Env) : Prop := ∃ xs res, resolve env1 (.s i :: os) = some xs ∧ g xs = some res ∧ Q res env1
theorem i_metR {ty : String} {i : Nat} {g : List Val → Option Val} {env : DL.Env} {Q : Val → DL.Env → Prop} {ex : XPo} {n : Nat} {d : D} (e : env[i]? = some (some (n, d))) (t : tyD ty d = true) (h : wa env (fun os e => MetRG i g Q os e) ex) : wMetR ty i g wa env Q ex := ⟨⟨n, d, e, t⟩, h⟩
theorem i_mr {i : Nat} {g : List Val → Option Val} {env : DL.Env} {Q : Val → DL.Env → Prop} {os : List Opd} {xs : List Val} {res : Val} (hr : resolve env (.s i :: os) = some xs) (hg : g xs = some res) (h : Q res env) : MetRG i g Q os env := ⟨xs, res, hr, hg, h⟩
theorem i_try {i : Nat} {ct : Nat → Option Bool} {wb : WS} {ws : Addr → Nat → WS} {env : DL.Env} {nx : DL.Env → Prop} {rt : Val → DL.Env → Prop} {ex : XPo} (h : wb env ⟨nx, rt, fun cc env1 => i < env1.length ∧ ∃ b, ct cc = some b ∧
  (b = true → ∀ a, ws a cc (env1.set i (some (0, .ty (.ref a)))) ⟨fun env2 => i < env2.length ∧ nx (unpin a cc (env2.set i none)), rt, fun _ _ => False⟩) ∧ (b = false → ex cc env1)⟩) : wTry i ct wb ws env ⟨nx, rt, ex⟩ := h
end
end DL

namespace DL
open PySem PySem.Spec PyProof.Rows L2
structure ClsK (K : PySem.W.Frag) (C : Addr) : Prop where
  ty : PySem.W.typeIn K (.ref C) = some (.type "type")
  hd : PySem.W.hasDictIn K C = true
structure RaK (K : PySem.W.Frag) (C : Addr) : Prop where
  kp : PySem.W.keepIn K (.ref C) = true
  ex : PySem.W.excIn K C [.type "ValueError", .type "Exception", .type "BaseException", .type "object"] "ValueError.__new__" = true
  sB : PySem.W.subIn K (.ref C) (.type "BaseException") = some true
  ve : PySem.W.subIn K (.ref C) (.type "ValueError") = some true
  hg : PySem.W.findIn K (.ref C) "__getattribute__" = some (some (.builtin "BaseException.__getattribute__"))
  hk : PySem.W.findIn K (.ref C) "__getattr__" = some none
  ha : PySem.W.findIn K (.ref C) "__class__" = some (some (.builtin "object.__class__"))
  hm : PySem.W.mroIn K C (.type "object") = some true
  hn : PySem.W.specialIn K (.builtin "object.__class__") "__get__" = some (some (.builtin "getset_descriptor.__get__"))
  ht : PySem.W.takesIn K (.builtin "object.__class__") = some true
section
variable {K : PySem.W.Frag} {C D : Addr}
theorem ClsK.some (c : ClsK K D) : ((PySem.W.clsIn K D).isSome && PySem.W.typeIn K (.ref D) == some (.type "type")) = true := by
  have h := c.hd
  unfold PySem.W.hasDictIn at h
  obtain ⟨cd, hc, _⟩ := PySem.W.any_some h
  rw [hc, c.ty]; rfl
theorem kit_ref {b : Bool} (c : ClsK K D) (h : PySem.W.subIn K (.ref C) (.ref D) = some b) (ne : b = true ∨ Nat.beq C D = false) : PySem.W.kitOne K (.ref C) (.ref D) = some b := by
  unfold PySem.W.kitOne
  split
  · rename_i e
    rcases ne with rfl | ne
    · rfl
    · have := eq_of_beq e
      cases this
      rw [Nat.beq_refl] at ne; cases ne
  · show (if _ = true then _ else none) = _
    rw [if_pos c.some]; exact h
theorem kit_ve (h : PySem.W.subIn K (.ref C) (.type "ValueError") = some true) : PySem.W.kitOne K (.ref C) (.type "ValueError") = some true := by
  unfold PySem.W.kitOne
  split
  · rfl
  · show (if PySem.W.kitMeta "ValueError" = true then _ else none) = _
    rw [if_pos (by decide +kernel)]; exact h
theorem RaK.exc (r : RaK K C) (c : ClsK K C) : ExcC K C := ⟨r.hg, r.hk, r.sB, c.hd, r.ha, r.hn, r.ht, r.hm⟩
theorem RaK.exf {P : Program} {w : World} {mg : Str → Option Value} {base : Heap} {cl : Nat → Addr} {x : Str} {cc : Nat} (r : RaK K (cl cc)) (c : ClsK K (cl cc)) (g : mg x = some (.ref (cl cc))) : ExF ⟨P, w, K, mg, base, cl⟩ x cc :=
  ⟨g, r.kp, ⟨_, _, _, _, PySem.F.excBase_ValueError, r.ex⟩, r.sB, c.ty⟩
end
end DL

namespace LK
open PySem DL
abbrev dN (gs : List Nat) : List D := gs.map fun (g : Nat) => D.int (g : Int)
abbrev rN (n : Nat) : List Nat := List.range n
def Hand (h : D) : Prop := ∃ a b : Int, h = .lst [.int a, .int b] ∧ 0 ≤ b ∧ b < 2147483648
theorem dN_get {gs : List Nat} {i : Nat} : (dN gs)[i]? = (gs[i]?).map fun (g : Nat) => D.int (g : Int) := by simp [dN]
theorem dN_get' {gs : List Nat} {i g : Nat} (h : gs[i]? = some g) : (dN gs)[i]? = some (.int (g : Int)) := by rw [dN_get, h]; rfl
theorem dN_len {gs : List Nat} : (dN gs).length = gs.length := by simp [dN]
theorem dN_inv {gs : List Nat} {i : Nat} {d : D} (h : (dN gs)[i]? = some d) : ∃ g, gs[i]? = some g ∧ d = .int (g : Int) := by
  rw [dN_get] at h
  cases q : gs[i]? with
  | none => rw [q] at h; cases h
  | some g => rw [q] at h; exact ⟨g, rfl, (Option.some.inj h).symm⟩
theorem dN_toInts {gs : List Nat} : toInts (dN gs) = some (gs.map fun (g : Nat) => (g : Int)) := by
  have := toInts_map (gs.map fun (g : Nat) => (g : Int))
  rwa [List.map_map] at this
theorem rgD_nat (n : Nat) : rgD 0 (n : Int) = dN (rN n) := by
  unfold rgD dN rN
  rw [show ((n : Int) - 0).toNat = n by omega]
  refine List.map_congr_left fun i _ => ?_
  rw [Int.zero_add]
theorem rgD_nat2 (a n : Nat) : rgD (a : Int) (n : Int) = dN ((List.range (n - a)).map fun i => a + i) := by
  unfold rgD dN
  rw [show ((n : Int) - a).toNat = n - a by omega, List.map_map]
  refine List.map_congr_left fun i _ => ?_
  simp
theorem shps_all (n : Nat) : ∀ ds : List D, shp.shps n ds = ds.all (shp n)
  | [] => rfl
  | d :: ds => by rw [shp.shps, shps_all n ds, List.all_cons]
theorem shp_lst {n : Nat} {ds : List D} (h : ∀ d ∈ ds, shp n d = true) : shp (n + 1) (.lst ds) = true := by
  rw [shp, shps_all, List.all_eq_true]; exact h
theorem shp_tup {n : Nat} {ds : List D} (h : ∀ d ∈ ds, shp n d = true) : shp (n + 1) (.tup ds) = true := by
  rw [shp, shps_all, List.all_eq_true]; exact h
theorem shp_int {n : Nat} {i : Int} : shp n (.int i) = true := by rw [shp]
theorem shp_dN {n : Nat} {gs : List Nat} : shp (n + 1) (.lst (dN gs)) = true := shp_lst fun d h => by
  obtain ⟨g, _, rfl⟩ := List.mem_map.mp h
  exact shp_int
theorem shp_dZ {n : Nat} {zs : List Int} : shp (n + 1) (.lst (zs.map D.int)) = true := shp_lst fun d h => by
  obtain ⟨g, _, rfl⟩ := List.mem_map.mp h
  exact shp_int
def plain : D → Bool
  | .non => true
  | .int _ => true
  | .str _ => true
  | .lst ds => plains ds
  | .tup ds => plains ds
  | _ => false
where plains : List D → Bool
  | [] => true
  | d :: ds => plain d && plains ds
theorem plains_all : ∀ ds : List D, plain.plains ds = ds.all plain
  | [] => rfl
  | d :: ds => by rw [plain.plains, plains_all ds, List.all_cons]
theorem eqD_iff (d : D) : ∀ e, plain d = true → plain e = true → (eqD d e = true ↔ d = e) := by
  refine D.rec (motive_1 := fun d => ∀ e, plain d = true → plain e = true → (eqD d e = true ↔ d = e))
    (motive_2 := fun ds => ∀ es, plain.plains ds = true → plain.plains es = true → (PyData.eqvAll (py.pys ds) (py.pys es) = true ↔ ds = es)) ?_ ?_ ?_ ?_ ?_ ?_ ?_ ?_ ?_ ?_ ?_ ?_ ?_ ?_ d
  · intro e _ h; cases e <;> simp_all [eqD, py, PyData.eqv, plain]
  · intro b e h; simp [plain] at h
  · intro i e _ h; cases e <;> simp_all [eqD, py, PyData.eqv, plain]
  · intro i e _ h; cases e <;> simp_all [eqD, py, PyData.eqv, plain]
  · intro ds ih e h h'
    cases e with
    | lst es =>
      simp only [plain] at h h'
      have := ih es h h'
      simp only [eqD, py, PyData.eqv, this, D.lst.injEq]
    | _ => simp_all [eqD, py, PyData.eqv, plain]
  · intro ds ih e h h'
    cases e with
    | tup es =>
      simp only [plain] at h h'
      have := ih es h h'
      simp only [eqD, py, PyData.eqv, this, D.tup.injEq]
    | _ => simp_all [eqD, py, PyData.eqv, plain]
  · intro _ _ _ e h; simp [plain] at h
  · intro _ _ _ e h; simp [plain] at h
  · intro _ e h; simp [plain] at h
  · intro _ e h; simp [plain] at h
  · intro _ e h; simp [plain] at h
  · intro _ e h; simp [plain] at h
  · intro es _ _
    cases es with
    | nil => simp [py.pys, PyData.eqvAll]
    | cons e es => simp [py.pys, PyData.eqvAll]
  · intro d ds h1 h2 es h h'
    cases es with
    | nil => simp [py.pys, PyData.eqvAll]
    | cons e es =>
      simp only [plain.plains, Bool.and_eq_true] at h h'
      simp only [py.pys, PyData.eqvAll, Bool.and_eq_true, List.cons.injEq]
      rw [h2 es h.2 h'.2]
      exact and_congr_left fun _ => h1 e h.1 h'.1
theorem eqD_same {d : D} (h : plain d = true) : eqD d d = true := (eqD_iff d d h h).mpr rfl
theorem eqD_ne {d e : D} (h : plain d = true) (h' : plain e = true) (n : d ≠ e) : eqD d e = false := by
  cases q : eqD d e with
  | false => rfl
  | true => exact absurd ((eqD_iff d e h h').mp q) n
theorem plain_dN {gs : List Nat} : plain (.lst (dN gs)) = true := by
  rw [plain, plains_all, List.all_eq_true]
  intro d h
  obtain ⟨g, _, rfl⟩ := List.mem_map.mp h
  rfl
theorem plain_dZ {gs : List Int} : plain (.lst (gs.map D.int)) = true := by
  rw [plain, plains_all, List.all_eq_true]
  intro d h
  obtain ⟨g, _, rfl⟩ := List.mem_map.mp h
  rfl
theorem isort_rN {gs : List Nat} {n : Nat} (h : gs.Perm (rN n)) : isort (gs.map fun (g : Nat) => (g : Int)) = (rN n).map fun (g : Nat) => (g : Int) := by
  refine (isort_unique (h.symm.map _) ?_).symm
  rw [List.pairwise_map]
  exact List.pairwise_lt_range.imp fun h => by omega
theorem perm_lt {gs : List Nat} {n i g : Nat} (h : gs.Perm (rN n)) (e : gs[i]? = some g) : g < n := by
  have := h.mem_iff.mp (List.mem_of_getElem? e)
  simpa using this
theorem perm_len {gs : List Nat} {n : Nat} (h : gs.Perm (rN n)) : gs.length = n := by
  rw [h.length_eq]; simp
theorem perm_get {gs : List Nat} {n i : Nat} (h : gs.Perm (rN n)) (hi : i < n) : ∃ g, gs[i]? = some g ∧ g < n := by
  have hl := perm_len h
  have e := List.getElem?_eq_getElem (show i < gs.length by omega)
  exact ⟨_, e, perm_lt h e⟩
theorem perm_nodup {gs : List Nat} {n : Nat} (h : gs.Perm (rN n)) : gs.Nodup := h.nodup_iff.mpr List.nodup_range
theorem perm_inj {gs : List Nat} {n i j g : Nat} (h : gs.Perm (rN n)) (e1 : gs[i]? = some g) (e2 : gs[j]? = some g) : i = j := by
  have hi : i < gs.length := by
    rcases Nat.lt_or_ge i gs.length with z | z
    · exact z
    · rw [List.getElem?_eq_none z] at e1; cases e1
  exact (List.getElem?_inj hi (perm_nodup h)).mp (e1.trans e2.symm)
theorem perm_find {gs : List Nat} {n g : Nat} (h : gs.Perm (rN n)) (hg : g < n) : ∃ i, gs[i]? = some g ∧ i < n := by
  have : g ∈ gs := h.mem_iff.mpr (by simpa using hg)
  obtain ⟨i, e⟩ := List.mem_iff_getElem?.mp this
  have hi : i < gs.length := by
    rcases Nat.lt_or_ge i gs.length with z | z
    · exact z
    · rw [List.getElem?_eq_none z] at e; cases e
  exact ⟨i, e, by rw [perm_len h] at hi; exact hi⟩
theorem itF {b : Bool} {A B : Prop} (h : b = false) (k : B) : if b = true then A else B := by rw [h]; exact k
theorem itT {b : Bool} {A B : Prop} (h : b = true) (k : A) : if b = true then A else B := by rw [h]; exact k
theorem bxor_nat (a b : Nat) : Builtin.bitXor (a : Int) (b : Int) = ((a ^^^ b : Nat) : Int) := by
  rw [Bits.bitXor_pp (by omega) (by omega)]; rfl
theorem band_nat (a b : Nat) : Builtin.bitAnd (a : Int) (b : Int) = ((a &&& b : Nat) : Int) := by
  rw [PyProof.Rows.bitAnd_pp (by omega) (by omega)]; rfl
end LK

namespace LK
open PySem PySem.Spec PyProof.Rows L2 DL
theorem xx (a b : Nat) : (a ^^^ b) ^^^ b = a := by rw [Nat.xor_assoc, Nat.xor_self, Nat.xor_zero]
theorem xne {a b : Nat} (h : 0 < b) : a ^^^ b ≠ a := fun e => by
  have : a ^^^ (a ^^^ b) = a ^^^ a := by rw [e]
  rw [← Nat.xor_assoc, Nat.xor_self, Nat.zero_xor] at this
  omega
abbrev KI (g : Nat) : L2.Key := Sum.inl (g : Int)
abbrev kN (gs : List Nat) : List L2.Key := gs.map KI
abbrev prs (k : Nat) (gs : List Nat) : List D := (gs.zipIdx k).map fun p => .tup [.int (p.1 : Nat), .int (p.2 : Nat)]
theorem enumD_dN {gs : List Nat} {i : Nat} {d : D} (h : (enumD (dN gs))[i]? = some d) : ∃ g, gs[i]? = some g ∧ d = .tup [.int (i : Nat), .int (g : Nat)] := by
  rw [enumD_get, dN_get] at h
  cases q : gs[i]? with
  | none => rw [q] at h; cases h
  | some g => rw [q] at h; exact ⟨g, rfl, (Option.some.inj h).symm⟩
theorem prs_get {gs : List Nat} {i g : Nat} (h : gs[i]? = some g) : (prs 0 gs)[i]? = some (.tup [.int (g : Nat), .int (i : Nat)]) := by
  unfold prs
  rw [List.getElem?_map, List.getElem?_zipIdx, h]
  simp
theorem prs_len {gs : List Nat} : (prs 0 gs).length = gs.length := by simp [prs]
theorem take_next {α : Type} {l : List α} {i : Nat} {x : α} (h : l[i]? = some x) : l.take i ++ [x] = l.take (i + 1) := by
  rw [List.take_add_one, h]; rfl
theorem lt_of_get {α : Type} {l : List α} {i : Nat} {x : α} (h : l[i]? = some x) : i < l.length := by
  rcases Nat.lt_or_ge i l.length with z | z
  · exact z
  · rw [List.getElem?_eq_none z] at h; cases h
theorem g_ixK {n m : Nat} {ks : List L2.Key} {ds : List D} {i : Int} {x : D} (h : lookD ks ds (Sum.inl i) = some x) : gIx [(n, .dk ks ds), (m, .int i)] = some (0, x) := by
  have h1 : gIxS [(n, .dk ks ds), (m, .int i)] = none := by
    cases n <;> rfl
  have h2 : gIxD [(n, .dk ks ds), (m, .int i)] = some (0, x) := by
    show (match (keyOf (.int i)).map (fun k => lookD ks ds k) with | some (some x) => some (0, x) | _ => none) = _
    show (match some (lookD ks ds (Sum.inl i)) with | some (some x) => some (0, x) | _ => none) = _
    rw [h]
  show (gIxS _ <|> gIxD _) = _
  rw [h1, h2]; rfl
theorem setD_nat {ds : List D} {p : Nat} {d : D} (h : p < ds.length) : setD (.lst ds) (.int (p : Int)) d = some (.lst (ds.set p d)) := by
  show (ixN ds.length (p : Int)).map _ = _
  rw [ixN_nat h]; rfl
theorem g_cutDrop {n a : Nat} {ds : List D} (h : n ≤ 1) (ha : a ≤ ds.length) : gCut (n, .lst ds) (some (a : Int)) none = some (1, .lst (ds.drop a)) := by
  show (if n ≤ 1 then some ((1 : Nat), D.lst (DL.cutD ds (some (a : Int)) none)) else none) = _
  rw [if_pos h]
  unfold DL.cutD
  rw [HT.sIx_nat, HT.sIx_none, Nat.min_eq_left ha, List.take_of_length_le (by simp)]
theorem g_cutTake {n a : Nat} {ds : List D} (h : n ≤ 1) : gCut (n, .lst ds) none (some (a : Int)) = some (1, .lst (ds.take a)) := by
  show (if n ≤ 1 then some ((1 : Nat), D.lst (DL.cutD ds none (some (a : Int)))) else none) = _
  rw [if_pos h]
  unfold DL.cutD
  rw [HT.sIx_nat, HT.sIx_none, List.drop_zero, Nat.sub_zero]
  congr 3
  by_cases q : a ≤ ds.length
  · rw [Nat.min_eq_left q]
  · rw [Nat.min_eq_right (by omega), List.take_of_length_le (Nat.le_refl _), List.take_of_length_le (by omega)]
theorem erase_map {gs : List Nat} {t : Nat} : (dN gs).eraseIdx t = dN (gs.eraseIdx t) := by
  induction gs generalizing t with
  | nil => rfl
  | cons g gs ih =>
    cases t with
    | zero => rfl
    | succ t => exact congrArg (D.int (g : Int) :: ·) ih
theorem m_pop {left : List Nat} {t g : Nat} (h : left[t]? = some g) (hl : left.length ≤ 1000000) : onL lPopAt (.lst (dN left)) [.int (t : Int)] = some (.int (g : Int), .lst (dN (left.eraseIdx t))) := by
  have ht := lt_of_get h
  have e : lPopAt (dN left) [.int (t : Int)] = some (.int (g : Int), dN (left.eraseIdx t)) := by
    have ha : -(2 ^ 63) ≤ (t : Int) ∧ (t : Int) < 2 ^ 63 := by omega
    simp only [lPopAt, if_pos ha, ixN_nat (show t < (dN left).length by rw [dN_len]; exact ht), dN_get' h, Option.map_some, erase_map]
  show (lPopAt (dN left) [.int (t : Int)]).map _ = _
  rw [e]; rfl
theorem m_app {ds : List D} {d : D} (h : ds.length < 16777216) : onL lApp (.lst ds) [d] = some (.non, .lst (ds ++ [d])) := by
  have e : lApp ds [d] = some (.non, ds ++ [d]) := if_pos h
  show (lApp ds [d]).map _ = _
  rw [e]; rfl
theorem pop_perm {left : List Nat} {t g : Nat} (h : left[t]? = some g) : left.Perm (g :: left.eraseIdx t) := by
  induction left generalizing t with
  | nil => simp at h
  | cons a l ih =>
    cases t with
    | zero => simp at h; subst h; simp
    | succ t =>
      have := ih (t := t) (by simpa using h)
      exact (this.cons a).trans (.swap _ _ _)
theorem perm_xor {n t : Nat} (hx : ∀ p q, p < n → q < n → p ^^^ q < n) (ht : t < n) : ((rN n).map (· ^^^ t)).Perm (rN n) := by
  refine (List.perm_ext_iff_of_nodup ?_ List.nodup_range).mpr fun a => ?_
  · rw [List.Nodup, List.pairwise_map]
    refine List.nodup_range.imp fun {x y} h e => h ?_
    have := congrArg (· ^^^ t) e
    simpa [xx] using this
  · simp only [List.mem_map, List.mem_range]
    constructor
    · rintro ⟨x, h, rfl⟩; exact hx _ _ h ht
    · intro h; exact ⟨a ^^^ t, hx _ _ h ht, xx a t⟩
theorem g_sortN {n : Nat} {gs : List Nat} {k : Nat} (h : gs.Perm (rN n)) (hk : k ≤ 1) : gSortI [(k, .lst (dN gs))] = some (1, .lst (dN (rN n))) := by
  show (if k ≤ 1 then (toInts (dN gs)).map _ else none) = _
  rw [if_pos hk, dN_toInts]
  show some ((1 : Nat), D.lst ((isort (gs.map fun (g : Nat) => (g : Int))).map D.int)) = _
  rw [isort_rN h, List.map_map]; rfl
theorem two_pow {s : Nat} : (2 ^ s : Nat) &&& (2 ^ s - 1) = 0 := by
  rw [Nat.and_two_pow_sub_one_eq_mod, Nat.mod_self]
end LK

namespace LK
open PySem DL
structure Marks (n b : Nat) (gs ms : List Nat) : Prop where
  len : ms.length = n
  two : ∀ m ∈ ms, m < 2
  at_ : ∀ (p x y : Nat), ms[p]? = some x → ms[p ^^^ b]? = some y → x ≠ y
  home : ∀ (p q g x y : Nat), gs[p]? = some g → gs[q]? = some (g ^^^ b) → ms[p]? = some x → ms[q]? = some y → x ≠ y
structure Bit (n b : Nat) : Prop where
  pos : 0 < b
  lt : ∀ p, p < n → p ^^^ b < n
abbrev dM (ms : List (Option Nat)) : List D := ms.map fun
  | none => D.non
  | some v => D.int (v : Int)
abbrev mk (ms : List (Option Nat)) (x v : Nat) : Prop := ms[x]? = some (some v)
def Wr (b : Nat) (gs : List Nat) (x y : Nat) : Prop := ∃ g, gs[x]? = some g ∧ gs[y]? = some (g ^^^ b)
section
variable {n b : Nat} {gs : List Nat} {ms : List (Option Nat)}
theorem Wr.symm {x y : Nat} (h : Wr b gs x y) : Wr b gs y x := by
  obtain ⟨g, h1, h2⟩ := h
  exact ⟨g ^^^ b, h2, by rw [xx]; exact h1⟩
theorem Wr.fn (hp : gs.Perm (rN n)) {x y z : Nat} (h : Wr b gs x y) (h' : Wr b gs x z) : y = z := by
  obtain ⟨g, h1, h2⟩ := h
  obtain ⟨g', h3, h4⟩ := h'
  rw [h1] at h3
  have e : g = g' := Option.some.inj h3
  subst e
  exact perm_inj hp h2 h4
theorem Wr.ne (hp : gs.Perm (rN n)) (hb : 0 < b) {x y : Nat} (h : Wr b gs x y) : x ≠ y := fun e => by
  obtain ⟨g, h1, h2⟩ := h
  subst e
  rw [h1] at h2
  exact xne hb (Option.some.inj h2).symm
structure BC (b : Nat) (ms : List (Option Nat)) : Prop where
  at_ : ∀ x v, mk ms x v → v < 2 ∧ mk ms (x ^^^ b) (1 - v)
def Closed (b : Nat) (gs : List Nat) (ms : List (Option Nat)) : Prop := BC b ms ∧ ∀ x y v, mk ms x v → Wr b gs x y → mk ms y (1 - v)
def Opn (b : Nat) (gs : List Nat) (ms : List (Option Nat)) (s p : Nat) : Prop := BC b ms ∧ ∃ q, mk ms s 0 ∧ mk ms q 1 ∧ Wr b gs q p ∧ ∀ x y v, mk ms x v → x ≠ s → x ≠ q → Wr b gs x y → mk ms y (1 - v) ∧ y ≠ s ∧ y ≠ q
abbrev put2 (b : Nat) (ms : List (Option Nat)) (p : Nat) : List (Option Nat) := (ms.set p (some 0)).set (p ^^^ b) (some 1)
theorem put2_get (hb : Bit n b) (hl : ms.length = n) {p x : Nat} (hp : p < n) : (put2 b ms p)[x]? = if x = p ^^^ b then some (some 1) else if x = p then some (some 0) else ms[x]? := by
  unfold put2
  by_cases h1 : x = p ^^^ b
  · subst h1
    rw [if_pos rfl, List.getElem?_set_self (by rw [List.length_set, hl]; exact hb.lt p hp)]
  · rw [if_neg h1, List.getElem?_set_ne (Ne.symm h1)]
    by_cases h2 : x = p
    · subst h2
      rw [if_pos rfl, List.getElem?_set_self (by rw [hl]; exact hp)]
    · rw [if_neg h2, List.getElem?_set_ne (Ne.symm h2)]
theorem mk_put (hb : Bit n b) (hl : ms.length = n) {p x v : Nat} (hp : p < n) : mk (put2 b ms p) x v ↔ (x = p ^^^ b ∧ v = 1) ∨ (x = p ∧ x ≠ p ^^^ b ∧ v = 0) ∨ (x ≠ p ∧ x ≠ p ^^^ b ∧ mk ms x v) := by
  unfold mk
  rw [put2_get hb hl hp]
  by_cases h1 : x = p ^^^ b
  · simp [h1]; exact eq_comm
  · by_cases h2 : x = p
    · subst h2
      simp [h1]; exact eq_comm
    · simp [h1, h2]
theorem un_b {p : Nat} (hc : BC b ms) (hu : ∀ v, ¬ mk ms p v) : ∀ v, ¬ mk ms (p ^^^ b) v := fun v h => by
  have := (hc.at_ _ _ h).2
  rw [xx] at this
  exact hu _ this
theorem bc_put (hb : Bit n b) (hl : ms.length = n) {p : Nat} (hp : p < n) (hc : BC b ms) (hu : ∀ v, ¬ mk ms p v) : BC b (put2 b ms p) := ⟨fun x v h => by
  have np := xne (a := p) hb.pos
  rw [mk_put hb hl hp] at h
  rcases h with ⟨rfl, rfl⟩ | ⟨rfl, _, rfl⟩ | ⟨h1, h2, h3⟩
  · refine ⟨by decide, (mk_put hb hl hp).mpr (.inr (.inl ?_))⟩
    rw [xx]
    exact ⟨rfl, np.symm, rfl⟩
  · exact ⟨by decide, (mk_put hb hl hp).mpr (.inl ⟨rfl, rfl⟩)⟩
  · obtain ⟨h4, h5⟩ := hc.at_ _ _ h3
    refine ⟨h4, (mk_put hb hl hp).mpr (.inr (.inr ⟨fun e => ?_, fun e => ?_, h5⟩))⟩
    · rw [e] at h5; exact hu _ h5
    · apply h1
      have := congrArg (· ^^^ b) e
      simpa [xx] using this⟩
theorem closed_put (hb : Bit n b) (hl : ms.length = n) {p p' : Nat} (hp : p < n) (hc : Closed b gs ms) (hu : ∀ v, ¬ mk ms p v) (hw : Wr b gs (p ^^^ b) p') : Opn b gs (put2 b ms p) p p' := by
  have np := xne (a := p) hb.pos
  have hu2 := un_b hc.1 hu
  refine ⟨bc_put hb hl hp hc.1 hu, p ^^^ b, (mk_put hb hl hp).mpr (.inr (.inl ⟨rfl, np.symm, rfl⟩)), (mk_put hb hl hp).mpr (.inl ⟨rfl, rfl⟩), hw, fun x y v h h1 h2 h3 => ?_⟩
  rw [mk_put hb hl hp] at h
  rcases h with ⟨e, _⟩ | ⟨e, _⟩ | ⟨_, _, h⟩
  · exact absurd e h2
  · exact absurd e h1
  · have hy := hc.2 x y v h h3
    have n1 : y ≠ p := fun e => by subst e; exact hu _ hy
    have n2 : y ≠ p ^^^ b := fun e => by subst e; exact hu2 _ hy
    exact ⟨(mk_put hb hl hp).mpr (.inr (.inr ⟨n1, n2, hy⟩)), n1, n2⟩
theorem opn_put (hg : gs.Perm (rN n)) (hb : Bit n b) (hl : ms.length = n) {s p p' : Nat} (hp : p < n) (hc : Opn b gs ms s p) (hu : ∀ v, ¬ mk ms p v) (hw : Wr b gs (p ^^^ b) p') : Opn b gs (put2 b ms p) s p' := by
  have np := xne (a := p) hb.pos
  obtain ⟨bc, q, ms0, mq, wq, hr⟩ := hc
  have hu2 := un_b bc hu
  have s1 : s ≠ p := fun e => by subst e; exact hu _ ms0
  have s2 : s ≠ p ^^^ b := fun e => by subst e; exact hu2 _ ms0
  have q1 : q ≠ p := fun e => by subst e; exact hu _ mq
  have q2 : q ≠ p ^^^ b := fun e => by subst e; exact hu2 _ mq
  have qs : q ≠ s := fun e => by subst e; rw [mk, ms0] at mq; cases mq
  refine ⟨bc_put hb hl hp bc hu, p ^^^ b, (mk_put hb hl hp).mpr (.inr (.inr ⟨s1, s2, ms0⟩)), (mk_put hb hl hp).mpr (.inl ⟨rfl, rfl⟩), hw, fun x y v h h1 h2 h3 => ?_⟩
  rw [mk_put hb hl hp] at h
  rcases h with ⟨e, _⟩ | ⟨e, _, e2⟩ | ⟨_, _, h⟩
  · exact absurd e h2
  · subst e e2
    have : y = q := Wr.fn hg h3 wq.symm
    subst this
    exact ⟨(mk_put hb hl hp).mpr (.inr (.inr ⟨q1, q2, mq⟩)), qs, q2⟩
  · by_cases xq : x = q
    · subst xq
      have : y = p := Wr.fn hg h3 wq
      subst this
      have ev : v = 1 := by rw [mk, mq] at h; exact (Option.some.inj (Option.some.inj h)).symm
      subst ev
      exact ⟨(mk_put hb hl hp).mpr (.inr (.inl ⟨rfl, np.symm, rfl⟩)), s1.symm, np.symm⟩
    · obtain ⟨hy, y1, y2⟩ := hr x y v h h1 xq h3
      have n1 : y ≠ p := fun e => by subst e; exact hu _ hy
      have n2 : y ≠ p ^^^ b := fun e => by subst e; exact hu2 _ hy
      exact ⟨(mk_put hb hl hp).mpr (.inr (.inr ⟨n1, n2, hy⟩)), y1, n2⟩
theorem opn_end (hg : gs.Perm (rN n)) (hb : Bit n b) {s p v : Nat} (hc : Opn b gs ms s p) (hm : mk ms p v) : Closed b gs ms := by
  obtain ⟨bc, q, ms0, mq, wq, hr⟩ := hc
  have qs : q ≠ s := fun e => by subst e; rw [mk, ms0] at mq; cases mq
  have pq : q ≠ p := Wr.ne hg hb.pos wq
  have ps : p = s := Decidable.byContradiction fun ne => (hr p q v hm ne pq.symm wq.symm).2.2 rfl
  subst ps
  refine ⟨bc, fun x y u h hw => ?_⟩
  by_cases e1 : x = p
  · subst e1
    have : y = q := Wr.fn hg hw wq.symm
    subst this
    have eu : u = 0 := by rw [mk, ms0] at h; exact (Option.some.inj (Option.some.inj h)).symm
    subst eu; exact mq
  · by_cases e2 : x = q
    · subst e2
      have : y = p := Wr.fn hg hw wq
      subst this
      have eu : u = 1 := by rw [mk, mq] at h; exact (Option.some.inj (Option.some.inj h)).symm
      subst eu; exact ms0
    · exact (hr x y u h e1 e2 hw).1
def unm (ms : List (Option Nat)) : Nat := (ms.filter fun x => x.isNone).length
theorem unm_set {ms : List (Option Nat)} {p v : Nat} : unm (ms.set p (some v)) ≤ unm ms ∧ (ms[p]? = some none → unm (ms.set p (some v)) < unm ms) := by
  induction ms generalizing p with
  | nil => simp [unm]
  | cons m ms ih =>
    cases p with
    | zero => cases m <;> simp [unm]
    | succ p =>
      obtain ⟨h1, h2⟩ := ih (p := p)
      unfold unm at h1 h2
      cases m <;> simp_all [unm]
theorem dM_set {p v : Nat} : (dM ms).set p (.int (v : Int)) = dM (ms.set p (some v)) := by
  unfold dM
  rw [List.map_set]
theorem dM_get {p : Nat} : (dM ms)[p]? = (ms[p]?).map fun
  | none => D.non
  | some v => D.int (v : Int) := by unfold dM; rw [List.getElem?_map]
theorem marks_end (hb : Bit n b) (hl : ms.length = n) (hc : Closed b gs ms) (ha : ∀ x, x < n → ∃ v, mk ms x v) : ∃ rs, dM ms = dN rs ∧ Marks n b gs rs := by
  have key : ∀ ms : List (Option Nat), (∀ x, x < ms.length → ∃ v, mk ms x v) → ∃ rs : List Nat, ms = rs.map some := by
    intro ms
    induction ms with
    | nil => intro _; exact ⟨[], rfl⟩
    | cons m ms ih =>
      intro h
      obtain ⟨v, hv⟩ := h 0 (by simp)
      obtain ⟨rs, e⟩ := ih fun x hx => by
        obtain ⟨u, hu⟩ := h (x + 1) (by simp; omega)
        exact ⟨u, by simpa [mk] using hu⟩
      have : m = some v := by simpa [mk] using hv
      exact ⟨v :: rs, by rw [this, e]; rfl⟩
  obtain ⟨rs, e⟩ := key ms (by rw [hl]; exact ha)
  subst e
  have mk_iff : ∀ x v, mk (rs.map some) x v ↔ rs[x]? = some v := fun x v => by
    unfold mk
    rw [List.getElem?_map]
    cases rs[x]? <;> simp
  refine ⟨rs, by unfold dM dN; rw [List.map_map]; rfl, by simpa using hl, fun m hm => ?_, fun p x y h1 h2 => ?_, fun p q g x y g1 g2 h1 h2 => ?_⟩
  · obtain ⟨x, hx⟩ := List.mem_iff_getElem?.mp hm
    exact (hc.1.at_ x m ((mk_iff _ _).mpr hx)).1
  · obtain ⟨h3, h4⟩ := hc.1.at_ p x ((mk_iff _ _).mpr h1)
    have := (mk_iff _ _).mp h4
    rw [h2] at this
    have := Option.some.inj this
    omega
  · have h3 := (hc.1.at_ p x ((mk_iff _ _).mpr h1)).1
    have h4 := hc.2 p q x ((mk_iff _ _).mpr h1) ⟨g, g1, g2⟩
    have := (mk_iff _ _).mp h4
    rw [h2] at this
    have := Option.some.inj this
    omega
theorem mergeD_prs : ∀ {gs as : List Nat} {k : Nat}, (as ++ gs).Nodup → ∀ vs : List D, mergeD (kN as, vs) (prs k gs) = some (kN (as ++ gs), vs ++ dN ((List.range gs.length).map (k + ·)))
  | [], as, k, h, vs => by simp [mergeD, prs]
  | g :: gs, as, k, h, vs => by
    have hn : hasK (kN as) (KI g) = false := by
      rw [List.nodup_append] at h
      unfold hasK
      rw [List.any_eq_false]
      intro x hx
      obtain ⟨a, ha, rfl⟩ := List.mem_map.mp hx
      simp only [decide_eq_true_eq, Sum.inl.injEq]
      intro e
      exact h.2.2 a ha g (by simp) (by omega)
    show mergeD (kN as, vs) (.tup [.int (g : Int), .int (k : Int)] :: prs (k + 1) gs) = _
    unfold mergeD
    show mergeD (putM (kN as, vs) (KI g) (.int (k : Int))) (prs (k + 1) gs) = _
    unfold putM
    rw [hn, if_neg Bool.false_ne_true]
    have h' : ((as ++ [g]) ++ gs).Nodup := by simpa using h
    have := mergeD_prs (k := k + 1) h' (vs ++ [.int (k : Int)])
    rw [show kN as ++ [KI g] = kN (as ++ [g]) by simp [kN]]
    rw [this]
    refine congrArg some (Prod.ext (by simp) ?_)
    simp only [List.append_assoc, List.length_cons, List.range_succ_eq_map, List.map_cons, List.map_map, dN, List.singleton_append]
    congr 1
    simp only [Nat.add_zero, List.cons.injEq, true_and]
    refine List.map_congr_left fun i _ => ?_
    simp only [Function.comp]
    congr 1
    omega
theorem lookD_at : ∀ {gs : List Nat} {vs : List D} {p g : Nat} {d : D}, gs.Nodup → gs[p]? = some g → vs[p]? = some d → lookD (kN gs) vs (KI g) = some d
  | [], vs, p, g, d, _, h, _ => by simp at h
  | a :: gs, [], p, g, d, _, _, h => by simp at h
  | a :: gs, v :: vs, 0, g, d, hn, h, h' => by
    have e1 : a = g := by simpa using h
    have e2 : v = d := by simpa using h'
    subst e1 e2
    show lookD (KI a :: kN gs) (v :: vs) (KI a) = some v
    simp [lookD]
  | a :: gs, v :: vs, p + 1, g, d, hn, h, h' => by
    rw [List.nodup_cons] at hn
    have h1 : gs[p]? = some g := by simpa using h
    have h2 : vs[p]? = some d := by simpa using h'
    have hne : a ≠ g := fun e => hn.1 (e ▸ List.mem_of_getElem? h1)
    show lookD (KI a :: kN gs) (v :: vs) (KI g) = some d
    unfold lookD
    rw [if_neg (by simp; omega)]
    exact lookD_at hn.2 h1 h2
end
end LK

namespace LK
open PySem DL
abbrev dZ (zs : List Int) : List D := zs.map D.int
abbrev rZ (n : Nat) : List Int := (rN n).map fun (g : Nat) => (g : Int)
def sp__law_hand : FSp := fun ds Q E => ∃ z : Int, ds = [.int z] ∧ ∀ h, Hand h → Q (1, h) []
def sp__law_take : FSp := fun ds Q E => ∃ h m, ds = [h, .int m] ∧ Hand h ∧ 0 < m ∧ m ≤ 1000000000000000000000000000000 ∧ ∀ (t : Nat) h', (t : Int) < m → Hand h' → Q (0, .int t) [h']
def sp__law_shuffled : FSp := fun ds Q E => ∃ h, ∃ m : Nat, ds = [h, .int m] ∧ Hand h ∧ m ≤ 100000 ∧ ∀ (gs : List Nat) h', gs.Perm (rN m) → Hand h' → Q (1, .lst (dN gs)) [h']
def sp__law_things : FSp := fun ds Q E => ∃ h, ∃ s : Nat, ds = [h, .int ((2 ^ s : Nat) : Int)] ∧ Hand h ∧ s ≤ 16 ∧ ∀ (gs : List Nat) h', gs.Perm (rN (2 ^ s)) → Hand h' → Q (1, .lst (dN gs)) [h']
def allOf (zs : List Int) (n : Nat) : Bool := decide (isort zs = rZ n)
def tst (zs : List Int) : Bool := decide (zs.length ≠ 0) && (decide (zs.length &&& (zs.length - 1) = 0) && allOf zs zs.length)
def sp_are_things : FSp := fun ds Q E => ∃ (n : Nat) (zs : List Int), ds = [.int n, .lst (dZ zs)] ∧ n ≤ 100000 ∧ Q (0, .bl (allOf zs n)) []
def sp_need_cube : FSp := fun ds Q E => ∃ zs : List Int, ds = [.lst (dZ zs)] ∧ zs.length ≤ 100000 ∧ (tst zs = true → Q (0, .non) []) ∧ (tst zs = false → E 3)
def sp_marks_by : FSp := fun ds Q E => ∃ (n b : Nat) (gs : List Nat), ds = [.lst (dN gs), .int b] ∧ n ≤ 100000 ∧ Bit n b ∧ gs.Perm (rN n) ∧ ∀ ms, Marks n b gs ms → Q (1, .lst (dN ms)) []
def sp_halves_of : FSp := fun ds Q E => ∃ zs : List Int, ds = [.lst (dZ zs)] ∧ zs.length ≤ 100000 ∧ (tst zs = false → E 3) ∧ (tst zs = true → zs.length = 1 → E 1) ∧ (tst zs = true → zs.length ≠ 1 → ∀ ms : List Nat, Q (1, .lst (dN ms)) [])
def kind (zs : List Int) : Str := if tst zs = false then "NoThings" else if zs.length = 1 then "NoWeb" else "told"
def sp__law_kind : FSp := fun ds Q E => ∃ zs : List Int, ds = [.lst (dZ zs)] ∧ zs.length ≤ 100000 ∧ Q (0, .str (kind zs)) []
def sp__law_near : FSp := fun ds Q E => ∃ h, ∃ zs : List Int, ds = [h, .lst (dZ zs)] ∧ Hand h ∧ 0 < zs.length ∧ zs.length ≤ 100000 ∧ ∀ (as bs cs : List Int) h', as.length = zs.length → bs.length = zs.length → cs.length = zs.length → Hand h' → Q (1, .lst [.lst (dZ as), .lst (dZ bs), .lst (dZ cs)]) [h']
def sp_law : FSp := fun ds Q E => ∃ ns : List Int, ds = [.scr ns] ∧ Q (0, .bl true) []
end LK

namespace LK
open PySem PySem.Spec PyProof.Rows L2 DL
def sub3_1 : Nat → Option Bool
  | 0 => some true
  | 1 => some true
  | 2 => some false
  | 3 => some false
  | 4 => some false
  | 5 => some false
  | 6 => some false
  | 7 => some false
  | 8 => some false
  | 9 => some false
  | 10 => some false
  | _ => none
def sub3_3 : Nat → Option Bool
  | 0 => some true
  | 1 => some false
  | 2 => some false
  | 3 => some true
  | 4 => some false
  | 5 => some false
  | 6 => some false
  | 7 => some false
  | 8 => some false
  | 9 => some false
  | 10 => some false
  | _ => none
def sub3 : Nat → Nat → Option Bool
  | 1, m => sub3_1 m
  | 3, m => sub3_3 m
  | _, _ => none
def topS (i : Nat) : Stmt := PySem.Challenge.pw_ledhome_k47_no_things_of_a_cube.main.body.getD i (.Pass ⟨0, 0, 0, 0⟩)
abbrev s_are_things : Stmt := topS 13
abbrev n_are_things : List Str := ["many", "things"]
theorem sc_are_things : FnScope n_are_things ["many", "things"] (defScope s_are_things) := ⟨rfl, rfl, rfl, by decide +kernel, rfl, by decide +kernel, by decide +kernel⟩
abbrev ms_are_things : List Nat := [0, 0]
def w_are_things : WS := (wRet (wOp gEq (a2 (iVal (wOp gSortI (aCons (iSlot 1) aNil))) (iVal (wLR1 (iSlot 0))))))
theorem j_are_things {T : Tb} {k : Nat} (m_list : T.mg "list" = none) (m_range : T.mg "range" = none) (m_sorted : T.mg "sorted" = none) : JB T k ⟨n_are_things, defScope s_are_things, fun _ => true, false, none⟩ (mutS ms_are_things) (defBody s_are_things) w_are_things :=
  (JB.one (JS.ret (JE.eq (JI.val (JE.c_sortI m_sorted (JA.cons (JI.slot 1) JA.nil))) (JI.val (JE.listRg1 m_list m_range (JI.slot 0))))))
abbrev s_marks_by : Stmt := topS 15
abbrev n_marks_by : List Str := ["goals", "bit", "where", "marks", "start", "place", "beside", "goal"]
theorem sc_marks_by : FnScope n_marks_by ["goals", "bit"] (defScope s_marks_by) := ⟨rfl, rfl, rfl, by decide +kernel, rfl, by decide +kernel, by decide +kernel⟩
abbrev ms_marks_by : List Nat := [0, 0]
def w_marks_by : WS := (wSeq (wAsg 2 false (wOp gDictP (aCons (iVal (wLc [5, 7] (itE (aCons (iVal (wVar 0)) aNil)) (gTp [5, 7]) wTrue (wOp DL.gTup (aCons (iVal (wVar 7)) (aCons (iVal (wVar 5)) aNil))) 0)) aNil)))
    (wSeq (wAsg 3 true (wOp gMul (a2 (iVal (wOp DL.gLst (aCons (iVal (wC .non)) aNil))) (iVal (wOp gLen (aCons (iSlot 0) aNil))))))
    (wSeq (wFor (itR1 (aCons (iVal (wOp gLen (aCons (iSlot 0) aNil))) aNil)) (gNm 4) (wSeq (wAsg 5 false (wVar 4))
    (wWhile (wTst (wOp gIsN (a2 (iVal (wOp gIx (a2 (iSlot 3) (iSlot 5)))) (iVal (wC .non))))) (wSeq (wAsg 6 false (wOp gXor (a2 (iSlot 5) (iSlot 1))))
    (wSeq (wAsgG (wC (.int 0)) (gSet 3 (iSlot 5)))
    (wSeq (wAsgG (wC (.int 1)) (gSet 3 (iSlot 6)))
    (wAsg 5 false (wOp gIx (a2 (iSlot 2) (iVal (wOp gXor (a2 (iVal (wOp gIx (a2 (iSlot 0) (iSlot 6)))) (iSlot 1)))))))))))))
    (wRet (wMov 3)))))
theorem j_marks_by {T : Tb} {k : Nat} (m_dict : T.mg "dict" = none) (m_enumerate : T.mg "enumerate" = none) (m_len : T.mg "len" = none) (m_range : T.mg "range" = none) : JB T k ⟨n_marks_by, defScope s_marks_by, fun _ => true, false, none⟩ (mutS ms_marks_by) (defBody s_marks_by) w_marks_by :=
  (JB.cons (JS.asg 2 false (JE.c_dictP m_dict (JA.cons (JI.val (JE.lc [("place", 5), ("goal", 7)] 0 (JIt.enum m_enumerate (JA.cons (JI.val (JE.var 0)) JA.nil)) (JG.tup (JGs.cons 5 (JGs.cons 7 JGs.nil))) JTs.nil (JE.tup (JA.cons (JI.val (JE.var 7)) (JA.cons (JI.val (JE.var 5)) JA.nil))))) JA.nil)))
    (JB.cons (JS.asg 3 true (JE.mul (JI.val (JE.lst (JA.cons (JI.val JE.non) JA.nil))) (JI.val (JE.c_len m_len (JA.cons (JI.slot 0) JA.nil)))))
    (JB.cons (JS.for (JIt.range1 m_range (JA.cons (JI.val (JE.c_len m_len (JA.cons (JI.slot 0) JA.nil))) JA.nil)) (JG.name 4) (JB.cons (JS.asg 5 false (JE.var 4))
    (JB.one (JS.while (JT.isn (JI.val (JE.get (JI.slot 3) (JI.slot 5))) (JI.val JE.non)) (JB.cons (JS.asg 6 false (JE.bxor (JI.slot 5) (JI.slot 1)))
    (JB.cons (JS.asgG JE.int (JG.item 3 (JI.slot 5)))
    (JB.cons (JS.asgG JE.int (JG.item 3 (JI.slot 6)))
    (JB.one (JS.asg 5 false (JE.get (JI.slot 2) (JI.val (JE.bxor (JI.val (JE.get (JI.slot 0) (JI.slot 6))) (JI.slot 1)))))))))))))
    (JB.one (JS.ret (JE.mov 3))))))
abbrev s_need_cube : Stmt := topS 16
abbrev n_need_cube : List Str := ["things", "many"]
theorem sc_need_cube : FnScope n_need_cube ["things"] (defScope s_need_cube) := ⟨rfl, rfl, rfl, by decide +kernel, rfl, by decide +kernel, by decide +kernel⟩
abbrev ms_need_cube : List Nat := [0]
def w_need_cube : WS := (wSeq (wAsg 1 false (wOp gLen (aCons (iSlot 0) aNil)))
    (wIfS (wRoT (wOr (wTst (wOp gEq (a2 (iSlot 1) (iVal (wC (.int 0)))))) (wOr (wTst (wOp gNe (a2 (iVal (wOp gAnd (a2 (iSlot 1) (iVal (wOp gSub (a2 (iSlot 1) (iVal (wC (.int 1))))))))) (iVal (wC (.int 0)))))) (wNot (wTst (wCall sp_are_things [0, 0] (aCons (iVal (wVar 1)) (aCons (iVal (wVar 0)) aNil)))))))) (wRaise 3) wNext))
theorem j_need_cube {T : Tb} {k : Nat} (h_are_things : Fn T k "are_things" ms_are_things sp_are_things) (e_NoThings : ExF T "NoThings" 3) (m_len : T.mg "len" = none) : JB T k ⟨n_need_cube, defScope s_need_cube, fun _ => true, false, none⟩ (mutS ms_need_cube) (defBody s_need_cube) w_need_cube :=
  (JB.cons (JS.asg 1 false (JE.c_len m_len (JA.cons (JI.slot 0) JA.nil)))
    (JB.one (JS.iff (JT.ro (JW.t (JW.or (JT.eq (JI.slot 1) (JI.val JE.int)) (JW.or (JT.ne (JI.val (JE.band (JI.slot 1) (JI.val (JE.sub (JI.slot 1) (JI.val JE.int))))) (JI.val JE.int)) (JW.or1 (JT.not (JT.val (JE.call h_are_things (JA.cons (JI.val (JE.var 1)) (JA.cons (JI.val (JE.var 0)) JA.nil)))))))))) (JB.one (JS.raise 3 e_NoThings)) JB.nil)))
abbrev s_halves_of : Stmt := topS 17
abbrev n_halves_of : List Str := ["things"]
theorem sc_halves_of : FnScope n_halves_of ["things"] (defScope s_halves_of) := ⟨rfl, rfl, rfl, by decide +kernel, rfl, by decide +kernel, by decide +kernel⟩
abbrev ms_halves_of : List Nat := [0]
def w_halves_of : WS := (wSeq (wDrop (wCall sp_need_cube [0] (aCons (iVal (wVar 0)) aNil)))
    (wSeq (wIfS (wTst (wOp gEq (a2 (iVal (wOp gLen (aCons (iSlot 0) aNil))) (iVal (wC (.int 1)))))) (wRaise 1) wNext)
    (wRet (wCall sp_marks_by [0, 0] (aCons (iVal (wVar 0)) (aCons (iVal (wC (.int 1))) aNil))))))
theorem j_halves_of {T : Tb} {k : Nat} (h_need_cube : Fn T k "need_cube" ms_need_cube sp_need_cube) (h_marks_by : Fn T k "marks_by" ms_marks_by sp_marks_by) (e_NoWeb : ExF T "NoWeb" 1) (m_len : T.mg "len" = none) : JB T k ⟨n_halves_of, defScope s_halves_of, fun _ => true, false, none⟩ (mutS ms_halves_of) (defBody s_halves_of) w_halves_of :=
  (JB.cons (JS.expr (JE.call h_need_cube (JA.cons (JI.val (JE.var 0)) JA.nil)))
    (JB.cons (JS.iff (JT.eq (JI.val (JE.c_len m_len (JA.cons (JI.slot 0) JA.nil))) (JI.val JE.int)) (JB.one (JS.raise 1 e_NoWeb)) JB.nil)
    (JB.one (JS.ret (JE.call h_marks_by (JA.cons (JI.val (JE.var 0)) (JA.cons (JI.val JE.int) JA.nil)))))))
abbrev s__law_hand : Stmt := topS 19
abbrev n__law_hand : List Str := ["cell"]
theorem sc__law_hand : FnScope n__law_hand ["cell"] (defScope s__law_hand) := ⟨rfl, rfl, rfl, by decide +kernel, rfl, by decide +kernel, by decide +kernel⟩
abbrev ms__law_hand : List Nat := [0]
def w__law_hand : WS := (wRet (wOp DL.gLst (aCons (iVal (wOp gMax2 (aCons (iVal (wC (.int 0))) (aCons (iVal (wOp gSub (a2 (iSlot 0) (iVal (wOp gPow (a2 (iVal (wC (.int 10))) (iVal (wC (.int 18))))))))) aNil)))) (aCons (iVal (wOp gMul (a2 (iVal (wOp gAdd (a2 (iVal (wOp gMod (a2 (iSlot 0) (iVal (wC (.int 2147483629)))))) (iVal (wC (.int 1)))))) (iVal (wOp gInt (aCons (iVal (wOp gNe (a2 (iSlot 0) (iVal (wOp gPow (a2 (iVal (wC (.int 10))) (iVal (wC (.int 18))))))))) aNil)))))) aNil))))
theorem j__law_hand {T : Tb} {k : Nat} (m_int : T.mg "int" = none) (m_max : T.mg "max" = none) : JB T k ⟨n__law_hand, defScope s__law_hand, fun _ => true, false, none⟩ (mutS ms__law_hand) (defBody s__law_hand) w__law_hand :=
  (JB.one (JS.ret (JE.lst (JA.cons (JI.val (JE.c_max2 m_max (JA.cons (JI.val JE.int) (JA.cons (JI.val (JE.sub (JI.slot 0) (JI.val (JE.pow (JI.val JE.int) (JI.val JE.int))))) JA.nil)))) (JA.cons (JI.val (JE.mul (JI.val (JE.add (JI.val (JE.mod (JI.slot 0) (JI.val JE.int))) (JI.val JE.int))) (JI.val (JE.c_int m_int (JA.cons (JI.val (JE.ne (JI.slot 0) (JI.val (JE.pow (JI.val JE.int) (JI.val JE.int))))) JA.nil))))) JA.nil)))))
abbrev s__law_take : Stmt := topS 20
abbrev n__law_take : List Str := ["hand", "many", "taken"]
theorem sc__law_take : FnScope n__law_take ["hand", "many"] (defScope s__law_take) := ⟨rfl, rfl, rfl, by decide +kernel, rfl, by decide +kernel, by decide +kernel⟩
abbrev ms__law_take : List Nat := [1, 0]
def w__law_take : WS := (wSeq (wIfS (wTst (wOp gGt (a2 (iVal (wOp gIx (a2 (iSlot 0) (iVal (wC (.int 0)))))) (iVal (wC (.int 0)))))) (wSeq (wAsg 2 true (wOp gMod (a2 (iVal (wOp gIx (a2 (iSlot 0) (iVal (wC (.int 0)))))) (iSlot 1))))
    (wSeq (wAsgG (wOp gFdiv (a2 (iVal (wOp gIx (a2 (iSlot 0) (iVal (wC (.int 0)))))) (iSlot 1))) (gSet 0 (iVal (wC (.int 0)))))
    (wRet (wMov 2)))) wNext)
    (wSeq (wAsgG (wOp gMod (a2 (iVal (wOp gMul (a2 (iVal (wOp gIx (a2 (iSlot 0) (iVal (wC (.int 1)))))) (iVal (wC (.int 48271)))))) (iVal (wC (.int 2147483647))))) (gSet 0 (iVal (wC (.int 1)))))
    (wRet (wOp gMod (a2 (iVal (wOp gFdiv (a2 (iVal (wOp gPow (a2 (iVal (wOp gAdd (a2 (iVal (wOp gIx (a2 (iSlot 0) (iVal (wC (.int 1)))))) (iVal (wC (.int 1)))))) (iVal (wC (.int 7)))))) (iVal (wC (.int 8)))))) (iSlot 1))))))
theorem j__law_take {T : Tb} {k : Nat} : JB T k ⟨n__law_take, defScope s__law_take, fun _ => true, false, none⟩ (mutS ms__law_take) (defBody s__law_take) w__law_take :=
  (JB.cons (JS.iff (JT.gt (JI.val (JE.get (JI.slot 0) (JI.val JE.int))) (JI.val JE.int)) (JB.cons (JS.asg 2 true (JE.mod (JI.val (JE.get (JI.slot 0) (JI.val JE.int))) (JI.slot 1)))
    (JB.cons (JS.asgG (JE.fdiv (JI.val (JE.get (JI.slot 0) (JI.val JE.int))) (JI.slot 1)) (JG.item 0 (JI.val JE.int)))
    (JB.one (JS.ret (JE.mov 2))))) JB.nil)
    (JB.cons (JS.asgG (JE.mod (JI.val (JE.mul (JI.val (JE.get (JI.slot 0) (JI.val JE.int))) (JI.val JE.int))) (JI.val JE.int)) (JG.item 0 (JI.val JE.int)))
    (JB.one (JS.ret (JE.mod (JI.val (JE.fdiv (JI.val (JE.pow (JI.val (JE.add (JI.val (JE.get (JI.slot 0) (JI.val JE.int))) (JI.val JE.int))) (JI.val JE.int))) (JI.val JE.int))) (JI.slot 1))))))
abbrev s__law_shuffled : Stmt := topS 21
abbrev n__law_shuffled : List Str := ["hand", "many", "left", "k"]
theorem sc__law_shuffled : FnScope n__law_shuffled ["hand", "many"] (defScope s__law_shuffled) := ⟨rfl, rfl, rfl, by decide +kernel, rfl, by decide +kernel, by decide +kernel⟩
abbrev ms__law_shuffled : List Nat := [1, 0]
def w__law_shuffled : WS := (wSeq (wAsg 2 true (wLR1 (iSlot 1)))
    (wRet (wLc [3] (itR1 (aCons (iSlot 1) aNil)) (gNm 3) wTrue (wMet "list" 2 (onL lPopAt) (aCons (iVal (wCall sp__law_take [1, 0] (aCons (iSlot 0) (aCons (iVal (wOp gLen (aCons (iSlot 2) aNil))) aNil)))) aNil)) 0)))
theorem j__law_shuffled {T : Tb} {k : Nat} (h__law_take : Fn T k "_law_take" ms__law_take sp__law_take) (m_len : T.mg "len" = none) (m_list : T.mg "list" = none) (m_range : T.mg "range" = none) : JB T k ⟨n__law_shuffled, defScope s__law_shuffled, fun _ => true, false, none⟩ (mutS ms__law_shuffled) (defBody s__law_shuffled) w__law_shuffled :=
  (JB.cons (JS.asg 2 true (JE.listRg1 m_list m_range (JI.slot 1)))
    (JB.one (JS.ret (JE.lc [("k", 3)] 0 (JIt.range1 m_range (JA.cons (JI.slot 1) JA.nil)) (JG.name 3) JTs.nil (JE.m_popAt 2 (JA.cons (JI.val (JE.call h__law_take (JA.cons (JI.slot 0) (JA.cons (JI.val (JE.c_len m_len (JA.cons (JI.slot 2) JA.nil))) JA.nil)))) JA.nil))))))
abbrev s__law_things : Stmt := topS 22
abbrev n__law_things : List Str := ["hand", "many", "way", "home", "at", "k", "one", "other", "some", "turned", "place"]
theorem sc__law_things : FnScope n__law_things ["hand", "many"] (defScope s__law_things) := ⟨rfl, rfl, rfl, by decide +kernel, rfl, by decide +kernel, by decide +kernel⟩
abbrev ms__law_things : List Nat := [1, 0]
def w__law_things : WS := (wSeq (wAsg 2 false (wCall sp__law_take [1, 0] (aCons (iSlot 0) (aCons (iVal (wC (.int 8))) aNil))))
    (wSeq (wAsg 3 true (wLR1 (iSlot 1)))
    (wSeq (wIfS (wTst (wOp gEq (a2 (iSlot 2) (iVal (wC (.int 1)))))) (wRet (wOp gRev (a1 (iSlot 3)))) wNext)
    (wSeq (wIfS (wTst (wOp gEq (a2 (iSlot 2) (iVal (wC (.int 2)))))) (wSeq (wAsg 4 false (wCall sp__law_take [1, 0] (aCons (iSlot 0) (aCons (iVal (wVar 1)) aNil))))
    (wRet (wOp gAdd (a2 (iVal (wCut (iSlot 3) (oSome (wVar 4)) oNo)) (iVal (wCut (iSlot 3) oNo (oSome (wVar 4)))))))) wNext)
    (wSeq (wIfS (wTst (wOp gEq (a2 (iSlot 2) (iVal (wC (.int 3)))))) (wSeq (wFor (itR1 (aCons (iVal (wCall sp__law_take [1, 0] (aCons (iSlot 0) (aCons (iVal (wC (.int 4))) aNil)))) aNil)) (gNm 5) (wSeq (wAsg 6 false (wCall sp__law_take [1, 0] (aCons (iSlot 0) (aCons (iVal (wVar 1)) aNil))))
    (wSeq (wAsg 7 false (wCall sp__law_take [1, 0] (aCons (iSlot 0) (aCons (iVal (wVar 1)) aNil))))
    (wAsgG (wOp DL.gTup (aCons (iVal (wOp gIx (a2 (iSlot 3) (iSlot 7)))) (aCons (iVal (wOp gIx (a2 (iSlot 3) (iSlot 6)))) aNil))) (gTz 2 (zCons (gSet 3 (iSlot 6)) (zCons (gSet 3 (iSlot 7)) zNil)))))))
    (wRet (wMov 3))) wNext)
    (wSeq (wIfS (wTst (wOp gEq (a2 (iSlot 2) (iVal (wC (.int 4)))))) (wSeq (wAsg 8 false (wCall sp__law_take [1, 0] (aCons (iSlot 0) (aCons (iVal (wVar 1)) aNil))))
    (wSeq (wAsg 9 false (wLc [10] (itL (iVal (wVar 3))) (gNm 10) (wTst (wOp gLt (a2 (iVal (wOp gXor (a2 (iSlot 10) (iSlot 8)))) (iSlot 1)))) (wOp gXor (a2 (iSlot 10) (iSlot 8))) 0))
    (wRet (wOp gAdd (a2 (iSlot 9) (iVal (wLc [10] (itL (iVal (wVar 3))) (gNm 10) (wTst (wOp gGe (a2 (iVal (wOp gXor (a2 (iSlot 10) (iSlot 8)))) (iSlot 1)))) (wVar 10) 0))))))) wNext)
    (wRet (wCall sp__law_shuffled [1, 0] (aCons (iSlot 0) (aCons (iVal (wVar 1)) aNil))))))))))
theorem j__law_things {T : Tb} {k : Nat} (h__law_take : Fn T k "_law_take" ms__law_take sp__law_take) (h__law_shuffled : Fn T k "_law_shuffled" ms__law_shuffled sp__law_shuffled) (m_list : T.mg "list" = none) (m_range : T.mg "range" = none) : JB T k ⟨n__law_things, defScope s__law_things, fun _ => true, false, none⟩ (mutS ms__law_things) (defBody s__law_things) w__law_things :=
  (JB.cons (JS.asg 2 false (JE.call h__law_take (JA.cons (JI.slot 0) (JA.cons (JI.val JE.int) JA.nil))))
    (JB.cons (JS.asg 3 true (JE.listRg1 m_list m_range (JI.slot 1)))
    (JB.cons (JS.iff (JT.eq (JI.slot 2) (JI.val JE.int)) (JB.one (JS.ret (JE.rev (JI.slot 3)))) JB.nil)
    (JB.cons (JS.iff (JT.eq (JI.slot 2) (JI.val JE.int)) (JB.cons (JS.asg 4 false (JE.call h__law_take (JA.cons (JI.slot 0) (JA.cons (JI.val (JE.var 1)) JA.nil))))
    (JB.one (JS.ret (JE.add (JI.val (JE.cut (JI.slot 3) (JO.yes (JE.var 4)) JO.no)) (JI.val (JE.cut (JI.slot 3) JO.no (JO.yes (JE.var 4)))))))) JB.nil)
    (JB.cons (JS.iff (JT.eq (JI.slot 2) (JI.val JE.int)) (JB.cons (JS.for (JIt.range1 m_range (JA.cons (JI.val (JE.call h__law_take (JA.cons (JI.slot 0) (JA.cons (JI.val JE.int) JA.nil)))) JA.nil)) (JG.name 5) (JB.cons (JS.asg 6 false (JE.call h__law_take (JA.cons (JI.slot 0) (JA.cons (JI.val (JE.var 1)) JA.nil))))
    (JB.cons (JS.asg 7 false (JE.call h__law_take (JA.cons (JI.slot 0) (JA.cons (JI.val (JE.var 1)) JA.nil))))
    (JB.one (JS.asgG (JE.tup (JA.cons (JI.val (JE.get (JI.slot 3) (JI.slot 7))) (JA.cons (JI.val (JE.get (JI.slot 3) (JI.slot 6))) JA.nil))) (JG.tupz (JGz.cons (JG.item 3 (JI.slot 6)) (JGz.cons (JG.item 3 (JI.slot 7)) JGz.nil))))))))
    (JB.one (JS.ret (JE.mov 3)))) JB.nil)
    (JB.cons (JS.iff (JT.eq (JI.slot 2) (JI.val JE.int)) (JB.cons (JS.asg 8 false (JE.call h__law_take (JA.cons (JI.slot 0) (JA.cons (JI.val (JE.var 1)) JA.nil))))
    (JB.cons (JS.asgLc [("place", 10)] 0 9 false (JIt.lst (JI.val (JE.var 3))) (JG.name 10) (JTs.one (JT.lt (JI.val (JE.bxor (JI.slot 10) (JI.slot 8))) (JI.slot 1))) (JE.bxor (JI.slot 10) (JI.slot 8)))
    (JB.one (JS.ret (JE.add (JI.slot 9) (JI.val (JE.lc [("place", 10)] 0 (JIt.lst (JI.val (JE.var 3))) (JG.name 10) (JTs.one (JT.ge (JI.val (JE.bxor (JI.slot 10) (JI.slot 8))) (JI.slot 1))) (JE.var 10)))))))) JB.nil)
    (JB.one (JS.ret (JE.call h__law_shuffled (JA.cons (JI.slot 0) (JA.cons (JI.val (JE.var 1)) JA.nil)))))))))))
abbrev s__law_kind : Stmt := topS 23
abbrev n__law_kind : List Str := ["things", "caught", "handed", "e", "others", "kinds"]
theorem sc__law_kind : FnScope n__law_kind ["things"] (defScope s__law_kind) := ⟨rfl, rfl, rfl, by decide +kernel, rfl, by decide +kernel, by decide +kernel⟩
abbrev ms__law_kind : List Nat := [0]
def w__law_kind : WS := (wSeq (wAsg 1 false (wC .non))
    (wSeq (wAsg 2 false (wOp gList (aCons (iSlot 0) aNil)))
    (wSeq (wTry 3 (fun cc => sub3 cc 0) (wDrop (wCall sp_halves_of [0] (aCons (iVal (wVar 2)) aNil))) (fun a cc => (wAsg 1 false (wVar 3))))
    (wSeq (wIfS (wTst (wOp gNe (a2 (iSlot 2) (iSlot 0)))) (wRet (wC (.str "changed"))) wNext)
    (wSeq (wIfS (wTst (wOp gIsN (a2 (iSlot 1) (iVal (wC .non))))) (wRet (wC (.str "told"))) wNext)
    (wSeq (wAsg 4 false (wOp (gIsX sub3) (aCons (iSlot 1) (aCons (iVal (wOp DL.gTup (aCons (iVal (wC (.own 5))) (aCons (iVal (wC (.own 8))) (aCons (iVal (wC (.own 2))) (aCons (iVal (wC (.own 4))) (aCons (iVal (wC (.own 10))) (aCons (iVal (wC (.own 7))) (aCons (iVal (wC (.own 9))) (aCons (iVal (wC (.own 6))) aNil)))))))))) aNil))))
    (wSeq (wAsg 5 false (wOp DL.gLst (aCons (iVal (wOp (gIsX sub3) (aCons (iSlot 1) (aCons (iVal (wC (.own 3))) aNil)))) (aCons (iVal (wOp (gIsX sub3) (aCons (iSlot 1) (aCons (iVal (wC (.own 1))) aNil)))) aNil))))
    (wSeq (wIfS (wRoT (wOr (wTst (wVar 4)) (wOr (wNot (wTst (wOp (gIsX sub3) (aCons (iSlot 1) (aCons (iVal (wC (.ty (.ty "ValueError")))) aNil))))) (wTst (wOp gNe (a2 (iVal (wMetR "list" 5 gCount (aCons (iVal (wC (.bl true))) aNil))) (iVal (wC (.int 1))))))))) (wRet (wC (.str "odd"))) wNext)
    (wRet (wOp gIx (a2 (iVal (wOp DL.gLst (aCons (iVal (wC (.str "NoThings"))) (aCons (iVal (wC (.str "NoWeb"))) aNil)))) (iVal (wMetR "list" 5 gIndex (aCons (iVal (wC (.bl true))) aNil))))))))))))))
theorem j__law_kind {T : Tb} {k : Nat} (h_halves_of : Fn T k "halves_of" ms_halves_of sp_halves_of) (n_HomeError : T.mg "HomeError" = some (.ref (T.cl 0))) (n_TooMany : T.mg "TooMany" = some (.ref (T.cl 6))) (n_NoneYet : T.mg "NoneYet" = some (.ref (T.cl 9))) (n_NoText : T.mg "NoText" = some (.ref (T.cl 7))) (n_NoStep : T.mg "NoStep" = some (.ref (T.cl 10))) (n_NoRound : T.mg "NoRound" = some (.ref (T.cl 4))) (n_NoPlace : T.mg "NoPlace" = some (.ref (T.cl 2))) (n_NoForm : T.mg "NoForm" = some (.ref (T.cl 8))) (n_NeverHome : T.mg "NeverHome" = some (.ref (T.cl 5))) (n_NoWeb : T.mg "NoWeb" = some (.ref (T.cl 1))) (n_NoThings : T.mg "NoThings" = some (.ref (T.cl 3))) (C3 : Cls3 T.K T.cl sub3) (x_HomeError : ∀ cc b, sub3 cc 0 = some b → PySem.W.exmOne T.K (.ref (T.cl cc)) (.ref (T.cl 0)) = some b) (m_ValueError : T.mg "ValueError" = none) (m_isinstance : T.mg "isinstance" = none) (m_list : T.mg "list" = none) : JB T k ⟨n__law_kind, defScope s__law_kind, fun _ => true, false, none⟩ (mutS ms__law_kind) (defBody s__law_kind) w__law_kind :=
  (JB.cons (JS.asg 1 false JE.non)
    (JB.cons (JS.asg 2 false (JE.c_list m_list (JA.cons (JI.slot 0) JA.nil)))
    (JB.cons (JS.try 3 0 (fun cc => sub3 cc 0) n_HomeError (fun cc b h => x_HomeError cc b h) (JB.one (JS.expr (JE.call h_halves_of (JA.cons (JI.val (JE.var 2)) JA.nil)))) (fun a cc => (JB.one (JS.asg 1 false (JE.var 3)))))
    (JB.cons (JS.iff (JT.ne (JI.slot 2) (JI.slot 0)) (JB.one (JS.ret JE.str)) JB.nil)
    (JB.cons (JS.iff (JT.isn (JI.slot 1) (JI.val JE.non)) (JB.one (JS.ret JE.str)) JB.nil)
    (JB.cons (JS.asg 4 false (JE.isx C3 m_isinstance (JA.cons (JI.slot 1) (JA.cons (JI.val (JE.tup (JA.cons (JI.val (JE.clsv 5 n_NeverHome)) (JA.cons (JI.val (JE.clsv 8 n_NoForm)) (JA.cons (JI.val (JE.clsv 2 n_NoPlace)) (JA.cons (JI.val (JE.clsv 4 n_NoRound)) (JA.cons (JI.val (JE.clsv 10 n_NoStep)) (JA.cons (JI.val (JE.clsv 7 n_NoText)) (JA.cons (JI.val (JE.clsv 9 n_NoneYet)) (JA.cons (JI.val (JE.clsv 6 n_TooMany)) JA.nil)))))))))) JA.nil))))
    (JB.cons (JS.asg 5 false (JE.lst (JA.cons (JI.val (JE.isx C3 m_isinstance (JA.cons (JI.slot 1) (JA.cons (JI.val (JE.clsv 3 n_NoThings)) JA.nil)))) (JA.cons (JI.val (JE.isx C3 m_isinstance (JA.cons (JI.slot 1) (JA.cons (JI.val (JE.clsv 1 n_NoWeb)) JA.nil)))) JA.nil))))
    (JB.cons (JS.iff (JT.ro (JW.t (JW.or (JT.val (JE.var 4)) (JW.or (JT.not (JT.val (JE.isx C3 m_isinstance (JA.cons (JI.slot 1) (JA.cons (JI.val (JE.tyv m_ValueError rfl)) JA.nil))))) (JW.or1 (JT.ne (JI.val (JE.m_count 5 (JA.cons (JI.val JE.bl) JA.nil))) (JI.val JE.int))))))) (JB.one (JS.ret JE.str)) JB.nil)
    (JB.one (JS.ret (JE.get (JI.val (JE.lst (JA.cons (JI.val JE.str) (JA.cons (JI.val JE.str) JA.nil)))) (JI.val (JE.m_index 5 (JA.cons (JI.val JE.bl) JA.nil))))))))))))))
abbrev s__law_near : Stmt := topS 24
abbrev n__law_near : List Str := ["hand", "things", "many", "some", "by", "one", "other", "place"]
theorem sc__law_near : FnScope n__law_near ["hand", "things"] (defScope s__law_near) := ⟨rfl, rfl, rfl, by decide +kernel, rfl, by decide +kernel, by decide +kernel⟩
abbrev ms__law_near : List Nat := [1, 0]
def w__law_near : WS := (wSeq (wAsg 2 false (wOp gLen (aCons (iSlot 1) aNil)))
    (wSeq (wAsg 3 true (wOp gList (aCons (iSlot 1) aNil)))
    (wSeq (wAsg 4 false (wOp gAdd (a2 (iVal (wC (.int 1))) (iVal (wCall sp__law_take [1, 0] (aCons (iSlot 0) (aCons (iVal (wVar 2)) aNil)))))))
    (wSeq (wAsg 5 false (wCall sp__law_take [1, 0] (aCons (iSlot 0) (aCons (iVal (wVar 2)) aNil))))
    (wSeq (wAsg 6 false (wCall sp__law_take [1, 0] (aCons (iSlot 0) (aCons (iVal (wVar 2)) aNil))))
    (wSeq (wAsgG (wOp gAdd (a2 (iVal (wOp gIx (a2 (iSlot 3) (iSlot 5)))) (iSlot 4))) (gSet 3 (iSlot 5)))
    (wSeq (wAsgG (wOp gSub (a2 (iVal (wOp gIx (a2 (iSlot 3) (iSlot 6)))) (iSlot 4))) (gSet 3 (iSlot 6)))
    (wRet (wOp DL.gLst (aCons (iVal (wVar 3)) (aCons (iVal (wOp gMul (a2 (iVal (wOp DL.gLst (aCons (iVal (wCall sp__law_take [1, 0] (aCons (iSlot 0) (aCons (iVal (wVar 2)) aNil)))) aNil))) (iSlot 2)))) (aCons (iVal (wLc [7] (itL (iVal (wVar 1))) (gNm 7) wTrue (wOp gSub (a2 (iVal (wCall sp__law_take [1, 0] (aCons (iSlot 0) (aCons (iVal (wOp gAdd (a2 (iSlot 2) (iVal (wC (.int 2)))))) aNil)))) (iVal (wC (.int 1))))) 0)) aNil))))))))))))
theorem j__law_near {T : Tb} {k : Nat} (h__law_take : Fn T k "_law_take" ms__law_take sp__law_take) (m_len : T.mg "len" = none) (m_list : T.mg "list" = none) : JB T k ⟨n__law_near, defScope s__law_near, fun _ => true, false, none⟩ (mutS ms__law_near) (defBody s__law_near) w__law_near :=
  (JB.cons (JS.asg 2 false (JE.c_len m_len (JA.cons (JI.slot 1) JA.nil)))
    (JB.cons (JS.asg 3 true (JE.c_list m_list (JA.cons (JI.slot 1) JA.nil)))
    (JB.cons (JS.asg 4 false (JE.add (JI.val JE.int) (JI.val (JE.call h__law_take (JA.cons (JI.slot 0) (JA.cons (JI.val (JE.var 2)) JA.nil))))))
    (JB.cons (JS.asg 5 false (JE.call h__law_take (JA.cons (JI.slot 0) (JA.cons (JI.val (JE.var 2)) JA.nil))))
    (JB.cons (JS.asg 6 false (JE.call h__law_take (JA.cons (JI.slot 0) (JA.cons (JI.val (JE.var 2)) JA.nil))))
    (JB.cons (JS.asgG (JE.add (JI.val (JE.get (JI.slot 3) (JI.slot 5))) (JI.slot 4)) (JG.item 3 (JI.slot 5)))
    (JB.cons (JS.asgG (JE.sub (JI.val (JE.get (JI.slot 3) (JI.slot 6))) (JI.slot 4)) (JG.item 3 (JI.slot 6)))
    (JB.one (JS.ret (JE.lst (JA.cons (JI.val (JE.var 3)) (JA.cons (JI.val (JE.mul (JI.val (JE.lst (JA.cons (JI.val (JE.call h__law_take (JA.cons (JI.slot 0) (JA.cons (JI.val (JE.var 2)) JA.nil)))) JA.nil))) (JI.slot 2))) (JA.cons (JI.val (JE.lc [("place", 7)] 0 (JIt.lst (JI.val (JE.var 1))) (JG.name 7) JTs.nil (JE.sub (JI.val (JE.call h__law_take (JA.cons (JI.slot 0) (JA.cons (JI.val (JE.add (JI.slot 2) (JI.val JE.int))) JA.nil)))) (JI.val JE.int)))) JA.nil)))))))))))))
abbrev s_law : Stmt := topS 25
abbrev n_law : List Str := ["script", "cell", "hand", "things", "many", "at", "far", "bads", "bad", "twice", "some", "good", "other", "due"]
theorem sc_law : FnScope n_law ["script"] (defScope s_law) := ⟨rfl, rfl, rfl, by decide +kernel, rfl, by decide +kernel, by decide +kernel⟩
abbrev ms_law : List Nat := [0]
def w_law : WS := (wSeq (wFor (itL (iVal (wOp gAdd (a2 (iVal (wOp DL.gLst (aCons (iVal (wOp gPow (a2 (iVal (wC (.int 10))) (iVal (wC (.int 18)))))) aNil))) (iVal (wCut (iSlot 0) oNo (oSome (wC (.int 10))))))))) (gNm 1) (wSeq (wAsg 2 true (wCall sp__law_hand [0] (aCons (iVal (wVar 1)) aNil)))
    (wSeq (wAsg 3 false (wCall sp__law_things [1, 0] (aCons (iSlot 2) (aCons (iVal (wOp gShl (a2 (iVal (wC (.int 1))) (iVal (wCall sp__law_take [1, 0] (aCons (iSlot 2) (aCons (iVal (wC (.int 6))) aNil))))))) aNil))))
    (wSeq (wAsg 4 false (wOp gLen (aCons (iSlot 3) aNil)))
    (wSeq (wAsg 5 false (wCall sp__law_take [1, 0] (aCons (iSlot 2) (aCons (iVal (wVar 4)) aNil))))
    (wSeq (wAsg 6 false (wCall sp__law_take [1, 0] (aCons (iSlot 2) (aCons (iVal (wOp gIx (a2 (iVal (wOp DL.gLst (aCons (iVal (wC (.int 1))) (aCons (iVal (wC (.int 9))) (aCons (iVal (wOp gPow (a2 (iVal (wC (.int 10))) (iVal (wC (.int 29)))))) aNil))))) (iVal (wCall sp__law_take [1, 0] (aCons (iSlot 2) (aCons (iVal (wC (.int 3))) aNil))))))) aNil))))
    (wSeq (wAsg 7 true (wOp DL.gLst aNil))
    (wSeq (wFor (itL (iVal (wOp DL.gLst (aCons (iVal (wOp gSub (a2 (iVal (wOp gNeg (a1 (iVal (wC (.int 1)))))) (iSlot 6)))) (aCons (iVal (wOp gAdd (a2 (iSlot 4) (iSlot 6)))) aNil))))) (gNm 8) (wDrop (wMet "list" 7 (onL lApp) (aCons (iVal (wOp gAdd (a2 (iVal (wOp gAdd (a2 (iVal (wCut (iSlot 3) oNo (oSome (wVar 5)))) (iVal (wOp DL.gLst (aCons (iVal (wVar 8)) aNil)))))) (iVal (wCut (iSlot 3) (oSome (wOp gAdd (a2 (iSlot 5) (iVal (wC (.int 1)))))) oNo))))) aNil))))
    (wSeq (wIfS (wTst (wOp gGt (a2 (iSlot 4) (iVal (wC (.int 1)))))) (wSeq (wAsg 9 false (wOp gIx (a2 (iSlot 3) (iVal (wOp gSub (a2 (iSlot 5) (iVal (wC (.int 1)))))))))
    (wDrop (wMet "list" 7 (onL lApp) (aCons (iVal (wOp gAdd (a2 (iVal (wOp gAdd (a2 (iVal (wCut (iSlot 3) oNo (oSome (wVar 5)))) (iVal (wOp DL.gLst (aCons (iVal (wVar 9)) aNil)))))) (iVal (wCut (iSlot 3) (oSome (wOp gAdd (a2 (iSlot 5) (iVal (wC (.int 1)))))) oNo))))) aNil)))) wNext)
    (wSeq (wDrop (wMet "list" 7 (onL lApp) (aCons (iVal (wOp gAdd (a2 (iVal (wCut (iSlot 3) oNo (oSome (wVar 5)))) (iVal (wCut (iSlot 3) (oSome (wOp gAdd (a2 (iSlot 5) (iVal (wC (.int 1)))))) oNo))))) aNil)))
    (wSeq (wDrop (wMet "list" 7 (onL lApp) (aCons (iVal (wOp gAdd (a2 (iSlot 3) (iVal (wOp DL.gLst (aCons (iVal (wOp gIx (a2 (iSlot 3) (iSlot 5)))) aNil)))))) aNil)))
    (wSeq (wAsg 7 true (wOp gAdd (a2 (iSlot 7) (iVal (wOp DL.gLst (aCons (iVal (wOp gAdd (a2 (iSlot 3) (iVal (wOp DL.gLst (aCons (iVal (wVar 4)) aNil)))))) (aCons (iVal (wOp DL.gLst aNil)) aNil)))))))
    (wSeq (wAsg 7 true (wLc [8] (itL (iVal (wVar 7))) (gNm 8) (wTst (wOp gNotIn (a2 (iSlot 8) (iVal (wOp DL.gLst (aCons (iVal (wOp DL.gLst (aCons (iVal (wC (.int 0))) aNil))) (aCons (iVal (wOp DL.gLst (aCons (iVal (wC (.int 0))) (aCons (iVal (wC (.int 1))) aNil)))) (aCons (iVal (wOp DL.gLst (aCons (iVal (wC (.int 1))) (aCons (iVal (wC (.int 0))) aNil)))) aNil)))))))) (wVar 8) 0))
    (wSeq (wIfS (wRoT (wTst (wOp gNe (a2 (iVal (wLc [8] (itL (iVal (wVar 7))) (gNm 8) (wTst (wOp gNe (a2 (iVal (wCall sp__law_kind [0] (aCons (iVal (wVar 8)) aNil))) (iVal (wC (.str "NoThings")))))) (wVar 8) 0)) (iVal (wOp DL.gLst aNil)))))) (wRet (wC (.bl false))) wNext)
    (wSeq (wFor (itL (iVal (wCall sp__law_near [1, 0] (aCons (iSlot 2) (aCons (iVal (wVar 3)) aNil))))) (gNm 10) (wSeq (wAsg 11 false (wOp gInt (aCons (iVal (wOp gEq (a2 (iVal (wOp gSortI (aCons (iSlot 10) aNil))) (iVal (wLR1 (iSlot 4)))))) aNil)))
    (wIfS (wRoT (wTst (wOp gNe (a2 (iVal (wCall sp__law_kind [0] (aCons (iVal (wVar 10)) aNil))) (iVal (wOp gIx (a2 (iVal (wOp DL.gLst (aCons (iVal (wC (.str "NoThings"))) (aCons (iVal (wC (.str "told"))) (aCons (iVal (wC (.str "NoWeb"))) aNil))))) (iVal (wOp gAdd (a2 (iSlot 11) (iVal (wOp gMul (a2 (iSlot 11) (iVal (wOp gInt (aCons (iVal (wOp gEq (a2 (iSlot 4) (iVal (wC (.int 1)))))) aNil)))))))))))))))) (wRet (wC (.bl false))) wNext)))
    (wSeq (wAsg 12 false (wOp gAdd (a2 (iVal (wC (.int 1))) (iVal (wCall sp__law_take [1, 0] (aCons (iSlot 2) (aCons (iVal (wC (.int 40))) aNil)))))))
    (wSeq (wAsg 13 false (wC (.str "told")))
    (wSeq (wIfS (wTst (wOp gNe (a2 (iVal (wOp gAnd (a2 (iSlot 12) (iVal (wOp gSub (a2 (iSlot 12) (iVal (wC (.int 1))))))))) (iVal (wC (.int 0)))))) (wAsg 13 false (wC (.str "NoThings"))) wNext)
    (wSeq (wIfS (wTst (wOp gEq (a2 (iSlot 12) (iVal (wC (.int 1)))))) (wAsg 13 false (wC (.str "NoWeb"))) wNext)
    (wSeq (wIfS (wOr (wTst (wOp gNe (a2 (iVal (wCall sp__law_kind [0] (aCons (iVal (wCall sp__law_shuffled [1, 0] (aCons (iSlot 2) (aCons (iVal (wVar 12)) aNil)))) aNil))) (iSlot 13)))) (wOr (wTst (wOp gNe (a2 (iVal (wCall sp__law_kind [0] (aCons (iVal (wOp DL.gLst (aCons (iVal (wC (.int 0))) aNil))) aNil))) (iVal (wC (.str "NoWeb")))))) (wTst (wOp gNe (a2 (iVal (wCall sp__law_kind [0] (aCons (iVal (wOp DL.gLst (aCons (iVal (wC (.int 1))) aNil))) aNil))) (iVal (wC (.str "NoThings")))))))) (wRet (wC (.bl false))) wNext)
    (wIfS (wRoT (wTst (wOp gNe (a2 (iVal (wCall sp__law_kind [0] (aCons (iVal (wVar 3)) aNil))) (iVal (wOp gIx (a2 (iVal (wOp DL.gLst (aCons (iVal (wC (.str "told"))) (aCons (iVal (wC (.str "NoWeb"))) aNil)))) (iVal (wOp gInt (aCons (iVal (wOp gEq (a2 (iSlot 4) (iVal (wC (.int 1)))))) aNil)))))))))) (wRet (wC (.bl false))) wNext)))))))))))))))))))))
    (wRet (wC (.bl true))))
theorem j_law {T : Tb} {k : Nat} (h__law_hand : Fn T k "_law_hand" ms__law_hand sp__law_hand) (h__law_take : Fn T k "_law_take" ms__law_take sp__law_take) (h__law_things : Fn T k "_law_things" ms__law_things sp__law_things) (h__law_kind : Fn T k "_law_kind" ms__law_kind sp__law_kind) (h__law_near : Fn T k "_law_near" ms__law_near sp__law_near) (h__law_shuffled : Fn T k "_law_shuffled" ms__law_shuffled sp__law_shuffled) (m_int : T.mg "int" = none) (m_len : T.mg "len" = none) (m_list : T.mg "list" = none) (m_range : T.mg "range" = none) (m_sorted : T.mg "sorted" = none) : JB T k ⟨n_law, defScope s_law, fun _ => true, false, none⟩ (mutS ms_law) (defBody s_law) w_law :=
  (JB.cons (JS.for (JIt.lst (JI.val (JE.add (JI.val (JE.lst (JA.cons (JI.val (JE.pow (JI.val JE.int) (JI.val JE.int))) JA.nil))) (JI.val (JE.cut (JI.slot 0) JO.no (JO.yes JE.int)))))) (JG.name 1) (JB.cons (JS.asg 2 true (JE.call h__law_hand (JA.cons (JI.val (JE.var 1)) JA.nil)))
    (JB.cons (JS.asg 3 false (JE.call h__law_things (JA.cons (JI.slot 2) (JA.cons (JI.val (JE.shl (JI.val JE.int) (JI.val (JE.call h__law_take (JA.cons (JI.slot 2) (JA.cons (JI.val JE.int) JA.nil)))))) JA.nil))))
    (JB.cons (JS.asg 4 false (JE.c_len m_len (JA.cons (JI.slot 3) JA.nil)))
    (JB.cons (JS.asg 5 false (JE.call h__law_take (JA.cons (JI.slot 2) (JA.cons (JI.val (JE.var 4)) JA.nil))))
    (JB.cons (JS.asg 6 false (JE.call h__law_take (JA.cons (JI.slot 2) (JA.cons (JI.val (JE.get (JI.val (JE.lst (JA.cons (JI.val JE.int) (JA.cons (JI.val JE.int) (JA.cons (JI.val (JE.pow (JI.val JE.int) (JI.val JE.int))) JA.nil))))) (JI.val (JE.call h__law_take (JA.cons (JI.slot 2) (JA.cons (JI.val JE.int) JA.nil)))))) JA.nil))))
    (JB.cons (JS.asg 7 true (JE.lst JA.nil))
    (JB.cons (JS.for (JIt.lst (JI.val (JE.lst (JA.cons (JI.val (JE.sub (JI.val (JE.neg (JI.val JE.int))) (JI.slot 6))) (JA.cons (JI.val (JE.add (JI.slot 4) (JI.slot 6))) JA.nil))))) (JG.name 8) (JB.one (JS.expr (JE.m_append 7 (JA.cons (JI.val (JE.add (JI.val (JE.add (JI.val (JE.cut (JI.slot 3) JO.no (JO.yes (JE.var 5)))) (JI.val (JE.lst (JA.cons (JI.val (JE.var 8)) JA.nil))))) (JI.val (JE.cut (JI.slot 3) (JO.yes (JE.add (JI.slot 5) (JI.val JE.int))) JO.no)))) JA.nil)))))
    (JB.cons (JS.iff (JT.gt (JI.slot 4) (JI.val JE.int)) (JB.cons (JS.asg 9 false (JE.get (JI.slot 3) (JI.val (JE.sub (JI.slot 5) (JI.val JE.int)))))
    (JB.one (JS.expr (JE.m_append 7 (JA.cons (JI.val (JE.add (JI.val (JE.add (JI.val (JE.cut (JI.slot 3) JO.no (JO.yes (JE.var 5)))) (JI.val (JE.lst (JA.cons (JI.val (JE.var 9)) JA.nil))))) (JI.val (JE.cut (JI.slot 3) (JO.yes (JE.add (JI.slot 5) (JI.val JE.int))) JO.no)))) JA.nil))))) JB.nil)
    (JB.cons (JS.expr (JE.m_append 7 (JA.cons (JI.val (JE.add (JI.val (JE.cut (JI.slot 3) JO.no (JO.yes (JE.var 5)))) (JI.val (JE.cut (JI.slot 3) (JO.yes (JE.add (JI.slot 5) (JI.val JE.int))) JO.no)))) JA.nil)))
    (JB.cons (JS.expr (JE.m_append 7 (JA.cons (JI.val (JE.add (JI.slot 3) (JI.val (JE.lst (JA.cons (JI.val (JE.get (JI.slot 3) (JI.slot 5))) JA.nil))))) JA.nil)))
    (JB.cons (JS.asg 7 true (JE.add (JI.slot 7) (JI.val (JE.lst (JA.cons (JI.val (JE.add (JI.slot 3) (JI.val (JE.lst (JA.cons (JI.val (JE.var 4)) JA.nil))))) (JA.cons (JI.val (JE.lst JA.nil)) JA.nil))))))
    (JB.cons (JS.asgLc [("bad", 8)] 0 7 true (JIt.lst (JI.val (JE.var 7))) (JG.name 8) (JTs.one (JT.nin (JI.slot 8) (JI.val (JE.lst (JA.cons (JI.val (JE.lst (JA.cons (JI.val JE.int) JA.nil))) (JA.cons (JI.val (JE.lst (JA.cons (JI.val JE.int) (JA.cons (JI.val JE.int) JA.nil)))) (JA.cons (JI.val (JE.lst (JA.cons (JI.val JE.int) (JA.cons (JI.val JE.int) JA.nil)))) JA.nil))))))) (JE.var 8))
    (JB.cons (JS.iff (JT.ro (JT.ne (JI.val (JE.lc [("bad", 8)] 0 (JIt.lst (JI.val (JE.var 7))) (JG.name 8) (JTs.one (JT.ne (JI.val (JE.call h__law_kind (JA.cons (JI.val (JE.var 8)) JA.nil))) (JI.val JE.str))) (JE.var 8))) (JI.val (JE.lst JA.nil)))) (JB.one (JS.ret JE.bl)) JB.nil)
    (JB.cons (JS.for (JIt.lst (JI.val (JE.call h__law_near (JA.cons (JI.slot 2) (JA.cons (JI.val (JE.var 3)) JA.nil))))) (JG.name 10) (JB.cons (JS.asg 11 false (JE.c_int m_int (JA.cons (JI.val (JE.eq (JI.val (JE.c_sortI m_sorted (JA.cons (JI.slot 10) JA.nil))) (JI.val (JE.listRg1 m_list m_range (JI.slot 4))))) JA.nil)))
    (JB.one (JS.iff (JT.ro (JT.ne (JI.val (JE.call h__law_kind (JA.cons (JI.val (JE.var 10)) JA.nil))) (JI.val (JE.get (JI.val (JE.lst (JA.cons (JI.val JE.str) (JA.cons (JI.val JE.str) (JA.cons (JI.val JE.str) JA.nil))))) (JI.val (JE.add (JI.slot 11) (JI.val (JE.mul (JI.slot 11) (JI.val (JE.c_int m_int (JA.cons (JI.val (JE.eq (JI.slot 4) (JI.val JE.int))) JA.nil))))))))))) (JB.one (JS.ret JE.bl)) JB.nil))))
    (JB.cons (JS.asg 12 false (JE.add (JI.val JE.int) (JI.val (JE.call h__law_take (JA.cons (JI.slot 2) (JA.cons (JI.val JE.int) JA.nil))))))
    (JB.cons (JS.asg 13 false JE.str)
    (JB.cons (JS.iff (JT.ne (JI.val (JE.band (JI.slot 12) (JI.val (JE.sub (JI.slot 12) (JI.val JE.int))))) (JI.val JE.int)) (JB.one (JS.asg 13 false JE.str)) JB.nil)
    (JB.cons (JS.iff (JT.eq (JI.slot 12) (JI.val JE.int)) (JB.one (JS.asg 13 false JE.str)) JB.nil)
    (JB.cons (JS.iff (JW.t (JW.or (JT.ne (JI.val (JE.call h__law_kind (JA.cons (JI.val (JE.call h__law_shuffled (JA.cons (JI.slot 2) (JA.cons (JI.val (JE.var 12)) JA.nil)))) JA.nil))) (JI.slot 13)) (JW.or (JT.ne (JI.val (JE.call h__law_kind (JA.cons (JI.val (JE.lst (JA.cons (JI.val JE.int) JA.nil))) JA.nil))) (JI.val JE.str)) (JW.or1 (JT.ne (JI.val (JE.call h__law_kind (JA.cons (JI.val (JE.lst (JA.cons (JI.val JE.int) JA.nil))) JA.nil))) (JI.val JE.str)))))) (JB.one (JS.ret JE.bl)) JB.nil)
    (JB.one (JS.iff (JT.ro (JT.ne (JI.val (JE.call h__law_kind (JA.cons (JI.val (JE.var 3)) JA.nil))) (JI.val (JE.get (JI.val (JE.lst (JA.cons (JI.val JE.str) (JA.cons (JI.val JE.str) JA.nil)))) (JI.val (JE.c_int m_int (JA.cons (JI.val (JE.eq (JI.slot 4) (JI.val JE.int))) JA.nil))))))) (JB.one (JS.ret JE.bl)) JB.nil))))))))))))))))))))))
    (JB.one (JS.ret JE.bl)))
end LK

namespace LK
open PySem PySem.Spec PyProof.Rows L2 DL
local macro_rules | `(tactic| walk_at "st") => `(tactic| with_reducible first | exact st0 | exact st1 | exact st2 | exact st3 | exact st4 | exact st5 | exact st6 | exact st7 | exact st8 | exact st9 | exact st10 | exact st11 | exact st12 | exact st13 | exact st14 | exact st15 | exact st16 | exact st17 | exact st18 | exact st19 | exact st20 | exact st21 | exact st22 | exact st23 | exact st24 | exact st25)
local macro_rules | `(tactic| walk_at "frz") => `(tactic| with_reducible first | exact frz_n | exact frz_c (by walk_at "frz") | exact frz_s (by walk_at "frz") | exact frz_x (by walk_at "frz"))
local macro_rules | `(tactic| walk_at "dlg") => `(tactic| with_reducible first
  | exact g_sub | exact g_add | exact g_addI | exact g_and | exact g_or | exact g_xor | exact g_lt | exact g_le | exact g_gt | exact g_ge | exact g_neg | exact g_inv
  | exact g_eqI | exact g_neI | exact g_isN | exact g_notN | exact g_lenL | exact g_lenT | exact g_max | exact g_min | exact g_intB | exact g_intI | exact g_listT
  | exact g_list (by decide) | exact g_tuple (by decide) | exact g_rev (by decide))
local macro_rules | `(tactic| walk_at "dl") => `(tactic| with_reducible first
  | refine i_seq ?_ | refine i_next ?_ | refine i_drop ?_ | refine i_ret ?_ | refine i_if ?_ | refine i_asg ?_ | refine i_asgF ?_ | refine i_asgG ?_
  | refine i_c ?_ | refine i_op ?_ | refine i_nil ?_ | refine i_cons ?_ | refine i_val ?_ | refine i_tst ?_ | refine i_b ?_ | refine i_not ?_ | refine i_and ?_ | refine i_or ?_ | refine i_true ?_
  | refine i_notV ?_ | refine i_andV ?_ | refine i_orV ?_ | refine i_ifx ?_ | refine i_call ?_ | refine i_for ?_ | refine i_itL ?_ | refine i_lg ?_ | refine i_itT ?_ | refine i_tg ?_ | refine i_itR1 ?_ | refine i_itR2 ?_ | refine i_itR3 ?_ | refine i_itE ?_ | refine i_eg ?_
  | refine i_try ?_ | refine i_raise ?_ | (refine' i_metR ?e1 ?e2 ?_; (case e1 => with_unfolding_all exact rfl); (case e2 => with_unfolding_all exact rfl))
  | refine i_lr1 ?_ | refine i_cut ?_ | refine i_oNo ?_ | refine i_oSome ?_ | refine i_os ?_ | refine i_z0 ?_ | refine i_z ?_ | refine i_nms0 ?_
  | (refine' i_var ?e1 ?e2 ?_; (case e1 => with_unfolding_all exact rfl); (case e2 => walk_at "st"))
  | (refine' i_mov ?e1 ?e2 ?_; (case e1 => with_unfolding_all exact rfl); (case e2 => walk_at "st"))
  | (refine' i_slot ?e1 ?_; (case e1 => with_unfolding_all exact rfl))
  | (refine' i_set ?e1 ?e2 ?_; (case e1 => walk_at "st"); (case e2 => with_unfolding_all exact rfl))
  | (refine' i_gnm ?e1 ?e2 ?_; (case e1 => walk_at "st"); (case e2 => with_unfolding_all exact rfl))
  | (refine' i_nms ?e1 ?e2 ?_; (case e1 => walk_at "st"); (case e2 => with_unfolding_all exact rfl))
  | (refine' i_gtpT ?e1 ?_; (case e1 => with_unfolding_all exact rfl)) | (refine' i_gtpL ?e1 ?_; (case e1 => with_unfolding_all exact rfl)) | (refine' i_gtzT ?e1 ?_; (case e1 => with_unfolding_all exact rfl))
  | refine i_lc ?_
  | (refine' i_met ?e1 ?e2 ?_; (case e1 => with_unfolding_all exact rfl); (case e2 => with_unfolding_all exact rfl))
  | (refine' i_roT ?e1 ?_; (case e1 => walk_at "frz"))
  | (refine' i_ro ?e1 ?_; (case e1 => walk_at "frz"))
  | (refine' i_aug ?e1 ?_; (case e1 => with_unfolding_all exact rfl))
  | (refine' i_cg ?e1 ?_; (case e1 => with_unfolding_all exact rfl))
  | (refine' i_gset ?e1 ?_; (case e1 => with_unfolding_all exact rfl))
  | (refine' i_g ?e1 ?e2 ?_; (case e1 => with_unfolding_all exact rfl); (case e2 => walk_at "dlg")))
local macro_rules | `(tactic| walk_at "env") => `(tactic| simp only [env0, List.replicate, List.length_cons, List.length_nil, Nat.reduceSub, Nat.reduceAdd, Nat.add_zero, Nat.zero_add])
local macro_rules | `(tactic| walk_at "ret") => `(tactic| (refine' i_fr ?e1 ?_; (case e1 => with_unfolding_all exact rfl)))
local macro_rules | `(tactic| walk_at "end") => `(tactic| (refine' i_fn ?e1 ?_; (case e1 => with_unfolding_all exact rfl)))
local macro_rules | `(tactic| walk_at "go") => `(tactic| repeat walk_at "dl")
local macro_rules | `(tactic| walk_at "g") => `(tactic| (refine' i_g ?e1 ?e2 ?_; (case e1 => with_unfolding_all exact rfl)))
local macro_rules | `(tactic| walk_at "gset") => `(tactic| (refine' i_gset ?e1 ?_; (case e1 => with_unfolding_all exact rfl)))
local macro_rules | `(tactic| walk_at "sg") => `(tactic| (refine' i_sg ?e1 ?e2 ?e3 ?e4 ?_; (case e1 => with_unfolding_all exact rfl); (case e2 => with_unfolding_all exact rfl)))
local macro_rules | `(tactic| walk_at "sgr") => `(tactic| (refine' i_sg ?e1 ?e2 ?e3 ?e4 ?_; (case e1 => with_unfolding_all exact rfl); (case e2 => with_unfolding_all exact rfl); (case e3 => with_unfolding_all exact rfl); (case e4 => walk_at "st")))
local macro_rules | `(tactic| walk_at "call") => `(tactic| (refine' i_cg ?e1 ?_; (case e1 => with_unfolding_all exact rfl)))
local macro_rules | `(tactic| walk_at "put") => `(tactic| ((refine' i_put ?e1 ?_; (case e1 => with_unfolding_all exact rfl)); try simp only [List.set_cons_zero, List.set_cons_succ]))
local macro_rules | `(tactic| walk_at "m") => `(tactic| (refine' i_m ?e1 ?e2 ?e3 ?e4 ?_; (case e1 => with_unfolding_all exact rfl); (case e2 => with_unfolding_all exact rfl)))
local macro_rules | `(tactic| walk_at "fgt") => `(tactic| simp only [fgt, List.foldl_cons, List.foldl_nil, List.set_cons_zero, List.set_cons_succ])
local macro_rules | `(tactic| walk_at "r1") => `(tactic| (refine' i_r1 ?e1 ?hs ?_; (case e1 => with_unfolding_all exact rfl)))
local macro_rules | `(tactic| walk_at "mr") => `(tactic| (refine' i_mr ?e1 ?e2 ?_; (case e1 => with_unfolding_all exact rfl)))
local macro_rules | `(tactic| walk_at "unpin") => `(tactic| simp only [unpin, unpinO, List.map_cons, List.map_nil, if_true, List.set_cons_zero, List.set_cons_succ])
local macro_rules | `(tactic| walk_at "sets") => `(tactic| simp only [List.set_cons_zero, List.set_cons_succ])
local macro_rules | `(tactic| walk_at "try") => `(tactic| (refine ⟨Nat.le_of_ble_eq_true rfl, true, rfl, fun _ a => ?_, fun h => by cases h⟩; walk_at "sets"; walk_at "go"; refine ⟨Nat.le_of_ble_eq_true rfl, ?_⟩; walk_at "unpin"; walk_at "go"))
theorem ok__law_take : OkF ms__law_take n__law_take.length sp__law_take w__law_take := by
  rintro ds Q Ex - ⟨h, m, rfl, ⟨a, b, rfl, b0, b1⟩, m0, m1, q⟩
  unfold w__law_take
  walk_at "env"
  walk_at "go"
  walk_at "g"
  case e2 => exact rfl
  walk_at "go"
  split
  · walk_at "go"
    walk_at "g"
    case e2 => exact rfl
    walk_at "go"
    walk_at "g"
    case e2 => exact g_mod m0
    walk_at "go"
    walk_at "g"
    case e2 => exact rfl
    walk_at "go"
    walk_at "g"
    case e2 => exact g_fdivL m0 (by omega)
    walk_at "go"
    walk_at "sgr"
    walk_at "go"
    walk_at "ret"
    have := Int.emod_nonneg a (show m ≠ 0 by omega)
    have := Int.emod_lt_of_pos a m0
    rw [show a % m = ((a % m).toNat : Int) by omega]
    exact q _ _ (by omega) ⟨_, _, rfl, b0, b1⟩
  · walk_at "go"
    walk_at "g"
    case e2 => exact rfl
    walk_at "go"
    walk_at "g"
    case e2 => exact g_mulS (by omega) (by decide)
    walk_at "go"
    walk_at "g"
    case e2 => exact g_mod (by decide)
    walk_at "go"
    walk_at "sgr"
    walk_at "go"
    have h1 := Int.emod_nonneg (b * 48271) (show (2147483647 : Int) ≠ 0 by decide)
    have h2 := Int.emod_lt_of_pos (b * 48271) (show (0 : Int) < 2147483647 by decide)
    generalize b * 48271 % 2147483647 = z at h1 h2
    walk_at "g"
    case e2 => exact rfl
    walk_at "go"
    walk_at "g"
    case e2 => exact g_pow (by decide) (by decide) (by omega)
    walk_at "go"
    walk_at "g"
    case e2 => exact g_fdiv (by decide) (by decide)
    walk_at "go"
    walk_at "g"
    case e2 => exact g_mod m0
    walk_at "go"
    walk_at "ret"
    generalize (z + 1) ^ (7 : Int).toNat / 8 = y
    have := Int.emod_nonneg y (show m ≠ 0 by omega)
    have := Int.emod_lt_of_pos y m0
    rw [show y % m = ((y % m).toNat : Int) by omega]
    exact q _ _ (by omega) ⟨_, _, rfl, by omega, by omega⟩
theorem ok__law_hand : OkF ms__law_hand n__law_hand.length sp__law_hand w__law_hand := by
  rintro ds Q Ex - ⟨z, rfl, q⟩
  unfold w__law_hand
  walk_at "env"
  walk_at "go"
  walk_at "g"
  case e2 => exact g_pow (by decide) (by decide) (by decide)
  walk_at "go"
  walk_at "g"
  case e2 => exact g_mod (by decide)
  walk_at "go"
  walk_at "g"
  case e2 => exact g_pow (by decide) (by decide) (by decide)
  walk_at "go"
  have h1 := Int.emod_nonneg z (show (2147483629 : Int) ≠ 0 by decide)
  have h2 := Int.emod_lt_of_pos z (show (0 : Int) < 2147483629 by decide)
  generalize z % 2147483629 = y at h1 h2
  generalize (!decide (z = 10 ^ (18 : Int).toNat)) = b
  walk_at "g"
  case e2 => exact g_mulS (by omega) (by cases b <;> decide)
  walk_at "go"
  walk_at "g"
  case e2 => exact rfl
  walk_at "go"
  walk_at "ret"
  refine q _ ⟨_, _, rfl, ?_, ?_⟩ <;> cases b <;> simp <;> omega
theorem ok__law_shuffled : OkF ms__law_shuffled n__law_shuffled.length sp__law_shuffled w__law_shuffled := by
  rintro ds Q Ex - ⟨h, m, rfl, hh, hm, q⟩
  unfold w__law_shuffled
  walk_at "env"
  walk_at "go"
  refine' i_l1 rfl (by omega) (by omega) ?_
  rw [rgD_nat]
  walk_at "go"
  walk_at "r1"
  case hs => exact ⟨by omega, by omega⟩
  rw [rgD_nat]
  refine' i_lcg (fun i acc env => ∃ as left h, acc = dN as ∧ env = [some (1, h), some (0, .int (m : Nat)), some (1, .lst (dN left)), none] ∧ Hand h ∧ (as ++ left).Perm (rN m) ∧ as.length = i) ⟨[], rN m, h, rfl, rfl, hh, .refl _, rfl⟩ ?_ ?_
  · rintro i acc env d hd ⟨as, left, h, rfl, rfl, hh, hp, hi⟩
    obtain ⟨g, hgi, rfl⟩ := dN_inv hd
    have him : i < m := by have := lt_of_get hgi; simpa using this
    have hl := hp.length_eq
    simp only [List.length_append, List.length_range, hi] at hl
    refine ⟨fun j hj => ?_, by rw [dN_len]; omega, ?_⟩
    · simp at hj; subst hj; exact .inl rfl
    walk_at "fgt"
    walk_at "go"
    refine' itT ?hb ?_
    case hb => exact by decide
    walk_at "go"
    refine ⟨h, _, rfl, hh, by rw [dN_len]; omega, by rw [dN_len]; omega, fun t h' ht hh' => ?_⟩
    rw [dN_len] at ht
    walk_at "put"
    walk_at "go"
    have hg : left[t]? = some left[t] := List.getElem?_eq_getElem (by omega)
    walk_at "m"
    case e3 => exact m_pop hg (by omega)
    case e4 => walk_at "st"
    walk_at "go"
    refine ⟨rfl, fun h => absurd rfl h, as ++ [left[t]], left.eraseIdx t, h', by simp [dN], rfl, hh', ?_, by simp [hi]⟩
    refine List.Perm.trans ?_ hp
    rw [List.append_assoc]
    exact (pop_perm hg).symm.append_left as
  · rintro acc env ⟨as, left, h, rfl, rfl, hh, hp, hi⟩
    rw [dN_len, List.length_range] at hi
    have hl := hp.length_eq
    simp only [List.length_append, List.length_range, hi] at hl
    have : left = [] := List.eq_nil_of_length_eq_zero (by omega)
    subst this
    rw [List.append_nil] at hp
    walk_at "ret"
    exact q as h hp hh
theorem ok__law_things : OkF ms__law_things n__law_things.length sp__law_things w__law_things := by
  rintro ds Q Ex - ⟨h, s, rfl, hh, hs, q⟩
  have p1 : 0 < 2 ^ s := Nat.two_pow_pos s
  have p2 : 2 ^ s ≤ 2 ^ 16 := Nat.pow_le_pow_right (by decide) hs
  have hx : ∀ p q, p < 2 ^ s → q < 2 ^ s → p ^^^ q < 2 ^ s := fun p q h1 h2 => Nat.xor_lt_two_pow h1 h2
  generalize 2 ^ s = n at *
  have rl : (rN n).length = n := by simp
  unfold w__law_things
  walk_at "env"
  walk_at "go"
  refine ⟨h, _, rfl, hh, by decide, by decide, fun way h hw hh => ?_⟩
  walk_at "put"
  walk_at "go"
  refine' i_l1 rfl (by omega) (by omega) ?_
  rw [rgD_nat]
  walk_at "go"
  split
  · walk_at "go"
    walk_at "ret"
    rw [← List.map_reverse]
    exact q _ h (List.reverse_perm _) hh
  walk_at "go"
  split
  · walk_at "go"
    refine ⟨h, _, rfl, hh, by omega, by omega, fun t h' ht hh' => ?_⟩
    walk_at "put"
    walk_at "go"
    refine' i_cg3 rfl (g_cutDrop (by decide) (by rw [dN_len, rl]; omega)) ?_
    walk_at "go"
    refine' i_cg3 rfl (g_cutTake (by decide)) ?_
    walk_at "go"
    walk_at "g"
    case e2 => exact g_cat (by decide) (by decide) (by simp; omega)
    walk_at "go"
    walk_at "ret"
    rw [← List.map_drop, ← List.map_take, ← List.map_append]
    exact q _ h' (List.perm_append_comm.trans (by rw [List.take_append_drop])) hh'
  walk_at "go"
  split
  · walk_at "go"
    refine ⟨h, _, rfl, hh, by decide, by decide, fun t h' ht hh' => ?_⟩
    walk_at "put"
    walk_at "go"
    walk_at "r1"
    case hs => exact ⟨by omega, by omega⟩
    rw [rgD_nat]
    refine i_fg (fun i env => ∃ gs h x5 x6 x7, env = [some (1, h), some (0, .int (n : Nat)), some (0, .int (way : Nat)), some (1, .lst (dN gs)), none, x5, x6, x7, none, none, none] ∧ Hand h ∧ gs.Perm (rN n)) ⟨rN n, h', none, none, none, rfl, hh', .refl _⟩ ?_ ?_
    · rintro i env d hd ⟨gs, h, x5, x6, x7, rfl, hh, hp⟩
      obtain ⟨g, hgi, rfl⟩ := dN_inv hd
      have hl := perm_len hp
      walk_at "go"
      refine ⟨h, _, rfl, hh, by omega, by omega, fun a h ha hh => ?_⟩
      walk_at "put"
      walk_at "go"
      refine ⟨h, _, rfl, hh, by omega, by omega, fun b h hb hh => ?_⟩
      walk_at "put"
      walk_at "go"
      have e1 : gs[b]? = some gs[b] := List.getElem?_eq_getElem (by omega)
      have e2 : gs[a]? = some gs[a] := List.getElem?_eq_getElem (by omega)
      walk_at "g"
      case e2 => exact g_ix (dN_get' e1) (by decide)
      walk_at "go"
      walk_at "g"
      case e2 => exact g_ix (dN_get' e2) (by decide)
      walk_at "go"
      walk_at "g"
      case e2 => exact rfl
      walk_at "go"
      walk_at "sg"
      case e3 => exact setD_nat (by rw [dN_len]; omega)
      case e4 => walk_at "st"
      walk_at "go"
      walk_at "sg"
      case e3 => exact setD_nat (by rw [List.length_set, dN_len]; omega)
      case e4 => walk_at "st"
      walk_at "go"
      refine ⟨(gs.set a gs[b]).set b gs[a], h, some (0, .int (g : Nat)), some (0, .int (a : Nat)), some (0, .int (b : Nat)), ?_, hh, (List.set_set_perm (by omega) (by omega)).trans hp⟩
      rw [← List.map_set, ← List.map_set]
    · rintro env ⟨gs, h, x5, x6, x7, rfl, hh, hp⟩
      walk_at "go"
      walk_at "ret"
      exact q gs h hp hh
  walk_at "go"
  split
  · walk_at "go"
    refine ⟨h, _, rfl, hh, by omega, by omega, fun t h' ht hh' => ?_⟩
    walk_at "put"
    walk_at "go"
    have ht' : t < n := by omega
    refine' i_lcg (fun i acc env => acc = dN (((rN n).map (· ^^^ t)).take i) ∧ env = [some (1, h'), some (0, .int (n : Nat)), some (0, .int (way : Nat)), some (0, .lst (dN (rN n))), none, none, none, none, some (0, .int (t : Nat)), none, none]) ⟨rfl, rfl⟩ ?_ ?_
    · rintro i acc env d hd ⟨rfl, rfl⟩
      obtain ⟨g, hgi, rfl⟩ := dN_inv hd
      have hg : g < n := perm_lt (.refl _) hgi
      refine ⟨fun j hj => ?_, by rw [dN_len, List.length_take]; simp; omega, ?_⟩
      · simp at hj; subst hj; exact .inl rfl
      walk_at "fgt"
      walk_at "go"
      rw [bxor_nat]
      refine' itT ?hb ?_
      case hb => exact decide_eq_true (by have := hx g t hg ht'; omega)
      walk_at "go"
      rw [bxor_nat]
      refine ⟨rfl, fun h => absurd rfl h, ?_, rfl⟩
      rw [← take_next (l := (rN n).map (· ^^^ t)) (i := i) (x := g ^^^ t) (by rw [List.getElem?_map, hgi]; rfl)]
      simp [dN]
    · rintro acc env ⟨rfl, rfl⟩
      walk_at "go"
      refine' i_lcg (fun i acc env => acc = [] ∧ env = [some (1, h'), some (0, .int (n : Nat)), some (0, .int (way : Nat)), some (0, .lst (dN (rN n))), none, none, none, none, some (0, .int (t : Nat)), some (0, .lst (dN (((rN n).map (· ^^^ t)).take (dN (rN n)).length))), none]) ⟨rfl, rfl⟩ ?_ ?_
      · rintro i acc env d hd ⟨rfl, rfl⟩
        obtain ⟨g, hgi, rfl⟩ := dN_inv hd
        have hg : g < n := perm_lt (.refl _) hgi
        refine ⟨fun j hj => ?_, by simp, ?_⟩
        · simp at hj; subst hj; exact .inl rfl
        walk_at "fgt"
        walk_at "go"
        rw [bxor_nat]
        refine' itF ?hb ?_
        case hb => exact decide_eq_false (by have := hx g t hg ht'; omega)
        walk_at "go"
        exact ⟨rfl, by first | trivial | exact ⟨rfl, rfl⟩⟩
      · rintro acc env ⟨rfl, rfl⟩
        walk_at "go"
        walk_at "g"
        case e2 => exact g_cat (by decide) (by decide) (by simp; omega)
        walk_at "go"
        walk_at "ret"
        rw [List.append_nil, dN_len, rl, List.take_of_length_le (by simp)]
        exact q _ h' (perm_xor hx ht') hh'
  walk_at "go"
  refine ⟨h, n, rfl, hh, by omega, fun gs h' hp hh' => ?_⟩
  walk_at "put"
  walk_at "go"
  walk_at "ret"
  exact q gs h' hp hh'

theorem ok_marks_by : OkF ms_marks_by n_marks_by.length sp_marks_by w_marks_by := by
  rintro ds Q Ex - ⟨n, b, gs, rfl, hn, hb, hg, q⟩
  have hl := perm_len hg
  unfold w_marks_by
  walk_at "env"
  walk_at "go"
  refine' i_lcg (fun i acc env => acc = (prs 0 gs).take i ∧ env = [some (0, .lst (dN gs)), some (0, .int b), none, none, none, none, none, none]) ⟨rfl, rfl⟩ ?_ ?_
  · rintro i acc env d hd ⟨rfl, rfl⟩
    obtain ⟨g, hg1, rfl⟩ := enumD_dN hd
    have hi := lt_of_get hg1
    refine ⟨fun j hj => ?_, by rw [List.length_take]; omega, ?_⟩
    · simp at hj; rcases hj with rfl | rfl <;> exact .inl rfl
    walk_at "fgt"
    walk_at "go"
    refine' itT ?hb ?_
    case hb => exact by decide
    walk_at "go"
    walk_at "g"
    case e2 => exact rfl
    walk_at "go"
    exact ⟨rfl, fun h => absurd rfl h, take_next (prs_get hg1), rfl⟩
  · rintro acc env ⟨rfl, rfl⟩
    rw [enumD_len, dN_len, List.take_of_length_le (Nat.le_of_eq prs_len)]
    walk_at "go"
    have hm : gDictP [(0, .lst (prs 0 gs))] = some (1, .dk (kN gs) (dN (rN n))) := by
      have := mergeD_prs (gs := gs) (as := []) (k := 0) (by simpa using perm_nodup hg) []
      show (if 0 ≤ 1 then (match mergeD ([], []) (prs 0 gs) with | some q => some (1, D.dk q.1 q.2) | none => none) else none) = _
      rw [if_pos (by decide), show mergeD ([], []) (prs 0 gs) = _ from this, hl]
      simp
    walk_at "g"
    case e2 => exact hm
    walk_at "go"
    walk_at "g"
    case e2 => exact rfl
    walk_at "go"
    walk_at "g"
    case e2 => exact g_rep (by decide) (by omega) (by rw [dN_len]; omega)
    walk_at "go"
    walk_at "r1"
    case hs => rw [dN_len]; exact ⟨by omega, by omega⟩
    rw [dN_len, hl, rgD_nat]
    have rl : (rN n).length = n := by simp
    refine i_fg (fun i env => ∃ ms x4 x5 x6, env = [some (0, .lst (dN gs)), some (0, .int b), some (0, .dk (kN gs) (dN (rN n))), some (1, .lst (dM ms)), x4, x5, x6, none] ∧ ms.length = n ∧ Closed b gs ms ∧ ∀ x, x < i → ∃ v, mk ms x v) ?_ ?_ ?_
    · refine ⟨List.replicate n none, none, none, none, by simp [dM], by simp, ⟨⟨fun x v h => ?_⟩, fun x y v h => ?_⟩, fun x h => absurd h (Nat.not_lt_zero _)⟩
      · rw [mk, List.getElem?_replicate] at h; split at h <;> cases h
      · rw [mk, List.getElem?_replicate] at h; split at h <;> cases h
    · rintro i env d hd ⟨ms, x4, x5, x6, rfl, hlm, hc, ha⟩
      obtain ⟨g, hgi, rfl⟩ := dN_inv hd
      have hi : i < n := by have := lt_of_get hgi; omega
      have eg : g = i := by rw [List.getElem?_range hi] at hgi; exact (Option.some.inj hgi).symm
      subst eg
      walk_at "go"
      refine i_while (fun m env => ∃ ms p x6, env = [some (0, .lst (dN gs)), some (0, .int b), some (0, .dk (kN gs) (dN (rN n))), some (1, .lst (dM ms)), some (0, .int (g : Nat)), some (0, .int (p : Nat)), x6, none] ∧ ms.length = n ∧ p < n ∧ m = unm ms ∧ ((Closed b gs ms ∧ p = g) ∨ Opn b gs ms g p) ∧ ∀ x, x < g → ∃ v, mk ms x v) (unm ms) ⟨ms, g, x6, rfl, hlm, hi, rfl, .inl ⟨hc, rfl⟩, ha⟩ ?_
      rintro m env ⟨ms, p, x6, rfl, hlm, hp, rfl, hs, ha⟩
      walk_at "go"
      have hpm : ms[p]? = some ms[p] := List.getElem?_eq_getElem (by omega)
      cases ho : ms[p] with
      | some v =>
        rw [ho] at hpm
        walk_at "g"
        case e2 => exact g_ix (d := .int (v : Int)) (by rw [dM_get, hpm]; rfl) (by decide)
        walk_at "go"
        refine' itF ?hb ?_
        case hb => exact rfl
        walk_at "go"
        have hm : mk ms p v := hpm
        rcases hs with ⟨hc, rfl⟩ | hc
        · refine ⟨ms, _, _, _, rfl, hlm, hc, fun x hx => ?_⟩
          rcases Nat.lt_or_ge x p with z | z
          · exact ha x z
          · have : x = p := by omega
            subst this; exact ⟨v, hm⟩
        · have h0 : mk ms g 0 := by obtain ⟨_, _, h, _⟩ := hc; exact h
          refine ⟨ms, _, _, _, rfl, hlm, opn_end hg hb hc hm, fun x hx => ?_⟩
          rcases Nat.lt_or_ge x g with z | z
          · exact ha x z
          · have : x = g := by omega
            subst this; exact ⟨0, h0⟩
      | none =>
        rw [ho] at hpm
        have hu : ∀ v, ¬ mk ms p v := fun v h => by rw [mk, hpm] at h; cases h
        walk_at "g"
        case e2 => exact g_ix (d := .non) (by rw [dM_get, hpm]; rfl) (by decide)
        walk_at "go"
        refine' itT ?hb ?_
        case hb => exact rfl
        walk_at "go"
        rw [bxor_nat]
        have hq := hb.lt p hp
        have np := xne (a := p) hb.pos
        walk_at "sg"
        case e3 => exact setD_nat (d := .int 0) (by simp; omega)
        case e4 => walk_at "st"
        walk_at "go"
        walk_at "sg"
        case e3 => exact setD_nat (d := .int 1) (by simp; omega)
        case e4 => walk_at "st"
        walk_at "go"
        obtain ⟨h, hh, hlt⟩ := perm_get hg hq
        walk_at "g"
        case e2 => exact g_ix (d := .int (h : Int)) (dN_get' hh) (by decide)
        walk_at "go"
        rw [bxor_nat]
        obtain ⟨p', hp', hpn⟩ := perm_find hg (hb.lt h hlt)
        walk_at "g"
        case e2 => exact g_ixK (x := .int (p' : Int)) (lookD_at (perm_nodup hg) hp' (dN_get' (List.getElem?_range hpn)))
        walk_at "go"
        have e1 : ((dM ms).set p (.int 0)).set (p ^^^ b) (.int 1) = dM (put2 b ms p) := by
          rw [show (D.int 0) = .int ((0 : Nat) : Int) from rfl, dM_set, show (D.int 1) = .int ((1 : Nat) : Int) from rfl, dM_set]
        have hw : Wr b gs (p ^^^ b) p' := ⟨h, hh, hp'⟩
        refine ⟨unm (put2 b ms p), ?_, put2 b ms p, p', _, by rw [← e1], by simp [hlm], hpn, rfl, .inr ?_, fun x hx => ?_⟩
        · exact Nat.lt_of_le_of_lt unm_set.1 (unm_set.2 hpm)
        · rcases hs with ⟨hc, rfl⟩ | hc
          · exact closed_put hb hlm hp hc hu hw
          · exact opn_put hg hb hlm hp hc hu hw
        · obtain ⟨v, hv⟩ := ha x hx
          by_cases z1 : x = p ^^^ b
          · exact ⟨1, (mk_put hb hlm hp).mpr (.inl ⟨z1, rfl⟩)⟩
          · by_cases z2 : x = p
            · exact ⟨0, (mk_put hb hlm hp).mpr (.inr (.inl ⟨z2, z1, rfl⟩))⟩
            · exact ⟨v, (mk_put hb hlm hp).mpr (.inr (.inr ⟨z2, z1, hv⟩))⟩
    · rintro env ⟨ms, x4, x5, x6, rfl, hlm, hc, ha⟩
      rw [dN_len, rl] at ha
      obtain ⟨rs, e, hm⟩ := marks_end hb hlm hc ha
      rw [e]
      walk_at "go"
      walk_at "ret"
      exact q rs hm

theorem dN_dZ (gs : List Nat) : dN gs = dZ (gs.map fun (g : Nat) => (g : Int)) := by simp [dN, dZ]
theorem eqD_dZ {a b : List Int} : eqD (.lst (dZ a)) (.lst (dZ b)) = decide (a = b) := by
  by_cases q : a = b
  · subst q; rw [eqD_same plain_dZ]; simp
  · rw [decide_eq_false q]
    refine eqD_ne plain_dZ plain_dZ fun e => q ?_
    have h := congrArg (fun d => match d with | D.lst ds => toInts ds | _ => none) e
    simp only [toInts_map] at h
    exact Option.some.inj h
theorem g_sortZ {k : Nat} {zs : List Int} (h : k ≤ 1) : gSortI [(k, .lst (dZ zs))] = some (1, .lst (dZ (isort zs))) := by
  show (if k ≤ 1 then (toInts (dZ zs)).map _ else none) = _
  rw [if_pos h, toInts_map]; rfl
theorem dZ_len {zs : List Int} : (dZ zs).length = zs.length := by simp
theorem dZ_get {zs : List Int} {i : Nat} {z : Int} (h : zs[i]? = some z) : (dZ zs)[i]? = some (.int z) := by rw [List.getElem?_map, h]; rfl
theorem ok_are_things : OkF ms_are_things n_are_things.length sp_are_things w_are_things := by
  rintro ds Q Ex - ⟨n, zs, rfl, hn, q⟩
  unfold w_are_things
  walk_at "env"
  walk_at "go"
  walk_at "g"
  case e2 => exact g_sortZ (by decide)
  walk_at "go"
  refine' i_l1 rfl (by omega) (by omega) ?_
  rw [rgD_nat, dN_dZ]
  walk_at "go"
  walk_at "g"
  case e2 => exact g_eq shp_dZ shp_dZ
  walk_at "go"
  walk_at "ret"
  rw [eqD_dZ]
  exact q
theorem ok_need_cube : OkF ms_need_cube n_need_cube.length sp_need_cube w_need_cube := by
  rintro ds Q Ex - ⟨zs, rfl, hl, q1, q2⟩
  unfold w_need_cube
  walk_at "env"
  walk_at "go"
  rw [dZ_len]
  by_cases h0 : zs.length = 0
  · refine' itT ?hb ?_
    case hb => exact decide_eq_true (by omega)
    walk_at "go"
    refine' itT ?hb ?_
    case hb => exact by decide
    walk_at "go"
    exact q2 (by simp [tst, h0])
  refine' itF ?hb ?_
  case hb => exact decide_eq_false (by omega)
  walk_at "go"
  rw [show (zs.length : Int) - 1 = ((zs.length - 1 : Nat) : Int) by omega, band_nat]
  by_cases h1 : zs.length &&& (zs.length - 1) = 0
  · rw [h1]
    refine' itF ?hb ?_
    case hb => exact by decide
    walk_at "go"
    refine ⟨zs.length, zs, rfl, hl, ?_⟩
    walk_at "put"
    walk_at "go"
    by_cases h2 : allOf zs zs.length = true
    · rw [h2]
      refine' itF ?hb ?_
      case hb => exact by decide
      walk_at "go"
      walk_at "end"
      exact q1 (by simp [tst, h0, h1, h2])
    · have h2' : allOf zs zs.length = false := by simpa using h2
      rw [h2']
      refine' itT ?hb ?_
      case hb => exact by decide
      walk_at "go"
      exact q2 (by simp [tst, h2'])
  · refine' itT ?hb ?_
    case hb => exact (by rw [Bool.not_eq_true', decide_eq_false_iff_not]; omega)
    walk_at "go"
    refine' itT ?hb ?_
    case hb => exact by decide
    walk_at "go"
    exact q2 (by simp [tst, h1])
theorem all_perm {zs : List Int} {n : Nat} (h : allOf zs n = true) : ∃ gs : List Nat, zs = gs.map (fun (g : Nat) => (g : Int)) ∧ gs.Perm (rN n) := by
  have e : isort zs = rZ n := of_decide_eq_true h
  have h1 := isort_perm zs
  rw [e] at h1
  have nn : ∀ z ∈ zs, ∃ g : Nat, z = (g : Int) := fun z hz => by
    obtain ⟨g, _, e⟩ := List.mem_map.mp (h1.mem_iff.mpr hz)
    exact ⟨g, e.symm⟩
  refine ⟨zs.map Int.toNat, ?_, ?_⟩
  · rw [List.map_map]
    conv => lhs; rw [← List.map_id zs]
    refine List.map_congr_left fun z hz => ?_
    obtain ⟨g, rfl⟩ := nn z hz
    simp
  · have h2 := h1.symm.map Int.toNat
    rw [List.map_map] at h2
    rw [show (rN n).map (Int.toNat ∘ fun (g : Nat) => (g : Int)) = rN n by rw [List.map_congr_left (g := id) (fun a _ => by simp)]; simp] at h2
    exact h2
theorem odd_and {n : Nat} (h : n % 2 = 1) (h1 : n ≠ 1) : n &&& (n - 1) ≠ 0 := by
  have e : n - 1 = n / 2 * 2 := by omega
  intro z
  have h2 := @Nat.and_div_two n (n - 1)
  rw [z] at h2
  have e3 : (n - 1) / 2 = n / 2 := by omega
  rw [e3, Nat.and_self] at h2
  omega
theorem bit1 {n : Nat} (h : n % 2 = 0) : Bit n 1 := ⟨by decide, fun p hp => by
  have h1 := @Nat.xor_mod_two_eq_one p 1
  have h2 := @Nat.xor_div_two p 1
  have e : (p ^^^ 1) / 2 = p / 2 := by rw [h2]; simp
  omega⟩
theorem ok_halves_of : OkF ms_halves_of n_halves_of.length sp_halves_of w_halves_of := by
  rintro ds Q Ex - ⟨zs, rfl, hl, q1, q2, q3⟩
  unfold w_halves_of
  walk_at "env"
  walk_at "go"
  refine ⟨zs, rfl, hl, fun ht => ?_, fun ht => q1 ht⟩
  walk_at "put"
  walk_at "go"
  rw [dZ_len]
  by_cases h1 : zs.length = 1
  · refine' itT ?hb ?_
    case hb => exact decide_eq_true (by omega)
    walk_at "go"
    exact q2 ht h1
  refine' itF ?hb ?_
  case hb => exact decide_eq_false (by omega)
  walk_at "go"
  have h0 : zs.length ≠ 0 ∧ zs.length &&& (zs.length - 1) = 0 ∧ allOf zs zs.length = true := by simpa [tst, Bool.and_eq_true] using ht
  obtain ⟨h2, h3, h4⟩ := h0
  obtain ⟨gs, e, hp⟩ := all_perm h4
  have hev : zs.length % 2 = 0 := by
    rcases Nat.mod_two_eq_zero_or_one zs.length with z | z
    · exact z
    · exact absurd h3 (odd_and z h1)
  refine ⟨zs.length, 1, gs, by rw [dN_dZ, ← e]; rfl, by omega, bit1 hev, hp, fun ms hm => ?_⟩
  walk_at "put"
  walk_at "go"
  walk_at "ret"
  exact q3 ht h1 ms
theorem ok__law_kind : OkF ms__law_kind n__law_kind.length sp__law_kind w__law_kind := by
  rintro ds Q Ex - ⟨zs, rfl, hl, q⟩
  unfold w__law_kind
  walk_at "env"
  walk_at "go"
  refine ⟨zs, rfl, hl, fun ht => ?_, fun ht h1 => ?_, fun ht h1 ms => ?_⟩
  · walk_at "try"
    walk_at "g"
    case e2 => exact g_ne shp_dZ shp_dZ
    walk_at "go"
    refine' itF ?hb ?_
    case hb => exact (by rw [eqD_same plain_dZ]; rfl)
    walk_at "go"
    refine' itF ?hb ?_
    case hb => exact by decide
    walk_at "go"
    walk_at "g"
    case e2 => exact rfl
    walk_at "go"
    walk_at "g"
    case e2 => exact rfl
    walk_at "go"
    walk_at "g"
    case e2 => exact rfl
    walk_at "go"
    walk_at "g"
    case e2 => exact rfl
    walk_at "go"
    walk_at "g"
    case e2 => exact rfl
    walk_at "go"
    refine' itF ?hb ?_
    case hb => exact by decide
    walk_at "go"
    walk_at "g"
    case e2 => exact rfl
    walk_at "go"
    refine' itF ?hb ?_
    case hb => exact by decide
    walk_at "go"
    walk_at "mr"
    case e2 => exact rfl
    walk_at "go"
    refine' itF ?hb ?_
    case hb => exact by decide
    walk_at "go"
    walk_at "g"
    case e2 => exact rfl
    walk_at "go"
    walk_at "mr"
    case e2 => exact rfl
    walk_at "go"
    walk_at "g"
    case e2 => exact rfl
    walk_at "go"
    walk_at "ret"
    rw [show kind zs = "NoThings" by simp [kind, ht]] at q
    exact q
  · walk_at "try"
    walk_at "g"
    case e2 => exact g_ne shp_dZ shp_dZ
    walk_at "go"
    refine' itF ?hb ?_
    case hb => exact (by rw [eqD_same plain_dZ]; rfl)
    walk_at "go"
    refine' itF ?hb ?_
    case hb => exact by decide
    walk_at "go"
    walk_at "g"
    case e2 => exact rfl
    walk_at "go"
    walk_at "g"
    case e2 => exact rfl
    walk_at "go"
    walk_at "g"
    case e2 => exact rfl
    walk_at "go"
    walk_at "g"
    case e2 => exact rfl
    walk_at "go"
    walk_at "g"
    case e2 => exact rfl
    walk_at "go"
    refine' itF ?hb ?_
    case hb => exact by decide
    walk_at "go"
    walk_at "g"
    case e2 => exact rfl
    walk_at "go"
    refine' itF ?hb ?_
    case hb => exact by decide
    walk_at "go"
    walk_at "mr"
    case e2 => exact rfl
    walk_at "go"
    refine' itF ?hb ?_
    case hb => exact by decide
    walk_at "go"
    walk_at "g"
    case e2 => exact rfl
    walk_at "go"
    walk_at "mr"
    case e2 => exact rfl
    walk_at "go"
    walk_at "g"
    case e2 => exact rfl
    walk_at "go"
    walk_at "ret"
    rw [show kind zs = "NoWeb" by simp [kind, ht, h1]] at q
    exact q
  · walk_at "put"
    walk_at "go"
    walk_at "g"
    case e2 => exact g_ne shp_dZ shp_dZ
    walk_at "go"
    refine' itF ?hb ?_
    case hb => exact (by rw [eqD_same plain_dZ]; rfl)
    walk_at "go"
    refine' itT ?hb ?_
    case hb => exact by decide
    walk_at "go"
    walk_at "ret"
    rw [show kind zs = "told" by simp [kind, ht, h1]] at q
    exact q

def Bad (zs : List Int) : Prop := tst zs = false ∨ zs = [0] ∨ zs = [0, 1] ∨ zs = [1, 0]
abbrev dL (bs : List (List Int)) : List D := bs.map fun zs => .lst (dZ zs)
theorem all_mem {zs : List Int} {n : Nat} (h : allOf zs n = true) : ∀ z ∈ zs, 0 ≤ z ∧ z < n := fun z hz => by
  obtain ⟨gs, rfl, hp⟩ := all_perm h
  obtain ⟨g, hg, rfl⟩ := List.mem_map.mp hz
  have := hp.mem_iff.mp hg
  simp at this
  omega
theorem all_nodup {zs : List Int} {n : Nat} (h : allOf zs n = true) : zs.Nodup := by
  obtain ⟨gs, rfl, hp⟩ := all_perm h
  rw [List.Nodup, List.pairwise_map]
  exact (perm_nodup hp).imp fun h e => h (by omega)
theorem tst_all {zs : List Int} (h : allOf zs zs.length = false) : tst zs = false := by simp [tst, h]
theorem tst_odd {zs : List Int} (h : zs.length % 2 = 1) (h1 : zs.length ≠ 1) : tst zs = false := by
  have := odd_and h h1
  simp [tst, this]
theorem tst_nil : tst [] = false := rfl
theorem bad_one {x : Int} : Bad [x] := by
  by_cases h : allOf [x] 1 = true
  · have h1 := all_mem h x (by simp)
    have : x = 0 := by omega
    subst this
    exact .inr (.inl rfl)
  · exact .inl (tst_all (by simpa using h))
theorem bad_odd {zs : List Int} (h : zs.length % 2 = 1) : Bad zs := by
  by_cases h1 : zs.length = 1
  · obtain ⟨x, rfl⟩ := List.length_eq_one_iff.mp h1
    exact bad_one
  · exact .inl (tst_odd h h1)
theorem bad_out {zs : List Int} {z : Int} (h : z ∈ zs) (ho : z < 0 ∨ (zs.length : Int) ≤ z) : Bad zs := by
  refine .inl (tst_all ?_)
  cases q : allOf zs zs.length with
  | false => rfl
  | true => have := all_mem q z h; omega
theorem bad_dup {zs : List Int} (h : ¬ zs.Nodup) : Bad zs := by
  refine .inl (tst_all ?_)
  cases q : allOf zs zs.length with
  | false => rfl
  | true => exact absurd (all_nodup q) h
theorem shp_str {s : Str} {k : Nat} (h : PyData.strOk s = true) : shp k (.str s) = true := by cases k <;> simpa [shp] using h
theorem ne_same {u : Str} {a b : Nat} (h : PyData.strOk u = true) : gNe [(a, .str u), (b, .str u)] = some (0, .bl false) := by
  rw [g_ne (shp_str h) (shp_str h), eqD_same rfl]; rfl
theorem kind_shp {zs : List Int} {k : Nat} : shp k (.str (kind zs)) = true := by
  have h : ∀ s : Str, PyData.strOk s = true → shp k (.str s) = true := fun s h => by cases k <;> simpa [shp] using h
  refine h _ ?_
  unfold kind
  split
  · decide +kernel
  · split <;> decide +kernel
theorem kind0 : kind [0] = "NoWeb" := by
  have h : allOf [0] 1 = true := decide_eq_true (isort_rN (gs := [0]) (n := 1) (.refl _))
  have h2 : tst [0] = true := by
    unfold tst
    show (decide ((1 : Nat) ≠ 0) && (decide ((1 : Nat) &&& 0 = 0) && allOf [0] 1)) = true
    rw [h]; rfl
  unfold kind
  rw [h2, if_neg (by decide)]
  exact if_pos rfl
theorem kind1 : kind [1] = "NoThings" := by
  have h : tst [1] = false := tst_all (by
    cases q : allOf [1] 1 with
    | false => rfl
    | true => have := all_mem q 1 (by simp); omega)
  unfold kind
  rw [h, if_pos rfl]
theorem gIn3 {k : Nat} {zs : List Int} : gNotIn [(k, .lst (dZ zs)), (1, .lst [.lst [.int 0], .lst [.int 0, .int 1], .lst [.int 1, .int 0]])] = some (0, .bl (!(decide ([0] = zs) || (decide ([0, 1] = zs) || (decide ([1, 0] = zs) || false))))) := by
  have h1 : shp 15 (.lst (dZ zs)) = true := shp_dZ
  have h2 : shp 16 (.lst [.lst [.int 0], .lst [.int 0, .int 1], .lst [.int 1, .int 0]]) = true := rfl
  have e : inD (.lst (dZ zs)) (1, .lst [.lst [.int 0], .lst [.int 0, .int 1], .lst [.int 1, .int 0]]) = some (([.lst [.int 0], .lst [.int 0, .int 1], .lst [.int 1, .int 0]] : List D).any fun z => eqD z (.lst (dZ zs))) := if_pos ⟨h1, h2⟩
  show (inD (.lst (dZ zs)) _).map _ = _
  rw [e, List.any_cons, List.any_cons, List.any_cons, List.any_nil]
  rw [show (D.lst [.int 0]) = .lst (dZ [0]) from rfl, show (D.lst [.int 0, .int 1]) = .lst (dZ [0, 1]) from rfl, show (D.lst [.int 1, .int 0]) = .lst (dZ [1, 0]) from rfl, eqD_dZ, eqD_dZ, eqD_dZ]
  rfl
theorem keep_tst {zs : List Int} (hb : Bad zs) (h : (!(decide ([0] = zs) || (decide ([0, 1] = zs) || (decide ([1, 0] = zs) || false)))) = true) : tst zs = false := by
  simp at h
  rcases hb with z | z | z | z
  · exact z
  · exact absurd z.symm h.1
  · exact absurd z.symm h.2.1
  · exact absurd z.symm h.2.2
theorem dup_at {z0 : List Int} {a : Nat} {x : Int} (ha : a < z0.length) (h1 : 1 < z0.length) (hx : (0 < a ∧ z0[a - 1]? = some x) ∨ (a = 0 ∧ z0[z0.length - 1]? = some x)) : ¬ (z0.take a ++ [x] ++ z0.drop (a + 1)).Nodup := fun hn => by
  rw [List.append_assoc, List.nodup_append] at hn
  obtain ⟨n1, n2, n3⟩ := hn
  rcases hx with ⟨h0, hx⟩ | ⟨h0, hx⟩
  · have : x ∈ z0.take a := by
      refine List.mem_of_getElem? (i := a - 1) ?_
      rw [List.getElem?_take_of_lt (by omega)]; exact hx
    exact n3 x this x (by simp) rfl
  · subst h0
    rw [List.singleton_append, List.nodup_cons] at n2
    apply n2.1
    refine List.mem_of_getElem? (i := z0.length - 2) ?_
    rw [List.getElem?_drop, show 0 + 1 + (z0.length - 2) = z0.length - 1 by omega]; exact hx
theorem g_ixLast {n : Nat} {zs : List Int} {z : Int} (h : zs[zs.length - 1]? = some z) (hn : n ≤ 1) {m : Nat} : gIx [(n, .lst (dZ zs)), (m, .int (-1))] = some (0, .int z) := by
  have hl : 0 < zs.length := by
    rcases Nat.eq_zero_or_pos zs.length with q | q
    · rw [List.eq_nil_of_length_eq_zero q] at h; cases h
    · exact q
  have e : ixN (dZ zs).length (-1) = some (zs.length - 1) := by
    rw [dZ_len]
    unfold ixN
    rw [if_neg (by omega), if_pos (by omega)]
    congr 1
    omega
  have e2 : atI (dZ zs) (-1) = some (.int z) := by
    unfold atI
    rw [e]; exact dZ_get h
  have : gIxS [(n, .lst (dZ zs)), (m, .int (-1))] = some (0, .int z) := by
    show (if n ≤ 1 then (atI (dZ zs) (-1)).map _ else none) = _
    rw [if_pos hn, e2]; rfl
  show (gIxS _ <|> gIxD _) = _
  rw [this]; rfl
theorem g_cutScr10 {k : Nat} {ns : List Int} : gCut (k, .scr ns) none (some 10) = some (1, .lst ((ns.map D.int).take 10)) := by
  show some ((1 : Nat), D.lst (DL.cutD (ns.map D.int) none (some ((10 : Nat) : Int)))) = _
  have := g_cutTake (n := 0) (a := 10) (ds := ns.map D.int) (by decide)
  have h2 : gCut (0, .lst (ns.map D.int)) none (some ((10 : Nat) : Int)) = some (1, .lst (DL.cutD (ns.map D.int) none (some ((10 : Nat) : Int)))) := rfl
  rw [← h2]; exact this

theorem ok__law_near : OkF ms__law_near n__law_near.length sp__law_near w__law_near := by
  rintro ds Q Ex - ⟨h, zs, rfl, hh, h0, hl, q⟩
  unfold w__law_near
  walk_at "env"
  walk_at "go"
  refine ⟨h, _, rfl, hh, by rw [dZ_len]; omega, by rw [dZ_len]; omega, fun by_ h hb hh => ?_⟩
  walk_at "put"
  walk_at "go"
  refine ⟨h, _, rfl, hh, by rw [dZ_len]; omega, by rw [dZ_len]; omega, fun one h ho hh => ?_⟩
  walk_at "put"
  walk_at "go"
  refine ⟨h, _, rfl, hh, by rw [dZ_len]; omega, by rw [dZ_len]; omega, fun other h hr hh => ?_⟩
  walk_at "put"
  walk_at "go"
  rw [dZ_len] at ho hr hb
  obtain ⟨x, hx⟩ : ∃ x, zs[one]? = some x := ⟨_, List.getElem?_eq_getElem (by omega)⟩
  walk_at "g"
  case e2 => exact g_ix (dZ_get hx) (by decide)
  walk_at "go"
  walk_at "sg"
  case e3 => exact setD_nat (by rw [dZ_len]; omega)
  case e4 => walk_at "st"
  walk_at "go"
  rw [← List.map_set]
  obtain ⟨y, hy⟩ : ∃ y, (zs.set one (x + (1 + (by_ : Int))))[other]? = some y := ⟨_, List.getElem?_eq_getElem (by rw [List.length_set]; omega)⟩
  walk_at "g"
  case e2 => exact g_ix (dZ_get hy) (by decide)
  walk_at "go"
  walk_at "sg"
  case e3 => exact setD_nat (by rw [dZ_len, List.length_set]; omega)
  case e4 => walk_at "st"
  walk_at "go"
  rw [← List.map_set]
  refine ⟨h, _, rfl, hh, by rw [dZ_len]; omega, by rw [dZ_len]; omega, fun v h hv hh => ?_⟩
  walk_at "put"
  walk_at "go"
  walk_at "g"
  case e2 => exact rfl
  walk_at "go"
  rw [dZ_len]
  walk_at "g"
  case e2 => exact g_rep (by decide) (by omega) (by omega)
  walk_at "go"
  rw [show List.replicate (zs.length : Int).toNat (D.int (v : Int)) = dZ (List.replicate zs.length (v : Int)) by simp]
  refine' i_lcg (fun i acc env => ∃ cs h, acc = dZ cs ∧ cs.length = i ∧ env = [some (1, h), some (0, .lst (dZ zs)), some (0, .int (zs.length : Int)), some (0, .lst (dZ ((zs.set one (x + (1 + (by_ : Int)))).set other (y - (1 + (by_ : Int)))))), some (0, .int (1 + (by_ : Int))), some (0, .int (one : Int)), some (0, .int (other : Int)), none] ∧ Hand h) ⟨[], h, rfl, rfl, rfl, hh⟩ ?_ ?_
  · rintro i acc env d hd ⟨cs, h, rfl, hi, rfl, hh⟩
    have hil := lt_of_get hd
    rw [dZ_len] at hil
    refine ⟨fun j hj => ?_, by rw [dZ_len]; omega, ?_⟩
    · simp at hj; subst hj; exact .inl rfl
    walk_at "fgt"
    walk_at "go"
    refine' itT ?hb ?_
    case hb => exact by decide
    walk_at "go"
    refine ⟨h, _, rfl, hh, by omega, by omega, fun t h' ht hh' => ?_⟩
    walk_at "put"
    walk_at "go"
    exact ⟨rfl, fun h => absurd rfl h, cs ++ [(t : Int) - 1], h', by simp, by simp [hi], rfl, hh'⟩
  · rintro acc env ⟨cs, h, rfl, hi, rfl, hh⟩
    rw [dZ_len] at hi
    walk_at "go"
    walk_at "g"
    case e2 => exact rfl
    walk_at "go"
    walk_at "ret"
    exact q _ _ cs h (by simp) (by simp) hi hh

def Fz (x : Option Val) : Prop := x = none ∨ ∃ d, x = some (0, d)
theorem fz_frzO (x : Option Val) : Fz (frzO x) := by
  cases x with
  | none => exact .inl rfl
  | some x => exact .inr ⟨x.2, rfl⟩
theorem fz_own {env : DL.Env} {i : Nat} {x : Option Val} (h : env[i]? = some x) (f : Fz x) : ownOk [i] env := fun j hj => by
  simp at hj; subst hj
  rcases f with f | ⟨d, f⟩
  · exact .inl (by rw [h, f])
  · exact .inr ⟨d, by rw [h, f]⟩
theorem ok_law : OkF ms_law n_law.length sp_law w_law := by
  rintro ds Q Ex - ⟨ns, rfl, q⟩
  unfold w_law
  walk_at "env"
  walk_at "go"
  walk_at "g"
  case e2 => exact g_pow (by decide) (by decide) (by decide)
  walk_at "go"
  walk_at "g"
  case e2 => exact rfl
  walk_at "go"
  refine' i_cg3 rfl g_cutScr10 ?_
  walk_at "go"
  walk_at "g"
  case e2 => exact g_cat (by decide) (by decide) (by simp; omega)
  walk_at "go"
  refine i_fg (fun i env => ∃ x1 x2 x3 x4 x5 x6 x7 x8 x9 x10 x11 x12 x13, env = [some (0, .scr ns), x1, x2, x3, x4, x5, x6, x7, x8, x9, x10, x11, x12, x13] ∧ Fz x8) ⟨none, none, none, none, none, none, none, none, none, none, none, none, none, rfl, .inl rfl⟩ ?_ ?_
  · rintro i env d hd ⟨x1, x2, x3, x4, x5, x6, x7, x8, x9, x10, x11, x12, x13, rfl, f8⟩
    obtain ⟨z, rfl⟩ : ∃ z, d = .int z := by
      rcases List.mem_append.mp (List.mem_of_getElem? hd) with h | h
      · simp at h; exact ⟨_, h⟩
      · obtain ⟨z, _, e⟩ := List.mem_map.mp (List.mem_of_mem_take h)
        exact ⟨z, e.symm⟩
    walk_at "go"
    refine ⟨z, rfl, fun h hh => ?_⟩
    walk_at "put"
    walk_at "go"
    refine ⟨h, _, rfl, hh, by decide, by decide, fun s h hs hh => ?_⟩
    walk_at "put"
    walk_at "go"
    walk_at "g"
    case e2 => exact g_shl (by omega) (by omega) (by decide)
    walk_at "go"
    rw [show (1 : Int) * 2 ^ (s : Int).toNat = ((2 ^ s : Nat) : Int) by simp]
    refine ⟨h, s, rfl, hh, by omega, fun gs h hp hh => ?_⟩
    walk_at "put"
    walk_at "go"
    have hl := perm_len hp
    have hev : 2 ^ s = 1 ∨ 2 ^ s % 2 = 0 := by
      cases s with
      | zero => exact .inl rfl
      | succ t => right; rw [Nat.pow_succ]; omega
    have p1 : 0 < 2 ^ s := Nat.two_pow_pos s
    have p2 : 2 ^ s ≤ 2 ^ 6 := Nat.pow_le_pow_right (by decide) (by omega)
    have hts : (2 ^ s : Nat) &&& (2 ^ s - 1) = 0 := two_pow
    generalize 2 ^ s = n at *
    obtain ⟨z0, e0, l0, al0⟩ : ∃ z0, dN gs = dZ z0 ∧ z0.length = n ∧ allOf z0 n = true := ⟨_, dN_dZ gs, by simpa using hl, decide_eq_true (isort_rN hp)⟩
    rw [e0, dZ_len, l0]
    refine ⟨h, _, rfl, hh, by omega, by omega, fun at_ h ha hh => ?_⟩
    walk_at "put"
    walk_at "go"
    walk_at "g"
    case e2 => exact g_pow (by decide) (by decide) (by decide)
    walk_at "go"
    walk_at "g"
    case e2 => exact rfl
    walk_at "go"
    refine ⟨h, _, rfl, hh, by decide, by decide, fun f3 h hf3 hh => ?_⟩
    walk_at "put"
    walk_at "go"
    obtain ⟨m, hm, hm0, hm1⟩ : ∃ m : Int, ([D.int 1, D.int 9, D.int ((10 : Int) ^ (29 : Int).toNat)] : List D)[f3]? = some (.int m) ∧ 0 < m ∧ m ≤ 1000000000000000000000000000000 := by
      have : f3 = 0 ∨ f3 = 1 ∨ f3 = 2 := by omega
      rcases this with rfl | rfl | rfl
      · exact ⟨1, rfl, by decide, by decide⟩
      · exact ⟨9, rfl, by decide, by decide⟩
      · exact ⟨_, rfl, by decide, by decide⟩
    walk_at "g"
    case e2 => exact g_ix hm (by decide)
    walk_at "go"
    refine ⟨h, m, rfl, hh, hm0, hm1, fun far h hfar hh => ?_⟩
    walk_at "put"
    walk_at "go"
    walk_at "g"
    case e2 => exact rfl
    walk_at "go"
    walk_at "g"
    case e2 => exact rfl
    walk_at "go"
    have ha' : at_ < n := by omega
    have lz : ∀ b : Int, (z0.take at_ ++ [b] ++ z0.drop (at_ + 1)).length = n := fun b => by simp; omega
    have app3 : ∀ b : Int, (dZ z0).take at_ ++ [D.int b] ++ (dZ z0).drop (at_ + 1) = dZ (z0.take at_ ++ [b] ++ z0.drop (at_ + 1)) := fun b => by simp
    refine i_fg (fun i env => ∃ bs x8, env = [some (0, .scr ns), some (0, .int z), some (1, h), some (0, .lst (dZ z0)), some (0, .int (n : Int)), some (0, .int (at_ : Int)), some (0, .int (far : Int)), some (1, .lst (dL bs)), x8, x9, x10, x11, x12, x13] ∧ (∀ zs ∈ bs, Bad zs ∧ zs.length ≤ 100) ∧ bs.length ≤ i ∧ Fz x8) ⟨[], x8, rfl, by simp, by simp, f8⟩ ?_ ?_
    · rintro i env d hd ⟨bs, y8, rfl, hb, hbl, _⟩
      obtain ⟨b, rfl, hbo⟩ : ∃ b : Int, d = .int b ∧ (b < 0 ∨ (n : Int) ≤ b) := by
        match i, hd with
        | 0, hd => exact ⟨_, (Option.some.inj hd).symm, .inl (by omega)⟩
        | 1, hd => exact ⟨_, (Option.some.inj hd).symm, .inr (by omega)⟩
        | j + 2, hd => cases hd
      have hi : i < 2 := lt_of_get hd
      walk_at "go"
      refine' i_cg3 rfl (g_cutTake (by decide)) ?_
      walk_at "go"
      walk_at "g"
      case e2 => exact rfl
      walk_at "go"
      walk_at "g"
      case e2 => exact g_cat (by decide) (by decide) (by simp; omega)
      walk_at "go"
      rw [show (at_ : Int) + 1 = ((at_ + 1 : Nat) : Int) by omega]
      refine' i_cg3 rfl (g_cutDrop (by decide) (by rw [dZ_len]; omega)) ?_
      walk_at "go"
      walk_at "g"
      case e2 => exact g_cat (by decide) (by decide) (by simp; omega)
      walk_at "go"
      walk_at "m"
      case e3 => exact m_app (by simp; omega)
      case e4 => walk_at "st"
      walk_at "go"
      rw [app3]
      refine ⟨bs ++ [z0.take at_ ++ [b] ++ z0.drop (at_ + 1)], some (0, .int b), by simp, fun zs hzs => ?_, by simp; omega, .inr ⟨_, rfl⟩⟩
      rcases List.mem_append.mp hzs with q | q
      · exact hb zs q
      · have q := List.mem_singleton.mp q
        subst q
        exact ⟨bad_out (z := b) (by simp) (by rw [lz]; exact hbo), by rw [lz]; omega⟩
    rintro env ⟨bs, y8, rfl, hb, hbl, f8⟩
    have hbl : bs.length ≤ 2 := hbl
    refine i_seqM (fun e => ∃ bs y9, e = [some (0, .scr ns), some (0, .int z), some (1, h), some (0, .lst (dZ z0)), some (0, .int (n : Int)), some (0, .int (at_ : Int)), some (0, .int (far : Int)), some (1, .lst (dL bs)), y8, y9, x10, x11, x12, x13] ∧ (∀ zs ∈ bs, Bad zs ∧ zs.length ≤ 100) ∧ bs.length ≤ 3) (fun N hN => ?_) ?_
    · walk_at "go"
      split
      · rename_i hn1
        have hn1 : 1 < n := by have := of_decide_eq_true hn1; omega
        walk_at "go"
        obtain ⟨x, hx, hx2⟩ : ∃ x, gIx [(0, .lst (dZ z0)), (0, .int ((at_ : Int) - 1))] = some (0, .int x) ∧ ((0 < at_ ∧ z0[at_ - 1]? = some x) ∨ (at_ = 0 ∧ z0[z0.length - 1]? = some x)) := by
          rcases Nat.eq_zero_or_pos at_ with e | e
          · have e2 : z0[z0.length - 1]? = some z0[z0.length - 1] := List.getElem?_eq_getElem (by omega)
            exact ⟨_, by rw [e, show ((0 : Nat) : Int) - 1 = -1 from rfl]; exact g_ixLast e2 (by decide), .inr ⟨e, e2⟩⟩
          · have e2 : z0[at_ - 1]? = some z0[at_ - 1] := List.getElem?_eq_getElem (by omega)
            exact ⟨_, by rw [show (at_ : Int) - 1 = ((at_ - 1 : Nat) : Int) by omega]; exact g_ix (dZ_get e2) (by decide), .inl ⟨e, e2⟩⟩
        walk_at "g"
        case e2 => exact hx
        walk_at "go"
        refine' i_cg3 rfl (g_cutTake (by decide)) ?_
        walk_at "go"
        walk_at "g"
        case e2 => exact rfl
        walk_at "go"
        walk_at "g"
        case e2 => exact g_cat (by decide) (by decide) (by simp; omega)
        walk_at "go"
        rw [show (at_ : Int) + 1 = ((at_ + 1 : Nat) : Int) by omega]
        refine' i_cg3 rfl (g_cutDrop (by decide) (by rw [dZ_len]; omega)) ?_
        walk_at "go"
        walk_at "g"
        case e2 => exact g_cat (by decide) (by decide) (by simp; omega)
        walk_at "go"
        walk_at "m"
        case e3 => exact m_app (by simp; omega)
        case e4 => walk_at "st"
        walk_at "go"
        rw [app3]
        refine hN _ ⟨bs ++ [z0.take at_ ++ [x] ++ z0.drop (at_ + 1)], some (0, .int x), by simp, fun zs hzs => ?_, by simp; omega⟩
        rcases List.mem_append.mp hzs with q | q
        · exact hb zs q
        · have q := List.mem_singleton.mp q
          subst q
          exact ⟨bad_dup (dup_at (by omega) (by omega) hx2), by rw [lz]; omega⟩
      · walk_at "go"
        exact hN _ ⟨bs, x9, rfl, hb, by omega⟩
    rintro env ⟨bs, y9, rfl, hb, hbl⟩
    walk_at "go"
    refine' i_cg3 rfl (g_cutTake (by decide)) ?_
    walk_at "go"
    rw [show (at_ : Int) + 1 = ((at_ + 1 : Nat) : Int) by omega]
    refine' i_cg3 rfl (g_cutDrop (by decide) (by rw [dZ_len]; omega)) ?_
    walk_at "go"
    walk_at "g"
    case e2 => exact g_cat (by decide) (by decide) (by simp; omega)
    walk_at "go"
    walk_at "m"
    case e3 => exact m_app (by simp; omega)
    case e4 => walk_at "st"
    walk_at "go"
    have eat : z0[at_]? = some z0[at_] := List.getElem?_eq_getElem (by omega)
    walk_at "g"
    case e2 => exact g_ix (dZ_get eat) (by decide)
    walk_at "go"
    walk_at "g"
    case e2 => exact rfl
    walk_at "go"
    walk_at "g"
    case e2 => exact g_cat (by decide) (by decide) (by simp; omega)
    walk_at "go"
    walk_at "m"
    case e3 => exact m_app (by simp; omega)
    case e4 => walk_at "st"
    walk_at "go"
    walk_at "g"
    case e2 => exact rfl
    walk_at "go"
    walk_at "g"
    case e2 => exact g_cat (by decide) (by decide) (by simp; omega)
    walk_at "go"
    walk_at "g"
    case e2 => exact rfl
    walk_at "go"
    walk_at "g"
    case e2 => exact rfl
    walk_at "go"
    walk_at "g"
    case e2 => exact g_cat (by decide) (by decide) (by simp; omega)
    walk_at "go"
    have eB : dL bs ++ [D.lst ((dZ z0).take at_ ++ (dZ z0).drop (at_ + 1))] ++ [D.lst (dZ z0 ++ [D.int z0[at_]])] ++ [D.lst (dZ z0 ++ [D.int (n : Int)]), D.lst []] = dL (bs ++ [z0.take at_ ++ z0.drop (at_ + 1)] ++ [z0 ++ [z0[at_]]] ++ [z0 ++ [(n : Int)], []]) := by simp
    have nd0 := all_nodup al0
    have hB : ∀ zs ∈ bs ++ [z0.take at_ ++ z0.drop (at_ + 1)] ++ [z0 ++ [z0[at_]]] ++ [z0 ++ [(n : Int)], []], Bad zs ∧ zs.length ≤ 100 := fun zs hzs => by
      simp only [List.mem_append, List.mem_cons, List.not_mem_nil, or_false] at hzs
      rcases hzs with ((q | q) | q) | q | q
      · exact hb zs q
      · have ll : zs.length = n - 1 := by rw [q]; simp; omega
        refine ⟨?_, by omega⟩
        rcases hev with e | e
        · have : zs = [] := List.eq_nil_of_length_eq_zero (by omega)
          rw [this]; exact .inl tst_nil
        · exact bad_odd (by omega)
      · have ll : zs.length = n + 1 := by rw [q]; simp; omega
        refine ⟨?_, by omega⟩
        rcases hev with e | e
        · refine bad_dup (fun hn => ?_)
          rw [q, List.nodup_append] at hn
          exact hn.2.2 z0[at_] (List.getElem_mem _) z0[at_] (by simp) rfl
        · exact bad_odd (by omega)
      · have ll : zs.length = n + 1 := by rw [q]; simp; omega
        refine ⟨?_, by omega⟩
        rcases hev with e | e
        · obtain ⟨x, hx⟩ := List.length_eq_one_iff.mp (l0.trans e)
          have h5 := all_mem al0 x (by rw [hx]; simp)
          rw [q, hx]
          refine .inr (.inr (.inl ?_))
          have : x = 0 := by omega
          rw [this, e]; rfl
        · exact bad_odd (by omega)
      · subst q; exact ⟨.inl tst_nil, by simp⟩
    rw [eB]
    have hBl : (bs ++ [z0.take at_ ++ z0.drop (at_ + 1)] ++ [z0 ++ [z0[at_]]] ++ [z0 ++ [(n : Int)], []]).length ≤ 10 := by simp; omega
    generalize bs ++ [z0.take at_ ++ z0.drop (at_ + 1)] ++ [z0 ++ [z0[at_]]] ++ [z0 ++ [(n : Int)], []] = cs at hB hBl
    refine' i_lcg (fun i acc env => ∃ ks, acc = dL ks ∧ (∀ zs ∈ ks, tst zs = false ∧ zs.length ≤ 100) ∧ ks.length ≤ i ∧ env = [some (0, .scr ns), some (0, .int z), some (1, h), some (0, .lst (dZ z0)), some (0, .int (n : Int)), some (0, .int (at_ : Int)), some (0, .int (far : Int)), some (0, .lst (dL cs)), y8, y9, x10, x11, x12, x13]) ?_ ?_ ?_
    · exact ⟨[], rfl, by simp, Nat.le_refl _, rfl⟩
    · rintro i acc env d hd ⟨ks, rfl, hk, hkl, rfl⟩
      have hil := lt_of_get hd
      simp only [List.length_map] at hil
      obtain ⟨zs, hzs, rfl⟩ := List.mem_map.mp (List.mem_of_getElem? hd)
      obtain ⟨hbad, hzl⟩ := hB zs hzs
      refine ⟨fz_own rfl f8, by simp; omega, ?_⟩
      walk_at "fgt"
      walk_at "go"
      walk_at "g"
      case e2 => exact rfl
      walk_at "go"
      walk_at "g"
      case e2 => exact rfl
      walk_at "go"
      walk_at "g"
      case e2 => exact rfl
      walk_at "go"
      walk_at "g"
      case e2 => exact rfl
      walk_at "go"
      walk_at "g"
      case e2 => exact gIn3 (k := 0)
      walk_at "go"
      split
      · rename_i hc
        walk_at "go"
        exact ⟨rfl, fun h => absurd rfl h, ks ++ [zs], by simp, fun z hz => (List.mem_append.mp hz).elim (hk z) fun q => by rw [List.mem_singleton.mp q]; exact ⟨keep_tst hbad hc, hzl⟩, by simp; omega, rfl⟩
      · exact ⟨rfl, ks, rfl, hk, by omega, rfl⟩
    rintro acc env ⟨ks, rfl, hk, hkl, rfl⟩
    simp only [List.length_map] at hkl
    walk_at "go"
    refine' i_lcg (fun i acc env => acc = [] ∧ env = [some (0, .scr ns), some (0, .int z), some (0, h), some (0, .lst (dZ z0)), some (0, .int (n : Int)), some (0, .int (at_ : Int)), some (0, .int (far : Int)), some (0, .lst (dL ks)), frzO y8, frzO y9, frzO x10, frzO x11, frzO x12, frzO x13]) ⟨rfl, rfl⟩ ?_ ?_
    · rintro i acc env d hd ⟨rfl, rfl⟩
      obtain ⟨zs, hzs, rfl⟩ := List.mem_map.mp (List.mem_of_getElem? hd)
      obtain ⟨ht, hzl⟩ := hk zs hzs
      refine ⟨fz_own rfl (fz_frzO _), by simp, ?_⟩
      walk_at "fgt"
      walk_at "go"
      refine ⟨zs, rfl, by omega, ?_⟩
      walk_at "put"
      walk_at "go"
      walk_at "g"
      case e2 => exact g_ne kind_shp (kind_shp (zs := []))
      walk_at "go"
      rw [show kind zs = "NoThings" by simp [kind, ht]]
      refine' itF ?hb ?_
      case hb => exact (by rw [eqD_same rfl]; rfl)
      walk_at "go"
      exact ⟨rfl, by first | trivial | exact ⟨rfl, rfl⟩⟩
    rintro acc env ⟨rfl, rfl⟩
    walk_at "go"
    walk_at "g"
    case e2 => exact rfl
    walk_at "go"
    walk_at "g"
    case e2 => exact rfl
    walk_at "go"
    refine' itF ?hb ?_
    case hb => exact by decide
    walk_at "go"
    refine ⟨h, z0, rfl, hh, by omega, by omega, fun as bs3 cs3 h la lb lc hh => ?_⟩
    walk_at "put"
    walk_at "go"
    have tA : ∀ zs : List Int, zs.length = n → tst zs = allOf zs n := fun zs hz => by
      unfold tst
      rw [hz, hts, decide_eq_true (show n ≠ 0 by omega)]
      simp
    refine i_fg (fun i env => ∃ y10 y11, env = [some (0, .scr ns), some (0, .int z), some (1, h), some (0, .lst (dZ z0)), some (0, .int (n : Int)), some (0, .int (at_ : Int)), some (0, .int (far : Int)), some (1, .lst (dL ks)), y8, y9, y10, y11, x12, x13]) ⟨_, _, rfl⟩ ?_ ?_
    · rintro i env d hd ⟨y10, y11, rfl⟩
      obtain ⟨zs, rfl, hz⟩ : ∃ zs, d = .lst (dZ zs) ∧ zs.length = n := by
        match i, hd with
        | 0, hd => exact ⟨as, (Option.some.inj hd).symm, by omega⟩
        | 1, hd => exact ⟨bs3, (Option.some.inj hd).symm, by omega⟩
        | 2, hd => exact ⟨cs3, (Option.some.inj hd).symm, by omega⟩
        | j + 3, hd => cases hd
      walk_at "go"
      walk_at "g"
      case e2 => exact g_sortZ (by decide)
      walk_at "go"
      refine' i_l1 rfl (by omega) (by omega) ?_
      rw [rgD_nat, dN_dZ]
      walk_at "go"
      walk_at "g"
      case e2 => exact g_eq shp_dZ shp_dZ
      walk_at "go"
      rw [eqD_dZ]
      refine ⟨zs, rfl, by omega, ?_⟩
      walk_at "put"
      walk_at "go"
      walk_at "g"
      case e2 => exact rfl
      walk_at "go"
      walk_at "g"
      case e2 => exact g_mulS (by split <;> decide) (by split <;> decide)
      walk_at "go"
      have hk : kind zs = if allOf zs n = false then ("NoThings" : Str) else if n = 1 then ("NoWeb" : Str) else ("told" : Str) := by
        unfold kind
        rw [tA zs hz, hz]
      have hA : decide (isort zs = (rN n).map fun (g : Nat) => (g : Int)) = allOf zs n := rfl
      rw [hA]
      by_cases h1 : n = 1
      · rw [decide_eq_true (show (n : Int) = 1 by omega)]
        cases hb2 : allOf zs n with
        | false =>
          rw [show kind zs = "NoThings" by rw [hk]; simp [hb2]]
          walk_at "g"
          case e2 => exact rfl
          walk_at "go"
          walk_at "g"
          case e2 => exact ne_same (by decide +kernel)
          walk_at "go"
          refine' itF ?hb ?_
          case hb => exact by decide
          walk_at "go"
          exact ⟨_, _, rfl⟩
        | true =>
          rw [show kind zs = "NoWeb" by rw [hk, hb2, if_neg (by decide), if_pos h1]]
          walk_at "g"
          case e2 => exact rfl
          walk_at "go"
          walk_at "g"
          case e2 => exact ne_same (by decide +kernel)
          walk_at "go"
          refine' itF ?hb ?_
          case hb => exact by decide
          walk_at "go"
          exact ⟨_, _, rfl⟩
      · rw [decide_eq_false (show ¬ (n : Int) = 1 by omega)]
        cases hb2 : allOf zs n with
        | false =>
          rw [show kind zs = "NoThings" by rw [hk]; simp [hb2]]
          walk_at "g"
          case e2 => exact rfl
          walk_at "go"
          walk_at "g"
          case e2 => exact ne_same (by decide +kernel)
          walk_at "go"
          refine' itF ?hb ?_
          case hb => exact by decide
          walk_at "go"
          exact ⟨_, _, rfl⟩
        | true =>
          rw [show kind zs = "told" by rw [hk]; simp [hb2, h1]]
          walk_at "g"
          case e2 => exact rfl
          walk_at "go"
          walk_at "g"
          case e2 => exact ne_same (by decide +kernel)
          walk_at "go"
          refine' itF ?hb ?_
          case hb => exact by decide
          walk_at "go"
          exact ⟨_, _, rfl⟩
    rintro env ⟨y10, y11, rfl⟩
    refine i_seqM (fun e => ∃ (o : Nat) (h : D), e = [some (0, .scr ns), some (0, .int z), some (1, h), some (0, .lst (dZ z0)), some (0, .int (n : Int)), some (0, .int (at_ : Int)), some (0, .int (far : Int)), some (1, .lst (dL ks)), y8, y9, y10, y11, some (0, .int (1 + (o : Int))), x13] ∧ Hand h ∧ (o : Int) < 40) (fun N hN => ?_) ?_
    · walk_at "go"
      refine ⟨h, _, rfl, hh, by decide, by decide, fun o h ho hh => ?_⟩
      walk_at "put"
      walk_at "go"
      exact hN _ ⟨o, h, rfl, hh, ho⟩
    rintro env ⟨o, h, rfl, hh, ho⟩
    refine i_seqM (fun e => e = [some (0, .scr ns), some (0, .int z), some (1, h), some (0, .lst (dZ z0)), some (0, .int (n : Int)), some (0, .int (at_ : Int)), some (0, .int (far : Int)), some (1, .lst (dL ks)), y8, y9, y10, y11, some (0, .int (1 + (o : Int))), some (0, .str "told")]) (fun N hN => ?_) ?_
    · walk_at "go"
      exact hN _ rfl
    rintro env rfl
    refine i_seqM (fun e => e = [some (0, .scr ns), some (0, .int z), some (1, h), some (0, .lst (dZ z0)), some (0, .int (n : Int)), some (0, .int (at_ : Int)), some (0, .int (far : Int)), some (1, .lst (dL ks)), y8, y9, y10, y11, some (0, .int (1 + (o : Int))), some (0, .str (if (o + 1) &&& o = 0 then ("told" : Str) else ("NoThings" : Str)))]) (fun N hN => ?_) ?_
    · walk_at "go"
      rw [show (1 + (o : Int)) - 1 = (o : Int) by omega, show (1 + (o : Int)) = ((o + 1 : Nat) : Int) by omega, band_nat]
      by_cases h5 : (o + 1) &&& o = 0
      · rw [h5]
        refine' itF ?hb ?_
        case hb => exact by decide
        walk_at "go"
        exact hN _ (by rw [if_pos h5, show ((o + 1 : Nat) : Int) = 1 + (o : Int) by omega])
      · refine' itT ?hb ?_
        case hb => exact (by rw [Bool.not_eq_true', decide_eq_false_iff_not]; omega)
        walk_at "go"
        exact hN _ (by rw [if_neg h5, show ((o + 1 : Nat) : Int) = 1 + (o : Int) by omega])
    rintro env rfl
    refine i_seqM (fun e => e = [some (0, .scr ns), some (0, .int z), some (1, h), some (0, .lst (dZ z0)), some (0, .int (n : Int)), some (0, .int (at_ : Int)), some (0, .int (far : Int)), some (1, .lst (dL ks)), y8, y9, y10, y11, some (0, .int (1 + (o : Int))), some (0, .str (if o = 0 then ("NoWeb" : Str) else if (o + 1) &&& o = 0 then ("told" : Str) else ("NoThings" : Str)))]) (fun N hN => ?_) ?_
    · walk_at "go"
      by_cases h5 : o = 0
      · refine' itT ?hb ?_
        case hb => exact decide_eq_true (by omega)
        walk_at "go"
        exact hN _ (by rw [if_pos h5])
      · refine' itF ?hb ?_
        case hb => exact decide_eq_false (by omega)
        walk_at "go"
        exact hN _ (by rw [if_neg h5])
    rintro env rfl
    walk_at "go"
    rw [show (1 + (o : Int)) = ((o + 1 : Nat) : Int) by omega]
    refine ⟨h, o + 1, rfl, hh, by omega, fun gs2 h hp2 hh => ?_⟩
    walk_at "put"
    walk_at "go"
    refine ⟨gs2.map fun (g : Nat) => (g : Int), by rw [← dN_dZ], by rw [List.length_map, perm_len hp2]; omega, ?_⟩
    walk_at "put"
    walk_at "go"
    have kd : kind (gs2.map fun (g : Nat) => (g : Int)) = if o = 0 then ("NoWeb" : Str) else if (o + 1) &&& o = 0 then ("told" : Str) else ("NoThings" : Str) := by
      have hl2 : (gs2.map fun (g : Nat) => (g : Int)).length = o + 1 := by rw [List.length_map, perm_len hp2]
      have ha2 : allOf (gs2.map fun (g : Nat) => (g : Int)) (o + 1) = true := decide_eq_true (isort_rN hp2)
      unfold kind tst
      rw [hl2, ha2, show o + 1 - 1 = o by omega]
      by_cases h5 : o = 0
      · subst h5; rfl
      · by_cases h6 : (o + 1) &&& o = 0 <;> simp [h5, h6]
    rw [kd]
    have sk : PyData.strOk (if o = 0 then ("NoWeb" : Str) else if (o + 1) &&& o = 0 then ("told" : Str) else ("NoThings" : Str)) = true := by
      split
      · decide +kernel
      · split <;> decide +kernel
    walk_at "g"
    case e2 => exact ne_same sk
    walk_at "go"
    refine' itF ?hb ?_
    case hb => exact by decide
    walk_at "go"
    walk_at "g"
    case e2 => exact rfl
    walk_at "go"
    refine ⟨[0], rfl, by decide, ?_⟩
    walk_at "put"
    walk_at "go"
    rw [kind0]
    walk_at "g"
    case e2 => exact ne_same (by decide +kernel)
    walk_at "go"
    refine' itF ?hb ?_
    case hb => exact by decide
    walk_at "go"
    walk_at "g"
    case e2 => exact rfl
    walk_at "go"
    refine ⟨[1], rfl, by decide, ?_⟩
    walk_at "put"
    walk_at "go"
    rw [kind1]
    walk_at "g"
    case e2 => exact ne_same (by decide +kernel)
    walk_at "go"
    refine' itF ?hb ?_
    case hb => exact by decide
    walk_at "go"
    refine ⟨z0, rfl, by omega, ?_⟩
    walk_at "put"
    walk_at "go"
    walk_at "g"
    case e2 => exact rfl
    walk_at "go"
    by_cases h1 : n = 1
    · rw [decide_eq_true (show (n : Int) = 1 by omega), show kind z0 = "NoWeb" by unfold kind; rw [tA z0 l0, al0, l0]; simp [h1]]
      walk_at "g"
      case e2 => exact rfl
      walk_at "go"
      walk_at "g"
      case e2 => exact ne_same (by decide +kernel)
      walk_at "go"
      refine' itF ?hb ?_
      case hb => exact by decide
      walk_at "go"
      exact ⟨_, _, _, _, _, _, _, _, _, _, _, _, _, rfl, f8⟩
    · rw [decide_eq_false (show ¬ (n : Int) = 1 by omega), show kind z0 = "told" by unfold kind; rw [tA z0 l0, al0, l0]; simp [h1]]
      walk_at "g"
      case e2 => exact rfl
      walk_at "go"
      walk_at "g"
      case e2 => exact ne_same (by decide +kernel)
      walk_at "go"
      refine' itF ?hb ?_
      case hb => exact by decide
      walk_at "go"
      exact ⟨_, _, _, _, _, _, _, _, _, _, _, _, _, rfl, f8⟩
  · rintro env ⟨x1, x2, x3, x4, x5, x6, x7, x8, x9, x10, x11, x12, x13, rfl, f8⟩
    walk_at "go"
    walk_at "ret"
    exact q

theorem sp_of {ns : List Int} {Q : Val → List D → Prop} {E : Nat → Prop} (hl : ns.length ≤ 63) (h : Q (0, .bl true) []) : sp_law [.scr ns] Q E := ⟨ns, rfl, h⟩
section
variable {l : PySem.W.OpenLaw} {w : World} {K : PySem.W.Frag} {mg : Str → Option Value} {cl : Nat → Addr}
theorem law_at {f0 : Addr} {fd0 : FuncData} {f1 : Addr} {fd1 : FuncData} {f2 : Addr} {fd2 : FuncData} {f3 : Addr} {fd3 : FuncData} {f4 : Addr} {fd4 : FuncData} {f5 : Addr} {fd5 : FuncData} {f6 : Addr} {fd6 : FuncData} {f7 : Addr} {fd7 : FuncData} {f8 : Addr} {fd8 : FuncData} {f9 : Addr} {fd9 : FuncData} {f10 : Addr} {fd10 : FuncData} (F0 : Fun K "are_things" "are_things" s_are_things f0 fd0) (b0 : Binds K fd0 ["many", "things"] []) (g0 : mg "are_things" = some (.ref f0)) (F1 : Fun K "marks_by" "marks_by" s_marks_by f1 fd1) (b1 : Binds K fd1 ["goals", "bit"] []) (g1 : mg "marks_by" = some (.ref f1)) (F2 : Fun K "need_cube" "need_cube" s_need_cube f2 fd2) (b2 : Binds K fd2 ["things"] []) (g2 : mg "need_cube" = some (.ref f2)) (F3 : Fun K "halves_of" "halves_of" s_halves_of f3 fd3) (b3 : Binds K fd3 ["things"] []) (g3 : mg "halves_of" = some (.ref f3)) (F4 : Fun K "_law_hand" "_law_hand" s__law_hand f4 fd4) (b4 : Binds K fd4 ["cell"] []) (g4 : mg "_law_hand" = some (.ref f4)) (F5 : Fun K "_law_take" "_law_take" s__law_take f5 fd5) (b5 : Binds K fd5 ["hand", "many"] []) (g5 : mg "_law_take" = some (.ref f5)) (F6 : Fun K "_law_shuffled" "_law_shuffled" s__law_shuffled f6 fd6) (b6 : Binds K fd6 ["hand", "many"] []) (g6 : mg "_law_shuffled" = some (.ref f6)) (F7 : Fun K "_law_things" "_law_things" s__law_things f7 fd7) (b7 : Binds K fd7 ["hand", "many"] []) (g7 : mg "_law_things" = some (.ref f7)) (F8 : Fun K "_law_kind" "_law_kind" s__law_kind f8 fd8) (b8 : Binds K fd8 ["things"] []) (g8 : mg "_law_kind" = some (.ref f8)) (F9 : Fun K "_law_near" "_law_near" s__law_near f9 fd9) (b9 : Binds K fd9 ["hand", "things"] []) (g9 : mg "_law_near" = some (.ref f9)) (F10 : Fun K "law" "law" s_law f10 fd10) (m_ValueError : mg "ValueError" = none) (m_dict : mg "dict" = none) (m_enumerate : mg "enumerate" = none) (m_int : mg "int" = none) (m_isinstance : mg "isinstance" = none) (m_len : mg "len" = none) (m_list : mg "list" = none) (m_max : mg "max" = none) (m_range : mg "range" = none) (m_sorted : mg "sorted" = none) (n_HomeError : mg "HomeError" = some (.ref (cl 0))) (n_NoWeb : mg "NoWeb" = some (.ref (cl 1))) (n_NoPlace : mg "NoPlace" = some (.ref (cl 2))) (n_NoThings : mg "NoThings" = some (.ref (cl 3))) (n_NoRound : mg "NoRound" = some (.ref (cl 4))) (n_NeverHome : mg "NeverHome" = some (.ref (cl 5))) (n_TooMany : mg "TooMany" = some (.ref (cl 6))) (n_NoText : mg "NoText" = some (.ref (cl 7))) (n_NoForm : mg "NoForm" = some (.ref (cl 8))) (n_NoneYet : mg "NoneYet" = some (.ref (cl 9))) (n_NoStep : mg "NoStep" = some (.ref (cl 10))) (r_NoWeb : RaK K (cl 1)) (k_NoWeb : ClsK K (cl 1)) (r_NoThings : RaK K (cl 3)) (k_NoThings : ClsK K (cl 3)) (C3 : Cls3 K cl sub3) (x_HomeError : ∀ cc b, sub3 cc 0 = some b → PySem.W.exmOne K (.ref (cl cc)) (.ref (cl 0)) = some b) (base : Heap) : FnOk l.prog w K mg base (L2N.CX l.prog w) 5 f10 fd10 ["script"] (spL l.prog w K cl [0] sp_law) := by
  have h_are_things : Fn (⟨l.prog, w, K, mg, base, cl⟩ : DL.Tb) 1 "are_things" ms_are_things sp_are_things := fn_ok F0 sc_are_things g0 b0 rfl (by decide) (j_are_things m_list m_range m_sorted) ok_are_things
  have h_marks_by : Fn (⟨l.prog, w, K, mg, base, cl⟩ : DL.Tb) 1 "marks_by" ms_marks_by sp_marks_by := fn_ok F1 sc_marks_by g1 b1 rfl (by decide) (j_marks_by m_dict m_enumerate m_len m_range) ok_marks_by
  have h_need_cube : Fn (⟨l.prog, w, K, mg, base, cl⟩ : DL.Tb) 2 "need_cube" ms_need_cube sp_need_cube := fn_ok F2 sc_need_cube g2 b2 rfl (by decide) (j_need_cube (h_are_things.mono (by decide)) (r_NoThings.exf k_NoThings n_NoThings) m_len) ok_need_cube
  have h_halves_of : Fn (⟨l.prog, w, K, mg, base, cl⟩ : DL.Tb) 3 "halves_of" ms_halves_of sp_halves_of := fn_ok F3 sc_halves_of g3 b3 rfl (by decide) (j_halves_of (h_need_cube.mono (by decide)) (h_marks_by.mono (by decide)) (r_NoWeb.exf k_NoWeb n_NoWeb) m_len) ok_halves_of
  have h__law_hand : Fn (⟨l.prog, w, K, mg, base, cl⟩ : DL.Tb) 1 "_law_hand" ms__law_hand sp__law_hand := fn_ok F4 sc__law_hand g4 b4 rfl (by decide) (j__law_hand m_int m_max) ok__law_hand
  have h__law_take : Fn (⟨l.prog, w, K, mg, base, cl⟩ : DL.Tb) 1 "_law_take" ms__law_take sp__law_take := fn_ok F5 sc__law_take g5 b5 rfl (by decide) (j__law_take) ok__law_take
  have h__law_shuffled : Fn (⟨l.prog, w, K, mg, base, cl⟩ : DL.Tb) 2 "_law_shuffled" ms__law_shuffled sp__law_shuffled := fn_ok F6 sc__law_shuffled g6 b6 rfl (by decide) (j__law_shuffled (h__law_take.mono (by decide)) m_len m_list m_range) ok__law_shuffled
  have h__law_things : Fn (⟨l.prog, w, K, mg, base, cl⟩ : DL.Tb) 3 "_law_things" ms__law_things sp__law_things := fn_ok F7 sc__law_things g7 b7 rfl (by decide) (j__law_things (h__law_take.mono (by decide)) (h__law_shuffled.mono (by decide)) m_list m_range) ok__law_things
  have h__law_kind : Fn (⟨l.prog, w, K, mg, base, cl⟩ : DL.Tb) 4 "_law_kind" ms__law_kind sp__law_kind := fn_ok F8 sc__law_kind g8 b8 rfl (by decide) (j__law_kind (h_halves_of.mono (by decide)) n_HomeError n_TooMany n_NoneYet n_NoText n_NoStep n_NoRound n_NoPlace n_NoForm n_NeverHome n_NoWeb n_NoThings C3 x_HomeError m_ValueError m_isinstance m_list) ok__law_kind
  have h__law_near : Fn (⟨l.prog, w, K, mg, base, cl⟩ : DL.Tb) 2 "_law_near" ms__law_near sp__law_near := fn_ok F9 sc__law_near g9 b9 rfl (by decide) (j__law_near (h__law_take.mono (by decide)) m_len m_list) ok__law_near
  exact fn_ok0 (T := ⟨l.prog, w, K, mg, base, cl⟩) F10 sc_law rfl (by decide) (j_law (h__law_hand.mono (by decide)) (h__law_take.mono (by decide)) (h__law_things.mono (by decide)) (h__law_kind.mono (by decide)) (h__law_near.mono (by decide)) (h__law_shuffled.mono (by decide)) m_int m_len m_list m_range m_sorted) ok_law
theorem all_mk {h : Heap} {fa : Addr} (c0 c1 c2 c3 c4 c5 c6 c7 c8 c9 c10 : Addr) (X : K.In h) (G : h.Ns mainGlobals mg) (hfa : mg "law" = some (.ref fa))
    {f0 : Addr} {od0 an0 : Option Addr} {sl0 : Array (Option Value)} {oc0 kV0 dc0 pm0 cd0 ct0 : Value} (a0 : PySem.W.nsIn K mainGlobals "are_things" = some (some (.ref f0))) (l0 : K.lookup f0 = some ⟨oc0, od0, .func (PySem.W.fnOf "are_things" "are_things" (defArgs s_are_things) (defBody s_are_things) (defScope s_are_things) .none kV0 dc0 pm0 an0 cd0 ct0), sl0⟩) (w0 : PySem.W.codeIn K cd0 "are_things" = true) (k0 : PySem.W.keepIn K (.ref f0) = true)
    {f1 : Addr} {od1 an1 : Option Addr} {sl1 : Array (Option Value)} {oc1 kV1 dc1 pm1 cd1 ct1 : Value} (a1 : PySem.W.nsIn K mainGlobals "marks_by" = some (some (.ref f1))) (l1 : K.lookup f1 = some ⟨oc1, od1, .func (PySem.W.fnOf "marks_by" "marks_by" (defArgs s_marks_by) (defBody s_marks_by) (defScope s_marks_by) .none kV1 dc1 pm1 an1 cd1 ct1), sl1⟩) (w1 : PySem.W.codeIn K cd1 "marks_by" = true) (k1 : PySem.W.keepIn K (.ref f1) = true)
    {f2 : Addr} {od2 an2 : Option Addr} {sl2 : Array (Option Value)} {oc2 kV2 dc2 pm2 cd2 ct2 : Value} (a2 : PySem.W.nsIn K mainGlobals "need_cube" = some (some (.ref f2))) (l2 : K.lookup f2 = some ⟨oc2, od2, .func (PySem.W.fnOf "need_cube" "need_cube" (defArgs s_need_cube) (defBody s_need_cube) (defScope s_need_cube) .none kV2 dc2 pm2 an2 cd2 ct2), sl2⟩) (w2 : PySem.W.codeIn K cd2 "need_cube" = true) (k2 : PySem.W.keepIn K (.ref f2) = true)
    {f3 : Addr} {od3 an3 : Option Addr} {sl3 : Array (Option Value)} {oc3 kV3 dc3 pm3 cd3 ct3 : Value} (a3 : PySem.W.nsIn K mainGlobals "halves_of" = some (some (.ref f3))) (l3 : K.lookup f3 = some ⟨oc3, od3, .func (PySem.W.fnOf "halves_of" "halves_of" (defArgs s_halves_of) (defBody s_halves_of) (defScope s_halves_of) .none kV3 dc3 pm3 an3 cd3 ct3), sl3⟩) (w3 : PySem.W.codeIn K cd3 "halves_of" = true) (k3 : PySem.W.keepIn K (.ref f3) = true)
    {f4 : Addr} {od4 an4 : Option Addr} {sl4 : Array (Option Value)} {oc4 kV4 dc4 pm4 cd4 ct4 : Value} (a4 : PySem.W.nsIn K mainGlobals "_law_hand" = some (some (.ref f4))) (l4 : K.lookup f4 = some ⟨oc4, od4, .func (PySem.W.fnOf "_law_hand" "_law_hand" (defArgs s__law_hand) (defBody s__law_hand) (defScope s__law_hand) .none kV4 dc4 pm4 an4 cd4 ct4), sl4⟩) (w4 : PySem.W.codeIn K cd4 "_law_hand" = true) (k4 : PySem.W.keepIn K (.ref f4) = true)
    {f5 : Addr} {od5 an5 : Option Addr} {sl5 : Array (Option Value)} {oc5 kV5 dc5 pm5 cd5 ct5 : Value} (a5 : PySem.W.nsIn K mainGlobals "_law_take" = some (some (.ref f5))) (l5 : K.lookup f5 = some ⟨oc5, od5, .func (PySem.W.fnOf "_law_take" "_law_take" (defArgs s__law_take) (defBody s__law_take) (defScope s__law_take) .none kV5 dc5 pm5 an5 cd5 ct5), sl5⟩) (w5 : PySem.W.codeIn K cd5 "_law_take" = true) (k5 : PySem.W.keepIn K (.ref f5) = true)
    {f6 : Addr} {od6 an6 : Option Addr} {sl6 : Array (Option Value)} {oc6 kV6 dc6 pm6 cd6 ct6 : Value} (a6 : PySem.W.nsIn K mainGlobals "_law_shuffled" = some (some (.ref f6))) (l6 : K.lookup f6 = some ⟨oc6, od6, .func (PySem.W.fnOf "_law_shuffled" "_law_shuffled" (defArgs s__law_shuffled) (defBody s__law_shuffled) (defScope s__law_shuffled) .none kV6 dc6 pm6 an6 cd6 ct6), sl6⟩) (w6 : PySem.W.codeIn K cd6 "_law_shuffled" = true) (k6 : PySem.W.keepIn K (.ref f6) = true)
    {f7 : Addr} {od7 an7 : Option Addr} {sl7 : Array (Option Value)} {oc7 kV7 dc7 pm7 cd7 ct7 : Value} (a7 : PySem.W.nsIn K mainGlobals "_law_things" = some (some (.ref f7))) (l7 : K.lookup f7 = some ⟨oc7, od7, .func (PySem.W.fnOf "_law_things" "_law_things" (defArgs s__law_things) (defBody s__law_things) (defScope s__law_things) .none kV7 dc7 pm7 an7 cd7 ct7), sl7⟩) (w7 : PySem.W.codeIn K cd7 "_law_things" = true) (k7 : PySem.W.keepIn K (.ref f7) = true)
    {f8 : Addr} {od8 an8 : Option Addr} {sl8 : Array (Option Value)} {oc8 kV8 dc8 pm8 cd8 ct8 : Value} (a8 : PySem.W.nsIn K mainGlobals "_law_kind" = some (some (.ref f8))) (l8 : K.lookup f8 = some ⟨oc8, od8, .func (PySem.W.fnOf "_law_kind" "_law_kind" (defArgs s__law_kind) (defBody s__law_kind) (defScope s__law_kind) .none kV8 dc8 pm8 an8 cd8 ct8), sl8⟩) (w8 : PySem.W.codeIn K cd8 "_law_kind" = true) (k8 : PySem.W.keepIn K (.ref f8) = true)
    {f9 : Addr} {od9 an9 : Option Addr} {sl9 : Array (Option Value)} {oc9 kV9 dc9 pm9 cd9 ct9 : Value} (a9 : PySem.W.nsIn K mainGlobals "_law_near" = some (some (.ref f9))) (l9 : K.lookup f9 = some ⟨oc9, od9, .func (PySem.W.fnOf "_law_near" "_law_near" (defArgs s__law_near) (defBody s__law_near) (defScope s__law_near) .none kV9 dc9 pm9 an9 cd9 ct9), sl9⟩) (w9 : PySem.W.codeIn K cd9 "_law_near" = true) (k9 : PySem.W.keepIn K (.ref f9) = true)
    {f10 : Addr} {od10 an10 : Option Addr} {sl10 : Array (Option Value)} {oc10 kV10 dc10 pm10 cd10 ct10 : Value} (a10 : PySem.W.nsIn K mainGlobals "law" = some (some (.ref f10))) (l10 : K.lookup f10 = some ⟨oc10, od10, .func (PySem.W.fnOf "law" "law" (defArgs s_law) (defBody s_law) (defScope s_law) .none kV10 dc10 pm10 an10 cd10 ct10), sl10⟩) (w10 : PySem.W.codeIn K cd10 "law" = true) (k10 : PySem.W.keepIn K (.ref f10) = true)
    (ty0 : PySem.W.typeIn K (.ref c0) = some (.type "type")) (hd0 : PySem.W.hasDictIn K c0 = true)
    (ty1 : PySem.W.typeIn K (.ref c1) = some (.type "type")) (hd1 : PySem.W.hasDictIn K c1 = true)
    (ty2 : PySem.W.typeIn K (.ref c2) = some (.type "type")) (hd2 : PySem.W.hasDictIn K c2 = true)
    (ty3 : PySem.W.typeIn K (.ref c3) = some (.type "type")) (hd3 : PySem.W.hasDictIn K c3 = true)
    (ty4 : PySem.W.typeIn K (.ref c4) = some (.type "type")) (hd4 : PySem.W.hasDictIn K c4 = true)
    (ty5 : PySem.W.typeIn K (.ref c5) = some (.type "type")) (hd5 : PySem.W.hasDictIn K c5 = true)
    (ty6 : PySem.W.typeIn K (.ref c6) = some (.type "type")) (hd6 : PySem.W.hasDictIn K c6 = true)
    (ty7 : PySem.W.typeIn K (.ref c7) = some (.type "type")) (hd7 : PySem.W.hasDictIn K c7 = true)
    (ty8 : PySem.W.typeIn K (.ref c8) = some (.type "type")) (hd8 : PySem.W.hasDictIn K c8 = true)
    (ty9 : PySem.W.typeIn K (.ref c9) = some (.type "type")) (hd9 : PySem.W.hasDictIn K c9 = true)
    (ty10 : PySem.W.typeIn K (.ref c10) = some (.type "type")) (hd10 : PySem.W.hasDictIn K c10 = true) (p0 : PySem.W.nsIn K mainGlobals "HomeError" = some (some (.ref c0))) (p1 : PySem.W.nsIn K mainGlobals "NoWeb" = some (some (.ref c1))) (p2 : PySem.W.nsIn K mainGlobals "NoPlace" = some (some (.ref c2))) (p3 : PySem.W.nsIn K mainGlobals "NoThings" = some (some (.ref c3))) (p4 : PySem.W.nsIn K mainGlobals "NoRound" = some (some (.ref c4))) (p5 : PySem.W.nsIn K mainGlobals "NeverHome" = some (some (.ref c5))) (p6 : PySem.W.nsIn K mainGlobals "TooMany" = some (some (.ref c6))) (p7 : PySem.W.nsIn K mainGlobals "NoText" = some (some (.ref c7))) (p8 : PySem.W.nsIn K mainGlobals "NoForm" = some (some (.ref c8))) (p9 : PySem.W.nsIn K mainGlobals "NoneYet" = some (some (.ref c9))) (p10 : PySem.W.nsIn K mainGlobals "NoStep" = some (some (.ref c10)))
    (hn : PySem.W.specialIn K (.builtin "object.__class__") "__get__" = some (some (.builtin "getset_descriptor.__get__"))) (ht : PySem.W.takesIn K (.builtin "object.__class__") = some true) (hB0 : PySem.W.subIn K (.ref c0) (.type "BaseException") = some true)
    (kp1 : PySem.W.keepIn K (.ref c1) = true) (ex1 : PySem.W.excIn K c1 [.type "ValueError", .type "Exception", .type "BaseException", .type "object"] "ValueError.__new__" = true) (sB1 : PySem.W.subIn K (.ref c1) (.type "BaseException") = some true) (ve1 : PySem.W.subIn K (.ref c1) (.type "ValueError") = some true) (hg1 : PySem.W.findIn K (.ref c1) "__getattribute__" = some (some (.builtin "BaseException.__getattribute__"))) (hk1 : PySem.W.findIn K (.ref c1) "__getattr__" = some none) (ha1 : PySem.W.findIn K (.ref c1) "__class__" = some (some (.builtin "object.__class__"))) (hm1 : PySem.W.mroIn K c1 (.type "object") = some true) (s1_0 : PySem.W.subIn K (.ref c1) (.ref c0) = some true) (s1_1 : PySem.W.subIn K (.ref c1) (.ref c1) = some true) (s1_2 : PySem.W.subIn K (.ref c1) (.ref c2) = some false) (e1_2 : Nat.beq c1 c2 = false) (s1_3 : PySem.W.subIn K (.ref c1) (.ref c3) = some false) (e1_3 : Nat.beq c1 c3 = false) (s1_4 : PySem.W.subIn K (.ref c1) (.ref c4) = some false) (e1_4 : Nat.beq c1 c4 = false) (s1_5 : PySem.W.subIn K (.ref c1) (.ref c5) = some false) (e1_5 : Nat.beq c1 c5 = false) (s1_6 : PySem.W.subIn K (.ref c1) (.ref c6) = some false) (e1_6 : Nat.beq c1 c6 = false) (s1_7 : PySem.W.subIn K (.ref c1) (.ref c7) = some false) (e1_7 : Nat.beq c1 c7 = false) (s1_8 : PySem.W.subIn K (.ref c1) (.ref c8) = some false) (e1_8 : Nat.beq c1 c8 = false) (s1_9 : PySem.W.subIn K (.ref c1) (.ref c9) = some false) (e1_9 : Nat.beq c1 c9 = false) (s1_10 : PySem.W.subIn K (.ref c1) (.ref c10) = some false) (e1_10 : Nat.beq c1 c10 = false)
    (kp3 : PySem.W.keepIn K (.ref c3) = true) (ex3 : PySem.W.excIn K c3 [.type "ValueError", .type "Exception", .type "BaseException", .type "object"] "ValueError.__new__" = true) (sB3 : PySem.W.subIn K (.ref c3) (.type "BaseException") = some true) (ve3 : PySem.W.subIn K (.ref c3) (.type "ValueError") = some true) (hg3 : PySem.W.findIn K (.ref c3) "__getattribute__" = some (some (.builtin "BaseException.__getattribute__"))) (hk3 : PySem.W.findIn K (.ref c3) "__getattr__" = some none) (ha3 : PySem.W.findIn K (.ref c3) "__class__" = some (some (.builtin "object.__class__"))) (hm3 : PySem.W.mroIn K c3 (.type "object") = some true) (s3_0 : PySem.W.subIn K (.ref c3) (.ref c0) = some true) (s3_1 : PySem.W.subIn K (.ref c3) (.ref c1) = some false) (e3_1 : Nat.beq c3 c1 = false) (s3_2 : PySem.W.subIn K (.ref c3) (.ref c2) = some false) (e3_2 : Nat.beq c3 c2 = false) (s3_3 : PySem.W.subIn K (.ref c3) (.ref c3) = some true) (s3_4 : PySem.W.subIn K (.ref c3) (.ref c4) = some false) (e3_4 : Nat.beq c3 c4 = false) (s3_5 : PySem.W.subIn K (.ref c3) (.ref c5) = some false) (e3_5 : Nat.beq c3 c5 = false) (s3_6 : PySem.W.subIn K (.ref c3) (.ref c6) = some false) (e3_6 : Nat.beq c3 c6 = false) (s3_7 : PySem.W.subIn K (.ref c3) (.ref c7) = some false) (e3_7 : Nat.beq c3 c7 = false) (s3_8 : PySem.W.subIn K (.ref c3) (.ref c8) = some false) (e3_8 : Nat.beq c3 c8 = false) (s3_9 : PySem.W.subIn K (.ref c3) (.ref c9) = some false) (e3_9 : Nat.beq c3 c9 = false) (s3_10 : PySem.W.subIn K (.ref c3) (.ref c10) = some false) (e3_10 : Nat.beq c3 c10 = false)
    (z0 : PySem.W.nsIn K mainGlobals "ValueError" = some none)
    (z1 : PySem.W.nsIn K mainGlobals "dict" = some none)
    (z2 : PySem.W.nsIn K mainGlobals "enumerate" = some none)
    (z3 : PySem.W.nsIn K mainGlobals "int" = some none)
    (z4 : PySem.W.nsIn K mainGlobals "isinstance" = some none)
    (z5 : PySem.W.nsIn K mainGlobals "len" = some none)
    (z6 : PySem.W.nsIn K mainGlobals "list" = some none)
    (z7 : PySem.W.nsIn K mainGlobals "max" = some none)
    (z8 : PySem.W.nsIn K mainGlobals "range" = some none)
    (z9 : PySem.W.nsIn K mainGlobals "sorted" = some none) :
    ∃ fd : FuncData, (∀ (s : Shared) (v : Value), BindsTo s fd ⟨[v], []⟩ [("script", v)]) ∧ ∀ base : Heap, K.In base → base.Ns mainGlobals mg → FnOk l.prog w K mg base (L2N.CX l.prog w) 5 fa fd ["script"] (spL l.prog w K (fun n => [c0, c1, c2, c3, c4, c5, c6, c7, c8, c9, c10].getD n 0) [0] sp_law) := by
  have e := hfa.symm.trans (PySem.W.mg_of X G a10)
  cases e
  have F0 := fun_mk (st := s_are_things) l0 w0 k0
  have b0 := F0.binds (ps := ["many", "things"]) fun _ _ _ _ _ _ us hl => match us, hl with | [_, _], _ => rfl
  have F1 := fun_mk (st := s_marks_by) l1 w1 k1
  have b1 := F1.binds (ps := ["goals", "bit"]) fun _ _ _ _ _ _ us hl => match us, hl with | [_, _], _ => rfl
  have F2 := fun_mk (st := s_need_cube) l2 w2 k2
  have b2 := F2.binds (ps := ["things"]) fun _ _ _ _ _ _ us hl => match us, hl with | [_], _ => rfl
  have F3 := fun_mk (st := s_halves_of) l3 w3 k3
  have b3 := F3.binds (ps := ["things"]) fun _ _ _ _ _ _ us hl => match us, hl with | [_], _ => rfl
  have F4 := fun_mk (st := s__law_hand) l4 w4 k4
  have b4 := F4.binds (ps := ["cell"]) fun _ _ _ _ _ _ us hl => match us, hl with | [_], _ => rfl
  have F5 := fun_mk (st := s__law_take) l5 w5 k5
  have b5 := F5.binds (ps := ["hand", "many"]) fun _ _ _ _ _ _ us hl => match us, hl with | [_, _], _ => rfl
  have F6 := fun_mk (st := s__law_shuffled) l6 w6 k6
  have b6 := F6.binds (ps := ["hand", "many"]) fun _ _ _ _ _ _ us hl => match us, hl with | [_, _], _ => rfl
  have F7 := fun_mk (st := s__law_things) l7 w7 k7
  have b7 := F7.binds (ps := ["hand", "many"]) fun _ _ _ _ _ _ us hl => match us, hl with | [_, _], _ => rfl
  have F8 := fun_mk (st := s__law_kind) l8 w8 k8
  have b8 := F8.binds (ps := ["things"]) fun _ _ _ _ _ _ us hl => match us, hl with | [_], _ => rfl
  have F9 := fun_mk (st := s__law_near) l9 w9 k9
  have b9 := F9.binds (ps := ["hand", "things"]) fun _ _ _ _ _ _ us hl => match us, hl with | [_, _], _ => rfl
  have F10 := fun_mk (st := s_law) l10 w10 k10
  have K0 : ClsK K c0 := ⟨ty0, hd0⟩
  have K1 : ClsK K c1 := ⟨ty1, hd1⟩
  have K2 : ClsK K c2 := ⟨ty2, hd2⟩
  have K3 : ClsK K c3 := ⟨ty3, hd3⟩
  have K4 : ClsK K c4 := ⟨ty4, hd4⟩
  have K5 : ClsK K c5 := ⟨ty5, hd5⟩
  have K6 : ClsK K c6 := ⟨ty6, hd6⟩
  have K7 : ClsK K c7 := ⟨ty7, hd7⟩
  have K8 : ClsK K c8 := ⟨ty8, hd8⟩
  have K9 : ClsK K c9 := ⟨ty9, hd9⟩
  have K10 : ClsK K c10 := ⟨ty10, hd10⟩
  have R1 : RaK K c1 := ⟨kp1, ex1, sB1, ve1, hg1, hk1, ha1, hm1, hn, ht⟩
  have R3 : RaK K c3 := ⟨kp3, ex3, sB3, ve3, hg3, hk3, ha3, hm3, hn, ht⟩
  have C3 : Cls3 K (fun n => [c0, c1, c2, c3, c4, c5, c6, c7, c8, c9, c10].getD n 0) sub3 := by
    refine ⟨fun cc m b h => ?_, fun cc h => ?_, fun cc m b h => ?_⟩
    · unfold sub3 at h
      split at h
      · rename_i m
        unfold sub3_1 at h
        split at h
        · cases h; exact kit_ref (C := c1) K0 s1_0 (.inl rfl)
        · cases h; exact kit_ref (C := c1) K1 s1_1 (.inl rfl)
        · cases h; exact kit_ref (C := c1) K2 s1_2 (.inr e1_2)
        · cases h; exact kit_ref (C := c1) K3 s1_3 (.inr e1_3)
        · cases h; exact kit_ref (C := c1) K4 s1_4 (.inr e1_4)
        · cases h; exact kit_ref (C := c1) K5 s1_5 (.inr e1_5)
        · cases h; exact kit_ref (C := c1) K6 s1_6 (.inr e1_6)
        · cases h; exact kit_ref (C := c1) K7 s1_7 (.inr e1_7)
        · cases h; exact kit_ref (C := c1) K8 s1_8 (.inr e1_8)
        · cases h; exact kit_ref (C := c1) K9 s1_9 (.inr e1_9)
        · cases h; exact kit_ref (C := c1) K10 s1_10 (.inr e1_10)
        · cases h
      · rename_i m
        unfold sub3_3 at h
        split at h
        · cases h; exact kit_ref (C := c3) K0 s3_0 (.inl rfl)
        · cases h; exact kit_ref (C := c3) K1 s3_1 (.inr e3_1)
        · cases h; exact kit_ref (C := c3) K2 s3_2 (.inr e3_2)
        · cases h; exact kit_ref (C := c3) K3 s3_3 (.inl rfl)
        · cases h; exact kit_ref (C := c3) K4 s3_4 (.inr e3_4)
        · cases h; exact kit_ref (C := c3) K5 s3_5 (.inr e3_5)
        · cases h; exact kit_ref (C := c3) K6 s3_6 (.inr e3_6)
        · cases h; exact kit_ref (C := c3) K7 s3_7 (.inr e3_7)
        · cases h; exact kit_ref (C := c3) K8 s3_8 (.inr e3_8)
        · cases h; exact kit_ref (C := c3) K9 s3_9 (.inr e3_9)
        · cases h; exact kit_ref (C := c3) K10 s3_10 (.inr e3_10)
        · cases h
      · cases h
    · have : cc = 1 ∨ cc = 3 := by
        cases q : sub3 cc cc with
        | none => rw [q] at h; cases h
        | some b =>
          unfold sub3 at q; split at q
          · exact .inl rfl
          · exact .inr (rfl)
          · cases q
      rcases this with rfl | rfl
      · exact kit_ve ve1
      · exact kit_ve ve3
    · unfold sub3 at h
      split at h
      · exact R1.exc K1
      · exact R3.exc K3
      · cases h
  have X0 : ∀ cc b, sub3 cc 0 = some b → PySem.W.exmOne K (.ref ((fun n => [c0, c1, c2, c3, c4, c5, c6, c7, c8, c9, c10].getD n 0) cc)) (.ref ((fun n => [c0, c1, c2, c3, c4, c5, c6, c7, c8, c9, c10].getD n 0) 0)) = some b := fun cc b h => by
    unfold sub3 at h
    split at h
    · cases h; exact PySem.W.exm_ref (C := c0) hB0 hd0 ty0 s1_0
    · cases h; exact PySem.W.exm_ref (C := c0) hB0 hd0 ty0 s3_0
    · cases h
  exact ⟨PySem.W.fnOf "law" "law" (defArgs s_law) (defBody s_law) (defScope s_law) .none kV10 dc10 pm10 an10 cd10 ct10, fun s v => .of_eq rfl, fun base _ _ => law_at (cl := (fun n => [c0, c1, c2, c3, c4, c5, c6, c7, c8, c9, c10].getD n 0)) F0 b0 (PySem.W.mg_of X G a0) F1 b1 (PySem.W.mg_of X G a1) F2 b2 (PySem.W.mg_of X G a2) F3 b3 (PySem.W.mg_of X G a3) F4 b4 (PySem.W.mg_of X G a4) F5 b5 (PySem.W.mg_of X G a5) F6 b6 (PySem.W.mg_of X G a6) F7 b7 (PySem.W.mg_of X G a7) F8 b8 (PySem.W.mg_of X G a8) F9 b9 (PySem.W.mg_of X G a9) F10 (PySem.W.mg_none_of X G z0) (PySem.W.mg_none_of X G z1) (PySem.W.mg_none_of X G z2) (PySem.W.mg_none_of X G z3) (PySem.W.mg_none_of X G z4) (PySem.W.mg_none_of X G z5) (PySem.W.mg_none_of X G z6) (PySem.W.mg_none_of X G z7) (PySem.W.mg_none_of X G z8) (PySem.W.mg_none_of X G z9) (PySem.W.mg_of X G p0) (PySem.W.mg_of X G p1) (PySem.W.mg_of X G p2) (PySem.W.mg_of X G p3) (PySem.W.mg_of X G p4) (PySem.W.mg_of X G p5) (PySem.W.mg_of X G p6) (PySem.W.mg_of X G p7) (PySem.W.mg_of X G p8) (PySem.W.mg_of X G p9) (PySem.W.mg_of X G p10) R1 K1 R3 K3 C3 X0 base⟩
end
end LK
open PySem PySem.W PyProof.Rows
set_option maxRecDepth 100000 in
set_option maxHeartbeats 0 in
theorem PySem.Challenge.cw_ledhome_k47_no_things_of_a_cube_holds : PySem.Challenge.rw_ledhome_k47_no_things_of_a_cube.Holds := by
  w_on; o_law; k_head; (case hw => w_witness2)
  k_fill
  refine L2.walk_of (l := PySem.Challenge.rw_ledhome_k47_no_things_of_a_cube) (n := 63) (k := 5) (x := "script") (CX := fun w => L2N.CX (PySem.Challenge.rw_ledhome_k47_no_things_of_a_cube).prog w) (sp := fun w => DL.spL (PySem.Challenge.rw_ledhome_k47_no_things_of_a_cube).prog w _ (fun n => [24, 37, 49, 61, 73, 85, 97, 109, 121, 133, 145].getD n 0) [0] LK.sp_law) rfl (by decide) rfl ⟨rfl, by decide, by decide⟩ (fun w h Y => PySem.W.kIn_of Y) ?F (fun w H a ns hl hO hS => DL.law_sp ?noL hO hS fun Q E h => ?sp) (fun w H s e s1 h => by obtain ⟨_, _, _, _, _, _, _, _, _, _, _, _, z⟩ := h; exact z)
  case noL => rfl
  case sp => exact LK.sp_of hl h
  case F =>
    intro w mg fa h KX G hmg
    refine' LK.all_mk 24 37 49 61 73 85 97 109 121 133 145 KX G hmg ?a0 ?l0 ?w0 ?k0 ?a1 ?l1 ?w1 ?k1 ?a2 ?l2 ?w2 ?k2 ?a3 ?l3 ?w3 ?k3 ?a4 ?l4 ?w4 ?k4 ?a5 ?l5 ?w5 ?k5 ?a6 ?l6 ?w6 ?k6 ?a7 ?l7 ?w7 ?k7 ?a8 ?l8 ?w8 ?k8 ?a9 ?l9 ?w9 ?k9 ?a10 ?l10 ?w10 ?k10 ?ty0 ?hd0 ?ty1 ?hd1 ?ty2 ?hd2 ?ty3 ?hd3 ?ty4 ?hd4 ?ty5 ?hd5 ?ty6 ?hd6 ?ty7 ?hd7 ?ty8 ?hd8 ?ty9 ?hd9 ?ty10 ?hd10 ?p0 ?p1 ?p2 ?p3 ?p4 ?p5 ?p6 ?p7 ?p8 ?p9 ?p10 ?hn ?ht ?hB0 ?kp1 ?ex1 ?sB1 ?ve1 ?hg1 ?hk1 ?ha1 ?hm1 ?s1_0 ?s1_1 ?s1_2 ?e1_2 ?s1_3 ?e1_3 ?s1_4 ?e1_4 ?s1_5 ?e1_5 ?s1_6 ?e1_6 ?s1_7 ?e1_7 ?s1_8 ?e1_8 ?s1_9 ?e1_9 ?s1_10 ?e1_10 ?kp3 ?ex3 ?sB3 ?ve3 ?hg3 ?hk3 ?ha3 ?hm3 ?s3_0 ?s3_1 ?e3_1 ?s3_2 ?e3_2 ?s3_3 ?s3_4 ?e3_4 ?s3_5 ?e3_5 ?s3_6 ?e3_6 ?s3_7 ?e3_7 ?s3_8 ?e3_8 ?s3_9 ?e3_9 ?s3_10 ?e3_10 ?z0 ?z1 ?z2 ?z3 ?z4 ?z5 ?z6 ?z7 ?z8 ?z9
    (case a0 => k_is); (case l0 => k_is); (case w0 => k_is); (case k0 => k_is); (case a1 => k_is); (case l1 => k_is); (case w1 => k_is); (case k1 => k_is); (case a2 => k_is); (case l2 => k_is); (case w2 => k_is); (case k2 => k_is); (case a3 => k_is); (case l3 => k_is); (case w3 => k_is); (case k3 => k_is); (case a4 => k_is); (case l4 => k_is); (case w4 => k_is); (case k4 => k_is); (case a5 => k_is); (case l5 => k_is); (case w5 => k_is); (case k5 => k_is); (case a6 => k_is); (case l6 => k_is); (case w6 => k_is); (case k6 => k_is); (case a7 => k_is); (case l7 => k_is); (case w7 => k_is); (case k7 => k_is); (case a8 => k_is); (case l8 => k_is); (case w8 => k_is); (case k8 => k_is); (case a9 => k_is); (case l9 => k_is); (case w9 => k_is); (case k9 => k_is); (case a10 => k_is); (case l10 => k_is); (case w10 => k_is); (case k10 => k_is); (case ty0 => k_is); (case hd0 => k_is); (case ty1 => k_is); (case hd1 => k_is); (case ty2 => k_is); (case hd2 => k_is); (case ty3 => k_is); (case hd3 => k_is); (case ty4 => k_is); (case hd4 => k_is); (case ty5 => k_is); (case hd5 => k_is); (case ty6 => k_is); (case hd6 => k_is); (case ty7 => k_is); (case hd7 => k_is); (case ty8 => k_is); (case hd8 => k_is); (case ty9 => k_is); (case hd9 => k_is); (case ty10 => k_is); (case hd10 => k_is); (case p0 => k_is); (case p1 => k_is); (case p2 => k_is); (case p3 => k_is); (case p4 => k_is); (case p5 => k_is); (case p6 => k_is); (case p7 => k_is); (case p8 => k_is); (case p9 => k_is); (case p10 => k_is); (case hn => k_is); (case ht => k_is); (case hB0 => k_is); (case kp1 => k_is); (case ex1 => k_exc); (case sB1 => k_is); (case ve1 => k_is); (case hg1 => k_is); (case hk1 => k_is); (case ha1 => k_is); (case hm1 => k_is); (case s1_0 => k_is); (case s1_1 => k_is); (case s1_2 => k_is); (case e1_2 => rfl); (case s1_3 => k_is); (case e1_3 => rfl); (case s1_4 => k_is); (case e1_4 => rfl); (case s1_5 => k_is); (case e1_5 => rfl); (case s1_6 => k_is); (case e1_6 => rfl); (case s1_7 => k_is); (case e1_7 => rfl); (case s1_8 => k_is); (case e1_8 => rfl); (case s1_9 => k_is); (case e1_9 => rfl); (case s1_10 => k_is); (case e1_10 => rfl); (case kp3 => k_is); (case ex3 => k_exc); (case sB3 => k_is); (case ve3 => k_is); (case hg3 => k_is); (case hk3 => k_is); (case ha3 => k_is); (case hm3 => k_is); (case s3_0 => k_is); (case s3_1 => k_is); (case e3_1 => rfl); (case s3_2 => k_is); (case e3_2 => rfl); (case s3_3 => k_is); (case s3_4 => k_is); (case e3_4 => rfl); (case s3_5 => k_is); (case e3_5 => rfl); (case s3_6 => k_is); (case e3_6 => rfl); (case s3_7 => k_is); (case e3_7 => rfl); (case s3_8 => k_is); (case e3_8 => rfl); (case s3_9 => k_is); (case e3_9 => rfl); (case s3_10 => k_is); (case e3_10 => rfl); (case z0 => k_is); (case z1 => k_is); (case z2 => k_is); (case z3 => k_is); (case z4 => k_is); (case z5 => k_is); (case z6 => k_is); (case z7 => k_is); (case z8 => k_is); (case z9 => k_is)
