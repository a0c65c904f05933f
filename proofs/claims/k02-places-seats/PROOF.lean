import PyProof.Rows.All
import Wide.All
import OpenK.AllK
import Wide.FinOn
import HandS.ForMost
import KE.DataEq
import KE.SortData
import KE.DatumOrd
import KE.DataIsa
import KE.DataAny
import KE.KTupSum
import HandS.TupAny
import HandS.TupMul
import HandS.Wide
import HandS.NoneIn
import HandS.TupLen
import HandS.Conv
import HandS.TupSets
import HandS.Flow
import HandS.Defaults
import HandS.Walk
import HandS.Comp
import HandS.Codes
import KE.GoesEnum
import HandS.Iter
import HandS.Zip
import HandS.TryOnly
import HandS.Style
import HandS.Ends
import HandS.HeadEnd
import HandS.HeadHook1
import HandS.HeadHook2
import HandS.Head3
import HandS.Words
import HandS.WordsExc
import PySem.Challenge.RW_shiftalike_k02_places_seats_steps_and_pa
set_option Elab.async false
set_option linter.all false
set_option maxRecDepth 100000
set_option maxHeartbeats 4000000
namespace PD
open PySem PySem.Spec PyProof.Rows L2

abbrev D := PyData
/-- a token of the world (it is no dict: no dict has a list as key) -/
abbrev objD (k : Int) : D := .dict [(.list [], .int k)]

def keyK : D → Option Key
  | .int i => some (.inl i)
  | .str x => some (.inr x)
  | _ => none
def keyKs : List D → Option (List Key)
  | [] => some []
  | d :: ds => match keyK d, keyKs ds with
    | some k, some ks => some (k :: ks)
    | _, _ => none
def keyT : D → Option (List Key)
  | .tuple ds => keyKs ds
  | _ => none
theorem keyK_inj {a b : D} {k : Key} (ha : keyK a = some k) (hb : keyK b = some k) : a = b := by
  cases a <;> cases b <;> simp [keyK] at ha hb <;> subst ha <;> simp at hb <;> simp [hb]
theorem keyKs_inj : ∀ {as bs : List D} {ks : List Key}, keyKs as = some ks → keyKs bs = some ks → as = bs
  | [], [], _, _, _ => rfl
  | [], b :: bs, ks, ha, hb => by
    cases ha
    unfold keyKs at hb
    split at hb <;> cases hb
  | a :: as, [], ks, ha, hb => by
    cases hb
    unfold keyKs at ha
    split at ha <;> cases ha
  | a :: as, b :: bs, ks, ha, hb => by
    unfold keyKs at ha hb
    split at ha
    · rename_i k ks1 h1 h2
      cases ha
      split at hb
      · rename_i k' ks' g1 g2
        cases hb
        rw [keyK_inj h1 g1, keyKs_inj h2 g2]
      · cases hb
    · cases ha
theorem keyT_inj {a b : D} {k : List Key} (ha : keyT a = some k) (hb : keyT b = some k) : a = b := by
  cases a <;> cases b <;> simp [keyT] at ha hb <;> rw [keyKs_inj ha hb]

mutual
inductive Rep (tk : Int → Option V) (H : Hp) : D → V → Prop
  | none : Rep tk H .none .non
  | bool (b : Bool) : Rep tk H (.bool b) (.bl b)
  | int (i : Int) : Rep tk H (.int i) (.int i)
  | str (x : Str) : Rep tk H (.str x) (.str x)
  | list {a : Addr} {vs : List V} {ds : List D} : H a = some (.lst vs) → Reps tk H ds vs → Rep tk H (.list ds) (.ref a)
  | tuple {a : Addr} {vs : List V} {ds : List D} : H a = some (.tup vs) → Reps tk H ds vs → Rep tk H (.tuple ds) (.ref a)
  | dictK {a : Addr} {ps : List (Key × V)} {kvs : List (D × D)} : H a = some (.dK ps) → ps ≠ [] → RepK tk H kvs ps → Rep tk H (.dict kvs) (.ref a)
  | dictT {a : Addr} {ps : List (List Key × V)} {kvs : List (D × D)} : H a = some (.dT ps) → RepT tk H kvs ps → Rep tk H (.dict kvs) (.ref a)
  | obj {k : Int} {v : V} : tk k = some v → Rep tk H (objD k) v
inductive Reps (tk : Int → Option V) (H : Hp) : List D → List V → Prop
  | nil : Reps tk H [] []
  | cons {d : D} {v : V} {ds : List D} {vs : List V} : Rep tk H d v → Reps tk H ds vs → Reps tk H (d :: ds) (v :: vs)
inductive RepK (tk : Int → Option V) (H : Hp) : List (D × D) → List (Key × V) → Prop
  | nil : RepK tk H [] []
  | cons {kd d : D} {k : Key} {v : V} {kvs : List (D × D)} {ps : List (Key × V)} : keyK kd = some k → Rep tk H d v → RepK tk H kvs ps → RepK tk H ((kd, d) :: kvs) ((k, v) :: ps)
inductive RepT (tk : Int → Option V) (H : Hp) : List (D × D) → List (List Key × V) → Prop
  | nil : RepT tk H [] []
  | cons {kd d : D} {k : List Key} {v : V} {kvs : List (D × D)} {ps : List (List Key × V)} : keyT kd = some k → Rep tk H d v → RepT tk H kvs ps → RepT tk H ((kd, d) :: kvs) ((k, v) :: ps)
end

def Ex (H H' : Hp) : Prop := ∀ a o, H a = some o → H' a = some o
theorem Ex.refl (H : Hp) : Ex H H := fun _ _ h => h
theorem Ex.trans {H H1 H2 : Hp} (a : Ex H H1) (b : Ex H1 H2) : Ex H H2 := fun x o h => b x o (a x o h)
theorem Ex.new {H : Hp} {p : Addr} {o : HO} (h : H p = none) : Ex H (upd H p o) := fun a u e => by
  rw [upd_ne (ne_of_none e h)]
  exact e
theorem Ex.back {H H' : Hp} {p : Addr} (e : Ex H H') (h : H' p = none) : H p = none := by
  cases q : H p with
  | none => rfl
  | some o =>
    rw [e p o q] at h
    cases h
theorem Ex.ups {F H : Hp} {p : Addr} {o : HO} (e : Ex F H) (h : F p = none) : Ex F (upd H p o) := fun a u ha => by
  rw [upd_ne (ne_of_none ha h)]
  exact e a u ha

section
variable {tk : Int → Option V} {H H' : Hp}
mutual
theorem Rep.mono (e : Ex H H') : ∀ {d : D} {v : V}, Rep tk H d v → Rep tk H' d v
  | _, _, .none => .none
  | _, _, .bool b => .bool b
  | _, _, .int i => .int i
  | _, _, .str x => .str x
  | _, _, .list h r => .list (e _ _ h) (Reps.mono e r)
  | _, _, .tuple h r => .tuple (e _ _ h) (Reps.mono e r)
  | _, _, .dictK h n r => .dictK (e _ _ h) n (RepK.mono e r)
  | _, _, .dictT h r => .dictT (e _ _ h) (RepT.mono e r)
  | _, _, .obj h => .obj h
theorem Reps.mono (e : Ex H H') : ∀ {ds : List D} {vs : List V}, Reps tk H ds vs → Reps tk H' ds vs
  | _, _, .nil => .nil
  | _, _, .cons h r => .cons (Rep.mono e h) (Reps.mono e r)
theorem RepK.mono (e : Ex H H') : ∀ {ds : List (D × D)} {vs : List (Key × V)}, RepK tk H ds vs → RepK tk H' ds vs
  | _, _, .nil => .nil
  | _, _, .cons k h r => .cons k (Rep.mono e h) (RepK.mono e r)
theorem RepT.mono (e : Ex H H') : ∀ {ds : List (D × D)} {vs : List (List Key × V)}, RepT tk H ds vs → RepT tk H' ds vs
  | _, _, .nil => .nil
  | _, _, .cons k h r => .cons k (Rep.mono e h) (RepT.mono e r)
end
theorem Reps.length : ∀ {ds : List D} {vs : List V}, Reps tk H ds vs → ds.length = vs.length
  | _, _, .nil => rfl
  | _, _, .cons _ r => by rw [List.length_cons, List.length_cons, Reps.length r]
theorem Reps.get : ∀ {ds : List D} {vs : List V}, Reps tk H ds vs → ∀ {i : Nat} {d : D}, ds[i]? = some d → ∃ v, vs[i]? = some v ∧ Rep tk H d v
  | _, _, .nil, _, _, h => by simp at h
  | _, _, .cons h r, 0, _, e => by
    simp at e
    subst e
    exact ⟨_, rfl, h⟩
  | _, _, .cons h r, i + 1, _, e => by
    simp at e
    obtain ⟨v, h1, h2⟩ := Reps.get r e
    exact ⟨v, by simpa using h1, h2⟩
theorem Reps.get' : ∀ {ds : List D} {vs : List V}, Reps tk H ds vs → ∀ {i : Nat} {v : V}, vs[i]? = some v → ∃ d, ds[i]? = some d ∧ Rep tk H d v
  | _, _, .nil, _, _, h => by simp at h
  | _, _, .cons h r, 0, _, e => by
    simp at e
    subst e
    exact ⟨_, rfl, h⟩
  | _, _, .cons h r, i + 1, _, e => by
    simp at e
    obtain ⟨v, h1, h2⟩ := Reps.get' r e
    exact ⟨v, by simpa using h1, h2⟩
theorem Reps.append : ∀ {ds es : List D} {vs us : List V}, Reps tk H ds vs → Reps tk H es us → Reps tk H (ds ++ es) (vs ++ us)
  | _, _, _, _, .nil, s => s
  | _, _, _, _, .cons h r, s => .cons h (Reps.append r s)
theorem Reps.take : ∀ {ds : List D} {vs : List V} (n : Nat), Reps tk H ds vs → Reps tk H (ds.take n) (vs.take n)
  | _, _, 0, _ => .nil
  | _, _, n + 1, .nil => .nil
  | _, _, n + 1, .cons h r => .cons h (Reps.take n r)
theorem Reps.drop : ∀ {ds : List D} {vs : List V} (n : Nat), Reps tk H ds vs → Reps tk H (ds.drop n) (vs.drop n)
  | _, _, 0, r => r
  | _, _, n + 1, .nil => .nil
  | _, _, n + 1, .cons h r => Reps.drop n r
end

mutual
theorem Rep.dp {tk : Int → Option V} {H : Hp} {K : PySem.W.Frag} : ∀ {d : D} {v : V}, Rep tk H d v → d.plain = true → Dp K H v d
  | _, _, .none, _ => .non
  | _, _, .bool b, _ => .bl b
  | _, _, .int i, _ => .int i
  | _, _, .str x, _ => .str x
  | _, _, .list h r, p => .lst (.inl (.inl h)) (Reps.dp r p)
  | _, _, .tuple h r, p => .tup (.inl (.inl h)) (Reps.dp r p)
  | _, _, .dictK _ _ _, p => by cases p
  | _, _, .dictT _ _, p => by cases p
  | _, _, .obj _, p => by cases p
theorem Reps.dp {tk : Int → Option V} {H : Hp} {K : PySem.W.Frag} : ∀ {ds : List D} {vs : List V}, Reps tk H ds vs → PyData.plainAll ds = true → DpAll K H vs ds
  | _, _, .nil, _ => .nil
  | _, _, .cons h r, p => by
    unfold PyData.plainAll at p
    have p' := Bool.and_eq_true_iff.mp p
    exact .cons (Rep.dp h p'.1) (Reps.dp r p'.2)
end

def All3 (P : D → V → List Addr → Prop) : List D → List V → List Addr → Prop
  | [], [], fp => fp = []
  | d :: ds, v :: vs, fp => ∃ f g, P d v f ∧ All3 P ds vs g ∧ fp = f ++ g
  | _, _, _ => False
def AllKv {κ : Type} (kf : D → Option κ) (P : D → V → List Addr → Prop) : List (D × D) → List (κ × V) → List Addr → Prop
  | [], [], fp => fp = []
  | (kd, d) :: kvs, (k, v) :: ps, fp => keyOk kd k ∧ ∃ f g, P d v f ∧ AllKv kf P kvs ps g ∧ fp = f ++ g
  | _, _, _ => False
where keyOk (kd : D) (k : κ) : Prop := kf kd = some k
def Own (tk : Int → Option V) (F H : Hp) : Nat → D → V → List Addr → Prop
  | 0, d, v, fp => fp = [] ∧ Rep tk F d v
  | k + 1, d, v, fp => match d with
    | .list ds => ∃ a vs f, v = .ref a ∧ H a = some (.lst vs) ∧ All3 (Own tk F H k) ds vs f ∧ fp = a :: f
    | .dict [(.list [], .int j)] => fp = [] ∧ Rep tk F (objD j) v
    | .dict kvs => ∃ a f, v = .ref a ∧ ((∃ ps, (H a = some (.dK ps) ∧ ps ≠ []) ∧ AllKv keyK (Own tk F H k) kvs ps f) ∨ ∃ ps, H a = some (.dT ps) ∧ AllKv keyT (Own tk F H k) kvs ps f) ∧ fp = a :: f
    | d => fp = [] ∧ Rep tk F d v

section
variable {tk : Int → Option V} {F F' H H' : Hp}
theorem All3.imp {P P' : D → V → List Addr → Prop} : ∀ {ds : List D} {vs : List V} {fp : List Addr}, All3 P ds vs fp → (∀ d v f, d ∈ ds → (∀ a ∈ f, a ∈ fp) → P d v f → P' d v f) → All3 P' ds vs fp
  | [], [], _, h, _ => h
  | d :: ds, v :: vs, fp, ⟨f, g, h1, h2, e⟩, k => by
    subst e
    exact ⟨f, g, k d v f (by simp) (fun a ha => List.mem_append_left _ ha) h1, All3.imp h2 fun d' v' f' hd hf hp => k d' v' f' (by simp [hd]) (fun a ha => List.mem_append_right _ (hf a ha)) hp, rfl⟩
  | [], _ :: _, _, h, _ => h.elim
  | _ :: _, [], _, h, _ => h.elim
theorem AllKv.imp {κ : Type} {kf : D → Option κ} {P P' : D → V → List Addr → Prop} : ∀ {ds : List (D × D)} {vs : List (κ × V)} {fp : List Addr}, AllKv kf P ds vs fp → (∀ d v f, (∀ a ∈ f, a ∈ fp) → P d v f → P' d v f) → AllKv kf P' ds vs fp
  | [], [], _, h, _ => h
  | (kd, d) :: ds, (q, v) :: vs, fp, ⟨hk, f, g, h1, h2, e⟩, k => by
    subst e
    exact ⟨hk, f, g, k d v f (fun a ha => List.mem_append_left _ ha) h1, AllKv.imp h2 fun d' v' f' hf hp => k d' v' f' (fun a ha => List.mem_append_right _ (hf a ha)) hp, rfl⟩
  | [], _ :: _, _, h, _ => h.elim
  | _ :: _, [], _, h, _ => h.elim
theorem All3.each {P : D → V → List Addr → Prop} {R : Addr → Prop} : ∀ {ds : List D} {vs : List V} {fp : List Addr}, All3 P ds vs fp → (∀ d v f, P d v f → ∀ a ∈ f, R a) → ∀ a ∈ fp, R a
  | [], [], _, h, _, a, ha => by
    rw [show _ = [] from h] at ha
    cases ha
  | d :: ds, v :: vs, fp, ⟨f, g, h1, h2, e⟩, k, a, ha => by
    subst e
    rcases List.mem_append.mp ha with q | q
    · exact k d v f h1 a q
    · exact All3.each h2 k a q
  | [], _ :: _, _, h, _, _, _ => h.elim
  | _ :: _, [], _, h, _, _, _ => h.elim
theorem AllKv.each {κ : Type} {kf : D → Option κ} {P : D → V → List Addr → Prop} {R : Addr → Prop} : ∀ {ds : List (D × D)} {vs : List (κ × V)} {fp : List Addr}, AllKv kf P ds vs fp → (∀ d v f, P d v f → ∀ a ∈ f, R a) → ∀ a ∈ fp, R a
  | [], [], _, h, _, a, ha => by
    rw [show _ = [] from h] at ha
    cases ha
  | (kd, d) :: ds, (q, v) :: vs, fp, ⟨_, f, g, h1, h2, e⟩, k, a, ha => by
    subst e
    rcases List.mem_append.mp ha with q | q
    · exact k d v f h1 a q
    · exact AllKv.each h2 k a q
  | [], _ :: _, _, h, _, _, _ => h.elim
  | _ :: _, [], _, h, _, _, _ => h.elim

theorem Own.mono (e : Ex F F') : ∀ {k : Nat} {d : D} {v : V} {fp : List Addr}, Own tk F H k d v fp → (∀ a ∈ fp, H' a = H a) → Own tk F' H' k d v fp
  | 0, _, _, _, ⟨h1, h2⟩, _ => ⟨h1, h2.mono e⟩
  | k + 1, d, v, fp, h, q => by
    unfold Own at h ⊢
    split at h
    · obtain ⟨a, vs, f, h1, h2, h3, h4⟩ := h
      subst h4
      exact ⟨a, vs, f, h1, (q a (by simp)).trans h2, h3.imp fun d v f' _ hf hp => Own.mono e hp fun b hb => q b (List.mem_cons_of_mem _ (hf b hb)), rfl⟩
    · exact ⟨h.1, h.2.mono e⟩
    · obtain ⟨a, f, h1, h2, h4⟩ := h
      subst h4
      refine ⟨a, f, h1, ?_, rfl⟩
      rcases h2 with ⟨ps, h2, h3⟩ | ⟨ps, h2, h3⟩
      · exact .inl ⟨ps, ⟨(q a (by simp)).trans h2.1, h2.2⟩, h3.imp fun d v f' hf hp => Own.mono e hp fun b hb => q b (List.mem_cons_of_mem _ (hf b hb))⟩
      · exact .inr ⟨ps, (q a (by simp)).trans h2, h3.imp fun d v f' hf hp => Own.mono e hp fun b hb => q b (List.mem_cons_of_mem _ (hf b hb))⟩
    · exact ⟨h.1, h.2.mono e⟩
theorem Own.there : ∀ {k : Nat} {d : D} {v : V} {fp : List Addr}, Own tk F H k d v fp → ∀ a ∈ fp, ∃ o, H a = some o
  | 0, _, _, _, ⟨h1, _⟩, a, ha => by
    subst h1
    cases ha
  | k + 1, d, v, fp, h, b, hb => by
    unfold Own at h
    split at h
    · obtain ⟨a, vs, f, h1, h2, h3, h4⟩ := h
      subst h4
      rcases List.mem_cons.mp hb with rfl | hb
      · exact ⟨_, h2⟩
      · exact h3.each (R := fun a => ∃ o, H a = some o) (fun d v f hp => Own.there hp) b hb
    · rw [h.1] at hb
      cases hb
    · obtain ⟨a, f, h1, h2, h4⟩ := h
      subst h4
      rcases List.mem_cons.mp hb with rfl | hb
      · rcases h2 with ⟨ps, h2, h3⟩ | ⟨ps, h2, h3⟩
        · exact ⟨_, h2.1⟩
        · exact ⟨_, h2⟩
      · rcases h2 with ⟨ps, h2, h3⟩ | ⟨ps, h2, h3⟩
        · exact h3.each (R := fun a => ∃ o, H a = some o) (fun d v f hp => Own.there hp) b hb
        · exact h3.each (R := fun a => ∃ o, H a = some o) (fun d v f hp => Own.there hp) b hb
    · rw [h.1] at hb
      cases hb

theorem Own.node : ∀ {k : Nat} {d : D} {v : V} {fp : List Addr}, Own tk F H k d v fp → ∀ a ∈ fp, ∀ xs, H a ≠ some (.tup xs)
  | 0, _, _, _, ⟨h1, _⟩, a, ha => by
    subst h1
    cases ha
  | k + 1, d, v, fp, h, b, hb => by
    unfold Own at h
    split at h
    · obtain ⟨a, vs, f, h1, h2, h3, h4⟩ := h
      subst h4
      rcases List.mem_cons.mp hb with rfl | hb
      · intro xs z
        rw [h2] at z
        cases z
      · exact h3.each (R := fun a => ∀ xs, H a ≠ some (.tup xs)) (fun d v f hp => Own.node hp) b hb
    · rw [h.1] at hb
      cases hb
    · obtain ⟨a, f, h1, h2, h4⟩ := h
      subst h4
      rcases List.mem_cons.mp hb with rfl | hb
      · intro xs z
        rcases h2 with ⟨ps, h2, h3⟩ | ⟨ps, h2, h3⟩
        · rw [h2.1] at z
          cases z
        · rw [h2] at z
          cases z
      · rcases h2 with ⟨ps, h2, h3⟩ | ⟨ps, h2, h3⟩
        · exact h3.each (R := fun a => ∀ xs, H a ≠ some (.tup xs)) (fun d v f hp => Own.node hp) b hb
        · exact h3.each (R := fun a => ∀ xs, H a ≠ some (.tup xs)) (fun d v f hp => Own.node hp) b hb
    · rw [h.1] at hb
      cases hb

/-- the frozen heap with what stands at fp -/
def frz (F H : Hp) (fp : List Addr) : Hp := fun a => if a ∈ fp then H a else F a
theorem frz_ex {fp : List Addr} (n : ∀ a ∈ fp, F a = none) : Ex F (frz F H fp) := fun a o h => by
  unfold frz
  rw [if_neg (fun z => by rw [n a z] at h; cases h)]
  exact h
theorem frz_sub {fp : List Addr} (e : Ex F H) : Ex (frz F H fp) H := fun a o h => by
  unfold frz at h
  split at h
  · exact h
  · exact e a o h
theorem frz_in {fp : List Addr} {a : Addr} (h : a ∈ fp) : frz F H fp a = H a := if_pos h
theorem frz_out {fp : List Addr} {a : Addr} (h : a ∉ fp) : frz F H fp a = F a := if_neg h
theorem All3.reps {P : D → V → List Addr → Prop} : ∀ {ds : List D} {vs : List V} {fp : List Addr}, All3 P ds vs fp → (∀ d v f, (∀ a ∈ f, a ∈ fp) → P d v f → Rep tk H d v) → Reps tk H ds vs
  | [], [], _, _, _ => .nil
  | d :: ds, v :: vs, fp, ⟨f, g, h1, h2, e⟩, k => by
    subst e
    exact .cons (k d v f (fun a ha => List.mem_append_left _ ha) h1) (All3.reps h2 fun d' v' f' hf hp => k d' v' f' (fun a ha => List.mem_append_right _ (hf a ha)) hp)
  | [], _ :: _, _, h, _ => h.elim
  | _ :: _, [], _, h, _ => h.elim
theorem AllKv.repK {P : D → V → List Addr → Prop} : ∀ {ds : List (D × D)} {vs : List (Key × V)} {fp : List Addr}, AllKv keyK P ds vs fp → (∀ d v f, (∀ a ∈ f, a ∈ fp) → P d v f → Rep tk H d v) → RepK tk H ds vs
  | [], [], _, _, _ => .nil
  | (kd, d) :: ds, (q, v) :: vs, fp, ⟨hk, f, g, h1, h2, e⟩, k => by
    subst e
    exact .cons hk (k d v f (fun a ha => List.mem_append_left _ ha) h1) (AllKv.repK h2 fun d' v' f' hf hp => k d' v' f' (fun a ha => List.mem_append_right _ (hf a ha)) hp)
  | [], _ :: _, _, h, _ => h.elim
  | _ :: _, [], _, h, _ => h.elim
theorem AllKv.repT {P : D → V → List Addr → Prop} : ∀ {ds : List (D × D)} {vs : List (List Key × V)} {fp : List Addr}, AllKv keyT P ds vs fp → (∀ d v f, (∀ a ∈ f, a ∈ fp) → P d v f → Rep tk H d v) → RepT tk H ds vs
  | [], [], _, _, _ => .nil
  | (kd, d) :: ds, (q, v) :: vs, fp, ⟨hk, f, g, h1, h2, e⟩, k => by
    subst e
    exact .cons hk (k d v f (fun a ha => List.mem_append_left _ ha) h1) (AllKv.repT h2 fun d' v' f' hf hp => k d' v' f' (fun a ha => List.mem_append_right _ (hf a ha)) hp)
  | [], _ :: _, _, h, _ => h.elim
  | _ :: _, [], _, h, _ => h.elim
/-- what is owned reads as frozen in any heap that has it -/
theorem Own.rep {G : Hp} (eF : Ex F G) : ∀ {k : Nat} {d : D} {v : V} {fp : List Addr}, Own tk F H k d v fp → (∀ a ∈ fp, G a = H a) → Rep tk G d v
  | 0, _, _, _, ⟨_, h⟩, _ => h.mono eF
  | k + 1, d, v, fp, h, q => by
    unfold Own at h
    split at h
    · obtain ⟨a, vs, f, rfl, h2, h3, h4⟩ := h
      subst h4
      exact .list ((q a (by simp)).trans h2) (h3.reps fun d v f' hf hp => Own.rep eF hp fun b hb => q b (List.mem_cons_of_mem _ (hf b hb)))
    · exact h.2.mono eF
    · obtain ⟨a, f, rfl, h2, h4⟩ := h
      subst h4
      rcases h2 with ⟨ps, h2, h3⟩ | ⟨ps, h2, h3⟩
      · exact .dictK ((q a (by simp)).trans h2.1) h2.2 (h3.repK fun d v f' hf hp => Own.rep eF hp fun b hb => q b (List.mem_cons_of_mem _ (hf b hb)))
      · exact .dictT ((q a (by simp)).trans h2) (h3.repT fun d v f' hf hp => Own.rep eF hp fun b hb => q b (List.mem_cons_of_mem _ (hf b hb)))
    · exact h.2.mono eF
theorem Own.frz {k : Nat} {d : D} {v : V} {fp : List Addr} (h : Own tk F H k d v fp) (n : ∀ a ∈ fp, F a = none) : Rep tk (frz F H fp) d v :=
  Own.rep (frz_ex n) h fun _ ha => frz_in ha
end
end PD
namespace PD
open PySem PySem.Spec PyProof.Rows L2

inductive R (S α : Type) where
  | ok (a : α) (s : S)
  | exc (c : Nat) (as : List D) (s : S)
  | bad
def M (S α : Type) : Type := S → R S α
def M.bind {S α β : Type} (m : M S α) (f : α → M S β) : M S β := fun s => match m s with
  | .ok a s' => f a s'
  | .exc c as s' => .exc c as s'
  | .bad => .bad
instance {S : Type} : Monad (M S) where
  pure a := fun s => .ok a s
  bind := M.bind
section
variable {S α β : Type}
theorem M.pure_eq (a : α) : (pure a : M S α) = fun s => R.ok a s := rfl
theorem M.bind_eq (m : M S α) (f : α → M S β) : (m >>= f) = M.bind m f := rfl
instance : LawfulMonad (M S) := LawfulMonad.mk'
  (id_map := fun m => by
    funext s
    show M.bind m _ s = _
    unfold M.bind
    cases m s <;> rfl)
  (pure_bind := fun a f => rfl)
  (bind_assoc := fun m f g => by
    funext s
    show M.bind (M.bind m f) g s = M.bind m (fun x => M.bind (f x) g) s
    unfold M.bind
    cases m s <;> rfl)
def M.bad : M S α := fun _ => .bad
def M.exc (c : Nat) (as : List D) : M S α := fun s => .exc c as s
def ofO : Option α → M S α
  | some a => pure a
  | none => M.bad
@[simp] theorem ofO_some (a : α) : (ofO (some a) : M S α) = pure a := rfl
end

def cap : Nat := 10000000
inductive Bop where | add | sub | mul | mod | fdiv | pow | band | bor | bxor | shl | shr
  deriving DecidableEq
inductive Cop where | eq | ne | lt | le | gt | ge | is | isn | inn | nin
  deriving DecidableEq
def small (i : Int) : Bool := decide (-(2 ^ 64) < i ∧ i < 2 ^ 64)
def binop : Bop → D → D → Option D
  | .add, .int i, .int j => some (.int (i + j))
  | .add, .str x, .str y => if x.length + y.length ≤ cap then some (.str (x ++ y)) else none
  | .add, .list xs, .list ys => if xs.length + ys.length ≤ cap then some (.list (xs ++ ys)) else none
  | .add, .tuple xs, .tuple ys => if xs.length + ys.length ≤ cap then some (.tuple (xs ++ ys)) else none
  | .sub, .int i, .int j => some (.int (i - j))
  | .mul, .int i, .int j => if small i || small j then some (.int (i * j)) else if decide (i.natAbs < 2 ^ 100000) && decide (j.natAbs < 2 ^ 100000) then some (.int (i * j)) else none
  | .mul, .list xs, .int k => if decide (-(2 ^ 63) ≤ k) && decide (xs.length * k.toNat ≤ cap) && decide (k < 2 ^ 63) then some (.list (List.replicate k.toNat xs).flatten) else none
  | .mul, .tuple xs, .int k => if !xs.isEmpty && decide (2 ≤ k) && decide (k ≤ 1000) && decide (xs.length ≤ 1000) then some (.tuple (List.replicate k.toNat xs).flatten) else none
  | .mod, .int i, .int j => if j = 0 then none else some (.int (i.fmod j))
  | .fdiv, .int i, .int j => if j ≠ 0 ∧ j.natAbs < 1073741824 then some (.int (i.fdiv j)) else if 0 < j ∧ j.natAbs < 2 ^ 9000 then some (.int (i.fdiv j)) else none
  | .pow, .int i, .int j => if 0 ≤ j ∧ j ≤ 1000000 ∧ i.natAbs < 2 ^ 64 then some (.int (i ^ j.toNat)) else none
  | .shl, .int i, .int j => if 0 ≤ j ∧ j ≤ 1000000 ∧ i.natAbs < 2 ^ 64 then some (.int (i * 2 ^ j.toNat)) else none
  | .shr, .int i, .int j => if 0 ≤ j then some (.int (i / 2 ^ j.toNat)) else none
  | .band, .int i, .int j => some (.int (Builtin.bitAnd i j))
  | .bor, .int i, .int j => some (.int (Builtin.bitOr i j))
  | .bxor, .int i, .int j => some (.int (Builtin.bitXor i j))
  | _, _, _ => none
/-- op= -/
def iopD : Bop → D → D → Option D
  | .add, .int i, .int j => some (.int (i + j))
  | .add, .str x, .str y => if x.length + y.length ≤ cap then some (.str (x ++ y)) else none
  | .sub, .int i, .int j => some (.int (i - j))
  | .mul, .int i, .int j => if small i || small j then some (.int (i * j)) else none
  | .mod, .int i, .int j => if 0 < j then some (.int (i % j)) else none
  | .fdiv, .int i, .int j => if 0 < j ∧ j < 1073741824 then some (.int (i / j)) else none
  | .band, .int i, .int j => some (.int (Builtin.bitAnd i j))
  | .bor, .int i, .int j => some (.int (Builtin.bitOr i j))
  | .bxor, .int i, .int j => some (.int (Builtin.bitXor i j))
  | _, _, _ => none
/-- == is served of these -/
def eqable (d : D) : Bool := d.plain && decide (d.depth ≤ 60)
def keyed (kvs : List (D × D)) (k : D) : Bool := kvs.any fun kv => PyData.eqv kv.1 k
def isKey (d : D) : Bool := (keyK d).isSome || (keyT d).isSome
/-- a key of the kind that the dict has -/
def fits (kvs : List (D × D)) (k : D) : Bool := match kvs with
  | [] => isKey k
  | (q, _) :: _ => ((keyK q).isSome && (keyK k).isSome) || ((keyT q).isSome && (keyT k).isSome)
def inD : D → D → Option Bool
  | x, .list xs => if eqable x && eqable (.list xs) then some (xs.any fun y => PyData.eqv y x) else none
  | x, .tuple xs => if eqable x && eqable (.tuple xs) then some (xs.any fun y => PyData.eqv y x) else none
  | _, .dict [(.list [], .int _)] => none
  | x, .dict kvs => if fits kvs x then some (keyed kvs x) else none
  | _, _ => none
def ltD (x y : D) : Option Bool := match x, y with
  | .int i, .int j => some (decide (i < j))
  | .str a, .str b => some (decide (a.cps.toList < b.cps.toList))
  | .tuple xs, .tuple ys => if PySem.W.alike (.tuple xs) (.tuple ys) && decide ((PyData.tuple xs).depth ≤ 60) && (PyData.tuple xs).plain && (PyData.tuple ys).plain then some (PySem.W.dataLt (.tuple xs) (.tuple ys)) else none
  | _, _ => none
def isNoneB : D → Bool
  | .none => true
  | _ => false
def cmpop : Cop → D → D → Option Bool
  | .eq, x, y => if eqable x && eqable y then some (PyData.eqv x y) else none
  | .ne, x, y => if eqable x && eqable y then some (!PyData.eqv x y) else none
  | .lt, x, y => ltD x y
  | .gt, .int i, .int j => some (decide (j < i))
  | .le, .int i, .int j => some (decide (i ≤ j))
  | .ge, .int i, .int j => some (decide (j ≤ i))
  | .is, x, .none => some (isNoneB x)
  | .isn, x, .none => some !isNoneB x
  | .inn, x, y => inD x y
  | .nin, x, y => (inD x y).map (!·)
  | _, _, _ => none
/-- truth -/
def truD : D → Option Bool
  | .none => some false
  | .bool b => some b
  | .int i => some (i != 0)
  | .str x => if x.length ≤ cap then some ((x.length : Int) != 0) else none
  | .list xs => some !xs.isEmpty
  | .tuple xs => some !xs.isEmpty
  | _ => none
def find? (kvs : List (D × D)) (k : D) : Option D := (kvs.find? fun kv => PyData.eqv kv.1 k).map (·.2)
def ixD : D → D → Option D
  | .list xs, .int i => atI xs i
  | .tuple xs, .int i => atI xs i
  | .dict [(.list [], .int _)], _ => none
  | .dict kvs, k => if fits kvs k then find? kvs k else none
  | _, _ => none
end PD
namespace PD
open PySem PySem.Spec PyProof.Rows L2

inductive Bi where
  | len | isInt | isBool | isTup | isStr | isList | toInt | abs | sum | all | any | min1 | max1 | min2 | max2 | sorted | list | tuple | repr | lenSet | sortedSet | gcd | listRange
  deriving DecidableEq
def intsOf : List D → Option (List Int)
  | [] => some []
  | .int i :: r => (intsOf r).map (i :: ·)
  | _ => none
def boolsOf : List D → Option (List Bool)
  | [] => some []
  | .bool b :: r => (boolsOf r).map (b :: ·)
  | _ => none
def seqOf : D → Option (List D)
  | .list xs => some xs
  | .tuple xs => some xs
  | .dict [(.list [], .int _)] => none
  | .dict kvs => some (kvs.map (·.1))
  | _ => none
def minI : List Int → Option Int
  | [] => none
  | x :: xs => some (xs.foldl (fun m y => if y < m then y else m) x)
def maxI : List Int → Option Int
  | [] => none
  | x :: xs => some (xs.foldl (fun m y => if m < y then y else m) x)
def allAlikeB (ds : List D) : Bool := ds.all fun d => ds.all fun e => PySem.W.alike d e
def sortableB (ds : List D) : Bool := (ds.all fun d => match d with
  | .tuple (_ :: _) => true
  | _ => false) || ds.all fun d => match d with
  | .none => false
  | .tuple _ => false
  | _ => true
def sortD (ds : List D) : List D := ds.mergeSort (PySem.W.dataLe false fun d => d)
def sorted? (ds : List D) : Option (List D) := if PyData.plainAll ds && allAlikeB ds && sortableB ds && decide (ds.length ≤ cap) && decide (PyData.depthAll ds ≤ 60) then some (sortD ds) else none
/-- the items of a list without repeats, in the order in which they first come -/
def firsts : List D → List D
  | [] => []
  | x :: xs => x :: (firsts xs).filter fun y => !PyData.eqv y x
def setKey : D → Bool
  | .tuple xs => xs.all fun d => match d with
    | .int _ => true
    | _ => false
  | _ => false
def set? (ds : List D) : Option (List D) := if ds.all setKey && decide (ds.length < 64) then some (firsts ds) else none
def rangeD (lo hi : Int) : List D := (List.range (hi - lo).toNat).map fun i => .int (lo + (i : Nat))
def isIntD : D → Option Bool
  | .int _ => some true
  | .bool _ => some true
  | .dict [(.list [], .int _)] => none
  | _ => some false
def isBoolD : D → Option Bool
  | .bool _ => some true
  | .dict [(.list [], .int _)] => none
  | _ => some false
def isTupD : D → Option Bool
  | .tuple _ => some true
  | .dict [(.list [], .int _)] => none
  | _ => some false
def isStrD : D → Option Bool
  | .str _ => some true
  | .dict [(.list [], .int _)] => none
  | _ => some false
def isListD : D → Option Bool
  | .list _ => some true
  | .dict [(.list [], .int _)] => none
  | _ => some false
def bi : Bi → List D → Option D
  | .len, [.list xs] => some (.int xs.length)
  | .len, [.tuple xs] => some (.int xs.length)
  | .len, [.str x] => if x.length ≤ cap then some (.int x.length) else none
  | .len, [.dict [(.list [], .int _)]] => none
  | .len, [.dict kvs] => some (.int kvs.length)
  | .isInt, [d] => (isIntD d).map .bool
  | .isBool, [d] => (isBoolD d).map .bool
  | .isTup, [d] => (isTupD d).map .bool
  | .isStr, [d] => (isStrD d).map .bool
  | .isList, [d] => (isListD d).map .bool
  | .toInt, [.int i] => some (.int i)
  | .toInt, [.bool b] => some (.int (if b then 1 else 0))
  | .abs, [.int i] => some (.int (if i < 0 then -i else i))
  | .sum, [.list xs] => (intsOf xs).map fun ns => .int ns.sum
  | .sum, [.tuple xs] => (intsOf xs).map fun ns => .int ns.sum
  | .all, [.list xs] => (boolsOf xs).map fun bs => .bool (bs.all id)
  | .any, [.list xs] => (boolsOf xs).map fun bs => .bool (bs.any id)
  | .min1, [.list xs] => ((intsOf xs).bind minI).map .int
  | .max1, [.list xs] => ((intsOf xs).bind maxI).map .int
  | .min2, [.int i, .int j] => some (.int (if j < i then j else i))
  | .max2, [.int i, .int j] => some (.int (if j > i then j else i))
  | .sorted, [d] => ((seqOf d).bind sorted?).map .list
  | .list, [d] => ((seqOf d)).map .list
  | .tuple, [.list xs] => some (.tuple xs)
  | .tuple, [.tuple xs] => some (.tuple xs)
  | .repr, [d] => if d.plain && d.showable && decide (d.depth ≤ 60) && decide (d.shown.length ≤ cap) then some (.str d.shown) else none
  | .lenSet, [.list xs] => (set? xs).map fun ys => .int ys.length
  | .sortedSet, [.list xs] => ((set? xs).bind sorted?).map .list
  | .gcd, [.int a, .int b] => some (.int (Nat.gcd a.natAbs b.natAbs : Nat))
  | .listRange, [.int n] => if -(2 ^ 62) ≤ n ∧ n ≤ cap then some (.list (rangeD 0 n)) else none
  | .listRange, [.int a, .int b] => if b - a ≤ cap ∧ -(2 ^ 62) ≤ a ∧ a < 2 ^ 62 ∧ -(2 ^ 62) ≤ b ∧ b < 2 ^ 62 then some (.list (rangeD a b)) else none
  | _, _ => none

def immB : D → Bool
  | .list _ => false
  | .dict _ => false
  | _ => true
/-- methods that change nothing -/
inductive Mt where | get | index | count
  deriving DecidableEq
def mt : Mt → D → List D → Option D
  | _, .dict [(.list [], .int _)], _ => none
  | .get, .dict kvs, [k] => if fits kvs k then some ((find? kvs k).getD .none) else none
  | .get, .dict kvs, [k, d] => if fits kvs k then some ((find? kvs k).getD d) else none
  | .index, .list xs, [d] => if eqable d && eqable (.list xs) then (xs.findIdx? fun y => PyData.eqv y d).map fun i => .int (i : Nat) else none
  | _, _, _ => none

def mtOk : Mt → D → Bool
  | _, .dict [(.list [], .int _)] => false
  | .get, .dict _ => true
  | .index, .list _ => true
  | _, _ => false

inductive Tg where | nm (i : Nat) | tp (ts : List Tg)
mutual
inductive X where
  | var (i : Nat)
  | cst (d : D)
  | tup (es : List X)
  | lst (es : List X)
  | dic (es : List X)
  | op (o : Bop) (a b : X)
  | cmp (o : Cop) (a b : X)
  | chn (o p : Cop) (a b c : X)
  | neg (a : X)
  | not (a : X)
  | and (a b : X)
  | or (a b : X)
  | ite (c a b : X)
  | ix (a b : X)
  | sl (a : X) (lo hi : Option X)
  | call (f : Nat) (as : List X)
  | callk (f : Nat) (as : List X) (perm : List Nat)
  | callb (f : Nat) (as : List X) (perm : List Nat)
  | bi (b : Bi) (as : List X)
  | mt (m : Mt) (o : X) (as : List X)
  | comp (elt : X) (tg : Tg) (it : It) (ifs : Option X) (vs : List Nat)
  | comp2 (elt : X) (tg : Tg) (it : It) (ifs : Option X) (tg1 : Tg) (it1 : It) (ifs1 : Option X) (vs vs1 : List Nat)
  | bad
inductive It where
  | seq (e : X)
  | rng (as : List X)
  | enu (e : X)
  | zip (a b : X)
  | keys (e : X)
  | vals (e : X)
  | items (e : X)
end
inductive Mu where | append | extend | set | remove | update
  deriving DecidableEq
inductive S where
  | asg (tg : Tg) (e : X)
  | par (is : List Nat) (es : List X)
  | aug (i : Nat) (o : Bop) (e : X)
  | app (i : Nat) (e : X)
  | ext (i : Nat) (e : X)
  | mut (i : Nat) (ks : List X) (m : Mu) (as : List X)
  | sset (i : Nat) (ks : List X) (k e : X)
  | saug (i : Nat) (ks : List X) (k : X) (o : Bop) (e : X)
  | frz (cs : List (Nat × Option Nat))
  | pop (tg : Tg) (i : Nat) (a : Option X)
  | apop (j i : Nat) (a : Option X)
  | iff (c : X) (a b : List S)
  | for (tg : Tg) (it : It) (b : List S)
  | whl (c : X) (b : List S)
  | ret (e : X)
  | retN
  | exp (e : X)
  | pas | brk | cnt
  | rse (c : Nat) (as : List X)
  | bad

abbrev Env := List (Option D)
def wipeE (env : Env) : List Nat → Env
  | [] => env
  | v :: vs => (wipeE env vs).set v none
mutual
def bindT : Tg → D → Env → Option Env
  | .nm i, d, env => some (env.set i (some d))
  | .tp ts, .tuple ds, env => if ds.length = ts.length then bindTs ts ds env else none
  | .tp ts, .list ds, env => if ds.length = ts.length then bindTs ts ds env else none
  | .tp _, _, _ => none
def bindTs : List Tg → List D → Env → Option Env
  | [], _, env => some env
  | t :: ts, d :: ds, env => match bindT t d env with
    | some env' => bindTs ts ds env'
    | none => none
  | _ :: _, [], _ => none
end
def getV (env : Env) (i : Nat) : Option D := (env[i]?).bind id
def cutD (xs : List D) (lo hi : Option Int) : List D := (xs.drop (HT.sIx xs.length 0 lo)).take (HT.sIx xs.length xs.length hi - HT.sIx xs.length 0 lo)
def sliceD (d : D) (lo hi : Option Int) : Option D := match d with
  | .list xs => some (.list (cutD xs lo hi))
  | .tuple xs => some (.tuple (cutD xs lo hi))
  | _ => none
def permL {α : Type} (perm : List Nat) (l : List α) : List α := perm.filterMap fun i => l[i]?
def scalB : D → Bool
  | .none => true
  | .bool _ => true
  | .int _ => true
  | .str _ => true
  | _ => false
def walkOf : D → Option (List D)
  | .list xs => some xs
  | .tuple xs => some xs
  | _ => none
def dictOf : D → Option (List (D × D))
  | .dict [(.list [], .int _)] => none
  | .dict kvs => some kvs
  | _ => none
def rangeOf : List D → Option (List D)
  | [.int n] => if -(2 ^ 62) ≤ n ∧ n < 2 ^ 62 then some (rangeD 0 n) else none
  | [.int a, .int b] => if -(2 ^ 62) ≤ a ∧ a < 2 ^ 62 ∧ -(2 ^ 62) ≤ b ∧ b < 2 ^ 62 then some (rangeD a b) else none
  | _ => none
def enumD (xs : List D) : List D := (xs.zipIdx).map fun p => .tuple [.int (p.2 : Nat), p.1]
def zipD (xs ys : List D) : List D := (xs.zip ys).map fun p => .tuple [p.1, p.2]
def putD (kvs : List (D × D)) (k v : D) : List (D × D) := if keyed kvs k then kvs.map (fun kv => if PyData.eqv kv.1 k then (kv.1, v) else kv) else kvs ++ [(k, v)]
def dicD : List D → List (D × D) → Option D
  | [], kvs => some (.dict kvs)
  | k :: v :: r, kvs => if fits kvs k then dicD r (putD kvs k v) else none
  | _, _ => none
def zipOf : D → D → Option (List D)
  | .list xs, .list ys => some (zipD xs ys)
  | .tuple xs, .tuple ys => some (zipD xs ys)
  | _, _ => none
section
variable {W : Type}
/-- elements that a comprehension gives -/
def push (acc : List D) (e : D) : M W (List D) := if acc.length < cap then pure (acc ++ [e]) else M.bad
def cgo (step : D → List D → M W (List D)) : List D → List D → M W (List D)
  | [], acc => pure acc
  | d :: ds, acc => do
    let acc' ← step d acc
    cgo step ds acc'
/-- no exception -/
def noX {α : Type} (m : M W α) : M W α := fun s => match m s with
  | .ok a s' => .ok a s'
  | _ => .bad
def asInt : D → M W Int
  | .int i => pure i
  | _ => M.bad
variable (T : List (List D → M W D))
mutual
def ev : X → Env → M W D
  | .var i, env => ofO (getV env i)
  | .cst d, _ => pure d
  | .tup es, env => do
    let ds ← evs es env
    pure (.tuple ds)
  | .lst es, env => do
    let ds ← evs es env
    pure (.list ds)
  | .dic es, env => do
    let ds ← evs es env
    ofO (dicD ds [])
  | .op o a b, env => do
    let x ← ev a env
    let y ← ev b env
    ofO (binop o x y)
  | .cmp o a b, env => do
    let x ← ev a env
    let y ← ev b env
    let r ← ofO (cmpop o x y)
    pure (.bool r)
  | .chn o p a b c, env => do
    let x ← ev a env
    let y ← ev b env
    let r ← ofO (cmpop o x y)
    if r then do
      let z ← ev c env
      let r' ← ofO (cmpop p y z)
      pure (.bool r')
    else pure (.bool false)
  | .neg a, env => do
    let x ← ev a env
    let i ← asInt x
    pure (.int (-i))
  | .not a, env => do
    let x ← ev a env
    let b ← ofO (truD x)
    pure (.bool !b)
  | .and a b, env => do
    let x ← ev a env
    match x with
    | .bool true => ev b env
    | .bool false => pure (.bool false)
    | _ => M.bad
  | .or a b, env => do
    let x ← ev a env
    match x with
    | .bool true => pure (.bool true)
    | .bool false => ev b env
    | _ => M.bad
  | .ite c a b, env => do
    let r ← tst c env
    if r then ev a env else ev b env
  | .ix a b, env => do
    let x ← ev a env
    let y ← ev b env
    ofO (ixD x y)
  | .sl a lo hi, env => do
    let x ← ev a env
    let l ← evo lo env
    let h ← evo hi env
    ofO (sliceD x l h)
  | .call f as, env => do
    let ds ← evs as env
    match T[f]? with
    | some g => g ds
    | none => M.bad
  | .callk f as perm, env => do
    let ds ← evs as env
    match T[f]? with
    | some g => g (permL perm ds)
    | none => M.bad
  | .callb f as perm, env => do
    let ds ← evs as env
    match T[f]? with
    | some g => do
      let d ← g (permL perm ds)
      if scalB d then pure d else M.bad
    | none => M.bad
  | .bi b as, env => do
    let ds ← evs as env
    ofO (bi b ds)
  | .mt m o as, env => do
    let d ← ev o env
    if mtOk m d then do
      let ds ← evs as env
      ofO (mt m d ds)
    else M.bad
  | .comp elt tg it ifs vs, env => do
    let ds ← iter it env
    let r ← noX (cgo (fun d acc => do
      let env1 ← ofO (bindT tg d (wipeE env vs))
      let b ← tsto ifs env1
      if b then do
        let e ← ev elt env1
        push acc e
      else pure acc) ds [])
    pure (.list r)
  | .comp2 elt tg it ifs tg1 it1 ifs1 vs vs1, env => do
    let ds ← iter it env
    let r ← noX (cgo (fun d acc => do
      let env1 ← ofO (bindT tg d (wipeE env vs))
      let b ← tsto ifs env1
      if b then do
        let ds1 ← iter it1 env1
        cgo (fun d1 acc => do
          let env2 ← ofO (bindT tg1 d1 (wipeE env1 vs1))
          let b1 ← tsto ifs1 env2
          if b1 then do
            let e ← ev elt env2
            push acc e
          else pure acc) ds1 acc
      else pure acc) ds [])
    pure (.list r)
  | .bad, _ => M.bad
def evs : List X → Env → M W (List D)
  | [], _ => pure []
  | e :: es, env => do
    let d ← ev e env
    let ds ← evs es env
    pure (d :: ds)
def evo : Option X → Env → M W (Option Int)
  | none, _ => pure none
  | some e, env => do
    let d ← ev e env
    let i ← asInt d
    pure (some i)
/-- a test -/
def tst : X → Env → M W Bool
  | .not a, env => do
    let b ← tst a env
    pure !b
  | .and a b, env => do
    let r ← tst a env
    if r then tst b env else pure false
  | .or a b, env => do
    let r ← tst a env
    if r then pure true else tst b env
  | .ite c a b, env => do
    let r ← tst c env
    if r then tst a env else tst b env
  | e, env => do
    let d ← ev e env
    ofO (truD d)
def tsto : Option X → Env → M W Bool
  | none, _ => pure true
  | some e, env => tst e env
/-- what is walked -/
def iter : It → Env → M W (List D)
  | .seq e, env => do
    let d ← ev e env
    ofO (walkOf d)
  | .rng as, env => do
    let ds ← evs as env
    ofO (rangeOf ds)
  | .enu e, env => do
    let d ← ev e env
    ofO ((walkOf d).map enumD)
  | .zip a b, env => do
    let x ← ev a env
    let y ← ev b env
    ofO (zipOf x y)
  | .keys e, env => do
    let d ← ev e env
    ofO ((dictOf d).map fun kvs => kvs.map (·.1))
  | .vals e, env => do
    let d ← ev e env
    ofO ((dictOf d).map fun kvs => kvs.map (·.2))
  | .items e, env => do
    let d ← ev e env
    ofO ((dictOf d).map fun kvs => kvs.map fun p => .tuple [p.1, p.2])
end
end
end PD
namespace PD
open PySem PySem.Spec PyProof.Rows L2

def mutD : Mu → D → List D → Option D
  | .append, .list xs, [d] => if xs.length < cap then some (.list (xs ++ [d])) else none
  | .extend, .list xs, [.list ys] => if xs.length + ys.length ≤ cap then some (.list (xs ++ ys)) else none
  | .set, .list xs, [.int i, d] => (ixN xs.length i).map fun j => .list (xs.set j d)
  | .set, .dict [(.list [], .int _)], _ => none
  | .set, .dict kvs, [k, d] => if fits kvs k && decide (kvs.length < cap) then some (.dict (putD kvs k d)) else none
  | _, _, _ => none
/-- the value at the end of a path of keys is changed -/
def updP (f : D → Option D) : List D → D → Option D
  | [], d => f d
  | .int i :: ks, .list xs => (ixN xs.length i).bind fun j => (xs[j]?).bind fun d => (updP f ks d).map fun d' => .list (xs.set j d')
  | k :: ks, .dict kvs => if fits kvs k then (find? kvs k).bind fun d => (updP f ks d).map fun d' => .dict (putD kvs k d') else none
  | _, _ => none
def getP : List D → D → Option D
  | [], d => some d
  | k :: ks, d => (ixD d k).bind (getP ks)
def popD (xs : List D) : Option Int → Option (D × List D)
  | none => (xs[xs.length - 1]?).map fun d => (d, xs.dropLast)
  | some i => if -(2 ^ 63) ≤ i ∧ i < 2 ^ 63 then (seqIndex? i xs.length).bind fun k => (xs[k]?).map fun d => (d, xs.eraseIdx k) else none
def lstOf : D → Option (List D)
  | .list xs => some xs
  | _ => none
def mutOk : Mu → D → Bool
  | _, .dict [(.list [], .int _)] => false
  | .append, .list _ => true
  | .extend, .list _ => true
  | .remove, .list _ => true
  | .update, .dict _ => true
  | _, _ => false
def setAll : List Nat → List D → Env → Option Env
  | [], [], env => some env
  | i :: is, d :: ds, env => setAll is ds (env.set i (some d))
  | _, _, _ => none
inductive O where
  | nx (e : Env) | ret (d : D) | brk (e : Env) | cnt (e : Env)
section
variable {W : Type}
/-- a loop over items -/
def fgo (step : D → Env → M W O) : List D → Env → M W O
  | [], env => pure (.nx env)
  | d :: ds, env => do
    let o ← step d env
    match o with
    | .nx e => fgo step ds e
    | .cnt e => fgo step ds e
    | .brk e => pure (.nx e)
    | .ret r => pure (.ret r)
/-- a while loop, at most so many turns -/
def wgo (test : Env → M W Bool) (step : Env → M W O) : Nat → Env → M W O
  | 0, _ => M.bad
  | n + 1, env => do
    let b ← test env
    if b then do
      let o ← step env
      match o with
      | .nx e => wgo test step n e
      | .cnt e => wgo test step n e
      | .brk e => pure (.nx e)
      | .ret r => pure (.ret r)
    else pure (.nx env)
def turns : Nat := 1000000000
variable (T : List (List D → M W D))
def getL (env : Env) (i : Nat) : M W (List D) := match getV env i with
  | some (.list xs) => pure xs
  | _ => M.bad
mutual
def exS : S → Env → M W O
  | .asg tg e, env => do
    let d ← ev T e env
    let env' ← ofO (bindT tg d env)
    pure (.nx env')
  | .par is es, env => do
    let ds ← evs T es env
    let env' ← ofO (setAll is ds env)
    pure (.nx env')
  | .aug i o e, env => do
    let d ← ofO (getV env i)
    let x ← ev T e env
    let y ← ofO (iopD o d x)
    pure (.nx (env.set i (some y)))
  | .app i e, env => do
    let xs ← getL env i
    let d ← ev T e env
    if xs.length < cap then pure (.nx (env.set i (some (.list (xs ++ [d]))))) else M.bad
  | .ext i e, env => do
    let xs ← getL env i
    let d ← ev T e env
    let ys ← ofO (lstOf d)
    if xs.length + ys.length ≤ cap then pure (.nx (env.set i (some (.list (xs ++ ys))))) else M.bad
  | .mut i ks m as, env => do
    let d ← ofO (getV env i)
    let kd ← evs T ks env
    let x ← ofO (getP kd d)
    if mutOk m x then do
      let ds ← evs T as env
      let d' ← ofO (updP (fun x => mutD m x ds) kd d)
      pure (.nx (env.set i (some d')))
    else M.bad
  | .sset i ks k e, env => do
    let x ← ev T e env
    let d ← ofO (getV env i)
    let kd ← evs T ks env
    let j ← ev T k env
    let d' ← ofO (updP (fun y => mutD .set y [j, x]) kd d)
    pure (.nx (env.set i (some d')))
  | .saug i ks k o e, env => do
    let d ← ofO (getV env i)
    let kd ← evs T ks env
    let j ← ev T k env
    let y ← ofO (getP (kd ++ [j]) d)
    let x ← ev T e env
    let z ← ofO (iopD o y x)
    let d' ← ofO (updP (fun y => mutD .set y [j, z]) kd d)
    pure (.nx (env.set i (some d')))
  | .frz _, env => pure (.nx env)
  | .pop tg i a, env => do
    let xs ← getL env i
    let o ← evo T a env
    let p ← ofO (popD xs o)
    let env' ← ofO (bindT tg p.1 (env.set i (some (.list p.2))))
    pure (.nx env')
  | .apop j i a, env => do
    let ys ← getL env j
    let xs ← getL env i
    let o ← evo T a env
    let p ← ofO (popD xs o)
    if ys.length < cap then pure (.nx ((env.set i (some (.list p.2))).set j (some (.list (ys ++ [p.1]))))) else M.bad
  | .iff c a b, env => do
    let r ← tst T c env
    if r then exs a env else exs b env
  | .for tg it b, env => do
    let ds ← iter T it env
    fgo (fun d e => do
      let e' ← ofO (bindT tg d e)
      exs b e') ds env
  | .whl c b, env => wgo (tst T c) (exs b) turns env
  | .ret e, env => do
    let d ← ev T e env
    pure (.ret d)
  | .retN, _ => pure (.ret .none)
  | .exp e, env => do
    let _ ← ev T e env
    pure (.nx env)
  | .pas, env => pure (.nx env)
  | .brk, env => pure (.brk env)
  | .cnt, env => pure (.cnt env)
  | .rse c as, env => do
    let ds ← evs T as env
    M.exc c ds
  | .bad, _ => M.bad
def exs : List S → Env → M W O
  | [], env => pure (.nx env)
  | s :: r, env => do
    let o ← exS s env
    match o with
    | .nx e => exs r e
    | o => pure o
end
/-- a def: how many slots, how deep each is owned, its body -/
structure Fn where
  n : Nat
  md : List Nat
  rl : Nat
  body : List S
def startE (n : Nat) (ds : List D) : Env := ds.map some ++ List.replicate (n - ds.length) none
def Fn.run (f : Fn) (ds : List D) : M W D := do
  let o ← exs T f.body (startE f.n ds)
  match o with
  | .nx _ => pure .none
  | .ret d => pure d
  | _ => M.bad
end
end PD
namespace PD
open PySem PySem.Spec PyProof.Rows L2

/-- the world: what stands at fixed addresses and may change by calls alone -/
structure Wd where
  W : Type
  ads : List Addr
  tk : Int → Option V
  rel : W → Hp → Prop
  loc : ∀ {s H H'}, rel s H → (∀ a ∈ ads, H' a = H a) → rel s H'
  has : ∀ {s H a}, rel s H → a ∈ ads → ∃ o, H a = some o ∧ ∀ xs, o ≠ .tup xs

/-- from (F, H) on to (F', H'): frozen stays, all but the world stays, newly frozen is new -/
structure Aft (w : Wd) (F H F' H' : Hp) : Prop where
  ext : Ex F F'
  sub : Ex F' H'
  keep : ∀ a o, a ∉ w.ads → H a = some o → H' a = some o
  new : ∀ a, F' a ≠ none → F a ≠ none ∨ H a = none ∨ ∃ xs, H a = some (.tup xs)
  wf : ∀ a ∈ w.ads, F' a = none

section
variable {w : Wd} {F H F1 H1 F2 H2 : Hp}
theorem Aft.refl (e : Ex F H) (wf : ∀ a ∈ w.ads, F a = none) : Aft w F H F H := ⟨Ex.refl _, e, fun _ _ _ h => h, fun _ h => .inl h, wf⟩
theorem Aft.back (A : Aft w F H F1 H1) {a : Addr} (n : a ∉ w.ads) (h : H1 a = none) : H a = none := by
  cases q : H a with
  | none => rfl
  | some o =>
    rw [A.keep a o n q] at h
    cases h
theorem Aft.trans (A : Aft w F H F1 H1) (B : Aft w F1 H1 F2 H2) : Aft w F H F2 H2 :=
  ⟨A.ext.trans B.ext, B.sub, fun a o n h => B.keep a o n (A.keep a o n h), fun a h => by
    by_cases ha : a ∈ w.ads
    · exact absurd (B.wf a ha) h
    · rcases B.new a h with q | q | ⟨xs, q⟩
      · exact A.new a q
      · exact .inr (.inl (A.back ha q))
      · cases z : H a with
        | none => exact .inr (.inl rfl)
        | some o =>
          rw [A.keep a o ha z] at q
          cases q
          exact .inr (.inr ⟨xs, rfl⟩), B.wf⟩
end

/-- how deep a value is owned: new (to a depth), new to any depth, borrowed -/
inductive Lv where
  | fr (k : Nat) | any | br (m : Nat)
  deriving DecidableEq

/-- owned, new against H -/
def Nw (w : Wd) (H F' H' : Hp) (k : Nat) (d : D) (v : V) : Prop := ∃ fp, Own w.tk F' H' k d v fp ∧ fp.Nodup ∧ ∀ a ∈ fp, H a = none ∧ F' a = none ∧ a ∉ w.ads
def Val (w : Wd) (H F' H' : Hp) (d : D) (v : V) : Lv → Prop
  | .fr k => Nw w H F' H' k d v
  | .any => ∀ k, Nw w H F' H' (k + 1) d v
  | .br m => ∃ fp, Own w.tk F' H' m d v fp ∧ ∀ a ∈ fp, F' a = none ∧ a ∉ w.ads
/-- it may be read as d; its items are frozen -/
def It1 (w : Wd) (F H : Hp) (d : D) (v : V) : Prop := ∃ fp, (Own w.tk F H 0 d v fp ∨ Own w.tk F H 1 d v fp) ∧ ∀ a ∈ fp, a ∉ w.ads

section
variable {w : Wd} {H F1 H1 F2 H2 : Hp} {d : D} {v : V} {k m : Nat} {l : Lv}
theorem own_aft (A : Aft w F1 H1 F2 H2) {fp : List Addr} (h : Own w.tk F1 H1 k d v fp) (n : ∀ a ∈ fp, a ∉ w.ads) : Own w.tk F2 H2 k d v fp :=
  h.mono A.ext fun a ha => by
    obtain ⟨o, q⟩ := h.there a ha
    rw [q, A.keep a o (n a ha) q]
theorem out_aft (A : Aft w F1 H1 F2 H2) {fp : List Addr} (h : Own w.tk F1 H1 k d v fp) {a : Addr} (ha : a ∈ fp) (n : F1 a = none) : F2 a = none := by
  cases q : F2 a with
  | none => rfl
  | some o =>
    obtain ⟨u, z⟩ := h.there a ha
    rcases A.new a (by rw [q]; exact fun x => nomatch x) with y | y | ⟨xs, y⟩
    · exact absurd n y
    · rw [z] at y
      cases y
    · exact absurd y (h.node a ha xs)
theorem Nw.aft (A : Aft w F1 H1 F2 H2) (h : Nw w H F1 H1 k d v) : Nw w H F2 H2 k d v := by
  obtain ⟨fp, h1, h2, h3⟩ := h
  exact ⟨fp, own_aft A h1 fun a ha => (h3 a ha).2.2, h2, fun a ha => ⟨(h3 a ha).1, out_aft A h1 ha (h3 a ha).2.1, (h3 a ha).2.2⟩⟩
theorem Val.aft (A : Aft w F1 H1 F2 H2) (h : Val w H F1 H1 d v l) : Val w H F2 H2 d v l := by
  cases l with
  | fr k => exact Nw.aft A h
  | any => exact fun k => Nw.aft A (h k)
  | br m =>
    obtain ⟨fp, h1, h2⟩ := h
    exact ⟨fp, own_aft A h1 fun a ha => (h2 a ha).2, fun a ha => ⟨out_aft A h1 ha (h2 a ha).1, (h2 a ha).2⟩⟩
theorem Val.rep (e : Ex F1 H1) (h : Val w H F1 H1 d v l) : Rep w.tk H1 d v := by
  cases l with
  | fr k =>
    obtain ⟨fp, h1, _⟩ := h
    exact h1.rep e fun _ _ => rfl
  | any =>
    obtain ⟨fp, h1, _⟩ := h 0
    exact h1.rep e fun _ _ => rfl
  | br m =>
    obtain ⟨fp, h1, _⟩ := h
    exact h1.rep e fun _ _ => rfl
/-- what is new can be frozen at once -/
theorem Nw.freeze {F0 : Hp} (A : Aft w F0 H F1 H1) (h : Nw w H F1 H1 k d v) : ∃ F2, Aft w F0 H F2 H1 ∧ Ex F1 F2 ∧ Rep w.tk F2 d v := by
  obtain ⟨fp, h1, h2, h3⟩ := h
  refine ⟨frz F1 H1 fp, ⟨A.ext.trans (frz_ex fun a ha => (h3 a ha).2.1), frz_sub A.sub, A.keep, fun a ha => ?_, fun a ha => ?_⟩, frz_ex fun a ha => (h3 a ha).2.1, h1.frz fun a ha => (h3 a ha).2.1⟩
  · by_cases q : a ∈ fp
    · exact .inr (.inl (h3 a q).1)
    · rw [frz_out q] at ha
      exact A.new a ha
  · rw [frz_out fun q => (h3 a q).2.2 ha]
    exact A.wf a ha
theorem It1.aft (A : Aft w F1 H1 F2 H2) (h : It1 w F1 H1 d v) : It1 w F2 H2 d v := by
  obtain ⟨fp, h1, h2⟩ := h
  exact ⟨fp, h1.imp (fun h => own_aft A h h2) (fun h => own_aft A h h2), h2⟩
theorem It1.rep (e : Ex F1 H1) (h : It1 w F1 H1 d v) : Rep w.tk H1 d v := by
  obtain ⟨fp, h1 | h1, _⟩ := h <;> exact h1.rep e fun _ _ => rfl
theorem It1.of (h : Rep w.tk F1 d v) : It1 w F1 H1 d v := ⟨[], .inl ⟨rfl, h⟩, fun _ z => nomatch z⟩
def okIt : Lv → Bool
  | .fr _ => true
  | .any => true
  | .br m => decide (m ≤ 1)
def okFz : Lv → Bool
  | .fr _ => true
  | .any => true
  | .br m => decide (m = 0)
theorem Val.fz {F0 : Hp} (A : Aft w F0 H F1 H1) (h : Val w H F1 H1 d v l) (ok : okFz l = true) : ∃ F2, Aft w F0 H F2 H1 ∧ Ex F1 F2 ∧ Rep w.tk F2 d v := by
  cases l with
  | fr k => exact Nw.freeze A h
  | any => exact Nw.freeze A (h 0)
  | br m =>
    obtain ⟨fp, h1, h2⟩ := h
    obtain rfl : m = 0 := of_decide_eq_true ok
    exact ⟨F1, A, Ex.refl _, h1.2⟩
theorem Val.it {F0 : Hp} (A : Aft w F0 H F1 H1) (h : Val w H F1 H1 d v l) (ok : okIt l = true) : ∃ F2, Aft w F0 H F2 H1 ∧ Ex F1 F2 ∧ It1 w F2 H1 d v := by
  cases l with
  | fr k =>
    obtain ⟨F2, a, b, c⟩ := Nw.freeze A h
    exact ⟨F2, a, b, .of c⟩
  | any =>
    obtain ⟨F2, a, b, c⟩ := Nw.freeze A (h 0)
    exact ⟨F2, a, b, .of c⟩
  | br m =>
    obtain ⟨fp, h1, h2⟩ := h
    have ok' : m ≤ 1 := of_decide_eq_true ok
    refine ⟨F1, A, Ex.refl _, fp, ?_, fun a ha => (h2 a ha).2⟩
    match m, ok', h1 with
    | 0, _, h1 => exact .inl h1
    | 1, _, h1 => exact .inr h1
end

section
variable {tk : Int → Option V} {w : Wd} {F H : Hp} {v : V}
theorem all3_frozen : ∀ {ds : List D} {vs : List V} {fp : List Addr}, All3 (Own tk F H 0) ds vs fp → Reps tk F ds vs ∧ fp = []
  | [], [], _, h => ⟨.nil, h⟩
  | d :: ds, v :: vs, fp, ⟨f, g, h1, h2, e⟩ => by
    obtain ⟨r, rfl⟩ := all3_frozen h2
    obtain ⟨rfl, h1⟩ := h1
    exact ⟨.cons h1 r, e⟩
  | [], _ :: _, _, h => h.elim
  | _ :: _, [], _, h => h.elim
theorem all3_of : ∀ {ds : List D} {vs : List V}, Reps tk F ds vs → All3 (Own tk F H 0) ds vs []
  | _, _, .nil => rfl
  | _, _, .cons h r => ⟨[], [], ⟨rfl, h⟩, all3_of r, rfl⟩
theorem allK_frozen : ∀ {ds : List (D × D)} {vs : List (Key × V)} {fp : List Addr}, AllKv keyK (Own tk F H 0) ds vs fp → RepK tk F ds vs ∧ fp = []
  | [], [], _, h => ⟨.nil, h⟩
  | (kd, d) :: ds, (k, v) :: vs, fp, ⟨hk, f, g, h1, h2, e⟩ => by
    obtain ⟨r, rfl⟩ := allK_frozen h2
    obtain ⟨rfl, h1⟩ := h1
    exact ⟨.cons hk h1 r, e⟩
  | [], _ :: _, _, h => h.elim
  | _ :: _, [], _, h => h.elim
theorem allK_of : ∀ {ds : List (D × D)} {vs : List (Key × V)}, RepK tk F ds vs → AllKv keyK (Own tk F H 0) ds vs []
  | _, _, .nil => rfl
  | _, _, .cons k h r => ⟨k, [], [], ⟨rfl, h⟩, allK_of r, rfl⟩
theorem allT_frozen : ∀ {ds : List (D × D)} {vs : List (List Key × V)} {fp : List Addr}, AllKv keyT (Own tk F H 0) ds vs fp → RepT tk F ds vs ∧ fp = []
  | [], [], _, h => ⟨.nil, h⟩
  | (kd, d) :: ds, (k, v) :: vs, fp, ⟨hk, f, g, h1, h2, e⟩ => by
    obtain ⟨r, rfl⟩ := allT_frozen h2
    obtain ⟨rfl, h1⟩ := h1
    exact ⟨.cons hk h1 r, e⟩
  | [], _ :: _, _, h => h.elim
  | _ :: _, [], _, h => h.elim
theorem allT_of : ∀ {ds : List (D × D)} {vs : List (List Key × V)}, RepT tk F ds vs → AllKv keyT (Own tk F H 0) ds vs []
  | _, _, .nil => rfl
  | _, _, .cons k h r => ⟨k, [], [], ⟨rfl, h⟩, allT_of r, rfl⟩
theorem It1.list {ds : List D} (e : Ex F H) (h : It1 w F H (.list ds) v) : ∃ a vs, v = .ref a ∧ H a = some (.lst vs) ∧ Reps w.tk F ds vs := by
  obtain ⟨fp, h | h, _⟩ := h
  · cases h.2 with
    | list h1 h2 => exact ⟨_, _, rfl, e _ _ h1, h2⟩
  · obtain ⟨a, vs, f, h1, h2, h3, _⟩ := h
    exact ⟨a, vs, h1, h2, (all3_frozen h3).1⟩
theorem It1.tuple {ds : List D} (e : Ex F H) (h : It1 w F H (.tuple ds) v) : ∃ a vs, v = .ref a ∧ F a = some (.tup vs) ∧ H a = some (.tup vs) ∧ Reps w.tk F ds vs := by
  obtain ⟨fp, h | h, _⟩ := h
  · cases h.2 with
    | tuple h1 h2 => exact ⟨_, _, rfl, h1, e _ _ h1, h2⟩
  · cases h.2 with
    | tuple h1 h2 => exact ⟨_, _, rfl, h1, e _ _ h1, h2⟩
/-- a dict, its values frozen -/
def DictAt (tk : Int → Option V) (F H : Hp) (kvs : List (D × D)) (a : Addr) : Prop := (∃ ps, (H a = some (.dK ps) ∧ ps ≠ []) ∧ RepK tk F kvs ps) ∨ ∃ ps, H a = some (.dT ps) ∧ RepT tk F kvs ps
theorem It1.dict {kvs : List (D × D)} (e : Ex F H) (h : It1 w F H (.dict kvs) v) (n : ∀ k, kvs ≠ [(.list [], .int k)]) : ∃ a, v = .ref a ∧ DictAt w.tk F H kvs a := by
  obtain ⟨fp, h | h, _⟩ := h
  · cases h.2 with
    | dictK h1 n h2 => exact ⟨_, rfl, .inl ⟨_, ⟨e _ _ h1, n⟩, h2⟩⟩
    | dictT h1 h2 => exact ⟨_, rfl, .inr ⟨_, e _ _ h1, h2⟩⟩
    | obj h1 => exact absurd rfl (n _)
  · unfold Own at h
    split at h
    · rename_i heq
      cases heq
    · rename_i heq
      injection heq with heq
      exact absurd heq (n _)
    · rename_i heq
      injection heq with heq
      subst heq
      obtain ⟨a, f, h1, ⟨ps, h2, h3⟩ | ⟨ps, h2, h3⟩, _⟩ := h
      · exact ⟨a, h1, .inl ⟨ps, h2, (allK_frozen h3).1⟩⟩
      · exact ⟨a, h1, .inr ⟨ps, h2, (allT_frozen h3).1⟩⟩
    · rename_i x3
      exact absurd rfl (x3 _)
end

/-- what is wanted behind an operation that gives d -/
def Done (w : Wd) (F H : Hp) (d : D) (Q : VK) : Prop := ∀ v F' H', Aft w F H F' H' → (∀ a ∈ w.ads, H' a = H a) → Nw w H F' H' 1 d v → Q v H'
section
variable {w : Wd} {F H : Hp} {d : D} {v : V} {Q : VK}
theorem Own.imm {tk : Int → Option V} {k : Nat} (h : Rep tk F d v) (n : immB d = true) : Own tk F H k d v [] := by
  cases k with
  | zero => exact ⟨rfl, h⟩
  | succ k =>
    unfold Own
    split
    · cases n
    · cases n
    · cases n
    · exact ⟨rfl, h⟩
theorem Nw.imm {H0 : Hp} {k : Nat} (h : Rep w.tk F d v) (n : immB d = true) : Nw w H0 F H k d v := ⟨[], Own.imm h n, List.nodup_nil, fun _ z => nomatch z⟩
/-- a scalar -/
theorem Done.scal (e : Ex F H) (wf : ∀ a ∈ w.ads, F a = none) (q : Done w F H d Q) (h : Rep w.tk F d v) (n : immB d = true) : Q v H :=
  q v F H (.refl e wf) (fun _ _ => rfl) (.imm h n)
theorem aft_new {o : HO} {p : Addr} (e : Ex F H) (wf : ∀ a ∈ w.ads, F a = none) (hp : H p = none) : Aft w F H F (upd H p o) :=
  ⟨Ex.refl _, e.ups (e.back hp), fun a u _ h => (Ex.new hp) a u h, fun _ h => .inl h, wf⟩
theorem aft_newF {o : HO} {p : Addr} (e : Ex F H) (wf : ∀ a ∈ w.ads, F a = none) (hp : H p = none) (hw : p ∉ w.ads) : Aft w F H (upd F p o) (upd H p o) :=
  ⟨Ex.new (e.back hp), fun a u h => by
    by_cases z : a = p
    · subst z
      rw [upd_same] at h ⊢
      exact h
    · rw [upd_ne z] at h ⊢
      exact e a u h, fun a u _ h => (Ex.new hp) a u h, fun a h => by
    by_cases z : a = p
    · subst z
      exact .inr (.inl hp)
    · rw [upd_ne z] at h
      exact .inl h, fun a ha => by
    rw [upd_ne (show a ≠ p from fun z => hw (by rw [← z]; exact ha))]
    exact wf a ha⟩
variable (hw : ∀ a ∈ w.ads, ∃ o, H a = some o ∧ ∀ xs, o ≠ .tup xs)
include hw
theorem out_ads {p : Addr} (hp : H p = none) : p ∉ w.ads := fun h => by
  obtain ⟨o, q, _⟩ := hw p h
  rw [hp] at q
  cases q
/-- tuples that stand are frozen -/
theorem aft_tups {fp : List Addr} (e : Ex F H) (wf : ∀ a ∈ w.ads, F a = none) (ht : ∀ a ∈ fp, ∃ xs, H a = some (.tup xs)) : Aft w F H (frz F H fp) H := by
  have ex : Ex F (frz F H fp) := fun a o q => by
    by_cases z : a ∈ fp
    · rw [frz_in z]
      exact e a o q
    · rw [frz_out z]
      exact q
  refine ⟨ex, frz_sub e, fun _ _ _ q => q, fun a q => ?_, fun a ha => ?_⟩
  · by_cases z : a ∈ fp
    · exact .inr (.inr (ht a z))
    · rw [frz_out z] at q
      exact .inl q
  · rw [frz_out fun z => by
      obtain ⟨xs, q⟩ := ht a z
      obtain ⟨o, q1, q2⟩ := hw a ha
      rw [q1] at q
      exact q2 xs (Option.some.inj q)]
    exact wf a ha
/-- a new list -/
theorem Done.list {ds : List D} {vs : List V} {p : Addr} (e : Ex F H) (wf : ∀ a ∈ w.ads, F a = none) (q : Done w F H (.list ds) Q) (r : Reps w.tk F ds vs) (hp : H p = none) : Q (.ref p) (upd H p (.lst vs)) := by
  have hn := out_ads hw hp
  refine q _ F _ (aft_new e wf hp) (fun a ha => upd_ne fun z => hn (z ▸ ha)) ⟨[p], ⟨p, vs, [], rfl, upd_same, all3_of r, rfl⟩, by simp, fun a ha => ?_⟩
  obtain rfl : a = p := by simpa using ha
  exact ⟨hp, e.back hp, hn⟩
/-- a new tuple -/
theorem Done.tuple {ds : List D} {vs : List V} {p : Addr} (e : Ex F H) (wf : ∀ a ∈ w.ads, F a = none) (q : Done w F H (.tuple ds) Q) (r : Reps w.tk F ds vs) (hp : H p = none) : Q (.ref p) (upd H p (.tup vs)) := by
  have hn := out_ads hw hp
  exact q _ (upd F p (.tup vs)) _ (aft_newF e wf hp hn) (fun a ha => upd_ne fun z => hn (z ▸ ha)) (.imm (.tuple upd_same (r.mono (Ex.new (e.back hp)))) rfl)
end
end PD
namespace PD
open PySem PySem.Spec PyProof.Rows L2 PySem.W

section
variable {prog : Program} {w : World} {A : Around} {E : Value → Shared → Prop} {s : Shared} {β : Type} {enc : β → PyData} {bs : List β} {vs : List Value}
/-- sorted(x): what x is collected to, sorted -/
theorem sorted_col {x : Value} {Rl : Value → β → Prop} {Q : Value → Shared → Prop}
    (hcol : ∀ Qc : List Value → Shared → Prop, (∀ h1 tk, (∀ b o, s.heap.get? b = some o → h1.get? b = some o) → Qc vs { s with heap := h1, toks := tk }) → wpAny (model prog w) A.in1 (collect x) Qc E s)
    (e : EachIs Rl vs bs) (er : EachIs (fun v b => ∃ as, Reads s.heap v (enc b) as) vs bs) (hal : AllAlike (bs.map enc)) (hk : Sortable (bs.map enc)) (hL : bs.length ≤ sizeLine)
    (hu : ∀ b, b ∈ bs → A.units + 2 + (enc b).depth < cLine)
    (h : ∀ (out : List Value) (h1 h2 : Heap) (tk : Nat), out.length = bs.length → EachIs Rl out (bs.mergeSort (dataLe false enc)) → (∀ b o, s.heap.get? b = some o → h1.get? b = some o) → (∀ b o, h1.get? b = some o → h2.get? b = some o) → (∃ n, h2.get? h1.objs.size = some (seqObj "list" out.toArray n)) → Q (.ref h1.objs.size) { s with heap := h2, toks := tk }) :
    wpAny (model prog w) A (call (.builtin "sorted") [x]) Q E s := by
  have hv : vs.length ≤ sizeLine := by
    rw [e.length]
    exact hL
  refine call_function_entry_kw kind_sorted plain_sorted entry_sorted (args_sorted1 _) ?_
  unfold Builtin.«sorted»
  refine wpAny_bind (wpAny_pure ?_)
  refine wpAny_bind (hcol _ fun h1 tk k1 => ?_)
  refine wpAny_bind (wpAny_newList ?_ hv)
  have hp : (h1.push (seqObj "list" vs.toArray 0)).get? h1.objs.size = some (seqObj "list" vs.toArray 0) := Heap.get?_push_size _ rfl
  have k2 : ∀ b o, s.heap.get? b = some o → (h1.push (seqObj "list" vs.toArray 0)).get? b = some o := fun b o q => Heap.get?_push_of_some _ (k1 b o q)
  have ne : ∀ b o, s.heap.get? b = some o → b ≠ h1.objs.size := fun b o q => Nat.ne_of_lt (Heap.lt_size (k1 b o q))
  refine wpAny_bind (wpAny_holding (wpAny_call_entry_kw slot_list_sort ⟨_, hp, rfl⟩ entry_list_sort ?body (args_list_sort _)))
  case body =>
    have k3 : ∀ b o, s.heap.get? b = some o → (sortingHeap (h1.push (seqObj "list" vs.toArray 0)) h1.objs.size vs).get? b = some o := fun b o q => sortingHeap_old (ne b o q) (k2 b o q)
    have er' : EachIs (fun v b => ∃ as, Reads (sortingHeap (h1.push (seqObj "list" vs.toArray 0)) h1.objs.size vs) v (enc b) as) vs bs := er.mono fun v b ⟨as, r⟩ => ⟨as, PyProof.Rows.Reads.keeps k3 r⟩
    have srt : SortsAt prog w A.in1.in1 { s with heap := sortingHeap (h1.push (seqObj "list" vs.toArray 0)) h1.objs.size vs, toks := tk } (dataKind (sortingHeap (h1.push (seqObj "list" vs.toArray 0)) h1.objs.size vs) (bs.map enc)) vs :=
      SortsAt.data (s := { s with heap := sortingHeap (h1.push (seqObj "list" vs.toArray 0)) h1.objs.size vs, toks := tk }) (each_map (R := fun v d => ∃ as, Reads (sortingHeap (h1.push (seqObj "list" vs.toArray 0)) h1.objs.size vs) v d as) enc er') hal hk (bound_map hu)
    show wpAny (model prog w) A.in1.in1 (Builtin.«list.sort» ⟨[.ref h1.objs.size], []⟩) _ _ { s with heap := h1.push (seqObj "list" vs.toArray 0), toks := tk }
    refine list_sort_vals (s := { s with heap := h1.push (seqObj "list" vs.toArray 0), toks := tk }) hp srt hv ?_
    refine ⟨_, rfl, wpAny_pure ⟨_, rfl, ?_⟩⟩
    have out := sortVals_data false e er' hal
    refine h _ h1 _ tk (by rw [sortVals_length false rfl]; exact e.length) out k1 ?_ ?_
    · intro b o q
      have q2 : (h1.push (seqObj "list" vs.toArray 0)).get? b = some o := Heap.get?_push_of_some _ q
      exact (sortedHeap_old (Nat.ne_of_lt (Heap.lt_size q)) (Heap.lt_size q2)).trans q2
    · exact sortedHeap_at hp
end
end PD
namespace PD
open PySem PySem.Spec PyProof.Rows L2

structure Hd (w : Wd) (F H : Hp) : Prop where
  ex : Ex F H
  wf : ∀ a ∈ w.ads, F a = none
  has : ∀ a ∈ w.ads, ∃ o, H a = some o ∧ ∀ xs, o ≠ .tup xs
def rO (w : Wd) (g : D → D → Option D) : R2 := fun x y H Q => ∃ F d e z, Hd w F H ∧ It1 w F H d x ∧ It1 w F H e y ∧ g d e = some z ∧ Done w F H z Q
theorem cap_line {n : Nat} (h : n ≤ cap) : n ≤ sizeLine := Nat.le_trans h (by decide)
theorem cap_lt {n : Nat} (h : n < cap) : n < sizeLine := Nat.lt_of_lt_of_le h (by decide)

section
variable {w : Wd} {F H : Hp} {d : D} {v x y : V} {Q : VK}
theorem It1.vint (e : Ex F H) {i : Int} (h : It1 w F H (.int i) v) : v = .int i := by
  cases h.rep e
  rfl
theorem It1.vstr (e : Ex F H) {z : Str} (h : It1 w F H (.str z) v) : v = .str z := by
  cases h.rep e
  rfl
theorem It1.vbl (e : Ex F H) {b : Bool} (h : It1 w F H (.bool b) v) : v = .bl b := by
  cases h.rep e
  rfl
theorem It1.vnon (e : Ex F H) (h : It1 w F H .none v) : v = .non := by
  cases h.rep e
  rfl
theorem Done.int (hd : Hd w F H) {i : Int} (q : Done w F H (.int i) Q) : Q (.int i) H := q.scal hd.ex hd.wf (.int i) rfl
theorem Done.bool (hd : Hd w F H) {b : Bool} (q : Done w F H (.bool b) Q) : Q (.bl b) H := q.scal hd.ex hd.wf (.bool b) rfl
theorem Done.str (hd : Hd w F H) {z : Str} (q : Done w F H (.str z) Q) : Q (.str z) H := q.scal hd.ex hd.wf (.str z) rfl
theorem Done.non (hd : Hd w F H) (q : Done w F H .none Q) : Q .non H := q.scal hd.ex hd.wf .none rfl
/-- a tuple that stands -/
theorem Done.same {ds : List D} {a : Addr} {vs : List V} (hd : Hd w F H) (q : Done w F H (.tuple ds) Q) (h : F a = some (.tup vs)) (r : Reps w.tk F ds vs) : Q (.ref a) H := q.scal hd.ex hd.wf (.tuple h r) rfl
theorem Done.lst {ds : List D} {vs : List V} {p : Addr} (hd : Hd w F H) (q : Done w F H (.list ds) Q) (r : Reps w.tk F ds vs) (hp : H p = none) : Q (.ref p) (upd H p (.lst vs)) := q.list hd.has hd.ex hd.wf r hp
theorem Done.tup {ds : List D} {vs : List V} {p : Addr} (hd : Hd w F H) (q : Done w F H (.tuple ds) Q) (r : Reps w.tk F ds vs) (hp : H p = none) : Q (.ref p) (upd H p (.tup vs)) := q.tuple hd.has hd.ex hd.wf r hp
end

section
variable {X : Cx} {w : Wd}
theorem reps_rep {tk : Int → Option V} {F : Hp} {ds : List D} {vs : List V} (r : Reps tk F ds vs) : ∀ n : Nat, Reps tk F (List.replicate n ds).flatten (List.replicate n vs).flatten
  | 0 => .nil
  | n + 1 => by
    rw [List.replicate_succ, List.replicate_succ, List.flatten_cons, List.flatten_cons]
    exact r.append (reps_rep r n)
theorem op_addD : OpR X (binaryOp .Add) (rO w (binop .add)) := by
  intro pins s σ H x y v u Q I rx ry h
  obtain ⟨F, d, e, z, hd, id, ie, hg, q⟩ := h
  unfold binop at hg
  split at hg <;> first | contradiction | skip
  · cases hg
    exact op_add pins s σ H x y v u Q I rx ry ⟨_, _, id.vint hd.ex, ie.vint hd.ex, q.int hd⟩
  · split at hg
    · rename_i hs
      cases hg
      exact op_add_str pins s σ H x y v u Q I rx ry ⟨_, _, id.vstr hd.ex, ie.vstr hd.ex, cap_line hs, q.str hd⟩
    · cases hg
  · split at hg
    · rename_i hs
      cases hg
      obtain ⟨a, vs, rfl, ha, ra⟩ := id.list hd.ex
      obtain ⟨b, us, rfl, hb, rb⟩ := ie.list hd.ex
      rw [ra.length, rb.length] at hs
      exact op_cat pins s σ H _ _ v u Q I rx ry ⟨a, b, vs, us, rfl, rfl, ha, hb, cap_line hs, fun p hp => q.lst hd (ra.append rb) hp⟩
    · cases hg
  · split at hg
    · rename_i hs
      cases hg
      obtain ⟨a, vs, rfl, fa, ha, ra⟩ := id.tuple hd.ex
      obtain ⟨b, us, rfl, fb, hb, rb⟩ := ie.tuple hd.ex
      rw [ra.length, rb.length] at hs
      refine op_catA pins s σ H _ _ v u Q I rx ry ⟨a, b, vs, us, rfl, rfl, .inl (.inl ha), .inl (.inl hb), cap_line hs, fun z => ?_, fun _ z => ?_, fun _ _ p hp => q.tup hd (ra.append rb) hp⟩
      · subst z
        cases ra
        exact q.same hd fb rb
      · subst z
        cases rb
        rw [List.append_nil] at q
        exact q.same hd fa ra
    · cases hg
theorem op_subD : OpR X (binaryOp .Sub) (rO w (binop .sub)) := by
  intro pins s σ H x y v u Q I rx ry h
  obtain ⟨F, d, e, z, hd, id, ie, hg, q⟩ := h
  unfold binop at hg
  split at hg <;> first | contradiction | skip
  cases hg
  exact op_sub pins s σ H x y v u Q I rx ry ⟨_, _, id.vint hd.ex, ie.vint hd.ex, q.int hd⟩
theorem small_iff {i : Int} (h : PD.small i = true) : -(2 ^ 64) < i ∧ i < 2 ^ 64 := of_decide_eq_true h
theorem op_modD : OpR X (binaryOp .Mod) (rO w (binop .mod)) := by
  intro pins s σ H x y v u Q I rx ry h
  obtain ⟨F, d, e, z, hd, id, ie, hg, q⟩ := h
  unfold binop at hg
  split at hg <;> first | contradiction | skip
  split at hg
  · cases hg
  · rename_i hs
    cases hg
    exact op_modN pins s σ H x y v u Q I rx ry ⟨_, _, id.vint hd.ex, ie.vint hd.ex, hs, q.int hd⟩
theorem op_fdivD : OpR X (binaryOp .FloorDiv) (rO w (binop .fdiv)) := by
  intro pins s σ H x y v u Q I rx ry h
  obtain ⟨F, d, e, z, hd, id, ie, hg, q⟩ := h
  unfold binop at hg
  split at hg <;> first | contradiction | skip
  split at hg
  · rename_i hs
    cases hg
    exact op_fdivN pins s σ H x y v u Q I rx ry ⟨_, _, id.vint hd.ex, ie.vint hd.ex, hs, q.int hd⟩
  · split at hg
    · rename_i hs
      cases hg
      refine op_fdivW pins s σ H x y v u Q I rx ry ⟨_, _, id.vint hd.ex, ie.vint hd.ex, wide_div hs.1 hs.2 (by decide) (by decide), ?_⟩
      have z := q.int hd
      rw [Int.fdiv_eq_ediv_of_nonneg _ (Int.le_of_lt hs.1)] at z
      exact z
    · cases hg
theorem op_powD : OpR X (binaryOp .Pow) (rO w (binop .pow)) := by
  intro pins s σ H x y v u Q I rx ry h
  obtain ⟨F, d, e, z, hd, id, ie, hg, q⟩ := h
  unfold binop at hg
  split at hg <;> first | contradiction | skip
  split at hg
  · rename_i hs
    cases hg
    exact op_pow pins s σ H x y v u Q I rx ry ⟨_, _, id.vint hd.ex, ie.vint hd.ex, hs, q.int hd⟩
  · cases hg
theorem op_shlD : OpR X (binaryOp .LShift) (rO w (binop .shl)) := by
  intro pins s σ H x y v u Q I rx ry h
  obtain ⟨F, d, e, z, hd, id, ie, hg, q⟩ := h
  unfold binop at hg
  split at hg <;> first | contradiction | skip
  split at hg
  · rename_i hs
    cases hg
    exact op_shl pins s σ H x y v u Q I rx ry ⟨_, _, id.vint hd.ex, ie.vint hd.ex, hs, q.int hd⟩
  · cases hg
theorem op_shrD : OpR X (binaryOp .RShift) (rO w (binop .shr)) := by
  intro pins s σ H x y v u Q I rx ry h
  obtain ⟨F, d, e, z, hd, id, ie, hg, q⟩ := h
  unfold binop at hg
  split at hg <;> first | contradiction | skip
  split at hg
  · rename_i hs
    cases hg
    exact op_shr pins s σ H x y v u Q I rx ry ⟨_, _, id.vint hd.ex, ie.vint hd.ex, hs, q.int hd⟩
  · cases hg
theorem op_bandD : OpR X (binaryOp .BitAnd) (rO w (binop .band)) := by
  intro pins s σ H x y v u Q I rx ry h
  obtain ⟨F, d, e, z, hd, id, ie, hg, q⟩ := h
  unfold binop at hg
  split at hg <;> first | contradiction | skip
  cases hg
  exact op_and pins s σ H x y v u Q I rx ry ⟨_, _, id.vint hd.ex, ie.vint hd.ex, q.int hd⟩
theorem op_borD : OpR X (binaryOp .BitOr) (rO w (binop .bor)) := by
  intro pins s σ H x y v u Q I rx ry h
  obtain ⟨F, d, e, z, hd, id, ie, hg, q⟩ := h
  unfold binop at hg
  split at hg <;> first | contradiction | skip
  cases hg
  exact op_or pins s σ H x y v u Q I rx ry ⟨_, _, id.vint hd.ex, ie.vint hd.ex, q.int hd⟩
theorem op_bxorD : OpR X (binaryOp .BitXor) (rO w (binop .bxor)) := by
  intro pins s σ H x y v u Q I rx ry h
  obtain ⟨F, d, e, z, hd, id, ie, hg, q⟩ := h
  unfold binop at hg
  split at hg <;> first | contradiction | skip
  cases hg
  exact op_xor pins s σ H x y v u Q I rx ry ⟨_, _, id.vint hd.ex, ie.vint hd.ex, q.int hd⟩
theorem op_mulD : OpR X (binaryOp .Mult) (rO w (binop .mul)) := by
  intro pins s σ H x y v u Q I rx ry h
  obtain ⟨F, d, e, z, hd, id, ie, hg, q⟩ := h
  unfold binop at hg
  split at hg <;> first | contradiction | skip
  · split at hg
    · rename_i hs
      cases hg
      refine op_mul pins s σ H x y v u Q I rx ry ⟨_, _, id.vint hd.ex, ie.vint hd.ex, ?_, q.int hd⟩
      rcases Bool.or_eq_true_iff.mp hs with k | k
      · exact .inl (small_iff k)
      · exact .inr (small_iff k)
    · split at hg
      · rename_i hs
        cases hg
        obtain ⟨h1, h2⟩ := Bool.and_eq_true_iff.mp hs
        exact op_mulW pins s σ H x y v u Q I rx ry ⟨_, _, id.vint hd.ex, ie.vint hd.ex, wide_mul (of_decide_eq_true h1) (of_decide_eq_true h2) (by decide) (by decide) (by decide), q.int hd⟩
      · cases hg
  · split at hg
    · rename_i hs
      cases hg
      obtain ⟨hs, h3⟩ := Bool.and_eq_true_iff.mp hs
      obtain ⟨h1, h2⟩ := Bool.and_eq_true_iff.mp hs
      obtain ⟨a, vs, rfl, ha, ra⟩ := id.list hd.ex
      rw [ra.length] at h2
      exact op_rep pins s σ H _ _ v u Q I rx ry ⟨a, _, vs, rfl, ie.vint hd.ex, ha, of_decide_eq_true h1, of_decide_eq_true h3, cap_line (of_decide_eq_true h2), fun p hp => q.lst hd (reps_rep ra _) hp⟩
    · cases hg
  · split at hg
    · rename_i hs
      cases hg
      obtain ⟨hs, h4⟩ := Bool.and_eq_true_iff.mp hs
      obtain ⟨hs, h3⟩ := Bool.and_eq_true_iff.mp hs
      obtain ⟨h1, h2⟩ := Bool.and_eq_true_iff.mp hs
      obtain ⟨a, vs, rfl, fa, ha, ra⟩ := id.tuple hd.ex
      rw [ra.length] at h4
      refine op_repT pins s σ H _ _ v u Q I rx ry ⟨a, _, vs, rfl, ie.vint hd.ex, .inl (.inl ha), fun z => ?_, of_decide_eq_true h2, of_decide_eq_true h3, of_decide_eq_true h4, fun p hp => q.tup hd (reps_rep ra _) hp⟩
      subst z
      cases ra
      cases h1
    · cases hg
def oprOf : Bop → Operator
  | .add => .Add | .sub => .Sub | .mul => .Mult | .mod => .Mod | .fdiv => .FloorDiv | .pow => .Pow | .band => .BitAnd | .bor => .BitOr | .bxor => .BitXor | .shl => .LShift | .shr => .RShift
theorem op_D : ∀ o : Bop, OpR X (binaryOp (oprOf o)) (rO w (binop o))
  | .add => op_addD
  | .sub => op_subD
  | .mul => op_mulD
  | .mod => op_modD
  | .fdiv => op_fdivD
  | .pow => op_powD
  | .band => op_bandD
  | .bor => op_borD
  | .bxor => op_bxorD
  | .shl => op_shlD
  | .shr => op_shrD
end
end PD
namespace PD
open PySem PySem.Spec PyProof.Rows L2

def rC (w : Wd) (g : D → D → Option Bool) : R2 := fun x y H Q => ∃ F d e b, Hd w F H ∧ It1 w F H d x ∧ It1 w F H e y ∧ g d e = some b ∧ Q (.bl b) H
section
variable {X : Cx} {w : Wd}
theorem plain_of (h : eqable d = true) : d.plain = true ∧ d.depth ≤ 60 := by
  have h' := Bool.and_eq_true_iff.mp h
  exact ⟨h'.1, of_decide_eq_true h'.2⟩
theorem It1.reads {pins : List (Addr × Obj)} {σ : L2.St} {F H : Hp} {s : Shared} {d : D} {v : V} {u : Value} (I : Inv X pins σ H s) (e : Ex F H) (h : It1 w F H d v) (r : RelV v u) (p : d.plain = true) : ∃ as, Reads s.heap u d as :=
  Dp.reads I d v u ((h.rep e).dp p) r
theorem cmp_eqD (hu : X.A.units + 200 < cLine) : OpR X (compareOp .Eq) (rC w (cmpop .eq)) := by
  intro pins s σ H x y v u Q I rx ry h
  obtain ⟨F, d, e, b, hd, id, ie, hg, q⟩ := h
  have hg : (if eqable d && eqable e then some (PyData.eqv d e) else none) = some b := hg
  split at hg
  · rename_i hs
    cases hg
    obtain ⟨h1, h2⟩ := Bool.and_eq_true_iff.mp hs
    obtain ⟨as, r1⟩ := id.reads I hd.ex rx (plain_of h1).1
    obtain ⟨bs, r2⟩ := ie.reads I hd.ex ry (plain_of h2).1
    have := (plain_of h1).2
    exact SeqAt.eq_plain r1 r2 (plain_of h1).1 (plain_of h2).1 (by omega) ⟨.bl _, H, I, rfl, q⟩
  · cases hg
theorem cmp_neD (hu : X.A.units + 200 < cLine) : OpR X (compareOp .NotEq) (rC w (cmpop .ne)) := by
  intro pins s σ H x y v u Q I rx ry h
  obtain ⟨F, d, e, b, hd, id, ie, hg, q⟩ := h
  have hg : (if eqable d && eqable e then some (!PyData.eqv d e) else none) = some b := hg
  split at hg
  · rename_i hs
    cases hg
    obtain ⟨h1, h2⟩ := Bool.and_eq_true_iff.mp hs
    obtain ⟨as, r1⟩ := id.reads I hd.ex rx (plain_of h1).1
    obtain ⟨bs, r2⟩ := ie.reads I hd.ex ry (plain_of h2).1
    have := (plain_of h1).2
    exact SeqAt.ne_plain r1 r2 (plain_of h1).1 (plain_of h2).1 (by omega) ⟨.bl _, H, I, rfl, q⟩
  · cases hg
theorem cmp_ltD (hu : X.A.units + 200 < cLine) : OpR X (compareOp .Lt) (rC w (cmpop .lt)) := by
  intro pins s σ H x y v u Q I rx ry h
  obtain ⟨F, d, e, b, hd, id, ie, hg, q⟩ := h
  have hg : ltD d e = some b := hg
  unfold ltD at hg
  split at hg
  · cases hg
    exact op_lt pins s σ H x y v u Q I rx ry ⟨_, _, id.vint hd.ex, ie.vint hd.ex, q⟩
  · cases hg
    exact op_lt_str pins s σ H x y v u Q I rx ry ⟨_, _, id.vstr hd.ex, ie.vstr hd.ex, q⟩
  · split at hg
    · rename_i hs
      cases hg
      obtain ⟨hs, h4⟩ := Bool.and_eq_true_iff.mp hs
      obtain ⟨hs, h3⟩ := Bool.and_eq_true_iff.mp hs
      obtain ⟨h1, h2⟩ := Bool.and_eq_true_iff.mp hs
      obtain ⟨as, r1⟩ := id.reads I hd.ex rx h3
      obtain ⟨bs, r2⟩ := ie.reads I hd.ex ry h4
      have := of_decide_eq_true h2
      exact PySem.W.lt_data r1 r2 h1 (fun z => nomatch z) (by omega) ⟨.bl _, H, I, rfl, q⟩
    · cases hg
  · cases hg
theorem cmp_gtD : OpR X (compareOp .Gt) (rC w (cmpop .gt)) := by
  intro pins s σ H x y v u Q I rx ry h
  obtain ⟨F, d, e, b, hd, id, ie, hg, q⟩ := h
  unfold cmpop at hg
  split at hg <;> first | contradiction | skip
  cases hg
  exact op_gt pins s σ H x y v u Q I rx ry ⟨_, _, id.vint hd.ex, ie.vint hd.ex, q⟩
theorem cmp_leD : OpR X (compareOp .LtE) (rC w (cmpop .le)) := by
  intro pins s σ H x y v u Q I rx ry h
  obtain ⟨F, d, e, b, hd, id, ie, hg, q⟩ := h
  unfold cmpop at hg
  split at hg <;> first | contradiction | skip
  cases hg
  exact op_le pins s σ H x y v u Q I rx ry ⟨_, _, id.vint hd.ex, ie.vint hd.ex, q⟩
theorem cmp_geD : OpR X (compareOp .GtE) (rC w (cmpop .ge)) := by
  intro pins s σ H x y v u Q I rx ry h
  obtain ⟨F, d, e, b, hd, id, ie, hg, q⟩ := h
  unfold cmpop at hg
  split at hg <;> first | contradiction | skip
  cases hg
  exact op_ge pins s σ H x y v u Q I rx ry ⟨_, _, id.vint hd.ex, ie.vint hd.ex, q⟩
/-- a value that is None, or none that is -/
theorem rep_non {tk : Int → Option V} {H : Hp} {d : D} {v : V} (h : Rep tk H d v) (nt : ∀ k, tk k ≠ some .non) : decide (v = .non) = isNoneB d := by
  cases h with
  | none => rfl
  | obj h =>
    refine decide_eq_false fun z => ?_
    subst z
    exact nt _ h
  | _ => exact decide_eq_false fun z => nomatch z
theorem cmp_isD (nt : ∀ k, w.tk k ≠ some .non) : OpR X (compareOp .Is) (rC w (cmpop .is)) := by
  intro pins s σ H x y v u Q I rx ry h
  obtain ⟨F, d, e, b, hd, id, ie, hg, q⟩ := h
  unfold cmpop at hg
  split at hg <;> first | contradiction | skip
  cases hg
  refine op_isN pins s σ H x y v u Q I rx ry ⟨ie.vnon hd.ex, ?_⟩
  rw [rep_non (id.rep hd.ex) nt]
  exact q
theorem cmp_isnD (nt : ∀ k, w.tk k ≠ some .non) : OpR X (compareOp .IsNot) (rC w (cmpop .isn)) := by
  intro pins s σ H x y v u Q I rx ry h
  obtain ⟨F, d, e, b, hd, id, ie, hg, q⟩ := h
  unfold cmpop at hg
  split at hg <;> first | contradiction | skip
  cases hg
  refine op_notN pins s σ H x y v u Q I rx ry ⟨ie.vnon hd.ex, ?_⟩
  rw [rep_non (id.rep hd.ex) nt]
  exact q

theorem kV_of {tk : Int → Option V} {H : Hp} {d : D} {v : V} {k : Key} (h : Rep tk H d v) (hk : keyK d = some k) : v = kV k := by
  cases h <;> simp [keyK] at hk <;> subst hk <;> rfl
theorem kVs_of {tk : Int → Option V} {H : Hp} : ∀ {ds : List D} {vs : List V} {ks : List Key}, Reps tk H ds vs → keyKs ds = some ks → vs = ks.map kV
  | [], _, _, .nil, h => by
    cases h
    rfl
  | d :: ds, _, ks, .cons h r, hk => by
    unfold keyKs at hk
    split at hk
    · rename_i k ks' e1 e2
      cases hk
      rw [List.map_cons, ← kV_of h e1, ← kVs_of r e2]
    · cases hk
theorem eqvK {a b : D} {p q : Key} (ha : keyK a = some p) (hb : keyK b = some q) : PyData.eqv a b = decide (p = q) := by
  cases a <;> simp [keyK] at ha <;> subst ha <;> cases b <;> simp [keyK] at hb <;> subst hb <;> unfold PyData.eqv <;> simp [PySem.W.beq_decide]
theorem eqvKs : ∀ {as bs : List D} {ps qs : List Key}, keyKs as = some ps → keyKs bs = some qs → PyData.eqvAll as bs = decide (ps = qs)
  | [], [], _, _, ha, hb => by
    cases ha
    cases hb
    unfold PyData.eqvAll
    rfl
  | [], b :: bs, _, _, ha, hb => by
    cases ha
    unfold keyKs at hb
    split at hb <;> cases hb
    unfold PyData.eqvAll
    simp
  | a :: as, [], _, _, ha, hb => by
    cases hb
    unfold keyKs at ha
    split at ha <;> cases ha
    unfold PyData.eqvAll
    simp
  | a :: as, b :: bs, _, _, ha, hb => by
    unfold keyKs at ha hb
    split at ha <;> cases ha
    split at hb <;> cases hb
    rename_i _ _ _ _ e1 e2 _ _ _ _ e3 e4
    unfold PyData.eqvAll
    rw [eqvK e1 e3, eqvKs e2 e4]
    simp
theorem eqvT {a b : D} {p q : List Key} (ha : keyT a = some p) (hb : keyT b = some q) : PyData.eqv a b = decide (p = q) := by
  cases a <;> simp [keyT] at ha
  cases b <;> simp [keyT] at hb
  unfold PyData.eqv
  exact eqvKs ha hb
/-- a dict's look by data is the look by keys -/
theorem findK {tk : Int → Option V} {H : Hp} {k : D} {q : Key} (hk : keyK k = some q) : ∀ {kvs : List (D × D)} {ps : List (Key × V)}, RepK tk H kvs ps → (find? kvs k = none ∧ valV ps q = none) ∨ ∃ d v, find? kvs k = some d ∧ valV ps q = some v ∧ Rep tk H d v
  | _, _, .nil => .inl ⟨rfl, rfl⟩
  | (kd, d) :: kvs, (p, v) :: ps, .cons h1 h2 h3 => by
    unfold find? valV
    rw [List.find?_cons, List.find?_cons]
    have e : PyData.eqv kd k = decide (p = q) := eqvK h1 hk
    show (_ ∧ _) ∨ _
    simp only [e]
    cases decide (p = q) with
    | true => exact .inr ⟨d, v, rfl, rfl, h2⟩
    | false => exact findK hk h3
theorem findT {tk : Int → Option V} {H : Hp} {k : D} {q : List Key} (hk : keyT k = some q) : ∀ {kvs : List (D × D)} {ps : List (List Key × V)}, RepT tk H kvs ps → (find? kvs k = none ∧ valV ps q = none) ∨ ∃ d v, find? kvs k = some d ∧ valV ps q = some v ∧ Rep tk H d v
  | _, _, .nil => .inl ⟨rfl, rfl⟩
  | (kd, d) :: kvs, (p, v) :: ps, .cons h1 h2 h3 => by
    unfold find? valV
    rw [List.find?_cons, List.find?_cons]
    have e : PyData.eqv kd k = decide (p = q) := eqvT h1 hk
    show (_ ∧ _) ∨ _
    simp only [e]
    cases decide (p = q) with
    | true => exact .inr ⟨d, v, rfl, rfl, h2⟩
    | false => exact findT hk h3
theorem keyed_find (kvs : List (D × D)) (k : D) : keyed kvs k = (find? kvs k).isSome := by
  unfold keyed find?
  induction kvs with
  | nil => rfl
  | cons x r ih =>
    rw [List.any_cons, List.find?_cons]
    cases PyData.eqv x.1 k with
    | true => rfl
    | false => exact ih
end
end PD
namespace PD
open PySem PySem.Spec PyProof.Rows L2

section
variable {X : Cx} {w : Wd} {pins : List (Addr × Obj)} {σ : L2.St} {F H : Hp} {s : Shared}
/-- the empty dict is a dict of either kind of keys -/
theorem swK {a : Addr} (I : L2.Inv X pins σ H s) (h : H a = some (.dT [])) : L2.Inv X pins σ (upd H a (.dK [])) s := by
  obtain ⟨_, y, xs, r, o, es, ep, ho, hx, hd, he, hn⟩ := I.hok _ _ h
  cases r
  have e0 : es = #[] := by
    apply Array.ext'
    rw [he]
    rfl
  subst e0
  exact I.write (t' := s.toks) (h' := s.heap) (o := .dK []) (by rw [h]; trivial) (.inl rfl) (fun _ _ _ q => q) ⟨o, ho⟩
    ⟨Nat.zero_le _, y, [], .nil, o, #[], ep, ho, hx, hd, fun e m => absurd m (by simp), .nil, List.nodup_nil⟩
theorem swT {a : Addr} (I : L2.Inv X pins σ H s) (h : H a = some (.dK [])) : L2.Inv X pins σ (upd H a (.dT [])) s := by
  obtain ⟨_, y, xs, r, o, es, ep, ho, hx, hd, _, he, hn⟩ := I.hok _ _ h
  cases r
  have e0 : es = #[] := by
    apply Array.ext'
    generalize es.toList = l at he
    cases he
    rfl
  subst e0
  exact I.write (t' := s.toks) (h' := s.heap) (o := .dT []) (by rw [h]; trivial) (.inl rfl) (fun _ _ _ q => q) ⟨o, ho⟩
    ⟨Nat.zero_le _, y, [], .nil, o, #[], ep, ho, hx, hd, rfl, List.nodup_nil⟩
theorem upd_back {a : Addr} {o u : HO} (h : H a = some o) : upd (upd H a u) a o = H := by
  rw [upd_upd]
  funext b
  by_cases e : b = a
  · subst e
    rw [upd_same, h]
  · rw [upd_ne e]
/-- what a look into a dict wants; the look's result -/
theorem dlook {a : Addr} {kvs : List (D × D)} {k : D} {y : V} {u : Value} (I : L2.Inv X pins σ H s) (hd : Hd w F H) (hk : DictAt w.tk F H kvs a) (ik : It1 w F H k y) (ry : RelV y u) (ft : fits kvs k = true) :
    ∃ H1 o, L2.Inv X pins σ H1 s ∧ DGet H1 a y o ∧ (∀ s', L2.Inv X pins σ H1 s' → L2.Inv X pins σ H s') ∧ ((find? kvs k = none ∧ o = none) ∨ ∃ d v, find? kvs k = some d ∧ o = some v ∧ Rep w.tk F d v) := by
  rcases hk with ⟨ps, ⟨h1, n⟩, r⟩ | ⟨ps, h1, r⟩
  · cases r with
    | nil => exact absurd rfl n
    | cons c1 c2 c3 =>
      rename_i kd d' k' v' kvs' ps'
      have : (keyK k).isSome = true := by
        unfold fits at ft
        have nk : (keyT kd).isSome = false := by
          cases kd <;> simp [keyK] at c1 <;> rfl
        simp [nk] at ft
        simp [ft]
      obtain ⟨q, hq⟩ := Option.isSome_iff_exists.mp this
      obtain rfl : y = kV q := kV_of (ik.rep hd.ex) hq
      exact ⟨H, _, I, .k h1, fun _ z => z, findK hq (.cons c1 c2 c3)⟩
  · cases r with
    | nil =>
      have z : (keyK k).isSome = true ∨ (keyT k).isSome = true := by
        have ft : ((keyK k).isSome || (keyT k).isSome) = true := ft
        exact Bool.or_eq_true_iff.mp ft
      rcases z with z | z
      · obtain ⟨q, hq⟩ := Option.isSome_iff_exists.mp z
        obtain rfl : y = kV q := kV_of (ik.rep hd.ex) hq
        refine ⟨upd H a (.dK []), none, swK I h1, .k upd_same, fun s' J => ?_, .inl ⟨rfl, rfl⟩⟩
        have := swT J upd_same
        rw [upd_back h1] at this
        exact this
      · obtain ⟨q, hq⟩ := Option.isSome_iff_exists.mp z
        cases k <;> simp [keyT] at hq
        obtain ⟨b, vs, rfl, fb, hb, rb⟩ := ik.tuple hd.ex
        rw [kVs_of rb hq] at hb
        exact ⟨H, none, I, .t h1 hb, fun _ z => z, .inl ⟨rfl, rfl⟩⟩
    | cons c1 c2 c3 =>
      rename_i kd d' k' v' kvs' ps'
      have : (keyT k).isSome = true := by
        unfold fits at ft
        have nk : (keyK kd).isSome = false := by
          cases kd <;> simp [keyT] at c1 <;> rfl
        simp [nk] at ft
        simp [ft]
      obtain ⟨q, hq⟩ := Option.isSome_iff_exists.mp this
      cases k <;> simp [keyT] at hq
      obtain ⟨b, vs, rfl, fb, hb, rb⟩ := ik.tuple hd.ex
      rw [kVs_of rb hq] at hb
      exact ⟨H, _, I, .t h1 hb, fun _ z => z, findT (k := .tuple _) hq (.cons c1 c2 c3)⟩
theorem tok_not {kvs : List (D × D)} {k : D} (ft : fits kvs k = true) (j : Int) : kvs ≠ [(.list [], .int j)] := by
  rintro rfl
  cases ft

theorem inD_dict {x : D} {kvs : List (D × D)} {b : Bool} (h : inD x (.dict kvs) = some b) : fits kvs x = true ∧ b = keyed kvs x := by
  unfold inD at h
  split at h <;> rename_i e <;> first | cases h | (cases e)
  · split at h
    · rename_i hf
      cases h
      exact ⟨hf, rfl⟩
    · cases h
theorem cmp_innD (hu : X.A.units + 200 < cLine) : OpR X (compareOp .In) (rC w (cmpop .inn)) := by
  intro pins s σ H x y v u Q I rx ry h
  obtain ⟨F, d, e, b, hd, id, ie, hg, q⟩ := h
  have hg : inD d e = some b := hg
  cases e with
  | list xs =>
    have hg : (if eqable d && eqable (.list xs) then some (xs.any fun y => PyData.eqv y d) else none) = some b := hg
    split at hg
    · rename_i hs
      cases hg
      obtain ⟨h1, h2⟩ := Bool.and_eq_true_iff.mp hs
      obtain ⟨as, r1⟩ := id.reads I hd.ex rx (plain_of h1).1
      obtain ⟨bs, r2⟩ := ie.reads I hd.ex ry (plain_of h2).1
      have g1 := (plain_of h1).2
      have g2 := Nat.min_le_right (PyData.depthAll xs) d.depth
      exact SeqAt.in_list_data r2 r1 (plain_of h2).1 (plain_of h1).1 (by omega) ⟨.bl _, H, I, rfl, q⟩
    · cases hg
  | tuple xs =>
    have hg : (if eqable d && eqable (.tuple xs) then some (xs.any fun y => PyData.eqv y d) else none) = some b := hg
    split at hg
    · rename_i hs
      cases hg
      obtain ⟨h1, h2⟩ := Bool.and_eq_true_iff.mp hs
      obtain ⟨as, r1⟩ := id.reads I hd.ex rx (plain_of h1).1
      obtain ⟨bs, r2⟩ := ie.reads I hd.ex ry (plain_of h2).1
      have g1 := (plain_of h1).2
      have g2 := Nat.min_le_right (PyData.depthAll xs) d.depth
      exact SeqAt.in_tuple_data r2 r1 (plain_of h2).1 (plain_of h1).1 (by omega) ⟨.bl _, H, I, rfl, q⟩
    · cases hg
  | dict kvs =>
    obtain ⟨ft, rfl⟩ := inD_dict hg
    obtain ⟨a, rfl, da⟩ := ie.dict hd.ex (tok_not ft)
    obtain ⟨H1, o, I1, g, back, fo⟩ := dlook I hd da id rx ft
    cases ry
    refine d_in (by omega) I1 g rx fun s' J => ⟨.bl _, H, back _ J, rfl, ?_⟩
    rw [keyed_find] at q
    rcases fo with ⟨e1, e2⟩ | ⟨d', v', e1, e2, _⟩ <;> (rw [e1] at q; rw [e2]; exact q)
  | _ => cases d <;> cases hg
theorem cmp_ninD (hu : X.A.units + 200 < cLine) : OpR X (compareOp .NotIn) (rC w (cmpop .nin)) := by
  intro pins s σ H x y v u Q I rx ry h
  obtain ⟨F, d, e, b, hd, id, ie, hg, q⟩ := h
  have hg0 : (inD d e).map (!·) = some b := hg
  clear hg
  obtain ⟨b, hg, rfl⟩ := Option.map_eq_some_iff.mp hg0
  clear hg0
  cases e with
  | list xs =>
    have hg : (if eqable d && eqable (.list xs) then some (xs.any fun y => PyData.eqv y d) else none) = some b := hg
    split at hg
    · rename_i hs
      cases hg
      obtain ⟨h1, h2⟩ := Bool.and_eq_true_iff.mp hs
      obtain ⟨as, r1⟩ := id.reads I hd.ex rx (plain_of h1).1
      obtain ⟨bs, r2⟩ := ie.reads I hd.ex ry (plain_of h2).1
      have g1 := (plain_of h1).2
      have g2 := Nat.min_le_right (PyData.depthAll xs) d.depth
      exact SeqAt.notIn_list_data r2 r1 (plain_of h2).1 (plain_of h1).1 (by omega) ⟨.bl _, H, I, rfl, q⟩
    · cases hg
  | tuple xs =>
    have hg : (if eqable d && eqable (.tuple xs) then some (xs.any fun y => PyData.eqv y d) else none) = some b := hg
    split at hg
    · rename_i hs
      cases hg
      obtain ⟨h1, h2⟩ := Bool.and_eq_true_iff.mp hs
      obtain ⟨as, r1⟩ := id.reads I hd.ex rx (plain_of h1).1
      obtain ⟨bs, r2⟩ := ie.reads I hd.ex ry (plain_of h2).1
      have g1 := (plain_of h1).2
      have g2 := Nat.min_le_right (PyData.depthAll xs) d.depth
      exact SeqAt.notIn_tuple_data r2 r1 (plain_of h2).1 (plain_of h1).1 (by omega) ⟨.bl _, H, I, rfl, q⟩
    · cases hg
  | dict kvs =>
    obtain ⟨ft, rfl⟩ := inD_dict hg
    obtain ⟨a, rfl, da⟩ := ie.dict hd.ex (tok_not ft)
    obtain ⟨H1, o, I1, g, back, fo⟩ := dlook I hd da id rx ft
    cases ry
    refine d_notIn (by omega) I1 g rx fun s' J => ⟨.bl _, H, back _ J, rfl, ?_⟩
    rw [keyed_find] at q
    rcases fo with ⟨e1, e2⟩ | ⟨d', v', e1, e2, _⟩ <;> (rw [e1] at q; rw [e2]; exact q)
  | _ => cases d <;> cases hg
def coprOf : Cop → CmpOp
  | .eq => .Eq | .ne => .NotEq | .lt => .Lt | .le => .LtE | .gt => .Gt | .ge => .GtE | .is => .Is | .isn => .IsNot | .inn => .In | .nin => .NotIn
theorem cmp_D (hu : X.A.units + 200 < cLine) (nt : ∀ k, w.tk k ≠ some .non) : ∀ o : Cop, OpR X (compareOp (coprOf o)) (rC w (cmpop o))
  | .eq => cmp_eqD hu
  | .ne => cmp_neD hu
  | .lt => cmp_ltD hu
  | .le => cmp_leD
  | .gt => cmp_gtD
  | .ge => cmp_geD
  | .is => cmp_isD nt
  | .isn => cmp_isnD nt
  | .inn => cmp_innD hu
  | .nin => cmp_ninD hu
end
end PD
namespace PD
open PySem PySem.Spec PyProof.Rows L2

section
variable {X : Cx} {w : Wd}
theorem reps_at {tk : Int → Option V} {F : Hp} {ds : List D} {vs : List V} (r : Reps tk F ds vs) {i : Int} {z : D} (h : atI ds i = some z) : ∃ v, atI vs i = some v ∧ Rep tk F z v := by
  unfold atI at h ⊢
  rw [← r.length]
  cases e : ixN ds.length i with
  | none =>
    rw [e] at h
    cases h
  | some j =>
    rw [e] at h
    exact r.get h
/-- what is wanted of a part of what stands -/
def rI (w : Wd) (g : D → D → Option D) : R2 := fun x y H Q => ∃ F d e z, Hd w F H ∧ It1 w F H d x ∧ It1 w F H e y ∧ g d e = some z ∧ ∀ v, Rep w.tk F z v → Q v H
theorem ix_D (hu : X.A.units + 200 < cLine) : IxR X (rI w ixD) := by
  intro value slice pins s σ H x y v u Q I rx ry h hs
  obtain ⟨F, d, e, z, hd, id, ie, hg, q⟩ := h
  unfold ixD at hg
  split at hg
  · obtain ⟨a, vs, rfl, ha, ra⟩ := id.list hd.ex
    obtain ⟨t, e1, e2⟩ := reps_at ra hg
    exact ix_list value slice pins s σ H _ y v u Q I rx ry ⟨a, vs, _, t, rfl, ie.vint hd.ex, .inl (.inl ha), e1, q t e2⟩ hs
  · obtain ⟨a, vs, rfl, fa, ha, ra⟩ := id.tuple hd.ex
    obtain ⟨t, e1, e2⟩ := reps_at ra hg
    exact ix_tup value slice pins s σ H _ y v u Q I rx ry ⟨a, vs, _, t, rfl, ie.vint hd.ex, .inl (.inl ha), e1, q t e2⟩ hs
  · cases hg
  · split at hg
    · rename_i ft
      obtain ⟨a, rfl, da⟩ := id.dict hd.ex (tok_not ft)
      obtain ⟨H1, o, I1, g, back, fo⟩ := dlook I hd da ie ry ft
      rcases fo with ⟨e1, e2⟩ | ⟨d', v', e1, e2, r⟩
      · rw [e1] at hg
        cases hg
      rw [e1] at hg
      cases hg
      subst e2
      cases rx
      have hT := dict_typeIs I1 g
      have fin : wpAny (model X.prog X.w) X.A (subscripted slice false (.ref a) u) (fun r s₃ => wpAny (model X.prog X.w) X.A (letTemporaryGo value (.ref a) r >>= fun _ => pure r) (EP X pins σ Q) X.xe s₃) X.xe s := by
        rw [hs]
        exact wpAny_operating (wpAny_mono (d_getItem (Q := EP X pins σ Q) (E := X.xe) (by omega) I1 g ry fun w' s3 J rw' => ⟨v', H, back _ J, rw', q v' r⟩) (fun r' s₃ h₃ => wpAny_bind (wpAny_letTemporaryGo (wpAny_pure h₃))) fun _ _ z => z)
      unfold subscriptTail
      refine wpAny_bind ?_
      rw [getitemInPython_of_ne hT.not_modules]
      refine wpAny_bind (wpAny_specialOf hT PySem.F.slot_dict_getitem.lookup ?_)
      first
        | exact wpAny_pure (wpAny_bind fin)
        | exact fin
    · cases hg
  · cases hg

theorem cut_reps {tk : Int → Option V} {F : Hp} {ds : List D} {vs : List V} (r : Reps tk F ds vs) (lo hi : Option Int) : Reps tk F (cutD ds lo hi) (cutV vs lo hi) := by
  unfold cutD cutV
  rw [r.length]
  exact (r.drop _).take _
theorem cutD_all (ds : List D) (lo hi : Option Int) (h : HT.sIx ds.length 0 lo = 0 ∧ HT.sIx ds.length ds.length hi = ds.length) : cutD ds lo hi = ds := by
  unfold cutD
  rw [h.1, h.2]
  simp
def rS (w : Wd) : V → Option Int → Option Int → Hp → VK → Prop := fun x lo hi H Q => ∃ F d z, Hd w F H ∧ It1 w F H d x ∧ sliceD d lo hi = some z ∧ Done w F H z Q
theorem sl_D : SlR X (rS w) := by
  intro pins s σ H x v vl vu lo hi sl Q I rx hs pl pu h
  obtain ⟨F, d, z, hd, id, hg, q⟩ := h
  unfold sliceD at hg
  split at hg
  · cases hg
    obtain ⟨a, vs, rfl, ha, ra⟩ := id.list hd.ex
    exact sl_list pins s σ H _ v vl vu lo hi sl Q I rx hs pl pu ⟨a, vs, rfl, .inl (.inl ha), fun p hp => q.lst hd (cut_reps ra lo hi) hp⟩
  · cases hg
    obtain ⟨a, vs, rfl, fa, ha, ra⟩ := id.tuple hd.ex
    refine sl_tupA pins s σ H _ v vl vu lo hi sl Q I rx hs pl pu ⟨a, vs, rfl, .inl (.inl ha), fun z => ?_, fun _ p hp => q.tup hd (cut_reps ra lo hi) hp⟩
    rw [← ra.length] at z
    rw [cutD_all _ lo hi z] at q
    exact q.same hd fa ra
  · cases hg
theorem tru_D {F H : Hp} {d : D} {x : V} {b : Bool} {K : PySem.W.Frag} (hd : Hd w F H) (id : It1 w F H d x) (h : truD d = some b) : TruV K x H b := by
  unfold truD at h
  split at h
  · cases h
    rw [id.vnon hd.ex]
    rfl
  · cases h
    rw [id.vbl hd.ex]
    rfl
  · cases h
    rw [id.vint hd.ex]
    rfl
  · split at h
    · rename_i hz
      cases h
      rw [id.vstr hd.ex]
      exact ⟨cap_line hz, rfl⟩
    · cases h
  · cases h
    obtain ⟨a, vs, rfl, ha, ra⟩ := id.list hd.ex
    refine .inl ⟨vs, .inl (.inl ha), ?_⟩
    cases ra <;> rfl
  · cases h
    obtain ⟨a, vs, rfl, fa, ha, ra⟩ := id.tuple hd.ex
    refine .inr (.inl ⟨vs, .inl (.inl ha), ?_⟩)
    cases ra <;> rfl
  · cases h

theorem RepK.length {tk : Int → Option V} {H : Hp} : ∀ {ds : List (D × D)} {ps : List (Key × V)}, RepK tk H ds ps → ds.length = ps.length
  | _, _, .nil => rfl
  | _, _, .cons _ _ r => by rw [List.length_cons, List.length_cons, RepK.length r]
theorem RepT.length {tk : Int → Option V} {H : Hp} : ∀ {ds : List (D × D)} {ps : List (List Key × V)}, RepT tk H ds ps → ds.length = ps.length
  | _, _, .nil => rfl
  | _, _, .cons _ _ r => by rw [List.length_cons, List.length_cons, RepT.length r]
def It1s (w : Wd) (F H : Hp) : List D → List V → Prop
  | [], [] => True
  | d :: ds, v :: vs => It1 w F H d v ∧ It1s w F H ds vs
  | _, _ => False
def rB (w : Wd) (g : List D → Option D) : List V → Hp → VK → Prop := fun vs H Q => ∃ F ds z, Hd w F H ∧ It1s w F H ds vs ∧ g ds = some z ∧ Done w F H z Q
theorem its1 {F H : Hp} {d : D} {vs : List V} (h : It1s w F H [d] vs) : ∃ v, vs = [v] ∧ It1 w F H d v := by
  match vs, h with
  | [v], h => exact ⟨v, rfl, h.1⟩
theorem its2 {F H : Hp} {d e : D} {vs : List V} (h : It1s w F H [d, e] vs) : ∃ v u, vs = [v, u] ∧ It1 w F H d v ∧ It1 w F H e u := by
  match vs, h with
  | [v, u], h => exact ⟨v, u, rfl, h.1, h.2.1⟩
theorem bi_len : CallR X (.builtin "len") (rB w (bi .len)) := by
  intro pins s σ H xs us Q I r h
  obtain ⟨F, ds, z, hd, id, hg, q⟩ := h
  unfold bi at hg
  split at hg <;> first | contradiction | skip
  · cases hg
    obtain ⟨v, rfl, i1⟩ := its1 id
    obtain ⟨a, vs, rfl, ha, ra⟩ := i1.list hd.ex
    exact call_len pins s σ H _ us Q I r ⟨_, _, rfl, .inl ⟨vs, .inl (.inl ha), ra.length⟩, q.int hd⟩
  · cases hg
    obtain ⟨v, rfl, i1⟩ := its1 id
    obtain ⟨a, vs, rfl, fa, ha, ra⟩ := i1.tuple hd.ex
    exact call_len pins s σ H _ us Q I r ⟨_, _, rfl, .inr ⟨vs, .inl (.inl ha), ra.length⟩, q.int hd⟩
  · split at hg
    · rename_i hz
      cases hg
      obtain ⟨v, rfl, i1⟩ := its1 id
      rw [i1.vstr hd.ex] at r
      exact call_len pins s σ H _ us Q I r ⟨_, _, rfl, ⟨cap_line hz, rfl⟩, q.int hd⟩
    · cases hg
  · rename_i kvs nt _
    cases hg
    obtain ⟨v, rfl, i1⟩ := its1 id
    obtain ⟨a, rfl, ⟨ps, h1, rr⟩ | ⟨ps, h1, rr⟩⟩ := i1.dict hd.ex fun k z => nt k z
    · rw [rr.length] at q
      exact call_lenD pins s σ H _ us Q I r ⟨a, ps, rfl, h1.1, q.int hd⟩
    · rw [rr.length] at q
      exact call_len_dT pins s σ H _ us Q I r ⟨a, ps, rfl, h1, q.int hd⟩
end
end PD
namespace PD
open PySem PySem.Spec PyProof.Rows L2

section
variable {X : Cx} {w : Wd}
/-- isinstance(x, T): x by data -/
def rIs (w : Wd) (T : String) (b : Bi) : List V → Hp → VK → Prop := fun vs H Q => ∃ F d z v, vs = [v, .ty T] ∧ Hd w F H ∧ It1 w F H d v ∧ bi b [d] = some z ∧ Done w F H z Q
theorem obj_list {pins : List (Addr × Obj)} {σ : L2.St} {H : Hp} {s : Shared} {a : Addr} {vs : List V} (I : L2.Inv X pins σ H s) (h : H a = some (.lst vs)) : ∃ o, s.heap.get? a = some o ∧ o.cls = .type "list" := by
  obtain ⟨_, its, n, _, e⟩ := I.hok _ _ h
  exact ⟨_, e, rfl⟩
theorem obj_tup {pins : List (Addr × Obj)} {σ : L2.St} {H : Hp} {s : Shared} {a : Addr} {vs : List V} (I : L2.Inv X pins σ H s) (h : H a = some (.tup vs)) : ∃ o, s.heap.get? a = some o ∧ o.cls = .type "tuple" := by
  obtain ⟨_, its, _, o, e, c, _⟩ := I.hok _ _ h
  exact ⟨o, e, c⟩
theorem obj_dict {pins : List (Addr × Obj)} {σ : L2.St} {F H : Hp} {s : Shared} {a : Addr} {kvs : List (D × D)} (I : L2.Inv X pins σ H s) (h : DictAt w.tk F H kvs a) : ∃ o, s.heap.get? a = some o ∧ o.cls = .type "dict" := by
  rcases h with ⟨ps, ⟨h, _⟩, _⟩ | ⟨ps, h, _⟩
  · obtain ⟨_, _, _, _, o, _, _, e, c, _⟩ := I.hok _ _ h
    exact ⟨o, e, c.1⟩
  · obtain ⟨_, _, _, _, o, _, _, e, c, _⟩ := I.hok _ _ h
    exact ⟨o, e, c.1⟩
theorem no_isInt {kvs : List (D × D)} {b : Bool} (h : isIntD (.dict kvs) = some b) : b = false ∧ ∀ k, kvs ≠ [(.list [], .int k)] := by
  refine ⟨?_, fun k z => ?_⟩
  · unfold isIntD at h
    split at h <;> rename_i e <;> first | (cases e; done) | (cases h; done) | (cases h; rfl)
  · subst z
    cases h
theorem isi_int : CallR X (.builtin "isinstance") (rIs w "int" .isInt) := by
  intro pins s σ H xs us Q I r h
  obtain ⟨F, d, z, v, rfl, hd, id, hg, q⟩ := h
  obtain ⟨u, t, rfl, ru, rt⟩ := vals2 r
  cases rt
  have I1 : L2.Inv X pins σ H { s with toks := s.toks + 1 } := I.tok _
  have hg : (isIntD d).map .bool = some z := hg
  cases id.rep hd.ex with
  | none =>
    cases ru
    cases hg
    exact IsiPair.NoneType_int ⟨.bl _, H, I1, rfl, q.bool hd⟩
  | bool b =>
    cases ru
    cases hg
    exact IsiPair.bool_int ⟨.bl _, H, I, rfl, q.bool hd⟩
  | int i =>
    obtain ⟨t, rfl⟩ := ru
    cases hg
    exact IsiPair.int_int ⟨.bl _, H, I, rfl, q.bool hd⟩
  | str x =>
    obtain ⟨t, rfl⟩ := ru
    cases hg
    exact IsiPair.str_int ⟨.bl _, H, I1, rfl, q.bool hd⟩
  | list h1 _ =>
    cases ru
    cases hg
    obtain ⟨o, ho, hc⟩ := obj_list I h1
    exact IsiPair.list_int ho hc ⟨.bl _, H, I1, rfl, q.bool hd⟩
  | tuple h1 _ =>
    cases ru
    cases hg
    obtain ⟨o, ho, hc⟩ := obj_tup I h1
    exact IsiPair.tuple_int ho hc ⟨.bl _, H, I1, rfl, q.bool hd⟩
  | obj _ => cases hg
  | dictK h1 n rr =>
    cases ru
    obtain ⟨b, hb, rfl⟩ := Option.map_eq_some_iff.mp hg
    obtain ⟨rfl, nt⟩ := no_isInt hb
    obtain ⟨a', e', da⟩ := id.dict hd.ex nt
    cases e'
    obtain ⟨o, ho, hc⟩ := obj_dict I da
    exact IsiPair.dict_int ho hc ⟨.bl _, H, I1, rfl, q.bool hd⟩
  | dictT h1 rr =>
    cases ru
    obtain ⟨b, hb, rfl⟩ := Option.map_eq_some_iff.mp hg
    obtain ⟨rfl, nt⟩ := no_isInt hb
    obtain ⟨a', e', da⟩ := id.dict hd.ex nt
    cases e'
    obtain ⟨o, ho, hc⟩ := obj_dict I da
    exact IsiPair.dict_int ho hc ⟨.bl _, H, I1, rfl, q.bool hd⟩
theorem no_isBool {kvs : List (D × D)} {b : Bool} (h : isBoolD (.dict kvs) = some b) : b = false ∧ ∀ k, kvs ≠ [(.list [], .int k)] := by
  refine ⟨?_, fun k z => ?_⟩
  · unfold isBoolD at h
    split at h <;> rename_i e <;> first | (cases e; done) | (cases h; done) | (cases h; rfl)
  · subst z
    cases h
theorem isi_bool : CallR X (.builtin "isinstance") (rIs w "bool" .isBool) := by
  intro pins s σ H xs us Q I r h
  obtain ⟨F, d, z, v, rfl, hd, id, hg, q⟩ := h
  obtain ⟨u, t, rfl, ru, rt⟩ := vals2 r
  cases rt
  have I1 : L2.Inv X pins σ H { s with toks := s.toks + 1 } := I.tok _
  have hg : (isBoolD d).map .bool = some z := hg
  cases id.rep hd.ex with
  | none =>
    cases ru
    cases hg
    exact IsiPair.NoneType_bool ⟨.bl _, H, I1, rfl, q.bool hd⟩
  | bool b =>
    cases ru
    cases hg
    exact IsiPair.bool_bool ⟨.bl _, H, I, rfl, q.bool hd⟩
  | int i =>
    obtain ⟨t, rfl⟩ := ru
    cases hg
    exact IsiPair.int_bool ⟨.bl _, H, I1, rfl, q.bool hd⟩
  | str x =>
    obtain ⟨t, rfl⟩ := ru
    cases hg
    exact IsiPair.str_bool ⟨.bl _, H, I1, rfl, q.bool hd⟩
  | list h1 _ =>
    cases ru
    cases hg
    obtain ⟨o, ho, hc⟩ := obj_list I h1
    exact IsiPair.list_bool ho hc ⟨.bl _, H, I1, rfl, q.bool hd⟩
  | tuple h1 _ =>
    cases ru
    cases hg
    obtain ⟨o, ho, hc⟩ := obj_tup I h1
    exact IsiPair.tuple_bool ho hc ⟨.bl _, H, I1, rfl, q.bool hd⟩
  | obj _ => cases hg
  | dictK h1 n rr =>
    cases ru
    obtain ⟨b, hb, rfl⟩ := Option.map_eq_some_iff.mp hg
    obtain ⟨rfl, nt⟩ := no_isBool hb
    obtain ⟨a', e', da⟩ := id.dict hd.ex nt
    cases e'
    obtain ⟨o, ho, hc⟩ := obj_dict I da
    exact IsiPair.dict_bool ho hc ⟨.bl _, H, I1, rfl, q.bool hd⟩
  | dictT h1 rr =>
    cases ru
    obtain ⟨b, hb, rfl⟩ := Option.map_eq_some_iff.mp hg
    obtain ⟨rfl, nt⟩ := no_isBool hb
    obtain ⟨a', e', da⟩ := id.dict hd.ex nt
    cases e'
    obtain ⟨o, ho, hc⟩ := obj_dict I da
    exact IsiPair.dict_bool ho hc ⟨.bl _, H, I1, rfl, q.bool hd⟩
theorem no_isTup {kvs : List (D × D)} {b : Bool} (h : isTupD (.dict kvs) = some b) : b = false ∧ ∀ k, kvs ≠ [(.list [], .int k)] := by
  refine ⟨?_, fun k z => ?_⟩
  · unfold isTupD at h
    split at h <;> rename_i e <;> first | (cases e; done) | (cases h; done) | (cases h; rfl)
  · subst z
    cases h
theorem isi_tuple : CallR X (.builtin "isinstance") (rIs w "tuple" .isTup) := by
  intro pins s σ H xs us Q I r h
  obtain ⟨F, d, z, v, rfl, hd, id, hg, q⟩ := h
  obtain ⟨u, t, rfl, ru, rt⟩ := vals2 r
  cases rt
  have I1 : L2.Inv X pins σ H { s with toks := s.toks + 1 } := I.tok _
  have hg : (isTupD d).map .bool = some z := hg
  cases id.rep hd.ex with
  | none =>
    cases ru
    cases hg
    exact IsiPair.NoneType_tuple ⟨.bl _, H, I1, rfl, q.bool hd⟩
  | bool b =>
    cases ru
    cases hg
    exact IsiPair.bool_tuple ⟨.bl _, H, I1, rfl, q.bool hd⟩
  | int i =>
    obtain ⟨t, rfl⟩ := ru
    cases hg
    exact IsiPair.int_tuple ⟨.bl _, H, I1, rfl, q.bool hd⟩
  | str x =>
    obtain ⟨t, rfl⟩ := ru
    cases hg
    exact IsiPair.str_tuple ⟨.bl _, H, I1, rfl, q.bool hd⟩
  | list h1 _ =>
    cases ru
    cases hg
    obtain ⟨o, ho, hc⟩ := obj_list I h1
    exact IsiPair.list_tuple ho hc ⟨.bl _, H, I1, rfl, q.bool hd⟩
  | tuple h1 _ =>
    cases ru
    cases hg
    obtain ⟨o, ho, hc⟩ := obj_tup I h1
    exact IsiPair.tuple_tuple ho hc ⟨.bl _, H, I, rfl, q.bool hd⟩
  | obj _ => cases hg
  | dictK h1 n rr =>
    cases ru
    obtain ⟨b, hb, rfl⟩ := Option.map_eq_some_iff.mp hg
    obtain ⟨rfl, nt⟩ := no_isTup hb
    obtain ⟨a', e', da⟩ := id.dict hd.ex nt
    cases e'
    obtain ⟨o, ho, hc⟩ := obj_dict I da
    exact IsiPair.dict_tuple ho hc ⟨.bl _, H, I1, rfl, q.bool hd⟩
  | dictT h1 rr =>
    cases ru
    obtain ⟨b, hb, rfl⟩ := Option.map_eq_some_iff.mp hg
    obtain ⟨rfl, nt⟩ := no_isTup hb
    obtain ⟨a', e', da⟩ := id.dict hd.ex nt
    cases e'
    obtain ⟨o, ho, hc⟩ := obj_dict I da
    exact IsiPair.dict_tuple ho hc ⟨.bl _, H, I1, rfl, q.bool hd⟩
theorem no_isStr {kvs : List (D × D)} {b : Bool} (h : isStrD (.dict kvs) = some b) : b = false ∧ ∀ k, kvs ≠ [(.list [], .int k)] := by
  refine ⟨?_, fun k z => ?_⟩
  · unfold isStrD at h
    split at h <;> rename_i e <;> first | (cases e; done) | (cases h; done) | (cases h; rfl)
  · subst z
    cases h
theorem isi_str : CallR X (.builtin "isinstance") (rIs w "str" .isStr) := by
  intro pins s σ H xs us Q I r h
  obtain ⟨F, d, z, v, rfl, hd, id, hg, q⟩ := h
  obtain ⟨u, t, rfl, ru, rt⟩ := vals2 r
  cases rt
  have I1 : L2.Inv X pins σ H { s with toks := s.toks + 1 } := I.tok _
  have hg : (isStrD d).map .bool = some z := hg
  cases id.rep hd.ex with
  | none =>
    cases ru
    cases hg
    exact IsiPair.NoneType_str ⟨.bl _, H, I1, rfl, q.bool hd⟩
  | bool b =>
    cases ru
    cases hg
    exact IsiPair.bool_str ⟨.bl _, H, I1, rfl, q.bool hd⟩
  | int i =>
    obtain ⟨t, rfl⟩ := ru
    cases hg
    exact IsiPair.int_str ⟨.bl _, H, I1, rfl, q.bool hd⟩
  | str x =>
    obtain ⟨t, rfl⟩ := ru
    cases hg
    exact IsiPair.str_str ⟨.bl _, H, I, rfl, q.bool hd⟩
  | list h1 _ =>
    cases ru
    cases hg
    obtain ⟨o, ho, hc⟩ := obj_list I h1
    exact IsiPair.list_str ho hc ⟨.bl _, H, I1, rfl, q.bool hd⟩
  | tuple h1 _ =>
    cases ru
    cases hg
    obtain ⟨o, ho, hc⟩ := obj_tup I h1
    exact IsiPair.tuple_str ho hc ⟨.bl _, H, I1, rfl, q.bool hd⟩
  | obj _ => cases hg
  | dictK h1 n rr =>
    cases ru
    obtain ⟨b, hb, rfl⟩ := Option.map_eq_some_iff.mp hg
    obtain ⟨rfl, nt⟩ := no_isStr hb
    obtain ⟨a', e', da⟩ := id.dict hd.ex nt
    cases e'
    obtain ⟨o, ho, hc⟩ := obj_dict I da
    exact IsiPair.dict_str ho hc ⟨.bl _, H, I1, rfl, q.bool hd⟩
  | dictT h1 rr =>
    cases ru
    obtain ⟨b, hb, rfl⟩ := Option.map_eq_some_iff.mp hg
    obtain ⟨rfl, nt⟩ := no_isStr hb
    obtain ⟨a', e', da⟩ := id.dict hd.ex nt
    cases e'
    obtain ⟨o, ho, hc⟩ := obj_dict I da
    exact IsiPair.dict_str ho hc ⟨.bl _, H, I1, rfl, q.bool hd⟩
theorem no_isList {kvs : List (D × D)} {b : Bool} (h : isListD (.dict kvs) = some b) : b = false ∧ ∀ k, kvs ≠ [(.list [], .int k)] := by
  refine ⟨?_, fun k z => ?_⟩
  · unfold isListD at h
    split at h <;> rename_i e <;> first | (cases e; done) | (cases h; done) | (cases h; rfl)
  · subst z
    cases h
theorem isi_list : CallR X (.builtin "isinstance") (rIs w "list" .isList) := by
  intro pins s σ H xs us Q I r h
  obtain ⟨F, d, z, v, rfl, hd, id, hg, q⟩ := h
  obtain ⟨u, t, rfl, ru, rt⟩ := vals2 r
  cases rt
  have I1 : L2.Inv X pins σ H { s with toks := s.toks + 1 } := I.tok _
  have hg : (isListD d).map .bool = some z := hg
  cases id.rep hd.ex with
  | none =>
    cases ru
    cases hg
    exact IsiPair.NoneType_list ⟨.bl _, H, I1, rfl, q.bool hd⟩
  | bool b =>
    cases ru
    cases hg
    exact IsiPair.bool_list ⟨.bl _, H, I1, rfl, q.bool hd⟩
  | int i =>
    obtain ⟨t, rfl⟩ := ru
    cases hg
    exact IsiPair.int_list ⟨.bl _, H, I1, rfl, q.bool hd⟩
  | str x =>
    obtain ⟨t, rfl⟩ := ru
    cases hg
    exact IsiPair.str_list ⟨.bl _, H, I1, rfl, q.bool hd⟩
  | list h1 _ =>
    cases ru
    cases hg
    obtain ⟨o, ho, hc⟩ := obj_list I h1
    exact IsiPair.list_list ho hc ⟨.bl _, H, I, rfl, q.bool hd⟩
  | tuple h1 _ =>
    cases ru
    cases hg
    obtain ⟨o, ho, hc⟩ := obj_tup I h1
    exact IsiPair.tuple_list ho hc ⟨.bl _, H, I1, rfl, q.bool hd⟩
  | obj _ => cases hg
  | dictK h1 n rr =>
    cases ru
    obtain ⟨b, hb, rfl⟩ := Option.map_eq_some_iff.mp hg
    obtain ⟨rfl, nt⟩ := no_isList hb
    obtain ⟨a', e', da⟩ := id.dict hd.ex nt
    cases e'
    obtain ⟨o, ho, hc⟩ := obj_dict I da
    exact IsiPair.dict_list ho hc ⟨.bl _, H, I1, rfl, q.bool hd⟩
  | dictT h1 rr =>
    cases ru
    obtain ⟨b, hb, rfl⟩ := Option.map_eq_some_iff.mp hg
    obtain ⟨rfl, nt⟩ := no_isList hb
    obtain ⟨a', e', da⟩ := id.dict hd.ex nt
    cases e'
    obtain ⟨o, ho, hc⟩ := obj_dict I da
    exact IsiPair.dict_list ho hc ⟨.bl _, H, I1, rfl, q.bool hd⟩
end
end PD
namespace PD
open PySem PySem.Spec PyProof.Rows L2

section
variable {X : Cx} {w : Wd}
theorem intsOf_eq : ∀ {ds : List D} {ns : List Int}, intsOf ds = some ns → ds = ns.map .int
  | [], _, h => by
    cases h
    rfl
  | .int i :: r, ns, h => by
    unfold intsOf at h
    obtain ⟨ms, h1, rfl⟩ := Option.map_eq_some_iff.mp h
    rw [intsOf_eq h1]
    rfl
  | .none :: _, _, h | .bool _ :: _, _, h | .str _ :: _, _, h | .list _ :: _, _, h | .tuple _ :: _, _, h | .dict _ :: _, _, h => by cases h
theorem boolsOf_eq : ∀ {ds : List D} {ns : List Bool}, boolsOf ds = some ns → ds = ns.map .bool
  | [], _, h => by
    cases h
    rfl
  | .bool i :: r, ns, h => by
    unfold boolsOf at h
    obtain ⟨ms, h1, rfl⟩ := Option.map_eq_some_iff.mp h
    rw [boolsOf_eq h1]
    rfl
  | .none :: _, _, h | .int _ :: _, _, h | .str _ :: _, _, h | .list _ :: _, _, h | .tuple _ :: _, _, h | .dict _ :: _, _, h => by cases h
theorem reps_ints {tk : Int → Option V} {F : Hp} : ∀ {ns : List Int} {vs : List V}, Reps tk F (ns.map PyData.int) vs → vs = ns.map V.int
  | [], _, .nil => rfl
  | n :: ns, _, .cons h r => by
    cases h
    rw [reps_ints r]
    rfl
theorem reps_bools {tk : Int → Option V} {F : Hp} : ∀ {ns : List Bool} {vs : List V}, Reps tk F (ns.map PyData.bool) vs → vs = ns.map V.bl
  | [], _, .nil => rfl
  | n :: ns, _, .cons h r => by
    cases h
    rw [reps_bools r]
    rfl
theorem preSum_ints : ∀ (xs : List (Int × Tok)), preSum (numAt xs.toArray) xs.length = (xs.map (·.1)).sum := by
  have aux : ∀ (f : Nat → Int) (n : Nat), preSum f n = ((List.range n).map f).sum := by
    intro f n
    induction n with
    | zero => rfl
    | succ n ih =>
      rw [List.range_succ, List.map_append, List.sum_append]
      show preSum f n + f n = _
      rw [ih]
      simp
  intro xs
  rw [aux]
  congr 1
  apply List.ext_getElem
  · simp
  · intro i h1 h2
    simp [numAt] at h1 h2 ⊢
    simp [h1]
theorem bi_sum (hc : X.calm = true) : CallR X (.builtin "sum") (rB w (bi .sum)) := by
  intro pins s σ H xs us Q I r h
  obtain ⟨F, ds, z, hd, id, hg, q⟩ := h
  unfold bi at hg
  split at hg <;> first | contradiction | skip
  · obtain ⟨ns, h1, rfl⟩ := Option.map_eq_some_iff.mp hg
    obtain rfl := intsOf_eq h1
    obtain ⟨v, rfl, i1⟩ := its1 id
    obtain ⟨a, vs, rfl, ha, ra⟩ := i1.list hd.ex
    rw [reps_ints ra] at ha
    exact cr_sum hc pins s σ H _ us Q I r ⟨a, ns, rfl, .inl (.inl ha), q.int hd⟩
  · obtain ⟨ns, h1, rfl⟩ := Option.map_eq_some_iff.mp hg
    obtain rfl := intsOf_eq h1
    obtain ⟨v, rfl, i1⟩ := its1 id
    obtain ⟨a, vs, rfl, fa, ha, ra⟩ := i1.tuple hd.ex
    rw [reps_ints ra] at ha
    obtain ⟨u, rfl, ru⟩ := vals1 r
    cases ru
    obtain ⟨its, rv, ht, hz⟩ := I.tuple (.inl (.inl ha))
    obtain ⟨ys, e⟩ := rv.ints.allInts.items
    have e2 : its.toArray = intItems ys := e
    rw [e2] at ht
    have hs : preSum (numAt ys) ys.size = ns.sum := by
      have := preSum_ints ys.toList
      rw [Array.toArray_toList, Array.length_toList] at this
      rw [this]
      have hn : numsOf (intItems ys).toList = ns := by
        rw [← e2]
        exact rv.ints.numsOf
      rw [nums_intItems] at hn
      rw [← hn]
    refine PySem.W.ktm_sumG (I.ok.hd hc) ht fun h' tk t' hk => ⟨.int ns.sum, H, I.kept hk, ⟨_, by rw [hs]⟩, q.int hd⟩
theorem bi_all (hc : X.calm = true) : CallR X (.builtin "all") (rB w (bi .all)) := by
  intro pins s σ H xs us Q I r h
  obtain ⟨F, ds, z, hd, id, hg, q⟩ := h
  unfold bi at hg
  split at hg <;> first | contradiction | skip
  obtain ⟨ns, h1, rfl⟩ := Option.map_eq_some_iff.mp hg
  obtain rfl := boolsOf_eq h1
  obtain ⟨v, rfl, i1⟩ := its1 id
  obtain ⟨a, vs, rfl, ha, ra⟩ := i1.list hd.ex
  rw [reps_bools ra] at ha
  exact cr_all hc pins s σ H _ us Q I r ⟨a, ns, rfl, .inl (.inl ha), q.bool hd⟩
theorem bi_any (hc : X.calm = true) : CallR X (.builtin "any") (rB w (bi .any)) := by
  intro pins s σ H xs us Q I r h
  obtain ⟨F, ds, z, hd, id, hg, q⟩ := h
  unfold bi at hg
  split at hg <;> first | contradiction | skip
  obtain ⟨ns, h1, rfl⟩ := Option.map_eq_some_iff.mp hg
  obtain rfl := boolsOf_eq h1
  obtain ⟨v, rfl, i1⟩ := its1 id
  obtain ⟨a, vs, rfl, ha, ra⟩ := i1.list hd.ex
  rw [reps_bools ra] at ha
  exact cr_any hc pins s σ H _ us Q I r ⟨a, ns, rfl, .inl (.inl ha), q.bool hd⟩
theorem bi_min2 (hc : X.calm = true) : CallR X (.builtin "min") (rB w (bi .min2)) := by
  intro pins s σ H xs us Q I r h
  obtain ⟨F, ds, z, hd, id, hg, q⟩ := h
  unfold bi at hg
  split at hg <;> first | contradiction | skip
  cases hg
  obtain ⟨v, u, rfl, i1, i2⟩ := its2 id
  rw [i1.vint hd.ex, i2.vint hd.ex] at r
  exact call_min2 hc pins s σ H _ us Q I r ⟨_, _, rfl, q.int hd⟩
theorem bi_max2 (hc : X.calm = true) : CallR X (.builtin "max") (rB w (bi .max2)) := by
  intro pins s σ H xs us Q I r h
  obtain ⟨F, ds, z, hd, id, hg, q⟩ := h
  unfold bi at hg
  split at hg <;> first | contradiction | skip
  cases hg
  obtain ⟨v, u, rfl, i1, i2⟩ := its2 id
  rw [i1.vint hd.ex, i2.vint hd.ex] at r
  exact call_max2 hc pins s σ H _ us Q I r ⟨_, _, rfl, q.int hd⟩
theorem bi_toInt : CallR X (.type "int") (rB w (bi .toInt)) := by
  intro pins s σ H xs us Q I r h
  obtain ⟨F, ds, z, hd, id, hg, q⟩ := h
  unfold bi at hg
  split at hg <;> first | contradiction | skip
  · cases hg
    obtain ⟨v, rfl, i1⟩ := its1 id
    rw [i1.vint hd.ex] at r
    exact call_int1 pins s σ H _ us Q I r (.inl ⟨_, rfl, q.int hd⟩)
  · cases hg
    obtain ⟨v, rfl, i1⟩ := its1 id
    rw [i1.vbl hd.ex] at r
    exact call_int1 pins s σ H _ us Q I r (.inr ⟨_, rfl, q.int hd⟩)
theorem bi_abs : CallR X (.builtin "abs") (rB w (bi .abs)) := by
  intro pins s σ H xs us Q I r h
  obtain ⟨F, ds, z, hd, id, hg, q⟩ := h
  unfold bi at hg
  split at hg <;> first | contradiction | skip
  cases hg
  obtain ⟨v, rfl, i1⟩ := its1 id
  rw [i1.vint hd.ex] at r
  exact call_abs pins s σ H _ us Q I r ⟨_, rfl, q.int hd⟩
end
end PD
namespace PD
open PySem PySem.Spec PyProof.Rows L2
open PySem.W (EachIs)

section
variable {X : Cx} {w : Wd}
/-- a V behind a value, for the items of a list -/
theorem reps_vals {tk : Int → Option V} {F : Hp} : ∀ {ds : List D} {vs : List V} {us : List Value}, Reps tk F ds vs → Vals vs us → EachIs (fun u (p : D × V) => RelV p.2 u ∧ Rep tk F p.1 p.2) us (ds.zip vs)
  | _, _, _, .nil, .nil => .nil
  | _, _, _, .cons h r, .cons q t => .cons ⟨q, h⟩ (reps_vals r t)
theorem each_back {tk : Int → Option V} {F : Hp} : ∀ {us : List Value} {ps : List (D × V)}, EachIs (fun u (p : D × V) => RelV p.2 u ∧ Rep tk F p.1 p.2) us ps → Vals (ps.map (·.2)) us ∧ Reps tk F (ps.map (·.1)) (ps.map (·.2))
  | _, _, .nil => ⟨.nil, .nil⟩
  | _, _, .cons h r => ⟨.cons h.1 (each_back r).1, .cons h.2 (each_back r).2⟩
theorem plain_all {ds : List D} (h : PyData.plainAll ds = true) {d : D} (m : d ∈ ds) : d.plain = true := by
  induction ds with
  | nil => cases m
  | cons x r ih =>
    unfold PyData.plainAll at h
    obtain ⟨h1, h2⟩ := Bool.and_eq_true_iff.mp h
    rcases List.mem_cons.mp m with rfl | m
    · exact h1
    · exact ih h2 m
theorem depth_all {ds : List D} {n : Nat} (h : PyData.depthAll ds ≤ n) {d : D} (m : d ∈ ds) : d.depth ≤ n := by
  induction ds with
  | nil => cases m
  | cons x r ih =>
    unfold PyData.depthAll at h
    rcases List.mem_cons.mp m with rfl | m
    · exact Nat.le_trans (Nat.le_max_left _ _) h
    · exact ih (Nat.le_trans (Nat.le_max_right _ _) h) m
theorem alike_of {ds : List D} (h : allAlikeB ds = true) : PySem.W.AllAlike ds := fun d hd e he => by
  have h1 := List.all_eq_true.mp h d hd
  exact List.all_eq_true.mp h1 e he
theorem sortable_of {ds : List D} (h : sortableB ds = true) : PySem.W.Sortable ds := by
  rcases Bool.or_eq_true_iff.mp h with h | h
  · refine .inl fun d hd => ?_
    have := List.all_eq_true.mp h d hd
    split at this
    · exact ⟨_, _, rfl⟩
    · cases this
  · refine .inr fun d hd => ?_
    have := List.all_eq_true.mp h d hd
    split at this
    · cases this
    · cases this
    · rename_i n1 n2
      exact ⟨fun z => n1 z, fun xs z => n2 xs z⟩
theorem zip_fst {tk : Int → Option V} {F : Hp} {ds : List D} {vs : List V} (r : Reps tk F ds vs) : (ds.zip vs).map (·.1) = ds := by
  rw [← List.unzip_fst, List.unzip_zip_left (by rw [r.length] <;> omega)]
theorem sortD_map (ps : List (D × V)) : (ps.mergeSort (PySem.W.dataLe false fun p : D × V => p.1)).map (·.1) = sortD (ps.map (·.1)) := by
  unfold sortD
  exact List.map_mergeSort fun a _ b _ => rfl
/-- sorted of items that are collected -/
theorem sorted_D {pins : List (Addr × Obj)} {σ : L2.St} {F H : Hp} {s : Shared} {x : Value} {ds zs : List D} {vs : List V} {us : List Value} {Q : VK} (hu : X.A.units + 200 < cLine) (I : L2.Inv X pins σ H s) (hd : Hd w F H) (ra : Reps w.tk F ds vs) (rv : Vals vs us) (hs : sorted? ds = some zs)
    (hcol : ∀ Qc : List Value → Shared → Prop, (∀ h1 tk, (∀ b o, s.heap.get? b = some o → h1.get? b = some o) → Qc us { s with heap := h1, toks := tk }) → wpAny (model X.prog X.w) X.A.in1 (collect x) Qc X.xe s)
    (q : Done w F H (.list zs) Q) : wpAny (model X.prog X.w) X.A (call (.builtin "sorted") [x]) (EP X pins σ Q) X.xe s := by
  unfold sorted? at hs
  split at hs
  · rename_i hc
    cases hs
    obtain ⟨hc, h5⟩ := Bool.and_eq_true_iff.mp hc
    obtain ⟨hc, h4⟩ := Bool.and_eq_true_iff.mp hc
    obtain ⟨hc, h3⟩ := Bool.and_eq_true_iff.mp hc
    obtain ⟨h1, h2⟩ := Bool.and_eq_true_iff.mp hc
    have h4 := of_decide_eq_true h4
    have h5 := of_decide_eq_true h5
    have hl := ra.length
    refine sorted_col (β := D × V) (enc := fun p => p.1) (bs := ds.zip vs) hcol (reps_vals ra rv) ?_ (by rw [zip_fst ra]; exact alike_of h2) (by rw [zip_fst ra]; exact sortable_of h3) ?_ (fun b hb => ?_) fun out h1' h2' tk hlen e k k' hn => ?_
    · refine (PySem.W.each_mem (reps_vals ra rv)).mono fun u p ⟨⟨r1, r2⟩, hm⟩ => ?_
      exact Dp.reads I p.1 p.2 u ((r2.mono hd.ex).dp (plain_all h1 (List.of_mem_zip (show (p.1, p.2) ∈ _ from hm)).1)) r1
    · rw [List.length_zip, ← hl, Nat.min_self]
      exact cap_line h4
    · have := depth_all h5 (List.of_mem_zip (show (b.1, b.2) ∈ _ from hb)).1
      show X.A.units + 2 + b.1.depth < cLine
      omega
    · obtain ⟨e1, e2⟩ := each_back e
      rw [sortD_map, zip_fst ra] at e2
      obtain ⟨n, hn⟩ := hn
      have hz : ((((ds.zip vs).mergeSort (PySem.W.dataLe false fun p : D × V => p.1)).map (·.2)).length ≤ sizeLine) := by
        rw [List.length_map, List.length_mergeSort, List.length_zip, ← hl, Nat.min_self]
        exact cap_line h4
      have I1 : L2.Inv X pins σ H { s with heap := h1', toks := tk } := I.kept k
      exact ⟨.ref h1'.objs.size, upd H h1'.objs.size (.lst (((ds.zip vs).mergeSort (PySem.W.dataLe false fun p : D × V => p.1)).map (·.2))), I1.laid (t' := tk) k' (Nat.le_refl _) ⟨hz, out, n, e1, hn⟩, rfl, q.lst hd e2 (I1.hok.fresh (Nat.le_refl _))⟩
  · cases hs
theorem reps_keys {tk : Int → Option V} {F : Hp} : ∀ {ds : List D} {ks : List Key}, keyKs ds = some ks → Reps tk F ds (ks.map kV)
  | [], _, h => by
    cases h
    exact .nil
  | d :: ds, ks, h => by
    unfold keyKs at h
    split at h
    · rename_i k ks' e1 e2
      cases h
      refine .cons ?_ (reps_keys e2)
      cases d <;> simp [keyK] at e1 <;> subst e1
      · exact .int _
      · exact .str _
    · cases h
theorem keysK {P : Program} {wd : World} {tk : Int → Option V} {F : Hp} : ∀ {kvs : List (D × D)} {ps : List (Key × V)} {vs : List (Key × Value)} {es : List DictEntry}, RepK tk F kvs ps → KV ps vs → Pairs (mixKind P wd) es vs →
    ∃ ks, Vals ks (es.map (·.key)) ∧ Reps tk F (kvs.map (·.1)) ks
  | _, _, _, _, .nil, .nil, .nil => ⟨[], .nil, .nil⟩
  | (kd, d) :: _, (k, v) :: _, _ :: _, e :: _, .cons c1 c2 c3, .cons r1 r2, .cons q1 q2 q3 => by
    obtain ⟨ks, h1, h2⟩ := keysK c3 r2 q3
    refine ⟨kV k :: ks, .cons ?_ h1, .cons ?_ h2⟩
    · obtain ⟨e1, _⟩ := r1
      have q1 : keyIs k e.key = true := by
        have e1' : k = _ := e1
        rw [e1']
        exact q1
      rcases keyIs_shape q1 with ⟨i, t, e2, e3⟩ | ⟨x, t, e2, e3⟩
      · subst e2
        show L2.RelV _ e.key
        rw [e3]
        exact ⟨t, rfl⟩
      · subst e2
        show L2.RelV _ e.key
        rw [e3]
        exact ⟨t, rfl⟩
    · cases kd <;> simp [keyK] at c1 <;> subst c1
      · exact .int _
      · exact .str _
theorem keysT {P : Program} {wd : World} {tk : Int → Option V} {F H : Hp} : ∀ {kvs : List (D × D)} {ps : List (List Key × V)} {xs : List (List Key × Addr × Value)}, RepT tk F kvs ps → KT H ps xs →
    ∃ as : List Addr, (∀ a ∈ as, ∃ ts, H a = some (.tup ts)) ∧ as.map Value.ref = (xs.map (entryOfKey (tupleKind (mixKind P wd)))).map (·.key) ∧ ∀ G : Hp, (∀ a ∈ as, G a = H a) → Reps tk G (kvs.map (·.1)) (as.map V.ref)
  | _, _, _, .nil, .nil => ⟨[], fun _ z => (nomatch z), rfl, fun _ _ => .nil⟩
  | (kd, d) :: _, (k, v) :: _, (k', a, u) :: _, .cons c1 c2 c3, .cons r1 r2 => by
    obtain ⟨as, h1, h2, h3⟩ := keysT (P := P) (wd := wd) c3 r2
    obtain ⟨e1, e2, _⟩ := r1
    refine ⟨a :: as, fun b hb => ?_, ?_, fun G hG => .cons ?_ (h3 G fun b hb => hG b (List.mem_cons_of_mem _ hb))⟩
    · rcases List.mem_cons.mp hb with rfl | hb
      · exact ⟨_, e2⟩
      · exact h1 b hb
    · rw [List.map_cons, List.map_cons, List.map_cons, h2]
      rfl
    · cases kd <;> simp [keyT] at c1
      exact .tuple ((hG a (List.mem_cons_self ..)).trans e2) (reps_keys c1)
/-- a dict's keys: what walks it, and what they read as -/
theorem dict_keys {pins : List (Addr × Obj)} {σ : L2.St} {F H : Hp} {s : Shared} {a : Addr} {kvs : List (D × D)} (I : L2.Inv X pins σ H s) (hd : Hd w F H) (h : DictAt w.tk F H kvs a) :
    ∃ o es ep us F', s.heap.get? a = some o ∧ o.ExactDict ∧ o.data = .dict es ep ∧ (a == sysModules) = false ∧ es.size ≤ sizeLine ∧ Vals us (es.toList.map (·.key)) ∧ Aft w F H F' H ∧ Reps w.tk F' (kvs.map (·.1)) us := by
  rcases h with ⟨ps, ⟨h, _⟩, r⟩ | ⟨ps, h, r⟩
  · obtain ⟨z, y, vs, kv, o, es, ep, ho, hx, hdt, _, pr, _⟩ := I.hok _ _ h
    obtain ⟨ks, h1, h2⟩ := keysK r kv pr
    refine ⟨o, es, ep, ks, F, ho, hx, hdt, y, ?_, h1, .refl hd.ex hd.wf, h2⟩
    have e1 := pr.length
    have e2 := Paired.length kv
    rw [Array.length_toList] at e1
    omega
  · obtain ⟨z, y, xs, kt, o, es, ep, ho, hx, hdt, he, _⟩ := I.hok _ _ h
    obtain ⟨as, h1, h2, h3⟩ := keysT (P := X.prog) (wd := X.w) r kt
    refine ⟨o, es, ep, as.map V.ref, frz F H as, ho, hx, hdt, y, ?_, ?_, aft_tups hd.has hd.ex hd.wf h1, h3 _ fun b hb => frz_in hb⟩
    · have e1 := congrArg List.length he
      have e2 := Paired.length kt
      rw [Array.length_toList, List.length_map] at e1
      omega
    · rw [he, ← h2]
      exact vals_refs as
theorem Hd.aft {F H F' : Hp} (hd : Hd w F H) (A : Aft w F H F' H) : Hd w F' H := ⟨A.sub, A.wf, hd.has⟩
theorem Done.aft {F H F' : Hp} {d : D} {Q : VK} (A : Aft w F H F' H) (q : Done w F H d Q) : Done w F' H d Q := fun v F2 H2 B e n => q v F2 H2 (A.trans B) e n
theorem items_eq {es : Array DictEntry} {acc : Array Value} (it : PySem.ItemsOf (fun i v => ∃ en : DictEntry, es[i]? = some en ∧ v = en.key) acc es.size) : acc.toList = es.toList.map (·.key) := by
  apply List.ext_getElem?
  intro j
  rw [List.getElem?_map, Array.getElem?_toList, Array.getElem?_toList]
  cases h : acc[j]? with
  | none =>
    have h1 : acc.size ≤ j := Array.getElem?_eq_none_iff.mp h
    rw [it.1] at h1
    rw [Array.getElem?_eq_none h1]
    rfl
  | some v =>
    obtain ⟨en, e1, e2⟩ := it.2 j v h
    rw [e1, e2]
    rfl
theorem bi_sorted (hc : X.calm = true) (hu : X.A.units + 200 < cLine) : CallR X (.builtin "sorted") (rB w (bi .sorted)) := by
  intro pins s σ H xs us Q I r h
  obtain ⟨F, ds, z, hd, id, hg, q⟩ := h
  unfold bi at hg
  split at hg <;> first | contradiction | skip
  rename_i d _
  obtain ⟨zs, h1, rfl⟩ := Option.map_eq_some_iff.mp hg
  obtain ⟨ys, h2, h3⟩ := Option.bind_eq_some_iff.mp h1
  obtain ⟨v, rfl, i1⟩ := its1 id
  obtain ⟨u, rfl, ru⟩ := vals1 r
  unfold seqOf at h2
  split at h2 <;> first | contradiction | skip
  · cases h2
    obtain ⟨a, vs, rfl, ha, ra⟩ := i1.list hd.ex
    cases ru
    obtain ⟨its, rv, ⟨o, n, e, c, _, e2⟩, hz⟩ := I.list (.inl (.inl ha))
    exact sorted_D hu I hd ra rv h3 (fun Qc k => wpAny_collect_seq (hsz := by rw [List.size_toArray, ← rv.length]; exact hz) a (.inl rfl) e c e2 fun g k1 => k g s.toks k1) q
  · cases h2
    obtain ⟨a, vs, rfl, fa, ha, ra⟩ := i1.tuple hd.ex
    cases ru
    obtain ⟨its, rv, ⟨o, e, c, n, e2⟩, hz⟩ := I.tuple (.inl (.inl ha))
    exact sorted_D hu I hd ra rv h3 (fun Qc k => wpAny_collect_seq (hsz := by rw [List.size_toArray, ← rv.length]; exact hz) a (.inr rfl) e c e2 fun g k1 => k g s.toks k1) q
  · rename_i kvs nt
    cases h2
    obtain ⟨a, rfl, da⟩ := i1.dict hd.ex fun k z => nt k (by rw [z])
    cases ru
    obtain ⟨o, es, ep, us, F', ho, hx, hdt, y, hz, rv, A, ra⟩ := dict_keys I hd da
    refine sorted_D hu I (hd.aft A) ra rv h3 (fun Qc k => ?_) (q.aft A)
    refine PySem.W.kdu_collect (A := X.A.in1) (kdl_raw y hx hdt) (I.ok.hd hc) ho hz fun h' tk acc hk it => ?_
    rw [items_eq it]
    exact k h' tk hk
end
end PD
namespace PD
open PySem PySem.Spec PyProof.Rows L2
open PySem.W (EachIs)

section
variable {X : Cx} {w : Wd}
theorem bi_list (hc : X.calm = true) : CallR X (.type "list") (rB w (bi .list)) := by
  intro pins s σ H xs us Q I r h
  obtain ⟨F, ds, z, hd, id, hg, q⟩ := h
  unfold bi at hg
  split at hg <;> first | contradiction | skip
  obtain ⟨ys, h2, rfl⟩ := Option.map_eq_some_iff.mp hg
  obtain ⟨v, rfl, i1⟩ := its1 id
  unfold seqOf at h2
  split at h2 <;> first | contradiction | skip
  · cases h2
    obtain ⟨a, vs, rfl, ha, ra⟩ := i1.list hd.ex
    exact call_list_of pins s σ H _ us Q I r ⟨a, vs, rfl, .inl (.inl (.inl ha)), fun p hp => q.lst hd ra hp⟩
  · cases h2
    obtain ⟨a, vs, rfl, fa, ha, ra⟩ := i1.tuple hd.ex
    exact call_list_of pins s σ H _ us Q I r ⟨a, vs, rfl, .inr (.inl (.inl ha)), fun p hp => q.lst hd ra hp⟩
  · rename_i kvs nt
    cases h2
    obtain ⟨a, rfl, da⟩ := i1.dict hd.ex fun k z => nt k (by rw [z])
    obtain ⟨u, rfl, ru⟩ := vals1 r
    cases ru
    obtain ⟨o, es, ep, us, F', ho, hx, hdt, y, hz, rv, A, ra⟩ := dict_keys I hd da
    refine PySem.W.kdl_call (kdl_raw y hx hdt) (I.ok.hd hc) ho hz fun h' tk acc c' kp e it => ?_
    have hu : us.length ≤ sizeLine := by
      rw [rv.length, List.length_map, Array.length_toList]
      exact hz
    exact ⟨.ref s.heap.objs.size, upd H s.heap.objs.size (.lst us), I.laid (t' := tk) kp (Nat.le_refl _) ⟨hu, acc.toList, c', by rw [items_eq it]; exact rv, by rw [Array.toArray_toList]; exact e⟩, rfl, (q.aft A).lst (hd.aft A) ra (I.hok.fresh (Nat.le_refl _))⟩
theorem bi_tuple : CallR X (.type "tuple") (rB w (bi .tuple)) := by
  intro pins s σ H xs us Q I r h
  obtain ⟨F, ds, z, hd, id, hg, q⟩ := h
  unfold bi at hg
  split at hg <;> first | contradiction | skip
  · cases hg
    obtain ⟨v, rfl, i1⟩ := its1 id
    obtain ⟨a, vs, rfl, ha, ra⟩ := i1.list hd.ex
    exact call_tuple_of pins s σ H _ us Q I r ⟨a, vs, rfl, .inl ⟨.inl (.inl ha), fun p hp => q.tup hd ra hp⟩⟩
  · cases hg
    obtain ⟨v, rfl, i1⟩ := its1 id
    obtain ⟨a, vs, rfl, fa, ha, ra⟩ := i1.tuple hd.ex
    exact call_tuple_of pins s σ H _ us Q I r ⟨a, vs, rfl, .inr ⟨.inl (.inl ha), q.same hd fa ra⟩⟩
theorem noDict_plain : ∀ d : D, d.plain = true → d.hasDict = false := by
  have aux : ∀ n : Nat, ∀ d : D, sizeOf d ≤ n → d.plain = true → d.hasDict = false := by
    intro n
    induction n with
    | zero => intro d h; cases d <;> simp at h
    | succ n ih =>
      have all : ∀ xs : List D, sizeOf xs ≤ n + 1 → PyData.plainAll xs = true → PyData.hasDictAll xs = false := by
        intro xs
        induction xs with
        | nil => intros; unfold PyData.hasDictAll; rfl
        | cons x r ihr =>
          intro hz hp
          unfold PyData.plainAll at hp
          obtain ⟨h1, h2⟩ := Bool.and_eq_true_iff.mp hp
          simp at hz
          unfold PyData.hasDictAll
          rw [ih x (by omega) h1, ihr (by omega) h2]
          rfl
      intro d hz hp
      cases d with
      | list xs =>
        unfold PyData.plain at hp
        unfold PyData.hasDict
        simp at hz
        exact all xs (by omega) hp
      | tuple xs =>
        unfold PyData.plain at hp
        unfold PyData.hasDict
        simp at hz
        exact all xs (by omega) hp
      | dict kvs => unfold PyData.plain at hp; cases hp
      | _ => unfold PyData.hasDict; rfl
  exact fun d => aux (sizeOf d) d (Nat.le_refl _)
theorem bi_repr (hg0 : X.A.guards = some []) (hu : X.A.units + 200 < cLine) : CallR X (.builtin "repr") (rB w (bi .repr)) := by
  intro pins s σ H xs us Q I r h
  obtain ⟨F, ds, z, hd, id, hg, q⟩ := h
  unfold bi at hg
  split at hg <;> first | contradiction | skip
  rename_i d _
  split at hg
  · rename_i hc
    cases hg
    obtain ⟨hc, h4⟩ := Bool.and_eq_true_iff.mp hc
    obtain ⟨hc, h3⟩ := Bool.and_eq_true_iff.mp hc
    obtain ⟨h1, h2⟩ := Bool.and_eq_true_iff.mp hc
    have h3 := of_decide_eq_true h3
    have h4 := cap_line (of_decide_eq_true h4)
    obtain ⟨v, rfl, i1⟩ := its1 id
    obtain ⟨u, rfl, ru⟩ := vals1 r
    obtain ⟨as, rd⟩ := i1.reads I hd.ex ru h1
    have big : ∀ a, v = .ref a → wpAny (model X.prog X.w) X.A (call (.builtin "repr") [u]) (EP X pins σ Q) X.xe s := fun a e => by
      subst e
      cases ru
      refine repr_of_reads' rd h2 (PyData.noDict_hsm (noDict_plain d h1)) hg0 (by omega) (fun _ _ e => e) (fun h' t tk k => ⟨.str d.shown, H, I.kept k, ⟨_, rfl⟩, q.str hd⟩) h4
    cases id' : i1.rep hd.ex with
    | none =>
      cases ru
      exact PySem.P.repr_of_none ⟨.str _, H, I.tok _, ⟨_, rfl⟩, q.str hd⟩
    | bool b =>
      cases ru
      exact PySem.P.repr_of_bool ⟨.str _, H, I.tok _, ⟨_, rfl⟩, q.str hd⟩
    | int i =>
      obtain ⟨t, rfl⟩ := ru
      refine PySem.P.repr_of_int ?_ ⟨.str _, H, I.tok _, ⟨_, rfl⟩, q.str hd⟩
      unfold PyData.showable at h2
      exact of_decide_eq_true h2
    | str x =>
      obtain ⟨t, rfl⟩ := ru
      exact PySem.P.repr_of_str ⟨.str _, H, I.tok _, ⟨_, rfl⟩, q.str hd⟩ h4
    | list h1 _ => exact big _ rfl
    | tuple h1 _ => exact big _ rfl
    | dictK _ _ _ => unfold PyData.plain at h1; cases h1
    | dictT _ _ => unfold PyData.plain at h1; cases h1
    | obj _ => unfold PyData.plain at h1; cases h1
  · cases hg
def rM (w : Wd) (m : Mt) : V → List V → Hp → VK → Prop := fun x vs H Q => ∃ F d ds z, Hd w F H ∧ It1 w F H d x ∧ Reps w.tk F ds vs ∧ mt m d ds = some z ∧ ∀ v, Rep w.tk F z v → Q v H
theorem reps1 {tk : Int → Option V} {F : Hp} {d : D} {vs : List V} (h : Reps tk F [d] vs) : ∃ v, vs = [v] ∧ Rep tk F d v := by
  cases h with
  | cons h r =>
    cases r
    exact ⟨_, rfl, h⟩
theorem reps2 {tk : Int → Option V} {F : Hp} {d e : D} {vs : List V} (h : Reps tk F [d, e] vs) : ∃ v u, vs = [v, u] ∧ Rep tk F d v ∧ Rep tk F e u := by
  cases h with
  | cons h r =>
    obtain ⟨u, rfl, h2⟩ := reps1 r
    exact ⟨_, _, rfl, h, h2⟩
theorem mt_get (hu : X.A.units + 200 < cLine) : MtR X "dict.get" (rM w .get) := by
  intro pins s σ H x vs u us Q I rx rs h
  obtain ⟨F, d, ds, z, hd, id, is, hg, q⟩ := h
  unfold mt at hg
  split at hg <;> first | contradiction | skip
  · rename_i kvs k nt _
    split at hg
    · rename_i ft
      cases hg
      obtain ⟨a, rfl, da⟩ := id.dict hd.ex (tok_not ft)
      obtain ⟨y, rfl, iy⟩ := reps1 is
      obtain ⟨uy, rfl, ry⟩ := vals1 rs
      obtain ⟨H1, o, I1, g, back, fo⟩ := dlook I hd da (.of iy) ry ft
      cases rx
      refine d_get1 (by omega) I1 g ry fun w' s' J rw' => ⟨_, H, back _ J, rw', ?_⟩
      rcases fo with ⟨e1, e2⟩ | ⟨d', v', e1, e2, rd⟩
      · rw [e1] at q
        rw [e2]
        exact q _ .none
      · rw [e1] at q
        rw [e2]
        exact q _ rd
    · cases hg
  · rename_i kvs k e nt _
    split at hg
    · rename_i ft
      cases hg
      obtain ⟨a, rfl, da⟩ := id.dict hd.ex (tok_not ft)
      obtain ⟨y, y2, rfl, iy, i2⟩ := reps2 is
      obtain ⟨uy, uz, rfl, ry, rz⟩ := vals2 rs
      obtain ⟨H1, o, I1, g, back, fo⟩ := dlook I hd da (.of iy) ry ft
      cases rx
      refine d_get2 (by omega) I1 g ry rz fun w' s' J rw' => ⟨_, H, back _ J, rw', ?_⟩
      rcases fo with ⟨e1, e2⟩ | ⟨d', v', e1, e2, rd⟩
      · rw [e1] at q
        rw [e2]
        exact q _ i2
      · rw [e1] at q
        rw [e2]
        exact q _ rd
    · cases hg
end
end PD
namespace PD
open PySem PySem.Spec PyProof.Rows L2

/-- how a value is wanted: new and owned to a depth (0: frozen), or to be looked at, owned to a depth at most -/
inductive Dm where | fr (k : Nat) | br (m : Nat)
  deriving DecidableEq
def Bw (w : Wd) (F H : Hp) (d : D) (v : V) (m : Nat) : Prop := ∃ k, k ≤ m ∧ ∃ fp, Own w.tk F H k d v fp ∧ ∀ a ∈ fp, a ∉ w.ads
def Wt (w : Wd) (H F' H' : Hp) (d : D) (v : V) : Dm → Prop
  | .fr k => Nw w H F' H' k d v
  | .br m => Bw w F' H' d v m
section
variable {w : Wd} {H F1 H1 F2 H2 : Hp} {d : D} {v : V} {m : Nat} {dm : Dm}
theorem Bw.aft (A : Aft w F1 H1 F2 H2) (h : Bw w F1 H1 d v m) : Bw w F2 H2 d v m := by
  obtain ⟨k, hk, fp, h1, h2⟩ := h
  exact ⟨k, hk, fp, own_aft A h1 h2, h2⟩
theorem Bw.it (h : Bw w F1 H1 d v 1) : It1 w F1 H1 d v := by
  obtain ⟨k, hk, fp, h1, h2⟩ := h
  match k, hk, h1 with
  | 0, _, h1 => exact ⟨fp, .inl h1, h2⟩
  | 1, _, h1 => exact ⟨fp, .inr h1, h2⟩
theorem Bw.of (h : Rep w.tk F1 d v) : Bw w F1 H1 d v m := ⟨0, Nat.zero_le _, [], ⟨rfl, h⟩, fun _ z => nomatch z⟩
theorem Wt.aft (A : Aft w F1 H1 F2 H2) (h : Wt w H F1 H1 d v dm) : Wt w H F2 H2 d v dm := by
  cases dm with
  | fr k => exact Nw.aft A h
  | br m => exact Bw.aft A h
theorem Nw.back {F : Hp} {k : Nat} (A : Aft w F H F1 H1) (h : Nw w H1 F2 H2 k d v) : Nw w H F2 H2 k d v := by
  obtain ⟨fp, h1, h2, h3⟩ := h
  exact ⟨fp, h1, h2, fun a ha => ⟨A.back (h3 a ha).2.2 (h3 a ha).1, (h3 a ha).2⟩⟩
theorem Wt.back {F : Hp} (A : Aft w F H F1 H1) (h : Wt w H1 F2 H2 d v dm) : Wt w H F2 H2 d v dm := by
  cases dm with
  | fr k => exact Nw.back A h
  | br m => exact h
/-- a frozen value, as it is wanted -/
def frOk (d : D) : Dm → Bool
  | .fr 0 => true
  | .fr _ => immB d
  | .br _ => true
theorem Wt.of (h : Rep w.tk F2 d v) (ok : frOk d dm = true) : Wt w H F2 H2 d v dm := by
  cases dm with
  | fr k =>
    cases k with
    | zero => exact ⟨[], ⟨rfl, h⟩, List.nodup_nil, fun _ z => nomatch z⟩
    | succ k => exact Nw.imm h ok
  | br m => exact .of h
/-- demands that a frozen value meets -/
def ixDm : Dm → Bool
  | .fr 0 => true
  | .fr _ => false
  | .br _ => true
/-- demands that a new value with frozen items meets -/
def newOk : Dm → Bool
  | .fr k => decide (k ≤ 1)
  | .br _ => true
end

/-- the slots: md tells how deep each is owned (none: nothing is known) -/
def CnAt (w : Wd) (H0 : Hp) (md : List (Option Nat)) (env : Env) (σ : L2.St) (F H : Hp) (fps : Nat → List Addr) : Prop :=
  (∀ i k d, md[i]? = some (some k) → getV env i = some d → ∃ v, σ[i]? = some (some v) ∧ Own w.tk F H k d v (fps i)) ∧ (∀ i, (fps i).Nodup) ∧ (∀ i j a, i ≠ j → a ∈ fps i → a ∉ fps j) ∧
    ∀ i, ∀ a ∈ fps i, F a = none ∧ a ∉ w.ads ∧ H0 a = none ∧ ∃ o, H a = some o ∧ ∀ xs, o ≠ .tup xs
structure At (w : Wd) (H0 : Hp) (md : List (Option Nat)) (env : Env) (s : w.W) (σ : L2.St) (F H : Hp) : Prop where
  hd : Hd w F H
  rel : w.rel s H
  len : σ.length = env.length
  cn : ∃ fps, CnAt w H0 md env σ F H fps
section
variable {w : Wd} {H0 F H F1 H1 F2 H2 : Hp} {md : List (Option Nat)} {env : Env} {s s1 : w.W} {σ : L2.St} {d : D} {v : V} {m : Nat} {dm : Dm}
theorem Hd.to (A : Aft w F H F1 H1) (r : w.rel s1 H1) : Hd w F1 H1 := ⟨A.sub, A.wf, fun a ha => w.has r ha⟩
theorem At.aft (t : At w H0 md env s σ F H) (A : Aft w F H F1 H1) (r : w.rel s1 H1) : At w H0 md env s1 σ F1 H1 := by
  refine ⟨Hd.to A r, r, t.len, ?_⟩
  obtain ⟨fps, c1, c2, c3, c4⟩ := t.cn
  refine ⟨fps, fun i k d h1 h2 => ?_, c2, c3, fun i a ha => ?_⟩
  · obtain ⟨v, e, o⟩ := c1 i k d h1 h2
    exact ⟨v, e, own_aft A o fun a ha => (c4 i a ha).2.1⟩
  · obtain ⟨f1, f2, f3, o, f4, f5⟩ := c4 i a ha
    refine ⟨?_, f2, f3, o, A.keep a o f2 f4, f5⟩
    cases q : F1 a with
    | none => rfl
    | some u =>
      rcases A.new a (by rw [q]; exact fun z => nomatch z) with y | y | ⟨xs, y⟩
      · exact absurd f1 y
      · rw [f4] at y
        cases y
      · rw [f4] at y
        cases y
        exact absurd rfl (f5 xs)
theorem Aft.rfl' (t : At w H0 md env s σ F H) : Aft w F H F H := .refl t.hd.ex t.hd.wf
end

/-- what is wanted behind a value -/
def Kt (w : Wd) (s' : w.W) (F H : Hp) (d : D) (dm : Dm) (Q : VK) : Prop := ∀ v F' H', Aft w F H F' H' → w.rel s' H' → Wt w H F' H' d v dm → Q v H'
section
variable {w : Wd} {s' : w.W} {F H F1 H1 : Hp} {d : D} {v : V} {dm : Dm} {Q : VK}
theorem Kt.aft (A : Aft w F H F1 H1) (k : Kt w s' F H d dm Q) : Kt w s' F1 H1 d dm Q := fun v F' H' B r h => k v F' H' (A.trans B) r (h.back A)
theorem Kt.of (k : Kt w s' F H d dm Q) (hd : Hd w F H) (r : w.rel s' H) (h : Rep w.tk F d v) (ok : frOk d dm = true) : Q v H := k v F H (.refl hd.ex hd.wf) r (.of h ok)
theorem Kt.done (k : Kt w s' F H d dm Q) (r : w.rel s' H) (ok : newOk dm = true) : Done w F H d Q := fun v F' H' A e n => by
  have r' : w.rel s' H' := w.loc r e
  cases dm with
  | fr j =>
    match j, ok with
    | 0, _ =>
      obtain ⟨F2, A2, _, q⟩ := Nw.freeze A n
      exact k v F2 H' A2 r' (.of q rfl)
    | 1, _ => exact k v F' H' A r' n
  | br m =>
    obtain ⟨F2, A2, _, q⟩ := Nw.freeze A n
    exact k v F2 H' A2 r' (.of q rfl)
end

def Out {S α : Type} (r : R S α) (K : α → S → Prop) (E : Nat → List D → S → Prop) : Prop := match r with
  | .ok a s => K a s
  | .exc c as s => E c as s
  | .bad => False
section
variable {S α β : Type} {s : S} {K K' : α → S → Prop} {E E' : Nat → List D → S → Prop}
theorem Out.bind {m : M S α} {f : α → M S β} {K : β → S → Prop} (h : Out ((m >>= f) s) K E) : Out (m s) (fun a s1 => Out (f a s1) K E) E := by
  rw [M.bind_eq] at h
  unfold M.bind at h
  revert h
  cases m s <;> exact id
theorem Out.mono {r : R S α} (h : Out r K E) (k : ∀ a s, K a s → K' a s) (e : ∀ c as s, E c as s → E' c as s) : Out r K' E' := by
  cases r with
  | ok a s => exact k _ _ h
  | exc c as s => exact e _ _ _ h
  | bad => exact h
theorem Out.ofO {o : Option α} (h : Out (ofO o s) K E) : ∃ a, o = some a ∧ K a s := by
  cases o with
  | none => exact h.elim
  | some a => exact ⟨a, rfl, h⟩
theorem Out.bindO {o : Option α} {f : α → M S β} {K : β → S → Prop} (h : Out ((PD.ofO o >>= f) s) K E) : ∃ a, o = some a ∧ Out (f a s) K E := (Out.bind h).ofO
theorem Out.bad (h : Out ((M.bad : M S α) s) K E) : False := h
theorem Out.pure {a : α} (h : Out ((Pure.pure a : M S α) s) K E) : K a s := h
end

/-- what is wanted of an exception: class number, its values, the heap -/
abbrev XE := Nat → List V → Hp → Prop
def Xt (w : Wd) (E : XE) (F H : Hp) (c : Nat) (as : List D) (s' : w.W) : Prop := ∀ vs F' H', Aft w F H F' H' → w.rel s' H' → Reps w.tk F' as vs → E c vs H'
theorem Xt.aft {w : Wd} {E : XE} {F H F1 H1 : Hp} {c : Nat} {as : List D} {s' : w.W} (A : Aft w F H F1 H1) (k : Xt w E F H c as s') : Xt w E F1 H1 c as s' := fun vs F' H' B r h => k vs F' H' (A.trans B) r h

section
variable (w : Wd) (T : List (List D → M w.W D)) (E : XE) (md : List (Option Nat))
def RdE (x : X) (dm : Dm) : TE := fun σ H Q => ∃ H0 F env s, At w H0 md env s σ F H ∧ Out (ev T x env s) (fun d s' => Kt w s' F H d dm Q) (Xt w E F H)
def RdT (x : X) : TT := fun σ H Q => ∃ H0 F env s, At w H0 md env s σ F H ∧ Out (tst T x env s) (fun b s' => ∀ F' H', Aft w F H F' H' → w.rel s' H' → Q b H') (Xt w E F H)
def RdO (x : Option X) : TO := fun σ H Q => ∃ H0 F env s, At w H0 md env s σ F H ∧ Out (evo T x env s) (fun b s' => ∀ F' H', Aft w F H F' H' → w.rel s' H' → Q b H') (Xt w E F H)
/-- several values, each as it is wanted -/
def Wts (H F' H' : Hp) (ds : List D) (vs : List V) : Dm → Prop
  | .fr k => ∃ fp, All3 (Own w.tk F' H' k) ds vs fp ∧ fp.Nodup ∧ ∀ a ∈ fp, H a = none ∧ F' a = none ∧ a ∉ w.ads
  | .br m => ds.length = vs.length ∧ ∀ p ∈ ds.zip vs, Bw w F' H' p.1 p.2 m
def RdA (xs : List X) (dm : Dm) : TA := fun σ H Q => ∃ H0 F env s, At w H0 md env s σ F H ∧ Out (evs T xs env s) (fun ds s' => ∀ vs F' H', Aft w F H F' H' → w.rel s' H' → Wts w H F' H' ds vs dm → Q vs H') (Xt w E F H)
end

theorem PE.imp {X : Cx} {e : Expr} {t t' : TE} (h : L2.PE X e t) (k : ∀ σ H Q, t' σ H Q → t σ H Q) : L2.PE X e t' := ⟨fun pins s σ H Q I q => h.run pins s σ H Q I (k _ _ _ q)⟩
theorem PT.imp {X : Cx} {e : Expr} {t t' : TT} (h : L2.PT X e t) (k : ∀ σ H Q, t' σ H Q → t σ H Q) : L2.PT X e t' := ⟨fun pins s σ H Q I q => h.run pins s σ H Q I (k _ _ _ q)⟩
theorem PW.imp {X : Cx} {e : Expr} {t t' : TT} (h : L2.PW X e t) (k : ∀ σ H Q, t' σ H Q → t σ H Q) : L2.PW X e t' := ⟨fun whole pins s σ H Q I q => h.run whole pins s σ H Q I (k _ _ _ q)⟩
theorem PA.imp {X : Cx} {e : List Expr} {t t' : TA} (h : L2.PA X e t) (k : ∀ σ H Q, t' σ H Q → t σ H Q) : L2.PA X e t' := ⟨fun pos pins s σ H Q I q => h.run pos pins s σ H Q I (k _ _ _ q)⟩
theorem PO.imp {X : Cx} {e : Option Expr} {t t' : TO} (h : L2.PO X e t) (k : ∀ σ H Q, t' σ H Q → t σ H Q) : L2.PO X e t' := ⟨fun pins s σ H Q I q => h.run pins s σ H Q I (k _ _ _ q)⟩
theorem PE.never {X : Cx} {e : Expr} {t : TE} (k : ∀ σ H Q, ¬ t σ H Q) : L2.PE X e t := ⟨fun pins s σ H Q I q => (k _ _ _ q).elim⟩
theorem PT.never {X : Cx} {e : Expr} {t : TT} (k : ∀ σ H Q, ¬ t σ H Q) : L2.PT X e t := ⟨fun pins s σ H Q I q => (k _ _ _ q).elim⟩

section
variable {w : Wd} {T : List (List D → M w.W D)} {E : XE} {md : List (Option Nat)} {X : Cx} {σ : L2.St} {H : Hp} {Q : VK}
/-- one operand, then the rest -/
theorem RdE.then {x : PD.X} {dm : Dm} {H0 F : Hp} {env : Env} {s : w.W} (t : At w H0 md env s σ F H) {K : D → w.W → Prop} (o : Out (ev T x env s) K (Xt w E F H))
    (k : ∀ d s1 v F1 H1, K d s1 → Aft w F H F1 H1 → At w H0 md env s1 σ F1 H1 → Wt w H F1 H1 d v dm → Q v H1) : RdE w T E md x dm σ H Q :=
  ⟨H0, F, env, s, t, o.mono (fun d s1 q v F1 H1 A r h => k d s1 v F1 H1 q A (t.aft A r) h) fun _ _ _ q => q⟩
theorem rde_bad {dm : Dm} : ¬ RdE w T E md .bad dm σ H Q := fun ⟨_, _, _, _, _, h⟩ => by
  rw [ev] at h
  exact h
theorem se_bad {e : Expr} {dm : Dm} : L2.PE X e (RdE w T E md .bad dm) := PE.never fun _ _ _ => rde_bad
end
end PD
namespace PD
open PySem PySem.Spec PyProof.Rows L2

/-- what is left to run behind a part -/
def Go (w : Wd) (E : XE) {α : Type} (m : M w.W α) (s : w.W) (F H : Hp) (K : α → w.W → Hp → Hp → Prop) : Prop := Out (m s) (fun a s' => ∀ F' H', Aft w F H F' H' → w.rel s' H' → K a s' F' H') (Xt w E F H)
section
variable {w : Wd} {T : List (List D → M w.W D)} {E : XE} {md : List (Option Nat)} {X : Cx} {dm : Dm} {pos : Pos}
/-- how a slot may be read -/
def varOk (k : Nat) : Dm → Bool
  | .fr 0 => k == 0
  | .fr _ => false
  | .br m => decide (k ≤ m)
theorem se_var {i k : Nat} {x : Str} (hN : X.N[i]? = some x) (hv : Vis X.env.scope x) (hm : md[i]? = some (some k)) (ok : varOk k dm = true)
    (hd : (x == ("__debug__" : Str)) = false) (hcd : (x == ("__classdict__" : Str)) = false) : L2.PE X (.Name x pos) (RdE w T E md (.var i) dm) := by
  refine PE.imp (pe_var hN hv hd hcd) fun σ H Q ⟨H0, F, env, s, t, o⟩ => ?_
  rw [ev] at o
  obtain ⟨d, e, o⟩ := o.ofO
  obtain ⟨fps, c1, c2, c3, c4⟩ := t.cn
  obtain ⟨v, ev', ow⟩ := c1 i k d hm e
  refine ⟨v, ev', o v F H (Aft.rfl' t) t.rel ?_⟩
  cases dm with
  | fr j =>
    cases j with
    | zero =>
      obtain rfl : k = 0 := by simpa [varOk] using ok
      obtain ⟨e1, e2⟩ := ow
      exact ⟨[], ⟨rfl, e2⟩, List.nodup_nil, fun _ z => nomatch z⟩
    | succ j => cases ok
  | br m => exact ⟨k, of_decide_eq_true ok, fps i, ow, fun a ha => (c4 i a ha).2.1⟩
theorem frImm {d : D} (h : immB d = true) : frOk d dm = true := by
  unfold frOk
  split
  · rfl
  · exact h
  · rfl
/-- a value that is the same everywhere -/
theorem se_cst {e : Expr} {d : D} {v : V} (h : L2.PE X e (tC v)) (r : ∀ F, Rep w.tk F d v) (ok : immB d = true) : L2.PE X e (RdE w T E md (.cst d) dm) := by
  refine PE.imp h fun σ H Q ⟨H0, F, env, s, t, o⟩ => ?_
  rw [ev] at o
  exact Kt.of o.pure t.hd t.rel (r F) (frImm ok)
/-- a part, then what is left -/
theorem go_e {α : Type} {σ : L2.St} {H F H0 : Hp} {env : Env} {s : w.W} {Q : VK} {x : PD.X} {f : D → M w.W α} {K : α → w.W → Prop} (t : At w H0 md env s σ F H)
    (o : Out ((ev T x env >>= f) s) K (Xt w E F H)) (k : ∀ d v s1 F1 H1, Aft w F H F1 H1 → At w H0 md env s1 σ F1 H1 → Wt w H F1 H1 d v dm → Out (f d s1) K (Xt w E F1 H1) → Q v H1) : RdE w T E md x dm σ H Q :=
  ⟨H0, F, env, s, t, o.bind.mono (fun d s1 q v F1 H1 A r h => k d v s1 F1 H1 A (t.aft A r) h (q.mono (fun _ _ z => z) fun _ _ _ z => z.aft A)) fun _ _ _ z => z⟩
theorem go_t {α : Type} {σ : L2.St} {H F H0 : Hp} {env : Env} {s : w.W} {Q : Bool → Hp → Prop} {x : PD.X} {f : Bool → M w.W α} {K : α → w.W → Prop} (t : At w H0 md env s σ F H)
    (o : Out ((tst T x env >>= f) s) K (Xt w E F H)) (k : ∀ d s1 F1 H1, Aft w F H F1 H1 → At w H0 md env s1 σ F1 H1 → Out (f d s1) K (Xt w E F1 H1) → Q d H1) : RdT w T E md x σ H Q :=
  ⟨H0, F, env, s, t, o.bind.mono (fun d s1 q F1 H1 A r => k d s1 F1 H1 A (t.aft A r) (q.mono (fun _ _ z => z) fun _ _ _ z => z.aft A)) fun _ _ _ z => z⟩
theorem go_o {α : Type} {σ : L2.St} {H F H0 : Hp} {env : Env} {s : w.W} {Q : Option Int → Hp → Prop} {x : Option PD.X} {f : Option Int → M w.W α} {K : α → w.W → Prop} (t : At w H0 md env s σ F H)
    (o : Out ((evo T x env >>= f) s) K (Xt w E F H)) (k : ∀ d s1 F1 H1, Aft w F H F1 H1 → At w H0 md env s1 σ F1 H1 → Out (f d s1) K (Xt w E F1 H1) → Q d H1) : RdO w T E md x σ H Q :=
  ⟨H0, F, env, s, t, o.bind.mono (fun d s1 q F1 H1 A r => k d s1 F1 H1 A (t.aft A r) (q.mono (fun _ _ z => z) fun _ _ _ z => z.aft A)) fun _ _ _ z => z⟩
theorem go_a {α : Type} {σ : L2.St} {H F H0 : Hp} {env : Env} {s : w.W} {Q : List V → Hp → Prop} {xs : List PD.X} {f : List D → M w.W α} {K : α → w.W → Prop} (t : At w H0 md env s σ F H)
    (o : Out ((evs T xs env >>= f) s) K (Xt w E F H)) (k : ∀ ds vs s1 F1 H1, Aft w F H F1 H1 → At w H0 md env s1 σ F1 H1 → Wts w H F1 H1 ds vs dm → Out (f ds s1) K (Xt w E F1 H1) → Q vs H1) : RdA w T E md xs dm σ H Q :=
  ⟨H0, F, env, s, t, o.bind.mono (fun d s1 q v F1 H1 A r h => k d v s1 F1 H1 A (t.aft A r) h (q.mono (fun _ _ z => z) fun _ _ _ z => z.aft A)) fun _ _ _ z => z⟩
/-- the last part is the whole -/
theorem go_last {σ : L2.St} {H F H0 H' F' : Hp} {env : Env} {s s' : w.W} {Q : VK} {x : PD.X} (A : Aft w F H F' H') (t : At w H0 md env s σ F' H')
    (o : Out (ev T x env s) (fun d s' => Kt w s' F H d dm Q) (Xt w E F' H')) : RdE w T E md x dm σ H' Q :=
  ⟨H0, F', env, s, t, o.mono (fun _ _ k => k.aft A) fun _ _ _ z => z⟩
theorem go_lastT {σ : L2.St} {H F H0 H' F' : Hp} {env : Env} {s s' : w.W} {Q : Bool → Hp → Prop} {x : PD.X} (A : Aft w F H F' H') (t : At w H0 md env s σ F' H')
    (o : Out (tst T x env s) (fun b s' => ∀ F' H', Aft w F H F' H' → w.rel s' H' → Q b H') (Xt w E F' H')) : RdT w T E md x σ H' Q :=
  ⟨H0, F', env, s, t, o.mono (fun _ _ k F2 H2 B r => k F2 H2 (A.trans B) r) fun _ _ _ z => z⟩

theorem se_op {o : Bop} {a b : Expr} {xa xb : PD.X} (ha : L2.PE X a (RdE w T E md xa (.br 1))) (hb : L2.PE X b (RdE w T E md xb (.br 1))) (ok : newOk dm = true) :
    L2.PE X (.BinOp a (oprOf o) b pos) (RdE w T E md (.op o xa xb) dm) := by
  refine PE.imp (pe_op (op_D (w := w) o) ha hb) fun σ H Q ⟨H0, F, env, s, t, q⟩ => ?_
  rw [ev] at q
  refine go_e t q fun d v s1 F1 H1 A1 t1 w1 q => go_e t1 q fun d2 u s2 F2 H2 A2 t2 w2 q => ?_
  obtain ⟨z, e, k⟩ := q.ofO
  exact ⟨F2, d, d2, z, t2.hd, (w1.aft A2).it, w2.it, e, ((k.aft A1).aft A2).done t2.rel ok⟩
section
variable (hu : X.A.units + 200 < cLine) (nt : ∀ k, w.tk k ≠ some .non)
include hu nt
theorem se_cmp {o : Cop} {a b : Expr} {xa xb : PD.X} (hm : behindInMarks (coprOf o) b = false) (ha : L2.PE X a (RdE w T E md xa (.br 1))) (hb : L2.PE X b (RdE w T E md xb (.br 1))) :
    L2.PE X (.Compare a [coprOf o] [b] pos) (RdE w T E md (.cmp o xa xb) dm) := by
  refine PE.imp (pe_cmpR (cmp_D (w := w) hu nt o) ha hb hm) fun σ H Q ⟨H0, F, env, s, t, q⟩ => ?_
  rw [ev] at q
  refine go_e t q fun d v s1 F1 H1 A1 t1 w1 q => go_e t1 q fun d2 u s2 F2 H2 A2 t2 w2 q => ?_
  obtain ⟨z, e, k⟩ := q.bindO
  exact ⟨F2, d, d2, z, t2.hd, (w1.aft A2).it, w2.it, e, ((Kt.aft A1 k.pure).aft A2).of t2.hd t2.rel (.bool z) (frImm rfl)⟩
theorem se_chn {o p : Cop} {a b c : Expr} {xa xb xc : PD.X} (hm : lastMarks [coprOf o, coprOf p] [b, c] = false) (ha : L2.PE X a (RdE w T E md xa (.br 1))) (hb : L2.PE X b (RdE w T E md xb (.br 1))) (hc : L2.PE X c (RdE w T E md xc (.br 1))) :
    L2.PE X (.Compare a [coprOf o, coprOf p] [b, c] pos) (RdE w T E md (.chn o p xa xb xc) dm) := by
  refine PE.imp (pe_chain (cmp_D (w := w) hu nt o) (cmp_D (w := w) hu nt p) ha hb hc hm) fun σ H Q ⟨H0, F, env, s, t, q⟩ => ?_
  rw [ev] at q
  refine go_e t q fun d v s1 F1 H1 A1 t1 w1 q => go_e t1 q fun d2 u s2 F2 H2 A2 t2 w2 q => ?_
  obtain ⟨z, e, q⟩ := q.bindO
  refine ⟨F2, d, d2, z, t2.hd, (w1.aft A2).it, w2.it, e, z, rfl, ?_⟩
  cases z with
  | false =>
    rw [if_neg Bool.false_ne_true] at q ⊢
    exact ((Kt.aft A1 q.pure).aft A2).of t2.hd t2.rel (.bool false) (frImm rfl)
  | true =>
    rw [if_pos rfl] at q ⊢
    refine go_e t2 q fun d3 x3 s3 F3 H3 A3 t3 w3 q => ?_
    obtain ⟨z, e, q⟩ := q.bindO
    exact ⟨F3, d2, d3, z, t3.hd, (w2.aft A3).it, w3.it, e, (((Kt.aft A1 q.pure).aft A2).aft A3).of t3.hd t3.rel (.bool z) (frImm rfl)⟩
end
theorem Out.int {β : Type} {d : D} {f : Int → M w.W β} {s : w.W} {K : β → w.W → Prop} {E' : Nat → List D → w.W → Prop} (h : Out ((asInt d >>= f) s) K E') : ∃ i, d = .int i ∧ Out (f i s) K E' := by
  cases d with
  | int i => exact ⟨i, rfl, h⟩
  | _ => exact (Out.bind h).elim
theorem se_neg {a : Expr} {xa : PD.X} (ha : L2.PE X a (RdE w T E md xa (.br 1))) : L2.PE X (.UnaryOp .USub a pos) (RdE w T E md (.neg xa) dm) := by
  refine PE.imp (pe_un un_neg ha) fun σ H Q ⟨H0, F, env, s, t, q⟩ => ?_
  rw [ev] at q
  refine go_e t q fun d v s1 F1 H1 A1 t1 w1 q => ?_
  obtain ⟨i, rfl, q⟩ := Out.int q
  rw [w1.it.vint t1.hd.ex]
  exact ⟨i, rfl, (Kt.aft A1 q.pure).of t1.hd t1.rel (.int _) (frImm rfl)⟩
theorem se_not {a : Expr} {xa : PD.X} (ha : L2.PE X a (RdE w T E md xa (.br 1))) : L2.PE X (.UnaryOp .Not a pos) (RdE w T E md (.not xa) dm) := by
  refine PE.imp (pe_notT ha) fun σ H Q ⟨H0, F, env, s, t, q⟩ => ?_
  rw [ev] at q
  refine go_e t q fun d v s1 F1 H1 A1 t1 w1 q => ?_
  obtain ⟨z, e, q⟩ := q.bindO
  exact ⟨z, tru_D t1.hd w1.it e, (Kt.aft A1 q.pure).of t1.hd t1.rel (.bool _) (frImm rfl)⟩
theorem bool_of {d : D} : (∃ b, d = .bool b) ∨ (∀ b, d ≠ .bool b) := by
  cases d with
  | bool b => exact .inl ⟨b, rfl⟩
  | _ => exact .inr fun _ z => nomatch z
theorem se_and {a b : Expr} {rest : List Expr} {xa xb : PD.X} (ha : L2.PE X a (RdE w T E md xa (.br 1))) (hb : L2.PE X (.BoolOp .And (b :: rest) pos) (RdE w T E md xb dm)) :
    L2.PE X (.BoolOp .And (a :: b :: rest) pos) (RdE w T E md (.and xa xb) dm) := by
  refine PE.imp (pe_and ha hb) fun σ H Q ⟨H0, F, env, s, t, q⟩ => ?_
  rw [ev] at q
  refine go_e t q fun d v s1 F1 H1 A1 t1 w1 q => ?_
  rcases bool_of (d := d) with ⟨z, rfl⟩ | n
  · refine ⟨z, w1.it.vbl t1.hd.ex, ?_⟩
    cases z with
    | true =>
      rw [if_pos rfl]
      exact go_last (s' := s) A1 t1 q
    | false =>
      rw [if_neg Bool.false_ne_true]
      exact (Kt.aft A1 q.pure).of t1.hd t1.rel (.bool _) (frImm rfl)
  · revert q
    cases d with
    | bool b => exact absurd rfl (n b)
    | _ => exact fun q => q.elim
theorem se_or {a b : Expr} {rest : List Expr} {xa xb : PD.X} (ha : L2.PE X a (RdE w T E md xa (.br 1))) (hb : L2.PE X (.BoolOp .Or (b :: rest) pos) (RdE w T E md xb dm)) :
    L2.PE X (.BoolOp .Or (a :: b :: rest) pos) (RdE w T E md (.or xa xb) dm) := by
  refine PE.imp (pe_or ha hb) fun σ H Q ⟨H0, F, env, s, t, q⟩ => ?_
  rw [ev] at q
  refine go_e t q fun d v s1 F1 H1 A1 t1 w1 q => ?_
  rcases bool_of (d := d) with ⟨z, rfl⟩ | n
  · refine ⟨z, w1.it.vbl t1.hd.ex, ?_⟩
    cases z with
    | false =>
      rw [if_neg Bool.false_ne_true]
      exact go_last (s' := s) A1 t1 q
    | true =>
      rw [if_pos rfl]
      exact (Kt.aft A1 q.pure).of t1.hd t1.rel (.bool _) (frImm rfl)
  · revert q
    cases d with
    | bool b => exact absurd rfl (n b)
    | _ => exact fun q => q.elim
theorem se_ite {c a b : Expr} {xc xa xb : PD.X} (hc : L2.PT X c (RdT w T E md xc)) (ha : L2.PE X a (RdE w T E md xa dm)) (hb : L2.PE X b (RdE w T E md xb dm)) : L2.PE X (.IfExp c a b pos) (RdE w T E md (.ite xc xa xb) dm) := by
  refine PE.imp (pe_ifExp hc ha hb) fun σ H Q ⟨H0, F, env, s, t, q⟩ => ?_
  rw [ev] at q
  refine go_t t q fun z s1 F1 H1 A1 t1 q => ?_
  cases z with
  | true =>
    rw [if_pos rfl] at q ⊢
    exact go_last (s' := s) A1 t1 q
  | false =>
    rw [if_neg Bool.false_ne_true] at q ⊢
    exact go_last (s' := s) A1 t1 q
theorem se_ix {a b : Expr} {xa xb : PD.X} (hu : X.A.units + 200 < cLine) (hs : PlainIx b) (ha : L2.PE X a (RdE w T E md xa (.br 1))) (hb : L2.PE X b (RdE w T E md xb (.br 1))) (ok : ixDm dm = true) :
    L2.PE X (.Subscript a b pos) (RdE w T E md (.ix xa xb) dm) := by
  refine PE.imp (pe_ix (ix_D (w := w) hu) ha hb hs) fun σ H Q ⟨H0, F, env, s, t, q⟩ => ?_
  rw [ev] at q
  refine go_e t q fun d v s1 F1 H1 A1 t1 w1 q => go_e t1 q fun d2 u s2 F2 H2 A2 t2 w2 q => ?_
  obtain ⟨z, e, k⟩ := q.ofO
  refine ⟨F2, d, d2, z, t2.hd, (w1.aft A2).it, w2.it, e, fun v r => ((k.aft A1).aft A2).of t2.hd t2.rel r ?_⟩
  unfold frOk
  unfold ixDm at ok
  split at ok
  · rfl
  · cases ok
  · rfl
def plainT : PD.X → Bool
  | .not _ => false
  | .and _ _ => false
  | .or _ _ => false
  | .ite _ _ _ => false
  | _ => true
theorem tst_d {x : PD.X} (h : plainT x = true) {env : Env} : tst T x env = (ev T x env >>= fun d => ofO (truD d)) := by
  cases x <;> first | (cases h; done) | (rw [tst] <;> nofun)
theorem st_of {e : Expr} {x : PD.X} (h : plainT x = true) (he : L2.PE X e (RdE w T E md x (.br 1))) (hi : ∀ whole, isTrue e X.env whole = (do let v ← whole; standAt e.pos; holding [v] (truthy v))) : L2.PT X e (RdT w T E md x) := by
  refine PT.imp (pt_truth he hi) fun σ H Q ⟨H0, F, env, s, t, q⟩ => ?_
  rw [tst_d h] at q
  refine go_e t q fun d v s1 F1 H1 A1 t1 w1 q => ?_
  obtain ⟨z, e, k⟩ := q.ofO
  exact ⟨z, tru_D t1.hd w1.it e, k F1 H1 A1 t1.rel⟩
section
variable (hu : X.A.units + 200 < cLine) (nt : ∀ k, w.tk k ≠ some .non)
include hu nt
theorem st_cmp {o : Cop} {a b : Expr} {xa xb : PD.X} (hm : behindInMarks (coprOf o) b = false) (ha : L2.PE X a (RdE w T E md xa (.br 1))) (hb : L2.PE X b (RdE w T E md xb (.br 1))) :
    L2.PT X (.Compare a [coprOf o] [b] pos) (RdT w T E md (.cmp o xa xb)) := by
  refine PT.imp (pt_cmpR (cmp_D (w := w) hu nt o) ha hb hm) fun σ H Q ⟨H0, F, env, s, t, q⟩ => ?_
  rw [tst_d rfl, ev, bind_assoc] at q
  refine go_e t q fun d v s1 F1 H1 A1 t1 w1 q => ?_
  rw [bind_assoc] at q
  refine go_e t1 q fun d2 u s2 F2 H2 A2 t2 w2 q => ?_
  rw [bind_assoc] at q
  obtain ⟨z, e, q⟩ := q.bindO
  exact ⟨F2, d, d2, z, t2.hd, (w1.aft A2).it, w2.it, e, z, rfl, Out.pure (show Out ((Pure.pure z : M w.W Bool) s2) _ (Xt w E F2 H2) from q) F2 H2 (A1.trans A2) t2.rel⟩
theorem st_chn {o p : Cop} {a b c : Expr} {xa xb xc : PD.X} (hm : lastMarks [coprOf o, coprOf p] [b, c] = false) (ha : L2.PE X a (RdE w T E md xa (.br 1))) (hb : L2.PE X b (RdE w T E md xb (.br 1))) (hc : L2.PE X c (RdE w T E md xc (.br 1))) :
    L2.PT X (.Compare a [coprOf o, coprOf p] [b, c] pos) (RdT w T E md (.chn o p xa xb xc)) := by
  refine PT.imp (pt_chain (cmp_D (w := w) hu nt o) (cmp_D (w := w) hu nt p) ha hb hc hm) fun σ H Q ⟨H0, F, env, s, t, q⟩ => ?_
  rw [tst_d rfl, ev, bind_assoc] at q
  refine go_e t q fun d v s1 F1 H1 A1 t1 w1 q => ?_
  rw [bind_assoc] at q
  refine go_e t1 q fun d2 u s2 F2 H2 A2 t2 w2 q => ?_
  rw [bind_assoc] at q
  obtain ⟨z, e, q⟩ := q.bindO
  refine ⟨F2, d, d2, z, t2.hd, (w1.aft A2).it, w2.it, e, z, rfl, ?_⟩
  cases z with
  | false =>
    rw [if_neg Bool.false_ne_true]
    exact ⟨false, rfl, Out.pure (show Out ((Pure.pure false : M w.W Bool) s2) _ (Xt w E F2 H2) from q) F2 H2 (A1.trans A2) t2.rel⟩
  | true =>
    rw [if_pos rfl] at q ⊢
    rw [bind_assoc] at q
    refine go_e t2 q fun d3 x3 s3 F3 H3 A3 t3 w3 q => ?_
    rw [bind_assoc] at q
    obtain ⟨z, e, q⟩ := q.bindO
    exact ⟨F3, d2, d3, z, t3.hd, (w2.aft A3).it, w3.it, e, z, rfl, Out.pure (show Out ((Pure.pure z : M w.W Bool) s3) _ (Xt w E F3 H3) from q) F3 H3 ((A1.trans A2).trans A3) t3.rel⟩
end
theorem st_not {a : Expr} {xa : PD.X} (ha : L2.PT X a (RdT w T E md xa)) : L2.PT X (.UnaryOp .Not a pos) (RdT w T E md (.not xa)) := by
  refine PT.imp (pt_not ha) fun σ H Q ⟨H0, F, env, s, t, q⟩ => ?_
  rw [tst] at q
  exact go_t t q fun z s1 F1 H1 A1 t1 q => q.pure F1 H1 A1 t1.rel
theorem st_and {a b : Expr} {rest : List Expr} {xa xb : PD.X} (ha : L2.PT X a (RdT w T E md xa)) (hb : L2.PW X (.BoolOp .And (b :: rest) pos) (RdT w T E md xb)) : L2.PW X (.BoolOp .And (a :: b :: rest) pos) (RdT w T E md (.and xa xb)) := by
  refine PW.imp (pw_and ha hb) fun σ H Q ⟨H0, F, env, s, t, q⟩ => ?_
  rw [tst] at q
  refine go_t t q fun z s1 F1 H1 A1 t1 q => ?_
  cases z with
  | true =>
    rw [if_pos rfl] at q ⊢
    exact go_lastT (s' := s) A1 t1 q
  | false =>
    rw [if_neg Bool.false_ne_true] at q ⊢
    exact q.pure F1 H1 A1 t1.rel
theorem st_or {a b : Expr} {rest : List Expr} {xa xb : PD.X} (ha : L2.PT X a (RdT w T E md xa)) (hb : L2.PW X (.BoolOp .Or (b :: rest) pos) (RdT w T E md xb)) : L2.PW X (.BoolOp .Or (a :: b :: rest) pos) (RdT w T E md (.or xa xb)) := by
  refine PW.imp (pw_or ha hb) fun σ H Q ⟨H0, F, env, s, t, q⟩ => ?_
  rw [tst] at q
  refine go_t t q fun z s1 F1 H1 A1 t1 q => ?_
  cases z with
  | false =>
    rw [if_neg Bool.false_ne_true] at q ⊢
    exact go_lastT (s' := s) A1 t1 q
  | true =>
    rw [if_pos rfl] at q ⊢
    exact q.pure F1 H1 A1 t1.rel
theorem so_none : L2.PO X none (RdO w T E md none) := by
  refine PO.imp po_none fun σ H Q ⟨H0, F, env, s, t, q⟩ => ?_
  rw [evo] at q
  exact q.pure F H (Aft.rfl' t) t.rel
theorem so_some {e : Expr} {x : PD.X} (he : L2.PE X e (RdE w T E md x (.br 1))) : L2.PO X (some e) (RdO w T E md (some x)) := by
  refine PO.imp (po_some he) fun σ H Q ⟨H0, F, env, s, t, q⟩ => ?_
  rw [evo] at q
  refine go_e t q fun d v s1 F1 H1 A1 t1 w1 q => ?_
  obtain ⟨i, rfl, q⟩ := Out.int q
  rw [w1.it.vint t1.hd.ex]
  exact ⟨i, rfl, q.pure F1 H1 A1 t1.rel⟩
theorem se_sl {e : Expr} {lo hi : Option Expr} {x : PD.X} {xl xh : Option PD.X} {p2 : Pos} (he : L2.PE X e (RdE w T E md x (.br 1))) (hl : L2.PO X lo (RdO w T E md xl)) (hh : L2.PO X hi (RdO w T E md xh)) (ok : newOk dm = true) :
    L2.PE X (.Subscript e (.Slice lo hi none p2) pos) (RdE w T E md (.sl x xl xh) dm) := by
  refine PE.imp (pe_slice (sl_D (w := w)) he hl hh) fun σ H Q ⟨H0, F, env, s, t, q⟩ => ?_
  rw [ev] at q
  refine go_e t q fun d v s1 F1 H1 A1 t1 w1 q => go_o t1 q fun l s2 F2 H2 A2 t2 q => go_o t2 q fun h s3 F3 H3 A3 t3 q => ?_
  obtain ⟨z, e, k⟩ := q.ofO
  exact ⟨F3, d, z, t3.hd, ((w1.aft A2).aft A3).it, e, (((k.aft A1).aft A2).aft A3).done t3.rel ok⟩
end
end PD
namespace PD
open PySem PySem.Spec PyProof.Rows L2

section
variable {w : Wd} {F H F1 H1 F2 H2 : Hp} {d : D} {v : V} {ds : List D} {vs : List V} {dm : Dm} {k : Nat}
theorem Wts.nil : Wts w H F1 H1 [] [] dm := by
  cases dm with
  | fr k => exact ⟨[], rfl, List.nodup_nil, fun _ z => nomatch z⟩
  | br m => exact ⟨rfl, fun _ z => nomatch z⟩
theorem Wts.cons (A1 : Aft w F H F1 H1) (A2 : Aft w F1 H1 F2 H2) (w1 : Wt w H F1 H1 d v dm) (w2 : Wts w H1 F2 H2 ds vs dm) : Wts w H F2 H2 (d :: ds) (v :: vs) dm := by
  cases dm with
  | fr k =>
    obtain ⟨fp, h1, h2, h3⟩ := w1
    obtain ⟨gp, g1, g2, g3⟩ := w2
    obtain ⟨fp', q1, q2, q3⟩ := Nw.aft A2 (⟨fp, h1, h2, h3⟩ : Nw w H F1 H1 k d v)
    have own2 : Own w.tk F2 H2 k d v fp := own_aft A2 h1 fun a ha => (h3 a ha).2.2
    refine ⟨fp ++ gp, ⟨fp, gp, own2, g1, rfl⟩, ?_, fun a ha => ?_⟩
    · refine List.nodup_append.mpr ⟨h2, g2, fun a ha b hb e => ?_⟩
      subst e
      obtain ⟨o, q⟩ := h1.there a ha
      rw [(g3 a hb).1] at q
      cases q
    · rcases List.mem_append.mp ha with q | q
      · exact ⟨(h3 a q).1, out_aft A2 h1 q (h3 a q).2.1, (h3 a q).2.2⟩
      · exact ⟨A1.back (g3 a q).2.2 (g3 a q).1, (g3 a q).2⟩
  | br m =>
    refine ⟨by rw [List.length_cons, List.length_cons, w2.1], fun p hp => ?_⟩
    rw [List.zip_cons_cons] at hp
    rcases List.mem_cons.mp hp with rfl | hp
    · exact Bw.aft A2 w1
    · exact w2.2 p hp
theorem Wts.reps (h : Wts w H F1 H1 ds vs (.fr 0)) : Reps w.tk F1 ds vs := by
  obtain ⟨fp, h1, _⟩ := h
  exact (all3_frozen h1).1
theorem Wts.its (h : Wts w H F1 H1 ds vs (.br 1)) : It1s w F1 H1 ds vs := by
  obtain ⟨h1, h2⟩ := h
  induction ds generalizing vs with
  | nil =>
    cases vs with
    | nil => trivial
    | cons v vs => cases h1
  | cons d ds ih =>
    cases vs with
    | nil => cases h1
    | cons v vs => exact ⟨Bw.it (h2 (d, v) (by simp)), ih (by simpa using h1) fun p hp => h2 p (by rw [List.zip_cons_cons]; exact List.mem_cons_of_mem _ hp)⟩
/-- a new list of what is new -/
theorem Wts.list {p : Addr} (A : Aft w F H F1 H1) (h : Wts w H F1 H1 ds vs (.fr k)) (hp : H1 p = none) (hw : p ∉ w.ads) : Nw w H F1 (upd H1 p (.lst vs)) (k + 1) (.list ds) (.ref p) := by
  obtain ⟨fp, h1, h2, h3⟩ := h
  have np : p ∉ fp := fun z => by
    obtain ⟨o, q⟩ := h1.each (R := fun a => ∃ o, H1 a = some o) (fun d v f q => q.there) p z
    rw [hp] at q
    cases q
  refine ⟨p :: fp, ⟨p, vs, fp, rfl, upd_same, h1.imp fun d v f _ hf q => q.mono (Ex.refl _) fun b hb => upd_ne fun z => np (z ▸ hf b hb), rfl⟩, List.nodup_cons.mpr ⟨np, h2⟩, fun a ha => ?_⟩
  rcases List.mem_cons.mp ha with rfl | ha
  · exact ⟨A.back hw hp, A.sub.back hp, hw⟩
  · exact h3 a ha
end

section
variable {w : Wd} {T : List (List D → M w.W D)} {E : XE} {md : List (Option Nat)} {X : Cx} {dm : Dm} {pos : Pos}
theorem evs_append {xs ys : List PD.X} {env : Env} : evs T (xs ++ ys) env = (do
    let ds ← evs T xs env
    let es ← evs T ys env
    pure (ds ++ es)) := by
  induction xs with
  | nil =>
    rw [List.nil_append, evs]
    simp
  | cons x xs ih =>
    rw [List.cons_append, evs, evs, ih]
    simp [bind_assoc]
theorem okB {S α β : Type} {m : M S α} {f : α → M S β} {s s' : S} {b : β} (h : (m >>= f) s = .ok b s') : ∃ a s1, m s = .ok a s1 ∧ f a s1 = .ok b s' := by
  rw [M.bind_eq] at h
  unfold M.bind at h
  cases e : m s with
  | ok a s1 =>
    rw [e] at h
    exact ⟨a, s1, rfl, h⟩
  | exc c as s1 =>
    rw [e] at h
    cases h
  | bad =>
    rw [e] at h
    cases h
theorem evs_len {xs : List PD.X} : ∀ {env : Env} {s s' : w.W} {ds : List D}, evs T xs env s = .ok ds s' → ds.length = xs.length := by
  induction xs with
  | nil =>
    intro env s s' ds h
    rw [evs] at h
    cases h
    rfl
  | cons x xs ih =>
    intro env s s' ds h
    rw [evs] at h
    obtain ⟨d, s1, _, h⟩ := okB h
    obtain ⟨es, s2, e2, h⟩ := okB h
    cases h
    rw [List.length_cons, List.length_cons, ih e2]
theorem out_len {xs : List PD.X} {env : Env} {s : w.W} {K : List D → w.W → Prop} {E' : Nat → List D → w.W → Prop} (h : Out (evs T xs env s) K E') : Out (evs T xs env s) (fun ds s' => K ds s' ∧ ds.length = xs.length) E' := by
  cases e : evs T xs env s with
  | ok ds s' =>
    rw [e] at h
    exact ⟨h, evs_len e⟩
  | exc c as s' =>
    rw [e] at h
    exact h
  | bad =>
    rw [e] at h
    exact h
theorem ta_nil {σ : L2.St} {H : Hp} {Q : List V → Hp → Prop} (h : RdA w T E md [] dm σ H Q) : tNil σ H Q := by
  obtain ⟨H0, F, env, s, t, q⟩ := h
  rw [evs] at q
  exact q.pure [] F H (Aft.rfl' t) t.rel .nil
theorem ta_cons {x : PD.X} {xs : List PD.X} {σ : L2.St} {H : Hp} {Q : List V → Hp → Prop} (h : RdA w T E md (x :: xs) dm σ H Q) : tCons (RdE w T E md x dm) (RdA w T E md xs dm) σ H Q := by
  obtain ⟨H0, F, env, s, t, q⟩ := h
  rw [evs] at q
  exact go_e t q fun d v s1 F1 H1 A1 t1 w1 q => go_a t1 q fun ds vs s2 F2 H2 A2 t2 w2 q => q.pure _ F2 H2 (A1.trans A2) t2.rel (.cons A1 A2 w1 w2)
theorem sa_nil : L2.PA X [] (RdA w T E md [] dm) := PA.imp pa_nil fun _ _ _ => ta_nil
theorem sa_cons {e : Expr} {es : List Expr} {x : PD.X} {xs : List PD.X} (he : L2.PE X e (RdE w T E md x dm)) (hr : L2.PA X es (RdA w T E md xs dm)) (hs : starEach (e :: es) X.env = (false, eval e X.env) :: starEach es X.env) :
    L2.PA X (e :: es) (RdA w T E md (x :: xs) dm) := PA.imp (pa_cons he hr hs) fun _ _ _ => ta_cons
theorem PK.imp {kws : List Keyword} {t t' : TA} (h : L2.PK X kws t) (k : ∀ σ H Q, t' σ H Q → t σ H Q) : L2.PK X kws t' := ⟨fun pos pins s σ H Q I q => h.run pos pins s σ H Q I (k _ _ _ q)⟩
theorem sk_nil : L2.PK X [] (RdA w T E md [] dm) := PK.imp pk_nil fun _ _ _ => ta_nil
theorem sk_cons {e : Expr} {nm : Option Str} {kp : Pos} {kws : List Keyword} {x : PD.X} {xs : List PD.X} (he : L2.PE X e (RdE w T E md x dm)) (hr : L2.PK X kws (RdA w T E md xs dm)) : L2.PK X (⟨nm, e, kp⟩ :: kws) (RdA w T E md (x :: xs) dm) :=
  PK.imp (pk_cons he hr) fun _ _ _ => ta_cons

theorem se_tup {es : List Expr} {x1 : Nat} {xs : List PD.X} (h : L2.PA X es (RdA w T E md xs (.fr 0))) (hl : xs.length ≤ cap) : L2.PE X (.Tuple es x1 pos) (RdE w T E md (.tup xs) dm) := by
  refine PE.imp (pe_tup h) fun σ H Q ⟨H0, F, env, s, t, q⟩ => ?_
  rw [ev] at q
  refine ⟨H0, F, env, s, t, (out_len q.bind).mono (fun ds s1 ⟨q, l⟩ vs F1 H1 A1 r1 w1 => ?_) fun _ _ _ z => z⟩
  have t1 := t.aft A1 r1
  have rp := w1.reps
  refine ⟨by rw [← rp.length, l]; exact cap_line hl, fun p hp => ?_⟩
  exact Done.tup (ds := ds) t1.hd (fun v F2 H2 B e n => (Kt.aft A1 q.pure) v F2 H2 B (w.loc t1.rel e) (by
    obtain ⟨fp, o, _⟩ := n
    obtain ⟨rfl, o⟩ : fp = [] ∧ Rep w.tk F2 (.tuple ds) v := o
    exact .of o (frImm rfl))) rp hp
/-- how deep the items of a new list are wanted -/
def dmIn : Dm → Nat
  | .fr (k + 1) => k
  | _ => 0
theorem Kt.new1 {s' : w.W} {F H F' H' : Hp} {d : D} {v : V} {Q : VK} (k : Kt w s' F H d dm Q) (A : Aft w F H F' H') (r : w.rel s' H') (n : Nw w H F' H' (dmIn dm + 1) d v) : Q v H' := by
  cases dm with
  | fr j =>
    match j with
    | 0 =>
      obtain ⟨F2, A2, _, q⟩ := Nw.freeze A n
      exact k v F2 H' A2 r (.of q rfl)
    | j + 1 => exact k v F' H' A r n
  | br m =>
    obtain ⟨F2, A2, _, q⟩ := Nw.freeze A n
    exact k v F2 H' A2 r (.of q rfl)
theorem se_lst {es : List Expr} {xs : List PD.X} (h : L2.PA X es (RdA w T E md xs (.fr (dmIn dm)))) (hl : xs.length ≤ cap) : L2.PE X (.List es pos) (RdE w T E md (.lst xs) dm) := by
  refine PE.imp (pe_lst h) fun σ H Q ⟨H0, F, env, s, t, q⟩ => ?_
  rw [ev] at q
  refine ⟨H0, F, env, s, t, (out_len q.bind).mono (fun ds s1 ⟨q, l⟩ vs F1 H1 A1 r1 w1 => ?_) fun _ _ _ z => z⟩
  have t1 := t.aft A1 r1
  have lv : ds.length = vs.length := by
    obtain ⟨fp, o, _⟩ := w1
    exact (All3.reps (H := H1) o fun d v f hf hp => hp.rep t1.hd.ex fun _ _ => rfl).length
  refine ⟨by rw [← lv, l]; exact cap_line hl, fun p hp => ?_⟩
  have hw := out_ads t1.hd.has hp
  exact q.pure.new1 (A1.trans (aft_new t1.hd.ex t1.hd.wf hp)) (w.loc t1.rel fun a ha => upd_ne fun z => hw (z ▸ ha)) (w1.list A1 hp hw)
/-- {} -/
theorem se_dic0 (h : L2.PE X (.Dict [] [] pos) tDNewT) (ok : newOk dm = true) : L2.PE X (.Dict [] [] pos) (RdE w T E md (.dic []) dm) := by
  refine PE.imp h fun σ H Q ⟨H0, F, env, s, t, q⟩ => ?_
  rw [ev, evs] at q
  intro p hp
  have hw := out_ads t.hd.has hp
  refine Kt.done (s' := s) (show Kt w s F H (.dict []) dm Q from q) t.rel ok _ F _ (aft_new t.hd.ex t.hd.wf hp) (fun a ha => upd_ne fun z => hw (z ▸ ha)) ⟨[p], ⟨p, [], rfl, .inr ⟨[], upd_same, rfl⟩, rfl⟩, by simp, fun a ha => ?_⟩
  obtain rfl : a = p := by simpa using ha
  exact ⟨hp, t.hd.ex.back hp, hw⟩

theorem t_bi {b : Bi} {xs : List PD.X} {σ : L2.St} {H : Hp} {Q : VK} (ok : newOk dm = true) (h : RdE w T E md (.bi b xs) dm σ H Q) : tCB (rB w (bi b)) (RdA w T E md xs (.br 1)) σ H Q := by
  obtain ⟨H0, F, env, s, t, q⟩ := h
  rw [ev] at q
  refine go_a t q fun ds vs s1 F1 H1 A1 t1 w1 q => ?_
  obtain ⟨z, e, k⟩ := q.ofO
  exact ⟨F1, ds, z, t1.hd, w1.its, e, (k.aft A1).done t1.rel ok⟩
theorem se_biB {b : Bi} {id : String} {x : Str} {e : Expr} {es : List Expr} {xs : List PD.X} {p : Pos} (hc : CallR X (.builtin id) (rB w (bi b))) (hg : Gl X x) (hm : X.mg x = none) (hv : bootBuiltins x = some (.builtin id)) (ha : L2.PA X (e :: es) (RdA w T E md xs (.br 1))) (ok : newOk dm = true)
    (hn : x ≠ "__name__") (hdb : (x == ("__debug__" : Str)) = false) (he : starEach (e :: es) X.env = (false, eval e X.env) :: starEach es X.env) (hpl : (backTo pos (starEach es X.env)).any (·.1) = false) :
    L2.PE X (.Call (.Name x p) (e :: es) [] pos) (RdE w T E md (.bi b xs) dm) := PE.imp (pe_callB hc hg hm hv ha hn hdb he hpl) fun _ _ _ => t_bi ok
theorem se_biT {b : Bi} {id : String} {x : Str} {e : Expr} {es : List Expr} {xs : List PD.X} {p : Pos} (hc : CallR X (.type id) (rB w (bi b))) (hg : Gl X x) (hm : X.mg x = none) (hv : bootBuiltins x = some (.type id)) (ha : L2.PA X (e :: es) (RdA w T E md xs (.br 1))) (ok : newOk dm = true)
    (hn : x ≠ "__name__") (hdb : (x == ("__debug__" : Str)) = false) (he : starEach (e :: es) X.env = (false, eval e X.env) :: starEach es X.env) (hpl : (backTo pos (starEach es X.env)).any (·.1) = false) :
    L2.PE X (.Call (.Name x p) (e :: es) [] pos) (RdE w T E md (.bi b xs) dm) := PE.imp (pe_callTy hc hg hm hv ha hn hdb he hpl) fun _ _ _ => t_bi ok
/-- isinstance(e, T) -/
theorem se_is {b : Bi} {ty : String} {x tn : Str} {e : Expr} {xe : PD.X} {p p2 : Pos} (hc : CallR X (.builtin "isinstance") (rIs w ty b)) (hg : Gl X x) (hm : X.mg x = none) (hv : bootBuiltins x = some (.builtin "isinstance"))
    (hg2 : Gl X tn) (hm2 : X.mg tn = none) (hv2 : bootBuiltins tn = some (.type ty)) (he : L2.PE X e (RdE w T E md xe (.br 1))) (ok : newOk dm = true)
    (hn : x ≠ "__name__") (hdb : (x == ("__debug__" : Str)) = false) (hn2 : tn ≠ "__name__") (hdb2 : (tn == ("__debug__" : Str)) = false) (hs : starEach [e, .Name tn p2] X.env = (false, eval e X.env) :: starEach [.Name tn p2] X.env) :
    L2.PE X (.Call (.Name x p) [e, .Name tn p2] [] pos) (RdE w T E md (.bi b [xe]) dm) := by
  have h2 : L2.PE X (.Name tn p2) (tC (.ty ty)) := pe_bltn hg2 hm2 hv2 rfl hn2 hdb2
  refine PE.imp (pe_callB hc hg hm hv (pa_cons he (pa_cons h2 pa_nil rfl) hs) hn hdb hs rfl) fun σ H Q ⟨H0, F, env, s, t, q⟩ => ?_
  rw [ev, evs] at q
  rw [bind_assoc] at q
  refine go_e t q fun d v s1 F1 H1 A1 t1 w1 q => ?_
  rw [evs] at q
  obtain ⟨z, e', k⟩ := Out.ofO (E := Xt w E F1 H1) (show Out ((ofO (PD.bi b [d]) : M w.W D) s1) _ _ from q)
  exact ⟨F1, d, z, v, rfl, t1.hd, w1.it, e', (k.aft A1).done t1.rel ok⟩
/-- methods that only look -/
def mtTy : Mt → String
  | .get => "dict"
  | .index => "list"
  | .count => "list"
theorem mt_tyV {m : Mt} {K : PySem.W.Frag} {F H : Hp} {d : D} {v : V} (hd : Hd w F H) (h : It1 w F H d v) (ok : mtOk m d = true) : tyV K (mtTy m) v H := by
  unfold mtOk at ok
  split at ok
  · cases ok
  · rename_i n
    obtain ⟨a, rfl, ⟨ps, h1, _⟩ | ⟨ps, h1, _⟩⟩ := h.dict hd.ex fun k z => n k z
    · exact .inr (.inr (.inl ⟨rfl, .inl ⟨ps, h1.1⟩⟩))
    · exact .inr (.inr (.inl ⟨rfl, .inr ⟨ps, h1⟩⟩))
  · obtain ⟨a, vs, rfl, h1, _⟩ := h.list hd.ex
    exact .inl ⟨rfl, vs, .inl (.inl h1)⟩
  · cases ok
theorem t_mt {m : Mt} {o : PD.X} {xs : List PD.X} {σ : L2.St} {H : Hp} {Q : VK} (ok : ixDm dm = true) (h : RdE w T E md (.mt m o xs) dm σ H Q) :
    tBM X.K (mtTy m) (rM w m) (RdE w T E md o (.br 1)) (RdA w T E md xs (.fr 0)) σ H Q := by
  obtain ⟨H0, F, env, s, t, q⟩ := h
  rw [ev] at q
  refine go_e t q fun d v s1 F1 H1 A1 t1 w1 q => ?_
  by_cases c : mtOk m d = true
  · rw [if_pos c] at q
    refine ⟨mt_tyV t1.hd w1.it c, go_a t1 q fun ds vs s2 F2 H2 A2 t2 w2 q => ?_⟩
    obtain ⟨z, e, k⟩ := q.ofO
    refine ⟨F2, d, ds, z, t2.hd, (w1.aft A2).it, w2.reps, e, fun v r => ((k.aft A1).aft A2).of t2.hd t2.rel r ?_⟩
    unfold frOk
    unfold ixDm at ok
    split at ok
    · rfl
    · cases ok
    · rfl
  · rw [if_neg c] at q
    exact q.elim
end
end PD
namespace PD
open PySem PySem.Spec PyProof.Rows L2

/-- a def that keeps its promise wherever no one looks into values by own rules (repr's guards are empty) -/
structure FnG (P : Program) (wd : World) (K : PySem.W.Frag) (mg : Str → Option Value) (base : Heap) (CX : CXT) (k : Nat) (f : Addr) (fd : FuncData) (ps : List Str) (sp : Sp) : Prop where
  len : ∀ vs H Q Ex, sp vs H Q Ex → vs.length = ps.length
  run : ∀ (A : Around) (outer : List PySem.Env) (s : Shared) (H : Hp) (args : Args) (us : List Value) (vs : List V) (Q : VK) (Ex : XK), A.guards = some [] → Room k A → Env0 P wd K mg base A outer s H →
    BindsTo s fd args (ps.zip us) → Vals vs us → sp vs H Q Ex → codeAny (model P wd) A (.call (.ref f) args) (CR CX outer P wd H s Q Ex) s
/-- what the def with the meaning g promises: xc tells of exceptions -/
def prom (w : Wd) (g : List D → M w.W D) (n rl : Nat) (xc : Nat → List V → Hp → XK → Prop) : Sp := fun vs H Q Ex => vs.length = n ∧ ∃ F s ds, Hd w F H ∧ w.rel s H ∧ Reps w.tk F ds vs ∧
  Out (g ds s) (fun d s' => Kt w s' F H d (.fr rl) Q) (Xt w (fun c xs H' => xc c xs H' Ex) F H)

theorem vals_get {vs : List V} {us : List Value} (r : Vals vs us) : ∀ i : Nat, (vs[i]? = none ∧ us[i]? = none) ∨ ∃ v u, vs[i]? = some v ∧ us[i]? = some u ∧ RelV v u := by
  induction r with
  | nil => exact fun i => .inl ⟨by simp, by simp⟩
  | cons h r ih =>
    intro i
    cases i with
    | zero => exact .inr ⟨_, _, by simp, by simp, h⟩
    | succ i => simpa using ih i
theorem vals_perm {vs : List V} {us : List Value} (r : Vals vs us) (p : List Nat) : Vals (permL p vs) (permL p us) := by
  induction p with
  | nil => exact .nil
  | cons i p ih =>
    unfold permL
    rw [List.filterMap_cons, List.filterMap_cons]
    rcases vals_get r i with ⟨e1, e2⟩ | ⟨v, u, e1, e2, q⟩
    · rw [e1, e2]
      exact ih
    · rw [e1, e2]
      exact .cons q ih
theorem reps_perm {tk : Int → Option V} {F : Hp} {ds : List D} {vs : List V} (r : Reps tk F ds vs) (p : List Nat) : Reps tk F (permL p ds) (permL p vs) := by
  induction p with
  | nil => exact .nil
  | cons i p ih =>
    unfold permL
    rw [List.filterMap_cons, List.filterMap_cons]
    cases e : ds[i]? with
    | none =>
      cases e2 : vs[i]? with
      | none => exact ih
      | some v =>
        obtain ⟨d, q, _⟩ := r.get' e2
        rw [e] at q
        cases q
    | some d =>
      obtain ⟨v, e2, q⟩ := r.get e
      rw [e2]
      exact .cons q ih
/-- how a call binds: n values by position, keywords ks; p: the order of the parameters -/
structure Shape where
  n : Nat
  ks : List Str
  p : List Nat
def Bd (K : PySem.W.Frag) (fd : FuncData) (ps : List Str) (sh : Shape) : Prop :=
  ∀ (s : Shared) (us ws : List Value), K.In s.heap → us.length = sh.n → ws.length = sh.ks.length → BindsTo s fd ⟨us, sh.ks.zip ws⟩ (ps.zip (permL sh.p (us ++ ws)))
/-- results as they are wanted -/
def retOk (rl : Nat) : Dm → Bool
  | .fr 0 => true
  | .fr k => k == rl
  | .br _ => true
theorem Kt.lift {w : Wd} {s : w.W} {F H : Hp} {d : D} {dm : Dm} {rl : Nat} {Q : VK} (k : Kt w s F H d dm Q) (ok : retOk rl dm = true) : Kt w s F H d (.fr rl) Q := fun v F' H' A r n => by
  cases dm with
  | fr j =>
    cases j with
    | zero =>
      obtain ⟨F2, A2, _, q⟩ := Nw.freeze A n
      exact k v F2 H' A2 r (.of q rfl)
    | succ j =>
      obtain rfl : j + 1 = rl := by simpa [retOk] using ok
      exact k v F' H' A r n
  | br m =>
    obtain ⟨F2, A2, _, q⟩ := Nw.freeze A n
    exact k v F2 H' A2 r (.of q rfl)

section
variable {w : Wd} {T : List (List D → M w.W D)} {E : XE} {md : List (Option Nat)} {X : Cx} {dm : Dm} {pos : Pos}
/-- what is known of a def that is called -/
def FnF (w : Wd) (E : XE) (X : Cx) (x : Str) (g : List D → M w.W D) (rl : Nat) (shs : List Shape) : Prop :=
  ∃ (f : Addr) (fd : FuncData) (k n : Nat) (ps : List Str) (CX : CXT) (xc : Nat → List V → Hp → XK → Prop) (Ex : XK), X.mg x = some (.ref f) ∧ PySem.W.keepIn X.K (.ref f) = true ∧ Room k X.A ∧
    FnG X.prog X.w X.K X.mg X.base CX k f fd ps (prom w g n rl xc) ∧ Passes CX X Ex ∧ (∀ c vs H, E c vs H → xc c vs H Ex) ∧ (∀ st H s e s', CX st H s (fun _ _ _ => False) e s' → False) ∧ n = ps.length ∧ ∀ sh ∈ shs, Bd X.K fd ps sh ∧ sh.p.length = n ∧ (∀ i ∈ sh.p, i < sh.n + sh.ks.length)
theorem perm_len {α : Type} {p : List Nat} {l : List α} (h : ∀ i ∈ p, i < l.length) : (permL p l).length = p.length := by
  induction p with
  | nil => rfl
  | cons i p ih =>
    unfold permL
    rw [List.filterMap_cons, List.getElem?_eq_getElem (h i (by simp))]
    exact congrArg (· + 1) (ih fun j hj => h j (List.mem_cons_of_mem _ hj))
/-- the callee runs -/
theorem run_g {sp : Sp} {f : Addr} {fd : FuncData} {k : Nat} {ps : List Str} {CX : CXT} {Ex : XK} {sh : Shape} {pins : List (Addr × Obj)} {σ : L2.St} {H : Hp} {s : Shared} {Q : VK} {us zs : List Value} {vs xs : List V}
    (hg0 : X.A.guards = some []) (hr : Room k X.A) (G : FnG X.prog X.w X.K X.mg X.base CX k f fd ps sp) (hx : Passes CX X Ex) (b : Bd X.K fd ps sh)
    (I : L2.Inv X pins σ H s) (r1 : Vals vs us) (r2 : Vals xs zs) (l1 : vs.length = sh.n) (l2 : xs.length = sh.ks.length) (q : sp (permL sh.p (vs ++ xs)) H Q Ex) :
    wpAny (model X.prog X.w) X.A (call (.ref f) us (sh.ks.zip zs)) (EP X pins σ Q) X.xe s := by
  have bb := b s us zs I.kIn (r1.length.symm.trans l1) (r2.length.symm.trans l2)
  refine wpAny_call (codeAny_mono (G.run X.A X.stack s H _ _ _ Q Ex hg0 hr I.env0 bb (vals_perm (r1.append r2) sh.p) q) fun res s2 hq => ?_)
  match res, hq with
  | .error e, hq => exact hx pins σ H s e s2 I hq
  | .ok (.ret u), hq => exact I.after hq
  | .ok .next, hq => exact hq.elim
  | .ok .brk, hq => exact hq.elim
  | .ok .cont, hq => exact hq.elim
/-- a reading for a call's values: first by position, then by name -/
def tCl (sp : Sp) (sh : Shape) (Ex : XK) (t tk : TA) : TE := fun σ H Q => t σ H fun vs H1 => tk σ H1 fun xs H2 => vs.length = sh.n ∧ xs.length = sh.ks.length ∧ sp (permL sh.p (vs ++ xs)) H2 Q Ex
section
variable {x : Str} {sp : Sp} {f : Addr} {fd : FuncData} {k : Nat} {ps : List Str} {CX : CXT} {Ex : XK} {sh : Shape} {p : Pos} {kws : List Keyword} {t tk : TA}
    (hg0 : X.A.guards = some []) (hr : Room k X.A) (G : FnG X.prog X.w X.K X.mg X.base CX k f fd ps sp) (hx : Passes CX X Ex) (b : Bd X.K fd ps sh) (hg : Gl X x) (hm : X.mg x = some (.ref f)) (hk : PySem.W.keepIn X.K (.ref f) = true) (hdb : (x == ("__debug__" : Str)) = false)
    (hall : (backToKw pos (keywordEach kws X.env)).all (·.1.isSome) = true) (hks : (backToKw pos (keywordEach kws X.env)).filterMap (·.1) = sh.ks)
include hg0 hr G hx b hg hm hk hdb hall hks
theorem pe_cl {e : Expr} {es : List Expr} (ha : L2.PA X (e :: es) t) (hw : L2.PK X kws tk) (he : starEach (e :: es) X.env = (false, eval e X.env) :: starEach es X.env)
    (hpl : ((backTo pos (starEach (e :: es) X.env)).any (·.1) || (backToKw pos (keywordEach kws X.env)).any (·.1.isNone)) = false) : L2.PE X (.Call (.Name x p) (e :: es) kws pos) (tCl sp sh Ex t tk) := by
  constructor
  intro pins s σ H Q I h
  refine wpAny_Call_Name_kw (ld_glob I hg hm (PySem.W.callWith_KW (h₀ := X.base) I.ok.mod.kin hk hall (thn (ha.run pos pins s σ H _ I h) fun us s1 ⟨vs, H1, I1, r, q⟩ => thn (hw.run pos pins s1 σ H1 _ I1 q) fun zs s2 ⟨xs, H2, I2, r2, l1, l2, q2⟩ => ⟨I2.kIn, ?_⟩) hpl he) hdb)
  rw [hks]
  exact run_g hg0 hr G hx b I2 r r2 l1 l2 q2
theorem pe_cl0 (hw : L2.PK X kws tk) (hpl : ((backTo pos (starEach [] X.env)).any (·.1) || (backToKw pos (keywordEach kws X.env)).any (·.1.isNone)) = false) : L2.PE X (.Call (.Name x p) [] kws pos) (tCl sp sh Ex tNil tk) := by
  constructor
  intro pins s σ H Q I h
  refine wpAny_Call_Name_kw (ld_glob I hg hm (PySem.W.callWith_KW0 (h₀ := X.base) I.ok.mod.kin hk hall (thn (hw.run pos pins s σ H _ I h) fun zs s2 ⟨xs, H2, I2, r2, l1, l2, q2⟩ => ⟨I2.kIn, ?_⟩) hpl) hdb)
  rw [hks]
  exact run_g (us := []) (vs := []) hg0 hr G hx b I2 .nil r2 l1 l2 q2
end
theorem kwAll {env : PySem.Env} {kws : List Keyword} (h : kws.all (·.arg.isSome) = true) : (backToKw pos (keywordEach kws env)).all (·.1.isSome) = true ∧ (backToKw pos (keywordEach kws env)).filterMap (·.1) = kws.filterMap (·.arg) ∧ (backToKw pos (keywordEach kws env)).any (·.1.isNone) = false := by
  induction kws with
  | nil => exact ⟨rfl, rfl, rfl⟩
  | cons kw kws ih =>
    obtain ⟨nm, e, kp⟩ := kw
    rw [List.all_cons, Bool.and_eq_true] at h
    cases nm with
    | none => cases h.1
    | some nm =>
      obtain ⟨i1, i2, i3⟩ := ih h.2
      refine ⟨?_, ?_, ?_⟩
      · show (true && _) = true
        exact i1
      · exact congrArg (nm :: ·) i2
      · show (false || _) = false
        exact i3
/-- the meaning of a call -/
theorem t_call {g : List D → M w.W D} {rl n : Nat} {xc : Nat → List V → Hp → XK → Prop} {Ex : XK} {sh : Shape} {i : Nat} {xs ys : List PD.X} {σ : L2.St} {H : Hp} {Q : VK}
    (ht : T[i]? = some g) (hxc : ∀ c vs H, E c vs H → xc c vs H Ex) (l1 : xs.length = sh.n) (l2 : ys.length = sh.ks.length) (hn : sh.p.length = n) (hp : ∀ j ∈ sh.p, j < sh.n + sh.ks.length) (ok : retOk rl dm = true)
    (h : RdE w T E md (.callk i (xs ++ ys) sh.p) dm σ H Q) : tCl (prom w g n rl xc) sh Ex (RdA w T E md xs (.fr 0)) (RdA w T E md ys (.fr 0)) σ H Q := by
  obtain ⟨H0, F, env, s, t, q⟩ := h
  rw [ev, evs_append, bind_assoc] at q
  refine ⟨H0, F, env, s, t, (out_len q.bind).mono (fun ds s1 ⟨q, e1⟩ vs F1 H1 A1 r1 w1 => ?_) fun _ _ _ z => z⟩
  have t1 := t.aft A1 r1
  rw [bind_assoc] at q
  refine ⟨H0, F1, env, s1, t1, (out_len q.bind).mono (fun es s2 ⟨q, e2⟩ us F2 H2 A2 r2 w2 => ?_) fun _ _ _ z => z.aft A1⟩
  have t2 := t1.aft A2 r2
  rw [pure_bind, ht] at q
  have ra := w1.reps.mono A2.ext
  have rb := w2.reps
  have la : vs.length = sh.n := by rw [← ra.length, e1, l1]
  have lb : us.length = sh.ks.length := by rw [← rb.length, e2, l2]
  refine ⟨la, lb, ?_, F2, s2, permL sh.p (ds ++ es), t2.hd, t2.rel, reps_perm (ra.append rb) sh.p, q.mono (fun d s' k => ((k.aft A1).aft A2).lift ok) fun c as s' z vs' F' H' B r h => hxc _ _ _ ((z.aft A1).aft A2 vs' F' H' B r h)⟩
  rw [perm_len (fun j hj => by rw [List.length_append, la, lb]; exact hp j hj), hn]
/-- f(e, .., k = v, ..) -/
theorem se_call {x : Str} {g : List D → M w.W D} {rl : Nat} {shs : List Shape} {sh : Shape} {i : Nat} {e : Expr} {es : List Expr} {kws : List Keyword} {xs ys : List PD.X} {p : Pos} (hg0 : X.A.guards = some []) (fn : FnF w E X x g rl shs) (hs : sh ∈ shs) (hg : Gl X x) (ht : T[i]? = some g)
    (hkw : kws.all (·.arg.isSome) = true) (hks : kws.filterMap (·.arg) = sh.ks) (l1 : xs.length = sh.n) (l2 : ys.length = sh.ks.length) (ok : retOk rl dm = true) (hdb : (x == ("__debug__" : Str)) = false)
    (ha : L2.PA X (e :: es) (RdA w T E md xs (.fr 0))) (hw : L2.PK X kws (RdA w T E md ys (.fr 0))) (he : starEach (e :: es) X.env = (false, eval e X.env) :: starEach es X.env) (hpl : (backTo pos (starEach (e :: es) X.env)).any (·.1) = false) :
    L2.PE X (.Call (.Name x p) (e :: es) kws pos) (RdE w T E md (.callk i (xs ++ ys) sh.p) dm) := by
  obtain ⟨f, fd, k, n, ps, CX, xc, Ex, hm, hk, hr, G, hx, hxc, _, hn, hb⟩ := fn
  obtain ⟨b, pl, pb⟩ := hb sh hs
  obtain ⟨k1, k2, k3⟩ := kwAll (env := X.env) (pos := pos) hkw
  refine PE.imp (pe_cl hg0 hr G hx b hg hm hk hdb k1 (k2.trans hks) ha hw he (by rw [hpl, k3]; rfl)) fun σ H Q h => t_call ht hxc l1 l2 pl pb ok h
theorem se_call0 {x : Str} {g : List D → M w.W D} {rl : Nat} {shs : List Shape} {sh : Shape} {i : Nat} {kws : List Keyword} {ys : List PD.X} {p : Pos} (hg0 : X.A.guards = some []) (fn : FnF w E X x g rl shs) (hs : sh ∈ shs) (hg : Gl X x) (ht : T[i]? = some g)
    (hkw : kws.all (·.arg.isSome) = true) (hks : kws.filterMap (·.arg) = sh.ks) (l1 : 0 = sh.n) (l2 : ys.length = sh.ks.length) (ok : retOk rl dm = true) (hdb : (x == ("__debug__" : Str)) = false)
    (hw : L2.PK X kws (RdA w T E md ys (.fr 0))) : L2.PE X (.Call (.Name x p) [] kws pos) (RdE w T E md (.callk i ([] ++ ys) sh.p) dm) := by
  obtain ⟨f, fd, k, n, ps, CX, xc, Ex, hm, hk, hr, G, hx, hxc, _, hn, hb⟩ := fn
  obtain ⟨b, pl, pb⟩ := hb sh hs
  obtain ⟨k1, k2, k3⟩ := kwAll (env := X.env) (pos := pos) hkw
  refine PE.imp (pe_cl0 hg0 hr G hx b hg hm hk hdb k1 (k2.trans hks) hw (by rw [k3]; rfl)) fun σ H Q h => ta_nil (t_call (xs := []) ht hxc l1 l2 pl pb ok h)
end
end PD
namespace PD
open PySem PySem.Spec PyProof.Rows L2
open Sem (wp)

theorem meets_enum1 {v : Value} {o : Obj} {G : Heap → Prop} (B : Begins v o G) :
    Meets (Builtin.«enumerate.__new__» ⟨[.type "enumerate", v], []⟩) (fun _ R s => G s.heap ∧
      R (.ok (.ret (.ref (s.heap.push o).objs.size))) { s with heap := (s.heap.push o).push { cls := .type "enumerate", data := .fields #[.none, .bool false, .ref s.heap.objs.size, rawInt 0, .none, .none] } }) :=
  .of_wp fun prog w A R s hh => by
    obtain ⟨hp, g, d, tk, os⟩ := s
    obtain ⟨g1, hR⟩ := hh
    have hsub := sub_enumerate
    have qi : ∀ {A' : Around} {E : Value → Shared → Prop} {Q : Value → Shared → Prop}, Q (.ref hp.objs.size) ⟨hp.push o, g, d, tk, os⟩ → wpAny (model prog w) A' (pyIter v) Q E ⟨hp, g, d, tk, os⟩ :=
      fun z => B.iter prog w _ _ ⟨hp, g, d, tk, os⟩ _ g1 z
    wp_walk using qi
    refine wpAny_stack_any fun _ => wpAny_pure ?_
    split
    · rename_i c _ _ _ _ _
      cases (c == Value.type "enumerate")
      · wp_walk using qi
        exact ⟨_, rfl, hR⟩
      · wp_walk using qi
        exact ⟨_, rfl, hR⟩
    · wp_walk using qi
      exact ⟨_, rfl, hR⟩
section
variable {prog : Program} {wd : World} {A : Around} {E : Value → Shared → Prop} {s : Shared}
theorem call_enum1 {v : Value} {o : Obj} {G : Heap → Prop} {Q : Value → Shared → Prop} (B : Begins v o G) (g1 : G s.heap)
    (hQ : ∀ h', IsEnum h' (s.heap.objs.size + 1) s.heap.objs.size 0 .none → h'.get? s.heap.objs.size = some o → h'.objs.size = s.heap.objs.size + 2 →
      (∀ b u, s.heap.get? b = some u → h'.get? b = some u) → Q (.ref (s.heap.objs.size + 1)) { s with heap := h' }) :
    wpAny (model prog wd) A (call (.type "enumerate") [v]) Q E s := by
  refine callType_new F.called_enumerate (by decide) (F.typeCall_enumerate_1 _) (F.newCall_enumerate_1 _) (fun obj => F.args_object_init_2 obj _) F.entry_enumerate_new (meets_enum1 B) ⟨g1, ?_⟩
  have z1 : (s.heap.push o).objs.size = s.heap.objs.size + 1 := Heap.size_push ..
  show _ ∧ _
  rw [z1]
  have e1 := Heap.get?_push_size (s.heap.push o) (o := { cls := .type "enumerate", data := .fields #[.none, .bool false, .ref s.heap.objs.size, rawInt 0, .none, .none] }) rfl
  rw [z1] at e1
  exact ⟨⟨_, e1, rfl⟩, hQ _ e1 (Heap.get?_push_of_some _ (Heap.get?_push_size _ B.free)) (by rw [Heap.size_push, z1]) fun b u x => Heap.get?_push_of_some _ (Heap.get?_push_of_some _ x)⟩
end
/-- the tuple at a, each item in a new pair with its number -/
def IteT (K : PySem.W.Frag) (a : Addr) : L2.It where
  go := fun i H => ∃ (xs : List V) (x : V), SqT K H a xs ∧ xs[i]? = some x
  yld := fun i H v H' => ∃ T x, v = .ref T ∧ H T = none ∧ H' = upd H T (.tup [.int (i : Nat), x]) ∧ ∀ xs, SqT K H a xs → xs[i]? = some x
  stop := fun i H => ∃ xs : List V, SqT K H a xs ∧ xs.length = i
theorem turn_enumT {P : Program} {wd : World} {K : PySem.W.Frag} {elts : List Expr} {kk : Nat} {tpos : Pos} (a e it : Addr) :
    Turn P wd K (.Tuple elts kk tpos) (IteT K a) [e, it] e (fun i h => (∃ old, IsEnum h e it ((i : Nat) : Int) old) ∧ h.IsTupleIter it a i ∧ e ≠ it ∧ a ≠ it ∧ a ≠ e) := by
  have two : ∀ {b : Addr}, b ∈ [e, it] → b = e ∨ b = it := fun {b} h => by simpa using h
  refine ⟨by simp, fun i h ⟨⟨old, he⟩, ⟨o, ho, hc, hd⟩, _⟩ b hb => ?_, fun i h h' ⟨⟨old, he⟩, hi, n1, n2⟩ k => ⟨⟨old, k e (by simp) _ he⟩, hi.at fun o q => k it (by simp) o q, n1, n2⟩, ?_, ?_, fun A i s Q E ⟨⟨_, he⟩, _⟩ h => wpAny_pyIter_enum he h⟩
  · rcases two hb with z | z
    · exact z ▸ ⟨_, he, fun v q => nomatch q⟩
    · exact z ▸ ⟨o, ho, fun v q => by rw [hd] at q; cases q⟩
  · intro X hP hw hK hc i pins s σ H E I hf ⟨⟨old, he⟩, hit, n1, n2, n3⟩ ⟨xs, x, hq, hx⟩
    subst hP hw hK
    obtain ⟨its, rv, p, hz⟩ := I.tuple hq
    obtain ⟨u, hu, ru⟩ := rv.get hx
    have le : e < s.heap.objs.size := Heap.lt_size he
    have li : it < s.heap.objs.size := by
      obtain ⟨_, q, _⟩ := hit
      exact Heap.lt_size q
    have lt : i < its.toArray.size := by
      have z : its.toArray[i]? = some u := by simpa using hu
      exact (Array.getElem?_eq_some_iff.mp z).1
    refine wpAny_pyNext_enum_itemD (Draws.tuple (A := X.A.in1) (I.ok.hd hc) it a n2 its.toArray) he ⟨hit, p⟩ lt n1 (by simp [n1, Ne.symm n3]) fun y h' tk hy ho ⟨hit', _⟩ hT hsz hk => ?_
    obtain rfl : u = y := by
      have z : its.toArray[i]? = some u := by simpa using hu
      rw [z] at hy
      exact Option.some.inj hy
    refine ⟨_, rfl, wpAny_letOwnedTupleGo_enum (s := { s with heap := h', toks := tk + 1 }) ho fun h2 he2 sb => ?_⟩
    have hT2 : h2.get? s.heap.objs.size = some { cls := .type "tuple", data := .seq #[.int i tk, u] } := (sb.2 _ (Nat.ne_of_gt le)).trans hT
    have nw : ObjOk X.prog X.w (upd H s.heap.objs.size (.tup [.int (i : Nat), x])) h2 s.heap.objs.size (.tup [.int (i : Nat), x]) :=
      ⟨by show 2 ≤ sizeLine; decide, [.int i tk, u], .cons ⟨_, rfl⟩ (.cons ru .nil), ⟨_, hT2, rfl, _, rfl⟩⟩
    have I1 : L2.Inv X pins σ (upd H s.heap.objs.size (.tup [.int (i : Nat), x])) { s with heap := h2, toks := tk + 1 } := by
      refine I.turnedNew (ch := [e, it]) (fun b o hb q => ?_) hf (Nat.le_refl _) nw
      have b1 : b ≠ e := fun z => hb (by simp [z])
      have b2 : b ≠ it := fun z => hb (by simp [z])
      exact (sb.2 b b1).trans (hk b o b1 b2 q)
    refine ⟨.ref s.heap.objs.size, _, I1, rfl, ⟨_, x, rfl, I.hok.fresh (Nat.le_refl _), rfl, fun ys hy => by rw [I.tuple_inj hy hq]; exact hx⟩, ⟨⟨u, ?_⟩, hit'.at fun o q => (sb.2 it (Ne.symm n1)).trans q, n1, n2, n3⟩, fun b hb => ?_⟩
    · rw [show ((i + 1 : Nat) : Int) = (i : Int) + 1 by omega]
      exact he2
    · have lb : b < s.heap.objs.size := by
        rcases two hb with z | z
        · exact z ▸ le
        · exact z ▸ li
      rw [upd_ne (Nat.ne_of_lt lb)]
      exact (hf b hb).1
  · intro X hP hw hK hc i pins s σ H E I hf ⟨⟨old, he⟩, hit, n1, n2, n3⟩ ⟨xs, hq, hx⟩
    subst hP hw hK
    obtain ⟨its, rv, p, hz⟩ := I.tuple hq
    obtain ⟨f0, f1, f2, f3, f4, f5⟩ := hf it (by simp)
    have ls : its.toArray.size = i := by
      rw [← hx, rv.length]
      simp
    exact wpAny_pyNext_enum_endD (Draws.tuple (A := X.A.in1) (I.ok.hd hc) it a n2 its.toArray) he ⟨by rw [ls]; exact hit, p⟩ fun h' eb => ⟨rfl, I.turned (t' := s.toks) (fun b o hb q => eb b o hb q) f0 f1 f3 f4 f5⟩
def iEnumT (K : PySem.W.Frag) (ta : TA) : TI := fun σ H R => ta σ H fun vs H1 => ∃ a xs, vs = [.ref a] ∧ SqT K H1 a xs ∧ R (IteT K a) H1
theorem pi_enumT {X : Cx} {e : Expr} {ta : TA} {p pos tpos : Pos} {elts : List Expr} {kk : Nat} (hg : Gl X "enumerate") (hm : X.mg "enumerate" = none) (ha : L2.PA X [e] ta) (hs : starEach [e] X.env = [(false, eval e X.env)]) :
    L2.PI X (.Tuple elts kk tpos) (.Call (.Name "enumerate" p) [e] [] pos) (iEnumT X.K ta) := by
  constructor
  intro pins s σ H R I h
  refine Call_ (ld_blt I hg hm boot_enumerate (PyProof.Rows.callWith_type1 (thn (ha.run pos pins s σ H _ I h) fun us s1 ⟨vs, H1, I1, r1, a, xs, ex, hq, q⟩ => ?_) hs rfl))
  subst ex
  cases r1 with
  | cons r rr =>
    cases rr
    cases r
    obtain ⟨its, rv, p', hz⟩ := I1.tuple hq
    have la : a < s1.heap.objs.size := by
      obtain ⟨o, z, _⟩ := p'
      exact Heap.lt_size z
    refine call_enum1 (begins_tuple a its.toArray) p' fun h' he hit hsz hk => wpAny_pyIter_enum he ?_
    have I2 : L2.Inv X pins σ H1 { s1 with heap := h' } := I1.kept (t' := s1.toks) hk
    refine ⟨s1.heap.objs.size + 1, [s1.heap.objs.size + 1, s1.heap.objs.size], _, _, H1, rfl, I2, turn_enumT a (s1.heap.objs.size + 1) s1.heap.objs.size, ⟨⟨.none, he⟩, ⟨_, hit, rfl, rfl⟩, Nat.succ_ne_self _, Nat.ne_of_lt la, Nat.ne_of_lt (Nat.lt_succ_of_lt la)⟩, fun b hb => ?_, q⟩
    have le : s1.heap.objs.size ≤ b := by
      rcases (show b = s1.heap.objs.size + 1 ∨ b = s1.heap.objs.size by simpa using hb) with z | z
      · exact z ▸ Nat.le_succ _
      · exact z ▸ Nat.le_refl _
    exact I1.fpOk le (I1.hok.fresh le)
end PD
namespace PD
open PySem PySem.Spec PyProof.Rows L2

theorem getV_set {env : Env} {i j : Nat} {d x : D} (h : getV (env.set i (some d)) j = some x) : (j = i ∧ x = d ∧ i < env.length) ∨ (j ≠ i ∧ getV env j = some x) := by
  unfold getV at h ⊢
  by_cases e : j = i
  · subst e
    by_cases l : j < env.length
    · rw [List.getElem?_set_self l] at h
      exact .inl ⟨rfl, (Option.some.inj h).symm, l⟩
    · rw [List.getElem?_eq_none (by simpa using l)] at h
      cases h
  · rw [List.getElem?_set_ne (Ne.symm e)] at h
    exact .inr ⟨e, h⟩
theorem md_set {md : List (Option Nat)} {i j k k' : Nat} (h : (md.set i (some k))[j]? = some (some k')) : (j = i ∧ k' = k) ∨ (j ≠ i ∧ md[j]? = some (some k')) := by
  by_cases e : j = i
  · subst e
    by_cases l : j < md.length
    · rw [List.getElem?_set_self l] at h
      exact .inl ⟨rfl, ((Option.some.inj (Option.some.inj h))).symm⟩
    · rw [List.getElem?_eq_none (by simpa using l)] at h
      cases h
  · rw [List.getElem?_set_ne (Ne.symm e)] at h
    exact .inr ⟨e, h⟩
section
variable {w : Wd} {H0 F H F1 H1 F2 H2 : Hp} {md : List (Option Nat)} {env : Env} {s s1 : w.W} {σ : L2.St} {d : D} {v : V} {i k m : Nat}
/-- a frozen value in a slot -/
theorem At.set (t : At w H0 md env s σ F H) (h : Rep w.tk F d v) : At w H0 (md.set i (some 0)) (env.set i (some d)) s (σ.set i (some v)) F H := by
  obtain ⟨fps, c1, c2, c3, c4⟩ := t.cn
  refine ⟨t.hd, t.rel, by rw [List.length_set, List.length_set, t.len], fun j => if j = i then [] else fps j, fun j k' x hm hx => ?_, fun j => ?_, fun j l a n ha => ?_, fun j a ha => ?_⟩
  · rcases getV_set hx with ⟨rfl, rfl, l⟩ | ⟨e, q⟩
    · rcases md_set hm with ⟨_, rfl⟩ | ⟨e, _⟩
      · refine ⟨v, by rw [List.getElem?_set_self (by rw [t.len]; exact l)], ?_⟩
        show Own w.tk F H 0 x v (if j = j then [] else fps j)
        rw [if_pos rfl]
        exact ⟨rfl, h⟩
      · exact absurd rfl e
    · rcases md_set hm with ⟨e', _⟩ | ⟨_, hm⟩
      · exact absurd e' e
      · obtain ⟨y, e1, e2⟩ := c1 j k' x hm q
        refine ⟨y, by rw [List.getElem?_set_ne (Ne.symm e), e1], ?_⟩
        show Own w.tk F H k' x y (if j = i then [] else fps j)
        rw [if_neg e]
        exact e2
  · show List.Nodup (if j = i then [] else fps j)
    split
    · exact List.nodup_nil
    · exact c2 j
  · revert ha
    show a ∈ (if j = i then [] else fps j) → a ∉ (if l = i then [] else fps l)
    split
    · intro z
      cases z
    · split
      · exact fun _ z => nomatch z
      · exact c3 j l a n
  · revert ha
    show a ∈ (if j = i then [] else fps j) → _
    split
    · intro z
      cases z
    · exact c4 j a
/-- what is new in a slot -/
theorem At.put (t : At w H0 md env s1 σ F1 H1) (b0 : ∀ a, a ∉ w.ads → H1 a = none → H0 a = none) (A : Aft w F1 H1 F H) (r : w.rel s H) (h : Nw w H1 F H k d v) : At w H0 (md.set i (some k)) (env.set i (some d)) s (σ.set i (some v)) F H := by
  have t2 := t.aft A r
  obtain ⟨fps, c1, c2, c3, c4⟩ := t.cn
  obtain ⟨fp, h1, h2, h3⟩ := h
  have old : ∀ j, ∀ a ∈ fps j, a ∉ fp := fun j a ha z => by
    obtain ⟨_, _, _, o, q, _⟩ := c4 j a ha
    rw [(h3 a z).1] at q
    cases q
  refine ⟨t2.hd, t2.rel, by rw [List.length_set, List.length_set, t.len], fun j => if j = i then fp else fps j, fun j k' x hm hx => ?_, fun j => ?_, fun j l a n ha => ?_, fun j a ha => ?_⟩
  · rcases getV_set hx with ⟨rfl, rfl, l⟩ | ⟨e, q⟩
    · rcases md_set hm with ⟨_, rfl⟩ | ⟨e, _⟩
      · refine ⟨v, by rw [List.getElem?_set_self (by rw [t.len]; exact l)], ?_⟩
        show Own w.tk F H k' x v (if j = j then fp else fps j)
        rw [if_pos rfl]
        exact h1
      · exact absurd rfl e
    · rcases md_set hm with ⟨e', _⟩ | ⟨_, hm⟩
      · exact absurd e' e
      · obtain ⟨y, e1, e2⟩ := c1 j k' x hm q
        refine ⟨y, by rw [List.getElem?_set_ne (Ne.symm e), e1], ?_⟩
        show Own w.tk F H k' x y (if j = i then fp else fps j)
        rw [if_neg e]
        exact own_aft A e2 fun a ha => (c4 j a ha).2.1
  · show List.Nodup (if j = i then fp else fps j)
    split
    · exact h2
    · exact c2 j
  · revert ha
    show a ∈ (if j = i then fp else fps j) → a ∉ (if l = i then fp else fps l)
    by_cases e : j = i
    · rw [if_pos e, if_neg fun z => n (e.trans z.symm)]
      exact fun ha hb => old l a hb ha
    · rw [if_neg e]
      by_cases e2 : l = i
      · rw [if_pos e2]
        exact fun ha => old j a ha
      · rw [if_neg e2]
        exact c3 j l a n
  · revert ha
    show a ∈ (if j = i then fp else fps j) → _
    by_cases e : j = i
    · rw [if_pos e]
      intro ha
      obtain ⟨o, q⟩ := h1.there a ha
      exact ⟨(h3 a ha).2.1, (h3 a ha).2.2, b0 a (h3 a ha).2.2 (h3 a ha).1, o, q, fun xs z => h1.node a ha xs (by rw [q, z])⟩
    · rw [if_neg e]
      intro ha
      obtain ⟨f1, f2, f3, o, f4, f5⟩ := c4 j a ha
      refine ⟨?_, f2, f3, o, A.keep a o f2 f4, f5⟩
      cases q : F a with
      | none => rfl
      | some u =>
        rcases A.new a (by rw [q]; exact fun z => nomatch z) with y | y | ⟨xs, y⟩
        · exact absurd f1 y
        · rw [f4] at y
          cases y
        · rw [f4] at y
          cases y
          exact absurd rfl (f5 xs)
/-- slots forgotten -/
theorem At.weak {md' : List (Option Nat)} (t : At w H0 md env s σ F H) (h : ∀ (j k : Nat), md'[j]? = some (some k) → md[j]? = some (some k)) : At w H0 md' env s σ F H := by
  obtain ⟨fps, c1, c⟩ := t.cn
  exact ⟨t.hd, t.rel, t.len, fps, fun j k x hm hx => c1 j k x (h j k hm) hx, c⟩
/-- a slot frozen -/
theorem At.freeze {F0 : Hp} {k0 : Nat} (t : At w H0 md env s σ F H) (A0 : Aft w F0 H0 F H) (i : Nat) (hi : md[i]? = some (some k0)) : ∃ F', Ex F F' ∧ Aft w F0 H0 F' H ∧ At w H0 (md.set i (some 0)) env s σ F' H ∧ (∀ a, F' a ≠ none → F a ≠ none ∨ H0 a = none) := by
  obtain ⟨fps, c1, c2, c3, c4⟩ := t.cn
  have n : ∀ a ∈ fps i, F a = none := fun a ha => (c4 i a ha).1
  have ex : Ex F (frz F H (fps i)) := frz_ex n
  have wf : ∀ a ∈ w.ads, frz F H (fps i) a = none := fun a ha => by
    rw [frz_out fun q => (c4 i a q).2.1 ha]
    exact t.hd.wf a ha
  have nw : ∀ a, frz F H (fps i) a ≠ none → F a ≠ none ∨ H0 a = none := fun a ha => by
    by_cases q : a ∈ fps i
    · exact .inr (c4 i a q).2.2.1
    · rw [frz_out q] at ha
      exact .inl ha
  refine ⟨frz F H (fps i), ex, ⟨A0.ext.trans ex, frz_sub A0.sub, A0.keep, fun a ha => (nw a ha).elim (A0.new a) fun z => .inr (.inl z), wf⟩, ⟨⟨frz_sub t.hd.ex, wf, t.hd.has⟩, t.rel, t.len, fun j => if j = i then [] else fps j, fun j k' x hm hx => ?_, fun j => ?_, fun j l a n ha => ?_, fun j a ha => ?_⟩, nw⟩
  · show ∃ v, σ[j]? = some (some v) ∧ Own w.tk (frz F H (fps i)) H k' x v (if j = i then [] else fps j)
    rcases md_set hm with ⟨rfl, rfl⟩ | ⟨e, hm⟩
    · obtain ⟨v, e1, e2⟩ := c1 j k0 x hi hx
      rw [if_pos rfl]
      exact ⟨v, e1, rfl, e2.frz n⟩
    · obtain ⟨v, e1, e2⟩ := c1 j k' x hm hx
      rw [if_neg e]
      exact ⟨v, e1, e2.mono ex fun a ha => rfl⟩
  · show List.Nodup (if j = i then [] else fps j)
    split
    · exact List.nodup_nil
    · exact c2 j
  · revert ha
    show a ∈ (if j = i then [] else fps j) → a ∉ (if l = i then [] else fps l)
    split
    · intro z
      cases z
    · split
      · exact fun _ z => nomatch z
      · exact c3 j l a n
  · revert ha
    show a ∈ (if j = i then [] else fps j) → _
    by_cases e : j = i
    · rw [if_pos e]
      intro z
      cases z
    · rw [if_neg e]
      intro ha
      obtain ⟨f1, f2⟩ := c4 j a ha
      refine ⟨?_, f2⟩
      rw [frz_out fun q => c3 j i a e ha q]
      exact f1
end

mutual
def tgs : Tg → List Nat
  | .nm i => [i]
  | .tp ts => tgss ts
def tgss : List Tg → List Nat
  | [] => []
  | t :: ts => tgs t ++ tgss ts
end
mutual
def mdT : Tg → List (Option Nat) → List (Option Nat)
  | .nm i, md => md.set i (some 0)
  | .tp ts, md => mdTs ts md
def mdTs : List Tg → List (Option Nat) → List (Option Nat)
  | [], md => md
  | t :: ts, md => mdTs ts (mdT t md)
end
section
variable (w : Wd) (md : List (Option Nat))
/-- a frozen value is stored -/
def RdG (tg : Tg) : TG := fun v σ H Q => ∃ H0 F env s d env', At w H0 md env s σ F H ∧ Rep w.tk F d v ∧ bindT tg d env = some env' ∧ ∀ σ', At w H0 (mdT tg md) env' s σ' F H → (∀ j, j ∉ tgs tg → σ'[j]? = σ[j]?) → Q σ' H
def RdGs (ts : List Tg) : TGs := fun vs σ H Q => ∃ H0 F env s ds env', At w H0 md env s σ F H ∧ Reps w.tk F ds vs ∧ ds.length = ts.length ∧ bindTs ts ds env = some env' ∧ ∀ σ', At w H0 (mdTs ts md) env' s σ' F H → (∀ j, j ∉ tgss ts → σ'[j]? = σ[j]?) → Q σ' H
end
theorem PG.imp {X : Cx} {e : Expr} {t t' : TG} (h : L2.PG X e t) (k : ∀ v σ H Q, t' v σ H Q → t v σ H Q) : L2.PG X e t' := ⟨fun pins s σ H v u Q I r q => h.run pins s σ H v u Q I r (k _ _ _ _ q)⟩
theorem PG.or {X : Cx} {e : Expr} {t t1 t2 : TG} (h1 : L2.PG X e t1) (h2 : L2.PG X e t2) (k : ∀ v σ H Q, t v σ H Q → t1 v σ H Q ∨ t2 v σ H Q) : L2.PG X e t :=
  ⟨fun pins s σ H v u Q I r q => (k _ _ _ _ q).elim (fun q => h1.run pins s σ H v u Q I r q) fun q => h2.run pins s σ H v u Q I r q⟩
theorem PGs.imp {X : Cx} {es : List Expr} {t t' : TGs} (h : L2.PGs X es t) (k : ∀ vs σ H Q, t' vs σ H Q → t vs σ H Q) : L2.PGs X es t' := ⟨fun pins s σ H vs us Q I r q => h.run pins s σ H vs us Q I r (k _ _ _ _ q)⟩
theorem PG.never {X : Cx} {e : Expr} {t : TG} (k : ∀ v σ H Q, ¬ t v σ H Q) : L2.PG X e t := ⟨fun pins s σ H v u Q I r q => (k _ _ _ _ q).elim⟩
section
variable {w : Wd} {md : List (Option Nat)} {X : Cx} {pos : Pos}
theorem sg_nm {i : Nat} {x : Str} (hN : X.N.Nodup) (hi : X.N[i]? = some x) (hx : Loc X.env.scope x) (hf : X.fn x = true ∨ X.env.scope.names.lookup x = some .local) : L2.PG X (.Name x pos) (RdG w md (.nm i)) := by
  refine PG.imp (pg_name hN hi hx hf) fun v σ H Q ⟨H0, F, env, s, d, env', t, r, b, q⟩ => ?_
  unfold bindT at b
  cases b
  exact q _ (t.set r) fun j hj => by
    rw [tgs] at hj
    exact List.getElem?_set_ne fun e => hj (by simp [e])
theorem sgs_nil : L2.PGs X [] (RdGs w md []) := by
  refine PGs.imp pgs_nil fun vs σ H Q ⟨H0, F, env, s, ds, env', t, r, l, b, q⟩ => ?_
  match ds, r, l with
  | [], .nil, _ =>
    unfold bindTs at b
    cases b
    exact ⟨rfl, q σ t fun _ _ => rfl⟩
theorem sgs_cons {e : Expr} {es : List Expr} {tg : Tg} {ts : List Tg} (h1 : L2.PG X e (RdG w md tg)) (h2 : L2.PGs X es (RdGs w (mdT tg md) ts)) (hs : (assignEach (e :: es) X.env).map (·.2) = assign e X.env :: (assignEach es X.env).map (·.2)) :
    L2.PGs X (e :: es) (RdGs w md (tg :: ts)) := by
  refine PGs.imp (pgs_cons h1 h2 hs) fun vs σ H Q ⟨H0, F, env, s, ds, env', t, r, l, b, q⟩ => ?_
  match ds, vs, r, l with
  | d :: ds, v :: vs, .cons r1 r2, l =>
    unfold bindTs at b
    cases e1 : bindT tg d env with
    | none =>
      rw [e1] at b
      cases b
    | some env1 =>
      rw [e1] at b
      refine ⟨v, vs, rfl, H0, F, env, s, d, env1, t, r1, e1, fun σ1 t1 k1 => ⟨H0, F, env1, s, ds, env', t1, r2, by simpa using l, b, fun σ2 t2 k2 => q σ2 t2 fun j hj => ?_⟩⟩
      rw [tgss] at hj
      rw [k2 j fun z => hj (List.mem_append_right _ z), k1 j fun z => hj (List.mem_append_left _ z)]
theorem sg_tp {es : List Expr} {k : Nat} {ts : List Tg} (hc : X.calm = true) (h : L2.PGs X es (RdGs w md ts)) (hn : (assignEach es X.env).length = ts.length) (hst : (assignEach es X.env).findIdx? (·.1) = none) : L2.PG X (.Tuple es k pos) (RdG w md (.tp ts)) := by
  refine PG.or (pg_tup hc h hn hst) (pg_lst hc h hn hst) fun v σ H Q ⟨H0, F, env, s, d, env', t, r, b, q⟩ => ?_
  cases d with
  | tuple ds =>
    unfold bindT at b
    split at b
    · rename_i l
      cases r with
      | tuple e1 r =>
        exact .inl ⟨_, _, rfl, .inl (.inl (t.hd.ex _ _ e1)), by rw [← r.length, l], H0, F, env, s, ds, env', t, r, l, b, fun σ' t' k' => q σ' t' fun j hj => k' j (by rw [tgs] at hj; exact hj)⟩
    · cases b
  | list ds =>
    unfold bindT at b
    split at b
    · rename_i l
      cases r with
      | list e1 r =>
        exact .inr ⟨_, _, rfl, .inl (.inl (t.hd.ex _ _ e1)), by rw [← r.length, l], H0, F, env, s, ds, env', t, r, l, b, fun σ' t' k' => q σ' t' fun j hj => k' j (by rw [tgs] at hj; exact hj)⟩
    · cases b
  | _ =>
    unfold bindT at b
    cases b
end
end PD
namespace PD
open PySem PySem.Spec PyProof.Rows L2

/-- later states: what is frozen stays (fz), or all stays -/
def Rch (fz : Bool) (w : Wd) (F1 H1 F' H' : Hp) : Prop := match fz with
  | true => Ex F1 F'
  | false => Aft w F1 H1 F' H'
def Wlk (w : Wd) (fz : Bool) (J : L2.It) (ds : List D) (F1 H1 : Hp) : Prop := ∀ F' H', Rch fz w F1 H1 F' H' → Hd w F' H' → J.stop ds.length H' ∧
  ∀ i d, ds[i]? = some d → J.go i H' ∧ ∀ x H'', J.yld i H' x H'' → ∃ F'', Aft w F' H' F'' H'' ∧ (∀ a ∈ w.ads, H'' a = H' a) ∧ Rep w.tk F'' d x
def RdI (w : Wd) (T : List (List D → M w.W D)) (E : XE) (md : List (Option Nat)) (fz : Bool) (it : PD.It) : TI := fun σ H R => ∃ H0 F env s, At w H0 md env s σ F H ∧
  Out (iter T it env s) (fun ds s' => ∀ J F1 H1, Aft w F H F1 H1 → w.rel s' H1 → Wlk w fz J ds F1 H1 → R J H1) (Xt w E F H)
theorem PI.or {X : Cx} {tg e : Expr} {t t1 t2 : TI} (h1 : L2.PI X tg e t1) (h2 : L2.PI X tg e t2) (k : ∀ σ H R, t σ H R → t1 σ H R ∨ t2 σ H R) : L2.PI X tg e t :=
  ⟨fun pins s σ H R I q => (k _ _ _ q).elim (fun q => h1.run pins s σ H R I q) fun q => h2.run pins s σ H R I q⟩
theorem PI.imp {X : Cx} {tg e : Expr} {t t1 : TI} (h1 : L2.PI X tg e t1) (k : ∀ σ H R, t σ H R → t1 σ H R) : L2.PI X tg e t := ⟨fun pins s σ H R I q => h1.run pins s σ H R I (k _ _ _ q)⟩
theorem PI.never {X : Cx} {tg e : Expr} {t : TI} (k : ∀ σ H R, ¬ t σ H R) : L2.PI X tg e t := ⟨fun pins s σ H R I q => (k _ _ _ q).elim⟩
theorem Out.peek {S α : Type} {r : R S α} {K : α → S → Prop} {E : Nat → List D → S → Prop} (h : Out r K E) : (∃ a s1, r = .ok a s1 ∧ K a s1) ∨ ∃ c as s1, r = .exc c as s1 ∧ E c as s1 := by
  cases r with
  | ok a s1 => exact .inl ⟨a, s1, rfl, h⟩
  | exc c as s1 => exact .inr ⟨c, as, s1, rfl, h⟩
  | bad => exact h.elim
/-- how a source is wanted -/
def dmSrc : Bool → Dm
  | true => .fr 0
  | false => .br 1
section
variable {w : Wd} {F H F1 H1 F' H' : Hp} {fz : Bool} {ds : List D} {v : V}
theorem src_list (h : Wt w H F1 H1 (.list ds) v (dmSrc fz)) (hd : Hd w F1 H1) : ∃ a vs, v = .ref a ∧ H1 a = some (.lst vs) ∧ ∀ F' H', Rch fz w F1 H1 F' H' → Hd w F' H' → H' a = some (.lst vs) ∧ Reps w.tk F' ds vs := by
  cases fz with
  | true =>
    obtain ⟨fp, ⟨_, r⟩, _⟩ := h
    cases r with
    | list e r => exact ⟨_, _, rfl, hd.ex _ _ e, fun F' H' k hd' => ⟨hd'.ex _ _ (k _ _ e), r.mono k⟩⟩
  | false =>
    obtain ⟨k, hk, fp, o, n⟩ := h
    match k, hk, o with
    | 0, _, o =>
      cases o.2 with
      | list e r =>
        refine ⟨_, _, rfl, hd.ex _ _ e, fun F' H' (k : Aft w F1 H1 F' H') hd' => ⟨hd'.ex _ _ (k.ext _ _ e), r.mono k.ext⟩⟩
    | 1, _, o =>
      obtain ⟨a, vs, f, rfl, e, r, rfl⟩ := o
      exact ⟨a, vs, rfl, e, fun F' H' (k : Aft w F1 H1 F' H') hd' => ⟨k.keep _ _ (n a (by simp)) e, (all3_frozen r).1.mono k.ext⟩⟩
theorem src_tup (h : Wt w H F1 H1 (.tuple ds) v (dmSrc fz)) (hd : Hd w F1 H1) : ∃ a vs, v = .ref a ∧ H1 a = some (.tup vs) ∧ ∀ F' H', Rch fz w F1 H1 F' H' → Hd w F' H' → H' a = some (.tup vs) ∧ Reps w.tk F' ds vs := by
  have r : Rep w.tk F1 (.tuple ds) v := by
    cases fz with
    | true =>
      obtain ⟨fp, ⟨_, r⟩, _⟩ := h
      exact r
    | false =>
      obtain ⟨k, hk, fp, o, n⟩ := h
      cases k with
      | zero => exact o.2
      | succ k => exact o.2
  cases r with
  | tuple e r =>
    refine ⟨_, _, rfl, hd.ex _ _ e, fun F' H' k hd' => ?_⟩
    have k' : Ex F1 F' := by
      cases fz with
      | true => exact k
      | false => exact Aft.ext k
    exact ⟨hd'.ex _ _ (k' _ _ e), r.mono k'⟩
theorem Aft.same (hd : Hd w F' H') : Aft w F' H' F' H' := .refl hd.ex hd.wf
/-- a new pair -/
theorem pair_new {d e : D} {x y : V} {p : Addr} (hd : Hd w F' H') (h1 : Rep w.tk F' d x) (h2 : Rep w.tk F' e y) (hp : H' p = none) :
    ∃ F'', Aft w F' H' F'' (upd H' p (.tup [x, y])) ∧ (∀ a ∈ w.ads, upd H' p (.tup [x, y]) a = H' a) ∧ Rep w.tk F'' (.tuple [d, e]) (.ref p) := by
  have hw := out_ads hd.has hp
  have ex : Ex F' (upd F' p (.tup [x, y])) := Ex.new (hd.ex.back hp)
  exact ⟨_, aft_newF hd.ex hd.wf hp hw, fun a ha => upd_ne fun z => hw (z ▸ ha), .tuple upd_same (.cons (h1.mono ex) (.cons (h2.mono ex) .nil))⟩
end
section
variable {w : Wd} {T : List (List D → M w.W D)} {E : XE} {md : List (Option Nat)} {X : Cx} {fz : Bool} {pos : Pos} {tg : Expr}
/-- a value that is known ahead -/
theorem go_pk {σ : L2.St} {H F H0 : Hp} {env : Env} {s s1 : w.W} {Q : VK} {x : PD.X} {d : D} {dm : Dm} (t : At w H0 md env s σ F H) (e : ev T x env s = .ok d s1) (k : Kt w s1 F H d dm Q) : RdE w T E md x dm σ H Q :=
  ⟨H0, F, env, s, t, by
    rw [e]
    exact k⟩
theorem go_px {σ : L2.St} {H F H0 : Hp} {env : Env} {s s1 : w.W} {Q : VK} {x : PD.X} {c : Nat} {as : List D} {dm : Dm} (t : At w H0 md env s σ F H) (e : ev T x env s = .exc c as s1) (k : Xt w E F H c as s1) : RdE w T E md x dm σ H Q :=
  ⟨H0, F, env, s, t, by
    rw [e]
    exact k⟩
theorem si_seq {e : Expr} {x : PD.X} (he : L2.PE X e (RdE w T E md x (dmSrc fz))) : L2.PI X tg e (RdI w T E md fz (.seq x)) := by
  refine PI.or (pi_list he) (pi_tup he) fun σ H R ⟨H0, F, env, s, t, q⟩ => ?_
  rw [iter] at q
  rcases q.bind.peek with ⟨d, s1, e1, q⟩ | ⟨c, as, s1, e1, q⟩
  · obtain ⟨ds, e2, q⟩ := q.ofO
    cases d with
    | list xs =>
      obtain rfl : xs = ds := by simpa [walkOf] using e2
      refine .inl (go_pk t e1 fun v F1 H1 A r wt => ?_)
      have hd1 := Hd.to A r
      obtain ⟨a, vs, rfl, z, k⟩ := src_list wt hd1
      refine ⟨a, rfl, ⟨vs, .inl (.inl z)⟩, q _ F1 H1 A r fun F' H' c hd' => ?_⟩
      obtain ⟨k1, k2⟩ := k F' H' c hd'
      refine ⟨⟨vs, .inl (.inl k1), Nat.le_of_eq k2.length.symm⟩, fun i d hi => ?_⟩
      obtain ⟨y, y1, y2⟩ := k2.get hi
      refine ⟨⟨vs, y, .inl (.inl k1), y1⟩, fun x H'' ⟨h1, h2⟩ => ?_⟩
      subst h1
      have h3 := h2 vs (.inl (.inl k1))
      rw [y1] at h3
      cases h3
      exact ⟨F', Aft.same hd', fun _ _ => rfl, y2⟩
    | tuple xs =>
      obtain rfl : xs = ds := by simpa [walkOf] using e2
      refine .inr (go_pk t e1 fun v F1 H1 A r wt => ?_)
      have hd1 := Hd.to A r
      obtain ⟨a, vs, rfl, z, k⟩ := src_tup wt hd1
      refine ⟨a, rfl, ⟨vs, .inl (.inl z)⟩, q _ F1 H1 A r fun F' H' c hd' => ?_⟩
      obtain ⟨k1, k2⟩ := k F' H' c hd'
      refine ⟨⟨vs, .inl (.inl k1), Nat.le_of_eq k2.length.symm⟩, fun i d hi => ?_⟩
      obtain ⟨y, y1, y2⟩ := k2.get hi
      refine ⟨⟨vs, y, .inl (.inl k1), y1⟩, fun x H'' ⟨h1, h2⟩ => ?_⟩
      subst h1
      have h3 := h2 vs (.inl (.inl k1))
      rw [y1] at h3
      cases h3
      exact ⟨F', Aft.same hd', fun _ _ => rfl, y2⟩
    | _ => cases e2
  · exact .inl (go_px t e1 q)
theorem range_get {lo hi : Int} {i : Nat} {d : D} (h : (rangeD lo hi)[i]? = some d) : i < (hi - lo).toNat ∧ d = .int (lo + (i : Nat)) := by
  unfold rangeD at h
  rw [List.getElem?_map] at h
  cases e : (List.range (hi - lo).toNat)[i]? with
  | none =>
    rw [e] at h
    cases h
  | some j =>
    rw [e] at h
    have l : i < (hi - lo).toNat := by
      by_cases l : i < (hi - lo).toNat
      · exact l
      · rw [List.getElem?_eq_none (by simpa using l)] at e
        cases e
    rw [List.getElem?_range l] at e
    cases e
    exact ⟨l, (Option.some.inj h).symm⟩
theorem wlk_range {F1 H1 : Hp} {lo hi : Int} {n : Nat} (hn : n = (hi - lo).toNat) : Wlk w fz (Itr lo n) (rangeD lo hi) F1 H1 := by
  intro F' H' c hd'
  subst hn
  refine ⟨by show _ ≤ (rangeD lo hi).length; unfold rangeD; simp, fun i d h => ?_⟩
  obtain ⟨l, rfl⟩ := range_get h
  refine ⟨l, fun x H'' ⟨h1, h2⟩ => ?_⟩
  subst h1 h2
  exact ⟨F', Aft.same hd', fun _ _ => rfl, .int _⟩
theorem go_al {α : Type} {σ : L2.St} {H F H0 : Hp} {env : Env} {s : w.W} {Q : List V → Hp → Prop} {xs : List PD.X} {dm : Dm} {f : List D → M w.W α} {K : α → w.W → Prop} (t : At w H0 md env s σ F H)
    (o : Out ((evs T xs env >>= f) s) K (Xt w E F H)) (k : ∀ ds vs s1 F1 H1, Aft w F H F1 H1 → At w H0 md env s1 σ F1 H1 → Wts w H F1 H1 ds vs dm → ds.length = xs.length → Out (f ds s1) K (Xt w E F1 H1) → Q vs H1) : RdA w T E md xs dm σ H Q :=
  ⟨H0, F, env, s, t, (out_len o.bind).mono (fun d s1 ⟨q, l⟩ v F1 H1 A r h => k d v s1 F1 H1 A (t.aft A r) h l (q.mono (fun _ _ z => z) fun _ _ _ z => z.aft A)) fun _ _ _ z => z⟩
theorem si_rng1 {a : Expr} {xa : PD.X} {p : Pos} (hg : Gl X "range") (hm : X.mg "range" = none) (ha : L2.PA X [a] (RdA w T E md [xa] (.br 1))) (hs : starEach [a] X.env = [(false, eval a X.env)]) :
    L2.PI X tg (.Call (.Name "range" p) [a] [] pos) (RdI w T E md fz (.rng [xa])) := by
  refine PI.imp (pi_range1 hg hm ha hs) fun σ H R ⟨H0, F, env, s, t, q⟩ => ?_
  rw [iter] at q
  refine go_al t q fun ds vs s1 F1 H1 A t1 w1 l q => ?_
  obtain ⟨zs, e, q⟩ := q.ofO
  match ds, l with
  | [d], _ =>
    obtain ⟨v, rfl, i1⟩ := its1 w1.its
    cases d with
    | int n =>
      simp only [rangeOf] at e
      split at e
      · rename_i c
        cases e
        rw [i1.vint t1.hd.ex]
        exact ⟨n, rfl, c.1, c.2, q _ F1 H1 A t1.rel (wlk_range (by simp))⟩
      · cases e
    | _ => cases e
theorem si_rng2 {a b : Expr} {xa xb : PD.X} {p : Pos} (hg : Gl X "range") (hm : X.mg "range" = none) (ha : L2.PA X [a, b] (RdA w T E md [xa, xb] (.br 1))) (hs : starEach [a, b] X.env = [(false, eval a X.env), (false, eval b X.env)]) (hs2 : starEach [b] X.env = [(false, eval b X.env)]) :
    L2.PI X tg (.Call (.Name "range" p) [a, b] [] pos) (RdI w T E md fz (.rng [xa, xb])) := by
  refine PI.imp (pi_range2 hg hm ha hs hs2) fun σ H R ⟨H0, F, env, s, t, q⟩ => ?_
  rw [iter] at q
  refine go_al t q fun ds vs s1 F1 H1 A t1 w1 l q => ?_
  obtain ⟨zs, e, q⟩ := q.ofO
  match ds, l with
  | [d1, d2], _ =>
    obtain ⟨v, u, rfl, i1, i2⟩ := its2 w1.its
    cases d1 with
    | int n =>
      cases d2 with
      | int m =>
        simp only [rangeOf] at e
        split at e
        · rename_i c
          cases e
          rw [i1.vint t1.hd.ex, i2.vint t1.hd.ex]
          exact ⟨n, m, rfl, c, q _ F1 H1 A t1.rel (wlk_range rfl)⟩
        · cases e
      | _ => cases e
    | _ => cases e
theorem enum_get {xs : List D} {i : Nat} {d : D} (h : (enumD xs)[i]? = some d) : ∃ x, xs[i]? = some x ∧ d = .tuple [.int (i : Nat), x] := by
  unfold enumD at h
  rw [List.getElem?_map] at h
  cases e : (xs.zipIdx)[i]? with
  | none =>
    rw [e] at h
    cases h
  | some p =>
    rw [e] at h
    rw [List.getElem?_zipIdx] at e
    cases e2 : xs[i]? with
    | none =>
      rw [e2] at e
      cases e
    | some x =>
      rw [e2] at e
      cases e
      cases h
      exact ⟨x, rfl, by simp⟩
theorem its_sa {x : PD.X} {σ : L2.St} {H F H0 : Hp} {env : Env} {s s1 : w.W} {Q : List V → Hp → Prop} {d : D} {dm : Dm} (t : At w H0 md env s σ F H) (e : ev T x env s = .ok d s1) (k : Kt w s1 F H d dm fun v H1 => Q [v] H1) : RdA w T E md [x] dm σ H Q :=
  ⟨H0, F, env, s, t, by
    rw [evs, evs, M.bind_eq]
    unfold M.bind
    rw [e]
    intro vs F1 H1 A r wt
    cases dm with
    | fr j =>
      obtain ⟨fp, o, nd, nw⟩ := wt
      match vs, o with
      | [v], ⟨f, g, o1, o2, e⟩ =>
        obtain rfl : g = [] := o2
        rw [List.append_nil] at e
        subst e
        exact k v F1 H1 A r ⟨_, o1, nd, nw⟩
      | [], o => exact o.elim
      | _ :: _ :: _, ⟨f, g, o1, o2, e⟩ => exact o2.elim
    | br m =>
      obtain ⟨l, b⟩ := wt
      match vs, l with
      | [v], _ => exact k v F1 H1 A r (b (d, v) (by simp))⟩
theorem its_sx {x : PD.X} {σ : L2.St} {H F H0 : Hp} {env : Env} {s s1 : w.W} {Q : List V → Hp → Prop} {c : Nat} {as : List D} {dm : Dm} (t : At w H0 md env s σ F H) (e : ev T x env s = .exc c as s1) (k : Xt w E F H c as s1) : RdA w T E md [x] dm σ H Q :=
  ⟨H0, F, env, s, t, by
    rw [evs, evs, M.bind_eq]
    unfold M.bind
    rw [e]
    exact k⟩
theorem si_enu {e : Expr} {x : PD.X} {elts : List Expr} {kk : Nat} {tpos p : Pos} (hg : Gl X "enumerate") (hm : X.mg "enumerate" = none) (ha : L2.PA X [e] (RdA w T E md [x] (dmSrc fz))) (hs : starEach [e] X.env = [(false, eval e X.env)]) :
    L2.PI X (.Tuple elts kk tpos) (.Call (.Name "enumerate" p) [e] [] pos) (RdI w T E md fz (.enu x)) := by
  refine PI.or (pi_enum hg hm ha hs) (pi_enumT hg hm ha hs) fun σ H R ⟨H0, F, env, s, t, q⟩ => ?_
  rw [iter] at q
  rcases q.bind.peek with ⟨d, s1, e1, q⟩ | ⟨c, as, s1, e1, q⟩
  · obtain ⟨ds, e2, q⟩ := q.ofO
    cases d with
    | list xs =>
      obtain rfl : enumD xs = ds := by simpa [walkOf] using e2
      refine .inl (its_sa t e1 fun v F1 H1 A r wt => ?_)
      have hd1 := Hd.to A r
      obtain ⟨a, vs, rfl, z, k⟩ := src_list wt hd1
      refine ⟨a, vs, rfl, .inl (.inl z), q _ F1 H1 A r fun F' H' c hd' => ?_⟩
      obtain ⟨k1, k2⟩ := k F' H' c hd'
      refine ⟨⟨vs, .inl (.inl k1), by unfold enumD; simp [k2.length]⟩, fun i d hi => ?_⟩
      obtain ⟨x1, hx, rfl⟩ := enum_get hi
      obtain ⟨y, y1, y2⟩ := k2.get hx
      refine ⟨⟨vs, y, .inl (.inl k1), y1⟩, fun x H'' ⟨p, y', h1, hp, h2, h3⟩ => ?_⟩
      have h3 := h3 vs (.inl (.inl k1))
      rw [y1] at h3
      cases h3
      subst h1 h2
      exact pair_new hd' (.int _) y2 hp
    | tuple xs =>
      obtain rfl : enumD xs = ds := by simpa [walkOf] using e2
      refine .inr (its_sa t e1 fun v F1 H1 A r wt => ?_)
      have hd1 := Hd.to A r
      obtain ⟨a, vs, rfl, z, k⟩ := src_tup wt hd1
      refine ⟨a, vs, rfl, .inl (.inl z), q _ F1 H1 A r fun F' H' c hd' => ?_⟩
      obtain ⟨k1, k2⟩ := k F' H' c hd'
      refine ⟨⟨vs, .inl (.inl k1), by unfold enumD; simp [k2.length]⟩, fun i d hi => ?_⟩
      obtain ⟨x1, hx, rfl⟩ := enum_get hi
      obtain ⟨y, y1, y2⟩ := k2.get hx
      refine ⟨⟨vs, y, .inl (.inl k1), y1⟩, fun x H'' ⟨p, y', h1, hp, h2, h3⟩ => ?_⟩
      have h3 := h3 vs (.inl (.inl k1))
      rw [y1] at h3
      cases h3
      subst h1 h2
      exact pair_new hd' (.int _) y2 hp
    | _ => cases e2
  · exact .inl (its_sx t e1 q)
end
end PD
namespace PD
open PySem PySem.Spec PyProof.Rows L2

section
variable {w : Wd}
/-- a walk's turns -/
theorem lp {J : L2.It} {ds : List D} {fz : Bool} {F1 H1 H2 : Hp} (wk : Wlk w fz J ds F1 H1) (Pv : Nat → Hp → Hp → Prop) (re : ∀ i F' H', Pv i F' H' → Rch fz w F1 H1 F' H' ∧ Hd w F' H') (h0 : ∃ F', Pv 0 F' H2) {Fin : Hp → Prop}
    (hd : ∀ F' H', Pv ds.length F' H' → Fin H') {Body : (Hp → Prop) → V → Hp → Prop}
    (hs : ∀ i d x F' H' F'' H'', i < ds.length → Pv i F' H' → ds[i]? = some d → Aft w F' H' F'' H'' → (∀ a ∈ w.ads, H'' a = H' a) → Rep w.tk F'' d x → Body (fun H => ∃ F, Pv (i + 1) F H) x H'') :
    ∃ W : Nat → Nat → Hp → Prop, (∃ m, W 0 m H2) ∧ ∀ i m H, W i m H → (J.stop i H ∧ Fin H) ∨ (J.go i H ∧ ∃ Nx : Hp → Prop, (∀ H', Nx H' → ∃ m', m' < m ∧ W (i + 1) m' H') ∧ ∀ x H', J.yld i H x H' → Body Nx x H') := by
  refine ⟨fun i m H => m = ds.length - i ∧ i ≤ ds.length ∧ ∃ F', Pv i F' H, ⟨_, rfl, Nat.zero_le _, h0⟩, ?_⟩
  rintro i m H ⟨rfl, hi, F', p⟩
  obtain ⟨rc, hdd⟩ := re i F' H p
  obtain ⟨st, go⟩ := wk F' H rc hdd
  by_cases l : i < ds.length
  · obtain ⟨g1, g2⟩ := go i ds[i] (List.getElem?_eq_getElem l)
    refine .inr ⟨g1, fun H => ∃ F, Pv (i + 1) F H, fun H' q => ⟨ds.length - (i + 1), by omega, rfl, l, q⟩, fun x H' y => ?_⟩
    obtain ⟨F'', A, n, r⟩ := g2 x H' y
    exact hs i ds[i] x F' H F'' H' l p (List.getElem?_eq_getElem l) A n r
  · obtain rfl : i = ds.length := by omega
    exact .inl ⟨st, hd F' H p⟩
/-- the list that is made: its items so far -/
def AccAt (w : Wd) (H1 : Hp) (L : Addr) (k : Nat) (acc : List D) (F' H : Hp) : Prop := F' L = none ∧ L ∉ w.ads ∧ ∃ vs fp, H L = some (.lst vs) ∧ All3 (Own w.tk F' H k) acc vs fp ∧ fp.Nodup ∧ ∀ a ∈ fp, H1 a = none ∧ F' a = none ∧ a ∉ w.ads ∧ a ≠ L
variable {F1 H1 F' H' F'' H'' : Hp} {L : Addr} {k : Nat} {acc : List D} {d : D} {y : V}
theorem aft_upd {o : HO} (A : Aft w F1 H1 F' H') (h1 : H1 L = none) (h2 : F' L = none) : Aft w F1 H1 F' (upd H' L o) :=
  ⟨A.ext, A.sub.ups h2, fun a u n q => by
    rw [upd_ne (ne_of_none q h1)]
    exact A.keep a u n q, A.new, A.wf⟩
theorem All3.aft (A : Aft w F' H' F'' H'') : ∀ {acc : List D} {vs : List V} {fp : List Addr}, All3 (Own w.tk F' H' k) acc vs fp → (∀ a ∈ fp, a ∉ w.ads) → All3 (Own w.tk F'' H'' k) acc vs fp := fun {acc vs fp} h n => by
  refine h.imp fun d v f _ hf q => own_aft A q fun a ha => n a (hf a ha)
theorem All3.there : ∀ {acc : List D} {vs : List V} {fp : List Addr}, All3 (Own w.tk F' H' k) acc vs fp → ∀ a ∈ fp, ∃ o, H' a = some o ∧ ∀ xs, o ≠ .tup xs := fun h a ha =>
  h.each (R := fun a => ∃ o, H' a = some o ∧ ∀ xs, o ≠ .tup xs) (fun d v f q b hb => by
    obtain ⟨o, e⟩ := q.there b hb
    exact ⟨o, e, fun xs z => q.node b hb xs (by rw [e, z])⟩) a ha
theorem out_of (A : Aft w F' H' F'' H'') {a : Addr} {o : HO} (h : H' a = some o) (nt : ∀ xs, o ≠ .tup xs) (n : F' a = none) : F'' a = none := by
  cases q : F'' a with
  | none => rfl
  | some u =>
    rcases A.new a (by rw [q]; exact fun z => nomatch z) with z | z | ⟨xs, z⟩
    · exact absurd n z
    · rw [h] at z
      cases z
    · rw [h] at z
      cases z
      exact absurd rfl (nt xs)
theorem AccAt.aft (A : Aft w F' H' F'' H'') (h : AccAt w H1 L k acc F' H') : AccAt w H1 L k acc F'' H'' := by
  obtain ⟨h1, h2, vs, fp, h3, h4, h5, h6⟩ := h
  refine ⟨out_of A h3 (fun xs z => nomatch z) h1, h2, vs, fp, A.keep _ _ h2 h3, All3.aft A h4 fun a ha => (h6 a ha).2.2.1, h5, fun a ha => ?_⟩
  obtain ⟨o, e, nt⟩ := All3.there h4 a ha
  exact ⟨(h6 a ha).1, out_of A e nt (h6 a ha).2.1, (h6 a ha).2.2⟩
theorem All3.snoc {P : D → V → List Addr → Prop} : ∀ {acc : List D} {vs : List V} {fp gp : List Addr}, All3 P acc vs fp → P d y gp → All3 P (acc ++ [d]) (vs ++ [y]) (fp ++ gp)
  | [], [], fp, gp, h, q => by
    obtain rfl : fp = [] := h
    exact ⟨gp, [], q, rfl, by simp⟩
  | a :: acc, v :: vs, fp, gp, ⟨f, g, h1, h2, e⟩, q => by
    subst e
    exact ⟨f, g ++ gp, h1, All3.snoc h2 q, by simp⟩
  | [], _ :: _, _, _, h, _ => h.elim
  | _ :: _, [], _, _, h, _ => h.elim
theorem AccAt.push (A : Aft w F' H' F'' H'') (b0 : ∀ a, a ∉ w.ads → H' a = none → H1 a = none) (h : AccAt w H1 L k acc F' H') (n : Nw w H' F'' H'' k d y) : ∃ vs, H'' L = some (.lst vs) ∧ acc.length = vs.length ∧ AccAt w H1 L k (acc ++ [d]) F'' (upd H'' L (.lst (vs ++ [y]))) := by
  obtain ⟨e1, e2, e3⟩ := h.aft A
  obtain ⟨h1, h2, vs, fp, h3, h4, h5, h6⟩ := h
  obtain ⟨vs', fp', e4, e5, e6, e7⟩ := e3
  obtain rfl : vs = vs' := by
    rw [A.keep _ _ h2 h3] at e4
    cases e4
    rfl
  obtain ⟨gp, g1, g2, g3⟩ := n
  have a4 := All3.aft A h4 fun a ha => (h6 a ha).2.2.1
  have Dg : ∀ a ∈ gp, a ≠ L := fun a ha z => by
    subst z
    rw [(g3 a ha).1] at h3
    cases h3
  have fg : ∀ a ∈ fp, a ∉ gp := fun a ha z => by
    obtain ⟨o, q, _⟩ := All3.there h4 a ha
    rw [(g3 a z).1] at q
    cases q
  refine ⟨vs, e4, (All3.reps (H := H'') a4 fun d v f hf hp => hp.rep A.sub fun _ _ => rfl).length, e1, e2, vs ++ [y], fp ++ gp, upd_same, (All3.snoc a4 g1).imp fun d v f _ hf q => q.mono (Ex.refl _) fun b hb => upd_ne fun z => ?_, List.nodup_append.mpr ⟨h5, g2, fun a ha b hb e => fg a ha (e ▸ hb)⟩, fun a ha => ?_⟩
  · subst z
    rcases List.mem_append.mp (hf b hb) with q | q
    · exact (h6 b q).2.2.2 rfl
    · exact Dg b q rfl
  · rcases List.mem_append.mp ha with q | q
    · obtain ⟨o, e, nt⟩ := All3.there h4 a q
      exact ⟨(h6 a q).1, out_of A e nt (h6 a q).2.1, (h6 a q).2.2⟩
    · exact ⟨b0 a (g3 a q).2.2 (g3 a q).1, (g3 a q).2.1, (g3 a q).2.2, Dg a q⟩
theorem AccAt.list {F H : Hp} (A : Aft w F H F1 H1) (h1 : H1 L = none) (h : AccAt w H1 L k acc F' H') : Nw w H F' H' (k + 1) (.list acc) (.ref L) := by
  obtain ⟨e1, e2, vs, fp, h3, h4, h5, h6⟩ := h
  refine ⟨L :: fp, ⟨L, vs, fp, rfl, h3, h4, rfl⟩, List.nodup_cons.mpr ⟨fun z => (h6 L z).2.2.2 rfl, h5⟩, fun a ha => ?_⟩
  rcases List.mem_cons.mp ha with rfl | ha
  · exact ⟨A.back e2 h1, e1, e2⟩
  · exact ⟨A.back (h6 a ha).2.2.1 (h6 a ha).1, (h6 a ha).2.1, (h6 a ha).2.2.1⟩
end

theorem wipe_get {σ : L2.St} {j : Nat} : ∀ {vs : List Nat}, j ∉ vs → (wipe σ vs)[j]? = σ[j]?
  | [], _ => rfl
  | v :: vs, h => by
    unfold wipe
    rw [List.getElem?_set_ne fun e => h (by simp [e]), wipe_get fun z => h (List.mem_cons_of_mem _ z)]
theorem wipe_in {σ : L2.St} {j : Nat} : ∀ {vs : List Nat}, j ∈ vs → (wipe σ vs)[j]? = if j < σ.length then some none else none
  | v :: vs, h => by
    unfold wipe
    by_cases e : v = j
    · subst e
      rw [List.getElem?_set_self']
      by_cases l : v < σ.length
      · rw [if_pos l, List.getElem?_eq_getElem (by rw [wipe_length]; exact l)]
        rfl
      · rw [if_neg l, List.getElem?_eq_none (by rw [wipe_length]; simpa using l)]
        rfl
    · rw [List.getElem?_set_ne e]
      rcases List.mem_cons.mp h with z | z
      · exact absurd z.symm e
      · exact wipe_in z
theorem wipe_ext {σ σ2 : L2.St} {vs : List Nat} (h : ∀ j, j ∉ vs → σ2[j]? = σ[j]?) (l : σ2.length = σ.length) : wipe σ2 vs = wipe σ vs := by
  refine List.ext_getElem? fun j => ?_
  by_cases q : j ∈ vs
  · rw [wipe_in q, wipe_in q, l]
  · rw [wipe_get q, wipe_get q, h j q]
theorem wipeE_get {env : Env} {j : Nat} {d : D} : ∀ {vs : List Nat}, getV (wipeE env vs) j = some d → j ∉ vs ∧ getV env j = some d
  | [], h => ⟨by simp, h⟩
  | v :: vs, h => by
    unfold wipeE getV at h
    by_cases e : v = j
    · subst e
      rw [List.getElem?_set_self'] at h
      cases q : (wipeE env vs)[v]? with
      | none =>
        rw [q] at h
        cases h
      | some x =>
        rw [q] at h
        cases h
    · rw [List.getElem?_set_ne e] at h
      obtain ⟨h1, h2⟩ := wipeE_get (vs := vs) h
      exact ⟨by simp only [List.mem_cons, not_or]; exact ⟨fun z => e z.symm, h1⟩, h2⟩
theorem wipeE_len {env : Env} : ∀ {vs : List Nat}, (wipeE env vs).length = env.length
  | [] => rfl
  | v :: vs => by
    unfold wipeE
    rw [List.length_set, wipeE_len]
theorem At.wipe {w : Wd} {H0 F H : Hp} {md : List (Option Nat)} {env : Env} {s : w.W} {σ : L2.St} (t : At w H0 md env s σ F H) (vs : List Nat) : At w H0 md (wipeE env vs) s (wipe σ vs) F H := by
  obtain ⟨fps, c1, c⟩ := t.cn
  refine ⟨t.hd, t.rel, by rw [wipe_length, wipeE_len, t.len], fps, fun i k d hm hx => ?_, c⟩
  obtain ⟨n, hx⟩ := wipeE_get hx
  rw [wipe_get n]
  exact c1 i k d hm hx
theorem out_noX {S α : Type} {m : M S α} {s : S} {K : α → S → Prop} {E : Nat → List D → S → Prop} (h : Out (noX m s) K E) : Out (m s) K fun _ _ _ => False := by
  unfold noX at h
  cases e : m s with
  | ok a s1 =>
    rw [e] at h
    exact h
  | exc c as s1 =>
    rw [e] at h
    exact h
  | bad =>
    rw [e] at h
    exact h
abbrev noE : XE := fun _ _ _ => False
theorem xt_no {w : Wd} {F H : Hp} {c : Nat} {as : List D} {s : w.W} (h : False) : Xt w noE F H c as s := h.elim
def RdTo (w : Wd) (T : List (List D → M w.W D)) (E : XE) (md : List (Option Nat)) (x : Option PD.X) : TT := fun σ H Q => ∃ H0 F env s, At w H0 md env s σ F H ∧ Out (tsto T x env s) (fun b s' => ∀ F' H', Aft w F H F' H' → w.rel s' H' → Q b H') (Xt w E F H)
section
variable {w : Wd} {T : List (List D → M w.W D)} {E : XE} {md : List (Option Nat)} {X : Cx} {dm : Dm} {pos : Pos}
theorem PTs.imp {X : Cx} {e : List Expr} {t t' : TT} (h : L2.PTs X e t) (k : ∀ σ H Q, t' σ H Q → t σ H Q) : L2.PTs X e t' := ⟨fun pins s σ H Q I q => h.run pins s σ H Q I (k _ _ _ q)⟩
theorem sts_nil : L2.PTs X [] (RdTo w T E md none) := PTs.imp pts_nil fun σ H Q ⟨H0, F, env, s, t, q⟩ => by
  rw [tsto] at q
  exact q.pure F H (Aft.rfl' t) t.rel
theorem sts_one {c : Expr} {x : PD.X} (h : L2.PT X c (RdT w T E md x)) : L2.PTs X [c] (RdTo w T E md (some x)) := PTs.imp (pts_one h) fun σ H Q ⟨H0, F, env, s, t, q⟩ => by
  rw [tsto] at q
  exact ⟨H0, F, env, s, t, q⟩
theorem out_push {W : Type} {acc : List D} {e : D} {s : W} {K : List D → W → Prop} {E : Nat → List D → W → Prop} (h : Out ((push acc e : M W (List D)) s) K E) : acc.length < cap ∧ K (acc ++ [e]) s := by
  unfold push at h
  split at h
  · exact ⟨by assumption, h⟩
  · exact h.elim
mutual
theorem bindT_len : ∀ {tg : Tg} {d : D} {env env' : Env}, bindT tg d env = some env' → env'.length = env.length
  | .nm i, d, env, env', h => by
    unfold bindT at h
    cases h
    exact List.length_set
  | .tp ts, .tuple ds, env, env', h => by
    unfold bindT at h
    split at h
    · exact bindTs_len h
    · cases h
  | .tp ts, .list ds, env, env', h => by
    unfold bindT at h
    split at h
    · exact bindTs_len h
    · cases h
  | .tp _, .none, _, _, h => by unfold bindT at h; cases h
  | .tp _, .bool _, _, _, h => by unfold bindT at h; cases h
  | .tp _, .int _, _, _, h => by unfold bindT at h; cases h
  | .tp _, .str _, _, _, h => by unfold bindT at h; cases h
  | .tp _, .dict _, _, _, h => by unfold bindT at h; cases h
theorem bindTs_len : ∀ {ts : List Tg} {ds : List D} {env env' : Env}, bindTs ts ds env = some env' → env'.length = env.length
  | [], _, env, env', h => by
    unfold bindTs at h
    cases h
    rfl
  | t :: ts, d :: ds, env, env', h => by
    unfold bindTs at h
    cases e : bindT t d env with
    | none =>
      rw [e] at h
      cases h
    | some env1 =>
      rw [e] at h
      exact (bindTs_len h).trans (bindT_len e)
  | _ :: _, [], _, _, h => by
    unfold bindTs at h
    cases h
end
/-- what is left of the items -/
theorem drop_at {ds : List D} {i : Nat} {d : D} (h : ds[i]? = some d) : ds.drop i = d :: ds.drop (i + 1) := by
  obtain ⟨l, e⟩ := List.getElem?_eq_some_iff.mp h
  rw [List.drop_eq_getElem_cons l, e]
/-- [elt for tg in it if c] -/
theorem t_comp {elt : PD.X} {tg : Tg} {it : PD.It} {ifs : Option PD.X} {vs : List Nat} {σ : L2.St} {H : Hp} {Q : VK} (hv : ∀ j ∈ tgs tg, j ∈ vs) (h : RdE w T E md (.comp elt tg it ifs vs) dm σ H Q) :
    tLc (RdI w T E md false it) (RdG w md tg) (RdTo w T noE (mdT tg md) ifs) (RdE w T noE (mdT tg md) elt (.fr (dmIn dm))) vs σ H Q := by
  obtain ⟨H0, F, env, s, t, q⟩ := h
  rw [ev] at q
  refine ⟨H0, F, env, s, t, q.bind.mono (fun ds s1 q J F1 H1 A1 r1 wk L hD => ?_) fun _ _ _ z => z⟩
  have q := out_noX q.bind
  have t1 := t.aft A1 r1
  have hw := out_ads t1.hd.has hD
  generalize hst : (fun (d : D) (acc : List D) => (do
      let env1 ← ofO (bindT tg d (wipeE env vs))
      let b ← tsto T ifs env1
      if b then do
        let e ← ev T elt env1
        push acc e
      else pure acc : M w.W (List D))) = step at q
  refine lp wk (fun i F' H' => Aft w F1 H1 F' H' ∧ ∃ s' acc, w.rel s' H' ∧ AccAt w H1 L (dmIn dm) acc F' H' ∧ Out (cgo step (ds.drop i) acc s') (fun r s'' => Kt w s'' F H (.list r) dm Q) fun _ _ _ => False)
    (fun i F' H' ⟨A, s', acc, r, _⟩ => ⟨A, Hd.to A r⟩) ⟨F1, aft_new t1.hd.ex t1.hd.wf hD, s1, [], w.loc r1 fun a ha => upd_ne fun z => hw (z ▸ ha), ⟨t1.hd.ex.back hD, hw, [], [], upd_same, rfl, List.nodup_nil, fun _ z => nomatch z⟩, q.mono (fun r s'' z => z.pure) fun _ _ _ z => z⟩
    (fun F' H' ⟨A, s', acc, r, ac, q⟩ => ?fin) (fun i d x F' H' F'' H'' l ⟨A, s', acc, r, ac, q⟩ hd A2 n rp => ?turn)
  case fin =>
    rw [List.drop_length, cgo] at q
    have q' : Kt w s' F H (.list acc) dm Q := q
    exact q'.new1 (A1.trans A) r (ac.list A1 hD)
  case turn =>
    rw [drop_at hd, cgo] at q
    have r2 : w.rel s' H'' := w.loc r n
    have A' := A.trans A2
    have tb := (t1.aft A' r2).wipe vs
    have ac2 := ac.aft A2
    have q := q.bind
    rw [← hst] at q
    obtain ⟨env1, b1, q⟩ := q.bindO
    refine ⟨H0, F'', wipeE env vs, s', d, env1, tb, rp, b1, fun σ2 t2 hk => ⟨?_, H0, F'', env1, s', t2, (Out.bind q).mono (fun b s2 q F3 H3 A3 r3 => ?_) fun _ _ _ z => xt_no z⟩⟩
    · rw [wipe_ext (σ := wipe σ vs) (fun j hj => hk j fun z => hj (hv j z)) (by rw [t2.len, tb.len]; exact bindT_len b1)]
      exact wipe_ext (fun j hj => wipe_get hj) (wipe_length _ _)
    · have t3 := t2.aft A3 r3
      cases b with
      | false =>
        rw [hst] at q
        rw [if_neg Bool.false_ne_true] at q
        exact ⟨F3, A'.trans A3, s2, acc, r3, ac2.aft A3, q.pure⟩
      | true =>
        rw [hst] at q
        rw [if_pos rfl] at q
        refine ⟨H0, F3, env1, s2, t3, (Out.bind q).mono (fun e s4 q y F4 H4 A4 r4 wt => ?_) fun _ _ _ z => xt_no z⟩
        have A14 := A'.trans A3
        obtain ⟨zs, z1, z2, z3⟩ := (ac2.aft A3).push A4 (fun a ha na => A14.back ha na) wt
        obtain ⟨l1, q⟩ := out_push q
        refine ⟨zs, z1, by rw [← z2]; exact cap_lt l1, F4, aft_upd (A14.trans A4) hD z3.1, s4, _, w.loc r4 fun a ha => upd_ne fun z => hw (z ▸ ha), z3, q⟩
end
end PD
namespace PD
open PySem PySem.Spec PyProof.Rows L2

mutual
theorem mdT_out : ∀ {tg : Tg} {md : List (Option Nat)} {j : Nat}, j ∉ tgs tg → (mdT tg md)[j]? = md[j]?
  | .nm i, md, j, h => by
    rw [tgs] at h
    rw [mdT, List.getElem?_set_ne fun e => h (by simp [e])]
  | .tp ts, md, j, h => by
    rw [tgs] at h
    rw [mdT]
    exact mdTs_out h
theorem mdTs_out : ∀ {ts : List Tg} {md : List (Option Nat)} {j : Nat}, j ∉ tgss ts → (mdTs ts md)[j]? = md[j]?
  | [], md, j, h => by rw [mdTs]
  | t :: ts, md, j, h => by
    rw [tgss] at h
    rw [mdTs, mdTs_out fun z => h (List.mem_append_right _ z), mdT_out fun z => h (List.mem_append_left _ z)]
end
mutual
theorem mdT_in : ∀ {tg : Tg} {md : List (Option Nat)} {j k : Nat}, (j ∈ tgs tg ∨ md[j]? = some (some 0)) → (mdT tg md)[j]? = some (some k) → k = 0
  | .nm i, md, j, k, h, e => by
    rw [mdT] at e
    rcases md_set e with ⟨_, z⟩ | ⟨n, z⟩
    · exact z
    · rcases h with h | h
      · rw [tgs] at h
        exact absurd (by simpa using h) n
      · rw [h] at z
        cases z
        rfl
  | .tp ts, md, j, k, h, e => by
    rw [tgs] at h
    rw [mdT] at e
    exact mdTs_in h e
theorem mdTs_in : ∀ {ts : List Tg} {md : List (Option Nat)} {j k : Nat}, (j ∈ tgss ts ∨ md[j]? = some (some 0)) → (mdTs ts md)[j]? = some (some k) → k = 0
  | [], md, j, k, h, e => by
    rw [mdTs] at e
    rcases h with h | h
    · rw [tgss] at h
      cases h
    · rw [h] at e
      cases e
      rfl
  | t :: ts, md, j, k, h, e => by
    rw [tgss] at h
    rw [mdTs] at e
    by_cases q : j ∈ tgss ts
    · exact mdTs_in (.inl q) e
    · rw [mdTs_out q] at e
      rcases h with h | h
      · rcases List.mem_append.mp h with h | h
        · exact mdT_in (.inl h) e
        · exact absurd h q
      · exact mdT_in (.inr h) e
end
mutual
theorem bindT_out : ∀ {tg : Tg} {d : D} {env env' : Env} {j : Nat}, bindT tg d env = some env' → j ∉ tgs tg → getV env' j = getV env j
  | .nm i, d, env, env', j, h, n => by
    unfold bindT at h
    cases h
    rw [tgs] at n
    unfold getV
    rw [List.getElem?_set_ne fun e => n (by simp [e])]
  | .tp ts, d, env, env', j, h, n => by
    rw [tgs] at n
    unfold bindT at h
    cases d with
    | tuple ds =>
      simp only at h
      split at h
      · exact bindTs_out h n
      · cases h
    | list ds =>
      simp only at h
      split at h
      · exact bindTs_out h n
      · cases h
    | _ => cases h
theorem bindTs_out : ∀ {ts : List Tg} {ds : List D} {env env' : Env} {j : Nat}, bindTs ts ds env = some env' → j ∉ tgss ts → getV env' j = getV env j
  | [], _, env, env', j, h, n => by
    unfold bindTs at h
    cases h
    rfl
  | t :: ts, d :: ds, env, env', j, h, n => by
    rw [tgss] at n
    unfold bindTs at h
    cases e : bindT t d env with
    | none =>
      rw [e] at h
      cases h
    | some env1 =>
      rw [e] at h
      rw [bindTs_out h fun z => n (List.mem_append_right _ z), bindT_out e fun z => n (List.mem_append_left _ z)]
  | _ :: _, [], _, _, _, h, _ => by
    unfold bindTs at h
    cases h
end
section
variable {w : Wd} {T : List (List D → M w.W D)} {E : XE} {md : List (Option Nat)} {X : Cx} {dm : Dm} {pos : Pos}
/-- what was bound, at a later state -/
theorem At.rebound {H0 F2 H2 F' H' : Hp} {tg : Tg} {d : D} {envb env1 : Env} {s s2 : w.W} {σ2 σb : L2.St} (t2 : At w H0 (mdT tg md) env1 s2 σ2 F2 H2) (tb : At w H0 md envb s σb F' H') (ex : Ex F2 F') (hk : ∀ j, j ∉ tgs tg → σ2[j]? = σb[j]?)
    (hb : bindT tg d envb = some env1) : At w H0 (mdT tg md) env1 s σ2 F' H' := by
  obtain ⟨fps, c1, c2, c3, c4⟩ := tb.cn
  obtain ⟨gps, g1, _⟩ := t2.cn
  refine ⟨tb.hd, tb.rel, t2.len, fun j => if j ∈ tgs tg then [] else fps j, fun j k x hm hx => ?_, fun j => ?_, fun j l a n => ?_, fun j a => ?_⟩
  · show ∃ v, σ2[j]? = some (some v) ∧ Own w.tk F' H' k x v (if j ∈ tgs tg then [] else fps j)
    by_cases q : j ∈ tgs tg
    · obtain rfl := mdT_in (.inl q) hm
      rw [if_pos q]
      obtain ⟨v, e1, e2⟩ := g1 j 0 x hm hx
      exact ⟨v, e1, rfl, e2.2.mono ex⟩
    · rw [if_neg q]
      rw [mdT_out q] at hm
      rw [bindT_out hb q] at hx
      rw [hk j q]
      exact c1 j k x hm hx
  · show List.Nodup (if j ∈ tgs tg then [] else fps j)
    split
    · exact List.nodup_nil
    · exact c2 j
  · show a ∈ (if j ∈ tgs tg then [] else fps j) → a ∉ (if l ∈ tgs tg then [] else fps l)
    split
    · intro z
      cases z
    · split
      · exact fun _ z => nomatch z
      · exact c3 j l a n
  · show a ∈ (if j ∈ tgs tg then [] else fps j) → _
    split
    · intro z
      cases z
    · exact c4 j a
/-- [elt for tg in it if c for tg1 in it1 if c1] -/
theorem t_comp2 {elt : PD.X} {tg tg1 : Tg} {it it1 : PD.It} {ifs ifs1 : Option PD.X} {vs vs1 : List Nat} {σ : L2.St} {H : Hp} {Q : VK} (hv : ∀ j ∈ tgs tg, j ∈ vs) (hv1 : ∀ j ∈ tgs tg1, j ∈ vs1) (h : RdE w T E md (.comp2 elt tg it ifs tg1 it1 ifs1 vs vs1) dm σ H Q) :
    tLc2 (RdI w T E md false it) (RdG w md tg) (RdTo w T noE (mdT tg md) ifs) (RdI w T noE (mdT tg md) true it1) (RdG w (mdT tg md) tg1) (RdTo w T noE (mdT tg1 (mdT tg md)) ifs1) (RdE w T noE (mdT tg1 (mdT tg md)) elt (.fr (dmIn dm))) vs vs1 σ H Q := by
  obtain ⟨H0, F, env, s, t, q⟩ := h
  rw [ev] at q
  refine ⟨H0, F, env, s, t, q.bind.mono (fun ds s1 q J F1 H1 A1 r1 wk L hD => ?_) fun _ _ _ z => z⟩
  have q := out_noX q.bind
  have t1 := t.aft A1 r1
  have hw := out_ads t1.hd.has hD
  generalize hst : (fun (d : D) (acc : List D) => (do
      let env1 ← ofO (bindT tg d (wipeE env vs))
      let b ← tsto T ifs env1
      if b then do
        let ds1 ← iter T it1 env1
        cgo (fun (d1 : D) (acc : List D) => (do
          let env2 ← ofO (bindT tg1 d1 (wipeE env1 vs1))
          let b1 ← tsto T ifs1 env2
          if b1 then do
            let e ← ev T elt env2
            push acc e
          else pure acc : M w.W (List D))) ds1 acc
      else pure acc : M w.W (List D))) = step at q
  refine lp wk (fun i F' H' => Aft w F1 H1 F' H' ∧ ∃ s' acc, w.rel s' H' ∧ AccAt w H1 L (dmIn dm) acc F' H' ∧ Out (cgo step (ds.drop i) acc s') (fun r s'' => Kt w s'' F H (.list r) dm Q) fun _ _ _ => False)
    (fun i F' H' ⟨A, s', acc, r, _⟩ => ⟨A, Hd.to A r⟩) ⟨F1, aft_new t1.hd.ex t1.hd.wf hD, s1, [], w.loc r1 fun a ha => upd_ne fun z => hw (z ▸ ha), ⟨t1.hd.ex.back hD, hw, [], [], upd_same, rfl, List.nodup_nil, fun _ z => nomatch z⟩, q.mono (fun r s'' z => z.pure) fun _ _ _ z => z⟩
    (fun F' H' ⟨A, s', acc, r, ac, q⟩ => ?fin) (fun i d x F' H' F'' H'' l ⟨A, s', acc, r, ac, q⟩ hd A2 n rp => ?turn)
  case fin =>
    rw [List.drop_length, cgo] at q
    have q' : Kt w s' F H (.list acc) dm Q := q
    exact q'.new1 (A1.trans A) r (ac.list A1 hD)
  case turn =>
    rw [drop_at hd, cgo] at q
    have r2 : w.rel s' H'' := w.loc r n
    have A' := A.trans A2
    have tb := (t1.aft A' r2).wipe vs
    have ac2 := ac.aft A2
    have q := q.bind
    rw [← hst] at q
    obtain ⟨env1, b1, q⟩ := q.bindO
    refine ⟨H0, F'', wipeE env vs, s', d, env1, tb, rp, b1, fun σ2 t2 hk => ⟨?_, H0, F'', env1, s', t2, (Out.bind q).mono (fun b s2 q F3 H3 A3 r3 => ?_) fun _ _ _ z => xt_no z⟩⟩
    · rw [wipe_ext (σ := wipe σ vs) (fun j hj => hk j fun z => hj (hv j z)) (by rw [t2.len, tb.len]; exact bindT_len b1)]
      exact wipe_ext (fun j hj => wipe_get hj) (wipe_length _ _)
    · have t3 := t2.aft A3 r3
      have A13 := A'.trans A3
      have ac3 := ac2.aft A3
      cases b with
      | false =>
        rw [hst] at q
        rw [if_neg Bool.false_ne_true] at q
        exact ⟨F3, A13, s2, acc, r3, ac3, q.pure⟩
      | true =>
        rw [hst] at q
        rw [if_pos rfl] at q
        refine ⟨H0, F3, env1, s2, t3, (Out.bind q).mono (fun ds1 s4 q J1 F4 H4 A4 r4 wk1 => ?_) fun _ _ _ z => xt_no z⟩
        have A14 := A13.trans A4
        have t4 := t3.aft A4 r4
        have ac4 := ac3.aft A4
        generalize hst1 : (fun (d1 : D) (acc : List D) => (do
          let env2 ← ofO (bindT tg1 d1 (wipeE env1 vs1))
          let b1 ← tsto T ifs1 env2
          if b1 then do
            let e ← ev T elt env2
            push acc e
          else pure acc : M w.W (List D))) = step1 at q
        refine lp wk1 (fun j F' H' => Aft w F1 H1 F' H' ∧ Ex F4 F' ∧ ∃ s' acc, w.rel s' H' ∧ AccAt w H1 L (dmIn dm) acc F' H' ∧ Out (cgo step1 (ds1.drop j) acc s') (fun r s'' => Out (cgo step (ds.drop (i + 1)) r s'') (fun r s'' => Kt w s'' F H (.list r) dm Q) fun _ _ _ => False) fun _ _ _ => False)
          (fun i F' H' ⟨A, e, s', acc, r, _⟩ => ⟨e, Hd.to A r⟩) ⟨F4, A14, Ex.refl _, s4, acc, r4, ac4, q⟩
          (fun F' H' ⟨A, e, s', acc, r, ac, q⟩ => ?fin1) (fun j d1 x1 F5 H5 F6 H6 l1 ⟨A, e5, s5, acc5, r5, ac5, q⟩ hd1 A6 n6 rp6 => ?turn1)
        case fin1 =>
          rw [List.drop_length, cgo] at q
          exact ⟨F', A, s', acc, r, ac, q.pure⟩
        case turn1 =>
          rw [drop_at hd1, cgo] at q
          have r6 : w.rel s5 H6 := w.loc r5 n6
          have A16 := A.trans A6
          have ex6 : Ex F'' F6 := (A3.ext.trans A4.ext).trans (e5.trans A6.ext)
          have t6 : At w H0 (mdT tg md) env1 s5 σ2 F6 H6 := t2.rebound ((t1.aft A16 r6).wipe vs) ex6 hk b1
          have tb6 := t6.wipe vs1
          have ac6 := ac5.aft A6
          have q := q.bind
          rw [← hst1] at q
          obtain ⟨env2, b2, q⟩ := q.bindO
          refine ⟨H0, F6, wipeE env1 vs1, s5, d1, env2, tb6, rp6, b2, fun σ3 t7 hk3 => ⟨?_, H0, F6, env2, s5, t7, (Out.bind q).mono (fun b s8 q F8 H8 A8 r8 => ?_) fun _ _ _ z => xt_no z⟩⟩
          · rw [wipe_ext (σ := wipe σ2 vs1) (fun j hj => hk3 j fun z => hj (hv1 j z)) (by rw [t7.len, tb6.len]; exact bindT_len b2)]
            exact wipe_ext (fun j hj => wipe_get hj) (wipe_length _ _)
          · have t8 := t7.aft A8 r8
            have A18 := A16.trans A8
            have ac8 := ac6.aft A8
            cases b with
            | false =>
              rw [hst1] at q
              rw [if_neg Bool.false_ne_true] at q
              exact ⟨F8, A18, e5.trans (A6.ext.trans A8.ext), s8, acc5, r8, ac8, q.pure⟩
            | true =>
              rw [hst1] at q
              rw [if_pos rfl] at q
              refine ⟨H0, F8, env2, s8, t8, (Out.bind q).mono (fun e s9 q y F9 H9 A9 r9 wt => ?_) fun _ _ _ z => xt_no z⟩
              obtain ⟨zs, z1, z2, z3⟩ := ac8.push A9 (fun a ha na => A18.back ha na) wt
              obtain ⟨lc, q⟩ := out_push q
              exact ⟨zs, z1, by rw [← z2]; exact cap_lt lc, F9, aft_upd (A18.trans A9) hD z3.1, e5.trans (A6.ext.trans (A8.ext.trans A9.ext)), s9, _, w.loc r9 fun a ha => upd_ne fun z => hw (z ▸ ha), z3, q⟩
end
end PD
namespace PD
open PySem PySem.Spec PyProof.Rows L2

/-- what is wanted behind a statement -/
def Sk (w : Wd) (F0 H0 F : Hp) (md' mdl : List (Option Nat)) (rl : Nat) (D : Ends) : O → w.W → Prop
  | .nx e, s' => ∀ σ' F' H', Ex F F' → Aft w F0 H0 F' H' → At w H0 md' e s' σ' F' H' → D.nx σ' H'
  | .brk e, s' => ∀ σ' F' H', Ex F F' → Aft w F0 H0 F' H' → At w H0 mdl e s' σ' F' H' → D.bk σ' H'
  | .cnt e, s' => ∀ σ' F' H', Ex F F' → Aft w F0 H0 F' H' → At w H0 mdl e s' σ' F' H' → D.ct σ' H'
  | .ret d, s' => Kt w s' F0 H0 d (.fr rl) D.rt
section
variable (w : Wd) (T : List (List D → M w.W D)) (E : XE) (md md' mdl : List (Option Nat)) (rl : Nat)
def RdS (st : PD.S) : TS := fun D σ H => ∃ F0 H0 F env s, Aft w F0 H0 F H ∧ At w H0 md env s σ F H ∧ Out (exS T st env s) (Sk w F0 H0 F md' mdl rl D) (Xt w E F0 H0)
def RdSs (st : List PD.S) : TS := fun D σ H => ∃ F0 H0 F env s, Aft w F0 H0 F H ∧ At w H0 md env s σ F H ∧ Out (exs T st env s) (Sk w F0 H0 F md' mdl rl D) (Xt w E F0 H0)
end
theorem PS.imp {X : Cx} {e : Stmt} {t t' : TS} (h : L2.PS X e t) (k : ∀ D σ H, t' D σ H → t D σ H) : L2.PS X e t' := ⟨fun pins s σ H D I q => h.run pins s σ H D I (k _ _ _ q)⟩
theorem PSs.imp {X : Cx} {e : List Stmt} {t t' : TS} (h : L2.PSs X e t) (k : ∀ D σ H, t' D σ H → t D σ H) : L2.PSs X e t' := ⟨fun pins s σ H D I q => h.run pins s σ H D I (k _ _ _ q)⟩
section
variable {w : Wd} {H0 F H F1 H1 F2 H2 : Hp} {md : List (Option Nat)} {env : Env} {s s1 : w.W} {σ : L2.St} {d d0 : D} {v : V} {i k m : Nat}
theorem Sk.mono {F0 F F' : Hp} {md' mdl : List (Option Nat)} {rl : Nat} {D : Ends} {o : O} {s' : w.W} (ex : Ex F F') (h : Sk w F0 H0 F md' mdl rl D o s') : Sk w F0 H0 F' md' mdl rl D o s' := by
  cases o with
  | nx e => exact fun σ' F2 H' x => h σ' F2 H' (ex.trans x)
  | brk e => exact fun σ' F2 H' x => h σ' F2 H' (ex.trans x)
  | cnt e => exact fun σ' F2 H' x => h σ' F2 H' (ex.trans x)
  | ret d => exact h
/-- what a slot owns may change -/
theorem At.mut (t : At w H0 md env s1 σ F1 H1) (hm : md[i]? = some (some k)) (hx : getV env i = some d0) : ∃ v fp, σ[i]? = some (some v) ∧ Own w.tk F1 H1 k d0 v fp ∧ (∀ a ∈ fp, F1 a = none ∧ a ∉ w.ads ∧ H0 a = none) ∧ fp.Nodup ∧
    ∀ s F2 H2 H3 d' fp', Aft w F1 H1 F2 H2 → w.rel s H2 → (∀ b, b ∉ fp → H3 b = H2 b) → Own w.tk F2 H3 k d' v fp' → fp'.Nodup → (∀ b ∈ fp', b ∈ fp ∨ (H1 b = none ∧ H0 b = none ∧ F2 b = none ∧ b ∉ w.ads)) → At w H0 md (env.set i (some d')) s σ F2 H3 := by
  obtain ⟨fps, c1, c2, c3, c4⟩ := t.cn
  obtain ⟨v, e1, e2⟩ := c1 i k d0 hm hx
  refine ⟨v, fps i, e1, e2, fun a ha => ⟨(c4 i a ha).1, (c4 i a ha).2.1, (c4 i a ha).2.2.1⟩, c2 i, fun s F2 H2 H3 d' fp' A r hs o nd nw => ?_⟩
  have t2 := t.aft A r
  have oth : ∀ j, j ≠ i → ∀ a ∈ fps j, a ∉ fps i := fun j n a ha => c3 j i a n ha
  have oth2 : ∀ j, j ≠ i → ∀ a ∈ fps j, a ∉ fp' := fun j n a ha z => by
    rcases nw a z with q | q
    · exact oth j n a ha q
    · obtain ⟨_, _, _, o, q2, _⟩ := c4 j a ha
      rw [q.1] at q2
      cases q2
  have F2n : ∀ j, ∀ a ∈ fps j, F2 a = none := fun j a ha => by
    obtain ⟨f1, _, _, o, f4, f5⟩ := c4 j a ha
    exact out_of A f4 f5 f1
  have adsn : ∀ a ∈ w.ads, a ∉ fps i := fun a ha z => (c4 i a z).2.1 ha
  have hd3 : Hd w F2 H3 := by
    refine ⟨fun a u q => ?_, A.wf, fun a ha => ?_⟩
    · rw [hs a fun z => by rw [F2n i a z] at q; cases q]
      exact A.sub a u q
    · rw [hs a (adsn a ha)]
      exact t2.hd.has a ha
  refine ⟨hd3, w.loc r fun a ha => hs a (adsn a ha), by rw [List.length_set, t.len], fun j => if j = i then fp' else fps j, fun j k' x hm' hx' => ?_, fun j => ?_, fun j l a n => ?_, fun j a => ?_⟩
  · show ∃ v, σ[j]? = some (some v) ∧ Own w.tk F2 H3 k' x v (if j = i then fp' else fps j)
    rcases getV_set hx' with ⟨rfl, rfl, l⟩ | ⟨n, hx'⟩
    · rw [hm] at hm'
      cases hm'
      rw [if_pos rfl]
      exact ⟨v, e1, o⟩
    · rw [if_neg n]
      obtain ⟨y, y1, y2⟩ := c1 j k' x hm' hx'
      exact ⟨y, y1, y2.mono A.ext fun a ha => by
        rw [hs a (oth j n a ha)]
        obtain ⟨_, f2, _, o, f4, f5⟩ := c4 j a ha
        rw [A.keep a o f2 f4, f4]⟩
  · show List.Nodup (if j = i then fp' else fps j)
    split
    · exact nd
    · exact c2 j
  · show a ∈ (if j = i then fp' else fps j) → a ∉ (if l = i then fp' else fps l)
    by_cases e : j = i
    · rw [if_pos e, if_neg fun z => n (e.trans z.symm)]
      exact fun ha hb => oth2 l (fun z => n (e.trans z.symm)) a hb ha
    · rw [if_neg e]
      by_cases e2 : l = i
      · rw [if_pos e2]
        exact fun ha => oth2 j e a ha
      · rw [if_neg e2]
        exact c3 j l a n
  · show a ∈ (if j = i then fp' else fps j) → _
    by_cases e : j = i
    · rw [if_pos e]
      intro ha
      obtain ⟨u, q⟩ := o.there a ha
      have nt : ∀ xs, u ≠ .tup xs := fun xs z => o.node a ha xs (by rw [q, z])
      rcases nw a ha with z | z
      · exact ⟨F2n i a z, (c4 i a z).2.1, (c4 i a z).2.2.1, u, q, nt⟩
      · exact ⟨z.2.2.1, z.2.2.2, z.2.1, u, q, nt⟩
    · rw [if_neg e]
      intro ha
      obtain ⟨f1, f2, f3, u, f4, f5⟩ := c4 j a ha
      exact ⟨F2n j a ha, f2, f3, u, by rw [hs a (oth j e a ha), A.keep a u f2 f4], f5⟩
/-- changes of what is new -/
theorem Aft.upd {F0 : Hp} {a : Addr} {o : HO} (A : Aft w F0 H0 F2 H2) (h0 : H0 a = none) (h2 : F2 a = none) : Aft w F0 H0 F2 (upd H2 a o) := aft_upd A h0 h2
end
section
variable {w : Wd} {T : List (List D → M w.W D)} {E : XE} {md md1 md2 mdl : List (Option Nat)} {rl : Nat} {X : Cx} {pos : Pos} {D : Ends} {σ : L2.St} {H : Hp}
theorem Out.xt {S α : Type} {r : R S α} {K : α → S → Prop} {E E' : Nat → List PD.D → S → Prop} (h : Out r K E) (k : ∀ c as s, E c as s → E' c as s) : Out r K E' := h.mono (fun _ _ z => z) k
theorem ss_nil : L2.PSs X [] (RdSs w T E md md mdl rl []) := PSs.imp pss_nil fun D σ H ⟨F0, H0, F, env, s, A0, t, q⟩ => by
  rw [exs] at q
  exact q.pure σ F H (Ex.refl _) A0 t
theorem ss_cons {st : Stmt} {rest : List Stmt} {x : PD.S} {xs : List PD.S} (h1 : L2.PS X st (RdS w T E md md1 mdl rl x)) (h2 : L2.PSs X rest (RdSs w T E md1 md2 mdl rl xs)) : L2.PSs X (st :: rest) (RdSs w T E md md2 mdl rl (x :: xs)) := by
  refine PSs.imp (pss_cons h1 h2) fun D σ H ⟨F0, H0, F, env, s, A0, t, q⟩ => ?_
  rw [exs] at q
  refine ⟨F0, H0, F, env, s, A0, t, q.bind.mono (fun o s1 q => ?_) fun _ _ _ z => z⟩
  cases o with
  | nx e => exact fun σ' F' H' ex A' t' => ⟨F0, H0, F', e, s1, A', t', q.mono (fun _ _ z => z.mono ex) fun _ _ _ z => z⟩
  | brk e => exact q
  | cnt e => exact q
  | ret d => exact q
/-- slots frozen, forgotten -/
def frz1 (md : List (Option Nat)) (c : Nat × Option Nat) : List (Option Nat) := match c.2 with
  | none => md.set c.1 none
  | some _ => match md[c.1]? with
    | some (some _) => md.set c.1 (some 0)
    | _ => md
def frzMd (md : List (Option Nat)) (cs : List (Nat × Option Nat)) : List (Option Nat) := cs.foldl frz1 md
theorem At.frz1 {F0 H0 F : Hp} {env : Env} {s : w.W} (A0 : Aft w F0 H0 F H) (t : At w H0 md env s σ F H) (c : Nat × Option Nat) : ∃ F', Ex F F' ∧ Aft w F0 H0 F' H ∧ At w H0 (PD.frz1 md c) env s σ F' H := by
  obtain ⟨i, o⟩ := c
  unfold PD.frz1
  cases o with
  | none =>
    refine ⟨F, Ex.refl _, A0, t.weak fun j k h => ?_⟩
    by_cases e : j = i
    · subst e
      rw [List.getElem?_set_self'] at h
      cases q : md[j]? with
      | none =>
        rw [q] at h
        cases h
      | some o =>
        rw [q] at h
        cases h
    · rwa [List.getElem?_set_ne (Ne.symm e)] at h
  | some z =>
    dsimp only
    split
    · rename_i k0 hk
      obtain ⟨F', e1, e2, e3, _⟩ := t.freeze A0 i hk
      exact ⟨F', e1, e2, e3⟩
    · exact ⟨F, Ex.refl _, A0, t⟩
theorem At.frzs {F0 H0 : Hp} {env : Env} {s : w.W} : ∀ {cs : List (Nat × Option Nat)} {md : List (Option Nat)} {F : Hp}, Aft w F0 H0 F H → At w H0 md env s σ F H → ∃ F', Ex F F' ∧ Aft w F0 H0 F' H ∧ At w H0 (frzMd md cs) env s σ F' H
  | [], md, F, A0, t => ⟨F, Ex.refl _, A0, t⟩
  | c :: cs, md, F, A0, t => by
    obtain ⟨F1, e1, A1, t1⟩ := At.frz1 A0 t c
    obtain ⟨F2, e2, A2, t2⟩ := At.frzs (cs := cs) A1 t1
    exact ⟨F2, e1.trans e2, A2, t2⟩
theorem ss_frz {rest : List Stmt} {cs : List (Nat × Option Nat)} {xs : List PD.S} (h : L2.PSs X rest (RdSs w T E (frzMd md cs) md2 mdl rl xs)) : L2.PSs X rest (RdSs w T E md md2 mdl rl (.frz cs :: xs)) := by
  refine PSs.imp h fun D σ H ⟨F0, H0, F, env, s, A0, t, q⟩ => ?_
  rw [exs, exS] at q
  obtain ⟨F', ex, A', t'⟩ := At.frzs (cs := cs) A0 t
  exact ⟨F0, H0, F', env, s, A', t', Out.mono (show Out (exs T xs env s) _ _ from q) (fun _ _ z => z.mono ex) fun _ _ _ z => z⟩
/-- less is known -/
theorem ss_weak {st : List Stmt} {x : List PD.S} (h : L2.PSs X st (RdSs w T E md md1 mdl rl x)) (k : ∀ (j k : Nat), md2[j]? = some (some k) → md1[j]? = some (some k)) : L2.PSs X st (RdSs w T E md md2 mdl rl x) := by
  refine PSs.imp h fun D σ H ⟨F0, H0, F, env, s, A0, t, q⟩ => ⟨F0, H0, F, env, s, A0, t, q.mono (fun o s1 z => ?_) fun _ _ _ z => z⟩
  cases o with
  | nx e => exact fun σ' F' H' ex A' t' => z σ' F' H' ex A' (t'.weak k)
  | brk e => exact z
  | cnt e => exact z
  | ret d => exact z
theorem t_asg {i k : Nat} {x : PD.X} (h : RdS w T E md (md.set i (some k)) mdl rl (.asg (.nm i) x) D σ H) : tAsg (RdE w T E md x (.fr k)) (gName i) D σ H := by
  obtain ⟨F0, H0, F, env, s, A0, t, q⟩ := h
  rw [exS] at q
  refine go_e t (q.xt fun _ _ _ z => z.aft A0) fun d v s1 F1 H1 A1 t1 w1 q => ?_
  obtain ⟨env', e, q⟩ := q.bindO
  unfold bindT at e
  cases e
  exact q.pure _ F1 H1 A1.ext (A0.trans A1) (t.put (fun a n z => A0.back n z) A1 t1.rel w1)
theorem t_asgT {tg : Tg} {x : PD.X} (h : RdS w T E md (mdT tg md) mdl rl (.asg tg x) D σ H) : tAsg (RdE w T E md x (.fr 0)) (RdG w md tg) D σ H := by
  obtain ⟨F0, H0, F, env, s, A0, t, q⟩ := h
  rw [exS] at q
  refine go_e t (q.xt fun _ _ _ z => z.aft A0) fun d v s1 F1 H1 A1 t1 w1 q => ?_
  obtain ⟨env', e, q⟩ := q.bindO
  obtain ⟨fp, ⟨_, r⟩, _⟩ := w1
  exact ⟨H0, F1, env, s1, d, env', t1, r, e, fun σ' t' _ => q.pure σ' F1 H1 A1.ext (A0.trans A1) t'⟩
theorem t_par2 {i j k l : Nat} {a b : PD.X} (hij : i ≠ j) (h : RdS w T E md ((md.set i (some k)).set j (some l)) mdl rl (.par [i, j] [a, b]) D σ H) : tPar i j (tCons (RdE w T E md a (.fr k)) (tCons (RdE w T E md b (.fr l)) tNil)) D σ H := by
  obtain ⟨F0, H0, F, env, s, A0, t, q⟩ := h
  rw [exS, evs, bind_assoc] at q
  refine go_e t (q.xt fun _ _ _ z => z.aft A0) fun d v s1 F1 H1 A1 t1 w1 q => ?_
  rw [bind_assoc, evs, bind_assoc] at q
  refine go_e t1 q fun e u s2 F2 H2 A2 t2 w2 q => ?_
  rw [bind_assoc, evs] at q
  obtain ⟨env', ee, q⟩ := Out.bindO (E := Xt w E F2 H2) (show Out ((do let env' ← ofO (setAll [i, j] [d, e] env); pure (O.nx env') : M w.W O) s2) _ _ from q)
  unfold setAll setAll setAll at ee
  cases ee
  exact ⟨v, u, rfl, q.pure _ F2 H2 (A1.ext.trans A2.ext) ((A0.trans A1).trans A2) ((t.put (fun a n z => A0.back n z) A1 t1.rel w1).put (fun a n z => (A0.trans A1).back n z) A2 t2.rel w2)⟩
theorem t_ret {x : PD.X} (h : RdS w T E md md1 mdl rl (.ret x) D σ H) : tRet (RdE w T E md x (.fr rl)) D σ H := by
  obtain ⟨F0, H0, F, env, s, A0, t, q⟩ := h
  rw [exS] at q
  exact ⟨H0, F, env, s, t, q.bind.mono (fun d s1 q => Kt.aft A0 q.pure) fun _ _ _ z => z.aft A0⟩
theorem t_retv {i : Nat} (hm : md[i]? = some (some rl)) (h : RdS w T E md md1 mdl rl (.ret (.var i)) D σ H) : tRet (tVar i) D σ H := by
  obtain ⟨F0, H0, F, env, s, A0, t, q⟩ := h
  rw [exS, ev] at q
  obtain ⟨d, e, q⟩ := q.bindO
  obtain ⟨v, fp, e1, o, n, nd, _⟩ := t.mut hm e
  exact ⟨v, e1, Out.pure q v F H A0 t.rel ⟨fp, o, nd, fun a ha => ⟨(n a ha).2.2, (n a ha).1, (n a ha).2.1⟩⟩⟩
theorem t_retN (h : RdS w T E md md1 mdl rl .retN D σ H) : tRetN D σ H := by
  obtain ⟨F0, H0, F, env, s, A0, t, q⟩ := h
  rw [exS] at q
  exact Kt.of (Kt.aft A0 q.pure) t.hd t.rel .none (frImm rfl)
theorem t_exp {x : PD.X} (h : RdS w T E md md mdl rl (.exp x) D σ H) : tDrop (RdE w T E md x (.fr 0)) D σ H := by
  obtain ⟨F0, H0, F, env, s, A0, t, q⟩ := h
  rw [exS] at q
  exact go_e t (q.xt fun _ _ _ z => z.aft A0) fun d v s1 F1 H1 A1 t1 w1 q => q.pure σ F1 H1 A1.ext (A0.trans A1) t1
theorem t_pas (h : RdS w T E md md mdl rl .pas D σ H) : tNext D σ H := by
  obtain ⟨F0, H0, F, env, s, A0, t, q⟩ := h
  rw [exS] at q
  exact q.pure σ F H (Ex.refl _) A0 t
theorem t_brk (h : RdS w T E mdl md1 mdl rl .brk D σ H) : tBreak D σ H := by
  obtain ⟨F0, H0, F, env, s, A0, t, q⟩ := h
  rw [exS] at q
  exact q.pure σ F H (Ex.refl _) A0 t
theorem t_cnt (h : RdS w T E mdl md1 mdl rl .cnt D σ H) : tCont D σ H := by
  obtain ⟨F0, H0, F, env, s, A0, t, q⟩ := h
  rw [exS] at q
  exact q.pure σ F H (Ex.refl _) A0 t
theorem t_weakL {st : PD.S} {md' : List (Option Nat)} (k : ∀ (j k : Nat), md'[j]? = some (some k) → md[j]? = some (some k)) (h : RdS w T E md md1 mdl rl st D σ H) : RdS w T E md' md1 mdl rl st D σ H := by
  obtain ⟨F0, H0, F, env, s, A0, t, q⟩ := h
  exact ⟨F0, H0, F, env, s, A0, t.weak k, q⟩
theorem t_iff {c : PD.X} {a b : List PD.S} (h : RdS w T E md md1 mdl rl (.iff c a b) D σ H) : tIfS (RdT w T E md c) (RdSs w T E md md1 mdl rl a) (RdSs w T E md md1 mdl rl b) D σ H := by
  obtain ⟨F0, H0, F, env, s, A0, t, q⟩ := h
  rw [exS] at q
  refine ⟨H0, F, env, s, t, q.bind.mono (fun r s1 q F1 H1 A1 r1 => ?_) fun _ _ _ z => z.aft A0⟩
  have t1 := t.aft A1 r1
  cases r with
  | true =>
    rw [if_pos rfl] at q
    exact ⟨F0, H0, F1, env, s1, A0.trans A1, t1, q.mono (fun _ _ z => z.mono A1.ext) fun _ _ _ z => z⟩
  | false =>
    rw [if_neg Bool.false_ne_true] at q
    exact ⟨F0, H0, F1, env, s1, A0.trans A1, t1, q.mono (fun _ _ z => z.mono A1.ext) fun _ _ _ z => z⟩
end
end PD
namespace PD
open PySem PySem.Spec PyProof.Rows L2

section
variable {w : Wd} {T : List (List D → M w.W D)} {E : XE} {md md1 md2 mdl : List (Option Nat)} {rl : Nat} {X : Cx} {pos : Pos} {D : Ends} {σ : L2.St} {H : Hp}
/-- for tg in it: .. -/
theorem t_for {tg : Tg} {it : PD.It} {b : List PD.S} (h : RdS w T E md md mdl rl (.for tg it b) D σ H) : tFor (RdI w T E md true it) (RdG w md tg) (RdSs w T E (mdT tg md) md md rl b) D σ H := by
  obtain ⟨F0, H0, F, env, s, A0, t, q⟩ := h
  rw [exS] at q
  refine ⟨H0, F, env, s, t, q.bind.mono (fun ds s1 q J F1 H1 A1 r1 wk => ?_) fun _ _ _ z => z.aft A0⟩
  have t1 := t.aft A1 r1
  generalize hst : (fun (d : PD.D) (e : Env) => (do
      let e' ← ofO (bindT tg d e)
      exs T b e' : M w.W O)) = step at q
  let Pv : Nat → L2.St → Hp → Prop := fun i σ' H' => ∃ F' env' s', Ex F1 F' ∧ Aft w F0 H0 F' H' ∧ At w H0 md env' s' σ' F' H' ∧ Out (fgo step (ds.drop i) env' s') (Sk w F0 H0 F md mdl rl D) (Xt w E F0 H0)
  refine ⟨fun i m σ' H' => m = ds.length - i ∧ i ≤ ds.length ∧ Pv i σ' H', ⟨_, rfl, Nat.zero_le _, F1, env, s1, Ex.refl _, A0.trans A1, t1, q⟩, ?_⟩
  rintro i m σ' H' ⟨rfl, hi, F', env', s', ex, A', t', q⟩
  obtain ⟨st, go⟩ := wk F' H' ex t'.hd
  by_cases l : i < ds.length
  · have hd : ds[i]? = some ds[i] := List.getElem?_eq_getElem l
    obtain ⟨g1, g2⟩ := go i ds[i] hd
    refine .inr ⟨g1, Pv (i + 1), fun σ2 H2 p => ⟨ds.length - (i + 1), by omega, rfl, l, p⟩, fun x H'' y => ?_⟩
    obtain ⟨F'', A2, n, rp⟩ := g2 x H'' y
    have t2 := t'.aft A2 (w.loc t'.rel n)
    rw [drop_at hd, fgo] at q
    have q := q.bind
    rw [← hst] at q
    obtain ⟨e1, b1, q⟩ := q.bindO
    rw [hst] at q
    refine ⟨H0, F'', env', s', ds[i], e1, t2, rp, b1, fun σ2 t3 _ => ⟨F0, H0, F'', e1, s', A'.trans A2, t3, q.mono (fun o s2 q => ?_) fun _ _ _ z => z⟩⟩
    cases o with
    | nx e => exact fun σ3 F3 H3 ex3 A3 t4 => ⟨F3, e, s2, (ex.trans A2.ext).trans ex3, A3, t4, q⟩
    | cnt e => exact fun σ3 F3 H3 ex3 A3 t4 => ⟨F3, e, s2, (ex.trans A2.ext).trans ex3, A3, t4, q⟩
    | brk e => exact fun σ3 F3 H3 ex3 A3 t4 => Out.pure q σ3 F3 H3 (A1.ext.trans ((ex.trans A2.ext).trans ex3)) A3 t4
    | ret d => exact q.pure
  · obtain rfl : i = ds.length := by omega
    rw [List.drop_length, fgo] at q
    exact .inl ⟨st, q.pure σ' F' H' (A1.ext.trans ex) A' t'⟩
/-- while c: .. -/
theorem t_whl {c : PD.X} {b : List PD.S} (h : RdS w T E md md mdl rl (.whl c b) D σ H) : tWhile (RdT w T E md c) (RdSs w T E md md md rl b) D σ H := by
  obtain ⟨F0, H0, F, env, s, A0, t, q⟩ := h
  rw [exS] at q
  refine ⟨fun m σ' H' => ∃ F' env' s', Ex F F' ∧ Aft w F0 H0 F' H' ∧ At w H0 md env' s' σ' F' H' ∧ Out (wgo (tst T c) (exs T b) m env' s') (Sk w F0 H0 F md mdl rl D) (Xt w E F0 H0), ⟨turns, F, env, s, Ex.refl _, A0, t, q⟩, ?_⟩
  rintro m σ' H' ⟨F', env', s', ex, A', t', q⟩
  cases m with
  | zero => exact q.elim
  | succ m =>
    rw [wgo] at q
    refine ⟨H0, F', env', s', t', q.bind.mono (fun r s1 q F1 H1 A1 r1 => ?_) fun _ _ _ z => z.aft A'⟩
    have t1 := t'.aft A1 r1
    have A2 := A'.trans A1
    cases r with
    | false =>
      rw [if_neg Bool.false_ne_true] at q
      exact Out.pure q σ' F1 H1 (ex.trans A1.ext) A2 t1
    | true =>
      rw [if_pos rfl] at q
      show ∃ N : L2.St → Hp → Prop, _ ∧ _
      refine ⟨fun σ' H' => ∃ F' env' s', Ex F F' ∧ Aft w F0 H0 F' H' ∧ At w H0 md env' s' σ' F' H' ∧ Out (wgo (tst T c) (exs T b) m env' s') (Sk w F0 H0 F md mdl rl D) (Xt w E F0 H0), fun σ2 H2 p => ⟨m, Nat.lt_succ_self m, p⟩, F0, H0, F1, env', s1, A2, t1, (Out.bind q).mono (fun o s2 q => ?_) fun _ _ _ z => z⟩
      cases o with
      | nx e => exact fun σ3 F3 H3 ex3 A3 t4 => ⟨F3, e, s2, (ex.trans A1.ext).trans ex3, A3, t4, q⟩
      | cnt e => exact fun σ3 F3 H3 ex3 A3 t4 => ⟨F3, e, s2, (ex.trans A1.ext).trans ex3, A3, t4, q⟩
      | brk e => exact fun σ3 F3 H3 ex3 A3 t4 => Out.pure q σ3 F3 H3 ((ex.trans A1.ext).trans ex3) A3 t4
      | ret d => exact q.pure
theorem out_getL {env : Env} {i : Nat} {β : Type} {s : w.W} {f : List PD.D → M w.W β} {K : β → w.W → Prop} {E' : Nat → List PD.D → w.W → Prop} (h : Out ((getL env i >>= f) s) K E') : ∃ xs, getV env i = some (.list xs) ∧ Out (f xs s) K E' := by
  unfold getL at h
  split at h
  · rename_i xs e
    exact ⟨xs, e, h⟩
  · exact h.elim
/-- found.append(e) -/
theorem t_app {i k : Nat} {x : PD.X} (hm : md[i]? = some (some (k + 1))) (h : RdS w T E md md mdl rl (.app i x) D σ H) : tDrop (tBM X.K "list" rAppend (tVar i) (tCons (RdE w T E md x (.fr k)) tNil)) D σ H := by
  obtain ⟨F0, H0, F, env, s, A0, t, q⟩ := h
  rw [exS] at q
  obtain ⟨ds, e, q⟩ := out_getL q
  obtain ⟨v, fp, e1, o, n, nd, up⟩ := t.mut hm e
  obtain ⟨a, vs, f, rfl, e2, al, rfl⟩ := o
  refine ⟨_, e1, .inl ⟨rfl, vs, .inl (.inl e2)⟩, go_e t (q.xt fun _ _ _ z => z.aft A0) fun d y s1 F1 H1 A1 t1 w1 q => ?_⟩
  split at q
  · rename_i lc
    have na := n a (by simp)
    have ha : H1 a = some (.lst vs) := A1.keep _ _ na.2.1 e2
    obtain ⟨gp, g1, g2, g3⟩ := w1
    have al1 := All3.aft A1 al fun b hb => (n b (List.mem_cons_of_mem _ hb)).2.1
    have lv : ds.length = vs.length := (All3.reps (H := H1) al1 fun d v f hf hp => hp.rep A1.sub fun _ _ => rfl).length
    have anf : a ∉ f := (List.nodup_cons.mp nd).1
    have ang : a ∉ gp := fun z => by
      rw [(g3 a z).1] at e2
      cases e2
    have own : Own w.tk F1 (L2.upd H1 a (.lst (vs ++ [y]))) (k + 1) (.list (ds ++ [d])) (.ref a) (a :: (f ++ gp)) :=
      ⟨a, vs ++ [y], f ++ gp, rfl, upd_same, (All3.snoc al1 g1).imp fun d v f' _ hf q => q.mono (Ex.refl _) fun b hb => upd_ne fun z => (List.mem_append.mp (hf b hb)).elim (fun q => anf (z ▸ q)) fun q => ang (z ▸ q), rfl⟩
    have nd2 : (a :: (f ++ gp)).Nodup := List.nodup_cons.mpr ⟨fun z => (List.mem_append.mp z).elim anf ang, List.nodup_append.mpr ⟨(List.nodup_cons.mp nd).2, g2, fun b hb c hc z => by
      subst z
      obtain ⟨u, z, _⟩ := All3.there al b hb
      rw [(g3 b hc).1] at z
      cases z⟩⟩
    refine ⟨a, vs, y, rfl, rfl, ha, by rw [← lv]; exact cap_lt lc, Out.pure q σ F1 _ A1.ext ((A0.trans A1).upd na.2.2 (out_of A1 e2 (fun _ z => nomatch z) na.1)) (up s1 F1 H1 _ _ _ A1 t1.rel (fun b hb => upd_ne fun z => hb (by simp [z])) own nd2 fun b hb => ?_)⟩
    rcases List.mem_cons.mp hb with z | z
    · exact .inl (by simp [z])
    · rcases List.mem_append.mp z with z | z
      · exact .inl (List.mem_cons_of_mem _ z)
      · exact .inr ⟨(g3 b z).1, A0.back (g3 b z).2.2 (g3 b z).1, (g3 b z).2⟩
  · exact q.elim
/-- found.extend(e) -/
theorem t_ext {i : Nat} {x : PD.X} (hm : md[i]? = some (some 1)) (h : RdS w T E md md mdl rl (.ext i x) D σ H) : tDrop (tBM X.K "list" rExtend (tVar i) (tCons (RdE w T E md x (.br 1)) tNil)) D σ H := by
  obtain ⟨F0, H0, F, env, s, A0, t, q⟩ := h
  rw [exS] at q
  obtain ⟨ds, e, q⟩ := out_getL q
  obtain ⟨v, fp, e1, o, n, nd, up⟩ := t.mut hm e
  obtain ⟨a, vs, f, rfl, e2, al, rfl⟩ := o
  refine ⟨_, e1, .inl ⟨rfl, vs, .inl (.inl e2)⟩, go_e t (q.xt fun _ _ _ z => z.aft A0) fun d y s1 F1 H1 A1 t1 w1 q => ?_⟩
  obtain ⟨ys, e3, q2⟩ := q.bindO
  obtain rfl : d = .list ys := by
    cases d <;> cases e3
    rfl
  clear q
  split at q2
  · rename_i lc
    have na := n a (by simp)
    have ha : H1 a = some (.lst vs) := A1.keep _ _ na.2.1 e2
    obtain ⟨r1, rfl⟩ := all3_frozen al
    obtain ⟨b, zs, rfl, hb, r2⟩ := w1.it.list t1.hd.ex
    have r1 := r1.mono A1.ext
    have own : Own w.tk F1 (L2.upd H1 a (.lst (vs ++ zs))) 1 (.list (ds ++ ys)) (.ref a) [a] := ⟨a, vs ++ zs, [], rfl, upd_same, all3_of (r1.append r2), rfl⟩
    refine ⟨a, b, vs, zs, rfl, rfl, ha, hb, by rw [← r1.length, ← r2.length]; exact cap_line lc, Out.pure q2 σ F1 _ A1.ext ((A0.trans A1).upd na.2.2 (out_of A1 e2 (fun _ z => nomatch z) na.1)) (up s1 F1 H1 _ _ _ A1 t1.rel (fun b hb => upd_ne fun z => hb (by simp [z])) own (by simp) fun b hb => .inl hb)⟩
  · exact q2.elim
theorem reps_erase {tk : Int → Option V} {F : Hp} : ∀ {ds : List PD.D} {vs : List V} (r : Reps tk F ds vs) (k : Nat), Reps tk F (ds.eraseIdx k) (vs.eraseIdx k)
  | _, _, .nil, k => .nil
  | _, _, .cons h r, 0 => r
  | _, _, .cons h r, k + 1 => .cons h (reps_erase r k)
theorem reps_last {tk : Int → Option V} {F : Hp} : ∀ {ds : List PD.D} {vs : List V} (r : Reps tk F ds vs), Reps tk F ds.dropLast vs.dropLast
  | _, _, .nil => .nil
  | _, _, .cons h .nil => .nil
  | _, _, .cons h (.cons h2 r) => .cons h (reps_last (.cons h2 r))
/-- what pop leaves -/
theorem pop_state {i : Nat} {ds : List PD.D} {p : PD.D × List PD.D} {F0 H0 F F1 H1 : Hp} {env : Env} {s s1 : w.W} {o : Option Int} (hm : md[i]? = some (some 1)) (A0 : Aft w F0 H0 F H) (t : At w H0 md env s σ F H) (e : getV env i = some (.list ds)) (A1 : Aft w F H F1 H1) (t1 : At w H0 md env s1 σ F1 H1) (ep : popD ds o = some p) :
    ∃ a vs y zs, σ[i]? = some (some (.ref a)) ∧ H1 a = some (.lst vs) ∧ Rep w.tk F1 p.1 y ∧ Aft w F0 H0 F1 (L2.upd H1 a (.lst zs)) ∧ At w H0 md (env.set i (some (.list p.2))) s1 σ F1 (L2.upd H1 a (.lst zs)) ∧
      (match o with
        | none => vs[vs.length - 1]? = some y ∧ zs = vs.dropLast
        | some j => -(2 ^ 63) ≤ j ∧ j < 2 ^ 63 ∧ ∃ k, seqIndex? j vs.length = some k ∧ vs[k]? = some y ∧ zs = vs.eraseIdx k) := by
  obtain ⟨v, fp, e1, ow, n, nd, up⟩ := t.mut hm e
  obtain ⟨a, vs, f, rfl, e2, al, rfl⟩ := ow
  have na := n a (by simp)
  have ha : H1 a = some (.lst vs) := A1.keep _ _ na.2.1 e2
  obtain ⟨r1, rfl⟩ := all3_frozen al
  have r1 := r1.mono A1.ext
  have fin : ∀ zs, Reps w.tk F1 p.2 zs → Aft w F0 H0 F1 (L2.upd H1 a (.lst zs)) ∧ At w H0 md (env.set i (some (.list p.2))) s1 σ F1 (L2.upd H1 a (.lst zs)) := fun zs rz =>
    ⟨(A0.trans A1).upd na.2.2 (out_of A1 e2 (fun _ z => nomatch z) na.1), up s1 F1 H1 _ _ _ A1 t1.rel (fun b hb => upd_ne fun z => hb (by simp [z])) ⟨a, zs, [], rfl, upd_same, all3_of rz, rfl⟩ (by simp) fun b hb => .inl hb⟩
  cases o with
  | none =>
    simp only [popD, Option.map_eq_some_iff] at ep
    obtain ⟨x, x1, rfl⟩ := ep
    obtain ⟨y, y1, y2⟩ := r1.get x1
    obtain ⟨f1, f2⟩ := fin vs.dropLast (reps_last r1)
    exact ⟨a, vs, y, _, e1, ha, y2, f1, f2, by rw [← r1.length]; exact y1, rfl⟩
  | some j =>
    simp only [popD] at ep
    split at ep
    · rename_i c
      simp only [Option.bind_eq_some_iff, Option.map_eq_some_iff] at ep
      obtain ⟨k, k1, x, x1, rfl⟩ := ep
      obtain ⟨y, y1, y2⟩ := r1.get x1
      obtain ⟨f1, f2⟩ := fin (vs.eraseIdx k) (reps_erase r1 k)
      exact ⟨a, vs, y, _, e1, ha, y2, f1, f2, c.1, c.2, k, by rw [← r1.length]; exact k1, y1, rfl⟩
    · cases ep
/-- tg = left.pop(e) -/
theorem t_popAt {i : Nat} {tg : Tg} {x : PD.X} (hm : md[i]? = some (some 1)) (h : RdS w T E md (mdT tg md) mdl rl (.pop tg i (some x)) D σ H) : tAsg (tBM X.K "list" rPopAt (tVar i) (tCons (RdE w T E md x (.br 1)) tNil)) (RdG w md tg) D σ H := by
  obtain ⟨F0, H0, F, env, s, A0, t, q⟩ := h
  rw [exS] at q
  obtain ⟨ds, e, q⟩ := out_getL q
  obtain ⟨v, fp, e1, ow, _⟩ := t.mut hm e
  obtain ⟨a0, vs0, f0, rfl, e2, _⟩ := ow
  rw [evo, bind_assoc] at q
  refine ⟨_, e1, .inl ⟨rfl, vs0, .inl (.inl e2)⟩, go_e t (q.xt fun _ _ _ z => z.aft A0) fun d y s1 F1 H1 A1 t1 w1 q => ?_⟩
  rw [bind_assoc] at q
  obtain ⟨j, rfl, q⟩ := Out.int q
  obtain ⟨p, ep, q⟩ := Out.bindO (E := Xt w E F1 H1) (show Out ((do let p ← ofO (popD ds (some j)); let env' ← ofO (bindT tg p.1 (env.set i (some (.list p.2)))); pure (O.nx env') : M w.W O) s1) _ _ from q)
  obtain ⟨env', eb, q⟩ := q.bindO
  obtain ⟨a, vs, z, zs, b1, b2, b3, b4, b5, c1, c2, k, c3, c4, rfl⟩ := pop_state hm A0 t e A1 t1 ep
  rw [e1] at b1
  cases b1
  exact ⟨a0, vs, j, k, z, rfl, by rw [w1.it.vint t1.hd.ex], b2, c1, c2, c3, c4, H0, F1, _, s1, p.1, env', b5, b3, eb, fun σ' t' _ => Out.pure q σ' F1 _ A1.ext b4 t'⟩
/-- found.append(left.pop(e)) -/
theorem t_apop {i j : Nat} {x : PD.X} (hij : j ≠ i) (hm : md[i]? = some (some 1)) (hj : md[j]? = some (some 1)) (h : RdS w T E md md mdl rl (.apop j i (some x)) D σ H) :
    tDrop (tBM X.K "list" rAppend (tVar j) (tCons (tBM X.K "list" rPopAt (tVar i) (tCons (RdE w T E md x (.br 1)) tNil)) tNil)) D σ H := by
  obtain ⟨F0, H0, F, env, s, A0, t, q⟩ := h
  rw [exS] at q
  obtain ⟨ys, ey, q⟩ := out_getL q
  obtain ⟨ds, e, q⟩ := out_getL q
  obtain ⟨v, fp, e1, ow, _⟩ := t.mut hm e
  obtain ⟨a0, vs0, f0, rfl, e2, _⟩ := ow
  obtain ⟨u, gp, g1, gw, _⟩ := t.mut hj ey
  obtain ⟨c0, us0, h0, rfl, g2, _⟩ := gw
  rw [evo, bind_assoc] at q
  refine ⟨_, g1, .inl ⟨rfl, us0, .inl (.inl g2)⟩, _, e1, .inl ⟨rfl, vs0, .inl (.inl e2)⟩, go_e t (q.xt fun _ _ _ z => z.aft A0) fun d y s1 F1 H1 A1 t1 w1 q => ?_⟩
  rw [bind_assoc] at q
  obtain ⟨n, rfl, q⟩ := Out.int q
  obtain ⟨p, ep, q⟩ := Out.bindO (E := Xt w E F1 H1) (show Out ((do let p ← ofO (popD ds (some n)); if ys.length < cap then pure (.nx ((env.set i (some (.list p.2))).set j (some (.list (ys ++ [p.1]))))) else M.bad : M w.W O) s1) _ _ from q)
  obtain ⟨a, vs, z, zs, b1, b2, b3, b4, b5, c1, c2, k, c3, c4, rfl⟩ := pop_state hm A0 t e A1 t1 ep
  rw [e1] at b1
  cases b1
  refine ⟨a0, vs, n, k, z, rfl, by rw [w1.it.vint t1.hd.ex], b2, c1, c2, c3, c4, ?_⟩
  have ey2 : getV (env.set i (some (.list p.2))) j = some (.list ys) := by
    unfold getV
    rw [List.getElem?_set_ne (Ne.symm hij)]
    exact ey
  obtain ⟨u, gp, g1', gw, gn, gnd, gup⟩ := b5.mut hj ey2
  obtain ⟨c, us, f, rfl, g3, al, rfl⟩ := gw
  rw [g1] at g1'
  cases g1'
  obtain ⟨r1, rfl⟩ := all3_frozen al
  split at q
  · rename_i lc
    have nc := gn c0 (by simp)
    refine ⟨c0, us, z, rfl, rfl, g3, by rw [← r1.length]; exact cap_lt lc, Out.pure q σ F1 _ A1.ext (b4.upd nc.2.2 nc.1) (gup s1 F1 _ _ _ _ (Aft.rfl' b5) b5.rel (fun b hb => upd_ne fun z => hb (by simp [z])) ⟨c0, us ++ [z], [], rfl, upd_same, all3_of (r1.append (.cons b3 .nil)), rfl⟩ (by simp) fun b hb => .inl hb)⟩
  · exact q.elim
end
end PD
namespace PD
open PySem PySem.Spec PyProof.Rows L2

section
variable {w : Wd} {X : Cx}
def rA (w : Wd) (g : D → D → Option D) : R2 := fun x y H Q => ∃ F d e z, Hd w F H ∧ It1 w F H d x ∧ It1 w F H e y ∧ g d e = some z ∧ ∀ v, Rep w.tk F z v → immB z = true → Q v H
theorem iop_D : ∀ o : Bop, OpR X (inplaceOp (oprOf o)) (rA w (iopD o)) := by
  intro o pins s σ H x y v u Q I rx ry h
  obtain ⟨F, d, e, z, hd, id, ie, hg, q⟩ := h
  cases o with
  | add =>
    unfold iopD at hg
    split at hg <;> first | contradiction | skip
    · cases hg
      exact iop_add pins s σ H x y v u Q I rx ry ⟨_, _, id.vint hd.ex, ie.vint hd.ex, q _ (.int _) rfl⟩
    · split at hg
      · rename_i l
        cases hg
        exact iop_add_str pins s σ H x y v u Q I rx ry ⟨_, _, id.vstr hd.ex, ie.vstr hd.ex, cap_line l, q _ (.str _) rfl⟩
      · cases hg
  | sub =>
    unfold iopD at hg
    split at hg <;> first | contradiction | skip
    cases hg
    exact iop_sub pins s σ H x y v u Q I rx ry ⟨_, _, id.vint hd.ex, ie.vint hd.ex, q _ (.int _) rfl⟩
  | mul =>
    unfold iopD at hg
    split at hg <;> first | contradiction | skip
    split at hg
    · rename_i c
      cases hg
      refine iop_mul pins s σ H x y v u Q I rx ry ⟨_, _, id.vint hd.ex, ie.vint hd.ex, ?_, q _ (.int _) rfl⟩
      rcases (Bool.or_eq_true _ _).mp c with c | c
      · exact .inl (small_iff c)
      · exact .inr (small_iff c)
    · cases hg
  | mod =>
    unfold iopD at hg
    split at hg <;> first | contradiction | skip
    split at hg
    · rename_i c
      cases hg
      exact iop_mod pins s σ H x y v u Q I rx ry ⟨_, _, id.vint hd.ex, ie.vint hd.ex, c, q _ (.int _) rfl⟩
    · cases hg
  | fdiv =>
    unfold iopD at hg
    split at hg <;> first | contradiction | skip
    split at hg
    · rename_i c
      cases hg
      exact iop_fdiv pins s σ H x y v u Q I rx ry ⟨_, _, id.vint hd.ex, ie.vint hd.ex, c, q _ (.int _) rfl⟩
    · cases hg
  | band =>
    unfold iopD at hg
    split at hg <;> first | contradiction | skip
    cases hg
    exact iop_and pins s σ H x y v u Q I rx ry ⟨_, _, id.vint hd.ex, ie.vint hd.ex, q _ (.int _) rfl⟩
  | bor =>
    unfold iopD at hg
    split at hg <;> first | contradiction | skip
    cases hg
    exact iop_or pins s σ H x y v u Q I rx ry ⟨_, _, id.vint hd.ex, ie.vint hd.ex, q _ (.int _) rfl⟩
  | bxor =>
    unfold iopD at hg
    split at hg <;> first | contradiction | skip
    cases hg
    exact iop_xor pins s σ H x y v u Q I rx ry ⟨_, _, id.vint hd.ex, ie.vint hd.ex, q _ (.int _) rfl⟩
  | _ =>
    unfold iopD at hg
    split at hg <;> contradiction
/-- o[i] = v of a list or a dict -/
def rPut (X : Cx) : TSet := fun o i v H Q => rSetL o i v H Q ∨ ∃ a, o = .ref a ∧ ((∃ H', DPut H a i v H' ∧ Q H') ∨ (H a = some (.dT []) ∧ ∃ H', DPut (upd H a (.dK [])) a i v H' ∧ Q H'))
theorem set_D (hu : X.A.units + 200 < cLine) : PSet X (rPut X) := by
  intro pins s σ H o i v ov iv u Q I ro ri rv h
  rcases h with h | ⟨a, rfl, ⟨H', g, q⟩ | ⟨e, H', g, q⟩⟩
  · exact set_list pins s σ H o i v ov iv u Q I ro ri rv h
  · obtain rfl : ov = Value.ref a := ro
    exact d_setItem (by omega) I g ri rv fun s' I' => ⟨H', I', q⟩
  · obtain rfl : ov = Value.ref a := ro
    exact d_setItem (by omega) (swK I e) g ri rv fun s' I' => ⟨H', I', q⟩
end
theorem keyedK {tk : Int → Option V} {F : Hp} {k : D} {q : Key} (hk : keyK k = some q) : ∀ {kvs : List (D × D)} {ps : List (Key × V)}, RepK tk F kvs ps → keyed kvs k = ps.any fun kv => decide (kv.1 = q)
  | _, _, .nil => rfl
  | (kd, d) :: kvs, (p, v) :: ps, .cons h1 h2 h3 => by
    unfold keyed
    rw [List.any_cons, List.any_cons, eqvK h1 hk]
    exact congrArg _ (keyedK hk h3)
theorem keyedT {tk : Int → Option V} {F : Hp} {k : D} {q : List Key} (hk : keyT k = some q) : ∀ {kvs : List (D × D)} {ps : List (List Key × V)}, RepT tk F kvs ps → keyed kvs k = ps.any fun kv => decide (kv.1 = q)
  | _, _, .nil => rfl
  | (kd, d) :: kvs, (p, v) :: ps, .cons h1 h2 h3 => by
    unfold keyed
    rw [List.any_cons, List.any_cons, eqvT h1 hk]
    exact congrArg _ (keyedT hk h3)
theorem mapK {tk : Int → Option V} {F : Hp} {k d : D} {q : Key} {v : V} (hk : keyK k = some q) (hv : Rep tk F d v) : ∀ {kvs : List (D × D)} {ps : List (Key × V)}, RepK tk F kvs ps →
    RepK tk F (kvs.map fun kv => if PyData.eqv kv.1 k then (kv.1, d) else kv) (ps.map fun kv => if kv.1 = q then (kv.1, v) else kv)
  | _, _, .nil => .nil
  | (kd, x) :: kvs, (p, y) :: ps, .cons h1 h2 h3 => by
    rw [List.map_cons, List.map_cons]
    by_cases c : p = q
    · rw [if_pos (by rw [eqvK h1 hk]; exact decide_eq_true c), if_pos c]
      exact .cons h1 hv (mapK hk hv h3)
    · rw [if_neg (by rw [eqvK h1 hk]; simpa using c), if_neg c]
      exact .cons h1 h2 (mapK hk hv h3)
theorem mapT {tk : Int → Option V} {F : Hp} {k d : D} {q : List Key} {v : V} (hk : keyT k = some q) (hv : Rep tk F d v) : ∀ {kvs : List (D × D)} {ps : List (List Key × V)}, RepT tk F kvs ps →
    RepT tk F (kvs.map fun kv => if PyData.eqv kv.1 k then (kv.1, d) else kv) (ps.map fun kv => if kv.1 = q then (kv.1, v) else kv)
  | _, _, .nil => .nil
  | (kd, x) :: kvs, (p, y) :: ps, .cons h1 h2 h3 => by
    rw [List.map_cons, List.map_cons]
    by_cases c : p = q
    · rw [if_pos (by rw [eqvT h1 hk]; exact decide_eq_true c), if_pos c]
      exact .cons h1 hv (mapT hk hv h3)
    · rw [if_neg (by rw [eqvT h1 hk]; simpa using c), if_neg c]
      exact .cons h1 h2 (mapT hk hv h3)
theorem snocK {tk : Int → Option V} {F : Hp} {k d : D} {q : Key} {v : V} (hk : keyK k = some q) (hv : Rep tk F d v) : ∀ {kvs : List (D × D)} {ps : List (Key × V)}, RepK tk F kvs ps → RepK tk F (kvs ++ [(k, d)]) (ps ++ [(q, v)])
  | _, _, .nil => .cons hk hv .nil
  | _, _, .cons h1 h2 h3 => .cons h1 h2 (snocK hk hv h3)
theorem snocT {tk : Int → Option V} {F : Hp} {k d : D} {q : List Key} {v : V} (hk : keyT k = some q) (hv : Rep tk F d v) : ∀ {kvs : List (D × D)} {ps : List (List Key × V)}, RepT tk F kvs ps → RepT tk F (kvs ++ [(k, d)]) (ps ++ [(q, v)])
  | _, _, .nil => .cons hk hv .nil
  | _, _, .cons h1 h2 h3 => .cons h1 h2 (snocT hk hv h3)
theorem putKs {tk : Int → Option V} {F : Hp} {k d : D} {q : Key} {v : V} {kvs : List (D × D)} {ps : List (Key × V)} (hk : keyK k = some q) (hv : Rep tk F d v) (h : RepK tk F kvs ps) : RepK tk F (putD kvs k d) (putK ps q v) := by
  unfold putD putK
  rw [keyedK hk h]
  split
  · exact mapK hk hv h
  · exact snocK hk hv h
theorem putTs {tk : Int → Option V} {F : Hp} {k d : D} {q : List Key} {v : V} {kvs : List (D × D)} {ps : List (List Key × V)} (hk : keyT k = some q) (hv : Rep tk F d v) (h : RepT tk F kvs ps) : RepT tk F (putD kvs k d) (putK ps q v) := by
  unfold putD putK
  rw [keyedT hk h]
  split
  · exact mapT hk hv h
  · exact snocT hk hv h
theorem putK_ne {q : Key} {v : V} {ps : List (Key × V)} : putK ps q v ≠ [] := by
  unfold putK
  split
  · rename_i h
    cases ps with
    | nil => cases h
    | cons => simp
  · simp
section
variable {w : Wd} {T : List (List D → M w.W D)} {E : XE} {md md1 md2 mdl : List (Option Nat)} {rl : Nat} {X : Cx} {pos : Pos} {D : Ends} {σ : L2.St} {H : Hp}
theorem reps_set {tk : Int → Option V} {F : Hp} {d : PD.D} {y : V} (r1 : Rep tk F d y) : ∀ {ds : List PD.D} {vs : List V} (r : Reps tk F ds vs) (k : Nat), Reps tk F (ds.set k d) (vs.set k y)
  | _, _, .nil, k => .nil
  | _, _, .cons h r, 0 => .cons r1 r
  | _, _, .cons h r, k + 1 => .cons h (reps_set r1 r k)
/-- the key of a dict: what a put wants -/
theorem put_dict {F1 H1 : Hp} {kvs : List (PD.D × PD.D)} {jd d : PD.D} {y v : V} {a : Addr} (hd : Hd w F1 H1) (hk : DictAt w.tk F1 H1 kvs a) (ik : It1 w F1 H1 jd y) (rv : Rep w.tk F1 d v) (ft : fits kvs jd = true) (l : kvs.length < cap) {Q : Hp → Prop}
    (q : ∀ o, DictAt w.tk F1 (upd H1 a o) (putD kvs jd d) a → Q (upd H1 a o)) : (∃ H', DPut H1 a y v H' ∧ Q H') ∨ (H1 a = some (.dT []) ∧ ∃ H', DPut (upd H1 a (.dK [])) a y v H' ∧ Q H') := by
  rcases hk with ⟨ps, ⟨h1, n⟩, r⟩ | ⟨ps, h1, r⟩
  · have hl := RepK.length r
    cases r with
    | nil => exact absurd rfl n
    | cons c1 c2 c3 =>
      rename_i kd d' k' v' kvs' ps'
      have nk : (keyT kd).isSome = false := by
        cases kd <;> simp [keyK] at c1 <;> rfl
      unfold fits at ft
      simp [nk] at ft
      obtain ⟨qk, hq⟩ := Option.isSome_iff_exists.mp ft.2
      obtain rfl : y = kV qk := kV_of (ik.rep hd.ex) hq
      exact .inl ⟨_, .k h1 (by rw [← hl]; exact cap_lt l), q _ (.inl ⟨_, ⟨upd_same, putK_ne⟩, putKs hq rv (.cons c1 c2 c3)⟩)⟩
  · have hl := RepT.length r
    cases r with
    | nil =>
      have z : (keyK jd).isSome = true ∨ (keyT jd).isSome = true := by
        simpa [fits, isKey] using ft
      rcases z with z | z
      · obtain ⟨qk, hq⟩ := Option.isSome_iff_exists.mp z
        obtain rfl : y = kV qk := kV_of (ik.rep hd.ex) hq
        refine .inr ⟨h1, _, .k upd_same (by simp; decide), ?_⟩
        have e : L2.upd (L2.upd H1 a (.dK [])) a (.dK (putK [] qk v)) = L2.upd H1 a (.dK (putK [] qk v)) := by
          funext b
          by_cases c : b = a
          · subst c
            rw [upd_same, upd_same]
          · rw [upd_ne c, upd_ne c, upd_ne c]
        rw [e]
        exact q _ (.inl ⟨_, ⟨upd_same, putK_ne⟩, putKs hq rv .nil⟩)
      · obtain ⟨qk, hq⟩ := Option.isSome_iff_exists.mp z
        cases jd with
        | tuple ds =>
          obtain ⟨b, zs, rfl, e1, e2, r2⟩ := ik.tuple hd.ex
          obtain rfl : zs = qk.map kV := kVs_of r2 hq
          exact .inl ⟨_, .t h1 e2 (by simp; decide), q _ (.inr ⟨_, upd_same, putTs hq rv .nil⟩)⟩
        | _ => cases hq
    | cons c1 c2 c3 =>
      rename_i kd d' k' v' kvs' ps'
      have nk : (keyK kd).isSome = false := by
        cases kd <;> simp [keyT] at c1 <;> rfl
      unfold fits at ft
      simp [nk] at ft
      obtain ⟨qk, hq⟩ := Option.isSome_iff_exists.mp ft.2
      cases jd with
      | tuple ds =>
        obtain ⟨b, zs, rfl, e1, e2, r2⟩ := ik.tuple hd.ex
        obtain rfl : zs = qk.map kV := kVs_of r2 hq
        exact .inl ⟨_, .t h1 e2 (by rw [← hl]; exact cap_lt l), q _ (.inr ⟨_, upd_same, putTs hq rv (.cons c1 c2 c3)⟩)⟩
      | _ => cases hq
theorem put_tok {kvs : List (PD.D × PD.D)} {jd d : PD.D} (ft : fits kvs jd = true) (j : Int) (h : putD kvs jd d = [(.list [], .int j)]) : False := by
  unfold putD at h
  split at h
  · match kvs, h, ft with
    | [x], h, ft =>
      obtain ⟨k0, v0⟩ := x
      have e : k0 = .list [] := by
        simp only [List.map_cons, List.map_nil] at h
        injection h with h _
        split at h
        · exact (Prod.mk.inj h).1
        · exact (Prod.mk.inj h).1
      subst e
      cases ft
    | _ :: _ :: _, h, _ => simp at h
    | [], h, _ => simp at h
  · match kvs, h, ft with
    | [], h, ft =>
      simp only [List.nil_append] at h
      injection h with h _
      obtain ⟨e, _⟩ := Prod.mk.inj h
      subst e
      cases ft
    | _ :: _, h, _ => simp at h
theorem md_same {i k : Nat} (h : md[i]? = some (some k)) : md.set i (some k) = md := by
  refine List.ext_getElem? fun j => ?_
  by_cases e : j = i
  · subst e
    rw [List.getElem?_set_self', h]
    rfl
  · rw [List.getElem?_set_ne (Ne.symm e)]
/-- x[k] = e -/
theorem t_sset {i : Nat} {k e : PD.X} (hm : md[i]? = some (some 1)) (h : RdS w T E md md mdl rl (.sset i [] k e) D σ H) : tAsg (RdE w T E md e (.fr 0)) (gSub (tVar i) (RdE w T E md k (.br 1)) (rPut X)) D σ H := by
  obtain ⟨F0, H0, F, env, s, A0, t, q⟩ := h
  rw [exS] at q
  refine go_e t (q.xt fun _ _ _ z => z.aft A0) fun d v s1 F1 H1 A1 t1 w1 q => ?_
  obtain ⟨x, e1, q⟩ := q.bindO
  rw [evs] at q
  have q : Out ((ev T k env >>= fun j => do let d' ← ofO (updP (fun y => mutD .set y [j, d]) [] x); pure (.nx (env.set i (some d'))) : M w.W O) s1) (Sk w F0 H0 F md mdl rl D) (Xt w E F1 H1) := q
  obtain ⟨u, fp, e2, ow, n, nd, up⟩ := t1.mut hm e1
  obtain ⟨fp0, ⟨_, rv⟩, _⟩ := w1
  refine ⟨u, e2, go_e t1 q fun jd y s2 F2 H2 A2 t2 w2 q => ?_⟩
  obtain ⟨x', e3, q⟩ := q.bindO
  have rv2 := rv.mono A2.ext
  rw [updP] at e3
  cases x with
  | list ds =>
    obtain ⟨a, vs, f, rfl, ha, al, rfl⟩ := ow
    have na := n a (by simp)
    have ha2 : H2 a = some (.lst vs) := A2.keep _ _ na.2.1 ha
    obtain ⟨r1, rfl⟩ := all3_frozen al
    have r1 := r1.mono A2.ext
    cases jd with
    | int j =>
      simp only [mutD, Option.map_eq_some_iff] at e3
      obtain ⟨p, p1, rfl⟩ := e3
      refine .inl ⟨a, vs, j, p, rfl, w2.it.vint t2.hd.ex, ha2, by rw [← r1.length]; exact p1, Out.pure q σ F2 _ (A1.ext.trans A2.ext) (((A0.trans A1).trans A2).upd na.2.2 (out_of A2 ha (fun _ z => nomatch z) na.1)) (up s2 F2 H2 _ _ _ A2 t2.rel (fun b hb => upd_ne fun z => hb (by simp [z])) ⟨a, _, [], rfl, upd_same, all3_of (reps_set rv2 r1 p), rfl⟩ (by simp) fun b hb => .inl hb)⟩
    | _ => cases e3
  | dict kvs =>
    have ft : fits kvs jd = true ∧ kvs.length < cap ∧ x' = .dict (putD kvs jd d) ∧ ∀ j, kvs ≠ [(.list [], .int j)] := by
      unfold mutD at e3
      split at e3 <;> first | contradiction | skip
      rename_i nt e4 e5
      cases e4
      cases e5
      split at e3
      · rename_i c
        cases e3
        have c := Bool.and_eq_true_iff.mp c
        exact ⟨c.1, of_decide_eq_true c.2, rfl, fun j z => tok_not c.1 j z⟩
      · cases e3
    obtain ⟨f1, f2, rfl, f3⟩ := ft
    unfold Own at ow
    split at ow
    · rename_i heq
      cases heq
    · rename_i heq
      injection heq with heq
      exact absurd heq (f3 _)
    · rename_i heq
      injection heq with heq
      subst heq
      obtain ⟨a, f, rfl, ow, rfl⟩ := ow
      have na := n a (by simp)
      have fz : f = [] ∧ DictAt w.tk F2 H2 kvs a ∧ ∃ o, H1 a = some o ∧ ∀ xs, o ≠ .tup xs := by
        rcases ow with ⟨ps, h1, al⟩ | ⟨ps, h1, al⟩
        · obtain ⟨r, rfl⟩ := allK_frozen al
          exact ⟨rfl, .inl ⟨ps, ⟨A2.keep _ _ na.2.1 h1.1, h1.2⟩, RepK.mono A2.ext r⟩, _, h1.1, fun _ z => nomatch z⟩
        · obtain ⟨r, rfl⟩ := allT_frozen al
          exact ⟨rfl, .inr ⟨ps, A2.keep _ _ na.2.1 h1, RepT.mono A2.ext r⟩, _, h1, fun _ z => nomatch z⟩
      obtain ⟨rfl, dk, o0, z1, z2⟩ := fz
      refine .inr ⟨a, rfl, put_dict t2.hd dk w2.it rv2 f1 f2 fun o dk' => ?_⟩
      refine Out.pure q σ F2 _ (A1.ext.trans A2.ext) (((A0.trans A1).trans A2).upd na.2.2 (out_of A2 z1 z2 na.1)) (up s2 F2 H2 _ _ [a] A2 t2.rel (fun b hb => upd_ne fun z => hb (by simp [z])) ?_ (by simp) fun b hb => .inl hb)
      unfold Own
      split
      · rename_i heq
        cases heq
      · rename_i j heq
        exact absurd heq (by
          intro z
          injection z with z
          exact put_tok f1 _ z)
      · rename_i heq
        injection heq with heq
        subst heq
        refine ⟨a, [], rfl, ?_, rfl⟩
        rcases dk' with ⟨ps, h1, r⟩ | ⟨ps, h1, r⟩
        · exact .inl ⟨ps, h1, allK_of r⟩
        · exact .inr ⟨ps, h1, allT_of r⟩
      · rename_i x3
        exact absurd rfl (x3 _)
    · rename_i x3
      exact absurd rfl (x3 _)
  | _ => cases e3
/-- x op= e -/
theorem t_aug {i : Nat} {o : Bop} {x : PD.X} (hm : md[i]? = some (some 0)) (h : RdS w T E md md mdl rl (.aug i o x) D σ H) : tAug i (RdE w T E md x (.br 1)) (rA w (iopD o)) D σ H := by
  obtain ⟨F0, H0, F, env, s, A0, t, q⟩ := h
  rw [exS] at q
  obtain ⟨d, e, q⟩ := q.bindO
  obtain ⟨fps, c1, c2, c3, c4⟩ := t.cn
  obtain ⟨v, e1, e2⟩ := c1 i 0 d hm e
  refine ⟨v, e1, go_e t (q.xt fun _ _ _ z => z.aft A0) fun d2 u s1 F1 H1 A1 t1 w1 q => ?_⟩
  obtain ⟨z, ez, q⟩ := q.bindO
  refine ⟨F1, d, d2, z, t1.hd, .of (e2.2.mono A1.ext), w1.it, ez, fun y r _ => ?_⟩
  have t2 := t1.set (i := i) r
  rw [md_same hm] at t2
  exact Out.pure q _ F1 H1 A1.ext (A0.trans A1) t2
end
end PD
namespace PD
open PySem PySem.Spec PyProof.Rows L2

structure Deck where
  cells : List Int
  mixed : Int
  draws : Int
structure Dk where
  nm : Str
  kc : Str
  km : Str
  kd : Str
  i0 : Nat
def isDk : D → Bool
  | .dict [(.list [], .int 0)] => true
  | _ => false
theorem isDk_ok {y : D} (h : isDk y = true) : y = objD 0 := by
  unfold isDk at h
  split at h
  · rfl
  · cases h
def intOf : D → Option Int
  | .int n => some n
  | _ => none
theorem intOf_ok {y : D} {n : Int} (h : intOf y = some n) : y = .int n := by
  cases y <;> cases h
  rfl
section
variable {W : Type} (v : W → Deck) (u : Deck → W → W)
def prim0 (f : W → Option (D × W)) : List D → M W D := fun ds s => match ds with
  | [y] => if isDk y then (match f s with
    | some r => .ok r.1 r.2
    | none => .bad) else .bad
  | _ => .bad
def primN (f : Int → W → Option (D × W)) : List D → M W D := fun ds s => match ds with
  | [y, z] => if isDk y then (match intOf z with
    | some n => (match f n s with
      | some r => .ok r.1 r.2
      | none => .bad)
    | none => .bad) else .bad
  | _ => .bad
def pMix : List D → M W D := prim0 fun s => some (.int (v s).mixed, s)
def pDrw : List D → M W D := prim0 fun s => some (.int (v s).draws, s)
def pNe : List D → M W D := prim0 fun s => some (.bool !(v s).cells.isEmpty, s)
def pSet : List D → M W D := primN fun n s => some (.none, u { v s with draws := n } s)
def pPop : List D → M W D := prim0 fun s => ((v s).cells.getLast?).map fun x => (.int x, u { v s with cells := (v s).cells.dropLast } s)
def pApp : List D → M W D := primN fun n s => if (v s).cells.length < cap then some (.none, u { v s with cells := (v s).cells ++ [n] } s) else none
def pId : List D → M W D := prim0 fun s => some (objD 0, s)
variable {v u}
theorem prim0_ok {f : W → Option (D × W)} {y : D} {s : W} {K : D → W → Prop} {E : Nat → List D → W → Prop} (h : Out (prim0 f [y] s) K E) : y = objD 0 ∧ ∃ r, f s = some r ∧ K r.1 r.2 := by
  unfold prim0 at h
  dsimp only at h
  split at h
  · rename_i c
    cases e : f s with
    | none =>
      rw [e] at h
      exact h.elim
    | some r =>
      rw [e] at h
      exact ⟨isDk_ok c, r, rfl, h⟩
  · exact h.elim
theorem primN_ok {f : Int → W → Option (D × W)} {y z : D} {s : W} {K : D → W → Prop} {E : Nat → List D → W → Prop} (h : Out (primN f [y, z] s) K E) : y = objD 0 ∧ ∃ n r, z = .int n ∧ f n s = some r ∧ K r.1 r.2 := by
  unfold primN at h
  dsimp only at h
  split at h
  · rename_i c
    cases e : intOf z with
    | none =>
      rw [e] at h
      exact h.elim
    | some n =>
      rw [e] at h
      dsimp only at h
      cases e2 : f n s with
      | none =>
        rw [e2] at h
        exact h.elim
      | some r =>
        rw [e2] at h
        exact ⟨isDk_ok c, n, r, intOf_ok e, e2, h⟩
  · exact h.elim
end
def dkO (d : Dk) (c : Addr) (x : Deck) : List (Key × V) := [(.inr d.kc, .ref c), (.inr d.km, .int x.mixed), (.inr d.kd, .int x.draws)]
/-- the deck stands at p, its cells at c -/
structure DkAt (w : Wd) (T : List (List D → M w.W D)) (d : Dk) (p c : Addr) (v : w.W → Deck) (u : Deck → w.W → w.W) : Prop where
  tk : w.tk 0 = some (.ref p)
  mp : p ∈ w.ads
  mc : c ∈ w.ads
  at_ : ∀ {s H}, w.rel s H → H p = some (.dK (dkO d c (v s))) ∧ H c = some (.lst ((v s).cells.map V.int))
  put : ∀ {s H} (x : Deck), w.rel s H → w.rel (u x s) (upd (upd H c (.lst (x.cells.map V.int))) p (.dK (dkO d c x)))
  k1 : d.kc ≠ d.km
  k2 : d.kc ≠ d.kd
  k3 : d.km ≠ d.kd
  t0 : T[d.i0]? = some (pMix v)
  t1 : T[d.i0 + 1]? = some (pDrw v)
  t2 : T[d.i0 + 2]? = some (pNe v)
  t3 : T[d.i0 + 3]? = some (pSet v u)
  t4 : T[d.i0 + 4]? = some (pPop v u)
  t5 : T[d.i0 + 5]? = some (pApp v u)
  t6 : T[d.i0 + 6]? = some pId
def DkF (w : Wd) (T : List (List D → M w.W D)) (d : Dk) : Prop := ∃ p c v u, DkAt w T d p c v u

inductive Gb where
  | fn (i rl : Nat) (shs : List Shape)
  | cst (d : D)
  | bi
structure Sc where
  N : List Str
  scp : Scope
  cel : Option (List Str)
  gl : List (Str × Gb)
  md : List (Option Nat)
  dep : List Nat
  fz : List (Nat × List (Nat × Option Nat))
  mdl : List (Option Nat)
  rl : Nat
  dk : Option Dk
def ixOf (x : Str) : List Str → Option Nat
  | [] => none
  | y :: ys => if y = x then some 0 else (ixOf x ys).map (· + 1)
theorem ixOf_ok {x : Str} : ∀ {ys : List Str} {i : Nat}, ixOf x ys = some i → ys[i]? = some x
  | y :: ys, i, h => by
    unfold ixOf at h
    split at h
    · rename_i e
      cases h
      simp [e]
    · simp only [Option.map_eq_some_iff] at h
      obtain ⟨j, e, rfl⟩ := h
      simpa using ixOf_ok e
theorem lookup_mem {α β : Type} [BEq α] [LawfulBEq α] {x : α} {v : β} : ∀ {l : List (α × β)}, l.lookup x = some v → (x, v) ∈ l
  | (a, b) :: l, h => by
    rw [List.lookup_cons] at h
    by_cases e : x == a
    · rw [e] at h
      cases h
      rw [eq_of_beq e]
      simp
    · simp only [Bool.not_eq_true] at e
      rw [e] at h
      exact List.mem_cons_of_mem _ (lookup_mem h)
def Sc.isFn (sc : Sc) (x : Str) : Bool := match sc.cel with
  | none => true
  | some l => l.contains x
def visK : Option NameKind → Bool
  | some .local => true
  | some .cell => true
  | some .free => true
  | _ => false
def slotOf (sc : Sc) (x : Str) : Option Nat := if visK (sc.scp.names.lookup x) then ixOf x sc.N else none
def stoOf (sc : Sc) (x : Str) : Option Nat := match sc.scp.names.lookup x with
  | some .local => ixOf x sc.N
  | some .cell => if sc.isFn x then ixOf x sc.N else none
  | _ => none
def isGl : Option NameKind → Bool
  | some .globalImplicit => true
  | _ => false
def glOf (sc : Sc) (x : Str) : Option Gb := if isGl (sc.scp.names.lookup x) then sc.gl.lookup x else none
/-- what is known of a global name -/
def GlF (w : Wd) (T : List (List D → M w.W D)) (E : XE) (X : Cx) (x : Str) : Gb → Prop
  | .fn i rl shs => ∃ g, T[i]? = some g ∧ FnF w E X x g rl shs
  | .cst d => ∃ v u, X.mg x = some u ∧ RelV v u ∧ immB d = true ∧ ∀ F, Rep w.tk F d v
  | .bi => X.mg x = none
structure Fac (X : Cx) (w : Wd) (T : List (List D → M w.W D)) (E : XE) (sc : Sc) : Prop where
  hu : X.A.units + 200 < cLine
  hg : X.A.guards = some []
  nt : ∀ k, w.tk k ≠ some .non
  calm : X.calm = true
  nd : X.N.Nodup
  eN : X.N = sc.N
  scp : X.env.scope = sc.scp
  knd : sc.scp.kind = .function
  fn : ∀ x, sc.isFn x = true → X.fn x = true
  gl : ∀ p ∈ sc.gl, GlF w T E X p.1 p.2
  dkf : ∀ d, sc.dk = some d → DkF w T d
def nmOk (x : Str) : Bool := !(x == ("__debug__" : Str)) && !(x == ("__classdict__" : Str))
/-- how deep a name's slot is owned -/
def mdOf (sc : Sc) (x : Str) : Option (Nat × Nat) := match slotOf sc x with
  | some i => match sc.md[i]? with
    | some (some k) => if nmOk x then some (i, k) else none
    | _ => none
  | none => none
section
variable {X : Cx} {w : Wd} {T : List (List D → M w.W D)} {E : XE} {sc : Sc} {x : Str} {i : Nat}
theorem visK_ok {x : Str} {s : Scope} (h : visK (s.names.lookup x) = true) : Vis s x := by
  unfold visK at h
  unfold Vis
  split at h <;> first | (rename_i e; rw [e]; simp; done) | (rename_i e; exact .inl e) | (rename_i e; exact .inr (.inl e)) | (rename_i e; exact .inr (.inr e)) | cases h
theorem slot_ok (f : Fac X w T E sc) (h : slotOf sc x = some i) : X.N[i]? = some x ∧ Vis X.env.scope x := by
  unfold slotOf at h
  split at h
  · rename_i c
    rw [f.eN, f.scp]
    exact ⟨ixOf_ok h, visK_ok c⟩
  · cases h
theorem sto_ok (f : Fac X w T E sc) (h : stoOf sc x = some i) : X.N[i]? = some x ∧ Loc X.env.scope x ∧ (X.fn x = true ∨ X.env.scope.names.lookup x = some .local) := by
  unfold stoOf at h
  rw [f.eN, f.scp]
  split at h
  · rename_i e
    exact ⟨ixOf_ok h, .inl e, .inr e⟩
  · rename_i e
    split at h
    · rename_i c
      exact ⟨ixOf_ok h, .inr e, .inl (f.fn x c)⟩
    · cases h
  · cases h
theorem gl_ok {g : Gb} (f : Fac X w T E sc) (h : glOf sc x = some g) : Gl X x ∧ GlF w T E X x g := by
  unfold glOf at h
  split at h
  · rename_i c
    refine ⟨?_, f.gl _ (lookup_mem h)⟩
    unfold isGl at c
    split at c
    · rename_i e
      unfold Gl Env.kindOf
      rw [f.scp]
      exact e
    · cases c
  · cases h
theorem mdOf_ok {k : Nat} (fc : Fac X w T E sc) (h : mdOf sc x = some (i, k)) : X.N[i]? = some x ∧ Vis X.env.scope x ∧ sc.md[i]? = some (some k) ∧ (x == ("__debug__" : Str)) = false ∧ (x == ("__classdict__" : Str)) = false := by
  unfold mdOf at h
  split at h
  · rename_i j hj
    split at h
    · rename_i k' hk
      split at h
      · rename_i c
        cases h
        unfold nmOk at c
        simp only [Bool.and_eq_true, Bool.not_eq_true'] at c
        obtain ⟨h1, h2⟩ := slot_ok fc hj
        exact ⟨h1, h2, hk, c.1, c.2⟩
      · cases h
    · cases h
  · cases h
theorem rel_free {s0 : Scope} {env : PySem.Env} {x : Str} : ∀ {names : List (Str × NameKind)}, names.lookup x = some .free →
    (names.map fun (n, k) => if (k == NameKind.free && env.scope.kind == .function && env.kindOf n == some .cell) then (n, NameKind.cell) else (n, k)).lookup x = some .cell ∨
    (names.map fun (n, k) => if (k == NameKind.free && env.scope.kind == .function && env.kindOf n == some .cell) then (n, NameKind.cell) else (n, k)).lookup x = some .free
  | (n, k) :: r, h => by
    have ih := @rel_free s0 env x r
    rw [List.map_cons]
    rw [List.lookup_cons] at h
    dsimp only
    by_cases c : (k == NameKind.free && env.scope.kind == .function && env.kindOf n == some .cell) = true
    · rw [if_pos c, List.lookup_cons]
      cases hx : x == n with
      | true => exact .inl rfl
      | false =>
        rw [hx] at h
        exact ih h
    · rw [if_neg c, List.lookup_cons]
      cases hx : x == n with
      | true =>
        rw [hx] at h
        exact .inr h
      | false =>
        rw [hx] at h
        exact ih h
/-- the scope of a block -/
def blkScope (scope sc : Scope) : Scope := relS scope sc
def Sc.blk (sc : Sc) (scope : Scope) : Sc := { sc with scp := relS scope sc.scp, cel := some (scope.names.filterMap fun p => match p.2 with | .cell => some p.1 | _ => none) }
/-- the block's own names -/
def ownOf (N : List Str) (scope : Scope) : List (Str × Nat) := scope.names.filterMap fun p => match p.2 with
  | .local => (ixOf p.1 N).map fun i => (p.1, i)
  | .cell => (ixOf p.1 N).map fun i => (p.1, i)
  | _ => none
theorem FnF.blk {g : List D → M w.W D} {rl : Nat} {shs : List Shape} (h : FnF w E X x g rl shs) (s : Shared) (H : Hp) (scope : Scope) (cenv : PySem.Env) (fp : List Addr) : FnF w noE (X.blk s H scope cenv fp) x g rl shs := by
  obtain ⟨f, fd, k, n, ps, CX, xc, Ex, hm, hk, hr, G, hx, hxc, no, hn, hb⟩ := h
  exact ⟨f, fd, k, n, ps, CX, xc, fun _ _ _ => False, hm, hk, hr, G, fun _ _ _ _ _ _ _ z => no _ _ _ _ _ z, fun _ _ _ z => z.elim, no, hn, hb⟩
theorem Fac.blk (f : Fac X w T E sc) {scope : Scope} {own : List (Str × Nat)} (ok : BlkOk X.N X.env.scope scope own) (s : Shared) (H : Hp) (C : Addr) (cl : List (Str × Addr)) (fp : List Addr) : Fac (X.blk s H scope (compEnvC scope cl C X.env) fp) w T noE (sc.blk scope) := by
  refine ⟨f.hu, f.hg, f.nt, f.calm, f.nd, f.eN, ?_, ok.kind, fun x h => ?_, fun p hp => ?_, f.dkf⟩
  · show relabel scope X.env = relS scope sc.scp
    rw [← f.scp]
    rfl
  · show (scope.names.lookup x == some .cell) = true
    unfold Sc.isFn Sc.blk at h
    simp only [List.contains_eq_mem, decide_eq_true_eq, List.mem_filterMap] at h
    obtain ⟨⟨y, k⟩, hy, e⟩ := h
    have u := ok.uniq _ hy
    cases k with
    | cell =>
      cases e
      rw [u]
      rfl
    | _ => cases e
  · have q := f.gl p hp
    obtain ⟨y, g⟩ := p
    cases g with
    | fn i rl shs =>
      obtain ⟨g, e, q⟩ := q
      exact ⟨g, e, q.blk s H scope _ fp⟩
    | cst d => exact q
    | bi => exact q
end
end PD
namespace PD
open PySem PySem.Spec PyProof.Rows L2

def noStar : Expr → Bool
  | .Starred .. => false
  | _ => true
def notSet : Expr → Bool
  | .Set .. => false
  | _ => true
def notComp : Expr → Bool
  | .ListComp .. => false
  | .SetComp .. => false
  | .DictComp .. => false
  | _ => true
def notTup : Expr → Bool
  | .Tuple .. => false
  | _ => true
def isTupE : Expr → Bool
  | .Tuple .. => true
  | _ => false
def notCallE : Expr → Bool
  | .Call _ [] _ _ => false
  | _ => true
def notSlice : Expr → Bool
  | .Slice .. => false
  | _ => true
theorem star_ok {e : Expr} {es : List Expr} {env : PySem.Env} (h : noStar e = true) : starEach (e :: es) env = (false, eval e env) :: starEach es env := by
  cases e <;> first | rfl | cases h
theorem stars_ok {es : List Expr} {env : PySem.Env} {pos : Pos} (h : es.all noStar = true) : (backTo pos (starEach es env)).any (·.1) = false := by
  induction es with
  | nil => rfl
  | cons e es ih =>
    rw [List.all_cons, Bool.and_eq_true] at h
    rw [star_ok h.1]
    show (false || _) = false
    exact ih h.2
theorem set_ok {e : Expr} {env : PySem.Env} {x : Value} (h : notSet e = true) : foldedSetIterable e env x = pure x := by
  cases e <;> first | rfl | cases h
theorem comp_ok {e : Expr} {t : Option Expr} {l : Nat} {env : PySem.Env} (h : notComp e = true) : swapsWith e t l env = pure false := by
  cases e <;> first | rfl | cases h
theorem base_ok {e : Expr} {n : Str} {env : PySem.Env} {wh : Sem Value} (h : notCallE e = true) : attributeBase e n env wh = wh := by
  cases e with
  | Call f as kws p =>
    cases as with
    | nil => cases h
    | cons a as => cases f <;> rfl
  | _ => rfl
theorem slice_ok {e : Expr} (h : notSlice e = true) : PlainIx e := by
  intro o i
  cases e <;> first | rfl | cases h

def bopOf : Operator → Option Bop
  | .Add => some .add
  | .Sub => some .sub
  | .Mult => some .mul
  | .Mod => some .mod
  | .FloorDiv => some .fdiv
  | .Pow => some .pow
  | .BitAnd => some .band
  | .BitOr => some .bor
  | .BitXor => some .bxor
  | .LShift => some .shl
  | .RShift => some .shr
  | _ => none
theorem bopOf_ok {o : Operator} {b : Bop} (h : bopOf o = some b) : o = oprOf b := by
  cases o <;> cases h <;> rfl
def copOf : CmpOp → Cop
  | .Eq => .eq
  | .NotEq => .ne
  | .Lt => .lt
  | .LtE => .le
  | .Gt => .gt
  | .GtE => .ge
  | .Is => .is
  | .IsNot => .isn
  | .In => .inn
  | .NotIn => .nin
theorem copOf_ok (o : CmpOp) : o = coprOf (copOf o) := by cases o <;> rfl

abbrev CE := Sc → Dm → Expr → X
abbrev CT := Sc → Expr → X
def OkE (ce : CE) : Prop := ∀ (X : Cx) (w : Wd) (T : List (List D → M w.W D)) (E : XE) (sc : Sc) (dm : Dm) (e : Expr), Fac X w T E sc → L2.PE X e (RdE w T E sc.md (ce sc dm e) dm)
def OkT (ct : CT) : Prop := ∀ (X : Cx) (w : Wd) (T : List (List D → M w.W D)) (E : XE) (sc : Sc) (e : Expr), Fac X w T E sc → L2.PT X e (RdT w T E sc.md (ct sc e))
theorem st_bad {w : Wd} {T : List (List D → M w.W D)} {E : XE} {md : List (Option Nat)} {X : Cx} {e : Expr} : L2.PT X e (RdT w T E md .bad) := PT.never fun σ H Q ⟨_, _, _, _, _, h⟩ => by
  rw [tst_d rfl, ev] at h
  exact h
theorem sa_map {ce : CE} (ok : OkE ce) {X : Cx} {w : Wd} {T : List (List D → M w.W D)} {E : XE} {sc : Sc} {dm : Dm} (f : Fac X w T E sc) : ∀ {es : List Expr}, es.all noStar = true → L2.PA X es (RdA w T E sc.md (es.map (ce sc dm)) dm)
  | [], _ => sa_nil
  | e :: es, h => by
    rw [List.all_cons, Bool.and_eq_true] at h
    exact sa_cons (ok X w T E sc dm e f) (sa_map ok f h.2) (star_ok h.1)
theorem sk_map {ce : CE} (ok : OkE ce) {X : Cx} {w : Wd} {T : List (List D → M w.W D)} {E : XE} {sc : Sc} {dm : Dm} (f : Fac X w T E sc) : ∀ {kws : List Keyword}, L2.PK X kws (RdA w T E sc.md (kws.map fun kw => ce sc dm kw.value) dm)
  | [] => sk_nil
  | ⟨nm, e, kp⟩ :: kws => sk_cons (ok X w T E sc dm e f) (sk_map ok f)

theorem ite_or {α : Type} {c : Prop} [Decidable c] {a : α} {x : Option α} {y : α} (h : (if c then some a else x) = some y) : (c ∧ a = y) ∨ x = some y := by
  by_cases e : c
  · rw [if_pos e] at h
    exact .inl ⟨e, Option.some.inj h⟩
  · rw [if_neg e] at h
    exact .inr h
def biTab (f : Str) : Option Bi :=
  if f = "len" then some .len else
  if f = "sum" then some .sum else
  if f = "all" then some .all else
  if f = "any" then some .any else
  if f = "min" then some .min2 else
  if f = "max" then some .max2 else
  if f = "abs" then some .abs else
  if f = "int" then some .toInt else
  if f = "sorted" then some .sorted else
  if f = "list" then some .list else
  if f = "tuple" then some .tuple else
  if f = "repr" then some .repr else none
def isTab (t : Str) : Option Bi :=
  if t = "int" then some .isInt else
  if t = "bool" then some .isBool else
  if t = "tuple" then some .isTup else
  if t = "str" then some .isStr else
  if t = "list" then some .isList else none
section
variable {w : Wd} {T : List (List D → M w.W D)} {E : XE} {sc : Sc} {X : Cx} {dm : Dm} {pos : Pos}
theorem bi_ok {f : Str} {b : Bi} {e : Expr} {es : List Expr} {xs : List PD.X} {p : Pos} (fc : Fac X w T E sc) (hb : biTab f = some b) (hg : Gl X f) (hm : X.mg f = none) (ha : L2.PA X (e :: es) (RdA w T E sc.md xs (.br 1))) (ok : newOk dm = true) (hs : (e :: es).all noStar = true) :
    L2.PE X (.Call (.Name f p) (e :: es) [] pos) (RdE w T E sc.md (.bi b xs) dm) := by
  rw [List.all_cons, Bool.and_eq_true] at hs
  have s1 := star_ok (es := es) (env := X.env) hs.1
  have s2 := stars_ok (env := X.env) (pos := pos) hs.2
  unfold biTab at hb
  rcases ite_or hb with ⟨h, rfl⟩ | hb
  · subst h
    exact se_biB bi_len hg hm (by decide +kernel) ha ok (by decide) (by decide) s1 s2
  rcases ite_or hb with ⟨h, rfl⟩ | hb
  · subst h
    exact se_biB (bi_sum fc.calm) hg hm (by decide +kernel) ha ok (by decide) (by decide) s1 s2
  rcases ite_or hb with ⟨h, rfl⟩ | hb
  · subst h
    exact se_biB (bi_all fc.calm) hg hm (by decide +kernel) ha ok (by decide) (by decide) s1 s2
  rcases ite_or hb with ⟨h, rfl⟩ | hb
  · subst h
    exact se_biB (bi_any fc.calm) hg hm (by decide +kernel) ha ok (by decide) (by decide) s1 s2
  rcases ite_or hb with ⟨h, rfl⟩ | hb
  · subst h
    exact se_biB (bi_min2 fc.calm) hg hm (by decide +kernel) ha ok (by decide) (by decide) s1 s2
  rcases ite_or hb with ⟨h, rfl⟩ | hb
  · subst h
    exact se_biB (bi_max2 fc.calm) hg hm (by decide +kernel) ha ok (by decide) (by decide) s1 s2
  rcases ite_or hb with ⟨h, rfl⟩ | hb
  · subst h
    exact se_biB bi_abs hg hm (by decide +kernel) ha ok (by decide) (by decide) s1 s2
  rcases ite_or hb with ⟨h, rfl⟩ | hb
  · subst h
    exact se_biT bi_toInt hg hm (by decide +kernel) ha ok (by decide) (by decide) s1 s2
  rcases ite_or hb with ⟨h, rfl⟩ | hb
  · subst h
    exact se_biB (bi_sorted fc.calm fc.hu) hg hm (by decide +kernel) ha ok (by decide) (by decide) s1 s2
  rcases ite_or hb with ⟨h, rfl⟩ | hb
  · subst h
    exact se_biT (bi_list fc.calm) hg hm (by decide +kernel) ha ok (by decide) (by decide) s1 s2
  rcases ite_or hb with ⟨h, rfl⟩ | hb
  · subst h
    exact se_biT bi_tuple hg hm (by decide +kernel) ha ok (by decide) (by decide) s1 s2
  rcases ite_or hb with ⟨h, rfl⟩ | hb
  · subst h
    exact se_biB (bi_repr fc.hg fc.hu) hg hm (by decide +kernel) ha ok (by decide) (by decide) s1 s2
  cases hb
theorem is_ok {b : Bi} {t : Str} {e : Expr} {xe : PD.X} {p p2 : Pos} (hb : isTab t = some b) (hg : Gl X "isinstance") (hm : X.mg "isinstance" = none) (hg2 : Gl X t) (hm2 : X.mg t = none) (he : L2.PE X e (RdE w T E sc.md xe (.br 1))) (ok : newOk dm = true) (hs : noStar e = true) :
    L2.PE X (.Call (.Name "isinstance" p) [e, .Name t p2] [] pos) (RdE w T E sc.md (.bi b [xe]) dm) := by
  have s1 := star_ok (es := [.Name t p2]) (env := X.env) hs
  unfold isTab at hb
  rcases ite_or hb with ⟨h, rfl⟩ | hb
  · subst h
    exact se_is isi_int hg hm (by decide +kernel) hg2 hm2 (by decide +kernel) he ok (by decide) (by decide) (by decide) (by decide) s1
  rcases ite_or hb with ⟨h, rfl⟩ | hb
  · subst h
    exact se_is isi_bool hg hm (by decide +kernel) hg2 hm2 (by decide +kernel) he ok (by decide) (by decide) (by decide) (by decide) s1
  rcases ite_or hb with ⟨h, rfl⟩ | hb
  · subst h
    exact se_is isi_tuple hg hm (by decide +kernel) hg2 hm2 (by decide +kernel) he ok (by decide) (by decide) (by decide) (by decide) s1
  rcases ite_or hb with ⟨h, rfl⟩ | hb
  · subst h
    exact se_is isi_str hg hm (by decide +kernel) hg2 hm2 (by decide +kernel) he ok (by decide) (by decide) (by decide) (by decide) s1
  rcases ite_or hb with ⟨h, rfl⟩ | hb
  · subst h
    exact se_is isi_list hg hm (by decide +kernel) hg2 hm2 (by decide +kernel) he ok (by decide) (by decide) (by decide) (by decide) s1
  cases hb
def shOf (shs : List Shape) (n : Nat) (ks : List Str) : Option Shape := shs.find? fun sh => decide (sh.n = n) && decide (sh.ks = ks)
def cpCall (ce : CE) (sc : Sc) (dm : Dm) (f : Str) (es : List Expr) (kws : List Keyword) : PD.X := match glOf sc f with
  | some (.fn i rl shs) => match shOf shs es.length (kws.filterMap (·.arg)) with
    | some sh => if es.all noStar && kws.all (·.arg.isSome) && retOk rl dm && !(f == ("__debug__" : Str)) then .callk i (es.map (ce sc (.fr 0)) ++ kws.map fun kw => ce sc (.fr 0) kw.value) sh.p else .bad
    | none => .bad
  | some .bi => match kws, es with
    | [], e :: es => match biTab f with
      | some b => if (e :: es).all noStar && newOk dm then .bi b ((e :: es).map (ce sc (.br 1))) else .bad
      | none => match es with
        | [.Name t _] => if f = "isinstance" then (match isTab t, glOf sc t with
          | some b, some .bi => if noStar e && newOk dm then .bi b [ce sc (.br 1) e] else .bad
          | _, _ => .bad) else .bad
        | _ => .bad
    | _, _ => .bad
  | _ => .bad
theorem kwLen {kws : List Keyword} (h : kws.all (·.arg.isSome) = true) : (kws.filterMap (·.arg)).length = kws.length := by
  induction kws with
  | nil => rfl
  | cons kw kws ih =>
    rw [List.all_cons, Bool.and_eq_true] at h
    obtain ⟨nm, e, kp⟩ := kw
    cases nm with
    | none => cases h.1
    | some nm => exact congrArg (· + 1) (ih h.2)
theorem cpCall_ok {ce : CE} (ok : OkE ce) (fc : Fac X w T E sc) (f : Str) (p : Pos) (es : List Expr) (kws : List Keyword) : L2.PE X (.Call (.Name f p) es kws pos) (RdE w T E sc.md (cpCall ce sc dm f es kws) dm) := by
  unfold cpCall
  split
  · rename_i i rl shs hgl
    obtain ⟨hg, g, ht, fn⟩ := gl_ok fc hgl
    split
    · rename_i sh hsh
      split
      · rename_i c
        simp only [Bool.and_eq_true, Bool.not_eq_true'] at c
        obtain ⟨⟨⟨c1, c2⟩, c3⟩, c4⟩ := c
        have hm := List.mem_of_find?_eq_some hsh
        have hp := List.find?_some hsh
        simp only [Bool.and_eq_true, decide_eq_true_eq] at hp
        have lk : (kws.map fun kw => ce sc (.fr 0) kw.value).length = sh.ks.length := by rw [hp.2, List.length_map, kwLen c2]
        cases es with
        | nil => exact se_call0 fc.hg fn hm hg ht c2 hp.2.symm hp.1.symm lk c3 c4 (sk_map ok fc)
        | cons e es =>
          have c1' := c1
          rw [List.all_cons, Bool.and_eq_true] at c1'
          refine se_call fc.hg fn hm hg ht c2 hp.2.symm (by rw [List.length_map]; exact hp.1.symm) lk c3 c4 (sa_map ok fc c1) (sk_map ok fc) (star_ok c1'.1) (stars_ok c1)
      · exact se_bad
    · exact se_bad
  · rename_i hgl
    obtain ⟨hg, hm⟩ := gl_ok fc hgl
    split
    · rename_i e es
      split
      · rename_i b hb
        split
        · rename_i c
          simp only [Bool.and_eq_true] at c
          exact bi_ok fc hb hg hm (sa_map ok fc c.1) c.2 c.1
        · exact se_bad
      · split
        · rename_i t p2
          split
          · rename_i hf
            subst hf
            split
            · rename_i b hb hg2
              obtain ⟨g2, m2⟩ := gl_ok fc hg2
              split
              · rename_i c
                simp only [Bool.and_eq_true] at c
                exact is_ok hb hg hm g2 m2 (ok X w T E sc (.br 1) e fc) c.2 c.1
              · exact se_bad
            · exact se_bad
          · exact se_bad
        · exact se_bad
    · exact se_bad
  · exact se_bad
end
end PD
namespace PD
open PySem PySem.Spec PyProof.Rows L2

def mapO {α β : Type} (f : α → Option β) : List α → Option (List β)
  | [] => some []
  | a :: as => match f a, mapO f as with
    | some b, some bs => some (b :: bs)
    | _, _ => none
def cpG : Nat → Sc → Expr → Option Tg
  | 0, _, _ => none
  | n + 1, sc, e => match e with
    | .Name x _ => (stoOf sc x).map .nm
    | .Tuple es _ _ => if es.all noStar then (mapO (cpG n sc) es).map .tp else none
    | _ => none
theorem assign_ok {e : Expr} {es : List Expr} {env : PySem.Env} (h : noStar e = true) : (assignEach (e :: es) env).map (·.2) = assign e env :: (assignEach es env).map (·.2) := by
  cases e <;> first | rfl | cases h
theorem assigns_ok {es : List Expr} {env : PySem.Env} (h : es.all noStar = true) : (assignEach es env).length = es.length ∧ (assignEach es env).findIdx? (·.1) = none := by
  induction es with
  | nil => exact ⟨rfl, rfl⟩
  | cons e es ih =>
    rw [List.all_cons, Bool.and_eq_true] at h
    obtain ⟨i1, i2⟩ := ih h.2
    have q : assignEach (e :: es) env = (false, assign e env) :: assignEach es env := by
      have := h.1
      cases e <;> first | rfl | cases this
    rw [q]
    exact ⟨congrArg (· + 1) i1, by rw [List.findIdx?_cons, i2]; rfl⟩
theorem cpG_ok {X : Cx} {w : Wd} {T : List (List D → M w.W D)} {E : XE} {sc : Sc} (fc : Fac X w T E sc) : ∀ (n : Nat) {e : Expr} {tg : Tg}, cpG n sc e = some tg → ∀ md, L2.PG X e (RdG w md tg)
  | n + 1, e, tg, h, md => by
    unfold cpG at h
    split at h
    · rename_i x p
      simp only [Option.map_eq_some_iff] at h
      obtain ⟨i, e, rfl⟩ := h
      obtain ⟨h1, h2, h3⟩ := sto_ok fc e
      exact sg_nm fc.nd h1 h2 h3
    · rename_i es k p
      split at h
      · rename_i c
        simp only [Option.map_eq_some_iff] at h
        obtain ⟨ts, e, rfl⟩ := h
        have gs : ∀ {es : List Expr} {ts : List Tg} (md : List (Option Nat)), es.all noStar = true → mapO (cpG n sc) es = some ts → L2.PGs X es (RdGs w md ts) ∧ es.length = ts.length := by
          intro es
          induction es with
          | nil =>
            intro ts md _ h
            cases h
            exact ⟨sgs_nil, rfl⟩
          | cons e es ih =>
            intro ts md c h
            rw [List.all_cons, Bool.and_eq_true] at c
            unfold mapO at h
            split at h
            · rename_i t ts' e1 e2
              cases h
              obtain ⟨i1, i2⟩ := ih (mdT t md) c.2 e2
              exact ⟨sgs_cons (cpG_ok fc n e1 md) i1 (assign_ok c.1), congrArg (· + 1) i2⟩
            · cases h
        obtain ⟨g1, g2⟩ := gs md c e
        obtain ⟨a1, a2⟩ := assigns_ok (env := X.env) c
        exact sg_tp fc.calm g1 (a1.trans g2) a2
      · cases h
    · cases h
def cpI (ce : CE) (sc : Sc) (fz : Bool) (tup : Bool) (e : Expr) : PD.It := match e with
  | .Call (.Name f _) [a] [] _ =>
    if f = "range" then (match glOf sc f with
      | some .bi => if noStar a then .rng [ce sc (.br 1) a] else .seq .bad
      | _ => .seq .bad)
    else if f = "enumerate" then (match glOf sc f with
      | some .bi => if noStar a && tup then .enu (ce sc (dmSrc fz) a) else .seq .bad
      | _ => .seq .bad)
    else .seq (ce sc (dmSrc fz) e)
  | .Call (.Name f _) [a, b] [] _ =>
    if f = "range" then (match glOf sc f with
      | some .bi => if noStar a && noStar b then .rng [ce sc (.br 1) a, ce sc (.br 1) b] else .seq .bad
      | _ => .seq .bad)
    else .seq (ce sc (dmSrc fz) e)
  | e => .seq (ce sc (dmSrc fz) e)
section
variable {w : Wd} {T : List (List D → M w.W D)} {E : XE} {sc : Sc} {X : Cx} {dm : Dm} {pos : Pos}
theorem isTup_ex {e : Expr} (h : isTupE e = true) : ∃ es k p, e = .Tuple es k p := by
  cases e <;> first | exact ⟨_, _, _, rfl⟩ | cases h
theorem si_bad {tg e : Expr} {fz : Bool} : L2.PI X tg e (RdI w T E sc.md fz (.seq .bad)) := PI.never fun σ H R ⟨_, _, _, _, _, h⟩ => by
  rw [iter, ev] at h
  exact h
theorem cpI_ok {ce : CE} (ok : OkE ce) (fc : Fac X w T E sc) (fz : Bool) (tg e : Expr) : L2.PI X tg e (RdI w T E sc.md fz (cpI ce sc fz (isTupE tg) e)) := by
  unfold cpI
  split
  · rename_i f p a q
    split
    · rename_i hf
      subst hf
      split
      · rename_i hgl
        obtain ⟨g1, g2⟩ := gl_ok fc hgl
        split
        · rename_i c
          exact si_rng1 g1 g2 (sa_cons (ok X w T E sc _ a fc) sa_nil (star_ok c)) (star_ok c)
        · exact si_bad
      · exact si_bad
    · split
      · rename_i hf
        subst hf
        split
        · rename_i hgl
          obtain ⟨g1, g2⟩ := gl_ok fc hgl
          split
          · rename_i c
            rw [Bool.and_eq_true] at c
            obtain ⟨es, k, p', rfl⟩ := isTup_ex c.2
            exact si_enu g1 g2 (sa_cons (ok X w T E sc _ a fc) sa_nil (star_ok c.1)) (star_ok c.1)
          · exact si_bad
        · exact si_bad
      · exact si_seq (ok X w T E sc _ _ fc)
  · rename_i f p a b q
    split
    · rename_i hf
      subst hf
      split
      · rename_i hgl
        obtain ⟨g1, g2⟩ := gl_ok fc hgl
        split
        · rename_i c
          rw [Bool.and_eq_true] at c
          exact si_rng2 g1 g2 (sa_cons (ok X w T E sc _ a fc) (sa_cons (ok X w T E sc _ b fc) sa_nil (star_ok c.2)) (star_ok c.1)) (by rw [star_ok c.1, star_ok c.2]; rfl) (star_ok c.2)
        · exact si_bad
      · exact si_bad
    · exact si_seq (ok X w T E sc _ _ fc)
  · exact si_seq (ok X w T E sc _ _ fc)
def subN (a b : List Nat) : Bool := a.all fun i => b.contains i
theorem subN_ok {a b : List Nat} (h : subN a b = true) : ∀ j ∈ a, j ∈ b := fun j hj => by
  unfold subN at h
  simpa using List.all_eq_true.mp h j hj
def cpIf (ct : CT) (sc : Sc) : List Expr → Option (Option PD.X)
  | [] => some none
  | [c] => some (some (ct sc c))
  | _ => none
def cpComp (ce : CE) (ct : CT) (sc : Sc) (dm : Dm) (elt : Expr) (gens : List Comprehension) (scope : Scope) : PD.X := match gens with
  | [⟨tg, it, ifs, 0⟩] =>
    let own := ownOf sc.N scope
    let sb := sc.blk scope
    match cpG 5 sb tg with
    | some t =>
      let sd := { sb with md := mdT t sc.md }
      match cpIf ct sd ifs with
      | some c => if blkC sc.N sc.scp scope own && subN (tgs t) (own.map (·.2)) && notSet it then
          .comp (ce sd (.fr (dmIn dm)) elt) t (cpI ce sc false (isTupE tg) it) c (own.map (·.2)) else .bad
      | none => .bad
    | none => .bad
  | [⟨tg, it, ifs, 0⟩, ⟨tg1, it1, ifs1, 0⟩] =>
    let own := ownOf sc.N scope
    let sb := sc.blk scope
    match cpG 5 sb tg, cpG 5 sb tg1 with
    | some t, some t1 =>
      let sd := { sb with md := mdT t sc.md }
      let sd1 := { sb with md := mdT t1 (mdT t sc.md) }
      match cpIf ct sd ifs, cpIf ct sd1 ifs1 with
      | some c, some c1 => if blkC sc.N sc.scp scope own && subN (tgs t) (own.map (·.2)) && subN (tgs t1) (own.map (·.2)) && notSet it && notSet it1 then
          .comp2 (ce sd1 (.fr (dmIn dm)) elt) t (cpI ce sc false (isTupE tg) it) c t1 (cpI ce sd true (isTupE tg1) it1) c1 (own.map (·.2)) (tgs t1) else .bad
      | _, _ => .bad
    | _, _ => .bad
  | _ => .bad
theorem Fac.md (fc : Fac X w T E sc) (md : List (Option Nat)) : Fac X w T E { sc with md := md } := ⟨fc.hu, fc.hg, fc.nt, fc.calm, fc.nd, fc.eN, fc.scp, fc.knd, fc.fn, fc.gl, fc.dkf⟩
theorem cpIf_ok {ct : CT} (ok : OkT ct) (fc : Fac X w T E sc) : ∀ {ifs : List Expr} {c : Option PD.X}, cpIf ct sc ifs = some c → L2.PTs X ifs (RdTo w T E sc.md c)
  | [], c, h => by
    cases h
    exact sts_nil
  | [e], c, h => by
    cases h
    exact sts_one (ok X w T E sc e fc)
  | _ :: _ :: _, c, h => by cases h
end
/-- what a comprehension is, for a value or a name -/
def OkC (X : Cx) (elt : Expr) (gens : List Comprehension) (scope : Scope) (t : TE) : Prop :=
  (∀ pos, L2.PE X (.ListComp elt gens scope pos) t) ∧ ∀ (i : Nat) (y : Str) (py pos spos : Pos), X.N[i]? = some y → X.env.scope.names.lookup y = some .local → swapsWith (.ListComp elt gens scope pos) (some (.Name y py)) spos.line X.env = pure true →
    L2.PS X (.Assign [.Name y py] (.ListComp elt gens scope pos) spos) (tAsg t (gName i))
theorem cpComp_ok {ce : CE} {ct : CT} (ok : OkE ce) (okT : OkT ct) {w : Wd} {T : List (List D → M w.W D)} {E : XE} {sc : Sc} {X : Cx} {dm : Dm} (fc : Fac X w T E sc) (elt : Expr) (gens : List Comprehension) (scope : Scope) :
    OkC X elt gens scope (RdE w T E sc.md (cpComp ce ct sc dm elt gens scope) dm) := by
  have bad : OkC X elt gens scope (RdE w T E sc.md .bad dm) := ⟨fun _ => se_bad, fun i y py pos spos _ _ _ => ⟨fun pins s σ H D I q => (rde_bad q).elim⟩⟩
  unfold cpComp
  split
  · rename_i tg it ifs
    dsimp only
    split
    · rename_i t ht
      split
      · rename_i c hc
        split
        · rename_i cc
          simp only [Bool.and_eq_true] at cc
          obtain ⟨⟨c1, c2⟩, c3⟩ := cc
          have bo : BlkOk X.N X.env.scope scope (ownOf sc.N scope) := by
            rw [fc.eN, fc.scp]
            exact blkOk_by c1
          have hi := cpI_ok ok fc false tg it
          have hv := subN_ok c2
          have hg : ∀ (s : Shared) (H : Hp) (C : Addr) (cl : List (Str × Addr)) (fp : List Addr), L2.PG (X.blk s H scope (compEnvC scope cl C X.env) fp) tg (RdG w sc.md t) := fun s H C cl fp => cpG_ok (fc.blk bo s H C cl fp) 5 ht sc.md
          have htt : ∀ (s : Shared) (H : Hp) (C : Addr) (cl : List (Str × Addr)) (fp : List Addr), L2.PTs (X.blk s H scope (compEnvC scope cl C X.env) fp) ifs (RdTo w T noE (mdT t sc.md) c) := fun s H C cl fp => cpIf_ok okT ((fc.blk bo s H C cl fp).md _) hc
          have he : ∀ (s : Shared) (H : Hp) (C : Addr) (cl : List (Str × Addr)) (fp : List Addr), L2.PE (X.blk s H scope (compEnvC scope cl C X.env) fp) elt (RdE w T noE (mdT t sc.md) (ce { sc.blk scope with md := mdT t sc.md } (.fr (dmIn dm)) elt) (.fr (dmIn dm))) := fun s H C cl fp => ok _ w T noE _ _ elt ((fc.blk bo s H C cl fp).md _)
          have hs : ∀ x, foldedSetIterable it X.env x = pure x := fun x => set_ok c3
          exact ⟨fun pos => PE.imp (pe_lc fc.calm fc.nd hi bo hg htt he hs) fun σ H Q h => t_comp hv h, fun i y py pos spos h1 h2 h3 => PS.imp (ps_setLc fc.calm fc.nd h1 h2 h3 hi bo hg htt he hs) fun D σ H h => t_comp hv h⟩
        · exact bad
      · exact bad
    · exact bad
  · rename_i tg it ifs tg1 it1 ifs1
    dsimp only
    split
    · rename_i t t1 ht ht1
      split
      · rename_i c cB hc hcB
        split
        · rename_i cc
          simp only [Bool.and_eq_true] at cc
          obtain ⟨⟨⟨⟨c1, c2⟩, c2'⟩, c3⟩, c3'⟩ := cc
          have bo : BlkOk X.N X.env.scope scope (ownOf sc.N scope) := by
            rw [fc.eN, fc.scp]
            exact blkOk_by c1
          have hi := cpI_ok ok fc false tg it
          have hv := subN_ok c2
          have hv' := subN_ok c2'
          have hg : ∀ (s : Shared) (H : Hp) (C : Addr) (cl : List (Str × Addr)) (fp : List Addr), L2.PG (X.blk s H scope (compEnvC scope cl C X.env) fp) tg (RdG w sc.md t) := fun s H C cl fp => cpG_ok (fc.blk bo s H C cl fp) 5 ht sc.md
          have hg1 : ∀ (s : Shared) (H : Hp) (C : Addr) (cl : List (Str × Addr)) (fp : List Addr), L2.PG (X.blk s H scope (compEnvC scope cl C X.env) fp) tg1 (RdG w (mdT t sc.md) t1) := fun s H C cl fp => cpG_ok (fc.blk bo s H C cl fp) 5 ht1 _
          have htt : ∀ (s : Shared) (H : Hp) (C : Addr) (cl : List (Str × Addr)) (fp : List Addr), L2.PTs (X.blk s H scope (compEnvC scope cl C X.env) fp) ifs (RdTo w T noE (mdT t sc.md) c) := fun s H C cl fp => cpIf_ok okT ((fc.blk bo s H C cl fp).md _) hc
          have htt1 : ∀ (s : Shared) (H : Hp) (C : Addr) (cl : List (Str × Addr)) (fp : List Addr), L2.PTs (X.blk s H scope (compEnvC scope cl C X.env) fp) ifs1 (RdTo w T noE (mdT t1 (mdT t sc.md)) cB) := fun s H C cl fp => cpIf_ok okT ((fc.blk bo s H C cl fp).md _) hcB
          have hi1 : ∀ (s : Shared) (H : Hp) (C : Addr) (cl : List (Str × Addr)) (fp : List Addr), L2.PI (X.blk s H scope (compEnvC scope cl C X.env) fp) tg1 it1 (RdI w T noE (mdT t sc.md) true (cpI ce { sc.blk scope with md := mdT t sc.md } true (isTupE tg1) it1)) := fun s H C cl fp => cpI_ok ok ((fc.blk bo s H C cl fp).md _) true tg1 it1
          have he : ∀ (s : Shared) (H : Hp) (C : Addr) (cl : List (Str × Addr)) (fp : List Addr), L2.PE (X.blk s H scope (compEnvC scope cl C X.env) fp) elt (RdE w T noE (mdT t1 (mdT t sc.md)) (ce { sc.blk scope with md := mdT t1 (mdT t sc.md) } (.fr (dmIn dm)) elt) (.fr (dmIn dm))) := fun s H C cl fp => ok _ w T noE _ _ elt ((fc.blk bo s H C cl fp).md _)
          have hs : ∀ x, foldedSetIterable it X.env x = pure x := fun x => set_ok c3
          have hs1 : ∀ env x, foldedSetIterable it1 env x = pure x := fun env x => set_ok c3'
          exact ⟨fun pos => PE.imp (pe_lc2 fc.calm fc.nd hi bo hv' hg htt hi1 hg1 htt1 he hs hs1) fun σ H Q h => t_comp2 hv (fun _ z => z) h, fun i y py pos spos h1 h2 h3 => PS.imp (ps_setLc2 fc.calm fc.nd h1 h2 h3 hi bo hv' hg htt hi1 hg1 htt1 he hs hs1) fun D σ H h => t_comp2 hv (fun _ z => z) h⟩
        · exact bad
      · exact bad
    · exact bad
  · exact bad
end PD
namespace PD
open PySem PySem.Spec PyProof.Rows L2

/-- no world at all -/
def w0 : Wd := ⟨Unit, [], fun _ => none, fun _ _ => True, fun _ _ => trivial, fun _ z => nomatch z⟩
/-- the deck by data -/
def dkD (d : Dk) (x : Deck) : D := .dict [(.str d.kc, .list (x.cells.map .int)), (.str d.km, .int x.mixed), (.str d.kd, .int x.draws)]
def dkF (H : Hp) (p c : Addr) : Hp := fun a => if a = p then H p else if a = c then H c else none
theorem reps_int {tk : Int → Option V} {F : Hp} : ∀ ns : List Int, Reps tk F (ns.map .int) (ns.map V.int)
  | [] => .nil
  | n :: ns => .cons (.int n) (reps_int ns)
section
variable {w : Wd} {T : List (List D → M w.W D)} {E : XE} {md : List (Option Nat)} {X : Cx} {dm : Dm} {pos : Pos} {d : Dk} {p c : Addr} {v : w.W → Deck} {u : Deck → w.W → w.W}
theorem DkAt.ne (k : DkAt w T d p c v u) {s : w.W} {H : Hp} (r : w.rel s H) : p ≠ c := fun e => by
  obtain ⟨h1, h2⟩ := k.at_ r
  subst e
  rw [h1] at h2
  cases h2
theorem DkAt.rep (k : DkAt w T d p c v u) {s : w.W} {H : Hp} (r : w.rel s H) : Rep w0.tk (dkF H p c) (dkD d (v s)) (.ref p) ∧ Hd w0 (dkF H p c) H := by
  obtain ⟨h1, h2⟩ := k.at_ r
  have n := k.ne r
  have f1 : dkF H p c p = some (.dK (dkO d c (v s))) := by
    unfold dkF
    rw [if_pos rfl, h1]
  have f2 : dkF H p c c = some (.lst ((v s).cells.map V.int)) := by
    unfold dkF
    rw [if_neg (Ne.symm n), if_pos rfl, h2]
  refine ⟨.dictK f1 (by simp [dkO]) (.cons rfl (.list f2 (reps_int _)) (.cons rfl (.int _) (.cons rfl (.int _) .nil))), fun a o h => ?_, (fun _ z => nomatch z), (fun _ z => nomatch z)⟩
  unfold dkF at h
  split at h
  · rename_i e
    rw [e]
    exact h
  · split at h
    · rename_i e
      rw [e]
      exact h
    · cases h
/-- the deck's variable -/
theorem dk_var (k : DkAt w T d p c v u) {H0 F H : Hp} {env : Env} {s : w.W} {σ : L2.St} {i j : Nat} (t : At w H0 md env s σ F H) (hm : md[i]? = some (some j)) (e : getV env i = some (objD 0)) : σ[i]? = some (some (.ref p)) := by
  obtain ⟨fps, c1, _⟩ := t.cn
  obtain ⟨y, e1, o⟩ := c1 i j _ hm e
  have r : Rep w.tk F (objD 0) y := by
    cases j with
    | zero => exact o.2
    | succ j => exact o.2
  cases r with
  | dictK _ _ r =>
    cases r with
    | cons h _ _ => cases h
  | dictT _ r =>
    cases r with
    | cons h _ _ => cases h
  | obj h =>
    rw [k.tk] at h
    cases h
    exact e1
/-- what a primitive is given -/
theorem prim1 {i n : Nat} {env : Env} {s : w.W} {g : List D → M w.W D} {K : D → w.W → Prop} {E' : Nat → List D → w.W → Prop} (hg : T[n]? = some g) (q : Out (ev T (.call n [.var i]) env s) K E') : ∃ x, getV env i = some x ∧ Out (g [x] s) K E' := by
  rw [ev, evs, evs, ev] at q
  simp only [bind_assoc, pure_bind] at q
  obtain ⟨x, e, q⟩ := q.bindO
  rw [hg] at q
  exact ⟨x, e, q⟩
theorem find_mix (k : DkAt w T d p c v u) (x : Deck) : ixD (dkD d x) (.str d.km) = some (.int x.mixed) := by
  have e1 : PyData.eqv (.str d.kc) (.str d.km) = false := by
    unfold PyData.eqv
    simpa using k.k1
  have e2 : PyData.eqv (.str d.km) (.str d.km) = true := by
    unfold PyData.eqv
    simp
  unfold dkD ixD
  simp only [fits, keyK, Option.isSome_some, Bool.and_self, Bool.true_or, if_true, find?, List.find?_cons, e1, e2]
  rfl
theorem find_drw (k : DkAt w T d p c v u) (x : Deck) : ixD (dkD d x) (.str d.kd) = some (.int x.draws) := by
  have e1 : PyData.eqv (.str d.kc) (.str d.kd) = false := by
    unfold PyData.eqv
    simpa using k.k2
  have e2 : PyData.eqv (.str d.km) (.str d.kd) = false := by
    unfold PyData.eqv
    simpa using k.k3
  have e3 : PyData.eqv (.str d.kd) (.str d.kd) = true := by
    unfold PyData.eqv
    simp
  unfold dkD ixD
  simp only [fits, keyK, Option.isSome_some, Bool.and_self, Bool.true_or, if_true, find?, List.find?_cons, e1, e2, e3]
  rfl
theorem find_cel (x : Deck) : ixD (dkD d x) (.str d.kc) = some (.list (x.cells.map .int)) := by
  have e2 : PyData.eqv (.str d.kc) (.str d.kc) = true := by
    unfold PyData.eqv
    simp
  unfold dkD ixD
  simp only [fits, keyK, Option.isSome_some, Bool.and_self, Bool.true_or, if_true, find?, List.find?_cons, e2]
  rfl
/-- deck[key], a figure -/
theorem se_fig {i j n : Nat} {x key : Str} {g : w.W → Int} {gp : List D → M w.W D} {k1 : Nat} {p1 p2 : Pos} (hu : X.A.units + 200 < cLine) (k : DkAt w T d p c v u) (hn : T[n]? = some gp) (hgp : gp = prim0 fun s => some (.int (g s), s)) (hf : ∀ s, ixD (dkD d (v s)) (.str key) = some (.int (g s)))
    (hN : X.N[i]? = some x) (hv : Vis X.env.scope x) (hm : md[i]? = some (some j)) (hd1 : (x == ("__debug__" : Str)) = false) (hd2 : (x == ("__classdict__" : Str)) = false) :
    L2.PE X (.Subscript (.Name x p1) (.Constant (.str key) k1 p2) pos) (RdE w T E md (.call n [.var i]) dm) := by
  refine PE.imp (pe_ix (ix_D (w := w0) hu) (pe_var hN hv hd1 hd2) pe_str (fun _ _ => rfl)) fun σ H Q ⟨H0, F, env, s, t, q⟩ => ?_
  obtain ⟨y, e, q⟩ := prim1 hn q
  subst hgp
  obtain ⟨rfl, r, er, q2⟩ := prim0_ok q
  cases er
  obtain ⟨r1, r2⟩ := k.rep t.rel
  refine ⟨_, dk_var k t hm e, dkF H p c, dkD d (v s), .str key, .int (g s), r2, .of r1, .of (.str key), hf s, fun z rz => ?_⟩
  cases rz
  exact Kt.of q2 t.hd t.rel (.int _) (frImm rfl)
theorem aft_dk (k : DkAt w T d p c v u) {F H : Hp} {o1 o2 : HO} (hd : Hd w F H) : Aft w F H F (upd (upd H c o1) p o2) := by
  have keep : ∀ a o, a ∉ w.ads → H a = some o → upd (upd H c o1) p o2 a = some o := fun a o n h => by
    rw [upd_ne fun z => n (by rw [z]; exact k.mp), upd_ne fun z => n (by rw [z]; exact k.mc)]
    exact h
  refine ⟨Ex.refl _, fun a o h => keep a o (fun z => ?_) (hd.ex a o h), keep, fun a h => .inl h, hd.wf⟩
  rw [hd.wf a z] at h
  cases h
theorem upd_self {H : Hp} {a : Addr} {o : HO} (h : H a = some o) : upd H a o = H := by
  funext b
  by_cases e : b = a
  · subst e
    rw [upd_same, h]
  · rw [upd_ne e]
theorem upd_comm {H : Hp} {a b : Addr} {o1 o2 : HO} (n : a ≠ b) : upd (upd H a o1) b o2 = upd (upd H b o2) a o1 := by
  funext x
  by_cases e1 : x = a
  · subst e1
    rw [upd_ne n, upd_same, upd_same]
  · by_cases e2 : x = b
    · subst e2
      rw [upd_same, upd_ne e1, upd_same]
    · rw [upd_ne e2, upd_ne e1, upd_ne e1, upd_ne e2]
/-- a primitive with one value more -/
theorem prim2 {i n : Nat} {x : PD.X} {env : Env} {s : w.W} {g : List D → M w.W D} {K : D → w.W → Prop} {E' : Nat → List D → w.W → Prop} (hg : T[n]? = some g) (q : Out (ev T (.call n [.var i, x]) env s) K E') : ∃ y, getV env i = some y ∧ Out ((ev T x env >>= fun z => g [y, z]) s) K E' := by
  rw [ev, evs, evs, evs, ev] at q
  simp only [bind_assoc, pure_bind] at q
  obtain ⟨y, e, q⟩ := q.bindO
  rw [hg] at q
  exact ⟨y, e, q⟩
section
variable {i j : Nat} {x : Str} {k1 : Nat} {p1 p2 p3 : Pos} (hu : X.A.units + 200 < cLine) (k : DkAt w T d p c v u) (hN : X.N[i]? = some x) (hv : Vis X.env.scope x) (hm : md[i]? = some (some j)) (hd1 : (x == ("__debug__" : Str)) = false) (hd2 : (x == ("__classdict__" : Str)) = false)
include hu k hN hv hm hd1 hd2
theorem pe_cel : L2.PE X (.Subscript (.Name x p1) (.Constant (.str d.kc) k1 p2) p3) (tOp (rI w0 ixD) (tVar i) (tC (.str d.kc))) := pe_ix (ix_D (w := w0) hu) (pe_var hN hv hd1 hd2) pe_str (fun _ _ => rfl)
theorem t_cel {H0 F H : Hp} {env : Env} {s : w.W} {σ : L2.St} {Q : VK} (t : At w H0 md env s σ F H) (e : getV env i = some (objD 0)) (q : Q (.ref c) H) : tOp (rI w0 ixD) (tVar i) (tC (.str d.kc)) σ H Q := by
  obtain ⟨r1, r2⟩ := k.rep t.rel
  refine ⟨_, dk_var k t hm e, dkF H p c, dkD d (v s), .str d.kc, _, r2, .of r1, .of (.str d.kc), find_cel (v s), fun z rz => ?_⟩
  cases rz with
  | list h _ =>
    rename_i a vs _
    have : a = c := by
      obtain ⟨h1, h2⟩ := k.at_ t.rel
      unfold dkF at h
      split at h
      · rename_i e
        rw [h1] at h
        cases h
      · split at h
        · assumption
        · cases h
    subst this
    exact q
/-- deck[cells] != [] -/
theorem st_ne {p4 p5 : Pos} {y : PD.X} (hy : y = .call (d.i0 + 2) [.var i]) : L2.PT X (.Compare (.Subscript (.Name x p1) (.Constant (.str d.kc) k1 p2) p3) [.NotEq] [.List [] p4] p5) (RdT w T E md y) := by
  refine PT.imp (pt_cmpR (cmp_D (w := w0) hu (fun _ z => nomatch z) .ne) (pe_cel hu k hN hv hm hd1 hd2) (pe_lst pa_nil) rfl) fun σ H Q ⟨H0, F, env, s, t, q⟩ => ?_
  subst hy
  rw [tst_d rfl] at q
  obtain ⟨y, e, q2⟩ := prim1 k.t2 q.bind
  obtain ⟨rfl, r, er, q3⟩ := prim0_ok q2
  cases er
  have q3 : ∀ F' H', Aft w F H F' H' → w.rel s H' → Q (!(v s).cells.isEmpty) H' := q3
  refine t_cel hu k hN hv hm hd1 hd2 t e ⟨Nat.zero_le _, fun a ha => ?_⟩
  obtain ⟨r1, r2⟩ := k.rep t.rel
  obtain ⟨h1, h2⟩ := k.at_ t.rel
  have nc : a ≠ c := fun z => by
    subst z
    rw [h2] at ha
    cases ha
  have na : a ∉ w.ads := out_ads t.hd.has ha
  have hdz : Hd w0 (upd (dkF H p c) a (.lst [])) (upd H a (.lst [])) := by
    refine ⟨fun b o h => ?_, (fun _ z => nomatch z), (fun _ z => nomatch z)⟩
    by_cases e : b = a
    · subst e
      rw [upd_same] at h ⊢
      exact h
    · rw [upd_ne e] at h ⊢
      exact r2.ex b o h
  have fc : upd (dkF H p c) a (.lst []) c = some (.lst ((v s).cells.map V.int)) := by
    rw [upd_ne (Ne.symm nc)]
    unfold dkF
    rw [if_neg (Ne.symm (k.ne t.rel)), if_pos rfl, h2]
  have pl : ∀ ns : List Int, PyData.plainAll (ns.map .int) = true ∧ PyData.depthAll (ns.map .int) ≤ 1 := fun ns => by
    induction ns with
    | nil => exact ⟨rfl, by simp [PyData.depthAll]⟩
    | cons n ns ih =>
      refine ⟨?_, ?_⟩
      · rw [List.map_cons]
        unfold PyData.plainAll
        rw [ih.1]
        rfl
      · rw [List.map_cons]
        unfold PyData.depthAll
        have : PyData.depth (.int n) ≤ 1 := by unfold PyData.depth; omega
        omega
  have eq1 : eqable (.list ((v s).cells.map .int)) = true := by
    obtain ⟨z1, z2⟩ := pl (v s).cells
    unfold eqable
    rw [Bool.and_eq_true, decide_eq_true_eq]
    refine ⟨?_, ?_⟩
    · unfold PyData.plain
      exact z1
    · unfold PyData.depth
      omega
  have eq2 : PyData.eqv (.list ((v s).cells.map .int)) (.list []) = (v s).cells.isEmpty := by
    unfold PyData.eqv
    cases (v s).cells with
    | nil => rfl
    | cons n ns => rfl
  refine ⟨upd (dkF H p c) a (.lst []), .list ((v s).cells.map .int), .list [], !(v s).cells.isEmpty, hdz, .of (.list fc (reps_int _)), .of (.list upd_same .nil), ?_, _, rfl, q3 F _ (aft_new t.hd.ex t.hd.wf ha) (w.loc t.rel fun b hb => upd_ne fun z => na (z ▸ hb))⟩
  show (if (eqable (.list ((v s).cells.map .int)) && eqable (.list [])) = true then some (!PyData.eqv (.list ((v s).cells.map .int)) (.list [])) else none) = _
  rw [eq1, eq2]
  rfl
/-- deck[draws] = e -/
theorem ss_drw {e : Expr} {xe : PD.X} {mdl : List (Option Nat)} {rl : Nat} (he : L2.PE X e (RdE w T E md xe (.br 1))) (hs : notComp e = true) :
    L2.PS X (.Assign [.Subscript (.Name x p1) (.Constant (.str d.kd) k1 p2) p3] e pos) (RdS w T E md md mdl rl (.exp (.call (d.i0 + 3) [.var i, xe]))) := by
  have h1 : swapsWithSole [.Subscript (.Name x p1) (.Constant (.str d.kd) k1 p2) p3] e pos.line X.env = pure false := by cases e <;> rfl
  have h2 : swappedStores [.Subscript (.Name x p1) (.Constant (.str d.kd) k1 p2) p3] e X.env = pure none := by cases e <;> rfl
  refine PS.imp (ps_asg he (pg_sub (pe_var hN hv hd1 hd2) pe_str (set_D hu) (by intro _; rfl)) h1 h2 rfl) fun D σ H ⟨F0, H0, F, env, s, A0, t, q⟩ => ?_
  rw [exS] at q
  obtain ⟨y, ey, q2⟩ := prim2 k.t3 q.bind
  refine go_e t (q2.xt fun _ _ _ z => z.aft A0) fun z zv s1 F1 H1 A1 t1 w1 q3 => ?_
  obtain ⟨rfl, n, r, rfl, er, q4⟩ := primN_ok q3
  cases er
  have vz : zv = .int n := w1.it.vint t1.hd.ex
  subst vz
  obtain ⟨a1, a2⟩ := k.at_ t1.rel
  have hp := k.put { v s1 with draws := n } t1.rel
  have eH : upd (upd H1 c (.lst ((v s1).cells.map V.int))) p (.dK (dkO d c { v s1 with draws := n })) = upd H1 p (.dK (putK (dkO d c (v s1)) (.inr d.kd) (.int n))) := by
    rw [upd_self a2]
    unfold dkO putK
    simp [k.k2, k.k3]
  have r2 : w.rel (u { v s1 with draws := n } s1) (upd H1 p (.dK (putK (dkO d c (v s1)) (.inr d.kd) (.int n)))) := by
    rw [← eH]
    exact hp
  have A2 : Aft w F1 H1 F1 (upd H1 p (.dK (putK (dkO d c (v s1)) (.inr d.kd) (.int n)))) := by
    rw [← eH]
    exact aft_dk k t1.hd
  refine ⟨_, dk_var k t1 hm ey, .inr ⟨p, rfl, .inl ⟨_, DPut.k (k := Sum.inr d.kd) a1 (by simp [dkO]; decide), ?_⟩⟩⟩
  exact Out.pure q4 σ F1 _ A1.ext ((A0.trans A1).trans A2) (t1.aft A2 r2)
/-- x = deck[cells].pop() -/
theorem se_pop {cp ap : Pos} (hl : (ap.endLine == cp.line) = true) :
    L2.PE X (.Call (.Attribute (.Subscript (.Name x p1) (.Constant (.str d.kc) k1 p2) p3) "pop" ap) [] [] cp) (RdE w T E md (.call (d.i0 + 4) [.var i]) dm) := by
  refine PE.imp (pe_bm0 PySem.F.plainAttrs_list PySem.F.slot_list_pop PySem.F.type_list_pop mt_pop (pe_cel hu k hN hv hm hd1 hd2) rfl hl) fun σ H Q ⟨H0, F, env, s, t, q⟩ => ?_
  obtain ⟨y, e, q2⟩ := prim1 k.t4 q
  obtain ⟨rfl, r, er, q3⟩ := prim0_ok q2
  simp only [Option.map_eq_some_iff] at er
  obtain ⟨n, en, rfl⟩ := er
  obtain ⟨a1, a2⟩ := k.at_ t.rel
  refine t_cel hu k hN hv hm hd1 hd2 t e ⟨.inl ⟨rfl, _, .inl (.inl a2)⟩, c, _, .int n, rfl, rfl, a2, ?_, ?_⟩
  · rw [List.getLast?_eq_getElem?] at en
    rw [List.length_map, List.getElem?_map, en]
    rfl
  · have hp := k.put { v s with cells := (v s).cells.dropLast } t.rel
    have eH : upd (upd H c (.lst ((v s).cells.dropLast.map V.int))) p (.dK (dkO d c { v s with cells := (v s).cells.dropLast })) = upd H c (.lst ((v s).cells.map V.int).dropLast) := by
      rw [upd_comm (Ne.symm (k.ne t.rel)), List.map_dropLast]
      exact congrArg (fun z => upd z c _) (upd_self a1)
    have r2 : w.rel (u { v s with cells := (v s).cells.dropLast } s) (upd H c (.lst ((v s).cells.map V.int).dropLast)) := by
      rw [← eH]
      exact hp
    have A2 : Aft w F H F (upd H c (.lst ((v s).cells.map V.int).dropLast)) := by
      rw [← eH]
      exact aft_dk k t.hd
    exact q3 (.int n) F _ A2 r2 (.of (.int n) (frImm rfl))
/-- deck[cells].append(e) -/
theorem se_dapp {cp ap : Pos} {e : Expr} {xe : PD.X} (he : L2.PE X e (RdE w T E md xe (.br 1))) (hs : noStar e = true) (hl : (ap.endLine == cp.line) = true) :
    L2.PE X (.Call (.Attribute (.Subscript (.Name x p1) (.Constant (.str d.kc) k1 p2) p3) "append" ap) [e] [] cp) (RdE w T E md (.call (d.i0 + 5) [.call (d.i0 + 6) [.var i], xe]) dm) := by
  have few : ((backTo cp (starEach [e] X.env)).all (fun x => !x.1) && (backToKw cp (keywordEach [] X.env)).all (fun x => x.1.isSome) && decide ([e].length + ([] : List Keyword).length + (if ([] : List Keyword).isEmpty then 0 else 1) < 30)) = true := by
    rw [star_ok hs]
    rfl
  refine PE.imp (pe_bm PySem.F.plainAttrs_list PySem.F.slot_list_append PySem.F.type_list_append mt_append (pe_cel hu k hN hv hm hd1 hd2) (pa_cons he pa_nil (star_ok hs)) rfl few hl (star_ok hs) rfl) fun σ H Q ⟨H0, F, env, s, t, q⟩ => ?_
  rw [ev, evs, bind_assoc] at q
  obtain ⟨y, ey, q1⟩ := prim1 k.t6 q.bind
  obtain ⟨rfl, r, er, q2⟩ := prim0_ok q1
  cases er
  have q2 : Out ((ev T xe env >>= fun z => pApp v u [objD 0, z]) s) (fun d s' => Kt w s' F H d dm Q) (Xt w E F H) := by
    rw [evs, evs] at q2
    simp only [bind_assoc, pure_bind] at q2
    rw [k.t5] at q2
    exact q2
  obtain ⟨b1, b2⟩ := k.at_ t.rel
  refine t_cel hu k hN hv hm hd1 hd2 t ey ⟨.inl ⟨rfl, _, .inl (.inl b2)⟩, go_e t q2 fun z zv s1 F1 H1 A1 t1 w1 q3 => ?_⟩
  obtain ⟨_, n, r, rfl, er, q4⟩ := primN_ok q3
  have vz : zv = .int n := w1.it.vint t1.hd.ex
  subst vz
  split at er
  · rename_i lc
    cases er
    obtain ⟨a1, a2⟩ := k.at_ t1.rel
    have hp := k.put { v s1 with cells := (v s1).cells ++ [n] } t1.rel
    have eH : upd (upd H1 c (.lst (((v s1).cells ++ [n]).map V.int))) p (.dK (dkO d c { v s1 with cells := (v s1).cells ++ [n] })) = upd H1 c (.lst ((v s1).cells.map V.int ++ [.int n])) := by
      rw [upd_comm (Ne.symm (k.ne t1.rel)), List.map_append]
      exact congrArg (fun z => upd z c _) (upd_self a1)
    have r2 : w.rel (u { v s1 with cells := (v s1).cells ++ [n] } s1) (upd H1 c (.lst ((v s1).cells.map V.int ++ [.int n]))) := by
      rw [← eH]
      exact hp
    have A2 : Aft w F1 H1 F1 (upd H1 c (.lst ((v s1).cells.map V.int ++ [.int n]))) := by
      rw [← eH]
      exact aft_dk k t1.hd
    exact ⟨c, _, .int n, rfl, rfl, a2, by rw [List.length_map]; exact cap_lt lc, q4 .non F1 _ (A1.trans A2) r2 (.of .none (frImm rfl))⟩
  · cases er
end
end
end PD
namespace PD
open PySem PySem.Spec PyProof.Rows L2
def tLenSetT (K : PySem.W.Frag) (ta : TE) : TE := fun σ H Q => ta σ H fun x H1 => ∃ (l : Addr) (ks : List (Addr × List Int)), x = .ref l ∧ SqL K H1 l (ks.map fun p => V.ref p.1) ∧ (∀ p ∈ ks, SqT K H1 p.1 (p.2.map V.int)) ∧ ks.length < 64 ∧
  ∀ L : List (Addr × List Int), (L.map (·.2)).Nodup → (∀ p ∈ L, p ∈ ks) → (∀ p ∈ ks, p.2 ∈ L.map (·.2)) → Q (.int (L.length : Nat)) H1
section
variable {X : Cx}
theorem pe_lenSetT {a : Expr} {ta : TE} {p p2 q pos : Pos} (hc : X.calm = true) (hu : X.A.units + 200 < cLine) (hg : Gl X "len") (hm : X.mg "len" = none) (hg2 : Gl X "set") (hm2 : X.mg "set" = none) (ha : L2.PE X a ta)
    (na : starEach [a] X.env = (false, eval a X.env) :: starEach [] X.env) : L2.PE X (.Call (.Name "len" p) [.Call (.Name "set" p2) [a] [] q] [] pos) (tLenSetT X.K ta) := by
  constructor
  intro pins s σ H Q I h
  refine Call_ (ld_blt I hg hm PySem.boot_len (PyProof.Rows.callWith_builtin1 (PyProof.Rows.args_cons ?_ rfl) rfl rfl))
  refine Call_ (ld_blt I hg2 hm2 PyProof.Rows.boot_set (PyProof.Rows.callWith_type1 (PyProof.Rows.args_cons (thn (ha.run pins s σ H _ I h) fun v s1 ⟨x, H1, I1, r1, l, ks, ex, hl, hk, hf, fin⟩ => PyProof.Rows.args_nil ?_) na) na rfl))
  subst ex
  obtain rfl : v = Value.ref l := r1
  obtain ⟨its, rv, pl, _⟩ := I1.list hl
  refine call_set_tups (P := X.prog) (w := X.w) ks (I1.ok.hd hc) pl.isList (by simpa using refs_of_vals rv) (fun p hp => I1.isT (hk p hp)) hf (by omega) fun h' tk L es ep t R g k => PyProof.Rows.args_nil ?_
  have I2 : L2.Inv X pins σ H1 { s1 with heap := h', toks := tk } := I1.kept k
  obtain ⟨o, ho, hx, hd⟩ := R.ob
  have sz : es.size = L.length := SetTR.size (s := { s1 with heap := h', toks := tk }) R
  have few := R.few
  refine call_len_set (s := { s1 with heap := h', toks := tk }) ho hx hd (SetTR.fits (s := { s1 with heap := h', toks := tk }) R) (by rw [sz]; omega) ⟨.int (L.length : Nat), H1, I2.tok _, ⟨_, by rw [sz]⟩, ?_⟩
  exact fin L R.nd (fun p hp => List.mem_of_mem_take (g.sub p hp)) fun p hp => g.all p (by rw [List.take_length]; exact hp)
end
theorem eqv_kt {a b : D} (ha : (keyT a).isSome = true) (hb : (keyT b).isSome = true) : PyData.eqv a b = true ↔ a = b := by
  obtain ⟨p, hp⟩ := Option.isSome_iff_exists.mp ha
  obtain ⟨q, hq⟩ := Option.isSome_iff_exists.mp hb
  rw [eqvT hp hq, decide_eq_true_eq]
  exact ⟨fun e => keyT_inj hp (by rw [hq, e]), fun e => by
    subst e
    rw [hp] at hq
    exact Option.some.inj hq⟩
theorem firsts_mem : ∀ {ds : List D}, (∀ d ∈ ds, (keyT d).isSome = true) → (∀ y, y ∈ firsts ds ↔ y ∈ ds) ∧ (firsts ds).Nodup
  | [], _ => ⟨fun y => Iff.rfl, List.nodup_nil⟩
  | x :: xs, h => by
    obtain ⟨i1, i2⟩ := firsts_mem (ds := xs) fun d hd => h d (List.mem_cons_of_mem _ hd)
    have hx := h x (by simp)
    unfold firsts
    refine ⟨fun y => ?_, List.nodup_cons.mpr ⟨fun z => ?_, i2.filter _⟩⟩
    · rw [List.mem_cons, List.mem_cons, List.mem_filter, i1]
      constructor
      · rintro (e | ⟨m, _⟩)
        · exact .inl e
        · exact .inr m
      · rintro (e | m)
        · exact .inl e
        · by_cases e : y = x
          · exact .inl e
          · refine .inr ⟨m, ?_⟩
            have q : ¬ PyData.eqv y x = true := fun z => e ((eqv_kt (h y (List.mem_cons_of_mem _ m)) hx).mp z)
            simpa using q
    · have z2 := (List.mem_filter.mp z).2
      rw [(eqv_kt hx hx).mpr rfl] at z2
      cases z2
theorem keyKs_ints : ∀ ns : List Int, keyKs (ns.map PyData.int) = some (ns.map Sum.inl)
  | [] => rfl
  | n :: ns => by
    rw [List.map_cons]
    unfold keyKs
    rw [keyKs_ints ns]
    rfl
theorem setKey_ints {d : D} (h : setKey d = true) : ∃ ns : List Int, d = .tuple (ns.map .int) := by
  cases d with
  | tuple xs =>
    simp only [setKey] at h
    induction xs with
    | nil => exact ⟨[], rfl⟩
    | cons x xs ih =>
      rw [List.all_cons, Bool.and_eq_true] at h
      obtain ⟨ns, e⟩ := ih h.2
      injection e with e
      cases x with
      | int n => exact ⟨n :: ns, by rw [List.map_cons, e]⟩
      | _ => cases h.1
  | _ => cases h
theorem tups_of {tk : Int → Option V} {F : Hp} : ∀ {ds : List D} {vs : List V}, Reps tk F ds vs → ds.all setKey = true → ∃ ks : List (Addr × List Int), vs = ks.map (fun p => V.ref p.1) ∧ ds = ks.map (fun p => PyData.tuple (p.2.map .int)) ∧ ∀ p ∈ ks, F p.1 = some (.tup (p.2.map V.int))
  | _, _, .nil, _ => ⟨[], rfl, rfl, fun _ z => nomatch z⟩
  | d :: ds, v :: vs, .cons h r, hk => by
    rw [List.all_cons, Bool.and_eq_true] at hk
    obtain ⟨ks, e1, e2, e3⟩ := tups_of r hk.2
    obtain ⟨ns, rfl⟩ := setKey_ints hk.1
    cases h with
    | tuple f rr =>
      rename_i a us
      obtain rfl := reps_ints rr
      refine ⟨(a, ns) :: ks, by rw [e1]; rfl, by rw [e2]; rfl, fun p hp => ?_⟩
      rcases List.mem_cons.mp hp with rfl | hp
      · exact f
      · exact e3 p hp
theorem firsts_len {ks L : List (Addr × List Int)} (nd : (L.map (·.2)).Nodup) (sub : ∀ p ∈ L, p ∈ ks) (all : ∀ p ∈ ks, p.2 ∈ L.map (·.2)) : (firsts (ks.map fun p => PyData.tuple (p.2.map .int))).length = L.length := by
  have key : ∀ d ∈ ks.map (fun p => PyData.tuple (p.2.map .int)), (keyT d).isSome = true := fun d hd => by
    obtain ⟨p, _, rfl⟩ := List.mem_map.mp hd
    simp only [keyT, keyKs_ints]
    rfl
  obtain ⟨m, n⟩ := firsts_mem key
  have inj : ∀ {a b : List Int}, PyData.tuple (a.map .int) = PyData.tuple (b.map .int) → a = b := fun {a b} e => by
    injection e with e
    exact (List.map_inj_right fun x y h => by injection h).mp e
  have nd2 : ((L.map (·.2)).map fun ns : List Int => PyData.tuple (ns.map .int)).Nodup := List.Pairwise.map _ (fun a b h e => h (inj e)) nd
  have pm : (firsts (ks.map fun p => PyData.tuple (p.2.map .int))).Perm ((L.map (·.2)).map fun ns : List Int => PyData.tuple (ns.map .int)) := by
    refine (List.perm_ext_iff_of_nodup n nd2).mpr fun y => ?_
    rw [m]
    constructor
    · intro h
      obtain ⟨p, hp, rfl⟩ := List.mem_map.mp h
      exact List.mem_map.mpr ⟨p.2, all p hp, rfl⟩
    · intro h
      obtain ⟨ns, hn, rfl⟩ := List.mem_map.mp h
      obtain ⟨p, hp, rfl⟩ := List.mem_map.mp hn
      exact List.mem_map.mpr ⟨p, sub p hp, rfl⟩
  rw [pm.length_eq, List.length_map, List.length_map]
section
variable {w : Wd} {T : List (List D → M w.W D)} {E : XE} {md : List (Option Nat)} {X : Cx} {dm : Dm} {pos : Pos}
theorem se_lenSet {a : Expr} {x : PD.X} {p p2 q : Pos} (hc : X.calm = true) (hu : X.A.units + 200 < cLine) (hg : Gl X "len") (hm : X.mg "len" = none) (hg2 : Gl X "set") (hm2 : X.mg "set" = none) (ha : L2.PE X a (RdE w T E md x (.br 1))) (hs : noStar a = true) :
    L2.PE X (.Call (.Name "len" p) [.Call (.Name "set" p2) [a] [] q] [] pos) (RdE w T E md (.bi .lenSet [x]) dm) := by
  refine PE.imp (pe_lenSetT hc hu hg hm hg2 hm2 ha (star_ok hs)) fun σ H Q ⟨H0, F, env, s, t, o⟩ => ?_
  rw [ev, evs, bind_assoc] at o
  refine go_e t o fun d v s1 F1 H1 A1 t1 w1 o => ?_
  rw [evs] at o
  obtain ⟨z, e, k⟩ := Out.ofO (E := Xt w E F1 H1) (show Out ((ofO (PD.bi .lenSet [d]) : M w.W D) s1) _ _ from o)
  cases d with
  | list ds =>
    simp only [PD.bi, set?] at e
    split at e
    · rename_i c
      rw [Bool.and_eq_true, decide_eq_true_eq] at c
      cases e
      obtain ⟨l, vs, rfl, h1, r⟩ := w1.it.list t1.hd.ex
      obtain ⟨ks, rfl, rfl, h2⟩ := tups_of r c.1
      refine ⟨l, ks, rfl, .inl (.inl h1), fun p hp => .inl (.inl (t1.hd.ex _ _ (h2 p hp))), by simpa using c.2, fun L n1 n2 n3 => ?_⟩
      have k : Kt w s1 F H (.int ((firsts (ks.map fun p => PyData.tuple (p.2.map .int))).length : Nat)) dm Q := k
      rw [firsts_len n1 n2 n3] at k
      exact (Kt.aft A1 k).of t1.hd t1.rel (.int _) (frImm rfl)
    · cases e
  | _ => cases e
end
end PD
namespace PD
open PySem PySem.Spec PyProof.Rows L2
section
variable {w : Wd} {T : List (List D → M w.W D)} {E : XE} {sc : Sc} {md : List (Option Nat)} {X : Cx} {dm : Dm} {pos : Pos}
theorem reps_range {tk : Int → Option V} {F : Hp} (lo hi : Int) : Reps tk F (rangeD lo hi) ((List.range (hi - lo).toNat).map fun i => .int (lo + (i : Nat))) := by
  unfold rangeD
  induction (List.range (hi - lo).toNat) with
  | nil => exact .nil
  | cons i r ih => exact .cons (.int _) ih
theorem reps_rg {tk : Int → Option V} {F : Hp} (lo hi : Int) : Reps tk F (rangeD lo hi) (rgV lo hi) := by
  unfold rangeD rgV
  induction (List.range (hi - lo).toNat) with
  | nil => exact .nil
  | cons i r ih => exact .cons (.int _) ih
theorem se_lrg1 {a : Expr} {xa : PD.X} {p p2 q : Pos} (hc : X.calm = true) (hg : Gl X "list") (hm : X.mg "list" = none) (hg2 : Gl X "range") (hm2 : X.mg "range" = none) (ha : L2.PE X a (RdE w T E md xa (.br 1))) (hs : noStar a = true) (ok : newOk dm = true) :
    L2.PE X (.Call (.Name "list" p) [.Call (.Name "range" p2) [a] [] q] [] pos) (RdE w T E md (.bi .listRange [xa]) dm) := by
  refine PE.imp (pe_listRg hc hg hm (prg_1 hg2 hm2 ha (star_ok hs)) rfl) fun σ H Q ⟨H0, F, env, s, t, o⟩ => ?_
  rw [ev, evs, bind_assoc] at o
  refine go_e t o fun d v s1 F1 H1 A1 t1 w1 o => ?_
  rw [evs] at o
  obtain ⟨z, e, k⟩ := Out.ofO (E := Xt w E F1 H1) (show Out ((ofO (PD.bi .listRange [d]) : M w.W D) s1) _ _ from o)
  cases d with
  | int n =>
    simp only [PD.bi] at e
    split at e
    · rename_i c
      cases e
      refine ⟨n, w1.it.vint t1.hd.ex, ?_, fun q hq => Done.lst t1.hd ((Kt.aft A1 k).done t1.rel ok) (reps_rg 0 n) hq⟩
      have c2 : n ≤ 10000000 := c.2
      exact ⟨by omega, by omega, c.1, by omega, by omega⟩
    · cases e
  | _ => cases e
theorem se_lrg2 {a b : Expr} {xa xb : PD.X} {p p2 q : Pos} (hc : X.calm = true) (hg : Gl X "list") (hm : X.mg "list" = none) (hg2 : Gl X "range") (hm2 : X.mg "range" = none) (ha : L2.PE X a (RdE w T E md xa (.br 1))) (hb : L2.PE X b (RdE w T E md xb (.br 1)))
    (hs : noStar a = true) (hs2 : noStar b = true) (ok : newOk dm = true) : L2.PE X (.Call (.Name "list" p) [.Call (.Name "range" p2) [a, b] [] q] [] pos) (RdE w T E md (.bi .listRange [xa, xb]) dm) := by
  refine PE.imp (pe_listRg hc hg hm (prg_2 hg2 hm2 ha hb (star_ok hs) (star_ok hs2) (by rw [star_ok hs2]; rfl)) rfl) fun σ H Q ⟨H0, F, env, s, t, o⟩ => ?_
  rw [ev, evs, bind_assoc] at o
  refine go_e t o fun d v s1 F1 H1 A1 t1 w1 o => ?_
  rw [evs, bind_assoc, bind_assoc] at o
  refine go_e t1 o fun d2 v2 s2 F2 H2 A2 t2 w2 o => ?_
  rw [evs] at o
  obtain ⟨z, e, k⟩ := Out.ofO (E := Xt w E F2 H2) (show Out ((ofO (PD.bi .listRange [d, d2]) : M w.W D) s2) _ _ from o)
  cases d with
  | int n =>
    cases d2 with
    | int m =>
      simp only [PD.bi] at e
      split at e
      · rename_i c
        cases e
        refine ⟨n, m, (w1.aft A2).it.vint t2.hd.ex, w2.it.vint t2.hd.ex, ?_, fun q hq => Done.lst t2.hd (((Kt.aft A1 k).aft A2).done t2.rel ok) (reps_rg n m) hq⟩
        have c2 : m - n ≤ 10000000 := c.1
        exact ⟨c.2.1, c.2.2.1, c.2.2.2.1, c.2.2.2.2, by omega⟩
      · cases e
    | _ => cases e
  | _ => cases e
/-- what is looked at as a whole -/
def cpPre (ce : CE) (sc : Sc) (dm : Dm) (e : Expr) : Option PD.X := match e with
  | .Call (.Name f _) [.Call (.Name g _) as [] _] [] _ =>
    if f = "list" then (if g = "range" then (match glOf sc f, glOf sc g with
      | some .bi, some .bi => (match as with
        | [a] => if noStar a && newOk dm then some (.bi .listRange [ce sc (.br 1) a]) else none
        | [a, b] => if noStar a && noStar b && newOk dm then some (.bi .listRange [ce sc (.br 1) a, ce sc (.br 1) b]) else none
        | _ => none)
      | _, _ => none) else none)
    else if f = "len" then (if g = "set" then (match glOf sc f, glOf sc g with
      | some .bi, some .bi => (match as with
        | [a] => if noStar a then some (.bi .lenSet [ce sc (.br 1) a]) else none
        | _ => none)
      | _, _ => none) else none)
    else none
  | _ => none
theorem cpPre_ok {ce : CE} (ok : OkE ce) {e : Expr} {x : PD.X} (fc : Fac X w T E sc) (h : cpPre ce sc dm e = some x) : L2.PE X e (RdE w T E sc.md x dm) := by
  unfold cpPre at h
  split at h
  · rename_i f p g p2 as q pos
    split at h
    · rename_i e
      subst e
      split at h
      · rename_i e
        subst e
        split at h
        · rename_i h1 h2
          obtain ⟨g1, m1⟩ := gl_ok fc h1
          obtain ⟨g2, m2⟩ := gl_ok fc h2
          split at h
          · split at h
            · rename_i c
              rw [Bool.and_eq_true] at c
              cases h
              exact se_lrg1 fc.calm g1 m1 g2 m2 (ok X w T E sc _ _ fc) c.1 c.2
            · cases h
          · split at h
            · rename_i c
              simp only [Bool.and_eq_true] at c
              cases h
              exact se_lrg2 fc.calm g1 m1 g2 m2 (ok X w T E sc _ _ fc) (ok X w T E sc _ _ fc) c.1.1 c.1.2 c.2
            · cases h
          · cases h
        · cases h
      · cases h
    · split at h
      · rename_i e
        subst e
        split at h
        · rename_i e
          subst e
          split at h
          · rename_i h1 h2
            obtain ⟨g1, m1⟩ := gl_ok fc h1
            obtain ⟨g2, m2⟩ := gl_ok fc h2
            split at h
            · split at h
              · rename_i c
                cases h
                exact se_lenSet fc.calm fc.hu g1 m1 g2 m2 (ok X w T E sc _ _ fc) c
              · cases h
            · cases h
          · cases h
        · cases h
      · cases h
  · cases h
end
end PD
namespace PD
open PySem PySem.Spec PyProof.Rows L2

def cpName (sc : Sc) (dm : Dm) (x : Str) : PD.X := if nmOk x then (match slotOf sc x with
    | some i => match sc.md[i]? with
      | some (some k) => if varOk k dm then .var i else .bad
      | _ => .bad
    | none => match glOf sc x with
      | some (.cst d) => .cst d
      | _ => .bad) else .bad
def cpCst : Const → PD.X
  | .int i => .cst (.int i)
  | .bool b => .cst (.bool b)
  | .none => .cst .none
  | .str s => .cst (.str s)
  | _ => .bad
def cpO (ce : CE) (sc : Sc) : Option Expr → Option PD.X
  | none => none
  | some e => some (ce sc (.br 1) e)
def cpMeth (ce : CE) (sc : Sc) (dm : Dm) (o : Expr) (m : Str) (ap : Pos) (es : List Expr) (cp : Pos) : PD.X := match es with
  | e :: es => if m = "get" then (if notCallE o && (ap.endLine == cp.line) && (e :: es).all noStar && decide (es.length < 20) && ixDm dm then .mt .get (ce sc (.br 1) o) ((e :: es).map (ce sc (.fr 0))) else .bad) else .bad
  | _ => .bad
/-- the deck's variable -/
def dkOf (sc : Sc) (x : Str) : Option (Dk × Nat) := match sc.dk with
  | some d => if x = d.nm then (match mdOf sc x with
    | some (i, _) => some (d, i)
    | none => none) else none
  | none => none
def cpDk (ce : CE) (sc : Sc) (e : Expr) : Option PD.X := match e with
  | .Subscript (.Name x _) (.Constant (.str key) _ _) _ => match dkOf sc x with
    | some (d, i) => if key = d.km then some (.call d.i0 [.var i]) else if key = d.kd then some (.call (d.i0 + 1) [.var i]) else none
    | none => none
  | .Call (.Attribute (.Subscript (.Name x _) (.Constant (.str key) _ _) _) m ap) [] [] cp => match dkOf sc x with
    | some (d, i) => if key = d.kc then (if m = "pop" then (if ap.endLine == cp.line then some (.call (d.i0 + 4) [.var i]) else none) else none) else none
    | none => none
  | .Call (.Attribute (.Subscript (.Name x _) (.Constant (.str key) _ _) _) m ap) [a] [] cp => match dkOf sc x with
    | some (d, i) => if key = d.kc then (if m = "append" then (if (ap.endLine == cp.line) && noStar a then some (.call (d.i0 + 5) [.call (d.i0 + 6) [.var i], ce sc (.br 1) a]) else none) else none) else none
    | none => none
  | _ => none
def cpDkT (sc : Sc) (e : Expr) : Option PD.X := match e with
  | .Compare (.Subscript (.Name x _) (.Constant (.str key) _ _) _) [.NotEq] [.List [] _] _ => match dkOf sc x with
    | some (d, i) => if key = d.kc then some (.call (d.i0 + 2) [.var i]) else none
    | none => none
  | _ => none
def stE0 (ce : CE) (ct : CT) : CE := fun sc dm e => match e with
  | .Name x _ => cpName sc dm x
  | .Constant c _ _ => cpCst c
  | .BinOp a o b _ => match bopOf o with
    | some o' => if newOk dm then .op o' (ce sc (.br 1) a) (ce sc (.br 1) b) else .bad
    | none => .bad
  | .Compare a [o] [b] _ => if behindInMarks o b = false then .cmp (copOf o) (ce sc (.br 1) a) (ce sc (.br 1) b) else .bad
  | .Compare a [o, p] [b, c] _ => if lastMarks [o, p] [b, c] = false then .chn (copOf o) (copOf p) (ce sc (.br 1) a) (ce sc (.br 1) b) (ce sc (.br 1) c) else .bad
  | .UnaryOp .USub a _ => .neg (ce sc (.br 1) a)
  | .UnaryOp .Not a _ => .not (ce sc (.br 1) a)
  | .BoolOp _ [a] _ => ce sc dm a
  | .BoolOp .And (a :: b :: rest) p => .and (ce sc (.br 1) a) (ce sc dm (.BoolOp .And (b :: rest) p))
  | .BoolOp .Or (a :: b :: rest) p => .or (ce sc (.br 1) a) (ce sc dm (.BoolOp .Or (b :: rest) p))
  | .IfExp c a b _ => .ite (ct sc c) (ce sc dm a) (ce sc dm b)
  | .Subscript a (.Slice lo hi none _) _ => if newOk dm then .sl (ce sc (.br 1) a) (cpO ce sc lo) (cpO ce sc hi) else .bad
  | .Subscript a b _ => if notSlice b && ixDm dm then .ix (ce sc (.br 1) a) (ce sc (.br 1) b) else .bad
  | .Tuple es _ _ => if es.all noStar && decide (es.length ≤ 1000) then .tup (es.map (ce sc (.fr 0))) else .bad
  | .List es _ => if es.all noStar && decide (es.length ≤ 1000) then .lst (es.map (ce sc (.fr (dmIn dm)))) else .bad
  | .Dict [] [] _ => if newOk dm then .dic [] else .bad
  | .Call (.Name f _) es kws _ => cpCall ce sc dm f es kws
  | .Call (.Attribute o m ap) es [] cp => cpMeth ce sc dm o m ap es cp
  | .ListComp elt gens scope _ => cpComp ce ct sc dm elt gens scope
  | _ => .bad
def stT0 (ce : CE) (ct : CT) : CT := fun sc e => match e with
  | .UnaryOp .Not a _ => .not (ct sc a)
  | .BoolOp _ [a] _ => ct sc a
  | .BoolOp .And (a :: b :: rest) p => .and (ct sc a) (ct sc (.BoolOp .And (b :: rest) p))
  | .BoolOp .Or (a :: b :: rest) p => .or (ct sc a) (ct sc (.BoolOp .Or (b :: rest) p))
  | .Compare a [o] [b] _ => if behindInMarks o b = false then .cmp (copOf o) (ce sc (.br 1) a) (ce sc (.br 1) b) else .bad
  | .Compare a [o, p] [b, c] _ => if lastMarks [o, p] [b, c] = false then .chn (copOf o) (copOf p) (ce sc (.br 1) a) (ce sc (.br 1) b) (ce sc (.br 1) c) else .bad
  | .Name x p => if plainT (ce sc (.br 1) (.Name x p)) then ce sc (.br 1) (.Name x p) else .bad
  | .Call f es kws p => if plainT (ce sc (.br 1) (.Call f es kws p)) then ce sc (.br 1) (.Call f es kws p) else .bad
  | .Subscript a b p => if plainT (ce sc (.br 1) (.Subscript a b p)) then ce sc (.br 1) (.Subscript a b p) else .bad
  | .Constant c k p => if plainT (ce sc (.br 1) (.Constant c k p)) then ce sc (.br 1) (.Constant c k p) else .bad
  | .BinOp a o b p => if plainT (ce sc (.br 1) (.BinOp a o b p)) then ce sc (.br 1) (.BinOp a o b p) else .bad
  | _ => .bad
def stE (ce : CE) (ct : CT) : CE := fun sc dm e => match cpDk ce sc e with
  | some x => x
  | none => match cpPre ce sc dm e with
    | some x => x
    | none => stE0 ce ct sc dm e
def stT (ce : CE) (ct : CT) : CT := fun sc e => match cpDkT sc e with
  | some x => x
  | none => stT0 ce ct sc e
mutual
def cpE : Nat → CE
  | 0 => fun _ _ _ => .bad
  | n + 1 => stE (cpE n) (cpT n)
def cpT : Nat → CT
  | 0 => fun _ _ => .bad
  | n + 1 => stT (cpE n) (cpT n)
end
section
variable {w : Wd} {T : List (List D → M w.W D)} {E : XE} {sc : Sc} {X : Cx} {dm : Dm} {pos : Pos}
theorem cpName_ok (fc : Fac X w T E sc) (x : Str) : L2.PE X (.Name x pos) (RdE w T E sc.md (cpName sc dm x) dm) := by
  unfold cpName
  split
  · rename_i c
    unfold nmOk at c
    simp only [Bool.and_eq_true, Bool.not_eq_true'] at c
    split
    · rename_i i hi
      obtain ⟨h1, h2⟩ := slot_ok fc hi
      split
      · rename_i k hk
        split
        · rename_i ok
          exact se_var h1 h2 hk ok c.1 c.2
        · exact se_bad
      · exact se_bad
    · split
      · rename_i d hd
        obtain ⟨g, v, u, hm, r, im, rp⟩ := gl_ok fc hd
        exact se_cst (pe_glob g hm r c.1) rp im
      · exact se_bad
  · exact se_bad
theorem cpCst_ok (c : Const) (k : Nat) : L2.PE X (.Constant c k pos) (RdE w T E sc.md (cpCst c) dm) := by
  unfold cpCst
  split
  · exact se_cst pe_int (fun F => .int _) rfl
  · exact se_cst pe_bl (fun F => .bool _) rfl
  · exact se_cst pe_non (fun F => .none) rfl
  · exact se_cst pe_str (fun F => .str _) rfl
  · exact se_bad
theorem cpO_ok {ce : CE} (ok : OkE ce) (fc : Fac X w T E sc) : ∀ o : Option Expr, L2.PO X o (RdO w T E sc.md (cpO ce sc o))
  | none => so_none
  | some e => so_some (ok X w T E sc _ e fc)
theorem cpMeth_ok {ce : CE} (ok : OkE ce) (fc : Fac X w T E sc) (o : Expr) (m : Str) (ap : Pos) (es : List Expr) (cp : Pos) : L2.PE X (.Call (.Attribute o m ap) es [] cp) (RdE w T E sc.md (cpMeth ce sc dm o m ap es cp) dm) := by
  unfold cpMeth
  split
  · rename_i e es
    split
    · rename_i hm
      subst hm
      split
      · rename_i c
        simp only [Bool.and_eq_true, decide_eq_true_eq] at c
        obtain ⟨⟨⟨⟨c1, c2⟩, c3⟩, c4⟩, c5⟩ := c
        have c3' := c3
        rw [List.all_cons, Bool.and_eq_true] at c3'
        refine PE.imp (pe_bm PySem.F.plainAttrs_dict PySem.F.slot_dict_get PySem.F.type_dict_get (mt_get (w := w) fc.hu) (ok X w T E sc _ o fc) (sa_map ok fc c3) (base_ok c1) ?_ c2 (star_ok c3'.1) (stars_ok c3'.2)) fun σ H Q h => t_mt (m := .get) c5 h
        have a1 : (backTo cp (starEach (e :: es) X.env)).all (fun x => !x.1) = true := by
          have q := stars_ok (env := X.env) (pos := cp) c3
          rw [List.any_eq_false] at q
          exact List.all_eq_true.mpr fun x hx => by simpa using q x hx
        rw [a1]
        show (true && true && decide ((e :: es).length + 0 + 0 < 30)) = true
        simp
        omega
      · exact se_bad
    · exact se_bad
  · exact se_bad
theorem pt_tr {e : Expr} {x : PD.X} (ok : L2.PE X e (RdE w T E sc.md x (.br 1))) (hi : ∀ whole, isTrue e X.env whole = (do let v ← whole; standAt e.pos; holding [v] (truthy v))) : L2.PT X e (RdT w T E sc.md (if plainT x then x else .bad)) := by
  split
  · rename_i c
    exact st_of c ok hi
  · exact st_bad
end
theorem stE0_ok {ce : CE} {ct : CT} (ok : OkE ce) (okT : OkT ct) : OkE (stE0 ce ct) := by
  intro X w T E sc dm e fc
  unfold stE0
  split
  · exact cpName_ok fc _
  · exact cpCst_ok _ _
  · split
    · rename_i o' ho
      split
      · rename_i c
        rw [bopOf_ok ho]
        exact se_op (ok X w T E sc _ _ fc) (ok X w T E sc _ _ fc) c
      · exact se_bad
    · exact se_bad
  · rename_i a o b p
    split
    · rename_i c
      have := se_cmp (T := T) (E := E) (md := sc.md) (dm := dm) (pos := p) (o := copOf o) (a := a) (b := b) fc.hu fc.nt (by rw [← copOf_ok]; exact c) (ok X w T E sc _ _ fc) (ok X w T E sc _ _ fc)
      rw [← copOf_ok] at this
      exact this
    · exact se_bad
  · rename_i a o o2 b b2 p
    split
    · rename_i c
      have := se_chn (T := T) (E := E) (md := sc.md) (dm := dm) (pos := p) (o := copOf o) (p := copOf o2) (a := a) (b := b) (c := b2) fc.hu fc.nt (by rw [← copOf_ok, ← copOf_ok]; exact c) (ok X w T E sc _ _ fc) (ok X w T E sc _ _ fc) (ok X w T E sc _ _ fc)
      rw [← copOf_ok, ← copOf_ok] at this
      exact this
    · exact se_bad
  · exact se_neg (ok X w T E sc _ _ fc)
  · exact se_not (ok X w T E sc _ _ fc)
  · exact pe_one (ok X w T E sc _ _ fc)
  · exact se_and (ok X w T E sc _ _ fc) (ok X w T E sc _ _ fc)
  · exact se_or (ok X w T E sc _ _ fc) (ok X w T E sc _ _ fc)
  · exact se_ite (okT X w T E sc _ fc) (ok X w T E sc _ _ fc) (ok X w T E sc _ _ fc)
  · split
    · rename_i c
      exact se_sl (ok X w T E sc _ _ fc) (cpO_ok ok fc _) (cpO_ok ok fc _) c
    · exact se_bad
  · split
    · rename_i c
      rw [Bool.and_eq_true] at c
      exact se_ix fc.hu (slice_ok c.1) (ok X w T E sc _ _ fc) (ok X w T E sc _ _ fc) c.2
    · exact se_bad
  · split
    · rename_i c
      simp only [Bool.and_eq_true, decide_eq_true_eq] at c
      exact se_tup (sa_map ok fc c.1) (by rw [List.length_map]; exact Nat.le_trans c.2 (by decide))
    · exact se_bad
  · split
    · rename_i c
      simp only [Bool.and_eq_true, decide_eq_true_eq] at c
      exact se_lst (sa_map ok fc c.1) (by rw [List.length_map]; exact Nat.le_trans c.2 (by decide))
    · exact se_bad
  · split
    · rename_i c
      exact se_dic0 pe_dnewT c
    · exact se_bad
  · exact cpCall_ok ok fc _ _ _ _
  · exact cpMeth_ok ok fc _ _ _ _ _
  · exact (cpComp_ok ok okT fc _ _ _).1 _
  · exact se_bad
theorem stT0_ok {ce : CE} {ct : CT} (ok : OkE ce) (okT : OkT ct) : OkT (stT0 ce ct) := by
  intro X w T E sc e fc
  have pw : ∀ (n : Nat) (a : Expr) (rest : List Expr) (p : Pos), True := fun _ _ _ _ => trivial
  unfold stT0
  split
  · exact st_not (okT X w T E sc _ fc)
  · rename_i op a p
    cases op with
    | And => exact (pw_and1 (okT X w T E sc _ fc)).pt
    | Or => exact (pw_or1 (okT X w T E sc _ fc)).pt
  · rename_i a b rest p
    exact (st_and (okT X w T E sc _ fc) ⟨fun wh pins s σ H Q I h => (okT X w T E sc _ fc).run pins s σ H Q I h⟩).pt
  · rename_i a b rest p
    exact (st_or (okT X w T E sc _ fc) ⟨fun wh pins s σ H Q I h => (okT X w T E sc _ fc).run pins s σ H Q I h⟩).pt
  · rename_i a o b p
    split
    · rename_i c
      have := st_cmp (T := T) (E := E) (md := sc.md) (pos := p) (o := copOf o) (a := a) (b := b) fc.hu fc.nt (by rw [← copOf_ok]; exact c) (ok X w T E sc _ _ fc) (ok X w T E sc _ _ fc)
      rw [← copOf_ok] at this
      exact this
    · exact st_bad
  · rename_i a o o2 b b2 p
    split
    · rename_i c
      have := st_chn (T := T) (E := E) (md := sc.md) (pos := p) (o := copOf o) (p := copOf o2) (a := a) (b := b) (c := b2) fc.hu fc.nt (by rw [← copOf_ok, ← copOf_ok]; exact c) (ok X w T E sc _ _ fc) (ok X w T E sc _ _ fc) (ok X w T E sc _ _ fc)
      rw [← copOf_ok, ← copOf_ok] at this
      exact this
    · exact st_bad
  · exact pt_tr (ok X w T E sc _ _ fc) fun _ => rfl
  · exact pt_tr (ok X w T E sc _ _ fc) fun _ => rfl
  · exact pt_tr (ok X w T E sc _ _ fc) fun _ => rfl
  · exact pt_tr (ok X w T E sc _ _ fc) fun _ => rfl
  · exact pt_tr (ok X w T E sc _ _ fc) fun _ => rfl
  · exact st_bad
theorem dkOf_ok {w : Wd} {T : List (List D → M w.W D)} {E : XE} {sc : Sc} {X : Cx} {x : Str} {d : Dk} {i : Nat} (fc : Fac X w T E sc) (h : dkOf sc x = some (d, i)) : DkF w T d ∧ ∃ k, X.N[i]? = some x ∧ Vis X.env.scope x ∧ sc.md[i]? = some (some k) ∧ (x == ("__debug__" : Str)) = false ∧ (x == ("__classdict__" : Str)) = false := by
  unfold dkOf at h
  split at h
  · rename_i d' hd
    split at h
    · split at h
      · rename_i i' k hm
        cases h
        exact ⟨fc.dkf d hd, k, mdOf_ok fc hm⟩
      · cases h
    · cases h
  · cases h
theorem cpDk_ok {ce : CE} (ok : OkE ce) {w : Wd} {T : List (List D → M w.W D)} {E : XE} {sc : Sc} {X : Cx} {dm : Dm} {e : Expr} {x : PD.X} (fc : Fac X w T E sc) (h : cpDk ce sc e = some x) : L2.PE X e (RdE w T E sc.md x dm) := by
  unfold cpDk at h
  split at h
  · split at h
    · rename_i d i hd
      obtain ⟨⟨p, c, v, u, k⟩, j, h1, h2, h3, h4, h5⟩ := dkOf_ok fc hd
      split at h
      · rename_i e
        subst e
        cases h
        exact se_fig fc.hu k k.t0 rfl (fun s => find_mix k (v s)) h1 h2 h3 h4 h5
      · split at h
        · rename_i e
          subst e
          cases h
          exact se_fig fc.hu k k.t1 rfl (fun s => find_drw k (v s)) h1 h2 h3 h4 h5
        · cases h
    · cases h
  · split at h
    · rename_i d i hd
      obtain ⟨⟨p, c, v, u, k⟩, j, h1, h2, h3, h4, h5⟩ := dkOf_ok fc hd
      split at h
      · rename_i e
        subst e
        split at h
        · rename_i e
          subst e
          split at h
          · rename_i cc
            cases h
            exact se_pop fc.hu k h1 h2 h3 h4 h5 cc
          · cases h
        · cases h
      · cases h
    · cases h
  · split at h
    · rename_i d i hd
      obtain ⟨⟨p, c, v, u, k⟩, j, h1, h2, h3, h4, h5⟩ := dkOf_ok fc hd
      split at h
      · rename_i e
        subst e
        split at h
        · rename_i e
          subst e
          split at h
          · rename_i cc
            rw [Bool.and_eq_true] at cc
            cases h
            exact se_dapp fc.hu k h1 h2 h3 h4 h5 (ok X w T E sc _ _ fc) cc.2 cc.1
          · cases h
        · cases h
      · cases h
    · cases h
  · cases h
theorem cpDkT_ok {w : Wd} {T : List (List D → M w.W D)} {E : XE} {sc : Sc} {X : Cx} {e : Expr} {x : PD.X} (fc : Fac X w T E sc) (h : cpDkT sc e = some x) : L2.PT X e (RdT w T E sc.md x) := by
  unfold cpDkT at h
  split at h
  · split at h
    · rename_i d i hd
      obtain ⟨⟨p, c, v, u, k⟩, j, h1, h2, h3, h4, h5⟩ := dkOf_ok fc hd
      split at h
      · rename_i e
        subst e
        cases h
        exact st_ne fc.hu k h1 h2 h3 h4 h5 rfl
      · cases h
    · cases h
  · cases h
theorem stE_ok {ce : CE} {ct : CT} (ok : OkE ce) (okT : OkT ct) : OkE (stE ce ct) := by
  intro X w T E sc dm e fc
  unfold stE
  split
  · rename_i x h
    exact cpDk_ok ok fc h
  · split
    · rename_i x h
      exact cpPre_ok ok fc h
    · exact stE0_ok ok okT X w T E sc dm e fc
theorem stT_ok {ce : CE} {ct : CT} (ok : OkE ce) (okT : OkT ct) : OkT (stT ce ct) := by
  intro X w T E sc e fc
  unfold stT
  split
  · rename_i x h
    exact cpDkT_ok fc h
  · exact stT0_ok ok okT X w T E sc e fc
mutual
theorem cpE_ok : ∀ n, OkE (cpE n)
  | 0 => fun _ _ _ _ _ _ _ _ => se_bad
  | n + 1 => stE_ok (cpE_ok n) (cpT_ok n)
theorem cpT_ok : ∀ n, OkT (cpT n)
  | 0 => fun _ _ _ _ _ _ _ => st_bad
  | n + 1 => stT_ok (cpE_ok n) (cpT_ok n)
end
end PD
namespace PD
open PySem PySem.Spec PyProof.Rows L2

theorem sw2 {x y : Str} {px py pt pt2 : Pos} {kt k2 : Nat} {a b : Expr} {env : PySem.Env} (hk : env.scope.kind = .function) (hx : env.scope.names.lookup x = some .local) (hy : env.scope.names.lookup y = some .local) (hl : (py.line == px.line) = true) (hxy : x ≠ y)
    (ha : noStar a = true) (hb : noStar b = true) (hf : (foldedForSure 8 a && foldedForSure 8 b) = false) (hc : (constantsAlone 8 a && constantsAlone 8 b) = false) :
    swappedStores [.Tuple [.Name x px, .Name y py] kt pt] (.Tuple [a, b] k2 pt2) env = pure (some [x, y]) := by
  have bk : env.blockKind = .function := by
    unfold Env.blockKind
    rw [hk]
    rfl
  have kx : env.kindOf x = some .local := hx
  have ky : env.kindOf y = some .local := hy
  have st : ([a, b].any fun | .Starred .. => true | _ => false) = false := by
    have q : ∀ e : Expr, noStar e = true → (match e with | .Starred .. => true | _ => false) = false := fun e h => by
      cases e <;> first | rfl | cases h
    simp only [List.any_cons, List.any_nil, Bool.or_false]
    exact Bool.or_eq_false_iff.mpr ⟨q a ha, q b hb⟩
  have hl' : (py.line == (Expr.Name x px).pos.line) = true := hl
  unfold swappedStores
  dsimp only
  simp only [List.length_cons, List.length_nil, bk]
  rw [if_neg (by decide)]
  refine (if_neg fun z => Bool.noConfusion (st.symm.trans z)).trans ?_
  simp only [List.filterMap_cons, List.filterMap_nil, kx, ky, List.head?_cons, Option.map_some, Option.getD_some, beq_self_eq_true, Bool.true_and, Expr.pos, hl, if_true]
  have ed : [x, y].eraseDups = [x, y] := by
    rw [List.eraseDups_cons]
    have e : (y == x) = false := by
      rw [beq_eq_false_iff_ne]
      exact Ne.symm hxy
    simp [e, List.eraseDups_cons]
  rw [ed]
  refine (if_neg (by simp)).trans ?_
  simp only [List.all_cons, List.all_nil, Bool.and_true, hf, hc]
  rfl
/-- a name that is no plain local: the pair is made, then taken apart -/
theorem sw2n {x y : Str} {px py pt pt2 : Pos} {kt k2 : Nat} {a b : Expr} {env : PySem.Env} (h : env.scope.names.lookup x ≠ some .local ∨ env.scope.names.lookup y ≠ some .local) (ha : noStar a = true) (hb : noStar b = true) :
    swappedStores [.Tuple [.Name x px, .Name y py] kt pt] (.Tuple [a, b] k2 pt2) env = pure none := by
  have st : ([a, b].any fun | .Starred .. => true | _ => false) = false := by
    have q : ∀ e : Expr, noStar e = true → (match e with | .Starred .. => true | _ => false) = false := fun e h => by
      cases e <;> first | rfl | cases h
    simp only [List.any_cons, List.any_nil, Bool.or_false]
    exact Bool.or_eq_false_iff.mpr ⟨q a ha, q b hb⟩
  have kx : env.kindOf x = env.scope.names.lookup x := rfl
  have ky : env.kindOf y = env.scope.names.lookup y := rfl
  unfold swappedStores
  dsimp only
  by_cases c : (!([Expr.Name x px, Expr.Name y py].length == 2 || [Expr.Name x px, Expr.Name y py].length == 3) || [a, b].length != [Expr.Name x px, Expr.Name y py].length || env.blockKind != .function) = true
  · exact (if_pos c).trans rfl
  refine (if_neg c).trans ?_
  refine (if_neg fun z => Bool.noConfusion (st.symm.trans z)).trans ?_
  refine (if_pos ?_).trans rfl
  simp only [List.filterMap_cons, List.filterMap_nil, kx, ky]
  rcases h with h | h
  · have e : (List.lookup x env.scope.names == some .local) = false := by
      rw [beq_eq_false_iff_ne]
      exact h
    simp only [e, Bool.false_and, Bool.false_eq_true, if_false]
    split <;> simp_all
  · have e : (List.lookup y env.scope.names == some .local) = false := by
      rw [beq_eq_false_iff_ne]
      exact h
    simp only [e, Bool.false_and, Bool.false_eq_true, if_false]
    split <;> simp_all

mutual
def endsS : PD.S → Bool
  | .ret _ => true
  | .retN => true
  | .brk => true
  | .cnt => true
  | .rse _ _ => true
  | .bad => true
  | .iff _ a b => endsSs a && endsSs b
  | _ => false
def endsSs : List PD.S → Bool
  | [] => false
  | s :: r => endsS s || endsSs r
end
def notNx : O → Prop
  | .nx _ => False
  | _ => True
section
variable {w : Wd} {T : List (List D → M w.W D)}
theorem Out.and {S α : Type} {r : R S α} {K K' : α → S → Prop} {E : Nat → List D → S → Prop} (h : Out r K E) (k : ∀ a s, r = .ok a s → K' a s) : Out r (fun a s => K a s ∧ K' a s) E := by
  cases r with
  | ok a s => exact ⟨h, k a s rfl⟩
  | exc c as s => exact h
  | bad => exact h
mutual
theorem endsS_ok : ∀ {st : PD.S} {env : Env} {s s' : w.W} {o : O}, endsS st = true → exS T st env s = .ok o s' → notNx o
  | .ret e, env, s, s', o, _, h => by
    rw [exS] at h
    obtain ⟨d, s1, _, h⟩ := okB h
    cases h
    trivial
  | .retN, env, s, s', o, _, h => by
    rw [exS] at h
    cases h
    trivial
  | .brk, env, s, s', o, _, h => by
    rw [exS] at h
    cases h
    trivial
  | .cnt, env, s, s', o, _, h => by
    rw [exS] at h
    cases h
    trivial
  | .rse c as, env, s, s', o, _, h => by
    rw [exS] at h
    obtain ⟨d, s1, _, h⟩ := okB h
    cases h
  | .bad, env, s, s', o, _, h => by
    rw [exS] at h
    cases h
  | .iff c a b, env, s, s', o, e, h => by
    rw [endsS, Bool.and_eq_true] at e
    rw [exS] at h
    obtain ⟨r, s1, _, h⟩ := okB h
    cases r with
    | true => exact endsSs_ok e.1 h
    | false => exact endsSs_ok e.2 h
  | .asg _ _, _, _, _, _, e, _ => by cases e
  | .par _ _, _, _, _, _, e, _ => by cases e
  | .aug _ _ _, _, _, _, _, e, _ => by cases e
  | .app _ _, _, _, _, _, e, _ => by cases e
  | .ext _ _, _, _, _, _, e, _ => by cases e
  | .mut _ _ _ _, _, _, _, _, e, _ => by cases e
  | .sset _ _ _ _, _, _, _, _, e, _ => by cases e
  | .saug _ _ _ _ _, _, _, _, _, e, _ => by cases e
  | .frz _, _, _, _, _, e, _ => by cases e
  | .pop _ _ _, _, _, _, _, e, _ => by cases e
  | .apop _ _ _, _, _, _, _, e, _ => by cases e
  | .for _ _ _, _, _, _, _, e, _ => by cases e
  | .whl _ _, _, _, _, _, e, _ => by cases e
  | .exp _, _, _, _, _, e, _ => by cases e
  | .pas, _, _, _, _, e, _ => by cases e
theorem endsSs_ok : ∀ {st : List PD.S} {env : Env} {s s' : w.W} {o : O}, endsSs st = true → exs T st env s = .ok o s' → notNx o
  | [], _, _, _, _, e, _ => by cases e
  | x :: r, env, s, s', o, e, h => by
    rw [endsSs, Bool.or_eq_true] at e
    rw [exs] at h
    obtain ⟨o1, s1, h1, h⟩ := okB h
    rcases e with e | e
    · have q := endsS_ok e h1
      cases o1 with
      | nx e => exact q.elim
      | ret d =>
        cases h
        trivial
      | brk e =>
        cases h
        trivial
      | cnt e =>
        cases h
        trivial
    · cases o1 with
      | nx e1 => exact endsSs_ok e h
      | ret d =>
        cases h
        trivial
      | brk e =>
        cases h
        trivial
      | cnt e =>
        cases h
        trivial
end
variable {E : XE} {md md1 md2 mdl : List (Option Nat)} {rl : Nat} {X : Cx}
theorem ss_ends {st : List Stmt} {x : List PD.S} (h : L2.PSs X st (RdSs w T E md md1 mdl rl x)) (e : endsSs x = true) : L2.PSs X st (RdSs w T E md md2 mdl rl x) := by
  refine PSs.imp h fun D σ H ⟨F0, H0, F, env, s, A0, t, q⟩ => ⟨F0, H0, F, env, s, A0, t, (q.and fun a s' z => endsSs_ok e z).mono (fun o s1 ⟨z, n⟩ => ?_) fun _ _ _ z => z⟩
  cases o with
  | nx e => exact n.elim
  | brk e => exact z
  | cnt e => exact z
  | ret d => exact z
/-- less is known, or the end is not come to -/
def leMd (a b : List (Option Nat)) : Bool := a.zipIdx.all fun p => match p.1 with
  | some k => decide (b[p.2]? = some (some k))
  | none => true
theorem leMd_ok {a b : List (Option Nat)} (h : leMd a b = true) (j k : Nat) (e : a[j]? = some (some k)) : b[j]? = some (some k) := by
  unfold leMd at h
  rw [List.all_eq_true] at h
  have m : (some k, j) ∈ a.zipIdx := by
    rw [List.mem_iff_getElem?]
    exact ⟨j, by rw [List.getElem?_zipIdx, e]; simp⟩
  simpa using h _ m
theorem ss_to {st : List Stmt} {x : List PD.S} (h : L2.PSs X st (RdSs w T E md md1 mdl rl x)) (c : (leMd md2 md1 || endsSs x) = true) : L2.PSs X st (RdSs w T E md md2 mdl rl x) := by
  rcases (Bool.or_eq_true _ _).mp c with c | c
  · exact ss_weak h (leMd_ok c)
  · exact ss_ends h c
end
end PD
namespace PD
open PySem PySem.Spec PyProof.Rows L2

abbrev PM := PD.S × List (Option Nat)
def badS (sc : Sc) : PM := (.bad, sc.md)
def isLocal (sc : Sc) (x : Str) : Bool := match sc.scp.names.lookup x with
  | some .local => true
  | _ => false
/-- what a new value's slot is to own -/
def depOf (sc : Sc) (i : Nat) : Nat := sc.dep.getD i 0
def cpAsg (n : Nat) (sc : Sc) (t e : Expr) (pos : Pos) : PM := match t with
  | .Name y py => match stoOf sc y with
    | some i => match e with
      | .Call (.Attribute (.Name x _) m ap) [a] [] cp => match mdOf sc x with
        | some (j, 1) => if m = "pop" then (if noStar a && (ap.endLine == cp.line) then (.pop (.nm i) j (some (cpE n sc (.br 1) a)), sc.md.set i (some 0)) else badS sc)
          else (.asg (.nm i) (cpE n sc (.fr (depOf sc i)) e), sc.md.set i (some (depOf sc i)))
        | _ => (.asg (.nm i) (cpE n sc (.fr (depOf sc i)) e), sc.md.set i (some (depOf sc i)))
      | .ListComp elt gens scope p => if isLocal sc y && (py.line == p.line) && !(scope.names.any fun (n, k) => n == y && (k == .local || k == .cell)) then
          (.asg (.nm i) (cpComp (cpE n) (cpT n) sc (.fr (depOf sc i)) elt gens scope), sc.md.set i (some (depOf sc i))) else badS sc
      | e => if notComp e then (.asg (.nm i) (cpE n sc (.fr (depOf sc i)) e), sc.md.set i (some (depOf sc i))) else badS sc
    | none => badS sc
  | .Tuple [.Name x px, .Name y py] kt pt => match e with
    | .Tuple [a, b] k2 pt2 => match stoOf sc x, stoOf sc y with
      | some i, some j => if isLocal sc x && isLocal sc y && (py.line == px.line) && !decide (x = y) && !decide (i = j) && noStar a && noStar b && !(foldedForSure 8 a && foldedForSure 8 b) && !(constantsAlone 8 a && constantsAlone 8 b) then
          (.par [i, j] [cpE n sc (.fr (depOf sc i)) a, cpE n sc (.fr (depOf sc j)) b], (sc.md.set i (some (depOf sc i))).set j (some (depOf sc j)))
        else if !(isLocal sc x && isLocal sc y) && noStar a && noStar b then (match cpG 5 sc t with
          | some tg => (.asg tg (cpE n sc (.fr 0) (.Tuple [a, b] k2 pt2)), mdT tg sc.md)
          | none => badS sc) else badS sc
      | _, _ => badS sc
    | e => if notTup e && notComp e then (match cpG 5 sc t with
      | some tg => (.asg tg (cpE n sc (.fr 0) e), mdT tg sc.md)
      | none => badS sc) else badS sc
  | .Tuple ts kt pt => if notTup e && notComp e then (match cpG 5 sc t with
      | some tg => (.asg tg (cpE n sc (.fr 0) e), mdT tg sc.md)
      | none => badS sc) else badS sc
  | .Subscript (.Name x p1) k p2 => match mdOf sc x with
    | some (i, 1) => if notSlice k then (.sset i [] (cpE n sc (.br 1) k) (cpE n sc (.fr 0) e), sc.md) else badS sc
    | _ => badS sc
  | _ => badS sc
def cpDkS (n : Nat) (sc : Sc) (t e : Expr) : Option PM := match t with
  | .Subscript (.Name x _) (.Constant (.str key) _ _) _ => match dkOf sc x with
    | some (d, i) => if key = d.kd then (if notComp e then some (.exp (.call (d.i0 + 3) [.var i, cpE n sc (.br 1) e]), sc.md) else none) else none
    | none => none
  | _ => none
def cpExp (n : Nat) (sc : Sc) (e : Expr) : PM := if notComp e then (.exp (cpE n sc (.fr 0) e), sc.md) else badS sc
def cpMut (n : Nat) (sc : Sc) (x m : Str) (ap cp : Pos) (a : Expr) : Option PM := match mdOf sc x with
  | some (i, k + 1) =>
    if m = "append" then (if noStar a && (ap.endLine == cp.line) then (match a with
      | .Call (.Attribute (.Name y _) m2 ap2) [b] [] cp2 => match mdOf sc y with
        | some (j, 1) => if m2 = "pop" && k == 0 then (if !decide (i = j) && noStar b && (ap2.endLine == cp2.line) then some (.apop i j (some (cpE n sc (.br 1) b)), sc.md) else none)
          else some (.app i (cpE n sc (.fr k) a), sc.md)
        | _ => some (.app i (cpE n sc (.fr k) a), sc.md)
      | _ => some (.app i (cpE n sc (.fr k) a), sc.md)) else none)
    else if m = "extend" then (if noStar a && (ap.endLine == cp.line) && k == 0 then some (.ext i (cpE n sc (.br 1) a), sc.md) else none)
    else none
  | _ => none
/-- all that is owned, frozen -/
def frzAll (md : List (Option Nat)) : List (Option Nat) := frzMd md ((List.range md.length).map fun i => (i, some 0))
def cpRet (n : Nat) (sc : Sc) (e : Expr) : PD.S := match e with
  | .Name x _ => match mdOf sc x with
    | some (i, k) => if k = sc.rl then .ret (.var i) else .ret (cpE n { sc with md := frzAll sc.md } (.fr sc.rl) e)
    | none => .ret (cpE n { sc with md := frzAll sc.md } (.fr sc.rl) e)
  | e => .ret (cpE n { sc with md := frzAll sc.md } (.fr sc.rl) e)
def lineS : Stmt → Nat
  | .Return _ p => p.line
  | .Assign _ _ p => p.line
  | .AugAssign _ _ _ p => p.line
  | .For _ _ _ _ p => p.line
  | .While _ _ _ p => p.line
  | .If _ _ _ p => p.line
  | .Expr _ p => p.line
  | .Pass p => p.line
  | .Break p => p.line
  | .Continue p => p.line
  | .Raise _ _ p => p.line
  | _ => 0
/-- statement by statement; ce: how deep expressions are looked into -/
def cpSs (cs : Sc → Stmt → PM) : Sc → List Stmt → List PD.S × List (Option Nat)
  | sc, [] => ([], sc.md)
  | sc, st :: rest => match sc.fz.lookup (lineS st) with
    | some fz => match cs { sc with md := frzMd sc.md fz } st with
      | (x, md1) => match cpSs cs { sc with md := md1 } rest with
        | (xs, md2) => (.frz fz :: x :: xs, md2)
    | none => match cs sc st with
      | (x, md1) => match cpSs cs { sc with md := md1 } rest with
        | (xs, md2) => (x :: xs, md2)
def meetMd (a b : List (Option Nat)) : List (Option Nat) := List.zipWith (fun x y => if x = y then x else none) a b
def joinMd (xa xb : List PD.S) (mda mdb : List (Option Nat)) : List (Option Nat) := if endsSs xa then mdb else if endsSs xb then mda else meetMd mda mdb
def cpS (ne : Nat) : Nat → Sc → Stmt → PM
  | 0, sc, _ => badS sc
  | n + 1, sc, st => match st with
    | .Assign [t] e pos => match cpDkS ne sc t e with
      | some r => r
      | none => cpAsg ne sc t e pos
    | .AugAssign (.Name x _) op e _ => match stoOf sc x, bopOf op with
      | some i, some o => if decide (sc.md[i]? = some (some 0)) then (.aug i o (cpE ne sc (.br 1) e), sc.md) else badS sc
      | _, _ => badS sc
    | .Expr (.Call (.Attribute (.Name x p1) m ap) [a] [] cp) pos => match cpMut ne sc x m ap cp a with
      | some r => r
      | none => cpExp ne sc (.Call (.Attribute (.Name x p1) m ap) [a] [] cp)
    | .Expr e pos => cpExp ne sc e
    | .Return (some e) _ => (cpRet ne sc e, sc.md)
    | .Return none _ => (.retN, sc.md)
    | .If c a b _ => match cpSs (cpS ne n) sc a, cpSs (cpS ne n) sc b with
      | (xa, mda), (xb, mdb) =>
        if (leMd (joinMd xa xb mda mdb) mda || endsSs xa) && (leMd (joinMd xa xb mda mdb) mdb || endsSs xb) then (.iff (cpT ne sc c) xa xb, joinMd xa xb mda mdb) else badS sc
    | .For tg it b [] _ => match cpG 5 sc tg with
      | some t => match cpSs (cpS ne n) { sc with md := mdT t sc.md, mdl := sc.md } b with
        | (xb, mdb) => if (leMd sc.md mdb || endsSs xb) && notSet it then (.for t (cpI (cpE ne) sc true (isTupE tg) it) xb, sc.md) else badS sc
      | none => badS sc
    | .While c b [] _ => match cpSs (cpS ne n) { sc with mdl := sc.md } b with
      | (xb, mdb) => if leMd sc.md mdb || endsSs xb then (.whl (cpT ne sc c) xb, sc.md) else badS sc
    | .Pass _ => (.pas, sc.md)
    | .Break _ => if leMd sc.mdl sc.md then (.brk, sc.md) else badS sc
    | .Continue _ => if leMd sc.mdl sc.md then (.cnt, sc.md) else badS sc
    | _ => badS sc

def OkS (ps : Sc → Stmt → PM) : Prop := ∀ (X : Cx) (w : Wd) (T : List (List D → M w.W D)) (E : XE) (sc : Sc) (st : Stmt), Fac X w T E sc → PassesOwn (model X.prog X.w) X.A X.env X.xe →
  L2.PS X st (RdS w T E sc.md (ps sc st).2 sc.mdl sc.rl (ps sc st).1)
section
variable {w : Wd} {T : List (List D → M w.W D)} {E : XE} {sc : Sc} {X : Cx} {md1 mdl : List (Option Nat)} {rl : Nat}
theorem pS_bad {st : Stmt} {md : List (Option Nat)} : L2.PS X st (RdS w T E md md1 mdl rl .bad) := ⟨fun pins s σ H D I ⟨_, _, _, _, _, _, _, q⟩ => by
  rw [exS] at q
  exact q.elim⟩
theorem Fac.mdm (fc : Fac X w T E sc) (md mdl : List (Option Nat)) : Fac X w T E { sc with md := md, mdl := mdl } := ⟨fc.hu, fc.hg, fc.nt, fc.calm, fc.nd, fc.eN, fc.scp, fc.knd, fc.fn, fc.gl, fc.dkf⟩
theorem cpSs_ok {ps : Sc → Stmt → PM} (ok : OkS ps) (hp : PassesOwn (model X.prog X.w) X.A X.env X.xe) : ∀ {sts : List Stmt} {sc : Sc}, Fac X w T E sc → L2.PSs X sts (RdSs w T E sc.md (cpSs ps sc sts).2 sc.mdl sc.rl (cpSs ps sc sts).1)
  | [], sc, fc => by
    unfold cpSs
    exact ss_nil
  | st :: rest, sc, fc => by
    unfold cpSs
    split
    · rename_i fz hf
      have h1 := ok X w T E { sc with md := frzMd sc.md fz } st (fc.md _) hp
      have h2 := cpSs_ok ok hp (sts := rest) (sc := { sc with md := (ps { sc with md := frzMd sc.md fz } st).2 }) (fc.md _)
      exact ss_frz (ss_cons h1 h2)
    · have h1 := ok X w T E sc st fc hp
      have h2 := cpSs_ok ok hp (sts := rest) (sc := { sc with md := (ps sc st).2 }) (fc.md _)
      exact ss_cons h1 h2
theorem isLocal_ok {x : Str} (fc : Fac X w T E sc) (h : isLocal sc x = true) : X.env.scope.names.lookup x = some .local := by
  unfold isLocal at h
  rw [fc.scp]
  split at h
  · assumption
  · cases h
theorem asg_nm {i k : Nat} {y : Str} {py pos : Pos} {e : Expr} {x : PD.X} (fc : Fac X w T E sc) (h : stoOf sc y = some i) (hn : notComp e = true) (he : L2.PE X e (RdE w T E sc.md x (.fr k))) : L2.PS X (.Assign [.Name y py] e pos) (RdS w T E sc.md (sc.md.set i (some k)) mdl rl (.asg (.nm i) x)) := by
  obtain ⟨h1, h2, h3⟩ := sto_ok fc h
  exact PS.imp (ps_set fc.nd h1 h2 he (comp_ok hn) h3) fun D σ H h => t_asg h
theorem asg_tp {t e : Expr} {tg : Tg} {pos : Pos} {x : PD.X} (fc : Fac X w T E sc) (h : cpG 5 sc t = some tg) (hn : notComp e = true) (ht : notTup e = true) (hs : noStar t = true) (he : L2.PE X e (RdE w T E sc.md x (.fr 0))) : L2.PS X (.Assign [t] e pos) (RdS w T E sc.md (mdT tg sc.md) mdl rl (.asg tg x)) := by
  have hw : swappedStores [t] e X.env = pure none := by
    cases e <;> first | (cases t <;> rfl) | cases ht
  have a1 : (assignEach [t] X.env).map (·.2) = [assign t X.env] := assign_ok hs
  exact PS.imp (ps_asg he (cpG_ok fc 5 h sc.md) (comp_ok hn) hw a1) fun D σ H h => t_asgT h
end
end PD
namespace PD
open PySem PySem.Spec PyProof.Rows L2

section
variable {w : Wd} {T : List (List D → M w.W D)} {E : XE} {sc : Sc} {X : Cx} {md1 mdl : List (Option Nat)} {rl : Nat}
theorem pop_call {n : Nat} {x : Str} {px ap cp : Pos} {a : Expr} {j k : Nat} (fc : Fac X w T E sc) (hx : mdOf sc x = some (j, k)) (hs : noStar a = true) (hl : (ap.endLine == cp.line) = true) :
    L2.PE X (.Call (.Attribute (.Name x px) "pop" ap) [a] [] cp) (tBM X.K "list" rPopAt (tVar j) (tCons (RdE w T E sc.md (cpE n sc (.br 1) a) (.br 1)) tNil)) := by
  obtain ⟨h1, h2, h3, h4, h5⟩ := mdOf_ok fc hx
  have few : ((backTo cp (starEach [a] X.env)).all (fun x => !x.1) && (backToKw cp (keywordEach [] X.env)).all (fun x => x.1.isSome) && decide ([a].length + ([] : List Keyword).length + (if ([] : List Keyword).isEmpty then 0 else 1) < 30)) = true := by
    rw [star_ok hs]
    rfl
  exact pe_bm PySem.F.plainAttrs_list PySem.F.slot_list_pop PySem.F.type_list_pop mt_popAt (pe_var h1 h2 h4 h5) (pa_cons (cpE_ok n X w T E sc (.br 1) a fc) pa_nil (star_ok hs)) rfl few hl (star_ok hs) rfl
theorem mut_call {x m : Str} {px ap cp : Pos} {a : Expr} {j k : Nat} {id : String} {r : V → List V → Hp → VK → Prop} {te : TE} (fc : Fac X w T E sc) (hx : mdOf sc x = some (j, k)) (sl : Slot "list" m id) (ty : typeOf (.builtin id) = pure (.type "method_descriptor")) (mt : MtR X id r)
    (he : L2.PE X a te) (hs : noStar a = true) (hl : (ap.endLine == cp.line) = true) :
    L2.PE X (.Call (.Attribute (.Name x px) m ap) [a] [] cp) (tBM X.K "list" r (tVar j) (tCons te tNil)) := by
  obtain ⟨h1, h2, h3, h4, h5⟩ := mdOf_ok fc hx
  have few : ((backTo cp (starEach [a] X.env)).all (fun x => !x.1) && (backToKw cp (keywordEach [] X.env)).all (fun x => x.1.isSome) && decide ([a].length + ([] : List Keyword).length + (if ([] : List Keyword).isEmpty then 0 else 1) < 30)) = true := by
    rw [star_ok hs]
    rfl
  exact pe_bm PySem.F.plainAttrs_list sl ty mt (pe_var h1 h2 h4 h5) (pa_cons he pa_nil (star_ok hs)) rfl few hl (star_ok hs) rfl
theorem cpAsg_ok (n : Nat) (fc : Fac X w T E sc) (t e : Expr) (pos : Pos) : L2.PS X (.Assign [t] e pos) (RdS w T E sc.md (cpAsg n sc t e pos).2 mdl rl (cpAsg n sc t e pos).1) := by
  unfold cpAsg
  split
  · rename_i y py
    split
    · rename_i i hi
      obtain ⟨s1, s2, s3⟩ := sto_ok fc hi
      split
      · rename_i x px m ap a cp
        split
        · rename_i j hx
          split
          · rename_i hm
            subst hm
            split
            · rename_i c
              rw [Bool.and_eq_true] at c
              exact PS.imp (ps_asg (pop_call fc hx c.1 c.2) (sg_nm fc.nd s1 s2 s3) rfl rfl rfl) fun D σ H h => t_popAt (X := X) (tg := .nm i) (md := sc.md) (mdOf_ok fc hx).2.2.1 h
            · exact pS_bad
          · exact asg_nm fc hi rfl (cpE_ok n X w T E sc _ _ fc)
        · exact asg_nm fc hi rfl (cpE_ok n X w T E sc _ _ fc)
      · rename_i elt gens scope p
        split
        · rename_i c
          simp only [Bool.and_eq_true, Bool.not_eq_true'] at c
          have hl := isLocal_ok fc c.1.1
          refine PS.imp ((cpComp_ok (cpE_ok n) (cpT_ok n) fc elt gens scope).2 i y py p pos s1 hl (sw_true (by rw [fc.scp]; exact fc.knd) hl c.1.2 c.2)) fun D σ H h => t_asg h
        · exact pS_bad
      · split
        · rename_i c
          exact asg_nm fc hi c (cpE_ok n X w T E sc _ _ fc)
        · exact pS_bad
    · exact pS_bad
  · rename_i x px y py kt pt
    split
    · rename_i a b k2 pt2
      split
      · rename_i i j hi hj
        split
        · rename_i c
          simp only [Bool.and_eq_true, Bool.not_eq_true', decide_eq_false_iff_not] at c
          obtain ⟨⟨⟨⟨⟨⟨⟨⟨c1, c2⟩, c3⟩, c4⟩, c5⟩, c6⟩, c7⟩, c8⟩, c9⟩ := c
          have l1 := isLocal_ok fc c1
          have l2 := isLocal_ok fc c2
          exact PS.imp (ps_par fc.calm fc.nd (sto_ok fc hi).1 (sto_ok fc hj).1 c5 l1 l2 (pa_cons (cpE_ok n X w T E sc _ a fc) (pa_cons (cpE_ok n X w T E sc _ b fc) pa_nil (star_ok c7)) (star_ok c6)) (sw2 (by rw [fc.scp]; exact fc.knd) l1 l2 c3 c4 c6 c7 c8 c9) rfl) fun D σ H h => t_par2 c5 h
        · split
          · rename_i c
            simp only [Bool.and_eq_true, Bool.not_eq_true'] at c
            obtain ⟨⟨c1, c2⟩, c3⟩ := c
            split
            · rename_i tg ht
              have nl : X.env.scope.names.lookup x ≠ some .local ∨ X.env.scope.names.lookup y ≠ some .local := by
                rw [fc.scp]
                rcases (Bool.and_eq_false_iff).mp c1 with z | z
                · exact .inl fun e => by
                    unfold isLocal at z
                    rw [e] at z
                    cases z
                · exact .inr fun e => by
                    unfold isLocal at z
                    rw [e] at z
                    cases z
              exact PS.imp (ps_asg (cpE_ok n X w T E sc _ _ fc) (cpG_ok fc 5 ht sc.md) rfl (sw2n nl c2 c3) rfl) fun D σ H h => t_asgT h
            · exact pS_bad
          · exact pS_bad
      · exact pS_bad
    · split
      · rename_i c
        rw [Bool.and_eq_true] at c
        split
        · rename_i tg ht
          exact asg_tp fc ht c.2 c.1 rfl (cpE_ok n X w T E sc _ _ fc)
        · exact pS_bad
      · exact pS_bad
  · split
    · rename_i c
      rw [Bool.and_eq_true] at c
      split
      · rename_i tg ht
        exact asg_tp fc ht c.2 c.1 rfl (cpE_ok n X w T E sc _ _ fc)
      · exact pS_bad
    · exact pS_bad
  · rename_i x p1 k p2
    split
    · rename_i i hx
      obtain ⟨h1, h2, h3, h4, h5⟩ := mdOf_ok fc hx
      split
      · rename_i c
        have hs : swapsWithSole [.Subscript (.Name x p1) k p2] e pos.line X.env = pure false := by cases e <;> rfl
        have hw : swappedStores [.Subscript (.Name x p1) k p2] e X.env = pure none := by cases e <;> rfl
        have hsub : ∀ v, assign (.Subscript (.Name x p1) k p2) X.env v = (do
            let ov ← holding [v] (eval (.Name x p1) X.env)
            let iv ← holding [v, ov] (eval k X.env)
            standAt p2
            holding [v, ov, iv] (setItem ov iv v)
            release [v, ov, iv] []) := fun v => by cases k <;> first | rfl | cases c
        exact PS.imp (ps_asg (cpE_ok n X w T E sc _ e fc) (pg_sub (pe_var h1 h2 h4 h5) (cpE_ok n X w T E sc _ k fc) (set_D fc.hu) hsub) hs hw rfl) fun D σ H h => t_sset h3 h
      · exact pS_bad
    · exact pS_bad
  · exact pS_bad
theorem cpDkS_ok (n : Nat) (fc : Fac X w T E sc) {t e : Expr} {pos : Pos} {r : PM} (h : cpDkS n sc t e = some r) : L2.PS X (.Assign [t] e pos) (RdS w T E sc.md r.2 mdl rl r.1) := by
  unfold cpDkS at h
  split at h
  · split at h
    · rename_i d i hd
      obtain ⟨⟨p, c, v, u, k⟩, j, h1, h2, h3, h4, h5⟩ := dkOf_ok fc hd
      split at h
      · rename_i e
        subst e
        split at h
        · rename_i cc
          cases h
          exact ss_drw fc.hu k h1 h2 h3 h4 h5 (cpE_ok n X w T E sc _ _ fc) cc
        · cases h
      · cases h
    · cases h
  · cases h
theorem cpExp_ok (n : Nat) (fc : Fac X w T E sc) (e : Expr) (pos : Pos) : L2.PS X (.Expr e pos) (RdS w T E sc.md (cpExp n sc e).2 mdl rl (cpExp n sc e).1) := by
  unfold cpExp
  split
  · rename_i c
    exact PS.imp (ps_expr (cpE_ok n X w T E sc _ e fc) (comp_ok c)) fun D σ H h => t_exp h
  · exact pS_bad
theorem cpMut_ok (n : Nat) (fc : Fac X w T E sc) {x m : Str} {px ap cp pos : Pos} {a : Expr} {r : PM} (h : cpMut n sc x m ap cp a = some r) : L2.PS X (.Expr (.Call (.Attribute (.Name x px) m ap) [a] [] cp) pos) (RdS w T E sc.md r.2 mdl rl r.1) := by
  unfold cpMut at h
  split at h
  · rename_i i k hx
    have hm := (mdOf_ok fc hx).2.2.1
    split at h
    · rename_i e
      subst e
      split at h
      · rename_i c
        rw [Bool.and_eq_true] at c
        have app : ∀ {r : PM}, some (PD.S.app i (cpE n sc (.fr k) a), sc.md) = some r → L2.PS X (.Expr (.Call (.Attribute (.Name x px) "append" ap) [a] [] cp) pos) (RdS w T E sc.md r.2 mdl rl r.1) := fun h => by
          cases h
          exact PS.imp (ps_expr (mut_call fc hx PySem.F.slot_list_append PySem.F.type_list_append mt_append (cpE_ok n X w T E sc _ a fc) c.1 c.2) rfl) fun D σ H h => t_app hm h
        split at h
        · rename_i y py m2 ap2 b cp2
          split at h
          · rename_i j hy
            split at h
            · rename_i c2
              rw [Bool.and_eq_true, beq_iff_eq, decide_eq_true_eq] at c2
              obtain ⟨e, e2⟩ := c2
              subst e e2
              split at h
              · rename_i c3
                simp only [Bool.and_eq_true, Bool.not_eq_true', decide_eq_false_iff_not] at c3
                cases h
                refine PS.imp (ps_expr (mut_call fc hx PySem.F.slot_list_append PySem.F.type_list_append mt_append (pop_call fc hy c3.1.2 c3.2) c.1 c.2) rfl) fun D σ H h => t_apop c3.1.1 (mdOf_ok fc hy).2.2.1 hm h
              · cases h
            · exact app h
          · exact app h
        · exact app h
      · cases h
    · split at h
      · rename_i e
        subst e
        split at h
        · rename_i c
          simp only [Bool.and_eq_true, beq_iff_eq] at c
          obtain ⟨c1, rfl⟩ := c
          cases h
          exact PS.imp (ps_expr (mut_call fc hx PySem.F.slot_list_extend PySem.F.type_list_extend mt_extend (cpE_ok n X w T E sc _ a fc) c1.1 (by simpa using c1.2)) rfl) fun D σ H h => t_ext hm h
        · cases h
      · cases h
  · cases h
/-- at a return all that is owned is frozen -/
theorem t_retF {x : PD.X} {md : List (Option Nat)} {D : Ends} {σ : L2.St} {H : Hp} (h : RdS w T E md md1 mdl rl (.ret x) D σ H) : tRet (RdE w T E (frzAll md) x (.fr rl)) D σ H := by
  obtain ⟨F0, H0, F, env, s, A0, t, q⟩ := h
  rw [exS] at q
  obtain ⟨F', ex, A', t'⟩ := At.frzs (cs := (List.range md.length).map fun i => (i, some 0)) A0 t
  exact ⟨H0, F', env, s, t', q.bind.mono (fun d s1 q => Kt.aft A' q.pure) fun _ _ _ z => z.aft A'⟩
theorem cpRet_ok (n : Nat) (fc : Fac X w T E sc) (e : Expr) (pos : Pos) : L2.PS X (.Return (some e) pos) (RdS w T E sc.md md1 mdl sc.rl (cpRet n sc e)) := by
  have gen : L2.PS X (.Return (some e) pos) (RdS w T E sc.md md1 mdl sc.rl (.ret (cpE n { sc with md := frzAll sc.md } (.fr sc.rl) e))) :=
    PS.imp (ps_ret (cpE_ok n X w T E { sc with md := frzAll sc.md } (.fr sc.rl) e (fc.md _))) fun D σ H h => t_retF h
  unfold cpRet
  split
  · rename_i x px
    split
    · rename_i i k hx
      split
      · rename_i hk
        obtain ⟨h1, h2, h3, h4, h5⟩ := mdOf_ok fc hx
        rw [hk] at h3
        exact PS.imp (ps_ret (pe_var h1 h2 h4 h5)) fun D σ H h => t_retv h3 h
      · exact gen
    · exact gen
  · exact gen
theorem cpS_ok (ne : Nat) : ∀ n, OkS (cpS ne n)
  | 0 => fun _ _ _ _ _ _ _ _ => pS_bad
  | n + 1 => by
    intro X w T E sc st fc hp
    unfold cpS
    split
    · split
      · rename_i r hr
        exact cpDkS_ok ne fc hr
      · exact cpAsg_ok ne fc _ _ _
    · rename_i x px op e pos
      split
      · rename_i i o hi ho
        split
        · rename_i c
          have c := of_decide_eq_true c
          obtain ⟨s1, s2, s3⟩ := sto_ok fc hi
          rw [bopOf_ok ho]
          exact PS.imp (ps_aug fc.nd s1 s2 (cpE_ok ne X w T E sc _ e fc) (iop_D (w := w) o) s3) fun D σ H h => t_aug c h
        · exact pS_bad
      · exact pS_bad
    · split
      · rename_i r hr
        exact cpMut_ok ne fc hr
      · exact cpExp_ok ne fc _ _
    · exact cpExp_ok ne fc _ _
    · exact cpRet_ok ne fc _ _
    · exact PS.imp ps_retN fun D σ H h => t_retN h
    · rename_i c a b pos
      have ha := cpSs_ok (cpS_ok ne n) hp (sts := a) (T := T) (E := E) fc
      have hb := cpSs_ok (cpS_ok ne n) hp (sts := b) (T := T) (E := E) fc
      dsimp only
      split
      · rename_i cc
        rw [Bool.and_eq_true] at cc
        exact PS.imp (ps_if (cpT_ok ne X w T E sc c fc) (ss_to ha cc.1) (ss_to hb cc.2)) fun D σ H h => t_iff h
      · exact pS_bad
    · rename_i tg it b pos
      split
      · rename_i t ht
        have hb := cpSs_ok (cpS_ok ne n) hp (sts := b) (T := T) (E := E) (sc := { sc with md := mdT t sc.md, mdl := sc.md }) (fc.mdm _ _)
        dsimp only
        split
        · rename_i cc
          rw [Bool.and_eq_true] at cc
          exact PS.imp (ps_for hp fc.calm (cpI_ok (cpE_ok ne) fc true tg it) (cpG_ok fc 5 ht sc.md) (ss_to hb cc.1) (fun x => set_ok cc.2)) fun D σ H h => t_for h
        · exact pS_bad
      · exact pS_bad
    · rename_i c b pos
      have hb := cpSs_ok (cpS_ok ne n) hp (sts := b) (T := T) (E := E) (sc := { sc with mdl := sc.md }) (fc.mdm _ _)
      dsimp only
      split
      · rename_i cc
        exact PS.imp (ps_while hp (cpT_ok ne X w T E sc c fc) (ss_to hb cc)) fun D σ H h => t_whl h
      · exact pS_bad
    · exact PS.imp ps_pass fun D σ H h => t_pas h
    · split
      · rename_i c
        exact PS.imp ps_break fun D σ H h => t_brk (t_weakL (leMd_ok c) h)
      · exact pS_bad
    · split
      · rename_i c
        exact PS.imp ps_continue fun D σ H h => t_cnt (t_weakL (leMd_ok c) h)
      · exact pS_bad
    · exact pS_bad
end
end PD
namespace PD
open PySem PySem.Spec PyProof.Rows L2

theorem fnG_of {CX : CXT} {P : Program} {wd : World} {K : PySem.W.Frag} {mg : Str → Option Value} {base : Heap} {k : Nat} {f : Addr} {name qual : Str} {params : Arguments} {body : List Stmt} {scope : Scope} {dV kV doc pm cdv ct oc : Value} {an od : Option Addr} {osl : Array (Option Value)}
    {N ps : List Str} {sp : Sp} (lk : K.lookup f = some ⟨oc, od, .func (PySem.W.fnOf name qual params body scope dV kV doc pm an cdv ct), osl⟩) (hcd : PySem.W.codeIn K cdv qual = true) (S : FnScope N ps scope) (len : ∀ vs H Q Ex, sp vs H Q Ex → vs.length = ps.length)
    (hb : ∀ (A : Around) (outer : List PySem.Env) (s : Shared) (H : Hp) (vs : List V) (Q : VK) (Ex : XK), A.guards = some [] → Room k (A.deeper (envOfC qual scope s.heap.objs.size f cdv)) → sp vs H Q Ex →
      ∃ t, L2.PSs (cxOf CX P wd K mg base N qual scope f cdv A outer s H Ex) body t ∧ t { nx := fun _ H' => Q .non H', rt := Q } (L2.start N vs) H) :
    FnG P wd K mg base CX (k + 1) f (PySem.W.fnOf name qual params body scope dV kV doc pm an cdv ct) ps sp := by
  constructor
  · exact len
  · intro A outer s H args us vs Q Ex hg hr e0 bt rv hsp
    have ll := len _ _ _ _ hsp
    have kin : K.In s.heap := e0.mod.kin.keeps fun b o z => (e0.bs b o z).1
    have nol : s.heap.NoLimit := e0.mod.nolimit.keeps fun b o z => (e0.bs b o z).1
    have kinds : ∀ y ∈ ps.zip us, scope.names.lookup y.1 = some .local ∨ (scope.names.lookup y.1 = some .cell ∧ ((cellsFrom (s.heap.objs.size + 1) scope.names []).lookup y.1).isSome = true) := by
      intro y hy
      cases S.par y.1 (List.of_mem_zip (show (y.1, y.2) ∈ ps.zip us from hy)).1 with
      | inl z => exact .inl z
      | inr z => exact .inr ⟨z, PySem.W.cellsFrom_some _ _ _ (.inl z)⟩
    refine codeAny_call_function hr.depth (kin _ _ lk) rfl S.co S.gen rfl (PySem.W.codeRec_of kin hcd) (bt _ _ _ _ (wpAny_newFunctionEnv_cells S.kind kinds fun env he s1 x => ?_))
    subst he
    obtain ⟨t, ht, q⟩ := hb A outer s H vs Q Ex hg (hr.deeper _) hsp
    refine ⟨nol.keeps x.toInCall.keep, codeAny_func (wpAny_mono (ht.run [] s1 (L2.start N vs) H _ (inv_start S hr.hd e0 ll rv x) q) (fun fl s2 z => ?_) fun _ _ z => z)⟩
    have done : ∀ {σ' : L2.St} {H' : Hp} {v : V} {u : Value}, L2.Inv (cxOf CX P wd K mg base N qual scope f cdv A outer s H Ex) [] σ' H' s2 → RelV v u → Q v H' → L2.CE outer P wd H s Q u s2 := fun {_ H' v _} J r z => ⟨v, H', J.os, J.bare, J.base, J.hok, r, z⟩
    match fl, z with
    | .ret u, ⟨v, σ', H', J, r, z⟩ => exact done J r z
    | .next, ⟨σ', H', J, z⟩ => exact done (v := .non) (u := .none) J rfl z
    | .brk, ⟨_, _, _, z⟩ => exact z.elim
    | .cont, ⟨_, _, _, z⟩ => exact z.elim

/-- nothing raises -/
abbrev noXc : Nat → List V → Hp → XK → Prop := fun _ _ _ _ => False
/-- what is known of a global name, wherever it is read -/
def GlS (P : Program) (wd : World) (K : PySem.W.Frag) (mg : Str → Option Value) (base : Heap) (w : Wd) (T : List (List D → M w.W D)) (k : Nat) (x : Str) : Gb → Prop
  | .fn i rl shs => ∃ g f fd j ps, T[i]? = some g ∧ mg x = some (.ref f) ∧ PySem.W.keepIn K (.ref f) = true ∧ j ≤ k ∧ FnG P wd K mg base CX0 j f fd ps (prom w g ps.length rl noXc) ∧ ∀ sh ∈ shs, Bd K fd ps sh ∧ sh.p.length = ps.length ∧ ∀ i ∈ sh.p, i < sh.n + sh.ks.length
  | .cst d => ∃ v u, mg x = some u ∧ RelV v u ∧ immB d = true ∧ ∀ F, Rep w.tk F d v
  | .bi => mg x = none
/-- the slots at the start -/
theorem start_get {N : List Str} {vs : List V} {i : Nat} {v : V} (h : vs[i]? = some v) : (L2.start N vs)[i]? = some (some v) := by
  unfold L2.start
  have l : i < vs.length := (List.getElem?_eq_some_iff.mp h).1
  rw [List.getElem?_append_left (by simpa using l), List.getElem?_map, h]
  rfl
theorem startE_get {n i : Nat} {ds : List D} {d : D} (h : getV (startE n ds) i = some d) : ds[i]? = some d := by
  unfold getV startE at h
  by_cases l : i < ds.length
  · rw [List.getElem?_append_left (by simpa using l), List.getElem?_map, List.getElem?_eq_getElem l] at h
    rw [List.getElem?_eq_getElem l]
    simpa using h
  · rw [List.getElem?_append_right (by simpa using l)] at h
    cases q : (List.replicate (n - ds.length) (none : Option D))[i - (ds.map some).length]? with
    | none =>
      rw [q] at h
      cases h
    | some o =>
      rw [q] at h
      obtain ⟨_, e⟩ := List.getElem?_eq_some_iff.mp q
      rw [List.getElem_replicate] at e
      subst e
      cases h
/-- parameters are frozen -/
def parOk (n : Nat) (md : List (Option Nat)) : Bool := (List.range n).all fun i => match md[i]? with
  | some (some k) => k == 0
  | _ => true
theorem parOk_ok {n : Nat} {md : List (Option Nat)} (h : parOk n md = true) {i k : Nat} (l : i < n) (e : md[i]? = some (some k)) : k = 0 := by
  unfold parOk at h
  have q := List.all_eq_true.mp h i (by simpa using l)
  rw [e] at q
  simpa using q
theorem at_start {w : Wd} {F H : Hp} {md : List (Option Nat)} {N : List Str} {ds : List D} {vs : List V} {s : w.W} (hd : Hd w F H) (r : w.rel s H) (rp : Reps w.tk F ds vs) (po : parOk ds.length md = true) : At w H md (startE N.length ds) s (L2.start N vs) F H := by
  refine ⟨hd, r, ?_, fun _ => [], fun i k d hm hx => ?_, fun _ => List.nodup_nil, (by intro i j a _ z; cases z), (by intro i a z; cases z)⟩
  · unfold L2.start startE
    simp [rp.length]
  · have e := startE_get hx
    obtain rfl := parOk_ok po (List.getElem?_eq_some_iff.mp e).1 hm
    obtain ⟨v, e1, e2⟩ := rp.get e
    exact ⟨v, start_get e1, rfl, e2⟩
theorem Room.un' {k : Nat} {A : Around} (h : Room k A) : A.units + 200 < cLine := by
  have := h.un
  omega
/-- a def, compiled: its promise -/
theorem def_ok {P : Program} {wd : World} {K : PySem.W.Frag} {mg : Str → Option Value} {base : Heap} {k : Nat} {f : Addr} {name qual : Str} {params : Arguments} {body : List Stmt} {scope : Scope} {dV kV doc pm cdv ct oc : Value} {an od : Option Addr} {osl : Array (Option Value)} {ps : List Str}
    (lk : K.lookup f = some ⟨oc, od, .func (PySem.W.fnOf name qual params body scope dV kV doc pm an cdv ct), osl⟩) (hcd : PySem.W.codeIn K cdv qual = true)
    (w : Wd) (T : List (List D → M w.W D)) (nt : ∀ k, w.tk k ≠ some .non) (sc : Sc) (ne n : Nat) (ir : Fn) (S : FnScope sc.N ps scope) (e1 : sc.scp = scope) (e2 : sc.cel = none) (e3 : parOk ps.length sc.md = true) (e4 : (cpSs (cpS ne n) sc body).1 = ir.body) (e5 : ir.n = sc.N.length) 
    (hgl : ∀ p ∈ sc.gl, GlS P wd K mg base w T k p.1 p.2) (hdk : ∀ d, sc.dk = some d → DkF w T d) :
    FnG P wd K mg base CX0 (k + 1) f (PySem.W.fnOf name qual params body scope dV kV doc pm an cdv ct) ps (prom w (ir.run T) ps.length sc.rl noXc) := by
  refine fnG_of lk hcd S (fun vs H Q Ex h => h.1) fun A outer s H vs Q Ex hg hr h => ?_
  obtain ⟨hl, F, st, ds, hd, rel, rp, q⟩ := h
  generalize hX : cxOf CX0 P wd K mg base sc.N qual scope f cdv A outer s H Ex = X
  have fc : Fac X.nox w T noE sc := by
    subst hX
    refine ⟨Room.un' hr, hg, nt, rfl, S.nd, rfl, e1.symm, by rw [e1]; exact S.kind, fun _ _ => rfl, fun p hp => ?_, hdk⟩
    have z := hgl p hp
    obtain ⟨x, g⟩ := p
    cases g with
    | fn i rl shs =>
      obtain ⟨g, f, fd, j, ps, t1, t2, t3, t4, t5, t6⟩ := z
      exact ⟨g, t1, f, fd, j, ps.length, ps, CX0, noXc, fun _ _ _ => False, t2, t3, hr.mono t4, t5, pass0, fun _ _ _ z => z, fun _ _ _ _ _ z => z, rfl, t6⟩
    | cst d => exact z
    | bi => exact z
  have bd := cpSs_ok (cpS_ok ne n) (X := X.nox) (T := T) (E := noE) (sts := body) PassesOwn.never fc
  rw [e4] at bd
  refine ⟨_, PSs.nox bd, F, H, F, startE ir.n ds, st, .refl hd.ex hd.wf, ?_, ?_⟩
  · rw [e5]
    exact at_start hd rel rp (by rw [rp.length, hl]; exact e3)
  · unfold Fn.run at q
    refine q.bind.mono (fun o s1 q => ?_) fun c as s' z vs' F' H' B r h => z vs' F' H' B r h
    cases o with
    | nx e => exact fun σ' F' H' ex A' t' => Kt.of (Kt.aft A' (show Kt w s1 F H .none (.fr sc.rl) Q from q)) t'.hd t'.rel .none (frImm rfl)
    | ret d => exact q
    | brk e => exact q.elim
    | cnt e => exact q.elim
end PD
namespace PD
open PySem PySem.Spec PyProof.Rows L2

section
variable {P : Program} {wd : World} {K : PySem.W.Frag} {mg mb : Str → Option Value} {CX : CXT} {k : Nat} {fa a : Addr} {fd : FuncData} {x : Str} {sp : Sp} {t : Shared} {us : List Value} {zs : List Int}
/-- the law runs from an abstract heap that tracks the script at most -/
theorem law_core (KX : K.In t.heap) (hns : t.heap.Ns mainGlobals mg) (hb : t.heap.Ns builtinsNs mb) (hbb : ∀ x : Str, x ≠ "__name__" → mb x = bootBuiltins x) (hlim : t.heap.NoLimit) (hg : t.gens = #[])
    (ha : t.heap.get? a = some { cls := .type "list", data := .seq us.toArray }) (hr : Room k callerA)
    (F : ∀ base : Heap, K.In base → base.Ns mainGlobals mg → FnG P wd K mg base CX k fa fd [x] sp) (hbind : ∀ (s : Shared) (u : Value), BindsTo s fd ⟨[u], []⟩ [(x, u)]) (hCX : ∀ H e s', CX [] H t (fun _ _ _ => False) e s' → False)
    {H : Hp} (hO : Only H) (hsp : sp [.ref a] H (fun v _ => v = .bl true) fun _ _ _ => False) (hok : HOk P wd H t.heap) (one : ∀ b, H b ≠ none → b = a) (hK : H a ≠ none → K.lookup a = none) :
    codeAny (model P wd) callerA (.call (.ref fa) ⟨[.ref a], []⟩) (fun r s' => r = .ok (.ret (.bool true)) ∧ OldK t.heap s'.heap ∧ s'.os = t.os ∧ AllBare s'.gens) t := by
  have out : ∀ {b : Addr} {o : Obj}, t.heap.get? b = some o → b ≠ a → (hidT t.heap H).get? b = some o := fun {b o} e n => hidT_get e (by
    by_cases z : H b = none
    · exact z
    · exact absurd (one b z) n)
  have dic : ∀ {b : Addr} {m : Str → Option Value}, t.heap.Ns b m → (hidT t.heap H).Ns b m := by
    rintro b m ⟨o, es, ep, e, d, r⟩
    refine ⟨o, es, ep, out e fun z => ?_, d, r⟩
    subst z
    rw [ha] at e
    cases e
    exact nomatch (show Data.seq us.toArray _ = Data.dict es ep from d)
  have kin : K.In (hidT t.heap H) := fun b o e => by
    by_cases z : H b = none
    · exact hidT_get (KX b o e) z
    · have := one b z
      subst this
      rw [hK z] at e
      cases e
  obtain ⟨mc, l1, l2⟩ := hlim
  have env : Env0 P wd K mg (hidT t.heap H) callerA [] t H := by
    refine ⟨rfl, ⟨kin, dic hns, ⟨mb, dic hb, hbb⟩, ⟨mc, dic l1, l2⟩⟩, fun b o e => of_hidT e, Nat.le_of_eq (hidT_size _ _), trivial, ?_, hok, .of_eq hg⟩
    intro b z
    cases z
  refine codeAny_mono ((F _ kin (dic hns)).run callerA [] t H _ [.ref a] [.ref a] _ _ rfl hr env (hbind t (.ref a)) (.cons rfl .nil) hsp) fun r s' h => ?_
  match r, h with
  | .error e, h => exact (hCX H e s' h).elim
  | .ok .next, h => exact h.elim
  | .ok .brk, h => exact h.elim
  | .ok .cont, h => exact h.elim
  | .ok (.ret u), ⟨v, H', os, bare, un, hok', rv, (q : v = .bl true)⟩ =>
    subst q
    obtain rfl : u = Value.bool true := rv
    refine ⟨rfl, OldK.of_keep fun b o e => ?_, os, bare⟩
    rcases hO b with z | ⟨ob, xs, z⟩
    · exact un.keep b o e z (by intro y; cases y) (by simp)
    · have k1 := hok b _ z
      have k2 := hok' b _ (un.frzs b ob _ z)
      have e1 := k1.1
      rw [e] at e1
      cases e1
      exact k2.1
/-- the law's promise, behind the top -/
theorem law_callG (KX : K.In t.heap) (hns : t.heap.Ns mainGlobals mg) (hb : t.heap.Ns builtinsNs mb) (hbb : ∀ x : Str, x ≠ "__name__" → mb x = bootBuiltins x) (hlim : t.heap.NoLimit) (hg : t.gens = #[])
    (ha : t.heap.get? a = some { cls := .type "list", data := .seq us.toArray }) (hi : IntsAre us zs) (hl : zs.length ≤ sizeLine) (hr : Room k callerA)
    (F : ∀ base : Heap, K.In base → base.Ns mainGlobals mg → FnG P wd K mg base CX k fa fd [x] sp) (hbind : ∀ (s : Shared) (u : Value), BindsTo s fd ⟨[u], []⟩ [(x, u)])
    (hsp : ∀ H : Hp, Only H → SqL K H a (zs.map V.int) → sp [.ref a] H (fun v _ => v = .bl true) fun _ _ _ => False) (hCX : ∀ H e s', CX [] H t (fun _ _ _ => False) e s' → False) :
    codeAny (model P wd) callerA (.call (.ref fa) ⟨[.ref a], []⟩) (fun r s' => r = .ok (.ret (.bool true)) ∧ OldK t.heap s'.heap ∧ s'.os = t.os ∧ AllBare s'.gens) t := by
  have rv := vals_ints hi
  cases hk : K.lookup a with
  | some o =>
    obtain rfl : o = { cls := .type "list", data := .seq us.toArray } := by
      have e := KX a o hk
      rw [ha] at e
      exact (Option.some.inj e).symm
    have hO : Only fun _ => none := fun _ => .inl rfl
    exact law_core KX hns hb hbb hlim hg ha hr F hbind hCX hO (hsp _ hO (.inr ⟨_, us.toArray, _, hk, rfl, rfl, rfl, by rw [List.size_toArray, hi.length]; exact hl, by simpa using rv⟩)) (fun b u z => nomatch (show (none : Option HO) = some u from z)) (fun b z => absurd rfl z) fun z => absurd rfl z
  | none =>
    have hO : Only (upd (fun _ => none) a (.frz { cls := .type "list", data := .seq us.toArray } (.lst (zs.map V.int)))) := fun b => by
      by_cases z : b = a
      · subst z
        exact .inr ⟨_, _, upd_same⟩
      · exact .inl (upd_ne z)
    refine law_core KX hns hb hbb hlim hg ha hr F hbind hCX hO (hsp _ hO (.inl (.inr ⟨_, upd_same⟩))) (fun b u z => ?_) (fun b z => ?_) fun _ => hk
    · by_cases e : b = a
      · subst e
        rw [upd_same] at z
        cases z
        exact ⟨ha, by rw [List.length_map]; exact hl, us, _, rv, ha⟩
      · rw [upd_ne e] at z
        cases z
    · by_cases e : b = a
      · exact e
      · exact absurd (upd_ne e) z
end
theorem walk_ofG {l : PySem.W.OpenLaw} {n k : Nat} {q : Program} {loose : List Str} {XP : (Str → Option Value) → Heap → Prop} {YP : World → Heap → Prop} {d : DefRec} {CX : CXT} {x : Str} (hn : l.most = some n) (hn2 : n ≤ sizeLine) (hdf : d.params.defaults = []) (hr : Room k callerA)
    (F : ∀ (w : World) (mg : Str → Option Value) (fa : Addr) (h : Heap), YP w h → h.Ns mainGlobals mg → mg d.name = some (.ref fa) → ∃ (K : PySem.W.Frag) (fd : FuncData) (sp : Sp), K.In h ∧ (∀ (s : Shared) (u : Value), BindsTo s fd ⟨[u], []⟩ [(x, u)]) ∧
      (∀ (H : Hp) (a : Addr) (zs : List Int), zs.length ≤ n → Only H → SqL K H a (zs.map V.int) → sp [.ref a] H (fun v _ => v = .bl true) fun _ _ _ => False) ∧ ∀ base : Heap, K.In base → base.Ns mainGlobals mg → FnG l.prog w K mg base CX k fa fd [x] sp)
    (hCX : ∀ (H : Hp) (s : Shared) (e : Value) (s' : Shared), CX [] H s (fun _ _ _ => False) e s' → False) : PySem.W.WalkO q loose XP YP l.row.toRowW d [] (fun f vs => PySem.call f vs) := by
  refine Att.attach_call hn hdf fun w s₀ s₁ mg mb fa o pm cd doc a us zs G Y ho hd hcd hmg hobj hints hlen hg => ?_
  obtain ⟨K, fd, sp, KX, hb, hsp, hF⟩ := F w mg fa _ Y G.T.g hmg
  exact law_callG KX G.T.g G.T.b G.T.builtins G.T.nolimit hg hobj hints (Nat.le_trans hlen hn2) hr hF hb (fun H hO hS => hsp H a zs hlen hO hS) fun H e s' => hCX H s₁ e s'
end PD
namespace PD
open PySem PySem.Spec PyProof.Rows L2

/-- the deck at p, its cells at c -/
def deckWd (d : Dk) (p c : Addr) : Wd where
  W := Deck
  ads := [p, c]
  tk := fun k => if k = 0 then some (.ref p) else none
  rel := fun s H => H p = some (.dK (dkO d c s)) ∧ H c = some (.lst (s.cells.map V.int))
  loc := fun h e => ⟨(e p (by simp)).trans h.1, (e c (by simp)).trans h.2⟩
  has := fun {s H a} h m => by
    rcases (show a = p ∨ a = c by simpa using m) with z | z
    · exact ⟨.dK (dkO d c s), by rw [z]; exact h.1, fun _ z => nomatch z⟩
    · exact ⟨.lst (s.cells.map V.int), by rw [z]; exact h.2, fun _ z => nomatch z⟩
theorem deck_nt (d : Dk) (p c : Addr) (k : Int) : (deckWd d p c).tk k ≠ some .non := by
  show (if k = 0 then some (V.ref p) else none) ≠ some .non
  split
  · exact fun z => nomatch z
  · exact fun z => nomatch z
/-- the deck's primitives -/
def dkT : List (List D → M Deck D) := [pMix id, pDrw id, pNe id, pSet id fun x _ => x, pPop id fun x _ => x, pApp id fun x _ => x, pId]
theorem deck_ok (d : Dk) (p c : Addr) (T : List (List D → M Deck D)) (e : d.i0 = 0) (k1 : d.kc ≠ d.km) (k2 : d.kc ≠ d.kd) (k3 : d.km ≠ d.kd) (n : p ≠ c) : DkF (deckWd d p c) (dkT ++ T) d := by
  refine ⟨p, c, id, fun x _ => x, ?_, by simp [deckWd], by simp [deckWd], fun h => h, fun {s H} x h => ⟨upd_same, ?_⟩, k1, k2, k3, ?_, ?_, ?_, ?_, ?_, ?_, ?_⟩
  · show (if (0 : Int) = 0 then some (V.ref p) else none) = some (.ref p)
    exact if_pos rfl
  · rw [upd_ne (Ne.symm n), upd_same]
  all_goals (rw [e]; rfl)
end PD
namespace PD
open PySem PySem.Spec PyProof.Rows L2

/-- what the maker of the deck promises: a new dict and its cells; what stood stays -/
def spDk (K : PySem.W.Frag) (d : Dk) (n : Nat) : Sp := fun vs H Q _ => vs.length = n ∧ ∃ (a : Addr) (zs : List Int), vs.head? = some (.ref a) ∧ SqL K H a (zs.map V.int) ∧ zs.length ≤ 63 ∧
  ∀ p c x H', p ≠ c → x.cells.length ≤ 63 → H' p = some (.dK (dkO d c x)) → H' c = some (.lst (x.cells.map V.int)) → Q (.ref p) H'
/-- what the law promises -/
def spLw (K : PySem.W.Frag) : Sp := fun vs H Q _ => ∃ (a : Addr) (zs : List Int), vs = [.ref a] ∧ SqL K H a (zs.map V.int) ∧ zs.length ≤ 63 ∧ ∀ v H', v = .bl true → Q v H'
/-- the slots behind the deck's making -/
def env1 (n i : Nat) : Env := (List.replicate n none).set i (some (objD 0))
theorem env1_get {n i j : Nat} {x : D} (h : getV (env1 n i) j = some x) : j = i ∧ x = objD 0 := by
  unfold env1 at h
  rcases getV_set h with ⟨e1, e2, _⟩ | ⟨_, h⟩
  · exact ⟨e1, e2⟩
  · unfold getV at h
    cases q : (List.replicate n (none : Option D))[j]? with
    | none =>
      rw [q] at h
      cases h
    | some o =>
      rw [q] at h
      obtain ⟨_, e⟩ := List.getElem?_eq_some_iff.mp q
      rw [List.getElem_replicate] at e
      subst e
      cases h
theorem at_deck {d : Dk} {p c : Addr} {H : Hp} {md : List (Option Nat)} {n i : Nat} {s : Deck} {σ : L2.St} (r : (deckWd d p c).rel s H) (hl : σ.length = n) (hi : i < n) (hs : σ[i]? = some (some (.ref p))) : At (deckWd d p c) H md (env1 n i) s σ (fun _ => none) H := by
  refine ⟨⟨(fun a o h => by cases h), (fun _ _ => rfl), (fun a ha => (deckWd d p c).has r ha)⟩, r, by rw [hl]; unfold env1; simp, (fun _ => []), (fun j k x hm hx => ?_), (fun _ => List.nodup_nil), (by intro _ _ _ _ z; cases z), (by intro _ _ z; cases z)⟩
  obtain ⟨rfl, rfl⟩ := env1_get hx
  refine ⟨_, hs, ?_⟩
  have rp : Rep (deckWd d p c).tk (fun _ => none) (objD 0) (.ref p) := .obj (by show (if (0 : Int) = 0 then some (V.ref p) else none) = _; exact if_pos rfl)
  cases k with
  | zero => exact ⟨rfl, rp⟩
  | succ k => exact ⟨rfl, rp⟩
theorem perm_range {α : Type} (l : List α) : permL (List.range l.length) l = l := by
  unfold permL
  refine List.ext_getElem? fun i => ?_
  have : ∀ (n : Nat), n ≤ l.length → (List.range n).filterMap (fun i => l[i]?) = l.take n := fun n => by
    induction n with
    | zero => intro _; simp
    | succ n ih =>
      intro h
      rw [List.range_succ, List.filterMap_append, ih (by omega), List.take_succ]
      simp [List.getElem?_eq_getElem (show n < l.length by omega)]
  rw [this l.length (Nat.le_refl _), List.take_length]
/-- a law: its deck, then the rest by the compiled text -/
theorem law_ok {P : Program} {wd : World} {K : PySem.W.Frag} {mg : Str → Option Value} {base : Heap} {k kd : Nat} {f fD : Addr} {fdD : FuncData} {psD : List Str} {name qual : Str} {params : Arguments} {rest : List Stmt} {scope : Scope} {dV kV doc pm cdv ct oc : Value} {an od : Option Addr} {osl : Array (Option Value)}
    {dn : Str} {p1 p2 p3 pos1 pos2 : Pos} {es : List Expr} {vz : List V} (sh : Shape) (d : Dk) (T : List (List D → M Deck D)) (sc : Sc) (ne n i : Nat) (ir : List PD.S)
    (lk : K.lookup f = some ⟨oc, od, .func (PySem.W.fnOf name qual params (.Assign [.Name dn p1] (.Call (.Name "_law_deck" p2) (.Name "script" p3 :: es) [] pos1) pos2 :: rest) scope dV kV doc pm an cdv ct), osl⟩) (hcd : PySem.W.codeIn K cdv qual = true) (S : FnScope sc.N ["script"] scope)
    (e1 : sc.scp = scope) (e2 : sc.cel = none) (e3 : sc.dk = none) (e4 : (cpSs (cpS ne n) sc rest).1 = ir) (hi : stoOf sc dn = some i) (h0 : slotOf sc ("script" : Str) = some 0) (hg0 : isGl (scope.names.lookup ("_law_deck" : Str)) = true)
    (hgl : ∀ p c, p ≠ c → ∀ q ∈ sc.gl, GlS P wd K mg base (deckWd d p c) T k q.1 q.2)
    (mD : mg "_law_deck" = some (.ref fD)) (kD : PySem.W.keepIn K (.ref fD) = true) (GD : FnG P wd K mg base CX0 kd fD fdD psD (spDk K d sh.n)) (hk : kd ≤ k) (bD : Bd K fdD psD sh) (hsh : sh.ks = []) (hp : sh.p = List.range sh.n) (hn : sh.n = (es.length) + 1)
    (hes : ∀ X : Cx, L2.PA X es (fun _ H Q => Q vz H)) (hz : vz.length = es.length) (hst : es.all noStar = true)
    (ok : ∀ s : Deck, s.cells.length ≤ 63 → ∃ s', exs T ir (env1 sc.N.length i) s = .ok (.ret (.bool true)) s') :
    FnG P wd K mg base CX0 (k + 1) f (PySem.W.fnOf name qual params (.Assign [.Name dn p1] (.Call (.Name "_law_deck" p2) (.Name "script" p3 :: es) [] pos1) pos2 :: rest) scope dV kV doc pm an cdv ct) ["script"] (spLw K) := by
  refine fnG_of lk hcd S (fun vs H Q Ex h => ?_) fun A outer s H vs Q Ex hg hr h => ?_
  · obtain ⟨a, zs, rfl, _⟩ := h
    rfl
  obtain ⟨a, zs, rfl, hS, hl, hQ⟩ := h
  generalize hX : cxOf CX0 P wd K mg base sc.N qual scope f cdv A outer s H Ex = X
  have fc : ∀ p c, p ≠ c → Fac X.nox (deckWd d p c) T noE sc := fun p c hpc => by
    subst hX
    refine ⟨Room.un' hr, hg, deck_nt d p c, rfl, S.nd, rfl, e1.symm, by rw [e1]; exact S.kind, fun _ _ => rfl, fun q hq => ?_, fun d h => by rw [e3] at h; cases h⟩
    have z := hgl p c hpc q hq
    obtain ⟨x, g⟩ := q
    cases g with
    | fn i rl shs =>
      obtain ⟨g, f, fd, j, ps, t1, t2, t3, t4, t5, t6⟩ := z
      exact ⟨g, t1, f, fd, j, ps.length, ps, CX0, noXc, fun _ _ _ => False, t2, t3, hr.mono t4, t5, pass0, fun _ _ _ z => z, fun _ _ _ _ _ z => z, rfl, t6⟩
    | cst d => exact z
    | bi => exact z
  have f0 := fc 0 1 (by decide)
  obtain ⟨s1, s2, s3⟩ := sto_ok f0 hi
  obtain ⟨v1, v2⟩ := slot_ok f0 h0
  have gD : Gl X.nox ("_law_deck" : Str) := by
    unfold isGl at hg0
    unfold Gl Env.kindOf
    rw [f0.scp, e1]
    split at hg0
    · assumption
    · cases hg0
  have rD : Room kd X.nox.A := by
    subst hX
    exact hr.mono hk
  have GD' : FnG X.nox.prog X.nox.w X.nox.K X.nox.mg X.nox.base CX0 kd fD fdD psD (spDk K d sh.n) := by
    subst hX
    exact GD
  have kD' : PySem.W.keepIn X.nox.K (.ref fD) = true := by
    subst hX
    exact kD
  have mD' : X.nox.mg "_law_deck" = some (.ref fD) := by
    subst hX
    exact mD
  have bD' : Bd X.nox.K fdD psD sh := by
    subst hX
    exact bD
  have pc := pe_cl (X := X.nox) (pos := pos1) (p := p2) (kws := []) f0.hg rD GD' (show Passes CX0 X.nox (fun _ _ _ => False) from pass0) bD' gD mD' kD' (by decide) rfl (by rw [hsh]; rfl) (pa_cons (pe_var (pos := p3) v1 v2 (by decide) (by decide)) (hes X.nox) (by rfl)) pk_nil (by rfl) (by
    have q := stars_ok (es := .Name "script" p3 :: es) (env := X.nox.env) (pos := pos1) (by rw [List.all_cons, hst]; rfl)
    rw [q]
    rfl)
  have st := ps_set (pos := pos2) (pos' := p1) f0.nd s1 s2 pc rfl s3
  have rs : L2.PSs X.nox rest (fun D σ H => ∃ p c, p ≠ c ∧ RdSs (deckWd d p c) T noE sc.md (cpSs (cpS ne n) sc rest).2 sc.mdl sc.rl ir D σ H) := by
    refine ⟨fun pins s σ H D I ⟨p, c, hpc, h⟩ => ?_⟩
    have b := cpSs_ok (w := deckWd d p c) (cpS_ok ne n) (X := X.nox) (T := T) (E := noE) (sts := rest) PassesOwn.never (fc p c hpc)
    rw [e4] at b
    exact b.run pins s σ H D I h
  refine ⟨_, PSs.nox (pss_cons st rs), ?_⟩
  have N0 : 0 < sc.N.length := by
    have := List.getElem?_eq_some_iff.mp v1
    obtain ⟨q, _⟩ := this
    rw [f0.eN] at q
    exact q
  refine ⟨_, start_get (v := .ref a) rfl, ?_⟩
  have len : (V.ref a :: vz).length = sh.n := by rw [hn, List.length_cons, hz]
  have pm : permL sh.p ((V.ref a :: vz) ++ []) = V.ref a :: vz := by
    rw [hp, List.append_nil, ← len]
    exact perm_range _
  refine ⟨len, by rw [hsh]; rfl, ?_⟩
  rw [pm]
  refine ⟨len, a, zs, rfl, hS, hl, fun p c x H' hpc q0 q1 q2 => ⟨p, c, hpc, fun _ => none, H', fun _ => none, env1 sc.N.length i, x, .refl (fun a o h => by cases h) (fun _ _ => rfl), at_deck ⟨q1, q2⟩ ?_ ?_ ?_, ?_⟩⟩
  · rw [List.length_set]
    unfold L2.start
    simp
    omega
  · have := (List.getElem?_eq_some_iff.mp s1).1
    rw [f0.eN] at this
    exact this
  · rw [List.getElem?_set_self]
    have := (List.getElem?_eq_some_iff.mp s1).1
    rw [f0.eN] at this
    unfold L2.start
    simp
    omega
  · obtain ⟨s', e⟩ := ok x q0
    have fin : ∀ r : PD.R Deck O, r = .ok (.ret (.bool true)) s' → Out r (Sk (deckWd d p c) (fun _ => none) H' (fun _ => none) (cpSs (cpS ne n) sc rest).2 sc.mdl sc.rl { nx := fun _ H' => Q .non H', rt := Q }) (Xt (deckWd d p c) noE (fun _ => none) H') := fun r er => by
      subst er
      intro v F' H2 A r wt
      obtain ⟨fp, ow, _⟩ := wt
      have rp := ow.rep A.sub fun _ _ => rfl
      cases rp
      exact hQ _ _ rfl
    exact fin _ e
end PD
namespace PD
open PySem PySem.Spec PyProof.Rows L2

section
variable {K : PySem.W.Frag} {H : Hp} {a q : Addr} {xs : List V} {o : HO} {zs : List Int} {σ : L2.St} {Q : VK}
theorem sq_ex {H' : Hp} (h : SqL K H a xs) (e : Ex H H') : SqL K H' a xs := by
  rcases h with h | h
  · rcases h with h | ⟨u, h⟩
    · exact .inl (.inl (e _ _ h))
    · exact .inl (.inr ⟨u, e _ _ h⟩)
  · exact .inr h
theorem cut63 (h : zs.length ≤ 63) : cutV (zs.map V.int) none (some 63) = zs.map V.int := by
  unfold cutV
  have e1 : HT.sIx (zs.map V.int).length 0 none = 0 := rfl
  rw [e1, List.drop_zero, Nat.sub_zero]
  refine List.take_of_length_le ?_
  rw [List.length_map]
  simp only [HT.sIx]
  split <;> omega
/-- script[:63] -/
def tCut (K : PySem.W.Frag) : TE := tSl (rSlL K) (tVar 0) tNoPart (tPart (tC (.int 63)))
theorem cut_at (h0 : σ[0]? = some (some (.ref a))) (hs : SqL K H a (zs.map V.int)) (hl : zs.length ≤ 63) (k : ∀ q, H q = none → Q (.ref q) (upd H q (.lst (zs.map V.int)))) : tCut K σ H Q :=
  ⟨_, h0, 63, rfl, a, _, rfl, hs, fun q hq => by rw [cut63 hl]; exact k q hq⟩
abbrev rInt1 : List V → Hp → VK → Prop := fun xs H Q => (∃ i, xs = [.int i] ∧ Q (.int i) H) ∨ ∃ k, xs = [.bl k] ∧ Q (.int (if k then 1 else 0)) H
abbrev rModI : R2 := L2.rI (fun _ j => 0 < j) fun i j => .int (i % j)
abbrev rAddI : R2 := L2.rI0 fun i j => .int (i + j)
/-- int(m * A + int(cell) % B + C) % E -/
def tStep (A B C E : Int) (iM iC : Nat) : TE := tOp rModI (tCB rInt1 (tCons (tOp rAddI (tOp rAddI (tOp (L2.rI CMul fun i j => .int (i * j)) (tVar iM) (tC (.int A))) (tOp rModI (tCB rInt1 (tCons (tVar iC) tNil)) (tC (.int B)))) (tC (.int C))) tNil)) (tC (.int E))
theorem step_at {A B C E : Int} {iM iC : Nat} {j z : Int} (hB : 0 < B) (hE : 0 < E) (h1 : σ[iM]? = some (some (.int j))) (h2 : σ[iC]? = some (some (.int z))) (hj : -(2 ^ 64) < j ∧ j < 2 ^ 64) (k : Q (.int ((j * A + z % B + C) % E)) H) : tStep A B C E iM iC σ H Q :=
  ⟨_, h1, j, A, rfl, rfl, .inl hj, _, h2, .inl ⟨z, rfl, z, B, rfl, rfl, hB, _, _, rfl, rfl, _, _, rfl, rfl, .inl ⟨_, rfl, _, _, rfl, rfl, hE, k⟩⟩⟩
def tMix (K : PySem.W.Frag) (A B C E : Int) (iM iC : Nat) : TS := tFor (iList K (tCut K)) (gName iC) (tAsg (tStep A B C E iM iC) (gName iM))
theorem mix_at {A B C E : Int} {iM iC : Nat} {j : Int} {D : L2.Ends} (hB : 0 < B) (hE : 0 < E) (hE2 : E ≤ 2 ^ 64) (h0 : σ[0]? = some (some (.ref a))) (h1 : σ[iM]? = some (some (.int j))) (hj : -(2 ^ 64) < j ∧ j < 2 ^ 64) (hs : SqL K H a (zs.map V.int)) (hl : zs.length ≤ 63)
    (m0 : iM ≠ 0) (c0 : iC ≠ 0) (mc : iM ≠ iC) (hc : iC < σ.length) (k : ∀ σ' H' i, σ'[0]? = some (some (.ref a)) → σ'[iM]? = some (some (.int i)) → Ex H H' → σ'.length = σ.length → D.nx σ' H') : tMix K A B C E iM iC D σ H := by
  refine cut_at h0 hs hl fun q hq => ⟨q, rfl, ⟨_, .inl (.inl upd_same)⟩, ?_⟩
  have sq : SqL K (upd H q (.lst (zs.map V.int))) q (zs.map V.int) := .inl (.inl upd_same)
  refine ⟨fun i m σ' H' => H' = upd H q (.lst (zs.map V.int)) ∧ i + m = zs.length ∧ σ'.length = σ.length ∧ σ'[0]? = some (some (.ref a)) ∧ ∃ j, σ'[iM]? = some (some (.int j)) ∧ -(2 ^ 64) < j ∧ j < 2 ^ 64, ⟨zs.length, rfl, by omega, rfl, h0, j, h1, hj⟩, ?_⟩
  rintro i m σ' H' ⟨rfl, e1, e2, e3, j, e4, e5⟩
  by_cases lt : i < zs.length
  · refine .inr ⟨⟨_, _, sq, by rw [List.getElem?_map, List.getElem?_eq_getElem lt]; rfl⟩, fun σ2 H2 => H2 = upd H q (.lst (zs.map V.int)) ∧ (i + 1) + (m - 1) = zs.length ∧ σ2.length = σ.length ∧ σ2[0]? = some (some (.ref a)) ∧ ∃ j, σ2[iM]? = some (some (.int j)) ∧ -(2 ^ 64) < j ∧ j < 2 ^ 64, fun σ2 H2 z => ⟨m - 1, by omega, z⟩, ?_⟩
    rintro x H2 ⟨rfl, hx⟩
    have ex := hx _ sq
    rw [List.getElem?_map, List.getElem?_eq_getElem lt] at ex
    obtain rfl : V.int zs[i] = x := by simpa using ex
    refine step_at (z := zs[i]) hB hE (by rw [List.getElem?_set_ne (Ne.symm mc)]; exact e4) (by rw [List.getElem?_set_self (by rw [e2]; exact hc)]) e5 ?_
    have p1 : 0 ≤ (j * A + zs[i] % B + C) % E := Int.emod_nonneg _ (by omega)
    have p2 : (j * A + zs[i] % B + C) % E < E := Int.emod_lt_of_pos _ hE
    refine ⟨rfl, by omega, by rw [List.length_set, List.length_set]; exact e2, ?_, (j * A + zs[i] % B + C) % E, ?_, ?_, ?_⟩
    · rw [List.getElem?_set_ne m0, List.getElem?_set_ne c0]
      exact e3
    · rw [List.getElem?_set_self]
      rw [List.length_set]
      exact (List.getElem?_eq_some_iff.mp e4).1
    · omega
    · omega
  · exact .inl ⟨⟨_, sq, by rw [List.length_map]; omega⟩, k σ' _ j e3 e4 (Ex.new hq) e2⟩
/-- what makes the cells -/
def CellOk (K : PySem.W.Frag) (n : Nat) (tc : TE) : Prop := ∀ {a : Addr} {zs : List Int} {σ : L2.St} {H : Hp} {Q : VK}, zs.length ≤ 63 → σ.length = n → σ[0]? = some (some (.ref a)) → SqL K H a (zs.map V.int) →
  (∀ c H', H c = none → Ex H H' → H' c = some (.lst (zs.reverse.map V.int)) → Q (.ref c) H') → tc σ H Q
def tDk (tc : TE) (d : Dk) (iM : Nat) : TE := tDisp [(tC (.str d.kc), tc), (tC (.str d.km), tVar iM), (tC (.str d.kd), tC (.int 0))]
theorem disp_at {d : Dk} {tc : TE} {iM : Nat} {j : Int} (hl : zs.length ≤ 63) (h0 : σ[0]? = some (some (.ref a))) (h1 : σ[iM]? = some (some (.int j))) (hs : SqL K H a (zs.map V.int)) (hc : CellOk K σ.length tc) (k1 : d.kc ≠ d.km) (k2 : d.kc ≠ d.kd) (k3 : d.km ≠ d.kd)
    (k : ∀ p c x H', p ≠ c → x.cells.length ≤ 63 → H' p = some (.dK (dkO d c x)) → H' c = some (.lst (x.cells.map V.int)) → Q (.ref p) H') : tDk tc d iM σ H Q := by
  intro p hp
  refine hc hl rfl h0 (sq_ex hs (Ex.new hp)) fun c H' hcn ex hcc => ?_
  have ne : p ≠ c := fun e => by
    subst e
    rw [upd_same] at hcn
    cases hcn
  refine ⟨_, h1, ?_⟩
  refine ⟨ex p _ upd_same, [(.inr d.kc, .ref c), (.inr d.km, .int j), (.inr d.kd, .int 0)], rfl, by simp, ?_⟩
  have e : mergeK [] [((.inr d.kc : Key), V.ref c), (.inr d.km, .int j), (.inr d.kd, .int 0)] = dkO d c ⟨zs.reverse, j, 0⟩ := by
    unfold mergeK dkO
    simp [putK, k1, k2, k3, Ne.symm k1, Ne.symm k2, Ne.symm k3]
  rw [e]
  refine k p c ⟨zs.reverse, j, 0⟩ _ ne (by rw [List.length_reverse]; exact hl) upd_same ?_
  rw [upd_ne (Ne.symm ne)]
  exact hcc
/-- list(script[:63])[::-1] -/
def tCellA (K : PySem.W.Frag) : TE := tRevL K (tCB (fun xs H Q => ∃ p ys, xs = [.ref p] ∧ (SqL K H p ys ∨ SqT K H p ys) ∧ ∀ l, H l = none → Q (.ref l) (upd H l (.lst ys))) (tCons (tCut K) tNil))
theorem cellA_ok {n : Nat} : CellOk K n (tCellA K) := by
  intro a zs σ H Q hl hn h0 hs k
  refine cut_at h0 hs hl fun q hq => ⟨q, _, rfl, .inl (.inl (.inl upd_same)), fun l hl => ⟨l, _, rfl, .inl (.inl upd_same), fun c hc => ?_⟩⟩
  have x1 := Ex.new (o := .lst (zs.map V.int)) hq
  have x2 := Ex.new (o := .lst (zs.map V.int)) hl
  refine k c _ (x1.back (x2.back hc)) ((x1.trans x2).trans (Ex.new hc)) ?_
  rw [upd_same, List.map_reverse]
end
end PD
namespace PD
open PySem PySem.Spec PyProof.Rows L2
section
variable {X : Cx}
theorem pe_cut {p1 p2 p3 p4 : Pos} {u : Nat} (v0 : X.N[0]? = some ("script" : Str)) (w0 : Vis X.env.scope ("script" : Str)) : PE X (.Subscript (.Name "script" p1) (.Slice none (some (.Constant (.int 63) u p2)) none p3) p4) (tCut X.K) :=
  pe_slice sl_list (pe_var v0 w0 (by decide) (by decide)) po_none (po_some pe_int)
theorem ps_mix {m : Str} {iM iC : Nat} {A B C E : Int} {p1 p2 p3 p4 q4 q9 q10 q11 q12 q13 q14 q15 q16 q17 q18 q19 q20 q21 q22 q23 q24 q25 q26 : Pos} {u u3 u4 u5 u6 : Nat} (hp : PassesOwn (model X.prog X.w) X.A X.env X.xe) (hc : X.calm = true) (nd : X.N.Nodup) (v0 : X.N[0]? = some ("script" : Str)) (w0 : Vis X.env.scope ("script" : Str))
    (v1 : X.N[iM]? = some m) (w1 : X.env.scope.names.lookup m = some .local) (v2 : X.N[iC]? = some ("cell" : Str)) (w2 : X.env.scope.names.lookup ("cell" : Str) = some .local) (d1 : (m == ("__debug__" : Str)) = false) (d2 : (m == ("__classdict__" : Str)) = false) (gi : Gl X "int") (mi : X.mg "int" = none) :
    L2.PS X (.For (.Name "cell" q4) (.Subscript (.Name "script" p1) (.Slice none (some (.Constant (.int 63) u p2)) none p3) p4) [.Assign [.Name m q9] (.BinOp (.Call (.Name "int" q10) [.BinOp (.BinOp (.BinOp (.Name m q11) .Mult (.Constant (.int A) u3 q12) q13) .Add (.BinOp (.Call (.Name "int" q14) [.Name "cell" q15] [] q16) .Mod (.Constant (.int B) u4 q17) q18) q19) .Add (.Constant (.int C) u5 q20) q21] [] q22) .Mod (.Constant (.int E) u6 q23) q24) q25] [] q26) (tMix X.K A B C E iM iC) :=
  ps_for hp hc (pi_list (pe_cut v0 w0)) (pg_name nd v2 (.inl w2) (.inr w2)) (pss_one (ps_set nd v1 (.inl w1) (pe_op op_mod (pe_callTy call_int1 gi mi boot_int (pa_cons (pe_op op_add (pe_op op_add (pe_op op_mul (pe_var v1 (.inl w1) d1 d2) pe_int) (pe_op op_mod (pe_callTy call_int1 gi mi boot_int (pa_cons (pe_var v2 (.inl w2) (by decide) (by decide)) pa_nil)) pe_int)) pe_int) pa_nil)) pe_int) (hf := .inr w1)))
theorem pe_dk {d : Dk} {m : Str} {iM : Nat} {ce : Expr} {tc : TE} {r1 r2 r3 r4 r5 r6 : Pos} {u1 u2 u3 u4 : Nat} (hc : PE X ce tc) (v1 : X.N[iM]? = some m) (w1 : Vis X.env.scope m) (d1 : (m == ("__debug__" : Str)) = false) (d2 : (m == ("__classdict__" : Str)) = false) :
    PE X (.Dict [some (.Constant (.str d.kc) u1 r1), some (.Constant (.str d.km) u2 r2), some (.Constant (.str d.kd) u3 r3)] [ce, .Name m r4, .Constant (.int 0) u4 r5] r6) (tDk tc d iM) :=
  pe_disp (pps_cons pe_str hc (pps_cons pe_str (pe_var v1 w1 d1 d2) (pps_cons pe_str pe_int pps_nil))) rfl rfl (by simp) (by simp)
theorem pe_cellA {p1 p2 p3 p4 s1 s2 s3 s4 s5 s6 : Pos} {u u2 : Nat} (v0 : X.N[0]? = some ("script" : Str)) (w0 : Vis X.env.scope ("script" : Str)) (gl : Gl X "list") (ml : X.mg "list" = none) :
    PE X (.Subscript (.Call (.Name "list" s1) [.Subscript (.Name "script" p1) (.Slice none (some (.Constant (.int 63) u p2)) none p3) p4] [] s2) (.Slice none none (some (.UnaryOp .USub (.Constant (.int 1) u2 s3) s4)) s5) s6) (tCellA X.K) :=
  pe_revL (pe_callTy call_list_of gl ml (by rfl) (pa_cons (pe_cut v0 w0) pa_nil))
end
/-- `_law_deck(script)`: a number at first, list(script[:63])[::-1] -/
theorem deckA_ok {P : Program} {wd : World} {K : PySem.W.Frag} {mg : Str → Option Value} {base : Heap} {f : Addr} {name qual : Str} {params : Arguments} {scope : Scope} {dV kV doc pm cdv ct oc : Value} {an od : Option Addr} {osl : Array (Option Value)}
    {m : Str} {A B C E N0 : Int} {d : Dk} {p1 p2 p3 p4 q1 q2 q3 q4 q9 q10 q11 q12 q13 q14 q15 q16 q17 q18 q19 q20 q21 q22 q23 q24 q25 q26 r1 r2 r3 r4 r5 r6 r7 p5 p6 p7 p8 s1 s2 s3 s4 s5 s6 : Pos} {u u0 u3 u4 u5 u6 v1 v2 v3 v4 v5 v6 : Nat} {body : List Stmt}
    (lk : K.lookup f = some ⟨oc, od, .func (PySem.W.fnOf name qual params body scope dV kV doc pm an cdv ct), osl⟩) (hcd : PySem.W.codeIn K cdv qual = true)
    (hb : body = [.Assign [.Name m q1] (.Constant (.int N0) u0 q2) q3,
      .For (.Name "cell" q4) (.Subscript (.Name "script" p1) (.Slice none (some (.Constant (.int 63) u p2)) none p3) p4) [.Assign [.Name m q9] (.BinOp (.Call (.Name "int" q10) [.BinOp (.BinOp (.BinOp (.Name m q11) .Mult (.Constant (.int A) u3 q12) q13) .Add (.BinOp (.Call (.Name "int" q14) [.Name "cell" q15] [] q16) .Mod (.Constant (.int B) u4 q17) q18) q19) .Add (.Constant (.int C) u5 q20) q21] [] q22) .Mod (.Constant (.int E) u6 q23) q24) q25] [] q26,
      .Return (some (.Dict [some (.Constant (.str d.kc) v1 r1), some (.Constant (.str d.km) v2 r2), some (.Constant (.str d.kd) v3 r3)] [.Subscript (.Call (.Name "list" s1) [.Subscript (.Name "script" p5) (.Slice none (some (.Constant (.int 63) v5 p6)) none p7) p8] [] s2) (.Slice none none (some (.UnaryOp .USub (.Constant (.int 1) v6 s3) s4)) s5) s6, .Name m r4, .Constant (.int 0) v4 r5] r6)) r7])
    (S : FnScope ["script", m, "cell"] ["script"] scope) (lm : scope.names.lookup m = some .local) (lc : scope.names.lookup ("cell" : Str) = some .local) (gi : scope.names.lookup ("int" : Str) = some .globalImplicit) (gl : scope.names.lookup ("list" : Str) = some .globalImplicit) (mi : mg "int" = none) (ml : mg "list" = none)
    (d1 : (m == ("__debug__" : Str)) = false) (d2 : (m == ("__classdict__" : Str)) = false) (hN : -(2 ^ 64) < N0 ∧ N0 < 2 ^ 64) (hB : 0 < B) (hE : 0 < E) (hE2 : E ≤ 2 ^ 64) (k1 : d.kc ≠ d.km) (k2 : d.kc ≠ d.kd) (k3 : d.km ≠ d.kd) :
    FnG P wd K mg base CX0 1 f (PySem.W.fnOf name qual params body scope dV kV doc pm an cdv ct) ["script"] (spDk K d 1) := by
  refine fnG_of lk hcd S (fun vs H Q Ex h => h.1) fun A outer s H vs Q Ex hg hr h => ?_
  obtain ⟨hl, a, zs, hh, hs, hz, hQ⟩ := h
  obtain rfl : vs = [.ref a] := by
    match vs, hl, hh with
    | [v], _, hh => simpa using hh
  generalize hX : cxOf CX0 P wd K mg base ["script", m, "cell"] qual scope f cdv A outer s H Ex = X
  have nd : X.nox.N.Nodup := by
    subst hX
    exact S.nd
  have cm : X.nox.calm = true := by
    subst hX
    rfl
  have eK : X.nox.K = K := by
    subst hX
    rfl
  have i0 : X.nox.N[0]? = some ("script" : Str) := by
    subst hX
    rfl
  have i1 : X.nox.N[1]? = some m := by
    subst hX
    rfl
  have i2 : X.nox.N[2]? = some ("cell" : Str) := by
    subst hX
    rfl
  have w0 : Vis X.nox.env.scope ("script" : Str) := by
    subst hX
    exact (S.par _ List.mem_cons_self).elim .inl fun z => .inr (.inl z)
  have w1 : X.nox.env.scope.names.lookup m = some .local := by
    subst hX
    exact lm
  have w2 : X.nox.env.scope.names.lookup ("cell" : Str) = some .local := by
    subst hX
    exact lc
  have g1 : Gl X.nox "int" := by
    subst hX
    exact gi
  have g2 : Gl X.nox "list" := by
    subst hX
    exact gl
  have e1 : X.nox.mg "int" = none := by
    subst hX
    exact mi
  have e2 : X.nox.mg "list" = none := by
    subst hX
    exact ml
  subst hb
  refine ⟨_, PSs.nox (pss_cons (ps_set nd i1 (.inl w1) pe_int (hf := .inr w1)) (pss_cons (ps_mix PassesOwn.never cm nd i0 w0 i1 w1 i2 w2 d1 d2 g1 e1) (pss_one (ps_ret (pe_dk (pe_cellA i0 w0 g2 e2) i1 (.inl w1) d1 d2))))), ?_⟩
  rw [eK]
  refine mix_at (j := N0) hB hE hE2 (by rfl) (by rfl) hN hs hz (by decide) (by decide) (by decide) (Nat.lt_succ_self 2) fun σ' H' i x0 x1 ex len => ?_
  exact disp_at hz x0 x1 (sq_ex hs ex) cellA_ok k1 k2 k3 hQ
end PD
namespace PD
open PySem PySem.Spec PyProof.Rows L2
theorem bd_of {K : PySem.W.Frag} {x qual : Str} {params : Arguments} {body : List Stmt} {scope : Scope} {kws : List (Str × V)} {f : Addr} {fd : FuncData} {ps : List Str} {sh : Shape} (F : FunD K x qual params body scope [] kws f fd)
    (h : ∀ (kV doc pm : Value) (an : Option Addr) (cdv ct : Value) (us ws : List Value), us.length = sh.n → ws.length = sh.ks.length → bindArgs (PySem.W.fnOf x qual params body scope .none kV doc pm an cdv ct) ⟨us, sh.ks.zip ws⟩ = pure (ps.zip (permL sh.p (us ++ ws)))) : Bd K fd ps sh := by
  obtain ⟨oc, od, dV, kV, doc, pm, an, cdv, ct, osl, rfl, lk, hcd, hD, hK⟩ := F.ex
  rcases hD with ⟨_, rfl⟩ | ⟨e, _⟩
  · exact fun s us ws _ h1 h2 => .of_eq (h kV doc pm an cdv ct us ws h1 h2)
  · exact absurd rfl e
section
variable {P : Program} {wd : World} {K : PySem.W.Frag} {mg : Str → Option Value} {base : Heap} {w : Wd} {T : List (List D → M w.W D)} {k : Nat}
theorem gl_nil : ∀ p ∈ ([] : List (Str × Gb)), GlS P wd K mg base w T k p.1 p.2 := fun p h => nomatch h
theorem gl_cons {x : Str} {g : Gb} {l : List (Str × Gb)} (h : GlS P wd K mg base w T k x g) (r : ∀ p ∈ l, GlS P wd K mg base w T k p.1 p.2) : ∀ p ∈ (x, g) :: l, GlS P wd K mg base w T k p.1 p.2 := fun p hp => by
  rcases List.mem_cons.mp hp with e | hp
  · subst e
    exact h
  · exact r p hp
theorem sh_nil {fd : FuncData} {ps : List Str} : ∀ sh ∈ ([] : List Shape), Bd K fd ps sh ∧ sh.p.length = ps.length ∧ ∀ i ∈ sh.p, i < sh.n + sh.ks.length := fun p h => nomatch h
theorem sh_cons {fd : FuncData} {ps : List Str} {s : Shape} {l : List Shape} (h : Bd K fd ps s) (h2 : s.p.length = ps.length) (h3 : ∀ i ∈ s.p, i < s.n + s.ks.length) (r : ∀ sh ∈ l, Bd K fd ps sh ∧ sh.p.length = ps.length ∧ ∀ i ∈ sh.p, i < sh.n + sh.ks.length) :
    ∀ sh ∈ s :: l, Bd K fd ps sh ∧ sh.p.length = ps.length ∧ ∀ i ∈ sh.p, i < sh.n + sh.ks.length := fun p hp => by
  rcases List.mem_cons.mp hp with e | hp
  · subst e
    exact ⟨h, h2, h3⟩
  · exact r p hp
theorem gl_fn {x : Str} {i rl j : Nat} {shs : List Shape} {g : List D → M w.W D} {f : Addr} {fd : FuncData} {ps : List Str} (e : T[i]? = some g) (m : mg x = some (.ref f)) (kp : PySem.W.keepIn K (.ref f) = true) (hj : j ≤ k)
    (G : FnG P wd K mg base CX0 j f fd ps (prom w g ps.length rl noXc)) (hs : ∀ sh ∈ shs, Bd K fd ps sh ∧ sh.p.length = ps.length ∧ ∀ i ∈ sh.p, i < sh.n + sh.ks.length) : GlS P wd K mg base w T k x (.fn i rl shs) := ⟨g, f, fd, j, ps, e, m, kp, hj, G, hs⟩
theorem gl_int {x : Str} {i : Int} (h : ∃ t, mg x = some (.int i t)) : GlS P wd K mg base w T k x (.cst (.int i)) := by
  obtain ⟨t, h⟩ := h
  exact ⟨.int i, .int i t, h, ⟨t, rfl⟩, rfl, fun _ => .int _⟩
end
end PD
namespace PD
open PySem PySem.Spec PyProof.Rows L2

def OB {α : Type} (o : Option α) (P : α → Prop) : Prop := match o with
  | some a => P a
  | none => False
theorem OB.mk {α : Type} {o : Option α} {P : α → Prop} {a : α} (e : o = some a) (h : P a) : OB o P := by
  rw [e]
  exact h
theorem OB.mono {α : Type} {o : Option α} {P Q : α → Prop} (h : OB o P) (k : ∀ a, P a → Q a) : OB o Q := by
  cases o with
  | none => exact h
  | some a => exact k _ h
section
variable {α β : Type}
/-- the deck's cells are few -/
def JD (s : Deck) : Prop := s.cells.length ≤ 63
def Tot (m : M Deck α) (P : α → Prop) : Prop := ∀ s, JD s → ∃ a s', m s = .ok a s' ∧ JD s' ∧ P a
theorem Tot.pure {a : α} {P : α → Prop} (h : P a) : Tot (Pure.pure a : M Deck α) P := fun s j => ⟨a, s, rfl, j, h⟩
theorem Tot.bind {m : M Deck α} {f : α → M Deck β} {P : β → Prop} (h : Tot m fun a => Tot (f a) P) : Tot (m >>= f) P := fun s j => by
  obtain ⟨a, s1, e, j1, q⟩ := h s j
  obtain ⟨b, s2, e2, j2, q2⟩ := q s1 j1
  refine ⟨b, s2, ?_, j2, q2⟩
  rw [M.bind_eq]
  unfold M.bind
  rw [e]
  exact e2
theorem Tot.mono {m : M Deck α} {P Q : α → Prop} (h : Tot m P) (k : ∀ a, P a → Q a) : Tot m Q := fun s j => by
  obtain ⟨a, s1, e, j1, q⟩ := h s j
  exact ⟨a, s1, e, j1, k _ q⟩
theorem Tot.ofO {o : Option α} {P : α → Prop} (h : OB o P) : Tot (PD.ofO o : M Deck α) P := by
  cases o with
  | none => exact h.elim
  | some a => exact .pure h
theorem Tot.noX {m : M Deck α} {P : α → Prop} (h : Tot m P) : Tot (PD.noX m) P := fun s j => by
  obtain ⟨a, s1, e, j1, q⟩ := h s j
  refine ⟨a, s1, ?_, j1, q⟩
  unfold PD.noX
  rw [e]

/-- both ways of a test -/
def BB (b : Bool) (P Q : Prop) : Prop := (b = true → P) ∧ (b = false → Q)
theorem Tot.ite {b : Bool} {m n : M Deck α} {P : α → Prop} (h : BB b (Tot m P) (Tot n P)) : Tot (if b then m else n) P := by
  cases b with
  | true => exact h.1 rfl
  | false => exact h.2 rfl
def CI (step : D → List D → (List D → Prop) → Prop) (ds acc : List D) (P : List D → Prop) : Prop :=
  ∃ I : List D → List D → Prop, I ds acc ∧ (∀ d r a, I (d :: r) a → step d a (I r)) ∧ ∀ a, I [] a → P a
/-- what follows a loop's turn -/
def LO (o : O) (k : Env → Prop) (P : O → Prop) : Prop := match o with
  | .nx e => k e
  | .cnt e => k e
  | .brk e => P (.nx e)
  | .ret x => P (.ret x)
def FI (step : D → Env → (O → Prop) → Prop) (ds : List D) (env : Env) (P : O → Prop) : Prop :=
  ∃ I : List D → Env → Prop, I ds env ∧ (∀ d r e, I (d :: r) e → step d e fun o => LO o (I r) P) ∧ ∀ e, I [] e → P (.nx e)
def WI (test : Env → (Bool → Prop) → Prop) (step : Env → (O → Prop) → Prop) (env : Env) (P : O → Prop) : Prop :=
  ∃ I : Nat → Env → Prop, (∃ n, n < turns ∧ I n env) ∧ ∀ n e, I n e → test e fun b => BB b (∃ m, m < n ∧ step e fun o => LO o (I m) P) (P (.nx e))
theorem cgo_tot {step : D → List D → M Deck (List D)} {st : D → List D → (List D → Prop) → Prop} (hs : ∀ d a K, st d a K → Tot (step d a) K) : ∀ {ds acc : List D} {P : List D → Prop}, CI st ds acc P → Tot (cgo step ds acc) P
  | [], acc, P, ⟨I, h0, _, h2⟩ => by
    unfold cgo
    exact .pure (h2 _ h0)
  | d :: ds, acc, P, ⟨I, h0, h1, h2⟩ => by
    unfold cgo
    exact .bind ((hs _ _ _ (h1 _ _ _ h0)).mono fun a q => cgo_tot hs ⟨I, q, h1, h2⟩)
theorem fgo_tot {step : D → Env → M Deck O} {st : D → Env → (O → Prop) → Prop} (hs : ∀ d a K, st d a K → Tot (step d a) K) : ∀ {ds : List D} {env : Env} {P : O → Prop}, FI st ds env P → Tot (fgo step ds env) P
  | [], env, P, ⟨I, h0, _, h2⟩ => by
    unfold fgo
    exact .pure (h2 _ h0)
  | d :: ds, env, P, ⟨I, h0, h1, h2⟩ => by
    unfold fgo
    refine .bind ((hs _ _ _ (h1 _ _ _ h0)).mono fun o q => ?_)
    cases o with
    | nx e => exact fgo_tot hs ⟨I, q, h1, h2⟩
    | cnt e => exact fgo_tot hs ⟨I, q, h1, h2⟩
    | brk e => exact .pure q
    | ret x => exact .pure q
theorem wgo_tot {test : Env → M Deck Bool} {step : Env → M Deck O} {te : Env → (Bool → Prop) → Prop} {st : Env → (O → Prop) → Prop} (ht : ∀ e K, te e K → Tot (test e) K) (hs : ∀ e K, st e K → Tot (step e) K) {P : O → Prop} {I : Nat → Env → Prop}
    (h : ∀ n e, I n e → te e fun b => BB b (∃ m, m < n ∧ st e fun o => LO o (I m) P) (P (.nx e))) : ∀ (k n : Nat) (env : Env), n < k → I n env → Tot (wgo test step k env) P
  | 0, n, env, l, _ => absurd l (Nat.not_lt_zero _)
  | k + 1, n, env, l, i => by
    unfold wgo
    refine .bind ((ht _ _ (h n env i)).mono fun b q => .ite ⟨fun e => ?_, fun e => .pure (q.2 e)⟩)
    obtain ⟨m, lm, q⟩ := q.1 e
    refine .bind ((hs _ _ q).mono fun o q => ?_)
    cases o with
    | nx e => exact wgo_tot ht hs h k m e (by omega) q
    | cnt e => exact wgo_tot ht hs h k m e (by omega) q
    | brk e => exact .pure q
    | ret x => exact .pure q
def CL (T : List (List D → M Deck D)) (f : Nat) (ds : List D) (P : D → Prop) : Prop := OB (T[f]?) fun g => Tot (g ds) P
theorem CL.mk {T : List (List D → M Deck D)} {f : Nat} {ds : List D} {P : D → Prop} {g : List D → M Deck D} (e : T[f]? = some g) (h : Tot (g ds) P) : CL T f ds P := OB.mk e h
end
section
variable (T : List (List D → M Deck D))
def intB (d : D) (P : Int → Prop) : Prop := match d with
  | .int i => P i
  | _ => False
def boolB (d : D) (P Q : Prop) : Prop := match d with
  | .bool b => BB b P Q
  | _ => False
mutual
def wE : X → Env → (D → Prop) → Prop
  | .var i, env, P => OB (getV env i) P
  | .cst d, _, P => P d
  | .tup es, env, P => wEs es env fun ds => P (.tuple ds)
  | .lst es, env, P => wEs es env fun ds => P (.list ds)
  | .dic es, env, P => wEs es env fun ds => OB (dicD ds []) P
  | .op o a b, env, P => wE a env fun x => wE b env fun y => OB (binop o x y) P
  | .cmp o a b, env, P => wE a env fun x => wE b env fun y => OB (cmpop o x y) fun r => P (.bool r)
  | .chn o p a b c, env, P => wE a env fun x => wE b env fun y => OB (cmpop o x y) fun r => BB r (wE c env fun z => OB (cmpop p y z) fun r => P (.bool r)) (P (.bool false))
  | .neg a, env, P => wE a env fun x => intB x fun i => P (.int (-i))
  | .not a, env, P => wE a env fun x => OB (truD x) fun b => P (.bool !b)
  | .and a b, env, P => wE a env fun x => boolB x (wE b env P) (P (.bool false))
  | .or a b, env, P => wE a env fun x => boolB x (P (.bool true)) (wE b env P)
  | .ite c a b, env, P => wT c env fun r => BB r (wE a env P) (wE b env P)
  | .ix a b, env, P => wE a env fun x => wE b env fun y => OB (ixD x y) P
  | .sl a lo hi, env, P => wE a env fun x => wO lo env fun l => wO hi env fun h => OB (sliceD x l h) P
  | .call f as, env, P => wEs as env fun ds => CL T f ds P
  | .callk f as perm, env, P => wEs as env fun ds => CL T f (permL perm ds) P
  | .callb f as perm, env, P => wEs as env fun ds => CL T f (permL perm ds) fun d => scalB d = true ∧ P d
  | .bi b as, env, P => wEs as env fun ds => OB (bi b ds) P
  | .mt m o as, env, P => wE o env fun d => mtOk m d = true ∧ wEs as env fun ds => OB (mt m d ds) P
  | .comp elt tg it ifs vs, env, P => wI it env fun ds => CI (fun d acc K => OB (bindT tg d (wipeE env vs)) fun env1 => wTo ifs env1 fun b => BB b (wE elt env1 fun e => acc.length < cap ∧ K (acc ++ [e])) (K acc)) ds [] fun r => P (.list r)
  | .comp2 elt tg it ifs tg1 it1 ifs1 vs vs1, env, P => wI it env fun ds => CI (fun d acc K => OB (bindT tg d (wipeE env vs)) fun env1 => wTo ifs env1 fun b => BB b
      (wI it1 env1 fun ds1 => CI (fun d1 acc K => OB (bindT tg1 d1 (wipeE env1 vs1)) fun env2 => wTo ifs1 env2 fun b1 => BB b1 (wE elt env2 fun e => acc.length < cap ∧ K (acc ++ [e])) (K acc)) ds1 acc K) (K acc)) ds [] fun r => P (.list r)
  | .bad, _, _ => False
def wEs : List X → Env → (List D → Prop) → Prop
  | [], _, P => P []
  | e :: es, env, P => wE e env fun d => wEs es env fun ds => P (d :: ds)
def wO : Option X → Env → (Option Int → Prop) → Prop
  | none, _, P => P none
  | some e, env, P => wE e env fun d => intB d fun i => P (some i)
def wT : X → Env → (Bool → Prop) → Prop
  | .not a, env, P => wT a env fun b => P !b
  | .and a b, env, P => wT a env fun r => BB r (wT b env P) (P false)
  | .or a b, env, P => wT a env fun r => BB r (P true) (wT b env P)
  | .ite c a b, env, P => wT c env fun r => BB r (wT a env P) (wT b env P)
  | e, env, P => wE e env fun d => OB (truD d) P
def wTo : Option X → Env → (Bool → Prop) → Prop
  | none, _, P => P true
  | some e, env, P => wT e env P
def wI : It → Env → (List D → Prop) → Prop
  | .seq e, env, P => wE e env fun d => OB (walkOf d) P
  | .rng as, env, P => wEs as env fun ds => OB (rangeOf ds) P
  | .enu e, env, P => wE e env fun d => OB ((walkOf d).map enumD) P
  | .zip a b, env, P => wE a env fun x => wE b env fun y => OB (zipOf x y) P
  | .keys e, env, P => wE e env fun d => OB ((dictOf d).map fun kvs => kvs.map (·.1)) P
  | .vals e, env, P => wE e env fun d => OB ((dictOf d).map fun kvs => kvs.map (·.2)) P
  | .items e, env, P => wE e env fun d => OB ((dictOf d).map fun kvs => kvs.map fun p => .tuple [p.1, p.2]) P
end
end
end PD
namespace PD
open PySem PySem.Spec PyProof.Rows L2
section
variable {T : List (List D → M Deck D)}
theorem intB_ok {d : D} {P : Int → Prop} (h : intB d P) : Tot (asInt d : M Deck Int) P := by
  cases d <;> first | exact h.elim | exact .pure h
theorem push_tot {acc : List D} {e : D} {K : List D → Prop} (h : acc.length < cap ∧ K (acc ++ [e])) : Tot (push acc e : M Deck (List D)) K := by
  unfold push
  rw [if_pos h.1]
  exact .pure h.2
mutual
theorem wE_ok : ∀ (x : X) (env : Env) (P : D → Prop), wE T x env P → Tot (ev T x env) P
  | .var i, env, P, h => by
    unfold wE at h
    unfold ev
    exact .ofO h
  | .cst d, env, P, h => by
    unfold wE at h
    unfold ev
    exact .pure h
  | .tup es, env, P, h => by
    unfold wE at h
    unfold ev
    exact .bind ((wEs_ok es env _ h).mono fun _ q => .pure q)
  | .lst es, env, P, h => by
    unfold wE at h
    unfold ev
    exact .bind ((wEs_ok es env _ h).mono fun _ q => .pure q)
  | .dic es, env, P, h => by
    unfold wE at h
    unfold ev
    exact .bind ((wEs_ok es env _ h).mono fun _ q => .ofO q)
  | .op o a b, env, P, h => by
    unfold wE at h
    unfold ev
    exact .bind ((wE_ok a env _ h).mono fun _ h => .bind ((wE_ok b env _ h).mono fun _ q => .ofO q))
  | .cmp o a b, env, P, h => by
    unfold wE at h
    unfold ev
    exact .bind ((wE_ok a env _ h).mono fun _ h => .bind ((wE_ok b env _ h).mono fun _ q => .bind (.ofO (q.mono fun _ q => .pure q))))
  | .chn o p a b c, env, P, h => by
    unfold wE at h
    unfold ev
    exact .bind ((wE_ok a env _ h).mono fun _ h => .bind ((wE_ok b env _ h).mono fun _ q => .bind (.ofO (q.mono fun _ q => .ite ⟨fun e => .bind ((wE_ok c env _ (q.1 e)).mono fun _ q => .bind (.ofO (q.mono fun _ q => .pure q))), fun e => .pure (q.2 e)⟩))))
  | .neg a, env, P, h => by
    unfold wE at h
    unfold ev
    exact .bind ((wE_ok a env _ h).mono fun d q => .bind ((intB_ok q).mono fun _ q => .pure q))
  | .not a, env, P, h => by
    unfold wE at h
    unfold ev
    exact .bind ((wE_ok a env _ h).mono fun d q => .bind (.ofO (q.mono fun _ q => .pure q)))
  | .and a b, env, P, h => by
    unfold wE at h
    unfold ev
    refine .bind ((wE_ok a env _ h).mono fun d q => ?_)
    cases d with
    | bool r =>
      cases r with
      | true => exact wE_ok b env _ (q.1 rfl)
      | false => exact .pure (q.2 rfl)
    | _ => exact q.elim
  | .or a b, env, P, h => by
    unfold wE at h
    unfold ev
    refine .bind ((wE_ok a env _ h).mono fun d q => ?_)
    cases d with
    | bool r =>
      cases r with
      | true => exact .pure (q.1 rfl)
      | false => exact wE_ok b env _ (q.2 rfl)
    | _ => exact q.elim
  | .ite c a b, env, P, h => by
    unfold wE at h
    unfold ev
    exact .bind ((wT_ok c env _ h).mono fun r q => .ite ⟨fun e => wE_ok a env _ (q.1 e), fun e => wE_ok b env _ (q.2 e)⟩)
  | .ix a b, env, P, h => by
    unfold wE at h
    unfold ev
    exact .bind ((wE_ok a env _ h).mono fun _ h => .bind ((wE_ok b env _ h).mono fun _ q => .ofO q))
  | .sl a lo hi, env, P, h => by
    unfold wE at h
    unfold ev
    exact .bind ((wE_ok a env _ h).mono fun _ h => .bind ((wO_ok lo env _ h).mono fun _ h => .bind ((wO_ok hi env _ h).mono fun _ q => .ofO q)))
  | .call f as, env, P, h => by
    unfold wE at h
    unfold ev
    refine .bind ((wEs_ok as env _ h).mono fun ds q => ?_)
    unfold CL at q
    cases e : T[f]? with
    | none =>
      rw [e] at q
      exact q.elim
    | some g =>
      rw [e] at q
      exact q
  | .callk f as perm, env, P, h => by
    unfold wE at h
    unfold ev
    refine .bind ((wEs_ok as env _ h).mono fun ds q => ?_)
    unfold CL at q
    cases e : T[f]? with
    | none =>
      rw [e] at q
      exact q.elim
    | some g =>
      rw [e] at q
      exact q
  | .callb f as perm, env, P, h => by
    unfold wE at h
    unfold ev
    refine .bind ((wEs_ok as env _ h).mono fun ds q => ?_)
    unfold CL at q
    cases e : T[f]? with
    | none =>
      rw [e] at q
      exact q.elim
    | some g =>
      rw [e] at q
      refine .bind (Tot.mono q fun d q => ?_)
      rw [if_pos q.1]
      exact .pure q.2
  | .bi b as, env, P, h => by
    unfold wE at h
    unfold ev
    exact .bind ((wEs_ok as env _ h).mono fun _ q => .ofO q)
  | .mt m o as, env, P, h => by
    unfold wE at h
    unfold ev
    refine .bind ((wE_ok o env _ h).mono fun d q => ?_)
    rw [if_pos q.1]
    exact .bind ((wEs_ok as env _ q.2).mono fun _ q => .ofO q)
  | .comp elt tg it ifs vs, env, P, h => by
    unfold wE at h
    unfold ev
    refine .bind ((wI_ok it env _ h).mono fun ds q => .bind (.noX ((cgo_tot (fun d acc K h => ?_) q).mono fun _ q => .pure q)))
    exact .bind (.ofO (h.mono fun env1 h => .bind ((wTo_ok ifs env1 _ h).mono fun b h => .ite ⟨fun e => .bind ((wE_ok elt env1 _ (h.1 e)).mono fun _ q => push_tot q), fun e => .pure (h.2 e)⟩)))
  | .comp2 elt tg it ifs tg1 it1 ifs1 vs vs1, env, P, h => by
    unfold wE at h
    unfold ev
    refine .bind ((wI_ok it env _ h).mono fun ds q => .bind (.noX ((cgo_tot (fun d acc K h => ?_) q).mono fun _ q => .pure q)))
    refine .bind (.ofO (h.mono fun env1 h => .bind ((wTo_ok ifs env1 _ h).mono fun b h => .ite ⟨fun e => .bind ((wI_ok it1 env1 _ (h.1 e)).mono fun ds1 q => cgo_tot (fun d acc K h => ?_) q), fun e => .pure (h.2 e)⟩)))
    exact .bind (.ofO (h.mono fun env2 h => .bind ((wTo_ok ifs1 env2 _ h).mono fun b h => .ite ⟨fun e => .bind ((wE_ok elt env2 _ (h.1 e)).mono fun _ q => push_tot q), fun e => .pure (h.2 e)⟩)))
  | .bad, env, P, h => by
    unfold wE at h
    exact h.elim
theorem wEs_ok : ∀ (x : List X) (env : Env) (P : List D → Prop), wEs T x env P → Tot (evs T x env) P
  | [], env, P, h => by
    unfold wEs at h
    unfold evs
    exact .pure h
  | e :: es, env, P, h => by
    unfold wEs at h
    unfold evs
    exact .bind ((wE_ok e env _ h).mono fun _ h => .bind ((wEs_ok es env _ h).mono fun _ q => .pure q))
theorem wO_ok : ∀ (x : Option X) (env : Env) (P : Option Int → Prop), wO T x env P → Tot (evo T x env) P
  | none, env, P, h => by
    unfold wO at h
    unfold evo
    exact .pure h
  | some e, env, P, h => by
    unfold wO at h
    unfold evo
    exact .bind ((wE_ok e env _ h).mono fun _ q => .bind ((intB_ok q).mono fun _ q => .pure q))
theorem wT_ok : ∀ (x : X) (env : Env) (P : Bool → Prop), wT T x env P → Tot (tst T x env) P
  | .not a, env, P, h => by
    unfold wT at h
    unfold tst
    exact .bind ((wT_ok a env _ h).mono fun _ q => .pure q)
  | .and a b, env, P, h => by
    unfold wT at h
    unfold tst
    exact .bind ((wT_ok a env _ h).mono fun _ q => .ite ⟨fun e => wT_ok b env _ (q.1 e), fun e => .pure (q.2 e)⟩)
  | .or a b, env, P, h => by
    unfold wT at h
    unfold tst
    exact .bind ((wT_ok a env _ h).mono fun _ q => .ite ⟨fun e => .pure (q.1 e), fun e => wT_ok b env _ (q.2 e)⟩)
  | .ite c a b, env, P, h => by
    unfold wT at h
    unfold tst
    exact .bind ((wT_ok c env _ h).mono fun _ q => .ite ⟨fun e => wT_ok a env _ (q.1 e), fun e => wT_ok b env _ (q.2 e)⟩)
  | .var i, env, P, h => by
    unfold wT at h
    unfold tst
    exact .bind ((wE_ok _ env _ h).mono fun _ q => .ofO q)
  | .cst d, env, P, h => by
    unfold wT at h
    unfold tst
    exact .bind ((wE_ok _ env _ h).mono fun _ q => .ofO q)
  | .tup es, env, P, h => by
    unfold wT at h
    unfold tst
    exact .bind ((wE_ok _ env _ h).mono fun _ q => .ofO q)
  | .lst es, env, P, h => by
    unfold wT at h
    unfold tst
    exact .bind ((wE_ok _ env _ h).mono fun _ q => .ofO q)
  | .dic es, env, P, h => by
    unfold wT at h
    unfold tst
    exact .bind ((wE_ok _ env _ h).mono fun _ q => .ofO q)
  | .op o a b, env, P, h => by
    unfold wT at h
    unfold tst
    exact .bind ((wE_ok _ env _ h).mono fun _ q => .ofO q)
  | .cmp o a b, env, P, h => by
    unfold wT at h
    unfold tst
    exact .bind ((wE_ok _ env _ h).mono fun _ q => .ofO q)
  | .chn o p a b c, env, P, h => by
    unfold wT at h
    unfold tst
    exact .bind ((wE_ok _ env _ h).mono fun _ q => .ofO q)
  | .neg a, env, P, h => by
    unfold wT at h
    unfold tst
    exact .bind ((wE_ok _ env _ h).mono fun _ q => .ofO q)
  | .ix a b, env, P, h => by
    unfold wT at h
    unfold tst
    exact .bind ((wE_ok _ env _ h).mono fun _ q => .ofO q)
  | .sl a lo hi, env, P, h => by
    unfold wT at h
    unfold tst
    exact .bind ((wE_ok _ env _ h).mono fun _ q => .ofO q)
  | .call f as, env, P, h => by
    unfold wT at h
    unfold tst
    exact .bind ((wE_ok _ env _ h).mono fun _ q => .ofO q)
  | .callk f as perm, env, P, h => by
    unfold wT at h
    unfold tst
    exact .bind ((wE_ok _ env _ h).mono fun _ q => .ofO q)
  | .callb f as perm, env, P, h => by
    unfold wT at h
    unfold tst
    exact .bind ((wE_ok _ env _ h).mono fun _ q => .ofO q)
  | .bi b as, env, P, h => by
    unfold wT at h
    unfold tst
    exact .bind ((wE_ok _ env _ h).mono fun _ q => .ofO q)
  | .mt m o as, env, P, h => by
    unfold wT at h
    unfold tst
    exact .bind ((wE_ok _ env _ h).mono fun _ q => .ofO q)
  | .comp elt tg it ifs vs, env, P, h => by
    unfold wT at h
    unfold tst
    exact .bind ((wE_ok _ env _ h).mono fun _ q => .ofO q)
  | .comp2 elt tg it ifs tg1 it1 ifs1 vs vs1, env, P, h => by
    unfold wT at h
    unfold tst
    exact .bind ((wE_ok _ env _ h).mono fun _ q => .ofO q)
  | .bad, env, P, h => by
    unfold wT at h
    unfold tst
    exact .bind ((wE_ok _ env _ h).mono fun _ q => .ofO q)
theorem wTo_ok : ∀ (x : Option X) (env : Env) (P : Bool → Prop), wTo T x env P → Tot (tsto T x env) P
  | none, env, P, h => by
    unfold wTo at h
    unfold tsto
    exact .pure h
  | some e, env, P, h => by
    unfold wTo at h
    unfold tsto
    exact wT_ok e env _ h
theorem wI_ok : ∀ (x : It) (env : Env) (P : List D → Prop), wI T x env P → Tot (iter T x env) P
  | .seq e, env, P, h => by
    unfold wI at h
    unfold iter
    exact .bind ((wE_ok e env _ h).mono fun _ q => .ofO q)
  | .rng as, env, P, h => by
    unfold wI at h
    unfold iter
    exact .bind ((wEs_ok as env _ h).mono fun _ q => .ofO q)
  | .enu e, env, P, h => by
    unfold wI at h
    unfold iter
    exact .bind ((wE_ok e env _ h).mono fun _ q => .ofO q)
  | .zip a b, env, P, h => by
    unfold wI at h
    unfold iter
    exact .bind ((wE_ok a env _ h).mono fun _ h => .bind ((wE_ok b env _ h).mono fun _ q => .ofO q))
  | .keys e, env, P, h => by
    unfold wI at h
    unfold iter
    exact .bind ((wE_ok e env _ h).mono fun _ q => .ofO q)
  | .vals e, env, P, h => by
    unfold wI at h
    unfold iter
    exact .bind ((wE_ok e env _ h).mono fun _ q => .ofO q)
  | .items e, env, P, h => by
    unfold wI at h
    unfold iter
    exact .bind ((wE_ok e env _ h).mono fun _ q => .ofO q)
end
end
end PD
namespace PD
open PySem PySem.Spec PyProof.Rows L2
section
variable (T : List (List D → M Deck D))
def lstB (o : Option D) (P : List D → Prop) : Prop := match o with
  | some (.list xs) => P xs
  | _ => False
/-- what follows a statement -/
def OO (o : O) (k : Env → Prop) (P : O → Prop) : Prop := match o with
  | .nx e => k e
  | o => P o
mutual
def wS : S → Env → (O → Prop) → Prop
  | .asg tg e, env, P => wE T e env fun d => OB (bindT tg d env) fun env' => P (.nx env')
  | .par is es, env, P => wEs T es env fun ds => OB (setAll is ds env) fun env' => P (.nx env')
  | .aug i o e, env, P => OB (getV env i) fun d => wE T e env fun x => OB (iopD o d x) fun y => P (.nx (env.set i (some y)))
  | .app i e, env, P => lstB (getV env i) fun xs => wE T e env fun d => xs.length < cap ∧ P (.nx (env.set i (some (.list (xs ++ [d])))))
  | .ext i e, env, P => lstB (getV env i) fun xs => wE T e env fun d => OB (lstOf d) fun ys => xs.length + ys.length ≤ cap ∧ P (.nx (env.set i (some (.list (xs ++ ys)))))
  | .mut i ks m as, env, P => OB (getV env i) fun d => wEs T ks env fun kd => OB (getP kd d) fun x => mutOk m x = true ∧ wEs T as env fun ds => OB (updP (fun x => mutD m x ds) kd d) fun d' => P (.nx (env.set i (some d')))
  | .sset i ks k e, env, P => wE T e env fun x => OB (getV env i) fun d => wEs T ks env fun kd => wE T k env fun j => OB (updP (fun y => mutD .set y [j, x]) kd d) fun d' => P (.nx (env.set i (some d')))
  | .saug i ks k o e, env, P => OB (getV env i) fun d => wEs T ks env fun kd => wE T k env fun j => OB (getP (kd ++ [j]) d) fun y => wE T e env fun x => OB (iopD o y x) fun z => OB (updP (fun y => mutD .set y [j, z]) kd d) fun d' => P (.nx (env.set i (some d')))
  | .frz _, env, P => P (.nx env)
  | .pop tg i a, env, P => lstB (getV env i) fun xs => wO T a env fun o => OB (popD xs o) fun p => OB (bindT tg p.1 (env.set i (some (.list p.2)))) fun env' => P (.nx env')
  | .apop j i a, env, P => lstB (getV env j) fun ys => lstB (getV env i) fun xs => wO T a env fun o => OB (popD xs o) fun p => ys.length < cap ∧ P (.nx ((env.set i (some (.list p.2))).set j (some (.list (ys ++ [p.1])))))
  | .iff c a b, env, P => wT T c env fun r => BB r (wSs a env P) (wSs b env P)
  | .for tg it b, env, P => wI T it env fun ds => FI (fun d e K => OB (bindT tg d e) fun e' => wSs b e' K) ds env P
  | .whl c b, env, P => WI (fun e K => wT T c e K) (fun e K => wSs b e K) env P
  | .ret e, env, P => wE T e env fun d => P (.ret d)
  | .retN, _, P => P (.ret .none)
  | .exp e, env, P => wE T e env fun _ => P (.nx env)
  | .pas, env, P => P (.nx env)
  | .brk, env, P => P (.brk env)
  | .cnt, env, P => P (.cnt env)
  | .rse _ _, _, _ => False
  | .bad, _, _ => False
def wSs : List S → Env → (O → Prop) → Prop
  | [], env, P => P (.nx env)
  | s :: r, env, P => wS s env fun o => OO o (fun e => wSs r e P) P
end
variable {T}
theorem lstB_ok {env : Env} {i : Nat} {P : List D → Prop} (h : lstB (getV env i) P) : Tot (getL env i : M Deck (List D)) P := by
  unfold getL
  unfold lstB at h
  split at h
  · rename_i xs e
    first
      | exact .pure h
      | (rw [e]; exact .pure h)
  · exact h.elim
mutual
theorem wS_ok : ∀ (x : S) (env : Env) (P : O → Prop), wS T x env P → Tot (exS T x env) P
  | .asg tg e, env, P, h => by
    unfold wS at h
    unfold exS
    exact .bind ((wE_ok e env _ h).mono fun _ q => .bind (.ofO (q.mono fun _ q => .pure q)))
  | .par is es, env, P, h => by
    unfold wS at h
    unfold exS
    exact .bind ((wEs_ok es env _ h).mono fun _ q => .bind (.ofO (q.mono fun _ q => .pure q)))
  | .aug i o e, env, P, h => by
    unfold wS at h
    unfold exS
    exact .bind (.ofO (h.mono fun d h => .bind ((wE_ok e env _ h).mono fun _ q => .bind (.ofO (q.mono fun _ q => .pure q)))))
  | .app i e, env, P, h => by
    unfold wS at h
    unfold exS
    refine .bind ((lstB_ok h).mono fun xs h => .bind ((wE_ok e env _ h).mono fun d q => ?_))
    rw [if_pos q.1]
    exact .pure q.2
  | .ext i e, env, P, h => by
    unfold wS at h
    unfold exS
    refine .bind ((lstB_ok h).mono fun xs h => .bind ((wE_ok e env _ h).mono fun d q => .bind (.ofO (q.mono fun ys q => ?_))))
    rw [if_pos q.1]
    exact .pure q.2
  | .mut i ks m as, env, P, h => by
    unfold wS at h
    unfold exS
    refine .bind (.ofO (h.mono fun d h => .bind ((wEs_ok ks env _ h).mono fun kd q => .bind (.ofO (q.mono fun x q => ?_)))))
    rw [if_pos q.1]
    exact .bind ((wEs_ok as env _ q.2).mono fun _ q => .bind (.ofO (q.mono fun _ q => .pure q)))
  | .sset i ks k e, env, P, h => by
    unfold wS at h
    unfold exS
    exact .bind ((wE_ok e env _ h).mono fun _ q => .bind (.ofO (q.mono fun d h => .bind ((wEs_ok ks env _ h).mono fun kd q => .bind ((wE_ok k env _ q).mono fun j q => .bind (.ofO (q.mono fun _ q => .pure q)))))))
  | .saug i ks k o e, env, P, h => by
    unfold wS at h
    unfold exS
    exact .bind (.ofO (h.mono fun d h => .bind ((wEs_ok ks env _ h).mono fun kd q => .bind ((wE_ok k env _ q).mono fun j q => .bind (.ofO (q.mono fun y q => .bind ((wE_ok e env _ q).mono fun x q => .bind (.ofO (q.mono fun z q => .bind (.ofO (q.mono fun _ q => .pure q)))))))))))
  | .frz _, env, P, h => by
    unfold wS at h
    unfold exS
    exact .pure h
  | .pop tg i a, env, P, h => by
    unfold wS at h
    unfold exS
    exact .bind ((lstB_ok h).mono fun xs h => .bind ((wO_ok a env _ h).mono fun o q => .bind (.ofO (q.mono fun p q => .bind (.ofO (q.mono fun _ q => .pure q))))))
  | .apop j i a, env, P, h => by
    unfold wS at h
    unfold exS
    refine .bind ((lstB_ok h).mono fun ys h => .bind ((lstB_ok h).mono fun xs h => .bind ((wO_ok a env _ h).mono fun o q => .bind (.ofO (q.mono fun p q => ?_)))))
    rw [if_pos q.1]
    exact .pure q.2
  | .iff c a b, env, P, h => by
    unfold wS at h
    unfold exS
    exact .bind ((wT_ok c env _ h).mono fun r q => .ite ⟨fun e => wSs_ok a env _ (q.1 e), fun e => wSs_ok b env _ (q.2 e)⟩)
  | .for tg it b, env, P, h => by
    unfold wS at h
    unfold exS
    refine .bind ((wI_ok it env _ h).mono fun ds q => fgo_tot (fun d e K h => ?_) q)
    exact .bind (.ofO (h.mono fun e' h => wSs_ok b e' _ h))
  | .whl c b, env, P, h => by
    unfold wS at h
    unfold exS
    obtain ⟨I, ⟨n, l, i⟩, h⟩ := h
    exact wgo_tot (fun e K h => wT_ok c e _ h) (fun e K h => wSs_ok b e _ h) h turns n env l i
  | .ret e, env, P, h => by
    unfold wS at h
    unfold exS
    exact .bind ((wE_ok e env _ h).mono fun _ q => .pure q)
  | .retN, env, P, h => by
    unfold wS at h
    unfold exS
    exact .pure h
  | .exp e, env, P, h => by
    unfold wS at h
    unfold exS
    exact .bind ((wE_ok e env _ h).mono fun _ q => .pure q)
  | .pas, env, P, h => by
    unfold wS at h
    unfold exS
    exact .pure h
  | .brk, env, P, h => by
    unfold wS at h
    unfold exS
    exact .pure h
  | .cnt, env, P, h => by
    unfold wS at h
    unfold exS
    exact .pure h
  | .rse _ _, env, P, h => by
    unfold wS at h
    exact h.elim
  | .bad, env, P, h => by
    unfold wS at h
    exact h.elim
theorem wSs_ok : ∀ (x : List S) (env : Env) (P : O → Prop), wSs T x env P → Tot (exs T x env) P
  | [], env, P, h => by
    unfold wSs at h
    unfold exs
    exact .pure h
  | s :: r, env, P, h => by
    unfold wSs at h
    unfold exs
    refine .bind ((wS_ok s env _ h).mono fun o q => ?_)
    cases o with
    | nx e => exact wSs_ok r e _ q
    | brk e => exact .pure q
    | cnt e => exact .pure q
    | ret d => exact .pure q
end
/-- a def's result -/
def RO (o : O) (P : D → Prop) : Prop := match o with
  | .nx _ => P .none
  | .ret d => P d
  | _ => False
theorem run_ok {f : Fn} {ds : List D} {P : D → Prop} (h : wSs T f.body (startE f.n ds) fun o => RO o P) : Tot (f.run T ds) P := by
  unfold Fn.run
  refine .bind ((wSs_ok _ _ _ h).mono fun o q => ?_)
  cases o with
  | nx e => exact .pure q
  | ret d => exact .pure q
  | brk e => exact q.elim
  | cnt e => exact q.elim
end
end PD
namespace PD
open PySem PySem.Spec PyProof.Rows L2
/-- the primitives of the deck stand first -/
structure Pr (T : List (List D → M Deck D)) : Prop where
  t0 : T[0]? = some (pMix id)
  t1 : T[1]? = some (pDrw id)
  t2 : T[2]? = some (pNe id)
  t3 : T[3]? = some (pSet id fun x _ => x)
  t4 : T[4]? = some (pPop id fun x _ => x)
  t5 : T[5]? = some (pApp id fun x _ => x)
  t6 : T[6]? = some pId
/-- _law_draw, the first kind -/
def drawA (A B C E F G I J L : Int) (N1 N2 Z : Int) : List PD.S := [
  .exp (.call 3 [(.var 0), (.op .add (.call 1 [(.var 0)]) (.cst (.int (1))))]),
  .asg (.nm 2) (.op .add (.call 0 [(.var 0)]) (.op .mul (.cst (.int A)) (.call 1 [(.var 0)]))),
  .iff (.call 2 [(.var 0)]) [
    .asg (.nm 3) (.call 4 [(.var 0)]),
    .iff (.cmp .ge (.var 3) (.op .pow (.cst (.int N1)) (.cst (.int N2)))) [
      .exp (.call 5 [(.call 6 [(.var 0)]), (.op .fdiv (.var 3) (.bi .max2 [(.cst (.int (2))), (.var 1)]))]),
      .ret (.op .mod (.bi .toInt [(.var 3)]) (.var 1))] [
],
    .asg (.nm 2) (.op .add (.var 2) (.op .mod (.bi .toInt [(.var 3)]) (.cst (.int B))))] [
],
  .asg (.nm 2) (.op .mod (.bi .toInt [(.op .add (.op .mul (.var 2) (.cst (.int C))) (.cst (.int E)))]) (.cst (.int F))),
  .asg (.nm 2) (.op .mod (.bi .toInt [(.op .add (.op .add (.op .mul (.var 2) (.var 2)) (.op .mul (.cst (.int G)) (.call 1 [(.var 0)]))) (.cst (.int I)))]) (.cst (.int J))),
  .asg (.nm 2) (.op .mod (.bi .toInt [(.op .mul (.var 2) (.cst (.int L)))]) (.cst (.int Z))),
  .ret (.op .mod (.bi .toInt [(.op .fdiv (.var 2) (.cst (.int (64))))]) (.var 1))]
section
variable {T : List (List D → M Deck D)}
theorem M.bind_ok {α β : Type} {m : M Deck α} {f : α → M Deck β} {s s' : Deck} {a : α} (e : m s = .ok a s') : M.bind m f s = f a s' := by
  unfold M.bind
  rw [e]
theorem m_bind {α β : Type} (m : M Deck α) (f : α → M Deck β) (s : Deck) : (m >>= f) s = match m s with
  | .ok a s' => f a s'
  | .exc c as s' => .exc c as s'
  | .bad => .bad := by
  show M.bind m f s = _
  unfold M.bind
  cases m s <;> rfl
theorem m_pure {α : Type} (a : α) (s : Deck) : (pure a : M Deck α) s = .ok a s := rfl
theorem small_of {i : Int} (h : -(2 ^ 64) < i ∧ i < 2 ^ 64) : small i = true := decide_eq_true h
theorem fdiv64 (i : Int) : binop .fdiv (.int i) (.int 64) = some (.int (i.fdiv 64)) := by
  simp [binop]
theorem mul_s {i j : Int} (h : small i = true ∨ small j = true) : binop .mul (.int i) (.int j) = some (.int (i * j)) := by
  unfold binop
  dsimp only
  rw [if_pos (by simpa using h)]
theorem mod_s {i j : Int} (h : j ≠ 0) : binop .mod (.int i) (.int j) = some (.int (i.fmod j)) := by
  unfold binop
  dsimp only
  rw [if_neg h]
theorem le9000 {j : Int} (h0 : 0 < j) (h : j ≤ 10 ^ 120) : j.natAbs < 2 ^ 9000 := by
  have e : (10 ^ 120 : Nat) < 2 ^ 9000 := by decide +kernel
  have : (j.natAbs : Int) = j := Int.natAbs_of_nonneg (Int.le_of_lt h0)
  have h2 : ((j.natAbs : Nat) : Int) ≤ ((10 ^ 120 : Nat) : Int) := by
    rw [this]
    exact h
  exact Nat.lt_of_le_of_lt (Int.ofNat_le.mp h2) e
theorem fdiv_p {i j : Int} (h : 0 < j) (h2 : j ≤ 10 ^ 120) : binop .fdiv (.int i) (.int j) = some (.int (i.fdiv j)) := by
  unfold binop
  dsimp only
  by_cases c : j ≠ 0 ∧ j.natAbs < 1073741824
  · rw [if_pos c]
  · rw [if_neg c, if_pos ⟨h, le9000 h h2⟩]
theorem bi_int (i : Int) : PD.bi .toInt [.int i] = some (.int i) := rfl
theorem bi_mx (i j : Int) : PD.bi .max2 [.int i, .int j] = some (.int (if j > i then j else i)) := rfl
theorem bi_mn (i j : Int) : PD.bi .min2 [.int i, .int j] = some (.int (if j < i then j else i)) := rfl
theorem add_i (i j : Int) : binop .add (.int i) (.int j) = some (.int (i + j)) := rfl
theorem sub_i (i j : Int) : binop .sub (.int i) (.int j) = some (.int (i - j)) := rfl
theorem tot_mix : Tot (pMix id [objD 0]) fun r => ∃ n, r = .int n := fun s j => ⟨_, s, rfl, j, _, rfl⟩
theorem tot_drw : Tot (pDrw id [objD 0]) fun r => ∃ n, r = .int n := fun s j => ⟨_, s, rfl, j, _, rfl⟩
theorem tot_set {n : Int} : Tot (pSet id (fun x _ => x) [objD 0, .int n]) fun r => r = .none := fun s j => ⟨_, { s with draws := n }, rfl, j, rfl⟩
theorem mod_lt {i j : Int} (h : 0 < j) : 0 ≤ i.fmod j ∧ i.fmod j < j := ⟨Int.fmod_nonneg_of_pos _ h, Int.fmod_lt_of_pos _ h⟩
abbrev env4 (many num : Int) : Env := [some (objD 0), some (.int many), some (.int num), none]
/-- the branch that takes a cell -/
theorem drawA_if {B N1 N2 p18 : Int} (hT : Pr T) (hB : B ≠ 0) (hN : binop .pow (.int N1) (.int N2) = some (.int p18)) {many num : Int} (h0 : 0 < many) (h1 : many ≤ 10 ^ 120) :
    Tot (exS T (.iff (.call 2 [(.var 0)]) [
    .asg (.nm 3) (.call 4 [(.var 0)]),
    .iff (.cmp .ge (.var 3) (.op .pow (.cst (.int N1)) (.cst (.int N2)))) [
      .exp (.call 5 [(.call 6 [(.var 0)]), (.op .fdiv (.var 3) (.bi .max2 [(.cst (.int (2))), (.var 1)]))]),
      .ret (.op .mod (.bi .toInt [(.var 3)]) (.var 1))] [
],
    .asg (.nm 2) (.op .add (.var 2) (.op .mod (.bi .toInt [(.var 3)]) (.cst (.int B))))] [
]) (env4 many num)) fun o => (∃ n, o = .ret (.int n) ∧ 0 ≤ n ∧ n < many) ∨ ∃ num' x, o = .nx [some (objD 0), some (.int many), some (.int num'), x] := by
  intro s j
  obtain ⟨cells, mx, dr⟩ := s
  rcases List.eq_nil_or_concat cells with rfl | ⟨xs, c, rfl⟩
  · refine ⟨.nx (env4 many num), ⟨[], mx, dr⟩, ?_, j, .inr ⟨_, _, rfl⟩⟩
    simp [-bind_pure_comp, exS, exs, tst, ev, evs, m_bind, m_pure, hT.t2, pNe, prim0, getV, isDk, truD, ofO]
  · have hx : 0 < (if many > 2 then many else 2) ∧ (if many > 2 then many else 2) ≤ 10 ^ 120 := by
      split
      · exact ⟨h0, h1⟩
      · exact ⟨by decide, by decide⟩
    have jx : xs.length + 1 ≤ 63 := by
      have := j
      unfold JD at this
      simpa using this
    have cl : xs.length < cap := by
      unfold cap
      omega
    by_cases hc : p18 ≤ c
    · refine ⟨.ret (.int (c.fmod many)), ⟨xs ++ [c.fdiv (if many > 2 then many else 2)], mx, dr⟩, ?_, by unfold JD; simpa using jx, .inl ⟨_, rfl, mod_lt h0⟩⟩
      simp [-bind_pure_comp, exS, exs, tst, ev, evs, m_bind, m_pure, hT.t2, hT.t4, hT.t5, hT.t6, pNe, pPop, pApp, pId, prim0, primN, getV, isDk, intOf, truD, ofO, bindT, hN, cmpop, hc, bi_int, bi_mx, fdiv_p hx.1 hx.2, mod_s (Int.ne_of_gt h0), cl]
    · refine ⟨.nx [some (objD 0), some (.int many), some (.int (num + c.fmod B)), some (.int c)], ⟨xs, mx, dr⟩, ?_, by unfold JD; exact Nat.le_of_succ_le jx, .inr ⟨_, _, rfl⟩⟩
      simp [-bind_pure_comp, exS, exs, tst, ev, evs, m_bind, m_pure, hT.t2, hT.t4, hT.t5, hT.t6, pNe, pPop, pApp, pId, prim0, primN, getV, isDk, intOf, truD, ofO, bindT, hN, cmpop, hc, bi_int, add_i, mod_s hB]
end
end PD
namespace PD
open PySem PySem.Spec PyProof.Rows L2
section
variable {T : List (List D → M Deck D)}
theorem exs_tot {s : PD.S} {r : List PD.S} {env : Env} {P : O → Prop} (h : Tot (exS T s env) fun o => OO o (fun e => Tot (exs T r e) P) P) : Tot (exs T (s :: r) env) P := by
  unfold exs
  refine .bind (h.mono fun o q => ?_)
  cases o with
  | nx e => exact q
  | brk e => exact .pure q
  | cnt e => exact .pure q
  | ret d => exact .pure q
theorem run_tot {f : Fn} {ds : List D} {P : D → Prop} (h : Tot (exs T f.body (startE f.n ds)) fun o => RO o P) : Tot (f.run T ds) P := by
  unfold Fn.run
  refine .bind (h.mono fun o q => ?_)
  cases o with
  | nx e => exact .pure q
  | ret d => exact .pure q
  | brk e => exact q.elim
  | cnt e => exact q.elim
theorem sm_mod {i j : Int} (h : 0 < j) (h2 : j ≤ 2 ^ 63) : small (i.fmod j) = true := by
  have := mod_lt (i := i) h
  exact small_of (by omega)
theorem cl_eq {f : Nat} {g : List D → M Deck D} (e : T[f]? = some g) (ds : List D) (P : D → Prop) : CL T f ds P = Tot (g ds) P := by
  unfold CL
  rw [e]
  rfl
theorem drawA_ok {A B C E F G I J L N1 N2 Z p18 : Int} (hT : Pr T) (hA : small A = true) (hB : B ≠ 0) (hC : small C = true) (hF : 0 < F) (hF2 : F ≤ 2 ^ 63) (hG : small G = true) (hJ : 0 < J) (hJ2 : J ≤ 2 ^ 63) (hZ : Z ≠ 0)
    (hN : binop .pow (.int N1) (.int N2) = some (.int p18)) {many : Int} (h0 : 0 < many) (h1 : many ≤ 10 ^ 120) {P : D → Prop} (k : ∀ n, 0 ≤ n → n < many → P (.int n)) : Tot ((⟨4, [], 0, drawA A B C E F G I J L N1 N2 Z⟩ : Fn).run T [objD 0, .int many]) P := by
  refine run_tot ?_
  show Tot (exs T (drawA A B C E F G I J L N1 N2 Z) [some (objD 0), some (.int many), none, none]) _
  unfold drawA
  refine exs_tot (wS_ok _ _ _ ?_)
  simp only [wS, wE, wEs, getV, List.getElem?_cons_zero, Option.bind_some, id_eq, OB]
  rw [cl_eq hT.t1]
  refine tot_drw.mono fun r ⟨n, hr⟩ => ?_
  subst hr
  rw [add_i]
  dsimp only
  rw [cl_eq hT.t3]
  refine tot_set.mono fun r hr => ?_
  refine exs_tot (wS_ok _ _ _ ?_)
  simp only [wS, wE, wEs, getV, List.getElem?_cons_zero, Option.bind_some, id_eq, OB]
  rw [cl_eq hT.t0]
  refine tot_mix.mono fun r ⟨mx, hr⟩ => ?_
  subst hr
  rw [cl_eq hT.t1]
  refine tot_drw.mono fun r ⟨dr, hr⟩ => ?_
  subst hr
  rw [mul_s (.inl hA)]
  dsimp only
  rw [add_i]
  simp only [bindT, List.set_cons_succ, List.set_cons_zero]
  refine exs_tot ((drawA_if (B := B) hT hB hN h0 h1).mono fun o h => ?_)
  rcases h with ⟨n, rfl, hn⟩ | ⟨num, x, rfl⟩
  · exact k n hn.1 hn.2
  refine exs_tot (wS_ok _ _ _ ?_)
  simp only [wS, wE, wEs, getV, List.getElem?_cons_zero, List.getElem?_cons_succ, Option.bind_some, id_eq, OB]
  rw [mul_s (.inr hC)]
  dsimp only
  rw [add_i]
  dsimp only
  rw [bi_int]
  dsimp only
  rw [mod_s (Int.ne_of_gt hF)]
  simp only [bindT, List.set_cons_succ, List.set_cons_zero]
  refine exs_tot (wS_ok _ _ _ ?_)
  simp only [wS, wE, wEs, getV, List.getElem?_cons_zero, List.getElem?_cons_succ, Option.bind_some, id_eq, OB]
  rw [mul_s (.inl (sm_mod hF hF2))]
  dsimp only
  rw [cl_eq hT.t1]
  refine tot_drw.mono fun r ⟨dr, hr⟩ => ?_
  subst hr
  rw [mul_s (.inl hG)]
  dsimp only
  rw [add_i]
  dsimp only
  rw [add_i]
  dsimp only
  rw [bi_int]
  dsimp only
  rw [mod_s (Int.ne_of_gt hJ)]
  simp only [bindT, List.set_cons_succ, List.set_cons_zero]
  refine exs_tot (wS_ok _ _ _ ?_)
  simp only [wS, wE, wEs, getV, List.getElem?_cons_zero, List.getElem?_cons_succ, Option.bind_some, id_eq, OB]
  rw [mul_s (.inl (sm_mod hJ hJ2))]
  dsimp only
  rw [bi_int]
  dsimp only
  rw [mod_s hZ]
  simp only [bindT, List.set_cons_succ, List.set_cons_zero]
  refine exs_tot (wS_ok _ _ _ ?_)
  simp only [wS, wE, wEs, getV, List.getElem?_cons_zero, List.getElem?_cons_succ, Option.bind_some, id_eq, OB]
  rw [fdiv64]
  dsimp only
  rw [bi_int]
  dsimp only
  rw [mod_s (Int.ne_of_gt h0)]
  exact k _ (mod_lt h0).1 (mod_lt h0).2
end
end PD
namespace PD
open PySem PySem.Spec PyProof.Rows L2
abbrev Pl := Int × Int
abbrev Tc := Pl × Pl
def plD (p : Pl) : D := .tuple [.int p.1, .int p.2]
def tcD (t : Tc) : D := .tuple [plD t.1, plD t.2]
def inD' (i : Int) : D := .int i
def rsD (rs : List Int) : D := .tuple (rs.map .int)
def flD (rs : List Int) (ts : List Tc) : D := .tuple [rsD rs, .tuple (ts.map tcD)]
def plLt (p q : Pl) : Prop := p.1 < q.1 ∨ (p.1 = q.1 ∧ p.2 < q.2)
instance (p q : Pl) : Decidable (plLt p q) := by unfold plLt; infer_instance
def tcLt (a b : Tc) : Prop := plLt a.1 b.1 ∨ (a.1 = b.1 ∧ plLt a.2 b.2)
instance (a b : Tc) : Decidable (tcLt a b) := by unfold tcLt; infer_instance

section
variable {α : Type}
theorem plainAll_map {f : α → D} : ∀ {l : List α}, (∀ x ∈ l, (f x).plain = true) → PyData.plainAll (l.map f) = true
  | [], _ => rfl
  | x :: l, h => by
    rw [List.map_cons]
    unfold PyData.plainAll
    rw [h x (by simp), plainAll_map fun y hy => h y (by simp [hy])]
    rfl
theorem depthAll_map {f : α → D} {k : Nat} : ∀ {l : List α}, (∀ x ∈ l, (f x).depth ≤ k) → PyData.depthAll (l.map f) ≤ k
  | [], _ => Nat.zero_le _
  | x :: l, h => by
    rw [List.map_cons]
    unfold PyData.depthAll
    exact Nat.max_le.mpr ⟨h x (by simp), depthAll_map fun y hy => h y (by simp [hy])⟩
theorem eqvAll_map {f : α → D} (inj : ∀ x y, PyData.eqv (f x) (f y) = true → x = y) : ∀ {l m : List α}, PyData.eqvAll (l.map f) (m.map f) = true → l = m
  | [], [], _ => rfl
  | [], y :: m, h => by
    rw [List.map_nil, List.map_cons] at h
    unfold PyData.eqvAll at h
    cases h
  | x :: l, [], h => by
    rw [List.map_nil, List.map_cons] at h
    unfold PyData.eqvAll at h
    cases h
  | x :: l, y :: m, h => by
    rw [List.map_cons, List.map_cons] at h
    unfold PyData.eqvAll at h
    have h' := Bool.and_eq_true_iff.mp h
    rw [inj x y h'.1, eqvAll_map inj h'.2]
end
theorem plD_eqv (p q : Pl) : PyData.eqv (plD p) (plD q) = decide (p = q) := by
  obtain ⟨a, b⟩ := p
  obtain ⟨c, d⟩ := q
  unfold plD
  by_cases h1 : a = c <;> by_cases h2 : b = d <;> simp [PyData.eqv, PyData.eqvAll, h1, h2]
theorem plD_plain (p : Pl) : (plD p).plain = true := rfl
theorem plD_depth (p : Pl) : (plD p).depth = 1 := rfl
theorem tcD_plain (t : Tc) : (tcD t).plain = true := rfl
theorem tcD_depth (t : Tc) : (tcD t).depth = 2 := rfl
theorem plD_inj {p q : Pl} (h : plD p = plD q) : p = q := by
  obtain ⟨a, b⟩ := p
  obtain ⟨c, d⟩ := q
  simp [plD] at h
  simp [h]
theorem plD_key (p : Pl) : keyT (plD p) = some [.inl p.1, .inl p.2] := rfl
theorem plD_alike (p q : Pl) : PySem.W.alike (plD p) (plD q) = true := by
  simp [plD, PySem.W.alike, PySem.W.alikeAll]
theorem tcD_alike (p q : Tc) : PySem.W.alike (tcD p) (tcD q) = true := by
  simp [tcD, PySem.W.alike, PySem.W.alikeAll, plD_alike]
theorem plD_lt (p q : Pl) : PySem.W.dataLt (plD p) (plD q) = decide (plLt p q) := PySem.W.dataLt_ii _ _ _ _
theorem tcD_lt (a b : Tc) : PySem.W.dataLt (tcD a) (tcD b) = decide (tcLt a b) := by
  unfold tcD
  rw [PySem.W.dataLt_pair (plD_alike _ _) (plD_alike _ _), plD_eqv, plD_eqv, plD_lt, plD_lt]
  unfold tcLt
  by_cases h1 : a.1 = b.1 <;> by_cases h2 : a.2 = b.2 <;> simp [h1, h2]
  · have : ¬ plLt b.1 b.1 := by unfold plLt; omega
    have h3 : ¬ plLt b.2 b.2 := by unfold plLt; omega
    simp [this, h3]
  · have : ¬ plLt b.1 b.1 := by unfold plLt; omega
    simp [this]
theorem plLt_or (p q : Pl) : plLt p q ∨ p = q ∨ plLt q p := by
  obtain ⟨a, b⟩ := p
  obtain ⟨c, d⟩ := q
  unfold plLt
  simp only [Prod.mk.injEq]
  omega
theorem plLt_irr (p : Pl) : ¬ plLt p p := by unfold plLt; omega
theorem plLt_tr {p q r : Pl} (h : plLt p q) (k : plLt q r) : plLt p r := by
  unfold plLt at *
  omega
theorem plLt_as {p q : Pl} (h : plLt p q) : ¬ plLt q p := fun k => plLt_irr _ (plLt_tr h k)
theorem tcLt_irr (p : Tc) : ¬ tcLt p p := by
  unfold tcLt
  have := plLt_irr p.1
  have := plLt_irr p.2
  simp [*]
theorem tcLt_tr {p q r : Tc} (h : tcLt p q) (k : tcLt q r) : tcLt p r := by
  unfold tcLt at *
  rcases h with h | ⟨h, h'⟩ <;> rcases k with k | ⟨k, k'⟩
  · exact .inl (plLt_tr h k)
  · exact .inl (k ▸ h)
  · exact .inl (h ▸ k)
  · exact .inr ⟨h.trans k, plLt_tr h' k'⟩
theorem tcLt_or (p q : Tc) : tcLt p q ∨ p = q ∨ tcLt q p := by
  unfold tcLt
  rcases plLt_or p.1 q.1 with h | h | h
  · exact .inl (.inl h)
  · rcases plLt_or p.2 q.2 with k | k | k
    · exact .inl (.inr ⟨h, k⟩)
    · exact .inr (.inl (Prod.ext h k))
    · exact .inr (.inr (.inr ⟨h.symm, k⟩))
  · exact .inr (.inr (.inl h))
def plLe (p q : Pl) : Bool := !decide (plLt q p)
def tcLe (p q : Tc) : Bool := !decide (tcLt q p)
theorem plD_le (p q : Pl) : PySem.W.dataLe false (fun d : D => d) (plD p) (plD q) = plLe p q := by
  show (!PySem.W.dataLt (plD q) (plD p)) = _
  rw [plD_lt]
  rfl
theorem tcD_le (p q : Tc) : PySem.W.dataLe false (fun d : D => d) (tcD p) (tcD q) = tcLe p q := by
  show (!PySem.W.dataLt (tcD q) (tcD p)) = _
  rw [tcD_lt]
  rfl
theorem plLe_tr (a b c : Pl) (h : plLe a b = true) (k : plLe b c = true) : plLe a c = true := by
  simp only [plLe, Bool.not_eq_true', decide_eq_false_iff_not] at *
  intro z
  rcases plLt_or a b with q | rfl | q
  · exact k (plLt_tr z q)
  · exact k z
  · exact h q
theorem plLe_to (a b : Pl) : (plLe a b || plLe b a) = true := by
  simp only [plLe, Bool.or_eq_true, Bool.not_eq_true', decide_eq_false_iff_not]
  by_cases h : plLt b a
  · exact .inr (plLt_as h)
  · exact .inl h
theorem tcLe_tr (a b c : Tc) (h : tcLe a b = true) (k : tcLe b c = true) : tcLe a c = true := by
  simp only [tcLe, Bool.not_eq_true', decide_eq_false_iff_not] at *
  intro z
  rcases tcLt_or a b with q | rfl | q
  · exact k (tcLt_tr z q)
  · exact k z
  · exact h q
theorem tcLe_to (a b : Tc) : (tcLe a b || tcLe b a) = true := by
  simp only [tcLe, Bool.or_eq_true, Bool.not_eq_true', decide_eq_false_iff_not]
  by_cases h : tcLt b a
  · exact .inr fun k => tcLt_irr _ (tcLt_tr h k)
  · exact .inl h
theorem sorted_map {α : Type} {f : α → D} {le : α → α → Bool} (hle : ∀ a b, PySem.W.dataLe false (fun d : D => d) (f a) (f b) = le a b) (hp : ∀ a, (f a).plain = true) (ha : ∀ a b, PySem.W.alike (f a) (f b) = true) {k : Nat} (hd : ∀ a, (f a).depth ≤ k) (hk : k ≤ 60)
    (hs : ∀ a, ∃ x xs, f a = .tuple (x :: xs)) {l : List α} (hl : l.length ≤ cap) : sorted? (l.map f) = some ((l.mergeSort le).map f) := by
  unfold sorted?
  rw [if_pos]
  · unfold sortD
    rw [List.map_mergeSort (fun a _ b _ => (hle a b).symm)]
  · simp only [Bool.and_eq_true, decide_eq_true_eq]
    refine ⟨⟨⟨⟨plainAll_map fun x _ => hp x, ?_⟩, ?_⟩, by simpa using hl⟩, Nat.le_trans (depthAll_map fun x _ => hd x) hk⟩
    · unfold allAlikeB
      simp [ha]
    · unfold sortableB
      rw [Bool.or_eq_true]
      left
      rw [List.all_eq_true]
      intro d hd
      obtain ⟨a, _, rfl⟩ := List.mem_map.mp hd
      obtain ⟨x, xs, e⟩ := hs a
      rw [e]
theorem sorted_pl {l : List Pl} (hl : l.length ≤ cap) : sorted? (l.map plD) = some ((l.mergeSort plLe).map plD) := sorted_map plD_le plD_plain plD_alike (k := 1) (fun a => by rw [plD_depth]; omega) (by decide) (fun a => ⟨_, _, rfl⟩) hl
theorem sorted_tc {l : List Tc} (hl : l.length ≤ cap) : sorted? (l.map tcD) = some ((l.mergeSort tcLe).map tcD) := sorted_map tcD_le tcD_plain tcD_alike (k := 2) (fun a => by rw [tcD_depth]; omega) (by decide) (fun a => ⟨_, _, rfl⟩) hl
end PD
namespace PD
open PySem PySem.Spec PyProof.Rows L2
/-- it may be shown: at most so many signs, so deep -/
structure Sh (k b : Nat) (d : D) : Prop where
  pl : d.plain = true
  sh : d.showable = true
  dp : d.depth ≤ k
  ln : d.shown.length ≤ b
theorem Sh.mono {k k' b b' : Nat} {d : D} (h : Sh k b d) (h1 : k ≤ k') (h2 : b ≤ b') : Sh k' b' d := ⟨h.pl, h.sh, Nat.le_trans h.dp h1, Nat.le_trans h.ln h2⟩
theorem Sh.bool {k : Nat} (x : Bool) : Sh k 5 (.bool x) := ⟨rfl, rfl, Nat.zero_le _, by cases x <;> decide⟩
theorem Sh.none {k : Nat} : Sh k 5 .none := ⟨rfl, rfl, Nat.zero_le _, by decide⟩
theorem Sh.int {k : Nat} {i : Int} (h : i.natAbs < 10 ^ 200) : Sh k 201 (.int i) := by
  have l : i.natAbs.log2 < 1920 := by
    refine Nat.lt_of_le_of_lt ?_ (show 700 < 1920 by decide)
    by_cases z : i.natAbs = 0
    · rw [z]
      decide
    · exact Nat.le_of_lt ((Nat.log2_lt z).mpr (Nat.lt_trans h (by decide +kernel)))
  refine ⟨rfl, decide_eq_true l, Nat.zero_le _, ?_⟩
  rw [PyData.shown_int]
  have e := int_text_length_le10 (a := i) (k := 200) (by decide) h
  show (Str.ofString (toString i)).length ≤ 201
  rw [PySem.ofString_length]
  exact e
theorem Sh.all {k b : Nat} : ∀ {ds : List D}, (∀ d ∈ ds, Sh k b d) → PyData.plainAll ds = true ∧ PyData.showableAll ds = true ∧ PyData.depthAll ds ≤ k ∧ ((PyData.shownAll ds).map (·.length)).sum ≤ ds.length * b
  | [], _ => ⟨rfl, rfl, Nat.zero_le _, by simp [PyData.shownAll]⟩
  | d :: ds, h => by
    obtain ⟨h1, h2, h3, h4⟩ := Sh.all fun x hx => h x (List.mem_cons_of_mem _ hx)
    have q := h d List.mem_cons_self
    refine ⟨?_, ?_, ?_, ?_⟩
    · unfold PyData.plainAll
      rw [q.pl, h1]
      rfl
    · unfold PyData.showableAll
      rw [q.sh, h2]
      rfl
    · unfold PyData.depthAll
      exact Nat.max_le.mpr ⟨q.dp, h3⟩
    · rw [PyData.shownAll_cons, List.map_cons, List.sum_cons, List.length_cons, Nat.succ_mul]
      have := q.ln
      omega
theorem Sh.tup {k b : Nat} {ds : List D} (h : ∀ d ∈ ds, Sh k b d) : Sh (k + 1) (ds.length * (b + 2) + 3) (.tuple ds) := by
  obtain ⟨h1, h2, h3, h4⟩ := Sh.all h
  refine ⟨by unfold PyData.plain; exact h1, by unfold PyData.showable; exact h2, by unfold PyData.depth; omega, ?_⟩
  unfold PyData.shown
  have e := tupleText_len_le (PyData.shownAll ds)
  rw [PyData.shownAll_length] at e
  rw [Nat.mul_add]
  omega
theorem Sh.lst {k b : Nat} {ds : List D} (h : ∀ d ∈ ds, Sh k b d) : Sh (k + 1) (ds.length * (b + 2) + 3) (.list ds) := by
  obtain ⟨h1, h2, h3, h4⟩ := Sh.all h
  refine ⟨by unfold PyData.plain; exact h1, by unfold PyData.showable; exact h2, by unfold PyData.depth; omega, ?_⟩
  unfold PyData.shown
  have e := listText_len_le (PyData.shownAll ds)
  rw [PyData.shownAll_length] at e
  rw [Nat.mul_add]
  omega
theorem repr_ok {k b : Nat} {d : D} (h : Sh k b d) (hk : k ≤ 60) (hb : b ≤ cap) : bi .repr [d] = some (.str d.shown) := by
  show (if d.plain && d.showable && decide (d.depth ≤ 60) && decide (d.shown.length ≤ cap) then some (PyData.str d.shown) else none) = _
  rw [if_pos]
  rw [h.pl, h.sh, decide_eq_true (Nat.le_trans h.dp hk), decide_eq_true (Nat.le_trans h.ln hb)]
  rfl
theorem str_ne (x : Str) : cmpop .ne (.str x) (.str x) = some false := by
  have e : PyData.eqv (.str x) (.str x) = true := PySem.SeqAt.eqv_refl_plain _ rfl
  show (if eqable (.str x) && eqable (.str x) then some (!PyData.eqv (.str x) (.str x)) else none) = _
  rw [e]
  rfl
theorem str_eq (x : Str) : cmpop .eq (.str x) (.str x) = some true := by
  have e : PyData.eqv (.str x) (.str x) = true := PySem.SeqAt.eqv_refl_plain _ rfl
  show (if eqable (.str x) && eqable (.str x) then some (PyData.eqv (.str x) (.str x)) else none) = _
  rw [e]
  rfl
theorem same_eq {d : D} (h : d.plain = true) (h2 : d.depth ≤ 60) : cmpop .eq d d = some true := by
  have q : eqable d = true := by
    unfold eqable
    rw [h, decide_eq_true h2]
    rfl
  have e : PyData.eqv d d = true := PySem.SeqAt.eqv_refl_plain _ h
  show (if eqable d && eqable d then some (PyData.eqv d d) else none) = _
  rw [q, e]
  rfl
theorem same_ne {d : D} (h : d.plain = true) (h2 : d.depth ≤ 60) : cmpop .ne d d = some false := by
  have q : eqable d = true := by
    unfold eqable
    rw [h, decide_eq_true h2]
    rfl
  have e : PyData.eqv d d = true := PySem.SeqAt.eqv_refl_plain _ h
  show (if eqable d && eqable d then some (!PyData.eqv d d) else none) = _
  rw [q, e]
  rfl
theorem firsts_nodup {α : Type} [DecidableEq α] {f : α → D} (he : ∀ a b, PyData.eqv (f a) (f b) = decide (a = b)) : ∀ {l : List α}, l.Nodup → firsts (l.map f) = l.map f
  | [], _ => rfl
  | x :: l, h => by
    rw [List.map_cons]
    unfold firsts
    rw [firsts_nodup he (List.nodup_cons.mp h).2]
    congr 1
    rw [List.filter_eq_self]
    intro y hy
    obtain ⟨z, hz, rfl⟩ := List.mem_map.mp hy
    rw [he]
    have : z ≠ x := fun e => (List.nodup_cons.mp h).1 (e ▸ hz)
    simp [this]
theorem set_pl {l : List Pl} (hn : l.Nodup) (hl : l.length < 64) : set? (l.map plD) = some (l.map plD) := by
  unfold set?
  rw [if_pos, firsts_nodup plD_eqv hn]
  rw [Bool.and_eq_true, decide_eq_true_eq]
  refine ⟨?_, by simpa using hl⟩
  rw [List.all_eq_true]
  intro d hd
  obtain ⟨p, _, rfl⟩ := List.mem_map.mp hd
  rfl
theorem lenSet_pl {l : List Pl} (hn : l.Nodup) (hl : l.length < 64) : bi .lenSet [.list (l.map plD)] = some (.int l.length) := by
  show (set? (l.map plD)).map (fun ys => PyData.int ys.length) = _
  rw [set_pl hn hl]
  simp
theorem sorted_bi {d : D} {ds es : List D} (h : seqOf d = some ds) (h2 : sorted? ds = some es) : bi .sorted [d] = some (.list es) := by
  show ((seqOf d).bind sorted?).map PyData.list = _
  rw [h]
  show (sorted? ds).map PyData.list = _
  rw [h2]
  rfl
abbrev DM := List (Pl × Pl)
def dmD (m : DM) : List (D × D) := m.map fun p => (plD p.1, plD p.2)
theorem dm_fits (m : DM) (p : Pl) : fits (dmD m) (plD p) = true := by
  cases m with
  | nil => rfl
  | cons x m => rfl
theorem dm_find (m : DM) (p : Pl) : find? (dmD m) (plD p) = (m.lookup p).map plD := by
  unfold PD.find? dmD
  induction m with
  | nil => rfl
  | cons x m ih =>
    obtain ⟨a, b⟩ := x
    rw [List.map_cons, List.find?_cons, List.lookup_cons]
    rw [plD_eqv]
    by_cases h : a = p
    · subst h
      simp
    · have h' : (p == a) = false := by simpa using fun e => h e.symm
      simp only [h, decide_false, h']
      exact ih
theorem dm_keyed (m : DM) (p : Pl) : keyed (dmD m) (plD p) = decide (p ∈ m.map (·.1)) := by
  unfold keyed dmD
  rw [List.any_map]
  induction m with
  | nil => rfl
  | cons x m ih =>
    rw [List.any_cons, ih]
    simp only [Function.comp, plD_eqv, List.map_cons, List.mem_cons]
    by_cases h : x.1 = p <;> by_cases h2 : p ∈ m.map (·.1) <;> simp [h, h2]
    exact fun e => h e.symm
theorem dm_put {m : DM} {p q : Pl} (h : p ∉ m.map (·.1)) : putD (dmD m) (plD p) (plD q) = dmD (m ++ [(p, q)]) := by
  unfold putD
  rw [dm_keyed, decide_eq_false h]
  unfold dmD
  simp
end PD
namespace PD
open PySem PySem.Spec PyProof.Rows L2
def spF : Nat → List Int → List Pl
  | _, [] => []
  | k, l :: r => ((List.range l.toNat).map fun (i : Nat) => ((k : Int), (i : Int))) ++ spF (k + 1) r
abbrev spots (rs : List Int) : List Pl := spF 0 rs
structure Rs (rs : List Int) : Prop where
  ne : rs ≠ []
  le : rs.length ≤ 40
  ps : ∀ r ∈ rs, 1 ≤ r
def InP (rs : List Int) (p : Pl) : Prop := ∃ (u i : Nat) (l : Int), p = ((u : Int), (i : Int)) ∧ rs[u]? = some l ∧ (i : Int) < l
theorem spF_mem {p : Pl} : ∀ {rs : List Int} {k : Nat}, p ∈ spF k rs ↔ ∃ (u i : Nat) (l : Int), p = (((k + u : Nat) : Int), (i : Int)) ∧ rs[u]? = some l ∧ (i : Int) < l
  | [], k => by
    unfold spF
    constructor
    · intro h
      cases h
    · rintro ⟨u, i, l, _, h, _⟩
      simp at h
  | x :: r, k => by
    unfold spF
    rw [List.mem_append, List.mem_map, spF_mem (rs := r) (k := k + 1)]
    constructor
    · rintro (⟨i, hi, rfl⟩ | ⟨u, i, l, rfl, h1, h2⟩)
      · exact ⟨0, i, x, rfl, rfl, by have := List.mem_range.mp hi; omega⟩
      · exact ⟨u + 1, i, l, by rw [show k + 1 + u = k + (u + 1) by omega], by simpa using h1, h2⟩
    · rintro ⟨u, i, l, rfl, h1, h2⟩
      cases u with
      | zero =>
        simp at h1
        subst h1
        exact .inl ⟨i, List.mem_range.mpr (by omega), rfl⟩
      | succ u => exact .inr ⟨u, i, l, by rw [show k + 1 + u = k + (u + 1) by omega], by simpa using h1, h2⟩
theorem spots_mem {rs : List Int} {p : Pl} : p ∈ spots rs ↔ InP rs p := by
  rw [spF_mem]
  unfold InP
  simp
theorem spF_sorted : ∀ (rs : List Int) (k : Nat), (spF k rs).Pairwise plLt
  | [], k => .nil
  | x :: r, k => by
    unfold spF
    rw [List.pairwise_append]
    refine ⟨?_, spF_sorted r (k + 1), ?_⟩
    · rw [List.pairwise_map]
      refine List.Pairwise.imp ?_ (List.pairwise_lt_range (n := x.toNat))
      intro a b h
      exact .inr ⟨rfl, by show (a : Int) < b; omega⟩
    · intro a ha b hb
      obtain ⟨i, _, rfl⟩ := List.mem_map.mp ha
      obtain ⟨u, j, l, rfl, _, _⟩ := spF_mem.mp hb
      exact .inl (by show (k : Int) < ((k + 1 + u : Nat) : Int); omega)
theorem spots_nodup (rs : List Int) : (spots rs).Nodup := by
  refine List.Pairwise.imp ?_ (spF_sorted rs 0)
  intro a b h e
  subst e
  exact plLt_irr _ h
theorem spF_get {p : Pl} : ∀ {rs : List Int} {k n : Nat}, (∀ r ∈ rs, 1 ≤ r) → (spF k rs)[n]? = some p → ∃ (u i : Nat) (l : Int), p = (((k + u : Nat) : Int), (i : Int)) ∧ rs[u]? = some l ∧ (i : Int) < l ∧ (n : Int) = (rs.take u).sum + i
  | [], k, n, _, h => by
    unfold spF at h
    simp at h
  | x :: r, k, n, hp, h => by
    unfold spF at h
    have h1 := hp x List.mem_cons_self
    by_cases c : n < x.toNat
    · rw [List.getElem?_append_left (by simpa using c), List.getElem?_map, List.getElem?_range c] at h
      simp at h
      subst h
      exact ⟨0, n, x, rfl, rfl, by omega, by simp⟩
    · rw [List.getElem?_append_right (by simpa using c), List.length_map, List.length_range] at h
      obtain ⟨u, i, l, rfl, q1, q2, q3⟩ := spF_get (fun r hr => hp r (List.mem_cons_of_mem _ hr)) h
      refine ⟨u + 1, i, l, by rw [show k + 1 + u = k + (u + 1) by omega], by simpa using q1, q2, ?_⟩
      rw [List.take_succ_cons, List.sum_cons]
      omega
theorem spF_len : ∀ {rs : List Int} {k : Nat}, (∀ r ∈ rs, 1 ≤ r) → ((spF k rs).length : Int) = rs.sum
  | [], k, _ => rfl
  | x :: r, k, hp => by
    have h1 := hp x List.mem_cons_self
    have ih := spF_len (rs := r) (k := k + 1) fun r hr => hp r (List.mem_cons_of_mem _ hr)
    unfold spF
    rw [List.length_append, List.length_map, List.length_range, List.sum_cons]
    omega
def ends (ts : List Tc) : List Pl := ts.flatMap fun t => [t.1, t.2]
def dm (ts : List Tc) : DM := ts.flatMap fun t => [(t.1, t.2), (t.2, t.1)]
theorem dm_keys : ∀ ts : List Tc, (dm ts).map (·.1) = ends ts
  | [] => rfl
  | t :: ts => by
    unfold dm ends
    rw [List.flatMap_cons, List.flatMap_cons, List.map_append]
    have := dm_keys ts
    unfold dm ends at this
    rw [this]
    rfl
structure Fl (rs : List Int) (ts : List Tc) : Prop where
  rg : Rs rs
  inn : ∀ t ∈ ts, InP rs t.1 ∧ InP rs t.2
  lt : ∀ t ∈ ts, plLt t.1 t.2
  so : ts.mergeSort tcLe = ts
  nd : (ends ts).Nodup
  few : ts.length ≤ 31
theorem ends_len (ts : List Tc) : (ends ts).length = 2 * ts.length := by
  unfold ends
  induction ts with
  | nil => rfl
  | cons t ts ih =>
    rw [List.flatMap_cons, List.length_append, ih, List.length_cons]
    simp only [List.length_cons, List.length_nil]
    omega
theorem dm_mem {m : DM} (hn : (m.map (·.1)).Nodup) {p q : Pl} : m.lookup p = some q ↔ (p, q) ∈ m := by
  induction m with
  | nil => simp
  | cons x m ih =>
    obtain ⟨a, b⟩ := x
    rw [List.map_cons, List.nodup_cons] at hn
    rw [List.lookup_cons]
    by_cases h : p = a
    · subst h
      simp only [beq_self_eq_true, List.mem_cons, Prod.mk.injEq, true_and]
      constructor
      · intro e
        exact .inl (Option.some.inj e).symm
      · rintro (e | e)
        · rw [e]
        · exact absurd (List.mem_map.mpr ⟨_, e, rfl⟩) hn.1
    · have h' : (p == a) = false := by simpa using h
      simp only [h']
      rw [ih hn.2, List.mem_cons]
      simp [h]
theorem dm_sym {ts : List Tc} {p q : Pl} (h : (p, q) ∈ dm ts) : (q, p) ∈ dm ts := by
  unfold dm at *
  rw [List.mem_flatMap] at *
  obtain ⟨t, ht, h⟩ := h
  refine ⟨t, ht, ?_⟩
  simp at h ⊢
  rcases h with ⟨rfl, rfl⟩ | ⟨rfl, rfl⟩
  · exact .inr ⟨rfl, rfl⟩
  · exact .inl ⟨rfl, rfl⟩
theorem partner_sym {ts : List Tc} (hn : (ends ts).Nodup) {p q : Pl} (h : (dm ts).lookup p = some q) : (dm ts).lookup q = some p := by
  have hn' : ((dm ts).map (·.1)).Nodup := by
    rw [dm_keys]
    exact hn
  exact (dm_mem hn').mpr (dm_sym ((dm_mem hn').mp h))
theorem lookup_some {ts : List Tc} {p : Pl} : ((dm ts).lookup p).isSome = true ↔ p ∈ ends ts := by
  rw [← dm_keys]
  generalize dm ts = m
  induction m with
  | nil => simp
  | cons x m ih =>
    obtain ⟨a, b⟩ := x
    rw [List.lookup_cons, List.map_cons, List.mem_cons]
    by_cases h : p = a
    · subst h
      simp
    · have h' : (p == a) = false := by simpa using h
      simp only [h']
      rw [ih]
      simp [h]
/-- lists that ascend strictly and have the same members -/
theorem asc_eq {α : Type} {lt : α → α → Prop} (irr : ∀ a, ¬ lt a a) (tr : ∀ a b c, lt a b → lt b c → lt a c) : ∀ {l m : List α}, l.Pairwise lt → m.Pairwise lt → (∀ a, a ∈ l ↔ a ∈ m) → l = m
  | [], [], _, _, _ => rfl
  | [], y :: m, _, _, h => absurd ((h y).mpr List.mem_cons_self) (by simp)
  | x :: l, [], _, _, h => absurd ((h x).mp List.mem_cons_self) (by simp)
  | x :: l, y :: m, hl, hm, h => by
    have a1 := List.pairwise_cons.mp hl
    have a2 := List.pairwise_cons.mp hm
    have e : x = y := by
      rcases List.mem_cons.mp ((h x).mp List.mem_cons_self) with e | e
      · exact e
      · rcases List.mem_cons.mp ((h y).mpr List.mem_cons_self) with e2 | e2
        · exact e2.symm
        · exact absurd (tr _ _ _ (a1.1 y e2) (a2.1 x e)) (irr x)
    subst e
    rw [asc_eq irr tr a1.2 a2.2 fun a => ?_]
    constructor
    · intro ha
      rcases List.mem_cons.mp ((h a).mp (List.mem_cons_of_mem _ ha)) with e | e
      · subst e
        exact absurd (a1.1 _ ha) (irr _)
      · exact e
    · intro ha
      rcases List.mem_cons.mp ((h a).mpr (List.mem_cons_of_mem _ ha)) with e | e
      · subst e
        exact absurd (a2.1 _ ha) (irr _)
      · exact e
theorem sort_asc {l : List Pl} (hn : l.Nodup) : (l.mergeSort plLe).Pairwise plLt := by
  have h1 := List.pairwise_mergeSort (le := plLe) plLe_tr plLe_to l
  have h2 : (l.mergeSort plLe).Nodup := (List.mergeSort_perm l plLe).nodup_iff.mpr hn
  refine (List.pairwise_and_iff.mpr ⟨h1, h2⟩).imp fun {a b} h => ?_
  simp only [plLe, Bool.not_eq_true', decide_eq_false_iff_not] at h
  rcases plLt_or a b with q | q | q
  · exact q
  · exact absurd q h.2
  · exact absurd q h.1
theorem filter_sort {rs : List Int} {ts : List Tc} (f : Fl rs ts) : (spots rs).filter (fun p => ((dm ts).lookup p).isSome) = (ends ts).mergeSort plLe := by
  refine asc_eq plLt_irr (fun _ _ _ => plLt_tr) ((spF_sorted rs 0).filter _) (sort_asc f.nd) fun p => ?_
  rw [List.mem_filter, lookup_some, (List.mergeSort_perm (ends ts) plLe).mem_iff]
  constructor
  · exact fun h => h.2
  · intro h
    refine ⟨spots_mem.mpr ?_, h⟩
    obtain ⟨t, ht, h⟩ := List.mem_flatMap.mp h
    have := f.inn t ht
    simp at h
    rcases h with rfl | rfl
    · exact this.1
    · exact this.2
theorem CI_flat {step : D → List D → (List D → Prop) → Prop} {g : D → List D} {ds acc : List D} {P : List D → Prop} (h : ∀ d ∈ ds, ∀ a K, a.length + (g d).length ≤ acc.length + (ds.flatMap g).length → K (a ++ g d) → step d a K) (k : P (acc ++ ds.flatMap g)) : CI step ds acc P := by
  refine ⟨fun r a => ∃ pre, ds = pre ++ r ∧ a = acc ++ pre.flatMap g, ⟨[], rfl, by simp⟩, ?_, ?_⟩
  · rintro d r a ⟨pre, e, rfl⟩
    refine h d (by rw [e]; simp) _ _ ?_ ⟨pre ++ [d], by rw [e]; simp, by simp⟩
    rw [e]
    simp
    omega
  · rintro a ⟨pre, e, rfl⟩
    rw [List.append_nil] at e
    rw [← e]
    exact k
theorem CI_map {step : D → List D → (List D → Prop) → Prop} {f : D → D} {ds acc : List D} {P : List D → Prop} (h : ∀ d ∈ ds, ∀ a K, a.length < acc.length + ds.length → K (a ++ [f d]) → step d a K) (k : P (acc ++ ds.map f)) : CI step ds acc P := by
  have e : ds.flatMap (fun d => [f d]) = ds.map f := by
    clear h k
    induction ds with
    | nil => rfl
    | cons x xs ih =>
      rw [List.flatMap_cons, ih]
      rfl
  refine CI_flat (g := fun d => [f d]) (fun d hd a K l q => h d hd a K ?_ q) (by rw [e]; exact k)
  rw [e] at l
  simp at l
  omega
def enumK (k : Nat) (xs : List D) : List D := (xs.zipIdx k).map fun p => .tuple [.int (p.2 : Nat), p.1]
theorem enum_eq (xs : List D) : enumD xs = enumK 0 xs := rfl
theorem enumK_cons (k : Nat) (x : D) (xs : List D) : enumK k (x :: xs) = .tuple [.int (k : Nat), x] :: enumK (k + 1) xs := by
  unfold enumK
  rw [List.zipIdx_cons]
  rfl
end PD
namespace PD
open PySem PySem.Spec PyProof.Rows L2
theorem OB_some {α : Type} (a : α) (P : α → Prop) : OB (some a) P = P a := rfl
theorem BB_true (P Q : Prop) : BB true P Q = P := propext ⟨fun h => h.1 rfl, fun h => ⟨fun _ => h, fun e => nomatch e⟩⟩
theorem BB_false (P Q : Prop) : BB false P Q = Q := propext ⟨fun h => h.2 rfl, fun h => ⟨fun e => (nomatch e), fun _ => h⟩⟩
theorem boolB_mk (b : Bool) (P Q : Prop) : boolB (.bool b) P Q = BB b P Q := rfl
theorem intB_mk (i : Int) (P : Int → Prop) : intB (.int i) P = P i := rfl
theorem OO_nx (e : Env) (k : Env → Prop) (P : O → Prop) : OO (.nx e) k P = k e := rfl
theorem OO_ret (d : D) (k : Env → Prop) (P : O → Prop) : OO (.ret d) k P = P (.ret d) := rfl
theorem OO_brk (e : Env) (k : Env → Prop) (P : O → Prop) : OO (.brk e) k P = P (.brk e) := rfl
theorem OO_cnt (e : Env) (k : Env → Prop) (P : O → Prop) : OO (.cnt e) k P = P (.cnt e) := rfl
theorem LO_nx (e : Env) (k : Env → Prop) (P : O → Prop) : LO (.nx e) k P = k e := rfl
theorem LO_cnt (e : Env) (k : Env → Prop) (P : O → Prop) : LO (.cnt e) k P = k e := rfl
theorem LO_ret (d : D) (k : Env → Prop) (P : O → Prop) : LO (.ret d) k P = P (.ret d) := rfl
theorem LO_brk (e : Env) (k : Env → Prop) (P : O → Prop) : LO (.brk e) k P = P (.nx e) := rfl
theorem RO_ret (d : D) (P : D → Prop) : RO (.ret d) P = P d := rfl
theorem RO_nx (e : Env) (P : D → Prop) : RO (.nx e) P = P .none := rfl
theorem tru_bool (b : Bool) : truD (.bool b) = some b := rfl
theorem isInt_int (i : Int) : bi .isInt [.int i] = some (.bool true) := rfl
theorem isBool_int (i : Int) : bi .isBool [.int i] = some (.bool false) := rfl
theorem isTup_tup (ds : List D) : bi .isTup [.tuple ds] = some (.bool true) := rfl
theorem len_tup (ds : List D) : bi .len [.tuple ds] = some (.int ds.length) := rfl
theorem len_lst (ds : List D) : bi .len [.list ds] = some (.int ds.length) := rfl
theorem toTup_lst (ds : List D) : bi .tuple [.list ds] = some (.tuple ds) := rfl
theorem toTup_tup (ds : List D) : bi .tuple [.tuple ds] = some (.tuple ds) := rfl
theorem toLst_tup (ds : List D) : bi .list [.tuple ds] = some (.list ds) := rfl
theorem toLst_lst (ds : List D) : bi .list [.list ds] = some (.list ds) := rfl
theorem walk_tup (ds : List D) : walkOf (.tuple ds) = some ds := rfl
theorem walk_lst (ds : List D) : walkOf (.list ds) = some ds := rfl
theorem c_ge (i j : Int) : cmpop .ge (.int i) (.int j) = some (decide (j ≤ i)) := rfl
theorem c_le (i j : Int) : cmpop .le (.int i) (.int j) = some (decide (i ≤ j)) := rfl
theorem c_gt (i j : Int) : cmpop .gt (.int i) (.int j) = some (decide (j < i)) := rfl
theorem c_lt (i j : Int) : cmpop .lt (.int i) (.int j) = some (decide (i < j)) := rfl
theorem c_eq (i j : Int) : cmpop .eq (.int i) (.int j) = some (decide (i = j)) := by
  show (if eqable (.int i) && eqable (.int j) then some (PyData.eqv (.int i) (.int j)) else none) = _
  have e : (eqable (.int i) && eqable (.int j)) = true := rfl
  rw [if_pos e]
  simp only [PyData.eqv]
  by_cases h : i = j <;> simp [h]
theorem c_ne (i j : Int) : cmpop .ne (.int i) (.int j) = some (!decide (i = j)) := by
  show (if eqable (.int i) && eqable (.int j) then some (!PyData.eqv (.int i) (.int j)) else none) = _
  have e : (eqable (.int i) && eqable (.int j)) = true := rfl
  rw [if_pos e]
  simp only [PyData.eqv]
  by_cases h : i = j <;> simp [h]
theorem c_is_none (d : D) : cmpop .isn d .none = some (!isNoneB d) := rfl
theorem ix0 (a : D) (r : List D) : ixD (.tuple (a :: r)) (.int 0) = some a := by
  show atI (a :: r) 0 = some a
  simp [atI, ixN]
theorem ix1 (a b : D) (r : List D) : ixD (.tuple (a :: b :: r)) (.int 1) = some b := by
  show atI (a :: b :: r) 1 = some b
  have h : (1 : Int) < ((a :: b :: r).length : Int) := by simp only [List.length_cons]; omega
  unfold atI ixN
  rw [if_pos (by decide), if_pos h]
  rfl
theorem ix_nat_tup {ds : List D} {n : Nat} {d : D} (h : ds[n]? = some d) : ixD (.tuple ds) (.int (n : Int)) = some d := by
  show atI ds (n : Int) = some d
  have hl := (List.getElem?_eq_some_iff.mp h).1
  unfold atI ixN
  rw [if_pos (by omega), if_pos (by omega)]
  exact h
theorem ix_nat_lst {ds : List D} {n : Nat} {d : D} (h : ds[n]? = some d) : ixD (.list ds) (.int (n : Int)) = some d := by
  show atI ds (n : Int) = some d
  have hl := (List.getElem?_eq_some_iff.mp h).1
  unfold atI ixN
  rw [if_pos (by omega), if_pos (by omega)]
  exact h
theorem range_one {n : Int} (h : -(2 ^ 62) ≤ n ∧ n < 2 ^ 62) : rangeOf [.int n] = some (rangeD 0 n) := by
  show (if -(2 ^ 62) ≤ n ∧ n < 2 ^ 62 then some (rangeD 0 n) else none) = _
  rw [if_pos h]
theorem listRange_one {n : Int} (h : -(2 ^ 62) ≤ n ∧ n ≤ cap) : bi .listRange [.int n] = some (.list (rangeD 0 n)) := by
  show (if -(2 ^ 62) ≤ n ∧ n ≤ cap then some (PyData.list (rangeD 0 n)) else none) = _
  rw [if_pos h]
theorem rangeD_nat (n : Nat) : rangeD 0 n = (List.range n).map fun (i : Nat) => .int (i : Int) := by
  unfold rangeD
  simp
theorem intsOf_map : ∀ l : List Int, intsOf (l.map .int) = some l
  | [] => rfl
  | x :: l => by
    rw [List.map_cons]
    unfold intsOf
    rw [intsOf_map l]
    rfl
theorem boolsOf_true : ∀ n : Nat, boolsOf (List.replicate n (.bool true)) = some (List.replicate n true)
  | 0 => rfl
  | n + 1 => by
    rw [List.replicate_succ]
    unfold boolsOf
    rw [boolsOf_true n]
    rfl
theorem all_true (n : Nat) : bi .all [.list (List.replicate n (.bool true))] = some (.bool true) := by
  show (boolsOf _).map (fun bs => PyData.bool (bs.all id)) = _
  rw [boolsOf_true]
  simp
theorem map_const {l : List D} {c : D} : l.map (fun _ => c) = List.replicate l.length c := by
  induction l with
  | nil => rfl
  | cons x l ih => rw [List.map_cons, ih]; rfl
theorem sum_lst (l : List Int) : bi .sum [.list (l.map .int)] = some (.int l.sum) := by
  show (intsOf _).map _ = _
  rw [intsOf_map]
  rfl
theorem sum_tup (l : List Int) : bi .sum [.tuple (l.map .int)] = some (.int l.sum) := by
  show (intsOf _).map _ = _
  rw [intsOf_map]
  rfl
theorem cut_take {ds : List D} {n : Nat} (h : n ≤ ds.length) : cutD ds none (some (n : Int)) = ds.take n := by
  unfold cutD
  have e1 : HT.sIx ds.length 0 none = 0 := rfl
  have e2 : HT.sIx ds.length ds.length (some (n : Int)) = n := by
    simp only [HT.sIx]
    split <;> omega
  rw [e1, e2]
  rfl
/-- every item lets the loop go on -/
theorem CI_true {step : D → List D → (List D → Prop) → Prop} {ds : List D} {P : List D → Prop} (h : ∀ d ∈ ds, ∀ a K, a.length < ds.length → K (a ++ [.bool true]) → step d a K) (k : P (List.replicate ds.length (.bool true))) : CI step ds [] P := by
  refine CI_map (f := fun _ => .bool true) (fun d hd a K l q => h d hd a K (by simpa using l) q) ?_
  rw [map_const]
  exact k
/-- a loop that leaves the slots as they are -/
theorem FI_keep {step : D → Env → (O → Prop) → Prop} {ds : List D} {env : Env} {P : O → Prop} (J : Env → Prop) (h0 : J env) (h : ∀ d ∈ ds, ∀ e, J e → step d e fun o => LO o J P) (k : ∀ e, J e → P (.nx e)) : FI step ds env P := by
  refine ⟨fun r e => (∃ pre, ds = pre ++ r) ∧ J e, ⟨⟨[], rfl⟩, h0⟩, ?_, fun e h => k e h.2⟩
  rintro d r e ⟨⟨pre, q⟩, j⟩
  have hd : d ∈ ds := by
    rw [q]
    simp
  have q2 : ∃ pre, ds = pre ++ r := ⟨pre ++ [d], by rw [q]; simp⟩
  have z := h d hd e j
  have e1 : (fun o : O => LO o (fun e => (∃ pre, ds = pre ++ r) ∧ J e) P) = fun o => LO o J P := by
    funext o
    cases o <;> simp [LO, q2]
  show step d e fun o : O => LO o (fun e => (∃ pre, ds = pre ++ r) ∧ J e) P
  rw [e1]
  exact z
end PD
namespace PD
open PySem PySem.Spec PyProof.Rows L2
theorem perm1 (a : D) : permL [0] [a] = [a] := rfl
theorem perm2 (a b : D) : permL [0, 1] [a, b] = [a, b] := rfl
theorem perm10 (a b : D) : permL [1, 0] [a, b] = [b, a] := rfl
theorem perm3 (a b c : D) : permL [0, 1, 2] [a, b, c] = [a, b, c] := rfl
theorem perm210 (a b c : D) : permL [2, 1, 0] [a, b, c] = [c, b, a] := rfl
theorem perm5 (a b c d e : D) : permL [0, 1, 2, 3, 4] [a, b, c, d, e] = [a, b, c, d, e] := rfl
theorem lstB_mk (xs : List D) (P : List D → Prop) : lstB (some (.list xs)) P = P xs := rfl
end PD
namespace PD
open PySem PySem.Spec PyProof.Rows L2
theorem bindT_nm (i : Nat) (d : D) (env : Env) : bindT (.nm i) d env = some (env.set i (some d)) := by
  simp only [bindT]
theorem bindT_tup (ts : List Tg) (ds : List D) (env : Env) : bindT (.tp ts) (.tuple ds) env = if ds.length = ts.length then bindTs ts ds env else none := by
  simp only [bindT]
theorem bindT_lst (ts : List Tg) (ds : List D) (env : Env) : bindT (.tp ts) (.list ds) env = if ds.length = ts.length then bindTs ts ds env else none := by
  simp only [bindT]
theorem bindTs_nil (ds : List D) (env : Env) : bindTs [] ds env = some env := by
  simp only [bindTs]
theorem bindTs_cons (t : Tg) (ts : List Tg) (d : D) (ds : List D) (env : Env) : bindTs (t :: ts) (d :: ds) env = (bindT t d env).bind fun e => bindTs ts ds e := by
  simp only [bindTs]
  cases bindT t d env <;> rfl
theorem spF_nil (k : Nat) : spF k [] = [] := rfl
theorem spF_cons (k : Nat) (l : Int) (r : List Int) : spF k (l :: r) = ((List.range l.toNat).map fun (i : Nat) => ((k : Int), (i : Int))) ++ spF (k + 1) r := rfl
end PD
namespace PD
open PySem PySem.Spec PyProof.Rows L2
theorem pow_s {i j : Int} (h : 0 ≤ j ∧ j ≤ 1000000 ∧ i.natAbs < 2 ^ 64) : binop .pow (.int i) (.int j) = some (.int (i ^ j.toNat)) := by
  unfold binop
  dsimp only
  rw [if_pos h]
end PD
namespace PD
theorem cap_eq : cap = 10000000 := rfl
theorem big (n : Nat) (h : n ≤ 1000) : (n : Int) ≤ 10 ^ 120 := Int.le_trans (Int.ofNat_le.mpr h) (by decide)
end PD
namespace PD
open PySem
section
variable {T : List (List D → M Deck D)}
theorem for_ok {tg : Tg} {it : It} {b : List PD.S} {env : Env} {P : O → Prop} {Q : List D → Prop} (h : wI T it env Q) (k : ∀ ds, Q ds → FI (fun d e K => OB (bindT tg d e) fun e' => wSs T b e' K) ds env P) : Tot (exS T (.for tg it b) env) P := by
  unfold exS
  refine .bind ((wI_ok it env _ h).mono fun ds q => fgo_tot (fun d e K h => ?_) (k ds q))
  exact .bind (.ofO (h.mono fun e' h => wSs_ok b e' _ h))
theorem if_ok {c : X} {a b : List PD.S} {env : Env} {P : O → Prop} {Q : Bool → Prop} (h : wT T c env Q) (k1 : Q true → Tot (exs T a env) P) (k2 : Q false → Tot (exs T b env) P) : Tot (exS T (.iff c a b) env) P := by
  unfold exS
  refine .bind ((wT_ok c env _ h).mono fun r q => ?_)
  cases r with
  | true => exact k1 q
  | false => exact k2 q
theorem rest_tot {r : List PD.S} {env : Env} {P : O → Prop} (h : wSs T r env P) : Tot (exs T r env) P := wSs_ok _ _ _ h
end
end PD
namespace PD
open PySem
theorem exs_nil {T : List (List D → M Deck D)} {env : Env} {P : O → Prop} (h : P (.nx env)) : Tot (exs T [] env) P := by
  unfold exs
  exact .pure h
end PD
namespace PD
open PySem
theorem for_okT {T : List (List D → M Deck D)} {tg : Tg} {it : It} {b : List PD.S} {env : Env} {P : O → Prop} {Q : List D → Prop} (h : wI T it env Q) (k : ∀ ds, Q ds → FI (fun d e K => OB (bindT tg d e) fun e' => Tot (exs T b e') K) ds env P) : Tot (exS T (.for tg it b) env) P := by
  unfold exS
  refine .bind ((wI_ok it env _ h).mono fun ds q => fgo_tot (fun d e K h => ?_) (k ds q))
  exact .bind (.ofO (h.mono fun e' h => h))
end PD
namespace PD
open PySem PySem.Spec PyProof.Rows L2
theorem erase_map {α β : Type} (f : α → β) : ∀ (l : List α) (i : Nat), (l.map f).eraseIdx i = (l.eraseIdx i).map f
  | [], _ => rfl
  | x :: l, 0 => rfl
  | x :: l, i + 1 => by
    rw [List.map_cons, List.eraseIdx_cons_succ, List.eraseIdx_cons_succ, List.map_cons, erase_map f l i]
theorem erase_perm {α : Type} : ∀ {l : List α} {i : Nat} {a : α}, l[i]? = some a → (a :: l.eraseIdx i).Perm l
  | [], _, _, h => by simp at h
  | x :: l, 0, a, h => by
    simp at h
    subst h
    exact .refl _
  | x :: l, i + 1, a, h => by
    rw [List.eraseIdx_cons_succ]
    exact (List.Perm.swap _ _ _).trans ((erase_perm (by simpa using h)).cons x)
theorem popD_nat {xs : List D} {i : Nat} {d : D} (h : xs[i]? = some d) (hl : xs.length ≤ cap) : popD xs (some (i : Int)) = some (d, xs.eraseIdx i) := by
  have l := (List.getElem?_eq_some_iff.mp h).1
  unfold popD
  dsimp only
  have c : (cap : Int) < 2 ^ 63 := by decide
  rw [if_pos (by omega)]
  have e : seqIndex? (i : Int) xs.length = some i := by
    unfold seqIndex?
    have h0 : ¬ ((i : Int) < 0) := by omega
    simp only [h0, if_false]
    have h1 : (0 : Int) ≤ (i : Int) := by omega
    have h2 : (i : Int) < (xs.length : Int) := by omega
    simp [h1, h2]
  rw [e]
  show (xs[i]?).map _ = _
  rw [h]
  rfl
abbrev nD (i : Nat) : D := .int (i : Int)
theorem ne_nil {ds : List D} (h : PyData.plainAll ds = true) (h2 : PyData.depthAll ds < 60) : cmpop .ne (.list ds) (.list []) = some (!ds.isEmpty) := by
  have q : eqable (.list ds) = true := by
    unfold eqable PyData.plain PyData.depth
    rw [h, decide_eq_true (by omega)]
    rfl
  show (if eqable (.list ds) && eqable (.list []) then some (!PyData.eqv (.list ds) (.list [])) else none) = _
  rw [q]
  cases ds <;> rfl
theorem eq_nil {ds : List D} (h : PyData.plainAll ds = true) (h2 : PyData.depthAll ds < 60) : cmpop .eq (.list ds) (.list []) = some ds.isEmpty := by
  have q : eqable (.list ds) = true := by
    unfold eqable PyData.plain PyData.depth
    rw [h, decide_eq_true (by omega)]
    rfl
  show (if eqable (.list ds) && eqable (.list []) then some (PyData.eqv (.list ds) (.list [])) else none) = _
  rw [q]
  cases ds <;> rfl
theorem ints_plain (l : List Int) : PyData.plainAll (l.map .int) = true := plainAll_map fun _ _ => rfl
theorem ints_depth (l : List Int) : PyData.depthAll (l.map .int) < 60 := by
  have := depthAll_map (f := PyData.int) (k := 0) (l := l) fun _ _ => Nat.le_refl _
  omega
/-- two places, sorted -/
theorem sort2 (p q : Pl) : [p, q].mergeSort plLe = if plLe p q then [p, q] else [q, p] := by
  simp [List.mergeSort, List.MergeSort.Internal.splitInTwo, List.merge]
theorem sort2_lt {p q : Pl} (h : p ≠ q) : ∃ x y, [p, q].mergeSort plLe = [x, y] ∧ plLt x y ∧ [x, y].Perm [p, q] := by
  rw [sort2]
  by_cases c : plLe p q = true
  · rw [if_pos c]
    refine ⟨p, q, rfl, ?_, .refl _⟩
    simp only [plLe, Bool.not_eq_true', decide_eq_false_iff_not] at c
    rcases plLt_or p q with z | z | z
    · exact z
    · exact absurd z h
    · exact absurd z c
  · rw [if_neg c]
    refine ⟨q, p, rfl, ?_, .swap _ _ _⟩
    simp only [plLe, Bool.not_eq_true', decide_eq_false_iff_not, Decidable.not_not] at c
    exact c
/-- touches so far: m of them, of the places that come first in the order -/
structure TI (sp : List Pl) (od : List Nat) (m : Nat) (ts : List Tc) : Prop where
  len : ts.length = m
  lt : ∀ t ∈ ts, plLt t.1 t.2
  pe : (ends ts).Perm ((od.take (2 * m)).map fun i => sp.getD i (0, 0))
theorem TI.nil (sp : List Pl) (od : List Nat) : TI sp od 0 [] := ⟨rfl, fun _ h => (nomatch h), .refl _⟩
theorem od_nodup {sp : List Pl} {od : List Nat} (hs : sp.Nodup) (ho : od.Perm (List.range sp.length)) : (od.map fun i => sp.getD i (0, 0)).Nodup := by
  have e : ((List.range sp.length).map fun i => sp.getD i (0, 0)) = sp := by
    refine List.ext_getElem? fun i => ?_
    rw [List.getElem?_map]
    by_cases h : i < sp.length
    · rw [List.getElem?_range h]
      simp [List.getElem?_eq_getElem h]
    · rw [List.getElem?_eq_none (by simpa using h), List.getElem?_eq_none (by simpa using h)]
      rfl
  have p := ho.map fun i => sp.getD i (0, 0)
  rw [e] at p
  exact p.nodup_iff.mpr hs
theorem TI.step {sp : List Pl} {od : List Nat} {m : Nat} {ts : List Tc} (hs : sp.Nodup) (ho : od.Perm (List.range sp.length)) (h : TI sp od m ts) (hm : 2 * m + 2 ≤ sp.length) :
    ∃ (i j : Nat) (p q x y : Pl), od[2 * m]? = some i ∧ od[2 * m + 1]? = some j ∧ sp[i]? = some p ∧ sp[j]? = some q ∧ [p, q].mergeSort plLe = [x, y] ∧ TI sp od (m + 1) (ts ++ [(x, y)]) := by
  have lo : od.length = sp.length := by
    have := ho.length_eq
    simpa using this
  have h1 : 2 * m < od.length := by omega
  have h2 : 2 * m + 1 < od.length := by omega
  have lt (k : Nat) (hk : k < od.length) : od[k] < sp.length := List.mem_range.mp (ho.mem_iff.mp (List.getElem_mem hk))
  have ei := List.getElem?_eq_getElem (lt _ h1)
  have ej := List.getElem?_eq_getElem (lt _ h2)
  have nd := od_nodup hs ho
  have ne : sp[od[2 * m]]'(lt _ h1) ≠ sp[od[2 * m + 1]]'(lt _ h2) := by
    have z := (List.pairwise_iff_getElem.mp nd) (2 * m) (2 * m + 1) (by simpa using h1) (by simpa using h2) (by omega)
    simpa [List.getElem?_eq_getElem (lt _ h1), List.getElem?_eq_getElem (lt _ h2)] using z
  obtain ⟨x, y, e, l, p⟩ := sort2_lt ne
  refine ⟨_, _, _, _, x, y, List.getElem?_eq_getElem h1, List.getElem?_eq_getElem h2, ei, ej, e, ?_, ?_, ?_⟩
  · rw [List.length_append, h.len]
    rfl
  · intro t ht
    rcases List.mem_append.mp ht with ht | ht
    · exact h.lt t ht
    · obtain rfl : t = (x, y) := by simpa using ht
      exact l
  · have e1 : ends (ts ++ [(x, y)]) = ends ts ++ [x, y] := by
      unfold ends
      rw [List.flatMap_append]
      rfl
    have e2 : od.take (2 * (m + 1)) = od.take (2 * m) ++ [od[2 * m], od[2 * m + 1]] := by
      rw [show 2 * (m + 1) = 2 * m + 1 + 1 by omega, List.take_succ_eq_append_getElem (by omega), List.take_succ_eq_append_getElem (by omega), List.append_assoc]
      rfl
    rw [e1, e2, List.map_append]
    refine h.pe.append ?_
    have e3 : ([od[2 * m], od[2 * m + 1]].map fun i => sp.getD i (0, 0)) = [sp[od[2 * m]]'(lt _ h1), sp[od[2 * m + 1]]'(lt _ h2)] := by
      simp [List.getElem?_eq_getElem (lt _ h1), List.getElem?_eq_getElem (lt _ h2)]
    rw [e3]
    exact p
theorem TI.fl {rs : List Int} {od : List Nat} {m : Nat} {ts : List Tc} (hr : Rs rs) (ho : od.Perm (List.range (spots rs).length)) (h : TI (spots rs) od m ts) (hm : m ≤ 31) : Fl rs (ts.mergeSort tcLe) := by
  have pm := List.mergeSort_perm ts tcLe
  have pe : (ends (ts.mergeSort tcLe)).Perm (ends ts) := pm.flatMap_right _
  have nd : (ends ts).Nodup := by
    refine h.pe.nodup_iff.mpr ?_
    rw [List.map_take]
    exact (od_nodup (spots_nodup rs) ho).sublist (List.take_sublist _ _)
  have mem (p : Pl) (hp : p ∈ ends ts) : InP rs p := by
    obtain ⟨i, hi, rfl⟩ := List.mem_map.mp (h.pe.mem_iff.mp hp)
    have hi2 : i < (spots rs).length := List.mem_range.mp (ho.mem_iff.mp (List.mem_of_mem_take hi))
    refine spots_mem.mp ?_
    rw [List.getD_eq_getElem?_getD, List.getElem?_eq_getElem hi2]
    exact List.getElem_mem _
  refine ⟨hr, fun t ht => ?_, fun t ht => h.lt t (pm.mem_iff.mp ht), ?_, pe.nodup_iff.mpr nd, by rw [pm.length_eq, h.len]; exact hm⟩
  · have ht' := pm.mem_iff.mp ht
    have z : ∀ p, p ∈ [t.1, t.2] → p ∈ ends ts := fun p hp => List.mem_flatMap.mpr ⟨t, ht', hp⟩
    exact ⟨mem _ (z _ (by simp)), mem _ (z _ (by simp))⟩
  · exact List.mergeSort_of_pairwise (List.pairwise_mergeSort tcLe_tr tcLe_to ts)
end PD
namespace GK02
open PySem PySem.Spec PyProof.Rows L2 PD
def top (i : Nat) : Stmt := PySem.Challenge.pw_shiftalike_k02_places_seats_steps_and_pa.main.body.getD i (.Pass ⟨0, 0, 0, 0⟩)
abbrev FnP (K : PySem.W.Frag) (x : Str) (st : Stmt) (f : Addr) (fd : FuncData) : Prop := FunD K x x (defArgs st) (defBody st) (defScope st) [] [] f fd
def dk : Dk := ⟨"deck", "cells", "mixed", "draws", 0⟩
abbrev TB := List (List D → M Deck D)
def T7 : TB := dkT
abbrev s7 : Stmt := top 7
def c7 : Sc := { N := ["thing"], scp := defScope s7, cel := none, gl := [("isinstance", .bi), ("int", .bi), ("bool", .bi)], md := [(some 0)], dep := [0], fz := [], mdl := [], rl := 0, dk := none }
def b7 : List PD.S := [
  .ret (.and (.bi .isInt [(.var 0)]) (.not (.bi .isBool [(.var 0)])))]
def F7 : Fn := ⟨1, [], 0, b7⟩
def f7 : List D → M Deck D := F7.run T7
def T8 : TB := T7 ++ [f7]
theorem e7 : (cpSs (cpS 14 14) c7 (defBody s7)).1 = F7.body := by kernel_rfl
theorem S7 : FnScope c7.N ["thing"] (defScope s7) := ⟨rfl, rfl, rfl, by decide +kernel, rfl, by decide +kernel, by decide +kernel⟩
def d7 : He.DefD := ⟨("is_integer", none), "is_integer", "is_integer", defArgs s7, defBody s7, defScope s7, [], []⟩
abbrev s8 : Stmt := top 8
def c8 : Sc := { N := ["thing", "least"], scp := defScope s8, cel := none, gl := [("is_integer", .fn 7 0 [⟨1, [], [0]⟩])], md := [(some 0), (some 0)], dep := [0, 0], fz := [], mdl := [], rl := 0, dk := none }
def b8 : List PD.S := [
  .ret (.and (.callk 7 [(.var 0)] [0]) (.cmp .ge (.var 0) (.var 1)))]
def F8 : Fn := ⟨2, [], 0, b8⟩
def f8 : List D → M Deck D := F8.run T8
def T9 : TB := T8 ++ [f8]
theorem e8 : (cpSs (cpS 14 14) c8 (defBody s8)).1 = F8.body := by kernel_rfl
theorem S8 : FnScope c8.N ["thing", "least"] (defScope s8) := ⟨rfl, rfl, rfl, by decide +kernel, rfl, by decide +kernel, by decide +kernel⟩
def d8 : He.DefD := ⟨("is_from", none), "is_from", "is_from", defArgs s8, defBody s8, defScope s8, [], []⟩
abbrev s9 : Stmt := top 9
def c9 : Sc := { N := ["thing", "least", "most"], scp := defScope s9, cel := none, gl := [("is_integer", .fn 7 0 [⟨1, [], [0]⟩])], md := [(some 0), (some 0), (some 0)], dep := [0, 0, 0], fz := [], mdl := [], rl := 0, dk := none }
def b9 : List PD.S := [
  .ret (.and (.callk 7 [(.var 0)] [0]) (.chn .le .le (.var 1) (.var 0) (.var 2)))]
def F9 : Fn := ⟨3, [], 0, b9⟩
def f9 : List D → M Deck D := F9.run T9
def T10 : TB := T9 ++ [f9]
theorem e9 : (cpSs (cpS 14 14) c9 (defBody s9)).1 = F9.body := by kernel_rfl
theorem S9 : FnScope c9.N ["thing", "least", "most"] (defScope s9) := ⟨rfl, rfl, rfl, by decide +kernel, rfl, by decide +kernel, by decide +kernel⟩
def d9 : He.DefD := ⟨("is_between", none), "is_between", "is_between", defArgs s9, defBody s9, defScope s9, [], []⟩
abbrev s10 : Stmt := top 10
def c10 : Sc := { N := ["thing"], scp := defScope s10, cel := none, gl := [("isinstance", .bi), ("tuple", .bi), ("len", .bi)], md := [(some 0)], dep := [0], fz := [], mdl := [], rl := 0, dk := none }
def b10 : List PD.S := [
  .ret (.and (.bi .isTup [(.var 0)]) (.cmp .eq (.bi .len [(.var 0)]) (.cst (.int (2)))))]
def F10 : Fn := ⟨1, [], 0, b10⟩
def f10 : List D → M Deck D := F10.run T10
def T11 : TB := T10 ++ [f10]
theorem e10 : (cpSs (cpS 14 14) c10 (defBody s10)).1 = F10.body := by kernel_rfl
theorem S10 : FnScope c10.N ["thing"] (defScope s10) := ⟨rfl, rfl, rfl, by decide +kernel, rfl, by decide +kernel, by decide +kernel⟩
def d10 : He.DefD := ⟨("is_pair", none), "is_pair", "is_pair", defArgs s10, defBody s10, defScope s10, [], []⟩
abbrev s11 : Stmt := top 11
def c11 : Sc := { N := ["thing", "length"], scp := defScope s11, cel := none, gl := [("isinstance", .bi), ("tuple", .bi), ("len", .bi), ("MOST_RINGS", .cst (.int (40))), ("all", .bi), ("is_from", .fn 8 0 [⟨2, [], [0, 1]⟩])], md := [(some 0), (some 0)], dep := [0, 0], fz := [], mdl := [], rl := 0, dk := none }
def b11 : List PD.S := [
  .ret (.and (.bi .isTup [(.var 0)]) (.and (.chn .le .le (.cst (.int (1))) (.bi .len [(.var 0)]) (.cst (.int (40)))) (.bi .all [(.comp (.callk 8 [(.var 1), (.cst (.int (1)))] [0, 1]) (.nm 1) (.seq (.var 0)) none [1])])))]
def F11 : Fn := ⟨2, [], 0, b11⟩
def f11 : List D → M Deck D := F11.run T11
def T12 : TB := T11 ++ [f11]
theorem e11 : (cpSs (cpS 14 14) c11 (defBody s11)).1 = F11.body := by kernel_rfl
theorem S11 : FnScope c11.N ["thing"] (defScope s11) := ⟨rfl, rfl, rfl, by decide +kernel, rfl, by decide +kernel, by decide +kernel⟩
def d11 : He.DefD := ⟨("are_rings_value", none), "are_rings_value", "are_rings_value", defArgs s11, defBody s11, defScope s11, [], []⟩
abbrev s12 : Stmt := top 12
def c12 : Sc := { N := ["rings", "thing"], scp := defScope s12, cel := none, gl := [("is_pair", .fn 10 0 [⟨1, [], [0]⟩]), ("is_between", .fn 9 0 [⟨3, [], [0, 1, 2]⟩]), ("len", .bi)], md := [(some 0), (some 0)], dep := [0, 0], fz := [], mdl := [], rl := 0, dk := none }
def b12 : List PD.S := [
  .iff (.or (.not (.callk 10 [(.var 1)] [0])) (.not (.callk 9 [(.ix (.var 1) (.cst (.int (0)))), (.cst (.int (0))), (.op .sub (.bi .len [(.var 0)]) (.cst (.int (1))))] [0, 1, 2]))) [
    .ret (.cst (.bool false))] [
],
  .ret (.callk 9 [(.ix (.var 1) (.cst (.int (1)))), (.cst (.int (0))), (.op .sub (.ix (.var 0) (.ix (.var 1) (.cst (.int (0))))) (.cst (.int (1))))] [0, 1, 2])]
def F12 : Fn := ⟨2, [], 0, b12⟩
def f12 : List D → M Deck D := F12.run T12
def T13 : TB := T12 ++ [f12]
theorem e12 : (cpSs (cpS 14 14) c12 (defBody s12)).1 = F12.body := by kernel_rfl
theorem S12 : FnScope c12.N ["rings", "thing"] (defScope s12) := ⟨rfl, rfl, rfl, by decide +kernel, rfl, by decide +kernel, by decide +kernel⟩
def d12 : He.DefD := ⟨("is_place_of", none), "is_place_of", "is_place_of", defArgs s12, defBody s12, defScope s12, [], []⟩
abbrev s13 : Stmt := top 13
def c13 : Sc := { N := ["rings", "thing"], scp := defScope s13, cel := none, gl := [("is_pair", .fn 10 0 [⟨1, [], [0]⟩]), ("is_place_of", .fn 12 0 [⟨2, [], [0, 1]⟩])], md := [(some 0), (some 0)], dep := [0, 0], fz := [], mdl := [], rl := 0, dk := none }
def b13 : List PD.S := [
  .iff (.or (.not (.callk 10 [(.var 1)] [0])) (.or (.not (.callk 12 [(.var 0), (.ix (.var 1) (.cst (.int (0))))] [0, 1])) (.not (.callk 12 [(.var 0), (.ix (.var 1) (.cst (.int (1))))] [0, 1])))) [
    .ret (.cst (.bool false))] [
],
  .ret (.cmp .lt (.ix (.var 1) (.cst (.int (0)))) (.ix (.var 1) (.cst (.int (1)))))]
def F13 : Fn := ⟨2, [], 0, b13⟩
def f13 : List D → M Deck D := F13.run T13
def T14 : TB := T13 ++ [f13]
theorem e13 : (cpSs (cpS 14 14) c13 (defBody s13)).1 = F13.body := by kernel_rfl
theorem S13 : FnScope c13.N ["rings", "thing"] (defScope s13) := ⟨rfl, rfl, rfl, by decide +kernel, rfl, by decide +kernel, by decide +kernel⟩
def d13 : He.DefD := ⟨("is_touch_of", none), "is_touch_of", "is_touch_of", defArgs s13, defBody s13, defScope s13, [], []⟩
abbrev s14 : Stmt := top 14
def c14 : Sc := { N := ["rings", "thing", "some", "touch", "place"], scp := defScope s14, cel := none, gl := [("isinstance", .bi), ("tuple", .bi), ("all", .bi), ("is_touch_of", .fn 13 0 [⟨2, [], [0, 1]⟩]), ("list", .bi), ("sorted", .bi), ("len", .bi), ("set", .bi)], md := [(some 0), (some 0), (some 0), (some 0), (some 0)], dep := [0, 0, 0, 0, 0], fz := [], mdl := [], rl := 0, dk := none }
def b14 : List PD.S := [
  .iff (.or (.not (.bi .isTup [(.var 1)])) (.not (.bi .all [(.comp (.callk 13 [(.var 0), (.var 3)] [0, 1]) (.nm 3) (.seq (.var 1)) none [3])]))) [
    .ret (.cst (.bool false))] [
],
  .asg (.nm 2) (.comp2 (.var 4) (.nm 3) (.seq (.var 1)) none (.nm 4) (.seq (.var 3)) none [3, 4] [4]),
  .ret (.and (.cmp .eq (.bi .list [(.var 1)]) (.bi .sorted [(.var 1)])) (.cmp .eq (.bi .lenSet [(.var 2)]) (.bi .len [(.var 2)])))]
def F14 : Fn := ⟨5, [], 0, b14⟩
def f14 : List D → M Deck D := F14.run T14
def T15 : TB := T14 ++ [f14]
theorem e14 : (cpSs (cpS 14 14) c14 (defBody s14)).1 = F14.body := by kernel_rfl
theorem S14 : FnScope c14.N ["rings", "thing"] (defScope s14) := ⟨rfl, rfl, rfl, by decide +kernel, rfl, by decide +kernel, by decide +kernel⟩
def d14 : He.DefD := ⟨("are_touches_of", none), "are_touches_of", "are_touches_of", defArgs s14, defBody s14, defScope s14, [], []⟩
abbrev s15 : Stmt := top 15
def c15 : Sc := { N := ["thing"], scp := defScope s15, cel := none, gl := [("is_pair", .fn 10 0 [⟨1, [], [0]⟩]), ("are_rings_value", .fn 11 0 [⟨1, [], [0]⟩]), ("are_touches_of", .fn 14 0 [⟨2, [], [0, 1]⟩])], md := [(some 0)], dep := [0], fz := [], mdl := [], rl := 0, dk := none }
def b15 : List PD.S := [
  .ret (.and (.callk 10 [(.var 0)] [0]) (.and (.callk 11 [(.ix (.var 0) (.cst (.int (0))))] [0]) (.callk 14 [(.ix (.var 0) (.cst (.int (0)))), (.ix (.var 0) (.cst (.int (1))))] [0, 1])))]
def F15 : Fn := ⟨1, [], 0, b15⟩
def f15 : List D → M Deck D := F15.run T15
def T16 : TB := T15 ++ [f15]
theorem e15 : (cpSs (cpS 14 14) c15 (defBody s15)).1 = F15.body := by kernel_rfl
theorem S15 : FnScope c15.N ["thing"] (defScope s15) := ⟨rfl, rfl, rfl, by decide +kernel, rfl, by decide +kernel, by decide +kernel⟩
def d15 : He.DefD := ⟨("is_floor_value", none), "is_floor_value", "is_floor_value", defArgs s15, defBody s15, defScope s15, [], []⟩
abbrev s16 : Stmt := top 16
def c16 : Sc := { N := ["floor"], scp := defScope s16, cel := none, gl := [("is_floor_value", .fn 15 0 [⟨1, [], [0]⟩])], md := [(some 0)], dep := [0], fz := [], mdl := [], rl := 0, dk := none }
def b16 : List PD.S := [
  .iff (.not (.callk 15 [(.var 0)] [0])) [
    .bad] [
]]
def F16 : Fn := ⟨1, [], 0, b16⟩
def f16 : List D → M Deck D := F16.run T16
def T17 : TB := T16 ++ [f16]
theorem e16 : (cpSs (cpS 14 14) c16 (defBody s16)).1 = F16.body := by kernel_rfl
theorem S16 : FnScope c16.N ["floor"] (defScope s16) := ⟨rfl, rfl, rfl, by decide +kernel, rfl, by decide +kernel, by decide +kernel⟩
def d16 : He.DefD := ⟨("need_floor", none), "need_floor", "need_floor", defArgs s16, defBody s16, defScope s16, [], []⟩
abbrev s17 : Stmt := top 17
def c17 : Sc := { N := ["floor", "some", "place"], scp := defScope s17, cel := none, gl := [("need_floor", .fn 16 0 [⟨1, [], [0]⟩]), ("is_place_of", .fn 12 0 [⟨2, [], [0, 1]⟩])], md := [(some 0), (some 0), (some 0)], dep := [0, 0, 0], fz := [], mdl := [], rl := 0, dk := none }
def b17 : List PD.S := [
  .exp (.callk 16 [(.var 0)] [0]),
  .for (.nm 2) (.seq (.var 1)) [
    .iff (.not (.callk 12 [(.ix (.var 0) (.cst (.int (0)))), (.var 2)] [0, 1])) [
      .bad] [
]]]
def F17 : Fn := ⟨3, [], 0, b17⟩
def f17 : List D → M Deck D := F17.run T17
def T18 : TB := T17 ++ [f17]
theorem e17 : (cpSs (cpS 14 14) c17 (defBody s17)).1 = F17.body := by kernel_rfl
theorem S17 : FnScope c17.N ["floor", "some"] (defScope s17) := ⟨rfl, rfl, rfl, by decide +kernel, rfl, by decide +kernel, by decide +kernel⟩
def d17 : He.DefD := ⟨("need_places", none), "need_places", "need_places", defArgs s17, defBody s17, defScope s17, [], []⟩
abbrev s18 : Stmt := top 18
def c18 : Sc := { N := ["rings", "ring", "length", "at"], scp := defScope s18, cel := none, gl := [("enumerate", .bi), ("range", .bi)], md := [(some 0), (some 0), (some 0), (some 0)], dep := [0, 0, 0, 0], fz := [], mdl := [], rl := 0, dk := none }
def b18 : List PD.S := [
  .ret (.comp2 (.tup [(.var 1), (.var 3)]) (.tp [(.nm 1), (.nm 2)]) (.enu (.var 0)) none (.nm 3) (.rng [(.var 2)]) none [1, 2, 3] [3])]
def F18 : Fn := ⟨4, [], 0, b18⟩
def f18 : List D → M Deck D := F18.run T18
def T19 : TB := T18 ++ [f18]
theorem e18 : (cpSs (cpS 14 14) c18 (defBody s18)).1 = F18.body := by kernel_rfl
theorem S18 : FnScope c18.N ["rings"] (defScope s18) := ⟨rfl, rfl, rfl, by decide +kernel, rfl, by decide +kernel, by decide +kernel⟩
def d18 : He.DefD := ⟨("places_of", none), "places_of", "places_of", defArgs s18, defBody s18, defScope s18, [], []⟩
abbrev s19 : Stmt := top 19
def c19 : Sc := { N := ["rings", "place"], scp := defScope s19, cel := none, gl := [("sum", .bi)], md := [(some 0), (some 0)], dep := [0, 0], fz := [], mdl := [], rl := 0, dk := none }
def b19 : List PD.S := [
  .ret (.op .add (.bi .sum [(.sl (.var 0) none (some (.ix (.var 1) (.cst (.int (0))))))]) (.ix (.var 1) (.cst (.int (1)))))]
def F19 : Fn := ⟨2, [], 0, b19⟩
def f19 : List D → M Deck D := F19.run T19
def T20 : TB := T19 ++ [f19]
theorem e19 : (cpSs (cpS 14 14) c19 (defBody s19)).1 = F19.body := by kernel_rfl
theorem S19 : FnScope c19.N ["rings", "place"] (defScope s19) := ⟨rfl, rfl, rfl, by decide +kernel, rfl, by decide +kernel, by decide +kernel⟩
def d19 : He.DefD := ⟨("seat_of", none), "seat_of", "seat_of", defArgs s19, defBody s19, defScope s19, [], []⟩
abbrev s20 : Stmt := top 20
def c20 : Sc := { N := ["rings", "place", "k"], scp := defScope s20, cel := none, gl := [], md := [(some 0), (some 0), (some 0)], dep := [0, 0, 0], fz := [], mdl := [], rl := 0, dk := none }
def b20 : List PD.S := [
  .ret (.tup [(.ix (.var 1) (.cst (.int (0)))), (.op .mod (.op .add (.ix (.var 1) (.cst (.int (1)))) (.var 2)) (.ix (.var 0) (.ix (.var 1) (.cst (.int (0))))))])]
def F20 : Fn := ⟨3, [], 0, b20⟩
def f20 : List D → M Deck D := F20.run T20
def T21 : TB := T20 ++ [f20]
theorem e20 : (cpSs (cpS 14 14) c20 (defBody s20)).1 = F20.body := by kernel_rfl
theorem S20 : FnScope c20.N ["rings", "place", "k"] (defScope s20) := ⟨rfl, rfl, rfl, by decide +kernel, rfl, by decide +kernel, by decide +kernel⟩
def d20 : He.DefD := ⟨("place_behind", none), "place_behind", "place_behind", defArgs s20, defBody s20, defScope s20, [], []⟩
abbrev s21 : Stmt := top 21
def c21 : Sc := { N := ["floor", "found", "one", "other"], scp := defScope s21, cel := none, gl := [], md := [(some 0), (some 1), (some 0), (some 0)], dep := [0, 1, 0, 0], fz := [], mdl := [], rl := 0, dk := none }
def b21 : List PD.S := [
  .asg (.nm 1) (.dic []),
  .for (.tp [(.nm 2), (.nm 3)]) (.seq (.ix (.var 0) (.cst (.int (1))))) [
    .sset 1 [] (.var 2) (.var 3),
    .sset 1 [] (.var 3) (.var 2)],
  .ret (.var 1)]
def F21 : Fn := ⟨4, [], 0, b21⟩
def f21 : List D → M Deck D := F21.run T21
def T22 : TB := T21 ++ [f21]
theorem e21 : (cpSs (cpS 14 14) c21 (defBody s21)).1 = F21.body := by kernel_rfl
theorem S21 : FnScope c21.N ["floor"] (defScope s21) := ⟨rfl, rfl, rfl, by decide +kernel, rfl, by decide +kernel, by decide +kernel⟩
def d21 : He.DefD := ⟨("partners_of", none), "partners_of", "partners_of", defArgs s21, defBody s21, defScope s21, [], []⟩
abbrev s22 : Stmt := top 23
def c22 : Sc := { N := ["floor", "thing"], scp := defScope s22, cel := none, gl := [("need_floor", .fn 16 0 [⟨1, [], [0]⟩]), ("is_place_of", .fn 12 0 [⟨2, [], [0, 1]⟩])], md := [(some 0), (some 0)], dep := [0, 0], fz := [], mdl := [], rl := 0, dk := none }
def b22 : List PD.S := [
  .exp (.callk 16 [(.var 0)] [0]),
  .ret (.callk 12 [(.ix (.var 0) (.cst (.int (0)))), (.var 1)] [0, 1])]
def F22 : Fn := ⟨2, [], 0, b22⟩
def f22 : List D → M Deck D := F22.run T22
def T23 : TB := T22 ++ [f22]
theorem e22 : (cpSs (cpS 14 14) c22 (defBody s22)).1 = F22.body := by kernel_rfl
theorem S22 : FnScope c22.N ["floor", "thing"] (defScope s22) := ⟨rfl, rfl, rfl, by decide +kernel, rfl, by decide +kernel, by decide +kernel⟩
def d22 : He.DefD := ⟨("is_place", none), "is_place", "is_place", defArgs s22, defBody s22, defScope s22, [], []⟩
abbrev s23 : Stmt := top 24
def c23 : Sc := { N := ["floor"], scp := defScope s23, cel := none, gl := [("need_floor", .fn 16 0 [⟨1, [], [0]⟩]), ("tuple", .bi), ("places_of", .fn 18 0 [⟨1, [], [0]⟩])], md := [(some 0)], dep := [0], fz := [], mdl := [], rl := 0, dk := none }
def b23 : List PD.S := [
  .exp (.callk 16 [(.var 0)] [0]),
  .ret (.bi .tuple [(.callk 18 [(.ix (.var 0) (.cst (.int (0))))] [0])])]
def F23 : Fn := ⟨1, [], 0, b23⟩
def f23 : List D → M Deck D := F23.run T23
def T24 : TB := T23 ++ [f23]
theorem e23 : (cpSs (cpS 14 14) c23 (defBody s23)).1 = F23.body := by kernel_rfl
theorem S23 : FnScope c23.N ["floor"] (defScope s23) := ⟨rfl, rfl, rfl, by decide +kernel, rfl, by decide +kernel, by decide +kernel⟩
def d23 : He.DefD := ⟨("places", none), "places", "places", defArgs s23, defBody s23, defScope s23, [], []⟩
abbrev s24 : Stmt := top 25
def c24 : Sc := { N := ["floor", "place"], scp := defScope s24, cel := none, gl := [("need_places", .fn 17 0 [⟨2, [], [0, 1]⟩]), ("seat_of", .fn 19 0 [⟨2, [], [0, 1]⟩])], md := [(some 0), (some 0)], dep := [0, 0], fz := [], mdl := [], rl := 0, dk := none }
def b24 : List PD.S := [
  .exp (.callk 17 [(.var 0), (.tup [(.var 1)])] [0, 1]),
  .ret (.callk 19 [(.ix (.var 0) (.cst (.int (0)))), (.var 1)] [0, 1])]
def F24 : Fn := ⟨2, [], 0, b24⟩
def f24 : List D → M Deck D := F24.run T24
def T25 : TB := T24 ++ [f24]
theorem e24 : (cpSs (cpS 14 14) c24 (defBody s24)).1 = F24.body := by kernel_rfl
theorem S24 : FnScope c24.N ["floor", "place"] (defScope s24) := ⟨rfl, rfl, rfl, by decide +kernel, rfl, by decide +kernel, by decide +kernel⟩
def d24 : He.DefD := ⟨("seat", none), "seat", "seat", defArgs s24, defBody s24, defScope s24, [], []⟩
abbrev s25 : Stmt := top 26
def c25 : Sc := { N := ["floor", "place", "k"], scp := defScope s25, cel := none, gl := [("need_places", .fn 17 0 [⟨2, [], [0, 1]⟩]), ("is_integer", .fn 7 0 [⟨1, [], [0]⟩]), ("place_behind", .fn 20 0 [⟨3, [], [0, 1, 2]⟩])], md := [(some 0), (some 0), (some 0)], dep := [0, 0, 0], fz := [], mdl := [], rl := 0, dk := none }
def b25 : List PD.S := [
  .exp (.callk 17 [(.var 0), (.tup [(.var 1)])] [0, 1]),
  .iff (.not (.callk 7 [(.var 2)] [0])) [
    .bad] [
],
  .ret (.callk 20 [(.ix (.var 0) (.cst (.int (0)))), (.var 1), (.var 2)] [0, 1, 2])]
def F25 : Fn := ⟨3, [], 0, b25⟩
def f25 : List D → M Deck D := F25.run T25
def T26 : TB := T25 ++ [f25]
theorem e25 : (cpSs (cpS 14 14) c25 (defBody s25)).1 = F25.body := by kernel_rfl
theorem S25 : FnScope c25.N ["floor", "place", "k"] (defScope s25) := ⟨rfl, rfl, rfl, by decide +kernel, rfl, by decide +kernel, by decide +kernel⟩
def d25 : He.DefD := ⟨("behind", none), "behind", "behind", defArgs s25, defBody s25, defScope s25, [], []⟩
abbrev s26 : Stmt := top 27
def c26 : Sc := { N := ["floor", "place"], scp := defScope s26, cel := none, gl := [("need_places", .fn 17 0 [⟨2, [], [0, 1]⟩]), ("partners_of", .fn 21 0 [⟨1, [], [0]⟩])], md := [(some 0), (some 0)], dep := [0, 0], fz := [], mdl := [], rl := 0, dk := none }
def b26 : List PD.S := [
  .exp (.callk 17 [(.var 0), (.tup [(.var 1)])] [0, 1]),
  .ret (.mt .get (.callk 21 [(.var 0)] [0]) [(.var 1)])]
def F26 : Fn := ⟨2, [], 0, b26⟩
def f26 : List D → M Deck D := F26.run T26
def T27 : TB := T26 ++ [f26]
theorem e26 : (cpSs (cpS 14 14) c26 (defBody s26)).1 = F26.body := by kernel_rfl
theorem S26 : FnScope c26.N ["floor", "place"] (defScope s26) := ⟨rfl, rfl, rfl, by decide +kernel, rfl, by decide +kernel, by decide +kernel⟩
def d26 : He.DefD := ⟨("partner", none), "partner", "partner", defArgs s26, defBody s26, defScope s26, [], []⟩
abbrev s27 : Stmt := top 30
def c27 : Sc := { N := ["deck", "many", "number", "cell"], scp := defScope s27, cel := none, gl := [("max", .bi), ("int", .bi)], md := [(some 0), (some 0), (some 0), (some 0)], dep := [0, 0, 0, 0], fz := [], mdl := [], rl := 0, dk := some dk }
def b27 : List PD.S := [
  .exp (.call 3 [(.var 0), (.op .add (.call 1 [(.var 0)]) (.cst (.int (1))))]),
  .asg (.nm 2) (.op .add (.call 0 [(.var 0)]) (.op .mul (.cst (.int (60373))) (.call 1 [(.var 0)]))),
  .iff (.call 2 [(.var 0)]) [
    .asg (.nm 3) (.call 4 [(.var 0)]),
    .iff (.cmp .ge (.var 3) (.op .pow (.cst (.int (10))) (.cst (.int (18))))) [
      .exp (.call 5 [(.call 6 [(.var 0)]), (.op .fdiv (.var 3) (.bi .max2 [(.cst (.int (2))), (.var 1)]))]),
      .ret (.op .mod (.bi .toInt [(.var 3)]) (.var 1))] [
],
    .asg (.nm 2) (.op .add (.var 2) (.op .mod (.bi .toInt [(.var 3)]) (.cst (.int (2147483549)))))] [
],
  .asg (.nm 2) (.op .mod (.bi .toInt [(.op .add (.op .mul (.var 2) (.cst (.int (69621)))) (.cst (.int (57))))]) (.cst (.int (2147483579)))),
  .asg (.nm 2) (.op .mod (.bi .toInt [(.op .add (.op .add (.op .mul (.var 2) (.var 2)) (.op .mul (.cst (.int (50021))) (.call 1 [(.var 0)]))) (.cst (.int (53))))]) (.cst (.int (2147483629)))),
  .asg (.nm 2) (.op .mod (.bi .toInt [(.op .mul (.var 2) (.cst (.int (40014))))]) (.cst (.int (2147483399)))),
  .ret (.op .mod (.bi .toInt [(.op .fdiv (.var 2) (.cst (.int (64))))]) (.var 1))]
def F27 : Fn := ⟨4, [], 0, b27⟩
def f27 : List D → M Deck D := F27.run T27
def T28 : TB := T27 ++ [f27]
theorem e27 : (cpSs (cpS 14 14) c27 (defBody s27)).1 = F27.body := by kernel_rfl
theorem S27 : FnScope c27.N ["deck", "many"] (defScope s27) := ⟨rfl, rfl, rfl, by decide +kernel, rfl, by decide +kernel, by decide +kernel⟩
def d27 : He.DefD := ⟨("_law_draw", none), "_law_draw", "_law_draw", defArgs s27, defBody s27, defScope s27, [], []⟩
abbrev s28 : Stmt := top 31
def c28 : Sc := { N := ["deck", "some"], scp := defScope s28, cel := none, gl := [("_law_draw", .fn 27 0 [⟨2, [], [0, 1]⟩]), ("len", .bi)], md := [(some 0), (some 0)], dep := [0, 0], fz := [], mdl := [], rl := 0, dk := none }
def b28 : List PD.S := [
  .ret (.ix (.var 1) (.callk 27 [(.var 0), (.bi .len [(.var 1)])] [0, 1]))]
def F28 : Fn := ⟨2, [], 0, b28⟩
def f28 : List D → M Deck D := F28.run T28
def T29 : TB := T28 ++ [f28]
theorem e28 : (cpSs (cpS 14 14) c28 (defBody s28)).1 = F28.body := by kernel_rfl
theorem S28 : FnScope c28.N ["deck", "some"] (defScope s28) := ⟨rfl, rfl, rfl, by decide +kernel, rfl, by decide +kernel, by decide +kernel⟩
def d28 : He.DefD := ⟨("_law_pick", none), "_law_pick", "_law_pick", defArgs s28, defBody s28, defScope s28, [], []⟩
abbrev s29 : Stmt := top 32
def c29 : Sc := { N := ["deck", "n", "left", "found", "turn"], scp := defScope s29, cel := none, gl := [("list", .bi), ("range", .bi), ("_law_draw", .fn 27 0 [⟨2, [], [0, 1]⟩]), ("len", .bi), ("tuple", .bi)], md := [(some 0), (some 0), (some 1), (some 1), (some 0)], dep := [0, 0, 1, 1, 0], fz := [], mdl := [], rl := 0, dk := none }
def b29 : List PD.S := [
  .par [2, 3] [(.bi .listRange [(.var 1)]), (.lst [])],
  .for (.nm 4) (.rng [(.var 1)]) [
    .apop 3 2 (some (.callk 27 [(.var 0), (.bi .len [(.var 2)])] [0, 1]))],
  .ret (.bi .tuple [(.var 3)])]
def F29 : Fn := ⟨5, [], 0, b29⟩
def f29 : List D → M Deck D := F29.run T29
def T30 : TB := T29 ++ [f29]
theorem e29 : (cpSs (cpS 14 14) c29 (defBody s29)).1 = F29.body := by kernel_rfl
theorem S29 : FnScope c29.N ["deck", "n"] (defScope s29) := ⟨rfl, rfl, rfl, by decide +kernel, rfl, by decide +kernel, by decide +kernel⟩
def d29 : He.DefD := ⟨("_law_order", none), "_law_order", "_law_order", defArgs s29, defBody s29, defScope s29, [], []⟩
abbrev s30 : Stmt := top 33
def c30 : Sc := { N := ["rings", "found", "u", "length", "i"], scp := defScope s30, cel := none, gl := [("enumerate", .bi), ("range", .bi)], md := [(some 0), (some 1), (some 0), (some 0), (some 0)], dep := [0, 1, 0, 0, 0], fz := [], mdl := [], rl := 0, dk := none }
def b30 : List PD.S := [
  .asg (.nm 1) (.lst []),
  .for (.tp [(.nm 2), (.nm 3)]) (.enu (.var 0)) [
    .ext 1 (.comp (.tup [(.var 2), (.var 4)]) (.nm 4) (.rng [(.var 3)]) none [4])],
  .ret (.var 1)]
def F30 : Fn := ⟨5, [], 0, b30⟩
def f30 : List D → M Deck D := F30.run T30
def T31 : TB := T30 ++ [f30]
theorem e30 : (cpSs (cpS 14 14) c30 (defBody s30)).1 = F30.body := by kernel_rfl
theorem S30 : FnScope c30.N ["rings"] (defScope s30) := ⟨rfl, rfl, rfl, by decide +kernel, rfl, by decide +kernel, by decide +kernel⟩
def d30 : He.DefD := ⟨("_law_spots", none), "_law_spots", "_law_spots", defArgs s30, defBody s30, defScope s30, [], []⟩
abbrev s31 : Stmt := top 34
def c31 : Sc := { N := ["deck", "most", "found", "left", "turn", "length"], scp := defScope s31, cel := none, gl := [("range", .bi), ("_law_pick", .fn 28 0 [⟨2, [], [0, 1]⟩]), ("tuple", .bi)], md := [(some 0), (some 0), (some 1), (some 0), (some 0), (some 0)], dep := [0, 0, 1, 0, 0, 0], fz := [], mdl := [], rl := 0, dk := none }
def b31 : List PD.S := [
  .par [2, 3] [(.lst []), (.var 1)],
  .for (.nm 4) (.rng [(.callk 28 [(.var 0), (.tup [(.cst (.int (2))), (.cst (.int (3))), (.cst (.int (2))), (.cst (.int (1))), (.cst (.int (3))), (.cst (.int (4))), (.cst (.int (2))), (.cst (.int (5)))])] [0, 1])]) [
    .asg (.nm 5) (.callk 28 [(.var 0), (.tup [(.cst (.int (2))), (.cst (.int (3))), (.cst (.int (4))), (.cst (.int (1))), (.cst (.int (3))), (.cst (.int (5))), (.cst (.int (2))), (.cst (.int (6)))])] [0, 1]),
    .iff (.cmp .le (.var 5) (.var 3)) [
      .app 2 (.var 5),
      .asg (.nm 3) (.op .sub (.var 3) (.var 5))] [
]],
  .ret (.ite (.cmp .ne (.var 2) (.lst [])) (.bi .tuple [(.var 2)]) (.tup [(.cst (.int (1)))]))]
def F31 : Fn := ⟨6, [], 0, b31⟩
def f31 : List D → M Deck D := F31.run T31
def T32 : TB := T31 ++ [f31]
theorem e31 : (cpSs (cpS 14 14) c31 (defBody s31)).1 = F31.body := by kernel_rfl
theorem S31 : FnScope c31.N ["deck", "most"] (defScope s31) := ⟨rfl, rfl, rfl, by decide +kernel, rfl, by decide +kernel, by decide +kernel⟩
def d31 : He.DefD := ⟨("_law_rings", none), "_law_rings", "_law_rings", defArgs s31, defBody s31, defScope s31, [], []⟩
abbrev s32 : Stmt := top 35
def c32 : Sc := { N := ["deck", "most", "rings", "touches", "spots", "order", "way", "turn", "x", "y"], scp := defScope s32, cel := none, gl := [("_law_rings", .fn 31 0 [⟨2, [], [0, 1]⟩]), ("_law_spots", .fn 30 0 [⟨1, [], [0]⟩]), ("_law_order", .fn 29 0 [⟨2, [], [0, 1]⟩]), ("len", .bi), ("_law_draw", .fn 27 0 [⟨2, [], [0, 1]⟩]), ("range", .bi), ("min", .bi), ("sorted", .bi), ("tuple", .bi)], md := [(some 0), (some 0), (some 0), (some 1), (some 0), (some 0), (some 0), (some 0), (some 0), (some 0)], dep := [0, 0, 0, 1, 0, 0, 0, 0, 0, 0], fz := [], mdl := [], rl := 0, dk := none }
def b32 : List PD.S := [
  .par [2, 3] [(.callk 31 [(.var 0), (.var 1)] [0, 1]), (.lst [])],
  .asg (.nm 4) (.callk 30 [(.var 2)] [0]),
  .par [5, 6] [(.callk 29 [(.var 0), (.bi .len [(.var 4)])] [0, 1]), (.callk 27 [(.var 0), (.cst (.int (5)))] [0, 1])],
  .for (.nm 7) (.rng [(.ite (.cmp .gt (.var 6) (.cst (.int (0)))) (.callk 27 [(.var 0), (.op .add (.bi .min2 [(.cst (.int (20))), (.op .fdiv (.bi .len [(.var 4)]) (.cst (.int (2))))]) (.cst (.int (1))))] [0, 1]) (.bi .min2 [(.cst (.int (20))), (.op .fdiv (.bi .len [(.var 4)]) (.cst (.int (2))))]))]) [
    .asg (.tp [(.nm 8), (.nm 9)]) (.bi .sorted [(.lst [(.ix (.var 4) (.ix (.var 5) (.op .mul (.cst (.int (2))) (.var 7)))), (.ix (.var 4) (.ix (.var 5) (.op .add (.op .mul (.cst (.int (2))) (.var 7)) (.cst (.int (1))))))])]),
    .app 3 (.tup [(.var 8), (.var 9)])],
  .ret (.tup [(.var 2), (.bi .tuple [(.bi .sorted [(.var 3)])])])]
def F32 : Fn := ⟨10, [], 0, b32⟩
def f32 : List D → M Deck D := F32.run T32
def T33 : TB := T32 ++ [f32]
theorem e32 : (cpSs (cpS 14 14) c32 (defBody s32)).1 = F32.body := by kernel_rfl
theorem S32 : FnScope c32.N ["deck", "most"] (defScope s32) := ⟨rfl, rfl, rfl, by decide +kernel, rfl, by decide +kernel, by decide +kernel⟩
def d32 : He.DefD := ⟨("_law_floor", none), "_law_floor", "_law_floor", defArgs s32, defBody s32, defScope s32, [], []⟩
abbrev s33 : Stmt := top 36
def c33 : Sc := { N := ["deck", "rings", "left", "turn", "length", "spots", "order", "touches"], scp := defScope s33, cel := none, gl := [("range", .bi), ("_law_draw", .fn 27 0 [⟨2, [], [0, 1]⟩]), ("_law_pick", .fn 28 0 [⟨2, [], [0, 1]⟩]), ("_law_spots", .fn 30 0 [⟨1, [], [0]⟩]), ("_law_order", .fn 29 0 [⟨2, [], [0, 1]⟩]), ("len", .bi), ("min", .bi), ("tuple", .bi), ("sorted", .bi)], md := [(some 0), (some 1), (some 0), (some 0), (some 0), (some 0), (some 0), (some 1)], dep := [0, 1, 0, 0, 0, 0, 0, 1], fz := [(137, [(1, (some 0))])], mdl := [], rl := 0, dk := none }
def b33 : List PD.S := [
  .par [1, 2] [(.lst []), (.cst (.int (40)))],
  .for (.nm 3) (.rng [(.op .add (.cst (.int (1))) (.callk 27 [(.var 0), (.cst (.int (12)))] [0, 1]))]) [
    .asg (.nm 4) (.op .add (.cst (.int (1))) (.callk 27 [(.var 0), (.callk 28 [(.var 0), (.tup [(.cst (.int (3))), (.cst (.int (8))), (.cst (.int (20)))])] [0, 1])] [0, 1])),
    .iff (.cmp .le (.var 4) (.var 2)) [
      .app 1 (.var 4),
      .asg (.nm 2) (.op .sub (.var 2) (.var 4))] [
]],
  .iff (.cmp .eq (.var 1) (.lst [])) [
    .asg (.nm 1) (.lst [(.cst (.int (7)))])] [
],
  .frz [(1, (some 0))],
  .asg (.nm 5) (.callk 30 [(.var 1)] [0]),
  .par [6, 7] [(.callk 29 [(.var 0), (.bi .len [(.var 5)])] [0, 1]), (.lst [])],
  .for (.nm 3) (.rng [(.callk 27 [(.var 0), (.op .add (.bi .min2 [(.cst (.int (20))), (.op .fdiv (.bi .len [(.var 5)]) (.cst (.int (2))))]) (.cst (.int (1))))] [0, 1])]) [
    .app 7 (.bi .tuple [(.bi .sorted [(.lst [(.ix (.var 5) (.ix (.var 6) (.op .mul (.cst (.int (2))) (.var 3)))), (.ix (.var 5) (.ix (.var 6) (.op .add (.op .mul (.cst (.int (2))) (.var 3)) (.cst (.int (1))))))])])])],
  .ret (.tup [(.bi .tuple [(.var 1)]), (.bi .tuple [(.bi .sorted [(.var 7)])])])]
def F33 : Fn := ⟨8, [], 0, b33⟩
def f33 : List D → M Deck D := F33.run T33
def T34 : TB := T33 ++ [f33]
theorem e33 : (cpSs (cpS 14 14) c33 (defBody s33)).1 = F33.body := by kernel_rfl
theorem S33 : FnScope c33.N ["deck"] (defScope s33) := ⟨rfl, rfl, rfl, by decide +kernel, rfl, by decide +kernel, by decide +kernel⟩
def d33 : He.DefD := ⟨("_law_wide_floor", none), "_law_wide_floor", "_law_wide_floor", defArgs s33, defBody s33, defScope s33, [], []⟩
abbrev s34 : Stmt := top 37
def c34 : Sc := { N := ["floor", "place", "k"], scp := defScope s34, cel := none, gl := [("int", .bi)], md := [(some 0), (some 0), (some 0)], dep := [0, 0, 0], fz := [], mdl := [], rl := 0, dk := none }
def b34 : List PD.S := [
  .ret (.tup [(.ix (.var 1) (.cst (.int (0)))), (.op .mod (.bi .toInt [(.op .add (.ix (.var 1) (.cst (.int (1)))) (.var 2))]) (.ix (.ix (.var 0) (.cst (.int (0)))) (.ix (.var 1) (.cst (.int (0))))))])]
def F34 : Fn := ⟨3, [], 0, b34⟩
def f34 : List D → M Deck D := F34.run T34
def T35 : TB := T34 ++ [f34]
theorem e34 : (cpSs (cpS 14 14) c34 (defBody s34)).1 = F34.body := by kernel_rfl
theorem S34 : FnScope c34.N ["floor", "place", "k"] (defScope s34) := ⟨rfl, rfl, rfl, by decide +kernel, rfl, by decide +kernel, by decide +kernel⟩
def d34 : He.DefD := ⟨("_law_behind", none), "_law_behind", "_law_behind", defArgs s34, defBody s34, defScope s34, [], []⟩
abbrev s35 : Stmt := top 38
def c35 : Sc := { N := ["floor", "found", "x", "y"], scp := defScope s35, cel := none, gl := [], md := [(some 0), (some 1), (some 0), (some 0)], dep := [0, 1, 0, 0], fz := [], mdl := [], rl := 0, dk := none }
def b35 : List PD.S := [
  .asg (.nm 1) (.dic []),
  .for (.tp [(.nm 2), (.nm 3)]) (.seq (.ix (.var 0) (.cst (.int (1))))) [
    .sset 1 [] (.var 2) (.var 3),
    .sset 1 [] (.var 3) (.var 2)],
  .ret (.var 1)]
def F35 : Fn := ⟨4, [], 0, b35⟩
def f35 : List D → M Deck D := F35.run T35
def T36 : TB := T35 ++ [f35]
theorem e35 : (cpSs (cpS 14 14) c35 (defBody s35)).1 = F35.body := by kernel_rfl
theorem S35 : FnScope c35.N ["floor"] (defScope s35) := ⟨rfl, rfl, rfl, by decide +kernel, rfl, by decide +kernel, by decide +kernel⟩
def d35 : He.DefD := ⟨("_law_partners", none), "_law_partners", "_law_partners", defArgs s35, defBody s35, defScope s35, [], []⟩
abbrev s36 : Stmt := top 39
def c36 : Sc := { N := ["deck", "floor", "place", "at", "partners", "length", "mate", "here", "k", "great", "due", "other"], scp := defScope s36, cel := none, gl := [("repr", .bi), ("seat", .fn 24 0 [⟨2, [], [0, 1]⟩, ⟨0, ["place", "floor"], [1, 0]⟩]), ("is_place", .fn 22 0 [⟨2, [], [0, 1]⟩]), ("partner", .fn 26 0 [⟨2, [], [0, 1]⟩, ⟨0, ["place", "floor"], [1, 0]⟩]), ("range", .bi), ("behind", .fn 25 0 [⟨3, [], [0, 1, 2]⟩, ⟨0, ["k", "place", "floor"], [2, 1, 0]⟩]), ("_law_pick", .fn 28 0 [⟨2, [], [0, 1]⟩]), ("_law_draw", .fn 27 0 [⟨2, [], [0, 1]⟩]), ("_law_behind", .fn 34 0 [⟨3, [], [0, 1, 2]⟩]), ("int", .bi)], md := [(some 0), (some 0), (some 0), (some 0), (some 0), (some 0), (some 0), (some 0), (some 0), (some 0), (some 0), (some 0)], dep := [0, 0, 0, 0, 0, 0, 0, 0, 0, 0, 0, 0], fz := [], mdl := [], rl := 0, dk := none }
def b36 : List PD.S := [
  .asg (.nm 5) (.ix (.ix (.var 1) (.cst (.int (0)))) (.ix (.var 2) (.cst (.int (0))))),
  .iff (.cmp .ne (.bi .repr [(.tup [(.callk 24 [(.var 1), (.var 2)] [0, 1]), (.callk 24 [(.var 2), (.var 1)] [1, 0]), (.callk 22 [(.var 1), (.var 2)] [0, 1])])]) (.bi .repr [(.tup [(.var 3), (.var 3), (.cst (.bool true))])])) [
    .ret (.cst (.bool false))] [
],
  .asg (.nm 6) (.mt .get (.var 4) [(.var 2), (.cst .none)]),
  .iff (.cmp .ne (.bi .repr [(.tup [(.callk 26 [(.var 1), (.var 2)] [0, 1]), (.callk 26 [(.var 2), (.var 1)] [1, 0])])]) (.bi .repr [(.tup [(.var 6), (.var 6)])])) [
    .ret (.cst (.bool false))] [
],
  .iff (.and (.cmp .isn (.var 6) (.cst .none)) (.cmp .ne (.bi .repr [(.callk 26 [(.var 1), (.var 6)] [0, 1])]) (.bi .repr [(.var 2)]))) [
    .ret (.cst (.bool false))] [
],
  .asg (.nm 7) (.var 2),
  .for (.nm 8) (.rng [(.cst (.int (4)))]) [
    .iff (.cmp .ne (.bi .repr [(.tup [(.callk 25 [(.var 1), (.var 2), (.var 8)] [0, 1, 2]), (.callk 25 [(.var 1), (.var 7), (.neg (.var 8))] [0, 1, 2])])]) (.bi .repr [(.tup [(.var 7), (.var 2)])])) [
      .ret (.cst (.bool false))] [
],
    .asg (.nm 7) (.ite (.cmp .lt (.op .add (.ix (.var 7) (.cst (.int (1)))) (.cst (.int (1)))) (.var 5)) (.tup [(.ix (.var 7) (.cst (.int (0)))), (.op .add (.ix (.var 7) (.cst (.int (1)))) (.cst (.int (1))))]) (.tup [(.ix (.var 7) (.cst (.int (0)))), (.cst (.int (0)))]))],
  .asg (.nm 9) (.op .add (.callk 28 [(.var 0), (.lst [(.op .mul (.op .pow (.cst (.int (10))) (.cst (.int (50)))) (.op .pow (.cst (.int (10))) (.cst (.int (49))))), (.op .pow (.cst (.int (10))) (.cst (.int (18)))), (.op .pow (.cst (.int (10))) (.cst (.int (5)))), (.cst (.int (60)))])] [0, 1]) (.callk 27 [(.var 0), (.op .pow (.cst (.int (10))) (.cst (.int (9))))] [0, 1])),
  .asg (.nm 8) (.callk 28 [(.var 0), (.lst [(.var 9), (.neg (.var 9)), (.op .sub (.callk 27 [(.var 0), (.cst (.int (200)))] [0, 1]) (.cst (.int (100)))), (.var 5), (.neg (.var 5)), (.cst (.int (0)))])] [0, 1]),
  .par [10, 11] [(.callk 34 [(.var 1), (.var 2), (.var 8)] [0, 1, 2]), (.op .sub (.callk 27 [(.var 0), (.cst (.int (99)))] [0, 1]) (.cst (.int (49))))],
  .iff (.cmp .ne (.bi .repr [(.tup [(.callk 25 [(.var 1), (.var 2), (.var 8)] [0, 1, 2]), (.callk 25 [(.var 8), (.var 2), (.var 1)] [2, 1, 0])])]) (.bi .repr [(.tup [(.var 10), (.var 10)])])) [
    .ret (.cst (.bool false))] [
],
  .ret (.cmp .eq (.bi .repr [(.callk 25 [(.var 1), (.var 10), (.var 11)] [0, 1, 2])]) (.bi .repr [(.callk 25 [(.var 1), (.var 2), (.bi .toInt [(.op .mod (.op .add (.var 8) (.var 11)) (.var 5))])] [0, 1, 2])]))]
def F36 : Fn := ⟨12, [], 0, b36⟩
def f36 : List D → M Deck D := F36.run T36
def T37 : TB := T36 ++ [f36]
theorem e36 : (cpSs (cpS 14 14) c36 (defBody s36)).1 = F36.body := by kernel_rfl
theorem S36 : FnScope c36.N ["deck", "floor", "place", "at", "partners"] (defScope s36) := ⟨rfl, rfl, rfl, by decide +kernel, rfl, by decide +kernel, by decide +kernel⟩
def d36 : He.DefD := ⟨("_law_is_place_right", none), "_law_is_place_right", "_law_is_place_right", defArgs s36, defBody s36, defScope s36, [], []⟩
abbrev s37 : Stmt := top 40
def c37 : Sc := { N := ["script", "deck", "turn", "floor", "spots", "partners", "some", "at", "more", "place"], scp := defScope s37, cel := none, gl := [("range", .bi), ("_law_draw", .fn 27 0 [⟨2, [], [0, 1]⟩]), ("_law_wide_floor", .fn 33 0 [⟨1, [], [0]⟩]), ("_law_floor", .fn 32 0 [⟨2, [], [0, 1]⟩]), ("_law_spots", .fn 30 0 [⟨1, [], [0]⟩]), ("_law_partners", .fn 35 0 [⟨1, [], [0]⟩]), ("repr", .bi), ("places", .fn 23 0 [⟨1, [], [0]⟩, ⟨0, ["floor"], [0]⟩]), ("tuple", .bi), ("len", .bi), ("list", .bi), ("_law_is_place_right", .fn 36 0 [⟨5, [], [0, 1, 2, 3, 4]⟩]), ("partner", .fn 26 0 [⟨2, [], [0, 1]⟩]), ("sorted", .bi)], md := [(some 0), (some 0), (some 0), (some 0), (some 0), (some 0), (some 0), (some 0), (some 0), (some 0)], dep := [0, 0, 0, 0, 0, 0, 0, 0, 0, 0], fz := [], mdl := [], rl := 0, dk := none }
def b37 : List PD.S := [
  .for (.nm 2) (.rng [(.cst (.int (3)))]) [
    .asg (.nm 3) (.ite (.cmp .eq (.callk 27 [(.var 1), (.cst (.int (4)))] [0, 1]) (.cst (.int (0)))) (.callk 33 [(.var 1)] [0]) (.callk 32 [(.var 1), (.cst (.int (12)))] [0, 1])),
    .asg (.tp [(.nm 4), (.nm 5)]) (.tup [(.callk 30 [(.ix (.var 3) (.cst (.int (0))))] [0]), (.callk 35 [(.var 3)] [0])]),
    .iff (.cmp .ne (.bi .repr [(.tup [(.callk 23 [(.var 3)] [0]), (.callk 23 [(.var 3)] [0])])]) (.bi .repr [(.op .mul (.tup [(.bi .tuple [(.var 4)])]) (.cst (.int (2))))])) [
      .ret (.cst (.bool false))] [
],
    .asg (.nm 6) (.ite (.cmp .lt (.bi .len [(.var 4)]) (.cst (.int (9)))) (.bi .listRange [(.bi .len [(.var 4)])]) (.comp (.callk 27 [(.var 1), (.bi .len [(.var 4)])] [0, 1]) (.nm 8) (.rng [(.cst (.int (8)))]) none [8])),
    .for (.nm 7) (.seq (.var 6)) [
      .iff (.not (.callk 36 [(.var 1), (.var 3), (.ix (.var 4) (.var 7)), (.var 7), (.var 5)] [0, 1, 2, 3, 4])) [
        .ret (.cst (.bool false))] [
]],
    .iff (.cmp .ne (.comp (.var 9) (.nm 9) (.seq (.var 4)) (some (.cmp .isn (.callk 26 [(.var 3), (.var 9)] [0, 1]) (.cst .none))) [9]) (.bi .sorted [(.var 5)])) [
      .ret (.cst (.bool false))] [
]],
  .ret (.cst (.bool true))]
theorem e37 : (cpSs (cpS 14 14) c37 ((defBody s37).drop 1)).1 = b37 := by kernel_rfl
theorem S37 : FnScope c37.N ["script"] (defScope s37) := ⟨rfl, rfl, rfl, by decide +kernel, rfl, by decide +kernel, by decide +kernel⟩
def d37 : He.DefD := ⟨("law", none), "law", "law", defArgs s37, defBody s37, defScope s37, [], []⟩
abbrev sD : Stmt := top 29
def dD : He.DefD := ⟨("_law_deck", none), "_law_deck", "_law_deck", defArgs sD, defBody sD, defScope sD, [], []⟩
def fn : List He.DefD := [d7, d8, d9, d10, d11, d12, d13, d14, d15, d16, d17, d18, d19, d20, d21, d22, d23, d24, d25, d26, d27, d28, d29, d30, d31, d32, d33, d34, d35, d36, dD, d37]
def fa : List He.Fa := [.glo "is_integer", .glo "is_from", .glo "is_between", .glo "is_pair", .glo "are_rings_value", .glo "is_place_of", .glo "is_touch_of", .glo "are_touches_of", .glo "is_floor_value", .glo "need_floor", .glo "need_places", .glo "places_of", .glo "seat_of", .glo "place_behind", .glo "partners_of", .glo "is_place", .glo "places", .glo "seat", .glo "behind", .glo "partner", .glo "_law_draw", .glo "_law_pick", .glo "_law_order", .glo "_law_spots", .glo "_law_rings", .glo "_law_floor", .glo "_law_wide_floor", .glo "_law_behind", .glo "_law_partners", .glo "_law_is_place_right", .glo "_law_deck", .glo "law", .free "isinstance", .free "int", .free "bool", .free "tuple", .free "len", .free "all", .free "list", .free "sorted", .free "set", .free "enumerate", .free "range", .free "sum", .free "max", .free "min", .free "repr", .int "MOST_RINGS" (40)]
section
variable {P : Program} {wd : World} {K : PySem.W.Frag} {h base : Heap} {mg : Str → Option Value}
abbrev W2 (p q : Addr) : Wd := deckWd dk p q
theorem g7 (X : K.In h) (G : h.Ns mainGlobals mg) (c : He.SaysD fa fn K) : ∃ fd, FnP K "is_integer" s7 (He.ga K "is_integer") fd ∧ ∀ p q, p ≠ q → FnG P wd K mg base CX0 1 (He.ga K "is_integer") fd ["thing"] (prom (W2 p q) f7 1 0 noXc) := by
  obtain ⟨fd, F⟩ := c.def_ 0 (d := d7) rfl
  refine ⟨fd, F, fun p q n => ?_⟩
  obtain ⟨oc, od, dV, kV, doc, pm, an, cdv, ct, osl, rfl, lk, hcd, _, _⟩ := F.ex
  exact def_ok (ps := ["thing"]) lk hcd (W2 p q) T7 (deck_nt dk p q) c7 14 14 F7 S7 rfl rfl (by decide) e7 rfl (gl_cons (He.free_ok X G (c.fact 32 (f := .free "isinstance") rfl)) (gl_cons (He.free_ok X G (c.fact 33 (f := .free "int") rfl)) (gl_cons (He.free_ok X G (c.fact 34 (f := .free "bool") rfl)) gl_nil))) (fun d h => nomatch h)
theorem B7_1_ {f : Addr} {fd : FuncData} (F : FnP K "is_integer" s7 f fd) : Bd K fd ["thing"] ⟨1, [], [0]⟩ := bd_of F fun _ _ _ _ _ _ us ws h1 h2 => match us, ws, h1, h2 with | [_], [], _, _ => rfl
theorem g8 (X : K.In h) (G : h.Ns mainGlobals mg) (c : He.SaysD fa fn K) : ∃ fd, FnP K "is_from" s8 (He.ga K "is_from") fd ∧ ∀ p q, p ≠ q → FnG P wd K mg base CX0 2 (He.ga K "is_from") fd ["thing", "least"] (prom (W2 p q) f8 2 0 noXc) := by
  obtain ⟨fd7, FF7, GG7⟩ := g7 (P := P) (wd := wd) (base := base) X G c
  obtain ⟨fd, F⟩ := c.def_ 1 (d := d8) rfl
  refine ⟨fd, F, fun p q n => ?_⟩
  obtain ⟨oc, od, dV, kV, doc, pm, an, cdv, ct, osl, rfl, lk, hcd, _, _⟩ := F.ex
  exact def_ok (ps := ["thing", "least"]) lk hcd (W2 p q) T8 (deck_nt dk p q) c8 14 14 F8 S8 rfl rfl (by decide) e8 rfl (gl_cons (gl_fn (g := f7) (f := He.ga K "is_integer") rfl (He.glo_ok X G (c.fact 0 (f := .glo "is_integer") rfl)) FF7.kp (by decide) (GG7 p q n) (sh_cons (B7_1_ FF7) rfl (by decide) sh_nil)) gl_nil) (fun d h => nomatch h)
theorem B8_2_ {f : Addr} {fd : FuncData} (F : FnP K "is_from" s8 f fd) : Bd K fd ["thing", "least"] ⟨2, [], [0, 1]⟩ := bd_of F fun _ _ _ _ _ _ us ws h1 h2 => match us, ws, h1, h2 with | [_, _], [], _, _ => rfl
theorem g9 (X : K.In h) (G : h.Ns mainGlobals mg) (c : He.SaysD fa fn K) : ∃ fd, FnP K "is_between" s9 (He.ga K "is_between") fd ∧ ∀ p q, p ≠ q → FnG P wd K mg base CX0 2 (He.ga K "is_between") fd ["thing", "least", "most"] (prom (W2 p q) f9 3 0 noXc) := by
  obtain ⟨fd7, FF7, GG7⟩ := g7 (P := P) (wd := wd) (base := base) X G c
  obtain ⟨fd, F⟩ := c.def_ 2 (d := d9) rfl
  refine ⟨fd, F, fun p q n => ?_⟩
  obtain ⟨oc, od, dV, kV, doc, pm, an, cdv, ct, osl, rfl, lk, hcd, _, _⟩ := F.ex
  exact def_ok (ps := ["thing", "least", "most"]) lk hcd (W2 p q) T9 (deck_nt dk p q) c9 14 14 F9 S9 rfl rfl (by decide) e9 rfl (gl_cons (gl_fn (g := f7) (f := He.ga K "is_integer") rfl (He.glo_ok X G (c.fact 0 (f := .glo "is_integer") rfl)) FF7.kp (by decide) (GG7 p q n) (sh_cons (B7_1_ FF7) rfl (by decide) sh_nil)) gl_nil) (fun d h => nomatch h)
theorem B9_3_ {f : Addr} {fd : FuncData} (F : FnP K "is_between" s9 f fd) : Bd K fd ["thing", "least", "most"] ⟨3, [], [0, 1, 2]⟩ := bd_of F fun _ _ _ _ _ _ us ws h1 h2 => match us, ws, h1, h2 with | [_, _, _], [], _, _ => rfl
theorem g10 (X : K.In h) (G : h.Ns mainGlobals mg) (c : He.SaysD fa fn K) : ∃ fd, FnP K "is_pair" s10 (He.ga K "is_pair") fd ∧ ∀ p q, p ≠ q → FnG P wd K mg base CX0 1 (He.ga K "is_pair") fd ["thing"] (prom (W2 p q) f10 1 0 noXc) := by
  obtain ⟨fd, F⟩ := c.def_ 3 (d := d10) rfl
  refine ⟨fd, F, fun p q n => ?_⟩
  obtain ⟨oc, od, dV, kV, doc, pm, an, cdv, ct, osl, rfl, lk, hcd, _, _⟩ := F.ex
  exact def_ok (ps := ["thing"]) lk hcd (W2 p q) T10 (deck_nt dk p q) c10 14 14 F10 S10 rfl rfl (by decide) e10 rfl (gl_cons (He.free_ok X G (c.fact 32 (f := .free "isinstance") rfl)) (gl_cons (He.free_ok X G (c.fact 35 (f := .free "tuple") rfl)) (gl_cons (He.free_ok X G (c.fact 36 (f := .free "len") rfl)) gl_nil))) (fun d h => nomatch h)
theorem B10_1_ {f : Addr} {fd : FuncData} (F : FnP K "is_pair" s10 f fd) : Bd K fd ["thing"] ⟨1, [], [0]⟩ := bd_of F fun _ _ _ _ _ _ us ws h1 h2 => match us, ws, h1, h2 with | [_], [], _, _ => rfl
theorem g11 (X : K.In h) (G : h.Ns mainGlobals mg) (c : He.SaysD fa fn K) : ∃ fd, FnP K "are_rings_value" s11 (He.ga K "are_rings_value") fd ∧ ∀ p q, p ≠ q → FnG P wd K mg base CX0 3 (He.ga K "are_rings_value") fd ["thing"] (prom (W2 p q) f11 1 0 noXc) := by
  obtain ⟨fd8, FF8, GG8⟩ := g8 (P := P) (wd := wd) (base := base) X G c
  obtain ⟨fd, F⟩ := c.def_ 4 (d := d11) rfl
  refine ⟨fd, F, fun p q n => ?_⟩
  obtain ⟨oc, od, dV, kV, doc, pm, an, cdv, ct, osl, rfl, lk, hcd, _, _⟩ := F.ex
  exact def_ok (ps := ["thing"]) lk hcd (W2 p q) T11 (deck_nt dk p q) c11 14 14 F11 S11 rfl rfl (by decide) e11 rfl (gl_cons (He.free_ok X G (c.fact 32 (f := .free "isinstance") rfl)) (gl_cons (He.free_ok X G (c.fact 35 (f := .free "tuple") rfl)) (gl_cons (He.free_ok X G (c.fact 36 (f := .free "len") rfl)) (gl_cons (gl_int (He.int_ok X G (c.fact 47 (f := .int "MOST_RINGS" (40)) rfl))) (gl_cons (He.free_ok X G (c.fact 37 (f := .free "all") rfl)) (gl_cons (gl_fn (g := f8) (f := He.ga K "is_from") rfl (He.glo_ok X G (c.fact 1 (f := .glo "is_from") rfl)) FF8.kp (by decide) (GG8 p q n) (sh_cons (B8_2_ FF8) rfl (by decide) sh_nil)) gl_nil)))))) (fun d h => nomatch h)
theorem B11_1_ {f : Addr} {fd : FuncData} (F : FnP K "are_rings_value" s11 f fd) : Bd K fd ["thing"] ⟨1, [], [0]⟩ := bd_of F fun _ _ _ _ _ _ us ws h1 h2 => match us, ws, h1, h2 with | [_], [], _, _ => rfl
theorem g12 (X : K.In h) (G : h.Ns mainGlobals mg) (c : He.SaysD fa fn K) : ∃ fd, FnP K "is_place_of" s12 (He.ga K "is_place_of") fd ∧ ∀ p q, p ≠ q → FnG P wd K mg base CX0 3 (He.ga K "is_place_of") fd ["rings", "thing"] (prom (W2 p q) f12 2 0 noXc) := by
  obtain ⟨fd10, FF10, GG10⟩ := g10 (P := P) (wd := wd) (base := base) X G c
  obtain ⟨fd9, FF9, GG9⟩ := g9 (P := P) (wd := wd) (base := base) X G c
  obtain ⟨fd, F⟩ := c.def_ 5 (d := d12) rfl
  refine ⟨fd, F, fun p q n => ?_⟩
  obtain ⟨oc, od, dV, kV, doc, pm, an, cdv, ct, osl, rfl, lk, hcd, _, _⟩ := F.ex
  exact def_ok (ps := ["rings", "thing"]) lk hcd (W2 p q) T12 (deck_nt dk p q) c12 14 14 F12 S12 rfl rfl (by decide) e12 rfl (gl_cons (gl_fn (g := f10) (f := He.ga K "is_pair") rfl (He.glo_ok X G (c.fact 3 (f := .glo "is_pair") rfl)) FF10.kp (by decide) (GG10 p q n) (sh_cons (B10_1_ FF10) rfl (by decide) sh_nil)) (gl_cons (gl_fn (g := f9) (f := He.ga K "is_between") rfl (He.glo_ok X G (c.fact 2 (f := .glo "is_between") rfl)) FF9.kp (by decide) (GG9 p q n) (sh_cons (B9_3_ FF9) rfl (by decide) sh_nil)) (gl_cons (He.free_ok X G (c.fact 36 (f := .free "len") rfl)) gl_nil))) (fun d h => nomatch h)
theorem B12_2_ {f : Addr} {fd : FuncData} (F : FnP K "is_place_of" s12 f fd) : Bd K fd ["rings", "thing"] ⟨2, [], [0, 1]⟩ := bd_of F fun _ _ _ _ _ _ us ws h1 h2 => match us, ws, h1, h2 with | [_, _], [], _, _ => rfl
theorem g13 (X : K.In h) (G : h.Ns mainGlobals mg) (c : He.SaysD fa fn K) : ∃ fd, FnP K "is_touch_of" s13 (He.ga K "is_touch_of") fd ∧ ∀ p q, p ≠ q → FnG P wd K mg base CX0 4 (He.ga K "is_touch_of") fd ["rings", "thing"] (prom (W2 p q) f13 2 0 noXc) := by
  obtain ⟨fd10, FF10, GG10⟩ := g10 (P := P) (wd := wd) (base := base) X G c
  obtain ⟨fd12, FF12, GG12⟩ := g12 (P := P) (wd := wd) (base := base) X G c
  obtain ⟨fd, F⟩ := c.def_ 6 (d := d13) rfl
  refine ⟨fd, F, fun p q n => ?_⟩
  obtain ⟨oc, od, dV, kV, doc, pm, an, cdv, ct, osl, rfl, lk, hcd, _, _⟩ := F.ex
  exact def_ok (ps := ["rings", "thing"]) lk hcd (W2 p q) T13 (deck_nt dk p q) c13 14 14 F13 S13 rfl rfl (by decide) e13 rfl (gl_cons (gl_fn (g := f10) (f := He.ga K "is_pair") rfl (He.glo_ok X G (c.fact 3 (f := .glo "is_pair") rfl)) FF10.kp (by decide) (GG10 p q n) (sh_cons (B10_1_ FF10) rfl (by decide) sh_nil)) (gl_cons (gl_fn (g := f12) (f := He.ga K "is_place_of") rfl (He.glo_ok X G (c.fact 5 (f := .glo "is_place_of") rfl)) FF12.kp (by decide) (GG12 p q n) (sh_cons (B12_2_ FF12) rfl (by decide) sh_nil)) gl_nil)) (fun d h => nomatch h)
theorem B13_2_ {f : Addr} {fd : FuncData} (F : FnP K "is_touch_of" s13 f fd) : Bd K fd ["rings", "thing"] ⟨2, [], [0, 1]⟩ := bd_of F fun _ _ _ _ _ _ us ws h1 h2 => match us, ws, h1, h2 with | [_, _], [], _, _ => rfl
theorem g14 (X : K.In h) (G : h.Ns mainGlobals mg) (c : He.SaysD fa fn K) : ∃ fd, FnP K "are_touches_of" s14 (He.ga K "are_touches_of") fd ∧ ∀ p q, p ≠ q → FnG P wd K mg base CX0 5 (He.ga K "are_touches_of") fd ["rings", "thing"] (prom (W2 p q) f14 2 0 noXc) := by
  obtain ⟨fd13, FF13, GG13⟩ := g13 (P := P) (wd := wd) (base := base) X G c
  obtain ⟨fd, F⟩ := c.def_ 7 (d := d14) rfl
  refine ⟨fd, F, fun p q n => ?_⟩
  obtain ⟨oc, od, dV, kV, doc, pm, an, cdv, ct, osl, rfl, lk, hcd, _, _⟩ := F.ex
  exact def_ok (ps := ["rings", "thing"]) lk hcd (W2 p q) T14 (deck_nt dk p q) c14 14 14 F14 S14 rfl rfl (by decide) e14 rfl (gl_cons (He.free_ok X G (c.fact 32 (f := .free "isinstance") rfl)) (gl_cons (He.free_ok X G (c.fact 35 (f := .free "tuple") rfl)) (gl_cons (He.free_ok X G (c.fact 37 (f := .free "all") rfl)) (gl_cons (gl_fn (g := f13) (f := He.ga K "is_touch_of") rfl (He.glo_ok X G (c.fact 6 (f := .glo "is_touch_of") rfl)) FF13.kp (by decide) (GG13 p q n) (sh_cons (B13_2_ FF13) rfl (by decide) sh_nil)) (gl_cons (He.free_ok X G (c.fact 38 (f := .free "list") rfl)) (gl_cons (He.free_ok X G (c.fact 39 (f := .free "sorted") rfl)) (gl_cons (He.free_ok X G (c.fact 36 (f := .free "len") rfl)) (gl_cons (He.free_ok X G (c.fact 40 (f := .free "set") rfl)) gl_nil)))))))) (fun d h => nomatch h)
theorem B14_2_ {f : Addr} {fd : FuncData} (F : FnP K "are_touches_of" s14 f fd) : Bd K fd ["rings", "thing"] ⟨2, [], [0, 1]⟩ := bd_of F fun _ _ _ _ _ _ us ws h1 h2 => match us, ws, h1, h2 with | [_, _], [], _, _ => rfl
theorem g15 (X : K.In h) (G : h.Ns mainGlobals mg) (c : He.SaysD fa fn K) : ∃ fd, FnP K "is_floor_value" s15 (He.ga K "is_floor_value") fd ∧ ∀ p q, p ≠ q → FnG P wd K mg base CX0 6 (He.ga K "is_floor_value") fd ["thing"] (prom (W2 p q) f15 1 0 noXc) := by
  obtain ⟨fd10, FF10, GG10⟩ := g10 (P := P) (wd := wd) (base := base) X G c
  obtain ⟨fd11, FF11, GG11⟩ := g11 (P := P) (wd := wd) (base := base) X G c
  obtain ⟨fd14, FF14, GG14⟩ := g14 (P := P) (wd := wd) (base := base) X G c
  obtain ⟨fd, F⟩ := c.def_ 8 (d := d15) rfl
  refine ⟨fd, F, fun p q n => ?_⟩
  obtain ⟨oc, od, dV, kV, doc, pm, an, cdv, ct, osl, rfl, lk, hcd, _, _⟩ := F.ex
  exact def_ok (ps := ["thing"]) lk hcd (W2 p q) T15 (deck_nt dk p q) c15 14 14 F15 S15 rfl rfl (by decide) e15 rfl (gl_cons (gl_fn (g := f10) (f := He.ga K "is_pair") rfl (He.glo_ok X G (c.fact 3 (f := .glo "is_pair") rfl)) FF10.kp (by decide) (GG10 p q n) (sh_cons (B10_1_ FF10) rfl (by decide) sh_nil)) (gl_cons (gl_fn (g := f11) (f := He.ga K "are_rings_value") rfl (He.glo_ok X G (c.fact 4 (f := .glo "are_rings_value") rfl)) FF11.kp (by decide) (GG11 p q n) (sh_cons (B11_1_ FF11) rfl (by decide) sh_nil)) (gl_cons (gl_fn (g := f14) (f := He.ga K "are_touches_of") rfl (He.glo_ok X G (c.fact 7 (f := .glo "are_touches_of") rfl)) FF14.kp (by decide) (GG14 p q n) (sh_cons (B14_2_ FF14) rfl (by decide) sh_nil)) gl_nil))) (fun d h => nomatch h)
theorem B15_1_ {f : Addr} {fd : FuncData} (F : FnP K "is_floor_value" s15 f fd) : Bd K fd ["thing"] ⟨1, [], [0]⟩ := bd_of F fun _ _ _ _ _ _ us ws h1 h2 => match us, ws, h1, h2 with | [_], [], _, _ => rfl
theorem g16 (X : K.In h) (G : h.Ns mainGlobals mg) (c : He.SaysD fa fn K) : ∃ fd, FnP K "need_floor" s16 (He.ga K "need_floor") fd ∧ ∀ p q, p ≠ q → FnG P wd K mg base CX0 7 (He.ga K "need_floor") fd ["floor"] (prom (W2 p q) f16 1 0 noXc) := by
  obtain ⟨fd15, FF15, GG15⟩ := g15 (P := P) (wd := wd) (base := base) X G c
  obtain ⟨fd, F⟩ := c.def_ 9 (d := d16) rfl
  refine ⟨fd, F, fun p q n => ?_⟩
  obtain ⟨oc, od, dV, kV, doc, pm, an, cdv, ct, osl, rfl, lk, hcd, _, _⟩ := F.ex
  exact def_ok (ps := ["floor"]) lk hcd (W2 p q) T16 (deck_nt dk p q) c16 14 14 F16 S16 rfl rfl (by decide) e16 rfl (gl_cons (gl_fn (g := f15) (f := He.ga K "is_floor_value") rfl (He.glo_ok X G (c.fact 8 (f := .glo "is_floor_value") rfl)) FF15.kp (by decide) (GG15 p q n) (sh_cons (B15_1_ FF15) rfl (by decide) sh_nil)) gl_nil) (fun d h => nomatch h)
theorem B16_1_ {f : Addr} {fd : FuncData} (F : FnP K "need_floor" s16 f fd) : Bd K fd ["floor"] ⟨1, [], [0]⟩ := bd_of F fun _ _ _ _ _ _ us ws h1 h2 => match us, ws, h1, h2 with | [_], [], _, _ => rfl
theorem g17 (X : K.In h) (G : h.Ns mainGlobals mg) (c : He.SaysD fa fn K) : ∃ fd, FnP K "need_places" s17 (He.ga K "need_places") fd ∧ ∀ p q, p ≠ q → FnG P wd K mg base CX0 8 (He.ga K "need_places") fd ["floor", "some"] (prom (W2 p q) f17 2 0 noXc) := by
  obtain ⟨fd16, FF16, GG16⟩ := g16 (P := P) (wd := wd) (base := base) X G c
  obtain ⟨fd12, FF12, GG12⟩ := g12 (P := P) (wd := wd) (base := base) X G c
  obtain ⟨fd, F⟩ := c.def_ 10 (d := d17) rfl
  refine ⟨fd, F, fun p q n => ?_⟩
  obtain ⟨oc, od, dV, kV, doc, pm, an, cdv, ct, osl, rfl, lk, hcd, _, _⟩ := F.ex
  exact def_ok (ps := ["floor", "some"]) lk hcd (W2 p q) T17 (deck_nt dk p q) c17 14 14 F17 S17 rfl rfl (by decide) e17 rfl (gl_cons (gl_fn (g := f16) (f := He.ga K "need_floor") rfl (He.glo_ok X G (c.fact 9 (f := .glo "need_floor") rfl)) FF16.kp (by decide) (GG16 p q n) (sh_cons (B16_1_ FF16) rfl (by decide) sh_nil)) (gl_cons (gl_fn (g := f12) (f := He.ga K "is_place_of") rfl (He.glo_ok X G (c.fact 5 (f := .glo "is_place_of") rfl)) FF12.kp (by decide) (GG12 p q n) (sh_cons (B12_2_ FF12) rfl (by decide) sh_nil)) gl_nil)) (fun d h => nomatch h)
theorem B17_2_ {f : Addr} {fd : FuncData} (F : FnP K "need_places" s17 f fd) : Bd K fd ["floor", "some"] ⟨2, [], [0, 1]⟩ := bd_of F fun _ _ _ _ _ _ us ws h1 h2 => match us, ws, h1, h2 with | [_, _], [], _, _ => rfl
theorem g18 (X : K.In h) (G : h.Ns mainGlobals mg) (c : He.SaysD fa fn K) : ∃ fd, FnP K "places_of" s18 (He.ga K "places_of") fd ∧ ∀ p q, p ≠ q → FnG P wd K mg base CX0 1 (He.ga K "places_of") fd ["rings"] (prom (W2 p q) f18 1 0 noXc) := by
  obtain ⟨fd, F⟩ := c.def_ 11 (d := d18) rfl
  refine ⟨fd, F, fun p q n => ?_⟩
  obtain ⟨oc, od, dV, kV, doc, pm, an, cdv, ct, osl, rfl, lk, hcd, _, _⟩ := F.ex
  exact def_ok (ps := ["rings"]) lk hcd (W2 p q) T18 (deck_nt dk p q) c18 14 14 F18 S18 rfl rfl (by decide) e18 rfl (gl_cons (He.free_ok X G (c.fact 41 (f := .free "enumerate") rfl)) (gl_cons (He.free_ok X G (c.fact 42 (f := .free "range") rfl)) gl_nil)) (fun d h => nomatch h)
theorem B18_1_ {f : Addr} {fd : FuncData} (F : FnP K "places_of" s18 f fd) : Bd K fd ["rings"] ⟨1, [], [0]⟩ := bd_of F fun _ _ _ _ _ _ us ws h1 h2 => match us, ws, h1, h2 with | [_], [], _, _ => rfl
theorem g19 (X : K.In h) (G : h.Ns mainGlobals mg) (c : He.SaysD fa fn K) : ∃ fd, FnP K "seat_of" s19 (He.ga K "seat_of") fd ∧ ∀ p q, p ≠ q → FnG P wd K mg base CX0 1 (He.ga K "seat_of") fd ["rings", "place"] (prom (W2 p q) f19 2 0 noXc) := by
  obtain ⟨fd, F⟩ := c.def_ 12 (d := d19) rfl
  refine ⟨fd, F, fun p q n => ?_⟩
  obtain ⟨oc, od, dV, kV, doc, pm, an, cdv, ct, osl, rfl, lk, hcd, _, _⟩ := F.ex
  exact def_ok (ps := ["rings", "place"]) lk hcd (W2 p q) T19 (deck_nt dk p q) c19 14 14 F19 S19 rfl rfl (by decide) e19 rfl (gl_cons (He.free_ok X G (c.fact 43 (f := .free "sum") rfl)) gl_nil) (fun d h => nomatch h)
theorem B19_2_ {f : Addr} {fd : FuncData} (F : FnP K "seat_of" s19 f fd) : Bd K fd ["rings", "place"] ⟨2, [], [0, 1]⟩ := bd_of F fun _ _ _ _ _ _ us ws h1 h2 => match us, ws, h1, h2 with | [_, _], [], _, _ => rfl
theorem g20 (X : K.In h) (G : h.Ns mainGlobals mg) (c : He.SaysD fa fn K) : ∃ fd, FnP K "place_behind" s20 (He.ga K "place_behind") fd ∧ ∀ p q, p ≠ q → FnG P wd K mg base CX0 1 (He.ga K "place_behind") fd ["rings", "place", "k"] (prom (W2 p q) f20 3 0 noXc) := by
  obtain ⟨fd, F⟩ := c.def_ 13 (d := d20) rfl
  refine ⟨fd, F, fun p q n => ?_⟩
  obtain ⟨oc, od, dV, kV, doc, pm, an, cdv, ct, osl, rfl, lk, hcd, _, _⟩ := F.ex
  exact def_ok (ps := ["rings", "place", "k"]) lk hcd (W2 p q) T20 (deck_nt dk p q) c20 14 14 F20 S20 rfl rfl (by decide) e20 rfl gl_nil (fun d h => nomatch h)
theorem B20_3_ {f : Addr} {fd : FuncData} (F : FnP K "place_behind" s20 f fd) : Bd K fd ["rings", "place", "k"] ⟨3, [], [0, 1, 2]⟩ := bd_of F fun _ _ _ _ _ _ us ws h1 h2 => match us, ws, h1, h2 with | [_, _, _], [], _, _ => rfl
theorem g21 (X : K.In h) (G : h.Ns mainGlobals mg) (c : He.SaysD fa fn K) : ∃ fd, FnP K "partners_of" s21 (He.ga K "partners_of") fd ∧ ∀ p q, p ≠ q → FnG P wd K mg base CX0 1 (He.ga K "partners_of") fd ["floor"] (prom (W2 p q) f21 1 0 noXc) := by
  obtain ⟨fd, F⟩ := c.def_ 14 (d := d21) rfl
  refine ⟨fd, F, fun p q n => ?_⟩
  obtain ⟨oc, od, dV, kV, doc, pm, an, cdv, ct, osl, rfl, lk, hcd, _, _⟩ := F.ex
  exact def_ok (ps := ["floor"]) lk hcd (W2 p q) T21 (deck_nt dk p q) c21 14 14 F21 S21 rfl rfl (by decide) e21 rfl gl_nil (fun d h => nomatch h)
theorem B21_1_ {f : Addr} {fd : FuncData} (F : FnP K "partners_of" s21 f fd) : Bd K fd ["floor"] ⟨1, [], [0]⟩ := bd_of F fun _ _ _ _ _ _ us ws h1 h2 => match us, ws, h1, h2 with | [_], [], _, _ => rfl
theorem g22 (X : K.In h) (G : h.Ns mainGlobals mg) (c : He.SaysD fa fn K) : ∃ fd, FnP K "is_place" s22 (He.ga K "is_place") fd ∧ ∀ p q, p ≠ q → FnG P wd K mg base CX0 8 (He.ga K "is_place") fd ["floor", "thing"] (prom (W2 p q) f22 2 0 noXc) := by
  obtain ⟨fd16, FF16, GG16⟩ := g16 (P := P) (wd := wd) (base := base) X G c
  obtain ⟨fd12, FF12, GG12⟩ := g12 (P := P) (wd := wd) (base := base) X G c
  obtain ⟨fd, F⟩ := c.def_ 15 (d := d22) rfl
  refine ⟨fd, F, fun p q n => ?_⟩
  obtain ⟨oc, od, dV, kV, doc, pm, an, cdv, ct, osl, rfl, lk, hcd, _, _⟩ := F.ex
  exact def_ok (ps := ["floor", "thing"]) lk hcd (W2 p q) T22 (deck_nt dk p q) c22 14 14 F22 S22 rfl rfl (by decide) e22 rfl (gl_cons (gl_fn (g := f16) (f := He.ga K "need_floor") rfl (He.glo_ok X G (c.fact 9 (f := .glo "need_floor") rfl)) FF16.kp (by decide) (GG16 p q n) (sh_cons (B16_1_ FF16) rfl (by decide) sh_nil)) (gl_cons (gl_fn (g := f12) (f := He.ga K "is_place_of") rfl (He.glo_ok X G (c.fact 5 (f := .glo "is_place_of") rfl)) FF12.kp (by decide) (GG12 p q n) (sh_cons (B12_2_ FF12) rfl (by decide) sh_nil)) gl_nil)) (fun d h => nomatch h)
theorem B22_2_ {f : Addr} {fd : FuncData} (F : FnP K "is_place" s22 f fd) : Bd K fd ["floor", "thing"] ⟨2, [], [0, 1]⟩ := bd_of F fun _ _ _ _ _ _ us ws h1 h2 => match us, ws, h1, h2 with | [_, _], [], _, _ => rfl
theorem g23 (X : K.In h) (G : h.Ns mainGlobals mg) (c : He.SaysD fa fn K) : ∃ fd, FnP K "places" s23 (He.ga K "places") fd ∧ ∀ p q, p ≠ q → FnG P wd K mg base CX0 8 (He.ga K "places") fd ["floor"] (prom (W2 p q) f23 1 0 noXc) := by
  obtain ⟨fd16, FF16, GG16⟩ := g16 (P := P) (wd := wd) (base := base) X G c
  obtain ⟨fd18, FF18, GG18⟩ := g18 (P := P) (wd := wd) (base := base) X G c
  obtain ⟨fd, F⟩ := c.def_ 16 (d := d23) rfl
  refine ⟨fd, F, fun p q n => ?_⟩
  obtain ⟨oc, od, dV, kV, doc, pm, an, cdv, ct, osl, rfl, lk, hcd, _, _⟩ := F.ex
  exact def_ok (ps := ["floor"]) lk hcd (W2 p q) T23 (deck_nt dk p q) c23 14 14 F23 S23 rfl rfl (by decide) e23 rfl (gl_cons (gl_fn (g := f16) (f := He.ga K "need_floor") rfl (He.glo_ok X G (c.fact 9 (f := .glo "need_floor") rfl)) FF16.kp (by decide) (GG16 p q n) (sh_cons (B16_1_ FF16) rfl (by decide) sh_nil)) (gl_cons (He.free_ok X G (c.fact 35 (f := .free "tuple") rfl)) (gl_cons (gl_fn (g := f18) (f := He.ga K "places_of") rfl (He.glo_ok X G (c.fact 11 (f := .glo "places_of") rfl)) FF18.kp (by decide) (GG18 p q n) (sh_cons (B18_1_ FF18) rfl (by decide) sh_nil)) gl_nil))) (fun d h => nomatch h)
theorem B23_1_ {f : Addr} {fd : FuncData} (F : FnP K "places" s23 f fd) : Bd K fd ["floor"] ⟨1, [], [0]⟩ := bd_of F fun _ _ _ _ _ _ us ws h1 h2 => match us, ws, h1, h2 with | [_], [], _, _ => rfl
theorem B23_0_floor {f : Addr} {fd : FuncData} (F : FnP K "places" s23 f fd) : Bd K fd ["floor"] ⟨0, ["floor"], [0]⟩ := bd_of F fun _ _ _ _ _ _ us ws h1 h2 => match us, ws, h1, h2 with | [], [_], _, _ => rfl
theorem g24 (X : K.In h) (G : h.Ns mainGlobals mg) (c : He.SaysD fa fn K) : ∃ fd, FnP K "seat" s24 (He.ga K "seat") fd ∧ ∀ p q, p ≠ q → FnG P wd K mg base CX0 9 (He.ga K "seat") fd ["floor", "place"] (prom (W2 p q) f24 2 0 noXc) := by
  obtain ⟨fd17, FF17, GG17⟩ := g17 (P := P) (wd := wd) (base := base) X G c
  obtain ⟨fd19, FF19, GG19⟩ := g19 (P := P) (wd := wd) (base := base) X G c
  obtain ⟨fd, F⟩ := c.def_ 17 (d := d24) rfl
  refine ⟨fd, F, fun p q n => ?_⟩
  obtain ⟨oc, od, dV, kV, doc, pm, an, cdv, ct, osl, rfl, lk, hcd, _, _⟩ := F.ex
  exact def_ok (ps := ["floor", "place"]) lk hcd (W2 p q) T24 (deck_nt dk p q) c24 14 14 F24 S24 rfl rfl (by decide) e24 rfl (gl_cons (gl_fn (g := f17) (f := He.ga K "need_places") rfl (He.glo_ok X G (c.fact 10 (f := .glo "need_places") rfl)) FF17.kp (by decide) (GG17 p q n) (sh_cons (B17_2_ FF17) rfl (by decide) sh_nil)) (gl_cons (gl_fn (g := f19) (f := He.ga K "seat_of") rfl (He.glo_ok X G (c.fact 12 (f := .glo "seat_of") rfl)) FF19.kp (by decide) (GG19 p q n) (sh_cons (B19_2_ FF19) rfl (by decide) sh_nil)) gl_nil)) (fun d h => nomatch h)
theorem B24_2_ {f : Addr} {fd : FuncData} (F : FnP K "seat" s24 f fd) : Bd K fd ["floor", "place"] ⟨2, [], [0, 1]⟩ := bd_of F fun _ _ _ _ _ _ us ws h1 h2 => match us, ws, h1, h2 with | [_, _], [], _, _ => rfl
theorem B24_0_place_floor {f : Addr} {fd : FuncData} (F : FnP K "seat" s24 f fd) : Bd K fd ["floor", "place"] ⟨0, ["place", "floor"], [1, 0]⟩ := bd_of F fun _ _ _ _ _ _ us ws h1 h2 => match us, ws, h1, h2 with | [], [_, _], _, _ => rfl
theorem g25 (X : K.In h) (G : h.Ns mainGlobals mg) (c : He.SaysD fa fn K) : ∃ fd, FnP K "behind" s25 (He.ga K "behind") fd ∧ ∀ p q, p ≠ q → FnG P wd K mg base CX0 9 (He.ga K "behind") fd ["floor", "place", "k"] (prom (W2 p q) f25 3 0 noXc) := by
  obtain ⟨fd17, FF17, GG17⟩ := g17 (P := P) (wd := wd) (base := base) X G c
  obtain ⟨fd7, FF7, GG7⟩ := g7 (P := P) (wd := wd) (base := base) X G c
  obtain ⟨fd20, FF20, GG20⟩ := g20 (P := P) (wd := wd) (base := base) X G c
  obtain ⟨fd, F⟩ := c.def_ 18 (d := d25) rfl
  refine ⟨fd, F, fun p q n => ?_⟩
  obtain ⟨oc, od, dV, kV, doc, pm, an, cdv, ct, osl, rfl, lk, hcd, _, _⟩ := F.ex
  exact def_ok (ps := ["floor", "place", "k"]) lk hcd (W2 p q) T25 (deck_nt dk p q) c25 14 14 F25 S25 rfl rfl (by decide) e25 rfl (gl_cons (gl_fn (g := f17) (f := He.ga K "need_places") rfl (He.glo_ok X G (c.fact 10 (f := .glo "need_places") rfl)) FF17.kp (by decide) (GG17 p q n) (sh_cons (B17_2_ FF17) rfl (by decide) sh_nil)) (gl_cons (gl_fn (g := f7) (f := He.ga K "is_integer") rfl (He.glo_ok X G (c.fact 0 (f := .glo "is_integer") rfl)) FF7.kp (by decide) (GG7 p q n) (sh_cons (B7_1_ FF7) rfl (by decide) sh_nil)) (gl_cons (gl_fn (g := f20) (f := He.ga K "place_behind") rfl (He.glo_ok X G (c.fact 13 (f := .glo "place_behind") rfl)) FF20.kp (by decide) (GG20 p q n) (sh_cons (B20_3_ FF20) rfl (by decide) sh_nil)) gl_nil))) (fun d h => nomatch h)
theorem B25_3_ {f : Addr} {fd : FuncData} (F : FnP K "behind" s25 f fd) : Bd K fd ["floor", "place", "k"] ⟨3, [], [0, 1, 2]⟩ := bd_of F fun _ _ _ _ _ _ us ws h1 h2 => match us, ws, h1, h2 with | [_, _, _], [], _, _ => rfl
theorem B25_0_k_place_floor {f : Addr} {fd : FuncData} (F : FnP K "behind" s25 f fd) : Bd K fd ["floor", "place", "k"] ⟨0, ["k", "place", "floor"], [2, 1, 0]⟩ := bd_of F fun _ _ _ _ _ _ us ws h1 h2 => match us, ws, h1, h2 with | [], [_, _, _], _, _ => rfl
theorem g26 (X : K.In h) (G : h.Ns mainGlobals mg) (c : He.SaysD fa fn K) : ∃ fd, FnP K "partner" s26 (He.ga K "partner") fd ∧ ∀ p q, p ≠ q → FnG P wd K mg base CX0 9 (He.ga K "partner") fd ["floor", "place"] (prom (W2 p q) f26 2 0 noXc) := by
  obtain ⟨fd17, FF17, GG17⟩ := g17 (P := P) (wd := wd) (base := base) X G c
  obtain ⟨fd21, FF21, GG21⟩ := g21 (P := P) (wd := wd) (base := base) X G c
  obtain ⟨fd, F⟩ := c.def_ 19 (d := d26) rfl
  refine ⟨fd, F, fun p q n => ?_⟩
  obtain ⟨oc, od, dV, kV, doc, pm, an, cdv, ct, osl, rfl, lk, hcd, _, _⟩ := F.ex
  exact def_ok (ps := ["floor", "place"]) lk hcd (W2 p q) T26 (deck_nt dk p q) c26 14 14 F26 S26 rfl rfl (by decide) e26 rfl (gl_cons (gl_fn (g := f17) (f := He.ga K "need_places") rfl (He.glo_ok X G (c.fact 10 (f := .glo "need_places") rfl)) FF17.kp (by decide) (GG17 p q n) (sh_cons (B17_2_ FF17) rfl (by decide) sh_nil)) (gl_cons (gl_fn (g := f21) (f := He.ga K "partners_of") rfl (He.glo_ok X G (c.fact 14 (f := .glo "partners_of") rfl)) FF21.kp (by decide) (GG21 p q n) (sh_cons (B21_1_ FF21) rfl (by decide) sh_nil)) gl_nil)) (fun d h => nomatch h)
theorem B26_2_ {f : Addr} {fd : FuncData} (F : FnP K "partner" s26 f fd) : Bd K fd ["floor", "place"] ⟨2, [], [0, 1]⟩ := bd_of F fun _ _ _ _ _ _ us ws h1 h2 => match us, ws, h1, h2 with | [_, _], [], _, _ => rfl
theorem B26_0_place_floor {f : Addr} {fd : FuncData} (F : FnP K "partner" s26 f fd) : Bd K fd ["floor", "place"] ⟨0, ["place", "floor"], [1, 0]⟩ := bd_of F fun _ _ _ _ _ _ us ws h1 h2 => match us, ws, h1, h2 with | [], [_, _], _, _ => rfl
theorem g27 (X : K.In h) (G : h.Ns mainGlobals mg) (c : He.SaysD fa fn K) : ∃ fd, FnP K "_law_draw" s27 (He.ga K "_law_draw") fd ∧ ∀ p q, p ≠ q → FnG P wd K mg base CX0 1 (He.ga K "_law_draw") fd ["deck", "many"] (prom (W2 p q) f27 2 0 noXc) := by
  obtain ⟨fd, F⟩ := c.def_ 20 (d := d27) rfl
  refine ⟨fd, F, fun p q n => ?_⟩
  obtain ⟨oc, od, dV, kV, doc, pm, an, cdv, ct, osl, rfl, lk, hcd, _, _⟩ := F.ex
  exact def_ok (ps := ["deck", "many"]) lk hcd (W2 p q) T27 (deck_nt dk p q) c27 14 14 F27 S27 rfl rfl (by decide) e27 rfl (gl_cons (He.free_ok X G (c.fact 44 (f := .free "max") rfl)) (gl_cons (He.free_ok X G (c.fact 33 (f := .free "int") rfl)) gl_nil)) (fun d h => by cases h; exact deck_ok dk p q [f7, f8, f9, f10, f11, f12, f13, f14, f15, f16, f17, f18, f19, f20, f21, f22, f23, f24, f25, f26] rfl (by decide) (by decide) (by decide) n)
theorem B27_2_ {f : Addr} {fd : FuncData} (F : FnP K "_law_draw" s27 f fd) : Bd K fd ["deck", "many"] ⟨2, [], [0, 1]⟩ := bd_of F fun _ _ _ _ _ _ us ws h1 h2 => match us, ws, h1, h2 with | [_, _], [], _, _ => rfl
theorem g28 (X : K.In h) (G : h.Ns mainGlobals mg) (c : He.SaysD fa fn K) : ∃ fd, FnP K "_law_pick" s28 (He.ga K "_law_pick") fd ∧ ∀ p q, p ≠ q → FnG P wd K mg base CX0 2 (He.ga K "_law_pick") fd ["deck", "some"] (prom (W2 p q) f28 2 0 noXc) := by
  obtain ⟨fd27, FF27, GG27⟩ := g27 (P := P) (wd := wd) (base := base) X G c
  obtain ⟨fd, F⟩ := c.def_ 21 (d := d28) rfl
  refine ⟨fd, F, fun p q n => ?_⟩
  obtain ⟨oc, od, dV, kV, doc, pm, an, cdv, ct, osl, rfl, lk, hcd, _, _⟩ := F.ex
  exact def_ok (ps := ["deck", "some"]) lk hcd (W2 p q) T28 (deck_nt dk p q) c28 14 14 F28 S28 rfl rfl (by decide) e28 rfl (gl_cons (gl_fn (g := f27) (f := He.ga K "_law_draw") rfl (He.glo_ok X G (c.fact 20 (f := .glo "_law_draw") rfl)) FF27.kp (by decide) (GG27 p q n) (sh_cons (B27_2_ FF27) rfl (by decide) sh_nil)) (gl_cons (He.free_ok X G (c.fact 36 (f := .free "len") rfl)) gl_nil)) (fun d h => nomatch h)
theorem B28_2_ {f : Addr} {fd : FuncData} (F : FnP K "_law_pick" s28 f fd) : Bd K fd ["deck", "some"] ⟨2, [], [0, 1]⟩ := bd_of F fun _ _ _ _ _ _ us ws h1 h2 => match us, ws, h1, h2 with | [_, _], [], _, _ => rfl
theorem g29 (X : K.In h) (G : h.Ns mainGlobals mg) (c : He.SaysD fa fn K) : ∃ fd, FnP K "_law_order" s29 (He.ga K "_law_order") fd ∧ ∀ p q, p ≠ q → FnG P wd K mg base CX0 2 (He.ga K "_law_order") fd ["deck", "n"] (prom (W2 p q) f29 2 0 noXc) := by
  obtain ⟨fd27, FF27, GG27⟩ := g27 (P := P) (wd := wd) (base := base) X G c
  obtain ⟨fd, F⟩ := c.def_ 22 (d := d29) rfl
  refine ⟨fd, F, fun p q n => ?_⟩
  obtain ⟨oc, od, dV, kV, doc, pm, an, cdv, ct, osl, rfl, lk, hcd, _, _⟩ := F.ex
  exact def_ok (ps := ["deck", "n"]) lk hcd (W2 p q) T29 (deck_nt dk p q) c29 14 14 F29 S29 rfl rfl (by decide) e29 rfl (gl_cons (He.free_ok X G (c.fact 38 (f := .free "list") rfl)) (gl_cons (He.free_ok X G (c.fact 42 (f := .free "range") rfl)) (gl_cons (gl_fn (g := f27) (f := He.ga K "_law_draw") rfl (He.glo_ok X G (c.fact 20 (f := .glo "_law_draw") rfl)) FF27.kp (by decide) (GG27 p q n) (sh_cons (B27_2_ FF27) rfl (by decide) sh_nil)) (gl_cons (He.free_ok X G (c.fact 36 (f := .free "len") rfl)) (gl_cons (He.free_ok X G (c.fact 35 (f := .free "tuple") rfl)) gl_nil))))) (fun d h => nomatch h)
theorem B29_2_ {f : Addr} {fd : FuncData} (F : FnP K "_law_order" s29 f fd) : Bd K fd ["deck", "n"] ⟨2, [], [0, 1]⟩ := bd_of F fun _ _ _ _ _ _ us ws h1 h2 => match us, ws, h1, h2 with | [_, _], [], _, _ => rfl
theorem g30 (X : K.In h) (G : h.Ns mainGlobals mg) (c : He.SaysD fa fn K) : ∃ fd, FnP K "_law_spots" s30 (He.ga K "_law_spots") fd ∧ ∀ p q, p ≠ q → FnG P wd K mg base CX0 1 (He.ga K "_law_spots") fd ["rings"] (prom (W2 p q) f30 1 0 noXc) := by
  obtain ⟨fd, F⟩ := c.def_ 23 (d := d30) rfl
  refine ⟨fd, F, fun p q n => ?_⟩
  obtain ⟨oc, od, dV, kV, doc, pm, an, cdv, ct, osl, rfl, lk, hcd, _, _⟩ := F.ex
  exact def_ok (ps := ["rings"]) lk hcd (W2 p q) T30 (deck_nt dk p q) c30 14 14 F30 S30 rfl rfl (by decide) e30 rfl (gl_cons (He.free_ok X G (c.fact 41 (f := .free "enumerate") rfl)) (gl_cons (He.free_ok X G (c.fact 42 (f := .free "range") rfl)) gl_nil)) (fun d h => nomatch h)
theorem B30_1_ {f : Addr} {fd : FuncData} (F : FnP K "_law_spots" s30 f fd) : Bd K fd ["rings"] ⟨1, [], [0]⟩ := bd_of F fun _ _ _ _ _ _ us ws h1 h2 => match us, ws, h1, h2 with | [_], [], _, _ => rfl
theorem g31 (X : K.In h) (G : h.Ns mainGlobals mg) (c : He.SaysD fa fn K) : ∃ fd, FnP K "_law_rings" s31 (He.ga K "_law_rings") fd ∧ ∀ p q, p ≠ q → FnG P wd K mg base CX0 3 (He.ga K "_law_rings") fd ["deck", "most"] (prom (W2 p q) f31 2 0 noXc) := by
  obtain ⟨fd28, FF28, GG28⟩ := g28 (P := P) (wd := wd) (base := base) X G c
  obtain ⟨fd, F⟩ := c.def_ 24 (d := d31) rfl
  refine ⟨fd, F, fun p q n => ?_⟩
  obtain ⟨oc, od, dV, kV, doc, pm, an, cdv, ct, osl, rfl, lk, hcd, _, _⟩ := F.ex
  exact def_ok (ps := ["deck", "most"]) lk hcd (W2 p q) T31 (deck_nt dk p q) c31 14 14 F31 S31 rfl rfl (by decide) e31 rfl (gl_cons (He.free_ok X G (c.fact 42 (f := .free "range") rfl)) (gl_cons (gl_fn (g := f28) (f := He.ga K "_law_pick") rfl (He.glo_ok X G (c.fact 21 (f := .glo "_law_pick") rfl)) FF28.kp (by decide) (GG28 p q n) (sh_cons (B28_2_ FF28) rfl (by decide) sh_nil)) (gl_cons (He.free_ok X G (c.fact 35 (f := .free "tuple") rfl)) gl_nil))) (fun d h => nomatch h)
theorem B31_2_ {f : Addr} {fd : FuncData} (F : FnP K "_law_rings" s31 f fd) : Bd K fd ["deck", "most"] ⟨2, [], [0, 1]⟩ := bd_of F fun _ _ _ _ _ _ us ws h1 h2 => match us, ws, h1, h2 with | [_, _], [], _, _ => rfl
theorem g32 (X : K.In h) (G : h.Ns mainGlobals mg) (c : He.SaysD fa fn K) : ∃ fd, FnP K "_law_floor" s32 (He.ga K "_law_floor") fd ∧ ∀ p q, p ≠ q → FnG P wd K mg base CX0 4 (He.ga K "_law_floor") fd ["deck", "most"] (prom (W2 p q) f32 2 0 noXc) := by
  obtain ⟨fd31, FF31, GG31⟩ := g31 (P := P) (wd := wd) (base := base) X G c
  obtain ⟨fd30, FF30, GG30⟩ := g30 (P := P) (wd := wd) (base := base) X G c
  obtain ⟨fd29, FF29, GG29⟩ := g29 (P := P) (wd := wd) (base := base) X G c
  obtain ⟨fd27, FF27, GG27⟩ := g27 (P := P) (wd := wd) (base := base) X G c
  obtain ⟨fd, F⟩ := c.def_ 25 (d := d32) rfl
  refine ⟨fd, F, fun p q n => ?_⟩
  obtain ⟨oc, od, dV, kV, doc, pm, an, cdv, ct, osl, rfl, lk, hcd, _, _⟩ := F.ex
  exact def_ok (ps := ["deck", "most"]) lk hcd (W2 p q) T32 (deck_nt dk p q) c32 14 14 F32 S32 rfl rfl (by decide) e32 rfl (gl_cons (gl_fn (g := f31) (f := He.ga K "_law_rings") rfl (He.glo_ok X G (c.fact 24 (f := .glo "_law_rings") rfl)) FF31.kp (by decide) (GG31 p q n) (sh_cons (B31_2_ FF31) rfl (by decide) sh_nil)) (gl_cons (gl_fn (g := f30) (f := He.ga K "_law_spots") rfl (He.glo_ok X G (c.fact 23 (f := .glo "_law_spots") rfl)) FF30.kp (by decide) (GG30 p q n) (sh_cons (B30_1_ FF30) rfl (by decide) sh_nil)) (gl_cons (gl_fn (g := f29) (f := He.ga K "_law_order") rfl (He.glo_ok X G (c.fact 22 (f := .glo "_law_order") rfl)) FF29.kp (by decide) (GG29 p q n) (sh_cons (B29_2_ FF29) rfl (by decide) sh_nil)) (gl_cons (He.free_ok X G (c.fact 36 (f := .free "len") rfl)) (gl_cons (gl_fn (g := f27) (f := He.ga K "_law_draw") rfl (He.glo_ok X G (c.fact 20 (f := .glo "_law_draw") rfl)) FF27.kp (by decide) (GG27 p q n) (sh_cons (B27_2_ FF27) rfl (by decide) sh_nil)) (gl_cons (He.free_ok X G (c.fact 42 (f := .free "range") rfl)) (gl_cons (He.free_ok X G (c.fact 45 (f := .free "min") rfl)) (gl_cons (He.free_ok X G (c.fact 39 (f := .free "sorted") rfl)) (gl_cons (He.free_ok X G (c.fact 35 (f := .free "tuple") rfl)) gl_nil))))))))) (fun d h => nomatch h)
theorem B32_2_ {f : Addr} {fd : FuncData} (F : FnP K "_law_floor" s32 f fd) : Bd K fd ["deck", "most"] ⟨2, [], [0, 1]⟩ := bd_of F fun _ _ _ _ _ _ us ws h1 h2 => match us, ws, h1, h2 with | [_, _], [], _, _ => rfl
theorem g33 (X : K.In h) (G : h.Ns mainGlobals mg) (c : He.SaysD fa fn K) : ∃ fd, FnP K "_law_wide_floor" s33 (He.ga K "_law_wide_floor") fd ∧ ∀ p q, p ≠ q → FnG P wd K mg base CX0 3 (He.ga K "_law_wide_floor") fd ["deck"] (prom (W2 p q) f33 1 0 noXc) := by
  obtain ⟨fd27, FF27, GG27⟩ := g27 (P := P) (wd := wd) (base := base) X G c
  obtain ⟨fd28, FF28, GG28⟩ := g28 (P := P) (wd := wd) (base := base) X G c
  obtain ⟨fd30, FF30, GG30⟩ := g30 (P := P) (wd := wd) (base := base) X G c
  obtain ⟨fd29, FF29, GG29⟩ := g29 (P := P) (wd := wd) (base := base) X G c
  obtain ⟨fd, F⟩ := c.def_ 26 (d := d33) rfl
  refine ⟨fd, F, fun p q n => ?_⟩
  obtain ⟨oc, od, dV, kV, doc, pm, an, cdv, ct, osl, rfl, lk, hcd, _, _⟩ := F.ex
  exact def_ok (ps := ["deck"]) lk hcd (W2 p q) T33 (deck_nt dk p q) c33 14 14 F33 S33 rfl rfl (by decide) e33 rfl (gl_cons (He.free_ok X G (c.fact 42 (f := .free "range") rfl)) (gl_cons (gl_fn (g := f27) (f := He.ga K "_law_draw") rfl (He.glo_ok X G (c.fact 20 (f := .glo "_law_draw") rfl)) FF27.kp (by decide) (GG27 p q n) (sh_cons (B27_2_ FF27) rfl (by decide) sh_nil)) (gl_cons (gl_fn (g := f28) (f := He.ga K "_law_pick") rfl (He.glo_ok X G (c.fact 21 (f := .glo "_law_pick") rfl)) FF28.kp (by decide) (GG28 p q n) (sh_cons (B28_2_ FF28) rfl (by decide) sh_nil)) (gl_cons (gl_fn (g := f30) (f := He.ga K "_law_spots") rfl (He.glo_ok X G (c.fact 23 (f := .glo "_law_spots") rfl)) FF30.kp (by decide) (GG30 p q n) (sh_cons (B30_1_ FF30) rfl (by decide) sh_nil)) (gl_cons (gl_fn (g := f29) (f := He.ga K "_law_order") rfl (He.glo_ok X G (c.fact 22 (f := .glo "_law_order") rfl)) FF29.kp (by decide) (GG29 p q n) (sh_cons (B29_2_ FF29) rfl (by decide) sh_nil)) (gl_cons (He.free_ok X G (c.fact 36 (f := .free "len") rfl)) (gl_cons (He.free_ok X G (c.fact 45 (f := .free "min") rfl)) (gl_cons (He.free_ok X G (c.fact 35 (f := .free "tuple") rfl)) (gl_cons (He.free_ok X G (c.fact 39 (f := .free "sorted") rfl)) gl_nil))))))))) (fun d h => nomatch h)
theorem B33_1_ {f : Addr} {fd : FuncData} (F : FnP K "_law_wide_floor" s33 f fd) : Bd K fd ["deck"] ⟨1, [], [0]⟩ := bd_of F fun _ _ _ _ _ _ us ws h1 h2 => match us, ws, h1, h2 with | [_], [], _, _ => rfl
theorem g34 (X : K.In h) (G : h.Ns mainGlobals mg) (c : He.SaysD fa fn K) : ∃ fd, FnP K "_law_behind" s34 (He.ga K "_law_behind") fd ∧ ∀ p q, p ≠ q → FnG P wd K mg base CX0 1 (He.ga K "_law_behind") fd ["floor", "place", "k"] (prom (W2 p q) f34 3 0 noXc) := by
  obtain ⟨fd, F⟩ := c.def_ 27 (d := d34) rfl
  refine ⟨fd, F, fun p q n => ?_⟩
  obtain ⟨oc, od, dV, kV, doc, pm, an, cdv, ct, osl, rfl, lk, hcd, _, _⟩ := F.ex
  exact def_ok (ps := ["floor", "place", "k"]) lk hcd (W2 p q) T34 (deck_nt dk p q) c34 14 14 F34 S34 rfl rfl (by decide) e34 rfl (gl_cons (He.free_ok X G (c.fact 33 (f := .free "int") rfl)) gl_nil) (fun d h => nomatch h)
theorem B34_3_ {f : Addr} {fd : FuncData} (F : FnP K "_law_behind" s34 f fd) : Bd K fd ["floor", "place", "k"] ⟨3, [], [0, 1, 2]⟩ := bd_of F fun _ _ _ _ _ _ us ws h1 h2 => match us, ws, h1, h2 with | [_, _, _], [], _, _ => rfl
theorem g35 (X : K.In h) (G : h.Ns mainGlobals mg) (c : He.SaysD fa fn K) : ∃ fd, FnP K "_law_partners" s35 (He.ga K "_law_partners") fd ∧ ∀ p q, p ≠ q → FnG P wd K mg base CX0 1 (He.ga K "_law_partners") fd ["floor"] (prom (W2 p q) f35 1 0 noXc) := by
  obtain ⟨fd, F⟩ := c.def_ 28 (d := d35) rfl
  refine ⟨fd, F, fun p q n => ?_⟩
  obtain ⟨oc, od, dV, kV, doc, pm, an, cdv, ct, osl, rfl, lk, hcd, _, _⟩ := F.ex
  exact def_ok (ps := ["floor"]) lk hcd (W2 p q) T35 (deck_nt dk p q) c35 14 14 F35 S35 rfl rfl (by decide) e35 rfl gl_nil (fun d h => nomatch h)
theorem B35_1_ {f : Addr} {fd : FuncData} (F : FnP K "_law_partners" s35 f fd) : Bd K fd ["floor"] ⟨1, [], [0]⟩ := bd_of F fun _ _ _ _ _ _ us ws h1 h2 => match us, ws, h1, h2 with | [_], [], _, _ => rfl
theorem g36 (X : K.In h) (G : h.Ns mainGlobals mg) (c : He.SaysD fa fn K) : ∃ fd, FnP K "_law_is_place_right" s36 (He.ga K "_law_is_place_right") fd ∧ ∀ p q, p ≠ q → FnG P wd K mg base CX0 10 (He.ga K "_law_is_place_right") fd ["deck", "floor", "place", "at", "partners"] (prom (W2 p q) f36 5 0 noXc) := by
  obtain ⟨fd24, FF24, GG24⟩ := g24 (P := P) (wd := wd) (base := base) X G c
  obtain ⟨fd22, FF22, GG22⟩ := g22 (P := P) (wd := wd) (base := base) X G c
  obtain ⟨fd26, FF26, GG26⟩ := g26 (P := P) (wd := wd) (base := base) X G c
  obtain ⟨fd25, FF25, GG25⟩ := g25 (P := P) (wd := wd) (base := base) X G c
  obtain ⟨fd28, FF28, GG28⟩ := g28 (P := P) (wd := wd) (base := base) X G c
  obtain ⟨fd27, FF27, GG27⟩ := g27 (P := P) (wd := wd) (base := base) X G c
  obtain ⟨fd34, FF34, GG34⟩ := g34 (P := P) (wd := wd) (base := base) X G c
  obtain ⟨fd, F⟩ := c.def_ 29 (d := d36) rfl
  refine ⟨fd, F, fun p q n => ?_⟩
  obtain ⟨oc, od, dV, kV, doc, pm, an, cdv, ct, osl, rfl, lk, hcd, _, _⟩ := F.ex
  exact def_ok (ps := ["deck", "floor", "place", "at", "partners"]) lk hcd (W2 p q) T36 (deck_nt dk p q) c36 14 14 F36 S36 rfl rfl (by decide) e36 rfl (gl_cons (He.free_ok X G (c.fact 46 (f := .free "repr") rfl)) (gl_cons (gl_fn (g := f24) (f := He.ga K "seat") rfl (He.glo_ok X G (c.fact 17 (f := .glo "seat") rfl)) FF24.kp (by decide) (GG24 p q n) (sh_cons (B24_2_ FF24) rfl (by decide) (sh_cons (B24_0_place_floor FF24) rfl (by decide) sh_nil))) (gl_cons (gl_fn (g := f22) (f := He.ga K "is_place") rfl (He.glo_ok X G (c.fact 15 (f := .glo "is_place") rfl)) FF22.kp (by decide) (GG22 p q n) (sh_cons (B22_2_ FF22) rfl (by decide) sh_nil)) (gl_cons (gl_fn (g := f26) (f := He.ga K "partner") rfl (He.glo_ok X G (c.fact 19 (f := .glo "partner") rfl)) FF26.kp (by decide) (GG26 p q n) (sh_cons (B26_2_ FF26) rfl (by decide) (sh_cons (B26_0_place_floor FF26) rfl (by decide) sh_nil))) (gl_cons (He.free_ok X G (c.fact 42 (f := .free "range") rfl)) (gl_cons (gl_fn (g := f25) (f := He.ga K "behind") rfl (He.glo_ok X G (c.fact 18 (f := .glo "behind") rfl)) FF25.kp (by decide) (GG25 p q n) (sh_cons (B25_3_ FF25) rfl (by decide) (sh_cons (B25_0_k_place_floor FF25) rfl (by decide) sh_nil))) (gl_cons (gl_fn (g := f28) (f := He.ga K "_law_pick") rfl (He.glo_ok X G (c.fact 21 (f := .glo "_law_pick") rfl)) FF28.kp (by decide) (GG28 p q n) (sh_cons (B28_2_ FF28) rfl (by decide) sh_nil)) (gl_cons (gl_fn (g := f27) (f := He.ga K "_law_draw") rfl (He.glo_ok X G (c.fact 20 (f := .glo "_law_draw") rfl)) FF27.kp (by decide) (GG27 p q n) (sh_cons (B27_2_ FF27) rfl (by decide) sh_nil)) (gl_cons (gl_fn (g := f34) (f := He.ga K "_law_behind") rfl (He.glo_ok X G (c.fact 27 (f := .glo "_law_behind") rfl)) FF34.kp (by decide) (GG34 p q n) (sh_cons (B34_3_ FF34) rfl (by decide) sh_nil)) (gl_cons (He.free_ok X G (c.fact 33 (f := .free "int") rfl)) gl_nil)))))))))) (fun d h => nomatch h)
theorem B36_5_ {f : Addr} {fd : FuncData} (F : FnP K "_law_is_place_right" s36 f fd) : Bd K fd ["deck", "floor", "place", "at", "partners"] ⟨5, [], [0, 1, 2, 3, 4]⟩ := bd_of F fun _ _ _ _ _ _ us ws h1 h2 => match us, ws, h1, h2 with | [_, _, _, _, _], [], _, _ => rfl
end
-- LAW lj=37 level=11
section
variable {P : Program} {wd : World} {K : PySem.W.Frag} {h base : Heap} {mg : Str → Option Value}
theorem SD : FnScope ["script", "mixed", "cell"] ["script"] (defScope sD) := ⟨rfl, rfl, rfl, by decide +kernel, rfl, by decide +kernel, by decide +kernel⟩
theorem BD {f : Addr} {fd : FuncData} (F : FnP K "_law_deck" sD f fd) : Bd K fd ["script"] ⟨1, [], [0]⟩ := bd_of F fun _ _ _ _ _ _ us ws h1 h2 => match us, ws, h1, h2 with | [_], [], _, _ => rfl
theorem gD (X : K.In h) (G : h.Ns mainGlobals mg) (c : He.SaysD fa fn K) : ∃ fd, FnP K "_law_deck" sD (He.ga K "_law_deck") fd ∧ FnG P wd K mg base CX0 1 (He.ga K "_law_deck") fd ["script"] (spDk K dk 1) := by
  obtain ⟨fd, F⟩ := c.def_ 30 (d := dD) rfl
  refine ⟨fd, F, ?_⟩
  obtain ⟨oc, od, dV, kV, doc, pm, an, cdv, ct, osl, rfl, lk, hcd, _, _⟩ := F.ex
  exact deckA_ok lk hcd (d := dk) (m := "mixed") (hb := by rfl) SD (by rfl) (by rfl) (by rfl) (by rfl) (He.free_ok X G (c.fact 33 (f := .free "int") rfl)) (He.free_ok X G (c.fact 38 (f := .free "list") rfl)) (by decide) (by decide) (by decide) (by decide) (by decide) (by decide) (by decide) (by decide) (by decide)
theorem gL (ok : ∀ s : Deck, s.cells.length ≤ 63 → ∃ s', exs T37 b37 (env1 c37.N.length 1) s = .ok (.ret (.bool true)) s') (X : K.In h) (G : h.Ns mainGlobals mg) (c : He.SaysD fa fn K) : ∃ fd, FnP K "law" s37 (He.ga K "law") fd ∧ FnG P wd K mg base CX0 12 (He.ga K "law") fd ["script"] (spLw K) := by
  obtain ⟨fd27, FF27, GG27⟩ := g27 (P := P) (wd := wd) (base := base) X G c
  obtain ⟨fd33, FF33, GG33⟩ := g33 (P := P) (wd := wd) (base := base) X G c
  obtain ⟨fd32, FF32, GG32⟩ := g32 (P := P) (wd := wd) (base := base) X G c
  obtain ⟨fd30, FF30, GG30⟩ := g30 (P := P) (wd := wd) (base := base) X G c
  obtain ⟨fd35, FF35, GG35⟩ := g35 (P := P) (wd := wd) (base := base) X G c
  obtain ⟨fd23, FF23, GG23⟩ := g23 (P := P) (wd := wd) (base := base) X G c
  obtain ⟨fd36, FF36, GG36⟩ := g36 (P := P) (wd := wd) (base := base) X G c
  obtain ⟨fd26, FF26, GG26⟩ := g26 (P := P) (wd := wd) (base := base) X G c
  obtain ⟨fdD, FD, GD⟩ := gD (P := P) (wd := wd) (base := base) X G c
  obtain ⟨fd, F⟩ := c.def_ 31 (d := d37) rfl
  refine ⟨fd, F, ?_⟩
  obtain ⟨oc, od, dV, kV, doc, pm, an, cdv, ct, osl, rfl, lk, hcd, _, _⟩ := F.ex
  exact law_ok ⟨1, [], [0]⟩ dk T37 c37 14 14 1 b37 lk hcd S37 rfl rfl rfl e37 (by rfl) (by rfl) (by rfl) (fun p q n => (gl_cons (He.free_ok X G (c.fact 42 (f := .free "range") rfl)) (gl_cons (gl_fn (g := f27) (f := He.ga K "_law_draw") rfl (He.glo_ok X G (c.fact 20 (f := .glo "_law_draw") rfl)) FF27.kp (by decide) (GG27 p q n) (sh_cons (B27_2_ FF27) rfl (by decide) sh_nil)) (gl_cons (gl_fn (g := f33) (f := He.ga K "_law_wide_floor") rfl (He.glo_ok X G (c.fact 26 (f := .glo "_law_wide_floor") rfl)) FF33.kp (by decide) (GG33 p q n) (sh_cons (B33_1_ FF33) rfl (by decide) sh_nil)) (gl_cons (gl_fn (g := f32) (f := He.ga K "_law_floor") rfl (He.glo_ok X G (c.fact 25 (f := .glo "_law_floor") rfl)) FF32.kp (by decide) (GG32 p q n) (sh_cons (B32_2_ FF32) rfl (by decide) sh_nil)) (gl_cons (gl_fn (g := f30) (f := He.ga K "_law_spots") rfl (He.glo_ok X G (c.fact 23 (f := .glo "_law_spots") rfl)) FF30.kp (by decide) (GG30 p q n) (sh_cons (B30_1_ FF30) rfl (by decide) sh_nil)) (gl_cons (gl_fn (g := f35) (f := He.ga K "_law_partners") rfl (He.glo_ok X G (c.fact 28 (f := .glo "_law_partners") rfl)) FF35.kp (by decide) (GG35 p q n) (sh_cons (B35_1_ FF35) rfl (by decide) sh_nil)) (gl_cons (He.free_ok X G (c.fact 46 (f := .free "repr") rfl)) (gl_cons (gl_fn (g := f23) (f := He.ga K "places") rfl (He.glo_ok X G (c.fact 16 (f := .glo "places") rfl)) FF23.kp (by decide) (GG23 p q n) (sh_cons (B23_1_ FF23) rfl (by decide) (sh_cons (B23_0_floor FF23) rfl (by decide) sh_nil))) (gl_cons (He.free_ok X G (c.fact 35 (f := .free "tuple") rfl)) (gl_cons (He.free_ok X G (c.fact 36 (f := .free "len") rfl)) (gl_cons (He.free_ok X G (c.fact 38 (f := .free "list") rfl)) (gl_cons (gl_fn (g := f36) (f := He.ga K "_law_is_place_right") rfl (He.glo_ok X G (c.fact 29 (f := .glo "_law_is_place_right") rfl)) FF36.kp (by decide) (GG36 p q n) (sh_cons (B36_5_ FF36) rfl (by decide) sh_nil)) (gl_cons (gl_fn (g := f26) (f := He.ga K "partner") rfl (He.glo_ok X G (c.fact 19 (f := .glo "partner") rfl)) FF26.kp (by decide) (GG26 p q n) (sh_cons (B26_2_ FF26) rfl (by decide) sh_nil)) (gl_cons (He.free_ok X G (c.fact 39 (f := .free "sorted") rfl)) gl_nil))))))))))))))) (He.glo_ok X G (c.fact 30 (f := .glo "_law_deck") rfl)) FD.kp GD (by decide) (BD FD) rfl rfl rfl (fun _ => pa_nil) rfl rfl ok
end
abbrev R : PySem.W.OpenRow := PySem.W.OpenLaw.row PySem.Challenge.rw_shiftalike_k02_places_seats_steps_and_pa
abbrev hk : PySem.W.Hook := He.hookD 4 fa fn
def ob (s : PySem.W.SharedT) : He.AlD := He.obsDG 4 fa fn (HandSHeadRun.getT s)
theorem ob_eq (s : PySem.W.SharedT) : ob s = hk.obs s.abs := He.obsDG_eq (HandSHeadRun.getT_eq s)
def loose : List Str := (["FloorError", "BadFloor", "BadPlace", "BadNumber", "MOST_RINGS", "is_integer", "is_from", "is_between", "is_pair", "are_rings_value", "is_place_of", "is_touch_of", "are_touches_of", "is_floor_value", "need_floor", "need_places", "places_of", "seat_of", "place_behind", "partners_of"] : List Str) ++ (["is_place", "places", "seat", "behind", "partner", "_law_deck", "_law_draw", "_law_pick", "_law_order", "_law_spots", "_law_rings", "_law_floor", "_law_wide_floor", "_law_behind", "_law_partners", "_law_is_place_right"] : List Str)
theorem run (w : World) : HandSHeadRun.RunEq R (PySem.W.view R.prog [40]) hk ob 8000 loose w := by
  intro os
  kernel_rfl
end GK02
open PySem PySem.W PySem.Calls PyProof.Rows
theorem GK02_holds (ok : ∀ s : PD.Deck, s.cells.length ≤ 63 → ∃ s', PD.exs GK02.T37 GK02.b37 (PD.env1 GK02.c37.N.length 1) s = .ok (.ret (.bool true)) s') : PySem.Challenge.rw_shiftalike_k02_places_seats_steps_and_pa.Holds := by
  w_on; o_law
  refine HandSHeadRun.head_any (r := OpenLaw.row PySem.Challenge.rw_shiftalike_k02_places_seats_steps_and_pa) (q := view (OpenLaw.row PySem.Challenge.rw_shiftalike_k02_places_seats_steps_and_pa).prog [40]) (H := GK02.hk) (ob := GK02.ob) (M := 8000) (loose := GK02.loose) (d := HandSHeadRun.topDef (OpenLaw.row PySem.Challenge.rw_shiftalike_k02_places_seats_steps_and_pa).prog 40) (kwd := []) GK02.ob_eq
    (by kernel_rfl) (fun s => by kernel_rfl) GK02.run (by kernel_rfl) (by kernel_rfl) (by kernel_rfl) (by rfl) (by first | assumption | decide +kernel) (by decide +kernel) ⟨rfl, rfl, rfl, rfl, rfl, by decide +kernel⟩ ?hw ?hc
  case hw => w_witness2
  case hc =>
    refine PD.walk_ofG (l := PySem.Challenge.rw_shiftalike_k02_places_seats_steps_and_pa) (n := 63) (k := 12) (x := "script") (CX := L2.CX0) rfl (by decide) (by kernel_rfl) ⟨rfl, by decide, by decide⟩ ?F (fun _ _ _ _ z => z)
    intro w mg fa h Y G hmg0
    obtain ⟨K, KX, c⟩ := Y
    have hmg : mg ("law" : PySem.Str) = some (.ref fa) := by
      have e : (HandSHeadRun.topDef (OpenLaw.row PySem.Challenge.rw_shiftalike_k02_places_seats_steps_and_pa).prog 40).name = ("law" : PySem.Str) := by kernel_rfl
      rw [← e]
      exact hmg0
    have ea := hmg.symm.trans (He.glo_ok KX G (c.fact 31 (f := .glo "law") rfl))
    cases ea
    obtain ⟨fd, F, _⟩ := GK02.gL (P := (PySem.Challenge.rw_shiftalike_k02_places_seats_steps_and_pa).prog) (wd := w) (base := h) ok KX G c
    have b := L2.FunD.bindsA (ps := ["script"]) F fun _ _ _ _ _ _ us hl => match us, hl with | [_], _ => rfl
    refine ⟨K, fd, PD.spLw K, KX, fun s v => b s [v] rfl, fun H a ns hl _ hS => ⟨a, ns, rfl, hS, hl, fun _ _ z => z⟩, fun base _ _ => ?_⟩
    obtain ⟨fd2, F2, g⟩ := GK02.gL (P := (PySem.Challenge.rw_shiftalike_k02_places_seats_steps_and_pa).prog) (wd := w) (base := base) ok KX G c
    obtain ⟨_, _, _, _, _, _, _, _, _, _, q1, l1, _, _, _⟩ := F.ex
    obtain ⟨_, _, _, _, _, _, _, _, _, _, q2, l2, _, _, _⟩ := F2.ex
    have e3 := l1.symm.trans l2
    have e4 : fd = fd2 := by
      injection e3 with e3
      injection e3 with _ _ e3 _
      injection e3
    rw [e4]
    exact g
namespace GK02
open PySem PD
theorem p7 {i : Int} {P : D → Prop} (k : P (.bool true)) : Tot (f7 [.int i]) P := by
  refine run_ok ?_
  show wSs T7 b7 [some (.int i)] _
  unfold b7
  simp only [wSs, wS, wEs, wE, wT, wTo, wI, wO, OO_nx, OO_ret, OO_brk, OO_cnt, LO_nx, LO_cnt, LO_ret, LO_brk, RO_ret, RO_nx, getV, List.getElem?_cons_zero, List.getElem?_cons_succ, Option.bind_some, id_eq, OB_some, BB_true, BB_false, boolB_mk, intB_mk, tru_bool, Bool.not_true, Bool.not_false, isInt_int, isBool_int, isTup_tup, len_tup, len_lst, toTup_lst, toTup_tup, toLst_tup, toLst_lst, walk_tup, walk_lst, c_ge, c_le, c_gt, c_lt, c_eq, c_ne, ix0, ix1, add_i, sub_i, bi_int, bi_mx, bi_mn, bindT_nm, bindT_tup, bindT_lst, bindTs_nil, bindTs_cons, List.set_cons_zero, List.set_cons_succ, wipeE, setAll, perm1, perm2, perm10, perm3, perm210, perm5, List.length_cons, List.length_nil, if_true, Option.map_some, lstB_mk]
  exact k
theorem p8 {i j : Int} (h : j ≤ i) {P : D → Prop} (k : P (.bool true)) : Tot (f8 [.int i, .int j]) P := by
  refine run_ok ?_
  show wSs T8 b8 [some (.int i), some (.int j)] _
  unfold b8
  simp only [wSs, wS, wEs, wE, wT, wTo, wI, wO, OO_nx, OO_ret, OO_brk, OO_cnt, LO_nx, LO_cnt, LO_ret, LO_brk, RO_ret, RO_nx, getV, List.getElem?_cons_zero, List.getElem?_cons_succ, Option.bind_some, id_eq, OB_some, BB_true, BB_false, boolB_mk, intB_mk, tru_bool, Bool.not_true, Bool.not_false, isInt_int, isBool_int, isTup_tup, len_tup, len_lst, toTup_lst, toTup_tup, toLst_tup, toLst_lst, walk_tup, walk_lst, c_ge, c_le, c_gt, c_lt, c_eq, c_ne, ix0, ix1, add_i, sub_i, bi_int, bi_mx, bi_mn, bindT_nm, bindT_tup, bindT_lst, bindTs_nil, bindTs_cons, List.set_cons_zero, List.set_cons_succ, wipeE, setAll, perm1, perm2, perm10, perm3, perm210, perm5, List.length_cons, List.length_nil, if_true, Option.map_some, lstB_mk]
  rw [cl_eq (g := f7) rfl]
  refine p7 ?_
  simp only [wSs, wS, wEs, wE, wT, wTo, wI, wO, OO_nx, OO_ret, OO_brk, OO_cnt, LO_nx, LO_cnt, LO_ret, LO_brk, RO_ret, RO_nx, getV, List.getElem?_cons_zero, List.getElem?_cons_succ, Option.bind_some, id_eq, OB_some, BB_true, BB_false, boolB_mk, intB_mk, tru_bool, Bool.not_true, Bool.not_false, isInt_int, isBool_int, isTup_tup, len_tup, len_lst, toTup_lst, toTup_tup, toLst_tup, toLst_lst, walk_tup, walk_lst, c_ge, c_le, c_gt, c_lt, c_eq, c_ne, ix0, ix1, add_i, sub_i, bi_int, bi_mx, bi_mn, bindT_nm, bindT_tup, bindT_lst, bindTs_nil, bindTs_cons, List.set_cons_zero, List.set_cons_succ, wipeE, setAll, perm1, perm2, perm10, perm3, perm210, perm5, List.length_cons, List.length_nil, if_true, Option.map_some, lstB_mk, decide_eq_true h]
  exact k
theorem p9 {i lo hi : Int} (h : lo ≤ i) (h2 : i ≤ hi) {P : D → Prop} (k : P (.bool true)) : Tot (f9 [.int i, .int lo, .int hi]) P := by
  refine run_ok ?_
  show wSs T9 b9 [some (.int i), some (.int lo), some (.int hi)] _
  unfold b9
  simp only [wSs, wS, wEs, wE, wT, wTo, wI, wO, OO_nx, OO_ret, OO_brk, OO_cnt, LO_nx, LO_cnt, LO_ret, LO_brk, RO_ret, RO_nx, getV, List.getElem?_cons_zero, List.getElem?_cons_succ, Option.bind_some, id_eq, OB_some, BB_true, BB_false, boolB_mk, intB_mk, tru_bool, Bool.not_true, Bool.not_false, isInt_int, isBool_int, isTup_tup, len_tup, len_lst, toTup_lst, toTup_tup, toLst_tup, toLst_lst, walk_tup, walk_lst, c_ge, c_le, c_gt, c_lt, c_eq, c_ne, ix0, ix1, add_i, sub_i, bi_int, bi_mx, bi_mn, bindT_nm, bindT_tup, bindT_lst, bindTs_nil, bindTs_cons, List.set_cons_zero, List.set_cons_succ, wipeE, setAll, perm1, perm2, perm10, perm3, perm210, perm5, List.length_cons, List.length_nil, if_true, Option.map_some, lstB_mk]
  rw [cl_eq (g := f7) rfl]
  refine p7 ?_
  simp only [wSs, wS, wEs, wE, wT, wTo, wI, wO, OO_nx, OO_ret, OO_brk, OO_cnt, LO_nx, LO_cnt, LO_ret, LO_brk, RO_ret, RO_nx, getV, List.getElem?_cons_zero, List.getElem?_cons_succ, Option.bind_some, id_eq, OB_some, BB_true, BB_false, boolB_mk, intB_mk, tru_bool, Bool.not_true, Bool.not_false, isInt_int, isBool_int, isTup_tup, len_tup, len_lst, toTup_lst, toTup_tup, toLst_tup, toLst_lst, walk_tup, walk_lst, c_ge, c_le, c_gt, c_lt, c_eq, c_ne, ix0, ix1, add_i, sub_i, bi_int, bi_mx, bi_mn, bindT_nm, bindT_tup, bindT_lst, bindTs_nil, bindTs_cons, List.set_cons_zero, List.set_cons_succ, wipeE, setAll, perm1, perm2, perm10, perm3, perm210, perm5, List.length_cons, List.length_nil, if_true, Option.map_some, lstB_mk, decide_eq_true h, decide_eq_true h2]
  exact k
theorem p10 {a b : D} {P : D → Prop} (k : P (.bool true)) : Tot (f10 [.tuple [a, b]]) P := by
  refine run_ok ?_
  show wSs T10 b10 [some (.tuple [a, b])] _
  unfold b10
  simp only [wSs, wS, wEs, wE, wT, wTo, wI, wO, OO_nx, OO_ret, OO_brk, OO_cnt, LO_nx, LO_cnt, LO_ret, LO_brk, RO_ret, RO_nx, getV, List.getElem?_cons_zero, List.getElem?_cons_succ, Option.bind_some, id_eq, OB_some, BB_true, BB_false, boolB_mk, intB_mk, tru_bool, Bool.not_true, Bool.not_false, isInt_int, isBool_int, isTup_tup, len_tup, len_lst, toTup_lst, toTup_tup, toLst_tup, toLst_lst, walk_tup, walk_lst, c_ge, c_le, c_gt, c_lt, c_eq, c_ne, ix0, ix1, add_i, sub_i, bi_int, bi_mx, bi_mn, bindT_nm, bindT_tup, bindT_lst, bindTs_nil, bindTs_cons, List.set_cons_zero, List.set_cons_succ, wipeE, setAll, perm1, perm2, perm10, perm3, perm210, perm5, List.length_cons, List.length_nil, if_true, Option.map_some, lstB_mk]
  exact k
theorem p11 {rs : List Int} (h : Rs rs) {P : D → Prop} (k : P (.bool true)) : Tot (f11 [rsD rs]) P := by
  refine run_ok ?_
  show wSs T11 b11 [some (rsD rs), none] _
  unfold b11 rsD
  have h1 : (1 : Int) ≤ ((rs.map PyData.int).length : Int) := by
    have := List.length_pos_iff.mpr h.ne
    rw [List.length_map]
    omega
  have h2 : ((rs.map PyData.int).length : Int) ≤ 40 := by
    have := h.le
    rw [List.length_map]
    omega
  simp only [wSs, wS, wEs, wE, wT, wTo, wI, wO, OO_nx, OO_ret, OO_brk, OO_cnt, LO_nx, LO_cnt, LO_ret, LO_brk, RO_ret, RO_nx, getV, List.getElem?_cons_zero, List.getElem?_cons_succ, Option.bind_some, id_eq, OB_some, BB_true, BB_false, boolB_mk, intB_mk, tru_bool, Bool.not_true, Bool.not_false, isInt_int, isBool_int, isTup_tup, len_tup, len_lst, toTup_lst, toTup_tup, toLst_tup, toLst_lst, walk_tup, walk_lst, c_ge, c_le, c_gt, c_lt, c_eq, c_ne, ix0, ix1, add_i, sub_i, bi_int, bi_mx, bi_mn, bindT_nm, bindT_tup, bindT_lst, bindTs_nil, bindTs_cons, List.set_cons_zero, List.set_cons_succ, wipeE, setAll, perm1, perm2, perm10, perm3, perm210, perm5, List.length_cons, List.length_nil, if_true, Option.map_some, lstB_mk, decide_eq_true h1, decide_eq_true h2]
  refine CI_true (fun d hd a K l q => ?_) ?_
  · obtain ⟨r, hr, rfl⟩ := List.mem_map.mp hd
    rw [cl_eq (g := f8) rfl]
    refine p8 (h.ps r hr) ⟨?_, q⟩
    have := h.le
    rw [List.length_map] at l
    unfold cap
    omega
  · rw [all_true]
    simp only [wSs, wS, wEs, wE, wT, wTo, wI, wO, OO_nx, OO_ret, OO_brk, OO_cnt, LO_nx, LO_cnt, LO_ret, LO_brk, RO_ret, RO_nx, getV, List.getElem?_cons_zero, List.getElem?_cons_succ, Option.bind_some, id_eq, OB_some, BB_true, BB_false, boolB_mk, intB_mk, tru_bool, Bool.not_true, Bool.not_false, isInt_int, isBool_int, isTup_tup, len_tup, len_lst, toTup_lst, toTup_tup, toLst_tup, toLst_lst, walk_tup, walk_lst, c_ge, c_le, c_gt, c_lt, c_eq, c_ne, ix0, ix1, add_i, sub_i, bi_int, bi_mx, bi_mn, bindT_nm, bindT_tup, bindT_lst, bindTs_nil, bindTs_cons, List.set_cons_zero, List.set_cons_succ, wipeE, setAll, perm1, perm2, perm10, perm3, perm210, perm5, List.length_cons, List.length_nil, if_true, Option.map_some, lstB_mk]
    exact k
theorem p12 {rs : List Int} (h : Rs rs) {p : Pl} (hp : InP rs p) {P : D → Prop} (k : P (.bool true)) : Tot (f12 [rsD rs, plD p]) P := by
  refine run_ok ?_
  show wSs T12 b12 [some (rsD rs), some (plD p)] _
  obtain ⟨u, i, l, rfl, h1, h2⟩ := hp
  have hu := (List.getElem?_eq_some_iff.mp h1).1
  have e1 : ixD (.tuple (rs.map .int)) (.int (u : Int)) = some (.int l) := ix_nat_tup (by rw [List.getElem?_map, h1]; rfl)
  unfold b12 rsD plD
  simp only [wSs, wS, wEs, wE, wT, wTo, wI, wO, OO_nx, OO_ret, OO_brk, OO_cnt, LO_nx, LO_cnt, LO_ret, LO_brk, RO_ret, RO_nx, getV, List.getElem?_cons_zero, List.getElem?_cons_succ, Option.bind_some, id_eq, OB_some, BB_true, BB_false, boolB_mk, intB_mk, tru_bool, Bool.not_true, Bool.not_false, isInt_int, isBool_int, isTup_tup, len_tup, len_lst, toTup_lst, toTup_tup, toLst_tup, toLst_lst, walk_tup, walk_lst, c_ge, c_le, c_gt, c_lt, c_eq, c_ne, ix0, ix1, add_i, sub_i, bi_int, bi_mx, bi_mn, bindT_nm, bindT_tup, bindT_lst, bindTs_nil, bindTs_cons, List.set_cons_zero, List.set_cons_succ, wipeE, setAll, perm1, perm2, perm10, perm3, perm210, perm5, List.length_cons, List.length_nil, if_true, Option.map_some, lstB_mk]
  rw [cl_eq (g := f10) rfl]
  refine p10 ?_
  simp only [wSs, wS, wEs, wE, wT, wTo, wI, wO, OO_nx, OO_ret, OO_brk, OO_cnt, LO_nx, LO_cnt, LO_ret, LO_brk, RO_ret, RO_nx, getV, List.getElem?_cons_zero, List.getElem?_cons_succ, Option.bind_some, id_eq, OB_some, BB_true, BB_false, boolB_mk, intB_mk, tru_bool, Bool.not_true, Bool.not_false, isInt_int, isBool_int, isTup_tup, len_tup, len_lst, toTup_lst, toTup_tup, toLst_tup, toLst_lst, walk_tup, walk_lst, c_ge, c_le, c_gt, c_lt, c_eq, c_ne, ix0, ix1, add_i, sub_i, bi_int, bi_mx, bi_mn, bindT_nm, bindT_tup, bindT_lst, bindTs_nil, bindTs_cons, List.set_cons_zero, List.set_cons_succ, wipeE, setAll, perm1, perm2, perm10, perm3, perm210, perm5, List.length_cons, List.length_nil, if_true, Option.map_some, lstB_mk]
  rw [cl_eq (g := f9) rfl]
  refine p9 (by omega) (by rw [List.length_map]; omega) ?_
  simp only [wSs, wS, wEs, wE, wT, wTo, wI, wO, OO_nx, OO_ret, OO_brk, OO_cnt, LO_nx, LO_cnt, LO_ret, LO_brk, RO_ret, RO_nx, getV, List.getElem?_cons_zero, List.getElem?_cons_succ, Option.bind_some, id_eq, OB_some, BB_true, BB_false, boolB_mk, intB_mk, tru_bool, Bool.not_true, Bool.not_false, isInt_int, isBool_int, isTup_tup, len_tup, len_lst, toTup_lst, toTup_tup, toLst_tup, toLst_lst, walk_tup, walk_lst, c_ge, c_le, c_gt, c_lt, c_eq, c_ne, ix0, ix1, add_i, sub_i, bi_int, bi_mx, bi_mn, bindT_nm, bindT_tup, bindT_lst, bindTs_nil, bindTs_cons, List.set_cons_zero, List.set_cons_succ, wipeE, setAll, perm1, perm2, perm10, perm3, perm210, perm5, List.length_cons, List.length_nil, if_true, Option.map_some, lstB_mk, e1]
  rw [cl_eq (g := f9) rfl]
  exact p9 (by omega) (by omega) k
theorem p13 {rs : List Int} (h : Rs rs) {t : Tc} (h1 : InP rs t.1) (h2 : InP rs t.2) (h3 : plLt t.1 t.2) {P : D → Prop} (k : P (.bool true)) : Tot (f13 [rsD rs, tcD t]) P := by
  refine run_ok ?_
  show wSs T13 b13 [some (rsD rs), some (tcD t)] _
  have e : cmpop .lt (plD t.1) (plD t.2) = some true := by
    show (if PySem.W.alike (plD t.1) (plD t.2) && decide ((plD t.1).depth ≤ 60) && (plD t.1).plain && (plD t.2).plain then some (PySem.W.dataLt (plD t.1) (plD t.2)) else none) = _
    rw [plD_alike, plD_lt, decide_eq_true h3]
    rfl
  unfold b13 tcD
  simp only [wSs, wS, wEs, wE, wT, wTo, wI, wO, OO_nx, OO_ret, OO_brk, OO_cnt, LO_nx, LO_cnt, LO_ret, LO_brk, RO_ret, RO_nx, getV, List.getElem?_cons_zero, List.getElem?_cons_succ, Option.bind_some, id_eq, OB_some, BB_true, BB_false, boolB_mk, intB_mk, tru_bool, Bool.not_true, Bool.not_false, isInt_int, isBool_int, isTup_tup, len_tup, len_lst, toTup_lst, toTup_tup, toLst_tup, toLst_lst, walk_tup, walk_lst, c_ge, c_le, c_gt, c_lt, c_eq, c_ne, ix0, ix1, add_i, sub_i, bi_int, bi_mx, bi_mn, bindT_nm, bindT_tup, bindT_lst, bindTs_nil, bindTs_cons, List.set_cons_zero, List.set_cons_succ, wipeE, setAll, perm1, perm2, perm10, perm3, perm210, perm5, List.length_cons, List.length_nil, if_true, Option.map_some, lstB_mk]
  rw [cl_eq (g := f10) rfl]
  refine p10 ?_
  simp only [wSs, wS, wEs, wE, wT, wTo, wI, wO, OO_nx, OO_ret, OO_brk, OO_cnt, LO_nx, LO_cnt, LO_ret, LO_brk, RO_ret, RO_nx, getV, List.getElem?_cons_zero, List.getElem?_cons_succ, Option.bind_some, id_eq, OB_some, BB_true, BB_false, boolB_mk, intB_mk, tru_bool, Bool.not_true, Bool.not_false, isInt_int, isBool_int, isTup_tup, len_tup, len_lst, toTup_lst, toTup_tup, toLst_tup, toLst_lst, walk_tup, walk_lst, c_ge, c_le, c_gt, c_lt, c_eq, c_ne, ix0, ix1, add_i, sub_i, bi_int, bi_mx, bi_mn, bindT_nm, bindT_tup, bindT_lst, bindTs_nil, bindTs_cons, List.set_cons_zero, List.set_cons_succ, wipeE, setAll, perm1, perm2, perm10, perm3, perm210, perm5, List.length_cons, List.length_nil, if_true, Option.map_some, lstB_mk]
  rw [cl_eq (g := f12) rfl]
  refine p12 h h1 ?_
  simp only [wSs, wS, wEs, wE, wT, wTo, wI, wO, OO_nx, OO_ret, OO_brk, OO_cnt, LO_nx, LO_cnt, LO_ret, LO_brk, RO_ret, RO_nx, getV, List.getElem?_cons_zero, List.getElem?_cons_succ, Option.bind_some, id_eq, OB_some, BB_true, BB_false, boolB_mk, intB_mk, tru_bool, Bool.not_true, Bool.not_false, isInt_int, isBool_int, isTup_tup, len_tup, len_lst, toTup_lst, toTup_tup, toLst_tup, toLst_lst, walk_tup, walk_lst, c_ge, c_le, c_gt, c_lt, c_eq, c_ne, ix0, ix1, add_i, sub_i, bi_int, bi_mx, bi_mn, bindT_nm, bindT_tup, bindT_lst, bindTs_nil, bindTs_cons, List.set_cons_zero, List.set_cons_succ, wipeE, setAll, perm1, perm2, perm10, perm3, perm210, perm5, List.length_cons, List.length_nil, if_true, Option.map_some, lstB_mk]
  rw [cl_eq (g := f12) rfl]
  refine p12 h h2 ?_
  simp only [wSs, wS, wEs, wE, wT, wTo, wI, wO, OO_nx, OO_ret, OO_brk, OO_cnt, LO_nx, LO_cnt, LO_ret, LO_brk, RO_ret, RO_nx, getV, List.getElem?_cons_zero, List.getElem?_cons_succ, Option.bind_some, id_eq, OB_some, BB_true, BB_false, boolB_mk, intB_mk, tru_bool, Bool.not_true, Bool.not_false, isInt_int, isBool_int, isTup_tup, len_tup, len_lst, toTup_lst, toTup_tup, toLst_tup, toLst_lst, walk_tup, walk_lst, c_ge, c_le, c_gt, c_lt, c_eq, c_ne, ix0, ix1, add_i, sub_i, bi_int, bi_mx, bi_mn, bindT_nm, bindT_tup, bindT_lst, bindTs_nil, bindTs_cons, List.set_cons_zero, List.set_cons_succ, wipeE, setAll, perm1, perm2, perm10, perm3, perm210, perm5, List.length_cons, List.length_nil, if_true, Option.map_some, lstB_mk, e]
  exact k
theorem tcD_seq (t : Tc) : walkOf (tcD t) = some [plD t.1, plD t.2] := rfl
theorem flat_tc (ts : List Tc) : (ts.map tcD).flatMap (fun d => (walkOf d).getD []) = (ends ts).map plD := by
  unfold ends
  induction ts with
  | nil => rfl
  | cons t ts ih =>
    rw [List.map_cons, List.flatMap_cons, ih, List.flatMap_cons, List.map_append]
    rfl
theorem p14 {rs : List Int} {ts : List Tc} (h : Fl rs ts) {P : D → Prop} (k : P (.bool true)) : Tot (f14 [rsD rs, .tuple (ts.map tcD)]) P := by
  refine run_ok ?_
  show wSs T14 b14 [some (rsD rs), some (.tuple (ts.map tcD)), none, none, none] _
  have few := h.few
  have el := ends_len ts
  have e1 : bi .sorted [.tuple (ts.map tcD)] = some (.list (ts.map tcD)) := by
    refine sorted_bi (ds := ts.map tcD) rfl ?_
    rw [sorted_tc (by unfold cap; omega), h.so]
  have e2 : cmpop .eq (.list (ts.map tcD)) (.list (ts.map tcD)) = some true := by
    refine same_eq ?_ ?_
    · unfold PyData.plain
      exact plainAll_map fun t _ => rfl
    · unfold PyData.depth
      have := depthAll_map (f := tcD) (k := 2) (l := ts) fun t _ => by rw [tcD_depth]; omega
      omega
  have e3 : bi .lenSet [.list ((ends ts).map plD)] = some (.int (ends ts).length) := lenSet_pl h.nd (by omega)
  unfold b14
  simp only [wSs, wS, wEs, wE, wT, wTo, wI, wO, OO_nx, OO_ret, OO_brk, OO_cnt, LO_nx, LO_cnt, LO_ret, LO_brk, RO_ret, RO_nx, getV, List.getElem?_cons_zero, List.getElem?_cons_succ, Option.bind_some, id_eq, OB_some, BB_true, BB_false, boolB_mk, intB_mk, tru_bool, Bool.not_true, Bool.not_false, isInt_int, isBool_int, isTup_tup, len_tup, len_lst, toTup_lst, toTup_tup, toLst_tup, toLst_lst, walk_tup, walk_lst, c_ge, c_le, c_gt, c_lt, c_eq, c_ne, ix0, ix1, add_i, sub_i, bi_int, bi_mx, bi_mn, bindT_nm, bindT_tup, bindT_lst, bindTs_nil, bindTs_cons, List.set_cons_zero, List.set_cons_succ, wipeE, setAll, perm1, perm2, perm10, perm3, perm210, perm5, List.length_cons, List.length_nil, if_true, Option.map_some, lstB_mk]
  refine CI_true (fun d hd a K l q => ?_) ?_
  · obtain ⟨t, ht, rfl⟩ := List.mem_map.mp hd
    rw [cl_eq (g := f13) rfl]
    refine p13 h.rg (h.inn t ht).1 (h.inn t ht).2 (h.lt t ht) ⟨?_, q⟩
    rw [List.length_map] at l
    unfold cap
    omega
  rw [all_true]
  simp only [wSs, wS, wEs, wE, wT, wTo, wI, wO, OO_nx, OO_ret, OO_brk, OO_cnt, LO_nx, LO_cnt, LO_ret, LO_brk, RO_ret, RO_nx, getV, List.getElem?_cons_zero, List.getElem?_cons_succ, Option.bind_some, id_eq, OB_some, BB_true, BB_false, boolB_mk, intB_mk, tru_bool, Bool.not_true, Bool.not_false, isInt_int, isBool_int, isTup_tup, len_tup, len_lst, toTup_lst, toTup_tup, toLst_tup, toLst_lst, walk_tup, walk_lst, c_ge, c_le, c_gt, c_lt, c_eq, c_ne, ix0, ix1, add_i, sub_i, bi_int, bi_mx, bi_mn, bindT_nm, bindT_tup, bindT_lst, bindTs_nil, bindTs_cons, List.set_cons_zero, List.set_cons_succ, wipeE, setAll, perm1, perm2, perm10, perm3, perm210, perm5, List.length_cons, List.length_nil, if_true, Option.map_some, lstB_mk]
  refine CI_flat (g := fun d => (walkOf d).getD []) (fun d hd a K l q => ?_) ?_
  · obtain ⟨t, ht, rfl⟩ := List.mem_map.mp hd
    rw [flat_tc, List.length_map] at l
    simp only [tcD_seq, OB_some, Option.getD_some, List.length_cons, List.length_nil] at l q ⊢
    refine CI_flat (g := fun d => [d]) (fun d hd b K l2 q => ?_) ?_
    · refine ⟨?_, q⟩
      simp only [List.flatMap_cons, List.flatMap_nil, List.append_nil, List.length_append, List.length_cons, List.length_nil] at l2
      unfold cap
      omega
    · exact q
  · rw [flat_tc, List.nil_append]
    simp only [wSs, wS, wEs, wE, wT, wTo, wI, wO, OO_nx, OO_ret, OO_brk, OO_cnt, LO_nx, LO_cnt, LO_ret, LO_brk, RO_ret, RO_nx, getV, List.getElem?_cons_zero, List.getElem?_cons_succ, Option.bind_some, id_eq, OB_some, BB_true, BB_false, boolB_mk, intB_mk, tru_bool, Bool.not_true, Bool.not_false, isInt_int, isBool_int, isTup_tup, len_tup, len_lst, toTup_lst, toTup_tup, toLst_tup, toLst_lst, walk_tup, walk_lst, c_ge, c_le, c_gt, c_lt, c_eq, c_ne, ix0, ix1, add_i, sub_i, bi_int, bi_mx, bi_mn, bindT_nm, bindT_tup, bindT_lst, bindTs_nil, bindTs_cons, List.set_cons_zero, List.set_cons_succ, wipeE, setAll, perm1, perm2, perm10, perm3, perm210, perm5, List.length_cons, List.length_nil, if_true, Option.map_some, lstB_mk, e1, e2, e3, List.length_map]
    simp only [decide_true]
    exact k
theorem p15 {rs : List Int} {ts : List Tc} (h : Fl rs ts) {P : D → Prop} (k : P (.bool true)) : Tot (f15 [flD rs ts]) P := by
  refine run_ok ?_
  show wSs T15 b15 [some (flD rs ts)] _
  unfold b15 flD
  simp only [wSs, wS, wEs, wE, wT, wTo, wI, wO, OO_nx, OO_ret, OO_brk, OO_cnt, LO_nx, LO_cnt, LO_ret, LO_brk, RO_ret, RO_nx, getV, List.getElem?_cons_zero, List.getElem?_cons_succ, Option.bind_some, id_eq, OB_some, BB_true, BB_false, boolB_mk, intB_mk, tru_bool, Bool.not_true, Bool.not_false, isInt_int, isBool_int, isTup_tup, len_tup, len_lst, toTup_lst, toTup_tup, toLst_tup, toLst_lst, walk_tup, walk_lst, c_ge, c_le, c_gt, c_lt, c_eq, c_ne, ix0, ix1, add_i, sub_i, bi_int, bi_mx, bi_mn, bindT_nm, bindT_tup, bindT_lst, bindTs_nil, bindTs_cons, List.set_cons_zero, List.set_cons_succ, wipeE, setAll, perm1, perm2, perm10, perm3, perm210, perm5, List.length_cons, List.length_nil, if_true, Option.map_some, lstB_mk]
  rw [cl_eq (g := f10) rfl]
  refine p10 ?_
  simp only [wSs, wS, wEs, wE, wT, wTo, wI, wO, OO_nx, OO_ret, OO_brk, OO_cnt, LO_nx, LO_cnt, LO_ret, LO_brk, RO_ret, RO_nx, getV, List.getElem?_cons_zero, List.getElem?_cons_succ, Option.bind_some, id_eq, OB_some, BB_true, BB_false, boolB_mk, intB_mk, tru_bool, Bool.not_true, Bool.not_false, isInt_int, isBool_int, isTup_tup, len_tup, len_lst, toTup_lst, toTup_tup, toLst_tup, toLst_lst, walk_tup, walk_lst, c_ge, c_le, c_gt, c_lt, c_eq, c_ne, ix0, ix1, add_i, sub_i, bi_int, bi_mx, bi_mn, bindT_nm, bindT_tup, bindT_lst, bindTs_nil, bindTs_cons, List.set_cons_zero, List.set_cons_succ, wipeE, setAll, perm1, perm2, perm10, perm3, perm210, perm5, List.length_cons, List.length_nil, if_true, Option.map_some, lstB_mk]
  rw [cl_eq (g := f11) rfl]
  refine p11 h.rg ?_
  simp only [wSs, wS, wEs, wE, wT, wTo, wI, wO, OO_nx, OO_ret, OO_brk, OO_cnt, LO_nx, LO_cnt, LO_ret, LO_brk, RO_ret, RO_nx, getV, List.getElem?_cons_zero, List.getElem?_cons_succ, Option.bind_some, id_eq, OB_some, BB_true, BB_false, boolB_mk, intB_mk, tru_bool, Bool.not_true, Bool.not_false, isInt_int, isBool_int, isTup_tup, len_tup, len_lst, toTup_lst, toTup_tup, toLst_tup, toLst_lst, walk_tup, walk_lst, c_ge, c_le, c_gt, c_lt, c_eq, c_ne, ix0, ix1, add_i, sub_i, bi_int, bi_mx, bi_mn, bindT_nm, bindT_tup, bindT_lst, bindTs_nil, bindTs_cons, List.set_cons_zero, List.set_cons_succ, wipeE, setAll, perm1, perm2, perm10, perm3, perm210, perm5, List.length_cons, List.length_nil, if_true, Option.map_some, lstB_mk]
  rw [cl_eq (g := f14) rfl]
  exact p14 h k
theorem p16 {rs : List Int} {ts : List Tc} (h : Fl rs ts) {P : D → Prop} (k : P .none) : Tot (f16 [flD rs ts]) P := by
  refine run_ok ?_
  show wSs T16 b16 [some (flD rs ts)] _
  unfold b16
  simp only [wSs, wS, wEs, wE, wT, wTo, wI, wO, OO_nx, OO_ret, OO_brk, OO_cnt, LO_nx, LO_cnt, LO_ret, LO_brk, RO_ret, RO_nx, getV, List.getElem?_cons_zero, List.getElem?_cons_succ, Option.bind_some, id_eq, OB_some, BB_true, BB_false, boolB_mk, intB_mk, tru_bool, Bool.not_true, Bool.not_false, isInt_int, isBool_int, isTup_tup, len_tup, len_lst, toTup_lst, toTup_tup, toLst_tup, toLst_lst, walk_tup, walk_lst, c_ge, c_le, c_gt, c_lt, c_eq, c_ne, ix0, ix1, add_i, sub_i, bi_int, bi_mx, bi_mn, bindT_nm, bindT_tup, bindT_lst, bindTs_nil, bindTs_cons, List.set_cons_zero, List.set_cons_succ, wipeE, setAll, perm1, perm2, perm10, perm3, perm210, perm5, List.length_cons, List.length_nil, if_true, Option.map_some, lstB_mk]
  rw [cl_eq (g := f15) rfl]
  refine p15 h ?_
  simp only [wSs, wS, wEs, wE, wT, wTo, wI, wO, OO_nx, OO_ret, OO_brk, OO_cnt, LO_nx, LO_cnt, LO_ret, LO_brk, RO_ret, RO_nx, getV, List.getElem?_cons_zero, List.getElem?_cons_succ, Option.bind_some, id_eq, OB_some, BB_true, BB_false, boolB_mk, intB_mk, tru_bool, Bool.not_true, Bool.not_false, isInt_int, isBool_int, isTup_tup, len_tup, len_lst, toTup_lst, toTup_tup, toLst_tup, toLst_lst, walk_tup, walk_lst, c_ge, c_le, c_gt, c_lt, c_eq, c_ne, ix0, ix1, add_i, sub_i, bi_int, bi_mx, bi_mn, bindT_nm, bindT_tup, bindT_lst, bindTs_nil, bindTs_cons, List.set_cons_zero, List.set_cons_succ, wipeE, setAll, perm1, perm2, perm10, perm3, perm210, perm5, List.length_cons, List.length_nil, if_true, Option.map_some, lstB_mk]
  exact k
theorem p17 {rs : List Int} {ts : List Tc} (h : Fl rs ts) {p : Pl} (hp : InP rs p) {P : D → Prop} (k : P .none) : Tot (f17 [flD rs ts, .tuple [plD p]]) P := by
  refine run_ok ?_
  show wSs T17 b17 [some (flD rs ts), some (.tuple [plD p]), none] _
  unfold b17
  simp only [wSs, wS, wEs, wE, wT, wTo, wI, wO, OO_nx, OO_ret, OO_brk, OO_cnt, LO_nx, LO_cnt, LO_ret, LO_brk, RO_ret, RO_nx, getV, List.getElem?_cons_zero, List.getElem?_cons_succ, Option.bind_some, id_eq, OB_some, BB_true, BB_false, boolB_mk, intB_mk, tru_bool, Bool.not_true, Bool.not_false, isInt_int, isBool_int, isTup_tup, len_tup, len_lst, toTup_lst, toTup_tup, toLst_tup, toLst_lst, walk_tup, walk_lst, c_ge, c_le, c_gt, c_lt, c_eq, c_ne, ix0, ix1, add_i, sub_i, bi_int, bi_mx, bi_mn, bindT_nm, bindT_tup, bindT_lst, bindTs_nil, bindTs_cons, List.set_cons_zero, List.set_cons_succ, wipeE, setAll, perm1, perm2, perm10, perm3, perm210, perm5, List.length_cons, List.length_nil, if_true, Option.map_some, lstB_mk]
  rw [cl_eq (g := f16) rfl]
  refine p16 h ?_
  refine FI_keep (fun e => ∃ x, e = [some (flD rs ts), some (.tuple [plD p]), x]) ⟨_, rfl⟩ ?_ ?_
  · rintro d hd e ⟨x, rfl⟩
    obtain rfl : d = plD p := by simpa using hd
    unfold flD
    simp only [wSs, wS, wEs, wE, wT, wTo, wI, wO, OO_nx, OO_ret, OO_brk, OO_cnt, LO_nx, LO_cnt, LO_ret, LO_brk, RO_ret, RO_nx, getV, List.getElem?_cons_zero, List.getElem?_cons_succ, Option.bind_some, id_eq, OB_some, BB_true, BB_false, boolB_mk, intB_mk, tru_bool, Bool.not_true, Bool.not_false, isInt_int, isBool_int, isTup_tup, len_tup, len_lst, toTup_lst, toTup_tup, toLst_tup, toLst_lst, walk_tup, walk_lst, c_ge, c_le, c_gt, c_lt, c_eq, c_ne, ix0, ix1, add_i, sub_i, bi_int, bi_mx, bi_mn, bindT_nm, bindT_tup, bindT_lst, bindTs_nil, bindTs_cons, List.set_cons_zero, List.set_cons_succ, wipeE, setAll, perm1, perm2, perm10, perm3, perm210, perm5, List.length_cons, List.length_nil, if_true, Option.map_some, lstB_mk]
    rw [cl_eq (g := f12) rfl]
    refine p12 h.rg hp ?_
    simp only [wSs, wS, wEs, wE, wT, wTo, wI, wO, OO_nx, OO_ret, OO_brk, OO_cnt, LO_nx, LO_cnt, LO_ret, LO_brk, RO_ret, RO_nx, getV, List.getElem?_cons_zero, List.getElem?_cons_succ, Option.bind_some, id_eq, OB_some, BB_true, BB_false, boolB_mk, intB_mk, tru_bool, Bool.not_true, Bool.not_false, isInt_int, isBool_int, isTup_tup, len_tup, len_lst, toTup_lst, toTup_tup, toLst_tup, toLst_lst, walk_tup, walk_lst, c_ge, c_le, c_gt, c_lt, c_eq, c_ne, ix0, ix1, add_i, sub_i, bi_int, bi_mx, bi_mn, bindT_nm, bindT_tup, bindT_lst, bindTs_nil, bindTs_cons, List.set_cons_zero, List.set_cons_succ, wipeE, setAll, perm1, perm2, perm10, perm3, perm210, perm5, List.length_cons, List.length_nil, if_true, Option.map_some, lstB_mk]
    exact ⟨_, rfl⟩
  · rintro e ⟨x, rfl⟩
    exact k
theorem p18 {rs : List Int} (h : Rs rs) (hs : (spots rs).length ≤ 63) {P : D → Prop} (k : P (.list ((spots rs).map plD))) : Tot (f18 [rsD rs]) P := by
  refine run_ok ?_
  show wSs T18 b18 [some (rsD rs), none, none, none] _
  unfold b18 rsD
  simp only [wSs, wS, wEs, wE, wT, wTo, wI, wO, OO_nx, OO_ret, OO_brk, OO_cnt, LO_nx, LO_cnt, LO_ret, LO_brk, RO_ret, RO_nx, getV, List.getElem?_cons_zero, List.getElem?_cons_succ, Option.bind_some, id_eq, OB_some, BB_true, BB_false, boolB_mk, intB_mk, tru_bool, Bool.not_true, Bool.not_false, isInt_int, isBool_int, isTup_tup, len_tup, len_lst, toTup_lst, toTup_tup, toLst_tup, toLst_lst, walk_tup, walk_lst, c_ge, c_le, c_gt, c_lt, c_eq, c_ne, ix0, ix1, add_i, sub_i, bi_int, bi_mx, bi_mn, bindT_nm, bindT_tup, bindT_lst, bindTs_nil, bindTs_cons, List.set_cons_zero, List.set_cons_succ, wipeE, setAll, perm1, perm2, perm10, perm3, perm210, perm5, List.length_cons, List.length_nil, if_true, Option.map_some, lstB_mk, enum_eq]
  refine ⟨fun r a => ∃ u, ∃ r' : List Int, (∃ pre, rs = pre ++ r' ∧ pre.length = u) ∧ r = enumK u (r'.map .int) ∧ a ++ (spF u r').map plD = (spots rs).map plD, ⟨0, rs, ⟨[], rfl, rfl⟩, rfl, rfl⟩, ?_, ?_⟩
  · rintro d r a ⟨u, r', ⟨pre, e1, e0⟩, e2, e3⟩
    cases r' with
    | nil => cases e2
    | cons l r' =>
      rw [List.map_cons, enumK_cons] at e2
      obtain ⟨rfl, rfl⟩ := List.cons.inj e2
      have hl := h.ps l (by rw [e1]; simp)
      first | rw [spF_cons] at e3 | rw [spF_nil] at e3
      rw [List.map_append, ← List.append_assoc] at e3
      have len := congrArg List.length e3
      simp only [List.length_append, List.length_map, List.length_range] at len
      simp only [wSs, wS, wEs, wE, wT, wTo, wI, wO, OO_nx, OO_ret, OO_brk, OO_cnt, LO_nx, LO_cnt, LO_ret, LO_brk, RO_ret, RO_nx, getV, List.getElem?_cons_zero, List.getElem?_cons_succ, Option.bind_some, id_eq, OB_some, BB_true, BB_false, boolB_mk, intB_mk, tru_bool, Bool.not_true, Bool.not_false, isInt_int, isBool_int, isTup_tup, len_tup, len_lst, toTup_lst, toTup_tup, toLst_tup, toLst_lst, walk_tup, walk_lst, c_ge, c_le, c_gt, c_lt, c_eq, c_ne, ix0, ix1, add_i, sub_i, bi_int, bi_mx, bi_mn, bindT_nm, bindT_tup, bindT_lst, bindTs_nil, bindTs_cons, List.set_cons_zero, List.set_cons_succ, wipeE, setAll, perm1, perm2, perm10, perm3, perm210, perm5, List.length_cons, List.length_nil, if_true, Option.map_some, lstB_mk]
      rw [range_one (by omega)]
      have er : rangeD 0 l = (List.range l.toNat).map fun (i : Nat) => .int (i : Int) := by
        rw [show l = ((l.toNat : Nat) : Int) by omega, rangeD_nat]
        rfl
      rw [er]
      simp only [wSs, wS, wEs, wE, wT, wTo, wI, wO, OO_nx, OO_ret, OO_brk, OO_cnt, LO_nx, LO_cnt, LO_ret, LO_brk, RO_ret, RO_nx, getV, List.getElem?_cons_zero, List.getElem?_cons_succ, Option.bind_some, id_eq, OB_some, BB_true, BB_false, boolB_mk, intB_mk, tru_bool, Bool.not_true, Bool.not_false, isInt_int, isBool_int, isTup_tup, len_tup, len_lst, toTup_lst, toTup_tup, toLst_tup, toLst_lst, walk_tup, walk_lst, c_ge, c_le, c_gt, c_lt, c_eq, c_ne, ix0, ix1, add_i, sub_i, bi_int, bi_mx, bi_mn, bindT_nm, bindT_tup, bindT_lst, bindTs_nil, bindTs_cons, List.set_cons_zero, List.set_cons_succ, wipeE, setAll, perm1, perm2, perm10, perm3, perm210, perm5, List.length_cons, List.length_nil, if_true, Option.map_some, lstB_mk]
      refine CI_map (f := fun d => .tuple [.int (u : Nat), d]) (fun d hd b K l2 q => ?_) ?_
      · obtain ⟨i, hi, rfl⟩ := List.mem_map.mp hd
        refine ⟨?_, q⟩
        simp only [List.length_map, List.length_range] at l2
        unfold cap
        omega
      · refine ⟨u + 1, r', ⟨pre ++ [l], by rw [e1]; simp, by simp [e0]⟩, rfl, ?_⟩
        rw [← e3]
        congr 2
        rw [List.map_map, List.map_map]
        rfl
  · rintro a ⟨u, r', _, e2, e3⟩
    cases r' with
    | nil =>
      first | rw [spF_cons] at e3 | rw [spF_nil] at e3
      rw [List.map_nil, List.append_nil] at e3
      rw [e3]
      exact k
    | cons l r' =>
      rw [List.map_cons, enumK_cons] at e2
      cases e2
theorem p30 {rs : List Int} (h : ∀ r ∈ rs, 1 ≤ r) (hs : (spots rs).length ≤ 63) {d : D} (hd : walkOf d = some (rs.map .int)) {P : D → Prop} (k : P (.list ((spots rs).map plD))) : Tot (f30 [d]) P := by
  refine run_ok ?_
  show wSs T30 b30 [some d, none, none, none, none] _
  unfold b30
  simp only [wSs, wS, wEs, wE, wT, wTo, wI, wO, OO_nx, OO_ret, OO_brk, OO_cnt, LO_nx, LO_cnt, LO_ret, LO_brk, RO_ret, RO_nx, getV, List.getElem?_cons_zero, List.getElem?_cons_succ, Option.bind_some, id_eq, OB_some, BB_true, BB_false, boolB_mk, intB_mk, tru_bool, Bool.not_true, Bool.not_false, isInt_int, isBool_int, isTup_tup, len_tup, len_lst, toTup_lst, toTup_tup, toLst_tup, toLst_lst, walk_tup, walk_lst, c_ge, c_le, c_gt, c_lt, c_eq, c_ne, ix0, ix1, add_i, sub_i, bi_int, bi_mx, bi_mn, bindT_nm, bindT_tup, bindT_lst, bindTs_nil, bindTs_cons, List.set_cons_zero, List.set_cons_succ, wipeE, setAll, perm1, perm2, perm10, perm3, perm210, perm5, List.length_cons, List.length_nil, if_true, Option.map_some, lstB_mk, hd, enum_eq]
  refine ⟨fun r e => ∃ u, ∃ r' : List Int, ∃ a : List D, ∃ x y z, (∃ pre, rs = pre ++ r') ∧ r = enumK u (r'.map .int) ∧ a ++ (spF u r').map plD = (spots rs).map plD ∧ e = [some d, some (.list a), x, y, z], ⟨0, rs, [], _, _, _, ⟨[], rfl⟩, rfl, rfl, rfl⟩, ?_, ?_⟩
  · rintro d1 r e ⟨u, r', a, x, y, z, ⟨pre, e1⟩, e2, e3, rfl⟩
    cases r' with
    | nil => cases e2
    | cons l r' =>
      rw [List.map_cons, enumK_cons] at e2
      obtain ⟨rfl, rfl⟩ := List.cons.inj e2
      have hl := h l (by rw [e1]; simp)
      first | rw [spF_cons] at e3 | rw [spF_nil] at e3
      rw [List.map_append, ← List.append_assoc] at e3
      have len := congrArg List.length e3
      simp only [List.length_append, List.length_map, List.length_range] at len
      simp only [wSs, wS, wEs, wE, wT, wTo, wI, wO, OO_nx, OO_ret, OO_brk, OO_cnt, LO_nx, LO_cnt, LO_ret, LO_brk, RO_ret, RO_nx, getV, List.getElem?_cons_zero, List.getElem?_cons_succ, Option.bind_some, id_eq, OB_some, BB_true, BB_false, boolB_mk, intB_mk, tru_bool, Bool.not_true, Bool.not_false, isInt_int, isBool_int, isTup_tup, len_tup, len_lst, toTup_lst, toTup_tup, toLst_tup, toLst_lst, walk_tup, walk_lst, c_ge, c_le, c_gt, c_lt, c_eq, c_ne, ix0, ix1, add_i, sub_i, bi_int, bi_mx, bi_mn, bindT_nm, bindT_tup, bindT_lst, bindTs_nil, bindTs_cons, List.set_cons_zero, List.set_cons_succ, wipeE, setAll, perm1, perm2, perm10, perm3, perm210, perm5, List.length_cons, List.length_nil, if_true, Option.map_some, lstB_mk]
      rw [range_one (by omega)]
      have er : rangeD 0 l = (List.range l.toNat).map fun (i : Nat) => .int (i : Int) := by
        rw [show l = ((l.toNat : Nat) : Int) by omega, rangeD_nat]
        rfl
      rw [er]
      simp only [wSs, wS, wEs, wE, wT, wTo, wI, wO, OO_nx, OO_ret, OO_brk, OO_cnt, LO_nx, LO_cnt, LO_ret, LO_brk, RO_ret, RO_nx, getV, List.getElem?_cons_zero, List.getElem?_cons_succ, Option.bind_some, id_eq, OB_some, BB_true, BB_false, boolB_mk, intB_mk, tru_bool, Bool.not_true, Bool.not_false, isInt_int, isBool_int, isTup_tup, len_tup, len_lst, toTup_lst, toTup_tup, toLst_tup, toLst_lst, walk_tup, walk_lst, c_ge, c_le, c_gt, c_lt, c_eq, c_ne, ix0, ix1, add_i, sub_i, bi_int, bi_mx, bi_mn, bindT_nm, bindT_tup, bindT_lst, bindTs_nil, bindTs_cons, List.set_cons_zero, List.set_cons_succ, wipeE, setAll, perm1, perm2, perm10, perm3, perm210, perm5, List.length_cons, List.length_nil, if_true, Option.map_some, lstB_mk]
      refine CI_map (f := fun d => .tuple [.int (u : Nat), d]) (fun d hd b K l2 q => ?_) ?_
      · obtain ⟨i, hi, rfl⟩ := List.mem_map.mp hd
        refine ⟨?_, q⟩
        simp only [List.length_map, List.length_range, List.length_nil] at l2
        unfold cap
        omega
      · refine OB.mk rfl ⟨?_, ?_⟩
        · simp only [List.length_append, List.length_map, List.length_range, List.length_nil]
          unfold cap
          omega
        · refine ⟨u + 1, r', _, _, _, _, ⟨pre ++ [l], by rw [e1]; simp⟩, rfl, ?_, rfl⟩
          rw [← e3, List.nil_append]
          congr 2
          rw [List.map_map, List.map_map]
          rfl
  · rintro e ⟨u, r', a, x, y, z, _, e2, e3, rfl⟩
    cases r' with
    | nil =>
      first | rw [spF_cons] at e3 | rw [spF_nil] at e3
      rw [List.map_nil, List.append_nil] at e3
      simp only [wSs, wS, wEs, wE, wT, wTo, wI, wO, OO_nx, OO_ret, OO_brk, OO_cnt, LO_nx, LO_cnt, LO_ret, LO_brk, RO_ret, RO_nx, getV, List.getElem?_cons_zero, List.getElem?_cons_succ, Option.bind_some, id_eq, OB_some, BB_true, BB_false, boolB_mk, intB_mk, tru_bool, Bool.not_true, Bool.not_false, isInt_int, isBool_int, isTup_tup, len_tup, len_lst, toTup_lst, toTup_tup, toLst_tup, toLst_lst, walk_tup, walk_lst, c_ge, c_le, c_gt, c_lt, c_eq, c_ne, ix0, ix1, add_i, sub_i, bi_int, bi_mx, bi_mn, bindT_nm, bindT_tup, bindT_lst, bindTs_nil, bindTs_cons, List.set_cons_zero, List.set_cons_succ, wipeE, setAll, perm1, perm2, perm10, perm3, perm210, perm5, List.length_cons, List.length_nil, if_true, Option.map_some, lstB_mk]
      rw [e3]
      exact k
    | cons l r' =>
      rw [List.map_cons, enumK_cons] at e2
      cases e2
end GK02
namespace GK02
open PySem PD
theorem p19 {rs : List Int} {u i : Nat} (h : u ≤ rs.length) {P : D → Prop} (k : P (.int ((rs.take u).sum + i))) : Tot (f19 [rsD rs, plD ((u : Int), (i : Int))]) P := by
  refine run_ok ?_
  show wSs T19 b19 [some (rsD rs), some (plD ((u : Int), (i : Int)))] _
  unfold b19 rsD plD
  try simp only [wSs, wS, wEs, wE, wT, wTo, wI, wO, OO_nx, OO_ret, OO_brk, OO_cnt, LO_nx, LO_cnt, LO_ret, LO_brk, RO_ret, RO_nx, getV, List.getElem?_cons_zero, List.getElem?_cons_succ, Option.bind_some, id_eq, OB_some, BB_true, BB_false, boolB_mk, intB_mk, tru_bool, Bool.not_true, Bool.not_false, isInt_int, isBool_int, isTup_tup, len_tup, len_lst, toTup_lst, toTup_tup, toLst_tup, toLst_lst, walk_tup, walk_lst, c_ge, c_le, c_gt, c_lt, c_eq, c_ne, ix0, ix1, add_i, sub_i, bi_int, bi_mx, bi_mn, bindT_nm, bindT_tup, bindT_lst, bindTs_nil, bindTs_cons, List.set_cons_zero, List.set_cons_succ, wipeE, setAll, perm1, perm2, perm10, perm3, perm210, perm5, List.length_cons, List.length_nil, if_true, Option.map_some, lstB_mk, sliceD]
  rw [cut_take (by rw [List.length_map]; exact h), ← List.map_take, sum_tup]
  try simp only [wSs, wS, wEs, wE, wT, wTo, wI, wO, OO_nx, OO_ret, OO_brk, OO_cnt, LO_nx, LO_cnt, LO_ret, LO_brk, RO_ret, RO_nx, getV, List.getElem?_cons_zero, List.getElem?_cons_succ, Option.bind_some, id_eq, OB_some, BB_true, BB_false, boolB_mk, intB_mk, tru_bool, Bool.not_true, Bool.not_false, isInt_int, isBool_int, isTup_tup, len_tup, len_lst, toTup_lst, toTup_tup, toLst_tup, toLst_lst, walk_tup, walk_lst, c_ge, c_le, c_gt, c_lt, c_eq, c_ne, ix0, ix1, add_i, sub_i, bi_int, bi_mx, bi_mn, bindT_nm, bindT_tup, bindT_lst, bindTs_nil, bindTs_cons, List.set_cons_zero, List.set_cons_succ, wipeE, setAll, perm1, perm2, perm10, perm3, perm210, perm5, List.length_cons, List.length_nil, if_true, Option.map_some, lstB_mk]
  exact k
theorem p20 {rs : List Int} {u : Nat} {i j l : Int} (h : rs[u]? = some l) (h0 : 1 ≤ l) {P : D → Prop} (k : P (plD ((u : Int), (i + j).fmod l))) : Tot (f20 [rsD rs, plD ((u : Int), i), .int j]) P := by
  refine run_ok ?_
  show wSs T20 b20 [some (rsD rs), some (plD ((u : Int), i)), some (.int j)] _
  have e1 : ixD (.tuple (rs.map .int)) (.int (u : Int)) = some (.int l) := ix_nat_tup (by rw [List.getElem?_map, h]; rfl)
  unfold b20 rsD plD
  try simp only [wSs, wS, wEs, wE, wT, wTo, wI, wO, OO_nx, OO_ret, OO_brk, OO_cnt, LO_nx, LO_cnt, LO_ret, LO_brk, RO_ret, RO_nx, getV, List.getElem?_cons_zero, List.getElem?_cons_succ, Option.bind_some, id_eq, OB_some, BB_true, BB_false, boolB_mk, intB_mk, tru_bool, Bool.not_true, Bool.not_false, isInt_int, isBool_int, isTup_tup, len_tup, len_lst, toTup_lst, toTup_tup, toLst_tup, toLst_lst, walk_tup, walk_lst, c_ge, c_le, c_gt, c_lt, c_eq, c_ne, ix0, ix1, add_i, sub_i, bi_int, bi_mx, bi_mn, bindT_nm, bindT_tup, bindT_lst, bindTs_nil, bindTs_cons, List.set_cons_zero, List.set_cons_succ, wipeE, setAll, perm1, perm2, perm10, perm3, perm210, perm5, List.length_cons, List.length_nil, if_true, Option.map_some, lstB_mk, e1]
  rw [mod_s (by omega)]
  exact k
/-- the loop over touches -/
theorem dm_snoc (ts : List Tc) (t : Tc) : dm (ts ++ [t]) = dm ts ++ [(t.1, t.2), (t.2, t.1)] := by
  unfold dm
  rw [List.flatMap_append]
  rfl
theorem ends_app (a b : List Tc) : ends (a ++ b) = ends a ++ ends b := by
  unfold ends
  rw [List.flatMap_append]
theorem put2 {pre r : List Tc} {t : Tc} (h : (ends (pre ++ t :: r)).Nodup) : putD (putD (dmD (dm pre)) (plD t.1) (plD t.2)) (plD t.2) (plD t.1) = dmD (dm (pre ++ [t])) := by
  rw [ends_app] at h
  have e : ends (t :: r) = t.1 :: t.2 :: ends r := rfl
  rw [e] at h
  have h2 := List.nodup_append.mp h
  have n1 : t.1 ∉ ends pre := fun z => h2.2.2 _ z _ (by simp) rfl
  have n2 : t.2 ∉ ends pre := fun z => h2.2.2 _ z _ (by simp) rfl
  have n3 : t.1 ≠ t.2 := by
    have := (List.nodup_cons.mp h2.2.1).1
    simp at this
    exact this.1
  rw [dm_put (by rw [dm_keys]; exact n1), dm_put, dm_snoc, List.append_assoc]
  · rfl
  · rw [List.map_append, dm_keys]
    simp
    exact ⟨n2, fun e => n3 e.symm⟩
theorem sset_dm {m : DM} {p q : Pl} (hl : m.length < 100) : updP (fun y => mutD .set y [plD p, plD q]) [] (.dict (dmD m)) = some (.dict (putD (dmD m) (plD p) (plD q))) := by
  have e : mutD .set (.dict (dmD m)) [plD p, plD q] = some (.dict (putD (dmD m) (plD p) (plD q))) := by
    have c : (fits (dmD m) (plD p) && decide ((dmD m).length < cap)) = true := by
      rw [dm_fits]
      unfold dmD cap
      rw [List.length_map]
      simpa using (by omega : m.length < 10000000)
    cases m with
    | nil => rfl
    | cons x m =>
      show (if fits (dmD (x :: m)) (plD p) && decide ((dmD (x :: m)).length < cap) then some (PyData.dict (putD (dmD (x :: m)) (plD p) (plD q))) else none) = _
      rw [if_pos c]
  simp only [updP]
  exact e
theorem sset_dm2 {m : DM} {p q p' q' : Pl} (hl : m.length < 99) : updP (fun y => mutD .set y [plD p, plD q]) [] (.dict (putD (dmD m) (plD p') (plD q'))) = some (.dict (putD (putD (dmD m) (plD p') (plD q')) (plD p) (plD q))) := by
  by_cases h : p' ∈ m.map (·.1)
  · have e : putD (dmD m) (plD p') (plD q') = dmD (m.map fun x => if x.1 = p' then (x.1, q') else x) := by
      unfold putD
      rw [dm_keyed, decide_eq_true h, if_pos rfl]
      unfold dmD
      rw [List.map_map, List.map_map]
      refine List.map_congr_left fun x hx => ?_
      simp only [Function.comp, plD_eqv, decide_eq_true_eq]
      split <;> rfl
    rw [e, sset_dm (by simpa using (by omega : m.length < 100))]
  · rw [dm_put h, sset_dm (by rw [List.length_append]; simp; omega)]
theorem dm_len (ts : List Tc) : (dm ts).length = 2 * ts.length := by
  have := congrArg List.length (dm_keys ts)
  rw [List.length_map, ends_len] at this
  exact this
theorem p21 {rs : List Int} {ts : List Tc} (h : Fl rs ts) {P : D → Prop} (k : P (.dict (dmD (dm ts)))) : Tot (f21 [flD rs ts]) P := by
  refine run_ok ?_
  show wSs T21 b21 [some (flD rs ts), none, none, none] _
  unfold b21 flD
  try simp only [wSs, wS, wEs, wE, wT, wTo, wI, wO, OO_nx, OO_ret, OO_brk, OO_cnt, LO_nx, LO_cnt, LO_ret, LO_brk, RO_ret, RO_nx, getV, List.getElem?_cons_zero, List.getElem?_cons_succ, Option.bind_some, id_eq, OB_some, BB_true, BB_false, boolB_mk, intB_mk, tru_bool, Bool.not_true, Bool.not_false, isInt_int, isBool_int, isTup_tup, len_tup, len_lst, toTup_lst, toTup_tup, toLst_tup, toLst_lst, walk_tup, walk_lst, c_ge, c_le, c_gt, c_lt, c_eq, c_ne, ix0, ix1, add_i, sub_i, bi_int, bi_mx, bi_mn, bindT_nm, bindT_tup, bindT_lst, bindTs_nil, bindTs_cons, List.set_cons_zero, List.set_cons_succ, wipeE, setAll, perm1, perm2, perm10, perm3, perm210, perm5, List.length_cons, List.length_nil, if_true, Option.map_some, lstB_mk, dicD]
  refine ⟨fun r e => ∃ pre r' x y, ts = pre ++ r' ∧ r = r'.map tcD ∧ e = [some (flD rs ts), some (.dict (dmD (dm pre))), x, y], ⟨[], ts, _, _, rfl, rfl, rfl⟩, ?_, ?_⟩
  · rintro d r e ⟨pre, r', x, y, e1, e2, rfl⟩
    cases r' with
    | nil => cases e2
    | cons t r' =>
      rw [List.map_cons] at e2
      obtain ⟨rfl, rfl⟩ := List.cons.inj e2
      have hl : pre.length ≤ 31 := by
        have := h.few
        rw [e1, List.length_append] at this
        omega
      unfold tcD
      try simp only [wSs, wS, wEs, wE, wT, wTo, wI, wO, OO_nx, OO_ret, OO_brk, OO_cnt, LO_nx, LO_cnt, LO_ret, LO_brk, RO_ret, RO_nx, getV, List.getElem?_cons_zero, List.getElem?_cons_succ, Option.bind_some, id_eq, OB_some, BB_true, BB_false, boolB_mk, intB_mk, tru_bool, Bool.not_true, Bool.not_false, isInt_int, isBool_int, isTup_tup, len_tup, len_lst, toTup_lst, toTup_tup, toLst_tup, toLst_lst, walk_tup, walk_lst, c_ge, c_le, c_gt, c_lt, c_eq, c_ne, ix0, ix1, add_i, sub_i, bi_int, bi_mx, bi_mn, bindT_nm, bindT_tup, bindT_lst, bindTs_nil, bindTs_cons, List.set_cons_zero, List.set_cons_succ, wipeE, setAll, perm1, perm2, perm10, perm3, perm210, perm5, List.length_cons, List.length_nil, if_true, Option.map_some, lstB_mk]
      rw [sset_dm (by rw [dm_len]; omega)]
      try simp only [wSs, wS, wEs, wE, wT, wTo, wI, wO, OO_nx, OO_ret, OO_brk, OO_cnt, LO_nx, LO_cnt, LO_ret, LO_brk, RO_ret, RO_nx, getV, List.getElem?_cons_zero, List.getElem?_cons_succ, Option.bind_some, id_eq, OB_some, BB_true, BB_false, boolB_mk, intB_mk, tru_bool, Bool.not_true, Bool.not_false, isInt_int, isBool_int, isTup_tup, len_tup, len_lst, toTup_lst, toTup_tup, toLst_tup, toLst_lst, walk_tup, walk_lst, c_ge, c_le, c_gt, c_lt, c_eq, c_ne, ix0, ix1, add_i, sub_i, bi_int, bi_mx, bi_mn, bindT_nm, bindT_tup, bindT_lst, bindTs_nil, bindTs_cons, List.set_cons_zero, List.set_cons_succ, wipeE, setAll, perm1, perm2, perm10, perm3, perm210, perm5, List.length_cons, List.length_nil, if_true, Option.map_some, lstB_mk]
      rw [sset_dm2 (by rw [dm_len]; omega), put2 (by rw [← e1]; exact h.nd)]
      try simp only [wSs, wS, wEs, wE, wT, wTo, wI, wO, OO_nx, OO_ret, OO_brk, OO_cnt, LO_nx, LO_cnt, LO_ret, LO_brk, RO_ret, RO_nx, getV, List.getElem?_cons_zero, List.getElem?_cons_succ, Option.bind_some, id_eq, OB_some, BB_true, BB_false, boolB_mk, intB_mk, tru_bool, Bool.not_true, Bool.not_false, isInt_int, isBool_int, isTup_tup, len_tup, len_lst, toTup_lst, toTup_tup, toLst_tup, toLst_lst, walk_tup, walk_lst, c_ge, c_le, c_gt, c_lt, c_eq, c_ne, ix0, ix1, add_i, sub_i, bi_int, bi_mx, bi_mn, bindT_nm, bindT_tup, bindT_lst, bindTs_nil, bindTs_cons, List.set_cons_zero, List.set_cons_succ, wipeE, setAll, perm1, perm2, perm10, perm3, perm210, perm5, List.length_cons, List.length_nil, if_true, Option.map_some, lstB_mk]
      exact ⟨pre ++ [t], r', _, _, by rw [e1]; simp, rfl, rfl⟩
  · rintro e ⟨pre, r', x, y, e1, e2, rfl⟩
    cases r' with
    | cons t r' => cases e2
    | nil =>
      rw [List.append_nil] at e1
      subst e1
      try simp only [wSs, wS, wEs, wE, wT, wTo, wI, wO, OO_nx, OO_ret, OO_brk, OO_cnt, LO_nx, LO_cnt, LO_ret, LO_brk, RO_ret, RO_nx, getV, List.getElem?_cons_zero, List.getElem?_cons_succ, Option.bind_some, id_eq, OB_some, BB_true, BB_false, boolB_mk, intB_mk, tru_bool, Bool.not_true, Bool.not_false, isInt_int, isBool_int, isTup_tup, len_tup, len_lst, toTup_lst, toTup_tup, toLst_tup, toLst_lst, walk_tup, walk_lst, c_ge, c_le, c_gt, c_lt, c_eq, c_ne, ix0, ix1, add_i, sub_i, bi_int, bi_mx, bi_mn, bindT_nm, bindT_tup, bindT_lst, bindTs_nil, bindTs_cons, List.set_cons_zero, List.set_cons_succ, wipeE, setAll, perm1, perm2, perm10, perm3, perm210, perm5, List.length_cons, List.length_nil, if_true, Option.map_some, lstB_mk]
      exact k
theorem p35 {rs : List Int} {ts : List Tc} (h : Fl rs ts) {P : D → Prop} (k : P (.dict (dmD (dm ts)))) : Tot (f35 [flD rs ts]) P := by
  refine run_ok ?_
  show wSs T35 b35 [some (flD rs ts), none, none, none] _
  unfold b35 flD
  try simp only [wSs, wS, wEs, wE, wT, wTo, wI, wO, OO_nx, OO_ret, OO_brk, OO_cnt, LO_nx, LO_cnt, LO_ret, LO_brk, RO_ret, RO_nx, getV, List.getElem?_cons_zero, List.getElem?_cons_succ, Option.bind_some, id_eq, OB_some, BB_true, BB_false, boolB_mk, intB_mk, tru_bool, Bool.not_true, Bool.not_false, isInt_int, isBool_int, isTup_tup, len_tup, len_lst, toTup_lst, toTup_tup, toLst_tup, toLst_lst, walk_tup, walk_lst, c_ge, c_le, c_gt, c_lt, c_eq, c_ne, ix0, ix1, add_i, sub_i, bi_int, bi_mx, bi_mn, bindT_nm, bindT_tup, bindT_lst, bindTs_nil, bindTs_cons, List.set_cons_zero, List.set_cons_succ, wipeE, setAll, perm1, perm2, perm10, perm3, perm210, perm5, List.length_cons, List.length_nil, if_true, Option.map_some, lstB_mk, dicD]
  refine ⟨fun r e => ∃ pre r' x y, ts = pre ++ r' ∧ r = r'.map tcD ∧ e = [some (flD rs ts), some (.dict (dmD (dm pre))), x, y], ⟨[], ts, _, _, rfl, rfl, rfl⟩, ?_, ?_⟩
  · rintro d r e ⟨pre, r', x, y, e1, e2, rfl⟩
    cases r' with
    | nil => cases e2
    | cons t r' =>
      rw [List.map_cons] at e2
      obtain ⟨rfl, rfl⟩ := List.cons.inj e2
      have hl : pre.length ≤ 31 := by
        have := h.few
        rw [e1, List.length_append] at this
        omega
      unfold tcD
      try simp only [wSs, wS, wEs, wE, wT, wTo, wI, wO, OO_nx, OO_ret, OO_brk, OO_cnt, LO_nx, LO_cnt, LO_ret, LO_brk, RO_ret, RO_nx, getV, List.getElem?_cons_zero, List.getElem?_cons_succ, Option.bind_some, id_eq, OB_some, BB_true, BB_false, boolB_mk, intB_mk, tru_bool, Bool.not_true, Bool.not_false, isInt_int, isBool_int, isTup_tup, len_tup, len_lst, toTup_lst, toTup_tup, toLst_tup, toLst_lst, walk_tup, walk_lst, c_ge, c_le, c_gt, c_lt, c_eq, c_ne, ix0, ix1, add_i, sub_i, bi_int, bi_mx, bi_mn, bindT_nm, bindT_tup, bindT_lst, bindTs_nil, bindTs_cons, List.set_cons_zero, List.set_cons_succ, wipeE, setAll, perm1, perm2, perm10, perm3, perm210, perm5, List.length_cons, List.length_nil, if_true, Option.map_some, lstB_mk]
      rw [sset_dm (by rw [dm_len]; omega)]
      try simp only [wSs, wS, wEs, wE, wT, wTo, wI, wO, OO_nx, OO_ret, OO_brk, OO_cnt, LO_nx, LO_cnt, LO_ret, LO_brk, RO_ret, RO_nx, getV, List.getElem?_cons_zero, List.getElem?_cons_succ, Option.bind_some, id_eq, OB_some, BB_true, BB_false, boolB_mk, intB_mk, tru_bool, Bool.not_true, Bool.not_false, isInt_int, isBool_int, isTup_tup, len_tup, len_lst, toTup_lst, toTup_tup, toLst_tup, toLst_lst, walk_tup, walk_lst, c_ge, c_le, c_gt, c_lt, c_eq, c_ne, ix0, ix1, add_i, sub_i, bi_int, bi_mx, bi_mn, bindT_nm, bindT_tup, bindT_lst, bindTs_nil, bindTs_cons, List.set_cons_zero, List.set_cons_succ, wipeE, setAll, perm1, perm2, perm10, perm3, perm210, perm5, List.length_cons, List.length_nil, if_true, Option.map_some, lstB_mk]
      rw [sset_dm2 (by rw [dm_len]; omega), put2 (by rw [← e1]; exact h.nd)]
      try simp only [wSs, wS, wEs, wE, wT, wTo, wI, wO, OO_nx, OO_ret, OO_brk, OO_cnt, LO_nx, LO_cnt, LO_ret, LO_brk, RO_ret, RO_nx, getV, List.getElem?_cons_zero, List.getElem?_cons_succ, Option.bind_some, id_eq, OB_some, BB_true, BB_false, boolB_mk, intB_mk, tru_bool, Bool.not_true, Bool.not_false, isInt_int, isBool_int, isTup_tup, len_tup, len_lst, toTup_lst, toTup_tup, toLst_tup, toLst_lst, walk_tup, walk_lst, c_ge, c_le, c_gt, c_lt, c_eq, c_ne, ix0, ix1, add_i, sub_i, bi_int, bi_mx, bi_mn, bindT_nm, bindT_tup, bindT_lst, bindTs_nil, bindTs_cons, List.set_cons_zero, List.set_cons_succ, wipeE, setAll, perm1, perm2, perm10, perm3, perm210, perm5, List.length_cons, List.length_nil, if_true, Option.map_some, lstB_mk]
      exact ⟨pre ++ [t], r', _, _, by rw [e1]; simp, rfl, rfl⟩
  · rintro e ⟨pre, r', x, y, e1, e2, rfl⟩
    cases r' with
    | cons t r' => cases e2
    | nil =>
      rw [List.append_nil] at e1
      subst e1
      try simp only [wSs, wS, wEs, wE, wT, wTo, wI, wO, OO_nx, OO_ret, OO_brk, OO_cnt, LO_nx, LO_cnt, LO_ret, LO_brk, RO_ret, RO_nx, getV, List.getElem?_cons_zero, List.getElem?_cons_succ, Option.bind_some, id_eq, OB_some, BB_true, BB_false, boolB_mk, intB_mk, tru_bool, Bool.not_true, Bool.not_false, isInt_int, isBool_int, isTup_tup, len_tup, len_lst, toTup_lst, toTup_tup, toLst_tup, toLst_lst, walk_tup, walk_lst, c_ge, c_le, c_gt, c_lt, c_eq, c_ne, ix0, ix1, add_i, sub_i, bi_int, bi_mx, bi_mn, bindT_nm, bindT_tup, bindT_lst, bindTs_nil, bindTs_cons, List.set_cons_zero, List.set_cons_succ, wipeE, setAll, perm1, perm2, perm10, perm3, perm210, perm5, List.length_cons, List.length_nil, if_true, Option.map_some, lstB_mk]
      exact k
theorem p22 {rs : List Int} {ts : List Tc} (h : Fl rs ts) {p : Pl} (hp : InP rs p) {P : D → Prop} (k : P (.bool true)) : Tot (f22 [flD rs ts, plD p]) P := by
  refine run_ok ?_
  show wSs T22 b22 [some (flD rs ts), some (plD p)] _
  unfold b22
  try simp only [wSs, wS, wEs, wE, wT, wTo, wI, wO, OO_nx, OO_ret, OO_brk, OO_cnt, LO_nx, LO_cnt, LO_ret, LO_brk, RO_ret, RO_nx, getV, List.getElem?_cons_zero, List.getElem?_cons_succ, Option.bind_some, id_eq, OB_some, BB_true, BB_false, boolB_mk, intB_mk, tru_bool, Bool.not_true, Bool.not_false, isInt_int, isBool_int, isTup_tup, len_tup, len_lst, toTup_lst, toTup_tup, toLst_tup, toLst_lst, walk_tup, walk_lst, c_ge, c_le, c_gt, c_lt, c_eq, c_ne, ix0, ix1, add_i, sub_i, bi_int, bi_mx, bi_mn, bindT_nm, bindT_tup, bindT_lst, bindTs_nil, bindTs_cons, List.set_cons_zero, List.set_cons_succ, wipeE, setAll, perm1, perm2, perm10, perm3, perm210, perm5, List.length_cons, List.length_nil, if_true, Option.map_some, lstB_mk]
  rw [cl_eq (g := f16) rfl]
  refine p16 h ?_
  unfold flD
  try simp only [wSs, wS, wEs, wE, wT, wTo, wI, wO, OO_nx, OO_ret, OO_brk, OO_cnt, LO_nx, LO_cnt, LO_ret, LO_brk, RO_ret, RO_nx, getV, List.getElem?_cons_zero, List.getElem?_cons_succ, Option.bind_some, id_eq, OB_some, BB_true, BB_false, boolB_mk, intB_mk, tru_bool, Bool.not_true, Bool.not_false, isInt_int, isBool_int, isTup_tup, len_tup, len_lst, toTup_lst, toTup_tup, toLst_tup, toLst_lst, walk_tup, walk_lst, c_ge, c_le, c_gt, c_lt, c_eq, c_ne, ix0, ix1, add_i, sub_i, bi_int, bi_mx, bi_mn, bindT_nm, bindT_tup, bindT_lst, bindTs_nil, bindTs_cons, List.set_cons_zero, List.set_cons_succ, wipeE, setAll, perm1, perm2, perm10, perm3, perm210, perm5, List.length_cons, List.length_nil, if_true, Option.map_some, lstB_mk]
  rw [cl_eq (g := f12) rfl]
  exact p12 h.rg hp k
theorem p23 {rs : List Int} {ts : List Tc} (h : Fl rs ts) (hs : (spots rs).length ≤ 63) {P : D → Prop} (k : P (.tuple ((spots rs).map plD))) : Tot (f23 [flD rs ts]) P := by
  refine run_ok ?_
  show wSs T23 b23 [some (flD rs ts)] _
  unfold b23
  try simp only [wSs, wS, wEs, wE, wT, wTo, wI, wO, OO_nx, OO_ret, OO_brk, OO_cnt, LO_nx, LO_cnt, LO_ret, LO_brk, RO_ret, RO_nx, getV, List.getElem?_cons_zero, List.getElem?_cons_succ, Option.bind_some, id_eq, OB_some, BB_true, BB_false, boolB_mk, intB_mk, tru_bool, Bool.not_true, Bool.not_false, isInt_int, isBool_int, isTup_tup, len_tup, len_lst, toTup_lst, toTup_tup, toLst_tup, toLst_lst, walk_tup, walk_lst, c_ge, c_le, c_gt, c_lt, c_eq, c_ne, ix0, ix1, add_i, sub_i, bi_int, bi_mx, bi_mn, bindT_nm, bindT_tup, bindT_lst, bindTs_nil, bindTs_cons, List.set_cons_zero, List.set_cons_succ, wipeE, setAll, perm1, perm2, perm10, perm3, perm210, perm5, List.length_cons, List.length_nil, if_true, Option.map_some, lstB_mk]
  rw [cl_eq (g := f16) rfl]
  refine p16 h ?_
  unfold flD
  try simp only [wSs, wS, wEs, wE, wT, wTo, wI, wO, OO_nx, OO_ret, OO_brk, OO_cnt, LO_nx, LO_cnt, LO_ret, LO_brk, RO_ret, RO_nx, getV, List.getElem?_cons_zero, List.getElem?_cons_succ, Option.bind_some, id_eq, OB_some, BB_true, BB_false, boolB_mk, intB_mk, tru_bool, Bool.not_true, Bool.not_false, isInt_int, isBool_int, isTup_tup, len_tup, len_lst, toTup_lst, toTup_tup, toLst_tup, toLst_lst, walk_tup, walk_lst, c_ge, c_le, c_gt, c_lt, c_eq, c_ne, ix0, ix1, add_i, sub_i, bi_int, bi_mx, bi_mn, bindT_nm, bindT_tup, bindT_lst, bindTs_nil, bindTs_cons, List.set_cons_zero, List.set_cons_succ, wipeE, setAll, perm1, perm2, perm10, perm3, perm210, perm5, List.length_cons, List.length_nil, if_true, Option.map_some, lstB_mk]
  rw [cl_eq (g := f18) rfl]
  refine p18 h.rg hs ?_
  try simp only [wSs, wS, wEs, wE, wT, wTo, wI, wO, OO_nx, OO_ret, OO_brk, OO_cnt, LO_nx, LO_cnt, LO_ret, LO_brk, RO_ret, RO_nx, getV, List.getElem?_cons_zero, List.getElem?_cons_succ, Option.bind_some, id_eq, OB_some, BB_true, BB_false, boolB_mk, intB_mk, tru_bool, Bool.not_true, Bool.not_false, isInt_int, isBool_int, isTup_tup, len_tup, len_lst, toTup_lst, toTup_tup, toLst_tup, toLst_lst, walk_tup, walk_lst, c_ge, c_le, c_gt, c_lt, c_eq, c_ne, ix0, ix1, add_i, sub_i, bi_int, bi_mx, bi_mn, bindT_nm, bindT_tup, bindT_lst, bindTs_nil, bindTs_cons, List.set_cons_zero, List.set_cons_succ, wipeE, setAll, perm1, perm2, perm10, perm3, perm210, perm5, List.length_cons, List.length_nil, if_true, Option.map_some, lstB_mk]
  exact k
theorem p24 {rs : List Int} {ts : List Tc} (h : Fl rs ts) {u i : Nat} (hp : InP rs ((u : Int), (i : Int))) (hu : u ≤ rs.length) {P : D → Prop} (k : P (.int ((rs.take u).sum + i))) : Tot (f24 [flD rs ts, plD ((u : Int), (i : Int))]) P := by
  refine run_ok ?_
  show wSs T24 b24 [some (flD rs ts), some (plD ((u : Int), (i : Int)))] _
  unfold b24
  try simp only [wSs, wS, wEs, wE, wT, wTo, wI, wO, OO_nx, OO_ret, OO_brk, OO_cnt, LO_nx, LO_cnt, LO_ret, LO_brk, RO_ret, RO_nx, getV, List.getElem?_cons_zero, List.getElem?_cons_succ, Option.bind_some, id_eq, OB_some, BB_true, BB_false, boolB_mk, intB_mk, tru_bool, Bool.not_true, Bool.not_false, isInt_int, isBool_int, isTup_tup, len_tup, len_lst, toTup_lst, toTup_tup, toLst_tup, toLst_lst, walk_tup, walk_lst, c_ge, c_le, c_gt, c_lt, c_eq, c_ne, ix0, ix1, add_i, sub_i, bi_int, bi_mx, bi_mn, bindT_nm, bindT_tup, bindT_lst, bindTs_nil, bindTs_cons, List.set_cons_zero, List.set_cons_succ, wipeE, setAll, perm1, perm2, perm10, perm3, perm210, perm5, List.length_cons, List.length_nil, if_true, Option.map_some, lstB_mk]
  rw [cl_eq (g := f17) rfl]
  refine p17 h hp ?_
  unfold flD
  try simp only [wSs, wS, wEs, wE, wT, wTo, wI, wO, OO_nx, OO_ret, OO_brk, OO_cnt, LO_nx, LO_cnt, LO_ret, LO_brk, RO_ret, RO_nx, getV, List.getElem?_cons_zero, List.getElem?_cons_succ, Option.bind_some, id_eq, OB_some, BB_true, BB_false, boolB_mk, intB_mk, tru_bool, Bool.not_true, Bool.not_false, isInt_int, isBool_int, isTup_tup, len_tup, len_lst, toTup_lst, toTup_tup, toLst_tup, toLst_lst, walk_tup, walk_lst, c_ge, c_le, c_gt, c_lt, c_eq, c_ne, ix0, ix1, add_i, sub_i, bi_int, bi_mx, bi_mn, bindT_nm, bindT_tup, bindT_lst, bindTs_nil, bindTs_cons, List.set_cons_zero, List.set_cons_succ, wipeE, setAll, perm1, perm2, perm10, perm3, perm210, perm5, List.length_cons, List.length_nil, if_true, Option.map_some, lstB_mk]
  rw [cl_eq (g := f19) rfl]
  exact p19 hu k
theorem p25 {rs : List Int} {ts : List Tc} (h : Fl rs ts) {u i : Nat} {l j : Int} (hu : rs[u]? = some l) (hi : (i : Int) < l) {P : D → Prop} (k : P (plD ((u : Int), ((i : Int) + j).fmod l))) : Tot (f25 [flD rs ts, plD ((u : Int), (i : Int)), .int j]) P := by
  refine run_ok ?_
  show wSs T25 b25 [some (flD rs ts), some (plD ((u : Int), (i : Int))), some (.int j)] _
  unfold b25
  try simp only [wSs, wS, wEs, wE, wT, wTo, wI, wO, OO_nx, OO_ret, OO_brk, OO_cnt, LO_nx, LO_cnt, LO_ret, LO_brk, RO_ret, RO_nx, getV, List.getElem?_cons_zero, List.getElem?_cons_succ, Option.bind_some, id_eq, OB_some, BB_true, BB_false, boolB_mk, intB_mk, tru_bool, Bool.not_true, Bool.not_false, isInt_int, isBool_int, isTup_tup, len_tup, len_lst, toTup_lst, toTup_tup, toLst_tup, toLst_lst, walk_tup, walk_lst, c_ge, c_le, c_gt, c_lt, c_eq, c_ne, ix0, ix1, add_i, sub_i, bi_int, bi_mx, bi_mn, bindT_nm, bindT_tup, bindT_lst, bindTs_nil, bindTs_cons, List.set_cons_zero, List.set_cons_succ, wipeE, setAll, perm1, perm2, perm10, perm3, perm210, perm5, List.length_cons, List.length_nil, if_true, Option.map_some, lstB_mk]
  rw [cl_eq (g := f17) rfl]
  refine p17 h ⟨u, i, l, rfl, hu, hi⟩ ?_
  try simp only [wSs, wS, wEs, wE, wT, wTo, wI, wO, OO_nx, OO_ret, OO_brk, OO_cnt, LO_nx, LO_cnt, LO_ret, LO_brk, RO_ret, RO_nx, getV, List.getElem?_cons_zero, List.getElem?_cons_succ, Option.bind_some, id_eq, OB_some, BB_true, BB_false, boolB_mk, intB_mk, tru_bool, Bool.not_true, Bool.not_false, isInt_int, isBool_int, isTup_tup, len_tup, len_lst, toTup_lst, toTup_tup, toLst_tup, toLst_lst, walk_tup, walk_lst, c_ge, c_le, c_gt, c_lt, c_eq, c_ne, ix0, ix1, add_i, sub_i, bi_int, bi_mx, bi_mn, bindT_nm, bindT_tup, bindT_lst, bindTs_nil, bindTs_cons, List.set_cons_zero, List.set_cons_succ, wipeE, setAll, perm1, perm2, perm10, perm3, perm210, perm5, List.length_cons, List.length_nil, if_true, Option.map_some, lstB_mk]
  rw [cl_eq (g := f7) rfl]
  refine p7 ?_
  unfold flD
  try simp only [wSs, wS, wEs, wE, wT, wTo, wI, wO, OO_nx, OO_ret, OO_brk, OO_cnt, LO_nx, LO_cnt, LO_ret, LO_brk, RO_ret, RO_nx, getV, List.getElem?_cons_zero, List.getElem?_cons_succ, Option.bind_some, id_eq, OB_some, BB_true, BB_false, boolB_mk, intB_mk, tru_bool, Bool.not_true, Bool.not_false, isInt_int, isBool_int, isTup_tup, len_tup, len_lst, toTup_lst, toTup_tup, toLst_tup, toLst_lst, walk_tup, walk_lst, c_ge, c_le, c_gt, c_lt, c_eq, c_ne, ix0, ix1, add_i, sub_i, bi_int, bi_mx, bi_mn, bindT_nm, bindT_tup, bindT_lst, bindTs_nil, bindTs_cons, List.set_cons_zero, List.set_cons_succ, wipeE, setAll, perm1, perm2, perm10, perm3, perm210, perm5, List.length_cons, List.length_nil, if_true, Option.map_some, lstB_mk]
  rw [cl_eq (g := f20) rfl]
  exact p20 hu (h.rg.ps l (List.mem_of_getElem? hu)) k
theorem p26 {rs : List Int} {ts : List Tc} (h : Fl rs ts) {p : Pl} (hp : InP rs p) {P : D → Prop} (k : P ((((dm ts).lookup p).map plD).getD .none)) : Tot (f26 [flD rs ts, plD p]) P := by
  refine run_ok ?_
  show wSs T26 b26 [some (flD rs ts), some (plD p)] _
  unfold b26
  try simp only [wSs, wS, wEs, wE, wT, wTo, wI, wO, OO_nx, OO_ret, OO_brk, OO_cnt, LO_nx, LO_cnt, LO_ret, LO_brk, RO_ret, RO_nx, getV, List.getElem?_cons_zero, List.getElem?_cons_succ, Option.bind_some, id_eq, OB_some, BB_true, BB_false, boolB_mk, intB_mk, tru_bool, Bool.not_true, Bool.not_false, isInt_int, isBool_int, isTup_tup, len_tup, len_lst, toTup_lst, toTup_tup, toLst_tup, toLst_lst, walk_tup, walk_lst, c_ge, c_le, c_gt, c_lt, c_eq, c_ne, ix0, ix1, add_i, sub_i, bi_int, bi_mx, bi_mn, bindT_nm, bindT_tup, bindT_lst, bindTs_nil, bindTs_cons, List.set_cons_zero, List.set_cons_succ, wipeE, setAll, perm1, perm2, perm10, perm3, perm210, perm5, List.length_cons, List.length_nil, if_true, Option.map_some, lstB_mk]
  rw [cl_eq (g := f17) rfl]
  refine p17 h hp ?_
  try simp only [wSs, wS, wEs, wE, wT, wTo, wI, wO, OO_nx, OO_ret, OO_brk, OO_cnt, LO_nx, LO_cnt, LO_ret, LO_brk, RO_ret, RO_nx, getV, List.getElem?_cons_zero, List.getElem?_cons_succ, Option.bind_some, id_eq, OB_some, BB_true, BB_false, boolB_mk, intB_mk, tru_bool, Bool.not_true, Bool.not_false, isInt_int, isBool_int, isTup_tup, len_tup, len_lst, toTup_lst, toTup_tup, toLst_tup, toLst_lst, walk_tup, walk_lst, c_ge, c_le, c_gt, c_lt, c_eq, c_ne, ix0, ix1, add_i, sub_i, bi_int, bi_mx, bi_mn, bindT_nm, bindT_tup, bindT_lst, bindTs_nil, bindTs_cons, List.set_cons_zero, List.set_cons_succ, wipeE, setAll, perm1, perm2, perm10, perm3, perm210, perm5, List.length_cons, List.length_nil, if_true, Option.map_some, lstB_mk]
  rw [cl_eq (g := f21) rfl]
  refine p21 h ?_
  have e : mt .get (.dict (dmD (dm ts))) [plD p] = some ((((dm ts).lookup p).map plD).getD .none) := by
    have e2 : fits (dmD (dm ts)) (plD p) = true := dm_fits _ _
    have e3 := dm_find (dm ts) p
    generalize dm ts = m at *
    cases m with
    | nil => rfl
    | cons x m =>
      show (if fits (dmD (x :: m)) (plD p) then some ((PD.find? (dmD (x :: m)) (plD p)).getD .none) else none) = _
      rw [if_pos e2, e3]
  have ok : mtOk .get (.dict (dmD (dm ts))) = true := by
    generalize dm ts = m
    cases m with
    | nil => rfl
    | cons x m => rfl
  try simp only [wSs, wS, wEs, wE, wT, wTo, wI, wO, OO_nx, OO_ret, OO_brk, OO_cnt, LO_nx, LO_cnt, LO_ret, LO_brk, RO_ret, RO_nx, getV, List.getElem?_cons_zero, List.getElem?_cons_succ, Option.bind_some, id_eq, OB_some, BB_true, BB_false, boolB_mk, intB_mk, tru_bool, Bool.not_true, Bool.not_false, isInt_int, isBool_int, isTup_tup, len_tup, len_lst, toTup_lst, toTup_tup, toLst_tup, toLst_lst, walk_tup, walk_lst, c_ge, c_le, c_gt, c_lt, c_eq, c_ne, ix0, ix1, add_i, sub_i, bi_int, bi_mx, bi_mn, bindT_nm, bindT_tup, bindT_lst, bindTs_nil, bindTs_cons, List.set_cons_zero, List.set_cons_succ, wipeE, setAll, perm1, perm2, perm10, perm3, perm210, perm5, List.length_cons, List.length_nil, if_true, Option.map_some, lstB_mk, ok, e]
  exact ⟨trivial, k⟩
end GK02
namespace GK02
open PySem PD
theorem pr27 : Pr T27 := ⟨rfl, rfl, rfl, rfl, rfl, rfl, rfl⟩
theorem p27 {many : Int} (h0 : 0 < many) (h1 : many ≤ 10 ^ 120) {P : D → Prop} (k : ∀ n, 0 ≤ n → n < many → P (.int n)) : Tot (f27 [objD 0, .int many]) P :=
  drawA_ok pr27 (by decide) (by decide) (by decide) (by decide) (by decide) (by decide) (by decide) (by decide) (by decide) (pow_s (by decide)) h0 h1 k
theorem p28 {d : D} {ds : List D} (hd : d = .tuple ds ∨ d = .list ds) (hn : ds ≠ []) (hl : ds.length ≤ 1000) {P : D → Prop} (k : ∀ x ∈ ds, P x) : Tot (f28 [objD 0, d]) P := by
  refine run_ok ?_
  show wSs T28 b28 [some (objD 0), some d] _
  have hp := List.length_pos_iff.mpr hn
  have e : bi .len [d] = some (.int ds.length) := by rcases hd with rfl | rfl <;> rfl
  unfold b28
  try simp -implicitDefEqProofs only [wSs, wS, wEs, wE, wT, wTo, wI, wO, OO_nx, OO_ret, OO_brk, OO_cnt, LO_nx, LO_cnt, LO_ret, LO_brk, RO_ret, RO_nx, getV, List.getElem?_cons_zero, List.getElem?_cons_succ, Option.bind_some, id_eq, OB_some, BB_true, BB_false, boolB_mk, intB_mk, tru_bool, Bool.not_true, Bool.not_false, isInt_int, isBool_int, isTup_tup, len_tup, len_lst, toTup_lst, toTup_tup, toLst_tup, toLst_lst, walk_tup, walk_lst, c_ge, c_le, c_gt, c_lt, c_eq, c_ne, ix0, ix1, add_i, sub_i, bi_int, bi_mx, bi_mn, bindT_nm, bindT_tup, bindT_lst, bindTs_nil, bindTs_cons, List.set_cons_zero, List.set_cons_succ, wipeE, setAll, perm1, perm2, perm10, perm3, perm210, perm5, List.length_cons, List.length_nil, if_true, Option.map_some, lstB_mk, e]
  rw [cl_eq (g := f27) rfl]
  refine p27 (by omega) (Int.le_trans (Int.ofNat_le.mpr hl) (by decide)) fun n h0 h1 => ?_
  obtain ⟨m, rfl⟩ : ∃ m : Nat, n = (m : Int) := ⟨n.toNat, by omega⟩
  have l : m < ds.length := by omega
  have e2 : ixD d (.int (m : Int)) = some ds[m] := by
    rcases hd with rfl | rfl
    · exact ix_nat_tup (List.getElem?_eq_getElem l)
    · exact ix_nat_lst (List.getElem?_eq_getElem l)
  rw [e2]
  exact k _ (List.getElem_mem _)
theorem p29 {n : Nat} (hn : n ≤ 63) {P : D → Prop} (k : ∀ l : List Nat, l.Perm (List.range n) → P (.tuple (l.map nD))) : Tot (f29 [objD 0, .int n]) P := by
  refine run_ok ?_
  show wSs T29 b29 [some (objD 0), some (.int n), none, none, none] _
  unfold b29
  have e1 : bi .listRange [.int (n : Int)] = some (.list ((List.range n).map nD)) := by
    rw [listRange_one (by have := cap_eq; omega), rangeD_nat]
  try simp -implicitDefEqProofs only [wSs, wS, wEs, wE, wT, wTo, wI, wO, OO_nx, OO_ret, OO_brk, OO_cnt, LO_nx, LO_cnt, LO_ret, LO_brk, RO_ret, RO_nx, getV, List.getElem?_cons_zero, List.getElem?_cons_succ, Option.bind_some, id_eq, OB_some, BB_true, BB_false, boolB_mk, intB_mk, tru_bool, Bool.not_true, Bool.not_false, isInt_int, isBool_int, isTup_tup, len_tup, len_lst, toTup_lst, toTup_tup, toLst_tup, toLst_lst, walk_tup, walk_lst, c_ge, c_le, c_gt, c_lt, c_eq, c_ne, ix0, ix1, add_i, sub_i, bi_int, bi_mx, bi_mn, bindT_nm, bindT_tup, bindT_lst, bindTs_nil, bindTs_cons, List.set_cons_zero, List.set_cons_succ, wipeE, setAll, perm1, perm2, perm10, perm3, perm210, perm5, List.length_cons, List.length_nil, if_true, Option.map_some, lstB_mk, e1]
  rw [range_one (by omega), rangeD_nat]
  try simp -implicitDefEqProofs only [wSs, wS, wEs, wE, wT, wTo, wI, wO, OO_nx, OO_ret, OO_brk, OO_cnt, LO_nx, LO_cnt, LO_ret, LO_brk, RO_ret, RO_nx, getV, List.getElem?_cons_zero, List.getElem?_cons_succ, Option.bind_some, id_eq, OB_some, BB_true, BB_false, boolB_mk, intB_mk, tru_bool, Bool.not_true, Bool.not_false, isInt_int, isBool_int, isTup_tup, len_tup, len_lst, toTup_lst, toTup_tup, toLst_tup, toLst_lst, walk_tup, walk_lst, c_ge, c_le, c_gt, c_lt, c_eq, c_ne, ix0, ix1, add_i, sub_i, bi_int, bi_mx, bi_mn, bindT_nm, bindT_tup, bindT_lst, bindTs_nil, bindTs_cons, List.set_cons_zero, List.set_cons_succ, wipeE, setAll, perm1, perm2, perm10, perm3, perm210, perm5, List.length_cons, List.length_nil, if_true, Option.map_some, lstB_mk]
  refine ⟨fun r e => ∃ (l f : List Nat) (x : Option D), (f ++ l).Perm (List.range n) ∧ l.length = r.length ∧ e = [some (objD 0), some (.int n), some (.list (l.map nD)), some (.list (f.map nD)), x], ⟨List.range n, [], none, .refl _, by simp, rfl⟩, ?_, ?_⟩
  · rintro d r e ⟨l, f, x, pe, le, rfl⟩
    have lp : 0 < l.length := by
      rw [le]
      simp
    have lt : f.length + l.length = n := by
      have := pe.length_eq
      simpa using this
    try simp -implicitDefEqProofs only [wSs, wS, wEs, wE, wT, wTo, wI, wO, OO_nx, OO_ret, OO_brk, OO_cnt, LO_nx, LO_cnt, LO_ret, LO_brk, RO_ret, RO_nx, getV, List.getElem?_cons_zero, List.getElem?_cons_succ, Option.bind_some, id_eq, OB_some, BB_true, BB_false, boolB_mk, intB_mk, tru_bool, Bool.not_true, Bool.not_false, isInt_int, isBool_int, isTup_tup, len_tup, len_lst, toTup_lst, toTup_tup, toLst_tup, toLst_lst, walk_tup, walk_lst, c_ge, c_le, c_gt, c_lt, c_eq, c_ne, ix0, ix1, add_i, sub_i, bi_int, bi_mx, bi_mn, bindT_nm, bindT_tup, bindT_lst, bindTs_nil, bindTs_cons, List.set_cons_zero, List.set_cons_succ, wipeE, setAll, perm1, perm2, perm10, perm3, perm210, perm5, List.length_cons, List.length_nil, if_true, Option.map_some, lstB_mk]
    rw [cl_eq (g := f27) rfl]
    refine p27 (by rw [List.length_map]; omega) (big _ (by rw [List.length_map]; omega)) fun i h0 h1 => ?_
    rw [List.length_map] at h1
    have hi : i.toNat < l.length := by omega
    have z : i = ((i.toNat : Nat) : Int) := by omega
    have cp := cap_eq
    rw [z]
    try simp -implicitDefEqProofs only [wSs, wS, wEs, wE, wT, wTo, wI, wO, OO_nx, OO_ret, OO_brk, OO_cnt, LO_nx, LO_cnt, LO_ret, LO_brk, RO_ret, RO_nx, getV, List.getElem?_cons_zero, List.getElem?_cons_succ, Option.bind_some, id_eq, OB_some, BB_true, BB_false, boolB_mk, intB_mk, tru_bool, Bool.not_true, Bool.not_false, isInt_int, isBool_int, isTup_tup, len_tup, len_lst, toTup_lst, toTup_tup, toLst_tup, toLst_lst, walk_tup, walk_lst, c_ge, c_le, c_gt, c_lt, c_eq, c_ne, ix0, ix1, add_i, sub_i, bi_int, bi_mx, bi_mn, bindT_nm, bindT_tup, bindT_lst, bindTs_nil, bindTs_cons, List.set_cons_zero, List.set_cons_succ, wipeE, setAll, perm1, perm2, perm10, perm3, perm210, perm5, List.length_cons, List.length_nil, if_true, Option.map_some, lstB_mk]
    rw [popD_nat (d := nD l[i.toNat]) (by rw [List.getElem?_map, List.getElem?_eq_getElem hi]; rfl) (by rw [List.length_map]; omega), erase_map]
    try simp -implicitDefEqProofs only [wSs, wS, wEs, wE, wT, wTo, wI, wO, OO_nx, OO_ret, OO_brk, OO_cnt, LO_nx, LO_cnt, LO_ret, LO_brk, RO_ret, RO_nx, getV, List.getElem?_cons_zero, List.getElem?_cons_succ, Option.bind_some, id_eq, OB_some, BB_true, BB_false, boolB_mk, intB_mk, tru_bool, Bool.not_true, Bool.not_false, isInt_int, isBool_int, isTup_tup, len_tup, len_lst, toTup_lst, toTup_tup, toLst_tup, toLst_lst, walk_tup, walk_lst, c_ge, c_le, c_gt, c_lt, c_eq, c_ne, ix0, ix1, add_i, sub_i, bi_int, bi_mx, bi_mn, bindT_nm, bindT_tup, bindT_lst, bindTs_nil, bindTs_cons, List.set_cons_zero, List.set_cons_succ, wipeE, setAll, perm1, perm2, perm10, perm3, perm210, perm5, List.length_cons, List.length_nil, if_true, Option.map_some, lstB_mk]
    refine ⟨by rw [List.length_map]; omega, l.eraseIdx i.toNat, f ++ [l[i.toNat]], some d, ?_, ?_, ?_⟩
    · rw [List.append_assoc]
      exact ((erase_perm (List.getElem?_eq_getElem hi)).append_left f).trans pe
    · rw [List.length_eraseIdx_of_lt hi, le]
      rfl
    · rw [List.map_append]
      rfl
  · rintro e ⟨l, f, x, pe, le, rfl⟩
    have ln : l = [] := List.eq_nil_of_length_eq_zero le
    subst ln
    rw [List.append_nil] at pe
    try simp -implicitDefEqProofs only [wSs, wS, wEs, wE, wT, wTo, wI, wO, OO_nx, OO_ret, OO_brk, OO_cnt, LO_nx, LO_cnt, LO_ret, LO_brk, RO_ret, RO_nx, getV, List.getElem?_cons_zero, List.getElem?_cons_succ, Option.bind_some, id_eq, OB_some, BB_true, BB_false, boolB_mk, intB_mk, tru_bool, Bool.not_true, Bool.not_false, isInt_int, isBool_int, isTup_tup, len_tup, len_lst, toTup_lst, toTup_tup, toLst_tup, toLst_lst, walk_tup, walk_lst, c_ge, c_le, c_gt, c_lt, c_eq, c_ne, ix0, ix1, add_i, sub_i, bi_int, bi_mx, bi_mn, bindT_nm, bindT_tup, bindT_lst, bindTs_nil, bindTs_cons, List.set_cons_zero, List.set_cons_succ, wipeE, setAll, perm1, perm2, perm10, perm3, perm210, perm5, List.length_cons, List.length_nil, if_true, Option.map_some, lstB_mk]
    exact k f pe
/-- what rings are drawn: few, not too long -/
theorem p31 {most : Int} (h1 : 1 ≤ most) {P : D → Prop} (k : ∀ rs, Rs rs → rs.sum ≤ most → P (rsD rs)) : Tot (f31 [objD 0, .int most]) P := by
  refine run_ok ?_
  show wSs T31 b31 [some (objD 0), some (.int most), none, none, none, none] _
  unfold b31
  try simp -implicitDefEqProofs only [wSs, wS, wEs, wE, wT, wTo, wI, wO, OO_nx, OO_ret, OO_brk, OO_cnt, LO_nx, LO_cnt, LO_ret, LO_brk, RO_ret, RO_nx, getV, List.getElem?_cons_zero, List.getElem?_cons_succ, Option.bind_some, id_eq, OB_some, BB_true, BB_false, boolB_mk, intB_mk, tru_bool, Bool.not_true, Bool.not_false, isInt_int, isBool_int, isTup_tup, len_tup, len_lst, toTup_lst, toTup_tup, toLst_tup, toLst_lst, walk_tup, walk_lst, c_ge, c_le, c_gt, c_lt, c_eq, c_ne, ix0, ix1, add_i, sub_i, bi_int, bi_mx, bi_mn, bindT_nm, bindT_tup, bindT_lst, bindTs_nil, bindTs_cons, List.set_cons_zero, List.set_cons_succ, wipeE, setAll, perm1, perm2, perm10, perm3, perm210, perm5, List.length_cons, List.length_nil, if_true, Option.map_some, lstB_mk]
  rw [cl_eq (g := f28) rfl]
  refine p28 (.inl rfl) (by simp) (by simp) fun x hx => ?_
  obtain ⟨c, rfl, c0, c1⟩ : ∃ c : Int, x = .int c ∧ 0 ≤ c ∧ c ≤ 5 := by
    revert x
    simp
  rw [range_one (by omega)]
  have er : (rangeD 0 c).length ≤ 5 := by
    unfold rangeD
    rw [List.length_map, List.length_range]
    omega
  try simp -implicitDefEqProofs only [wSs, wS, wEs, wE, wT, wTo, wI, wO, OO_nx, OO_ret, OO_brk, OO_cnt, LO_nx, LO_cnt, LO_ret, LO_brk, RO_ret, RO_nx, getV, List.getElem?_cons_zero, List.getElem?_cons_succ, Option.bind_some, id_eq, OB_some, BB_true, BB_false, boolB_mk, intB_mk, tru_bool, Bool.not_true, Bool.not_false, isInt_int, isBool_int, isTup_tup, len_tup, len_lst, toTup_lst, toTup_tup, toLst_tup, toLst_lst, walk_tup, walk_lst, c_ge, c_le, c_gt, c_lt, c_eq, c_ne, ix0, ix1, add_i, sub_i, bi_int, bi_mx, bi_mn, bindT_nm, bindT_tup, bindT_lst, bindTs_nil, bindTs_cons, List.set_cons_zero, List.set_cons_succ, wipeE, setAll, perm1, perm2, perm10, perm3, perm210, perm5, List.length_cons, List.length_nil, if_true, Option.map_some, lstB_mk]
  refine ⟨fun r e => ∃ (f : List Int) (left : Int) (x y : Option D), f.length + r.length ≤ 5 ∧ (∀ a ∈ f, 1 ≤ a) ∧ f.sum + left = most ∧ 0 ≤ left ∧ e = [some (objD 0), some (.int most), some (.list (f.map .int)), some (.int left), x, y], ⟨[], most, none, none, by simpa using er, by simp, by simp, by omega, rfl⟩, ?_, ?_⟩
  · rintro d r e ⟨f, left, x, y, q1, q2, q3, q4, rfl⟩
    try simp -implicitDefEqProofs only [wSs, wS, wEs, wE, wT, wTo, wI, wO, OO_nx, OO_ret, OO_brk, OO_cnt, LO_nx, LO_cnt, LO_ret, LO_brk, RO_ret, RO_nx, getV, List.getElem?_cons_zero, List.getElem?_cons_succ, Option.bind_some, id_eq, OB_some, BB_true, BB_false, boolB_mk, intB_mk, tru_bool, Bool.not_true, Bool.not_false, isInt_int, isBool_int, isTup_tup, len_tup, len_lst, toTup_lst, toTup_tup, toLst_tup, toLst_lst, walk_tup, walk_lst, c_ge, c_le, c_gt, c_lt, c_eq, c_ne, ix0, ix1, add_i, sub_i, bi_int, bi_mx, bi_mn, bindT_nm, bindT_tup, bindT_lst, bindTs_nil, bindTs_cons, List.set_cons_zero, List.set_cons_succ, wipeE, setAll, perm1, perm2, perm10, perm3, perm210, perm5, List.length_cons, List.length_nil, if_true, Option.map_some, lstB_mk]
    rw [cl_eq (g := f28) rfl]
    refine p28 (.inl rfl) (by simp) (by simp) fun x hx => ?_
    obtain ⟨a, rfl, a0⟩ : ∃ a : Int, x = .int a ∧ 1 ≤ a := by
      revert x
      simp
    try simp -implicitDefEqProofs only [wSs, wS, wEs, wE, wT, wTo, wI, wO, OO_nx, OO_ret, OO_brk, OO_cnt, LO_nx, LO_cnt, LO_ret, LO_brk, RO_ret, RO_nx, getV, List.getElem?_cons_zero, List.getElem?_cons_succ, Option.bind_some, id_eq, OB_some, BB_true, BB_false, boolB_mk, intB_mk, tru_bool, Bool.not_true, Bool.not_false, isInt_int, isBool_int, isTup_tup, len_tup, len_lst, toTup_lst, toTup_tup, toLst_tup, toLst_lst, walk_tup, walk_lst, c_ge, c_le, c_gt, c_lt, c_eq, c_ne, ix0, ix1, add_i, sub_i, bi_int, bi_mx, bi_mn, bindT_nm, bindT_tup, bindT_lst, bindTs_nil, bindTs_cons, List.set_cons_zero, List.set_cons_succ, wipeE, setAll, perm1, perm2, perm10, perm3, perm210, perm5, List.length_cons, List.length_nil, if_true, Option.map_some, lstB_mk]
    refine ⟨fun c => ?_, fun c => ?_⟩
    · have c' := of_decide_eq_true c
      have cp := cap_eq
      simp only [List.length_cons] at q1
      refine ⟨by rw [List.length_map]; omega, f ++ [a], left - a, some d, some (.int a), by simp; omega, ?_, by simp; omega, by omega, by simp⟩
      intro b hb
      rcases List.mem_append.mp hb with hb | hb
      · exact q2 b hb
      · obtain rfl : b = a := by simpa using hb
        exact a0
    · simp only [List.length_cons] at q1
      exact ⟨f, left, _, _, by omega, q2, q3, q4, rfl⟩
  · rintro e ⟨f, left, x, y, q1, q2, q3, q4, rfl⟩
    try simp -implicitDefEqProofs only [wSs, wS, wEs, wE, wT, wTo, wI, wO, OO_nx, OO_ret, OO_brk, OO_cnt, LO_nx, LO_cnt, LO_ret, LO_brk, RO_ret, RO_nx, getV, List.getElem?_cons_zero, List.getElem?_cons_succ, Option.bind_some, id_eq, OB_some, BB_true, BB_false, boolB_mk, intB_mk, tru_bool, Bool.not_true, Bool.not_false, isInt_int, isBool_int, isTup_tup, len_tup, len_lst, toTup_lst, toTup_tup, toLst_tup, toLst_lst, walk_tup, walk_lst, c_ge, c_le, c_gt, c_lt, c_eq, c_ne, ix0, ix1, add_i, sub_i, bi_int, bi_mx, bi_mn, bindT_nm, bindT_tup, bindT_lst, bindTs_nil, bindTs_cons, List.set_cons_zero, List.set_cons_succ, wipeE, setAll, perm1, perm2, perm10, perm3, perm210, perm5, List.length_cons, List.length_nil, if_true, Option.map_some, lstB_mk]
    rw [ne_nil (ints_plain f) (ints_depth f)]
    try simp -implicitDefEqProofs only [wSs, wS, wEs, wE, wT, wTo, wI, wO, OO_nx, OO_ret, OO_brk, OO_cnt, LO_nx, LO_cnt, LO_ret, LO_brk, RO_ret, RO_nx, getV, List.getElem?_cons_zero, List.getElem?_cons_succ, Option.bind_some, id_eq, OB_some, BB_true, BB_false, boolB_mk, intB_mk, tru_bool, Bool.not_true, Bool.not_false, isInt_int, isBool_int, isTup_tup, len_tup, len_lst, toTup_lst, toTup_tup, toLst_tup, toLst_lst, walk_tup, walk_lst, c_ge, c_le, c_gt, c_lt, c_eq, c_ne, ix0, ix1, add_i, sub_i, bi_int, bi_mx, bi_mn, bindT_nm, bindT_tup, bindT_lst, bindTs_nil, bindTs_cons, List.set_cons_zero, List.set_cons_succ, wipeE, setAll, perm1, perm2, perm10, perm3, perm210, perm5, List.length_cons, List.length_nil, if_true, Option.map_some, lstB_mk]
    refine ⟨fun c => ?_, fun c => ?_⟩
    · have fn : f ≠ [] := by
        intro e
        subst e
        cases c
      exact k f ⟨fn, by simp at q1; omega, q2⟩ (by omega)
    · exact k [1] ⟨by simp, by simp, by simp⟩ (by simpa using h1)
end GK02
namespace GK02
open PySem PD
theorem rs_le {rs : List Int} : ∀ {l : List Int}, (∀ r ∈ l, 1 ≤ r) → (l.length : Int) ≤ l.sum
  | [], _ => by simp
  | x :: l, h => by
    have := rs_le (rs := rs) fun r hr => h r (List.mem_cons_of_mem x hr)
    have := h x List.mem_cons_self
    rw [List.sum_cons, List.length_cons]
    omega
theorem spots_le {rs : List Int} {m : Nat} (h : ∀ r ∈ rs, 1 ≤ r) (hs : rs.sum ≤ m) : (spots rs).length ≤ m := by
  have := spF_len (k := 0) h
  unfold spots
  omega
theorem getsp {sp : List Pl} {i : Nat} {p : Pl} (h : sp[i]? = some p) : ixD (.list (sp.map plD)) (.int (i : Int)) = some (plD p) := ix_nat_lst (by rw [List.getElem?_map, h]; rfl)
theorem getod {od : List Nat} {j i : Nat} (h : od[j]? = some i) : ixD (.tuple (od.map nD)) (.int (j : Int)) = some (.int (i : Int)) := ix_nat_tup (by rw [List.getElem?_map, h]; rfl)
theorem getod1 {od : List Nat} {j i : Nat} (h : od[j + 1]? = some i) : ixD (.tuple (od.map nD)) (.int ((j : Int) + 1)) = some (.int (i : Int)) := getod h
theorem le120 {c : Int} (h : c ≤ 1000) : c ≤ 10 ^ 120 := Int.le_trans h (big 1000 (by decide))
theorem two_mul (m : Nat) : binop .mul (.int 2) (.int (m : Int)) = some (.int ((2 * m : Nat) : Int)) := by
  rw [mul_s (.inl (by decide))]
  rw [Int.natCast_mul]
  rfl
theorem plus_one (m : Nat) : binop .add (.int (m : Int)) (.int 1) = some (.int ((m + 1 : Nat) : Int)) := rfl
theorem sort_pair (p q : Pl) : bi .sorted [.list [plD p, plD q]] = some (.list (([p, q].mergeSort plLe).map plD)) := sorted_bi (ds := [p, q].map plD) rfl (sorted_pl (by rw [cap_eq]; simp))
theorem half (n : Nat) : binop .fdiv (.int (n : Int)) (.int 2) = some (.int ((n / 2 : Nat) : Int)) := by
  rw [fdiv_p (by decide) (by decide)]
  congr 2
  rw [Int.fdiv_eq_ediv_of_nonneg _ (by decide)]
  omega
theorem sort_touches {ts : List Tc} (h : ts.length ≤ 100) : bi .sorted [.list (ts.map tcD)] = some (.list ((ts.mergeSort tcLe).map tcD)) := sorted_bi (ds := ts.map tcD) rfl (sorted_tc (by rw [cap_eq]; omega))
theorem min20 (n : Nat) : (if ((n / 2 : Nat) : Int) < 20 then ((n / 2 : Nat) : Int) else 20) = ((min 20 (n / 2) : Nat) : Int) := by
  split <;> omega
/-- how many touches -/
def Tn (n : Nat) (ds : List D) : Prop := ∃ m : Nat, 2 * m ≤ n ∧ m ≤ 20 ∧ ds = (List.range m).map nD
theorem Tn.of {n : Nat} {c : Int} (h0 : 0 ≤ c) (h1 : c ≤ (min 20 (n / 2) : Nat)) : OB (rangeOf [.int c]) (Tn n) := by
  obtain ⟨m, rfl⟩ : ∃ m : Nat, c = (m : Int) := ⟨c.toNat, by omega⟩
  rw [range_one (by omega), rangeD_nat]
  exact ⟨m, by omega, by omega, rfl⟩
theorem range'_cons {m k : Nat} {d : D} {r : List D} (h : d :: r = (List.range' m k).map nD) : ∃ j, k = j + 1 ∧ d = nD m ∧ r = (List.range' (m + 1) j).map nD := by
  cases k with
  | zero => cases h
  | succ j =>
    rw [List.range'_succ, List.map_cons] at h
    obtain ⟨h1, h2⟩ := List.cons.inj h
    exact ⟨j, rfl, h1, h2⟩
theorem p32 {P : D → Prop} (k : ∀ rs ts, Fl rs ts → (spots rs).length ≤ 40 → P (flD rs ts)) : Tot (f32 [objD 0, .int 12]) P := by
  refine run_tot ?_
  show Tot (exs T32 b32 [some (objD 0), some (.int 12), none, none, none, none, none, none, none, none]) _
  unfold b32
  refine exs_tot (wS_ok _ _ _ ?_)
  try simp -implicitDefEqProofs only [wSs, wS, wEs, wE, wT, wTo, wI, wO, OO_nx, OO_ret, OO_brk, OO_cnt, LO_nx, LO_cnt, LO_ret, LO_brk, RO_ret, RO_nx, getV, List.getElem?_cons_zero, List.getElem?_cons_succ, Option.bind_some, id_eq, OB_some, BB_true, BB_false, boolB_mk, intB_mk, tru_bool, Bool.not_true, Bool.not_false, isInt_int, isBool_int, isTup_tup, len_tup, len_lst, toTup_lst, toTup_tup, toLst_tup, toLst_lst, walk_tup, walk_lst, c_ge, c_le, c_gt, c_lt, c_eq, c_ne, ix0, ix1, add_i, sub_i, bi_int, bi_mx, bi_mn, bindT_nm, bindT_tup, bindT_lst, bindTs_nil, bindTs_cons, List.set_cons_zero, List.set_cons_succ, wipeE, setAll, perm1, perm2, perm10, perm3, perm210, perm5, List.length_cons, List.length_nil, if_true, Option.map_some, lstB_mk]
  rw [cl_eq (g := f31) rfl]
  refine p31 (by decide) fun rs hr hs => ?_
  have sl : (spots rs).length ≤ 12 := spots_le hr.ps hs
  try simp -implicitDefEqProofs only [wSs, wS, wEs, wE, wT, wTo, wI, wO, OO_nx, OO_ret, OO_brk, OO_cnt, LO_nx, LO_cnt, LO_ret, LO_brk, RO_ret, RO_nx, getV, List.getElem?_cons_zero, List.getElem?_cons_succ, Option.bind_some, id_eq, OB_some, BB_true, BB_false, boolB_mk, intB_mk, tru_bool, Bool.not_true, Bool.not_false, isInt_int, isBool_int, isTup_tup, len_tup, len_lst, toTup_lst, toTup_tup, toLst_tup, toLst_lst, walk_tup, walk_lst, c_ge, c_le, c_gt, c_lt, c_eq, c_ne, ix0, ix1, add_i, sub_i, bi_int, bi_mx, bi_mn, bindT_nm, bindT_tup, bindT_lst, bindTs_nil, bindTs_cons, List.set_cons_zero, List.set_cons_succ, wipeE, setAll, perm1, perm2, perm10, perm3, perm210, perm5, List.length_cons, List.length_nil, if_true, Option.map_some, lstB_mk]
  refine exs_tot (wS_ok _ _ _ ?_)
  try simp -implicitDefEqProofs only [wSs, wS, wEs, wE, wT, wTo, wI, wO, OO_nx, OO_ret, OO_brk, OO_cnt, LO_nx, LO_cnt, LO_ret, LO_brk, RO_ret, RO_nx, getV, List.getElem?_cons_zero, List.getElem?_cons_succ, Option.bind_some, id_eq, OB_some, BB_true, BB_false, boolB_mk, intB_mk, tru_bool, Bool.not_true, Bool.not_false, isInt_int, isBool_int, isTup_tup, len_tup, len_lst, toTup_lst, toTup_tup, toLst_tup, toLst_lst, walk_tup, walk_lst, c_ge, c_le, c_gt, c_lt, c_eq, c_ne, ix0, ix1, add_i, sub_i, bi_int, bi_mx, bi_mn, bindT_nm, bindT_tup, bindT_lst, bindTs_nil, bindTs_cons, List.set_cons_zero, List.set_cons_succ, wipeE, setAll, perm1, perm2, perm10, perm3, perm210, perm5, List.length_cons, List.length_nil, if_true, Option.map_some, lstB_mk]
  rw [cl_eq (g := f30) rfl]
  refine p30 hr.ps (by omega) rfl ?_
  refine exs_tot (wS_ok _ _ _ ?_)
  try simp -implicitDefEqProofs only [wSs, wS, wEs, wE, wT, wTo, wI, wO, OO_nx, OO_ret, OO_brk, OO_cnt, LO_nx, LO_cnt, LO_ret, LO_brk, RO_ret, RO_nx, getV, List.getElem?_cons_zero, List.getElem?_cons_succ, Option.bind_some, id_eq, OB_some, BB_true, BB_false, boolB_mk, intB_mk, tru_bool, Bool.not_true, Bool.not_false, isInt_int, isBool_int, isTup_tup, len_tup, len_lst, toTup_lst, toTup_tup, toLst_tup, toLst_lst, walk_tup, walk_lst, c_ge, c_le, c_gt, c_lt, c_eq, c_ne, ix0, ix1, add_i, sub_i, bi_int, bi_mx, bi_mn, bindT_nm, bindT_tup, bindT_lst, bindTs_nil, bindTs_cons, List.set_cons_zero, List.set_cons_succ, wipeE, setAll, perm1, perm2, perm10, perm3, perm210, perm5, List.length_cons, List.length_nil, if_true, Option.map_some, lstB_mk]
  rw [cl_eq (g := f29) rfl, List.length_map]
  refine p29 (by omega) fun od ho => ?_
  rw [cl_eq (g := f27) rfl]
  refine p27 (by decide) (by decide) fun way w0 w1 => ?_
  try simp -implicitDefEqProofs only [wSs, wS, wEs, wE, wT, wTo, wI, wO, OO_nx, OO_ret, OO_brk, OO_cnt, LO_nx, LO_cnt, LO_ret, LO_brk, RO_ret, RO_nx, getV, List.getElem?_cons_zero, List.getElem?_cons_succ, Option.bind_some, id_eq, OB_some, BB_true, BB_false, boolB_mk, intB_mk, tru_bool, Bool.not_true, Bool.not_false, isInt_int, isBool_int, isTup_tup, len_tup, len_lst, toTup_lst, toTup_tup, toLst_tup, toLst_lst, walk_tup, walk_lst, c_ge, c_le, c_gt, c_lt, c_eq, c_ne, ix0, ix1, add_i, sub_i, bi_int, bi_mx, bi_mn, bindT_nm, bindT_tup, bindT_lst, bindTs_nil, bindTs_cons, List.set_cons_zero, List.set_cons_succ, wipeE, setAll, perm1, perm2, perm10, perm3, perm210, perm5, List.length_cons, List.length_nil, if_true, Option.map_some, lstB_mk]
  refine exs_tot (for_ok (Q := Tn (spots rs).length) ?_ ?_)
  · try simp -implicitDefEqProofs only [wSs, wS, wEs, wE, wT, wTo, wI, wO, OO_nx, OO_ret, OO_brk, OO_cnt, LO_nx, LO_cnt, LO_ret, LO_brk, RO_ret, RO_nx, getV, List.getElem?_cons_zero, List.getElem?_cons_succ, Option.bind_some, id_eq, OB_some, BB_true, BB_false, boolB_mk, intB_mk, tru_bool, Bool.not_true, Bool.not_false, isInt_int, isBool_int, isTup_tup, len_tup, len_lst, toTup_lst, toTup_tup, toLst_tup, toLst_lst, walk_tup, walk_lst, c_ge, c_le, c_gt, c_lt, c_eq, c_ne, ix0, ix1, add_i, sub_i, bi_int, bi_mx, bi_mn, bindT_nm, bindT_tup, bindT_lst, bindTs_nil, bindTs_cons, List.set_cons_zero, List.set_cons_succ, wipeE, setAll, perm1, perm2, perm10, perm3, perm210, perm5, List.length_cons, List.length_nil, if_true, Option.map_some, lstB_mk, half, List.length_map, min20]
    constructor
    · intro _
      rw [cl_eq (g := f27) rfl]
      exact p27 (by omega) (le120 (by omega)) fun c c0 c1 => Tn.of c0 (by omega)
    · intro _
      have c0 : (0 : Int) ≤ ((min 20 ((spots rs).length / 2) : Nat) : Int) := by omega
      have c1 : ((min 20 ((spots rs).length / 2) : Nat) : Int) ≤ ((min 20 ((spots rs).length / 2) : Nat) : Int) := by omega
      generalize hm : ((min 20 ((spots rs).length / 2) : Nat) : Int) = mm at c0 ⊢
      exact Tn.of c0 (by rw [hm]; exact Int.le_refl _)
  · rintro ds ⟨n, n1, n2, rfl⟩
    refine ⟨fun r e => ∃ m j ts x y z, m + j = n ∧ r = (List.range' m j).map nD ∧ TI (spots rs) od m ts ∧ e = [some (objD 0), some (.int 12), some (rsD rs), some (.list (ts.map tcD)), some (.list ((spots rs).map plD)), some (.tuple (od.map nD)), some (.int way), x, y, z], ⟨0, n, [], none, none, none, by simp, by rw [List.range_eq_range'], TI.nil _ _, rfl⟩, ?_, ?_⟩
    · rintro d r e ⟨m, j, ts, x, y, z, e1, e2, ti, rfl⟩
      obtain ⟨j, rfl, rfl, rfl⟩ := range'_cons e2
      obtain ⟨i, i', p, q, a, b, o1, o2, s1, s2, so, ti2⟩ := ti.step (spots_nodup rs) ho (by omega)
      try simp -implicitDefEqProofs only [wSs, wS, wEs, wE, wT, wTo, wI, wO, OO_nx, OO_ret, OO_brk, OO_cnt, LO_nx, LO_cnt, LO_ret, LO_brk, RO_ret, RO_nx, getV, List.getElem?_cons_zero, List.getElem?_cons_succ, Option.bind_some, id_eq, OB_some, BB_true, BB_false, boolB_mk, intB_mk, tru_bool, Bool.not_true, Bool.not_false, isInt_int, isBool_int, isTup_tup, len_tup, len_lst, toTup_lst, toTup_tup, toLst_tup, toLst_lst, walk_tup, walk_lst, c_ge, c_le, c_gt, c_lt, c_eq, c_ne, ix0, ix1, add_i, sub_i, bi_int, bi_mx, bi_mn, bindT_nm, bindT_tup, bindT_lst, bindTs_nil, bindTs_cons, List.set_cons_zero, List.set_cons_succ, wipeE, setAll, perm1, perm2, perm10, perm3, perm210, perm5, List.length_cons, List.length_nil, if_true, Option.map_some, lstB_mk, two_mul, getod o1, getod1 o2, getsp s1, getsp s2, sort_pair, so, List.map_cons, List.map_nil]
      refine ⟨by rw [List.length_map, ti.len, cap_eq]; omega, m + 1, j, _, some (nD m), some (plD a), some (plD b), by omega, rfl, ti2, ?_⟩
      rw [List.map_append]
      rfl
    · rintro e ⟨m, j, ts, x, y, z, e1, e2, ti, rfl⟩
      have tl := ti.len
      try simp -implicitDefEqProofs only [wSs, wS, wEs, wE, wT, wTo, wI, wO, OO_nx, OO_ret, OO_brk, OO_cnt, LO_nx, LO_cnt, LO_ret, LO_brk, RO_ret, RO_nx, getV, List.getElem?_cons_zero, List.getElem?_cons_succ, Option.bind_some, id_eq, OB_some, BB_true, BB_false, boolB_mk, intB_mk, tru_bool, Bool.not_true, Bool.not_false, isInt_int, isBool_int, isTup_tup, len_tup, len_lst, toTup_lst, toTup_tup, toLst_tup, toLst_lst, walk_tup, walk_lst, c_ge, c_le, c_gt, c_lt, c_eq, c_ne, ix0, ix1, add_i, sub_i, bi_int, bi_mx, bi_mn, bindT_nm, bindT_tup, bindT_lst, bindTs_nil, bindTs_cons, List.set_cons_zero, List.set_cons_succ, wipeE, setAll, perm1, perm2, perm10, perm3, perm210, perm5, List.length_cons, List.length_nil, if_true, Option.map_some, lstB_mk]
      refine rest_tot ?_
      try simp -implicitDefEqProofs only [wSs, wS, wEs, wE, wT, wTo, wI, wO, OO_nx, OO_ret, OO_brk, OO_cnt, LO_nx, LO_cnt, LO_ret, LO_brk, RO_ret, RO_nx, getV, List.getElem?_cons_zero, List.getElem?_cons_succ, Option.bind_some, id_eq, OB_some, BB_true, BB_false, boolB_mk, intB_mk, tru_bool, Bool.not_true, Bool.not_false, isInt_int, isBool_int, isTup_tup, len_tup, len_lst, toTup_lst, toTup_tup, toLst_tup, toLst_lst, walk_tup, walk_lst, c_ge, c_le, c_gt, c_lt, c_eq, c_ne, ix0, ix1, add_i, sub_i, bi_int, bi_mx, bi_mn, bindT_nm, bindT_tup, bindT_lst, bindTs_nil, bindTs_cons, List.set_cons_zero, List.set_cons_succ, wipeE, setAll, perm1, perm2, perm10, perm3, perm210, perm5, List.length_cons, List.length_nil, if_true, Option.map_some, lstB_mk, sort_touches (ts := ts) (by omega)]
      exact k rs _ (ti.fl hr ho (by omega)) (by omega)
theorem p33 {P : D → Prop} (k : ∀ rs ts, Fl rs ts → (spots rs).length ≤ 40 → P (flD rs ts)) : Tot (f33 [objD 0]) P := by
  refine run_tot ?_
  show Tot (exs T33 b33 [some (objD 0), none, none, none, none, none, none, none]) _
  unfold b33
  refine exs_tot (wS_ok _ _ _ ?_)
  try simp -implicitDefEqProofs only [wSs, wS, wEs, wE, wT, wTo, wI, wO, OO_nx, OO_ret, OO_brk, OO_cnt, LO_nx, LO_cnt, LO_ret, LO_brk, RO_ret, RO_nx, getV, List.getElem?_cons_zero, List.getElem?_cons_succ, Option.bind_some, id_eq, OB_some, BB_true, BB_false, boolB_mk, intB_mk, tru_bool, Bool.not_true, Bool.not_false, isInt_int, isBool_int, isTup_tup, len_tup, len_lst, toTup_lst, toTup_tup, toLst_tup, toLst_lst, walk_tup, walk_lst, c_ge, c_le, c_gt, c_lt, c_eq, c_ne, ix0, ix1, add_i, sub_i, bi_int, bi_mx, bi_mn, bindT_nm, bindT_tup, bindT_lst, bindTs_nil, bindTs_cons, List.set_cons_zero, List.set_cons_succ, wipeE, setAll, perm1, perm2, perm10, perm3, perm210, perm5, List.length_cons, List.length_nil, if_true, Option.map_some, lstB_mk]
  refine exs_tot (for_ok (Q := fun ds => ds.length ≤ 12) ?_ ?_)
  · try simp -implicitDefEqProofs only [wSs, wS, wEs, wE, wT, wTo, wI, wO, OO_nx, OO_ret, OO_brk, OO_cnt, LO_nx, LO_cnt, LO_ret, LO_brk, RO_ret, RO_nx, getV, List.getElem?_cons_zero, List.getElem?_cons_succ, Option.bind_some, id_eq, OB_some, BB_true, BB_false, boolB_mk, intB_mk, tru_bool, Bool.not_true, Bool.not_false, isInt_int, isBool_int, isTup_tup, len_tup, len_lst, toTup_lst, toTup_tup, toLst_tup, toLst_lst, walk_tup, walk_lst, c_ge, c_le, c_gt, c_lt, c_eq, c_ne, ix0, ix1, add_i, sub_i, bi_int, bi_mx, bi_mn, bindT_nm, bindT_tup, bindT_lst, bindTs_nil, bindTs_cons, List.set_cons_zero, List.set_cons_succ, wipeE, setAll, perm1, perm2, perm10, perm3, perm210, perm5, List.length_cons, List.length_nil, if_true, Option.map_some, lstB_mk]
    rw [cl_eq (g := f27) rfl]
    refine p27 (by decide) (by decide) fun c c0 c1 => ?_
    try simp -implicitDefEqProofs only [wSs, wS, wEs, wE, wT, wTo, wI, wO, OO_nx, OO_ret, OO_brk, OO_cnt, LO_nx, LO_cnt, LO_ret, LO_brk, RO_ret, RO_nx, getV, List.getElem?_cons_zero, List.getElem?_cons_succ, Option.bind_some, id_eq, OB_some, BB_true, BB_false, boolB_mk, intB_mk, tru_bool, Bool.not_true, Bool.not_false, isInt_int, isBool_int, isTup_tup, len_tup, len_lst, toTup_lst, toTup_tup, toLst_tup, toLst_lst, walk_tup, walk_lst, c_ge, c_le, c_gt, c_lt, c_eq, c_ne, ix0, ix1, add_i, sub_i, bi_int, bi_mx, bi_mn, bindT_nm, bindT_tup, bindT_lst, bindTs_nil, bindTs_cons, List.set_cons_zero, List.set_cons_succ, wipeE, setAll, perm1, perm2, perm10, perm3, perm210, perm5, List.length_cons, List.length_nil, if_true, Option.map_some, lstB_mk]
    rw [range_one (by omega)]
    unfold rangeD
    show (List.map _ (List.range (1 + c - 0).toNat)).length ≤ 12
    rw [List.length_map, List.length_range]
    omega
  intro ds hd
  refine ⟨fun r e => ∃ (f : List Int) (left : Int) (x y u v w : Option D), f.length + r.length ≤ 12 ∧ (∀ a ∈ f, 1 ≤ a) ∧ f.sum + left = 40 ∧ 0 ≤ left ∧ e = [some (objD 0), some (.list (f.map .int)), some (.int left), x, y, u, v, w], ⟨[], 40, none, none, none, none, none, by simpa using hd, by simp, by simp, by omega, rfl⟩, ?_, ?_⟩
  · rintro d r e ⟨f, left, x, y, u, v, w, q1, q2, q3, q4, rfl⟩
    try simp -implicitDefEqProofs only [wSs, wS, wEs, wE, wT, wTo, wI, wO, OO_nx, OO_ret, OO_brk, OO_cnt, LO_nx, LO_cnt, LO_ret, LO_brk, RO_ret, RO_nx, getV, List.getElem?_cons_zero, List.getElem?_cons_succ, Option.bind_some, id_eq, OB_some, BB_true, BB_false, boolB_mk, intB_mk, tru_bool, Bool.not_true, Bool.not_false, isInt_int, isBool_int, isTup_tup, len_tup, len_lst, toTup_lst, toTup_tup, toLst_tup, toLst_lst, walk_tup, walk_lst, c_ge, c_le, c_gt, c_lt, c_eq, c_ne, ix0, ix1, add_i, sub_i, bi_int, bi_mx, bi_mn, bindT_nm, bindT_tup, bindT_lst, bindTs_nil, bindTs_cons, List.set_cons_zero, List.set_cons_succ, wipeE, setAll, perm1, perm2, perm10, perm3, perm210, perm5, List.length_cons, List.length_nil, if_true, Option.map_some, lstB_mk]
    rw [cl_eq (g := f28) rfl]
    refine p28 (.inl rfl) (by simp) (by simp) fun x hx => ?_
    obtain ⟨a, rfl, a0, a1⟩ : ∃ a : Int, x = .int a ∧ 1 ≤ a ∧ a ≤ 20 := by
      revert x
      simp
    rw [cl_eq (g := f27) rfl]
    refine p27 (by omega) (le120 (by omega)) fun c c0 c1 => ?_
    try simp -implicitDefEqProofs only [wSs, wS, wEs, wE, wT, wTo, wI, wO, OO_nx, OO_ret, OO_brk, OO_cnt, LO_nx, LO_cnt, LO_ret, LO_brk, RO_ret, RO_nx, getV, List.getElem?_cons_zero, List.getElem?_cons_succ, Option.bind_some, id_eq, OB_some, BB_true, BB_false, boolB_mk, intB_mk, tru_bool, Bool.not_true, Bool.not_false, isInt_int, isBool_int, isTup_tup, len_tup, len_lst, toTup_lst, toTup_tup, toLst_tup, toLst_lst, walk_tup, walk_lst, c_ge, c_le, c_gt, c_lt, c_eq, c_ne, ix0, ix1, add_i, sub_i, bi_int, bi_mx, bi_mn, bindT_nm, bindT_tup, bindT_lst, bindTs_nil, bindTs_cons, List.set_cons_zero, List.set_cons_succ, wipeE, setAll, perm1, perm2, perm10, perm3, perm210, perm5, List.length_cons, List.length_nil, if_true, Option.map_some, lstB_mk]
    refine ⟨fun h => ?_, fun h => ?_⟩
    · have h' := of_decide_eq_true h
      have cp := cap_eq
      simp only [List.length_cons] at q1
      refine ⟨by rw [List.length_map]; omega, f ++ [1 + c], left - (1 + c), some d, some (.int (1 + c)), u, v, w, by simp; omega, ?_, by simp; omega, by omega, by simp⟩
      intro b hb
      rcases List.mem_append.mp hb with hb | hb
      · exact q2 b hb
      · obtain rfl : b = 1 + c := by simpa using hb
        omega
    · simp only [List.length_cons] at q1
      exact ⟨f, left, some d, some (.int (1 + c)), u, v, w, by omega, q2, q3, q4, rfl⟩
  rintro e ⟨f, left, x, y, u, v, w, q1, q2, q3, q4, rfl⟩
  try simp -implicitDefEqProofs only [wSs, wS, wEs, wE, wT, wTo, wI, wO, OO_nx, OO_ret, OO_brk, OO_cnt, LO_nx, LO_cnt, LO_ret, LO_brk, RO_ret, RO_nx, getV, List.getElem?_cons_zero, List.getElem?_cons_succ, Option.bind_some, id_eq, OB_some, BB_true, BB_false, boolB_mk, intB_mk, tru_bool, Bool.not_true, Bool.not_false, isInt_int, isBool_int, isTup_tup, len_tup, len_lst, toTup_lst, toTup_tup, toLst_tup, toLst_lst, walk_tup, walk_lst, c_ge, c_le, c_gt, c_lt, c_eq, c_ne, ix0, ix1, add_i, sub_i, bi_int, bi_mx, bi_mn, bindT_nm, bindT_tup, bindT_lst, bindTs_nil, bindTs_cons, List.set_cons_zero, List.set_cons_succ, wipeE, setAll, perm1, perm2, perm10, perm3, perm210, perm5, List.length_cons, List.length_nil, if_true, Option.map_some, lstB_mk]
  refine exs_tot (Tot.mono (P := fun o => ∃ rs : List Int, Rs rs ∧ rs.sum ≤ 40 ∧ o = .nx [some (objD 0), some (.list (rs.map .int)), some (.int left), x, y, u, v, w]) (wS_ok _ _ _ ?_) ?_)
  · try simp -implicitDefEqProofs only [wSs, wS, wEs, wE, wT, wTo, wI, wO, OO_nx, OO_ret, OO_brk, OO_cnt, LO_nx, LO_cnt, LO_ret, LO_brk, RO_ret, RO_nx, getV, List.getElem?_cons_zero, List.getElem?_cons_succ, Option.bind_some, id_eq, OB_some, BB_true, BB_false, boolB_mk, intB_mk, tru_bool, Bool.not_true, Bool.not_false, isInt_int, isBool_int, isTup_tup, len_tup, len_lst, toTup_lst, toTup_tup, toLst_tup, toLst_lst, walk_tup, walk_lst, c_ge, c_le, c_gt, c_lt, c_eq, c_ne, ix0, ix1, add_i, sub_i, bi_int, bi_mx, bi_mn, bindT_nm, bindT_tup, bindT_lst, bindTs_nil, bindTs_cons, List.set_cons_zero, List.set_cons_succ, wipeE, setAll, perm1, perm2, perm10, perm3, perm210, perm5, List.length_cons, List.length_nil, if_true, Option.map_some, lstB_mk, eq_nil (ints_plain f) (ints_depth f)]
    refine ⟨fun c => ⟨[7], ⟨by simp, by simp, by simp⟩, by decide, rfl⟩, fun c => ⟨f, ⟨?_, by simp at q1; omega, q2⟩, by omega, rfl⟩⟩
    intro e
    subst e
    cases c
  rintro o ⟨rs, hr, hs, rfl⟩
  have sl : (spots rs).length ≤ 40 := spots_le hr.ps hs
  try simp -implicitDefEqProofs only [wSs, wS, wEs, wE, wT, wTo, wI, wO, OO_nx, OO_ret, OO_brk, OO_cnt, LO_nx, LO_cnt, LO_ret, LO_brk, RO_ret, RO_nx, getV, List.getElem?_cons_zero, List.getElem?_cons_succ, Option.bind_some, id_eq, OB_some, BB_true, BB_false, boolB_mk, intB_mk, tru_bool, Bool.not_true, Bool.not_false, isInt_int, isBool_int, isTup_tup, len_tup, len_lst, toTup_lst, toTup_tup, toLst_tup, toLst_lst, walk_tup, walk_lst, c_ge, c_le, c_gt, c_lt, c_eq, c_ne, ix0, ix1, add_i, sub_i, bi_int, bi_mx, bi_mn, bindT_nm, bindT_tup, bindT_lst, bindTs_nil, bindTs_cons, List.set_cons_zero, List.set_cons_succ, wipeE, setAll, perm1, perm2, perm10, perm3, perm210, perm5, List.length_cons, List.length_nil, if_true, Option.map_some, lstB_mk]
  refine exs_tot (wS_ok _ _ _ ?_)
  try simp -implicitDefEqProofs only [wSs, wS, wEs, wE, wT, wTo, wI, wO, OO_nx, OO_ret, OO_brk, OO_cnt, LO_nx, LO_cnt, LO_ret, LO_brk, RO_ret, RO_nx, getV, List.getElem?_cons_zero, List.getElem?_cons_succ, Option.bind_some, id_eq, OB_some, BB_true, BB_false, boolB_mk, intB_mk, tru_bool, Bool.not_true, Bool.not_false, isInt_int, isBool_int, isTup_tup, len_tup, len_lst, toTup_lst, toTup_tup, toLst_tup, toLst_lst, walk_tup, walk_lst, c_ge, c_le, c_gt, c_lt, c_eq, c_ne, ix0, ix1, add_i, sub_i, bi_int, bi_mx, bi_mn, bindT_nm, bindT_tup, bindT_lst, bindTs_nil, bindTs_cons, List.set_cons_zero, List.set_cons_succ, wipeE, setAll, perm1, perm2, perm10, perm3, perm210, perm5, List.length_cons, List.length_nil, if_true, Option.map_some, lstB_mk]
  refine exs_tot (wS_ok _ _ _ ?_)
  try simp -implicitDefEqProofs only [wSs, wS, wEs, wE, wT, wTo, wI, wO, OO_nx, OO_ret, OO_brk, OO_cnt, LO_nx, LO_cnt, LO_ret, LO_brk, RO_ret, RO_nx, getV, List.getElem?_cons_zero, List.getElem?_cons_succ, Option.bind_some, id_eq, OB_some, BB_true, BB_false, boolB_mk, intB_mk, tru_bool, Bool.not_true, Bool.not_false, isInt_int, isBool_int, isTup_tup, len_tup, len_lst, toTup_lst, toTup_tup, toLst_tup, toLst_lst, walk_tup, walk_lst, c_ge, c_le, c_gt, c_lt, c_eq, c_ne, ix0, ix1, add_i, sub_i, bi_int, bi_mx, bi_mn, bindT_nm, bindT_tup, bindT_lst, bindTs_nil, bindTs_cons, List.set_cons_zero, List.set_cons_succ, wipeE, setAll, perm1, perm2, perm10, perm3, perm210, perm5, List.length_cons, List.length_nil, if_true, Option.map_some, lstB_mk]
  rw [cl_eq (g := f30) rfl]
  refine p30 hr.ps (by omega) rfl ?_
  refine exs_tot (wS_ok _ _ _ ?_)
  try simp -implicitDefEqProofs only [wSs, wS, wEs, wE, wT, wTo, wI, wO, OO_nx, OO_ret, OO_brk, OO_cnt, LO_nx, LO_cnt, LO_ret, LO_brk, RO_ret, RO_nx, getV, List.getElem?_cons_zero, List.getElem?_cons_succ, Option.bind_some, id_eq, OB_some, BB_true, BB_false, boolB_mk, intB_mk, tru_bool, Bool.not_true, Bool.not_false, isInt_int, isBool_int, isTup_tup, len_tup, len_lst, toTup_lst, toTup_tup, toLst_tup, toLst_lst, walk_tup, walk_lst, c_ge, c_le, c_gt, c_lt, c_eq, c_ne, ix0, ix1, add_i, sub_i, bi_int, bi_mx, bi_mn, bindT_nm, bindT_tup, bindT_lst, bindTs_nil, bindTs_cons, List.set_cons_zero, List.set_cons_succ, wipeE, setAll, perm1, perm2, perm10, perm3, perm210, perm5, List.length_cons, List.length_nil, if_true, Option.map_some, lstB_mk]
  rw [cl_eq (g := f29) rfl, List.length_map]
  refine p29 (by omega) fun od ho => ?_
  try simp -implicitDefEqProofs only [wSs, wS, wEs, wE, wT, wTo, wI, wO, OO_nx, OO_ret, OO_brk, OO_cnt, LO_nx, LO_cnt, LO_ret, LO_brk, RO_ret, RO_nx, getV, List.getElem?_cons_zero, List.getElem?_cons_succ, Option.bind_some, id_eq, OB_some, BB_true, BB_false, boolB_mk, intB_mk, tru_bool, Bool.not_true, Bool.not_false, isInt_int, isBool_int, isTup_tup, len_tup, len_lst, toTup_lst, toTup_tup, toLst_tup, toLst_lst, walk_tup, walk_lst, c_ge, c_le, c_gt, c_lt, c_eq, c_ne, ix0, ix1, add_i, sub_i, bi_int, bi_mx, bi_mn, bindT_nm, bindT_tup, bindT_lst, bindTs_nil, bindTs_cons, List.set_cons_zero, List.set_cons_succ, wipeE, setAll, perm1, perm2, perm10, perm3, perm210, perm5, List.length_cons, List.length_nil, if_true, Option.map_some, lstB_mk]
  refine exs_tot (for_ok (Q := Tn (spots rs).length) ?_ ?_)
  · try simp -implicitDefEqProofs only [wSs, wS, wEs, wE, wT, wTo, wI, wO, OO_nx, OO_ret, OO_brk, OO_cnt, LO_nx, LO_cnt, LO_ret, LO_brk, RO_ret, RO_nx, getV, List.getElem?_cons_zero, List.getElem?_cons_succ, Option.bind_some, id_eq, OB_some, BB_true, BB_false, boolB_mk, intB_mk, tru_bool, Bool.not_true, Bool.not_false, isInt_int, isBool_int, isTup_tup, len_tup, len_lst, toTup_lst, toTup_tup, toLst_tup, toLst_lst, walk_tup, walk_lst, c_ge, c_le, c_gt, c_lt, c_eq, c_ne, ix0, ix1, add_i, sub_i, bi_int, bi_mx, bi_mn, bindT_nm, bindT_tup, bindT_lst, bindTs_nil, bindTs_cons, List.set_cons_zero, List.set_cons_succ, wipeE, setAll, perm1, perm2, perm10, perm3, perm210, perm5, List.length_cons, List.length_nil, if_true, Option.map_some, lstB_mk, half, List.length_map, min20]
    rw [cl_eq (g := f27) rfl]
    refine p27 (by omega) (le120 (by omega)) fun c c0 c1 => Tn.of c0 (by omega)
  · rintro ds ⟨n, n1, n2, rfl⟩
    refine ⟨fun r e => ∃ m j ts x y z, m + j = n ∧ r = (List.range' m j).map nD ∧ TI (spots rs) od m ts ∧ e = [some (objD 0), some (.list (rs.map .int)), y, x, z, some (.list ((spots rs).map plD)), some (.tuple (od.map nD)), some (.list (ts.map tcD))], ⟨0, n, [], _, _, _, by simp, by rw [List.range_eq_range'], TI.nil _ _, rfl⟩, ?_, ?_⟩
    · rintro d r e ⟨m, j, ts, x, y, z, e1, e2, ti, rfl⟩
      obtain ⟨j, rfl, rfl, rfl⟩ := range'_cons e2
      obtain ⟨i, i', p, q, a, b, o1, o2, s1, s2, so, ti2⟩ := ti.step (spots_nodup rs) ho (by omega)
      try simp -implicitDefEqProofs only [wSs, wS, wEs, wE, wT, wTo, wI, wO, OO_nx, OO_ret, OO_brk, OO_cnt, LO_nx, LO_cnt, LO_ret, LO_brk, RO_ret, RO_nx, getV, List.getElem?_cons_zero, List.getElem?_cons_succ, Option.bind_some, id_eq, OB_some, BB_true, BB_false, boolB_mk, intB_mk, tru_bool, Bool.not_true, Bool.not_false, isInt_int, isBool_int, isTup_tup, len_tup, len_lst, toTup_lst, toTup_tup, toLst_tup, toLst_lst, walk_tup, walk_lst, c_ge, c_le, c_gt, c_lt, c_eq, c_ne, ix0, ix1, add_i, sub_i, bi_int, bi_mx, bi_mn, bindT_nm, bindT_tup, bindT_lst, bindTs_nil, bindTs_cons, List.set_cons_zero, List.set_cons_succ, wipeE, setAll, perm1, perm2, perm10, perm3, perm210, perm5, List.length_cons, List.length_nil, if_true, Option.map_some, lstB_mk, two_mul, getod o1, getod1 o2, getsp s1, getsp s2, sort_pair, so, List.map_cons, List.map_nil]
      refine ⟨by rw [List.length_map, ti.len, cap_eq]; omega, m + 1, j, _, some (nD m), y, z, by omega, rfl, ti2, ?_⟩
      rw [List.map_append]
      rfl
    · rintro e ⟨m, j, ts, x, y, z, e1, e2, ti, rfl⟩
      have tl := ti.len
      try simp -implicitDefEqProofs only [wSs, wS, wEs, wE, wT, wTo, wI, wO, OO_nx, OO_ret, OO_brk, OO_cnt, LO_nx, LO_cnt, LO_ret, LO_brk, RO_ret, RO_nx, getV, List.getElem?_cons_zero, List.getElem?_cons_succ, Option.bind_some, id_eq, OB_some, BB_true, BB_false, boolB_mk, intB_mk, tru_bool, Bool.not_true, Bool.not_false, isInt_int, isBool_int, isTup_tup, len_tup, len_lst, toTup_lst, toTup_tup, toLst_tup, toLst_lst, walk_tup, walk_lst, c_ge, c_le, c_gt, c_lt, c_eq, c_ne, ix0, ix1, add_i, sub_i, bi_int, bi_mx, bi_mn, bindT_nm, bindT_tup, bindT_lst, bindTs_nil, bindTs_cons, List.set_cons_zero, List.set_cons_succ, wipeE, setAll, perm1, perm2, perm10, perm3, perm210, perm5, List.length_cons, List.length_nil, if_true, Option.map_some, lstB_mk]
      refine rest_tot ?_
      try simp -implicitDefEqProofs only [wSs, wS, wEs, wE, wT, wTo, wI, wO, OO_nx, OO_ret, OO_brk, OO_cnt, LO_nx, LO_cnt, LO_ret, LO_brk, RO_ret, RO_nx, getV, List.getElem?_cons_zero, List.getElem?_cons_succ, Option.bind_some, id_eq, OB_some, BB_true, BB_false, boolB_mk, intB_mk, tru_bool, Bool.not_true, Bool.not_false, isInt_int, isBool_int, isTup_tup, len_tup, len_lst, toTup_lst, toTup_tup, toLst_tup, toLst_lst, walk_tup, walk_lst, c_ge, c_le, c_gt, c_lt, c_eq, c_ne, ix0, ix1, add_i, sub_i, bi_int, bi_mx, bi_mn, bindT_nm, bindT_tup, bindT_lst, bindTs_nil, bindTs_cons, List.set_cons_zero, List.set_cons_succ, wipeE, setAll, perm1, perm2, perm10, perm3, perm210, perm5, List.length_cons, List.length_nil, if_true, Option.map_some, lstB_mk, sort_touches (ts := ts) (by omega)]
      exact k rs _ (ti.fl hr ho (by omega)) (by omega)
theorem p34 {rs : List Int} {ts : List Tc} {u i : Nat} {l j : Int} (hu : rs[u]? = some l) (hl : 1 ≤ l) {P : D → Prop} (k : P (plD ((u : Int), ((i : Int) + j).fmod l))) : Tot (f34 [flD rs ts, plD ((u : Int), (i : Int)), .int j]) P := by
  refine run_ok ?_
  show wSs T34 b34 [some (flD rs ts), some (plD ((u : Int), (i : Int))), some (.int j)] _
  have e1 : ixD (.tuple (rs.map .int)) (.int (u : Int)) = some (.int l) := ix_nat_tup (by rw [List.getElem?_map, hu]; rfl)
  unfold b34 flD rsD plD
  try simp -implicitDefEqProofs only [wSs, wS, wEs, wE, wT, wTo, wI, wO, OO_nx, OO_ret, OO_brk, OO_cnt, LO_nx, LO_cnt, LO_ret, LO_brk, RO_ret, RO_nx, getV, List.getElem?_cons_zero, List.getElem?_cons_succ, Option.bind_some, id_eq, OB_some, BB_true, BB_false, boolB_mk, intB_mk, tru_bool, Bool.not_true, Bool.not_false, isInt_int, isBool_int, isTup_tup, len_tup, len_lst, toTup_lst, toTup_tup, toLst_tup, toLst_lst, walk_tup, walk_lst, c_ge, c_le, c_gt, c_lt, c_eq, c_ne, ix0, ix1, add_i, sub_i, bi_int, bi_mx, bi_mn, bindT_nm, bindT_tup, bindT_lst, bindTs_nil, bindTs_cons, List.set_cons_zero, List.set_cons_succ, wipeE, setAll, perm1, perm2, perm10, perm3, perm210, perm5, List.length_cons, List.length_nil, if_true, Option.map_some, lstB_mk, e1]
  rw [mod_s (by omega)]
  exact k
end GK02
namespace GK02
open PySem PD
theorem few200 {x : Int} (h : -1000 ≤ x) (h2 : x ≤ 1000) : x.natAbs < 10 ^ 200 := Nat.lt_of_le_of_lt (show x.natAbs ≤ 1000 by omega) (by decide +kernel)
theorem sh_int {k : Nat} {x : Int} (h : -1000 ≤ x) (h2 : x ≤ 1000) : Sh k 1000 (.int x) := (Sh.int (few200 h h2)).mono (Nat.le_refl _) (by decide)
theorem sh_pl {u x : Int} (h : -1000 ≤ u ∧ u ≤ 1000) (h2 : -1000 ≤ x ∧ x ≤ 1000) : Sh 1 1000 (plD (u, x)) := by
  refine (Sh.tup (k := 0) (b := 201) (ds := [.int u, .int x]) ?_).mono (by decide) (by simp)
  intro d hd
  rcases List.mem_cons.mp hd with rfl | hd
  · exact Sh.int (few200 h.1 h.2)
  · obtain rfl : d = .int x := by simpa using hd
    exact Sh.int (few200 h2.1 h2.2)
theorem sh_bool {k : Nat} {b : Bool} : Sh k 1000 (.bool b) := (Sh.bool b).mono (Nat.le_refl _) (by decide)
theorem sh_none {k : Nat} : Sh k 1000 .none := Sh.none.mono (Nat.le_refl _) (by decide)
theorem sh_list {k : Nat} {ds : List D} (h : ∀ d ∈ ds, Sh k 1000 d) (hl : ds.length ≤ 100) (hk : k ≤ 10) : bi .repr [.tuple ds] = some (.str (PyData.tuple ds).shown) := by
  refine repr_ok (Sh.tup h) (by omega) ?_
  have : ds.length * (1000 + 2) ≤ 100 * 1002 := Nat.mul_le_mul hl (Nat.le_refl _)
  rw [cap_eq]
  omega
theorem rp2 {a b : D} (h1 : Sh 1 1000 a) (h2 : Sh 1 1000 b) : bi .repr [.tuple [a, b]] = some (.str (PyData.tuple [a, b]).shown) :=
  sh_list (k := 1) (by intro d hd; simp at hd; rcases hd with rfl | rfl <;> assumption) (by simp) (by decide)
theorem rp3 {a b c : D} (h1 : Sh 1 1000 a) (h2 : Sh 1 1000 b) (h3 : Sh 1 1000 c) : bi .repr [.tuple [a, b, c]] = some (.str (PyData.tuple [a, b, c]).shown) :=
  sh_list (k := 1) (by intro d hd; simp at hd; rcases hd with rfl | rfl | rfl <;> assumption) (by simp) (by decide)
theorem rp1 {a : D} (h1 : Sh 1 1000 a) : bi .repr [a] = some (.str a.shown) := repr_ok h1 (by decide) (by decide)
theorem fm {a l : Int} (h : 1 ≤ l) : a.fmod l = a % l := Int.fmod_eq_emod_of_nonneg a (by omega)
theorem fm_bd {a l : Int} (h : 1 ≤ l) : 0 ≤ a.fmod l ∧ a.fmod l < l := mod_lt (by omega)
theorem fm_nat {a l : Int} (h : 1 ≤ l) : ∃ m : Nat, a.fmod l = (m : Int) ∧ (m : Int) < l := ⟨(a.fmod l).toNat, by have := fm_bd (a := a) h; omega, by have := fm_bd (a := a) h; omega⟩
theorem get_dm {m : DM} {p : Pl} : mt .get (.dict (dmD m)) [plD p, .none] = some (((m.lookup p).map plD).getD .none) := by
  have e2 : fits (dmD m) (plD p) = true := dm_fits _ _
  have e3 := dm_find m p
  cases m with
  | nil => rfl
  | cons x m =>
    show (if fits (dmD (x :: m)) (plD p) then some ((PD.find? (dmD (x :: m)) (plD p)).getD .none) else none) = _
    rw [if_pos e2, e3]
theorem getOk_dm {m : DM} : mtOk .get (.dict (dmD m)) = true := by
  cases m <;> rfl
theorem neg_i (i : Int) (P : Int → Prop) : intB (.int i) P = P i := rfl
theorem back1 {i k l : Int} (hl : 1 ≤ l) : ((i + k).fmod l + -k).fmod l = i.fmod l := by
  rw [fm hl, fm hl, fm hl, Int.emod_add_emod]
  congr 1
  omega
theorem next1 {i k l : Int} (hl : 1 ≤ l) : (i + (k + 1)).fmod l = if (i + k).fmod l + 1 < l then (i + k).fmod l + 1 else 0 := by
  have b := fm_bd (a := i + k) hl
  rw [fm hl] at *
  have e : (i + (k + 1)) % l = ((i + k) % l + 1) % l := by
    rw [Int.emod_add_emod]
    congr 1
    omega
  rw [fm hl, e]
  split
  · exact Int.emod_eq_of_lt (by omega) (by omega)
  · have : (i + k) % l + 1 = l := by omega
    rw [this, Int.emod_self]
theorem both {i k o l : Int} (hl : 1 ≤ l) : ((i + k).fmod l + o).fmod l = (i + (k + o).fmod l).fmod l := by
  rw [fm hl, fm hl, fm hl, fm hl, Int.emod_add_emod, Int.add_emod_emod]
  congr 1
  omega
theorem mul_big : binop .mul (.int (10 ^ 50)) (.int (10 ^ 49)) = some (.int (10 ^ 50 * 10 ^ 49)) := by
  unfold binop
  dsimp only
  have h : ¬ (small (10 ^ 50) || small (10 ^ 49)) = true := by decide +kernel
  rw [if_neg h, if_pos (by decide +kernel)]
end GK02
namespace GK02
open PySem PD
theorem le_sum {l : List Int} {x : Int} (h : ∀ r ∈ l, 1 ≤ r) (hx : x ∈ l) : x ≤ l.sum := by
  induction l with
  | nil => cases hx
  | cons y l ih =>
    rw [List.sum_cons]
    have y1 := h y List.mem_cons_self
    have s0 : 0 ≤ l.sum := by
      have := rs_le (rs := l) (l := l) fun r hr => h r (List.mem_cons_of_mem _ hr)
      omega
    rcases List.mem_cons.mp hx with rfl | hx
    · omega
    · have := ih (fun r hr => h r (List.mem_cons_of_mem _ hr)) hx
      omega
theorem p36 {rs : List Int} {ts : List Tc} (h : Fl rs ts) (sl : (spots rs).length ≤ 40) {n : Nat} {p : Pl} (hn : (spots rs)[n]? = some p) {P : D → Prop} (k : P (.bool true)) :
    Tot (f36 [objD 0, flD rs ts, plD p, .int n, .dict (dmD (dm ts))]) P := by
  obtain ⟨u, i, l, rfl, hu, hi, hat⟩ := spF_get h.rg.ps hn
  have hl : 1 ≤ l := h.rg.ps l (List.mem_of_getElem? hu)
  have hul : u < rs.length := (List.getElem?_eq_some_iff.mp hu).1
  have n40 : n < 40 := Nat.lt_of_lt_of_le (List.getElem?_eq_some_iff.mp hn).1 sl
  have rl := h.rg.le
  rw [show (0 + u : Nat) = u by omega] at hn ⊢
  have hp : InP rs ((u : Int), (i : Int)) := ⟨u, i, l, rfl, hu, hi⟩
  have sum40 : rs.sum ≤ 40 := by
    have := spF_len (k := 0) h.rg.ps
    unfold spots at sl
    omega
  have l40 : l ≤ 40 := Int.le_trans (le_sum h.rg.ps (List.mem_of_getElem? hu)) sum40
  have ixu : ixD (rsD rs) (.int (u : Int)) = some (.int l) := ix_nat_tup (by rw [List.getElem?_map, hu]; rfl)
  have shp : ∀ x : Int, 0 ≤ x → x < l → Sh 1 1000 (plD ((u : Int), x)) := fun x h0 h1 => sh_pl ⟨by omega, by omega⟩ ⟨by omega, by omega⟩
  refine run_tot ?_
  show Tot (exs T36 b36 [some (objD 0), some (flD rs ts), some (plD ((u : Int), (i : Int))), some (.int n), some (.dict (dmD (dm ts))), none, none, none, none, none, none, none]) _
  unfold b36
  have fl0 : ixD (flD rs ts) (.int 0) = some (rsD rs) := ix0 _ _
  have pl0 : ∀ x : Int, ixD (plD ((u : Int), x)) (.int 0) = some (.int u) := fun x => ix0 _ _
  have pl1 : ∀ x : Int, ixD (plD ((u : Int), x)) (.int 1) = some (.int x) := fun x => ix1 _ _ _
  refine exs_tot (wS_ok _ _ _ ?_)
  try simp -implicitDefEqProofs only [wSs, wS, wEs, wE, wT, wTo, wI, wO, OO_nx, OO_ret, OO_brk, OO_cnt, LO_nx, LO_cnt, LO_ret, LO_brk, RO_ret, RO_nx, getV, List.getElem?_cons_zero, List.getElem?_cons_succ, Option.bind_some, id_eq, OB_some, BB_true, BB_false, boolB_mk, intB_mk, tru_bool, Bool.not_true, Bool.not_false, isInt_int, isBool_int, isTup_tup, len_tup, len_lst, toTup_lst, toTup_tup, toLst_tup, toLst_lst, walk_tup, walk_lst, c_ge, c_le, c_gt, c_lt, c_eq, c_ne, ix0, ix1, add_i, sub_i, bi_int, bi_mx, bi_mn, bindT_nm, bindT_tup, bindT_lst, bindTs_nil, bindTs_cons, List.set_cons_zero, List.set_cons_succ, wipeE, setAll, perm1, perm2, perm10, perm3, perm210, perm5, List.length_cons, List.length_nil, if_true, Option.map_some, lstB_mk, fl0, pl0, ixu]
  refine exs_tot (wS_ok _ _ _ ?_)
  try simp -implicitDefEqProofs only [wSs, wS, wEs, wE, wT, wTo, wI, wO, OO_nx, OO_ret, OO_brk, OO_cnt, LO_nx, LO_cnt, LO_ret, LO_brk, RO_ret, RO_nx, getV, List.getElem?_cons_zero, List.getElem?_cons_succ, Option.bind_some, id_eq, OB_some, BB_true, BB_false, boolB_mk, intB_mk, tru_bool, Bool.not_true, Bool.not_false, isInt_int, isBool_int, isTup_tup, len_tup, len_lst, toTup_lst, toTup_tup, toLst_tup, toLst_lst, walk_tup, walk_lst, c_ge, c_le, c_gt, c_lt, c_eq, c_ne, ix0, ix1, add_i, sub_i, bi_int, bi_mx, bi_mn, bindT_nm, bindT_tup, bindT_lst, bindTs_nil, bindTs_cons, List.set_cons_zero, List.set_cons_succ, wipeE, setAll, perm1, perm2, perm10, perm3, perm210, perm5, List.length_cons, List.length_nil, if_true, Option.map_some, lstB_mk, fl0, pl0, ixu]
  rw [cl_eq (g := f24) rfl]
  refine p24 h hp (by omega) ?_
  rw [cl_eq (g := f24) rfl]
  refine p24 h hp (by omega) ?_
  rw [cl_eq (g := f22) rfl]
  refine p22 h hp ?_
  have seat : (rs.take u).sum + (i : Int) = n := hat.symm
  have shn : Sh 1 1000 (.int (n : Int)) := sh_int (by omega) (by omega)
  rw [seat, rp3 shn shn sh_bool]
  try simp -implicitDefEqProofs only [wSs, wS, wEs, wE, wT, wTo, wI, wO, OO_nx, OO_ret, OO_brk, OO_cnt, LO_nx, LO_cnt, LO_ret, LO_brk, RO_ret, RO_nx, getV, List.getElem?_cons_zero, List.getElem?_cons_succ, Option.bind_some, id_eq, OB_some, BB_true, BB_false, boolB_mk, intB_mk, tru_bool, Bool.not_true, Bool.not_false, isInt_int, isBool_int, isTup_tup, len_tup, len_lst, toTup_lst, toTup_tup, toLst_tup, toLst_lst, walk_tup, walk_lst, c_ge, c_le, c_gt, c_lt, c_eq, c_ne, ix0, ix1, add_i, sub_i, bi_int, bi_mx, bi_mn, bindT_nm, bindT_tup, bindT_lst, bindTs_nil, bindTs_cons, List.set_cons_zero, List.set_cons_succ, wipeE, setAll, perm1, perm2, perm10, perm3, perm210, perm5, List.length_cons, List.length_nil, if_true, Option.map_some, lstB_mk, str_ne]
  refine exs_tot (wS_ok _ _ _ ?_)
  try simp -implicitDefEqProofs only [wSs, wS, wEs, wE, wT, wTo, wI, wO, OO_nx, OO_ret, OO_brk, OO_cnt, LO_nx, LO_cnt, LO_ret, LO_brk, RO_ret, RO_nx, getV, List.getElem?_cons_zero, List.getElem?_cons_succ, Option.bind_some, id_eq, OB_some, BB_true, BB_false, boolB_mk, intB_mk, tru_bool, Bool.not_true, Bool.not_false, isInt_int, isBool_int, isTup_tup, len_tup, len_lst, toTup_lst, toTup_tup, toLst_tup, toLst_lst, walk_tup, walk_lst, c_ge, c_le, c_gt, c_lt, c_eq, c_ne, ix0, ix1, add_i, sub_i, bi_int, bi_mx, bi_mn, bindT_nm, bindT_tup, bindT_lst, bindTs_nil, bindTs_cons, List.set_cons_zero, List.set_cons_succ, wipeE, setAll, perm1, perm2, perm10, perm3, perm210, perm5, List.length_cons, List.length_nil, if_true, Option.map_some, lstB_mk, getOk_dm, get_dm]
  refine ⟨trivial, ?_⟩
  generalize hm : (((dm ts).lookup ((u : Int), (i : Int))).map plD).getD .none = mate
  have shm : Sh 1 1000 mate := by
    cases e : (dm ts).lookup ((u : Int), (i : Int)) with
    | none =>
      rw [e] at hm
      subst hm
      exact sh_none
    | some q =>
      rw [e] at hm
      subst hm
      have := partner_sym h.nd e
      have mem : q ∈ ends ts := lookup_some.mp (by rw [this]; rfl)
      obtain ⟨t, ht, hq⟩ := List.mem_flatMap.mp mem
      have inn := h.inn t ht
      have inq : InP rs q := by
        simp at hq
        rcases hq with rfl | rfl
        · exact inn.1
        · exact inn.2
      obtain ⟨a, b, c, rfl, ha, hb⟩ := inq
      have q1 := (List.getElem?_eq_some_iff.mp ha).1
      have q2 : c ≤ 40 := Int.le_trans (le_sum h.rg.ps (List.mem_of_getElem? ha)) sum40
      exact sh_pl ⟨by omega, by omega⟩ ⟨by omega, by omega⟩
  refine exs_tot (wS_ok _ _ _ ?_)
  try simp -implicitDefEqProofs only [wSs, wS, wEs, wE, wT, wTo, wI, wO, OO_nx, OO_ret, OO_brk, OO_cnt, LO_nx, LO_cnt, LO_ret, LO_brk, RO_ret, RO_nx, getV, List.getElem?_cons_zero, List.getElem?_cons_succ, Option.bind_some, id_eq, OB_some, BB_true, BB_false, boolB_mk, intB_mk, tru_bool, Bool.not_true, Bool.not_false, isInt_int, isBool_int, isTup_tup, len_tup, len_lst, toTup_lst, toTup_tup, toLst_tup, toLst_lst, walk_tup, walk_lst, c_ge, c_le, c_gt, c_lt, c_eq, c_ne, ix0, ix1, add_i, sub_i, bi_int, bi_mx, bi_mn, bindT_nm, bindT_tup, bindT_lst, bindTs_nil, bindTs_cons, List.set_cons_zero, List.set_cons_succ, wipeE, setAll, perm1, perm2, perm10, perm3, perm210, perm5, List.length_cons, List.length_nil, if_true, Option.map_some, lstB_mk]
  rw [cl_eq (g := f26) rfl]
  refine p26 h hp ?_
  rw [cl_eq (g := f26) rfl]
  refine p26 h hp ?_
  rw [hm, rp2 shm shm]
  try simp -implicitDefEqProofs only [wSs, wS, wEs, wE, wT, wTo, wI, wO, OO_nx, OO_ret, OO_brk, OO_cnt, LO_nx, LO_cnt, LO_ret, LO_brk, RO_ret, RO_nx, getV, List.getElem?_cons_zero, List.getElem?_cons_succ, Option.bind_some, id_eq, OB_some, BB_true, BB_false, boolB_mk, intB_mk, tru_bool, Bool.not_true, Bool.not_false, isInt_int, isBool_int, isTup_tup, len_tup, len_lst, toTup_lst, toTup_tup, toLst_tup, toLst_lst, walk_tup, walk_lst, c_ge, c_le, c_gt, c_lt, c_eq, c_ne, ix0, ix1, add_i, sub_i, bi_int, bi_mx, bi_mn, bindT_nm, bindT_tup, bindT_lst, bindTs_nil, bindTs_cons, List.set_cons_zero, List.set_cons_succ, wipeE, setAll, perm1, perm2, perm10, perm3, perm210, perm5, List.length_cons, List.length_nil, if_true, Option.map_some, lstB_mk, str_ne]
  refine exs_tot (if_ok (Q := fun b => b = false) ?_ (fun z => nomatch z) fun _ => ?_)
  · try simp -implicitDefEqProofs only [wSs, wS, wEs, wE, wT, wTo, wI, wO, OO_nx, OO_ret, OO_brk, OO_cnt, LO_nx, LO_cnt, LO_ret, LO_brk, RO_ret, RO_nx, getV, List.getElem?_cons_zero, List.getElem?_cons_succ, Option.bind_some, id_eq, OB_some, BB_true, BB_false, boolB_mk, intB_mk, tru_bool, Bool.not_true, Bool.not_false, isInt_int, isBool_int, isTup_tup, len_tup, len_lst, toTup_lst, toTup_tup, toLst_tup, toLst_lst, walk_tup, walk_lst, c_ge, c_le, c_gt, c_lt, c_eq, c_ne, ix0, ix1, add_i, sub_i, bi_int, bi_mx, bi_mn, bindT_nm, bindT_tup, bindT_lst, bindTs_nil, bindTs_cons, List.set_cons_zero, List.set_cons_succ, wipeE, setAll, perm1, perm2, perm10, perm3, perm210, perm5, List.length_cons, List.length_nil, if_true, Option.map_some, lstB_mk, c_is_none]
    cases e : (dm ts).lookup ((u : Int), (i : Int)) with
    | none =>
      rw [e] at hm
      subst hm
      exact ⟨fun z => (nomatch z), fun _ => trivial⟩
    | some q =>
      rw [e] at hm
      subst hm
      have sym := partner_sym h.nd e
      have mem : q ∈ ends ts := lookup_some.mp (by rw [sym]; rfl)
      obtain ⟨t, ht, hq⟩ := List.mem_flatMap.mp mem
      have inn := h.inn t ht
      have inq : InP rs q := by
        simp at hq
        rcases hq with rfl | rfl
        · exact inn.1
        · exact inn.2
      refine ⟨fun _ => ?_, fun z => nomatch z⟩
      rw [cl_eq (g := f26) rfl]
      refine p26 h inq ?_
      rw [sym]
      show OB (bi .repr [plD ((u : Int), (i : Int))]) _
      rw [rp1 (shp _ (by omega) hi)]
      try simp -implicitDefEqProofs only [wSs, wS, wEs, wE, wT, wTo, wI, wO, OO_nx, OO_ret, OO_brk, OO_cnt, LO_nx, LO_cnt, LO_ret, LO_brk, RO_ret, RO_nx, getV, List.getElem?_cons_zero, List.getElem?_cons_succ, Option.bind_some, id_eq, OB_some, BB_true, BB_false, boolB_mk, intB_mk, tru_bool, Bool.not_true, Bool.not_false, isInt_int, isBool_int, isTup_tup, len_tup, len_lst, toTup_lst, toTup_tup, toLst_tup, toLst_lst, walk_tup, walk_lst, c_ge, c_le, c_gt, c_lt, c_eq, c_ne, ix0, ix1, add_i, sub_i, bi_int, bi_mx, bi_mn, bindT_nm, bindT_tup, bindT_lst, bindTs_nil, bindTs_cons, List.set_cons_zero, List.set_cons_succ, wipeE, setAll, perm1, perm2, perm10, perm3, perm210, perm5, List.length_cons, List.length_nil, if_true, Option.map_some, lstB_mk, str_ne]
  refine exs_nil ?_
  rw [OO_nx]
  have isf : (i : Int).fmod l = i := by
    rw [fm hl]
    exact Int.emod_eq_of_lt (by omega) hi
  refine exs_tot (wS_ok _ _ _ ?_)
  try simp -implicitDefEqProofs only [wSs, wS, wEs, wE, wT, wTo, wI, wO, OO_nx, OO_ret, OO_brk, OO_cnt, LO_nx, LO_cnt, LO_ret, LO_brk, RO_ret, RO_nx, getV, List.getElem?_cons_zero, List.getElem?_cons_succ, Option.bind_some, id_eq, OB_some, BB_true, BB_false, boolB_mk, intB_mk, tru_bool, Bool.not_true, Bool.not_false, isInt_int, isBool_int, isTup_tup, len_tup, len_lst, toTup_lst, toTup_tup, toLst_tup, toLst_lst, walk_tup, walk_lst, c_ge, c_le, c_gt, c_lt, c_eq, c_ne, ix0, ix1, add_i, sub_i, bi_int, bi_mx, bi_mn, bindT_nm, bindT_tup, bindT_lst, bindTs_nil, bindTs_cons, List.set_cons_zero, List.set_cons_succ, wipeE, setAll, perm1, perm2, perm10, perm3, perm210, perm5, List.length_cons, List.length_nil, if_true, Option.map_some, lstB_mk]
  refine exs_tot (for_ok (Q := fun ds => ds = (List.range 4).map nD) ?_ ?_)
  · try simp -implicitDefEqProofs only [wSs, wS, wEs, wE, wT, wTo, wI, wO, OO_nx, OO_ret, OO_brk, OO_cnt, LO_nx, LO_cnt, LO_ret, LO_brk, RO_ret, RO_nx, getV, List.getElem?_cons_zero, List.getElem?_cons_succ, Option.bind_some, id_eq, OB_some, BB_true, BB_false, boolB_mk, intB_mk, tru_bool, Bool.not_true, Bool.not_false, isInt_int, isBool_int, isTup_tup, len_tup, len_lst, toTup_lst, toTup_tup, toLst_tup, toLst_lst, walk_tup, walk_lst, c_ge, c_le, c_gt, c_lt, c_eq, c_ne, ix0, ix1, add_i, sub_i, bi_int, bi_mx, bi_mn, bindT_nm, bindT_tup, bindT_lst, bindTs_nil, bindTs_cons, List.set_cons_zero, List.set_cons_succ, wipeE, setAll, perm1, perm2, perm10, perm3, perm210, perm5, List.length_cons, List.length_nil, if_true, Option.map_some, lstB_mk]
    rw [range_one (by omega)]
    exact rangeD_nat 4
  rintro ds rfl
  refine ⟨fun r e => ∃ m j z, m + j = 4 ∧ r = (List.range' m j).map nD ∧ e = [some (objD 0), some (flD rs ts), some (plD ((u : Int), (i : Int))), some (.int n), some (.dict (dmD (dm ts))), some (.int l), some mate, some (plD ((u : Int), ((i : Int) + (m : Int)).fmod l)), z, none, none, none],
    ⟨0, 4, none, rfl, rfl, by rw [Int.natCast_zero, Int.add_zero, isf]⟩, ?_, ?_⟩
  · rintro d r e ⟨m, j, z, e1, e2, rfl⟩
    obtain ⟨j, rfl, rfl, rfl⟩ := range'_cons e2
    obtain ⟨x, hx, hxl⟩ := fm_nat (a := (i : Int) + m) hl
    try simp -implicitDefEqProofs only [wSs, wS, wEs, wE, wT, wTo, wI, wO, OO_nx, OO_ret, OO_brk, OO_cnt, LO_nx, LO_cnt, LO_ret, LO_brk, RO_ret, RO_nx, getV, List.getElem?_cons_zero, List.getElem?_cons_succ, Option.bind_some, id_eq, OB_some, BB_true, BB_false, boolB_mk, intB_mk, tru_bool, Bool.not_true, Bool.not_false, isInt_int, isBool_int, isTup_tup, len_tup, len_lst, toTup_lst, toTup_tup, toLst_tup, toLst_lst, walk_tup, walk_lst, c_ge, c_le, c_gt, c_lt, c_eq, c_ne, ix0, ix1, add_i, sub_i, bi_int, bi_mx, bi_mn, bindT_nm, bindT_tup, bindT_lst, bindTs_nil, bindTs_cons, List.set_cons_zero, List.set_cons_succ, wipeE, setAll, perm1, perm2, perm10, perm3, perm210, perm5, List.length_cons, List.length_nil, if_true, Option.map_some, lstB_mk]
    rw [cl_eq (g := f25) rfl]
    refine p25 h hu hi ?_
    rw [cl_eq (g := f25) rfl, hx]
    refine p25 h hu hxl ?_
    have bk : ((x : Int) + -(m : Int)).fmod l = i := by
      rw [← hx, back1 hl, isf]
    rw [bk, rp2 (shp _ (by omega) hxl) (shp _ (by omega) hi)]
    try simp -implicitDefEqProofs only [wSs, wS, wEs, wE, wT, wTo, wI, wO, OO_nx, OO_ret, OO_brk, OO_cnt, LO_nx, LO_cnt, LO_ret, LO_brk, RO_ret, RO_nx, getV, List.getElem?_cons_zero, List.getElem?_cons_succ, Option.bind_some, id_eq, OB_some, BB_true, BB_false, boolB_mk, intB_mk, tru_bool, Bool.not_true, Bool.not_false, isInt_int, isBool_int, isTup_tup, len_tup, len_lst, toTup_lst, toTup_tup, toLst_tup, toLst_lst, walk_tup, walk_lst, c_ge, c_le, c_gt, c_lt, c_eq, c_ne, ix0, ix1, add_i, sub_i, bi_int, bi_mx, bi_mn, bindT_nm, bindT_tup, bindT_lst, bindTs_nil, bindTs_cons, List.set_cons_zero, List.set_cons_succ, wipeE, setAll, perm1, perm2, perm10, perm3, perm210, perm5, List.length_cons, List.length_nil, if_true, Option.map_some, lstB_mk, str_ne, pl0, pl1]
    have nx := next1 (i := i) (k := m) hl
    rw [hx] at nx
    refine ⟨fun c => ?_, fun c => ?_⟩
    · have c' := of_decide_eq_true c
      rw [if_pos c'] at nx
      refine ⟨m + 1, j, some (nD m), by omega, rfl, ?_⟩
      rw [show ((i : Int) + ((m + 1 : Nat) : Int)) = (i : Int) + ((m : Int) + 1) by omega, nx]
      rfl
    · have c' := of_decide_eq_false c
      rw [if_neg c'] at nx
      refine ⟨m + 1, j, some (nD m), by omega, rfl, ?_⟩
      rw [show ((i : Int) + ((m + 1 : Nat) : Int)) = (i : Int) + ((m : Int) + 1) by omega, nx]
      rfl
  rintro e ⟨m, j, z, e1, e2, rfl⟩
  generalize plD ((u : Int), ((i : Int) + (m : Int)).fmod l) = here
  try simp -implicitDefEqProofs only [wSs, wS, wEs, wE, wT, wTo, wI, wO, OO_nx, OO_ret, OO_brk, OO_cnt, LO_nx, LO_cnt, LO_ret, LO_brk, RO_ret, RO_nx, getV, List.getElem?_cons_zero, List.getElem?_cons_succ, Option.bind_some, id_eq, OB_some, BB_true, BB_false, boolB_mk, intB_mk, tru_bool, Bool.not_true, Bool.not_false, isInt_int, isBool_int, isTup_tup, len_tup, len_lst, toTup_lst, toTup_tup, toLst_tup, toLst_lst, walk_tup, walk_lst, c_ge, c_le, c_gt, c_lt, c_eq, c_ne, ix0, ix1, add_i, sub_i, bi_int, bi_mx, bi_mn, bindT_nm, bindT_tup, bindT_lst, bindTs_nil, bindTs_cons, List.set_cons_zero, List.set_cons_succ, wipeE, setAll, perm1, perm2, perm10, perm3, perm210, perm5, List.length_cons, List.length_nil, if_true, Option.map_some, lstB_mk]
  refine exs_tot (wS_ok _ _ _ ?_)
  try simp -implicitDefEqProofs only [wSs, wS, wEs, wE, wT, wTo, wI, wO, OO_nx, OO_ret, OO_brk, OO_cnt, LO_nx, LO_cnt, LO_ret, LO_brk, RO_ret, RO_nx, getV, List.getElem?_cons_zero, List.getElem?_cons_succ, Option.bind_some, id_eq, OB_some, BB_true, BB_false, boolB_mk, intB_mk, tru_bool, Bool.not_true, Bool.not_false, isInt_int, isBool_int, isTup_tup, len_tup, len_lst, toTup_lst, toTup_tup, toLst_tup, toLst_lst, walk_tup, walk_lst, c_ge, c_le, c_gt, c_lt, c_eq, c_ne, ix0, ix1, add_i, sub_i, bi_int, bi_mx, bi_mn, bindT_nm, bindT_tup, bindT_lst, bindTs_nil, bindTs_cons, List.set_cons_zero, List.set_cons_succ, wipeE, setAll, perm1, perm2, perm10, perm3, perm210, perm5, List.length_cons, List.length_nil, if_true, Option.map_some, lstB_mk]
  rw [pow_s (by decide), pow_s (by decide)]
  try simp -implicitDefEqProofs only [wSs, wS, wEs, wE, wT, wTo, wI, wO, OO_nx, OO_ret, OO_brk, OO_cnt, LO_nx, LO_cnt, LO_ret, LO_brk, RO_ret, RO_nx, getV, List.getElem?_cons_zero, List.getElem?_cons_succ, Option.bind_some, id_eq, OB_some, BB_true, BB_false, boolB_mk, intB_mk, tru_bool, Bool.not_true, Bool.not_false, isInt_int, isBool_int, isTup_tup, len_tup, len_lst, toTup_lst, toTup_tup, toLst_tup, toLst_lst, walk_tup, walk_lst, c_ge, c_le, c_gt, c_lt, c_eq, c_ne, ix0, ix1, add_i, sub_i, bi_int, bi_mx, bi_mn, bindT_nm, bindT_tup, bindT_lst, bindTs_nil, bindTs_cons, List.set_cons_zero, List.set_cons_succ, wipeE, setAll, perm1, perm2, perm10, perm3, perm210, perm5, List.length_cons, List.length_nil, if_true, Option.map_some, lstB_mk]
  rw [show (10 : Int) ^ (50 : Int).toNat = 10 ^ 50 from rfl, show (10 : Int) ^ (49 : Int).toNat = 10 ^ 49 from rfl, mul_big]
  try simp -implicitDefEqProofs only [wSs, wS, wEs, wE, wT, wTo, wI, wO, OO_nx, OO_ret, OO_brk, OO_cnt, LO_nx, LO_cnt, LO_ret, LO_brk, RO_ret, RO_nx, getV, List.getElem?_cons_zero, List.getElem?_cons_succ, Option.bind_some, id_eq, OB_some, BB_true, BB_false, boolB_mk, intB_mk, tru_bool, Bool.not_true, Bool.not_false, isInt_int, isBool_int, isTup_tup, len_tup, len_lst, toTup_lst, toTup_tup, toLst_tup, toLst_lst, walk_tup, walk_lst, c_ge, c_le, c_gt, c_lt, c_eq, c_ne, ix0, ix1, add_i, sub_i, bi_int, bi_mx, bi_mn, bindT_nm, bindT_tup, bindT_lst, bindTs_nil, bindTs_cons, List.set_cons_zero, List.set_cons_succ, wipeE, setAll, perm1, perm2, perm10, perm3, perm210, perm5, List.length_cons, List.length_nil, if_true, Option.map_some, lstB_mk]
  rw [pow_s (by decide), pow_s (by decide)]
  try simp -implicitDefEqProofs only [wSs, wS, wEs, wE, wT, wTo, wI, wO, OO_nx, OO_ret, OO_brk, OO_cnt, LO_nx, LO_cnt, LO_ret, LO_brk, RO_ret, RO_nx, getV, List.getElem?_cons_zero, List.getElem?_cons_succ, Option.bind_some, id_eq, OB_some, BB_true, BB_false, boolB_mk, intB_mk, tru_bool, Bool.not_true, Bool.not_false, isInt_int, isBool_int, isTup_tup, len_tup, len_lst, toTup_lst, toTup_tup, toLst_tup, toLst_lst, walk_tup, walk_lst, c_ge, c_le, c_gt, c_lt, c_eq, c_ne, ix0, ix1, add_i, sub_i, bi_int, bi_mx, bi_mn, bindT_nm, bindT_tup, bindT_lst, bindTs_nil, bindTs_cons, List.set_cons_zero, List.set_cons_succ, wipeE, setAll, perm1, perm2, perm10, perm3, perm210, perm5, List.length_cons, List.length_nil, if_true, Option.map_some, lstB_mk]
  rw [cl_eq (g := f28) rfl]
  refine p28 (.inr rfl) (by simp) (by simp) fun g hg => ?_
  obtain ⟨g, rfl⟩ : ∃ g' : Int, g = .int g' := by
    revert g
    simp
  rw [pow_s (by decide)]
  try simp -implicitDefEqProofs only [wSs, wS, wEs, wE, wT, wTo, wI, wO, OO_nx, OO_ret, OO_brk, OO_cnt, LO_nx, LO_cnt, LO_ret, LO_brk, RO_ret, RO_nx, getV, List.getElem?_cons_zero, List.getElem?_cons_succ, Option.bind_some, id_eq, OB_some, BB_true, BB_false, boolB_mk, intB_mk, tru_bool, Bool.not_true, Bool.not_false, isInt_int, isBool_int, isTup_tup, len_tup, len_lst, toTup_lst, toTup_tup, toLst_tup, toLst_lst, walk_tup, walk_lst, c_ge, c_le, c_gt, c_lt, c_eq, c_ne, ix0, ix1, add_i, sub_i, bi_int, bi_mx, bi_mn, bindT_nm, bindT_tup, bindT_lst, bindTs_nil, bindTs_cons, List.set_cons_zero, List.set_cons_succ, wipeE, setAll, perm1, perm2, perm10, perm3, perm210, perm5, List.length_cons, List.length_nil, if_true, Option.map_some, lstB_mk]
  rw [cl_eq (g := f27) rfl]
  refine p27 (by decide) (by decide) fun g2 _ _ => ?_
  try simp -implicitDefEqProofs only [wSs, wS, wEs, wE, wT, wTo, wI, wO, OO_nx, OO_ret, OO_brk, OO_cnt, LO_nx, LO_cnt, LO_ret, LO_brk, RO_ret, RO_nx, getV, List.getElem?_cons_zero, List.getElem?_cons_succ, Option.bind_some, id_eq, OB_some, BB_true, BB_false, boolB_mk, intB_mk, tru_bool, Bool.not_true, Bool.not_false, isInt_int, isBool_int, isTup_tup, len_tup, len_lst, toTup_lst, toTup_tup, toLst_tup, toLst_lst, walk_tup, walk_lst, c_ge, c_le, c_gt, c_lt, c_eq, c_ne, ix0, ix1, add_i, sub_i, bi_int, bi_mx, bi_mn, bindT_nm, bindT_tup, bindT_lst, bindTs_nil, bindTs_cons, List.set_cons_zero, List.set_cons_succ, wipeE, setAll, perm1, perm2, perm10, perm3, perm210, perm5, List.length_cons, List.length_nil, if_true, Option.map_some, lstB_mk]
  generalize g + g2 = great
  refine exs_tot (wS_ok _ _ _ ?_)
  try simp -implicitDefEqProofs only [wSs, wS, wEs, wE, wT, wTo, wI, wO, OO_nx, OO_ret, OO_brk, OO_cnt, LO_nx, LO_cnt, LO_ret, LO_brk, RO_ret, RO_nx, getV, List.getElem?_cons_zero, List.getElem?_cons_succ, Option.bind_some, id_eq, OB_some, BB_true, BB_false, boolB_mk, intB_mk, tru_bool, Bool.not_true, Bool.not_false, isInt_int, isBool_int, isTup_tup, len_tup, len_lst, toTup_lst, toTup_tup, toLst_tup, toLst_lst, walk_tup, walk_lst, c_ge, c_le, c_gt, c_lt, c_eq, c_ne, ix0, ix1, add_i, sub_i, bi_int, bi_mx, bi_mn, bindT_nm, bindT_tup, bindT_lst, bindTs_nil, bindTs_cons, List.set_cons_zero, List.set_cons_succ, wipeE, setAll, perm1, perm2, perm10, perm3, perm210, perm5, List.length_cons, List.length_nil, if_true, Option.map_some, lstB_mk]
  rw [cl_eq (g := f27) rfl]
  refine p27 (by decide) (by decide) fun k1 _ _ => ?_
  try simp -implicitDefEqProofs only [wSs, wS, wEs, wE, wT, wTo, wI, wO, OO_nx, OO_ret, OO_brk, OO_cnt, LO_nx, LO_cnt, LO_ret, LO_brk, RO_ret, RO_nx, getV, List.getElem?_cons_zero, List.getElem?_cons_succ, Option.bind_some, id_eq, OB_some, BB_true, BB_false, boolB_mk, intB_mk, tru_bool, Bool.not_true, Bool.not_false, isInt_int, isBool_int, isTup_tup, len_tup, len_lst, toTup_lst, toTup_tup, toLst_tup, toLst_lst, walk_tup, walk_lst, c_ge, c_le, c_gt, c_lt, c_eq, c_ne, ix0, ix1, add_i, sub_i, bi_int, bi_mx, bi_mn, bindT_nm, bindT_tup, bindT_lst, bindTs_nil, bindTs_cons, List.set_cons_zero, List.set_cons_succ, wipeE, setAll, perm1, perm2, perm10, perm3, perm210, perm5, List.length_cons, List.length_nil, if_true, Option.map_some, lstB_mk]
  rw [cl_eq (g := f28) rfl]
  refine p28 (.inr rfl) (by simp) (by simp) fun kk hk => ?_
  obtain ⟨kk, rfl⟩ : ∃ g' : Int, kk = .int g' := by
    revert kk
    simp
  obtain ⟨y, hy, hyl⟩ := fm_nat (a := (i : Int) + kk) hl
  refine exs_tot (wS_ok _ _ _ ?_)
  try simp -implicitDefEqProofs only [wSs, wS, wEs, wE, wT, wTo, wI, wO, OO_nx, OO_ret, OO_brk, OO_cnt, LO_nx, LO_cnt, LO_ret, LO_brk, RO_ret, RO_nx, getV, List.getElem?_cons_zero, List.getElem?_cons_succ, Option.bind_some, id_eq, OB_some, BB_true, BB_false, boolB_mk, intB_mk, tru_bool, Bool.not_true, Bool.not_false, isInt_int, isBool_int, isTup_tup, len_tup, len_lst, toTup_lst, toTup_tup, toLst_tup, toLst_lst, walk_tup, walk_lst, c_ge, c_le, c_gt, c_lt, c_eq, c_ne, ix0, ix1, add_i, sub_i, bi_int, bi_mx, bi_mn, bindT_nm, bindT_tup, bindT_lst, bindTs_nil, bindTs_cons, List.set_cons_zero, List.set_cons_succ, wipeE, setAll, perm1, perm2, perm10, perm3, perm210, perm5, List.length_cons, List.length_nil, if_true, Option.map_some, lstB_mk]
  rw [cl_eq (g := f34) rfl]
  refine p34 hu hl ?_
  rw [cl_eq (g := f27) rfl]
  refine p27 (by decide) (by decide) fun o1 _ _ => ?_
  try simp -implicitDefEqProofs only [wSs, wS, wEs, wE, wT, wTo, wI, wO, OO_nx, OO_ret, OO_brk, OO_cnt, LO_nx, LO_cnt, LO_ret, LO_brk, RO_ret, RO_nx, getV, List.getElem?_cons_zero, List.getElem?_cons_succ, Option.bind_some, id_eq, OB_some, BB_true, BB_false, boolB_mk, intB_mk, tru_bool, Bool.not_true, Bool.not_false, isInt_int, isBool_int, isTup_tup, len_tup, len_lst, toTup_lst, toTup_tup, toLst_tup, toLst_lst, walk_tup, walk_lst, c_ge, c_le, c_gt, c_lt, c_eq, c_ne, ix0, ix1, add_i, sub_i, bi_int, bi_mx, bi_mn, bindT_nm, bindT_tup, bindT_lst, bindTs_nil, bindTs_cons, List.set_cons_zero, List.set_cons_succ, wipeE, setAll, perm1, perm2, perm10, perm3, perm210, perm5, List.length_cons, List.length_nil, if_true, Option.map_some, lstB_mk]
  generalize o1 - 49 = other
  refine exs_tot (wS_ok _ _ _ ?_)
  try simp -implicitDefEqProofs only [wSs, wS, wEs, wE, wT, wTo, wI, wO, OO_nx, OO_ret, OO_brk, OO_cnt, LO_nx, LO_cnt, LO_ret, LO_brk, RO_ret, RO_nx, getV, List.getElem?_cons_zero, List.getElem?_cons_succ, Option.bind_some, id_eq, OB_some, BB_true, BB_false, boolB_mk, intB_mk, tru_bool, Bool.not_true, Bool.not_false, isInt_int, isBool_int, isTup_tup, len_tup, len_lst, toTup_lst, toTup_tup, toLst_tup, toLst_lst, walk_tup, walk_lst, c_ge, c_le, c_gt, c_lt, c_eq, c_ne, ix0, ix1, add_i, sub_i, bi_int, bi_mx, bi_mn, bindT_nm, bindT_tup, bindT_lst, bindTs_nil, bindTs_cons, List.set_cons_zero, List.set_cons_succ, wipeE, setAll, perm1, perm2, perm10, perm3, perm210, perm5, List.length_cons, List.length_nil, if_true, Option.map_some, lstB_mk]
  rw [cl_eq (g := f25) rfl]
  refine p25 h hu hi ?_
  rw [cl_eq (g := f25) rfl]
  refine p25 h hu hi ?_
  rw [hy, rp2 (shp _ (by omega) hyl) (shp _ (by omega) hyl)]
  try simp -implicitDefEqProofs only [wSs, wS, wEs, wE, wT, wTo, wI, wO, OO_nx, OO_ret, OO_brk, OO_cnt, LO_nx, LO_cnt, LO_ret, LO_brk, RO_ret, RO_nx, getV, List.getElem?_cons_zero, List.getElem?_cons_succ, Option.bind_some, id_eq, OB_some, BB_true, BB_false, boolB_mk, intB_mk, tru_bool, Bool.not_true, Bool.not_false, isInt_int, isBool_int, isTup_tup, len_tup, len_lst, toTup_lst, toTup_tup, toLst_tup, toLst_lst, walk_tup, walk_lst, c_ge, c_le, c_gt, c_lt, c_eq, c_ne, ix0, ix1, add_i, sub_i, bi_int, bi_mx, bi_mn, bindT_nm, bindT_tup, bindT_lst, bindTs_nil, bindTs_cons, List.set_cons_zero, List.set_cons_succ, wipeE, setAll, perm1, perm2, perm10, perm3, perm210, perm5, List.length_cons, List.length_nil, if_true, Option.map_some, lstB_mk, str_ne]
  refine exs_tot (wS_ok _ _ _ ?_)
  try simp -implicitDefEqProofs only [wSs, wS, wEs, wE, wT, wTo, wI, wO, OO_nx, OO_ret, OO_brk, OO_cnt, LO_nx, LO_cnt, LO_ret, LO_brk, RO_ret, RO_nx, getV, List.getElem?_cons_zero, List.getElem?_cons_succ, Option.bind_some, id_eq, OB_some, BB_true, BB_false, boolB_mk, intB_mk, tru_bool, Bool.not_true, Bool.not_false, isInt_int, isBool_int, isTup_tup, len_tup, len_lst, toTup_lst, toTup_tup, toLst_tup, toLst_lst, walk_tup, walk_lst, c_ge, c_le, c_gt, c_lt, c_eq, c_ne, ix0, ix1, add_i, sub_i, bi_int, bi_mx, bi_mn, bindT_nm, bindT_tup, bindT_lst, bindTs_nil, bindTs_cons, List.set_cons_zero, List.set_cons_succ, wipeE, setAll, perm1, perm2, perm10, perm3, perm210, perm5, List.length_cons, List.length_nil, if_true, Option.map_some, lstB_mk]
  rw [cl_eq (g := f25) rfl]
  refine p25 h hu hyl ?_
  have b3 := fm_bd (a := (y : Int) + other) hl
  rw [rp1 (shp _ b3.1 b3.2), mod_s (by omega)]
  try simp -implicitDefEqProofs only [wSs, wS, wEs, wE, wT, wTo, wI, wO, OO_nx, OO_ret, OO_brk, OO_cnt, LO_nx, LO_cnt, LO_ret, LO_brk, RO_ret, RO_nx, getV, List.getElem?_cons_zero, List.getElem?_cons_succ, Option.bind_some, id_eq, OB_some, BB_true, BB_false, boolB_mk, intB_mk, tru_bool, Bool.not_true, Bool.not_false, isInt_int, isBool_int, isTup_tup, len_tup, len_lst, toTup_lst, toTup_tup, toLst_tup, toLst_lst, walk_tup, walk_lst, c_ge, c_le, c_gt, c_lt, c_eq, c_ne, ix0, ix1, add_i, sub_i, bi_int, bi_mx, bi_mn, bindT_nm, bindT_tup, bindT_lst, bindTs_nil, bindTs_cons, List.set_cons_zero, List.set_cons_succ, wipeE, setAll, perm1, perm2, perm10, perm3, perm210, perm5, List.length_cons, List.length_nil, if_true, Option.map_some, lstB_mk]
  rw [cl_eq (g := f25) rfl]
  refine p25 h hu hi ?_
  rw [← both hl, hy, rp1 (shp _ b3.1 b3.2)]
  try simp -implicitDefEqProofs only [wSs, wS, wEs, wE, wT, wTo, wI, wO, OO_nx, OO_ret, OO_brk, OO_cnt, LO_nx, LO_cnt, LO_ret, LO_brk, RO_ret, RO_nx, getV, List.getElem?_cons_zero, List.getElem?_cons_succ, Option.bind_some, id_eq, OB_some, BB_true, BB_false, boolB_mk, intB_mk, tru_bool, Bool.not_true, Bool.not_false, isInt_int, isBool_int, isTup_tup, len_tup, len_lst, toTup_lst, toTup_tup, toLst_tup, toLst_lst, walk_tup, walk_lst, c_ge, c_le, c_gt, c_lt, c_eq, c_ne, ix0, ix1, add_i, sub_i, bi_int, bi_mx, bi_mn, bindT_nm, bindT_tup, bindT_lst, bindTs_nil, bindTs_cons, List.set_cons_zero, List.set_cons_succ, wipeE, setAll, perm1, perm2, perm10, perm3, perm210, perm5, List.length_cons, List.length_nil, if_true, Option.map_some, lstB_mk, str_eq]
  exact k
end GK02
namespace GK02
open PySem PD
theorem twice (t : D) : binop .mul (.tuple [t]) (.int 2) = some (.tuple [t, t]) := rfl
theorem keys_dm (ts : List Tc) : seqOf (.dict (dmD (dm ts))) = some ((ends ts).map plD) := by
  have e : (dmD (dm ts)).map (·.1) = (ends ts).map plD := by
    rw [← dm_keys]
    unfold dmD
    rw [List.map_map, List.map_map]
    rfl
  rw [← e]
  generalize dm ts = m
  cases m with
  | nil => rfl
  | cons x m => rfl
theorem sorted_dm {rs : List Int} {ts : List Tc} (h : Fl rs ts) : bi .sorted [.dict (dmD (dm ts))] = some (.list (((spots rs).filter fun p => ((dm ts).lookup p).isSome).map plD)) := by
  rw [filter_sort h]
  exact sorted_bi (keys_dm ts) (sorted_pl (by have := ends_len ts; have := h.few; rw [cap_eq]; omega))
theorem pls_ne (l : List Pl) : cmpop .ne (.list (l.map plD)) (.list (l.map plD)) = some false := by
  refine same_ne ?_ ?_
  · unfold PyData.plain
    exact plainAll_map fun t _ => rfl
  · unfold PyData.depth
    have := depthAll_map (f := plD) (k := 1) (l := l) fun t _ => by rw [plD_depth]; omega
    omega
theorem sh_spots {rs : List Int} {ts : List Tc} (h : Fl rs ts) (sl : (spots rs).length ≤ 40) : bi .repr [.tuple [.tuple ((spots rs).map plD), .tuple ((spots rs).map plD)]] = some (.str (PyData.tuple [.tuple ((spots rs).map plD), .tuple ((spots rs).map plD)]).shown) := by
  have sum40 : rs.sum ≤ 40 := by
    have := spF_len (k := 0) h.rg.ps
    unfold spots at sl
    omega
  have rl := h.rg.le
  have e : Sh 2 50000 (.tuple ((spots rs).map plD)) := by
    refine (Sh.tup (k := 1) (b := 1000) ?_).mono (Nat.le_refl _) ?_
    · intro d hd
      obtain ⟨p, hp, rfl⟩ := List.mem_map.mp hd
      obtain ⟨a, b, c, rfl, ha, hb⟩ := spots_mem.mp hp
      have q1 := (List.getElem?_eq_some_iff.mp ha).1
      have q2 : c ≤ 40 := Int.le_trans (le_sum h.rg.ps (List.mem_of_getElem? ha)) sum40
      exact sh_pl ⟨by omega, by omega⟩ ⟨by omega, by omega⟩
    · rw [List.length_map]
      omega
  refine repr_ok (Sh.tup (k := 2) (b := 50000) ?_) (by decide) (by rw [cap_eq]; simp)
  intro d hd
  simp at hd
  subst hd
  exact e
theorem isn_map (o : Option Pl) : (!isNoneB ((o.map plD).getD .none)) = o.isSome := by
  cases o <;> rfl
theorem p37 {P : O → Prop} (k : P (.ret (.bool true))) : Tot (exs T37 b37 (env1 c37.N.length 1)) P := by
  show Tot (exs T37 b37 [none, some (objD 0), none, none, none, none, none, none, none, none]) _
  unfold b37
  refine exs_tot (for_okT (Q := fun _ => True) ?_ ?_)
  · try simp -implicitDefEqProofs only [wSs, wS, wEs, wE, wT, wTo, wI, wO, OO_nx, OO_ret, OO_brk, OO_cnt, LO_nx, LO_cnt, LO_ret, LO_brk, RO_ret, RO_nx, getV, List.getElem?_cons_zero, List.getElem?_cons_succ, Option.bind_some, id_eq, OB_some, BB_true, BB_false, boolB_mk, intB_mk, tru_bool, Bool.not_true, Bool.not_false, isInt_int, isBool_int, isTup_tup, len_tup, len_lst, toTup_lst, toTup_tup, toLst_tup, toLst_lst, walk_tup, walk_lst, c_ge, c_le, c_gt, c_lt, c_eq, c_ne, ix0, ix1, add_i, sub_i, bi_int, bi_mx, bi_mn, bindT_nm, bindT_tup, bindT_lst, bindTs_nil, bindTs_cons, List.set_cons_zero, List.set_cons_succ, wipeE, setAll, perm1, perm2, perm10, perm3, perm210, perm5, List.length_cons, List.length_nil, if_true, Option.map_some, lstB_mk]
    rw [range_one (by omega)]
    trivial
  intro ds _
  refine FI_keep (fun e => ∃ a b c d f g x y, e = [none, some (objD 0), a, b, c, d, f, g, x, y]) ⟨_, _, _, _, _, _, _, _, rfl⟩ ?_ ?_
  · rintro dd hd e ⟨a, b, c, d, f, g, x, y, rfl⟩
    try simp -implicitDefEqProofs only [wSs, wS, wEs, wE, wT, wTo, wI, wO, OO_nx, OO_ret, OO_brk, OO_cnt, LO_nx, LO_cnt, LO_ret, LO_brk, RO_ret, RO_nx, getV, List.getElem?_cons_zero, List.getElem?_cons_succ, Option.bind_some, id_eq, OB_some, BB_true, BB_false, boolB_mk, intB_mk, tru_bool, Bool.not_true, Bool.not_false, isInt_int, isBool_int, isTup_tup, len_tup, len_lst, toTup_lst, toTup_tup, toLst_tup, toLst_lst, walk_tup, walk_lst, c_ge, c_le, c_gt, c_lt, c_eq, c_ne, ix0, ix1, add_i, sub_i, bi_int, bi_mx, bi_mn, bindT_nm, bindT_tup, bindT_lst, bindTs_nil, bindTs_cons, List.set_cons_zero, List.set_cons_succ, wipeE, setAll, perm1, perm2, perm10, perm3, perm210, perm5, List.length_cons, List.length_nil, if_true, Option.map_some, lstB_mk]
    refine exs_tot (Tot.mono (P := fun o => ∃ rs ts, Fl rs ts ∧ (spots rs).length ≤ 40 ∧ o = .nx [none, some (objD 0), some dd, some (flD rs ts), c, d, f, g, x, y]) (wS_ok _ _ _ ?_) ?_)
    · try simp -implicitDefEqProofs only [wSs, wS, wEs, wE, wT, wTo, wI, wO, OO_nx, OO_ret, OO_brk, OO_cnt, LO_nx, LO_cnt, LO_ret, LO_brk, RO_ret, RO_nx, getV, List.getElem?_cons_zero, List.getElem?_cons_succ, Option.bind_some, id_eq, OB_some, BB_true, BB_false, boolB_mk, intB_mk, tru_bool, Bool.not_true, Bool.not_false, isInt_int, isBool_int, isTup_tup, len_tup, len_lst, toTup_lst, toTup_tup, toLst_tup, toLst_lst, walk_tup, walk_lst, c_ge, c_le, c_gt, c_lt, c_eq, c_ne, ix0, ix1, add_i, sub_i, bi_int, bi_mx, bi_mn, bindT_nm, bindT_tup, bindT_lst, bindTs_nil, bindTs_cons, List.set_cons_zero, List.set_cons_succ, wipeE, setAll, perm1, perm2, perm10, perm3, perm210, perm5, List.length_cons, List.length_nil, if_true, Option.map_some, lstB_mk]
      rw [cl_eq (g := f27) rfl]
      refine p27 (by decide) (by decide) fun w _ _ => ?_
      try simp -implicitDefEqProofs only [wSs, wS, wEs, wE, wT, wTo, wI, wO, OO_nx, OO_ret, OO_brk, OO_cnt, LO_nx, LO_cnt, LO_ret, LO_brk, RO_ret, RO_nx, getV, List.getElem?_cons_zero, List.getElem?_cons_succ, Option.bind_some, id_eq, OB_some, BB_true, BB_false, boolB_mk, intB_mk, tru_bool, Bool.not_true, Bool.not_false, isInt_int, isBool_int, isTup_tup, len_tup, len_lst, toTup_lst, toTup_tup, toLst_tup, toLst_lst, walk_tup, walk_lst, c_ge, c_le, c_gt, c_lt, c_eq, c_ne, ix0, ix1, add_i, sub_i, bi_int, bi_mx, bi_mn, bindT_nm, bindT_tup, bindT_lst, bindTs_nil, bindTs_cons, List.set_cons_zero, List.set_cons_succ, wipeE, setAll, perm1, perm2, perm10, perm3, perm210, perm5, List.length_cons, List.length_nil, if_true, Option.map_some, lstB_mk]
      refine ⟨fun _ => ?_, fun _ => ?_⟩
      · rw [cl_eq (g := f33) rfl]
        exact p33 fun rs ts h sl => ⟨rs, ts, h, sl, rfl⟩
      · rw [cl_eq (g := f32) rfl]
        exact p32 fun rs ts h sl => ⟨rs, ts, h, sl, rfl⟩
    rintro o ⟨rs, ts, h, sl, rfl⟩
    have fl0 : ixD (flD rs ts) (.int 0) = some (rsD rs) := ix0 _ _
    rw [OO_nx]
    refine exs_tot (wS_ok _ _ _ ?_)
    try simp -implicitDefEqProofs only [wSs, wS, wEs, wE, wT, wTo, wI, wO, OO_nx, OO_ret, OO_brk, OO_cnt, LO_nx, LO_cnt, LO_ret, LO_brk, RO_ret, RO_nx, getV, List.getElem?_cons_zero, List.getElem?_cons_succ, Option.bind_some, id_eq, OB_some, BB_true, BB_false, boolB_mk, intB_mk, tru_bool, Bool.not_true, Bool.not_false, isInt_int, isBool_int, isTup_tup, len_tup, len_lst, toTup_lst, toTup_tup, toLst_tup, toLst_lst, walk_tup, walk_lst, c_ge, c_le, c_gt, c_lt, c_eq, c_ne, ix0, ix1, add_i, sub_i, bi_int, bi_mx, bi_mn, bindT_nm, bindT_tup, bindT_lst, bindTs_nil, bindTs_cons, List.set_cons_zero, List.set_cons_succ, wipeE, setAll, perm1, perm2, perm10, perm3, perm210, perm5, List.length_cons, List.length_nil, if_true, Option.map_some, lstB_mk, fl0]
    rw [cl_eq (g := f30) rfl]
    refine p30 h.rg.ps (by omega) rfl ?_
    rw [cl_eq (g := f35) rfl]
    refine p35 h ?_
    try simp -implicitDefEqProofs only [wSs, wS, wEs, wE, wT, wTo, wI, wO, OO_nx, OO_ret, OO_brk, OO_cnt, LO_nx, LO_cnt, LO_ret, LO_brk, RO_ret, RO_nx, getV, List.getElem?_cons_zero, List.getElem?_cons_succ, Option.bind_some, id_eq, OB_some, BB_true, BB_false, boolB_mk, intB_mk, tru_bool, Bool.not_true, Bool.not_false, isInt_int, isBool_int, isTup_tup, len_tup, len_lst, toTup_lst, toTup_tup, toLst_tup, toLst_lst, walk_tup, walk_lst, c_ge, c_le, c_gt, c_lt, c_eq, c_ne, ix0, ix1, add_i, sub_i, bi_int, bi_mx, bi_mn, bindT_nm, bindT_tup, bindT_lst, bindTs_nil, bindTs_cons, List.set_cons_zero, List.set_cons_succ, wipeE, setAll, perm1, perm2, perm10, perm3, perm210, perm5, List.length_cons, List.length_nil, if_true, Option.map_some, lstB_mk]
    refine exs_tot (wS_ok _ _ _ ?_)
    try simp -implicitDefEqProofs only [wSs, wS, wEs, wE, wT, wTo, wI, wO, OO_nx, OO_ret, OO_brk, OO_cnt, LO_nx, LO_cnt, LO_ret, LO_brk, RO_ret, RO_nx, getV, List.getElem?_cons_zero, List.getElem?_cons_succ, Option.bind_some, id_eq, OB_some, BB_true, BB_false, boolB_mk, intB_mk, tru_bool, Bool.not_true, Bool.not_false, isInt_int, isBool_int, isTup_tup, len_tup, len_lst, toTup_lst, toTup_tup, toLst_tup, toLst_lst, walk_tup, walk_lst, c_ge, c_le, c_gt, c_lt, c_eq, c_ne, ix0, ix1, add_i, sub_i, bi_int, bi_mx, bi_mn, bindT_nm, bindT_tup, bindT_lst, bindTs_nil, bindTs_cons, List.set_cons_zero, List.set_cons_succ, wipeE, setAll, perm1, perm2, perm10, perm3, perm210, perm5, List.length_cons, List.length_nil, if_true, Option.map_some, lstB_mk]
    rw [cl_eq (g := f23) rfl]
    refine p23 h (by omega) ?_
    rw [cl_eq (g := f23) rfl]
    refine p23 h (by omega) ?_
    rw [twice]
    try simp -implicitDefEqProofs only [wSs, wS, wEs, wE, wT, wTo, wI, wO, OO_nx, OO_ret, OO_brk, OO_cnt, LO_nx, LO_cnt, LO_ret, LO_brk, RO_ret, RO_nx, getV, List.getElem?_cons_zero, List.getElem?_cons_succ, Option.bind_some, id_eq, OB_some, BB_true, BB_false, boolB_mk, intB_mk, tru_bool, Bool.not_true, Bool.not_false, isInt_int, isBool_int, isTup_tup, len_tup, len_lst, toTup_lst, toTup_tup, toLst_tup, toLst_lst, walk_tup, walk_lst, c_ge, c_le, c_gt, c_lt, c_eq, c_ne, ix0, ix1, add_i, sub_i, bi_int, bi_mx, bi_mn, bindT_nm, bindT_tup, bindT_lst, bindTs_nil, bindTs_cons, List.set_cons_zero, List.set_cons_succ, wipeE, setAll, perm1, perm2, perm10, perm3, perm210, perm5, List.length_cons, List.length_nil, if_true, Option.map_some, lstB_mk, sh_spots h sl, str_ne]
    refine exs_tot (Tot.mono (P := fun o => ∃ ns : List Nat, (∀ n ∈ ns, n < (spots rs).length) ∧ o = .nx [none, some (objD 0), some dd, some (flD rs ts), some (.list ((spots rs).map plD)), some (.dict (dmD (dm ts))), some (.list (ns.map nD)), g, x, y]) (wS_ok _ _ _ ?_) ?_)
    · have pos : 0 < (spots rs).length := by
        have s1 := spF_len (k := 0) h.rg.ps
        have s2 := rs_le (rs := rs) h.rg.ps
        have s3 := List.length_pos_iff.mpr h.rg.ne
        unfold spots
        omega
      try simp -implicitDefEqProofs only [wSs, wS, wEs, wE, wT, wTo, wI, wO, OO_nx, OO_ret, OO_brk, OO_cnt, LO_nx, LO_cnt, LO_ret, LO_brk, RO_ret, RO_nx, getV, List.getElem?_cons_zero, List.getElem?_cons_succ, Option.bind_some, id_eq, OB_some, BB_true, BB_false, boolB_mk, intB_mk, tru_bool, Bool.not_true, Bool.not_false, isInt_int, isBool_int, isTup_tup, len_tup, len_lst, toTup_lst, toTup_tup, toLst_tup, toLst_lst, walk_tup, walk_lst, c_ge, c_le, c_gt, c_lt, c_eq, c_ne, ix0, ix1, add_i, sub_i, bi_int, bi_mx, bi_mn, bindT_nm, bindT_tup, bindT_lst, bindTs_nil, bindTs_cons, List.set_cons_zero, List.set_cons_succ, wipeE, setAll, perm1, perm2, perm10, perm3, perm210, perm5, List.length_cons, List.length_nil, if_true, Option.map_some, lstB_mk, List.length_map]
      refine ⟨fun _ => ?_, fun _ => ?_⟩
      · rw [listRange_one (by have := cap_eq; omega), rangeD_nat]
        exact ⟨List.range (spots rs).length, fun n hn => List.mem_range.mp hn, rfl⟩
      · rw [range_one (by omega), show (8 : Int) = ((8 : Nat) : Int) from rfl, rangeD_nat]
        try simp -implicitDefEqProofs only [wSs, wS, wEs, wE, wT, wTo, wI, wO, OO_nx, OO_ret, OO_brk, OO_cnt, LO_nx, LO_cnt, LO_ret, LO_brk, RO_ret, RO_nx, getV, List.getElem?_cons_zero, List.getElem?_cons_succ, Option.bind_some, id_eq, OB_some, BB_true, BB_false, boolB_mk, intB_mk, tru_bool, Bool.not_true, Bool.not_false, isInt_int, isBool_int, isTup_tup, len_tup, len_lst, toTup_lst, toTup_tup, toLst_tup, toLst_lst, walk_tup, walk_lst, c_ge, c_le, c_gt, c_lt, c_eq, c_ne, ix0, ix1, add_i, sub_i, bi_int, bi_mx, bi_mn, bindT_nm, bindT_tup, bindT_lst, bindTs_nil, bindTs_cons, List.set_cons_zero, List.set_cons_succ, wipeE, setAll, perm1, perm2, perm10, perm3, perm210, perm5, List.length_cons, List.length_nil, if_true, Option.map_some, lstB_mk]
        refine ⟨fun r a => ∃ ns : List Nat, (∀ n ∈ ns, n < (spots rs).length) ∧ a.length + r.length = 8 ∧ a = ns.map nD, ⟨[], by simp, by simp, rfl⟩, ?_, ?_⟩
        · rintro d2 r a ⟨ns, n1, n2, rfl⟩
          try simp -implicitDefEqProofs only [wSs, wS, wEs, wE, wT, wTo, wI, wO, OO_nx, OO_ret, OO_brk, OO_cnt, LO_nx, LO_cnt, LO_ret, LO_brk, RO_ret, RO_nx, getV, List.getElem?_cons_zero, List.getElem?_cons_succ, Option.bind_some, id_eq, OB_some, BB_true, BB_false, boolB_mk, intB_mk, tru_bool, Bool.not_true, Bool.not_false, isInt_int, isBool_int, isTup_tup, len_tup, len_lst, toTup_lst, toTup_tup, toLst_tup, toLst_lst, walk_tup, walk_lst, c_ge, c_le, c_gt, c_lt, c_eq, c_ne, ix0, ix1, add_i, sub_i, bi_int, bi_mx, bi_mn, bindT_nm, bindT_tup, bindT_lst, bindTs_nil, bindTs_cons, List.set_cons_zero, List.set_cons_succ, wipeE, setAll, perm1, perm2, perm10, perm3, perm210, perm5, List.length_cons, List.length_nil, if_true, Option.map_some, lstB_mk, List.length_map]
          rw [cl_eq (g := f27) rfl]
          refine p27 (by omega) (le120 (by omega)) fun w w0 w1 => ⟨?_, ns ++ [w.toNat], ?_, ?_, ?_⟩
          · rw [List.length_map, List.length_cons] at n2
            rw [cap_eq]
            omega
          · intro n hn
            rcases List.mem_append.mp hn with hn | hn
            · exact n1 n hn
            · obtain rfl : n = w.toNat := by simpa using hn
              omega
          · rw [List.length_append]
            simp at n2 ⊢
            omega
          · rw [List.map_append]
            have : nD w.toNat = .int w := congrArg PyData.int (by omega)
            simp [this]
        · rintro a ⟨ns, n1, n2, rfl⟩
          exact ⟨ns, n1, rfl⟩
    rintro o ⟨ns, n1, rfl⟩
    rw [OO_nx]
    refine exs_tot (for_ok (Q := fun ds => ds = ns.map nD) ?_ ?_)
    · try simp -implicitDefEqProofs only [wSs, wS, wEs, wE, wT, wTo, wI, wO, OO_nx, OO_ret, OO_brk, OO_cnt, LO_nx, LO_cnt, LO_ret, LO_brk, RO_ret, RO_nx, getV, List.getElem?_cons_zero, List.getElem?_cons_succ, Option.bind_some, id_eq, OB_some, BB_true, BB_false, boolB_mk, intB_mk, tru_bool, Bool.not_true, Bool.not_false, isInt_int, isBool_int, isTup_tup, len_tup, len_lst, toTup_lst, toTup_tup, toLst_tup, toLst_lst, walk_tup, walk_lst, c_ge, c_le, c_gt, c_lt, c_eq, c_ne, ix0, ix1, add_i, sub_i, bi_int, bi_mx, bi_mn, bindT_nm, bindT_tup, bindT_lst, bindTs_nil, bindTs_cons, List.set_cons_zero, List.set_cons_succ, wipeE, setAll, perm1, perm2, perm10, perm3, perm210, perm5, List.length_cons, List.length_nil, if_true, Option.map_some, lstB_mk]
    rintro ds2 rfl
    refine FI_keep (fun e => ∃ g, e = [none, some (objD 0), some dd, some (flD rs ts), some (.list ((spots rs).map plD)), some (.dict (dmD (dm ts))), some (.list (ns.map nD)), g, x, y]) ⟨_, rfl⟩ ?_ ?_
    · rintro d2 hd2 e ⟨g, rfl⟩
      obtain ⟨n, hn, rfl⟩ := List.mem_map.mp hd2
      have hl := n1 n hn
      have hg := List.getElem?_eq_getElem hl
      try simp -implicitDefEqProofs only [wSs, wS, wEs, wE, wT, wTo, wI, wO, OO_nx, OO_ret, OO_brk, OO_cnt, LO_nx, LO_cnt, LO_ret, LO_brk, RO_ret, RO_nx, getV, List.getElem?_cons_zero, List.getElem?_cons_succ, Option.bind_some, id_eq, OB_some, BB_true, BB_false, boolB_mk, intB_mk, tru_bool, Bool.not_true, Bool.not_false, isInt_int, isBool_int, isTup_tup, len_tup, len_lst, toTup_lst, toTup_tup, toLst_tup, toLst_lst, walk_tup, walk_lst, c_ge, c_le, c_gt, c_lt, c_eq, c_ne, ix0, ix1, add_i, sub_i, bi_int, bi_mx, bi_mn, bindT_nm, bindT_tup, bindT_lst, bindTs_nil, bindTs_cons, List.set_cons_zero, List.set_cons_succ, wipeE, setAll, perm1, perm2, perm10, perm3, perm210, perm5, List.length_cons, List.length_nil, if_true, Option.map_some, lstB_mk, getsp hg]
      rw [cl_eq (g := f36) rfl]
      refine p36 h sl hg ?_
      try simp -implicitDefEqProofs only [wSs, wS, wEs, wE, wT, wTo, wI, wO, OO_nx, OO_ret, OO_brk, OO_cnt, LO_nx, LO_cnt, LO_ret, LO_brk, RO_ret, RO_nx, getV, List.getElem?_cons_zero, List.getElem?_cons_succ, Option.bind_some, id_eq, OB_some, BB_true, BB_false, boolB_mk, intB_mk, tru_bool, Bool.not_true, Bool.not_false, isInt_int, isBool_int, isTup_tup, len_tup, len_lst, toTup_lst, toTup_tup, toLst_tup, toLst_lst, walk_tup, walk_lst, c_ge, c_le, c_gt, c_lt, c_eq, c_ne, ix0, ix1, add_i, sub_i, bi_int, bi_mx, bi_mn, bindT_nm, bindT_tup, bindT_lst, bindTs_nil, bindTs_cons, List.set_cons_zero, List.set_cons_succ, wipeE, setAll, perm1, perm2, perm10, perm3, perm210, perm5, List.length_cons, List.length_nil, if_true, Option.map_some, lstB_mk]
      exact ⟨_, rfl⟩
    rintro e ⟨g, rfl⟩
    try simp -implicitDefEqProofs only [wSs, wS, wEs, wE, wT, wTo, wI, wO, OO_nx, OO_ret, OO_brk, OO_cnt, LO_nx, LO_cnt, LO_ret, LO_brk, RO_ret, RO_nx, getV, List.getElem?_cons_zero, List.getElem?_cons_succ, Option.bind_some, id_eq, OB_some, BB_true, BB_false, boolB_mk, intB_mk, tru_bool, Bool.not_true, Bool.not_false, isInt_int, isBool_int, isTup_tup, len_tup, len_lst, toTup_lst, toTup_tup, toLst_tup, toLst_lst, walk_tup, walk_lst, c_ge, c_le, c_gt, c_lt, c_eq, c_ne, ix0, ix1, add_i, sub_i, bi_int, bi_mx, bi_mn, bindT_nm, bindT_tup, bindT_lst, bindTs_nil, bindTs_cons, List.set_cons_zero, List.set_cons_succ, wipeE, setAll, perm1, perm2, perm10, perm3, perm210, perm5, List.length_cons, List.length_nil, if_true, Option.map_some, lstB_mk]
    refine exs_tot (wS_ok _ _ _ ?_)
    try simp -implicitDefEqProofs only [wSs, wS, wEs, wE, wT, wTo, wI, wO, OO_nx, OO_ret, OO_brk, OO_cnt, LO_nx, LO_cnt, LO_ret, LO_brk, RO_ret, RO_nx, getV, List.getElem?_cons_zero, List.getElem?_cons_succ, Option.bind_some, id_eq, OB_some, BB_true, BB_false, boolB_mk, intB_mk, tru_bool, Bool.not_true, Bool.not_false, isInt_int, isBool_int, isTup_tup, len_tup, len_lst, toTup_lst, toTup_tup, toLst_tup, toLst_lst, walk_tup, walk_lst, c_ge, c_le, c_gt, c_lt, c_eq, c_ne, ix0, ix1, add_i, sub_i, bi_int, bi_mx, bi_mn, bindT_nm, bindT_tup, bindT_lst, bindTs_nil, bindTs_cons, List.set_cons_zero, List.set_cons_succ, wipeE, setAll, perm1, perm2, perm10, perm3, perm210, perm5, List.length_cons, List.length_nil, if_true, Option.map_some, lstB_mk]
    refine ⟨fun r a => ∃ pre r', spots rs = pre ++ r' ∧ r = r'.map plD ∧ a = (pre.filter fun p => ((dm ts).lookup p).isSome).map plD, ⟨[], spots rs, rfl, rfl, rfl⟩, ?_, ?_⟩
    · rintro d2 r a ⟨pre, r', e1, e2, rfl⟩
      cases r' with
      | nil => cases e2
      | cons p r' =>
        rw [List.map_cons] at e2
        obtain ⟨rfl, rfl⟩ := List.cons.inj e2
        have hp : InP rs p := spots_mem.mp (by rw [e1]; simp)
        try simp -implicitDefEqProofs only [wSs, wS, wEs, wE, wT, wTo, wI, wO, OO_nx, OO_ret, OO_brk, OO_cnt, LO_nx, LO_cnt, LO_ret, LO_brk, RO_ret, RO_nx, getV, List.getElem?_cons_zero, List.getElem?_cons_succ, Option.bind_some, id_eq, OB_some, BB_true, BB_false, boolB_mk, intB_mk, tru_bool, Bool.not_true, Bool.not_false, isInt_int, isBool_int, isTup_tup, len_tup, len_lst, toTup_lst, toTup_tup, toLst_tup, toLst_lst, walk_tup, walk_lst, c_ge, c_le, c_gt, c_lt, c_eq, c_ne, ix0, ix1, add_i, sub_i, bi_int, bi_mx, bi_mn, bindT_nm, bindT_tup, bindT_lst, bindTs_nil, bindTs_cons, List.set_cons_zero, List.set_cons_succ, wipeE, setAll, perm1, perm2, perm10, perm3, perm210, perm5, List.length_cons, List.length_nil, if_true, Option.map_some, lstB_mk]
        rw [cl_eq (g := f26) rfl]
        refine p26 h hp ?_
        try simp -implicitDefEqProofs only [wSs, wS, wEs, wE, wT, wTo, wI, wO, OO_nx, OO_ret, OO_brk, OO_cnt, LO_nx, LO_cnt, LO_ret, LO_brk, RO_ret, RO_nx, getV, List.getElem?_cons_zero, List.getElem?_cons_succ, Option.bind_some, id_eq, OB_some, BB_true, BB_false, boolB_mk, intB_mk, tru_bool, Bool.not_true, Bool.not_false, isInt_int, isBool_int, isTup_tup, len_tup, len_lst, toTup_lst, toTup_tup, toLst_tup, toLst_lst, walk_tup, walk_lst, c_ge, c_le, c_gt, c_lt, c_eq, c_ne, ix0, ix1, add_i, sub_i, bi_int, bi_mx, bi_mn, bindT_nm, bindT_tup, bindT_lst, bindTs_nil, bindTs_cons, List.set_cons_zero, List.set_cons_succ, wipeE, setAll, perm1, perm2, perm10, perm3, perm210, perm5, List.length_cons, List.length_nil, if_true, Option.map_some, lstB_mk, c_is_none]
        rw [isn_map]
        have len : pre.length < 40 := by
          have := congrArg List.length e1
          rw [List.length_append, List.length_cons] at this
          omega
        refine ⟨fun c => ⟨?_, ?_⟩, fun c => ?_⟩
        · have := List.length_filter_le (fun p => ((dm ts).lookup p).isSome) pre
          rw [List.length_map, cap_eq]
          omega
        · refine ⟨pre ++ [p], r', by rw [e1]; simp, rfl, ?_⟩
          rw [List.filter_append]
          simp [c]
        · refine ⟨pre ++ [p], r', by rw [e1]; simp, rfl, ?_⟩
          rw [List.filter_append]
          simp [c]
    · rintro a ⟨pre, r', e1, e2, rfl⟩
      cases r' with
      | cons p r' => cases e2
      | nil =>
        rw [List.append_nil] at e1
        subst e1
        rw [sorted_dm h]
        try simp -implicitDefEqProofs only [wSs, wS, wEs, wE, wT, wTo, wI, wO, OO_nx, OO_ret, OO_brk, OO_cnt, LO_nx, LO_cnt, LO_ret, LO_brk, RO_ret, RO_nx, getV, List.getElem?_cons_zero, List.getElem?_cons_succ, Option.bind_some, id_eq, OB_some, BB_true, BB_false, boolB_mk, intB_mk, tru_bool, Bool.not_true, Bool.not_false, isInt_int, isBool_int, isTup_tup, len_tup, len_lst, toTup_lst, toTup_tup, toLst_tup, toLst_lst, walk_tup, walk_lst, c_ge, c_le, c_gt, c_lt, c_eq, c_ne, ix0, ix1, add_i, sub_i, bi_int, bi_mx, bi_mn, bindT_nm, bindT_tup, bindT_lst, bindTs_nil, bindTs_cons, List.set_cons_zero, List.set_cons_succ, wipeE, setAll, perm1, perm2, perm10, perm3, perm210, perm5, List.length_cons, List.length_nil, if_true, Option.map_some, lstB_mk, pls_ne]
        refine exs_nil ?_
        try simp -implicitDefEqProofs only [wSs, wS, wEs, wE, wT, wTo, wI, wO, OO_nx, OO_ret, OO_brk, OO_cnt, LO_nx, LO_cnt, LO_ret, LO_brk, RO_ret, RO_nx, getV, List.getElem?_cons_zero, List.getElem?_cons_succ, Option.bind_some, id_eq, OB_some, BB_true, BB_false, boolB_mk, intB_mk, tru_bool, Bool.not_true, Bool.not_false, isInt_int, isBool_int, isTup_tup, len_tup, len_lst, toTup_lst, toTup_tup, toLst_tup, toLst_lst, walk_tup, walk_lst, c_ge, c_le, c_gt, c_lt, c_eq, c_ne, ix0, ix1, add_i, sub_i, bi_int, bi_mx, bi_mn, bindT_nm, bindT_tup, bindT_lst, bindTs_nil, bindTs_cons, List.set_cons_zero, List.set_cons_succ, wipeE, setAll, perm1, perm2, perm10, perm3, perm210, perm5, List.length_cons, List.length_nil, if_true, Option.map_some, lstB_mk]
        exact ⟨_, _, _, _, _, _, _, _, rfl⟩
  · rintro e ⟨a, b, c, d, f, g, x, y, rfl⟩
    rw [OO_nx]
    refine rest_tot ?_
    try simp -implicitDefEqProofs only [wSs, wS, wEs, wE, wT, wTo, wI, wO, OO_nx, OO_ret, OO_brk, OO_cnt, LO_nx, LO_cnt, LO_ret, LO_brk, RO_ret, RO_nx, getV, List.getElem?_cons_zero, List.getElem?_cons_succ, Option.bind_some, id_eq, OB_some, BB_true, BB_false, boolB_mk, intB_mk, tru_bool, Bool.not_true, Bool.not_false, isInt_int, isBool_int, isTup_tup, len_tup, len_lst, toTup_lst, toTup_tup, toLst_tup, toLst_lst, walk_tup, walk_lst, c_ge, c_le, c_gt, c_lt, c_eq, c_ne, ix0, ix1, add_i, sub_i, bi_int, bi_mx, bi_mn, bindT_nm, bindT_tup, bindT_lst, bindTs_nil, bindTs_cons, List.set_cons_zero, List.set_cons_succ, wipeE, setAll, perm1, perm2, perm10, perm3, perm210, perm5, List.length_cons, List.length_nil, if_true, Option.map_some, lstB_mk]
    exact k
theorem ok (s : Deck) (j : s.cells.length ≤ 63) : ∃ s', exs T37 b37 (env1 c37.N.length 1) s = .ok (.ret (.bool true)) s' := by
  obtain ⟨a, s', e, _, rfl⟩ := p37 (P := fun o => o = .ret (.bool true)) rfl s j
  exact ⟨s', e⟩
end GK02
theorem PySem.Challenge.cw_shiftalike_k02_places_seats_steps_and_pa_holds : PySem.Challenge.rw_shiftalike_k02_places_seats_steps_and_pa.Holds :=
  GK02_holds GK02.ok
