import PyProof.Rows.All
import HandS.ForMost
import HandS.Zip
import HandS.Walk
import HandS.Wide
import HandS.TupAny
import HandS.IsInst
import HandS.Text
import HandS.Flt
import HandS.SortInts
import HandS.RaiseMore
import PyProof.ReprBulk
import PyProof.ReprRoads
import KE.SortData
import KE.KTupSum
import HandS.Style
import HandS.Conv
import HandS.Property
import HandS.OwnEq
import HandS.Codes
import HandS.Flow
import HandS.SetFor
import HandS.Strs
import HandS.NoneIn
import PySem.Challenge.RW_mostpulled_k25_whole_gains_of_two_groups
set_option Elab.async false
set_option linter.all false
set_option maxRecDepth 100000
set_option maxHeartbeats 8000000
namespace DL
open PySem PySem.Spec PyProof.Rows L2

/-! ### plain data, and values as they are held -/
inductive D where
  | non | bl (b : Bool) | int (i : Int) | str (x : Str)
  | tup (ds : List D) | lst (ds : List D) | bag
  | obj (c : Nat) (fs : List D) | scr (ns : List Int)
inductive T where
  | leaf (d : D) | lst (ts : List T) | tup (ts : List T) | vw (d : D)

mutual
def T.dat : T → D
  | .leaf d => d
  | .lst ts => .lst (T.dats ts)
  | .tup ts => .tup (T.dats ts)
  | .vw d => d
def T.dats : List T → List D
  | [] => []
  | t :: r => t.dat :: T.dats r
end
theorem T.dats_eq : ∀ ts : List T, T.dats ts = ts.map T.dat
  | [] => by simp [T.dats]
  | t :: r => by simp [T.dats, T.dats_eq r]

mutual
/-- nothing in it is only read -/
def T.nv : T → Bool
  | .leaf _ => true
  | .vw _ => false
  | .lst ts => T.nvs ts
  | .tup ts => T.nvs ts
def T.nvs : List T → Bool
  | [] => true
  | t :: r => t.nv && T.nvs r
end
theorem T.nvs_leaf : ∀ ds : List D, T.nvs (ds.map .leaf) = true
  | [] => rfl
  | d :: r => by simp [T.nvs, T.nv, T.nvs_leaf r]

/-- what is fixed: the written part, the bag's place, the classes by number (place, fields in order) -/
structure An where
  K : PySem.W.Frag
  bg : Option Addr
  cls : Nat → Option (Addr × List Str)

abbrev Sub (F G : Hp) : Prop := ∀ p o, F p = some o → G p = some o
theorem Sub.refl (F : Hp) : Sub F F := fun _ _ h => h
theorem Sub.trans {F G I : Hp} (a : Sub F G) (b : Sub G I) : Sub F I := fun p o h => b p o (a p o h)
/-- the heap without the bag -/
def hb (a : An) (H : Hp) : Hp := fun p => if a.bg = some p then none else H p
theorem hb_sub (a : An) (H : Hp) : Sub (hb a H) H := fun p o h => by
  unfold hb at h
  split at h
  · cases h
  · exact h

theorem sub_l {K : PySem.W.Frag} {F G : Hp} {a : Addr} {xs : List V} (e : Sub F G) (h : SqL K F a xs) : SqL K G a xs := by
  rcases h with (h | ⟨o, h⟩) | h
  · exact .inl (.inl (e a _ h))
  · exact .inl (.inr ⟨o, e a _ h⟩)
  · exact .inr h
theorem sub_t {K : PySem.W.Frag} {F G : Hp} {a : Addr} {xs : List V} (e : Sub F G) (h : SqT K F a xs) : SqT K G a xs := by
  rcases h with (h | ⟨o, h⟩) | h
  · exact .inl (.inl (e a _ h))
  · exact .inl (.inr ⟨o, e a _ h⟩)
  · exact .inr h

mutual
/-- v is d, read off F -/
def Is (a : An) (F : Hp) : D → V → Prop
  | .non, v => v = .non
  | .bl b, v => v = .bl b
  | .int i, v => v = .int i
  | .str x, v => v = .str x
  | .tup ds, v => ∃ p vs, v = .ref p ∧ SqT a.K F p vs ∧ IsL a F ds vs
  | .lst ds, v => ∃ p vs, v = .ref p ∧ F p = some (.lst vs) ∧ IsL a F ds vs
  | .scr ns, v => ∃ p, v = .ref p ∧ SqL a.K F p (ns.map V.int)
  | .bag, v => ∃ b, a.bg = some b ∧ v = .ref b
  | .obj c fs, v => ∃ p C ns dx vs, v = .ref p ∧ a.cls c = some (C, ns) ∧ ns.length = vs.length ∧ F p = some (.ins C dx (ns.zip vs)) ∧ IsL a F fs vs
def IsL (a : An) (F : Hp) : List D → List V → Prop
  | [], vs => vs = []
  | d :: ds, vs => ∃ v r, vs = v :: r ∧ Is a F d v ∧ IsL a F ds r
end
mutual
theorem Is.mono {a : An} {F G : Hp} (e : Sub F G) : ∀ {d : D} {v : V}, Is a F d v → Is a G d v
  | .non, _, h | .bl _, _, h | .int _, _, h | .str _, _, h => by simpa only [Is] using h
  | .bag, _, h => by simpa only [Is] using h
  | .tup ds, v, h => by
    simp only [Is] at h ⊢
    obtain ⟨p, vs, e1, h1, h2⟩ := h
    exact ⟨p, vs, e1, sub_t e h1, IsL.mono e h2⟩
  | .lst ds, v, h => by
    simp only [Is] at h ⊢
    obtain ⟨p, vs, e1, h1, h2⟩ := h
    exact ⟨p, vs, e1, e _ _ h1, IsL.mono e h2⟩
  | .scr ns, v, h => by
    simp only [Is] at h ⊢
    obtain ⟨p, e1, h1⟩ := h
    exact ⟨p, e1, sub_l e h1⟩
  | .obj c fs, v, h => by
    simp only [Is] at h ⊢
    obtain ⟨p, C, ns, dx, vs, e1, e2, e3, e4, h2⟩ := h
    exact ⟨p, C, ns, dx, vs, e1, e2, e3, e _ _ e4, IsL.mono e h2⟩
theorem IsL.mono {a : An} {F G : Hp} (e : Sub F G) : ∀ {ds : List D} {vs : List V}, IsL a F ds vs → IsL a G ds vs
  | [], _, h => by simpa only [IsL] using h
  | d :: ds, vs, h => by
    simp only [IsL] at h ⊢
    obtain ⟨v, r, e1, h1, h2⟩ := h
    exact ⟨v, r, e1, Is.mono e h1, IsL.mono e h2⟩
end
theorem IsL.length {a : An} {F : Hp} : ∀ {ds : List D} {vs : List V}, IsL a F ds vs → vs.length = ds.length
  | [], _, h => by simp only [IsL] at h; subst h; rfl
  | d :: ds, vs, h => by
    simp only [IsL] at h
    obtain ⟨v, r, rfl, _, h2⟩ := h
    simp [IsL.length h2]
theorem IsL.get {a : An} {F : Hp} : ∀ {ds : List D} {vs : List V} {i : Nat} {d : D}, IsL a F ds vs → ds[i]? = some d → ∃ v, vs[i]? = some v ∧ Is a F d v
  | [], _, _, _, _, h => by simp at h
  | d :: ds, vs, 0, e, h, g => by
    simp only [IsL] at h
    obtain ⟨v, r, rfl, h1, h2⟩ := h
    simp only [List.getElem?_cons_zero, Option.some.injEq] at g
    subst g
    exact ⟨v, rfl, h1⟩
  | d :: ds, vs, i + 1, e, h, g => by
    simp only [IsL] at h
    obtain ⟨v, r, rfl, h1, h2⟩ := h
    simp only [List.getElem?_cons_succ] at g ⊢
    exact IsL.get h2 g
theorem IsL.append {a : An} {F : Hp} : ∀ {ds es : List D} {vs us : List V}, IsL a F ds vs → IsL a F es us → IsL a F (ds ++ es) (vs ++ us)
  | [], _, _, _, h, g => by simp only [IsL] at h; subst h; exact g
  | d :: ds, es, vs, us, h, g => by
    simp only [IsL] at h
    obtain ⟨v, r, rfl, h1, h2⟩ := h
    show IsL a F (d :: (ds ++ es)) (v :: (r ++ us))
    simp only [IsL]
    exact ⟨v, _, rfl, h1, IsL.append h2 g⟩
theorem IsL.take {a : An} {F : Hp} : ∀ {ds : List D} {vs : List V} (n : Nat), IsL a F ds vs → IsL a F (ds.take n) (vs.take n)
  | _, _, 0, _ => by simp [IsL]
  | [], _, n + 1, h => by simp only [IsL] at h; subst h; simp [IsL]
  | d :: ds, vs, n + 1, h => by
    simp only [IsL] at h
    obtain ⟨v, r, rfl, h1, h2⟩ := h
    simp only [List.take_succ_cons, IsL]
    exact ⟨v, _, rfl, h1, IsL.take n h2⟩
theorem IsL.drop {a : An} {F : Hp} : ∀ {ds : List D} {vs : List V} (n : Nat), IsL a F ds vs → IsL a F (ds.drop n) (vs.drop n)
  | _, _, 0, h => h
  | [], _, n + 1, h => by simp only [IsL] at h; subst h; simp [IsL]
  | d :: ds, vs, n + 1, h => by
    simp only [IsL] at h
    obtain ⟨v, r, rfl, h1, h2⟩ := h
    simp only [List.drop_succ_cons]
    exact IsL.drop n h2
theorem IsL.ints {a : An} {F : Hp} : ∀ {ns : List Int} {vs : List V}, IsL a F (ns.map D.int) vs ↔ vs = ns.map V.int
  | [], vs => by simp [IsL]
  | n :: ns, vs => by
    simp only [List.map_cons, IsL, Is]
    constructor
    · rintro ⟨v, r, rfl, rfl, h⟩
      rw [IsL.ints.mp h]
    · rintro rfl
      exact ⟨_, _, rfl, rfl, IsL.ints.mpr rfl⟩

mutual
/-- v is t; S: the places that t holds alone -/
def Ow (a : An) (F H : Hp) : T → V → List Addr → Prop
  | .leaf d, v, S => S = [] ∧ Is a F d v
  | .vw d, v, S => S = [] ∧ Is a (hb a H) d v
  | .lst ts, v, S => T.nvs ts = true ∧ ∃ p vs S', v = .ref p ∧ H p = some (.lst vs) ∧ OwL a F H ts vs S' ∧ S = p :: S'
  | .tup ts, v, S => T.nvs ts = true ∧ ∃ p vs, v = .ref p ∧ SqT a.K F p vs ∧ OwL a F H ts vs S
def OwL (a : An) (F H : Hp) : List T → List V → List Addr → Prop
  | [], vs, S => vs = [] ∧ S = []
  | t :: ts, vs, S => ∃ v r S1 S2, vs = v :: r ∧ Ow a F H t v S1 ∧ OwL a F H ts r S2 ∧ S = S1 ++ S2
end
mutual
theorem Ow.mono {a : An} {F F' H H' : Hp} (e : Sub F F') (eb : Sub (hb a H) (hb a H')) : ∀ {t : T} {v : V} {S : List Addr}, Ow a F H t v S → (∀ p ∈ S, ∀ o, H p = some o → H' p = some o) → Ow a F' H' t v S
  | .leaf d, v, S, h, _ => by
    simp only [Ow] at h ⊢
    exact ⟨h.1, Is.mono e h.2⟩
  | .vw d, v, S, h, _ => by
    simp only [Ow] at h ⊢
    exact ⟨h.1, Is.mono eb h.2⟩
  | .lst ts, v, S, h, k => by
    simp only [Ow] at h ⊢
    obtain ⟨nn, p, vs, S', e1, e2, h1, rfl⟩ := h
    exact ⟨nn, p, vs, S', e1, k p List.mem_cons_self _ e2, OwL.mono e eb h1 fun q hq => k q (List.mem_cons_of_mem _ hq), rfl⟩
  | .tup ts, v, S, h, k => by
    simp only [Ow] at h ⊢
    obtain ⟨nn, p, vs, e1, e2, h1⟩ := h
    exact ⟨nn, p, vs, e1, sub_t e e2, OwL.mono e eb h1 k⟩
theorem OwL.mono {a : An} {F F' H H' : Hp} (e : Sub F F') (eb : Sub (hb a H) (hb a H')) : ∀ {ts : List T} {vs : List V} {S : List Addr}, OwL a F H ts vs S → (∀ p ∈ S, ∀ o, H p = some o → H' p = some o) → OwL a F' H' ts vs S
  | [], _, _, h, _ => by simpa only [OwL] using h
  | t :: ts, vs, S, h, k => by
    simp only [OwL] at h ⊢
    obtain ⟨v, r, S1, S2, e1, h1, h2, rfl⟩ := h
    exact ⟨v, r, S1, S2, e1, Ow.mono e eb h1 (fun p hp => k p (List.mem_append_left _ hp)), OwL.mono e eb h2 (fun p hp => k p (List.mem_append_right _ hp)), rfl⟩
end
mutual
theorem Ow.mono' {a : An} {F F' H H' : Hp} (e : Sub F F') : ∀ {t : T} {v : V} {S : List Addr}, t.nv = true → Ow a F H t v S → (∀ p ∈ S, ∀ o, H p = some o → H' p = some o) → Ow a F' H' t v S
  | .leaf d, v, S, _, h, _ => by
    simp only [Ow] at h ⊢
    exact ⟨h.1, Is.mono e h.2⟩
  | .vw d, v, S, n, h, _ => by simp [T.nv] at n
  | .lst ts, v, S, n, h, k => by
    simp only [T.nv] at n
    simp only [Ow] at h ⊢
    obtain ⟨nn, p, vs, S', e1, e2, h1, rfl⟩ := h
    exact ⟨nn, p, vs, S', e1, k p List.mem_cons_self _ e2, OwL.mono' e n h1 fun q hq => k q (List.mem_cons_of_mem _ hq), rfl⟩
  | .tup ts, v, S, n, h, k => by
    simp only [T.nv] at n
    simp only [Ow] at h ⊢
    obtain ⟨nn, p, vs, e1, e2, h1⟩ := h
    exact ⟨nn, p, vs, e1, sub_t e e2, OwL.mono' e n h1 k⟩
theorem OwL.mono' {a : An} {F F' H H' : Hp} (e : Sub F F') : ∀ {ts : List T} {vs : List V} {S : List Addr}, T.nvs ts = true → OwL a F H ts vs S → (∀ p ∈ S, ∀ o, H p = some o → H' p = some o) → OwL a F' H' ts vs S
  | [], _, _, _, h, _ => by simpa only [OwL] using h
  | t :: ts, vs, S, n, h, k => by
    simp only [T.nvs, Bool.and_eq_true] at n
    simp only [OwL] at h ⊢
    obtain ⟨v, r, S1, S2, e1, h1, h2, rfl⟩ := h
    exact ⟨v, r, S1, S2, e1, Ow.mono' e n.1 h1 (fun p hp => k p (List.mem_append_left _ hp)), OwL.mono' e n.2 h2 (fun p hp => k p (List.mem_append_right _ hp)), rfl⟩
end
mutual
/-- what is held can be read -/
theorem Ow.is {a : An} {F H : Hp} (e : Sub F H) (hF : ∀ b, a.bg = some b → F b = none) : ∀ {t : T} {v : V} {S : List Addr}, Ow a F H t v S → (∀ p ∈ S, a.bg ≠ some p) → Is a (hb a H) t.dat v
  | .leaf d, v, S, h, _ => by
    simp only [Ow] at h
    simp only [T.dat]
    refine Is.mono (fun p o q => ?_) h.2
    unfold hb
    split
    · rename_i z
      rw [hF p z] at q; cases q
    · exact e p o q
  | .vw d, v, S, h, _ => by
    simp only [Ow] at h
    simp only [T.dat]
    exact h.2
  | .lst ts, v, S, h, k => by
    simp only [Ow] at h
    simp only [T.dat, Is]
    obtain ⟨_, p, vs, S', e1, e2, h1, rfl⟩ := h
    refine ⟨p, vs, e1, ?_, OwL.is e hF h1 fun q hq => k q (List.mem_cons_of_mem _ hq)⟩
    unfold hb
    rw [if_neg (k p List.mem_cons_self)]
    exact e2
  | .tup ts, v, S, h, k => by
    simp only [Ow] at h
    simp only [T.dat, Is]
    obtain ⟨_, p, vs, e1, e2, h1⟩ := h
    refine ⟨p, vs, e1, sub_t (fun q o z => ?_) e2, OwL.is e hF h1 k⟩
    unfold hb
    split
    · rename_i y
      rw [hF q y] at z; cases z
    · exact e q o z
theorem OwL.is {a : An} {F H : Hp} (e : Sub F H) (hF : ∀ b, a.bg = some b → F b = none) : ∀ {ts : List T} {vs : List V} {S : List Addr}, OwL a F H ts vs S → (∀ p ∈ S, a.bg ≠ some p) → IsL a (hb a H) (T.dats ts) vs
  | [], _, _, h, _ => by
    simp only [OwL] at h
    simp only [T.dats, IsL]
    exact h.1
  | t :: ts, vs, S, h, k => by
    simp only [OwL] at h
    simp only [T.dats, IsL]
    obtain ⟨v, r, S1, S2, e1, h1, h2, rfl⟩ := h
    exact ⟨v, r, e1, Ow.is e hF h1 (fun p hp => k p (List.mem_append_left _ hp)), OwL.is e hF h2 (fun p hp => k p (List.mem_append_right _ hp))⟩
end
/-- it isn't itself only read -/
def T.nvw : T → Bool
  | .vw _ => false
  | _ => true
theorem nvw_leaf (ds : List D) : (ds.map T.leaf).all T.nvw = true := by simp [T.nvw]
theorem nvw_of : ∀ {us : List T}, T.nvs us = true → us.all T.nvw = true
  | [], _ => rfl
  | t :: r, h => by
    simp only [T.nvs, Bool.and_eq_true] at h
    rw [List.all_cons, nvw_of h.2, Bool.and_true]
    cases t <;> first | rfl | simp [T.nv] at h
theorem Ow.nv {a : An} {F H : Hp} {t : T} {v : V} {S : List Addr} (h : Ow a F H t v S) (n : t.nvw = true) : t.nv = true := by
  cases t with
  | leaf d => rfl
  | vw d => simp [T.nvw] at n
  | lst us => simp only [Ow] at h; simpa only [T.nv] using h.1
  | tup us => simp only [Ow] at h; simpa only [T.nv] using h.1
theorem OwL.nvs {a : An} {F H : Hp} : ∀ {us : List T} {vs : List V} {S : List Addr}, OwL a F H us vs S → us.all T.nvw = true → T.nvs us = true
  | [], _, _, _, _ => rfl
  | t :: r, vs, S, h, n => by
    simp only [OwL] at h
    obtain ⟨v, r', S1, S2, _, h1, h2, _⟩ := h
    simp only [List.all_cons, Bool.and_eq_true] at n
    simp only [T.nvs, Bool.and_eq_true]
    exact ⟨h1.nv n.1, OwL.nvs h2 n.2⟩
end DL
namespace DL
open PySem PySem.Spec PyProof.Rows L2

abbrev Env := List (Option T)
/-- the slots hold what the environment says -/
def OwC (a : An) (F H : Hp) : Env → L2.St → List Addr → Prop
  | [], _, S => S = []
  | none :: ρ, σ, S => OwC a F H ρ σ.tail S
  | some t :: ρ, σ, S => ∃ v S1 S2, (σ.head? = some (some v) ∧ t.nv = true) ∧ Ow a F H t v S1 ∧ OwC a F H ρ σ.tail S2 ∧ S = S1 ++ S2
theorem OwC.mono {a : An} {F F' H H' : Hp} (e : Sub F F') (eb : Sub (hb a H) (hb a H')) : ∀ {ρ : Env} {σ : L2.St} {S : List Addr}, OwC a F H ρ σ S → (∀ p ∈ S, ∀ o, H p = some o → H' p = some o) → OwC a F' H' ρ σ S
  | [], _, _, h, _ => h
  | none :: ρ, σ, S, h, k => by
    simp only [OwC] at h ⊢
    exact OwC.mono e eb h k
  | some t :: ρ, σ, S, h, k => by
    simp only [OwC] at h ⊢
    obtain ⟨v, S1, S2, e1, h1, h2, rfl⟩ := h
    exact ⟨v, S1, S2, e1, Ow.mono e eb h1 (fun p hp => k p (List.mem_append_left _ hp)), OwC.mono e eb h2 (fun p hp => k p (List.mem_append_right _ hp)), rfl⟩
mutual
theorem Ow.there {a : An} {F H : Hp} : ∀ {t : T} {v : V} {S : List Addr}, Ow a F H t v S → ∀ p ∈ S, H p ≠ none
  | .leaf d, v, S, h => by
    simp only [Ow] at h
    intro p hp
    rw [h.1] at hp; cases hp
  | .vw d, v, S, h => by
    simp only [Ow] at h
    intro p hp
    rw [h.1] at hp; cases hp
  | .lst ts, v, S, h => by
    simp only [Ow] at h
    obtain ⟨_, p, vs, S', e1, e2, h1, rfl⟩ := h
    intro q hq
    rcases List.mem_cons.mp hq with rfl | hq
    · rw [e2]; simp
    · exact OwL.there h1 q hq
  | .tup ts, v, S, h => by
    simp only [Ow] at h
    obtain ⟨_, p, vs, e1, e2, h1⟩ := h
    exact OwL.there h1
theorem OwL.there {a : An} {F H : Hp} : ∀ {ts : List T} {vs : List V} {S : List Addr}, OwL a F H ts vs S → ∀ p ∈ S, H p ≠ none
  | [], vs, S, h => by
    simp only [OwL] at h
    intro p hp
    rw [h.2] at hp; cases hp
  | t :: ts, vs, S, h => by
    simp only [OwL] at h
    obtain ⟨v, r, S1, S2, e1, h1, h2, rfl⟩ := h
    intro p hp
    rcases List.mem_append.mp hp with q | q
    · exact Ow.there h1 p q
    · exact OwL.there h2 p q
end
theorem OwC.there {a : An} {F H : Hp} : ∀ {ρ : Env} {σ : L2.St} {S : List Addr}, OwC a F H ρ σ S → ∀ p ∈ S, H p ≠ none
  | [], σ, S, h => by
    simp only [OwC] at h
    intro p hp
    rw [h] at hp; cases hp
  | none :: ρ, σ, S, h => by
    simp only [OwC] at h
    exact OwC.there h
  | some t :: ρ, σ, S, h => by
    simp only [OwC] at h
    obtain ⟨v, S1, S2, e1, h1, h2, rfl⟩ := h
    intro p hp
    rcases List.mem_append.mp hp with q | q
    · exact Ow.there h1 p q
    · exact OwC.there h2 p q
/-- the cell at i -/
def Env.at : Env → Nat → Option T
  | [], _ => none
  | x :: _, 0 => x
  | _ :: r, i + 1 => Env.at r i
def Env.put : Env → Nat → Option T → Env
  | [], _, _ => []
  | _ :: r, 0, y => y :: r
  | x :: r, i + 1, y => x :: Env.put r i y
theorem OwC.mono' {a : An} {F F' H H' : Hp} (e : Sub F F') : ∀ {ρ : Env} {σ : L2.St} {S : List Addr}, OwC a F H ρ σ S → (∀ p ∈ S, ∀ o, H p = some o → H' p = some o) → OwC a F' H' ρ σ S
  | [], _, _, h, _ => h
  | none :: ρ, σ, S, h, k => by
    simp only [OwC] at h ⊢
    exact OwC.mono' e h k
  | some t :: ρ, σ, S, h, k => by
    simp only [OwC] at h ⊢
    obtain ⟨v, S1, S2, e1, h1, h2, rfl⟩ := h
    exact ⟨v, S1, S2, e1, Ow.mono' e e1.2 h1 (fun p hp => k p (List.mem_append_left _ hp)), OwC.mono' e h2 (fun p hp => k p (List.mem_append_right _ hp)), rfl⟩
theorem OwC.get {a : An} {F H : Hp} : ∀ {ρ : Env} {σ : L2.St} {S : List Addr} {i : Nat} {t : T}, OwC a F H ρ σ S → ρ.at i = some t → ∃ v S1, σ[i]? = some (some v) ∧ Ow a F H t v S1 ∧ (∀ p ∈ S1, p ∈ S) ∧ t.nv = true
  | [], _, _, _, _, _, h => by simp [Env.at] at h
  | none :: ρ, σ, S, 0, t, h, g => by simp [Env.at] at g
  | some u :: ρ, σ, S, 0, t, h, g => by
    simp only [OwC] at h
    simp only [Env.at, Option.some.injEq] at g
    subst g
    obtain ⟨v, S1, S2, ⟨e1, nv⟩, h1, h2, rfl⟩ := h
    refine ⟨v, S1, ?_, h1, fun p hp => List.mem_append_left _ hp, nv⟩
    cases σ with
    | nil => simp at e1
    | cons x r => simpa using e1
  | none :: ρ, σ, S, i + 1, t, h, g => by
    simp only [OwC] at h
    simp only [Env.at] at g
    obtain ⟨v, S1, e1, h1, k⟩ := OwC.get h g
    refine ⟨v, S1, ?_, h1, k⟩
    cases σ with
    | nil => simp at e1
    | cons x r => simpa using e1
  | some u :: ρ, σ, S, i + 1, t, h, g => by
    simp only [OwC] at h
    simp only [Env.at] at g
    obtain ⟨v, S1, S2, e1, h1, h2, rfl⟩ := h
    obtain ⟨v', S1', e1', h1', k⟩ := OwC.get h2 g
    refine ⟨v', S1', ?_, h1', fun p hp => List.mem_append_right _ (k.1 p hp), k.2⟩
    cases σ with
    | nil => simp at e1'
    | cons x r => simpa using e1'
/-- a slot is stored: its old places are let go -/
theorem OwC.put {a : An} {F H : Hp} {t : T} {v : V} {St : List Addr} (ht : Ow a F H t v St) (hn : t.nv = true) : ∀ {ρ : Env} {σ : L2.St} {S : List Addr} {i : Nat}, OwC a F H ρ σ S → i < ρ.length → i < σ.length → S.Nodup → St.Nodup → (∀ p ∈ St, p ∉ S) →
    ∃ S', OwC a F H (ρ.put i (some t)) (σ.set i (some v)) S' ∧ S'.Nodup ∧ ∀ p ∈ S', p ∈ S ∨ p ∈ St
  | [], σ, S, i, h, l, _, _, _, _ => by simp at l
  | x :: ρ, [], S, i, h, l, l2, _, _, _ => by simp at l2
  | none :: ρ, y :: σ, S, 0, h, _, _, n, nt, d => by
    simp only [OwC, List.tail_cons] at h
    refine ⟨St ++ S, ?_, ?_, fun p hp => (List.mem_append.mp hp).symm⟩
    · simp only [Env.put, List.set_cons_zero, OwC, List.tail_cons]
      exact ⟨v, St, S, ⟨rfl, hn⟩, ht, h, rfl⟩
    · exact List.nodup_append.mpr ⟨nt, n, fun p hp q hq e => d p hp (e ▸ hq)⟩
  | some u :: ρ, y :: σ, S, 0, h, _, _, n, nt, d => by
    simp only [OwC, List.tail_cons] at h
    obtain ⟨v1, S1, S2, e1, h1, h2, rfl⟩ := h
    refine ⟨St ++ S2, ?_, ?_, fun p hp => ?_⟩
    · simp only [Env.put, List.set_cons_zero, OwC, List.tail_cons]
      exact ⟨v, St, S2, ⟨rfl, hn⟩, ht, h2, rfl⟩
    · exact List.nodup_append.mpr ⟨nt, (List.nodup_append.mp n).2.1, fun p hp q hq e => d p hp (List.mem_append_right _ (e ▸ hq))⟩
    · rcases List.mem_append.mp hp with q | q
      · exact .inr q
      · exact .inl (List.mem_append_right _ q)
  | none :: ρ, y :: σ, S, i + 1, h, l, l2, n, nt, d => by
    simp only [OwC, List.tail_cons] at h
    obtain ⟨S', h', n', k⟩ := OwC.put ht hn (i := i) h (by simpa using l) (by simpa using l2) n nt d
    refine ⟨S', ?_, n', k⟩
    simp only [Env.put, List.set_cons_succ, OwC, List.tail_cons]
    exact h'
  | some u :: ρ, y :: σ, S, i + 1, h, l, l2, n, nt, d => by
    simp only [OwC, List.tail_cons] at h
    obtain ⟨v1, S1, S2, e1, h1, h2, rfl⟩ := h
    obtain ⟨n1, n2, n3⟩ := List.nodup_append.mp n
    obtain ⟨S', h', n', k⟩ := OwC.put ht hn (i := i) h2 (by simpa using l) (by simpa using l2) n2 nt (fun p hp q => d p hp (List.mem_append_right _ q))
    refine ⟨S1 ++ S', ?_, ?_, fun p hp => ?_⟩
    · simp only [Env.put, List.set_cons_succ, OwC, List.tail_cons]
      exact ⟨v1, S1, S', e1, h1, h', rfl⟩
    · refine List.nodup_append.mpr ⟨n1, n', fun p hp q hq e => ?_⟩
      subst e
      rcases k p hq with z | z
      · exact n3 p hp p z rfl
      · exact d p z (List.mem_append_left _ hp)
    · rcases List.mem_append.mp hp with q | q
      · exact .inl (List.mem_append_left _ q)
      · rcases k p q with z | z
        · exact .inl (List.mem_append_right _ z)
        · exact .inr z
/-- a slot is forgotten (its store may have changed) -/
theorem OwC.drop {a : An} {F H : Hp} : ∀ {ρ : Env} {σ : L2.St} {S : List Addr} {x : Option V} (i : Nat), OwC a F H ρ σ S → S.Nodup →
    ∃ S', OwC a F H (ρ.put i none) (σ.set i x) S' ∧ S'.Nodup ∧ ∀ p ∈ S', p ∈ S
  | [], σ, S, x, i, h, n => ⟨S, by simpa only [Env.put, OwC] using h, n, fun _ h => h⟩
  | none :: ρ, [], S, x, 0, h, n => ⟨S, by simpa [Env.put, OwC] using h, n, fun _ h => h⟩
  | none :: ρ, y :: σ, S, x, 0, h, n => ⟨S, by simpa [Env.put, OwC] using h, n, fun _ h => h⟩
  | some u :: ρ, [], S, x, i, h, n => by simp [OwC] at h
  | some u :: ρ, y :: σ, S, x, 0, h, n => by
    simp only [OwC, List.tail_cons] at h
    obtain ⟨v1, S1, S2, e1, h1, h2, rfl⟩ := h
    exact ⟨S2, by simpa [Env.put, OwC] using h2, (List.nodup_append.mp n).2.1, fun p hp => List.mem_append_right _ hp⟩
  | none :: ρ, [], S, x, i + 1, h, n => by
    simp only [OwC] at h
    obtain ⟨S', h', n', k⟩ := OwC.drop (x := x) i h n
    exact ⟨S', by simpa [Env.put, OwC] using h', n', k⟩
  | none :: ρ, y :: σ, S, x, i + 1, h, n => by
    simp only [OwC] at h
    obtain ⟨S', h', n', k⟩ := OwC.drop (x := x) i h n
    exact ⟨S', by simpa [Env.put, OwC] using h', n', k⟩
  | some u :: ρ, y :: σ, S, x, i + 1, h, n => by
    simp only [OwC, List.tail_cons] at h
    obtain ⟨v1, S1, S2, e1, h1, h2, rfl⟩ := h
    obtain ⟨n1, n2, n3⟩ := List.nodup_append.mp n
    obtain ⟨S', h', n', k⟩ := OwC.drop (x := x) i h2 n2
    refine ⟨S1 ++ S', ?_, List.nodup_append.mpr ⟨n1, n', fun p hp q hq => n3 p hp q (k q hq)⟩, fun p hp => ?_⟩
    · simp only [Env.put, List.set_cons_succ, OwC, List.tail_cons]
      exact ⟨v1, S1, S', e1, h1, h', rfl⟩
    · rcases List.mem_append.mp hp with q | q
      · exact List.mem_append_left _ q
      · exact List.mem_append_right _ (k p q)
theorem Env.put_length : ∀ (ρ : Env) (i : Nat) (x : Option T), (ρ.put i x).length = ρ.length
  | [], _, _ => rfl
  | _ :: r, 0, _ => rfl
  | _ :: r, i + 1, x => by simp [Env.put, Env.put_length r i x]

/-! ### the state -/
/-- the bag: a list of three ints and a list of ints -/
def BagOk (a : An) (F H : Hp) : Prop := ∀ b, a.bg = some b → F b = none ∧ ∃ (x y z : Int) (c : Addr) (ns : List Int),
  H b = some (.lst [.int x, .int y, .int z, .ref c]) ∧ F c = some (.lst (ns.map V.int)) ∧ 0 ≤ x ∧ 0 ≤ y ∧ y < 2147483647 ∧ 0 ≤ z ∧ ∀ n ∈ ns, 0 ≤ n
/-- what has become of the heaps since the entry; M: places that may be written -/
structure Gw (M : List Addr) (F0 H0 F H : Hp) : Prop where
  ff : Sub F0 F
  hh : ∀ p o, p ∉ M → H0 p = some o → H p = some o
  nn : ∀ p, H0 p ≠ none → F0 p = none → F p = none
  th : ∀ p, H0 p ≠ none → H p ≠ none
theorem Gw.refl (M : List Addr) (F H : Hp) : Gw M F H F H := ⟨Sub.refl F, fun _ _ _ h => h, fun _ _ h => h, fun _ h => h⟩
theorem Gw.trans {M : List Addr} {F0 H0 F1 H1 F2 H2 : Hp} (g : Gw M F0 H0 F1 H1) (g' : Gw M F1 H1 F2 H2) : Gw M F0 H0 F2 H2 :=
  ⟨g.ff.trans g'.ff, fun p o hp h => g'.hh p o hp (g.hh p o hp h), fun p h n => g'.nn p (g.th p h) (g.nn p h n), fun p h => g'.th p (g.th p h)⟩

structure An0 extends An where
  M : List Addr
  F0 : Hp
  H0 : Hp
  W : List Hp
  V : List Hp
structure SW (a : An0) (ρ : Env) (σ : L2.St) (ts : List T) (vs : List V) (H F : Hp) (Sc Sm : List Addr) : Prop where
  sub : Sub F H
  gw : Gw a.M a.F0 a.H0 F H
  bagM : ∀ b, a.bg = some b → b ∈ a.M ∧ a.H0 b ≠ none
  bag : BagOk a.toAn F H
  cells : OwC a.toAn F H ρ σ Sc
  tmps : OwL a.toAn F H ts vs Sm
  nd : (Sc ++ Sm).Nodup
  fr : ∀ p ∈ Sc ++ Sm, F p = none ∧ a.bg ≠ some p ∧ (p ∈ a.M ∨ a.H0 p = none)
  len : ρ.length = σ.length
  wit : ∀ G ∈ a.W, Sub (hb a.toAn G) (hb a.toAn H)
  wif : ∀ G ∈ a.V, Sub G F
def SOk (a : An0) (ρ : Env) (σ : L2.St) (ts : List T) (vs : List V) (H : Hp) : Prop := ∃ F Sc Sm, SW a ρ σ ts vs H F Sc Sm
section
variable {a : An0} {ρ : Env} {σ : L2.St} {ts : List T} {vs : List V} {H F : Hp} {Sc Sm : List Addr}
theorem SW.nobag (w : SW a ρ σ ts vs H F Sc Sm) : ∀ b, a.bg = some b → F b = none := fun b e => (w.bag b e).1
theorem SW.subb (w : SW a ρ σ ts vs H F Sc Sm) : Sub F (hb a.toAn H) := fun p o q => by
  unfold hb
  split
  · rename_i z
    rw [w.nobag p z] at q; cases q
  · exact w.sub p o q
/-- temporaries: the first can be read -/
theorem SW.top {t : T} {v : V} (w : SW a ρ σ (t :: ts) (v :: vs) H F Sc Sm) : Is a.toAn (hb a.toAn H) t.dat v := by
  obtain ⟨v', r, S1, S2, e, h1, h2, e2⟩ := (show ∃ v' r S1 S2, v :: vs = v' :: r ∧ Ow a.toAn F H t v' S1 ∧ OwL a.toAn F H ts r S2 ∧ Sm = S1 ++ S2 by
    have := w.tmps; simpa only [OwL] using this)
  cases e
  exact Ow.is w.sub w.nobag h1 fun p hp => (w.fr p (by rw [e2]; exact List.mem_append_right _ (List.mem_append_left _ hp))).2.1
theorem SW.all (w : SW a ρ σ ts vs H F Sc Sm) : IsL a.toAn (hb a.toAn H) (T.dats ts) vs :=
  OwL.is w.sub w.nobag w.tmps fun p hp => (w.fr p (List.mem_append_right _ hp)).2.1
theorem SOk.top {t : T} {v : V} : SOk a ρ σ (t :: ts) (v :: vs) H → Is a.toAn (hb a.toAn H) t.dat v := fun ⟨_, _, _, w⟩ => w.top
theorem OwL.split {a : An} {F H : Hp} : ∀ {ts us : List T} {vs ws : List V} {S : List Addr}, OwL a F H (ts ++ us) (vs ++ ws) S → ts.length = vs.length → ∃ S1 S2, OwL a F H ts vs S1 ∧ OwL a F H us ws S2 ∧ S = S1 ++ S2
  | [], us, [], ws, S, h, _ => ⟨[], S, by simp [OwL], h, rfl⟩
  | [], us, v :: vs, ws, S, h, l => by simp at l
  | t :: ts, us, [], ws, S, h, l => by simp at l
  | t :: ts, us, v :: vs, ws, S, h, l => by
    have h : OwL a F H (t :: (ts ++ us)) (v :: (vs ++ ws)) S := h
    simp only [OwL] at h
    obtain ⟨v', r, S1, S2, e, h1, h2, rfl⟩ := h
    cases e
    obtain ⟨S3, S4, h3, h4, rfl⟩ := OwL.split h2 (by simpa using l)
    refine ⟨S1 ++ S3, S4, ?_, h4, by simp⟩
    simp only [OwL]
    exact ⟨v, vs, S1, S3, rfl, h1, h3, rfl⟩
theorem OwL.join {a : An} {F H : Hp} : ∀ {ts us : List T} {vs ws : List V} {S1 S2 : List Addr}, OwL a F H ts vs S1 → OwL a F H us ws S2 → OwL a F H (ts ++ us) (vs ++ ws) (S1 ++ S2)
  | [], us, vs, ws, S1, S2, h1, h2 => by
    simp only [OwL] at h1
    obtain ⟨rfl, rfl⟩ := h1
    exact h2
  | t :: ts, us, vs, ws, S1, S2, h1, h2 => by
    simp only [OwL] at h1
    obtain ⟨v, r, S3, S4, rfl, h3, h4, rfl⟩ := h1
    show OwL a F H (t :: (ts ++ us)) (v :: (r ++ ws)) (S3 ++ S4 ++ S2)
    simp only [OwL]
    exact ⟨v, r ++ ws, S3, S4 ++ S2, rfl, h3, OwL.join h4 h2, by simp⟩
theorem OwL.length {a : An} {F H : Hp} : ∀ {ts : List T} {vs : List V} {S : List Addr}, OwL a F H ts vs S → vs.length = ts.length
  | [], _, _, h => by simp only [OwL] at h; simp [h.1]
  | t :: ts, vs, S, h => by
    simp only [OwL] at h
    obtain ⟨v, r, S1, S2, rfl, _, h2, _⟩ := h
    simp [OwL.length h2]
/-- temporaries are let go, or taken in another order -/
theorem SW.tmp {us : List T} {ws : List V} {Sn : List Addr} (w : SW a ρ σ ts vs H F Sc Sm) (h : OwL a.toAn F H us ws Sn) (n : Sn.Nodup) (k : ∀ p ∈ Sn, p ∈ Sm) : SW a ρ σ us ws H F Sc Sn := by
  obtain ⟨n1, n2, n3⟩ := List.nodup_append.mp w.nd
  refine ⟨w.sub, w.gw, w.bagM, w.bag, w.cells, h, List.nodup_append.mpr ⟨n1, n, fun p hp q hq => n3 p hp q (k q hq)⟩, fun p hp => w.fr p ?_, w.len, w.wit, w.wif⟩
  rcases List.mem_append.mp hp with q | q
  · exact List.mem_append_left _ q
  · exact List.mem_append_right _ (k p q)
theorem SOk.pop {us : List T} {ws : List V} (l : us.length = ws.length) : SOk a ρ σ (us ++ ts) (ws ++ vs) H → SOk a ρ σ ts vs H := fun ⟨F, Sc, Sm, w⟩ => by
  obtain ⟨S1, S2, h1, h2, e⟩ := OwL.split w.tmps l
  have n := (List.nodup_append.mp w.nd).2.1
  rw [e] at n
  exact ⟨F, Sc, S2, w.tmp h2 (List.nodup_append.mp n).2.1 fun p hp => by rw [e]; exact List.mem_append_right _ hp⟩
theorem SOk.pop1 {t : T} {v : V} (h : SOk a ρ σ (t :: ts) (v :: vs) H) : SOk a ρ σ ts vs H := SOk.pop (us := [t]) (ws := [v]) rfl h
/-- a value without places of its own -/
theorem SW.leaf {d : D} {v : V} (w : SW a ρ σ ts vs H F Sc Sm) (h : Is a.toAn F d v) : SW a ρ σ (.leaf d :: ts) (v :: vs) H F Sc Sm :=
  ⟨w.sub, w.gw, w.bagM, w.bag, w.cells, by simp only [OwL]; exact ⟨v, vs, [], Sm, rfl, by simp only [Ow]; exact ⟨trivial, h⟩, w.tmps, rfl⟩, w.nd, w.fr, w.len, w.wit, w.wif⟩
theorem SW.vw {d : D} {v : V} (w : SW a ρ σ ts vs H F Sc Sm) (h : Is a.toAn (hb a.toAn H) d v) : SW a ρ σ (.vw d :: ts) (v :: vs) H F Sc Sm :=
  ⟨w.sub, w.gw, w.bagM, w.bag, w.cells, by simp only [OwL]; exact ⟨v, vs, [], Sm, rfl, by simp only [Ow]; exact ⟨trivial, h⟩, w.tmps, rfl⟩, w.nd, w.fr, w.len, w.wit, w.wif⟩
/-- what needs no heap -/
def D.flat : D → Bool
  | .non | .bl _ | .int _ | .str _ => true
  | _ => false
theorem Is.flat {a : An} {F G : Hp} {d : D} {v : V} (f : d.flat = true) (h : Is a F d v) : Is a G d v := by
  cases d <;> simp [D.flat] at f <;> simpa only [Is] using h
theorem SOk.flat {d : D} {v : V} (f : d.flat = true) (h : Is a.toAn (hb a.toAn H) d v) : SOk a ρ σ ts vs H → SOk a ρ σ (.leaf d :: ts) (v :: vs) H := fun ⟨F, Sc, Sm, w⟩ => ⟨F, Sc, Sm, w.leaf (h.flat f)⟩
theorem SOk.int {i : Int} (h : SOk a ρ σ ts vs H) : SOk a ρ σ (.leaf (.int i) :: ts) (.int i :: vs) H := h.flat rfl (by simp only [Is])
theorem SOk.bl {b : Bool} (h : SOk a ρ σ ts vs H) : SOk a ρ σ (.leaf (.bl b) :: ts) (.bl b :: vs) H := h.flat rfl (by simp only [Is])
theorem SOk.str {b : Str} (h : SOk a ρ σ ts vs H) : SOk a ρ σ (.leaf (.str b) :: ts) (.str b :: vs) H := h.flat rfl (by simp only [Is])
theorem SOk.non (h : SOk a ρ σ ts vs H) : SOk a ρ σ (.leaf .non :: ts) (.non :: vs) H := h.flat rfl (by simp only [Is])
theorem hb_upd {a : An} {H : Hp} {p : Addr} {o : HO} (hp : H p = none) : Sub (hb a H) (hb a (upd H p o)) := fun q u e => by
  unfold hb at e ⊢
  split at e
  · cases e
  · rename_i z
    rw [if_neg z, upd_ne (ne_of_none e hp)]
    exact e
theorem sub_new {H : Hp} {p : Addr} {o : HO} (hp : H p = none) : Sub H (upd H p o) := fun q u e => by
  rw [upd_ne (ne_of_none e hp)]
  exact e
theorem SW.fresh (w : SW a ρ σ ts vs H F Sc Sm) {p : Addr} (hp : H p = none) : a.H0 p = none ∧ F p = none ∧ a.bg ≠ some p := by
  refine ⟨?_, ?_, fun e => ?_⟩
  · cases q : a.H0 p with
    | none => rfl
    | some o => exact absurd hp (w.gw.th p (by rw [q]; simp))
  · cases q : F p with
    | none => rfl
    | some o =>
      have := w.sub p o q
      rw [hp] at this; cases this
  · obtain ⟨_, x, y, z, c, ns, e1, _⟩ := w.bag p e
    rw [hp] at e1; cases e1
theorem bag_new {p : Addr} {o : HO} (w : BagOk a.toAn F H) (hp : H p = none) : BagOk a.toAn F (upd H p o) := fun b e => by
  obtain ⟨h1, x, y, z, c, ns, e1, h2, h3⟩ := w b e
  refine ⟨h1, x, y, z, c, ns, ?_, h2, h3⟩
  rw [upd_ne (ne_of_none e1 hp)]
  exact e1
/-- all is kept where a new object is laid that the frozen part doesn't know -/
theorem SW.laid (w : SW a ρ σ ts vs H F Sc Sm) {p : Addr} {o : HO} (hp : H p = none) : SW a ρ σ ts vs (upd H p o) F Sc Sm := by
  have s := sub_new (o := o) hp
  have sb := hb_upd (a := a.toAn) (o := o) hp
  refine ⟨w.sub.trans s, ⟨w.gw.ff, fun q u hq e => s q u (w.gw.hh q u hq e), w.gw.nn, fun q h => ?_⟩, w.bagM, bag_new w.bag hp, w.cells.mono (Sub.refl F) sb fun q _ u e => s q u e, w.tmps.mono (Sub.refl F) sb fun q _ u e => s q u e, w.nd, w.fr, w.len, fun G hG => (w.wit G hG).trans sb, w.wif⟩
  unfold upd
  split
  · simp
  · exact w.gw.th q h
/-- .. or that the frozen part takes in -/
theorem SW.froze (w : SW a ρ σ ts vs H F Sc Sm) {p : Addr} {o : HO} (hp : H p = none) : SW a ρ σ ts vs (upd H p o) (upd F p o) Sc Sm := by
  obtain ⟨h0, hF, hbg⟩ := w.fresh hp
  have s := sub_new (o := o) hp
  have sF : Sub F (upd F p o) := sub_new (o := o) hF
  have sb := hb_upd (a := a.toAn) (o := o) hp
  refine ⟨fun q u e => ?_, ⟨w.gw.ff.trans sF, fun q u hq e => s q u (w.gw.hh q u hq e), fun q h n => ?_, fun q h => ?_⟩, w.bagM, fun b e => ?_, w.cells.mono sF sb fun q _ u e => s q u e, w.tmps.mono sF sb fun q _ u e => s q u e, w.nd, fun q hq => ?_, w.len, fun G hG => (w.wit G hG).trans sb, fun G hG => (w.wif G hG).trans sF⟩
  · unfold upd at e ⊢
    split at e
    · rename_i z; rw [if_pos z]; exact e
    · rename_i z; rw [if_neg z]; exact w.sub q u e
  · rw [upd_ne (fun z => h (by rw [z]; exact h0))]
    exact w.gw.nn q h n
  · unfold upd
    split
    · simp
    · exact w.gw.th q h
  · obtain ⟨h1, x, y, z, c, ns, e1, h2, h3⟩ := bag_new (o := o) w.bag hp b e
    refine ⟨?_, x, y, z, c, ns, e1, sF _ _ h2, h3⟩
    rw [upd_ne (fun z => hbg (by rw [← z]; exact e))]
    exact h1
  · obtain ⟨f1, f2, f3⟩ := w.fr q hq
    refine ⟨?_, f2, f3⟩
    rw [upd_ne (fun z => ?_)]
    · exact f1
    · rcases List.mem_append.mp hq with y | y
      · exact OwC.there w.cells q y (by rw [z]; exact hp)
      · exact OwL.there w.tmps q y (by rw [z]; exact hp)
/-- a new list of temporaries -/
theorem SW.mkLst {us : List T} {ws : List V} {p : Addr} (w : SW a ρ σ (us ++ ts) (ws ++ vs) H F Sc Sm) (l : us.length = ws.length) (n : us.all T.nvw = true) (hp : H p = none) :
    ∃ Sm', SW a ρ σ (.lst us :: ts) (.ref p :: vs) (upd H p (.lst ws)) F Sc Sm' := by
  have w' := w.laid (o := .lst ws) hp
  obtain ⟨S1, S2, h1, h2, e⟩ := OwL.split w'.tmps l
  obtain ⟨h0, hF, hbg⟩ := w.fresh hp
  have np : p ∉ Sc ++ Sm := fun hq => by
    rcases List.mem_append.mp hq with y | y
    · exact OwC.there w.cells p y hp
    · exact OwL.there w.tmps p y hp
  refine ⟨p :: Sm, w'.sub, w'.gw, w'.bagM, w'.bag, w'.cells, ?_, ?_, fun q hq => ?_, w'.len, w'.wit, w'.wif⟩
  · simp only [OwL, Ow]
    exact ⟨.ref p, vs, p :: S1, S2, rfl, ⟨h1.nvs n, p, ws, S1, rfl, upd_same, h1, rfl⟩, h2, by rw [e]; rfl⟩
  · exact (List.perm_middle.nodup_iff).mpr (List.nodup_cons.mpr ⟨np, w.nd⟩)
  · rcases List.mem_append.mp hq with y | y
    · exact w'.fr q (List.mem_append_left _ y)
    · rcases List.mem_cons.mp y with rfl | y
      · exact ⟨hF, hbg, .inr h0⟩
      · exact w'.fr q (List.mem_append_right _ y)
theorem SW.mkTup {us : List T} {ws : List V} {p : Addr} (w : SW a ρ σ (us ++ ts) (ws ++ vs) H F Sc Sm) (l : us.length = ws.length) (n : us.all T.nvw = true) (hp : H p = none) :
    ∃ F', SW a ρ σ (.tup us :: ts) (.ref p :: vs) (upd H p (.tup ws)) F' Sc Sm := by
  have w' := w.froze (o := .tup ws) hp
  obtain ⟨S1, S2, h1, h2, e⟩ := OwL.split w'.tmps l
  refine ⟨_, w'.sub, w'.gw, w'.bagM, w'.bag, w'.cells, ?_, w'.nd, w'.fr, w'.len, w'.wit, w'.wif⟩
  simp only [OwL, Ow]
  exact ⟨.ref p, vs, S1, S2, rfl, ⟨h1.nvs n, p, ws, rfl, .inl (.inl upd_same), h1⟩, h2, e⟩
/-- T's that are plain -/
def T.plain : T → Bool
  | .leaf _ => true
  | _ => false
theorem OwL.plain {a : An} {F H : Hp} : ∀ {ts : List T} {vs : List V} {S : List Addr}, ts.all T.plain = true → OwL a F H ts vs S → S = [] ∧ IsL a F (T.dats ts) vs
  | [], vs, S, _, h => by
    simp only [OwL] at h
    exact ⟨h.2, by simp only [T.dats, IsL]; exact h.1⟩
  | t :: ts, vs, S, k, h => by
    simp only [List.all_cons, Bool.and_eq_true] at k
    simp only [OwL] at h
    obtain ⟨v, r, S1, S2, rfl, h1, h2, rfl⟩ := h
    obtain ⟨e2, i2⟩ := OwL.plain k.2 h2
    cases t with
    | leaf d =>
      simp only [Ow] at h1
      obtain ⟨rfl, i1⟩ := h1
      exact ⟨by rw [e2]; rfl, by simp only [T.dats, T.dat, IsL]; exact ⟨v, r, rfl, i1, i2⟩⟩
    | lst _ => simp [T.plain] at k
    | tup _ => simp [T.plain] at k
    | vw _ => simp [T.plain] at k
/-- a tuple of plain things is plain -/
def T.mk (us : List T) : T := if us.all T.plain then .leaf (.tup (T.dats us)) else .tup us
theorem SW.mkT {us : List T} {v : V} (w : SW a ρ σ (.tup us :: ts) (v :: vs) H F Sc Sm) : SW a ρ σ (T.mk us :: ts) (v :: vs) H F Sc Sm := by
  unfold T.mk
  split
  · rename_i k
    obtain ⟨v', r, S1, S2, e, h1, h2, e2⟩ := (show ∃ v' r S1 S2, v :: vs = v' :: r ∧ Ow a.toAn F H (.tup us) v' S1 ∧ OwL a.toAn F H ts r S2 ∧ Sm = S1 ++ S2 by
      have := w.tmps; simpa only [OwL] using this)
    cases e
    simp only [Ow] at h1
    obtain ⟨_, p, ws, rfl, q, h3⟩ := h1
    obtain ⟨rfl, h4⟩ := OwL.plain k h3
    refine ⟨w.sub, w.gw, w.bagM, w.bag, w.cells, ?_, w.nd, w.fr, w.len, w.wit, w.wif⟩
    rw [e2]
    simp only [OwL, Ow, Is]
    exact ⟨_, _, [], S2, rfl, ⟨rfl, p, ws, rfl, q, h4⟩, h2, rfl⟩
  · exact w
end
end DL
namespace DL
open PySem PySem.Spec PyProof.Rows L2

/-! ### a def's promise where no repr is under way (no guards) -/
structure FnG (P : Program) (w : World) (K : PySem.W.Frag) (mg : Str → Option Value) (base : Heap) (CX : CXT) (k : Nat)
    (f : Addr) (fd : FuncData) (ps : List Str) (sp : Sp) : Prop where
  len : ∀ vs H Q E, sp vs H Q E → vs.length = ps.length
  run : ∀ (A : Around) (outer : List PySem.Env) (s : Shared) (H : Hp) (args : Args) (us : List Value) (vs : List V) (Q : VK) (E : XK),
    A.guards = some [] → Room k A → Env0 P w K mg base A outer s H → BindsTo s fd args (ps.zip us) → Vals vs us → sp vs H Q E →
    codeAny (model P w) A (.call (.ref f) args) (CR CX outer P w H s Q E) s
theorem FnG.mono {P : Program} {w : World} {K : PySem.W.Frag} {mg : Str → Option Value} {base : Heap} {CX : CXT} {j k : Nat} {f : Addr} {fd : FuncData} {ps : List Str} {sp : Sp}
    (F : FnG P w K mg base CX j f fd ps sp) (h : j ≤ k) : FnG P w K mg base CX k f fd ps sp :=
  ⟨F.len, fun A o s H ar us vs Q E g hr => F.run A o s H ar us vs Q E g (hr.mono h)⟩

section
variable {X : Cx} {CX : CXT} {k : Nat} {f C : Addr} {fd : FuncData} {ps : List Str} {sp : Sp} {dvs : List V} {ds : List Value} {E : XK} {x m : Str} {p pos apos : Pos} {e o : Expr} {es : List Expr} {ta : TE} {t : TA}
theorem run_G {pins : List (Addr × Obj)} {σ : L2.St} {H : Hp} {s : Shared} {Q : VK} {us : List Value} {vs : List V}
    (F : FnG X.prog X.w X.K X.mg X.base CX k f fd ps sp) (hg : X.A.guards = some []) (hr : Room k X.A) (hb : Binds X.K fd ps ds) (hd : Vals dvs ds) (hx : Passes CX X E)
    (I : Inv X pins σ H s) (r : Vals vs us) (h : sp (vs ++ dvs) H Q E) :
    wpAny (model X.prog X.w) X.A (call (.ref f) us) (EP X pins σ Q) X.xe s := by
  have both : Vals (vs ++ dvs) (us ++ ds) := r.append hd
  have n : (us ++ ds).length = ps.length := both.length ▸ F.len _ _ _ _ h
  have go := F.run X.A X.stack s H ⟨us, []⟩ (us ++ ds) (vs ++ dvs) Q E hg hr I.env0 (hb s us I.kIn n) both h
  refine wpAny_call (codeAny_mono go fun res s' hq => ?_)
  match res, hq with
  | .error e, hq => exact hx pins σ H s e s' I hq
  | .ok (.ret u), hq => exact I.after hq
  | .ok .next, hq => exact False.elim hq
  | .ok .brk, hq => exact False.elim hq
  | .ok .cont, hq => exact False.elim hq
theorem pe_callG (F : FnG X.prog X.w X.K X.mg X.base CX k f fd ps sp) (gu : X.A.guards = some []) (hr : Room k X.A) (hg : Gl X x) (hm : X.mg x = some (.ref f))
    (hk : PySem.W.keepIn X.K (.ref f) = true) (hb : Binds X.K fd ps ds) (hd : Vals dvs ds) (hx : Passes CX X E)
    (ha : PA X (e :: es) t) (hdb : (x == ("__debug__" : Str)) = false) (he : starEach (e :: es) X.env = (false, eval e X.env) :: starEach es X.env)
    (hpl : (backTo pos (starEach es X.env)).any (·.1) = false) :
    PE X (.Call (.Name x p) (e :: es) [] pos) (tCall sp dvs E t) :=
  ⟨fun pins s σ H Q I h => wpAny_Call_Name_kw (ld_glob I hg hm
    (PySem.W.callWith_K (h₀ := X.base) I.ok.mod.kin hk
      (thn (ha.run pos pins s σ H _ I h) fun us s1 ⟨vs, H1, I1, r, q⟩ => ⟨I1.kIn, run_G F gu hr hb hd hx I1 r q⟩) he hpl) hdb)⟩
theorem pe_callG0 (F : FnG X.prog X.w X.K X.mg X.base CX k f fd ps sp) (gu : X.A.guards = some []) (hr : Room k X.A) (hg : Gl X x) (hm : X.mg x = some (.ref f))
    (hk : PySem.W.keepIn X.K (.ref f) = true) (hb : Binds X.K fd ps ds) (hd : Vals dvs ds) (hx : Passes CX X E) (hdb : (x == ("__debug__" : Str)) = false) :
    PE X (.Call (.Name x p) [] [] pos) (tCall sp dvs E tNil) :=
  ⟨fun pins s σ H Q I h => wpAny_Call_Name_kw (ld_glob I hg hm (PySem.W.callWith_K0 I.kIn hk (run_G (us := []) F gu hr hb hd hx I .nil h)) hdb)⟩
end

/-- a def keeps its promise, by its body -/
theorem fn_G {CX : CXT} {P : Program} {w : World} {K : PySem.W.Frag} {mg : Str → Option Value} {base : Heap} {k : Nat} {f : Addr} {name qual : Str} {params : Arguments} {body : List Stmt} {scope : Scope}
    {dV kV doc pm cdv ct oc : Value} {an od : Option Addr} {osl : Array (Option Value)} {N ps : List Str} {sp : Sp}
    (lk : K.lookup f = some ⟨oc, od, .func (PySem.W.fnOf name qual params body scope dV kV doc pm an cdv ct), osl⟩) (hcd : PySem.W.codeIn K cdv qual = true) (S : FnScope N ps scope)
    (len : ∀ vs H Q E, sp vs H Q E → vs.length = ps.length)
    (hbody : ∀ (A : Around) (outer : List PySem.Env) (s : Shared) (H : Hp) (vs : List V) (Q : VK) (E : XK), A.guards = some [] → Room k (A.deeper (envOfC qual scope s.heap.objs.size f cdv)) → sp vs H Q E →
      ∃ t, PSs (cxOf CX P w K mg base N qual scope f cdv A outer s H E) body t ∧ t { nx := fun _ H' => Q .non H', rt := Q } (start N vs) H) :
    FnG P w K mg base CX (k + 1) f (PySem.W.fnOf name qual params body scope dV kV doc pm an cdv ct) ps sp := by
  refine ⟨len, fun A outer s H args us vs Q E g hr e0 hb r hsp => ?_⟩
  have hl := len vs H Q E hsp
  have KX : K.In s.heap := e0.mod.kin.keeps fun b o e => (e0.bs b o e).1
  have lim := e0.mod.nolimit.keeps fun b o e => (e0.bs b o e).1
  have kinds : ∀ y ∈ ps.zip us, scope.names.lookup y.1 = some .local ∨ (scope.names.lookup y.1 = some .cell ∧ ((cellsFrom (s.heap.objs.size + 1) scope.names []).lookup y.1).isSome = true) := by
    rintro ⟨n, v⟩ hy
    refine (S.par n (List.of_mem_zip hy).1).imp id fun q => ⟨q, PySem.W.cellsFrom_some _ _ _ (.inl q)⟩
  refine codeAny_call_function hr.depth (KX _ _ lk) rfl S.co S.gen rfl (PySem.W.codeRec_of KX hcd) (hb _ _ _ _ ?_)
  refine wpAny_newFunctionEnv_cells S.kind kinds fun env he s1 x => ?_
  subst he
  refine ⟨lim.keeps x.toInCall.keep, codeAny_func ?_⟩
  obtain ⟨t, ht, hq⟩ := hbody A outer s H vs Q E g (hr.deeper _) hsp
  have I := inv_start (CX := CX) (E := E) S hr.hd e0 hl r x
  refine wpAny_mono (ht.run [] s1 (start N vs) H _ I hq) (fun fl s' hs => ?_) fun e s' hs => hs
  match fl, hs with
  | .ret u, ⟨v, σ', H', J, rv, q⟩ => exact ⟨v, H', J.os, J.bare, J.base, J.hok, rv, q⟩
  | .next, ⟨σ', H', J, q⟩ => exact ⟨.non, H', J.os, J.bare, J.base, J.hok, rfl, q⟩
  | .brk, ⟨_, _, _, q⟩ => exact False.elim q
  | .cont, ⟨_, _, _, q⟩ => exact False.elim q

/-- the law is called: its promise gives the row's walk -/
theorem law_G {P : Program} {w : World} {K : PySem.W.Frag} {mg mb : Str → Option Value} {CX : CXT} {k : Nat} {fa a : Addr} {fd : FuncData} {x : Str} {sp : Sp} {s₁ : Shared} {vs : List Value} {ns : List Int}
    (KX : K.In s₁.heap) (hns : s₁.heap.Ns mainGlobals mg) (hb : s₁.heap.Ns builtinsNs mb) (hbb : ∀ x : Str, x ≠ "__name__" → mb x = bootBuiltins x) (hlim : s₁.heap.NoLimit) (hg : s₁.gens = #[])
    (ha : s₁.heap.get? a = some { cls := .type "list", data := .seq vs.toArray }) (hi : IntsAre vs ns) (hl : ns.length ≤ sizeLine) (hr : Room k callerA)
    (F : ∀ base : Heap, K.In base → base.Ns mainGlobals mg → FnG P w K mg base CX k fa fd [x] sp) (hbind : ∀ (s : Shared) (u : Value), BindsTo s fd ⟨[u], []⟩ [(x, u)])
    (hsp : ∀ H : Hp, Only H → SqL K H a (ns.map V.int) → sp [.ref a] H (fun v _ => v = .bl true) fun _ _ _ => False) (hCX : ∀ H e s', CX [] H s₁ (fun _ _ _ => False) e s' → False) :
    codeAny (model P w) callerA (.call (.ref fa) ⟨[.ref a], []⟩) (fun r s' => r = .ok (.ret (.bool true)) ∧ OldK s₁.heap s'.heap ∧ s'.os = s₁.os ∧ AllBare s'.gens) s₁ := by
  have values := vals_ints hi
  have many := hi.length
  -- H knows the script at most
  have from_heap : ∀ H : Hp, Only H → SqL K H a (ns.map V.int) → HOk P w H s₁.heap → (∀ b, H b ≠ none → b = a) → (H a ≠ none → K.lookup a = none) →
      codeAny (model P w) callerA (.call (.ref fa) ⟨[.ref a], []⟩) (fun r s' => r = .ok (.ret (.bool true)) ∧ OldK s₁.heap s'.heap ∧ s'.os = s₁.os ∧ AllBare s'.gens) s₁ := by
    intro H only script okay alone notWritten
    have stays : ∀ {b : Addr} {o : Obj}, s₁.heap.get? b = some o → H b = none → (hidT s₁.heap H).get? b = some o := fun e n => hidT_get e n
    have dictsFree : ∀ {b : Addr} {o : Obj} {es : Array DictEntry} {ep : Nat}, s₁.heap.get? b = some o → o.data = .dict es ep → H b = none := by
      intro b o es ep e d
      by_cases z : H b = none
      · exact z
      · have := alone b z
        subst this
        rw [ha] at e
        cases e
        cases (show Data.seq vs.toArray _ = Data.dict es ep from d)
    have tables : ∀ {b : Addr} {m : Str → Option Value}, s₁.heap.Ns b m → (hidT s₁.heap H).Ns b m := by
      rintro b m ⟨o, es, ep, e, d, r⟩
      exact ⟨o, es, ep, stays e (dictsFree e d), d, r⟩
    have written : K.In (hidT s₁.heap H) := by
      intro b o e
      refine stays (KX b o e) ?_
      by_cases z : H b = none
      · exact z
      · have := alone b z
        subst this
        rw [notWritten z] at e
        cases e
    have module : Mod K mg (hidT s₁.heap H) := ⟨written, tables hns, ⟨mb, tables hb, hbb⟩, hlim.elim fun mc h => ⟨mc, tables h.1, h.2⟩⟩
    have at_call : Env0 P w K mg (hidT s₁.heap H) callerA [] s₁ H :=
      ⟨rfl, module, fun b o e => of_hidT e, Nat.le_of_eq (hidT_size _ _), trivial, fun b hb => absurd hb (by simp [frs]), okay, .of_eq hg⟩
    have go := (F _ written (tables hns)).run callerA [] s₁ H ⟨[.ref a], []⟩ [.ref a] [.ref a] _ _ rfl hr at_call (hbind s₁ (.ref a)) (.cons rfl .nil) (hsp H only script)
    refine codeAny_mono go fun r s' h => ?_
    match r, h with
    | .error e, h => exact (hCX H e s' h).elim
    | .ok .next, h => exact False.elim h
    | .ok .brk, h => exact False.elim h
    | .ok .cont, h => exact False.elim h
    | .ok (.ret u), ⟨v, H', os, bare, un, okay', rel, q⟩ =>
      obtain rfl : v = .bl true := q
      obtain rfl : u = Value.bool true := rel
      refine ⟨rfl, OldK.of_keep fun b o e => ?_, os, bare⟩
      cases q : H b with
      | none => exact un.keep b o e q (by simp [frs]) (by simp)
      | some u =>
        rcases only b with z | ⟨ob, xs, z⟩
        · rw [q] at z; cases z
        · obtain ⟨e1, _⟩ := okay b _ z
          obtain ⟨e2, _⟩ := okay' b _ (un.frzs b ob _ z)
          rw [e] at e1
          cases e1
          exact e2
  match hk : K.lookup a with
  | some o =>
    have e := KX a o hk
    rw [ha] at e
    cases e
    refine from_heap (fun _ => none) (fun _ => .inl rfl) (.inr ⟨_, vs.toArray, _, hk, rfl, rfl, rfl, ?_, by simpa using values⟩) (fun b u z => nomatch z) (fun b z => absurd rfl z) fun z => absurd rfl z
    rw [List.size_toArray, many]
    exact hl
  | none =>
    obtain ⟨Hs, self, other⟩ : ∃ Hs : Hp, Hs a = some (HO.frz { cls := .type "list", data := .seq vs.toArray } (.lst (ns.map V.int))) ∧ ∀ b, b ≠ a → Hs b = none :=
      ⟨fun b => if b = a then some (HO.frz { cls := .type "list", data := .seq vs.toArray } (.lst (ns.map V.int))) else none, if_pos rfl, fun b h => if_neg h⟩
    refine from_heap Hs (fun b => ?_) (.inl (.inr ⟨_, self⟩)) (fun b u z => ?_) (fun b z => ?_) fun _ => hk
    · by_cases hb : b = a
      · subst hb; exact .inr ⟨_, _, self⟩
      · exact .inl (other b hb)
    · by_cases hb : b = a
      · subst hb
        rw [self] at z
        cases z
        exact ⟨ha, by rw [List.length_map]; exact hl, vs, _, values, ha⟩
      · rw [other b hb] at z
        cases z
    · by_cases hb : b = a
      · exact hb
      · exact absurd (other b hb) z
theorem walk_G {l : PySem.W.OpenLaw} {n k : Nat} {q : Program} {loose : List Str} {XP : (Str → Option Value) → Heap → Prop} {YP : World → Heap → Prop} {d : DefRec} {K : Params → PySem.W.Frag} {CX : World → CXT} {sp : World → Sp} {x : Str}
    (hn : l.most = some n) (hn2 : n ≤ sizeLine) (hdf : d.params.defaults = []) (hr : Room k callerA) (hY : ∀ (w : World) (h : Heap), YP w h → (K w.params).In h)
    (F : ∀ (w : World) (mg : Str → Option Value) (fa : Addr) (h : Heap), (K w.params).In h → h.Ns mainGlobals mg → mg d.name = some (.ref fa) →
      ∃ fd : FuncData, (∀ (s : Shared) (u : Value), BindsTo s fd ⟨[u], []⟩ [(x, u)]) ∧
        ∀ base : Heap, (K w.params).In base → base.Ns mainGlobals mg → FnG l.prog w (K w.params) mg base (CX w) k fa fd [x] (sp w))
    (hsp : ∀ (w : World) (H : Hp) (a : Addr) (ns : List Int), ns.length ≤ n → Only H → SqL (K w.params) H a (ns.map V.int) → sp w [.ref a] H (fun v _ => v = .bl true) fun _ _ _ => False)
    (hCX : ∀ (w : World) (H : Hp) (s : Shared) (e : Value) (s' : Shared), CX w [] H s (fun _ _ _ => False) e s' → False) :
    PySem.W.WalkO q loose XP YP l.row.toRowW d [] (fun f vs => PySem.call f vs) := by
  refine Att.attach_call hn hdf fun w s₀ s₁ mg mb fa o pm cd doc a vs ns G Y ho hd hcd hmg hobj hints hlen hg => ?_
  have KX := hY w _ Y
  have ⟨fd, hb, hF⟩ := F w mg fa _ KX G.T.g hmg
  exact law_G KX G.T.g G.T.b G.T.builtins G.T.nolimit hg hobj hints (Nat.le_trans hlen hn2) hr hF hb
    (fun H only script => hsp w H a ns hlen only script) fun H e s' => hCX w H s₁ e s'
end DL
namespace DL
open PySem PySem.Spec PyProof.Rows L2

/-! ### the weakest readings -/
section
variable {X : Cx}
def WE (X : Cx) (e : Expr) : TE := fun σ H Q => ∃ t, PE X e t ∧ t σ H Q
def WT (X : Cx) (e : Expr) : TT := fun σ H Q => ∃ t, PT X e t ∧ t σ H Q
def WA (X : Cx) (e : List Expr) : TA := fun σ H Q => ∃ t, PA X e t ∧ t σ H Q
def WS (X : Cx) (e : Stmt) : TS := fun D σ H => ∃ t, PS X e t ∧ t D σ H
def WB (X : Cx) (e : List Stmt) : TS := fun D σ H => ∃ t, PSs X e t ∧ t D σ H
def WI (X : Cx) (tg e : Expr) : TI := fun σ H Q => ∃ t, PI X tg e t ∧ t σ H Q
def WG (X : Cx) (e : Expr) : TG := fun v σ H Q => ∃ t, PG X e t ∧ t v σ H Q
def WGs (X : Cx) (e : List Expr) : TGs := fun v σ H Q => ∃ t, PGs X e t ∧ t v σ H Q
theorem pe_W {e : Expr} : PE X e (WE X e) := ⟨fun p s σ H Q I ⟨_, h, q⟩ => h.run p s σ H Q I q⟩
theorem pt_W {e : Expr} : PT X e (WT X e) := ⟨fun p s σ H Q I ⟨_, h, q⟩ => h.run p s σ H Q I q⟩
theorem pa_W {e : List Expr} : PA X e (WA X e) := ⟨fun c p s σ H Q I ⟨_, h, q⟩ => h.run c p s σ H Q I q⟩
theorem ps_W {e : Stmt} : PS X e (WS X e) := ⟨fun p s σ H Q I ⟨_, h, q⟩ => h.run p s σ H Q I q⟩
theorem pb_W {e : List Stmt} : PSs X e (WB X e) := ⟨fun p s σ H Q I ⟨_, h, q⟩ => h.run p s σ H Q I q⟩
theorem pi_W {tg e : Expr} : PI X tg e (WI X tg e) := ⟨fun p s σ H Q I ⟨_, h, q⟩ => h.run p s σ H Q I q⟩
theorem pg_W {e : Expr} : PG X e (WG X e) := ⟨fun p s σ H v u Q I r ⟨_, h, q⟩ => h.run p s σ H v u Q I r q⟩
theorem pgs_W {e : List Expr} : PGs X e (WGs X e) := ⟨fun p s σ H v u Q I r ⟨_, h, q⟩ => h.run p s σ H v u Q I r q⟩
end

/-! ### what an expression gives, in plain data -/
def DE (a : An0) (X : Cx) (ρ : Env) (e : Expr) (Φ : T → Prop) : Prop :=
  ∀ σ H ts vs Q, SOk a ρ σ ts vs H → (∀ v t H', Φ t → SOk a ρ σ (t :: ts) (v :: vs) H' → Q v H') → WE X e σ H Q
def DT (a : An0) (X : Cx) (ρ : Env) (e : Expr) (Φ : Bool → Prop) : Prop :=
  ∀ σ H ts vs Q, SOk a ρ σ ts vs H → (∀ b H', Φ b → SOk a ρ σ ts vs H' → Q b H') → WT X e σ H Q
def DA (a : An0) (X : Cx) (ρ : Env) (es : List Expr) (Φ : List T → Prop) : Prop :=
  ∀ σ H ts vs Q, SOk a ρ σ ts vs H → (∀ ws us H', Φ us → us.all T.nvw = true → us.length = ws.length → SOk a ρ σ (us ++ ts) (ws ++ vs) H' → Q ws H') → WA X es σ H Q
/-- .. where they may be only read -/
def DV (a : An0) (X : Cx) (ρ : Env) (es : List Expr) (Φ : List T → Prop) : Prop :=
  ∀ σ H ts vs Q, SOk a ρ σ ts vs H → (∀ ws us H', Φ us → us.length = ws.length → SOk a ρ σ (us ++ ts) (ws ++ vs) H' → Q ws H') → WA X es σ H Q
/-- what holds of a body's whole -/
structure XOk (a : An0) (X : Cx) : Prop where
  K : X.K = a.K
  calm : X.calm = true
  nd : X.N.Nodup
  gu : X.A.guards = some []
  hd : X.A.handled = none
  un : X.A.units + 200 < cLine
  po : PassesOwn (model X.prog X.w) X.A X.env X.xe

section
variable {a : An0} {X : Cx} {ρ : Env} {σ : L2.St} {ts : List T} {vs : List V} {H F : Hp} {Sc Sm : List Addr} {Φ : T → Prop} {pos : Pos} {e A B C : Expr}

theorem OwL.perm1 {a : An} {F H : Hp} {t : T} {v : V} : ∀ {us : List T} {ws : List V} {ts : List T} {vs : List V} {S : List Addr}, us.length = ws.length → OwL a F H (us ++ t :: ts) (ws ++ v :: vs) S → ∃ S', OwL a F H (t :: us ++ ts) (v :: ws ++ vs) S' ∧ S'.Perm S
  | us, ws, ts, vs, S, l, h => by
    obtain ⟨S1, S2, h1, h2, rfl⟩ := OwL.split h l
    simp only [OwL] at h2
    obtain ⟨v', r, S3, S4, e, h3, h4, rfl⟩ := h2
    cases e
    refine ⟨S3 ++ (S1 ++ S4), ?_, ?_⟩
    · show OwL a F H (t :: (us ++ ts)) (v :: (ws ++ vs)) _
      simp only [OwL]
      exact ⟨v, _, S3, S1 ++ S4, rfl, h3, OwL.join h1 h4, rfl⟩
    · rw [← List.append_assoc, ← List.append_assoc]
      exact List.Perm.append_right _ List.perm_append_comm
theorem SW.re {us : List T} {ws : List V} {Sn : List Addr} (w : SW a ρ σ ts vs H F Sc Sm) (h : OwL a.toAn F H us ws Sn) (p : Sn.Perm Sm) : SW a ρ σ us ws H F Sc Sn :=
  w.tmp h (p.nodup_iff.mpr (List.nodup_append.mp w.nd).2.1) fun q hq => p.mem_iff.mp hq
theorem SW.rot {t : T} {v : V} {us : List T} {ws : List V} (w : SW a ρ σ (us ++ t :: ts) (ws ++ v :: vs) H F Sc Sm) (l : us.length = ws.length) : ∃ Sm', SW a ρ σ (t :: us ++ ts) (v :: ws ++ vs) H F Sc Sm' :=
  let ⟨_, h, p⟩ := OwL.perm1 l w.tmps
  ⟨_, w.re h p⟩
theorem SOk.rot {t : T} {v : V} {us : List T} {ws : List V} (l : us.length = ws.length) : SOk a ρ σ (us ++ t :: ts) (ws ++ v :: vs) H → SOk a ρ σ (t :: us ++ ts) (v :: ws ++ vs) H := fun ⟨F, Sc, _, w⟩ =>
  let ⟨Sm', w'⟩ := w.rot l
  ⟨F, Sc, Sm', w'⟩

/-! names and constants -/
theorem de_nm {i : Nat} {x : Str} {d : D} (hN : X.N[i]? = some x) (hv : Vis X.env.scope x) (hd : (x == ("__debug__" : Str)) = false) (hc : (x == ("__classdict__" : Str)) = false)
    (h : ρ.at i = some (.leaf d)) (q : Φ (.leaf d)) : DE a X ρ (.Name x pos) Φ := fun σ H ts vs Q ok k => by
  obtain ⟨F, Sc, Sm, w⟩ := ok
  obtain ⟨v, S1, e1, h1, _⟩ := w.cells.get h
  simp only [Ow] at h1
  exact ⟨_, pe_var hN hv hd hc, v, e1, k v _ H q ⟨F, Sc, Sm, w.leaf h1.2⟩⟩
theorem de_ow {i : Nat} {x : Str} {t : T} (hN : X.N[i]? = some x) (hv : Vis X.env.scope x) (hd : (x == ("__debug__" : Str)) = false) (hc : (x == ("__classdict__" : Str)) = false)
    (h : ρ.at i = some t) (q : Φ (.vw t.dat)) : DE a X ρ (.Name x pos) Φ := fun σ H ts vs Q ok k => by
  obtain ⟨F, Sc, Sm, w⟩ := ok
  obtain ⟨v, S1, e1, h1, h2⟩ := w.cells.get h
  exact ⟨_, pe_var hN hv hd hc, v, e1, k v _ H q ⟨F, Sc, Sm, w.vw (Ow.is w.sub w.nobag h1 fun p hp => (w.fr p (List.mem_append_left _ (h2.1 p hp))).2.1)⟩⟩
theorem de_int {i : Int} {j : Nat} (q : Φ (.leaf (.int i))) : DE a X ρ (.Constant (.int i) j pos) Φ := fun _ _ _ _ _ ok k => ⟨_, pe_int, k _ _ _ q ok.int⟩
theorem de_bl {i : Bool} {j : Nat} (q : Φ (.leaf (.bl i))) : DE a X ρ (.Constant (.bool i) j pos) Φ := fun _ _ _ _ _ ok k => ⟨_, pe_bl, k _ _ _ q ok.bl⟩
theorem de_str {i : Str} {j : Nat} (q : Φ (.leaf (.str i))) : DE a X ρ (.Constant (.str i) j pos) Φ := fun _ _ _ _ _ ok k => ⟨_, pe_str, k _ _ _ q ok.str⟩
theorem de_non {j : Nat} (q : Φ (.leaf .non)) : DE a X ρ (.Constant .none j pos) Φ := fun _ _ _ _ _ ok k => ⟨_, pe_non, k _ _ _ q ok.non⟩

/-! ### operators -/
inductive Bop where
  | add | sub | mul | fdiv | mod | pow | shr | band
  deriving DecidableEq
def Bop.op : Bop → Operator
  | .add => .Add | .sub => .Sub | .mul => .Mult | .fdiv => .FloorDiv | .mod => .Mod | .pow => .Pow | .shr => .RShift | .band => .BitAnd
def MulOk (i j : Int) : Prop := (-(2 ^ 64) < i ∧ i < 2 ^ 64) ∨ (-(2 ^ 64) < j ∧ j < 2 ^ 64) ∨ i.natAbs.log2 + j.natAbs.log2 < 1000000
/-- items of a list, of a tuple, each with its own places -/
def T.its : T → Option (List T)
  | .leaf (.lst ds) => some (ds.map .leaf)
  | .lst ts => some ts
  | .vw (.lst ds) => if ds.all D.flat then some (ds.map .leaf) else none
  | _ => none
def T.prt : T → Option (List T)
  | .leaf (.tup ds) => some (ds.map .leaf)
  | .tup ts => some ts
  | _ => none
def binD : Bop → D → D → (D → Prop) → Prop
  | .add, .int i, .int j, Φ => Φ (.int (i + j))
  | .add, .str s, .str t, Φ => s.length + t.length ≤ 100000 ∧ Φ (.str (s ++ t))
  | .sub, .int i, .int j, Φ => Φ (.int (i - j))
  | .mul, .int i, .int j, Φ => MulOk i j ∧ Φ (.int (i * j))
  | .fdiv, .int i, .int j, Φ => (0 < j ∧ j.natAbs.log2 < 9000) ∧ Φ (.int (i / j))
  | .mod, .int i, .int j, Φ => 0 < j ∧ Φ (.int (i % j))
  | .pow, .int i, .int j, Φ => (0 ≤ j ∧ j ≤ 1000000 ∧ i.natAbs < 2 ^ 64) ∧ Φ (.int (i ^ j.toNat))
  | .shr, .int i, .int j, Φ => 0 ≤ j ∧ Φ (.int (i / 2 ^ j.toNat))
  | .band, .int i, .int j, Φ => Φ (.int (Builtin.bitAnd i j))
  | _, _, _, _ => False
/-- x + y of lists, of tuples; x * n -/
def catT (x y : T) (Φ : T → Prop) : Prop := ∃ xs ys, x.its = some xs ∧ y.its = some ys ∧ xs.length + ys.length ≤ 100000 ∧ Φ (.lst (xs ++ ys))
def catU (x y : T) (Φ : T → Prop) : Prop := ∃ xs ys, x.prt = some xs ∧ y.prt = some ys ∧ xs.length + ys.length ≤ 100000 ∧ Φ (T.mk (xs ++ ys))
def repT (x : T) (n : Int) (Φ : T → Prop) : Prop := ∃ ds, x.its = some (ds.map .leaf) ∧ 0 ≤ n ∧ n ≤ 100000 ∧ ds.length * n.toNat ≤ 100000 ∧ Φ (.lst ((List.replicate n.toNat ds).flatten.map .leaf))
def binT : Bop → T → T → (T → Prop) → Prop
  | .add, x, y, Φ => match x.dat, y.dat with
    | .lst _, .lst _ => catT x y Φ
    | .tup _, .tup _ => catU x y Φ
    | dx, dy => binD .add dx dy fun d => Φ (.leaf d)
  | .mul, x, y, Φ => match x.dat, y.dat with
    | .lst _, .int n => repT x n Φ
    | dx, dy => binD .mul dx dy fun d => Φ (.leaf d)
  | o, x, y, Φ => binD o x.dat y.dat fun d => Φ (.leaf d)

def OpD (a : An0) (r : R2) (g : T → T → (T → Prop) → Prop) : Prop := ∀ (ρ : Env) σ H ts vs x y tx ty Φ (Q : VK), SOk a ρ σ (ty :: tx :: ts) (y :: x :: vs) H → g tx ty Φ →
  (∀ v t H', Φ t → SOk a ρ σ (t :: ts) (v :: vs) H' → Q v H') → r x y H Q
theorem de_bin {op : Operator} {r : R2} {g : T → T → (T → Prop) → Prop} (ho : OpR X (binaryOp op) r) (hg : OpD a r g) (h : DE a X ρ A fun x => DE a X ρ B fun y => g x y Φ) : DE a X ρ (.BinOp A op B pos) Φ := fun σ H ts vs Q ok k => by
  refine ⟨_, pe_op ho pe_W pe_W, ?_⟩
  show WE X A σ H fun x H1 => WE X B σ H1 fun y H2 => r x y H2 Q
  refine h σ H ts vs _ ok fun x tx H1 h1 ok1 => ?_
  exact h1 σ H1 _ _ _ ok1 fun y ty H2 h2 ok2 => hg ρ σ H2 ts vs x y tx ty Φ Q ok2 h2 k
/-- the two values -/
theorem SOk.two {x y : V} {tx ty : T} (ok : SOk a ρ σ (ty :: tx :: ts) (y :: x :: vs) H) : Is a.toAn (hb a.toAn H) tx.dat x ∧ Is a.toAn (hb a.toAn H) ty.dat y ∧ SOk a ρ σ ts vs H := ⟨ok.pop1.top, ok.top, ok.pop1.pop1⟩
theorem Is.int {a : An} {F : Hp} {i : Int} {v : V} (h : Is a F (.int i) v) : v = .int i := by simpa only [Is] using h
theorem Is.str {a : An} {F : Hp} {i : Str} {v : V} (h : Is a F (.str i) v) : v = .str i := by simpa only [Is] using h
theorem Is.bl {a : An} {F : Hp} {i : Bool} {v : V} (h : Is a F (.bl i) v) : v = .bl i := by simpa only [Is] using h
theorem Is.non {a : An} {F : Hp} {v : V} (h : Is a F .non v) : v = .non := by simpa only [Is] using h
theorem leafs_length (ds : List D) : (ds.map T.leaf).length = ds.length := by simp
theorem OwL.leafs {a : An} {F H : Hp} : ∀ {ds : List D} {vs : List V}, IsL a F ds vs → OwL a F H (ds.map .leaf) vs []
  | [], vs, h => by
    simp only [IsL] at h
    simpa only [List.map_nil, OwL, and_true] using h
  | d :: ds, vs, h => by
    simp only [IsL] at h
    obtain ⟨v, r, rfl, h1, h2⟩ := h
    simp only [List.map_cons, OwL]
    exact ⟨v, r, [], [], rfl, by simp only [Ow]; exact ⟨trivial, h1⟩, OwL.leafs h2, rfl⟩
theorem IsL.flat {a : An} {F G : Hp} : ∀ {ds : List D} {vs : List V}, ds.all D.flat = true → IsL a F ds vs → IsL a G ds vs
  | [], vs, _, h => by simpa only [IsL] using h
  | d :: ds, vs, f, h => by
    simp only [List.all_cons, Bool.and_eq_true] at f
    simp only [IsL] at h ⊢
    obtain ⟨v, r, rfl, h1, h2⟩ := h
    exact ⟨v, r, rfl, h1.flat f.1, IsL.flat f.2 h2⟩
/-- a temporary list is taken apart -/
theorem SW.opens {t : T} {x : V} {us : List T} (w : SW a ρ σ (t :: ts) (x :: vs) H F Sc Sm) (h : t.its = some us) :
    ∃ l ws, x = .ref l ∧ H l = some (.lst ws) ∧ (us.length = ws.length ∧ us.all T.nvw = true) ∧ ∃ Sm', SW a ρ σ (us ++ ts) (ws ++ vs) H F Sc Sm' := by
  obtain ⟨v', r, S1, S2, e, h1, h2, e2⟩ := (show ∃ v' r S1 S2, x :: vs = v' :: r ∧ Ow a.toAn F H t v' S1 ∧ OwL a.toAn F H ts r S2 ∧ Sm = S1 ++ S2 by
    have := w.tmps; simpa only [OwL] using this)
  cases e
  have nSm : (S1 ++ S2).Nodup := e2 ▸ (List.nodup_append.mp w.nd).2.1
  have fin : ∀ {ws S}, OwL a.toAn F H us ws S → S.Nodup → (∀ p ∈ S, p ∈ S1) → ∃ Sm', SW a ρ σ (us ++ ts) (ws ++ vs) H F Sc Sm' := fun {ws S} ho n k => by
    refine ⟨S ++ S2, w.tmp (OwL.join ho h2) ?_ fun p hp => ?_⟩
    · obtain ⟨n1, n2, n3⟩ := List.nodup_append.mp nSm
      exact List.nodup_append.mpr ⟨n, n2, fun p hp q hq => n3 p (k p hp) q hq⟩
    · rw [e2]
      rcases List.mem_append.mp hp with z | z
      · exact List.mem_append_left _ (k p z)
      · exact List.mem_append_right _ z
  match t, h, h1 with
  | .leaf (.lst ds), h, h1 =>
    simp only [T.its, Option.some.injEq] at h
    subst h
    simp only [Ow, Is] at h1
    obtain ⟨rfl, p, ws, rfl, q, il⟩ := h1
    exact ⟨p, ws, rfl, w.sub p _ q, ⟨by rw [leafs_length, il.length], nvw_leaf _⟩, fin (OwL.leafs il) List.nodup_nil fun _ h => h⟩
  | .lst us', h, h1 =>
    simp only [T.its, Option.some.injEq] at h
    subst h
    simp only [Ow] at h1
    obtain ⟨nn, p, ws, S', rfl, q, ho, rfl⟩ := h1
    exact ⟨p, ws, rfl, q, ⟨ho.length.symm, nvw_of nn⟩, fin ho (List.nodup_cons.mp (List.nodup_append.mp nSm).1).2 fun p hp => List.mem_cons_of_mem _ hp⟩
  | .vw (.lst ds), h, h1 =>
    simp only [T.its] at h
    split at h
    · rename_i f
      simp only [Option.some.injEq] at h
      subst h
      simp only [Ow, Is] at h1
      obtain ⟨rfl, p, ws, rfl, q, il⟩ := h1
      exact ⟨p, ws, rfl, hb_sub _ _ p _ q, ⟨by rw [leafs_length, il.length], nvw_leaf _⟩, fin (OwL.leafs (il.flat f)) List.nodup_nil fun _ h => h⟩
    · cases h
  | .leaf .non, h, _ | .leaf (.bl _), h, _ | .leaf (.int _), h, _ | .leaf (.str _), h, _ | .leaf (.tup _), h, _ | .leaf .bag, h, _ | .leaf (.obj _ _), h, _ | .leaf (.scr _), h, _ => simp [T.its] at h
  | .vw .non, h, _ | .vw (.bl _), h, _ | .vw (.int _), h, _ | .vw (.str _), h, _ | .vw (.tup _), h, _ | .vw .bag, h, _ | .vw (.obj _ _), h, _ | .vw (.scr _), h, _ => simp [T.its] at h
  | .tup _, h, _ => simp [T.its] at h
theorem SW.opent {t : T} {x : V} {us : List T} (w : SW a ρ σ (t :: ts) (x :: vs) H F Sc Sm) (h : t.prt = some us) :
    ∃ l ws, x = .ref l ∧ SqT a.K H l ws ∧ (us.length = ws.length ∧ us.all T.nvw = true) ∧ ∃ Sm', SW a ρ σ (us ++ ts) (ws ++ vs) H F Sc Sm' := by
  obtain ⟨v', r, S1, S2, e, h1, h2, e2⟩ := (show ∃ v' r S1 S2, x :: vs = v' :: r ∧ Ow a.toAn F H t v' S1 ∧ OwL a.toAn F H ts r S2 ∧ Sm = S1 ++ S2 by
    have := w.tmps; simpa only [OwL] using this)
  cases e
  have nSm : (S1 ++ S2).Nodup := e2 ▸ (List.nodup_append.mp w.nd).2.1
  have fin : ∀ {ws S}, OwL a.toAn F H us ws S → S.Nodup → (∀ p ∈ S, p ∈ S1) → ∃ Sm', SW a ρ σ (us ++ ts) (ws ++ vs) H F Sc Sm' := fun {ws S} ho n k => by
    refine ⟨S ++ S2, w.tmp (OwL.join ho h2) ?_ fun p hp => ?_⟩
    · obtain ⟨n1, n2, n3⟩ := List.nodup_append.mp nSm
      exact List.nodup_append.mpr ⟨n, n2, fun p hp q hq => n3 p (k p hp) q hq⟩
    · rw [e2]
      rcases List.mem_append.mp hp with z | z
      · exact List.mem_append_left _ (k p z)
      · exact List.mem_append_right _ z
  match t, h, h1 with
  | .leaf (.tup ds), h, h1 =>
    simp only [T.prt, Option.some.injEq] at h
    subst h
    simp only [Ow, Is] at h1
    obtain ⟨rfl, p, ws, rfl, q, il⟩ := h1
    exact ⟨p, ws, rfl, sub_t w.sub q, ⟨by rw [leafs_length, il.length], nvw_leaf _⟩, fin (OwL.leafs il) List.nodup_nil fun _ h => h⟩
  | .tup us', h, h1 =>
    simp only [T.prt, Option.some.injEq] at h
    subst h
    simp only [Ow] at h1
    obtain ⟨nn, p, ws, rfl, q, ho⟩ := h1
    exact ⟨p, ws, rfl, sub_t w.sub q, ⟨ho.length.symm, nvw_of nn⟩, fin ho (List.nodup_append.mp nSm).1 fun p hp => hp⟩
  | .leaf .non, h, _ | .leaf (.bl _), h, _ | .leaf (.int _), h, _ | .leaf (.str _), h, _ | .leaf (.lst _), h, _ | .leaf .bag, h, _ | .leaf (.obj _ _), h, _ | .leaf (.scr _), h, _ => simp [T.prt] at h
  | .vw _, h, _ => simp [T.prt] at h
  | .lst _, h, _ => simp [T.prt] at h
theorem small {n : Nat} (h : n ≤ 100000) : n ≤ sizeLine := Nat.le_trans h (by decide)
theorem smallLt {n : Nat} (h : n ≤ 100000) : n < sizeLine := Nat.lt_of_le_of_lt h (by decide)
/-- flat results of flat operands -/
theorem opd_flat {r : R2} {g : D → D → (D → Prop) → Prop} (hr : ∀ F dx dy x y Ψ H (Q : VK), Is a.toAn F dx x → Is a.toAn F dy y → g dx dy Ψ → (∀ d v, Ψ d → d.flat = true → Is a.toAn F d v → Q v H) → r x y H Q) :
    OpD a r fun x y Φ => g x.dat y.dat fun d => Φ (.leaf d) := fun ρ σ H ts vs x y tx ty Φ Q ok h k => by
  obtain ⟨h1, h2, ok'⟩ := ok.two
  exact hr _ _ _ x y _ H Q h1 h2 h fun d v hd f is => k v _ H hd (SOk.flat f is ok')
theorem opd_flat2 {r : R2} {g : T → T → (T → Prop) → Prop} (h : OpD a r g) {g' : T → T → (T → Prop) → Prop} (i : ∀ x y Φ, g' x y Φ → g x y Φ) : OpD a r g' := fun ρ σ H ts vs x y tx ty Φ Q ok q k => h ρ σ H ts vs x y tx ty Φ Q ok (i _ _ _ q) k
theorem opd_or {r r' : R2} {g : T → T → (T → Prop) → Prop} {p : T → T → Bool} (h : OpD a r fun x y Φ => p x y = true ∧ g x y Φ) (h' : OpD a r' fun x y Φ => p x y = false ∧ g x y Φ) : OpD a (fun x y H Q => r x y H Q ∨ r' x y H Q) g := fun ρ σ H ts vs x y tx ty Φ Q ok q k => by
  cases e : p tx ty with
  | true => exact .inl (h ρ σ H ts vs x y tx ty Φ Q ok ⟨e, q⟩ k)
  | false => exact .inr (h' ρ σ H ts vs x y tx ty Φ Q ok ⟨e, q⟩ k)
theorem opd_cat : OpD a rCat catT := fun ρ σ H ts vs x y tx ty Φ Q ok q k => by
  obtain ⟨F, Sc, Sm, w⟩ := ok
  obtain ⟨xs, ys, e1, e2, hz, q⟩ := q
  obtain ⟨lb, ws, rfl, hb, ⟨ly, ny⟩, Sm1, w1⟩ := w.opens e2
  obtain ⟨Sm2, w2⟩ := w1.rot ly
  obtain ⟨la, us, rfl, ha, ⟨lx, nx⟩, Sm3, w3⟩ := w2.opens e1
  refine ⟨la, lb, us, ws, rfl, rfl, ha, hb, small (by omega), fun p hp => ?_⟩
  have w4 : SW a ρ σ ((xs ++ ys) ++ ts) ((us ++ ws) ++ vs) H F Sc Sm3 := by
    rw [List.append_assoc, List.append_assoc]
    exact w3
  obtain ⟨Sm4, w5⟩ := w4.mkLst (by simp [lx, ly]) (by rw [List.all_append, nx, ny]; rfl) hp
  exact k _ _ _ q ⟨F, Sc, Sm4, w5⟩
end
end DL
namespace DL
open PySem PySem.Spec PyProof.Rows L2
section
variable {a : An0} {X : Cx} {ρ : Env} {σ : L2.St} {ts : List T} {vs : List V} {H F : Hp} {Sc Sm : List Addr} {Φ : T → Prop} {pos : Pos} {e A B C : Expr}

theorem isL_app {ds es : List D} : ds.map T.leaf ++ es.map T.leaf = (ds ++ es).map T.leaf := by simp
theorem dats_leaf : ∀ ds : List D, T.dats (ds.map T.leaf) = ds
  | [] => by simp [T.dats]
  | d :: ds => by simp [T.dats, T.dat, dats_leaf ds]
theorem plain_leaf (ds : List D) : (ds.map T.leaf).all T.plain = true := by simp [T.plain]
theorem mk_leaf (ds : List D) : T.mk (ds.map T.leaf) = .leaf (.tup ds) := by unfold T.mk; rw [if_pos (plain_leaf ds), dats_leaf]
/-- the elements' own order back -/
theorem SOk.mkLst {us : List T} {ws : List V} {p : Addr} (l : us.length = ws.length) (n : us.all T.nvw = true) (hp : H p = none) : SOk a ρ σ (us ++ ts) (ws ++ vs) H → SOk a ρ σ (.lst us :: ts) (.ref p :: vs) (upd H p (.lst ws)) := fun ⟨F, Sc, _, w⟩ =>
  let ⟨Sm', w'⟩ := w.mkLst l n hp
  ⟨F, Sc, Sm', w'⟩
theorem SOk.mkTup {us : List T} {ws : List V} {p : Addr} (l : us.length = ws.length) (n : us.all T.nvw = true) (hp : H p = none) : SOk a ρ σ (us ++ ts) (ws ++ vs) H → SOk a ρ σ (T.mk us :: ts) (.ref p :: vs) (upd H p (.tup ws)) := fun ⟨F, Sc, Sm, w⟩ =>
  let ⟨F', w'⟩ := w.mkTup l n hp
  ⟨F', Sc, Sm, w'.mkT⟩
theorem SOk.drop2 {t u : T} {x y : V} : SOk a ρ σ (t :: u :: ts) (x :: y :: vs) H → SOk a ρ σ (t :: ts) (x :: vs) H := fun h => (SOk.rot (us := [t]) (ws := [x]) rfl h).pop1
/-- a tuple handed on as it is -/
theorem SOk.same {t : T} {v : V} {zs : List T} (hz : t.prt = some zs) : SOk a ρ σ (t :: ts) (v :: vs) H → SOk a ρ σ (T.mk zs :: ts) (v :: vs) H := fun ⟨F, Sc, Sm, w⟩ => by
  match t, hz with
  | .leaf (.tup ds), hz =>
    simp only [T.prt, Option.some.injEq] at hz
    subst hz
    rw [mk_leaf]
    exact ⟨F, Sc, Sm, w⟩
  | .tup ts', hz =>
    simp only [T.prt, Option.some.injEq] at hz
    subst hz
    exact ⟨F, Sc, Sm, w.mkT⟩
  | .leaf .non, h | .leaf (.bl _), h | .leaf (.int _), h | .leaf (.str _), h | .leaf (.lst _), h | .leaf .bag, h | .leaf (.obj _ _), h | .leaf (.scr _), h => simp [T.prt] at h
  | .vw _, h => simp [T.prt] at h
  | .lst _, h => simp [T.prt] at h
theorem opd_catU : OpD a (rCatA a.K) catU := fun ρ σ H ts vs x y tx ty Φ Q ok q k => by
  have ok0 := ok
  obtain ⟨F, Sc, Sm, w⟩ := ok
  obtain ⟨xs, ys, e1, e2, hz, q⟩ := q
  obtain ⟨lb, ws, rfl, hb, ⟨ly, ny⟩, Sm1, w1⟩ := w.opent e2
  obtain ⟨Sm2, w2⟩ := w1.rot ly
  obtain ⟨la, us, rfl, ha, ⟨lx, nx⟩, Sm3, w3⟩ := w2.opent e1
  have w4 : SW a ρ σ ((xs ++ ys) ++ ts) ((us ++ ws) ++ vs) H F Sc Sm3 := by
    rw [List.append_assoc, List.append_assoc]
    exact w3
  refine ⟨la, lb, us, ws, rfl, rfl, ha, hb, small (by omega), fun h0 => ?_, fun _ h0 => ?_, fun _ _ p hp => ?_⟩
  · have h1 : xs = [] := List.eq_nil_of_length_eq_zero (by rw [lx, h0]; rfl)
    subst h1
    exact k _ _ _ q (SOk.same e2 ok0.drop2)
  · have h1 : ys = [] := List.eq_nil_of_length_eq_zero (by rw [ly, h0]; rfl)
    subst h1
    rw [List.append_nil] at q
    exact k _ _ _ q (SOk.same e1 ok0.pop1)
  · exact k _ _ _ q (SOk.mkTup (by simp [lx, ly]) (by rw [List.all_append, nx, ny]; rfl) hp ⟨F, Sc, Sm3, w4⟩)
theorem IsL.rep {a : An} {F : Hp} {ds : List D} {vs : List V} (h : IsL a F ds vs) : ∀ n : Nat, IsL a F (List.replicate n ds).flatten (List.replicate n vs).flatten
  | 0 => by simp [IsL]
  | n + 1 => by
    simp only [List.replicate_succ, List.flatten_cons]
    exact h.append (IsL.rep h n)
theorem OwL.unleaf {a : An} {F H : Hp} : ∀ {ds : List D} {vs : List V} {S : List Addr}, OwL a F H (ds.map .leaf) vs S → IsL a F ds vs ∧ S = []
  | [], vs, S, h => by
    simp only [List.map_nil, OwL] at h
    simpa only [IsL] using h
  | d :: ds, vs, S, h => by
    simp only [List.map_cons, OwL, Ow] at h
    obtain ⟨v, r, S1, S2, rfl, ⟨rfl, h1⟩, h2, rfl⟩ := h
    obtain ⟨i2, rfl⟩ := OwL.unleaf h2
    simp only [IsL]
    exact ⟨⟨v, r, rfl, h1, i2⟩, trivial⟩
theorem opd_rep : OpD a rRep fun x y Φ => ∃ n, y.dat = .int n ∧ repT x n Φ := fun ρ σ H ts vs x y tx ty Φ Q ok q k => by
  obtain ⟨n, en, ds, e1, h0, h1, hz, q⟩ := q
  have hy := ok.top
  rw [en] at hy
  obtain rfl := hy.int
  obtain ⟨F, Sc, Sm, w⟩ := ok.pop1
  obtain ⟨l, ws, rfl, hl, ⟨lx, nx⟩, Sm1, w1⟩ := w.opens e1
  obtain ⟨S1, S2, o1, o2, e3⟩ := OwL.split w1.tmps lx
  obtain ⟨il, rfl⟩ := OwL.unleaf o1
  refine ⟨l, n, ws, rfl, rfl, hl, by omega, by omega, small (by rw [leafs_length] at lx; rw [← lx]; exact hz), fun p hp => ?_⟩
  have w2 : SW a ρ σ ((List.replicate n.toNat ds).flatten.map .leaf ++ ts) ((List.replicate n.toNat ws).flatten ++ vs) H F Sc S2 := by
    refine w1.tmp (Sn := [] ++ S2) (OwL.join (OwL.leafs (il.rep _)) o2) ?_ fun p hp => ?_
    · rw [e3] at w1
      exact (List.nodup_append.mp w1.nd).2.1
    · rw [e3]; exact hp
  obtain ⟨Sm4, w3⟩ := w2.mkLst (by rw [leafs_length, (il.rep n.toNat).length]) (nvw_leaf _) hp
  exact k _ _ _ q ⟨F, Sc, Sm4, w3⟩

/-- the two-place operators of ints and texts -/
theorem MulOk.or {i j : Int} (h : MulOk i j) : CMul i j ∨ CMulW i j := by
  rcases h with h | h | h
  · exact .inl (.inl h)
  · exact .inl (.inr h)
  · exact .inr h
def rInt2 (C : Int → Int → Prop) (f : Int → Int → Int) : R2 := rI C fun i j => .int (f i j)
theorem opd_int {C : Int → Int → Prop} {f : Int → Int → Int} {o : Bop} (h : ∀ dx dy Ψ, binD o dx dy Ψ → ∃ i j, dx = .int i ∧ dy = .int j ∧ C i j ∧ Ψ (.int (f i j))) : OpD a (rI C fun i j => .int (f i j)) fun x y Φ => binD o x.dat y.dat fun d => Φ (.leaf d) := by
  refine opd_flat (g := binD o) fun F dx dy x y Ψ H Q h1 h2 hg k => ?_
  obtain ⟨i, j, rfl, rfl, c, q⟩ := h dx dy Ψ hg
  obtain rfl := h1.int
  obtain rfl := h2.int
  exact ⟨i, j, rfl, rfl, c, k _ _ q rfl (by simp only [Is])⟩
theorem opd_int0 {f : Int → Int → Int} {o : Bop} (h : ∀ dx dy Ψ, binD o dx dy Ψ → ∃ i j, dx = .int i ∧ dy = .int j ∧ Ψ (.int (f i j))) : OpD a (rI0 fun i j => .int (f i j)) fun x y Φ => binD o x.dat y.dat fun d => Φ (.leaf d) := by
  refine opd_flat (g := binD o) fun F dx dy x y Ψ H Q h1 h2 hg k => ?_
  obtain ⟨i, j, rfl, rfl, q⟩ := h dx dy Ψ hg
  obtain rfl := h1.int
  obtain rfl := h2.int
  exact ⟨i, j, rfl, rfl, k _ _ q rfl (by simp only [Is])⟩
/-- what the model's operator does on each -/
def rBin (K : PySem.W.Frag) : Bop → R2
  | .add => fun x y H Q => rI0 (fun i j => .int (i + j)) x y H Q ∨ (∃ i j, x = .str i ∧ y = .str j ∧ i.length + j.length ≤ sizeLine ∧ Q (.str (i ++ j)) H) ∨ rCat x y H Q ∨ rCatA K x y H Q
  | .sub => rI0 fun i j => .int (i - j)
  | .mul => fun x y H Q => rI CMul (fun i j => .int (i * j)) x y H Q ∨ rI CMulW (fun i j => .int (i * j)) x y H Q ∨ rRep x y H Q
  | .fdiv => rI CDivW fun i j => .int (i / j)
  | .mod => rI (fun _ j => 0 < j) fun i j => .int (i % j)
  | .pow => rI CPow fun i j => .int (i ^ j.toNat)
  | .shr => rI (fun _ j => 0 ≤ j) fun i j => .int (i / 2 ^ j.toNat)
  | .band => rI0 fun i j => .int (Builtin.bitAnd i j)
theorem op_rBin : ∀ o : Bop, OpR X (binaryOp o.op) (rBin X.K o)
  | .add => OpR.or op_add (OpR.or op_add_str (OpR.or op_cat op_catA))
  | .sub => op_sub
  | .mul => OpR.or op_mul (OpR.or op_mulW op_rep)
  | .fdiv => op_fdivW
  | .mod => op_mod
  | .pow => op_pow
  | .shr => op_shr
  | .band => op_and
theorem opd_bin : ∀ o : Bop, OpD a (rBin a.K o) (binT o)
  | .sub => opd_int0 fun dx dy Ψ h => by
      match dx, dy, h with
      | .int i, .int j, h => exact ⟨i, j, rfl, rfl, h⟩
  | .band => opd_int0 fun dx dy Ψ h => by
      match dx, dy, h with
      | .int i, .int j, h => exact ⟨i, j, rfl, rfl, h⟩
  | .fdiv => opd_int fun dx dy Ψ h => by
      match dx, dy, h with
      | .int i, .int j, h => exact ⟨i, j, rfl, rfl, h.1, h.2⟩
  | .mod => opd_int fun dx dy Ψ h => by
      match dx, dy, h with
      | .int i, .int j, h => exact ⟨i, j, rfl, rfl, h.1, h.2⟩
  | .pow => opd_int fun dx dy Ψ h => by
      match dx, dy, h with
      | .int i, .int j, h => exact ⟨i, j, rfl, rfl, h.1, h.2⟩
  | .shr => opd_int fun dx dy Ψ h => by
      match dx, dy, h with
      | .int i, .int j, h => exact ⟨i, j, rfl, rfl, h.1, h.2⟩
  | .mul => fun ρ σ H ts vs x y tx ty Φ Q ok q k => by
      have two := ok.two
      generalize e1 : tx.dat = dx at two
      generalize e2 : ty.dat = dy at two
      simp only [binT, e1, e2] at q
      match dx, dy, q, two with
      | .lst _, .int n, q, _ => exact .inr (.inr (opd_rep ρ σ H ts vs x y tx ty Φ Q ok ⟨n, e2, q⟩ k))
      | .int i, .int j, q, ⟨h1, h2, ok'⟩ =>
        obtain ⟨m, q⟩ : MulOk i j ∧ Φ (.leaf (.int (i * j))) := q
        obtain rfl := h1.int
        obtain rfl := h2.int
        rcases m.or with m | m
        · exact .inl ⟨i, j, rfl, rfl, m, k _ _ _ q ok'.int⟩
        · exact .inr (.inl ⟨i, j, rfl, rfl, m, k _ _ _ q ok'.int⟩)
  | .add => fun ρ σ H ts vs x y tx ty Φ Q ok q k => by
      have two := ok.two
      generalize e1 : tx.dat = dx at two
      generalize e2 : ty.dat = dy at two
      simp only [binT, e1, e2] at q
      match dx, dy, q, two with
      | .lst _, .lst _, q, _ => exact .inr (.inr (.inl (opd_cat ρ σ H ts vs x y tx ty Φ Q ok q k)))
      | .tup _, .tup _, q, _ => exact .inr (.inr (.inr (opd_catU ρ σ H ts vs x y tx ty Φ Q ok q k)))
      | .int i, .int j, q, ⟨h1, h2, ok'⟩ =>
        obtain rfl := h1.int
        obtain rfl := h2.int
        exact .inl ⟨i, j, rfl, rfl, k _ _ _ q ok'.int⟩
      | .str i, .str j, q, ⟨h1, h2, ok'⟩ =>
        obtain rfl := h1.str
        obtain rfl := h2.str
        exact .inr (.inl ⟨i, j, rfl, rfl, small q.1, k _ _ _ q.2 ok'.str⟩)
theorem de_binT {o : Bop} (xo : XOk a X) (h : DE a X ρ A fun x => DE a X ρ B fun y => binT o x y Φ) : DE a X ρ (.BinOp A o.op B pos) Φ :=
  de_bin (by rw [← xo.K]; exact op_rBin o) (opd_bin o) h
end
end DL
namespace DL
open PySem PySem.Spec PyProof.Rows L2

mutual
def D.py : D → PyData
  | .bl b => .bool b
  | .int i => .int i
  | .str x => .str x
  | .tup ds => .tuple (D.pys ds)
  | .lst ds => .list (D.pys ds)
  | .non => .none
  | .bag => .none
  | .obj _ _ => .none
  | .scr _ => .none
def D.pys : List D → List PyData
  | [] => []
  | d :: r => d.py :: D.pys r
end
mutual
/-- data that == and repr know, of texts with true signs -/
def D.lay : D → Bool
  | .non => true
  | .bl _ => true
  | .int _ => true
  | .str x => PyData.strOk x
  | .tup ds => D.lays ds
  | .lst ds => D.lays ds
  | .bag => false
  | .obj _ _ => false
  | .scr _ => false
def D.lays : List D → Bool
  | [] => true
  | d :: r => d.lay && D.lays r
end
mutual
def D.dep : D → Nat
  | .tup ds => D.deps ds + 1
  | .lst ds => D.deps ds + 1
  | .non => 0
  | .bl _ => 0
  | .int _ => 0
  | .str _ => 0
  | .bag => 0
  | .obj _ _ => 0
  | .scr _ => 0
def D.deps : List D → Nat
  | [] => 0
  | d :: r => max d.dep (D.deps r)
end
theorem D.pys_eq : ∀ ds : List D, D.pys ds = ds.map D.py
  | [] => by simp [D.pys]
  | d :: r => by simp [D.pys, D.pys_eq r]
theorem D.lays_eq : ∀ ds : List D, D.lays ds = ds.all D.lay
  | [] => by simp [D.lays]
  | d :: r => by simp [D.lays, D.lays_eq r]
theorem D.deps_le {n : Nat} : ∀ {ds : List D}, (∀ d ∈ ds, d.dep ≤ n) → D.deps ds ≤ n
  | [], _ => by simp [D.deps]
  | d :: r, h => by
    simp only [D.deps]
    have h1 := h d List.mem_cons_self
    have h2 := D.deps_le (ds := r) fun e he => h e (List.mem_cons_of_mem _ he)
    omega
mutual
theorem Is.dp {a : An} {F H : Hp} (e : Sub F H) : ∀ {d : D} {v : V}, d.lay = true → Is a F d v → Dp a.K H v d.py
  | .non, v, _, h => by rw [Is.non h]; simp only [D.py]; exact .non
  | .bl b, v, _, h => by rw [Is.bl h]; simp only [D.py]; exact .bl b
  | .int i, v, _, h => by rw [Is.int h]; simp only [D.py]; exact .int i
  | .str x, v, _, h => by rw [Is.str h]; simp only [D.py]; exact .str x
  | .tup ds, v, l, h => by
    simp only [D.lay] at l
    simp only [Is] at h
    obtain ⟨p, vs, rfl, q, il⟩ := h
    simp only [D.py]
    exact .tup (sub_t e q) (IsL.dp e l il)
  | .lst ds, v, l, h => by
    simp only [D.lay] at l
    simp only [Is] at h
    obtain ⟨p, vs, rfl, q, il⟩ := h
    simp only [D.py]
    exact .lst (.inl (.inl (e _ _ q))) (IsL.dp e l il)
  | .bag, _, l, _ => by simp [D.lay] at l
  | .obj _ _, _, l, _ => by simp [D.lay] at l
  | .scr _, _, l, _ => by simp [D.lay] at l
theorem IsL.dp {a : An} {F H : Hp} (e : Sub F H) : ∀ {ds : List D} {vs : List V}, D.lays ds = true → IsL a F ds vs → DpAll a.K H vs (D.pys ds)
  | [], vs, _, h => by
    simp only [IsL] at h
    subst h
    simp only [D.pys]
    exact .nil
  | d :: ds, vs, l, h => by
    simp only [D.lays, Bool.and_eq_true] at l
    simp only [IsL] at h
    obtain ⟨v, r, rfl, h1, h2⟩ := h
    simp only [D.pys]
    exact .cons (Is.dp e l.1 h1) (IsL.dp e l.2 h2)
end
mutual
theorem D.canLay : ∀ d : D, d.lay = true → d.py.canLay0 = true
  | .non, _ => by simp [D.py, PyData.canLay0]
  | .bl b, _ => by simp [D.py, PyData.canLay0]
  | .int i, _ => by simp [D.py, PyData.canLay0]
  | .str x, h => by simpa [D.py, PyData.canLay0, D.lay] using h
  | .tup ds, h => by
    simp only [D.lay] at h
    simp only [D.py, PyData.canLay0]
    exact D.canLays ds h
  | .lst ds, h => by
    simp only [D.lay] at h
    simp only [D.py, PyData.canLay0]
    exact D.canLays ds h
  | .bag, l => by simp [D.lay] at l
  | .obj _ _, l => by simp [D.lay] at l
  | .scr _, l => by simp [D.lay] at l
theorem D.canLays : ∀ ds : List D, D.lays ds = true → PyData.canLayAll0 (D.pys ds) = true
  | [], _ => by simp [D.pys, PyData.canLayAll0]
  | d :: r, h => by
    simp only [D.lays, Bool.and_eq_true] at h
    simp only [D.pys, PyData.canLayAll0, Bool.and_eq_true]
    exact ⟨D.canLay d h.1, D.canLays r h.2⟩
end
mutual
theorem D.depth_le : ∀ d : D, d.py.depth ≤ d.dep
  | .non | .bl _ | .int _ | .str _ | .bag | .obj _ _ | .scr _ => by simp [D.py, PyData.depth]
  | .tup ds => by
    simp only [D.py, PyData.depth, D.dep]
    have := D.depths_le ds
    omega
  | .lst ds => by
    simp only [D.py, PyData.depth, D.dep]
    have := D.depths_le ds
    omega
theorem D.depths_le : ∀ ds : List D, PyData.depthAll (D.pys ds) ≤ D.deps ds
  | [] => by simp [D.pys, PyData.depthAll]
  | d :: r => by
    simp only [D.pys, PyData.depthAll, D.deps]
    have h1 := D.depth_le d
    have h2 := D.depths_le r
    omega
end
/-- what may be compared and shown -/
def D.Fit (d : D) : Prop := d.lay = true ∧ d.dep ≤ 60
theorem D.Fit.shaped {d : D} (h : d.Fit) : SeqAt.shaped d.py = true := by
  unfold SeqAt.shaped
  rw [Bool.and_eq_true]
  refine ⟨D.canLay d h.1, decide_eq_true ?_⟩
  have := D.depth_le d
  have := h.2
  omega
def eqD (x y : D) : Bool := PyData.eqv x.py y.py
theorem eqD_refl {d : D} (h : d.lay = true) : eqD d d = true := SeqAt.eqv_refl d.py (D.canLay d h)
theorem eqD_int (i j : Int) : eqD (.int i) (.int j) = decide (i = j) := by
  simp only [eqD, D.py, PyData.eqv]
  exact Bool.beq_eq_decide_eq i j
theorem eqD_bl (i j : Bool) : eqD (.bl i) (.bl j) = (i == j) := by simp only [eqD, D.py, PyData.eqv]
theorem eqD_str (i j : Str) : eqD (.str i) (.str j) = (i == j) := by simp only [eqD, D.py, PyData.eqv]

inductive Cop where
  | eq | ne | lt | le | gt | ge | isN | notN | inn | nin
  deriving DecidableEq
def Cop.op : Cop → CmpOp
  | .eq => .Eq | .ne => .NotEq | .lt => .Lt | .le => .LtE | .gt => .Gt | .ge => .GtE | .isN => .Is | .notN => .IsNot | .inn => .In | .nin => .NotIn
def D.isNon : D → Bool
  | .non => true
  | _ => false
def D.v : D → V
  | .bl b => .bl b
  | .int i => .int i
  | .str x => .str x
  | _ => .non
/-- x in ys, of flat things -/
def memD (x : D) (ys : List D) : Bool := inV x.v (ys.map D.v)
def cmpD : Cop → D → D → (Bool → Prop) → Prop
  | .isN, x, .non, Ψ => Ψ x.isNon
  | .notN, x, .non, Ψ => Ψ (!x.isNon)
  | .lt, .int i, .int j, Ψ => Ψ (decide (i < j))
  | .le, .int i, .int j, Ψ => Ψ (decide (i ≤ j))
  | .gt, .int i, .int j, Ψ => Ψ (decide (j < i))
  | .ge, .int i, .int j, Ψ => Ψ (decide (j ≤ i))
  | .eq, x, y, Ψ => (∃ s t, x = .str s ∧ y = .str t ∧ Ψ (decide (s = t))) ∨ x.Fit ∧ y.Fit ∧ Ψ (eqD x y)
  | .ne, x, y, Ψ => (∃ s t, x = .str s ∧ y = .str t ∧ Ψ (!decide (s = t))) ∨ x.Fit ∧ y.Fit ∧ Ψ (!eqD x y)
  | .inn, x, .lst ys, Ψ => x.flat = true ∧ ys.all D.flat = true ∧ Ψ (memD x ys)
  | .inn, x, .tup ys, Ψ => x.flat = true ∧ ys.all D.flat = true ∧ Ψ (memD x ys)
  | .nin, x, .lst ys, Ψ => x.flat = true ∧ ys.all D.flat = true ∧ Ψ (!memD x ys)
  | .nin, x, .tup ys, Ψ => x.flat = true ∧ ys.all D.flat = true ∧ Ψ (!memD x ys)
  | .inn, .str s, .str t, Ψ => ∃ c, s = ⟨#[c]⟩ ∧ Ψ (decide (c ∈ t.cps.toList))
  | .nin, .str s, .str t, Ψ => ∃ c, s = ⟨#[c]⟩ ∧ Ψ (!decide (c ∈ t.cps.toList))
  | _, _, _, _ => False
section
variable {a : An0} {X : Cx} {ρ : Env} {σ : L2.St} {ts : List T} {vs : List V} {H F : Hp} {Sc Sm : List Addr} {Φ : T → Prop} {pos : Pos} {e A B C : Expr}
theorem Is.v {a : An} {F : Hp} {d : D} {v : V} (f : d.flat = true) (h : Is a F d v) : v = d.v := by
  cases d <;> simp [D.flat] at f <;> simpa only [Is, D.v] using h
theorem D.flatV {d : D} (f : d.flat = true) : L2.flatV d.v = true := by cases d <;> simp [D.flat] at f <;> rfl
theorem IsL.vals {a : An} {F : Hp} : ∀ {ds : List D} {vs : List V}, ds.all D.flat = true → IsL a F ds vs → vs = ds.map D.v
  | [], _, _, h => by simpa only [IsL, List.map_nil] using h
  | d :: ds, vs, f, h => by
    simp only [List.all_cons, Bool.and_eq_true] at f
    simp only [IsL] at h
    obtain ⟨v, r, rfl, h1, h2⟩ := h
    rw [h1.v f.1, IsL.vals f.2 h2, List.map_cons]
theorem flatVs {ds : List D} (f : ds.all D.flat = true) : (ds.map D.v).all L2.flatV = true := by
  rw [List.all_eq_true] at f ⊢
  intro v hv
  obtain ⟨d, hd, rfl⟩ := List.mem_map.mp hv
  exact D.flatV (f d hd)
theorem Is.isNon {a : An} {F : Hp} {d : D} {v : V} (h : Is a F d v) : decide (v = V.non) = d.isNon := by
  cases d <;> simp only [Is] at h <;> (first | subst h | obtain ⟨p, hp⟩ := h) <;> simp [D.isNon]
  · obtain ⟨vs, rfl, _⟩ := hp; simp
  · obtain ⟨vs, rfl, _⟩ := hp; simp
  · obtain ⟨_, rfl⟩ := hp; simp
  · obtain ⟨_, _, _, _, rfl, _⟩ := hp; simp
  · obtain ⟨rfl, _⟩ := hp; simp
/-- what the model's comparison does -/
def rCmp (K : PySem.W.Frag) : Cop → R2
  | .eq => fun x y H Q => rEq x y H Q ∨ rEqD K x y H Q
  | .ne => fun x y H Q => rNe x y H Q ∨ rNeD K x y H Q
  | .lt => rI0 fun i j => .bl (decide (i < j))
  | .le => rI0 fun i j => .bl (decide (i ≤ j))
  | .gt => rI0 fun i j => .bl (decide (j < i))
  | .ge => rI0 fun i j => .bl (decide (j ≤ i))
  | .isN => fun x y H Q => y = .non ∧ Q (.bl (decide (x = .non))) H
  | .notN => fun x y H Q => y = .non ∧ Q (.bl (!decide (x = .non))) H
  | .inn => fun x y H Q => rIn K false x y H Q ∨ ∃ c z, x = V.str { cps := #[c] } ∧ y = V.str z ∧ Q (V.bl (decide (c ∈ z.cps.toList))) H
  | .nin => fun x y H Q => rIn K true x y H Q ∨ ∃ c z, x = V.str { cps := #[c] } ∧ y = V.str z ∧ Q (V.bl !decide (c ∈ z.cps.toList)) H
theorem op_rCmp (xo : XOk a X) : ∀ o : Cop, OpR X (compareOp o.op) (rCmp X.K o)
  | .eq => OpR.or op_eq (op_eqD (by have := xo.un; omega))
  | .ne => OpR.or op_ne (op_neD (by have := xo.un; omega))
  | .lt => op_lt
  | .le => op_le
  | .gt => op_gt
  | .ge => op_ge
  | .isN => op_isN
  | .notN => op_notN
  | .inn => OpR.or op_in_seq op_in_sign
  | .nin => OpR.or op_notIn_seq op_notIn_sign
def OpB (a : An0) (r : R2) (g : D → D → (Bool → Prop) → Prop) : Prop := ∀ F H x y dx dy Ψ (Q : VK), Sub F H → Is a.toAn F dx x → Is a.toAn F dy y → g dx dy Ψ → (∀ b, Ψ b → Q (.bl b) H) → r x y H Q
theorem opb_int {f : Int → Int → Bool} {g : D → D → (Bool → Prop) → Prop} (h : ∀ dx dy Ψ, g dx dy Ψ → ∃ i j, dx = .int i ∧ dy = .int j ∧ Ψ (f i j)) : OpB a (rI0 fun i j => .bl (f i j)) g := fun F H x y dx dy Ψ Q sub h1 h2 hg k => by
  obtain ⟨i, j, rfl, rfl, q⟩ := h dx dy Ψ hg
  obtain rfl := h1.int
  obtain rfl := h2.int
  exact ⟨i, j, rfl, rfl, k _ q⟩
theorem opb_in {neg : Bool} {F H : Hp} {x y : V} {dx : D} {ys : List D} {Ψ : Bool → Prop} {Q : VK} (h1 : Is a.toAn F dx x) (h2 : ∃ p vs, y = .ref p ∧ (SqL a.K H p vs ∨ SqT a.K H p vs) ∧ IsL a.toAn F ys vs)
    (hg : dx.flat = true ∧ ys.all D.flat = true ∧ Ψ (if neg then !memD dx ys else memD dx ys)) (k : ∀ b, Ψ b → Q (.bl b) H) : rIn a.K neg x y H Q := by
  obtain ⟨f1, f2, q⟩ := hg
  obtain ⟨p, vs, rfl, s, il⟩ := h2
  obtain rfl := h1.v f1
  obtain rfl := il.vals f2
  exact ⟨p, _, rfl, s, D.flatV f1, flatVs f2, k _ q⟩
theorem opb_cmp : ∀ o : Cop, OpB a (rCmp a.K o) (cmpD o)
  | .lt => opb_int fun dx dy Ψ h => by
      match dx, dy, h with
      | .int i, .int j, h => exact ⟨i, j, rfl, rfl, h⟩
  | .le => opb_int fun dx dy Ψ h => by
      match dx, dy, h with
      | .int i, .int j, h => exact ⟨i, j, rfl, rfl, h⟩
  | .gt => opb_int fun dx dy Ψ h => by
      match dx, dy, h with
      | .int i, .int j, h => exact ⟨i, j, rfl, rfl, h⟩
  | .ge => opb_int fun dx dy Ψ h => by
      match dx, dy, h with
      | .int i, .int j, h => exact ⟨i, j, rfl, rfl, h⟩
  | .isN => fun F H x y dx dy Ψ Q sub h1 h2 hg k => by
      match dy, hg with
      | .non, hg => exact ⟨h2.non, by rw [h1.isNon]; exact k _ hg⟩
  | .notN => fun F H x y dx dy Ψ Q sub h1 h2 hg k => by
      match dy, hg with
      | .non, hg => exact ⟨h2.non, by rw [h1.isNon]; exact k _ hg⟩
  | .eq => fun F H x y dx dy Ψ Q sub h1 h2 hg k => by
      rcases hg with ⟨s, t, rfl, rfl, q⟩ | ⟨f1, f2, q⟩
      · obtain rfl := h1.str
        obtain rfl := h2.str
        refine .inl ⟨rfl, ?_⟩
        rw [show decide (V.str s = V.str t) = decide (s = t) from by simp]
        exact k _ q
      · exact .inr ⟨_, _, h1.dp sub f1.1, h2.dp sub f2.1, f1.shaped, f2.shaped, k _ q⟩
  | .ne => fun F H x y dx dy Ψ Q sub h1 h2 hg k => by
      rcases hg with ⟨s, t, rfl, rfl, q⟩ | ⟨f1, f2, q⟩
      · obtain rfl := h1.str
        obtain rfl := h2.str
        refine .inl ⟨rfl, ?_⟩
        rw [show decide (V.str s = V.str t) = decide (s = t) from by simp]
        exact k _ q
      · exact .inr ⟨_, _, h1.dp sub f1.1, h2.dp sub f2.1, f1.shaped, f2.shaped, k _ q⟩
  | .inn => fun F H x y dx dy Ψ Q sub h1 h2 hg k => by
      match dy, hg with
      | .lst ys, hg =>
        simp only [Is] at h2
        obtain ⟨p, vs, e, q, il⟩ := h2
        exact .inl (opb_in h1 ⟨p, vs, e, .inl (.inl (.inl (sub _ _ q))), il⟩ (by simpa [cmpD] using hg) k)
      | .tup ys, hg =>
        simp only [Is] at h2
        obtain ⟨p, vs, e, q, il⟩ := h2
        exact .inl (opb_in h1 ⟨p, vs, e, .inr (sub_t sub q), il⟩ (by simpa [cmpD] using hg) k)
      | .str t, hg =>
        match dx, hg with
        | .str s, hg =>
          obtain ⟨c, rfl, q⟩ := hg
          exact .inr ⟨c, t, h1.str, h2.str, k _ q⟩
  | .nin => fun F H x y dx dy Ψ Q sub h1 h2 hg k => by
      match dy, hg with
      | .lst ys, hg =>
        simp only [Is] at h2
        obtain ⟨p, vs, e, q, il⟩ := h2
        exact .inl (opb_in h1 ⟨p, vs, e, .inl (.inl (.inl (sub _ _ q))), il⟩ (by simpa [cmpD] using hg) k)
      | .tup ys, hg =>
        simp only [Is] at h2
        obtain ⟨p, vs, e, q, il⟩ := h2
        exact .inl (opb_in h1 ⟨p, vs, e, .inr (sub_t sub q), il⟩ (by simpa [cmpD] using hg) k)
      | .str t, hg =>
        match dx, hg with
        | .str s, hg =>
          obtain ⟨c, rfl, q⟩ := hg
          exact .inr ⟨c, t, h1.str, h2.str, k _ q⟩
/-- not a display of a set behind in -/
def notSet : Expr → Bool
  | .Set _ _ _ => false
  | _ => true
theorem behind_of {b : Expr} {op : CmpOp} (h : notSet b = true) : behindInMarks op b = false := by
  cases b <;> first | rfl | simp [notSet] at h
theorem de_cmp {o : Cop} (xo : XOk a X) (hn : notSet B = true) (h : DE a X ρ A fun x => DE a X ρ B fun y => cmpD o x.dat y.dat fun b => Φ (.leaf (.bl b))) : DE a X ρ (.Compare A [o.op] [B] pos) Φ := fun σ H ts vs Q ok k => by
  refine ⟨_, pe_cmpR (op_rCmp xo o) pe_W pe_W (behind_of hn), ?_⟩
  show WE X A σ H fun x H1 => WE X B σ H1 fun y H2 => rCmp X.K o x y H2 Q
  refine h σ H ts vs _ ok fun x tx H1 h1 ok1 => h1 σ H1 _ _ _ ok1 fun y ty H2 h2 ok2 => ?_
  obtain ⟨i1, i2, ok3⟩ := ok2.two
  rw [xo.K]
  exact opb_cmp o _ H2 x y _ _ _ Q (hb_sub _ _) i1 i2 h2 fun b hb => k _ _ _ hb ok3.bl
theorem dt_cmp {o : Cop} {Ψ : Bool → Prop} (xo : XOk a X) (hn : notSet B = true) (h : DE a X ρ A fun x => DE a X ρ B fun y => cmpD o x.dat y.dat Ψ) : DT a X ρ (.Compare A [o.op] [B] pos) Ψ := fun σ H ts vs Q ok k => by
  refine ⟨_, pt_cmpR (op_rCmp xo o) pe_W pe_W (behind_of hn), ?_⟩
  show WE X A σ H fun x H1 => WE X B σ H1 fun y H2 => rCmp X.K o x y H2 fun z H3 => ∃ k, z = .bl k ∧ Q k H3
  refine h σ H ts vs _ ok fun x tx H1 h1 ok1 => h1 σ H1 _ _ _ ok1 fun y ty H2 h2 ok2 => ?_
  obtain ⟨i1, i2, ok3⟩ := ok2.two
  rw [xo.K]
  exact opb_cmp o _ H2 x y _ _ _ _ (hb_sub _ _) i1 i2 h2 fun b hb => ⟨b, rfl, k _ _ hb ok3⟩
/-- a < b < c -/
def chnD (o o' : Cop) (x y : D) (Ψc : (D → Prop) → Prop) (Ψ : Bool → Prop) : Prop := cmpD o x y fun b => if b then Ψc fun z => cmpD o' y z Ψ else Ψ false
theorem last_of {op op' : CmpOp} {b c : Expr} (h : notSet c = true) : lastMarks [op, op'] [b, c] = false := behind_of h
theorem de_chn {o o' : Cop} (xo : XOk a X) (hn : notSet C = true) (h : DE a X ρ A fun x => DE a X ρ B fun y => cmpD o x.dat y.dat fun b => if b = true then DE a X ρ C fun z => cmpD o' y.dat z.dat fun b => Φ (.leaf (.bl b)) else Φ (.leaf (.bl false))) :
    DE a X ρ (.Compare A [o.op, o'.op] [B, C] pos) Φ := fun σ H ts vs Q ok k => by
  refine ⟨_, pe_chain (op_rCmp xo o) (op_rCmp xo o') pe_W pe_W pe_W (last_of hn), ?_⟩
  show WE X A σ H fun x H1 => WE X B σ H1 fun y H2 => rCmp X.K o x y H2 fun z H3 => ∃ k, z = .bl k ∧ (if k = true then WE X C σ H3 fun w' H4 => rCmp X.K o' y w' H4 Q else Q (.bl false) H3)
  refine h σ H ts vs _ ok fun x tx H1 h1 ok1 => h1 σ H1 _ _ _ ok1 fun y ty H2 h2 ok2 => ?_
  obtain ⟨i1, i2, ok3⟩ := ok2.two
  rw [xo.K]
  refine opb_cmp o _ H2 x y _ _ _ _ (hb_sub _ _) i1 i2 h2 fun b hb => ⟨b, rfl, ?_⟩
  cases b with
  | false =>
    rw [if_neg (by decide)] at hb ⊢
    exact k _ _ _ hb ok3.bl
  | true =>
    rw [if_pos rfl] at hb ⊢
    refine hb σ H2 _ _ _ ok2.drop2 fun z tz H3 h3 ok4 => ?_
    obtain ⟨i3, i4, ok5⟩ := ok4.two
    exact opb_cmp o' _ H3 y z _ _ _ Q (hb_sub _ _) i3 i4 h3 fun b hb => k _ _ _ hb ok5.bl
theorem dt_chn {o o' : Cop} {Ψ : Bool → Prop} (xo : XOk a X) (hn : notSet C = true) (h : DE a X ρ A fun x => DE a X ρ B fun y => cmpD o x.dat y.dat fun b => if b = true then DE a X ρ C fun z => cmpD o' y.dat z.dat Ψ else Ψ false) :
    DT a X ρ (.Compare A [o.op, o'.op] [B, C] pos) Ψ := fun σ H ts vs Q ok k => by
  refine ⟨_, pt_chain (op_rCmp xo o) (op_rCmp xo o') pe_W pe_W pe_W (last_of hn), ?_⟩
  show WE X A σ H fun x H1 => WE X B σ H1 fun y H2 => rCmp X.K o x y H2 fun z H3 => ∃ k, z = .bl k ∧ (if k = true then WE X C σ H3 fun w' H4 => rCmp X.K o' y w' H4 (fun z H' => ∃ k, z = .bl k ∧ Q k H') else (∃ k, V.bl false = .bl k ∧ Q k H3))
  refine h σ H ts vs _ ok fun x tx H1 h1 ok1 => h1 σ H1 _ _ _ ok1 fun y ty H2 h2 ok2 => ?_
  obtain ⟨i1, i2, ok3⟩ := ok2.two
  rw [xo.K]
  refine opb_cmp o _ H2 x y _ _ _ _ (hb_sub _ _) i1 i2 h2 fun b hb => ⟨b, rfl, ?_⟩
  cases b with
  | false =>
    rw [if_neg (by decide)] at hb ⊢
    exact ⟨false, rfl, k _ _ hb ok3⟩
  | true =>
    rw [if_pos rfl] at hb ⊢
    refine hb σ H2 _ _ _ ok2.drop2 fun z tz H3 h3 ok4 => ?_
    obtain ⟨i3, i4, ok5⟩ := ok4.two
    exact opb_cmp o' _ H3 y z _ _ _ _ (hb_sub _ _) i3 i4 h3 fun b hb => ⟨b, rfl, k _ _ hb ok5⟩
end
end DL
namespace DL
open PySem PySem.Spec PyProof.Rows L2
section
variable {a : An0} {X : Cx} {ρ : Env} {σ : L2.St} {ts : List T} {vs : List V} {H F : Hp} {Sc Sm : List Addr} {Φ : T → Prop} {pos : Pos} {e A B C : Expr}

/-! ### truth, and, or, not, if -/
def D.truth : D → Option Bool
  | .non => some false
  | .bl b => some b
  | .int i => some (i != 0)
  | .lst ds => some !ds.isEmpty
  | .tup ds => some !ds.isEmpty
  | .str x => if x.length ≤ 100000 then some ((x.length : Int) != 0) else none
  | _ => none
theorem Is.tru {F H : Hp} (sub : Sub F H) {d : D} {v : V} {b : Bool} (h : Is a.toAn F d v) (e : d.truth = some b) : TruV a.K v H b := by
  cases d with
  | non => rw [h.non]; simp [D.truth] at e; exact e.symm ▸ rfl
  | bl c => rw [h.bl]; simp [D.truth] at e; exact e ▸ rfl
  | int i => rw [h.int]; simp only [D.truth, Option.some.injEq] at e; exact e ▸ rfl
  | str x =>
    rw [h.str]
    simp only [D.truth] at e
    split at e
    · simp only [Option.some.injEq] at e
      exact ⟨small (by assumption), e ▸ rfl⟩
    · cases e
  | lst ds =>
    simp only [D.truth, Option.some.injEq] at e
    simp only [Is] at h
    obtain ⟨p, vs, rfl, q, il⟩ := h
    refine .inl ⟨vs, .inl (.inl (sub _ _ q)), ?_⟩
    rw [← e]
    have := il.length
    cases vs <;> cases ds <;> simp at this <;> rfl
  | tup ds =>
    simp only [D.truth, Option.some.injEq] at e
    simp only [Is] at h
    obtain ⟨p, vs, rfl, q, il⟩ := h
    refine .inr (.inl ⟨vs, sub_t sub q, ?_⟩)
    rw [← e]
    have := il.length
    cases vs <;> cases ds <;> simp at this <;> rfl
  | bag => simp [D.truth] at e
  | obj _ _ => simp [D.truth] at e
  | scr _ => simp [D.truth] at e
/-- its test is its value's truth -/
def plainTest : Expr → Bool
  | .UnaryOp .Not _ _ => false
  | .BoolOp _ _ _ => false
  | .IfExp _ _ _ _ => false
  | .Compare _ _ _ _ => false
  | _ => true
theorem test_of {env : PySem.Env} (h : plainTest e = true) (whole : Sem Value) : isTrue e env whole = (do let v ← whole; standAt e.pos; holding [v] (truthy v)) := by
  cases e with
  | UnaryOp op x p => cases op <;> first | rfl | simp [plainTest] at h
  | BoolOp => simp [plainTest] at h
  | IfExp => simp [plainTest] at h
  | Compare => simp [plainTest] at h
  | _ => rfl
def tru (x : T) (Ψ : Bool → Prop) : Prop := ∃ b, x.dat.truth = some b ∧ Ψ b
theorem dt_val {Ψ : Bool → Prop} (xo : XOk a X) (hp : plainTest A = true) (h : DE a X ρ A fun x => tru x Ψ) : DT a X ρ A Ψ := fun σ H ts vs Q ok k => by
  refine ⟨_, pt_truth pe_W (test_of hp), ?_⟩
  show WE X A σ H fun x H' => ∃ k, TruV X.K x H' k ∧ Q k H'
  refine h σ H ts vs _ ok fun x tx H1 ⟨b, e, hb⟩ ok1 => ⟨b, ?_, k b H1 hb ok1.pop1⟩
  rw [xo.K]
  exact (ok1.top).tru (hb_sub _ _) e
theorem dt_not {Ψ : Bool → Prop} (h : DT a X ρ A fun b => Ψ !b) : DT a X ρ (.UnaryOp .Not A pos) Ψ := fun σ H ts vs Q ok k =>
  ⟨_, pt_not pt_W, h σ H ts vs _ ok fun b H' hb ok' => k _ _ hb ok'⟩
/-- the rest of a chain, as one test -/
def DW (a : An0) (X : Cx) (ρ : Env) (op : PySem.BoolOp) (es : List Expr) (Ψ : Bool → Prop) : Prop :=
  ∀ pos σ H ts vs Q, SOk a ρ σ ts vs H → (∀ b H', Ψ b → SOk a ρ σ ts vs H' → Q b H') → ∃ t, PW X (.BoolOp op es pos) t ∧ t σ H Q
def WW (X : Cx) (e : Expr) : TT := fun σ H Q => ∃ t, PW X e t ∧ t σ H Q
theorem pw_W {e : Expr} : PW X e (WW X e) := ⟨fun wh p s σ H Q I ⟨_, h, q⟩ => h.run wh p s σ H Q I q⟩
theorem dw_and1 {Ψ : Bool → Prop} (h : DT a X ρ A Ψ) : DW a X ρ .And [A] Ψ := fun pos σ H ts vs Q ok k => ⟨_, pw_and1 pt_W, h σ H ts vs Q ok k⟩
theorem dw_or1 {Ψ : Bool → Prop} (h : DT a X ρ A Ψ) : DW a X ρ .Or [A] Ψ := fun pos σ H ts vs Q ok k => ⟨_, pw_or1 pt_W, h σ H ts vs Q ok k⟩
theorem dw_and {es : List Expr} {Ψ : Bool → Prop} (h : DT a X ρ A fun b => if b = true then DW a X ρ .And (B :: es) Ψ else Ψ false) : DW a X ρ .And (A :: B :: es) Ψ := fun pos σ H ts vs Q ok k => by
  refine ⟨_, pw_and pt_W (pw_W (e := .BoolOp .And (B :: es) pos)), ?_⟩
  show WT X A σ H fun c H1 => if c = true then WW X _ σ H1 Q else Q false H1
  refine h σ H ts vs _ ok fun b H1 hb ok1 => ?_
  cases b with
  | true =>
    rw [if_pos rfl] at hb ⊢
    exact hb pos σ H1 ts vs Q ok1 k
  | false =>
    rw [if_neg (by decide)] at hb ⊢
    exact k _ _ hb ok1
theorem dw_or {es : List Expr} {Ψ : Bool → Prop} (h : DT a X ρ A fun b => if b = true then Ψ true else DW a X ρ .Or (B :: es) Ψ) : DW a X ρ .Or (A :: B :: es) Ψ := fun pos σ H ts vs Q ok k => by
  refine ⟨_, pw_or pt_W (pw_W (e := .BoolOp .Or (B :: es) pos)), ?_⟩
  show WT X A σ H fun c H1 => if c = true then Q true H1 else WW X _ σ H1 Q
  refine h σ H ts vs _ ok fun b H1 hb ok1 => ?_
  cases b with
  | true =>
    rw [if_pos rfl] at hb ⊢
    exact k _ _ hb ok1
  | false =>
    rw [if_neg (by decide)] at hb ⊢
    exact hb pos σ H1 ts vs Q ok1 k
theorem dt_bool {op : PySem.BoolOp} {es : List Expr} {Ψ : Bool → Prop} (h : DW a X ρ op es Ψ) : DT a X ρ (.BoolOp op es pos) Ψ := fun σ H ts vs Q ok k =>
  let ⟨_, p, q⟩ := h pos σ H ts vs Q ok k
  ⟨_, p.pt, q⟩
/-- .. as values -/
theorem de_one {op : PySem.BoolOp} (h : DE a X ρ A Φ) : DE a X ρ (.BoolOp op [A] pos) Φ := fun σ H ts vs Q ok k => ⟨_, pe_one pe_W, h σ H ts vs Q ok k⟩
theorem de_and {es : List Expr} (h : DE a X ρ A fun x => ∃ b, x.dat = .bl b ∧ if b = true then DE a X ρ (.BoolOp .And (B :: es) pos) Φ else Φ (.leaf (.bl false))) : DE a X ρ (.BoolOp .And (A :: B :: es) pos) Φ := fun σ H ts vs Q ok k => by
  refine ⟨_, pe_and pe_W pe_W, ?_⟩
  show WE X A σ H fun x H1 => ∃ c, x = .bl c ∧ if c = true then WE X _ σ H1 Q else Q (.bl false) H1
  refine h σ H ts vs _ ok fun x tx H1 ⟨b, e, hb⟩ ok1 => ?_
  have i1 := ok1.top
  rw [e] at i1
  refine ⟨b, i1.bl, ?_⟩
  cases b with
  | true =>
    rw [if_pos rfl] at hb ⊢
    exact hb σ H1 ts vs Q ok1.pop1 k
  | false =>
    rw [if_neg (by decide)] at hb ⊢
    exact k _ _ _ hb ok1.pop1.bl
theorem de_or {es : List Expr} (h : DE a X ρ A fun x => ∃ b, x.dat = .bl b ∧ if b = true then Φ (.leaf (.bl true)) else DE a X ρ (.BoolOp .Or (B :: es) pos) Φ) : DE a X ρ (.BoolOp .Or (A :: B :: es) pos) Φ := fun σ H ts vs Q ok k => by
  refine ⟨_, pe_or pe_W pe_W, ?_⟩
  show WE X A σ H fun x H1 => ∃ c, x = .bl c ∧ if c = true then Q (.bl true) H1 else WE X _ σ H1 Q
  refine h σ H ts vs _ ok fun x tx H1 ⟨b, e, hb⟩ ok1 => ?_
  have i1 := ok1.top
  rw [e] at i1
  refine ⟨b, i1.bl, ?_⟩
  cases b with
  | true =>
    rw [if_pos rfl] at hb ⊢
    exact k _ _ _ hb ok1.pop1.bl
  | false =>
    rw [if_neg (by decide)] at hb ⊢
    exact hb σ H1 ts vs Q ok1.pop1 k
theorem de_not (h : DE a X ρ A fun x => ∃ b, x.dat = .bl b ∧ Φ (.leaf (.bl !b))) : DE a X ρ (.UnaryOp .Not A pos) Φ := fun σ H ts vs Q ok k => by
  refine ⟨_, pe_not pe_W, ?_⟩
  show WE X A σ H fun x H1 => ∃ c, x = .bl c ∧ Q (.bl (!c)) H1
  refine h σ H ts vs _ ok fun x tx H1 ⟨b, e, hb⟩ ok1 => ?_
  have i1 := ok1.top
  rw [e] at i1
  exact ⟨b, i1.bl, k _ _ _ hb ok1.pop1.bl⟩
theorem de_neg (h : DE a X ρ A fun x => ∃ i, x.dat = .int i ∧ Φ (.leaf (.int (-i)))) : DE a X ρ (.UnaryOp .USub A pos) Φ := fun σ H ts vs Q ok k => by
  refine ⟨_, pe_un un_neg pe_W, ?_⟩
  show WE X A σ H fun x H1 => ∃ i, x = .int i ∧ Q (.int (-i)) H1
  refine h σ H ts vs _ ok fun x tx H1 ⟨b, e, hb⟩ ok1 => ?_
  have i1 := ok1.top
  rw [e] at i1
  exact ⟨b, i1.int, k _ _ _ hb ok1.pop1.int⟩
theorem de_ife (h : DT a X ρ A fun b => if b = true then DE a X ρ B Φ else DE a X ρ C Φ) : DE a X ρ (.IfExp A B C pos) Φ := fun σ H ts vs Q ok k => by
  refine ⟨_, pe_ifExp pt_W pe_W pe_W, ?_⟩
  show WT X A σ H fun c H1 => if c = true then WE X B σ H1 Q else WE X C σ H1 Q
  refine h σ H ts vs _ ok fun b H1 hb ok1 => ?_
  cases b with
  | true =>
    rw [if_pos rfl] at hb ⊢
    exact hb σ H1 ts vs Q ok1 k
  | false =>
    rw [if_neg (by decide)] at hb ⊢
    exact hb σ H1 ts vs Q ok1 k

/-! ### subscripts -/
def notSlice : Expr → Bool
  | .Slice _ _ none _ => false
  | _ => true
theorem ix_plain (h : notSlice B = true) : PlainIx B := fun o i => by
  unfold subscripted
  cases B with
  | Slice l u st p =>
    cases st with
    | none => simp [notSlice] at h
    | some _ => rfl
  | _ => rfl
/-- an item of what is only read -/
def D.vwOf (d : D) : T := if d.flat then .leaf d else .vw d
def ixT (x : T) (i : D) (Φ : T → Prop) : Prop := match i with
  | .int n => match x with
    | .leaf (.tup ds) => ∃ d, atI ds n = some d ∧ Φ (.leaf d)
    | .leaf (.lst ds) => ∃ d, atI ds n = some d ∧ Φ (.leaf d)
    | .leaf (.str z) => ∃ c, z.length ≤ 100000 ∧ atI z.cps.toList n = some c ∧ Φ (.leaf (.str ⟨#[c]⟩))
    | .vw (.tup ds) => ∃ d, atI ds n = some d ∧ Φ d.vwOf
    | .vw (.lst ds) => ∃ d, atI ds n = some d ∧ Φ d.vwOf
    | .tup us => ∃ t, atI us n = some t ∧ Φ t
    | .lst us => ∃ t, atI us n = some t ∧ Φ t
    | _ => False
  | _ => False
theorem IsL.atI {a : An} {F : Hp} {ds : List D} {vs : List V} {n : Int} {d : D} (h : IsL a F ds vs) (e : L2.atI ds n = some d) : ∃ v, L2.atI vs n = some v ∧ Is a F d v := by
  unfold L2.atI at e ⊢
  rw [h.length]
  cases hx : ixN ds.length n with
  | none => rw [hx] at e; cases e
  | some j =>
    rw [hx] at e
    exact h.get e
theorem OwL.get {a : An} {F H : Hp} : ∀ {ts : List T} {vs : List V} {S : List Addr} {i : Nat} {t : T}, OwL a F H ts vs S → ts[i]? = some t → ∃ v S1, vs[i]? = some v ∧ Ow a F H t v S1 ∧ (S.Nodup → S1.Nodup) ∧ ∀ p ∈ S1, p ∈ S
  | [], _, _, _, _, _, g => by simp at g
  | u :: ts, vs, S, 0, t, h, g => by
    simp only [OwL] at h
    obtain ⟨v, r, S1, S2, rfl, h1, h2, rfl⟩ := h
    simp only [List.getElem?_cons_zero, Option.some.injEq] at g
    subst g
    exact ⟨v, S1, rfl, h1, fun n => (List.nodup_append.mp n).1, fun p hp => List.mem_append_left _ hp⟩
  | u :: ts, vs, S, i + 1, t, h, g => by
    simp only [OwL] at h
    obtain ⟨v, r, S1, S2, rfl, h1, h2, rfl⟩ := h
    simp only [List.getElem?_cons_succ] at g ⊢
    obtain ⟨v', S', e1, e2, e3, e4⟩ := OwL.get h2 g
    exact ⟨v', S', e1, e2, fun n => e3 (List.nodup_append.mp n).2.1, fun p hp => List.mem_append_right _ (e4 p hp)⟩
theorem OwL.atI {a : An} {F H : Hp} {us : List T} {vs : List V} {S : List Addr} {n : Int} {t : T} (h : OwL a F H us vs S) (e : L2.atI us n = some t) : ∃ v S1, L2.atI vs n = some v ∧ Ow a F H t v S1 ∧ (S.Nodup → S1.Nodup) ∧ ∀ p ∈ S1, p ∈ S := by
  unfold L2.atI at e ⊢
  rw [h.length]
  cases hx : ixN us.length n with
  | none => rw [hx] at e; cases e
  | some j =>
    rw [hx] at e
    exact h.get e
theorem SW.vwOf {d : D} {v : V} (w : SW a ρ σ ts vs H F Sc Sm) (h : Is a.toAn (hb a.toAn H) d v) : SW a ρ σ (d.vwOf :: ts) (v :: vs) H F Sc Sm := by
  unfold D.vwOf
  split
  · rename_i f; exact w.leaf (h.flat f)
  · exact w.vw h
/-- the first temporary may become a part of itself -/
theorem SW.cut {t : T} {x : V} (w : SW a ρ σ (t :: ts) (x :: vs) H F Sc Sm) : ∃ S1, Ow a.toAn F H t x S1 ∧ S1.Nodup ∧
    ∀ (u : T) (v : V) (S' : List Addr), Ow a.toAn F H u v S' → S'.Nodup → (∀ p ∈ S', p ∈ S1) → SOk a ρ σ (u :: ts) (v :: vs) H := by
  obtain ⟨v', r, S1, S2, e, h1, h2, e2⟩ := (show ∃ v' r S1 S2, x :: vs = v' :: r ∧ Ow a.toAn F H t v' S1 ∧ OwL a.toAn F H ts r S2 ∧ Sm = S1 ++ S2 by
    have := w.tmps; simpa only [OwL] using this)
  cases e
  have nSm : (S1 ++ S2).Nodup := e2 ▸ (List.nodup_append.mp w.nd).2.1
  obtain ⟨n1, n2, n3⟩ := List.nodup_append.mp nSm
  refine ⟨S1, h1, n1, fun u v S' h3 n' k => ⟨F, Sc, S' ++ S2, w.tmp ?_ (List.nodup_append.mpr ⟨n', n2, fun p hp q hq => n3 p (k p hp) q hq⟩) fun p hp => ?_⟩⟩
  · simp only [OwL]
    exact ⟨v, vs, S', S2, rfl, h3, h2, rfl⟩
  · rw [e2]
    rcases List.mem_append.mp hp with z | z
    · exact List.mem_append_left _ (k p z)
    · exact List.mem_append_right _ z
theorem Ow.leaf {a : An} {F H : Hp} {d : D} {v : V} (h : Is a F d v) : Ow a F H (.leaf d) v [] := by simp only [Ow]; exact ⟨trivial, h⟩
theorem opd_ix {n : Int} {x : T} {vx : V} {Q : VK} (ok : SOk a ρ σ (x :: ts) (vx :: vs) H) (h : ixT x (.int n) Φ) (k : ∀ v t H', Φ t → SOk a ρ σ (t :: ts) (v :: vs) H' → Q v H') : rIx a.K vx (.int n) H Q := by
  obtain ⟨F, Sc, Sm, w⟩ := ok
  match x, h with
  | .leaf (.tup ds), h =>
    obtain ⟨d, e, q⟩ := h
    obtain ⟨_, h1, _, go⟩ := w.cut
    simp only [Ow, Is] at h1
    obtain ⟨rfl, p, ws, rfl, z, il⟩ := h1
    obtain ⟨v, e2, i2⟩ := il.atI e
    exact .inr (.inl ⟨p, ws, n, v, rfl, rfl, sub_t w.sub z, e2, k v _ H q (go _ v [] (Ow.leaf i2) List.nodup_nil fun _ h => nomatch h)⟩)
  | .leaf (.lst ds), h =>
    obtain ⟨d, e, q⟩ := h
    obtain ⟨_, h1, _, go⟩ := w.cut
    simp only [Ow, Is] at h1
    obtain ⟨rfl, p, ws, rfl, z, il⟩ := h1
    obtain ⟨v, e2, i2⟩ := il.atI e
    exact .inl ⟨p, ws, n, v, rfl, rfl, .inl (.inl (w.sub _ _ z)), e2, k v _ H q (go _ v [] (Ow.leaf i2) List.nodup_nil fun _ h => nomatch h)⟩
  | .leaf (.str z), h =>
    obtain ⟨c, hz, e, q⟩ := h
    obtain rfl := (w.top : Is a.toAn (hb a.toAn H) (.str z) vx).str
    exact .inr (.inr ⟨z, n, c, rfl, rfl, small hz, e, k _ _ H q (SOk.str (SOk.pop1 ⟨F, Sc, Sm, w⟩))⟩)
  | .vw (.tup ds), h =>
    obtain ⟨d, e, q⟩ := h
    have h1 := w.top
    simp only [T.dat, Is] at h1
    obtain ⟨p, ws, rfl, z, il⟩ := h1
    obtain ⟨v, e2, i2⟩ := il.atI e
    refine .inr (.inl ⟨p, ws, n, v, rfl, rfl, sub_t (hb_sub _ _) z, e2, k v _ H q ?_⟩)
    obtain ⟨F, Sc, Sm, w⟩ := SOk.pop1 (t := .vw (.tup ds)) (v := .ref p) ⟨F, Sc, Sm, w⟩
    exact ⟨F, Sc, Sm, w.vwOf i2⟩
  | .vw (.lst ds), h =>
    obtain ⟨d, e, q⟩ := h
    have h1 := w.top
    simp only [T.dat, Is] at h1
    obtain ⟨p, ws, rfl, z, il⟩ := h1
    obtain ⟨v, e2, i2⟩ := il.atI e
    refine .inl ⟨p, ws, n, v, rfl, rfl, .inl (.inl (hb_sub _ _ _ _ z)), e2, k v _ H q ?_⟩
    obtain ⟨F, Sc, Sm, w⟩ := SOk.pop1 (t := .vw (.lst ds)) (v := .ref p) ⟨F, Sc, Sm, w⟩
    exact ⟨F, Sc, Sm, w.vwOf i2⟩
  | .tup us, h =>
    obtain ⟨t, e, q⟩ := h
    obtain ⟨S1, h1, n1, go⟩ := w.cut
    simp only [Ow] at h1
    obtain ⟨_, p, ws, rfl, z, ol⟩ := h1
    obtain ⟨v, S2, e2, i2, n2, k2⟩ := ol.atI e
    exact .inr (.inl ⟨p, ws, n, v, rfl, rfl, sub_t w.sub z, e2, k v _ H q (go _ v S2 i2 (n2 n1) k2)⟩)
  | .lst us, h =>
    obtain ⟨t, e, q⟩ := h
    obtain ⟨S1, h1, n1, go⟩ := w.cut
    simp only [Ow] at h1
    obtain ⟨_, p, ws, S', rfl, z, ol, rfl⟩ := h1
    obtain ⟨v, S2, e2, i2, n2, k2⟩ := ol.atI e
    exact .inl ⟨p, ws, n, v, rfl, rfl, .inl (.inl z), e2, k v _ H q (go _ v S2 i2 (n2 (List.nodup_cons.mp n1).2) fun q hq => List.mem_cons_of_mem _ (k2 q hq))⟩
  | .leaf .non, h | .leaf (.bl _), h | .leaf (.int _), h | .leaf .bag, h | .leaf (.obj _ _), h | .leaf (.scr _), h => exact False.elim h
  | .vw .non, h | .vw (.bl _), h | .vw (.int _), h | .vw (.str _), h | .vw .bag, h | .vw (.obj _ _), h | .vw (.scr _), h => exact False.elim h
theorem de_ix (xo : XOk a X) (hB : notSlice B = true) (h : DE a X ρ A fun x => DE a X ρ B fun y => ixT x y.dat Φ) : DE a X ρ (.Subscript A B pos) Φ := fun σ H ts vs Q ok k => by
  refine ⟨_, pe_ix ix_seq pe_W pe_W (ix_plain hB), ?_⟩
  show WE X A σ H fun x H1 => WE X B σ H1 fun y H2 => rIx X.K x y H2 Q
  refine h σ H ts vs _ ok fun x tx H1 h1 ok1 => h1 σ H1 _ _ _ ok1 fun y ty H2 h2 ok2 => ?_
  have i2 := ok2.top
  have h2 : ixT tx ty.dat Φ := h2
  rw [xo.K]
  cases hy : ty.dat with
  | int n =>
    rw [hy] at i2 h2
    rw [i2.int]
    exact opd_ix ok2.pop1 h2 k
  | _ => rw [hy] at h2; exact False.elim h2

/-! ### displays, arguments -/
def notStar : Expr → Bool
  | .Starred _ _ => false
  | _ => true
theorem star_of {env : PySem.Env} {es : List Expr} (h : notStar e = true) : starEach (e :: es) env = (false, eval e env) :: starEach es env := by
  cases e <;> first | rfl | simp [notStar] at h
theorem stars_of {env : PySem.Env} : ∀ {es : List Expr}, es.all notStar = true → (starEach es env).all (fun x => !x.1) = true
  | [], _ => rfl
  | e :: es, h => by
    simp only [List.all_cons, Bool.and_eq_true] at h
    rw [star_of h.1, List.all_cons]
    simp only [Bool.not_false, Bool.true_and]
    exact stars_of h.2
theorem back_of {env : PySem.Env} {es : List Expr} (h : es.all notStar = true) : (backTo pos (starEach es env)).any (·.1) = false := by
  have h2 := stars_of (env := env) h
  unfold backTo
  rw [List.any_map, List.any_eq_false]
  rw [List.all_eq_true] at h2
  intro x hx
  have := h2 x hx
  simpa using this
/-- what is only read may be kept where it needs no heap -/
def T.fin (t : T) (Φ : T → Prop) : Prop := match t with
  | .vw d => d.flat = true ∧ Φ (.leaf d)
  | t => Φ t
theorem SOk.fin {t : T} {v : V} {Q : Prop} (ok : SOk a ρ σ (t :: ts) (v :: vs) H) (h : t.fin Φ) (k : ∀ t, Φ t → t.nvw = true → SOk a ρ σ (t :: ts) (v :: vs) H → Q) : Q := by
  cases t with
  | vw d =>
    obtain ⟨f, h⟩ := h
    exact k _ h rfl (SOk.flat f ok.top ok.pop1)
  | leaf d => exact k _ h rfl ok
  | lst us => exact k _ h rfl ok
  | tup us => exact k _ h rfl ok
theorem da_nil {Ψ : List T → Prop} (q : Ψ []) : DA a X ρ [] Ψ := fun σ H ts vs Q ok k => ⟨_, pa_nil, k [] [] H q rfl rfl ok⟩
theorem da_cons {es : List Expr} {Ψ : List T → Prop} (hs : notStar e = true) (h : DE a X ρ e fun x => x.fin fun t => DA a X ρ es fun us => Ψ (t :: us)) : DA a X ρ (e :: es) Ψ := fun σ H ts vs Q ok k => by
  refine ⟨_, pa_cons pe_W pa_W (star_of hs), ?_⟩
  show WE X e σ H fun x H1 => WA X es σ H1 fun xs H2 => Q (x :: xs) H2
  refine h σ H ts vs _ ok fun x tx H1 h1 ok1 => ok1.fin h1 fun t h2 n2 ok2 => ?_
  refine h2 σ H1 _ _ _ ok2 fun ws us H2 h3 n3 l ok3 => ?_
  exact k (x :: ws) (t :: us) H2 h3 (by rw [List.all_cons, n2, n3]; rfl) (by simp [l]) (SOk.rot l ok3)
theorem de_tup {es : List Expr} {j : Nat} (h : DA a X ρ es fun us => us.length ≤ 100000 ∧ Φ (T.mk us)) : DE a X ρ (.Tuple es j pos) Φ := fun σ H ts vs Q ok k => by
  refine ⟨_, pe_tup pa_W, ?_⟩
  show WA X es σ H fun xs H1 => xs.length ≤ sizeLine ∧ ∀ p, H1 p = none → Q (.ref p) (upd H1 p (.tup xs))
  exact h σ H ts vs _ ok fun ws us H1 ⟨hz, q⟩ n l ok1 => ⟨small (l ▸ hz), fun p hp => k _ _ _ q (ok1.mkTup l n hp)⟩
theorem de_lst {es : List Expr} (h : DA a X ρ es fun us => us.length ≤ 100000 ∧ Φ (.lst us)) : DE a X ρ (.List es pos) Φ := fun σ H ts vs Q ok k => by
  refine ⟨_, pe_lst pa_W, ?_⟩
  show WA X es σ H fun xs H1 => xs.length ≤ sizeLine ∧ ∀ p, H1 p = none → Q (.ref p) (upd H1 p (.lst xs))
  exact h σ H ts vs _ ok fun ws us H1 ⟨hz, q⟩ n l ok1 => ⟨small (l ▸ hz), fun p hp => k _ _ _ q (ok1.mkLst l n hp)⟩
end
end DL
namespace DL
open PySem PySem.Spec PyProof.Rows L2

/-! ### repr of data -/
mutual
/-- its ints have at most 500 figures -/
def D.sm : D → Bool
  | .int i => decide (i.natAbs < 10 ^ 250)
  | .tup ds => D.sms ds
  | .lst ds => D.sms ds
  | .non => true
  | .bl _ => true
  | .str _ => true
  | .bag => true
  | .obj _ _ => true
  | .scr _ => true
def D.sms : List D → Bool
  | [] => true
  | d :: r => d.sm && D.sms r
end
mutual
/-- its size -/
def D.wt : D → Nat
  | .str x => x.length
  | .tup ds => D.wts ds
  | .lst ds => D.wts ds
  | .int _ => 0
  | .non => 0
  | .bl _ => 0
  | .bag => 0
  | .obj _ _ => 0
  | .scr _ => 0
def D.wts : List D → Nat
  | [] => 0
  | d :: r => d.wt + 1 + D.wts r
end
theorem D.sms_eq : ∀ ds : List D, D.sms ds = ds.all D.sm
  | [] => by simp [D.sms]
  | d :: r => by simp [D.sms, D.sms_eq r]
theorem D.wts_le {n : Nat} : ∀ {ds : List D}, (∀ d ∈ ds, d.wt ≤ n) → D.wts ds ≤ ds.length * (n + 1)
  | [], _ => by simp [D.wts]
  | d :: r, h => by
    simp only [D.wts, List.length_cons]
    have h1 := h d List.mem_cons_self
    have h2 := D.wts_le (ds := r) fun e he => h e (List.mem_cons_of_mem _ he)
    rw [Nat.succ_mul]
    omega
theorem log10_250 {i : Int} (h : i.natAbs < 10 ^ 250) : i.natAbs.log2 < 1920 := Nat.lt_of_lt_of_le (PySem.Flt.log2_lt_of (k := 1000) (by decide) (Nat.lt_trans h (by decide +kernel))) (by decide)
mutual
theorem D.showable : ∀ d : D, d.sm = true → d.py.showable = true
  | .int i, h => by
    simp only [D.sm, decide_eq_true_eq] at h
    simp only [D.py, PyData.showable, decide_eq_true_eq]
    exact log10_250 h
  | .tup ds, h => by
    simp only [D.sm] at h
    simp only [D.py, PyData.showable]
    exact D.showables ds h
  | .lst ds, h => by
    simp only [D.sm] at h
    simp only [D.py, PyData.showable]
    exact D.showables ds h
  | .non, _ | .bl _, _ | .str _, _ | .bag, _ | .obj _ _, _ | .scr _, _ => by simp [D.py, PyData.showable]
theorem D.showables : ∀ ds : List D, D.sms ds = true → PyData.showableAll (D.pys ds) = true
  | [], _ => by simp [D.pys, PyData.showableAll]
  | d :: r, h => by
    simp only [D.sms, Bool.and_eq_true] at h
    simp only [D.pys, PyData.showableAll, Bool.and_eq_true]
    exact ⟨D.showable d h.1, D.showables r h.2⟩
end
theorem shown_int_250 {i : Int} (h : i.natAbs < 10 ^ 250) : (PyData.shown (.int i)).length ≤ 251 := by
  have e := int_text_length_le10 (k := 250) (by decide) h
  show (Str.ofString (toString i)).length ≤ 251
  rw [PySem.ofString_length]
  exact e
theorem strOk_short {x : Str} (h : PyData.strOk x = true) : (x.cps.toList.all fun c => decide (c < 16 ^ 8)) = true := by
  unfold PyData.strOk at h
  rw [← Array.all_toList] at h
  rw [List.all_eq_true] at h ⊢
  intro c hc
  have := of_decide_eq_true (h c hc)
  exact decide_eq_true (Nat.lt_trans this (by decide))
mutual
theorem D.short : ∀ d : D, d.lay = true → d.sm = true → d.py.leavesShort 251 = true
  | .int i, _, h => by
    simp only [D.sm, decide_eq_true_eq] at h
    simp only [D.py, PyData.leavesShort, decide_eq_true_eq]
    exact shown_int_250 h
  | .str x, l, _ => by
    simp only [D.lay] at l
    simp only [D.py, PyData.leavesShort]
    exact strOk_short l
  | .tup ds, l, h => by
    simp only [D.sm] at h
    simp only [D.lay] at l
    simp only [D.py, PyData.leavesShort]
    exact D.shorts ds l h
  | .lst ds, l, h => by
    simp only [D.sm] at h
    simp only [D.lay] at l
    simp only [D.py, PyData.leavesShort]
    exact D.shorts ds l h
  | .non, _, _ | .bl _, _, _ | .bag, _, _ | .obj _ _, _, _ | .scr _, _, _ => by simp [D.py, PyData.leavesShort]
theorem D.shorts : ∀ ds : List D, D.lays ds = true → D.sms ds = true → PyData.leavesShortAll 251 (D.pys ds) = true
  | [], _, _ => by simp [D.pys, PyData.leavesShortAll]
  | d :: r, l, h => by
    simp only [D.sms, Bool.and_eq_true] at h
    simp only [D.lays, Bool.and_eq_true] at l
    simp only [D.pys, PyData.leavesShortAll, Bool.and_eq_true]
    exact ⟨D.short d l.1 h.1, D.shorts r l.2 h.2⟩
end
mutual
theorem D.nodict : ∀ d : D, d.py.hasDict = false
  | .tup ds => by simp only [D.py, PyData.hasDict]; exact D.nodicts ds
  | .lst ds => by simp only [D.py, PyData.hasDict]; exact D.nodicts ds
  | .int _ | .non | .bl _ | .str _ | .bag | .obj _ _ | .scr _ => by simp [D.py, PyData.hasDict]
theorem D.nodicts : ∀ ds : List D, PyData.hasDictAll (D.pys ds) = false
  | [] => by simp [D.pys, PyData.hasDictAll]
  | d :: r => by simp only [D.pys, PyData.hasDictAll, D.nodict d, D.nodicts r, Bool.or_self]
end
mutual
theorem D.bulk_eq : ∀ d : D, d.py.bulk = d.wt
  | .str x => by simp [D.py, PyData.bulk, D.wt]; rfl
  | .tup ds => by simp only [D.py, PyData.bulk, D.wt]; exact D.bulks_eq ds
  | .lst ds => by simp only [D.py, PyData.bulk, D.wt]; exact D.bulks_eq ds
  | .int _ | .non | .bl _ | .bag | .obj _ _ | .scr _ => by simp [D.py, PyData.bulk, D.wt]
theorem D.bulks_eq : ∀ ds : List D, PyData.bulkAll (D.pys ds) = D.wts ds
  | [] => by simp [D.pys, PyData.bulkAll, D.wts]
  | d :: r => by simp only [D.pys, PyData.bulkAll, D.wts, D.bulk_eq d, D.bulks_eq r]
end
/-- what repr may be asked of -/
def D.Shw (d : D) : Prop := d.Fit ∧ d.sm = true ∧ d.wt ≤ 50000
theorem D.Shw.len {d : D} (h : d.Shw) : d.py.shown.length ≤ sizeLine := by
  have h1 := PyData.shown_le_bulk 251 (by decide) d.py (D.short d h.1.1 h.2.1)
  rw [D.bulk_eq] at h1
  have h2 := h.2.2
  rw [sizeLine_eq]
  omega
def shown (d : D) : Str := d.py.shown
section
variable {X : Cx} {a : An0}
theorem repr_at {pins : List (Addr × Obj)} {σ : L2.St} {H : Hp} {s : Shared} {Q : VK} {u : Value} {dp : PyData} {as : List Addr} (xg : X.A.guards = some []) (xu : X.A.units + 200 < cLine) (I : Inv X pins σ H s)
    (hz : dp.shown.length ≤ sizeLine) (hsh : dp.showable = true) (hnd : dp.hasDict = false) (hdep : dp.depth ≤ 60) (rd : Reads s.heap u dp as) (q : Q (.str dp.shown) H) :
    wpAny (model X.prog X.w) X.A (call (.builtin "repr") [u]) (EP X pins σ Q) X.xe s := by
  cases rd with
  | none => exact PySem.P.repr_of_none ⟨.str _, H, I.tok _, ⟨_, rfl⟩, by simp only [PyData.shown] at q; exact q⟩
  | bool b => exact PySem.P.repr_of_bool ⟨.str _, H, I.tok _, ⟨_, rfl⟩, by simp only [PyData.shown] at q; exact q⟩
  | int i t =>
    refine PySem.P.repr_of_int ?_ ⟨.str _, H, I.tok _, ⟨_, rfl⟩, by simp only [PyData.shown] at q; exact q⟩
    simpa [PyData.showable] using hsh
  | str y t => exact PySem.P.repr_of_str ⟨.str _, H, I.tok _, ⟨_, rfl⟩, by simp only [PyData.shown] at q; exact q⟩ (by simpa [PyData.shown] using hz)
  | list h1 h2 h3 h4 =>
    exact repr_of_reads' (Reads.list h1 h2 h3 h4) hsh (PyData.noDict_hsm hnd) xg (by omega) (fun _ _ e => e) (fun h' v tk hk => ⟨.str _, H, I.kept hk, ⟨_, rfl⟩, q⟩) hz
  | tuple h1 h2 h3 h4 =>
    exact repr_of_reads' (Reads.tuple h1 h2 h3 h4) hsh (PyData.noDict_hsm hnd) xg (by omega) (fun _ _ e => e) (fun h' v tk hk => ⟨.str _, H, I.kept hk, ⟨_, rfl⟩, q⟩) hz
  | dict h1 h2 h3 h4 h5 => simp [PyData.hasDict] at hnd
theorem call_reprD (xg : X.A.guards = some []) (xu : X.A.units + 200 < cLine) : CallR X (.builtin "repr") (fun xs H Q => ∃ (x : V) (d : D), xs = [x] ∧ d.Shw ∧ Dp X.K H x d.py ∧ Q (.str (shown d)) H) := by
  intro pins s σ H xs us Q I r h
  obtain ⟨x, d, rfl, hs, hd, q⟩ := h
  obtain ⟨u, rfl, ru⟩ := vals1 r
  have hz := hs.len
  have hsh := D.showable d hs.2.1
  have hnd := D.nodict d
  have hdep : d.py.depth ≤ 60 := Nat.le_trans (D.depth_le d) hs.1.2
  unfold shown at q
  obtain ⟨as, rd⟩ := Dp.reads I d.py x u hd ru
  exact repr_at xg xu I hz hsh hnd hdep rd q
end
end DL
namespace DL
open PySem PySem.Spec PyProof.Rows L2

/-! ### sorted(xs), xs of alike data -/
theorem vals_each {f : V × PyData → Prop} {α : Type} (g : α → V) : ∀ {bs : List α} {us : List Value}, Vals (bs.map g) us → PySem.W.EachIs (fun u b => RelV (g b) u) us bs
  | [], us, h => by cases h; exact .nil
  | b :: bs, us, h => by
    cases h with
    | cons r t => exact .cons r (vals_each (f := f) g t)
theorem each_vals {α : Type} (g : α → V) : ∀ {bs : List α} {us : List Value}, PySem.W.EachIs (fun u b => RelV (g b) u) us bs → Vals (bs.map g) us
  | [], us, h => by cases h; exact .nil
  | b :: bs, us, h => by
    cases h with
    | cons r t => exact .cons r (each_vals g t)
theorem each_both {α β : Type} {R Q : α → β → Prop} : ∀ {as : List α} {bs : List β}, PySem.W.EachIs R as bs → (∀ a b, b ∈ bs → R a b → Q a b) → PySem.W.EachIs Q as bs
  | _, _, .nil, _ => .nil
  | _, _, .cons h t, k => .cons (k _ _ List.mem_cons_self h) (each_both t fun a b hb => k a b (List.mem_cons_of_mem _ hb))
/-- the items with what they read as -/
def rSortD {α : Type} (g : α → V) (py : α → PyData) (K : PySem.W.Frag) : List V → Hp → VK → Prop := fun vs H Q => ∃ (p : Addr) (bs : List α), vs = [.ref p] ∧ SqL K H p (bs.map g) ∧ (∀ b ∈ bs, Dp K H (g b) (py b) ∧ (py b).depth ≤ 60) ∧ PySem.W.AllAlike (bs.map py) ∧ PySem.W.Sortable (bs.map py) ∧
  ∀ l, H l = none → Q (.ref l) (upd H l (.lst ((bs.mergeSort (PySem.W.dataLe false py)).map g)))
theorem cr_sortedD {X : Cx} {α : Type} {g : α → V} {py : α → PyData} (xu : X.A.units + 200 < cLine) : CallR X (.builtin "sorted") (rSortD g py X.K) := by
  intro pins s σ H vs us Q I r h
  obtain ⟨p, bs, rfl, hs, hd, al, so, q⟩ := h
  obtain ⟨its, rv, hl, hz⟩ := I.list hs
  rw [Vals.ref1 r]
  have ev := vals_each (f := fun _ => True) g rv
  have hlen : bs.length ≤ sizeLine := by simpa using hz
  refine PySem.W.sorted_data (R := fun u b => RelV (g b) u) (enc := py) (bs := bs) hl.isList ev (each_both ev fun u b hb hr => Dp.reads I _ _ _ (hd b hb).1 hr) al so hlen (fun b hb => ?_) fun out ho he => ?_
  · have := (hd b hb).2
    omega
  · obtain ⟨ep, he'⟩ := PyProof.Rows.sortedAll_at s.heap its out.toArray
    have hn := I.hok.fresh (Nat.le_succ s.heap.objs.size)
    have hm : ((bs.mergeSort (PySem.W.dataLe false py)).map g).length ≤ sizeLine := by
      rw [List.length_map, List.length_mergeSort]; exact hlen
    exact ⟨.ref _, upd H (s.heap.objs.size + 1) (.lst ((bs.mergeSort (PySem.W.dataLe false py)).map g)), I.laid (t' := s.toks) (fun _ _ => PyProof.Rows.sortedAll_old) (Nat.le_succ _) ⟨hm, out, ep, each_vals g he, he'⟩, rfl, q _ hn⟩
end DL
namespace DL
open PySem PySem.Spec PyProof.Rows L2
section
variable {a : An0} {X : Cx} {ρ : Env} {σ : L2.St} {ts : List T} {vs : List V} {H F : Hp} {Sc Sm : List Addr} {Φ : T → Prop} {pos p : Pos} {e A B C : Expr} {es : List Expr}

theorem dv_nil {Ψ : List T → Prop} (q : Ψ []) : DV a X ρ [] Ψ := fun σ H ts vs Q ok k => ⟨_, pa_nil, k [] [] H q rfl ok⟩
theorem dv_cons {Ψ : List T → Prop} (hs : notStar e = true) (h : DE a X ρ e fun t => DV a X ρ es fun us => Ψ (t :: us)) : DV a X ρ (e :: es) Ψ := fun σ H ts vs Q ok k => by
  refine ⟨_, pa_cons pe_W pa_W (star_of hs), ?_⟩
  show WE X e σ H fun x H1 => WA X es σ H1 fun xs H2 => Q (x :: xs) H2
  refine h σ H ts vs _ ok fun x t H1 h2 ok2 => ?_
  refine h2 σ H1 _ _ _ ok2 fun ws us H2 h3 l ok3 => ?_
  exact k (x :: ws) (t :: us) H2 h3 (by simp [l]) (SOk.rot l ok3)
theorem SOk.args {us : List T} {ws : List V} (ok : SOk a ρ σ (us ++ ts) (ws ++ vs) H) (l : us.length = ws.length) : IsL a.toAn (hb a.toAn H) (T.dats us) ws ∧ SOk a ρ σ ts vs H := by
  refine ⟨?_, ok.pop l⟩
  obtain ⟨F, Sc, Sm, w⟩ := ok
  obtain ⟨S1, S2, h1, h2, e⟩ := OwL.split w.tmps l
  exact OwL.is w.sub w.nobag h1 fun p hp => (w.fr p (List.mem_append_right _ (by rw [e]; exact List.mem_append_left _ hp))).2.1

inductive Blt where
  | len | abs | max | min | sum | all | any | sorted | repr
  | list | tuple | int | bool | str
  deriving DecidableEq
def Blt.nm : Blt → Str
  | .len => "len" | .abs => "abs" | .max => "max" | .min => "min" | .sum => "sum" | .all => "all" | .any => "any" | .sorted => "sorted" | .repr => "repr"
  | .list => "list" | .tuple => "tuple" | .int => "int" | .bool => "bool" | .str => "str"
def D.toInts : List D → Option (List Int)
  | [] => some []
  | .int i :: r => (D.toInts r).map (i :: ·)
  | _ :: _ => none
def D.toBls : List D → Option (List Bool)
  | [] => some []
  | .bl i :: r => (D.toBls r).map (i :: ·)
  | _ :: _ => none
theorem toInts_eq : ∀ {ds : List D} {ns : List Int}, D.toInts ds = some ns → ds = ns.map .int
  | [], ns, h => by simp [D.toInts] at h; subst h; rfl
  | .int i :: r, ns, h => by
    simp only [D.toInts, Option.map_eq_some_iff] at h
    obtain ⟨m, h1, rfl⟩ := h
    rw [toInts_eq h1, List.map_cons]
  | .non :: _, _, h | .bl _ :: _, _, h | .str _ :: _, _, h | .tup _ :: _, _, h | .lst _ :: _, _, h | .bag :: _, _, h | .obj _ _ :: _, _, h | .scr _ :: _, _, h => by simp [D.toInts] at h
theorem toInts_map : ∀ ns : List Int, D.toInts (ns.map .int) = some ns
  | [] => rfl
  | n :: r => by simp [D.toInts, toInts_map r]
theorem toBls_eq : ∀ {ds : List D} {ns : List Bool}, D.toBls ds = some ns → ds = ns.map .bl
  | [], ns, h => by simp [D.toBls] at h; subst h; rfl
  | .bl i :: r, ns, h => by
    simp only [D.toBls, Option.map_eq_some_iff] at h
    obtain ⟨m, h1, rfl⟩ := h
    rw [toBls_eq h1, List.map_cons]
  | .non :: _, _, h | .int _ :: _, _, h | .str _ :: _, _, h | .tup _ :: _, _, h | .lst _ :: _, _, h | .bag :: _, _, h | .obj _ _ :: _, _, h | .scr _ :: _, _, h => by simp [D.toBls] at h
theorem toBls_map : ∀ ns : List Bool, D.toBls (ns.map .bl) = some ns
  | [] => rfl
  | n :: r => by simp [D.toBls, toBls_map r]
theorem IsL.bls {a : An} {F : Hp} : ∀ {ns : List Bool} {vs : List V}, IsL a F (ns.map D.bl) vs → vs = ns.map V.bl
  | [], vs, h => by simpa [IsL] using h
  | n :: ns, vs, h => by
    simp only [List.map_cons, IsL, Is] at h
    obtain ⟨v, r, rfl, rfl, h⟩ := h
    rw [IsL.bls h, List.map_cons]
/-- a built-in on plain data: flat answers -/
def bltD : Blt → List D → (D → Prop) → Prop
  | .len, [.lst ds], Φ => Φ (.int ds.length)
  | .len, [.tup ds], Φ => Φ (.int ds.length)
  | .len, [.str z], Φ => z.length ≤ 100000 ∧ Φ (.int z.length)
  | .abs, [.int i], Φ => Φ (.int (if i < 0 then -i else i))
  | .max, [.int i, .int j], Φ => Φ (.int (if j > i then j else i))
  | .min, [.int i, .int j], Φ => Φ (.int (if j < i then j else i))
  | .max, [.int i, .int j, .int k], Φ => Φ (.int (if (if i < j then j else i) < k then k else if i < j then j else i))
  | .max, [.lst ds], Φ => ∃ ns, D.toInts ds = some ns ∧ 0 < ns.length ∧ ∀ m, m ∈ ns → (∀ y, y ∈ ns → y ≤ m) → Φ (.int m)
  | .min, [.lst ds], Φ => ∃ ns, D.toInts ds = some ns ∧ 0 < ns.length ∧ ∀ m, m ∈ ns → (∀ y, y ∈ ns → m ≤ y) → Φ (.int m)
  | .sum, [.lst ds], Φ => ∃ ns, D.toInts ds = some ns ∧ Φ (.int ns.sum)
  | .sum, [.tup ds], Φ => ∃ ns, D.toInts ds = some ns ∧ Φ (.int ns.sum)
  | .all, [.lst ds], Φ => ∃ bs, D.toBls ds = some bs ∧ Φ (.bl (bs.all id))
  | .any, [.lst ds], Φ => ∃ bs, D.toBls ds = some bs ∧ Φ (.bl (bs.any id))
  | .repr, [d], Φ => d.Shw ∧ Φ (.str (shown d))
  | .int, [.int i], Φ => Φ (.int i)
  | .int, [.bl k], Φ => Φ (.int (if k then 1 else 0))
  | .bool, [.int i], Φ => Φ (.bl (i != 0))
  | .bool, [.bl k], Φ => Φ (.bl k)
  | .str, [.int i], Φ => i.natAbs.log2 < 1920 ∧ Φ (.str (toString i))
  | .str, [.str z], Φ => Φ (.str z)
  | _, _, _ => False
/-- items that sorted may be asked of, and their order -/
def leT : T → T → Bool := PySem.W.dataLe false fun t => t.dat.py
def SortOk (us : List T) : Prop := (∀ t ∈ us, t.dat.lay = true ∧ t.dat.dep ≤ 60) ∧ PySem.W.AllAlike (us.map fun t => t.dat.py) ∧ PySem.W.Sortable (us.map fun t => t.dat.py)
theorem isl_zip {a : An} {F : Hp} : ∀ {us : List T} {zs : List V}, IsL a F (T.dats us) zs → ∀ b ∈ zs.zip us, Is a F b.2.dat b.1
  | [], zs, h, b, hb => by simp at hb
  | u :: us, zs, h, b, hb => by
    simp only [T.dats, IsL] at h
    obtain ⟨v, r, rfl, h1, h2⟩ := h
    rcases List.mem_cons.mp hb with rfl | hb
    · exact h1
    · exact isl_zip h2 b hb
theorem owl_perm {a : An} {F H : Hp} {bs bs' : List (V × T)} (p : bs'.Perm bs) : ∀ {S : List Addr}, OwL a F H (bs'.map (·.2)) (bs'.map (·.1)) S → ∃ S', OwL a F H (bs.map (·.2)) (bs.map (·.1)) S' ∧ S'.Perm S := by
  induction p with
  | nil => exact fun {S} h => ⟨S, h, List.Perm.refl _⟩
  | cons x _ ih =>
    intro S h
    simp only [List.map_cons, OwL] at h ⊢
    obtain ⟨v, r, S1, S2, e, h1, h2, rfl⟩ := h
    cases e
    obtain ⟨S', h3, p3⟩ := ih h2
    exact ⟨S1 ++ S', ⟨_, _, S1, S', rfl, h1, h3, rfl⟩, p3.append_left S1⟩
  | swap x y l =>
    intro S h
    simp only [List.map_cons, OwL] at h ⊢
    obtain ⟨v, r, S1, S2, e, h1, ⟨v', r', S3, S4, e', h3, h4, rfl⟩, rfl⟩ := h
    cases e
    cases e'
    refine ⟨S3 ++ (S1 ++ S4), ⟨_, _, S3, S1 ++ S4, rfl, h3, ⟨_, _, S1, S4, rfl, h1, h4, rfl⟩, rfl⟩, ?_⟩
    rw [← List.append_assoc, ← List.append_assoc]
    exact List.perm_append_comm.append_right S4
  | trans _ _ ih1 ih2 =>
    intro S h
    obtain ⟨S1, h1, p1⟩ := ih1 h
    obtain ⟨S2, h2, p2⟩ := ih2 h1
    exact ⟨S2, h2, p2.trans p1⟩
def bltT : Blt → List T → (T → Prop) → Prop
  | .sorted, [x], Φ => (∃ ds ns, x.dat = .lst ds ∧ D.toInts ds = some ns ∧ ∀ ns' : List Int, ns'.Perm ns → ns'.Pairwise (· ≤ ·) → Φ (.lst (ns'.map fun n => .leaf (.int n)))) ∨ ∃ us, x.its = some us ∧ SortOk us ∧ Φ (.lst (us.mergeSort leT))
  | .list, [x], Φ => ∃ us, (x.its = some us ∨ x.prt = some us) ∧ Φ (.lst us)
  | .tuple, [x], Φ => ∃ us, (x.its = some us ∨ x.prt = some us) ∧ Φ (T.mk us)
  | f, us, Φ => bltD f (T.dats us) fun d => Φ (.leaf d)
def CallD (a : An0) (r : List V → Hp → VK → Prop) (g : List T → (T → Prop) → Prop) : Prop := ∀ (ρ : Env) σ H ts vs us ws (Φ : T → Prop) (Q : VK), SOk a ρ σ (us ++ ts) (ws ++ vs) H → us.length = ws.length → g us Φ →
  (∀ v t H', Φ t → SOk a ρ σ (t :: ts) (v :: vs) H' → Q v H') → r ws H Q
theorem de_callB {x : Str} {id : String} {r : List V → Hp → VK → Prop} {g : List T → (T → Prop) → Prop} (hc : CallR X (.builtin id) r) (hr : CallD a r g) (hg : Gl X x) (hm : X.mg x = none) (hv : bootBuiltins x = some (.builtin id)) (hn : x ≠ "__name__") (hd : (x == ("__debug__" : Str)) = false)
    (h1 : notStar e = true) (h2 : es.all notStar = true) (h : DV a X ρ (e :: es) fun us => g us Φ) : DE a X ρ (.Call (.Name x p) (e :: es) [] pos) Φ := fun σ H ts vs Q ok k =>
  ⟨_, pe_callB hc hg hm hv pa_W hn hd (star_of h1) (back_of h2), h σ H ts vs _ ok fun ws us H1 q l ok1 => hr ρ σ H1 ts vs us ws Φ Q ok1 l q k⟩
theorem de_callTy {x : Str} {id : String} {r : List V → Hp → VK → Prop} {g : List T → (T → Prop) → Prop} (hc : CallR X (.type id) r) (hr : CallD a r g) (hg : Gl X x) (hm : X.mg x = none) (hv : bootBuiltins x = some (.type id)) (hn : x ≠ "__name__") (hd : (x == ("__debug__" : Str)) = false)
    (h1 : notStar e = true) (h2 : es.all notStar = true) (h : DV a X ρ (e :: es) fun us => g us Φ) : DE a X ρ (.Call (.Name x p) (e :: es) [] pos) Φ := fun σ H ts vs Q ok k =>
  ⟨_, pe_callTy hc hg hm hv pa_W hn hd (star_of h1) (back_of h2), h σ H ts vs _ ok fun ws us H1 q l ok1 => hr ρ σ H1 ts vs us ws Φ Q ok1 l q k⟩
/-- flat answers by plain data -/
theorem cd_flat {r : List V → Hp → VK → Prop} {f : Blt} (hr : ∀ G H (Q : VK) ds ws Ψ, Sub G H → IsL a.toAn G ds ws → bltD f ds Ψ → (∀ d v, Ψ d → d.flat = true → Is a.toAn G d v → Q v H) → r ws H Q) : CallD a r fun us Φ => bltD f (T.dats us) fun d => Φ (.leaf d) :=
  fun ρ σ H ts vs us ws Φ Q ok l h k => by
    obtain ⟨il, ok'⟩ := ok.args l
    exact hr _ H Q _ ws _ (hb_sub _ _) il h fun d v hd f is => k v _ H hd (SOk.flat f is ok')
theorem one {G : Hp} {d : D} {ws : List V} (h : IsL a.toAn G [d] ws) : ∃ v, ws = [v] ∧ Is a.toAn G d v := by
  simp only [IsL] at h
  obtain ⟨v, r, rfl, h1, rfl⟩ := h
  exact ⟨v, rfl, h1⟩
theorem two {G : Hp} {d d' : D} {ws : List V} (h : IsL a.toAn G [d, d'] ws) : ∃ v v', ws = [v, v'] ∧ Is a.toAn G d v ∧ Is a.toAn G d' v' := by
  simp only [IsL] at h
  obtain ⟨v, r, rfl, h1, v', r', rfl, h2, rfl⟩ := h
  exact ⟨v, v', rfl, h1, h2⟩
theorem Is.lstE {G : Hp} {ds : List D} {v : V} (h : Is a.toAn G (.lst ds) v) : ∃ p vs, v = .ref p ∧ G p = some (.lst vs) ∧ IsL a.toAn G ds vs := by simpa only [Is] using h
theorem Is.tupE {G : Hp} {ds : List D} {v : V} (h : Is a.toAn G (.tup ds) v) : ∃ p vs, v = .ref p ∧ SqT a.K G p vs ∧ IsL a.toAn G ds vs := by simpa only [Is] using h
theorem Is.intsE {G : Hp} {ds : List D} {ns : List Int} {v : V} (h : Is a.toAn G (.lst ds) v) (e : D.toInts ds = some ns) : ∃ p, v = .ref p ∧ G p = some (.lst (ns.map V.int)) := by
  obtain ⟨p, vs, rfl, q, il⟩ := h.lstE
  rw [toInts_eq e] at il
  rw [IsL.ints.mp il] at q
  exact ⟨p, rfl, q⟩
theorem Is.blsE {G : Hp} {ds : List D} {ns : List Bool} {v : V} (h : Is a.toAn G (.lst ds) v) (e : D.toBls ds = some ns) : ∃ p, v = .ref p ∧ G p = some (.lst (ns.map V.bl)) := by
  obtain ⟨p, vs, rfl, q, il⟩ := h.lstE
  rw [toBls_eq e] at il
  rw [il.bls] at q
  exact ⟨p, rfl, q⟩
theorem isI {G : Hp} {i : Int} : Is a.toAn G (.int i) (.int i) := by simp only [Is]
theorem isB {G : Hp} {i : Bool} : Is a.toAn G (.bl i) (.bl i) := by simp only [Is]
theorem isS {G : Hp} {i : Str} : Is a.toAn G (.str i) (.str i) := by simp only [Is]
theorem cr_sumT (hc : X.calm = true) : CallR X (.builtin "sum") (fun xs H Q => ∃ (p : Addr) (ns : List Int), xs = [.ref p] ∧ SqT X.K H p (ns.map V.int) ∧ Q (.int ns.sum) H) := by
  intro pins s σ H vs us Q I r h
  obtain ⟨a, ns, rfl, hs, q⟩ := h
  obtain ⟨its, rv, hl, _⟩ := I.tuple hs
  rw [Vals.ref1 r]
  have hi := rv.ints
  obtain ⟨xs, e⟩ := hi.allInts.items
  have hn : numsOf (intItems xs).toList = ns := by rw [← e]; exact hi.numsOf
  rw [nums_intItems] at hn
  rw [e] at hl
  obtain ⟨o, ho, hc1, n, hd⟩ := hl
  refine PySem.W.ktm_sumG (I.ok.hd hc) ⟨o, ho, hc1, n, hd⟩ fun h' tk t' hk => ?_
  refine ⟨.int _, H, I.kept hk, ⟨_, rfl⟩, ?_⟩
  rw [preSum_eq, List.take_of_length_le (by simp), hn]
  exact q
abbrev CallRs := List V → Hp → VK → Prop
def rBlt (K : PySem.W.Frag) : Blt → CallRs
  | .len => fun xs H Q => (∃ p ys, xs = [.ref p] ∧ (SqL K H p ys ∨ SqT K H p ys) ∧ Q (.int ys.length) H) ∨ (∃ z, xs = [.str z] ∧ z.length ≤ sizeLine ∧ Q (.int z.length) H)
  | .abs => fun xs H Q => ∃ i, xs = [.int i] ∧ Q (.int (if i < 0 then -i else i)) H
  | .max => fun xs H Q => (∃ i j, xs = [.int i, .int j] ∧ Q (.int (if j > i then j else i)) H) ∨ rMax K xs H Q ∨ rNuC3 nuMax3 xs H Q
  | .min => fun xs H Q => (∃ i j, xs = [.int i, .int j] ∧ Q (.int (if j < i then j else i)) H) ∨ rMin K xs H Q
  | .sum => fun xs H Q => rSum K xs H Q ∨ ∃ (p : Addr) (ns : List Int), xs = [.ref p] ∧ SqT K H p (ns.map V.int) ∧ Q (.int ns.sum) H
  | .all => rAll K
  | .any => rAny K
  | .sorted => fun xs H Q => rSortedI K xs H Q ∨ rSortD (α := V × T) (fun b => b.1) (fun b => b.2.dat.py) K xs H Q
  | .repr => fun xs H Q => ∃ (x : V) (d : D), xs = [x] ∧ d.Shw ∧ Dp K H x d.py ∧ Q (.str (shown d)) H
  | .list => fun xs H Q => ∃ p ys, xs = [.ref p] ∧ (SqL K H p ys ∨ SqT K H p ys) ∧ ∀ l, H l = none → Q (.ref l) (upd H l (.lst ys))
  | .tuple => fun xs H Q => ∃ p ys, xs = [.ref p] ∧ ((SqL K H p ys ∧ ∀ l, H l = none → Q (.ref l) (upd H l (.tup ys))) ∨ (SqT K H p ys ∧ Q (.ref p) H))
  | .int => fun xs H Q => (∃ i, xs = [.int i] ∧ Q (.int i) H) ∨ ∃ k, xs = [.bl k] ∧ Q (.int (if k then 1 else 0)) H
  | .bool => fun xs H Q => (∃ i, xs = [.int i] ∧ Q (.bl (i != 0)) H) ∨ ∃ k, xs = [.bl k] ∧ Q (.bl k) H
  | .str => fun xs H Q => (∃ i, xs = [.int i] ∧ i.natAbs.log2 < 1920 ∧ Q (.str (toString i)) H) ∨ ∃ z, xs = [.str z] ∧ Q (.str z) H
theorem cd_blt : ∀ f : Blt, CallD a (rBlt a.K f) (bltT f)
  | .len => cd_flat fun G H Q ds ws Ψ sub il h k => by
      match ds, h with
      | [.lst es], h =>
        obtain ⟨v, rfl, i1⟩ := one il
        obtain ⟨p, us, rfl, q, il2⟩ := i1.lstE
        exact .inl ⟨p, us, rfl, .inl (.inl (.inl (sub _ _ q))), by rw [il2.length]; exact k _ _ h rfl isI⟩
      | [.tup es], h =>
        obtain ⟨v, rfl, i1⟩ := one il
        obtain ⟨p, us, rfl, q, il2⟩ := i1.tupE
        exact .inl ⟨p, us, rfl, .inr (sub_t sub q), by rw [il2.length]; exact k _ _ h rfl isI⟩
      | [.str z], h =>
        obtain ⟨v, rfl, i1⟩ := one il
        obtain rfl := i1.str
        exact .inr ⟨z, rfl, small h.1, k _ _ h.2 rfl isI⟩
  | .abs => cd_flat fun G H Q ds ws Ψ sub il h k => by
      match ds, h with
      | [.int i], h =>
        obtain ⟨v, rfl, i1⟩ := one il
        obtain rfl := i1.int
        exact ⟨i, rfl, k _ _ h rfl isI⟩
  | .max => cd_flat fun G H Q ds ws Ψ sub il h k => by
      match ds, h with
      | [.int i, .int j], h =>
        obtain ⟨v, v', rfl, i1, i2⟩ := two il
        obtain rfl := i1.int
        obtain rfl := i2.int
        exact .inl ⟨i, j, rfl, k _ _ h rfl isI⟩
      | [.lst es], h =>
        obtain ⟨v, rfl, i1⟩ := one il
        obtain ⟨ns, e, l, h⟩ := h
        obtain ⟨p, rfl, q⟩ := i1.intsE e
        exact .inr (.inl ⟨p, ns, rfl, .inl (.inl (sub _ _ q)), l, fun m h1 h2 => k _ _ (h m h1 h2) rfl isI⟩)
      | [.int i, .int j, .int n], h =>
        simp only [IsL, Is] at il
        obtain ⟨_, _, rfl, rfl, _, _, rfl, rfl, _, _, rfl, rfl, rfl⟩ := il
        refine .inr (.inr ⟨_, _, _, _, rfl, ?_, k _ _ h rfl isI⟩)
        show nuMax3 (.int i) (.int j) (.int n) = _
        simp only [nuMax3, nuMax2, nuLt, nuCB, Option.map_some, Option.bind_some, decide_eq_true_eq]
        split <;> simp [nuCB] <;> split <;> simp_all
  | .min => cd_flat fun G H Q ds ws Ψ sub il h k => by
      match ds, h with
      | [.int i, .int j], h =>
        obtain ⟨v, v', rfl, i1, i2⟩ := two il
        obtain rfl := i1.int
        obtain rfl := i2.int
        exact .inl ⟨i, j, rfl, k _ _ h rfl isI⟩
      | [.lst es], h =>
        obtain ⟨v, rfl, i1⟩ := one il
        obtain ⟨ns, e, l, h⟩ := h
        obtain ⟨p, rfl, q⟩ := i1.intsE e
        exact .inr ⟨p, ns, rfl, .inl (.inl (sub _ _ q)), l, fun m h1 h2 => k _ _ (h m h1 h2) rfl isI⟩
  | .sum => cd_flat fun G H Q ds ws Ψ sub il h k => by
      match ds, h with
      | [.lst es], h =>
        obtain ⟨v, rfl, i1⟩ := one il
        obtain ⟨ns, e, h⟩ := h
        obtain ⟨p, rfl, q⟩ := i1.intsE e
        exact .inl ⟨p, ns, rfl, .inl (.inl (sub _ _ q)), k _ _ h rfl isI⟩
      | [.tup es], h =>
        obtain ⟨v, rfl, i1⟩ := one il
        obtain ⟨ns, e, h⟩ := h
        simp only [Is] at i1
        obtain ⟨p, vs, rfl, q, il2⟩ := i1
        rw [toInts_eq e] at il2
        rw [IsL.ints.mp il2] at q
        exact .inr ⟨p, ns, rfl, sub_t sub q, k _ _ h rfl isI⟩
  | .all => cd_flat fun G H Q ds ws Ψ sub il h k => by
      match ds, h with
      | [.lst es], h =>
        obtain ⟨v, rfl, i1⟩ := one il
        obtain ⟨ns, e, h⟩ := h
        obtain ⟨p, rfl, q⟩ := i1.blsE e
        exact ⟨p, ns, rfl, .inl (.inl (sub _ _ q)), k _ _ h rfl isB⟩
  | .any => cd_flat fun G H Q ds ws Ψ sub il h k => by
      match ds, h with
      | [.lst es], h =>
        obtain ⟨v, rfl, i1⟩ := one il
        obtain ⟨ns, e, h⟩ := h
        obtain ⟨p, rfl, q⟩ := i1.blsE e
        exact ⟨p, ns, rfl, .inl (.inl (sub _ _ q)), k _ _ h rfl isB⟩
  | .repr => cd_flat fun G H Q ds ws Ψ sub il h k => by
      match ds, h with
      | [d], h =>
        obtain ⟨v, rfl, i1⟩ := one il
        exact ⟨v, d, rfl, h.1, i1.dp sub h.1.1.1, k _ _ h.2 rfl isS⟩
  | .int => cd_flat fun G H Q ds ws Ψ sub il h k => by
      match ds, h with
      | [.int i], h =>
        obtain ⟨v, rfl, i1⟩ := one il
        obtain rfl := i1.int
        exact .inl ⟨i, rfl, k _ _ h rfl isI⟩
      | [.bl i], h =>
        obtain ⟨v, rfl, i1⟩ := one il
        obtain rfl := i1.bl
        exact .inr ⟨i, rfl, k _ _ h rfl isI⟩
  | .bool => cd_flat fun G H Q ds ws Ψ sub il h k => by
      match ds, h with
      | [.int i], h =>
        obtain ⟨v, rfl, i1⟩ := one il
        obtain rfl := i1.int
        exact .inl ⟨i, rfl, k _ _ h rfl isB⟩
      | [.bl i], h =>
        obtain ⟨v, rfl, i1⟩ := one il
        obtain rfl := i1.bl
        exact .inr ⟨i, rfl, k _ _ h rfl isB⟩
  | .str => cd_flat fun G H Q ds ws Ψ sub il h k => by
      match ds, h with
      | [.int i], h =>
        obtain ⟨v, rfl, i1⟩ := one il
        obtain rfl := i1.int
        exact .inl ⟨i, rfl, h.1, k _ _ h.2 rfl isS⟩
      | [.str i], h =>
        obtain ⟨v, rfl, i1⟩ := one il
        obtain rfl := i1.str
        exact .inr ⟨i, rfl, k _ _ h rfl isS⟩
  | .sorted => fun ρ σ H ts vs us ws Φ Q ok l h k => by
      match us, h with
      | [x], h =>
        rcases h with ⟨ds, ns, e1, e2, h⟩ | ⟨us, hx, so, h⟩
        · obtain ⟨il, ok'⟩ := ok.args l
          rw [T.dats, T.dats, e1] at il
          obtain ⟨v, rfl, i1⟩ := one il
          obtain ⟨p, rfl, q⟩ := i1.intsE e2
          refine .inl ⟨p, ns, rfl, .inl (.inl (hb_sub _ _ _ _ q)), fun ns' p' h1 h2 hp => k _ _ _ (h ns' h1 h2) ?_⟩
          have hm : (ns'.map fun n => T.leaf (.int n)) = (ns'.map D.int).map .leaf := by simp
          rw [hm]
          obtain ⟨F, Sc, Sm, w⟩ := ok'
          have w2 : SW a ρ σ ((ns'.map D.int).map .leaf ++ ts) (ns'.map V.int ++ vs) H F Sc Sm :=
            w.tmp (Sn := [] ++ Sm) (OwL.join (OwL.leafs (IsL.ints.mpr rfl)) w.tmps) (List.nodup_append.mp w.nd).2.1 fun _ h => h
          obtain ⟨Sm', w3⟩ := w2.mkLst (by simp) (nvw_leaf _) hp
          exact ⟨F, Sc, Sm', w3⟩
        · obtain ⟨v, rfl⟩ : ∃ v, ws = [v] := by
            match ws, l with
            | [v], _ => exact ⟨v, rfl⟩
          obtain ⟨F, Sc, Sm, w⟩ := ok
          obtain ⟨q, zs, rfl, hq, ⟨l2, n2⟩, Sm', w'⟩ := w.opens hx
          have e1 : (zs.zip us).map (fun b => b.1) = zs := List.map_fst_zip (by omega)
          have e2 : (zs.zip us).map (fun b => b.2) = us := List.map_snd_zip (by omega)
          have e3 : (zs.zip us).map (fun b => b.2.dat.py) = us.map fun t => t.dat.py := by
            conv => rhs; rw [← e2]
            rw [List.map_map]; rfl
          have il := (SOk.args ⟨F, Sc, Sm', w'⟩ l2).1
          have iz := isl_zip il
          refine .inr ⟨q, zs.zip us, rfl, by rw [e1]; exact .inl (.inl hq), fun b hb => ?_, by rw [e3]; exact so.2.1, by rw [e3]; exact so.2.2, fun p hp => ?_⟩
          · have hm : b.2 ∈ us := by rw [← e2]; exact List.mem_map.mpr ⟨b, hb, rfl⟩
            exact ⟨(iz b hb).dp (hb_sub _ _) (so.1 _ hm).1, Nat.le_trans (D.depth_le _) (so.1 _ hm).2⟩
          · have e4 : ((zs.zip us).mergeSort (PySem.W.dataLe false fun b => b.2.dat.py)).map (fun b => b.2) = us.mergeSort leT := by
              have e5 := List.map_mergeSort (r := PySem.W.dataLe false fun b : V × T => b.2.dat.py) (s := leT) (f := fun b : V × T => b.2) (l := zs.zip us) (fun _ _ _ _ => rfl)
              rw [e2] at e5
              exact e5
            obtain ⟨S1, S2, h1, h2, e⟩ := OwL.split w'.tmps l2
            rw [← e1, ← e2] at h1
            have h1' : OwL a.toAn F H ((zs.zip us).map (fun b => b.2)) ((zs.zip us).map (fun b => b.1)) S1 := by
              rw [e2, e1] at h1 ⊢
              rw [← e2, ← e1] at h1
              simpa [e1, e2] using h1
            obtain ⟨S3, h3, p3⟩ := owl_perm (List.mergeSort_perm _ (PySem.W.dataLe false fun b : V × T => b.2.dat.py)).symm h1'
            rw [e4] at h3
            have w3 := w'.tmp (Sn := S3 ++ S2) (OwL.join h3 h2) (by
              have n := (List.nodup_append.mp w'.nd).2.1
              rw [e] at n
              exact (List.Perm.append_right S2 p3).nodup_iff.mpr n) fun x hx => by
                rw [e]
                exact (List.Perm.append_right S2 p3).mem_iff.mp hx
            have ne : (us.mergeSort leT).all T.nvw = true := by
              rw [List.all_eq_true]
              intro t ht
              exact List.all_eq_true.mp n2 t (List.mem_mergeSort.mp ht)
            exact k _ _ _ h (SOk.mkLst (by rw [← e4]; simp) ne hp ⟨F, Sc, _, w3⟩)
  | .list => fun ρ σ H ts vs us ws Φ Q ok l h k => by
      match us, h with
      | [x], h =>
        obtain ⟨us, hx, h⟩ := h
        obtain ⟨v, rfl⟩ : ∃ v, ws = [v] := by
          match ws, l with
          | [v], _ => exact ⟨v, rfl⟩
        obtain ⟨F, Sc, Sm, w⟩ := ok
        rcases hx with hx | hx
        · obtain ⟨q, zs, rfl, hq, ⟨l2, n2⟩, Sm', w'⟩ := w.opens hx
          exact ⟨q, zs, rfl, .inl (.inl (.inl hq)), fun p hp => k _ _ _ h (SOk.mkLst l2 n2 hp ⟨F, Sc, Sm', w'⟩)⟩
        · obtain ⟨q, zs, rfl, hq, ⟨l2, n2⟩, Sm', w'⟩ := w.opent hx
          exact ⟨q, zs, rfl, .inr hq, fun p hp => k _ _ _ h (SOk.mkLst l2 n2 hp ⟨F, Sc, Sm', w'⟩)⟩
  | .tuple => fun ρ σ H ts vs us ws Φ Q ok l h k => by
      match us, h with
      | [x], h =>
        obtain ⟨us, hx, h⟩ := h
        obtain ⟨v, rfl⟩ : ∃ v, ws = [v] := by
          match ws, l with
          | [v], _ => exact ⟨v, rfl⟩
        have ok0 := ok
        obtain ⟨F, Sc, Sm, w⟩ := ok
        rcases hx with hx | hx
        · obtain ⟨q, zs, rfl, hq, ⟨l2, n2⟩, Sm', w'⟩ := w.opens hx
          exact ⟨q, zs, rfl, .inl ⟨.inl (.inl hq), fun p hp => k _ _ _ h (SOk.mkTup l2 n2 hp ⟨F, Sc, Sm', w'⟩)⟩⟩
        · obtain ⟨q, zs, rfl, hq, ⟨l2, n2⟩, Sm', w'⟩ := w.opent hx
          exact ⟨q, zs, rfl, .inr ⟨hq, k _ _ _ h (SOk.same hx ok0)⟩⟩
theorem de_blt {x : Str} {f : Blt} (xo : XOk a X) (hx : x = f.nm) (hg : Gl X x) (hm : X.mg x = none)
    (h1 : notStar e = true) (h2 : es.all notStar = true) (h : DV a X ρ (e :: es) fun us => bltT f us Φ) : DE a X ρ (.Call (.Name x p) (e :: es) [] pos) Φ := by
  subst hx
  have cd := cd_blt (a := a) f
  rw [← xo.K] at cd
  cases f with
  | len => exact de_callB (CallR.or call_len_seq call_len_str) cd hg hm (by decide +kernel) (by decide) (by decide) h1 h2 h
  | abs => exact de_callB call_abs cd hg hm (by decide +kernel) (by decide) (by decide) h1 h2 h
  | max => exact de_callB (CallR.or (call_max2 xo.calm) (CallR.or (cr_max xo.calm) (call_max3Nu xo.calm))) cd hg hm (by decide +kernel) (by decide) (by decide) h1 h2 h
  | min => exact de_callB (CallR.or (call_min2 xo.calm) (cr_min xo.calm)) cd hg hm (by decide +kernel) (by decide) (by decide) h1 h2 h
  | sum => exact de_callB (CallR.or (cr_sum xo.calm) (cr_sumT xo.calm)) cd hg hm (by decide +kernel) (by decide) (by decide) h1 h2 h
  | all => exact de_callB (cr_all xo.calm) cd hg hm (by decide +kernel) (by decide) (by decide) h1 h2 h
  | any => exact de_callB (cr_any xo.calm) cd hg hm (by decide +kernel) (by decide) (by decide) h1 h2 h
  | sorted => exact de_callB (CallR.or cr_sortedI (cr_sortedD xo.un)) cd hg hm (by decide +kernel) (by decide) (by decide) h1 h2 h
  | repr => exact de_callB (call_reprD xo.gu xo.un) cd hg hm (by decide +kernel) (by decide) (by decide) h1 h2 h
  | list => exact de_callTy call_list_of cd hg hm (by decide +kernel) (by decide) (by decide) h1 h2 h
  | tuple => exact de_callTy call_tuple_of cd hg hm (by decide +kernel) (by decide) (by decide) h1 h2 h
  | int => exact de_callTy call_int1 cd hg hm (by decide +kernel) (by decide) (by decide) h1 h2 h
  | bool => exact de_callTy call_bool1 cd hg hm (by decide +kernel) (by decide) (by decide) h1 h2 h
  | str => exact de_callTy (CallR.or call_str_int SkE.call_str_str) cd hg hm (by decide +kernel) (by decide) (by decide) h1 h2 h
end
end DL
namespace DL
open PySem PySem.Spec PyProof.Rows L2

/-! ### slices -/
def cutL {α : Type} (xs : List α) (lo hi : Option Int) : List α := (xs.drop (HT.sIx xs.length 0 lo)).take (HT.sIx xs.length xs.length hi - HT.sIx xs.length 0 lo)
theorem cutL_V (xs : List V) (lo hi : Option Int) : cutV xs lo hi = cutL xs lo hi := rfl
theorem cutL_map {α β : Type} (f : α → β) (xs : List α) (lo hi : Option Int) : cutL (xs.map f) lo hi = (cutL xs lo hi).map f := by
  simp [cutL, List.map_take, List.map_drop]
theorem cutL_whole {α : Type} (xs : List α) (lo hi : Option Int) (h : HT.sIx xs.length 0 lo = 0 ∧ HT.sIx xs.length xs.length hi = xs.length) : cutL xs lo hi = xs := by
  unfold cutL
  rw [h.1, h.2]
  simp
theorem nvw_cut {us : List T} {lo hi : Option Int} (n : us.all T.nvw = true) : (cutL us lo hi).all T.nvw = true := by
  rw [List.all_eq_true] at n ⊢
  exact fun t ht => n t (List.mem_of_mem_drop (List.mem_of_mem_take ht))
def WO (X : Cx) (e : Option Expr) : TO := fun σ H Q => ∃ t, PO X e t ∧ t σ H Q
section
variable {a : An0} {X : Cx} {ρ : Env} {σ : L2.St} {ts : List T} {vs : List V} {H F : Hp} {Sc Sm : List Addr} {Φ : T → Prop} {pos p : Pos} {e A B C : Expr} {es : List Expr}
theorem po_W {e : Option Expr} : PO X e (WO X e) := ⟨fun p s σ H Q I ⟨_, h, q⟩ => h.run p s σ H Q I q⟩
def DO (a : An0) (X : Cx) (ρ : Env) (e : Option Expr) (Ψ : Option Int → Prop) : Prop :=
  ∀ σ H ts vs Q, SOk a ρ σ ts vs H → (∀ o H', Ψ o → SOk a ρ σ ts vs H' → Q o H') → WO X e σ H Q
theorem do_none {Ψ : Option Int → Prop} (h : Ψ none) : DO a X ρ none Ψ := fun σ H ts vs Q ok k => ⟨_, po_none, k _ _ h ok⟩
theorem do_some {Ψ : Option Int → Prop} (h : DE a X ρ e fun x => ∃ i, x.dat = .int i ∧ Ψ (some i)) : DO a X ρ (some e) Ψ := fun σ H ts vs Q ok k => by
  refine ⟨_, po_some pe_W, ?_⟩
  show WE X e σ H fun x H1 => ∃ i, x = .int i ∧ Q (some i) H1
  refine h σ H ts vs _ ok fun x tx H1 ⟨i, e, q⟩ ok1 => ?_
  have i1 := ok1.top
  rw [e] at i1
  exact ⟨i, i1.int, k _ _ q ok1.pop1⟩
def slT (x : T) (lo hi : Option Int) (Φ : T → Prop) : Prop :=
  (∃ us, x.its = some us ∧ Φ (.lst (cutL us lo hi))) ∨ (∃ us, x.prt = some us ∧ Φ (T.mk (cutL us lo hi))) ∨
  (∃ z, x.dat = .str z ∧ z.length ≤ 100000 ∧ Φ (.leaf (.str (cutS z lo hi)))) ∨ (∃ ns, x.dat = .scr ns ∧ Φ (.lst ((cutL ns lo hi).map fun n => .leaf (.int n))))
theorem OwL.take {a : An} {F H : Hp} : ∀ {us : List T} {ws : List V} {S : List Addr} (n : Nat), OwL a F H us ws S → ∃ S', OwL a F H (us.take n) (ws.take n) S' ∧ (S.Nodup → S'.Nodup) ∧ ∀ p ∈ S', p ∈ S
  | us, ws, S, 0, _ => ⟨[], by simp [OwL], fun _ => List.nodup_nil, fun _ h => nomatch h⟩
  | [], ws, S, n + 1, h => ⟨S, by simp only [OwL] at h; simp [OwL, h.1, h.2], id, fun _ h => h⟩
  | u :: us, ws, S, n + 1, h => by
    simp only [OwL] at h
    obtain ⟨v, r, S1, S2, rfl, h1, h2, rfl⟩ := h
    obtain ⟨S3, h3, h4, h5⟩ := OwL.take n h2
    refine ⟨S1 ++ S3, ?_, fun nd => ?_, fun p hp => ?_⟩
    · simp only [List.take_succ_cons, OwL]
      exact ⟨v, _, S1, S3, rfl, h1, h3, rfl⟩
    · obtain ⟨n1, n2, n3⟩ := List.nodup_append.mp nd
      exact List.nodup_append.mpr ⟨n1, h4 n2, fun p hp q hq => n3 p hp q (h5 q hq)⟩
    · rcases List.mem_append.mp hp with z | z
      · exact List.mem_append_left _ z
      · exact List.mem_append_right _ (h5 p z)
theorem OwL.drop {a : An} {F H : Hp} : ∀ {us : List T} {ws : List V} {S : List Addr} (n : Nat), OwL a F H us ws S → ∃ S', OwL a F H (us.drop n) (ws.drop n) S' ∧ (S.Nodup → S'.Nodup) ∧ ∀ p ∈ S', p ∈ S
  | us, ws, S, 0, h => ⟨S, h, id, fun _ h => h⟩
  | [], ws, S, n + 1, h => ⟨S, by simp only [OwL] at h; simp [OwL, h.1, h.2], id, fun _ h => h⟩
  | u :: us, ws, S, n + 1, h => by
    simp only [OwL] at h
    obtain ⟨v, r, S1, S2, rfl, h1, h2, rfl⟩ := h
    obtain ⟨S3, h3, h4, h5⟩ := OwL.drop n h2
    exact ⟨S3, by simpa using h3, fun nd => h4 (List.nodup_append.mp nd).2.1, fun p hp => List.mem_append_right _ (h5 p hp)⟩
theorem OwL.cut {a : An} {F H : Hp} {us : List T} {ws : List V} {S : List Addr} (lo hi : Option Int) (h : OwL a F H us ws S) : ∃ S', OwL a F H (cutL us lo hi) (cutL ws lo hi) S' ∧ (S.Nodup → S'.Nodup) ∧ ∀ p ∈ S', p ∈ S := by
  unfold cutL
  rw [h.length]
  obtain ⟨S1, h1, n1, k1⟩ := h.drop (HT.sIx us.length 0 lo)
  obtain ⟨S2, h2, n2, k2⟩ := h1.take (HT.sIx us.length us.length hi - HT.sIx us.length 0 lo)
  exact ⟨S2, h2, fun n => n2 (n1 n), fun p hp => k1 p (k2 p hp)⟩
theorem SW.slice {us : List T} {ws : List V} (w : SW a ρ σ (us ++ ts) (ws ++ vs) H F Sc Sm) (l : us.length = ws.length) (lo hi : Option Int) : ∃ Sm', SW a ρ σ (cutL us lo hi ++ ts) (cutL ws lo hi ++ vs) H F Sc Sm' ∧ (cutL us lo hi).length = (cutL ws lo hi).length := by
  obtain ⟨S1, S2, h1, h2, e⟩ := OwL.split w.tmps l
  obtain ⟨S3, h3, n3, k3⟩ := h1.cut lo hi
  have nd := (List.nodup_append.mp w.nd).2.1
  rw [e] at nd
  obtain ⟨n1, n2, n4⟩ := List.nodup_append.mp nd
  refine ⟨S3 ++ S2, w.tmp (OwL.join h3 h2) (List.nodup_append.mpr ⟨n3 n1, n2, fun p hp q hq => n4 p (k3 p hp) q hq⟩) fun p hp => ?_, h3.length.symm⟩
  rw [e]
  rcases List.mem_append.mp hp with z | z
  · exact List.mem_append_left _ (k3 p z)
  · exact List.mem_append_right _ z
def rSlAll (K : PySem.W.Frag) : V → Option Int → Option Int → Hp → VK → Prop := fun x lo hi H Q => rSlL K x lo hi H Q ∨ rSlA K x lo hi H Q ∨ rSlS x lo hi H Q
theorem sl_all : SlR X (rSlAll X.K) := SlR.or sl_list (SlR.or sl_tupA sl_str)
theorem opd_sl {lo hi : Option Int} {x : T} {vx : V} {Q : VK} (ok : SOk a ρ σ (x :: ts) (vx :: vs) H) (h : slT x lo hi Φ) (k : ∀ v t H', Φ t → SOk a ρ σ (t :: ts) (v :: vs) H' → Q v H') : rSlAll a.K vx lo hi H Q := by
  have ok0 := ok
  obtain ⟨F, Sc, Sm, w⟩ := ok
  rcases h with ⟨us, hx, q⟩ | ⟨us, hx, q⟩ | ⟨z, hx, hz, q⟩ | ⟨ns, hx, q⟩
  · obtain ⟨l, ws, rfl, hl, ⟨l2, n2⟩, Sm', w'⟩ := w.opens hx
    refine .inl ⟨l, ws, rfl, .inl (.inl hl), fun p hp => k _ _ _ q ?_⟩
    obtain ⟨Sm2, w2, l3⟩ := w'.slice l2 lo hi
    exact SOk.mkLst l3 (nvw_cut n2) hp ⟨F, Sc, Sm2, w2⟩
  · obtain ⟨l, ws, rfl, hl, ⟨l2, n2⟩, Sm', w'⟩ := w.opent hx
    refine .inr (.inl ⟨l, ws, rfl, hl, fun hw => k _ _ _ q ?_, fun _ p hp => k _ _ _ q ?_⟩)
    · rw [← l2] at hw
      rw [cutL_whole us lo hi hw]
      exact SOk.same hx ok0
    · obtain ⟨Sm2, w2, l3⟩ := w'.slice l2 lo hi
      exact SOk.mkTup l3 (nvw_cut n2) hp ⟨F, Sc, Sm2, w2⟩
  · have i1 := ok0.top
    rw [hx] at i1
    rw [i1.str]
    exact .inr (.inr ⟨z, rfl, small hz, k _ _ _ q ok0.pop1.str⟩)
  · have i1 := ok0.top
    rw [hx] at i1
    simp only [Is] at i1
    obtain ⟨l, rfl, hl⟩ := i1
    refine .inl ⟨l, _, rfl, sub_l (hb_sub _ _) hl, fun p hp => k _ _ _ q ?_⟩
    have hm : ((cutL ns lo hi).map fun n => T.leaf (.int n)) = ((cutL ns lo hi).map D.int).map .leaf := by simp
    rw [hm]
    obtain ⟨F, Sc, Sm, w⟩ := ok0.pop1
    have w2 : SW a ρ σ (((cutL ns lo hi).map D.int).map .leaf ++ ts) (cutV (ns.map V.int) lo hi ++ vs) H F Sc Sm := by
      rw [cutL_V, cutL_map]
      exact w.tmp (Sn := [] ++ Sm) (OwL.join (OwL.leafs (IsL.ints.mpr rfl)) w.tmps) (List.nodup_append.mp w.nd).2.1 fun _ h => h
    exact SOk.mkLst (by rw [cutL_V, cutL_map]; simp) (nvw_leaf _) hp ⟨F, Sc, Sm, w2⟩
theorem de_sl {lo hi : Option Expr} {p2 : Pos} (xo : XOk a X) (h : DE a X ρ A fun x => DO a X ρ lo fun l => DO a X ρ hi fun u => slT x l u Φ) : DE a X ρ (.Subscript A (.Slice lo hi none p2) pos) Φ := fun σ H ts vs Q ok k => by
  refine ⟨_, pe_slice sl_all pe_W po_W po_W, ?_⟩
  show WE X A σ H fun x H1 => WO X lo σ H1 fun l H2 => WO X hi σ H2 fun u H3 => rSlAll X.K x l u H3 Q
  rw [xo.K]
  exact h σ H ts vs _ ok fun x tx H1 h1 ok1 => h1 σ H1 _ _ _ ok1 fun l H2 h2 ok2 => h2 σ H2 _ _ _ ok2 fun u H3 h3 ok3 => opd_sl ok3 h3 k

/-! ### calls of own defs -/
/-- a def's promise in plain data: from the arguments, what is wanted of the answer -/
abbrev SpecF := List D → (T → Prop) → Prop
/-- as the layer's promise: the caller chooses the frozen part -/
def spD (K : PySem.W.Frag) (cls : Nat → Option (Addr × List Str)) (f : SpecF) : Sp := fun vs H Q _ =>
  ∃ (bg : Option Addr) (F : Hp) (ds : List D), Sub F H ∧ BagOk ⟨K, bg, cls⟩ F H ∧ IsL ⟨K, bg, cls⟩ F ds vs ∧
    f ds fun t => ∀ F' H' v S, Sub F' H' → Gw bg.toList F H F' H' → BagOk ⟨K, bg, cls⟩ F' H' → Ow ⟨K, bg, cls⟩ F' H' t v S → S.Nodup → (∀ p ∈ S, F' p = none ∧ bg ≠ some p ∧ H p = none) → Q v H'
mutual
theorem Ow.froz {a : An} {F F' H : Hp} (e : Sub F F') : ∀ {t : T} {v : V} {S : List Addr}, t.nv = true → Ow a F H t v S → (∀ p ∈ S, F' p = H p) → Is a F' t.dat v
  | .leaf d, v, S, _, h, _ => by
    simp only [Ow] at h
    simp only [T.dat]
    exact h.2.mono e
  | .vw d, v, S, n, _, _ => by simp [T.nv] at n
  | .lst us, v, S, n, h, k => by
    simp only [Ow] at h
    simp only [T.nv] at n
    obtain ⟨_, p, vs, S', e1, e2, h1, rfl⟩ := h
    simp only [T.dat, Is]
    exact ⟨p, vs, e1, (k p List.mem_cons_self).trans e2, OwL.froz e n h1 fun q hq => k q (List.mem_cons_of_mem _ hq)⟩
  | .tup us, v, S, n, h, k => by
    simp only [Ow] at h
    simp only [T.nv] at n
    obtain ⟨_, p, vs, e1, e2, h1⟩ := h
    simp only [T.dat, Is]
    exact ⟨p, vs, e1, sub_t e e2, OwL.froz e n h1 k⟩
theorem OwL.froz {a : An} {F F' H : Hp} (e : Sub F F') : ∀ {ts : List T} {vs : List V} {S : List Addr}, T.nvs ts = true → OwL a F H ts vs S → (∀ p ∈ S, F' p = H p) → IsL a F' (T.dats ts) vs
  | [], vs, S, _, h, _ => by
    simp only [OwL] at h
    simp only [T.dats, IsL]
    exact h.1
  | t :: ts, vs, S, n, h, k => by
    simp only [OwL] at h
    simp only [T.nvs, Bool.and_eq_true] at n
    obtain ⟨v, r, S1, S2, e1, h1, h2, rfl⟩ := h
    simp only [T.dats, IsL]
    exact ⟨v, r, e1, Ow.froz e n.1 h1 fun p hp => k p (List.mem_append_left _ hp), OwL.froz e n.2 h2 fun p hp => k p (List.mem_append_right _ hp)⟩
end
/-- no list of the caller's may be written here but the bag -/
def NoIo (a : An0) : Prop := ∀ p ∈ a.M, a.bg = some p
/-- lists held alone become frozen ones -/
theorem SW.freezes {us : List T} {ws : List V} (io : NoIo a) (w : SW a ρ σ (us ++ ts) (ws ++ vs) H F Sc Sm) (l : us.length = ws.length) (n : T.nvs us = true) :
    ∃ F' Sm', Sub F F' ∧ SW a ρ σ ts vs H F' Sc Sm' ∧ IsL a.toAn F' (T.dats us) ws := by
  obtain ⟨S1, S2, h1, h2, e⟩ := OwL.split w.tmps l
  obtain ⟨m1, m2, m3⟩ := List.nodup_append.mp w.nd
  rw [e] at m2
  obtain ⟨n1, n2, n3⟩ := List.nodup_append.mp m2
  have fr1 : ∀ p ∈ S1, F p = none ∧ a.bg ≠ some p ∧ a.H0 p = none := fun p hp => by
    obtain ⟨f1, f2, f3⟩ := w.fr p (List.mem_append_right _ (by rw [e]; exact List.mem_append_left _ hp))
    refine ⟨f1, f2, f3.resolve_left fun z => f2 (io p z)⟩
  have sF : Sub F (fun p => if p ∈ S1 then H p else F p) := fun p o q => by
    show (if p ∈ S1 then H p else F p) = some o
    split
    · exact w.sub p o q
    · exact q
  have at1 : ∀ p ∈ S1, (fun p => if p ∈ S1 then H p else F p) p = H p := fun p hp => if_pos hp
  have at2 : ∀ p, p ∉ S1 → (fun p => if p ∈ S1 then H p else F p) p = F p := fun p hp => if_neg hp
  revert sF at1 at2
  generalize (fun p => if p ∈ S1 then H p else F p) = F'
  intro sF at1 at2
  refine ⟨F', S2, sF, ⟨fun p o q => ?_, ⟨w.gw.ff.trans sF, w.gw.hh, fun p h n => ?_, w.gw.th⟩, w.bagM, fun b hb => ?_, w.cells.mono sF (Sub.refl _) fun _ _ _ h => h, h2.mono sF (Sub.refl _) fun _ _ _ h => h, ?_, fun p hp => ?_, w.len, w.wit, fun G hG => (w.wif G hG).trans sF⟩, OwL.froz sF n h1 at1⟩
  · by_cases z : p ∈ S1
    · rw [at1 p z] at q; exact q
    · rw [at2 p z] at q; exact w.sub p o q
  · rw [at2 p fun z => h (fr1 p z).2.2]
    exact w.gw.nn p h n
  · obtain ⟨b1, x, y, z, c, ns, b2, b3, b4⟩ := w.bag b hb
    refine ⟨?_, x, y, z, c, ns, b2, sF _ _ b3, b4⟩
    rw [at2 b fun z => (fr1 b z).2.1 hb]
    exact b1
  · exact List.nodup_append.mpr ⟨m1, n2, fun p hp q hq => m3 p hp q (by rw [e]; exact List.mem_append_right _ hq)⟩
  · have hp' : p ∈ Sc ++ Sm := by
      rcases List.mem_append.mp hp with z | z
      · exact List.mem_append_left _ z
      · exact List.mem_append_right _ (by rw [e]; exact List.mem_append_right _ z)
    obtain ⟨f1, f2, f3⟩ := w.fr p hp'
    refine ⟨?_, f2, f3⟩
    rw [at2 p fun z => ?_]
    · exact f1
    · rcases List.mem_append.mp hp with y | y
      · exact m3 p y p (by rw [e]; exact List.mem_append_left _ z) rfl
      · exact n3 p z p y rfl
/-- what an argument, or what is walked, must be -/
def T.froz (z : Bool) (t : T) (Ψ : D → Prop) : Prop := match t with
  | .leaf d => Ψ d
  | .vw d => d.flat = true ∧ Ψ d
  | t => z = true ∧ Ψ t.dat
def frozs (z : Bool) : List T → (List D → Prop) → Prop
  | [], Ψ => Ψ []
  | t :: r, Ψ => t.froz z fun d => frozs z r fun ds => Ψ (d :: ds)
theorem froz_of {z : Bool} {t : T} {Ψ : D → Prop} (h : t.froz z Ψ) : Ψ t.dat ∧ ((∃ d, t = .leaf d) ∨ (∃ d, t = .vw d ∧ d.flat = true) ∨ (z = true ∧ t.nvw = true)) := by
  cases t with
  | leaf d => exact ⟨h, .inl ⟨d, rfl⟩⟩
  | vw d => exact ⟨h.2, .inr (.inl ⟨d, rfl, h.1⟩)⟩
  | lst us => exact ⟨h.2, .inr (.inr ⟨h.1, rfl⟩)⟩
  | tup us => exact ⟨h.2, .inr (.inr ⟨h.1, rfl⟩)⟩
theorem SW.froz1 {z : Bool} {t : T} {v : V} {Ψ : D → Prop} (io : z = true → NoIo a) (w : SW a ρ σ (t :: ts) (v :: vs) H F Sc Sm) (h : t.froz z Ψ) :
    ∃ F' Sm', Sub F F' ∧ SW a ρ σ ts vs H F' Sc Sm' ∧ Is a.toAn F' t.dat v ∧ Ψ t.dat := by
  obtain ⟨q, c⟩ := froz_of h
  rcases c with ⟨d, rfl⟩ | ⟨d, rfl, f⟩ | ⟨hz, n⟩
  · obtain ⟨S1, h1, _⟩ := w.cut
    simp only [Ow] at h1
    obtain ⟨F2, Sc2, Sm2, w2⟩ := SOk.pop1 ⟨F, Sc, Sm, w⟩
    obtain ⟨S3, S4, h3, h4, e⟩ := OwL.split (ts := [.leaf d]) (vs := [v]) w.tmps rfl
    exact ⟨F, S4, Sub.refl F, w.tmp h4 (by
      have := (List.nodup_append.mp w.nd).2.1
      rw [e] at this
      exact (List.nodup_append.mp this).2.1) fun p hp => by rw [e]; exact List.mem_append_right _ hp, h1.2, q⟩
  · obtain ⟨S3, S4, h3, h4, e⟩ := OwL.split (ts := [.vw d]) (vs := [v]) w.tmps rfl
    exact ⟨F, S4, Sub.refl F, w.tmp h4 (by
      have := (List.nodup_append.mp w.nd).2.1
      rw [e] at this
      exact (List.nodup_append.mp this).2.1) fun p hp => by rw [e]; exact List.mem_append_right _ hp, w.top.flat f, q⟩
  · obtain ⟨F', Sm', s, w', il⟩ := SW.freezes (us := [t]) (ws := [v]) (io hz) w rfl (by
      obtain ⟨S, h1, _⟩ := w.cut
      simp [T.nvs, h1.nv n])
    rw [T.dats, T.dats] at il
    obtain ⟨v', e, i1⟩ := one il
    cases e
    exact ⟨F', Sm', s, w', i1, q⟩
theorem SW.frozs {z : Bool} (io : z = true → NoIo a) : ∀ {us : List T} {ws : List V} {F : Hp} {Sm : List Addr} {Ψ : List D → Prop}, SW a ρ σ (us ++ ts) (ws ++ vs) H F Sc Sm → us.length = ws.length → DL.frozs z us Ψ →
    ∃ F' Sm' ds, Sub F F' ∧ SW a ρ σ ts vs H F' Sc Sm' ∧ IsL a.toAn F' ds ws ∧ Ψ ds
  | [], [], F, Sm, Ψ, w, _, h => ⟨F, Sm, [], Sub.refl F, w, by simp [IsL], h⟩
  | [], w :: ws, _, _, _, _, l, _ => by simp at l
  | u :: us, [], _, _, _, _, l, _ => by simp at l
  | u :: us, v :: ws, F, Sm, Ψ, w, l, h => by
    obtain ⟨F1, Sm1, s1, w1, i1, h1⟩ := SW.froz1 (ts := us ++ ts) (vs := ws ++ vs) io w h
    obtain ⟨F2, Sm2, ds, s2, w2, il, h2⟩ := SW.frozs io w1 (by simpa using l) h1
    exact ⟨F2, Sm2, u.dat :: ds, s1.trans s2, w2, by simp only [IsL]; exact ⟨v, ws, rfl, i1.mono s2, il⟩, h2⟩
/-- behind a call: the callee's growth is the caller's -/
theorem SW.called {F' H' : Hp} {t : T} {v : V} {S : List Addr} (w : SW a ρ σ ts vs H F Sc Sm) (sub : Sub F' H') (g : Gw a.bg.toList F H F' H') (bg : BagOk a.toAn F' H') (ow : Ow a.toAn F' H' t v S) (nd : S.Nodup)
    (fr : ∀ p ∈ S, F' p = none ∧ a.bg ≠ some p ∧ H p = none) : SOk a ρ σ (t :: ts) (v :: vs) H' := by
  have nb : ∀ p, a.bg ≠ some p → p ∉ a.bg.toList := fun p h z => by
    cases e : a.bg with
    | none => rw [e] at z; simp at z
    | some b =>
      rw [e] at z h
      simp at z
      exact h (by rw [z])
  have kb : Sub (hb a.toAn H) (hb a.toAn H') := fun p o e => by
    unfold hb at e ⊢
    split at e
    · cases e
    · rename_i z
      rw [if_neg z]
      exact g.hh p o (nb p z) e
  have k1 : ∀ p ∈ Sc ++ Sm, ∀ o, H p = some o → H' p = some o := fun p hp o e => g.hh p o (nb p (w.fr p hp).2.1) e
  have there : ∀ p ∈ Sc ++ Sm, H p ≠ none := fun p hp => by
    rcases List.mem_append.mp hp with y | y
    · exact OwC.there w.cells p y
    · exact OwL.there w.tmps p y
  obtain ⟨n1, n2, n3⟩ := List.nodup_append.mp w.nd
  refine ⟨F', Sc, S ++ Sm, sub, ⟨w.gw.ff.trans g.ff, fun p o hp e => ?_, fun p h n => g.nn p (w.gw.th p h) (w.gw.nn p h n), fun p h => g.th p (w.gw.th p h)⟩, w.bagM, bg, w.cells.mono g.ff kb fun p hp => k1 p (List.mem_append_left _ hp), ?_, ?_, fun p hp => ?_, w.len, fun G hG => (w.wit G hG).trans kb, fun G hG => (w.wif G hG).trans g.ff⟩
  · have hb : a.bg ≠ some p := fun z => hp (w.bagM p z).1
    exact g.hh p o (nb p hb) (w.gw.hh p o hp e)
  · simp only [OwL]
    exact ⟨v, vs, S, Sm, rfl, ow, w.tmps.mono g.ff kb fun p hp => k1 p (List.mem_append_right _ hp), rfl⟩
  · refine List.nodup_append.mpr ⟨n1, List.nodup_append.mpr ⟨nd, n2, fun p hp q hq e => ?_⟩, fun p hp q hq e => ?_⟩
    · subst e
      exact there p (List.mem_append_right _ hq) (fr p hp).2.2
    · subst e
      rcases List.mem_append.mp hq with z | z
      · exact there p (List.mem_append_left _ hp) (fr p z).2.2
      · exact n3 p hp p z rfl
  · have old : p ∈ Sc ++ Sm → F' p = none ∧ a.bg ≠ some p ∧ (p ∈ a.M ∨ a.H0 p = none) := fun z => ⟨g.nn p (there p z) (w.fr p z).1, (w.fr p z).2⟩
    rcases List.mem_append.mp hp with z | z
    · exact old (List.mem_append_left _ z)
    · rcases List.mem_append.mp z with z | z
      · obtain ⟨f1, f2, f3⟩ := fr p z
        refine ⟨f1, f2, .inr ?_⟩
        cases q : a.H0 p with
        | none => rfl
        | some o => exact absurd f3 (w.gw.th p (by rw [q]; simp))
      · exact old (List.mem_append_right _ z)
/-- a def of the module that may be called here -/
structure FnAt (a : An0) (X : Cx) (x : Str) (f : SpecF) : Prop where
  ex : ∃ (fa : Addr) (fd : FuncData) (k : Nat) (ps : List Str), FnG X.prog X.w X.K X.mg X.base CX0 k fa fd ps (spD a.K a.cls f) ∧ Room k X.A ∧ X.mg x = some (.ref fa) ∧ PySem.W.keepIn X.K (.ref fa) = true ∧ Binds X.K fd ps []
theorem de_call {x : Str} {f : SpecF} {z : Bool} (xo : XOk a X) (io : z = true → NoIo a) (fn : FnAt a X x f) (hg : Gl X x) (hd : (x == ("__debug__" : Str)) = false) (h1 : notStar e = true) (h2 : es.all notStar = true)
    (h : DV a X ρ (e :: es) fun us => frozs z us fun ds => f ds Φ) (mono : ∀ ds (Φ Ψ : T → Prop), (∀ t, Φ t → Ψ t) → f ds Φ → f ds Ψ) : DE a X ρ (.Call (.Name x p) (e :: es) [] pos) Φ := fun σ H ts vs Q ok k => by
  obtain ⟨fa, fd, n, ps, F, hr, hm, hk, hb⟩ := fn.ex
  refine ⟨_, pe_callG F xo.gu hr hg hm hk hb .nil pass0 pa_W hd (star_of h1) (back_of h2), ?_⟩
  show WA X (e :: es) σ H fun vs H1 => spD a.K a.cls f (vs ++ []) H1 Q _
  refine h σ H ts vs _ ok fun ws us H1 q l ok1 => ?_
  obtain ⟨F0, Sc, Sm, w⟩ := ok1
  obtain ⟨F1, Sm1, ds, s1, w1, il, q⟩ := w.frozs io l q
  rw [List.append_nil]
  refine ⟨a.bg, F1, ds, w1.sub, w1.bag, il, mono _ _ _ (fun t ht F' H' v S sub g bg ow nd fr => ?_) q⟩
  exact k v t H' ht (w1.called sub g bg ow nd fr)
end
end DL
namespace DL
open PySem PySem.Spec PyProof.Rows L2

/-! ### targets -/
inductive Tg where
  | nm (i : Nat) | nil | cons (a b : Tg)
mutual
def bindG : Tg → T → Env → Option Env
  | .nm i, t, ρ => if i < ρ.length then some (ρ.put i (some t)) else none
  | .nil, t, ρ => match t.prt with
    | some us => bindL .nil us ρ
    | none => none
  | .cons a b, t, ρ => match t.prt with
    | some (u :: us) => (bindG a u ρ).bind (bindL b us)
    | _ => none
def bindL : Tg → List T → Env → Option Env
  | .nil, [], ρ => some ρ
  | .cons a b, u :: us, ρ => (bindG a u ρ).bind (bindL b us)
  | _, _, _ => none
end
def Tg.slots : Tg → List Nat
  | .nm i => [i]
  | .nil => []
  | .cons a b => a.slots ++ b.slots
def Env.wipes (ρ : Env) : List Nat → Env
  | [] => ρ
  | v :: vs => (ρ.wipes vs).put v none
section
variable {a : An0} {X : Cx} {ρ : Env} {σ : L2.St} {ts : List T} {vs : List V} {H F : Hp} {Sc Sm : List Addr} {Φ : T → Prop} {pos p : Pos} {e A B C : Expr} {es : List Expr}

theorem SW.put {i : Nat} {t : T} {v : V} (w : SW a ρ σ (t :: ts) (v :: vs) H F Sc Sm) (hi : i < ρ.length) (n : t.nv = true) : ∃ Sc' Sm', SW a (ρ.put i (some t)) (σ.set i (some v)) ts vs H F Sc' Sm' := by
  obtain ⟨S1, S2, h1, h2, e⟩ := OwL.split (ts := [t]) (vs := [v]) w.tmps rfl
  have h1 : Ow a.toAn F H t v S1 := by
    simp only [OwL] at h1
    obtain ⟨v', r, S3, S4, e', h3, ⟨rfl, rfl⟩, rfl⟩ := h1
    cases e'
    simpa using h3
  obtain ⟨n1, n2, n3⟩ := List.nodup_append.mp w.nd
  rw [e] at n2
  obtain ⟨m1, m2, m3⟩ := List.nodup_append.mp n2
  obtain ⟨S', h3, n4, k⟩ := OwC.put h1 n w.cells hi (w.len ▸ hi) n1 m1 fun p hp hq => n3 p hq p (by rw [e]; exact List.mem_append_left _ hp) rfl
  refine ⟨S', S2, w.sub, w.gw, w.bagM, w.bag, h3, h2, List.nodup_append.mpr ⟨n4, m2, fun p hp q hq z => ?_⟩, fun p hp => w.fr p ?_, by rw [Env.put_length, List.length_set]; exact w.len, w.wit, w.wif⟩
  · subst z
    rcases k p hp with y | y
    · exact n3 p y p (by rw [e]; exact List.mem_append_right _ hq) rfl
    · exact m3 p y p hq rfl
  · rcases List.mem_append.mp hp with y | y
    · rcases k p y with y | y
      · exact List.mem_append_left _ y
      · exact List.mem_append_right _ (by rw [e]; exact List.mem_append_left _ y)
    · exact List.mem_append_right _ (by rw [e]; exact List.mem_append_right _ y)
theorem SOk.put {i : Nat} {t : T} {v : V} (hi : i < ρ.length) (n : t.nv = true) : SOk a ρ σ (t :: ts) (v :: vs) H → SOk a (ρ.put i (some t)) (σ.set i (some v)) ts vs H := fun ⟨F, Sc, Sm, w⟩ =>
  let ⟨Sc', Sm', w'⟩ := w.put hi n
  ⟨F, Sc', Sm', w'⟩
theorem SW.forget {x : Option V} (w : SW a ρ σ ts vs H F Sc Sm) (i : Nat) : ∃ Sc', SW a (ρ.put i none) (σ.set i x) ts vs H F Sc' Sm := by
  obtain ⟨n1, n2, n3⟩ := List.nodup_append.mp w.nd
  obtain ⟨S', h, n, k⟩ := OwC.drop (x := x) i w.cells n1
  refine ⟨S', w.sub, w.gw, w.bagM, w.bag, h, w.tmps, List.nodup_append.mpr ⟨n, n2, fun p hp q hq => n3 p (k p hp) q hq⟩, fun p hp => w.fr p ?_, by rw [Env.put_length, List.length_set]; exact w.len, w.wit, w.wif⟩
  rcases List.mem_append.mp hp with y | y
  · exact List.mem_append_left _ (k p y)
  · exact List.mem_append_right _ y
theorem SW.wipe (w : SW a ρ σ ts vs H F Sc Sm) : ∀ own : List Nat, ∃ Sc', SW a (ρ.wipes own) (L2.wipe σ own) ts vs H F Sc' Sm
  | [] => ⟨Sc, w⟩
  | v :: r => by
    obtain ⟨Sc', w'⟩ := w.wipe r
    exact w'.forget v
/-- cells that are not known say nothing of their slots -/
theorem OwC.unset {a : An} {F H : Hp} {x : Option V} : ∀ {ρ : Env} {σ : L2.St} {S : List Addr} {i : Nat}, OwC a F H ρ (σ.set i x) S → ρ.put i none = ρ → OwC a F H ρ σ S
  | [], _, _, _, h, _ => h
  | none :: ρ, [], S, 0, h, _ => h
  | none :: ρ, y :: σ, S, 0, h, _ => by simpa only [OwC, List.set_cons_zero, List.tail_cons] using h
  | some t :: ρ, _, _, 0, _, e => by simp [Env.put] at e
  | none :: ρ, [], S, i + 1, h, _ => h
  | none :: ρ, y :: σ, S, i + 1, h, e => by
    simp only [OwC, List.set_cons_succ, List.tail_cons] at h ⊢
    simp only [Env.put, List.cons.injEq, true_and] at e
    exact OwC.unset h e
  | some t :: ρ, [], S, i + 1, h, e => by simpa using h
  | some t :: ρ, y :: σ, S, i + 1, h, e => by
    simp only [OwC, List.set_cons_succ, List.tail_cons, List.head?_cons] at h ⊢
    simp only [Env.put, List.cons.injEq, true_and] at e
    obtain ⟨v, S1, S2, e1, h1, h2, rfl⟩ := h
    exact ⟨v, S1, S2, e1, h1, OwC.unset h2 e, rfl⟩
theorem Env.put_wipes (ρ : Env) (v : Nat) : ∀ own : List Nat, v ∈ own → (ρ.wipes own).put v none = ρ.wipes own := by
  have twice : ∀ (ρ : Env) (i : Nat), (ρ.put i none).put i none = ρ.put i none := fun ρ => by
    induction ρ with
    | nil => intro i; rfl
    | cons x r ih => intro i; cases i <;> simp [Env.put, ih]
  have comm : ∀ (ρ : Env) (i j : Nat), (ρ.put i none).put j none = (ρ.put j none).put i none := fun ρ => by
    induction ρ with
    | nil => intro i j; rfl
    | cons x r ih => intro i j; cases i <;> cases j <;> simp [Env.put, ih]
  intro own
  induction own with
  | nil => intro h; cases h
  | cons u r ih =>
    intro h
    simp only [Env.wipes]
    rcases List.mem_cons.mp h with rfl | h
    · exact twice _ _
    · rw [comm, ih h]
theorem OwC.unwipe {a : An} {F H : Hp} {ρ : Env} {σ : L2.St} {S : List Addr} : ∀ {own : List Nat}, OwC a F H ρ (L2.wipe σ own) S → (∀ v ∈ own, ρ.put v none = ρ) → OwC a F H ρ σ S
  | [], h, _ => h
  | v :: r, h, e => OwC.unwipe (own := r) (OwC.unset (i := v) h (e v List.mem_cons_self)) fun u hu => e u (List.mem_cons_of_mem _ hu)
theorem SW.unwipe {own : List Nat} (w : SW a ρ (L2.wipe σ own) ts vs H F Sc Sm) (e : ρ.wipes own = ρ) : SW a ρ σ ts vs H F Sc Sm :=
  ⟨w.sub, w.gw, w.bagM, w.bag, w.cells.unwipe fun v hv => by
    have := Env.put_wipes ρ v own hv
    rw [e] at this
    exact this, w.tmps, w.nd, w.fr, by rw [w.len, wipe_length], w.wit, w.wif⟩
theorem wipe_set {σ : L2.St} {i : Nat} {x : Option V} : ∀ {own : List Nat}, i ∈ own → L2.wipe (σ.set i x) own = L2.wipe σ own := by
  have low : ∀ (σ : L2.St) (i : Nat) (x : Option V) (own : List Nat), i ∉ own → L2.wipe (σ.set i x) own = (L2.wipe σ own).set i x := fun σ i x own => by
    induction own with
    | nil => intro _; rfl
    | cons v r ih =>
      intro h
      simp only [L2.wipe]
      rw [ih fun z => h (List.mem_cons_of_mem _ z), List.set_comm _ _ (fun z => h (by rw [z]; exact List.mem_cons_self))]
  intro own
  induction own with
  | nil => intro h; cases h
  | cons v r ih =>
    intro h
    simp only [L2.wipe]
    by_cases hr : i ∈ r
    · rw [ih hr]
    · rcases List.mem_cons.mp h with rfl | h
      · rw [low _ _ _ _ hr, List.set_set]
      · exact absurd h hr
/-- where a def's names stand: its scope as it runs, and as it is written -/
structure Ct where
  N : List Str
  sc : Scope
  wr : Scope
structure COk (c : Ct) (X : Cx) : Prop where
  N : X.N = c.N
  sc : X.env.scope = c.sc
  fn : ∀ x, c.wr.names.lookup x = some .cell → X.fn x = true
  keep : ∀ x k, k ≠ .free → c.wr.names.lookup x = some k → c.sc.names.lookup x = some k
def Ct.vis (c : Ct) (x : Str) : Bool := match c.sc.names.lookup x with
  | some .local => true
  | some .cell => true
  | some .free => true
  | _ => false
def Ct.loc (c : Ct) (x : Str) : Bool := match c.wr.names.lookup x with
  | some .local => true
  | some .cell => true
  | _ => false
def Ct.glo (c : Ct) (x : Str) : Bool := match c.sc.names.lookup x with
  | some .globalImplicit => true
  | _ => false
def nameIs (c : Ct) (i : Nat) (x : Str) : Bool := decide (c.N[i]? = some x)
theorem Ct.vis_of {c : Ct} {x : Str} (k : COk c X) (h : c.vis x = true) : Vis X.env.scope x := by
  unfold Vis
  rw [k.sc]
  unfold Ct.vis at h
  split at h
  · exact .inl (by assumption)
  · exact .inr (.inl (by assumption))
  · exact .inr (.inr (by assumption))
  · cases h
theorem Ct.loc_of {c : Ct} {x : Str} (k : COk c X) (h : c.loc x = true) : L2.Loc X.env.scope x ∧ (X.fn x = true ∨ X.env.scope.names.lookup x = some .local) := by
  unfold L2.Loc
  rw [k.sc]
  unfold Ct.loc at h
  split at h
  · rename_i e
    have := k.keep x _ (by decide) e
    exact ⟨.inl this, .inr this⟩
  · rename_i e
    exact ⟨.inr (k.keep x _ (by decide) e), .inl (k.fn x e)⟩
  · cases h
theorem Ct.glo_of {c : Ct} {x : Str} (k : COk c X) (h : c.glo x = true) : Gl X x := by
  show X.env.scope.names.lookup x = some .globalImplicit
  rw [k.sc]
  unfold Ct.glo at h
  split at h
  · assumption
  · cases h
theorem nameIs_of {c : Ct} {i : Nat} {x : Str} (k : COk c X) (h : nameIs c i x = true) : X.N[i]? = some x := by
  rw [k.N]
  exact of_decide_eq_true h
mutual
/-- the target is written so -/
def okG (c : Ct) : Tg → Expr → Bool
  | .nm i, .Name x _ => nameIs c i x && c.loc x
  | .nil, .Tuple [] _ _ => true
  | .cons a b, .Tuple (e :: es) _ _ => okG c a e && okGs c b es
  | _, _ => false
def okGs (c : Ct) : Tg → List Expr → Bool
  | .nil, [] => true
  | .cons a b, e :: es => okG c a e && okGs c b es
  | _, _ => false
end
theorem Env.put_len {i : Nat} {x : Option T} {n : Nat} (h : ρ.length = n) : (ρ.put i x).length = n := (Env.put_length _ _ _).trans h
mutual
theorem bindG_len : ∀ {g : Tg} {t : T} {ρ ρ' : Env}, bindG g t ρ = some ρ' → ρ'.length = ρ.length
  | .nm i, t, ρ, ρ', h => by
    simp only [bindG] at h
    split at h
    · cases h; exact Env.put_length _ _ _
    · cases h
  | .nil, t, ρ, ρ', h => by
    simp only [bindG] at h
    split at h
    · rename_i us _
      cases us with
      | nil => simp only [bindL, Option.some.injEq] at h; rw [h]
      | cons u us => simp [bindL] at h
    · cases h
  | .cons a b, t, ρ, ρ', h => by
    simp only [bindG] at h
    split at h
    · obtain ⟨ρ1, h1, h2⟩ := Option.bind_eq_some_iff.mp h
      rw [bindL_len h2, bindG_len h1]
    · cases h
theorem bindL_len : ∀ {g : Tg} {us : List T} {ρ ρ' : Env}, bindL g us ρ = some ρ' → ρ'.length = ρ.length
  | .nil, [], ρ, ρ', h => by simp only [bindL, Option.some.injEq] at h; rw [h]
  | .cons a b, u :: us, ρ, ρ', h => by
    simp only [bindL] at h
    obtain ⟨ρ1, h1, h2⟩ := Option.bind_eq_some_iff.mp h
    rw [bindL_len h2, bindG_len h1]
  | .nil, _ :: _, _, _, h => by simp [bindL] at h
  | .cons _ _, [], _, _, h => by simp [bindL] at h
  | .nm _, _, _, _, h => by simp [bindL] at h
end
/-- what is stored holds no part that is only read -/
theorem prt_nv {t : T} {us : List T} (n : t.nv = true) (h : t.prt = some us) : T.nvs us = true := by
  match t, h with
  | .leaf (.tup ds), h =>
    simp only [T.prt, Option.some.injEq] at h
    subst h
    exact T.nvs_leaf ds
  | .tup ts, h =>
    simp only [T.prt, Option.some.injEq] at h
    subst h
    simpa only [T.nv] using n
  | .leaf .non, h | .leaf (.bl _), h | .leaf (.int _), h | .leaf (.str _), h | .leaf (.lst _), h | .leaf .bag, h | .leaf (.obj _ _), h | .leaf (.scr _), h => simp [T.prt] at h
  | .vw _, h => simp [T.prt] at h
  | .lst _, h => simp [T.prt] at h
theorem bindL_num {c : Ct} : ∀ {g : Tg} {us : List T} {ρ ρ' : Env} {es : List Expr}, bindL g us ρ = some ρ' → okGs c g es = true → us.length = es.length
  | .nil, [], _, _, [], _, _ => rfl
  | .cons a b, u :: us, ρ, ρ', e :: es, h, k => by
    simp only [bindL] at h
    obtain ⟨ρ1, h1, h2⟩ := Option.bind_eq_some_iff.mp h
    simp only [okGs, Bool.and_eq_true] at k
    rw [List.length_cons, List.length_cons, bindL_num h2 k.2]
  | .nil, _ :: _, _, _, _, h, _ => by simp [bindL] at h
  | .nil, [], _, _, _ :: _, _, k => by simp [okGs] at k
  | .cons _ _, [], _, _, _, h, _ => by simp [bindL] at h
  | .cons _ _, _ :: _, _, _, [], _, k => by simp [okGs] at k
  | .nm _, _, _, _, _, h, _ => by simp [bindL] at h
theorem asg_map {c : Ct} {env : PySem.Env} {g : Tg} {e : Expr} {es : List Expr} (k : okG c g e = true) : List.map (fun x => x.snd) (assignEach (e :: es) env) = assign e env :: List.map (fun x => x.snd) (assignEach es env) := by
  cases e with
  | Starred x p => cases g <;> simp [okG] at k
  | _ => rfl
theorem asg_of {c : Ct} {env : PySem.Env} : ∀ {g : Tg} {es : List Expr}, okGs c g es = true → (assignEach es env).length = es.length ∧ List.findIdx? (fun x => x.fst) (assignEach es env) = none
  | .nil, [], _ => ⟨rfl, rfl⟩
  | .cons a b, e :: es, k => by
    simp only [okGs, Bool.and_eq_true] at k
    obtain ⟨i1, i2⟩ := asg_of (env := env) k.2
    have hh : ∃ f, assignEach (e :: es) env = (false, f) :: assignEach es env := by
      cases e with
      | Starred x p => cases a <;> simp [okG] at k
      | _ => exact ⟨_, rfl⟩
    obtain ⟨f, hf⟩ := hh
    rw [hf]
    refine ⟨by simp [i1], ?_⟩
    rw [List.findIdx?_cons]
    simp [i2]
  | .nil, _ :: _, k => by simp [okGs] at k
  | .cons _ _, [], k => by simp [okGs] at k
  | .nm _, _, k => by simp [okGs] at k
mutual
theorem dg {c : Ct} (xo : XOk a X) (co : COk c X) : ∀ {g : Tg} {e : Expr} {t : T} {v : V} {ρ ρ' : Env} {σ : L2.St} {ts : List T} {vs : List V} {H : Hp} {Q : L2.St → Hp → Prop}, okG c g e = true → t.nv = true →
    SOk a ρ σ (t :: ts) (v :: vs) H → bindG g t ρ = some ρ' → (∀ σ', SOk a ρ' σ' ts vs H → (∀ own : List Nat, (∀ i ∈ g.slots, i ∈ own) → L2.wipe σ' own = L2.wipe σ own) → Q σ' H) → WG X e v σ H Q
  | .nm i, e, t, v, ρ, ρ', σ, ts, vs, H, Q, ok, n, so, hb, k => by
    match e, ok with
    | .Name x _, ok =>
      simp only [okG, Bool.and_eq_true] at ok
      obtain ⟨l1, l2⟩ := Ct.loc_of co ok.2
      refine ⟨_, pg_name xo.nd (nameIs_of co ok.1) l1 l2, ?_⟩
      simp only [bindG] at hb
      split at hb
      · rename_i hi
        cases hb
        exact k _ (so.put hi n) fun own ho => wipe_set (ho i (by simp [Tg.slots]))
      · cases hb
  | .nil, e, t, v, ρ, ρ', σ, ts, vs, H, Q, ok, n, so, hb, k => by
    match e, ok with
    | .Tuple [] j pp, ok =>
      simp only [bindG] at hb
      split at hb
      · rename_i us hu
        obtain ⟨F, Sc, Sm, w⟩ := so
        obtain ⟨l, ws, rfl, hl, ⟨l2, n2⟩, Sm', w'⟩ := w.opent hu
        refine ⟨_, pg_tup xo.calm (pgs_W (e := [])), ?_⟩
        show ∃ a xs, V.ref l = .ref a ∧ SqT X.K H a xs ∧ xs.length = 0 ∧ WGs X [] xs σ H Q
        rw [xo.K]
        cases us with
        | nil =>
          obtain rfl : ws = [] := List.eq_nil_of_length_eq_zero l2.symm
          exact ⟨l, [], rfl, hl, rfl, dgs xo co (g := .nil) rfl rfl (show SOk a ρ σ ([] ++ ts) ([] ++ vs) H from ⟨F, Sc, Sm', w'⟩) rfl hb k⟩
        | cons u us => simp [bindL] at hb
      · cases hb
    | .Tuple (_ :: _) _ _, ok => simp [okG] at ok
  | .cons ga gb, e, t, v, ρ, ρ', σ, ts, vs, H, Q, ok, n, so, hb, k => by
    match e, ok with
    | .Tuple (e1 :: es) j pp, ok =>
      simp only [bindG] at hb
      split at hb
      · rename_i u us hu
        obtain ⟨F, Sc, Sm, w⟩ := so
        obtain ⟨l, ws, rfl, hl, ⟨l2, n2⟩, Sm', w'⟩ := w.opent hu
        have okk : okGs c (.cons ga gb) (e1 :: es) = true := by simpa only [okGs, okG] using ok
        have hbb : bindL (.cons ga gb) (u :: us) ρ = some ρ' := by simp only [bindL]; exact hb
        refine ⟨_, pg_tup (n := (e1 :: es).length) xo.calm (pgs_W (e := e1 :: es)) (hn := (asg_of okk).1) (hst := (asg_of okk).2), ?_⟩
        show ∃ a xs, V.ref l = .ref a ∧ SqT X.K H a xs ∧ xs.length = (e1 :: es).length ∧ WGs X (e1 :: es) xs σ H Q
        rw [xo.K]
        have hlen : (u :: us).length = (e1 :: es).length := by
          exact bindL_num hbb okk
        refine ⟨l, ws, rfl, hl, by rw [← l2]; exact hlen, ?_⟩
        exact dgs xo co (g := .cons ga gb) okk (prt_nv n hu) (show SOk a ρ σ ((u :: us) ++ ts) (ws ++ vs) H from ⟨F, Sc, Sm', w'⟩) l2 hbb k
      · cases hb
    | .Tuple [] _ _, ok => simp [okG] at ok
theorem dgs {c : Ct} (xo : XOk a X) (co : COk c X) : ∀ {g : Tg} {es : List Expr} {us : List T} {ws : List V} {ρ ρ' : Env} {σ : L2.St} {ts : List T} {vs : List V} {H : Hp} {Q : L2.St → Hp → Prop}, okGs c g es = true → T.nvs us = true →
    SOk a ρ σ (us ++ ts) (ws ++ vs) H → us.length = ws.length → bindL g us ρ = some ρ' → (∀ σ', SOk a ρ' σ' ts vs H → (∀ own : List Nat, (∀ i ∈ g.slots, i ∈ own) → L2.wipe σ' own = L2.wipe σ own) → Q σ' H) → WGs X es ws σ H Q
  | .nil, [], [], [], ρ, ρ', σ, ts, vs, H, Q, ok, n, so, l, hb, k => by
    simp only [bindL, Option.some.injEq] at hb
    subst hb
    exact ⟨_, pgs_nil, rfl, k σ so fun _ _ => rfl⟩
  | .cons ga gb, e :: es, u :: us, w :: ws, ρ, ρ', σ, ts, vs, H, Q, ok, n, so, l, hb, k => by
    simp only [okGs, Bool.and_eq_true] at ok
    simp only [T.nvs, Bool.and_eq_true] at n
    simp only [bindL] at hb
    obtain ⟨ρ1, h1, h2⟩ := Option.bind_eq_some_iff.mp hb
    refine ⟨_, pgs_cons pg_W pgs_W (hs := asg_map ok.1), ?_⟩
    refine ⟨w, ws, rfl, ?_⟩
    refine dg xo co ok.1 n.1 (show SOk a ρ σ (u :: (us ++ ts)) (w :: (ws ++ vs)) H from so) h1 fun σ1 so1 e1 => ?_
    refine dgs xo co ok.2 n.2 so1 (by simpa using l) h2 fun σ2 so2 e2 => k σ2 so2 fun own ho => ?_
    rw [e2 own fun i hi => ho i (by simp [Tg.slots, hi]), e1 own fun i hi => ho i (by simp [Tg.slots, hi])]
  | .nil, _ :: _, _, _, _, _, _, _, _, _, _, ok, _, _, _, _, _ => by simp [okGs] at ok
  | .cons _ _, [], _, _, _, _, _, _, _, _, _, ok, _, _, _, _, _ => by simp [okGs] at ok
  | .nm _, _, _, _, _, _, _, _, _, _, _, ok, _, _, _, _, _ => by simp [okGs] at ok
  | .nil, [], _ :: _, _, _, _, _, _, _, _, _, _, _, _, _, hb, _ => by simp [bindL] at hb
  | .nil, [], [], _ :: _, _, _, _, _, _, _, _, _, _, _, l, _, _ => by simp at l
  | .cons _ _, _ :: _, [], _, _, _, _, _, _, _, _, _, _, _, _, hb, _ => by simp [bindL] at hb
  | .cons _ _, _ :: _, _ :: _, [], _, _, _, _, _, _, _, _, _, _, l, _, _ => by simp at l
end
end
end DL
namespace DL
open PySem PySem.Spec PyProof.Rows L2

/-! ### what is walked -/
/-- a list, a tuple or a text, whichever comes -/
def iAny (K : PySem.W.Frag) (tl : TE) : TI := fun σ H R => tl σ H fun x H1 =>
  (∃ q, x = .ref q ∧ (∃ xs, SqL K H1 q xs) ∧ R (Itl K q) H1) ∨ (∃ q, x = .ref q ∧ (∃ xs, SqT K H1 q xs) ∧ R (Itt K q) H1) ∨ ∃ z, x = .str z ∧ R (Its z) H1
theorem pi_any {X : Cx} {tg l : Expr} {tl : TE} (hl : PE X l tl) : PI X tg l (iAny X.K tl) := by
  refine ⟨fun pins s σ H R I h => ?_⟩
  refine thn (hl.run pins s σ H _ I h) fun v s1 ⟨x, H1, I1, r1, q1⟩ => ?_
  rcases q1 with ⟨q, rfl, ⟨xs, hq⟩, k⟩ | ⟨q, rfl, ⟨xs, hq⟩, k⟩ | ⟨z, rfl, k⟩
  · obtain rfl : v = .ref q := r1
    obtain ⟨its, _, pl, _⟩ := I1.list hq
    refine wpAny_pyIter_list pl.isList ⟨s1.heap.objs.size, [s1.heap.objs.size], _, _, H1, rfl, I1.kept (t' := s1.toks) fun b o e => Heap.get?_push_of_some _ e, turn_list q _,
      ⟨_, Heap.get?_push_size _ rfl, rfl, rfl⟩, fun b hb => ?_, k⟩
    obtain rfl : b = s1.heap.objs.size := by simpa using hb
    exact I1.fpOk (Nat.le_refl _) (I1.hok.fresh (Nat.le_refl _))
  · obtain rfl : v = .ref q := r1
    obtain ⟨its, _, pl, _⟩ := I1.tuple hq
    refine wpAny_pyIter_tuple (show s1.heap.IsTuple q its.toArray from pl) ⟨s1.heap.objs.size, [s1.heap.objs.size], _, _, H1, rfl, I1.kept (t' := s1.toks) fun b o e => Heap.get?_push_of_some _ e,
      turn_tuple q _, ⟨_, Heap.get?_push_size _ rfl, rfl, rfl⟩, fun b hb => ?_, k⟩
    obtain rfl : b = s1.heap.objs.size := by simpa using hb
    exact I1.fpOk (Nat.le_refl _) (I1.hok.fresh (Nat.le_refl _))
  · obtain ⟨t, rfl⟩ := r1
    cases hz : z.cps.all (· < 128)
    · exact wpAny_pyIter_wide hz (pi_one (tk := s1.toks) I1 _ (turn_str _ z t "str_iterator" (.inr rfl)) ⟨_, Heap.get?_push_size _ rfl, rfl, rfl⟩ k)
    · exact wpAny_pyIter_ascii hz (pi_one (tk := s1.toks) I1 _ (turn_str _ z t "str_ascii_iterator" (.inl rfl)) ⟨_, Heap.get?_push_size _ rfl, rfl, rfl⟩ k)

/-- an iterator J gives the items ds, as long as F stands -/
def Yld (a : An) (F : Hp) (J : It) (ds : List D) : Prop := ∃ (G : Hp → Prop) (Y : Nat → Hp → V → Hp → Prop), Walk J ds.length G Y ∧ (∀ H, Sub F H → G H) ∧
  ∀ (i : Nat) H x H', i < ds.length → Y i H x H' → (H' = H ∧ ∃ d, ds[i]? = some d ∧ Is a F d x) ∨
    ∃ p xs es, x = .ref p ∧ H p = none ∧ H' = upd H p (.tup xs) ∧ IsL a F es xs ∧ ds[i]? = some (.tup es)
def DI (a : An0) (X : Cx) (ρ : Env) (tg it : Expr) (Ψ : List D → Prop) : Prop :=
  ∀ σ H ts vs R, SOk a ρ σ ts vs H → (∀ J H' F Sc Sm ds, Ψ ds → SW a ρ σ ts vs H' F Sc Sm → Yld a.toAn F J ds → R J H') → WI X tg it σ H R
def D.items : D → Option (List D)
  | .lst ds => some ds
  | .tup ds => some ds
  | .scr ns => some (ns.map .int)
  | .str z => some (z.cps.toList.map fun c => .str ⟨#[c]⟩)
  | _ => none
section
variable {a : An0} {X : Cx} {ρ : Env} {σ : L2.St} {ts : List T} {vs : List V} {H F : Hp} {Sc Sm : List Addr} {Φ : T → Prop} {pos p : Pos} {e A B C tg it : Expr} {es : List Expr} {Ψ : List D → Prop} {z : Bool}
theorem yld_at {K : PySem.W.Frag} {J : It} {ds : List D} {xs : List V} {G : Hp → Prop} (w : Walk J xs.length G (YAt xs)) (g : ∀ H, Sub F H → G H) (il : IsL a.toAn F ds xs) : Yld a.toAn F J ds := by
  rw [il.length] at w
  refine ⟨G, YAt xs, w, g, fun i H x H' hi y => .inl ⟨y.1, ?_⟩⟩
  obtain ⟨v, e1, i1⟩ := il.get (List.getElem?_eq_getElem hi)
  exact ⟨_, List.getElem?_eq_getElem hi, by rw [y.2] at e1; cases e1; exact i1⟩
theorem di_any (xo : XOk a X) (io : z = true → NoIo a) (h : DE a X ρ A fun t => t.froz z fun d => ∃ ds, d.items = some ds ∧ Ψ ds) : DI a X ρ tg A Ψ := fun σ H ts vs R ok k => by
  refine ⟨_, pi_any pe_W, ?_⟩
  show WE X A σ H fun x H1 => _
  refine h σ H ts vs _ ok fun x t H1 h1 ok1 => ?_
  obtain ⟨F, Sc, Sm, w⟩ := ok1
  obtain ⟨F', Sm', s, w', i1, ds, e, q⟩ := w.froz1 io h1
  rw [xo.K]
  generalize t.dat = d at i1 e
  match d, e with
  | .lst ds', e =>
    cases e
    obtain ⟨p, us, rfl, hp, il⟩ := i1.lstE
    have hq : ∀ H, Sub F' H → SqL a.K H p us := fun H s => .inl (.inl (s _ _ hp))
    exact .inl ⟨p, rfl, ⟨us, hq _ w'.sub⟩, k _ H1 F' Sc Sm' ds q w' (yld_at (K := a.K) walk_list hq il)⟩
  | .tup ds', e =>
    cases e
    obtain ⟨p, us, rfl, hp, il⟩ := i1.tupE
    have hq : ∀ H, Sub F' H → SqT a.K H p us := fun H s => sub_t s hp
    exact .inr (.inl ⟨p, rfl, ⟨us, hq _ w'.sub⟩, k _ H1 F' Sc Sm' ds q w' (yld_at (K := a.K) walk_tup hq il)⟩)
  | .scr ns, e =>
    cases e
    simp only [Is] at i1
    obtain ⟨p, rfl, hp⟩ := i1
    have hq : ∀ H, Sub F' H → SqL a.K H p (ns.map V.int) := fun H s => sub_l s hp
    exact .inl ⟨p, rfl, ⟨_, hq _ w'.sub⟩, k _ H1 F' Sc Sm' _ q w' (yld_at (K := a.K) walk_list hq (IsL.ints.mpr rfl))⟩
  | .str y, e =>
    cases e
    rw [i1.str]
    refine .inr (.inr ⟨y, rfl, k _ H1 F' Sc Sm' _ q w' ⟨fun _ => True, fun i H v H' => H' = H ∧ ∃ c, y.cps[i]? = some c ∧ v = .str ⟨#[c]⟩, by rw [List.length_map, Array.length_toList]; exact walk_str, fun _ _ => trivial, fun i H x H' hi hy => .inl ⟨hy.1, ?_⟩⟩⟩)
    obtain ⟨c, e1, rfl⟩ := hy.2
    refine ⟨.str ⟨#[c]⟩, ?_, by simp only [Is]⟩
    rw [List.getElem?_map, Array.getElem?_toList, e1]
    rfl
theorem yld_fn {J : It} {n : Nat} {f : Nat → Int} (w : Walk J n (fun _ => True) (YFn fun i => .int (f i))) : Yld a.toAn F J ((List.range n).map fun i => .int (f i)) := by
  refine ⟨fun _ => True, YFn fun i => .int (f i), by rw [List.length_map, List.length_range]; exact w, fun _ _ => trivial, fun i H x H' hi y => .inl ⟨y.1, .int (f i), ?_, by rw [y.2]; simp only [Is]⟩⟩
  rw [List.length_map, List.length_range] at hi
  rw [List.getElem?_map, List.getElem?_range hi]
  rfl
theorem di_rng1 (hg : Gl X "range") (hm : X.mg "range" = none) (hs : notStar A = true) (h : DV a X ρ [A] fun us => ∃ j, T.dats us = [.int j] ∧ (-(2 ^ 62) ≤ j ∧ j < 2 ^ 62) ∧ Ψ ((List.range j.toNat).map fun (i : Nat) => .int i)) : DI a X ρ tg (.Call (.Name "range" p) [A] [] pos) Ψ := fun σ H ts vs R ok k => by
  refine ⟨_, pi_range1 hg hm pa_W (star_of hs), ?_⟩
  show WA X [A] σ H fun vs H1 => ∃ j : Int, vs = [.int j] ∧ -(2 ^ 62) ≤ j ∧ j < 2 ^ 62 ∧ R (Itr 0 j.toNat) H1
  refine h σ H ts vs _ ok fun ws us H1 ⟨j, e, hj, q⟩ l ok1 => ?_
  obtain ⟨il, ok2⟩ := ok1.args l
  rw [e] at il
  obtain ⟨v, rfl, i1⟩ := one il
  rw [i1.int]
  obtain ⟨F, Sc, Sm, w⟩ := ok2
  refine ⟨j, rfl, hj.1, hj.2, k _ H1 F Sc Sm _ q w ?_⟩
  have := yld_fn (a := a) (F := F) (n := j.toNat) (J := Itr 0 j.toNat) (f := fun i => 0 + (i : Int)) walk_range
  simpa using this
theorem di_rng2 (hg : Gl X "range") (hm : X.mg "range" = none) (hs : notStar A = true) (hs2 : notStar B = true) (h : DV a X ρ [A, B] fun us => ∃ i j, T.dats us = [.int i, .int j] ∧ (-(2 ^ 62) ≤ i ∧ i < 2 ^ 62 ∧ -(2 ^ 62) ≤ j ∧ j < 2 ^ 62) ∧ Ψ ((List.range (j - i).toNat).map fun (k : Nat) => .int (i + k))) : DI a X ρ tg (.Call (.Name "range" p) [A, B] [] pos) Ψ := fun σ H ts vs R ok k => by
  refine ⟨_, pi_range2 hg hm pa_W (by rw [star_of hs, star_of hs2]; rfl) (star_of hs2), ?_⟩
  show WA X [A, B] σ H fun vs H1 => ∃ i j : Int, vs = [.int i, .int j] ∧ (-(2 ^ 62) ≤ i ∧ i < 2 ^ 62 ∧ -(2 ^ 62) ≤ j ∧ j < 2 ^ 62) ∧ R (Itr i (j - i).toNat) H1
  refine h σ H ts vs _ ok fun ws us H1 ⟨i, j, e, hj, q⟩ l ok1 => ?_
  obtain ⟨il, ok2⟩ := ok1.args l
  rw [e] at il
  obtain ⟨v, v', rfl, i1, i2⟩ := two il
  rw [i1.int, i2.int]
  obtain ⟨F, Sc, Sm, w⟩ := ok2
  exact ⟨i, j, rfl, hj, k _ H1 F Sc Sm _ q w (yld_fn (f := fun m => i + (m : Int)) walk_range)⟩
theorem di_rng3 (hg : Gl X "range") (hm : X.mg "range" = none) (hs : notStar A = true) (hs2 : notStar B = true) (hs3 : notStar C = true) (h : DV a X ρ [A, B, C] fun us => ∃ i j c n, T.dats us = [.int i, .int j, .int c] ∧ RgC i j c n ∧ Ψ ((List.range n).map fun (k : Nat) => .int (i + k * c))) : DI a X ρ tg (.Call (.Name "range" p) [A, B, C] [] pos) Ψ := fun σ H ts vs R ok k => by
  refine ⟨_, pi_range3 hg hm pa_W (star_of hs) (back_of (by simp [hs2, hs3])), ?_⟩
  show WA X [A, B, C] σ H fun vs H1 => ∃ (i j c : Int) (n : Nat), vs = [.int i, .int j, .int c] ∧ RgC i j c n ∧ R (Itc i c n) H1
  refine h σ H ts vs _ ok fun ws us H1 ⟨i, j, c, n, e, hj, q⟩ l ok1 => ?_
  obtain ⟨il, ok2⟩ := ok1.args l
  rw [e] at il
  simp only [IsL, Is] at il
  obtain ⟨_, _, rfl, rfl, _, _, rfl, rfl, _, _, rfl, rfl, rfl⟩ := il
  obtain ⟨F, Sc, Sm, w⟩ := ok2
  exact ⟨i, j, c, n, rfl, hj, k _ H1 F Sc Sm _ q w (yld_fn (f := fun m => i + (m : Int) * c) walk_rangeC)⟩
def zipD : List D → List D → List D
  | x :: xs, y :: ys => .tup [x, y] :: zipD xs ys
  | _, _ => []
theorem zipD_length : ∀ xs ys : List D, (zipD xs ys).length = min xs.length ys.length
  | [], _ => by simp [zipD]
  | _ :: _, [] => by simp [zipD]
  | x :: xs, y :: ys => by simp only [zipD, List.length_cons, zipD_length xs ys]; omega
theorem zipD_get : ∀ (xs ys : List D) (i : Nat), i < min xs.length ys.length → ∃ x y, xs[i]? = some x ∧ ys[i]? = some y ∧ (zipD xs ys)[i]? = some (.tup [x, y])
  | [], _, i, h => by simp at h
  | _ :: _, [], i, h => by simp at h
  | x :: xs, y :: ys, 0, _ => ⟨x, y, rfl, rfl, rfl⟩
  | x :: xs, y :: ys, i + 1, h => by
    obtain ⟨u, v, e1, e2, e3⟩ := zipD_get xs ys i (by simp only [List.length_cons] at h; omega)
    exact ⟨u, v, by simpa using e1, by simpa using e2, by simpa [zipD] using e3⟩
theorem yld_zip {J : It} {xs ys : List V} {ds es : List D} {G : Hp → Prop} {n : Nat} (hn : n = min xs.length ys.length) (w : Walk J n G (YPair (fun i => xs[i]?) (fun i => ys[i]?))) (g : ∀ H, Sub F H → G H) (i1 : IsL a.toAn F ds xs) (i2 : IsL a.toAn F es ys) : Yld a.toAn F J (zipD ds es) := by
  have hl : (zipD ds es).length = n := by rw [zipD_length, hn, i1.length, i2.length]
  refine ⟨G, _, by rw [hl]; exact w, g, fun i H x H' hi y => .inr ?_⟩
  rw [zipD_length] at hi
  obtain ⟨q, u, v, rfl, hq, rfl, e1, e2⟩ := y
  obtain ⟨d, e, g1, g2, g3⟩ := zipD_get ds es i hi
  obtain ⟨u', f1, j1⟩ := i1.get g1
  obtain ⟨v', f2, j2⟩ := i2.get g2
  have e1 : xs[i]? = some u := e1
  have e2 : ys[i]? = some v := e2
  rw [e1] at f1
  rw [e2] at f2
  cases f1
  cases f2
  exact ⟨q, [u, v], [d, e], rfl, hq, rfl, by simp only [IsL]; exact ⟨u, [v], rfl, j1, v, [], rfl, j2, rfl⟩, g3⟩
theorem walk_zipT {K : PySem.W.Frag} {q b : Addr} {xs ys : List V} {n : Nat} (hn : n = min xs.length ys.length) : Walk (RZ.ItzT K q b) n (fun H => SqT K H q xs ∧ SqT K H b ys) (YPair (fun i => xs[i]?) (fun i => ys[i]?)) := by
  subst hn
  refine ⟨fun i _ hi g => ?_, fun _ g => ⟨xs, ys, g.1, g.2, by omega⟩, fun i H v H' _ g y => ?_⟩
  · have h1 : i < xs.length := by omega
    have h2 : i < ys.length := by omega
    exact ⟨xs, ys, xs[i], ys[i], g.1, g.2, by simp [h1], by simp [h2]⟩
  · obtain ⟨t, x, u, h1, h2, h3, h4, h5⟩ := y
    exact ⟨t, x, u, h1, h2, h3, h4 xs g.1, h5 ys g.2⟩
def isTup : Expr → Bool
  | .Tuple _ _ _ => true
  | _ => false
/-- two lists, or two tuples -/
def zipW : List D → (List D → Prop) → Prop
  | [.lst xs, .lst ys], Ψ => Ψ (zipD xs ys)
  | [.tup xs, .tup ys], Ψ => Ψ (zipD xs ys)
  | _, _ => False
theorem di_zip (xo : XOk a X) (io : z = true → NoIo a) (hg : Gl X "zip") (hm : X.mg "zip" = none) (ht : isTup tg = true) (hs : notStar A = true) (hs2 : notStar B = true) (h : DV a X ρ [A, B] fun us => frozs z us fun ds => zipW ds Ψ) :
    DI a X ρ tg (.Call (.Name "zip" p) [A, B] [] pos) Ψ := fun σ H ts vs R ok k => by
  match tg, ht with
  | .Tuple elts kk tpos, _ =>
  refine ⟨_, RZ.pi_zipA hg hm pa_W (star_of hs) (back_of (by simp [hs2])), ?_⟩
  show WA X [A, B] σ H fun vs H1 => _
  refine h σ H ts vs _ ok fun ws us H1 q l ok1 => ?_
  obtain ⟨F0, Sc, Sm, w⟩ := ok1
  obtain ⟨F, Sm1, ds, s1, w1, il, q⟩ := w.frozs io l q
  rw [xo.K]
  match ds, q with
  | [.lst xs, .lst ys], q =>
    obtain ⟨v, v', rfl, j1, j2⟩ := two il
    obtain ⟨p1, us1, rfl, hp1, il1⟩ := j1.lstE
    obtain ⟨p2, us2, rfl, hp2, il2⟩ := j2.lstE
    have hq1 : ∀ H, Sub F H → SqL a.K H p1 us1 := fun H s => .inl (.inl (s _ _ hp1))
    have hq2 : ∀ H, Sub F H → SqL a.K H p2 us2 := fun H s => .inl (.inl (s _ _ hp2))
    exact ⟨p1, p2, us1, us2, rfl, .inl ⟨hq1 _ w1.sub, hq2 _ w1.sub, k _ H1 F Sc Sm1 _ q w1 (yld_zip rfl (walk_zip rfl) (fun H s => ⟨hq1 H s, hq2 H s⟩) il1 il2)⟩⟩
  | [.tup xs, .tup ys], q =>
    obtain ⟨v, v', rfl, j1, j2⟩ := two il
    obtain ⟨p1, us1, rfl, hp1, il1⟩ := j1.tupE
    obtain ⟨p2, us2, rfl, hp2, il2⟩ := j2.tupE
    have hq1 : ∀ H, Sub F H → SqT a.K H p1 us1 := fun H s => sub_t s hp1
    have hq2 : ∀ H, Sub F H → SqT a.K H p2 us2 := fun H s => sub_t s hp2
    exact ⟨p1, p2, us1, us2, rfl, .inr ⟨hq1 _ w1.sub, hq2 _ w1.sub, k _ H1 F Sc Sm1 _ q w1 (yld_zip rfl (walk_zipT rfl) (fun H s => ⟨hq1 H s, hq2 H s⟩) il1 il2)⟩⟩
def enumFrom (i : Nat) : List D → List D
  | [] => []
  | d :: r => .tup [.int i, d] :: enumFrom (i + 1) r
theorem enumFrom_length : ∀ (ds : List D) (i : Nat), (enumFrom i ds).length = ds.length
  | [], _ => rfl
  | d :: r, i => by simp [enumFrom, enumFrom_length r]
theorem enumFrom_get : ∀ (ds : List D) (k i : Nat) (d : D), ds[i]? = some d → (enumFrom k ds)[i]? = some (.tup [.int ((k + i : Nat) : Int), d])
  | [], _, _, _, h => by simp at h
  | e :: r, k, 0, d, h => by simp at h; subst h; simp [enumFrom]
  | e :: r, k, i + 1, d, h => by
    simp only [List.getElem?_cons_succ] at h
    rw [enumFrom, List.getElem?_cons_succ, enumFrom_get r (k + 1) i d h]
    congr 5
    omega
theorem di_enum (xo : XOk a X) (io : z = true → NoIo a) (hg : Gl X "enumerate") (hm : X.mg "enumerate" = none) (ht : isTup tg = true) (hs : notStar A = true) (h : DV a X ρ [A] fun us => frozs z us fun ds => ∃ xs, ds = [.lst xs] ∧ Ψ (enumFrom 0 xs)) :
    DI a X ρ tg (.Call (.Name "enumerate" p) [A] [] pos) Ψ := fun σ H ts vs R ok k => by
  match tg, ht with
  | .Tuple elts kk tpos, _ =>
  refine ⟨_, pi_enum hg hm pa_W (star_of hs), ?_⟩
  show WA X [A] σ H fun vs H1 => _
  refine h σ H ts vs _ ok fun ws us H1 q l ok1 => ?_
  obtain ⟨F0, Sc, Sm, w⟩ := ok1
  obtain ⟨F, Sm1, ds, s1, w1, il, xs, rfl, q⟩ := w.frozs io l q
  rw [xo.K]
  obtain ⟨v, rfl, j1⟩ := one il
  obtain ⟨p1, us1, rfl, hp1, il1⟩ := j1.lstE
  have hq1 : ∀ H, Sub F H → SqL a.K H p1 us1 := fun H s => .inl (.inl (s _ _ hp1))
  refine ⟨p1, us1, rfl, hq1 _ w1.sub, k _ H1 F Sc Sm1 _ q w1 ⟨_, _, by rw [enumFrom_length, ← il1.length]; exact walk_enum, hq1, fun i H x H' hi y => .inr ?_⟩⟩
  obtain ⟨r, u, v, rfl, hr, rfl, e1, e2⟩ := y
  cases e1
  rw [enumFrom_length] at hi
  obtain ⟨v', f1, i1⟩ := il1.get (List.getElem?_eq_getElem hi)
  have e2 : us1[i]? = some v := e2
  rw [e2] at f1
  cases f1
  refine ⟨r, _, [.int ((0 + i : Nat) : Int), xs[i]], rfl, hr, rfl, ?_, enumFrom_get xs 0 i _ (List.getElem?_eq_getElem hi)⟩
  simp only [IsL, Is]
  exact ⟨_, _, rfl, by rw [Nat.zero_add], _, _, rfl, i1, rfl⟩
/-- range(j), range(i, j), range(i, j, c) -/
def rngW : List D → (List D → Prop) → Prop
  | [.int j], Ψ => (-(2 ^ 62) ≤ j ∧ j < 2 ^ 62) ∧ Ψ ((List.range j.toNat).map fun (i : Nat) => .int i)
  | [.int i, .int j], Ψ => (-(2 ^ 62) ≤ i ∧ i < 2 ^ 62 ∧ -(2 ^ 62) ≤ j ∧ j < 2 ^ 62) ∧ Ψ ((List.range (j - i).toNat).map fun (k : Nat) => .int (i + k))
  | [.int i, .int j, .int c], Ψ => ∃ n, RgC i j c n ∧ Ψ ((List.range n).map fun (k : Nat) => .int (i + k * c))
  | _, _ => False
end
end DL
namespace DL
open PySem PySem.Spec PyProof.Rows L2
section
variable {a : An0} {X : Cx} {ρ : Env} {σ : L2.St} {ts : List T} {vs : List V} {H F : Hp} {Sc Sm : List Addr} {Φ : T → Prop} {pos p : Pos} {e A B C tg it elt : Expr} {es : List Expr} {Ψ : List D → Prop} {z : Bool}

/-- one place that is held alone is written -/
theorem SW.upd {D : Addr} {o : HO} {ρ' : Env} {σ' : L2.St} {ts' : List T} {vs' : List V} {Sc' Sm' : List Addr} (w : SW a ρ σ ts vs H F Sc Sm) (hD : D ∈ Sc ++ Sm) (hw : ∀ G ∈ a.W, hb a.toAn G D = none)
    (cells : OwC a.toAn F (upd H D o) ρ' σ' Sc') (tm : OwL a.toAn F (upd H D o) ts' vs' Sm') (nd : (Sc' ++ Sm').Nodup) (k : ∀ p ∈ Sc' ++ Sm', p ∈ Sc ++ Sm) (len : ρ'.length = σ'.length) :
    SW a ρ' σ' ts' vs' (upd H D o) F Sc' Sm' := by
  obtain ⟨f1, f2, f3⟩ := w.fr D hD
  refine ⟨fun p u q => ?_, ⟨w.gw.ff, fun p u hp e => ?_, w.gw.nn, fun p h => ?_⟩, w.bagM, fun b hb => ?_, cells, tm, nd, fun p hp => w.fr p (k p hp), len, fun G hG p u e => ?_, w.wif⟩
  · rw [upd_ne (fun z => by rw [z, f1] at q; cases q)]
    exact w.sub p u q
  · rw [upd_ne (fun z => ?_)]
    · exact w.gw.hh p u hp e
    · subst z
      rcases f3 with y | y
      · exact hp y
      · rw [y] at e; cases e
  · unfold L2.upd
    split
    · simp
    · exact w.gw.th p h
  · obtain ⟨b1, x, y, z, c, ns, b2, b3⟩ := w.bag b hb
    refine ⟨b1, x, y, z, c, ns, ?_, b3⟩
    rw [upd_ne (fun z => f2 (by rw [← z]; exact hb))]
    exact b2
  · have h1 := w.wit G hG p u e
    have ne : p ≠ D := fun z => by rw [z, hw G hG] at e; cases e
    unfold DL.hb at h1 ⊢
    split
    · rename_i y; rw [if_pos y] at h1; cases h1
    · rename_i y; rw [if_neg y] at h1; rw [upd_ne ne]; exact h1
/-- temporaries stay as they are where another place is written; what is only read was so ahead of it -/
theorem OwL.mix {a : An} {F F1 H1 H H' : Hp} (eb : Sub (hb a H1) (hb a H')) : ∀ {ts : List T} {vs : List V} {S1 S : List Addr}, OwL a F1 H1 ts vs S1 → OwL a F H ts vs S → (∀ p ∈ S, ∀ o, H p = some o → H' p = some o) → OwL a F H' ts vs S
  | [], _, _, _, _, h, _ => by simpa only [OwL] using h
  | t :: ts, vs, S1, S, h1, h, k => by
    simp only [OwL] at h1 h ⊢
    obtain ⟨v1, r1, Sa, Sb, e1, ha, hb', rfl⟩ := h1
    obtain ⟨v, r, Sc, Sd, e, hc, hd, rfl⟩ := h
    obtain ⟨rfl, rfl⟩ : v1 = v ∧ r1 = r := by
      rw [e] at e1
      cases e1
      exact ⟨rfl, rfl⟩
    refine ⟨_, _, Sc, Sd, e, ?_, OwL.mix eb hb' hd (fun p hp => k p (List.mem_append_right _ hp)), rfl⟩
    cases hn : t.nvw with
    | true => exact hc.mono' (Sub.refl F) (hc.nv hn) fun p hp => k p (List.mem_append_left _ hp)
    | false =>
      cases t with
      | vw d =>
        simp only [Ow] at ha hc ⊢
        exact ⟨hc.1, ha.2.mono eb⟩
      | leaf d => simp [T.nvw] at hn
      | lst us => simp [T.nvw] at hn
      | tup us => simp [T.nvw] at hn
/-- an item is appended to a list that is being made -/
theorem SW.more {t : T} {acc : List T} {y : V} {D : Addr} {F1 H1 : Hp} {S1 : List Addr} (w : SW a ρ σ (t :: .lst acc :: ts) (y :: .ref D :: vs) H F Sc Sm) (n : t.nvw = true) (hw : ∀ G ∈ a.W, hb a.toAn G D = none)
    (hW : H1 ∈ a.W) (o1 : OwL a.toAn F1 H1 ts vs S1) : ∃ ws, H D = some (.lst ws) ∧ ws.length = acc.length ∧ ∃ Sm', SW a ρ σ (.lst (acc ++ [t]) :: ts) (.ref D :: vs) (L2.upd H D (.lst (ws ++ [y]))) F Sc Sm' := by
  obtain ⟨v', r, St, S2, e, ht, h2, e2⟩ := (show ∃ v' r S1 S2, y :: V.ref D :: vs = v' :: r ∧ Ow a.toAn F H t v' S1 ∧ OwL a.toAn F H (.lst acc :: ts) r S2 ∧ Sm = S1 ++ S2 by
    have := w.tmps; simpa only [OwL] using this)
  cases e
  obtain ⟨v', r, Sl, Sr, e, hl, hr, e3⟩ := (show ∃ v' r S1 S3, V.ref D :: vs = v' :: r ∧ Ow a.toAn F H (.lst acc) v' S1 ∧ OwL a.toAn F H ts r S3 ∧ S2 = S1 ++ S3 by
    simpa only [OwL] using h2)
  cases e
  subst e3
  subst e2
  simp only [Ow] at hl
  obtain ⟨nn, q, ws, Sa, eq, hq, ha, rfl⟩ := hl
  cases eq
  obtain ⟨n1, n2, n3⟩ := List.nodup_append.mp w.nd
  obtain ⟨m1, m2, m3⟩ := List.nodup_append.mp n2
  obtain ⟨l1, l2, l3⟩ := List.nodup_append.mp m2
  obtain ⟨k1, k2⟩ := List.nodup_cons.mp l1
  -- D stands apart from all the rest
  have dSc : D ∉ Sc := fun z => n3 D z D (List.mem_append_right _ (List.mem_append_left _ List.mem_cons_self)) rfl
  have dSt : D ∉ St := fun z => m3 D z D (List.mem_append_left _ List.mem_cons_self) rfl
  have dSr : D ∉ Sr := fun z => l3 D List.mem_cons_self D z rfl
  have keep : ∀ {S : List Addr}, D ∉ S → ∀ p ∈ S, ∀ o, H p = some o → L2.upd H D (.lst (ws ++ [y])) p = some o := fun {S} h p hp o e => by
    rw [upd_ne (fun z => h (by rw [← z]; exact hp))]
    exact e
  have mem : D ∈ Sc ++ (St ++ (D :: Sa ++ Sr)) := List.mem_append_right _ (List.mem_append_right _ (List.mem_append_left _ List.mem_cons_self))
  have wit : Sub (hb a.toAn H1) (hb a.toAn (L2.upd H D (.lst (ws ++ [y])))) := fun p u e => by
    have h1 := w.wit H1 hW p u e
    have ne : p ≠ D := fun z => by rw [z, hw H1 hW] at e; cases e
    unfold DL.hb at h1 ⊢
    split
    · rename_i z; rw [if_pos z] at h1; cases h1
    · rename_i z; rw [if_neg z] at h1; rw [upd_ne ne]; exact h1
  refine ⟨ws, hq, ha.length, D :: (Sa ++ St) ++ Sr, w.upd mem hw (w.cells.mono' (Sub.refl F) (keep dSc)) ?_ ?_ (fun p hp => ?_) w.len⟩
  · simp only [OwL, Ow]
    refine ⟨.ref D, vs, D :: (Sa ++ St), Sr, rfl, ⟨?_, D, ws ++ [y], Sa ++ St, rfl, upd_same, ?_, rfl⟩, OwL.mix wit o1 hr (keep dSr), rfl⟩
    · refine (ha.nvs (nvw_of nn) : T.nvs acc = true) |> fun z => ?_
      have : ∀ (us : List T), T.nvs us = true → T.nvs (us ++ [t]) = true := fun us => by
        induction us with
        | nil => intro _; simp [T.nvs, ht.nv n]
        | cons u us ih => intro h; simp only [T.nvs, Bool.and_eq_true, List.cons_append] at h ⊢; exact ⟨h.1, ih h.2⟩
      exact this acc z
    · refine OwL.join (ha.mono' (Sub.refl F) nn (keep k1)) ?_
      simp only [OwL]
      exact ⟨y, [], St, [], rfl, ht.mono' (Sub.refl F) (ht.nv n) (keep dSt), ⟨rfl, rfl⟩, by simp⟩
  · refine List.nodup_append.mpr ⟨n1, List.nodup_append.mpr ⟨?_, l2, fun p hp q hz => ?_⟩, fun p hp q hz => n3 p hp q ?_⟩
    · refine List.nodup_cons.mpr ⟨fun z => (List.mem_append.mp z).elim k1 dSt, List.nodup_append.mpr ⟨k2, m1, fun p hp q hq e => m3 q hq p (List.mem_append_left _ (List.mem_cons_of_mem _ hp)) e.symm⟩⟩
    · rcases List.mem_cons.mp hp with rfl | hp
      · exact fun z => dSr (z ▸ hz)
      · rcases List.mem_append.mp hp with z | z
        · exact l3 p (List.mem_cons_of_mem _ z) q hz
        · exact m3 p z q (List.mem_append_right _ hz)
    · rcases List.mem_append.mp hz with z | z
      · rcases List.mem_cons.mp z with rfl | z
        · exact List.mem_append_right _ (List.mem_append_left _ List.mem_cons_self)
        · rcases List.mem_append.mp z with y | y
          · exact List.mem_append_right _ (List.mem_append_left _ (List.mem_cons_of_mem _ y))
          · exact List.mem_append_left _ y
      · exact List.mem_append_right _ (List.mem_append_right _ z)
  · rcases List.mem_append.mp hp with z | z
    · exact List.mem_append_left _ z
    · refine List.mem_append_right _ ?_
      rcases List.mem_append.mp z with z | z
      · rcases List.mem_cons.mp z with rfl | z
        · exact List.mem_append_right _ (List.mem_append_left _ List.mem_cons_self)
        · rcases List.mem_append.mp z with y | y
          · exact List.mem_append_right _ (List.mem_append_left _ (List.mem_cons_of_mem _ y))
          · exact List.mem_append_left _ y
      · exact List.mem_append_right _ (List.mem_append_right _ z)
end
end DL
namespace DL
open PySem PySem.Spec PyProof.Rows L2

/-- a comprehension over plain items: the target, the test, the element -/
def lcW (g : Tg) (wc : Env → (Bool → Prop) → Prop) (we : Env → (T → Prop) → Prop) (ρ : Env) : List D → List T → (List T → Prop) → Prop
  | [], acc, Φ => Φ acc
  | d :: r, acc, Φ => ∃ ρ', bindG g (.leaf d) ρ = some ρ' ∧ wc ρ' fun b => if b = true then we ρ' fun t => t.fin fun u => lcW g wc we ρ r (acc ++ [u]) Φ else lcW g wc we ρ r acc Φ
section
variable {a : An0} {X : Cx} {ρ : Env} {σ : L2.St} {ts : List T} {vs : List V} {H F : Hp} {Sc Sm : List Addr} {Φ : T → Prop} {pos p : Pos} {e A B C tg it elt : Expr} {es : List Expr} {Ψ : List D → Prop} {z : Bool}

theorem wipe_sub (σ : L2.St) (own : List Nat) : ∀ r : List Nat, (∀ v ∈ r, v ∈ own) → L2.wipe (L2.wipe σ r) own = L2.wipe σ own
  | [], _ => rfl
  | v :: r, h => by
    show L2.wipe ((L2.wipe σ r).set v none) own = _
    rw [wipe_set (h v List.mem_cons_self), wipe_sub σ own r fun u hu => h u (List.mem_cons_of_mem _ hu)]
theorem Env.wipes_put {i : Nat} {x : Option T} {own : List Nat} (h : i ∈ own) : (ρ.put i x).wipes own = ρ.wipes own := by
  have low : ∀ (ρ : Env) (i : Nat) (x : Option T) (own : List Nat), i ∉ own → (ρ.put i x).wipes own = (ρ.wipes own).put i x := fun ρ i x own => by
    induction own with
    | nil => intro _; rfl
    | cons v r ih =>
      intro h
      simp only [Env.wipes]
      rw [ih fun z => h (List.mem_cons_of_mem _ z)]
      have comm : ∀ (ρ : Env) (i j : Nat) (x y : Option T), i ≠ j → (ρ.put i x).put j y = (ρ.put j y).put i x := fun ρ => by
        induction ρ with
        | nil => intro i j x y _; rfl
        | cons u r ih => intro i j x y h; cases i <;> cases j <;> simp [Env.put] at h ⊢; exact ih _ _ x y h
      exact comm _ _ _ _ _ fun z => h (by rw [z]; exact List.mem_cons_self)
  have twice : ∀ (ρ : Env) (i : Nat) (x : Option T), (ρ.put i x).put i none = ρ.put i none := fun ρ => by
    induction ρ with
    | nil => intro i x; rfl
    | cons u r ih => intro i x; cases i <;> simp [Env.put, ih]
  induction own with
  | nil => cases h
  | cons v r ih =>
    simp only [Env.wipes]
    by_cases hr : i ∈ r
    · rw [ih hr]
    · rcases List.mem_cons.mp h with rfl | h
      · rw [low _ _ _ _ hr, twice]
      · exact absurd h hr
mutual
theorem bindG_wipes : ∀ {g : Tg} {t : T} {ρ ρ' : Env} {own : List Nat}, bindG g t ρ = some ρ' → (∀ i ∈ g.slots, i ∈ own) → ρ'.wipes own = ρ.wipes own
  | .nm i, t, ρ, ρ', own, h, k => by
    simp only [bindG] at h
    split at h
    · cases h; exact Env.wipes_put (k i (by simp [Tg.slots]))
    · cases h
  | .nil, t, ρ, ρ', own, h, k => by
    simp only [bindG] at h
    split at h
    · rename_i us _
      cases us with
      | nil => simp only [bindL, Option.some.injEq] at h; rw [h]
      | cons u us => simp [bindL] at h
    · cases h
  | .cons a b, t, ρ, ρ', own, h, k => by
    simp only [bindG] at h
    split at h
    · obtain ⟨ρ1, h1, h2⟩ := Option.bind_eq_some_iff.mp h
      rw [bindL_wipes h2 fun i hi => k i (by simp [Tg.slots, hi]), bindG_wipes h1 fun i hi => k i (by simp [Tg.slots, hi])]
    · cases h
theorem bindL_wipes : ∀ {g : Tg} {us : List T} {ρ ρ' : Env} {own : List Nat}, bindL g us ρ = some ρ' → (∀ i ∈ g.slots, i ∈ own) → ρ'.wipes own = ρ.wipes own
  | .nil, [], ρ, ρ', own, h, k => by simp only [bindL, Option.some.injEq] at h; rw [h]
  | .cons a b, u :: us, ρ, ρ', own, h, k => by
    simp only [bindL] at h
    obtain ⟨ρ1, h1, h2⟩ := Option.bind_eq_some_iff.mp h
    rw [bindL_wipes h2 fun i hi => k i (by simp [Tg.slots, hi]), bindG_wipes h1 fun i hi => k i (by simp [Tg.slots, hi])]
  | .nil, _ :: _, _, _, _, h, _ => by simp [bindL] at h
  | .cons _ _, [], _, _, _, h, _ => by simp [bindL] at h
  | .nm _, _, _, _, _, h, _ => by simp [bindL] at h
end
/-- the block of a comprehension, by its own context -/
abbrev Blk (X : Cx) (scope : Scope) (s : Shared) (H : Hp) (C : Addr) (cl : List (Str × Addr)) (fp : List Addr) : Cx := X.blk s H scope (compEnvC scope cl C X.env) fp
theorem XOk.blk (xo : XOk a X) {scope : Scope} {s : Shared} {H : Hp} {C : Addr} {cl : List (Str × Addr)} {fp : List Addr} : XOk a (Blk X scope s H C cl fp) :=
  ⟨xo.K, xo.calm, xo.nd, xo.gu, xo.hd, xo.un, PassesOwn.never⟩
/-- what goes along as the walk goes on -/
abbrev An0.on (a : An0) (H F : Hp) : An0 := { a with W := H :: a.W, V := F :: a.V }
theorem XOk.on {H F : Hp} (xo : XOk a X) : XOk (a.on H F) X := ⟨xo.K, xo.calm, xo.nd, xo.gu, xo.hd, xo.un, xo.po⟩
theorem FnAt.on {H F : Hp} {x : Str} {f : SpecF} (h : FnAt a X x f) : FnAt (a.on H F) X x f := ⟨h.ex⟩
theorem FnAt.blk {scope : Scope} {s : Shared} {H : Hp} {C : Addr} {cl : List (Str × Addr)} {fp : List Addr} {x : Str} {f : SpecF} (h : FnAt a X x f) : FnAt a (Blk X scope s H C cl fp) x f := ⟨h.ex⟩
/-- the names within a comprehension -/
abbrev Ct.inn (c : Ct) (scope : Scope) : Ct := ⟨c.N, relS scope c.sc, scope⟩
theorem COk.blk {c : Ct} (co : COk c X) {scope : Scope} {s : Shared} {H : Hp} {C : Addr} {cl : List (Str × Addr)} {fp : List Addr} : COk (c.inn scope) (Blk X scope s H C cl fp) :=
  ⟨co.N, by show relS scope X.env.scope = _; rw [co.sc], fun x e => by show (scope.names.lookup x == some .cell) = true; rw [e]; rfl, fun x k hk e => lookup_relS_keep hk e⟩
theorem SW.on {F2 : Hp} (w : SW a ρ σ ts vs H F Sc Sm) (h : Sub F2 F) : SW (a.on H F2) ρ σ ts vs H F Sc Sm :=
  ⟨w.sub, w.gw, w.bagM, w.bag, w.cells, w.tmps, w.nd, w.fr, w.len, fun G hG => (List.mem_cons.mp hG).elim (fun e => by rw [e]; exact Sub.refl _) (w.wit G), fun G hG => (List.mem_cons.mp hG).elim (fun e => by rw [e]; exact h) (w.wif G)⟩
theorem SW.off {H2 F2 : Hp} (w : SW (a.on H2 F2) ρ σ ts vs H F Sc Sm) : SW a ρ σ ts vs H F Sc Sm :=
  ⟨w.sub, w.gw, w.bagM, w.bag, w.cells, w.tmps, w.nd, w.fr, w.len, fun G hG => w.wit G (List.mem_cons_of_mem _ hG), fun G hG => w.wif G (List.mem_cons_of_mem _ hG)⟩
/-- the block's readings, whichever block it is -/
def gB (X : Cx) (scope : Scope) (tg : Expr) : TG := fun v σ H Q => ∀ s H2 C cl fp, WG (Blk X scope s H2 C cl fp) tg v σ H Q
def tB' (X : Cx) (scope : Scope) (ifs : List Expr) : TT := fun σ H Q => ∀ s H2 C cl fp, ∃ t, PTs (Blk X scope s H2 C cl fp) ifs t ∧ t σ H Q
def eB (X : Cx) (scope : Scope) (elt : Expr) : TE := fun σ H Q => ∀ s H2 C cl fp, WE (Blk X scope s H2 C cl fp) elt σ H Q
theorem gB_ok {scope : Scope} (s : Shared) (H2 : Hp) (C : Addr) (cl : List (Str × Addr)) (fp : List Addr) : PG (Blk X scope s H2 C cl fp) tg (gB X scope tg) :=
  ⟨fun pins s' σ H v u Q I r hw => (pg_W (X := Blk X scope s H2 C cl fp)).run pins s' σ H v u Q I r (hw s H2 C cl fp)⟩
theorem tB_ok {scope : Scope} {ifs : List Expr} (s : Shared) (H2 : Hp) (C : Addr) (cl : List (Str × Addr)) (fp : List Addr) : PTs (Blk X scope s H2 C cl fp) ifs (tB' X scope ifs) :=
  ⟨fun pins s' σ H Q I hw => let ⟨_, p, q⟩ := hw s H2 C cl fp; p.run pins s' σ H Q I q⟩
theorem eB_ok {scope : Scope} (s : Shared) (H2 : Hp) (C : Addr) (cl : List (Str × Addr)) (fp : List Addr) : PE (Blk X scope s H2 C cl fp) elt (eB X scope elt) :=
  ⟨fun pins s' σ H Q I hw => (pe_W (X := Blk X scope s H2 C cl fp)).run pins s' σ H Q I (hw s H2 C cl fp)⟩
theorem itset (ns : notSet it = true) {env : PySem.Env} (x : Value) : foldedSetIterable it env x = pure x := by
  cases it <;> first | rfl | simp [notSet] at ns
/-- where its test and its element are shown for every block -/
theorem lc_read {c : Ct} {scope : Scope} {own : List (Str × Nat)} {g : Tg} {ifs : List Expr} {wc : Env → (Bool → Prop) → Prop} {we : Env → (T → Prop) → Prop} (xo : XOk a X) (co : COk c X)
    (gk : okG (c.inn scope) g tg = true) (sl : ∀ i ∈ g.slots, i ∈ own.map (·.2)) (wp : ρ.wipes (own.map (·.2)) = ρ)
    (hc : ∀ H F s H2 C cl fp ρ' Ψ, wc ρ' Ψ → ∀ σ H' ts vs Q, SOk (a.on H F) ρ' σ ts vs H' → (∀ b H'', Ψ b → SOk (a.on H F) ρ' σ ts vs H'' → Q b H'') → ∃ t, PTs (Blk X scope s H2 C cl fp) ifs t ∧ t σ H' Q)
    (he : ∀ H F s H2 C cl fp ρ' Ψ, we ρ' Ψ → DE (a.on H F) (Blk X scope s H2 C cl fp) ρ' elt Ψ)
    (h : DI a X ρ tg it fun ds => ds.length ≤ 100000 ∧ lcW g wc we ρ ds [] fun us => Φ (.lst us)) {Q : VK}
    (ok : SOk a ρ σ ts vs H) (k : ∀ v t H', Φ t → SOk a ρ σ (t :: ts) (v :: vs) H' → Q v H') : tLc (WI X tg it) (gB X scope tg) (tB' X scope ifs) (eB X scope elt) (own.map (·.2)) σ H Q := by
  show WI X tg it σ H fun J H1 => ∀ D, H1 D = none → ∃ W : Nat → Nat → Hp → Prop, _
  refine h σ H ts vs _ ok fun J H1 F Sc Sm ds ⟨hz, q⟩ w y D hD => ?_
  obtain ⟨G, Y, wk, hG, hY⟩ := y
  -- the state at a turn
  have w0 := w.on (Sub.refl F)
  obtain ⟨Sm0, w1⟩ := SW.mkLst (us := []) (ws := []) (p := D) w0 rfl rfl hD
  have hW : ∀ G' ∈ (a.on H1 F).W, hb a.toAn G' D = none := fun G' hG' => by
    cases e : hb a.toAn G' D with
    | none => rfl
    | some o =>
      have := hb_sub _ _ D o (w0.wit G' hG' D o e)
      rw [hD] at this; cases this
  refine lc_it wk (g := gB X scope tg) (tt := tB' X scope ifs) (te := eB X scope elt) (vs := own.map (·.2)) (σ := σ) (Qd := fun H => Q (.ref D) H) (fun i H => ∃ F2 Sc2 Sm2 acc, SW (a.on H1 F) ρ σ (.lst acc :: ts) (.ref D :: vs) H F2 Sc2 Sm2 ∧ acc.length ≤ i ∧ lcW g wc we ρ (ds.drop i) acc fun us => Φ (.lst us))
    ⟨F, Sc, Sm0, [], w1, Nat.zero_le _, q⟩ (fun i H hi ⟨F2, Sc2, Sm2, acc, w2, _⟩ => hG H fun p o e => w2.sub p o (w2.wif F List.mem_cons_self p o e)) ?_ ?_
  · rintro i x H H' hi ⟨F2, Sc2, Sm2, acc, w2, la, q2⟩ hy
    rw [List.drop_eq_getElem_cons hi] at q2
    obtain ⟨ρ', hb', q3⟩ := q2
    have s2 : Sub F F2 := w2.wif F List.mem_cons_self
    -- the item
    have ok3 : SOk (a.on H1 F) ρ σ (.leaf ds[i] :: .lst acc :: ts) (x :: .ref D :: vs) H' := by
      rcases hY i H x H' hi hy with ⟨rfl, d, e1, i1⟩ | ⟨p, xs, es, rfl, hp, rfl, il, e1⟩
      · rw [List.getElem?_eq_getElem hi] at e1
        cases e1
        exact ⟨F2, Sc2, Sm2, w2.leaf (i1.mono s2)⟩
      · rw [List.getElem?_eq_getElem hi] at e1
        have e1 := Option.some.inj e1
        rw [e1]
        obtain ⟨_, hF, _⟩ := w2.fresh hp
        refine ⟨_, Sc2, Sm2, (w2.froze (o := .tup xs) hp).leaf ?_⟩
        simp only [Is]
        exact ⟨p, xs, rfl, .inl (.inl upd_same), il.mono (s2.trans (sub_new hF))⟩
    obtain ⟨F3, Sc3, Sm3, w3⟩ := ok3
    obtain ⟨Sc4, w4⟩ := w3.wipe (own.map (·.2))
    rw [wp] at w4
    intro s0 H0 C0 cl0 fp0
    refine dg (xo.on.blk) (co.blk (scope := scope)) gk rfl ⟨F3, Sc4, Sm3, w4⟩ hb' fun σ2 ok5 e5 => ⟨?_, fun s1 H1' C1 cl1 fp1 => ?_⟩
    · have := e5 (own.map (·.2)) sl
      rw [this, wipe_sub _ _ _ fun v h => h]
    · have back : ∀ {ts2 : List T} {vs2 : List V} {H2 : Hp}, SOk (a.on H1 F) ρ' σ2 ts2 vs2 H2 → SOk (a.on H1 F) ρ σ ts2 vs2 H2 := fun ⟨F6, Sc6, Sm6, w6⟩ => by
        obtain ⟨Sc7, w7⟩ := w6.wipe (own.map (·.2))
        rw [bindG_wipes hb' sl, wp, e5 (own.map (·.2)) sl, wipe_sub _ _ _ fun v h => h] at w7
        exact ⟨F6, Sc7, Sm6, w7.unwipe wp⟩
      refine hc H1 F s1 H1' C1 cl1 fp1 ρ' _ q3 σ2 H' _ _ _ ok5 fun b H3 hb3 ok6 => ?_
      cases b with
      | true =>
        rw [if_pos rfl] at hb3
        rw [if_pos rfl]
        intro s2' H2' C2 cl2 fp2
        refine he H1 F s2' H2' C2 cl2 fp2 ρ' _ hb3 σ2 H3 _ _ _ ok6 fun y t H4 ht ok7 => ?_
        refine SOk.fin ok7 ht fun u hu nu ok8 => ?_
        obtain ⟨F9, Sc9, Sm9, w9⟩ := back ok8
        obtain ⟨_, _, _, otm⟩ := (⟨F, Sc, Sm, w0.tmps⟩ : ∃ F Sc Sm, OwL a.toAn F H1 ts vs Sm)
        obtain ⟨ws, hD2, l2, Sm10, w10⟩ := w9.more nu hW List.mem_cons_self (H1 := H1) w0.tmps
        refine ⟨ws, hD2, ?_, F9, Sc9, Sm10, acc ++ [u], w10, by simp; omega, hu⟩
        rw [l2]
        exact smallLt (by omega)
      | false =>
        rw [if_neg (by decide)] at hb3
        rw [if_neg (by decide)]
        obtain ⟨F9, Sc9, Sm9, w9⟩ := back ok6
        exact ⟨F9, Sc9, Sm9, acc, w9, by omega, hb3⟩
  · rintro H ⟨F2, Sc2, Sm2, acc, w2, la, q2⟩
    rw [List.drop_length] at q2
    exact k _ _ H q2 ⟨F2, Sc2, Sm2, w2.off⟩
theorem de_lc {c : Ct} {scope : Scope} {own : List (Str × Nat)} {g : Tg} {ifs : List Expr} {wc : Env → (Bool → Prop) → Prop} {we : Env → (T → Prop) → Prop} (xo : XOk a X) (co : COk c X)
    (bk : blkC c.N c.sc scope own = true) (gk : okG (c.inn scope) g tg = true) (sl : ∀ i ∈ g.slots, i ∈ own.map (·.2)) (wp : ρ.wipes (own.map (·.2)) = ρ) (ns : notSet it = true)
    (hc : ∀ H F s H2 C cl fp ρ' Ψ, wc ρ' Ψ → ∀ σ H' ts vs Q, SOk (a.on H F) ρ' σ ts vs H' → (∀ b H'', Ψ b → SOk (a.on H F) ρ' σ ts vs H'' → Q b H'') → ∃ t, PTs (Blk X scope s H2 C cl fp) ifs t ∧ t σ H' Q)
    (he : ∀ H F s H2 C cl fp ρ' Ψ, we ρ' Ψ → DE (a.on H F) (Blk X scope s H2 C cl fp) ρ' elt Ψ)
    (h : DI a X ρ tg it fun ds => ds.length ≤ 100000 ∧ lcW g wc we ρ ds [] fun us => Φ (.lst us)) :
    DE a X ρ (.ListComp elt [⟨tg, it, ifs, 0⟩] scope pos) Φ := fun σ H ts vs Q ok k => by
  have bo : BlkOk X.N X.env.scope scope own := by
    rw [co.N, co.sc]
    exact blkOk_by bk
  exact ⟨_, pe_lc (own := own) xo.calm xo.nd pi_W bo gB_ok tB_ok eB_ok (itset ns), lc_read xo co gk sl wp hc he h ok k⟩
end
end DL
namespace DL
open PySem PySem.Spec PyProof.Rows L2

/-! ### statements -/
structure EnD where
  nx : Env → Prop
  rt : T → Env → Prop
  bk : Env → Prop := fun _ => False
  ct : Env → Prop := fun _ => False
def Mt (a : An0) (K : EnD) (D : Ends) : Prop :=
  (∀ ρ σ H, K.nx ρ → SOk a ρ σ [] [] H → D.nx σ H) ∧ (∀ t v ρ σ H, K.rt t ρ → SOk a ρ σ [t] [v] H → D.rt v H) ∧
  (∀ ρ σ H, K.bk ρ → SOk a ρ σ [] [] H → D.bk σ H) ∧ ∀ ρ σ H, K.ct ρ → SOk a ρ σ [] [] H → D.ct σ H
def DS (a : An0) (X : Cx) (ρ : Env) (st : Stmt) (K : EnD) : Prop := ∀ σ H D, SOk a ρ σ [] [] H → Mt a K D → WS X st D σ H
def DB (a : An0) (X : Cx) (ρ : Env) (sts : List Stmt) (K : EnD) : Prop := ∀ σ H D, SOk a ρ σ [] [] H → Mt a K D → WB X sts D σ H
section
variable {a : An0} {X : Cx} {ρ : Env} {σ : L2.St} {ts : List T} {vs : List V} {H F : Hp} {Sc Sm : List Addr} {Φ : T → Prop} {pos p : Pos} {e A B C tg it elt : Expr} {es : List Expr} {Ψ : List D → Prop} {z : Bool} {st : Stmt} {rest body : List Stmt} {K : EnD}
theorem db_nil (h : K.nx ρ) : DB a X ρ [] K := fun σ H D ok m => ⟨_, pss_nil, m.1 ρ σ H h ok⟩
theorem db_cons (h : DS a X ρ st { K with nx := fun ρ' => DB a X ρ' rest K }) : DB a X ρ (st :: rest) K := fun σ H D ok m => by
  refine ⟨_, pss_cons ps_W pb_W, ?_⟩
  show WS X st { D with nx := WB X rest D } σ H
  exact h σ H _ ok ⟨fun ρ' σ' H' hk ok' => hk σ' H' D ok' m, m.2⟩
/-- a value that makes no block of its own -/
def noComp : Expr → Bool
  | .ListComp _ _ _ _ => false
  | .SetComp _ _ _ _ => false
  | .DictComp _ _ _ _ _ => false
  | _ => true
theorem noswap {v : Expr} {t : Option Expr} {l : Nat} {env : PySem.Env} (h : noComp v = true) : swapsWith v t l env = pure false := by
  cases v <;> first | rfl | simp [noComp] at h
/-- not a tuple stored into a tuple -/
def noPar : Expr → Expr → Bool
  | .Tuple _ _ _, .Tuple vs _ _ => vs.all (foldedForSure 8) || !(vs.length == 2 || vs.length == 3)
  | .List _ _, .Tuple _ _ _ => false
  | _, _ => true
theorem nopar {t v : Expr} {env : PySem.Env} (h : noPar t v = true) : swappedStores [t] v env = pure none := by
  cases t <;> first | rfl | skip
  · cases v <;> first | rfl | simp [noPar] at h
  · cases v <;> first | rfl | skip
    rename_i ts _ _ vs _ _
    simp only [noPar, Bool.or_eq_true] at h
    unfold swappedStores
    simp only [pure_bind]
    split
    · rfl
    · rename_i hn
      split
      · rfl
      · split
        · rfl
        · rcases h with h | h
          · rw [if_pos h]
          · exfalso
            apply hn
            simp only [Bool.not_eq_true', Bool.or_eq_false_iff, beq_eq_false_iff_ne, ne_eq] at h
            simp only [Bool.or_eq_true, Bool.not_eq_true', Bool.or_eq_false_iff, beq_eq_false_iff_ne, ne_eq, bne_iff_ne]
            by_cases e : vs.length = ts.length
            · rw [← e]; exact .inl (.inl h)
            · exact .inl (.inr e)
theorem asg_one {c : Ct} {env : PySem.Env} {g : Tg} (k : okG c g tg = true) : List.map (fun x => x.snd) (assignEach [tg] env) = [assign tg env] := asg_map k
theorem ds_asg {c : Ct} {g : Tg} (xo : XOk a X) (co : COk c X) (hg : okG c g tg = true) (h1 : noComp e = true) (h2 : noPar tg e = true) (h : DE a X ρ e fun t => t.fin fun u => ∃ ρ', bindG g u ρ = some ρ' ∧ K.nx ρ') : DS a X ρ (.Assign [tg] e pos) K := fun σ H D ok m => by
  refine ⟨_, ps_asg pe_W pg_W (noswap h1) (nopar h2) (asg_one hg), ?_⟩
  show WE X e σ H fun x H1 => WG X tg x σ H1 D.nx
  refine h σ H [] [] _ ok fun v t H1 h1 ok1 => SOk.fin ok1 h1 fun u ⟨ρ', hb, hk⟩ nu ok2 => ?_
  obtain ⟨F, Sc, Sm, w⟩ := ok2
  obtain ⟨S, h3, _⟩ := w.cut
  exact dg xo co hg (h3.nv nu) ⟨F, Sc, Sm, w⟩ hb fun σ' ok3 _ => m.1 ρ' σ' H1 hk ok3
theorem ds_ret (h : DE a X ρ e fun t => t.fin fun u => K.rt u ρ) : DS a X ρ (.Return (some e) pos) K := fun σ H D ok m => by
  refine ⟨_, ps_ret pe_W, ?_⟩
  show WE X e σ H D.rt
  exact h σ H [] [] _ ok fun v t H1 h1 ok1 => SOk.fin ok1 h1 fun u hk nu ok2 => m.2.1 u v ρ σ H1 hk ok2
theorem ds_retN (h : K.rt (.leaf .non) ρ) : DS a X ρ (.Return none pos) K := fun σ H D ok m => ⟨_, ps_retN, m.2.1 _ _ ρ σ H h ok.non⟩
theorem ds_expr (h1 : noComp e = true) (h : DE a X ρ e fun _ => K.nx ρ) : DS a X ρ (.Expr e pos) K := fun σ H D ok m => by
  refine ⟨_, ps_expr pe_W (noswap h1), ?_⟩
  show WE X e σ H fun _ H1 => D.nx σ H1
  exact h σ H [] [] _ ok fun v t H1 h1 ok1 => m.1 ρ σ H1 h1 ok1.pop1
theorem ds_pass (h : K.nx ρ) : DS a X ρ (.Pass pos) K := fun σ H D ok m => ⟨_, ps_pass, m.1 ρ σ H h ok⟩
theorem ds_break (h : K.bk ρ) : DS a X ρ (.Break pos) K := fun σ H D ok m => ⟨_, ps_break, m.2.2.1 ρ σ H h ok⟩
theorem ds_continue (h : K.ct ρ) : DS a X ρ (.Continue pos) K := fun σ H D ok m => ⟨_, ps_continue, m.2.2.2 ρ σ H h ok⟩
theorem ds_if {s1 s2 : List Stmt} (h : DT a X ρ A fun b => if b = true then DB a X ρ s1 K else DB a X ρ s2 K) : DS a X ρ (.If A s1 s2 pos) K := fun σ H D ok m => by
  refine ⟨_, ps_if pt_W pb_W pb_W, ?_⟩
  show WT X A σ H fun b H1 => if b = true then WB X s1 D σ H1 else WB X s2 D σ H1
  refine h σ H [] [] _ ok fun b H1 hb ok1 => ?_
  cases b with
  | true =>
    rw [if_pos rfl] at hb ⊢
    exact hb σ H1 D ok1 m
  | false =>
    rw [if_neg (by decide)] at hb ⊢
    exact hb σ H1 D ok1 m

/-! ### loops -/
def forW (g : Tg) (wb : Env → EnD → Prop) : List D → Env → EnD → Prop
  | [], ρ, K => K.nx ρ
  | d :: r, ρ, K => ∃ ρ', bindG g (.leaf d) ρ = some ρ' ∧ wb ρ' { nx := fun ρ2 => forW g wb r ρ2 K, ct := fun ρ2 => forW g wb r ρ2 K, bk := K.nx, rt := K.rt }
abbrev An0.onV (a : An0) (F : Hp) : An0 := { a with V := F :: a.V }
theorem XOk.onV {F : Hp} (xo : XOk a X) : XOk (a.onV F) X := ⟨xo.K, xo.calm, xo.nd, xo.gu, xo.hd, xo.un, xo.po⟩
theorem SW.onV {F2 : Hp} (w : SW a ρ σ ts vs H F Sc Sm) (h : Sub F2 F) : SW (a.onV F2) ρ σ ts vs H F Sc Sm :=
  ⟨w.sub, w.gw, w.bagM, w.bag, w.cells, w.tmps, w.nd, w.fr, w.len, w.wit, fun G hG => (List.mem_cons.mp hG).elim (fun e => by rw [e]; exact h) (w.wif G)⟩
theorem SW.offV {F2 : Hp} (w : SW (a.onV F2) ρ σ ts vs H F Sc Sm) : SW a ρ σ ts vs H F Sc Sm :=
  ⟨w.sub, w.gw, w.bagM, w.bag, w.cells, w.tmps, w.nd, w.fr, w.len, w.wit, fun G hG => w.wif G (List.mem_cons_of_mem _ hG)⟩
theorem SOk.offV {F2 : Hp} : SOk (a.onV F2) ρ σ ts vs H → SOk a ρ σ ts vs H := fun ⟨F, Sc, Sm, w⟩ => ⟨F, Sc, Sm, w.offV⟩
theorem foldset (ns : notSet it = true) {env : PySem.Env} (x : Value) : foldedSetIterable it env x = pure x := by
  cases it <;> first | rfl | simp [notSet] at ns
theorem passes0 (xo : XOk a X) : PassesOwn (model X.prog X.w) X.A X.env X.xe := xo.po
theorem ds_for {c : Ct} {g : Tg} {wb : Env → EnD → Prop} (xo : XOk a X) (co : COk c X) (hg : okG c g tg = true) (ns : notSet it = true) (hb : ∀ F ρ' K', wb ρ' K' → DB (a.onV F) X ρ' body K')
    (h : DI a X ρ tg it fun ds => forW g wb ds ρ K) : DS a X ρ (.For tg it body [] pos) K := fun σ H D ok m => by
  refine ⟨_, ps_for (passes0 xo) xo.calm pi_W pg_W pb_W (foldset ns), ?_⟩
  show WI X tg it σ H fun J H1 => _
  refine h σ H [] [] _ ok fun J H1 F Sc Sm ds q w y => ?_
  obtain ⟨G, Y, wk, hG, hY⟩ := y
  refine for_it wk (g := WG X tg) (tb := WB X body) (D := D) (σ := σ) (H := H1) (fun i σ H => ∃ ρ2 F2 Sc2 Sm2, SW (a.onV F) ρ2 σ [] [] H F2 Sc2 Sm2 ∧ forW g wb (ds.drop i) ρ2 K)
    ⟨ρ, F, Sc, Sm, w.onV (Sub.refl F), q⟩ (fun i σ H hi ⟨ρ2, F2, Sc2, Sm2, w2, _⟩ => hG H fun p o e => w2.sub p o (w2.wif F List.mem_cons_self p o e)) ?_ ?_
  · rintro i x σ H H' hi ⟨ρ2, F2, Sc2, Sm2, w2, q2⟩ hy
    rw [List.drop_eq_getElem_cons hi] at q2
    obtain ⟨ρ', hb', q3⟩ := q2
    have s2 : Sub F F2 := w2.wif F List.mem_cons_self
    have ok3 : SOk (a.onV F) ρ2 σ [.leaf ds[i]] [x] H' := by
      rcases hY i H x H' hi hy with ⟨rfl, d, e1, i1⟩ | ⟨p, xs, es, rfl, hp, rfl, il, e1⟩
      · rw [List.getElem?_eq_getElem hi] at e1
        cases e1
        exact ⟨F2, Sc2, Sm2, w2.leaf (i1.mono s2)⟩
      · rw [List.getElem?_eq_getElem hi] at e1
        have e1 := Option.some.inj e1
        rw [e1]
        obtain ⟨_, hF, _⟩ := w2.fresh hp
        refine ⟨_, Sc2, Sm2, (w2.froze (o := .tup xs) hp).leaf ?_⟩
        simp only [Is]
        exact ⟨p, xs, rfl, .inl (.inl upd_same), il.mono (s2.trans (sub_new hF))⟩
    refine dg xo.onV co hg rfl ok3 hb' fun σ2 ok4 _ => ?_
    refine hb F ρ' _ q3 σ2 H' _ ok4 ⟨?_, ?_, ?_, ?_⟩
    · rintro ρ5 σ5 H5 hk ⟨F5, Sc5, Sm5, w5⟩
      exact ⟨ρ5, F5, Sc5, Sm5, w5, hk⟩
    · exact fun t v ρ5 σ5 H5 hk ok5 => m.2.1 t v ρ5 σ5 H5 hk ok5.offV
    · exact fun ρ5 σ5 H5 hk ok5 => m.1 ρ5 σ5 H5 hk ok5.offV
    · rintro ρ5 σ5 H5 hk ⟨F5, Sc5, Sm5, w5⟩
      exact ⟨ρ5, F5, Sc5, Sm5, w5, hk⟩
  · rintro σ H ⟨ρ2, F2, Sc2, Sm2, w2, q2⟩
    rw [List.drop_length] at q2
    exact m.1 ρ2 σ H q2 ⟨F2, Sc2, Sm2, w2.offV⟩
/-- a while by so many turns at most -/
def whileW (wt : Env → (Bool → Prop) → Prop) (wb : Env → EnD → Prop) : Nat → Env → EnD → Prop
  | 0, _, _ => False
  | n + 1, ρ, K => wt ρ fun b => if b = true then wb ρ { nx := fun ρ2 => whileW wt wb n ρ2 K, ct := fun ρ2 => whileW wt wb n ρ2 K, bk := K.nx, rt := K.rt } else K.nx ρ
theorem ds_while {wt : Env → (Bool → Prop) → Prop} {wb : Env → EnD → Prop} (xo : XOk a X) (ht : ∀ ρ' Ψ, wt ρ' Ψ → DT a X ρ' A Ψ) (hb : ∀ ρ' K', wb ρ' K' → DB a X ρ' body K') (h : ∃ n, whileW wt wb n ρ K) : DS a X ρ (.While A body [] pos) K := fun σ H D ok m => by
  refine ⟨_, ps_while (passes0 xo) pt_W pb_W, ?_⟩
  obtain ⟨n, h⟩ := h
  refine ⟨fun n σ H => ∃ ρ2, SOk a ρ2 σ [] [] H ∧ whileW wt wb n ρ2 K, ⟨n, ρ, ok, h⟩, ?_⟩
  rintro n σ H ⟨ρ2, ok2, h2⟩
  cases n with
  | zero => exact False.elim h2
  | succ n =>
    refine ht ρ2 _ h2 σ H [] [] _ ok2 fun b H1 hb1 ok3 => ?_
    cases b with
    | false =>
      rw [if_neg (by decide)] at hb1 ⊢
      exact m.1 ρ2 σ H1 hb1 ok3
    | true =>
      rw [if_pos rfl] at hb1 ⊢
      refine ⟨fun σ H => ∃ ρ2, SOk a ρ2 σ [] [] H ∧ whileW wt wb n ρ2 K, fun σ' H' h' => ⟨n, Nat.lt_succ_self n, h'⟩, ?_⟩
      exact hb ρ2 _ hb1 σ H1 _ ok3 ⟨fun ρ5 σ5 H5 hk ok5 => ⟨ρ5, ok5, hk⟩, fun t v ρ5 σ5 H5 hk ok5 => m.2.1 t v ρ5 σ5 H5 hk ok5, fun ρ5 σ5 H5 hk ok5 => m.1 ρ5 σ5 H5 hk ok5, fun ρ5 σ5 H5 hk ok5 => ⟨ρ5, ok5, hk⟩⟩

/-! ### lists that are held alone, written -/
theorem OwC.focus {a : An} {F H : Hp} : ∀ {ρ : Env} {σ : L2.St} {S : List Addr} {i : Nat} {u : T}, OwC a F H ρ σ S → ρ.at i = some u → ∃ x Si Sr, σ[i]? = some (some x) ∧ Ow a F H u x Si ∧ S.Perm (Si ++ Sr) ∧
    ∀ F' H' u' Si', Sub F F' → (∀ p ∈ Sr, ∀ o, H p = some o → H' p = some o) → Ow a F' H' u' x Si' → u'.nv = true → ∃ S', OwC a F' H' (ρ.put i (some u')) σ S' ∧ S'.Perm (Si' ++ Sr)
  | [], _, _, _, _, _, h => by simp [Env.at] at h
  | none :: ρ, σ, S, 0, u, h, g => by simp [Env.at] at g
  | some t :: ρ, σ, S, 0, u, h, g => by
    simp only [OwC] at h
    simp only [Env.at, Option.some.injEq] at g
    subst g
    obtain ⟨v, S1, S2, ⟨e1, nv⟩, h1, h2, rfl⟩ := h
    refine ⟨v, S1, S2, ?_, h1, List.Perm.refl _, fun F' H' u' Si' sF k hu n => ⟨Si' ++ S2, ?_, List.Perm.refl _⟩⟩
    · cases σ with
      | nil => simp at e1
      | cons x r => simpa using e1
    · simp only [Env.put, OwC]
      exact ⟨v, Si', S2, ⟨e1, n⟩, hu, h2.mono' sF k, rfl⟩
  | none :: ρ, σ, S, i + 1, u, h, g => by
    simp only [OwC] at h
    simp only [Env.at] at g
    obtain ⟨x, Si, Sr, e1, h1, hp, go⟩ := OwC.focus h g
    refine ⟨x, Si, Sr, ?_, h1, hp, fun F' H' u' Si' sF k hu n => ?_⟩
    · cases σ with
      | nil => simp at e1
      | cons x r => simpa using e1
    · obtain ⟨S', h3, p3⟩ := go F' H' u' Si' sF k hu n
      exact ⟨S', by simpa only [Env.put, OwC] using h3, p3⟩
  | some t :: ρ, σ, S, i + 1, u, h, g => by
    simp only [OwC] at h
    simp only [Env.at] at g
    obtain ⟨v, S1, S2, e0, h0, h2, rfl⟩ := h
    obtain ⟨x, Si, Sr, e1, h1, hp, go⟩ := OwC.focus h2 g
    refine ⟨x, Si, S1 ++ Sr, ?_, h1, ?_, fun F' H' u' Si' sF k hu n => ?_⟩
    · cases σ with
      | nil => simp at e1
      | cons x r => simpa using e1
    · exact (List.Perm.append_left S1 hp).trans (by rw [← List.append_assoc, ← List.append_assoc]; exact List.Perm.append_right _ List.perm_append_comm)
    · obtain ⟨S', h3, p3⟩ := go F' H' u' Si' sF (fun p hp => k p (List.mem_append_right _ hp)) hu n
      refine ⟨S1 ++ S', ?_, (List.Perm.append_left S1 p3).trans (by rw [← List.append_assoc, ← List.append_assoc]; exact List.Perm.append_right _ List.perm_append_comm)⟩
      simp only [Env.put, OwC]
      exact ⟨v, S1, S', e0, h0.mono' sF e0.2 (fun p hp => k p (List.mem_append_left _ hp)), h3, rfl⟩
theorem SW.rewr {i : Nat} {us : List T} (w : SW a ρ σ ts vs H F Sc Sm) (hW : a.W = []) (e : ρ.at i = some (.lst us)) : ∃ l ws Sa, σ[i]? = some (some (.ref l)) ∧ H l = some (.lst ws) ∧ OwL a.toAn F H us ws Sa ∧ T.nvs us = true ∧ (Sa ++ Sm).Nodup ∧
    ∀ us' ws' Sb, OwL a.toAn F H us' ws' Sb → T.nvs us' = true → Sb.Nodup → (∀ p ∈ Sb, p ∈ Sa ++ Sm) → SOk a (ρ.put i (some (.lst us'))) σ [] [] (L2.upd H l (.lst ws')) := by
  obtain ⟨x, Si, Sr, e1, h1, hp, go⟩ := w.cells.focus e
  simp only [Ow] at h1
  obtain ⟨nn, l, ws, Sa, rfl, hl, ho, rfl⟩ := h1
  have nd : ((l :: Sa ++ Sr) ++ Sm).Nodup := ((List.Perm.append_right Sm hp).nodup_iff).mp w.nd
  have mem : ∀ p, p ∈ l :: Sa ++ Sr → p ∈ Sc := fun p h => hp.mem_iff.mpr h
  obtain ⟨n1, n2, n3⟩ := List.nodup_append.mp nd
  obtain ⟨m1, m2, m3⟩ := List.nodup_append.mp n1
  obtain ⟨k1, k2⟩ := List.nodup_cons.mp m1
  refine ⟨l, ws, Sa, e1, hl, ho, nn, List.nodup_append.mpr ⟨k2, n2, fun p hp q hq => n3 p (List.mem_append_left _ (List.mem_cons_of_mem _ hp)) q hq⟩, fun us' ws' Sb hb nb ndb sub => ?_⟩
  have lSb : l ∉ Sb := fun z => (List.mem_append.mp (sub l z)).elim k1 fun y => n3 l (List.mem_append_left _ List.mem_cons_self) l y rfl
  have lSr : l ∉ Sr := fun z => m3 l List.mem_cons_self l z rfl
  have keep : ∀ {S : List Addr}, l ∉ S → ∀ p ∈ S, ∀ o, H p = some o → L2.upd H l (.lst ws') p = some o := fun {S} h p hp o e => by
    rw [upd_ne (fun z => h (by rw [← z]; exact hp))]
    exact e
  obtain ⟨S', h3, p3⟩ := go F (L2.upd H l (.lst ws')) (.lst us') (l :: Sb) (Sub.refl F) (keep lSr) (by
    simp only [Ow]
    exact ⟨nb, l, ws', Sb, rfl, upd_same, hb.mono' (Sub.refl F) nb (keep lSb), rfl⟩) (by simpa only [T.nv] using nb)
  have dis : ∀ p ∈ Sb, p ∉ Sr := fun p hp hq => (List.mem_append.mp (sub p hp)).elim (fun y => m3 p (List.mem_cons_of_mem _ y) p hq rfl) fun y => n3 p (List.mem_append_right _ hq) p y rfl
  refine ⟨F, S', [], w.upd (Sm' := []) (mem l (List.mem_append_left _ List.mem_cons_self) |> List.mem_append_left _) (by rw [hW]; exact fun _ h => nomatch h) h3 (by simp [OwL]) ?_ (fun p hp' => ?_) (by rw [Env.put_length]; exact w.len)⟩
  · rw [List.append_nil]
    exact p3.nodup_iff.mpr (List.nodup_append.mpr ⟨List.nodup_cons.mpr ⟨lSb, ndb⟩, m2, fun p hp q hq e => by
      subst e
      rcases List.mem_cons.mp hp with rfl | hp
      · exact lSr hq
      · exact dis p hp hq⟩)
  · rw [List.append_nil] at hp'
    rcases List.mem_append.mp (p3.mem_iff.mp hp') with y | y
    · rcases List.mem_cons.mp y with rfl | y
      · exact List.mem_append_left _ (mem _ (List.mem_append_left _ List.mem_cons_self))
      · rcases List.mem_append.mp (sub p y) with y | y
        · exact List.mem_append_left _ (mem _ (List.mem_append_left _ (List.mem_cons_of_mem _ y)))
        · exact List.mem_append_right _ y
    · exact List.mem_append_left _ (mem _ (List.mem_append_right _ y))
end
end DL
namespace DL
open PySem PySem.Spec PyProof.Rows L2
section
variable {a : An0} {X : Cx} {ρ : Env} {σ : L2.St} {ts : List T} {vs : List V} {H F : Hp} {Sc Sm : List Addr} {Φ : T → Prop} {pos p : Pos} {e A B C tg it elt : Expr} {es : List Expr} {Ψ : List D → Prop} {z : Bool} {st : Stmt} {rest body : List Stmt} {K : EnD}

/-- an attribute's base that is no bare super() -/
def noCall : Expr → Bool
  | .Call _ _ _ _ => false
  | _ => true
theorem base_of {o : Expr} {n : Str} {env : PySem.Env} (h : noCall o = true) : attributeBase o n env (eval o env) = eval o env := by
  cases o <;> first | rfl | simp [noCall] at h
theorem pvar {i : Nat} {x : Str} {xp : Pos} (hN : X.N[i]? = some x) (hv : Vis X.env.scope x) (hd : (x == ("__debug__" : Str)) = false) (hc : (x == ("__classdict__" : Str)) = false) : PE X (.Name x xp) (tVar i) := pe_var hN hv hd hc
/-- the list in a slot, and one temporary more -/
theorem ds_append {i : Nat} {x : Str} {us : List T} {xp ap cp : Pos} (xo : XOk a X) (hW : a.W = []) (hN : X.N[i]? = some x) (hv : Vis X.env.scope x) (hd : (x == ("__debug__" : Str)) = false) (hc : (x == ("__classdict__" : Str)) = false)
    (hl : (ap.endLine == cp.line) = true) (ns : notStar e = true) (hat : ρ.at i = some (.lst us)) (hz : us.length ≤ 99999)
    (h : DE a X ρ e fun t => t.fin fun u => K.nx (ρ.put i (some (.lst (us ++ [u]))))) : DS a X ρ (.Expr (.Call (.Attribute (.Name x xp) "append" ap) [e] [] cp) pos) K := fun σ H D ok m => by
  refine ⟨_, ps_expr (pe_bm PySem.F.plainAttrs_list PySem.F.slot_list_append PySem.F.type_list_append mt_append (pvar hN hv hd hc) (pa_W (e := [e])) rfl ?_ hl (star_of ns) rfl) rfl, ?_⟩
  · rw [star_of ns]
    rfl
  show tVar i σ H fun x H1 => tyV X.K "list" x H1 ∧ WA X [e] σ H1 fun xs H2 => rAppend x xs H2 fun _ H3 => D.nx σ H3
  obtain ⟨F, Sc, Sm, w⟩ := ok
  obtain ⟨v, S1, e1, h1, _⟩ := w.cells.get hat
  simp only [Ow] at h1
  obtain ⟨_, l, ws0, _, rfl, hl0, _⟩ := h1
  refine ⟨_, e1, .inl ⟨rfl, _, .inl (.inl hl0)⟩, ?_⟩
  have da : DA a X ρ [e] fun us' => ∃ u, us' = [u] ∧ K.nx (ρ.put i (some (.lst (us ++ [u])))) := da_cons ns (fun σ H ts vs Q ok k => h σ H ts vs Q ok fun v t H' ht ok' => k v t H' (by
    cases t <;> (simp only [T.fin] at ht ⊢) <;> first | exact da_nil ⟨_, rfl, ht⟩ | exact ⟨ht.1, da_nil ⟨_, rfl, ht.2⟩⟩) ok')
  refine da σ H [] [] _ ⟨F, Sc, Sm, w⟩ fun ws us' H2 ⟨u, hu, hk⟩ nu l2 ok2 => ?_
  subst hu
  obtain ⟨y, rfl⟩ : ∃ y, ws = [y] := by
    match ws, l2 with
    | [y], _ => exact ⟨y, rfl⟩
  obtain ⟨F2, Sc2, Sm2, w2⟩ := ok2
  obtain ⟨l', ws, Sa, e2, hl2, ho, nn, nd, go⟩ := w2.rewr hW hat
  rw [e1] at e2
  cases e2
  refine ⟨l, ws, y, rfl, rfl, hl2, by rw [ho.length]; exact smallLt (by omega), ?_⟩
  have ht := w2.tmps
  have nvt : u.nv = true := by
    simp only [List.append_nil, List.all_cons, List.all_nil, Bool.and_true] at nu ht
    simp only [OwL] at ht
    obtain ⟨v', r', S3, S4, _, h3, _⟩ := ht
    exact h3.nv nu
  refine m.1 _ σ _ hk (go (us ++ [u]) (ws ++ [y]) (Sa ++ Sm2) (OwL.join ho (by simpa using ht)) ?_ nd fun p hp => hp)
  have : ∀ (us : List T), T.nvs us = true → T.nvs (us ++ [u]) = true := fun us => by
    induction us with
    | nil => intro _; simp [T.nvs, nvt]
    | cons u us ih => intro h; simp only [T.nvs, Bool.and_eq_true, List.cons_append] at h ⊢; exact ⟨h.1, ih h.2⟩
  exact this us nn
theorem OwL.set {a : An} {F H : Hp} {t : T} {v : V} {St : List Addr} (ht : Ow a F H t v St) : ∀ {us : List T} {ws : List V} {S : List Addr} {j : Nat}, OwL a F H us ws S → j < us.length → (S ++ St).Nodup → ∃ S', OwL a F H (us.set j t) (ws.set j v) S' ∧ S'.Nodup ∧ ∀ p ∈ S', p ∈ S ++ St
  | [], _, _, _, _, h, _ => by simp at h
  | u :: us, ws, S, 0, h, _, nd => by
    simp only [OwL] at h
    obtain ⟨x, r, S1, S2, rfl, h1, h2, rfl⟩ := h
    refine ⟨St ++ S2, ?_, ?_, fun p hp => ?_⟩
    · simp only [List.set_cons_zero, OwL]
      exact ⟨v, r, St, S2, rfl, ht, h2, rfl⟩
    · obtain ⟨n1, n2, n3⟩ := List.nodup_append.mp nd
      exact List.nodup_append.mpr ⟨n2, (List.nodup_append.mp n1).2.1, fun p hp q hq e => n3 q (List.mem_append_right _ hq) p hp e.symm⟩
    · rcases List.mem_append.mp hp with z | z
      · exact List.mem_append_right _ z
      · exact List.mem_append_left _ (List.mem_append_right _ z)
  | u :: us, ws, S, j + 1, h, l, nd => by
    simp only [OwL] at h
    obtain ⟨x, r, S1, S2, rfl, h1, h2, rfl⟩ := h
    obtain ⟨n1, n2, n3⟩ := List.nodup_append.mp nd
    obtain ⟨m1, m2, m3⟩ := List.nodup_append.mp n1
    obtain ⟨S', h3, n4, k⟩ := OwL.set ht (j := j) h2 (by simpa using l) (List.nodup_append.mpr ⟨m2, n2, fun p hp q hq => n3 p (List.mem_append_right _ hp) q hq⟩)
    refine ⟨S1 ++ S', ?_, List.nodup_append.mpr ⟨m1, n4, fun p hp q hq => ?_⟩, fun p hp => ?_⟩
    · simp only [List.set_cons_succ, OwL]
      exact ⟨x, _, S1, S', rfl, h1, h3, rfl⟩
    · rcases List.mem_append.mp (k q hq) with z | z
      · exact m3 p hp q z
      · exact n3 p (List.mem_append_left _ hp) q z
    · rcases List.mem_append.mp hp with z | z
      · exact List.mem_append_left _ (List.mem_append_left _ z)
      · rcases List.mem_append.mp (k p z) with y | y
        · exact List.mem_append_left _ (List.mem_append_right _ y)
        · exact List.mem_append_right _ y
theorem nvs_set {t : T} (n : t.nv = true) : ∀ {us : List T} (j : Nat), T.nvs us = true → T.nvs (us.set j t) = true
  | [], _, _ => rfl
  | u :: us, 0, h => by
    simp only [T.nvs, Bool.and_eq_true, List.set_cons_zero] at h ⊢
    exact ⟨n, h.2⟩
  | u :: us, j + 1, h => by
    simp only [T.nvs, Bool.and_eq_true, List.set_cons_succ] at h ⊢
    exact ⟨h.1, nvs_set n j h.2⟩
/-- the one temporary is stored into the list in slot i -/
theorem SW.store {i j : Nat} {us : List T} {u : T} {y : V} (w : SW a ρ σ [u] [y] H F Sc Sm) (hW : a.W = []) (nu : u.nvw = true) (hat : ρ.at i = some (.lst us)) (hj : j < us.length) :
    ∃ l ws, σ[i]? = some (some (.ref l)) ∧ H l = some (.lst ws) ∧ ws.length = us.length ∧ SOk a (ρ.put i (some (.lst (us.set j u)))) σ [] [] (L2.upd H l (.lst (ws.set j y))) := by
  obtain ⟨l, ws, Sa, e2, hl2, ho, nn, nd, go⟩ := w.rewr hW hat
  have ht := w.tmps
  simp only [OwL] at ht
  obtain ⟨v', r', S3, S4, e3, h3, ⟨rfl, rfl⟩, rfl⟩ := ht
  cases e3
  rw [List.append_nil] at nd go
  obtain ⟨S', h4, n4, k4⟩ := OwL.set h3 ho hj nd
  exact ⟨l, ws, e2, hl2, ho.length, go _ _ S' h4 (nvs_set (h3.nv nu) j nn) n4 k4⟩
theorem noswap1 {v t : Expr} {l : Nat} {env : PySem.Env} (h : noComp v = true) : swapsWithSole [t] v l env = pure false := noswap h
theorem asg_sub {o B : Expr} {sp : Pos} {env : PySem.Env} (hB : notSlice B = true) (v : Value) : assign (.Subscript o B sp) env v = (do
    let ov ← holding [v] (eval o env)
    let iv ← holding [v, ov] (eval B env)
    standAt sp
    holding [v, ov, iv] (setItem ov iv v)
    release [v, ov, iv] []) := by
  cases B with
  | Slice l u st p =>
    cases st with
    | none => simp [notSlice] at hB
    | some _ => rfl
  | _ => rfl
theorem ds_setix {i : Nat} {x : Str} {us : List T} {xp sp : Pos} (xo : XOk a X) (hW : a.W = []) (hN : X.N[i]? = some x) (hv : Vis X.env.scope x) (hd : (x == ("__debug__" : Str)) = false) (hc : (x == ("__classdict__" : Str)) = false)
    (h1 : noComp e = true) (hB : notSlice B = true) (hat : ρ.at i = some (.lst us)) (h : DE a X ρ e fun t => t.fin fun u => DE a X ρ B fun y => ∃ n j, y.dat = .int n ∧ ixN us.length n = some j ∧ K.nx (ρ.put i (some (.lst (us.set j u))))) :
    DS a X ρ (.Assign [.Subscript (.Name x xp) B sp] e pos) K := fun σ H D ok m => by
  refine ⟨_, ps_asg pe_W (pg_sub (pvar hN hv hd hc) pe_W set_list (ha := asg_sub hB)) (noswap1 h1) (by rfl) (by rfl), ?_⟩
  show WE X e σ H fun v H1 => tVar i σ H1 fun o H2 => WE X B σ H2 fun b H3 => rSetL o b v H3 fun H4 => D.nx σ H4
  refine h σ H [] [] _ ok fun y t H1 ht ok1 => SOk.fin ok1 ht fun u hu nu ok2 => ?_
  obtain ⟨F, Sc, Sm, w⟩ := ok2
  obtain ⟨v, S1, e1, h3, _⟩ := w.cells.get hat
  simp only [Ow] at h3
  obtain ⟨_, l, ws0, _, rfl, hl0, _⟩ := h3
  refine ⟨_, e1, ?_⟩
  refine hu σ H1 _ _ _ ⟨F, Sc, Sm, w⟩ fun b tb H3 ⟨n, j, hb, hj, hk⟩ ok3 => ?_
  have ib := ok3.top
  rw [hb] at ib
  obtain ⟨F2, Sc2, Sm2, w2⟩ := ok3.pop1
  obtain ⟨l', ws, e2, hl2, lw, so⟩ := w2.store (j := j) hW nu hat (ixN_seq hj).2.1
  rw [e1] at e2
  cases e2
  exact ⟨l, ws, n, j, rfl, ib.int, hl2, by rw [lw]; exact hj, m.1 _ σ _ hk so⟩
/-- reading ahead of a store -/
def rGetL (K : PySem.W.Frag) : V → V → Hp → VK → Prop := rIxL K
theorem get_list : PGet X (rGetL X.K) := by
  intro pins s σ H o i ov iv Q I ro ri h
  obtain ⟨q, xs, k, v, rfl, rfl, hq, he, fin⟩ := h
  obtain rfl : ov = .ref q := ro
  obtain ⟨t, rfl⟩ := ri
  obtain ⟨its, r, pl, hz⟩ := I.list hq
  obtain ⟨j, h1, h2, h3, h4, h5⟩ := atI_get he
  obtain ⟨w, ew, rw'⟩ := r.get h2
  have hl := r.length
  have hn := line63
  have done : EP X pins σ Q w s := ⟨v, H, I, rw', fin⟩
  by_cases h0 : 0 ≤ k
  · have hj : k.toNat = j := Option.some.inj ((seqIndex_of h0 h5).symm.trans h1)
    exact wpAny_getItem_list pl.isList h0 (by omega) (by rw [hj]; simpa using ew) done
  · have hj : (k + (its.toArray.size : Int)).toNat = j := by
      rw [List.size_toArray, ← hl]
      exact Option.some.inj ((seqIndex_neg (by omega) h4).symm.trans h1)
    exact wpAny_getItem_list_neg pl.isList (by omega) (by rw [List.size_toArray] <;> omega) (by omega) (by rw [hj]; simpa using ew) done
inductive Aop where
  | add | sub
  deriving DecidableEq
def Aop.op : Aop → Operator
  | .add => .Add
  | .sub => .Sub
def augD : Aop → D → D → (D → Prop) → Prop
  | .add, .int i, .int j, Ψ => Ψ (.int (i + j))
  | .sub, .int i, .int j, Ψ => Ψ (.int (i - j))
  | .add, .str s, .str t, Ψ => s.length + t.length ≤ 100000 ∧ Ψ (.str (s ++ t))
  | _, _, _, _ => False
def rAug : Aop → R2
  | .add => fun x y H Q => rI0 (fun i j => .int (i + j)) x y H Q ∨ ∃ i j, x = .str i ∧ y = .str j ∧ i.length + j.length ≤ sizeLine ∧ Q (.str (i ++ j)) H
  | .sub => rI0 fun i j => .int (i - j)
theorem ip_rAug : ∀ o : Aop, PIp X o.op (rAug o)
  | .add => fun pins s σ H x y v u Q I rx ry h => (OpR.or iop_add iop_add_str) pins s σ H x y v u Q I rx ry h
  | .sub => fun pins s σ H x y v u Q I rx ry h => iop_sub pins s σ H x y v u Q I rx ry h
theorem aug_ok {o : Aop} {F H : Hp} {dx dy : D} {x y : V} {Ψ : D → Prop} {Q : VK} (h1 : Is a.toAn F dx x) (h2 : Is a.toAn F dy y) (h : augD o dx dy Ψ) (k : ∀ d v, Ψ d → d.flat = true → Is a.toAn F d v → Q v H) : rAug o x y H Q := by
  cases o with
  | add =>
    match dx, dy, h with
    | .int i, .int j, h =>
      obtain rfl := h1.int
      obtain rfl := h2.int
      exact .inl ⟨i, j, rfl, rfl, k _ _ h rfl isI⟩
    | .str i, .str j, h =>
      obtain rfl := h1.str
      obtain rfl := h2.str
      exact .inr ⟨i, j, rfl, rfl, small h.1, k _ _ h.2 rfl isS⟩
  | sub =>
    match dx, dy, h with
    | .int i, .int j, h =>
      obtain rfl := h1.int
      obtain rfl := h2.int
      exact ⟨i, j, rfl, rfl, k _ _ h rfl isI⟩
theorem ds_aug {o : Aop} {i : Nat} {x : Str} {d : D} {xp : Pos} (xo : XOk a X) (hN : X.N[i]? = some x) (hl : L2.Loc X.env.scope x) (hf : X.fn x = true ∨ X.env.scope.names.lookup x = some .local) (hat : ρ.at i = some (.leaf d)) (hi : i < ρ.length)
    (h : DE a X ρ e fun y => augD o d y.dat fun r => K.nx (ρ.put i (some (.leaf r)))) : DS a X ρ (.AugAssign (.Name x xp) o.op e pos) K := fun σ H D ok m => by
  refine ⟨_, ps_aug xo.nd hN hl pe_W (ip_rAug o) hf, ?_⟩
  show ∃ x, σ[i]? = some (some x) ∧ WE X e σ H fun y H1 => rAug o x y H1 fun z H2 => D.nx (σ.set i (some z)) H2
  obtain ⟨F, Sc, Sm, w⟩ := ok
  obtain ⟨v, S1, e1, h1, _⟩ := w.cells.get hat
  refine ⟨v, e1, ?_⟩
  refine h σ H [] [] _ ⟨F, Sc, Sm, w⟩ fun y ty H1 hy ok1 => ?_
  have i2 := ok1.top
  obtain ⟨F2, Sc2, Sm2, w2⟩ := ok1.pop1
  obtain ⟨v', S2, e2, h2, _⟩ := w2.cells.get hat
  rw [e1] at e2
  cases e2
  simp only [Ow] at h2
  refine aug_ok (h2.2.mono w2.subb) i2 hy fun r z hr fr ir => ?_
  exact m.1 _ _ _ hr (SOk.put hi rfl ⟨F2, Sc2, Sm2, w2.leaf (ir.flat fr)⟩)
theorem atI_of {α : Type} {xs : List α} {n : Int} {j : Nat} {x : α} (h : ixN xs.length n = some j) (h2 : xs[j]? = some x) : L2.atI xs n = some x := by
  unfold L2.atI
  rw [h]
  exact h2
theorem ds_augix {o : Aop} {i : Nat} {x : Str} {us : List T} {xp sp : Pos} (xo : XOk a X) (hW : a.W = []) (hN : X.N[i]? = some x) (hv : Vis X.env.scope x) (hd : (x == ("__debug__" : Str)) = false) (hc : (x == ("__classdict__" : Str)) = false)
    (hB : notSlice B = true) (hat : ρ.at i = some (.lst us)) (h : DE a X ρ B fun y => ∃ n j d, y.dat = .int n ∧ ixN us.length n = some j ∧ us[j]? = some (.leaf d) ∧ DE a X ρ e fun y2 => augD o d y2.dat fun r => K.nx (ρ.put i (some (.lst (us.set j (.leaf r)))))) :
    DS a X ρ (.AugAssign (.Subscript (.Name x xp) B sp) o.op e pos) K := fun σ H D ok m => by
  refine ⟨_, ps_augS (pvar hN hv hd hc) pe_W get_list pe_W (ip_rAug o) set_list (fun ov iv new => ?_), ?_⟩
  · cases B with
    | Slice l u st p =>
      cases st with
      | none => simp [notSlice] at hB
      | some _ => rfl
    | _ => rfl
  show tVar i σ H fun o1 H1 => WE X B σ H1 fun b H2 => rGetL X.K o1 b H2 fun x1 H3 => WE X e σ H3 fun y H4 => rAug o x1 y H4 fun z1 H5 => rSetL o1 b z1 H5 fun H6 => D.nx σ H6
  obtain ⟨F, Sc, Sm, w⟩ := ok
  obtain ⟨v, S1, e1, h3, _⟩ := w.cells.get hat
  simp only [Ow] at h3
  obtain ⟨_, l, ws0, _, rfl, hl0, _⟩ := h3
  refine ⟨_, e1, ?_⟩
  refine h σ H [] [] _ ⟨F, Sc, Sm, w⟩ fun b tb H2 ⟨n, j, d, hb, hj, hd', hy⟩ ok2 => ?_
  have ib := ok2.top
  rw [hb] at ib
  rw [ib.int]
  obtain ⟨F2, Sc2, Sm2, w2⟩ := ok2.pop1
  obtain ⟨v2, S2, e2, h4, _⟩ := w2.cells.get hat
  rw [e1] at e2
  cases e2
  simp only [Ow] at h4
  obtain ⟨_, l', ws2, S3, el, hl2, ho2, _⟩ := h4
  cases el
  obtain ⟨x1, S4, e4, h5, _⟩ := ho2.get hd'
  refine ⟨l, ws2, n, x1, rfl, rfl, .inl (.inl hl2), atI_of (by rw [ho2.length]; exact hj) e4, ?_⟩
  refine hy σ H2 [] [] _ ⟨F2, Sc2, Sm2, w2⟩ fun y2 ty2 H4 hy2 ok4 => ?_
  have i2 := ok4.top
  obtain ⟨F5, Sc5, Sm5, w5⟩ := ok4.pop1
  simp only [Ow] at h5
  -- the item stays as it was where it is flat; otherwise the operator says no
  have fl : d.flat = true := by
    cases o with
    | add =>
      generalize ty2.dat = dy at hy2
      match d, dy, hy2 with
      | .int _, .int _, _ => rfl
      | .str _, .str _, _ => rfl
    | sub =>
      generalize ty2.dat = dy at hy2
      match d, dy, hy2 with
      | .int _, .int _, _ => rfl
  refine aug_ok (h5.2.flat fl) i2 hy2 fun r z1 hr fr ir => ?_
  obtain ⟨l', ws, e6, hl6, lw, so⟩ := SW.store (j := j) (w5.leaf (ir.flat fr)) hW rfl hat (ixN_seq hj).2.1
  rw [e1] at e6
  cases e6
  exact ⟨l, ws, n, j, rfl, rfl, hl6, by rw [lw]; exact hj, m.1 _ σ _ hr so⟩
end
end DL
namespace DL
open PySem PySem.Spec PyProof.Rows L2
section
variable {a : An0} {X : Cx} {ρ : Env} {σ : L2.St} {ts : List T} {vs : List V} {H F : Hp} {Sc Sm : List Addr} {Φ : T → Prop} {pos p : Pos} {e A B C tg it elt : Expr} {es : List Expr} {Ψ : List D → Prop} {z : Bool} {st : Stmt} {rest body : List Stmt} {K : EnD}

/-- the store of any value by the general road -/
theorem ds_asgG {c : Ct} {g : Tg} (xo : XOk a X) (co : COk c X) (hg : okG c g tg = true) (h1 : swapsWithSole [tg] e pos.line X.env = pure false) (h2 : swappedStores [tg] e X.env = pure none) (h : DE a X ρ e fun t => t.fin fun u => ∃ ρ', bindG g u ρ = some ρ' ∧ K.nx ρ') : DS a X ρ (.Assign [tg] e pos) K := fun σ H D ok m => by
  refine ⟨_, ps_asg pe_W pg_W h1 h2 (asg_one hg), ?_⟩
  show WE X e σ H fun x H1 => WG X tg x σ H1 D.nx
  refine h σ H [] [] _ ok fun v t H1 h1 ok1 => SOk.fin ok1 h1 fun u ⟨ρ', hb, hk⟩ nu ok2 => ?_
  obtain ⟨F, Sc, Sm, w⟩ := ok2
  obtain ⟨S, h3, _⟩ := w.cut
  exact dg xo co hg (h3.nv nu) ⟨F, Sc, Sm, w⟩ hb fun σ' ok3 _ => m.1 ρ' σ' H1 hk ok3
/-- a comprehension whose target is turned around with the store -/
def swp (c : Ct) (y : Str) (py ps : Pos) (scope : Scope) : Bool :=
  (match c.sc.names.lookup y with | some .local => true | _ => false) && py.line == ps.line && !(scope.names.any fun (n, k) => n == y && (k == .local || k == .cell))
theorem swp_eq {c : Ct} {y : Str} {py ps : Pos} {scope : Scope} {gs : List Comprehension} {l : Nat} (co : COk c X) (hk : X.env.scope.kind = .function) : swapsWith (.ListComp elt gs scope ps) (some (.Name y py)) l X.env = pure (swp c y py ps scope) := by
  unfold swapsWith swp
  have hb : X.env.blockKind = .function := by unfold PySem.Env.blockKind; rw [hk]; rfl
  have hy : X.env.kindOf y = c.sc.names.lookup y := by show X.env.scope.names.lookup y = _; rw [co.sc]
  simp only [hb, hy, Expr.pos]
  cases hq : c.sc.names.lookup y with
  | none => simp
  | some k => cases k <;> first | (simp; done) | rfl
theorem ds_asgLc {c : Ct} {scope : Scope} {own : List (Str × Nat)} {g : Tg} {i : Nat} {y : Str} {py ps : Pos} {ifs : List Expr} {wc : Env → (Bool → Prop) → Prop} {we : Env → (T → Prop) → Prop} (xo : XOk a X) (co : COk c X) (hk : X.env.scope.kind = .function)
    (hN : nameIs c i y = true) (hl : c.loc y = true) (hi : i < ρ.length)
    (bk : blkC c.N c.sc scope own = true) (gk : okG (c.inn scope) g tg = true) (sl : ∀ i ∈ g.slots, i ∈ own.map (·.2)) (wp : ρ.wipes (own.map (·.2)) = ρ) (ns : notSet it = true)
    (hc : ∀ H F s H2 C cl fp ρ' Ψ, wc ρ' Ψ → ∀ σ H' ts vs Q, SOk (a.on H F) ρ' σ ts vs H' → (∀ b H'', Ψ b → SOk (a.on H F) ρ' σ ts vs H'' → Q b H'') → ∃ t, PTs (Blk X scope s H2 C cl fp) ifs t ∧ t σ H' Q)
    (he : ∀ H F s H2 C cl fp ρ' Ψ, we ρ' Ψ → DE (a.on H F) (Blk X scope s H2 C cl fp) ρ' elt Ψ)
    (h : DI a X ρ tg it fun ds => ds.length ≤ 100000 ∧ lcW g wc we ρ ds [] fun us => K.nx (ρ.put i (some (.lst us)))) :
    DS a X ρ (.Assign [.Name y py] (.ListComp elt [⟨tg, it, ifs, 0⟩] scope ps) pos) K := fun σ H D ok m => by
  have bo : BlkOk X.N X.env.scope scope own := by
    rw [co.N, co.sc]
    exact blkOk_by bk
  obtain ⟨l1, l2⟩ := Ct.loc_of co hl
  have fin : tLc (WI X tg it) (gB X scope tg) (tB' X scope ifs) (eB X scope elt) (own.map (·.2)) σ H fun x H1 => gName i x σ H1 D.nx := by
    refine lc_read (Φ := fun t => match t with
      | .lst us => K.nx (ρ.put i (some (.lst us)))
      | _ => False) xo co gk sl wp hc he h ok fun v t H' hk' ok' => ?_
    match t, hk', ok' with
    | .lst us, hk', ok' =>
      obtain ⟨F, Sc, Sm, w⟩ := ok'
      obtain ⟨S, h3, _⟩ := w.cut
      exact m.1 _ _ _ hk' (SOk.put hi (h3.nv rfl) ⟨F, Sc, Sm, w⟩)
  cases hs : swp c y py ps scope with
  | true =>
    have hloc : X.env.scope.names.lookup y = some .local := by
      rw [co.sc]
      unfold swp at hs
      simp only [Bool.and_eq_true] at hs
      have := hs.1.1
      split at this
      · assumption
      · cases this
    exact ⟨_, ps_setLc xo.calm xo.nd (nameIs_of co hN) hloc ((swp_eq co hk).trans (by rw [hs])) pi_W bo gB_ok tB_ok eB_ok (itset ns), fin⟩
  | false =>
    exact ⟨_, ps_set xo.nd (nameIs_of co hN) l1 (pe_lc (own := own) xo.calm xo.nd pi_W bo gB_ok tB_ok eB_ok (itset ns)) ((swp_eq co hk).trans (by rw [hs])) l2, fin⟩
/-- a, b = x, y stored from the stack -/
def isStar : Expr → Bool
  | .Starred _ _ => true
  | _ => false
def lcl (c : Ct) (x : Str) : Bool := match c.sc.names.lookup x with
  | some .local => true
  | _ => false
def par2Ok (c : Ct) (x y : Str) (px py : Pos) (A B : Expr) : Bool :=
  lcl c x && lcl c y && py.line == px.line && !isStar A && !isStar B && !(x == y) && !([A, B].all (foldedForSure 8)) && !([A, B].all (constantsAlone 8))
theorem lcl_of {c : Ct} {x : Str} (co : COk c X) (h : lcl c x = true) : X.env.scope.names.lookup x = some .local := by
  rw [co.sc]
  unfold lcl at h
  split at h
  · assumption
  · cases h
theorem par2_eq {c : Ct} {x y : Str} {px py pt pt2 : Pos} {kt k2 : Nat} (co : COk c X) (hk : X.env.scope.kind = .function) (h : par2Ok c x y px py A B = true) :
    swappedStores [.Tuple [.Name x px, .Name y py] kt pt] (.Tuple [A, B] k2 pt2) X.env = pure (some [x, y]) := by
  unfold par2Ok at h
  simp only [Bool.and_eq_true, Bool.not_eq_true'] at h
  obtain ⟨⟨⟨⟨⟨⟨⟨h1, h2⟩, h3⟩, h4⟩, h5⟩, h6⟩, h7⟩, h8⟩ := h
  have hb : X.env.blockKind = .function := by unfold PySem.Env.blockKind; rw [hk]; rfl
  have hx : X.env.kindOf x = some .local := lcl_of co h1
  have hy : X.env.kindOf y = some .local := lcl_of co h2
  have e : ∀ e : Expr, (match e with | .Starred .. => true | _ => false) = isStar e := fun e => by cases e <;> rfl
  have hs : ([A, B].any fun | .Starred .. => true | _ => false) = false := by
    simp only [List.any_cons, List.any_nil, Bool.or_false]
    rw [e, e, h4, h5]
    rfl
  have ne : ¬ y = x := fun z => by rw [z] at h6; simp at h6
  have ed : ([x, y].eraseDups.length != [x, y].length) = false := by
    have : (y == x) = false := by simpa using ne
    simp [List.eraseDups_cons, this]
  unfold swappedStores
  simp only [hb, hx, hy, hs, h7, h8, Expr.pos, List.head?_cons, Option.map_some, Option.getD_some, List.filterMap_cons, List.filterMap_nil, List.length_cons, List.length_nil]
  simp [h3, ed]
  have len : [x, y].eraseDups.length = 2 := by simpa using ed
  rw [if_neg (fun z => z.elim (fun z => by have z2 : isStar A = true := z; rw [h4] at z2; cases z2) fun z => by have z2 : isStar B = true := z; rw [h5] at z2; cases z2), if_pos len]
theorem ds_par2 {c : Ct} {i j : Nat} {x y : Str} {px py pt pt2 : Pos} {kt k2 : Nat} (xo : XOk a X) (co : COk c X) (hk : X.env.scope.kind = .function) (hx : nameIs c i x = true) (hy : nameIs c j y = true) (hij : i ≠ j) (hp : par2Ok c x y px py A B = true)
    (hi : i < ρ.length) (hj : j < ρ.length) (h : DA a X ρ [A, B] fun us => ∃ u v, us = [u, v] ∧ K.nx ((ρ.put i (some u)).put j (some v))) :
    DS a X ρ (.Assign [.Tuple [.Name x px, .Name y py] kt pt] (.Tuple [A, B] k2 pt2) pos) K := fun σ H D ok m => by
  have hp' := hp
  unfold par2Ok at hp'
  simp only [Bool.and_eq_true] at hp'
  refine ⟨_, ps_par xo.calm xo.nd (nameIs_of co hx) (nameIs_of co hy) hij (lcl_of co hp'.1.1.1.1.1.1.1) (lcl_of co hp'.1.1.1.1.1.1.2) pa_W (par2_eq co hk hp), ?_⟩
  show WA X [A, B] σ H fun vs H1 => ∃ v w, vs = [v, w] ∧ D.nx ((σ.set i (some v)).set j (some w)) H1
  refine h σ H [] [] _ ok fun ws us H1 ⟨u, v, e, hk⟩ nu l ok1 => ?_
  subst e
  obtain ⟨y1, y2, rfl⟩ : ∃ y1 y2, ws = [y1, y2] := by
    match ws, l with
    | [y1, y2], _ => exact ⟨y1, y2, rfl⟩
  simp only [List.all_cons, List.all_nil, Bool.and_true, Bool.and_eq_true] at nu
  obtain ⟨F, Sc, Sm, w⟩ := ok1
  obtain ⟨S, h3, _⟩ := w.cut
  obtain ⟨Sc2, Sm2, w2⟩ := SW.put (ts := [v]) (vs := [y2]) w hi (h3.nv nu.1)
  obtain ⟨S2, h4, _⟩ := w2.cut
  exact ⟨y1, y2, rfl, m.1 _ _ _ hk (SOk.put (by rw [Env.put_length]; exact hj) (h4.nv nu.2) ⟨F, Sc2, Sm2, w2⟩)⟩
/-- not all the names stored are plain ones: no store from the stack -/
def offStack (c : Ct) : Expr → Expr → Bool
  | .Tuple ts _ _, .Tuple _ _ _ => ts.any fun t => match t with
    | .Name x _ => !lcl c x
    | _ => true
  | _, _ => false
def noPar2 (c : Ct) (t v : Expr) : Bool := noPar t v || offStack c t v
theorem filterMap_short {α β : Type} {f : α → Option β} : ∀ {xs : List α}, (∃ x ∈ xs, f x = none) → (xs.filterMap f).length < xs.length
  | [], h => by simp at h
  | x :: xs, h => by
    cases hf : f x with
    | none =>
      rw [List.filterMap_cons_none hf]
      exact Nat.lt_succ_of_le (List.length_filterMap_le _ _)
    | some y =>
      rw [List.filterMap_cons_some hf, List.length_cons, List.length_cons]
      refine Nat.succ_lt_succ (filterMap_short ?_)
      obtain ⟨z, hz, e⟩ := h
      rcases List.mem_cons.mp hz with rfl | hz
      · rw [hf] at e; cases e
      · exact ⟨z, hz, e⟩
theorem nopar2_aux {c : Ct} {ts vs : List Expr} {k1 k2 : Nat} {p1 p2 : Pos} (co : COk c X) (h : offStack c (.Tuple ts k1 p1) (.Tuple vs k2 p2) = true) : swappedStores [.Tuple ts k1 p1] (.Tuple vs k2 p2) X.env = pure none := by
  unfold offStack at h
  obtain ⟨x, hx, hl⟩ := List.any_eq_true.mp h
  unfold swappedStores
  simp only [pure_bind]
  split
  · rfl
  · split
    · rfl
    · rw [if_pos]
      have := filterMap_short (f := fun e => match e with
        | .Name id pos => if X.env.kindOf id == some .local && pos.line == (ts.head?.map (·.pos.line)).getD 0 then some id else none
        | _ => none) (xs := ts) ⟨x, hx, by
          cases x <;> try rfl
          rename_i y p
          have hy : X.env.kindOf y = c.sc.names.lookup y := by show X.env.scope.names.lookup y = _; rw [co.sc]
          simp only [hy]
          simp only [Bool.not_eq_true'] at hl
          unfold lcl at hl
          cases hq : c.sc.names.lookup y with
          | none => rfl
          | some k => cases k <;> first | rfl | (rw [hq] at hl; cases hl)⟩
      simp only [Bool.or_eq_true, bne_iff_ne, ne_eq]
      exact .inl (Nat.ne_of_lt this)
theorem nopar2 {c : Ct} {t v : Expr} (co : COk c X) (h : noPar2 c t v = true) : swappedStores [t] v X.env = pure none := by
  unfold noPar2 at h
  rcases (Bool.or_eq_true _ _).mp h with h | h
  · exact nopar h
  · cases t <;> cases v <;> first
      | exact nopar2_aux co h
      | cases h
end
end DL
namespace DL
open PySem PySem.Spec PyProof.Rows L2

/-! ### isinstance(x, T), T a built-in type -/
inductive Ty where
  | int | bool | str | tuple | list | dict
  deriving DecidableEq
def Ty.nm : Ty → Str
  | .int => "int" | .bool => "bool" | .str => "str" | .tuple => "tuple" | .list => "list" | .dict => "dict"
def Ty.id : Ty → String
  | .int => "int" | .bool => "bool" | .str => "str" | .tuple => "tuple" | .list => "list" | .dict => "dict"
def D.isT : D → Ty → Option Bool
  | .non, _ => some false
  | .bl _, .int => some true
  | .bl _, .bool => some true
  | .bl _, _ => some false
  | .int _, .int => some true
  | .int _, _ => some false
  | .str _, .str => some true
  | .str _, _ => some false
  | .tup _, .tuple => some true
  | .tup _, _ => some false
  | .lst _, .list => some true
  | .lst _, _ => some false
  | _, _ => none
theorem tyx_tup {K : PySem.W.Frag} {H : Hp} {p : Addr} {vs : List V} (h : SqT K H p vs) : TyX K H (.ref p) (.type "tuple") := by
  rcases h with (h | ⟨o, h⟩) | ⟨o, _, _, h1, h2, _⟩
  · exact .base (.tup h)
  · exact .fTuple h
  · exact .kTuple h1 h2
theorem kitN {K : PySem.W.Frag} : ∀ ty : Ty, PySem.W.kitOne K (.type "NoneType") (.type ty.id) = some false
  | .int | .bool | .str | .tuple | .list | .dict => kit_ty (by decide +kernel)
theorem isT_ok {a : An0} {F H : Hp} {d : D} {ty : Ty} {v : V} {b : Bool} (s : Sub F H) (i : Is a.toAn F d v) (h : d.isT ty = some b) : ∃ t, TyX a.K H v t ∧ PySem.W.kitOne a.K t (.type ty.id) = some b := by
  cases d with
  | non => rw [i.non]; cases h; exact ⟨_, .base .non, kitN ty⟩
  | bl k => rw [i.bl]; refine ⟨_, .base (.bl k), ?_⟩; cases ty <;> cases h <;> exact kit_ty (by decide +kernel)
  | int k => rw [i.int]; refine ⟨_, .base (.int k), ?_⟩; cases ty <;> cases h <;> exact kit_ty (by decide +kernel)
  | str k => rw [i.str]; refine ⟨_, .base (.str k), ?_⟩; cases ty <;> cases h <;> exact kit_ty (by decide +kernel)
  | tup ds =>
    simp only [Is] at i
    obtain ⟨p, vs, rfl, q, _⟩ := i
    refine ⟨_, tyx_tup (sub_t s q), ?_⟩
    cases ty <;> cases h <;> exact kit_ty (by decide +kernel)
  | lst ds =>
    simp only [Is] at i
    obtain ⟨p, vs, rfl, q, _⟩ := i
    refine ⟨_, .base (.lst (s _ _ q)), ?_⟩
    cases ty <;> cases h <;> exact kit_ty (by decide +kernel)
  | bag => cases ty <;> cases h
  | obj _ _ => cases ty <;> cases h
  | scr _ => cases ty <;> cases h
section
variable {a : An0} {X : Cx} {ρ : DL.Env} {Φ : T → Prop} {e A B : Expr} {p p1 p2 pos : Pos}
theorem de_isi {ty : Ty} (xo : XOk a X) (hg : Gl X "isinstance") (hm : X.mg "isinstance" = none) (hg2 : Gl X ty.nm) (hm2 : X.mg ty.nm = none) (h1 : notStar e = true)
    (h : DE a X ρ e fun t => ∃ b, t.dat.isT ty = some b ∧ Φ (.leaf (.bl b))) : DE a X ρ (.Call (.Name "isinstance" p) [e, .Name ty.nm p1] [] pos) Φ := fun σ H ts vs Q ok k => by
  have hv : bootBuiltins ty.nm = some (.type ty.id) := by cases ty <;> decide +kernel
  have hn : ty.nm ≠ "__name__" := by cases ty <;> decide
  have hd : (ty.nm == ("__debug__" : Str)) = false := by cases ty <;> decide
  refine ⟨_, pe_callB call_isi hg hm (by decide +kernel) (pa_cons pe_W (pa_cons (pe_bltn (v := .ty ty.id) hg2 hm2 hv rfl hn hd) pa_nil) (star_of h1)) (by decide) (by decide) (star_of h1) rfl, ?_⟩
  show WE X e σ H fun x H1 => rIsi X.K [x, .ty ty.id] H1 Q
  refine h σ H ts vs _ ok fun x t H1 ⟨b, e1, hb⟩ ok1 => ?_
  obtain ⟨u, tx, kt⟩ := isT_ok (hb_sub _ _) ok1.top e1
  rw [xo.K]
  exact ⟨x, .ty ty.id, u, .type ty.id, b, rfl, .ty _, tx, kt, k _ _ H1 hb ok1.pop1.bl⟩
/-! ### list(range(..)) -/
theorem ok_ints {σ : L2.St} {H : Hp} {ts : List T} {vs : List V} (ns : List Int) (ok : SOk a ρ σ ts vs H) {p : Addr} (hp : H p = none) : SOk a ρ σ (.lst (ns.map fun n => .leaf (.int n)) :: ts) (.ref p :: vs) (upd H p (.lst (ns.map V.int))) := by
  have hm : (ns.map fun n => T.leaf (.int n)) = (ns.map D.int).map .leaf := by simp
  rw [hm]
  obtain ⟨F, Sc, Sm, w⟩ := ok
  have w2 : SW a ρ σ ((ns.map D.int).map .leaf ++ ts) (ns.map V.int ++ vs) H F Sc Sm :=
    w.tmp (Sn := [] ++ Sm) (OwL.join (OwL.leafs (IsL.ints.mpr rfl)) w.tmps) (List.nodup_append.mp w.nd).2.1 fun _ h => h
  obtain ⟨Sm', w3⟩ := w2.mkLst (by simp) (nvw_leaf _) hp
  exact ⟨F, Sc, Sm', w3⟩
def rgI (a b : Int) : List Int := (List.range (b - a).toNat).map fun (k : Nat) => a + (k : Int)
theorem rgV_eq (a b : Int) : rgV a b = (rgI a b).map V.int := by
  unfold rgV rgI
  rw [List.map_map]; rfl
def rgT (a b : Int) : T := .lst ((rgI a b).map fun n => .leaf (.int n))
def RgS (a b : Int) : Prop := -(2 ^ 61) ≤ a ∧ a ≤ 2 ^ 61 ∧ -(2 ^ 61) ≤ b ∧ b ≤ 2 ^ 61 ∧ b - a ≤ 100000
theorem RgS.ok {a b : Int} (h : RgS a b) : RgOk a b := by
  unfold RgS at h; unfold RgOk
  refine ⟨?_, ?_, ?_, ?_, ?_⟩ <;> omega
theorem de_lr1 (xo : XOk a X) (hg : Gl X "list") (hm : X.mg "list" = none) (hg2 : Gl X "range") (hm2 : X.mg "range" = none) (h1 : notStar A = true)
    (h : DE a X ρ A fun t => ∃ j, t.dat = .int j ∧ RgS 0 j ∧ Φ (rgT 0 j)) : DE a X ρ (.Call (.Name "list" p) [.Call (.Name "range" p1) [A] [] p2] [] pos) Φ := fun σ H ts vs Q ok k => by
  refine ⟨_, pe_listRg xo.calm hg hm (prg_1 hg2 hm2 pe_W (star_of h1)) rfl, ?_⟩
  show WE X A σ H fun x H1 => ∃ n, x = .int n ∧ (RgOk 0 n ∧ ∀ q, H1 q = none → Q (.ref q) (upd H1 q (.lst (rgV 0 n))))
  refine h σ H ts vs _ ok fun x t H1 ⟨j, e, s, q⟩ ok1 => ?_
  have i1 := ok1.top
  rw [e] at i1
  refine ⟨j, i1.int, s.ok, fun p hp => ?_⟩
  rw [rgV_eq]
  exact k _ _ _ q (ok_ints _ ok1.pop1 hp)
theorem de_lr2 (xo : XOk a X) (hg : Gl X "list") (hm : X.mg "list" = none) (hg2 : Gl X "range") (hm2 : X.mg "range" = none) (h1 : notStar A = true) (h2 : notStar B = true)
    (h : DE a X ρ A fun t => DE a X ρ B fun u => ∃ i j, t.dat = .int i ∧ u.dat = .int j ∧ RgS i j ∧ Φ (rgT i j)) : DE a X ρ (.Call (.Name "list" p) [.Call (.Name "range" p1) [A, B] [] p2] [] pos) Φ := fun σ H ts vs Q ok k => by
  refine ⟨_, pe_listRg xo.calm hg hm (prg_2 hg2 hm2 pe_W pe_W (star_of h1) (star_of h2) (by rw [star_of h2]; rfl)) rfl, ?_⟩
  show WE X A σ H fun x H1 => WE X B σ H1 fun y H2 => ∃ i j, x = .int i ∧ y = .int j ∧ (RgOk i j ∧ ∀ q, H2 q = none → Q (.ref q) (upd H2 q (.lst (rgV i j))))
  refine h σ H ts vs _ ok fun x t H1 q ok1 => q σ H1 _ _ _ ok1 fun y u H2 ⟨i, j, e1, e2, s, q⟩ ok2 => ?_
  obtain ⟨i1, i2, ok3⟩ := ok2.two
  rw [e1] at i1
  rw [e2] at i2
  refine ⟨i, j, i1.int, i2.int, s.ok, fun p hp => ?_⟩
  rw [rgV_eq]
  exact k _ _ _ q (ok_ints _ ok3 hp)
end
end DL
namespace DL
open PySem PySem.Spec PyProof.Rows L2

/-! ### own classes: methods, properties, new objects, where a def's promise knows no guards -/
section
variable {X : Cx} {CX : CXT} {k : Nat} {f C p0 : Addr} {fd : FuncData} {ps : List Str} {sp : Sp} {E : XK} {x m : Str} {p pos apos : Pos} {e o : Expr} {es : List Expr} {ta : TE} {t : TA}
theorem pe_methG {pl : Sem Bool} (he : PE X o ta) (c : Cls X.K C) (hm : Meth X.K C m f) (F : FnG X.prog X.w X.K X.mg X.base CX k f fd ps sp) (gu : X.A.guards = some []) (hr : Room k X.A) (hb : Binds X.K fd ps []) (hx : Passes CX X E) (ha : PA X (e :: es) t)
    (hst : starEach (e :: es) X.env = (false, eval e X.env) :: starEach es X.env) (hpl : (backTo pos (starEach es X.env)).any (·.1) = false)
    (ht : eval (.Call (.Attribute o m apos) (e :: es) [] pos) X.env = (do let ov ← eval o X.env; standAt apos.atName; let (f, first) ← holding [ov] (getMethod ov m pl); callWith pos f first (backTo pos (starEach (e :: es) X.env)) (backToKw pos (keywordEach [] X.env)))) :
    PE X (.Call (.Attribute o m apos) (e :: es) [] pos) (tMeth C m sp [] E ta t) :=
  ⟨fun pins s σ H Q I h => PySem.W.methodCall_KW (pl := pl) (thn (he.run pins s σ H _ I h) fun u s1 ⟨x, H1, I1, rx, a, dx, fs, ex, ea, l, q⟩ => by
    subst ex
    cases (show u = Value.ref a from rx)
    exact getmeth_ok I1 ea c hm l (PySem.W.callWith_K (first := [.ref a]) (h₀ := X.base) I.ok.mod.kin hm.kp
      (thn (ha.run pos pins s1 σ H1 _ I1 q) fun us s2 ⟨vs, H2, I2, r, q2⟩ => ⟨I2.kIn, run_G (us := .ref a :: us) (vs := .ref a :: vs) F gu hr hb .nil hx I2 (.cons rfl r) q2⟩) hst hpl)) ht⟩
theorem pe_methG0 {pl : Sem Bool} (he : PE X o ta) (c : Cls X.K C) (hm : Meth X.K C m f) (F : FnG X.prog X.w X.K X.mg X.base CX k f fd ps sp) (gu : X.A.guards = some []) (hr : Room k X.A) (hb : Binds X.K fd ps []) (hx : Passes CX X E)
    (ht : eval (.Call (.Attribute o m apos) [] [] pos) X.env = (do let ov ← eval o X.env; standAt apos.atName; let (f, first) ← holding [ov] (getMethod ov m pl); callWith pos f first (backTo pos (starEach [] X.env)) (backToKw pos (keywordEach [] X.env)))) :
    PE X (.Call (.Attribute o m apos) [] [] pos) (tMeth C m sp [] E ta tNil) :=
  ⟨fun pins s σ H Q I h => PySem.W.methodCall_KW (pl := pl) (thn (he.run pins s σ H _ I h) fun u s1 ⟨x, H1, I1, rx, a, dx, fs, ex, ea, l, q⟩ => by
    subst ex
    cases (show u = Value.ref a from rx)
    exact getmeth_ok I1 ea c hm l (PySem.W.callWith_K0 (first := [.ref a]) I1.kIn hm.kp (run_G (us := [.ref a]) (vs := [.ref a]) F gu hr hb .nil hx I1 (.cons rfl .nil) q))) ht⟩
theorem run_makeG {pins : List (Addr × Obj)} {σ : L2.St} {H : Hp} {s : Shared} {Q : VK} {us : List Value} {vs : List V} (M : Mk X.K C f) (F : FnG X.prog X.w X.K X.mg X.base CX k f fd ps sp) (gu : X.A.guards = some []) (hr : Room (k + 1) X.A) (hb : Binds X.K fd ps [])
    (hx : Passes CX X E) (I : Inv X pins σ H s) (r : Vals vs us)
    (h : ∀ x dx, H x = none → H dx = none → dx ≠ x → sp (.ref x :: vs) (upd (upd H dx (.own x)) x (.ins C dx [])) (fun v H2 => v = .non ∧ Q (.ref x) H2) E) :
    wpAny (model X.prog X.w) X.A (call (.ref C) us) (EP X pins σ Q) X.xe s := by
  have I2 := Inv.made (C := C) I
  have hq := h _ _ (I.hok.fresh (Nat.le_succ s.heap.objs.size)) (I.hok.fresh (Nat.le_refl s.heap.objs.size)) (Nat.ne_of_lt (Nat.lt_succ_self _))
  have both : Vals (V.ref (s.heap.objs.size + 1) :: vs) (Value.ref (s.heap.objs.size + 1) :: us) := .cons rfl r
  have n : (Value.ref (s.heap.objs.size + 1) :: us ++ []).length = ps.length := by
    rw [List.append_nil, ← both.length]; exact F.len _ _ _ _ hq
  have bd := hb _ (Value.ref (s.heap.objs.size + 1) :: us) I2.kIn n
  rw [List.append_nil] at bd
  have go := F.run (X.A.under (.builtin "type.__call__" ⟨.ref C :: us, []⟩)) X.stack _ _ ⟨Value.ref (s.heap.objs.size + 1) :: us, []⟩ _ _ _ E gu (hr.make C us []) (I2.env0.make C us []) bd both hq
  refine wpAny_call (make_map (f := f) I.kIn M.makes M.init (beq_iff_eq.mp M.fn) (codeAny_mono go fun res s' hq' => ?_))
  match res, hq' with
  | .error er, hq' => exact hx pins σ _ _ er s' I2 hq'
  | .ok (.ret u), hq' =>
    obtain ⟨v, H', I3, rv, ev, q3⟩ := I2.after hq'
    subst ev
    exact ⟨rv, V.ref (s.heap.objs.size + 1), H', I3, rfl, q3⟩
  | .ok .next, hq' => exact False.elim hq'
  | .ok .brk, hq' => exact False.elim hq'
  | .ok .cont, hq' => exact False.elim hq'
theorem pe_makeG (M : Mk X.K C f) (F : FnG X.prog X.w X.K X.mg X.base CX k f fd ps sp) (gu : X.A.guards = some []) (hr : Room (k + 1) X.A) (hg : Gl X x) (hm : X.mg x = some (.ref C)) (hb : Binds X.K fd ps []) (hx : Passes CX X E)
    (ha : PA X (e :: es) t) (hdb : (x == ("__debug__" : Str)) = false) (he : starEach (e :: es) X.env = (false, eval e X.env) :: starEach es X.env) (hpl : (backTo pos (starEach es X.env)).any (·.1) = false) :
    PE X (.Call (.Name x p) (e :: es) [] pos) (tMake C sp [] E t) :=
  ⟨fun pins s σ H Q I h => wpAny_Call_Name_kw (ld_glob I hg hm (PySem.W.callWith_K (h₀ := X.base) I.ok.mod.kin M.kp
    (thn (ha.run pos pins s σ H _ I h) fun us s1 ⟨vs, H1, I1, r, q⟩ => ⟨I1.kIn, run_makeG M F gu hr hb hx I1 r fun x dx a b c => by have := q x dx a b c; rwa [List.append_nil] at this⟩) he hpl) hdb)⟩
theorem pe_propG {n : Str} (he : PE X e ta) (c : Cls X.K C) (hp : PropOf X.K C n p0 f) (F : FnG X.prog X.w X.K X.mg X.base CX k f fd ps sp) (gu : X.A.guards = some []) (hr : Room (k + 1) X.A) (hb : Binds X.K fd ps []) (hx : Passes CX X.nox E)
    (hab : attributeBase e n X.env (eval e X.env) = eval e X.env) : PE X (.Attribute e n pos) (tProp C sp [] E ta) :=
  ⟨fun pins s σ H Q I h => attr_of hab (thn (he.run pins s σ H _ I h) fun u s0 ⟨y, H1, I1, rx, a, dx, fs, ex, ea, q⟩ => by
    subst ex
    cases (show u = Value.ref a from rx)
    obtain ⟨mA, O, _, _, _, _⟩ := ins_get I1.hok ea
    obtain ⟨od, J, _⟩ := O.look
    obtain ⟨rest, hrec⟩ := hp.rec_
    have I2 := I1.tok (s0.toks + 1)
    have n1 : ([Value.ref a] ++ []).length = ps.length := (F.len _ _ _ _ q).symm ▸ rfl
    have known : (PySem.W.clsIn X.K C).isSome = true := by
      obtain ⟨cd, hc, _⟩ := PySem.W.any_some c.hd
      rw [hc]; rfl
    have go := F.run X.A.in1 X.stack { s0 with toks := s0.toks + 1 } H1 ⟨[.ref a], []⟩ [.ref a] [.ref a] Q E gu hr.in1 I2.env0.in1 (hb _ [.ref a] I2.kIn n1) (.cons rfl .nil) q
    refine PySem.W.get_bind I1.kIn J (PySem.W.plainGet_of (c.get n)).1 (PySem.W.findObj_data known hp.at_ hp.get hp.tak) (PySem.W.plainGet_of (c.get n)).2 (wpAny_call (PySem.W.prop_get (s := { s0 with toks := s0.toks + 1 }) I1.kIn hrec (codeAny_mono go fun res s' hq => ?_)))
    match res, hq with
    | .error er, hq => exact False.elim (hx pins σ H1 { s0 with toks := s0.toks + 1 } er s' (I2.wish _) hq)
    | .ok (.ret u), hq =>
      obtain ⟨v, H', I3, rv, q3⟩ := I2.after hq
      show wpAny _ _ (handedOut u) _ _ _
      rw [PySem.W.handedOut_of (handed_of rv)]
      exact wpAny_pure ⟨v, H', I3, rv, q3⟩
    | .ok .next, hq => exact False.elim hq
    | .ok .brk, hq => exact False.elim hq
    | .ok .cont, hq => exact False.elim hq)⟩
end
end DL
namespace DL
open PySem PySem.Spec PyProof.Rows L2

/-! ### objects in plain data -/
/-- a constructor's promise: the new object x stands empty -/
def spI (K : PySem.W.Frag) (cls : Nat → Option (Addr × List Str)) (c : Nat) (f : SpecF) : Sp := fun vs H Q _ =>
  ∃ (bg : Option Addr) (F H0 : Hp) (ds : List D) (x dx C : Addr) (ns : List Str) (ws : List V), vs = .ref x :: ws ∧ cls c = some (C, ns) ∧ H0 x = none ∧ H0 dx = none ∧ dx ≠ x ∧ H = upd (upd H0 dx (.own x)) x (.ins C dx []) ∧
    Sub F H0 ∧ BagOk ⟨K, bg, cls⟩ F H0 ∧ IsL ⟨K, bg, cls⟩ F ds ws ∧
    f ds fun t => ∀ F' H', Sub F' H' → Gw bg.toList F H0 F' H' → BagOk ⟨K, bg, cls⟩ F' H' → Ow ⟨K, bg, cls⟩ F' H' t (.ref x) [] → Q .non H'
structure MtAt (a : An0) (X : Cx) (c : Nat) (m : Str) (f : SpecF) : Prop where
  ex : ∃ (C fa : Addr) (ns : List Str) (fd : FuncData) (k : Nat) (ps : List Str), a.cls c = some (C, ns) ∧ m ∉ ns ∧ Cls X.K C ∧ Meth X.K C m fa ∧ FnG X.prog X.w X.K X.mg X.base CX0 k fa fd ps (spD a.K a.cls f) ∧ Room k X.A ∧ Binds X.K fd ps []
structure PrAt (a : An0) (X : Cx) (c : Nat) (m : Str) (f : SpecF) : Prop where
  ex : ∃ (C fa p : Addr) (ns : List Str) (fd : FuncData) (k : Nat) (ps : List Str), a.cls c = some (C, ns) ∧ Cls X.K C ∧ PropOf X.K C m p fa ∧ FnG X.prog X.w X.K X.mg X.base CX0 k fa fd ps (spD a.K a.cls f) ∧ Room (k + 1) X.A ∧ Binds X.K fd ps []
structure NwAt (a : An0) (X : Cx) (x : Str) (f : SpecF) : Prop where
  ex : ∃ (C fa : Addr) (c : Nat) (ns : List Str) (fd : FuncData) (k : Nat) (ps : List Str), a.cls c = some (C, ns) ∧ Mk X.K C fa ∧ X.mg x = some (.ref C) ∧ FnG X.prog X.w X.K X.mg X.base CX0 k fa fd ps (spI a.K a.cls c f) ∧ Room (k + 1) X.A ∧ Binds X.K fd ps []
structure FdAt (a : An0) (X : Cx) (c i : Nat) (n : Str) : Prop where
  ex : ∃ (C : Addr) (ns : List Str), a.cls c = some (C, ns) ∧ ns[i]? = some n ∧ ns.Nodup ∧ Cls X.K C ∧ NoAttr X.K C n
theorem lookup_zip : ∀ {ns : List Str} {vs : List V} {i : Nat} {n : Str} {v : V}, ns.Nodup → ns[i]? = some n → vs[i]? = some v → (ns.zip vs).lookup n = some v
  | [], _, _, _, _, _, h, _ => by simp at h
  | _ :: _, [], _, _, _, _, _, h => by simp at h
  | m :: ns, u :: vs, 0, n, v, nd, h1, h2 => by
    simp only [List.getElem?_cons_zero, Option.some.injEq] at h1 h2
    subst h1 h2
    simp [List.lookup]
  | m :: ns, u :: vs, i + 1, n, v, nd, h1, h2 => by
    simp only [List.getElem?_cons_succ] at h1 h2
    obtain ⟨n1, n2⟩ := List.nodup_cons.mp nd
    have ne : n ≠ m := fun e => n1 (e ▸ List.mem_of_getElem? h1)
    rw [List.zip_cons_cons, List.lookup_cons]
    simp only [show (n == m) = false from by simpa using ne]
    exact lookup_zip n2 h1 h2
theorem lookup_zip_none : ∀ {ns : List Str} {vs : List V} {n : Str}, n ∉ ns → (ns.zip vs).lookup n = none
  | [], _, _, _ => rfl
  | _ :: _, [], _, _ => rfl
  | m :: ns, u :: vs, n, h => by
    rw [List.zip_cons_cons, List.lookup_cons]
    have ne : n ≠ m := fun e => h (e ▸ List.mem_cons_self)
    simp only [show (n == m) = false from by simpa using ne]
    exact lookup_zip_none fun z => h (List.mem_cons_of_mem _ z)
section
variable {a : An0} {X : Cx} {ρ : DL.Env} {σ : L2.St} {ts : List T} {vs : List V} {H F : Hp} {Sc Sm : List Addr} {Φ : T → Prop} {pos p apos : Pos} {e o : Expr} {es : List Expr} {z : Bool}
theorem SW.top1 {d : D} {v : V} (w : SW a ρ σ (.leaf d :: ts) (v :: vs) H F Sc Sm) : Is a.toAn F d v ∧ SW a ρ σ ts vs H F Sc Sm := by
  obtain ⟨v', r, S1, S2, e, h1, h2, e2⟩ := (show ∃ v' r S1 S2, v :: vs = v' :: r ∧ Ow a.toAn F H (.leaf d) v' S1 ∧ OwL a.toAn F H ts r S2 ∧ Sm = S1 ++ S2 by
    have := w.tmps; simpa only [OwL] using this)
  cases e
  simp only [Ow] at h1
  obtain ⟨rfl, h1⟩ := h1
  subst e2
  exact ⟨h1, w.sub, w.gw, w.bagM, w.bag, w.cells, h2, w.nd, w.fr, w.len, w.wit, w.wif⟩
theorem de_fld {c i : Nat} {n : Str} (fd : FdAt a X c i n) (hb : attributeBase e n X.env (eval e X.env) = eval e X.env) (h : DE a X ρ e fun t => ∃ fs d, t = .leaf (.obj c fs) ∧ fs[i]? = some d ∧ Φ (.leaf d)) : DE a X ρ (.Attribute e n pos) Φ := fun σ H ts vs Q ok k => by
  obtain ⟨C, ns, hc, hn, nd, cl, na⟩ := fd.ex
  refine ⟨_, pe_fld pe_W hb, ?_⟩
  show WE X e σ H fun x H1 => _
  refine h σ H ts vs _ ok fun x t H1 ⟨fs, d, e1, hd, q⟩ ok1 => ?_
  subst e1
  obtain ⟨F, Sc, Sm, w⟩ := ok1
  obtain ⟨is, w'⟩ := w.top1
  simp only [Is] at is
  obtain ⟨p, C', ns', dx, us, rfl, hc', l, hp, il⟩ := is
  rw [hc] at hc'
  cases hc'
  obtain ⟨v, hv, iv⟩ := il.get hd
  exact ⟨p, C, dx, _, v, rfl, w.sub _ _ hp, cl, na, lookup_zip nd hn hv, k v _ H1 q ⟨F, Sc, Sm, w'.leaf iv⟩⟩
theorem de_mth {c : Nat} {m : Str} {f : SpecF} {pl : Sem Bool} (xo : XOk a X) (io : z = true → NoIo a) (mt : MtAt a X c m f) (h1 : notStar e = true) (h2 : es.all notStar = true)
    (ht : eval (.Call (.Attribute o m apos) (e :: es) [] pos) X.env = (do let ov ← eval o X.env; standAt apos.atName; let (f, first) ← holding [ov] (getMethod ov m pl); callWith pos f first (backTo pos (starEach (e :: es) X.env)) (backToKw pos (keywordEach [] X.env))))
    (h : DE a X ρ o fun t => ∃ fs, t = .leaf (.obj c fs) ∧ DV a X ρ (e :: es) fun us => frozs z us fun ds => f (.obj c fs :: ds) Φ) (mono : ∀ ds (Φ Ψ : T → Prop), (∀ t, Φ t → Ψ t) → f ds Φ → f ds Ψ) : DE a X ρ (.Call (.Attribute o m apos) (e :: es) [] pos) Φ := fun σ H ts vs Q ok k => by
  obtain ⟨C, fa, ns, fd, n, ps, hc, hm, cl, me, F, hr, hb⟩ := mt.ex
  refine ⟨_, pe_methG pe_W cl me F xo.gu hr hb pass0 pa_W (star_of h1) (back_of h2) ht, ?_⟩
  show WE X o σ H fun x H1 => _
  refine h σ H ts vs _ ok fun x t H1 ⟨fs, e1, q⟩ ok1 => ?_
  subst e1
  obtain ⟨p, C', ns', dx, us, rfl, hc', l, hp, il⟩ := (show ∃ p C' ns' dx us, x = V.ref p ∧ a.cls c = some (C', ns') ∧ ns'.length = us.length ∧ H1 p = some (.ins C' dx (ns'.zip us)) ∧ True by
    obtain ⟨F0, Sc, Sm, w⟩ := ok1
    have is := w.top1.1
    simp only [Is] at is
    obtain ⟨p, C', ns', dx, us, e1, hc', l, hp, il⟩ := is
    exact ⟨p, C', ns', dx, us, e1, hc', l, w.sub _ _ hp, trivial⟩)
  rw [hc] at hc'
  cases hc'
  refine ⟨p, dx, _, rfl, hp, lookup_zip_none hm, ?_⟩
  show WA X (e :: es) σ H1 fun vs H2 => spD a.K a.cls f (.ref p :: (vs ++ [])) H2 Q _
  refine q σ H1 _ _ _ ok1 fun ws us2 H2 q2 l2 ok2 => ?_
  obtain ⟨F0, Sc, Sm, w⟩ := ok2
  obtain ⟨F1, Sm1, ds, s1, w1, il2, q3⟩ := w.frozs io l2 q2
  obtain ⟨is, w2⟩ := w1.top1
  rw [List.append_nil]
  refine ⟨a.bg, F1, .obj c fs :: ds, w2.sub, w2.bag, by simp only [IsL]; exact ⟨_, _, rfl, is, il2⟩, mono _ _ _ (fun t ht F' H' v S sub g bg ow nd fr => ?_) q3⟩
  exact k v t H' ht (w2.called sub g bg ow nd fr)
theorem de_mth0 {c : Nat} {m : Str} {f : SpecF} {pl : Sem Bool} (xo : XOk a X) (mt : MtAt a X c m f)
    (ht : eval (.Call (.Attribute o m apos) [] [] pos) X.env = (do let ov ← eval o X.env; standAt apos.atName; let (f, first) ← holding [ov] (getMethod ov m pl); callWith pos f first (backTo pos (starEach [] X.env)) (backToKw pos (keywordEach [] X.env))))
    (h : DE a X ρ o fun t => ∃ fs, t = .leaf (.obj c fs) ∧ f [.obj c fs] Φ) (mono : ∀ ds (Φ Ψ : T → Prop), (∀ t, Φ t → Ψ t) → f ds Φ → f ds Ψ) : DE a X ρ (.Call (.Attribute o m apos) [] [] pos) Φ := fun σ H ts vs Q ok k => by
  obtain ⟨C, fa, ns, fd, n, ps, hc, hm, cl, me, F, hr, hb⟩ := mt.ex
  refine ⟨_, pe_methG0 pe_W cl me F xo.gu hr hb pass0 ht, ?_⟩
  show WE X o σ H fun x H1 => _
  refine h σ H ts vs _ ok fun x t H1 ⟨fs, e1, q⟩ ok1 => ?_
  subst e1
  obtain ⟨F0, Sc, Sm, w⟩ := ok1
  obtain ⟨is, w2⟩ := w.top1
  have is0 := is
  simp only [Is] at is
  obtain ⟨p, C', ns', dx, us, rfl, hc', l, hp, il⟩ := is
  rw [hc] at hc'
  cases hc'
  refine ⟨p, dx, _, rfl, w.sub _ _ hp, lookup_zip_none hm, ?_⟩
  refine ⟨a.bg, F0, [.obj c fs], w2.sub, w2.bag, by simp only [IsL]; exact ⟨_, _, rfl, is0, rfl⟩, mono _ _ _ (fun t ht F' H' v S sub g bg ow nd fr => ?_) q⟩
  exact k v t H' ht (w2.called sub g bg ow nd fr)
theorem de_prp {c : Nat} {m : Str} {f : SpecF} (xo : XOk a X) (mt : PrAt a X c m f) (hab : attributeBase o m X.env (eval o X.env) = eval o X.env)
    (h : DE a X ρ o fun t => ∃ fs, t = .leaf (.obj c fs) ∧ f [.obj c fs] Φ) (mono : ∀ ds (Φ Ψ : T → Prop), (∀ t, Φ t → Ψ t) → f ds Φ → f ds Ψ) : DE a X ρ (.Attribute o m pos) Φ := fun σ H ts vs Q ok k => by
  obtain ⟨C, fa, p0, ns, fd, n, ps, hc, cl, me, F, hr, hb⟩ := mt.ex
  refine ⟨_, pe_propG pe_W cl me F xo.gu hr hb pass0 hab, ?_⟩
  show WE X o σ H fun x H1 => _
  refine h σ H ts vs _ ok fun x t H1 ⟨fs, e1, q⟩ ok1 => ?_
  subst e1
  obtain ⟨F0, Sc, Sm, w⟩ := ok1
  obtain ⟨is, w2⟩ := w.top1
  have is0 := is
  simp only [Is] at is
  obtain ⟨p, C', ns', dx, us, rfl, hc', l, hp, il⟩ := is
  rw [hc] at hc'
  cases hc'
  refine ⟨p, dx, _, rfl, w.sub _ _ hp, ?_⟩
  refine ⟨a.bg, F0, [.obj c fs], w2.sub, w2.bag, by simp only [IsL]; exact ⟨_, _, rfl, is0, rfl⟩, mono _ _ _ (fun t ht F' H' v S sub g bg ow nd fr => ?_) q⟩
  exact k v t H' ht (w2.called sub g bg ow nd fr)
theorem de_new {x : Str} {f : SpecF} (xo : XOk a X) (io : z = true → NoIo a) (nw : NwAt a X x f) (hg : Gl X x) (hd : (x == ("__debug__" : Str)) = false) (h1 : notStar e = true) (h2 : es.all notStar = true)
    (h : DV a X ρ (e :: es) fun us => frozs z us fun ds => f ds Φ) (mono : ∀ ds (Φ Ψ : T → Prop), (∀ t, Φ t → Ψ t) → f ds Φ → f ds Ψ) : DE a X ρ (.Call (.Name x p) (e :: es) [] pos) Φ := fun σ H ts vs Q ok k => by
  obtain ⟨C, fa, c, ns, fd, n, ps, hc, M, hm, F, hr, hb⟩ := nw.ex
  refine ⟨_, pe_makeG M F xo.gu hr hg hm hb pass0 pa_W hd (star_of h1) (back_of h2), ?_⟩
  show WA X (e :: es) σ H fun vs H1 => _
  refine h σ H ts vs _ ok fun ws us H1 q l ok1 => ?_
  obtain ⟨F0, Sc, Sm, w⟩ := ok1
  obtain ⟨F1, Sm1, ds, s1, w1, il, q⟩ := w.frozs io l q
  intro y dx n1 n2 ne
  rw [List.append_nil]
  refine ⟨a.bg, F1, H1, ds, y, dx, C, ns, ws, rfl, hc, n1, n2, ne, rfl, w1.sub, w1.bag, il, mono _ _ _ (fun t ht F' H' sub g bg ow => ?_) q⟩
  exact ⟨rfl, k _ t H' ht (w1.called sub g bg ow (by simp) (by simp))⟩
end
def baseOk : Expr → Bool
  | .Call (.Name _ _) [] [] _ => false
  | _ => true
theorem attr_ok {o : Expr} {m : Str} {env : PySem.Env} {wh : Sem Value} (h : baseOk o = true) : attributeBase o m env wh = wh := by
  unfold attributeBase
  split
  · simp [baseOk] at h
  · rfl
theorem mform {pos : Pos} {es : List Expr} {env : PySem.Env} (h : (backTo pos (starEach es env)).any (·.1) = false) (n : es.length < 30) : methodCallForm (es.length + ([] : List Keyword).length) (backTo pos (starEach es env)) (backToKw pos (keywordEach [] env)) = true := by
  unfold methodCallForm
  rw [List.all_eq_not_any_not]
  simp only [Bool.not_not]
  rw [h]
  simp only [Bool.not_false, Bool.true_and, Bool.and_eq_true, decide_eq_true_eq]
  exact ⟨rfl, by rw [List.length_nil]; show es.length + 0 + 0 < 30; omega⟩
theorem ev_meth {o : Expr} {m : Str} {apos pos : Pos} {es : List Expr} {env : PySem.Env} (hb : baseOk o = true) (hl : (apos.endLine == pos.line) = true) (h : (backTo pos (starEach es env)).any (·.1) = false) (n : es.length < 30) :
    eval (.Call (.Attribute o m apos) es [] pos) env = (do let ov ← eval o env; standAt apos.atName; let (f, first) ← holding [ov] (getMethod ov m (do return (← importBound o env).getD true)); callWith pos f first (backTo pos (starEach es env)) (backToKw pos (keywordEach [] env))) := by
  have e1 : eval (.Call (.Attribute o m apos) es [] pos) env = (do let ov ← attributeBase o m env (eval o env); standAt apos.atName; methodCall o m apos pos env ov (es.length + ([] : List Keyword).length) (backTo pos (starEach es env)) (backToKw pos (keywordEach [] env))) := rfl
  have e2 : ∀ ov, methodCall o m apos pos env ov (es.length + ([] : List Keyword).length) (backTo pos (starEach es env)) (backToKw pos (keywordEach [] env)) = (do let (f, first) ← holding [ov] (getMethod ov m (do return (← importBound o env).getD true)); callWith pos f first (backTo pos (starEach es env)) (backToKw pos (keywordEach [] env))) := fun ov => by
    unfold methodCall
    rw [mform h n]
    unfold calleeOf methodCallPos
    rw [if_pos rfl, hl]
    rfl
  rw [e1, attr_ok hb]
  simp only [e2]
section
variable {a : An0} {X : Cx} {ρ : DL.Env} {Φ : T → Prop} {pos p apos : Pos} {e o : Expr} {es : List Expr} {z : Bool}
theorem de_mthO {c : Nat} {m : Str} {f : SpecF} (xo : XOk a X) (io : z = true → NoIo a) (mt : MtAt a X c m f) (h1 : notStar e = true) (h2 : es.all notStar = true) (hb : baseOk o = true) (hl : (apos.endLine == pos.line) = true) (n : (e :: es).length < 30)
    (h : DE a X ρ o fun t => ∃ fs, t = .leaf (.obj c fs) ∧ DV a X ρ (e :: es) fun us => frozs z us fun ds => f (.obj c fs :: ds) Φ) (mono : ∀ ds (Φ Ψ : T → Prop), (∀ t, Φ t → Ψ t) → f ds Φ → f ds Ψ) : DE a X ρ (.Call (.Attribute o m apos) (e :: es) [] pos) Φ :=
  de_mth xo io mt h1 h2 (ev_meth hb hl (back_of (by rw [List.all_cons, h1, h2]; rfl)) n) h mono
theorem de_mthO0 {c : Nat} {m : Str} {f : SpecF} (xo : XOk a X) (mt : MtAt a X c m f) (hb : baseOk o = true) (hl : (apos.endLine == pos.line) = true)
    (h : DE a X ρ o fun t => ∃ fs, t = .leaf (.obj c fs) ∧ f [.obj c fs] Φ) (mono : ∀ ds (Φ Ψ : T → Prop), (∀ t, Φ t → Ψ t) → f ds Φ → f ds Ψ) : DE a X ρ (.Call (.Attribute o m apos) [] [] pos) Φ :=
  de_mth0 xo mt (ev_meth hb hl (back_of (es := []) rfl) (by decide)) h mono
end
end DL
namespace DL
open PySem PySem.Spec PyProof.Rows L2

/-! ### x == y by an own __eq__, isinstance(x, C) -/
theorem op_eqO {X : Cx} {CX : CXT} {n : Nat} {C f : Addr} {fd : FuncData} {ps : List Str} {sp : Sp} {E : XK} (F : FnG X.prog X.w X.K X.mg X.base CX n f fd ps sp) (gu : X.A.guards = some []) (hs : PySem.W.findIn X.K (.ref C) "__eq__" = some (some (.ref f))) (hf : PySem.W.isFn X.K (.ref f) = true) (hb : Binds X.K fd ps []) (hr : Room n X.A) (hx : Passes CX X E) :
    OpR X (compareOp .Eq) fun x y H Q => ∃ a b dx dy fs gs, x = .ref a ∧ y = .ref b ∧ H a = some (.ins C dx fs) ∧ H b = some (.ins C dy gs) ∧ sp [.ref a, .ref b] H (fun v H' => (∃ k, v = .bl k) ∧ Q v H') E := by
  intro pins s σ H x y v u Q I rx ry hq
  obtain ⟨a, b, dx, dy, fs, gs, rfl, rfl, ha, hb2, hsp⟩ := hq
  cases rx
  cases ry
  obtain ⟨mA, J, _⟩ := ins_get I.hok ha
  obtain ⟨mB, J2, _⟩ := ins_get I.hok hb2
  obtain ⟨od, J, _⟩ := J.look
  obtain ⟨od2, J2, _⟩ := J2.look
  obtain ⟨m, hF⟩ := I.fr
  show wpAny (model X.prog X.w) X.A (richCompare .Eq (.ref a) (.ref b)) (EP X pins σ Q) X.xe s
  refine PySem.W.cmp_K (op := .Eq) (tb := .ref C) hr.units0 hF I.ok.mod.kin J J2.type (by simp [PySem.W.notFirst]) hs hf ?_
  refine wpAny_mono (run_G (us := [.ref a, .ref b]) (vs := [.ref a, .ref b]) F gu hr hb .nil hx I (.cons rfl (.cons rfl .nil)) hsp) (fun r s' h => ?_) fun _ _ e => e
  obtain ⟨z, H', I', rz, ⟨k, ez⟩, q⟩ := h
  subst ez
  have rz2 : r = .bool k := rz
  subst rz2
  exact ⟨.bl k, H', I', rfl, q⟩
section
variable {a : An0} {X : Cx} {ρ : DL.Env} {Φ : T → Prop} {Ψ : Bool → Prop} {pos p p1 : Pos} {e A B : Expr}
def eqOq (a : An0) (X : Cx) (ρ : DL.Env) (cl : Nat) (f : SpecF) (A B : Expr) (Ψ : Bool → Prop) : Prop := DE a X ρ A fun t => DE a X ρ B fun u => ∃ fs gs, t = .leaf (.obj cl fs) ∧ u = .leaf (.obj cl gs) ∧ f [.obj cl fs, .obj cl gs] fun r => ∃ k, r = .leaf (.bl k) ∧ Ψ k
theorem obj_in {F H : Hp} {v : V} {cl : Nat} {C : Addr} {ns : List Str} {fs : List D} (s : Sub F H) (hc : a.cls cl = some (C, ns)) (h : Is a.toAn F (.obj cl fs) v) : ∃ p dx gs, v = .ref p ∧ H p = some (.ins C dx gs) := by
  simp only [Is] at h
  obtain ⟨p, C', ns', dx, us, rfl, hc', l, hp, il⟩ := h
  rw [hc] at hc'
  cases hc'
  exact ⟨p, dx, _, rfl, s _ _ hp⟩
theorem eqO_run {cl : Nat} {f : SpecF} {E : XK} {σ : L2.St} {H : Hp} {ts : List T} {vs : List V} {C fa : Addr} {ns : List Str} (mono : ∀ ds (Φ Ψ : T → Prop), (∀ t, Φ t → Ψ t) → f ds Φ → f ds Ψ) (hc : a.cls cl = some (C, ns)) {Q : VK} (h : eqOq a X ρ cl f A B Ψ) (ok : SOk a ρ σ ts vs H) (k : ∀ b H', Ψ b → SOk a ρ σ ts vs H' → Q (.bl b) H') :
    WE X A σ H fun x H1 => WE X B σ H1 fun y H2 => ∃ p q dx dy fs gs, x = .ref p ∧ y = .ref q ∧ H2 p = some (.ins C dx fs) ∧ H2 q = some (.ins C dy gs) ∧ spD a.K a.cls f [.ref p, .ref q] H2 (fun v H' => (∃ k, v = .bl k) ∧ Q v H') E := by
  refine h σ H ts vs _ ok fun x t H1 h1 ok1 => h1 σ H1 _ _ _ ok1 fun y u H2 ⟨fs, gs, e1, e2, q⟩ ok2 => ?_
  subst e1 e2
  obtain ⟨F, Sc, Sm, w⟩ := ok2
  obtain ⟨i2, w1⟩ := w.top1
  obtain ⟨i1, w2⟩ := w1.top1
  obtain ⟨p1, d1, g1, rfl, hp1⟩ := obj_in w.sub hc i1
  obtain ⟨p2, d2, g2, rfl, hp2⟩ := obj_in w.sub hc i2
  refine ⟨p1, p2, d1, d2, g1, g2, rfl, rfl, hp1, hp2, a.bg, F, _, w2.sub, w2.bag, by simp only [IsL]; exact ⟨_, _, rfl, i1, _, _, rfl, i2, rfl⟩, mono _ _ _ (fun t ht F' H' v S sub g bg ow nd fr => ?_) q⟩
  obtain ⟨b, rfl, hb⟩ := ht
  have ok3 := w2.called sub g bg ow nd fr
  simp only [Ow, Is] at ow
  obtain ⟨_, rfl⟩ := ow
  exact ⟨⟨b, rfl⟩, k b H' hb ok3.pop1⟩
theorem de_eqO {cl : Nat} {f : SpecF} (xo : XOk a X) (mt : MtAt a X cl "__eq__" f) (mono : ∀ ds (Φ Ψ : T → Prop), (∀ t, Φ t → Ψ t) → f ds Φ → f ds Ψ) (hn : notSet B = true) (h : eqOq a X ρ cl f A B fun b => Φ (.leaf (.bl b))) : DE a X ρ (.Compare A [.Eq] [B] pos) Φ := fun σ H ts vs Q ok k => by
  obtain ⟨C, fa, ns, fd, n, ps, hc, hm, c, me, F, hr, hb⟩ := mt.ex
  refine ⟨_, pe_cmpR (op_eqO F xo.gu me.at_ me.fn hb hr pass0) pe_W pe_W (behind_of hn), ?_⟩
  exact eqO_run (fa := fa) mono hc h ok fun b H' hb ok' => k _ _ H' hb ok'.bl
theorem dt_eqO {cl : Nat} {f : SpecF} (xo : XOk a X) (mt : MtAt a X cl "__eq__" f) (mono : ∀ ds (Φ Ψ : T → Prop), (∀ t, Φ t → Ψ t) → f ds Φ → f ds Ψ) (hn : notSet B = true) (h : eqOq a X ρ cl f A B Ψ) : DT a X ρ (.Compare A [.Eq] [B] pos) Ψ := fun σ H ts vs Q ok k => by
  obtain ⟨C, fa, ns, fd, n, ps, hc, hm, c, me, F, hr, hb⟩ := mt.ex
  refine ⟨_, pt_cmpR (op_eqO F xo.gu me.at_ me.fn hb hr pass0) pe_W pe_W (behind_of hn), ?_⟩
  exact eqO_run (fa := fa) mono hc h ok fun b H' hb ok' => ⟨b, rfl, k b H' hb ok'⟩
/-- the class of that number has this name, and isinstance knows it -/
structure InAt (a : An0) (X : Cx) (cl : Nat) (x : Str) : Prop where
  ex : ∃ (C : Addr) (ns : List Str), a.cls cl = some (C, ns) ∧ X.mg x = some (.ref C) ∧ C8.InsC X.K C
theorem de_isC {cl : Nat} {x : Str} (xo : XOk a X) (it : InAt a X cl x) (hg : Gl X "isinstance") (hm : X.mg "isinstance" = none) (hg2 : Gl X x) (hd : (x == ("__debug__" : Str)) = false) (h1 : notStar e = true)
    (h : DE a X ρ e fun t => (∃ fs, t = .leaf (.obj cl fs)) ∧ Φ (.leaf (.bl true))) : DE a X ρ (.Call (.Name "isinstance" p) [e, .Name x p1] [] pos) Φ := fun σ H ts vs Q ok k => by
  obtain ⟨C, ns, hc, hm2, ic⟩ := it.ex
  refine ⟨_, pe_callB (C8.call_isC ic) hg hm (by decide +kernel) (pa_cons pe_W (pa_cons (pe_glob (v := .ref C) hg2 hm2 rfl hd) pa_nil) (star_of h1)) (by decide) (by decide) (star_of h1) rfl, ?_⟩
  show WE X e σ H fun y H1 => ∃ a dx fs, [y, .ref C] = [.ref a, .ref C] ∧ H1 a = some (.ins C dx fs) ∧ Q (.bl true) H1
  refine h σ H ts vs _ ok fun y t H1 ⟨⟨fs, e1⟩, q⟩ ok1 => ?_
  subst e1
  obtain ⟨F, Sc, Sm, w⟩ := ok1
  obtain ⟨i1, w1⟩ := w.top1
  obtain ⟨p1, d1, g1, rfl, hp1⟩ := obj_in w.sub hc i1
  exact ⟨p1, d1, g1, rfl, hp1, k _ _ H1 q (SOk.bl ⟨F, Sc, Sm, w1⟩)⟩
end
end DL
namespace DL
open PySem PySem.Spec PyProof.Rows L2
section
variable {a : An0} {X : Cx} {ρ : Env} {σ : L2.St} {ts : List T} {vs : List V} {H F : Hp} {Sc Sm : List Addr} {Φ : T → Prop} {pos p : Pos} {e A B C : Expr} {es : List Expr} {K : EnD}
theorem DE.imp {e : Expr} {Φ Ψ : T → Prop} (h : DE a X ρ e Φ) (i : ∀ t, Φ t → Ψ t) : DE a X ρ e Ψ := fun σ H ts vs Q ok k => h σ H ts vs Q ok fun v t H' q ok' => k v t H' (i t q) ok'
/-! ### x or y, as values -/
theorem de_orv (xo : XOk a X) (h : DE a X ρ A fun x => ∃ b, x.dat.truth = some b ∧ if b = true then Φ x else DE a X ρ (.BoolOp .Or (B :: es) pos) Φ) : DE a X ρ (.BoolOp .Or (A :: B :: es) pos) Φ := fun σ H ts vs Q ok k => by
  refine ⟨_, pe_orT pe_W pe_W, ?_⟩
  show WE X A σ H fun x H1 => ∃ k, TruV X.K x H1 k ∧ if k = true then Q x H1 else WE X _ σ H1 Q
  refine h σ H ts vs _ ok fun x tx H1 ⟨b, e, hb⟩ ok1 => ⟨b, ?_, ?_⟩
  · rw [xo.K]
    exact (ok1.top).tru (hb_sub _ _) e
  · cases b with
    | true =>
      rw [if_pos rfl] at hb ⊢
      exact k _ _ _ hb ok1
    | false =>
      rw [if_neg (by decide)] at hb ⊢
      exact hb σ H1 ts vs Q ok1.pop1 k
/-! ### a list in a list, written -/
theorem OwL.focus {a : An} {F H : Hp} : ∀ {us : List T} {ws : List V} {S : List Addr} {j : Nat} {u : T}, OwL a F H us ws S → us[j]? = some u → ∃ x Si Sr, ws[j]? = some x ∧ Ow a F H u x Si ∧ S.Perm (Si ++ Sr) ∧
    ∀ H' u' Si', (∀ p ∈ Sr, ∀ o, H p = some o → H' p = some o) → Ow a F H' u' x Si' → T.nvs us = true → ∃ S', OwL a F H' (us.set j u') ws S' ∧ S'.Perm (Si' ++ Sr)
  | [], _, _, _, _, _, g => by simp at g
  | t :: ts, ws, S, 0, u, h, g => by
    simp only [OwL] at h
    obtain ⟨v, r, S1, S2, rfl, h1, h2, rfl⟩ := h
    simp only [List.getElem?_cons_zero, Option.some.injEq] at g
    subst g
    refine ⟨v, S1, S2, rfl, h1, List.Perm.refl _, fun H' u' Si' k hu n => ⟨Si' ++ S2, ?_, List.Perm.refl _⟩⟩
    simp only [T.nvs, Bool.and_eq_true] at n
    simp only [List.set_cons_zero, OwL]
    exact ⟨v, r, Si', S2, rfl, hu, h2.mono' (Sub.refl F) n.2 k, rfl⟩
  | t :: ts, ws, S, j + 1, u, h, g => by
    simp only [OwL] at h
    obtain ⟨v, r, S1, S2, rfl, h1, h2, rfl⟩ := h
    simp only [List.getElem?_cons_succ] at g
    obtain ⟨x, Si, Sr, e, h3, hp, go⟩ := OwL.focus h2 g
    refine ⟨x, Si, S1 ++ Sr, by simpa using e, h3, ?_, fun H' u' Si' k hu n => ?_⟩
    · exact (List.Perm.append_left S1 hp).trans (by rw [← List.append_assoc, ← List.append_assoc]; exact List.Perm.append_right _ List.perm_append_comm)
    · simp only [T.nvs, Bool.and_eq_true] at n
      obtain ⟨S', h4, p4⟩ := go H' u' Si' (fun p hp => k p (List.mem_append_right _ hp)) hu n.2
      refine ⟨S1 ++ S', ?_, (List.Perm.append_left S1 p4).trans (by rw [← List.append_assoc, ← List.append_assoc]; exact List.Perm.append_right _ List.perm_append_comm)⟩
      simp only [List.set_cons_succ, OwL]
      exact ⟨v, r, S1, S', rfl, h1.mono' (Sub.refl F) n.1 fun p hp => k p (List.mem_append_left _ hp), h4, rfl⟩
theorem SW.rewr2 {i j : Nat} {us us1 : List T} (w : SW a ρ σ [] [] H F Sc Sm) (hW : a.W = []) (e : ρ.at i = some (.lst us)) (ej : us[j]? = some (.lst us1)) :
    ∃ l ws l1 ws1, σ[i]? = some (some (.ref l)) ∧ H l = some (.lst ws) ∧ ws[j]? = some (.ref l1) ∧ H l1 = some (.lst ws1) ∧ ws1.length = us1.length ∧
    ∀ k r z, k < us1.length → Is a.toAn F r z → SOk a (ρ.put i (some (.lst (us.set j (.lst (us1.set k (.leaf r))))))) σ [] [] (L2.upd H l1 (.lst (ws1.set k z))) := by
  obtain ⟨x, Si, Sr, e1, h1, hp, go⟩ := w.cells.focus e
  simp only [Ow] at h1
  obtain ⟨nn, l, ws, Sa, rfl, hl, ho, rfl⟩ := h1
  obtain ⟨x1, Sj, Sq, e2, h2, hp2, go2⟩ := OwL.focus ho ej
  simp only [Ow] at h2
  obtain ⟨nn1, l1, ws1, Sb, rfl, hl1, ho1, rfl⟩ := h2
  have nd : ((l :: Sa ++ Sr) ++ Sm).Nodup := ((List.Perm.append_right Sm hp).nodup_iff).mp w.nd
  have mem : ∀ p, p ∈ l :: Sa ++ Sr → p ∈ Sc := fun p h => hp.mem_iff.mpr h
  obtain ⟨n1, n2, n3⟩ := List.nodup_append.mp nd
  obtain ⟨m1, m2, m3⟩ := List.nodup_append.mp n1
  obtain ⟨k1, k2⟩ := List.nodup_cons.mp m1
  have k3 : (l1 :: Sb ++ Sq).Nodup := hp2.nodup_iff.mp k2
  obtain ⟨q1, q2, q3⟩ := List.nodup_append.mp k3
  obtain ⟨q4, q5⟩ := List.nodup_cons.mp q1
  have inSa : ∀ p, p ∈ l1 :: Sb ++ Sq → p ∈ Sa := fun p h => hp2.mem_iff.mpr h
  refine ⟨l, ws, l1, ws1, e1, hl, e2, hl1, ho1.length, fun k r z hk hr => ?_⟩
  obtain ⟨S', h3, nd3, sub3⟩ := OwL.set (Ow.leaf (H := H) hr) (j := k) ho1 hk (by simpa using q5)
  have sub3' : ∀ p ∈ S', p ∈ Sb := fun p hp => by simpa using sub3 p hp
  have ll1 : l ≠ l1 := fun z => k1 (by rw [z]; exact inSa l1 (List.mem_append_left _ List.mem_cons_self))
  have keep : ∀ {S : List Addr}, l1 ∉ S → ∀ p ∈ S, ∀ o, H p = some o → L2.upd H l1 (.lst (ws1.set k z)) p = some o := fun {S} h p hp o e => by
    rw [upd_ne (fun y => h (by rw [← y]; exact hp))]
    exact e
  have nv3 : T.nvs (us1.set k (.leaf r)) = true := nvs_set (t := .leaf r) rfl k nn1
  have nS' : l1 ∉ S' := fun y => q4 (sub3' _ y)
  obtain ⟨S2, h4, p4⟩ := go2 (L2.upd H l1 (.lst (ws1.set k z))) (.lst (us1.set k (.leaf r))) (l1 :: S') (keep fun y => q3 l1 List.mem_cons_self l1 y rfl) (by
    simp only [Ow]
    exact ⟨nv3, l1, ws1.set k z, S', rfl, upd_same, h3.mono' (Sub.refl F) nv3 (keep nS'), rfl⟩) nn
  have in2 : ∀ p ∈ S2, p ∈ Sa := fun p hp => by
    rcases List.mem_append.mp (p4.mem_iff.mp hp) with y | y
    · rcases List.mem_cons.mp y with rfl | y
      · exact inSa _ (List.mem_append_left _ List.mem_cons_self)
      · exact inSa _ (List.mem_append_left _ (List.mem_cons_of_mem _ (sub3' p y)))
    · exact inSa _ (List.mem_append_right _ y)
  have nvu : T.nvs (us.set j (.lst (us1.set k (.leaf r)))) = true := nvs_set (t := .lst (us1.set k (.leaf r))) (by simpa only [T.nv] using nv3) j nn
  have l1Sr : l1 ∉ Sr := fun y => m3 l1 (List.mem_cons_of_mem _ (inSa _ (List.mem_append_left _ List.mem_cons_self))) l1 y rfl
  obtain ⟨S5, h5, p5⟩ := go F (L2.upd H l1 (.lst (ws1.set k z))) (.lst (us.set j (.lst (us1.set k (.leaf r))))) (l :: S2) (Sub.refl F) (keep l1Sr) (by
    simp only [Ow]
    exact ⟨nvu, l, ws, S2, rfl, by rw [upd_ne ll1]; exact hl, h4, rfl⟩) (by simpa only [T.nv] using nvu)
  have nd2 : S2.Nodup := p4.nodup_iff.mpr (List.nodup_append.mpr ⟨List.nodup_cons.mpr ⟨nS', nd3⟩, q2, fun p hp q hq y => by
    subst y
    rcases List.mem_cons.mp hp with rfl | hp
    · exact q3 p List.mem_cons_self p hq rfl
    · exact q3 p (List.mem_cons_of_mem _ (sub3' p hp)) p hq rfl⟩)
  have in5 : ∀ p ∈ S5, p ∈ l :: Sa ++ Sr := fun p hp => by
    rcases List.mem_append.mp (p5.mem_iff.mp hp) with y | y
    · rcases List.mem_cons.mp y with rfl | y
      · exact List.mem_append_left _ List.mem_cons_self
      · exact List.mem_append_left _ (List.mem_cons_of_mem _ (in2 p y))
    · exact List.mem_append_right _ y
  refine ⟨F, S5, [], w.upd (Sm' := []) (List.mem_append_left _ (mem _ (List.mem_append_left _ (List.mem_cons_of_mem _ (inSa _ (List.mem_append_left _ List.mem_cons_self)))))) (by rw [hW]; exact fun _ h => nomatch h) h5 (by simp [OwL]) ?_ (fun p hp' => ?_) (by rw [Env.put_length]; exact w.len)⟩
  · rw [List.append_nil]
    exact p5.nodup_iff.mpr (List.nodup_append.mpr ⟨List.nodup_cons.mpr ⟨fun y => k1 (in2 _ y), nd2⟩, m2, fun p hp q hq y => by
      subst y
      rcases List.mem_cons.mp hp with rfl | hp
      · exact m3 p List.mem_cons_self p hq rfl
      · exact m3 p (List.mem_cons_of_mem _ (in2 p hp)) p hq rfl⟩)
  · rw [List.append_nil] at hp'
    exact List.mem_append_left _ (mem p (in5 p hp'))
theorem ds_augix2 {o : Aop} {i : Nat} {x : Str} {us : List T} {xp s1 s2 : Pos} (xo : XOk a X) (hW : a.W = []) (hN : X.N[i]? = some x) (hv : Vis X.env.scope x) (hd : (x == ("__debug__" : Str)) = false) (hc : (x == ("__classdict__" : Str)) = false)
    (hA : notSlice A = true) (hB : notSlice B = true) (hat : ρ.at i = some (.lst us))
    (h : DE a X ρ A fun y1 => ∃ n1 j1 ws, y1.dat = .int n1 ∧ ixN us.length n1 = some j1 ∧ us[j1]? = some (.lst ws) ∧ ∀ H F, DE (a.on H F) X ρ B fun y2 => ∃ n2 j2 d, y2.dat = .int n2 ∧ ixN ws.length n2 = some j2 ∧ ws[j2]? = some (.leaf d) ∧
      DE (a.on H F) X ρ e fun y3 => augD o d y3.dat fun r => K.nx (ρ.put i (some (.lst (us.set j1 (.lst (ws.set j2 (.leaf r)))))))) :
    DS a X ρ (.AugAssign (.Subscript (.Subscript (.Name x xp) A s1) B s2) o.op e pos) K := fun σ H D ok m => by
  refine ⟨_, ps_augS (pe_ix ix_seq (pvar hN hv hd hc) pe_W (ix_plain hA)) pe_W get_list pe_W (ip_rAug o) set_list (fun ov iv new => ?_), ?_⟩
  · cases B with
    | Slice l u st p =>
      cases st with
      | none => simp [notSlice] at hB
      | some _ => rfl
    | _ => rfl
  show tVar i σ H fun o0 H0 => WE X A σ H0 fun b0 H1 => rIx X.K o0 b0 H1 fun o1 H1' => WE X B σ H1' fun b H2 => rGetL X.K o1 b H2 fun x1 H3 => WE X e σ H3 fun y H4 => rAug o x1 y H4 fun z1 H5 => rSetL o1 b z1 H5 fun H6 => D.nx σ H6
  obtain ⟨F, Sc, Sm, w⟩ := ok
  obtain ⟨v, S1, e1, h3, _⟩ := w.cells.get hat
  simp only [Ow] at h3
  obtain ⟨_, l, ws0, _, rfl, hl0, _⟩ := h3
  refine ⟨_, e1, ?_⟩
  refine h σ H [] [] _ ⟨F, Sc, Sm, w⟩ fun b tb H2 ⟨n1, j1, ws, eb, hj, hws, hB'⟩ ok2 => ?_
  have ib := ok2.top
  rw [eb] at ib
  rw [ib.int, xo.K]
  obtain ⟨F2, Sc2, Sm2, w2⟩ := ok2.pop1
  obtain ⟨v2, S2, e2, h4, k2, _⟩ := w2.cells.get hat
  rw [e1] at e2
  cases e2
  simp only [Ow] at h4
  obtain ⟨_, l', ws2, S3, el, hl2, ho2, rfl⟩ := h4
  cases el
  obtain ⟨x1, S4, e4, h5, _, k4⟩ := ho2.get hws
  simp only [Ow] at h5
  obtain ⟨_, l1, ws1, S5, rfl, hl1, ol1, rfl⟩ := h5
  have in1 : l ∈ Sc2 := k2 l List.mem_cons_self
  have in2 : l1 ∈ Sc2 := k2 l1 (List.mem_cons_of_mem _ (k4 l1 List.mem_cons_self))
  have nb : ∀ q ∈ Sc2, hb a.toAn H2 q = H2 q := fun q hq => by
    unfold hb
    rw [if_neg (w2.fr q (List.mem_append_left _ hq)).2.1]
  have b1 : hb a.toAn H2 l = some (.lst ws2) := by rw [nb l in1]; exact hl2
  have b2 : hb a.toAn H2 l1 = some (.lst ws1) := by rw [nb l1 in2]; exact hl1
  refine .inl ⟨l, ws2, n1, .ref l1, rfl, rfl, .inl (.inl hl2), atI_of (by rw [ho2.length]; exact hj) e4, ?_⟩
  refine hB' H2 F2 σ H2 [] [] _ ⟨F2, Sc2, Sm2, w2.on (Sub.refl F2)⟩ fun bb tb2 H3 ⟨n2, j2, d, hb2, hj2, hd2, he⟩ ok3 => ?_
  have ib2 := ok3.top
  rw [hb2] at ib2
  rw [ib2.int]
  obtain ⟨F3, Sc3, Sm3, w3⟩ := ok3.pop1
  have s3 : Sub (hb a.toAn H2) (hb a.toAn H3) := w3.wit H2 List.mem_cons_self
  obtain ⟨x6, S6, e6, h6, _⟩ := ol1.get hd2
  refine ⟨l1, ws1, n2, x6, rfl, rfl, .inl (.inl (hb_sub _ _ _ _ (s3 _ _ b2))), atI_of (by rw [ol1.length]; exact hj2) e6, ?_⟩
  refine he σ H3 [] [] _ ⟨F3, Sc3, Sm3, w3⟩ fun y3 ty3 H4 hy3 ok4 => ?_
  have i2 := ok4.top
  obtain ⟨F5, Sc5, Sm5, w5⟩ := ok4.pop1
  simp only [Ow] at h6
  have fl : d.flat = true := by
    cases o with
    | add =>
      generalize ty3.dat = dy at hy3
      match d, dy, hy3 with
      | .int _, .int _, _ => rfl
      | .str _, .str _, _ => rfl
    | sub =>
      generalize ty3.dat = dy at hy3
      match d, dy, hy3 with
      | .int _, .int _, _ => rfl
  have s5 : Sub (hb a.toAn H2) (hb a.toAn H4) := w5.wit H2 List.mem_cons_self
  refine aug_ok (h6.2.flat fl) i2 hy3 fun r z1 hr fr ir => ?_
  have w6 := w5.off
  obtain ⟨lx, wx, l1x, ws1x, x1, x2, x3, x4, x5, go⟩ := w6.rewr2 hW hat hws
  rw [e1] at x1
  cases x1
  have y1 := hb_sub _ _ _ _ (s5 _ _ b1)
  rw [x2] at y1
  cases y1
  rw [e4] at x3
  cases x3
  exact ⟨l1, ws1x, n2, j2, rfl, rfl, x4, by rw [x5]; exact hj2, m.1 _ σ _ hr (go j2 r z1 (ixN_seq hj2).2.1 (ir.flat fr))⟩
/-! ### x.extend(e) -/
theorem nvs_app : ∀ {us vs : List T}, T.nvs us = true → T.nvs vs = true → T.nvs (us ++ vs) = true
  | [], _, _, h => h
  | u :: us, vs, h1, h2 => by
    simp only [T.nvs, Bool.and_eq_true, List.cons_append] at h1 ⊢
    exact ⟨h1.1, nvs_app h1.2 h2⟩
theorem ds_extend {i : Nat} {x : Str} {us : List T} {xp ap cp : Pos} (xo : XOk a X) (hW : a.W = []) (hN : X.N[i]? = some x) (hv : Vis X.env.scope x) (hd : (x == ("__debug__" : Str)) = false) (hc : (x == ("__classdict__" : Str)) = false)
    (hl : (ap.endLine == cp.line) = true) (ns : notStar e = true) (hat : ρ.at i = some (.lst us))
    (h : DE a X ρ e fun t => ∃ us2, t.its = some us2 ∧ us.length + us2.length ≤ 100000 ∧ K.nx (ρ.put i (some (.lst (us ++ us2))))) : DS a X ρ (.Expr (.Call (.Attribute (.Name x xp) "extend" ap) [e] [] cp) pos) K := fun σ H D ok m => by
  refine ⟨_, ps_expr (pe_bm PySem.F.plainAttrs_list PySem.F.slot_list_extend PySem.F.type_list_extend mt_extend (pvar hN hv hd hc) (pa_W (e := [e])) rfl ?_ hl (star_of ns) rfl) rfl, ?_⟩
  · rw [star_of ns]
    rfl
  show tVar i σ H fun x H1 => tyV X.K "list" x H1 ∧ WA X [e] σ H1 fun xs H2 => rExtend x xs H2 fun _ H3 => D.nx σ H3
  obtain ⟨F, Sc, Sm, w⟩ := ok
  obtain ⟨v, S1, e1, h1, _⟩ := w.cells.get hat
  simp only [Ow] at h1
  obtain ⟨_, l, ws0, _, rfl, hl0, _⟩ := h1
  refine ⟨_, e1, .inl ⟨rfl, _, .inl (.inl hl0)⟩, ?_⟩
  have dv : DV a X ρ [e] fun us' => ∃ u us2, us' = [u] ∧ u.its = some us2 ∧ us.length + us2.length ≤ 100000 ∧ K.nx (ρ.put i (some (.lst (us ++ us2)))) := dv_cons ns (h.imp fun t q => q.elim fun us2 q => dv_nil ⟨t, us2, rfl, q⟩)
  refine dv σ H [] [] _ ⟨F, Sc, Sm, w⟩ fun ws us' H2 ⟨u, us2, hu, hit, hz, hk⟩ l2 ok2 => ?_
  subst hu
  obtain ⟨y, rfl⟩ : ∃ y, ws = [y] := by
    match ws, l2 with
    | [y], _ => exact ⟨y, rfl⟩
  obtain ⟨F2, Sc2, Sm2, w2⟩ := ok2
  obtain ⟨q, zs, rfl, hq, ⟨l3, n3⟩, Sm3, w3⟩ := w2.opens hit
  obtain ⟨l', ws, Sa, e2, hl2, ho, nn, nd, go⟩ := w3.rewr hW hat
  rw [e1] at e2
  cases e2
  have ht : OwL a.toAn F2 H2 us2 zs Sm3 := by
    have := w3.tmps
    simpa using this
  refine ⟨l, q, ws, zs, rfl, rfl, hl2, hq, by rw [ho.length, ← l3]; exact small hz, ?_⟩
  exact m.1 _ σ _ hk (go (us ++ us2) (ws ++ zs) (Sa ++ Sm3) (OwL.join ho ht) (nvs_app nn (ht.nvs n3)) nd fun p hp => hp)
end
end DL
namespace SetL
open PySem PySem.Spec PyProof.Rows L2
/-! ### set(xs), xs a list of ints -/
/-- a set that is new -/
abbrev fresh0 (w : World) : Obj := { cls := .type "set", dict := none, data := .set #[] 0 (.fresh 0 0 (!w.params.followText "set-order")) }
section
variable {P : Program} {w : World} {A : Around} {E : Value → Shared → Prop} {s : Shared}
theorem set_of_list {l : Addr} {its : Array Value} (ns : List Int) {Q : Value → Shared → Prop} (nh : A.handled = none) (L : s.heap.IsList l its) (ii : IntsAre its.toList ns) (sb : ns.length + 1 < scanBound)
    (done : ∀ (g : Heap) (tk c : Nat), SetR w g s.heap.objs.size (fun j => decide (j ∈ ns)) c → c ≤ ns.length → (∀ b o, s.heap.get? b = some o → g.get? b = some o) → Q (.ref s.heap.objs.size) { s with heap := g, toks := tk }) :
    wpAny (model P w) A (call (.type "set") [.ref l]) Q E s := by
  have sz : its.size = ns.length := by simpa using IntsAre.length ii
  have CS := F.called_set
  obtain ⟨_, _, mro⟩ := CS.mro
  have f1 := CS.made; have f2 := CS.sub; have f3 := CS.notType; have f4 := CS.canCreate; have f5 := F.typeCall_set_1 (.ref l)
  refine wpAny_call (codeAny_of_tree (wpAny_pure ⟨Code.quiet_builtin _ (by decide +kernel), codeAny_builtin F.entry_type_call ?_⟩))
  rw [Around.under_plain (weight_type_call_type "set" [.ref l] []) rfl]
  repeat (any_goals (first | assumption | wp_step))
  refine codeAny_mono (code_set_led1 (.ref l) (E := E) (Q₁ := fun u z => u = .ref s.heap.objs.size ∧ z = { s with heap := s.heap.push (fresh0 w) }) ⟨rfl, rfl⟩) fun r z hz => ?_
  rcases r with _ | (_ | _ | _ | u)
  · exact hz
  · exact hz.elim
  · exact hz.elim
  · exact hz.elim
  · obtain ⟨rfl, rfl⟩ := hz
    have at0 : (s.heap.push (fresh0 w)).get? s.heap.objs.size = some (fresh0 w) := Heap.get?_push_size _ rfl
    have ty0 : Shared.TypeIs { s with heap := s.heap.push (fresh0 w) } (.ref s.heap.objs.size) "set" := ⟨_, at0, rfl⟩
    have f6 := CS.init.lookup
    have f7 := CS.init.bind (.ref s.heap.objs.size)
    repeat (any_goals (first | assumption | wp_step))
    refine codeAny_mono (codeAny_call_builtin (R := wants (fun r z => r = .none ∧ ∃ g tk c, z = { s with heap := g, toks := tk } ∧ SetR w g s.heap.objs.size (fun j => decide (j ∈ ns)) c ∧ c ≤ ns.length ∧ ∀ b o, s.heap.get? b = some o → g.get? b = some o) E) CS.init.plain F.entry_set_init (check_set_init_1 ty0 ?_)) fun r z hz => ?_
    · obtain ⟨⟨cl, dd, da, sl⟩, at1, c1, nl, d1⟩ := L
      simp only at c1 d1
      subst c1 d1
      have at2 : (s.heap.push (fresh0 w)).get? l = some { cls := .type "list", dict := dd, data := .seq its nl, slots := sl } := Heap.get?_push_of_some _ at1
      have L1 : (s.heap.push (fresh0 w)).IsList l its := ⟨_, at2, rfl, nl, rfl⟩
      have g1 := F.sub_list_set
      have g2 := F.sub_list_frozenset
      have g3 : (Value.type "list" == Value.type "dict") = false := by decide
      unfold Builtin.«set.__init__» noKeywords Builtin.Frozenset.updateFrom
      generalize hPI : pyIter = PI
      wp_walk
      subst hPI
      refine wpAny_pyIter_list L1 (wpAny_bind (wpAny_runValue ?_))
      have ll : l < s.heap.objs.size := Heap.lt_size at1
      have zz : (s.heap.push (fresh0 w)).objs.size = s.heap.objs.size + 1 := Heap.size_push ..
      have nI : l ≠ (s.heap.push (fresh0 w)).objs.size := by rw [zz]; exact Nat.ne_of_lt (Nat.lt_succ_of_lt ll)
      have nS : s.heap.objs.size ∉ [(s.heap.push (fresh0 w)).objs.size, l] := by
        rw [zz]
        simp only [List.mem_cons, List.not_mem_nil, or_false, not_or]
        exact ⟨Nat.ne_of_lt (Nat.lt_succ_self _), Nat.ne_of_gt ll⟩
      have val : ∀ (i : Nat) (v : Value), its[i]? = some v → ∃ k t, ns[i]? = some k ∧ v = .int k t := fun i v hv => by
        obtain ⟨hi, _⟩ := Array.getElem?_eq_some_iff.mp hv
        obtain ⟨t, e⟩ := IntsAre.int_at ii i v (by rw [Array.getElem?_toList]; exact hv)
        have hj : i < ns.length := by omega
        exact ⟨ns[i], t, List.getElem?_eq_getElem hj, by rw [e]; simp [hj]⟩
      have at3 : ((s.heap.push (fresh0 w)).push { cls := .type "list_iterator", data := .fields #[.ref l, .int 0 0] }).get? s.heap.objs.size = some (fresh0 w) := Heap.get?_push_of_some _ at0
      refine set_update_ints ((Walks.list (by simp [nh]) _ l nI its).toS) s.heap.objs.size nS ns sz sb val (its.size - 0) 0 _ (by omega) (Nat.zero_le _) ⟨⟨_, Heap.get?_push_size _ rfl, rfl, rfl⟩, L1.push _⟩ ⟨0, Nat.le_refl 0, setR_new_at at3⟩ fun z c mv hc R => ?_
      obtain ⟨g, gg, dr, tk, os⟩ := z
      have k1 : gg = s.gens := mv.gens
      have k2 : dr = s.drawn := mv.drawn
      have k3 : os = s.os := mv.os
      subst k1 k2 k3
      refine wpAny_pure ?_
      show wpAny _ _ (ret Value.none) _ _ _
      refine wpAny_pure ⟨rfl, g, tk, c, rfl, R, by omega, fun b o hb => ?_⟩
      have lb := Heap.lt_size hb
      exact mv.heap b o (by rw [zz]; simp only [List.mem_cons, List.not_mem_nil, or_false, not_or]; exact ⟨Nat.ne_of_lt lb, Nat.ne_of_lt (Nat.lt_succ_of_lt lb)⟩) (Heap.get?_push_of_some _ (Heap.get?_push_of_some _ hb))
    · rcases r with _ | (_ | _ | _ | u)
      · exact hz
      · exact hz.elim
      · exact hz.elim
      · exact hz.elim
      · obtain ⟨rfl, g, tk, c, rfl, R, hc, k⟩ := hz
        repeat (any_goals (first | assumption | wp_step))
        exact done _ _ _ R hc k
end
def rSetL (K : PySem.W.Frag) (w : World) : List V → Hp → VK → Prop := fun vs H Q => ∃ (l : Addr) (ns : List Int), vs = [V.ref l] ∧ SqL K H l (ns.map V.int) ∧ ns.length ≤ 1000 ∧ ∀ p c, H p = none → c ≤ ns.length → Q (.ref p) (upd H p (SetO w p (fun j => decide (j ∈ ns)) c))
theorem cr_setL {X : Cx} (hc : X.calm = true) : CallR X (.type "set") (rSetL X.K X.w) := by
  intro pins s σ H vs us Q I r h
  obtain ⟨l, ns, rfl, hs, hl, q⟩ := h
  obtain ⟨its, rv, L, _⟩ := I.list hs
  rw [Vals.ref1 r]
  refine set_of_list ns (I.ok.hd hc) L.isList (by simpa using rv.ints) (by unfold scanBound; omega) fun g tk c R hc' k => ?_
  have hn := I.hok.fresh (Nat.le_refl s.heap.objs.size)
  exact ⟨.ref _, _, I.laid (t' := tk) k (Nat.le_refl _) (setO_new R), rfl, q _ c hn hc'⟩
end SetL
namespace DL
open PySem PySem.Spec PyProof.Rows L2
section
variable {a : An0} {X : Cx} {ρ : Env} {Φ : T → Prop} {pos p p2 q : Pos} {A : Expr}
/-- sorted(set(xs)) -/
def srtS (t : T) (Φ : T → Prop) : Prop := ∃ ns : List Int, t.dat = .lst (ns.map .int) ∧ ns.length < 64 ∧ ∀ ns' : List Int, ns'.Pairwise (· < ·) → (∀ k, k ∈ ns' ↔ k ∈ ns) → Φ (.lst (ns'.map fun n => .leaf (.int n)))
theorem de_srtS (xo : XOk a X) (hg : Gl X "sorted") (hm : X.mg "sorted" = none) (hg2 : Gl X "set") (hm2 : X.mg "set" = none) (hs : notStar A = true) (h : DE a X ρ A fun t => srtS t Φ) :
    DE a X ρ (.Call (.Name "sorted" p) [.Call (.Name "set" p2) [A] [] q] [] pos) Φ := fun σ H ts vs Q ok k => by
  refine ⟨_, pe_callB (cr_sortedSet xo.calm) hg hm (by decide +kernel) (pa_cons (pe_callTy (SetL.cr_setL xo.calm) hg2 hm2 (by decide +kernel) (pa_W (e := [A])) (by decide) (by decide) (star_of hs) (back_of (by rfl))) pa_nil) (by decide) (by decide) rfl rfl, ?_⟩
  show WA X [A] σ H fun us H1 => SetL.rSetL X.K X.w us H1 fun v H2 => rSortedSet X.w [v] H2 Q
  have dv : DV a X ρ [A] fun us => ∃ t, us = [t] ∧ srtS t Φ := dv_cons hs (h.imp fun t q => dv_nil ⟨t, rfl, q⟩)
  refine dv σ H ts vs _ ok fun ws us H1 ⟨t, hu, ns, e, hl, hk⟩ lw ok1 => ?_
  subst hu
  obtain ⟨v, rfl⟩ : ∃ v, ws = [v] := by
    match ws, lw with
    | [v], _ => exact ⟨v, rfl⟩
  have i1 := ok1.top
  rw [e] at i1
  obtain ⟨l, zs, rfl, hz, il⟩ := i1.lstE
  obtain rfl := IsL.ints.mp il
  refine ⟨l, ns, rfl, by rw [xo.K]; exact .inl (.inl (hb_sub _ _ _ _ hz)), by omega, fun p c hp hc => ⟨p, _, c, rfl, upd_same, by omega, fun ns' p' h1 h2 h3 hp' => ?_⟩⟩
  obtain ⟨F, Sc, Sm, w⟩ := ok1.pop1
  have w1 := w.laid (o := SetO X.w p (fun j => decide (j ∈ ns)) c) hp
  refine k _ _ _ (hk ns' h1 fun k => by rw [h2]; simp) ?_
  have em : (ns'.map fun n => T.leaf (.int n)) = (ns'.map D.int).map .leaf := by simp
  rw [em]
  have w2 : SW a ρ σ ((ns'.map D.int).map .leaf ++ ts) (ns'.map V.int ++ vs) _ F Sc Sm :=
    w1.tmp (Sn := [] ++ Sm) (OwL.join (OwL.leafs (IsL.ints.mpr rfl)) w1.tmps) (List.nodup_append.mp w1.nd).2.1 fun _ h => h
  obtain ⟨Sm', w3⟩ := w2.mkLst (by simp) (nvw_leaf _) hp'
  exact ⟨F, Sc, Sm', w3⟩
end
end DL
namespace DL
open PySem PySem.Spec PyProof.Rows L2
section
variable {a : An0} {X : Cx} {ρ : Env} {σ : L2.St} {ts : List T} {vs : List V} {H F : Hp} {Sc Sm : List Addr} {Φ : T → Prop} {pos p : Pos} {e A B C : Expr} {es : List Expr} {K : EnD}
/-! ### a, b, c = x, y, z from the stack -/
def par3Ok (c : Ct) (x y z : Str) (px py pz : Pos) (A B C : Expr) : Bool :=
  lcl c x && lcl c y && lcl c z && py.line == px.line && pz.line == px.line && !isStar A && !isStar B && !isStar C && !(x == y) && !(x == z) && !(y == z) && !([A, B, C].all (foldedForSure 8)) && !([A, B, C].all (constantsAlone 8))
theorem par3_eq {c : Ct} {x y z : Str} {px py pz pt pt2 : Pos} {kt k2 : Nat} (co : COk c X) (hk : X.env.scope.kind = .function) (h : par3Ok c x y z px py pz A B C = true) :
    swappedStores [.Tuple [.Name x px, .Name y py, .Name z pz] kt pt] (.Tuple [A, B, C] k2 pt2) X.env = pure (some [x, y, z]) := by
  unfold par3Ok at h
  simp only [Bool.and_eq_true, Bool.not_eq_true'] at h
  obtain ⟨⟨⟨⟨⟨⟨⟨⟨⟨⟨⟨⟨h1, h2⟩, h3⟩, h4⟩, h5⟩, h6⟩, h7⟩, h8⟩, h9⟩, h10⟩, h11⟩, h12⟩, h13⟩ := h
  have hb : X.env.blockKind = .function := by unfold PySem.Env.blockKind; rw [hk]; rfl
  have hx : X.env.kindOf x = some .local := lcl_of co h1
  have hy : X.env.kindOf y = some .local := lcl_of co h2
  have hz : X.env.kindOf z = some .local := lcl_of co h3
  have e : ∀ e : Expr, (match e with | .Starred .. => true | _ => false) = isStar e := fun e => by cases e <;> rfl
  have hs : ([A, B, C].any fun | .Starred .. => true | _ => false) = false := by
    simp only [List.any_cons, List.any_nil, Bool.or_false]
    rw [e, e, e, h6, h7, h8]
    rfl
  have n1 : (y == x) = false := by
    have : ¬ y = x := fun q => by rw [q] at h9; simp at h9
    simpa using this
  have n2 : (z == x) = false := by
    have : ¬ z = x := fun q => by rw [q] at h10; simp at h10
    simpa using this
  have n3 : (z == y) = false := by
    have : ¬ z = y := fun q => by rw [q] at h11; simp at h11
    simpa using this
  have len : [x, y, z].eraseDups.length = 3 := by simp [List.eraseDups_cons, n1, n2, n3]
  unfold swappedStores
  simp only [hb, hx, hy, hz, hs, h12, h13, Expr.pos, List.head?_cons, Option.map_some, Option.getD_some, List.filterMap_cons, List.filterMap_nil, List.length_cons, List.length_nil]
  simp [h4, h5]
  rw [if_neg (fun q => q.elim (fun q => by have q2 : isStar A = true := q; rw [h6] at q2; cases q2) fun q => q.elim (fun q => by have q2 : isStar B = true := q; rw [h7] at q2; cases q2) fun q => by have q2 : isStar C = true := q; rw [h8] at q2; cases q2), if_pos len]
theorem ds_par3 {c : Ct} {i j l : Nat} {x y z : Str} {px py pz pt pt2 : Pos} {kt k2 : Nat} (xo : XOk a X) (co : COk c X) (hk : X.env.scope.kind = .function) (hx : nameIs c i x = true) (hy : nameIs c j y = true) (hz : nameIs c l z = true) (hij : i ≠ j) (hil : i ≠ l) (hjl : j ≠ l) (hp : par3Ok c x y z px py pz A B C = true)
    (hi : i < ρ.length) (hj : j < ρ.length) (hl : l < ρ.length) (h : DA a X ρ [A, B, C] fun us => ∃ u v w, us = [u, v, w] ∧ K.nx (((ρ.put i (some u)).put j (some v)).put l (some w))) :
    DS a X ρ (.Assign [.Tuple [.Name x px, .Name y py, .Name z pz] kt pt] (.Tuple [A, B, C] k2 pt2) pos) K := fun σ H D ok m => by
  have hp' := hp
  unfold par3Ok at hp'
  simp only [Bool.and_eq_true] at hp'
  refine ⟨_, ps_par3 xo.calm xo.nd (nameIs_of co hx) (nameIs_of co hy) (nameIs_of co hz) hij hil hjl (lcl_of co hp'.1.1.1.1.1.1.1.1.1.1.1.1) (lcl_of co hp'.1.1.1.1.1.1.1.1.1.1.1.2) (lcl_of co hp'.1.1.1.1.1.1.1.1.1.1.2) pa_W (par3_eq co hk hp), ?_⟩
  show WA X [A, B, C] σ H fun vs H1 => ∃ u v w, vs = [u, v, w] ∧ D.nx (((σ.set i (some u)).set j (some v)).set l (some w)) H1
  refine h σ H [] [] _ ok fun ws us H1 ⟨u, v, w, e, hk⟩ nu ln ok1 => ?_
  subst e
  obtain ⟨y1, y2, y3, rfl⟩ : ∃ y1 y2 y3, ws = [y1, y2, y3] := by
    match ws, ln with
    | [y1, y2, y3], _ => exact ⟨y1, y2, y3, rfl⟩
  simp only [List.all_cons, List.all_nil, Bool.and_true, Bool.and_eq_true] at nu
  obtain ⟨F, Sc, Sm, w1⟩ := ok1
  obtain ⟨S, h3, _⟩ := w1.cut
  obtain ⟨Sc2, Sm2, w2⟩ := SW.put (ts := [v, w]) (vs := [y2, y3]) w1 hi (h3.nv nu.1)
  obtain ⟨S2, h4, _⟩ := w2.cut
  obtain ⟨Sc3, Sm3, w3⟩ := SW.put (ts := [w]) (vs := [y3]) w2 (by rw [Env.put_length]; exact hj) (h4.nv nu.2.1)
  obtain ⟨S3, h5, _⟩ := w3.cut
  exact ⟨y1, y2, y3, rfl, m.1 _ _ _ hk (SOk.put (by rw [Env.put_length, Env.put_length]; exact hl) (h5.nv nu.2.2) ⟨F, Sc3, Sm3, w3⟩)⟩
end
end DL
namespace DL
open PySem PySem.Spec PyProof.Rows L2

/-! ### expressions in short, and what they give -/
inductive I where
  | nm (i : Nat) | ow (i : Nat) | gl (k : Nat)
  | int (n : Int) | str (s : Str) | bl (b : Bool) | non
  | nil | cons (e r : I)
  | tup (es : I) | lst (es : I)
  | bin (o : Bop) (x y : I) | neg (x : I) | not (x : I)
  | cmp (o : Cop) (x y : I) | chn (o o' : Cop) (x y z : I)
  | and (x r : I) | or (x r : I) | one (x : I) | val (x : I)
  | orv (x r : I) | srtS (x : I)
  | ife (t x y : I)
  | ix (x y : I) | sl (x lo hi : I) | nop | prt (x : I)
  | call (k : Nat) (es : I)
  | blt (f : Blt) (es : I)
  | lc (own : List Nat) (g : Tg) (src cond elt : I)
  | eqO (k cl : Nat) (x y : I) | isC (cl : Nat) (x : I)
  | fld (cl i : Nat) (x : I) | mth (k cl : Nat) (x es : I) | mt0 (k cl : Nat) (x : I) | prp (k cl : Nat) (x : I) | new (k : Nat) (es : I)
  | isi (ty : Ty) (x : I) | lr1 (x : I) | lr2 (x y : I)
  | sq (x : I) | rng (es : I) | zip (es : I) | enm (es : I)
structure Sg where
  z : Bool
  fs : List SpecF
  gs : List D
  ms : List SpecF := []
  ps : List SpecF := []
  nw : List SpecF := []
mutual
/-- the value -/
def w (S : Sg) : I → Env → (T → Prop) → Prop
  | .nm i, ρ, Φ => match ρ.at i with
    | some (.leaf d) => Φ (.leaf d)
    | _ => False
  | .ow i, ρ, Φ => match ρ.at i with
    | some t => Φ (.vw t.dat)
    | none => False
  | .gl k, _, Φ => ∃ d, S.gs[k]? = some d ∧ Φ (.leaf d)
  | .int n, _, Φ => Φ (.leaf (.int n))
  | .str s, _, Φ => Φ (.leaf (.str s))
  | .bl b, _, Φ => Φ (.leaf (.bl b))
  | .non, _, Φ => Φ (.leaf .non)
  | .tup es, ρ, Φ => wa S es ρ fun us => us.length ≤ 100000 ∧ Φ (T.mk us)
  | .lst es, ρ, Φ => wa S es ρ fun us => us.length ≤ 100000 ∧ Φ (.lst us)
  | .bin o x y, ρ, Φ => w S x ρ fun t => w S y ρ fun u => binT o t u Φ
  | .neg x, ρ, Φ => w S x ρ fun t => ∃ i, t.dat = .int i ∧ Φ (.leaf (.int (-i)))
  | .not x, ρ, Φ => w S x ρ fun t => ∃ b, t.dat = .bl b ∧ Φ (.leaf (.bl !b))
  | .cmp o x y, ρ, Φ => w S x ρ fun t => w S y ρ fun u => cmpD o t.dat u.dat fun b => Φ (.leaf (.bl b))
  | .chn o o' x y z, ρ, Φ => w S x ρ fun t => w S y ρ fun u => cmpD o t.dat u.dat fun b => if b = true then w S z ρ fun v => cmpD o' u.dat v.dat fun b => Φ (.leaf (.bl b)) else Φ (.leaf (.bl false))
  | .and x r, ρ, Φ => w S x ρ fun t => ∃ b, t.dat = .bl b ∧ if b = true then w S r ρ Φ else Φ (.leaf (.bl false))
  | .or x r, ρ, Φ => w S x ρ fun t => ∃ b, t.dat = .bl b ∧ if b = true then Φ (.leaf (.bl true)) else w S r ρ Φ
  | .one x, ρ, Φ => w S x ρ Φ
  | .orv x r, ρ, Φ => w S x ρ fun t => ∃ b, t.dat.truth = some b ∧ if b = true then Φ t else w S r ρ Φ
  | .srtS x, ρ, Φ => w S x ρ fun t => srtS t Φ
  | .ife t x y, ρ, Φ => wt S t ρ fun b => if b = true then w S x ρ Φ else w S y ρ Φ
  | .ix x y, ρ, Φ => w S x ρ fun t => w S y ρ fun u => ixT t u.dat Φ
  | .sl x lo hi, ρ, Φ => w S x ρ fun t => wo S lo ρ fun l => wo S hi ρ fun h => slT t l h Φ
  | .call k es, ρ, Φ => ∃ f, S.fs[k]? = some f ∧ wv S es ρ fun us => frozs S.z us fun ds => f ds Φ
  | .blt f es, ρ, Φ => wv S es ρ fun us => bltT f us Φ
  | .lc own g src cond elt, ρ, Φ => ρ.wipes own = ρ ∧ wi S src ρ fun ds => ds.length ≤ 100000 ∧ lcW g (wc S cond) (w S elt) ρ ds [] fun us => Φ (.lst us)
  | .eqO k cl x y, ρ, Φ => ∃ f, S.ms[k]? = some f ∧ w S x ρ fun t => w S y ρ fun u => ∃ fs gs, t = .leaf (.obj cl fs) ∧ u = .leaf (.obj cl gs) ∧ f [.obj cl fs, .obj cl gs] fun r => ∃ b, r = .leaf (.bl b) ∧ Φ (.leaf (.bl b))
  | .isC cl x, ρ, Φ => w S x ρ fun t => (∃ fs, t = .leaf (.obj cl fs)) ∧ Φ (.leaf (.bl true))
  | .fld cl i x, ρ, Φ => w S x ρ fun t => ∃ fs d, t = .leaf (.obj cl fs) ∧ fs[i]? = some d ∧ Φ (.leaf d)
  | .mth k cl x es, ρ, Φ => ∃ f, S.ms[k]? = some f ∧ w S x ρ fun t => ∃ fs, t = .leaf (.obj cl fs) ∧ wv S es ρ fun us => frozs S.z us fun ds => f (.obj cl fs :: ds) Φ
  | .mt0 k cl x, ρ, Φ => ∃ f, S.ms[k]? = some f ∧ w S x ρ fun t => ∃ fs, t = .leaf (.obj cl fs) ∧ f [.obj cl fs] Φ
  | .prp k cl x, ρ, Φ => ∃ f, S.ps[k]? = some f ∧ w S x ρ fun t => ∃ fs, t = .leaf (.obj cl fs) ∧ f [.obj cl fs] Φ
  | .new k es, ρ, Φ => ∃ f, S.nw[k]? = some f ∧ wv S es ρ fun us => frozs S.z us fun ds => f ds Φ
  | .isi ty x, ρ, Φ => w S x ρ fun t => ∃ b, t.dat.isT ty = some b ∧ Φ (.leaf (.bl b))
  | .lr1 x, ρ, Φ => w S x ρ fun t => ∃ j, t.dat = .int j ∧ RgS 0 j ∧ Φ (rgT 0 j)
  | .lr2 x y, ρ, Φ => w S x ρ fun t => w S y ρ fun u => ∃ i j, t.dat = .int i ∧ u.dat = .int j ∧ RgS i j ∧ Φ (rgT i j)
  | .val _, _, _ => False
  | .nil, _, _ => False
  | .cons _ _, _, _ => False
  | .nop, _, _ => False
  | .prt _, _, _ => False
  | .sq _, _, _ => False
  | .rng _, _, _ => False
  | .zip _, _, _ => False
  | .enm _, _, _ => False
/-- the test -/
def wt (S : Sg) : I → Env → (Bool → Prop) → Prop
  | .not x, ρ, Ψ => wt S x ρ fun b => Ψ !b
  | .and x r, ρ, Ψ => wt S x ρ fun b => if b = true then wt S r ρ Ψ else Ψ false
  | .or x r, ρ, Ψ => wt S x ρ fun b => if b = true then Ψ true else wt S r ρ Ψ
  | .one x, ρ, Ψ => wt S x ρ Ψ
  | .cmp o x y, ρ, Ψ => w S x ρ fun t => w S y ρ fun u => cmpD o t.dat u.dat Ψ
  | .chn o o' x y z, ρ, Ψ => w S x ρ fun t => w S y ρ fun u => cmpD o t.dat u.dat fun b => if b = true then w S z ρ fun v => cmpD o' u.dat v.dat Ψ else Ψ false
  | .val x, ρ, Ψ => w S x ρ fun t => tru t Ψ
  | .eqO k cl x y, ρ, Ψ => ∃ f, S.ms[k]? = some f ∧ w S x ρ fun t => w S y ρ fun u => ∃ fs gs, t = .leaf (.obj cl fs) ∧ u = .leaf (.obj cl gs) ∧ f [.obj cl fs, .obj cl gs] fun r => ∃ b, r = .leaf (.bl b) ∧ Ψ b
  | _, _, _ => False
/-- a comprehension's test -/
def wc (S : Sg) : I → Env → (Bool → Prop) → Prop
  | .nop, _, Ψ => Ψ true
  | .one x, ρ, Ψ => wt S x ρ Ψ
  | _, _, _ => False
/-- what is laid -/
def wa (S : Sg) : I → Env → (List T → Prop) → Prop
  | .nil, _, Ψ => Ψ []
  | .cons e r, ρ, Ψ => w S e ρ fun t => t.fin fun u => wa S r ρ fun us => Ψ (u :: us)
  | _, _, _ => False
/-- what is handed in -/
def wv (S : Sg) : I → Env → (List T → Prop) → Prop
  | .nil, _, Ψ => Ψ []
  | .cons e r, ρ, Ψ => w S e ρ fun t => wv S r ρ fun us => Ψ (t :: us)
  | _, _, _ => False
def wo (S : Sg) : I → Env → (Option Int → Prop) → Prop
  | .nop, _, Ψ => Ψ none
  | .prt x, ρ, Ψ => w S x ρ fun t => ∃ i, t.dat = .int i ∧ Ψ (some i)
  | _, _, _ => False
/-- what is walked -/
def wi (S : Sg) : I → Env → (List D → Prop) → Prop
  | .sq x, ρ, Ψ => w S x ρ fun t => t.froz S.z fun d => ∃ ds, d.items = some ds ∧ Ψ ds
  | .rng es, ρ, Ψ => wv S es ρ fun us => rngW (T.dats us) Ψ
  | .zip es, ρ, Ψ => wv S es ρ fun us => frozs S.z us fun ds => zipW ds Ψ
  | .enm es, ρ, Ψ => wv S es ρ fun us => frozs S.z us fun ds => ∃ xs, ds = [.lst xs] ∧ Ψ (enumFrom 0 xs)
  | _, _, _ => False
end
end DL
namespace DL
open PySem PySem.Spec PyProof.Rows L2

/-- the names of a def, the defs, constants and built-ins that it reads -/
structure Cn extends Ct where
  fn : List Str
  gl : List Str
  bs : List Str
  ms : List (Nat × Str) := []
  ps : List (Nat × Str) := []
  nw : List Str := []
  fd : List (Nat × Nat × Str) := []
  ic : List (Nat × Str) := []
abbrev Cn.inn (c : Cn) (scope : Scope) : Cn := { c with toCt := c.toCt.inn scope }
def plainName (x : Str) : Bool := !(x == ("__debug__" : Str)) && !(x == ("__classdict__" : Str)) && !(x == ("__name__" : Str))
def ownOf (c : Cn) (sl : List Nat) : List (Str × Nat) := sl.filterMap fun i => c.N[i]?.map fun x => (x, i)
def isRange (x : Str) : Bool := x == ("range" : Str)
mutual
/-- the expression is written so -/
def okE (c : Cn) : I → Expr → Bool
  | .nm i, e => match e with | .Name x _ => nameIs c.toCt i x && c.vis x && plainName x | _ => false
  | .ow i, e => match e with | .Name x _ => nameIs c.toCt i x && c.vis x && plainName x | _ => false
  | .gl k, e => match e with | .Name x _ => decide (c.gl[k]? = some x) && c.glo x && plainName x | _ => false
  | .int n, e => match e with | .Constant (.int m) _ _ => n == m | _ => false
  | .str n, e => match e with | .Constant (.str m) _ _ => n == m | _ => false
  | .bl n, e => match e with | .Constant (.bool m) _ _ => n == m | _ => false
  | .non, e => match e with | .Constant .none _ _ => true | _ => false
  | .tup es, e => match e with | .Tuple xs _ _ => okA c es xs | _ => false
  | .lst es, e => match e with | .List xs _ => okA c es xs | _ => false
  | .bin o x y, e => match e with | .BinOp a op b _ => decide (op = o.op) && okE c x a && okE c y b | _ => false
  | .neg x, e => match e with | .UnaryOp .USub a _ => okE c x a | _ => false
  | .not x, e => match e with | .UnaryOp .Not a _ => okE c x a | _ => false
  | .cmp o x y, e => match e with | .Compare a [op] [b] _ => decide (op = o.op) && notSet b && okE c x a && okE c y b | _ => false
  | .chn o o' x y z, e => match e with | .Compare a [op, op'] [b, d] _ => decide (op = o.op) && decide (op' = o'.op) && notSet d && okE c x a && okE c y b && okE c z d | _ => false
  | .and x r, e => match e with | .BoolOp .And (a :: b :: es) p => okE c x a && okE c r (.BoolOp .And (b :: es) p) | _ => false
  | .or x r, e => match e with | .BoolOp .Or (a :: b :: es) p => okE c x a && okE c r (.BoolOp .Or (b :: es) p) | _ => false
  | .one x, e => match e with | .BoolOp _ [a] _ => okE c x a | _ => false
  | .orv x r, e => match e with | .BoolOp .Or (a :: b :: es) p => okE c x a && okE c r (.BoolOp .Or (b :: es) p) | _ => false
  | .srtS x, e => match e with
    | .Call (.Name f _) [.Call (.Name y _) [a] [] _] [] _ => (f == ("sorted" : Str)) && decide (f ∈ c.bs) && c.glo f && (y == ("set" : Str)) && decide (y ∈ c.bs) && c.glo y && notStar a && okE c x a
    | _ => false
  | .ife t x y, e => match e with | .IfExp d a b _ => okT c t d && okE c x a && okE c y b | _ => false
  | .ix x y, e => match e with | .Subscript a b _ => notSlice b && okE c x a && okE c y b | _ => false
  | .sl x lo hi, e => match e with | .Subscript a (.Slice l h none _) _ => okE c x a && okO c lo l && okO c hi h | _ => false
  | .call k es, e => match e with | .Call (.Name x _) (a :: as) [] _ => decide (c.fn[k]? = some x) && c.glo x && plainName x && (a :: as).all notStar && okA c es (a :: as) | _ => false
  | .blt f es, e => match e with | .Call (.Name x _) (a :: as) [] _ => decide (x = f.nm) && decide (x ∈ c.bs) && c.glo x && (a :: as).all notStar && okA c es (a :: as) | _ => false
  | .lc own g src cond elt, e => match e with
    | .ListComp el [⟨tg, it, ifs, 0⟩] scope _ => blkC c.N c.sc scope (ownOf c own) && decide ((ownOf c own).map (·.2) = own) && okG (c.inn scope).toCt g tg && g.slots.all (fun i => own.contains i) && notSet it && okI c src tg it && okC (c.inn scope) cond ifs && okE (c.inn scope) elt el
    | _ => false
  | .eqO k cl x y, e => match e with | .Compare a [.Eq] [b] _ => decide (c.ms[k]? = some (cl, ("__eq__" : Str))) && notSet b && okE c x a && okE c y b | _ => false
  | .isC cl x, e => match e with
    | .Call (.Name f _) [a, .Name y _] [] _ => (f == ("isinstance" : Str)) && decide (f ∈ c.bs) && c.glo f && decide ((cl, y) ∈ c.ic) && plainName y && c.glo y && notStar a && okE c x a
    | _ => false
  | .fld cl i x, e => match e with
    | .Attribute o n _ => decide ((cl, i, n) ∈ c.fd) && baseOk o && okE c x o
    | _ => false
  | .mth k cl x es, e => match e with
    | .Call (.Attribute o m ap) (a :: as) [] pos => decide (c.ms[k]? = some (cl, m)) && baseOk o && (ap.endLine == pos.line) && Nat.blt (a :: as).length 30 && (a :: as).all notStar && okA c es (a :: as) && okE c x o
    | _ => false
  | .mt0 k cl x, e => match e with
    | .Call (.Attribute o m ap) [] [] pos => decide (c.ms[k]? = some (cl, m)) && baseOk o && (ap.endLine == pos.line) && okE c x o
    | _ => false
  | .prp k cl x, e => match e with
    | .Attribute o m _ => decide (c.ps[k]? = some (cl, m)) && baseOk o && okE c x o
    | _ => false
  | .new k es, e => match e with
    | .Call (.Name x _) (a :: as) [] _ => decide (c.nw[k]? = some x) && c.glo x && plainName x && (a :: as).all notStar && okA c es (a :: as)
    | _ => false
  | .isi ty x, e => match e with
    | .Call (.Name f _) [a, .Name y _] [] _ => (f == ("isinstance" : Str)) && decide (f ∈ c.bs) && c.glo f && decide (y = ty.nm) && decide (y ∈ c.bs) && c.glo y && notStar a && okE c x a
    | _ => false
  | .lr1 x, e => match e with
    | .Call (.Name f _) [r] [] _ => (f == ("list" : Str)) && decide (f ∈ c.bs) && c.glo f && (match r with
      | .Call (.Name y _) [a] [] _ => (y == ("range" : Str)) && decide (y ∈ c.bs) && c.glo y && notStar a && okE c x a
      | _ => false)
    | _ => false
  | .lr2 x x', e => match e with
    | .Call (.Name f _) [r] [] _ => (f == ("list" : Str)) && decide (f ∈ c.bs) && c.glo f && (match r with
      | .Call (.Name y _) [a, b] [] _ => (y == ("range" : Str)) && decide (y ∈ c.bs) && c.glo y && notStar a && notStar b && okE c x a && okE c x' b
      | _ => false)
    | _ => false
  | .val _, _ => false
  | .nil, _ => false
  | .cons _ _, _ => false
  | .nop, _ => false
  | .prt _, _ => false
  | .sq _, _ => false
  | .rng _, _ => false
  | .zip _, _ => false
  | .enm _, _ => false
def okT (c : Cn) : I → Expr → Bool
  | .not x, e => match e with | .UnaryOp .Not a _ => okT c x a | _ => false
  | .and x r, e => match e with | .BoolOp .And (a :: b :: es) _ => okT c x a && okW c r .And (b :: es) | _ => false
  | .or x r, e => match e with | .BoolOp .Or (a :: b :: es) _ => okT c x a && okW c r .Or (b :: es) | _ => false
  | .cmp o x y, e => match e with | .Compare a [op] [b] _ => decide (op = o.op) && notSet b && okE c x a && okE c y b | _ => false
  | .chn o o' x y z, e => match e with | .Compare a [op, op'] [b, d] _ => decide (op = o.op) && decide (op' = o'.op) && notSet d && okE c x a && okE c y b && okE c z d | _ => false
  | .val x, e => plainTest e && okE c x e
  | .eqO k cl x y, e => match e with | .Compare a [.Eq] [b] _ => decide (c.ms[k]? = some (cl, ("__eq__" : Str))) && notSet b && okE c x a && okE c y b | _ => false
  | _, _ => false
def okW (c : Cn) : I → PySem.BoolOp → List Expr → Bool
  | .and x r, op, es => match op, es with | .And, a :: b :: es => okT c x a && okW c r .And (b :: es) | _, _ => false
  | .or x r, op, es => match op, es with | .Or, a :: b :: es => okT c x a && okW c r .Or (b :: es) | _, _ => false
  | .one x, _, es => match es with | [a] => okT c x a | _ => false
  | _, _, _ => false
def okC (c : Cn) : I → List Expr → Bool
  | .nop, es => match es with | [] => true | _ => false
  | .one x, es => match es with | [a] => okT c x a | _ => false
  | _, _ => false
def okA (c : Cn) : I → List Expr → Bool
  | .nil, es => match es with | [] => true | _ => false
  | .cons e r, es => match es with | a :: as => notStar a && okE c e a && okA c r as | _ => false
  | _, _ => false
def okO (c : Cn) : I → Option Expr → Bool
  | .nop, e => match e with | none => true | _ => false
  | .prt x, e => match e with | some a => okE c x a | _ => false
  | _, _ => false
def okI (c : Cn) : I → Expr → Expr → Bool
  | .sq x, _, e => okE c x e
  | .rng es, _, e => match e with
    | .Call (.Name x _) as [] _ => isRange x && decide (x ∈ c.bs) && c.glo x && as.all notStar && okA c es as && (as.length == 1 || as.length == 2 || as.length == 3)
    | _ => false
  | .zip es, tg, e => match e with
    | .Call (.Name x _) [a, b] [] _ => (x == ("zip" : Str)) && decide (x ∈ c.bs) && c.glo x && isTup tg && [a, b].all notStar && okA c es [a, b]
    | _ => false
  | .enm es, tg, e => match e with
    | .Call (.Name x _) [a] [] _ => (x == ("enumerate" : Str)) && decide (x ∈ c.bs) && c.glo x && isTup tg && [a].all notStar && okA c es [a]
    | _ => false
  | _, _, _ => false
end
def Mono (f : SpecF) : Prop := ∀ ds (Φ Ψ : T → Prop), (∀ t, Φ t → Ψ t) → f ds Φ → f ds Ψ
/-- all that a body needs -/
structure Good (c : Cn) (S : Sg) (a : An0) (X : Cx) : Prop where
  xo : XOk a X
  co : COk c.toCt X
  io : S.z = true → NoIo a
  hk : X.env.scope.kind = .function
  fns : ∀ (k : Nat) x f, c.fn[k]? = some x → S.fs[k]? = some f → FnAt a X x f ∧ Mono f
  gls : ∀ (k : Nat) x d, c.gl[k]? = some x → S.gs[k]? = some d → ∃ v u, X.mg x = some u ∧ RelV v u ∧ ∀ F, Is a.toAn F d v
  bs : ∀ x ∈ c.bs, X.mg x = none
  ms : ∀ (k : Nat) q f, c.ms[k]? = some q → S.ms[k]? = some f → MtAt a X q.1 q.2 f ∧ Mono f
  ps : ∀ (k : Nat) q f, c.ps[k]? = some q → S.ps[k]? = some f → PrAt a X q.1 q.2 f ∧ Mono f
  nw : ∀ (k : Nat) x f, c.nw[k]? = some x → S.nw[k]? = some f → NwAt a X x f ∧ Mono f
  fd : ∀ q ∈ c.fd, FdAt a X q.1 q.2.1 q.2.2
  ic : ∀ q ∈ c.ic, InAt a X q.1 q.2
section
variable {c : Cn} {S : Sg} {a : An0} {X : Cx} {ρ : Env} {Φ : T → Prop}
theorem Good.on {H F : Hp} (g : Good c S a X) : Good c S (a.on H F) X := ⟨g.xo.on, g.co, g.io, g.hk, fun k x f h1 h2 => ⟨(g.fns k x f h1 h2).1.on, (g.fns k x f h1 h2).2⟩, g.gls, g.bs, fun k q f h1 h2 => ⟨⟨(g.ms k q f h1 h2).1.ex⟩, (g.ms k q f h1 h2).2⟩, fun k q f h1 h2 => ⟨⟨(g.ps k q f h1 h2).1.ex⟩, (g.ps k q f h1 h2).2⟩, fun k q f h1 h2 => ⟨⟨(g.nw k q f h1 h2).1.ex⟩, (g.nw k q f h1 h2).2⟩, fun q h => ⟨(g.fd q h).ex⟩, fun q h => ⟨(g.ic q h).ex⟩⟩
theorem Good.onV {F : Hp} (g : Good c S a X) : Good c S (a.onV F) X := ⟨g.xo.onV, g.co, g.io, g.hk, fun k x f h1 h2 => ⟨⟨(g.fns k x f h1 h2).1.ex⟩, (g.fns k x f h1 h2).2⟩, g.gls, g.bs, fun k q f h1 h2 => ⟨⟨(g.ms k q f h1 h2).1.ex⟩, (g.ms k q f h1 h2).2⟩, fun k q f h1 h2 => ⟨⟨(g.ps k q f h1 h2).1.ex⟩, (g.ps k q f h1 h2).2⟩, fun k q f h1 h2 => ⟨⟨(g.nw k q f h1 h2).1.ex⟩, (g.nw k q f h1 h2).2⟩, fun q h => ⟨(g.fd q h).ex⟩, fun q h => ⟨(g.ic q h).ex⟩⟩
theorem Good.blk {scope : Scope} (sk : scope.kind = .function) {s : Shared} {H : Hp} {C : Addr} {cl : List (Str × Addr)} {fp : List Addr} (g : Good c S a X) : Good (c.inn scope) S a (Blk X scope s H C cl fp) :=
  ⟨g.xo.blk, g.co.blk, g.io, sk, fun k x f h1 h2 => ⟨(g.fns k x f h1 h2).1.blk, (g.fns k x f h1 h2).2⟩, g.gls, g.bs, fun k q f h1 h2 => ⟨⟨(g.ms k q f h1 h2).1.ex⟩, (g.ms k q f h1 h2).2⟩, fun k q f h1 h2 => ⟨⟨(g.ps k q f h1 h2).1.ex⟩, (g.ps k q f h1 h2).2⟩, fun k q f h1 h2 => ⟨⟨(g.nw k q f h1 h2).1.ex⟩, (g.nw k q f h1 h2).2⟩, fun q h => ⟨(g.fd q h).ex⟩, fun q h => ⟨(g.ic q h).ex⟩⟩
theorem plain_of {x : Str} (h : plainName x = true) : (x == ("__debug__" : Str)) = false ∧ (x == ("__classdict__" : Str)) = false ∧ x ≠ ("__name__" : Str) := by
  unfold plainName at h
  simp only [Bool.and_eq_true, Bool.not_eq_true'] at h
  exact ⟨h.1.1, h.1.2, fun e => by rw [e] at h; simp at h⟩
theorem blk_kind {N : List Str} {sc scope : Scope} {own : List (Str × Nat)} (h : blkC N sc scope own = true) : scope.kind = .function := (blkOk_by h).kind
end
end DL
namespace DL
open PySem PySem.Spec PyProof.Rows L2
section
variable {c : Cn} {S : Sg} {a : An0} {X : Cx} {ρ : Env}
theorem DE.mono {e : Expr} {Φ Ψ : T → Prop} (h : DE a X ρ e Φ) (i : ∀ t, Φ t → Ψ t) : DE a X ρ e Ψ := fun σ H ts vs Q ok k => h σ H ts vs Q ok fun v t H' q ok' => k v t H' (i t q) ok'
theorem DT.mono {e : Expr} {Φ Ψ : Bool → Prop} (h : DT a X ρ e Φ) (i : ∀ t, Φ t → Ψ t) : DT a X ρ e Ψ := fun σ H ts vs Q ok k => h σ H ts vs Q ok fun b H' q ok' => k b H' (i b q) ok'
theorem DA.mono {e : List Expr} {Φ Ψ : List T → Prop} (h : DA a X ρ e Φ) (i : ∀ t, Φ t → Ψ t) : DA a X ρ e Ψ := fun σ H ts vs Q ok k => h σ H ts vs Q ok fun ws us H' q n l ok' => k ws us H' (i us q) n l ok'
theorem DV.mono {e : List Expr} {Φ Ψ : List T → Prop} (h : DV a X ρ e Φ) (i : ∀ t, Φ t → Ψ t) : DV a X ρ e Ψ := fun σ H ts vs Q ok k => h σ H ts vs Q ok fun ws us H' q l ok' => k ws us H' (i us q) l ok'
theorem DO.mono {e : Option Expr} {Φ Ψ : Option Int → Prop} (h : DO a X ρ e Φ) (i : ∀ t, Φ t → Ψ t) : DO a X ρ e Ψ := fun σ H ts vs Q ok k => h σ H ts vs Q ok fun o H' q ok' => k o H' (i o q) ok'
theorem fin_mono {t : T} {Φ Ψ : T → Prop} (i : ∀ t, Φ t → Ψ t) (h : t.fin Φ) : t.fin Ψ := by
  cases t with
  | vw d => exact ⟨h.1, i _ h.2⟩
  | leaf d => exact i _ h
  | lst us => exact i _ h
  | tup us => exact i _ h
theorem ite_mono {b : Bool} {p q p' q' : Prop} (h1 : p → p') (h2 : q → q') (h : if b = true then p else q) : if b = true then p' else q' := by
  cases b with
  | true => rw [if_pos rfl] at h ⊢; exact h1 h
  | false => rw [if_neg (by decide)] at h ⊢; exact h2 h
theorem cmp_mono {o : Cop} {x y : D} {Φ Ψ : Bool → Prop} (i : ∀ b, Φ b → Ψ b) (h : cmpD o x y Φ) : cmpD o x y Ψ := by
  have one : ∀ (o : Cop) (x y : D), cmpD o x y Φ → cmpD o x y Ψ := fun o x y h => by
    unfold cmpD at h ⊢
    split at h <;> first
      | exact i _ h
      | exact ⟨h.1, h.2.1, i _ h.2.2⟩
      | exact h.elim (fun ⟨s, t, e1, e2, q⟩ => .inl ⟨s, t, e1, e2, i _ q⟩) fun h => .inr ⟨h.1, h.2.1, i _ h.2.2⟩
      | (obtain ⟨c, e, q⟩ := h; exact ⟨c, e, i _ q⟩)
      | exact h.elim
  exact one o x y h
def DC (a : An0) (X : Cx) (ρ : Env) (es : List Expr) (Ψ : Bool → Prop) : Prop := ∀ σ H ts vs Q, SOk a ρ σ ts vs H → (∀ b H', Ψ b → SOk a ρ σ ts vs H' → Q b H') → ∃ t, PTs X es t ∧ t σ H Q
theorem rng1_of {us : List T} {Ψ : List D → Prop} (h : us.length = 1 ∧ rngW (T.dats us) Ψ) : ∃ j, T.dats us = [.int j] ∧ (-(2 ^ 62) ≤ j ∧ j < 2 ^ 62) ∧ Ψ ((List.range j.toNat).map fun (i : Nat) => .int i) := by
  obtain ⟨l, h⟩ := h
  match us, l with
  | [t], _ =>
    simp only [T.dats] at h ⊢
    cases e : t.dat <;> rw [e] at h <;> first | exact h.elim | exact ⟨_, rfl, h⟩
theorem rng2_of {us : List T} {Ψ : List D → Prop} (h : us.length = 2 ∧ rngW (T.dats us) Ψ) : ∃ i j, T.dats us = [.int i, .int j] ∧ (-(2 ^ 62) ≤ i ∧ i < 2 ^ 62 ∧ -(2 ^ 62) ≤ j ∧ j < 2 ^ 62) ∧ Ψ ((List.range (j - i).toNat).map fun (k : Nat) => .int (i + k)) := by
  obtain ⟨l, h⟩ := h
  match us, l with
  | [t, u], _ =>
    simp only [T.dats] at h ⊢
    cases e : t.dat <;> cases e2 : u.dat <;> rw [e, e2] at h <;> first | exact h.elim | exact ⟨_, _, rfl, h⟩
theorem rng3_of {us : List T} {Ψ : List D → Prop} (h : us.length = 3 ∧ rngW (T.dats us) Ψ) : ∃ i j c n, T.dats us = [.int i, .int j, .int c] ∧ RgC i j c n ∧ Ψ ((List.range n).map fun (k : Nat) => .int (i + k * c)) := by
  obtain ⟨l, h⟩ := h
  match us, l with
  | [t, u, v], _ =>
    simp only [T.dats] at h ⊢
    cases e : t.dat <;> cases e2 : u.dat <;> cases e3 : v.dat <;> rw [e, e2, e3] at h <;> first | exact h.elim | exact h.elim fun n q => ⟨_, _, _, n, rfl, q⟩
theorem dc_nil {Ψ : Bool → Prop} (h : Ψ true) : DC a X ρ [] Ψ := fun σ H ts vs Q ok k => ⟨_, pts_nil, k _ _ h ok⟩
theorem dc_one {e : Expr} {Ψ : Bool → Prop} (h : DT a X ρ e Ψ) : DC a X ρ [e] Ψ := fun σ H ts vs Q ok k => ⟨_, pts_one pt_W, h σ H ts vs Q ok k⟩
theorem sE_isi {ty : Ty} {x : I} {c : Cn} {S : Sg} {a : An0} {X : Cx} {ρ : Env} {Φ : T → Prop} {e : Expr} (ih : ∀ {Φ e}, okE c x e = true → w S x ρ Φ → DE a X ρ e Φ) (g : Good c S a X) (k : okE c (.isi ty x) e = true) (h : w S (.isi ty x) ρ Φ) : DE a X ρ e Φ := by
    simp only [w] at h
    simp only [okE] at k
    split at k
    · simp only [Bool.and_eq_true, decide_eq_true_eq] at k
      obtain ⟨⟨⟨⟨⟨⟨⟨k1, k2⟩, k3⟩, k4⟩, k5⟩, k6⟩, k7⟩, k8⟩ := k
      have e1 := beq_iff_eq.mp k1
      subst e1 k4
      exact de_isi g.xo (Ct.glo_of g.co k3) (g.bs _ k2) (Ct.glo_of g.co k6) (g.bs _ k5) k7 (ih k8 h)
    · cases k
theorem sE_lr1 {x : I} {c : Cn} {S : Sg} {a : An0} {X : Cx} {ρ : Env} {Φ : T → Prop} {e : Expr} (ih : ∀ {Φ e}, okE c x e = true → w S x ρ Φ → DE a X ρ e Φ) (g : Good c S a X) (k : okE c (.lr1 x) e = true) (h : w S (.lr1 x) ρ Φ) : DE a X ρ e Φ := by
    simp only [w] at h
    simp only [okE] at k
    split at k
    · simp only [Bool.and_eq_true, decide_eq_true_eq] at k
      obtain ⟨⟨⟨k1, k2⟩, k3⟩, k⟩ := k
      split at k
      · simp only [Bool.and_eq_true, decide_eq_true_eq] at k
        obtain ⟨⟨⟨⟨k4, k5⟩, k6⟩, k7⟩, k8⟩ := k
        have e1 := beq_iff_eq.mp k1
        have e2 := beq_iff_eq.mp k4
        subst e1 e2
        exact de_lr1 g.xo (Ct.glo_of g.co k3) (g.bs _ k2) (Ct.glo_of g.co k6) (g.bs _ k5) k7 (ih k8 h)
      · cases k
    · cases k
theorem sE_lr2 {x y : I} {c : Cn} {S : Sg} {a : An0} {X : Cx} {ρ : Env} {Φ : T → Prop} {e : Expr} (ih : ∀ {Φ e}, okE c x e = true → w S x ρ Φ → DE a X ρ e Φ) (ih2 : ∀ {Φ e}, okE c y e = true → w S y ρ Φ → DE a X ρ e Φ) (g : Good c S a X) (k : okE c (.lr2 x y) e = true) (h : w S (.lr2 x y) ρ Φ) : DE a X ρ e Φ := by
    simp only [w] at h
    simp only [okE] at k
    split at k
    · simp only [Bool.and_eq_true, decide_eq_true_eq] at k
      obtain ⟨⟨⟨k1, k2⟩, k3⟩, k⟩ := k
      split at k
      · simp only [Bool.and_eq_true, decide_eq_true_eq] at k
        obtain ⟨⟨⟨⟨⟨⟨k4, k5⟩, k6⟩, k7⟩, k8⟩, k9⟩, k10⟩ := k
        have e1 := beq_iff_eq.mp k1
        have e2 := beq_iff_eq.mp k4
        subst e1 e2
        exact de_lr2 g.xo (Ct.glo_of g.co k3) (g.bs _ k2) (Ct.glo_of g.co k6) (g.bs _ k5) k7 k8 ((ih k9 h).mono fun t q => ih2 k10 q)
      · cases k
    · cases k
theorem sE_fld {cl i : Nat} {x : I} {c : Cn} {S : Sg} {a : An0} {X : Cx} {ρ : Env} {Φ : T → Prop} {e : Expr} (ih : ∀ {Φ e}, okE c x e = true → w S x ρ Φ → DE a X ρ e Φ) (g : Good c S a X) (k : okE c (.fld cl i x) e = true) (h : w S (.fld cl i x) ρ Φ) : DE a X ρ e Φ := by
    simp only [w] at h
    simp only [okE] at k
    split at k
    · simp only [Bool.and_eq_true, decide_eq_true_eq] at k
      exact de_fld (g.fd _ k.1.1) (attr_ok k.1.2) (ih k.2 h)
    · cases k
theorem sE_mth {n cl : Nat} {x es : I} {c : Cn} {S : Sg} {a : An0} {X : Cx} {ρ : Env} {Φ : T → Prop} {e : Expr} (ih : ∀ {Φ e}, okE c x e = true → w S x ρ Φ → DE a X ρ e Φ) (ih2 : ∀ {Φ e}, okA c es e = true → wv S es ρ Φ → DV a X ρ e Φ) (g : Good c S a X) (k : okE c (.mth n cl x es) e = true) (h : w S (.mth n cl x es) ρ Φ) : DE a X ρ e Φ := by
    simp only [w] at h
    simp only [okE] at k
    split at k
    · simp only [Bool.and_eq_true, decide_eq_true_eq, List.all_cons] at k
      obtain ⟨⟨⟨⟨⟨⟨k1, k2⟩, k3⟩, k4⟩, k5⟩, k6⟩, k7⟩ := k
      obtain ⟨f, hf, h⟩ := h
      obtain ⟨mt, mono⟩ := g.ms n _ f k1 hf
      exact de_mthO g.xo g.io mt k5.1 k5.2 k2 k3 (Nat.le_of_ble_eq_true k4) ((ih k7 h).mono fun t q => q.elim fun fs q => ⟨fs, q.1, ih2 k6 q.2⟩) mono
    · cases k
theorem sE_mt0 {n cl : Nat} {x : I} {c : Cn} {S : Sg} {a : An0} {X : Cx} {ρ : Env} {Φ : T → Prop} {e : Expr} (ih : ∀ {Φ e}, okE c x e = true → w S x ρ Φ → DE a X ρ e Φ) (g : Good c S a X) (k : okE c (.mt0 n cl x) e = true) (h : w S (.mt0 n cl x) ρ Φ) : DE a X ρ e Φ := by
    simp only [w] at h
    simp only [okE] at k
    split at k
    · simp only [Bool.and_eq_true, decide_eq_true_eq] at k
      obtain ⟨⟨⟨k1, k2⟩, k3⟩, k7⟩ := k
      obtain ⟨f, hf, h⟩ := h
      obtain ⟨mt, mono⟩ := g.ms n _ f k1 hf
      exact de_mthO0 g.xo mt k2 k3 (ih k7 h) mono
    · cases k
theorem sE_prp {n cl : Nat} {x : I} {c : Cn} {S : Sg} {a : An0} {X : Cx} {ρ : Env} {Φ : T → Prop} {e : Expr} (ih : ∀ {Φ e}, okE c x e = true → w S x ρ Φ → DE a X ρ e Φ) (g : Good c S a X) (k : okE c (.prp n cl x) e = true) (h : w S (.prp n cl x) ρ Φ) : DE a X ρ e Φ := by
    simp only [w] at h
    simp only [okE] at k
    split at k
    · simp only [Bool.and_eq_true, decide_eq_true_eq] at k
      obtain ⟨⟨k1, k2⟩, k7⟩ := k
      obtain ⟨f, hf, h⟩ := h
      obtain ⟨mt, mono⟩ := g.ps n _ f k1 hf
      exact de_prp g.xo mt (attr_ok k2) (ih k7 h) mono
    · cases k
theorem sE_new {n : Nat} {es : I} {c : Cn} {S : Sg} {a : An0} {X : Cx} {ρ : Env} {Φ : T → Prop} {e : Expr} (ih2 : ∀ {Φ e}, okA c es e = true → wv S es ρ Φ → DV a X ρ e Φ) (g : Good c S a X) (k : okE c (.new n es) e = true) (h : w S (.new n es) ρ Φ) : DE a X ρ e Φ := by
    simp only [w] at h
    simp only [okE] at k
    split at k
    · simp only [Bool.and_eq_true, decide_eq_true_eq, List.all_cons] at k
      obtain ⟨⟨⟨⟨k1, k2⟩, k3⟩, k4⟩, k5⟩ := k
      obtain ⟨f, hf, h⟩ := h
      obtain ⟨nw, mono⟩ := g.nw n _ f k1 hf
      exact de_new g.xo g.io nw (Ct.glo_of g.co k2) (plain_of k3).1 k4.1 k4.2 (ih2 k5 h) mono
    · cases k
theorem sE_eqO {n cl : Nat} {x y : I} {c : Cn} {S : Sg} {a : An0} {X : Cx} {ρ : Env} {Φ : T → Prop} {e : Expr} (ih : ∀ {Φ e}, okE c x e = true → w S x ρ Φ → DE a X ρ e Φ) (ih2 : ∀ {Φ e}, okE c y e = true → w S y ρ Φ → DE a X ρ e Φ) (g : Good c S a X) (k : okE c (.eqO n cl x y) e = true) (h : w S (.eqO n cl x y) ρ Φ) : DE a X ρ e Φ := by
    simp only [w] at h
    simp only [okE] at k
    split at k
    · simp only [Bool.and_eq_true, decide_eq_true_eq] at k
      obtain ⟨⟨⟨k1, k2⟩, k3⟩, k4⟩ := k
      obtain ⟨f, hf, h⟩ := h
      obtain ⟨mt, mono⟩ := g.ms n _ f k1 hf
      exact de_eqO g.xo mt mono k2 ((ih k3 h).mono fun t q => ih2 k4 q)
    · cases k
theorem sT_eqO {n cl : Nat} {x y : I} {c : Cn} {S : Sg} {a : An0} {X : Cx} {ρ : Env} {Ψ : Bool → Prop} {e : Expr} (ih : ∀ {Φ e}, okE c x e = true → w S x ρ Φ → DE a X ρ e Φ) (ih2 : ∀ {Φ e}, okE c y e = true → w S y ρ Φ → DE a X ρ e Φ) (g : Good c S a X) (k : okT c (.eqO n cl x y) e = true) (h : wt S (.eqO n cl x y) ρ Ψ) : DT a X ρ e Ψ := by
    simp only [wt] at h
    simp only [okT] at k
    split at k
    · simp only [Bool.and_eq_true, decide_eq_true_eq] at k
      obtain ⟨⟨⟨k1, k2⟩, k3⟩, k4⟩ := k
      obtain ⟨f, hf, h⟩ := h
      obtain ⟨mt, mono⟩ := g.ms n _ f k1 hf
      exact dt_eqO g.xo mt mono k2 ((ih k3 h).mono fun t q => ih2 k4 q)
    · cases k
theorem sE_isC {cl : Nat} {x : I} {c : Cn} {S : Sg} {a : An0} {X : Cx} {ρ : Env} {Φ : T → Prop} {e : Expr} (ih : ∀ {Φ e}, okE c x e = true → w S x ρ Φ → DE a X ρ e Φ) (g : Good c S a X) (k : okE c (.isC cl x) e = true) (h : w S (.isC cl x) ρ Φ) : DE a X ρ e Φ := by
    simp only [w] at h
    simp only [okE] at k
    split at k
    · simp only [Bool.and_eq_true, decide_eq_true_eq] at k
      obtain ⟨⟨⟨⟨⟨⟨⟨k1, k2⟩, k3⟩, k4⟩, k5⟩, k6⟩, k7⟩, k8⟩ := k
      have e1 := beq_iff_eq.mp k1
      subst e1
      exact de_isC g.xo (g.ic _ k4) (Ct.glo_of g.co k3) (g.bs _ k2) (Ct.glo_of g.co k6) (plain_of k5).1 k7 (ih k8 h)
    · cases k
theorem sE_orv {x r : I} {c : Cn} {S : Sg} {a : An0} {X : Cx} {ρ : Env} {Φ : T → Prop} {e : Expr} (ih : ∀ {Φ e}, okE c x e = true → w S x ρ Φ → DE a X ρ e Φ) (ih2 : ∀ {Φ e}, okE c r e = true → w S r ρ Φ → DE a X ρ e Φ) (g : Good c S a X) (k : okE c (.orv x r) e = true) (h : w S (.orv x r) ρ Φ) : DE a X ρ e Φ := by
    simp only [w] at h
    simp only [okE] at k
    split at k
    · simp only [Bool.and_eq_true] at k
      exact de_orv g.xo ((ih k.1 h).mono fun t q => q.elim fun b q => ⟨b, q.1, ite_mono (fun q => q) (fun q => ih2 k.2 q) q.2⟩)
    · cases k
theorem sE_srtS {x : I} {c : Cn} {S : Sg} {a : An0} {X : Cx} {ρ : Env} {Φ : T → Prop} {e : Expr} (ih : ∀ {Φ e}, okE c x e = true → w S x ρ Φ → DE a X ρ e Φ) (g : Good c S a X) (k : okE c (.srtS x) e = true) (h : w S (.srtS x) ρ Φ) : DE a X ρ e Φ := by
    simp only [w] at h
    simp only [okE] at k
    split at k
    · simp only [Bool.and_eq_true, decide_eq_true_eq] at k
      obtain ⟨⟨⟨⟨⟨⟨⟨k1, k2⟩, k3⟩, k4⟩, k5⟩, k6⟩, k7⟩, k8⟩ := k
      have e1 := beq_iff_eq.mp k1
      have e2 := beq_iff_eq.mp k4
      subst e1 e2
      exact de_srtS g.xo (Ct.glo_of g.co k3) (g.bs _ k2) (Ct.glo_of g.co k6) (g.bs _ k5) k7 (ih k8 h)
    · cases k
theorem okE_val (c : Cn) (x : I) (e : Expr) : okE c (.val x) e = false := by simp only [okE]
theorem okE_nil (c : Cn) (e : Expr) : okE c (.nil) e = false := by simp only [okE]
theorem okE_cons (c : Cn) (x : I) (y : I) (e : Expr) : okE c (.cons x y) e = false := by simp only [okE]
theorem okE_nop (c : Cn) (e : Expr) : okE c (.nop) e = false := by simp only [okE]
theorem okE_prt (c : Cn) (x : I) (e : Expr) : okE c (.prt x) e = false := by simp only [okE]
theorem okE_sq (c : Cn) (x : I) (e : Expr) : okE c (.sq x) e = false := by simp only [okE]
theorem okE_rng (c : Cn) (x : I) (e : Expr) : okE c (.rng x) e = false := by simp only [okE]
theorem okE_zip (c : Cn) (x : I) (e : Expr) : okE c (.zip x) e = false := by simp only [okE]
theorem okE_enm (c : Cn) (x : I) (e : Expr) : okE c (.enm x) e = false := by simp only [okE]
mutual
theorem soundE : ∀ (i : I) {c : Cn} {S : Sg} {a : An0} {X : Cx} {ρ : Env} {Φ : T → Prop} {e : Expr}, Good c S a X → okE c i e = true → w S i ρ Φ → DE a X ρ e Φ
  | .nm i, c, S, a, X, ρ, Φ, e, g, k, h => by
    simp only [w] at h
    cases e <;> simp only [okE, Bool.false_eq_true] at k
    rename_i x p
    simp only [Bool.and_eq_true] at k
    obtain ⟨q1, q2, _⟩ := plain_of k.2
    split at h
    · exact de_nm (nameIs_of g.co k.1.1) (Ct.vis_of g.co k.1.2) q1 q2 (by assumption) h
    · exact h.elim
  | .ow i, c, S, a, X, ρ, Φ, e, g, k, h => by
    simp only [w] at h
    cases e <;> simp only [okE, Bool.false_eq_true] at k
    rename_i x p
    simp only [Bool.and_eq_true] at k
    obtain ⟨q1, q2, _⟩ := plain_of k.2
    split at h
    · exact de_ow (nameIs_of g.co k.1.1) (Ct.vis_of g.co k.1.2) q1 q2 (by assumption) h
    · exact h.elim
  | .gl i, c, S, a, X, ρ, Φ, e, g, k, h => by
    simp only [w] at h
    cases e <;> simp only [okE, Bool.false_eq_true] at k
    rename_i x p
    simp only [Bool.and_eq_true, decide_eq_true_eq] at k
    obtain ⟨q1, q2, _⟩ := plain_of k.2
    obtain ⟨d, e1, q⟩ := h
    obtain ⟨v, u, e2, r, is⟩ := g.gls i x d k.1.1 e1
    exact fun σ H ts vs Q ok kk => ⟨_, pe_glob (Ct.glo_of g.co k.1.2) e2 r q1, kk v _ H q (let ⟨F, Sc, Sm, w⟩ := ok; ⟨F, Sc, Sm, w.leaf (is F)⟩)⟩
  | .int n, c, S, a, X, ρ, Φ, e, g, k, h => by
    simp only [w] at h
    simp only [okE] at k
    split at k
    · rw [← beq_iff_eq.mp k]; exact de_int h
    · cases k
  | .str n, c, S, a, X, ρ, Φ, e, g, k, h => by
    simp only [w] at h
    simp only [okE] at k
    split at k
    · rw [← beq_iff_eq.mp k]; exact de_str h
    · cases k
  | .bl n, c, S, a, X, ρ, Φ, e, g, k, h => by
    simp only [w] at h
    simp only [okE] at k
    split at k
    · rw [← beq_iff_eq.mp k]; exact de_bl h
    · cases k
  | .non, c, S, a, X, ρ, Φ, e, g, k, h => by
    simp only [w] at h
    simp only [okE] at k
    split at k
    · exact de_non h
    · cases k
  | .tup es, c, S, a, X, ρ, Φ, e, g, k, h => by
    simp only [w] at h
    simp only [okE] at k
    split at k
    · exact de_tup (soundA es g k h)
    · cases k
  | .lst es, c, S, a, X, ρ, Φ, e, g, k, h => by
    simp only [w] at h
    simp only [okE] at k
    split at k
    · exact de_lst (soundA es g k h)
    · cases k
  | .bin o x y, c, S, a, X, ρ, Φ, e, g, k, h => by
    simp only [w] at h
    simp only [okE] at k
    split at k
    · simp only [Bool.and_eq_true, decide_eq_true_eq] at k
      rw [k.1.1]
      exact de_binT g.xo ((soundE x g k.1.2 h).mono fun t q => soundE y g k.2 q)
    · cases k
  | .neg x, c, S, a, X, ρ, Φ, e, g, k, h => by
    simp only [w] at h
    simp only [okE] at k
    split at k
    · exact de_neg (soundE x g k h)
    · cases k
  | .not x, c, S, a, X, ρ, Φ, e, g, k, h => by
    simp only [w] at h
    simp only [okE] at k
    split at k
    · exact de_not (soundE x g k h)
    · cases k
  | .cmp o x y, c, S, a, X, ρ, Φ, e, g, k, h => by
    simp only [w] at h
    simp only [okE] at k
    split at k
    · simp only [Bool.and_eq_true, decide_eq_true_eq] at k
      rw [k.1.1.1]
      exact de_cmp g.xo k.1.1.2 ((soundE x g k.1.2 h).mono fun t q => soundE y g k.2 q)
    · cases k
  | .chn o o' x y z, c, S, a, X, ρ, Φ, e, g, k, h => by
    simp only [w] at h
    simp only [okE] at k
    split at k
    · simp only [Bool.and_eq_true, decide_eq_true_eq] at k
      rw [k.1.1.1.1.1, k.1.1.1.1.2]
      refine de_chn g.xo k.1.1.1.2 ((soundE x g k.1.1.2 h).mono fun t q => (soundE y g k.1.2 q).mono fun u q => cmp_mono (fun b hb => ite_mono (fun q => soundE z g k.2 q) (fun q => q) hb) q)
    · cases k
  | .and x r, c, S, a, X, ρ, Φ, e, g, k, h => by
    simp only [w] at h
    simp only [okE] at k
    split at k
    · simp only [Bool.and_eq_true] at k
      exact de_and ((soundE x g k.1 h).mono fun t q => q.elim fun b q => ⟨b, q.1, ite_mono (fun q => soundE r g k.2 q) (fun q => q) q.2⟩)
    · cases k
  | .or x r, c, S, a, X, ρ, Φ, e, g, k, h => by
    simp only [w] at h
    simp only [okE] at k
    split at k
    · simp only [Bool.and_eq_true] at k
      exact de_or ((soundE x g k.1 h).mono fun t q => q.elim fun b q => ⟨b, q.1, ite_mono (fun q => q) (fun q => soundE r g k.2 q) q.2⟩)
    · cases k
  | .one x, c, S, a, X, ρ, Φ, e, g, k, h => by
    simp only [w] at h
    simp only [okE] at k
    split at k
    · exact de_one (soundE x g k h)
    · cases k
  | .ife t x y, c, S, a, X, ρ, Φ, e, g, k, h => by
    simp only [w] at h
    simp only [okE] at k
    split at k
    · simp only [Bool.and_eq_true] at k
      exact de_ife ((soundT t g k.1.1 h).mono fun b q => ite_mono (fun q => soundE x g k.1.2 q) (fun q => soundE y g k.2 q) q)
    · cases k
  | .ix x y, c, S, a, X, ρ, Φ, e, g, k, h => by
    simp only [w] at h
    simp only [okE] at k
    split at k
    · simp only [Bool.and_eq_true] at k
      exact de_ix g.xo k.1.1 ((soundE x g k.1.2 h).mono fun t q => soundE y g k.2 q)
    · cases k
  | .sl x lo hi, c, S, a, X, ρ, Φ, e, g, k, h => by
    simp only [w] at h
    simp only [okE] at k
    split at k
    · simp only [Bool.and_eq_true] at k
      exact de_sl g.xo ((soundE x g k.1.1 h).mono fun t q => (soundO lo g k.1.2 q).mono fun l q => soundO hi g k.2 q)
    · cases k
  | .eqO n cl x y, c, S, a, X, ρ, Φ, e, g, k, h => sE_eqO (fun k h => soundE x g k h) (fun k h => soundE y g k h) g k h
  | .isC cl x, c, S, a, X, ρ, Φ, e, g, k, h => sE_isC (fun k h => soundE x g k h) g k h
  | .orv x r, c, S, a, X, ρ, Φ, e, g, k, h => sE_orv (fun k h => soundE x g k h) (fun k h => soundE r g k h) g k h
  | .srtS x, c, S, a, X, ρ, Φ, e, g, k, h => sE_srtS (fun k h => soundE x g k h) g k h
  | .fld cl i x, c, S, a, X, ρ, Φ, e, g, k, h => sE_fld (fun k h => soundE x g k h) g k h
  | .mth n cl x es, c, S, a, X, ρ, Φ, e, g, k, h => sE_mth (fun k h => soundE x g k h) (fun k h => (soundV es g k h).mono fun us q => q.2) g k h
  | .mt0 n cl x, c, S, a, X, ρ, Φ, e, g, k, h => sE_mt0 (fun k h => soundE x g k h) g k h
  | .prp n cl x, c, S, a, X, ρ, Φ, e, g, k, h => sE_prp (fun k h => soundE x g k h) g k h
  | .new n es, c, S, a, X, ρ, Φ, e, g, k, h => sE_new (fun k h => (soundV es g k h).mono fun us q => q.2) g k h
  | .isi ty x, c, S, a, X, ρ, Φ, e, g, k, h => sE_isi (fun k h => soundE x g k h) g k h
  | .lr1 x, c, S, a, X, ρ, Φ, e, g, k, h => sE_lr1 (fun k h => soundE x g k h) g k h
  | .lr2 x y, c, S, a, X, ρ, Φ, e, g, k, h => sE_lr2 (fun k h => soundE x g k h) (fun k h => soundE y g k h) g k h
  | .call n es, c, S, a, X, ρ, Φ, e, g, k, h => by
    simp only [w] at h
    simp only [okE] at k
    split at k
    · simp only [Bool.and_eq_true, decide_eq_true_eq, List.all_cons] at k
      rename_i x _ ea as _
      obtain ⟨⟨⟨⟨k1, k2⟩, k3⟩, k4⟩, k5⟩ := k
      obtain ⟨f, hf, h⟩ := h
      obtain ⟨fn, mono⟩ := g.fns n x f k1 hf
      exact de_call g.xo g.io fn (Ct.glo_of g.co k2) (plain_of k3).1 k4.1 k4.2 ((soundV es g k5 h).mono fun us q => q.2) mono
    · cases k
  | .blt f es, c, S, a, X, ρ, Φ, e, g, k, h => by
    simp only [w] at h
    simp only [okE] at k
    split at k
    · simp only [Bool.and_eq_true, decide_eq_true_eq, List.all_cons] at k
      exact de_blt g.xo k.1.1.1.1 (Ct.glo_of g.co k.1.1.2) (g.bs _ k.1.1.1.2) k.1.2.1 k.1.2.2 ((soundV es g k.2 h).mono fun us q => q.2)
    · cases k
  | .lc own gt src cond elt, c, S, a, X, ρ, Φ, e, g, k, h => by
    simp only [w] at h
    simp only [okE] at k
    split at k
    · simp only [Bool.and_eq_true, decide_eq_true_eq, List.all_eq_true] at k
      obtain ⟨⟨⟨⟨⟨⟨⟨k1, k2⟩, k3⟩, k4⟩, k5⟩, k6⟩, k7⟩, k8⟩ := k
      have sk := blk_kind k1
      refine de_lc (wc := wc S cond) (we := w S elt) g.xo g.co k1 k3 (fun i hi => ?_) (by rw [k2]; exact h.1) k5 (fun H F s H2 C cl fp ρ' Ψ q => soundC cond (g.on.blk sk) k7 q) (fun H F s H2 C cl fp ρ' Ψ q => soundE elt (g.on.blk sk) k8 q) (soundI src g k6 h.2)
      rw [k2]
      have := k4 i hi
      simpa using this
    · cases k
  | .val x, c, S, a, X, ρ, Φ, e, g, k, h => by rw [okE_val] at k; cases k
  | .nil, c, S, a, X, ρ, Φ, e, g, k, h => by rw [okE_nil] at k; cases k
  | .cons x y, c, S, a, X, ρ, Φ, e, g, k, h => by rw [okE_cons] at k; cases k
  | .nop, c, S, a, X, ρ, Φ, e, g, k, h => by rw [okE_nop] at k; cases k
  | .prt x, c, S, a, X, ρ, Φ, e, g, k, h => by rw [okE_prt] at k; cases k
  | .sq x, c, S, a, X, ρ, Φ, e, g, k, h => by rw [okE_sq] at k; cases k
  | .rng x, c, S, a, X, ρ, Φ, e, g, k, h => by rw [okE_rng] at k; cases k
  | .zip x, c, S, a, X, ρ, Φ, e, g, k, h => by rw [okE_zip] at k; cases k
  | .enm x, c, S, a, X, ρ, Φ, e, g, k, h => by rw [okE_enm] at k; cases k
theorem soundA : ∀ (i : I) {c : Cn} {S : Sg} {a : An0} {X : Cx} {ρ : Env} {Ψ : List T → Prop} {es : List Expr}, Good c S a X → okA c i es = true → wa S i ρ Ψ → DA a X ρ es Ψ
  | .nil, c, S, a, X, ρ, Ψ, es, g, k, h => by
    simp only [wa] at h
    simp only [okA] at k
    split at k
    · exact da_nil h
    · cases k
  | .cons e r, c, S, a, X, ρ, Ψ, es, g, k, h => by
    simp only [wa] at h
    simp only [okA] at k
    split at k
    · simp only [Bool.and_eq_true] at k
      exact da_cons k.1.1 ((soundE e g k.1.2 h).mono fun t q => fin_mono (fun u q => soundA r g k.2 q) q)
    · cases k
  | .nm _, c, S, a, X, ρ, Ψ, e, g, k, h
  | .ow _, c, S, a, X, ρ, Ψ, e, g, k, h
  | .gl _, c, S, a, X, ρ, Ψ, e, g, k, h
  | .int _, c, S, a, X, ρ, Ψ, e, g, k, h
  | .str _, c, S, a, X, ρ, Ψ, e, g, k, h
  | .bl _, c, S, a, X, ρ, Ψ, e, g, k, h
  | .non, c, S, a, X, ρ, Ψ, e, g, k, h
  | .tup _, c, S, a, X, ρ, Ψ, e, g, k, h
  | .lst _, c, S, a, X, ρ, Ψ, e, g, k, h
  | .bin _ _ _, c, S, a, X, ρ, Ψ, e, g, k, h
  | .neg _, c, S, a, X, ρ, Ψ, e, g, k, h
  | .not _, c, S, a, X, ρ, Ψ, e, g, k, h
  | .cmp _ _ _, c, S, a, X, ρ, Ψ, e, g, k, h
  | .chn _ _ _ _ _, c, S, a, X, ρ, Ψ, e, g, k, h
  | .and _ _, c, S, a, X, ρ, Ψ, e, g, k, h
  | .or _ _, c, S, a, X, ρ, Ψ, e, g, k, h
  | .one _, c, S, a, X, ρ, Ψ, e, g, k, h
  | .val _, c, S, a, X, ρ, Ψ, e, g, k, h
  | .ife _ _ _, c, S, a, X, ρ, Ψ, e, g, k, h
  | .ix _ _, c, S, a, X, ρ, Ψ, e, g, k, h
  | .sl _ _ _, c, S, a, X, ρ, Ψ, e, g, k, h
  | .nop, c, S, a, X, ρ, Ψ, e, g, k, h
  | .prt _, c, S, a, X, ρ, Ψ, e, g, k, h
  | .call _ _, c, S, a, X, ρ, Ψ, e, g, k, h
  | .eqO _ _ _ _, c, S, a, X, ρ, Ψ, e, g, k, h
  | .isC _ _, c, S, a, X, ρ, Ψ, e, g, k, h
  | .orv _ _, c, S, a, X, ρ, Ψ, e, g, k, h
  | .srtS _, c, S, a, X, ρ, Ψ, e, g, k, h
  | .fld _ _ _, c, S, a, X, ρ, Ψ, e, g, k, h
  | .mth _ _ _ _, c, S, a, X, ρ, Ψ, e, g, k, h
  | .mt0 _ _ _, c, S, a, X, ρ, Ψ, e, g, k, h
  | .prp _ _ _, c, S, a, X, ρ, Ψ, e, g, k, h
  | .new _ _, c, S, a, X, ρ, Ψ, e, g, k, h
  | .isi _ _, c, S, a, X, ρ, Ψ, e, g, k, h
  | .lr1 _, c, S, a, X, ρ, Ψ, e, g, k, h
  | .lr2 _ _, c, S, a, X, ρ, Ψ, e, g, k, h
  | .blt _ _, c, S, a, X, ρ, Ψ, e, g, k, h
  | .lc _ _ _ _ _, c, S, a, X, ρ, Ψ, e, g, k, h
  | .sq _, c, S, a, X, ρ, Ψ, e, g, k, h
  | .rng _, c, S, a, X, ρ, Ψ, e, g, k, h
  | .zip _, c, S, a, X, ρ, Ψ, e, g, k, h
  | .enm _, c, S, a, X, ρ, Ψ, e, g, k, h => by simp [okA] at k
theorem soundV : ∀ (i : I) {c : Cn} {S : Sg} {a : An0} {X : Cx} {ρ : Env} {Ψ : List T → Prop} {es : List Expr}, Good c S a X → okA c i es = true → wv S i ρ Ψ → DV a X ρ es fun us => us.length = es.length ∧ Ψ us
  | .nil, c, S, a, X, ρ, Ψ, es, g, k, h => by
    simp only [wv] at h
    simp only [okA] at k
    split at k
    · exact dv_nil ⟨rfl, h⟩
    · cases k
  | .cons e r, c, S, a, X, ρ, Ψ, es, g, k, h => by
    simp only [wv] at h
    simp only [okA] at k
    split at k
    · simp only [Bool.and_eq_true] at k
      exact dv_cons k.1.1 ((soundE e g k.1.2 h).mono fun t q => (soundV r g k.2 q).mono fun us q => ⟨by rw [List.length_cons, List.length_cons, q.1], q.2⟩)
    · cases k
  | .nm _, c, S, a, X, ρ, Ψ, e, g, k, h
  | .ow _, c, S, a, X, ρ, Ψ, e, g, k, h
  | .gl _, c, S, a, X, ρ, Ψ, e, g, k, h
  | .int _, c, S, a, X, ρ, Ψ, e, g, k, h
  | .str _, c, S, a, X, ρ, Ψ, e, g, k, h
  | .bl _, c, S, a, X, ρ, Ψ, e, g, k, h
  | .non, c, S, a, X, ρ, Ψ, e, g, k, h
  | .tup _, c, S, a, X, ρ, Ψ, e, g, k, h
  | .lst _, c, S, a, X, ρ, Ψ, e, g, k, h
  | .bin _ _ _, c, S, a, X, ρ, Ψ, e, g, k, h
  | .neg _, c, S, a, X, ρ, Ψ, e, g, k, h
  | .not _, c, S, a, X, ρ, Ψ, e, g, k, h
  | .cmp _ _ _, c, S, a, X, ρ, Ψ, e, g, k, h
  | .chn _ _ _ _ _, c, S, a, X, ρ, Ψ, e, g, k, h
  | .and _ _, c, S, a, X, ρ, Ψ, e, g, k, h
  | .or _ _, c, S, a, X, ρ, Ψ, e, g, k, h
  | .one _, c, S, a, X, ρ, Ψ, e, g, k, h
  | .val _, c, S, a, X, ρ, Ψ, e, g, k, h
  | .ife _ _ _, c, S, a, X, ρ, Ψ, e, g, k, h
  | .ix _ _, c, S, a, X, ρ, Ψ, e, g, k, h
  | .sl _ _ _, c, S, a, X, ρ, Ψ, e, g, k, h
  | .nop, c, S, a, X, ρ, Ψ, e, g, k, h
  | .prt _, c, S, a, X, ρ, Ψ, e, g, k, h
  | .call _ _, c, S, a, X, ρ, Ψ, e, g, k, h
  | .eqO _ _ _ _, c, S, a, X, ρ, Ψ, e, g, k, h
  | .isC _ _, c, S, a, X, ρ, Ψ, e, g, k, h
  | .orv _ _, c, S, a, X, ρ, Ψ, e, g, k, h
  | .srtS _, c, S, a, X, ρ, Ψ, e, g, k, h
  | .fld _ _ _, c, S, a, X, ρ, Ψ, e, g, k, h
  | .mth _ _ _ _, c, S, a, X, ρ, Ψ, e, g, k, h
  | .mt0 _ _ _, c, S, a, X, ρ, Ψ, e, g, k, h
  | .prp _ _ _, c, S, a, X, ρ, Ψ, e, g, k, h
  | .new _ _, c, S, a, X, ρ, Ψ, e, g, k, h
  | .isi _ _, c, S, a, X, ρ, Ψ, e, g, k, h
  | .lr1 _, c, S, a, X, ρ, Ψ, e, g, k, h
  | .lr2 _ _, c, S, a, X, ρ, Ψ, e, g, k, h
  | .blt _ _, c, S, a, X, ρ, Ψ, e, g, k, h
  | .lc _ _ _ _ _, c, S, a, X, ρ, Ψ, e, g, k, h
  | .sq _, c, S, a, X, ρ, Ψ, e, g, k, h
  | .rng _, c, S, a, X, ρ, Ψ, e, g, k, h
  | .zip _, c, S, a, X, ρ, Ψ, e, g, k, h
  | .enm _, c, S, a, X, ρ, Ψ, e, g, k, h => by simp [okA] at k
theorem soundO : ∀ (i : I) {c : Cn} {S : Sg} {a : An0} {X : Cx} {ρ : Env} {Ψ : Option Int → Prop} {e : Option Expr}, Good c S a X → okO c i e = true → wo S i ρ Ψ → DO a X ρ e Ψ
  | .nop, c, S, a, X, ρ, Ψ, e, g, k, h => by
    simp only [wo] at h
    simp only [okO] at k
    split at k
    · exact do_none h
    · cases k
  | .prt x, c, S, a, X, ρ, Ψ, e, g, k, h => by
    simp only [wo] at h
    simp only [okO] at k
    split at k
    · exact do_some (soundE x g k h)
    · cases k
  | .nm _, c, S, a, X, ρ, Ψ, e, g, k, h
  | .ow _, c, S, a, X, ρ, Ψ, e, g, k, h
  | .gl _, c, S, a, X, ρ, Ψ, e, g, k, h
  | .int _, c, S, a, X, ρ, Ψ, e, g, k, h
  | .str _, c, S, a, X, ρ, Ψ, e, g, k, h
  | .bl _, c, S, a, X, ρ, Ψ, e, g, k, h
  | .non, c, S, a, X, ρ, Ψ, e, g, k, h
  | .nil, c, S, a, X, ρ, Ψ, e, g, k, h
  | .cons _ _, c, S, a, X, ρ, Ψ, e, g, k, h
  | .tup _, c, S, a, X, ρ, Ψ, e, g, k, h
  | .lst _, c, S, a, X, ρ, Ψ, e, g, k, h
  | .bin _ _ _, c, S, a, X, ρ, Ψ, e, g, k, h
  | .neg _, c, S, a, X, ρ, Ψ, e, g, k, h
  | .not _, c, S, a, X, ρ, Ψ, e, g, k, h
  | .cmp _ _ _, c, S, a, X, ρ, Ψ, e, g, k, h
  | .chn _ _ _ _ _, c, S, a, X, ρ, Ψ, e, g, k, h
  | .and _ _, c, S, a, X, ρ, Ψ, e, g, k, h
  | .or _ _, c, S, a, X, ρ, Ψ, e, g, k, h
  | .one _, c, S, a, X, ρ, Ψ, e, g, k, h
  | .val _, c, S, a, X, ρ, Ψ, e, g, k, h
  | .ife _ _ _, c, S, a, X, ρ, Ψ, e, g, k, h
  | .ix _ _, c, S, a, X, ρ, Ψ, e, g, k, h
  | .sl _ _ _, c, S, a, X, ρ, Ψ, e, g, k, h
  | .call _ _, c, S, a, X, ρ, Ψ, e, g, k, h
  | .eqO _ _ _ _, c, S, a, X, ρ, Ψ, e, g, k, h
  | .isC _ _, c, S, a, X, ρ, Ψ, e, g, k, h
  | .orv _ _, c, S, a, X, ρ, Ψ, e, g, k, h
  | .srtS _, c, S, a, X, ρ, Ψ, e, g, k, h
  | .fld _ _ _, c, S, a, X, ρ, Ψ, e, g, k, h
  | .mth _ _ _ _, c, S, a, X, ρ, Ψ, e, g, k, h
  | .mt0 _ _ _, c, S, a, X, ρ, Ψ, e, g, k, h
  | .prp _ _ _, c, S, a, X, ρ, Ψ, e, g, k, h
  | .new _ _, c, S, a, X, ρ, Ψ, e, g, k, h
  | .isi _ _, c, S, a, X, ρ, Ψ, e, g, k, h
  | .lr1 _, c, S, a, X, ρ, Ψ, e, g, k, h
  | .lr2 _ _, c, S, a, X, ρ, Ψ, e, g, k, h
  | .blt _ _, c, S, a, X, ρ, Ψ, e, g, k, h
  | .lc _ _ _ _ _, c, S, a, X, ρ, Ψ, e, g, k, h
  | .sq _, c, S, a, X, ρ, Ψ, e, g, k, h
  | .rng _, c, S, a, X, ρ, Ψ, e, g, k, h
  | .zip _, c, S, a, X, ρ, Ψ, e, g, k, h
  | .enm _, c, S, a, X, ρ, Ψ, e, g, k, h => by simp [okO] at k
theorem soundC : ∀ (i : I) {c : Cn} {S : Sg} {a : An0} {X : Cx} {ρ : Env} {Ψ : Bool → Prop} {es : List Expr}, Good c S a X → okC c i es = true → wc S i ρ Ψ → DC a X ρ es Ψ
  | .nop, c, S, a, X, ρ, Ψ, es, g, k, h => by
    simp only [wc] at h
    simp only [okC] at k
    split at k
    · exact dc_nil h
    · cases k
  | .one x, c, S, a, X, ρ, Ψ, es, g, k, h => by
    simp only [wc] at h
    simp only [okC] at k
    split at k
    · exact dc_one (soundT x g k h)
    · cases k
  | .nm _, c, S, a, X, ρ, Ψ, e, g, k, h
  | .ow _, c, S, a, X, ρ, Ψ, e, g, k, h
  | .gl _, c, S, a, X, ρ, Ψ, e, g, k, h
  | .int _, c, S, a, X, ρ, Ψ, e, g, k, h
  | .str _, c, S, a, X, ρ, Ψ, e, g, k, h
  | .bl _, c, S, a, X, ρ, Ψ, e, g, k, h
  | .non, c, S, a, X, ρ, Ψ, e, g, k, h
  | .nil, c, S, a, X, ρ, Ψ, e, g, k, h
  | .cons _ _, c, S, a, X, ρ, Ψ, e, g, k, h
  | .tup _, c, S, a, X, ρ, Ψ, e, g, k, h
  | .lst _, c, S, a, X, ρ, Ψ, e, g, k, h
  | .bin _ _ _, c, S, a, X, ρ, Ψ, e, g, k, h
  | .neg _, c, S, a, X, ρ, Ψ, e, g, k, h
  | .not _, c, S, a, X, ρ, Ψ, e, g, k, h
  | .cmp _ _ _, c, S, a, X, ρ, Ψ, e, g, k, h
  | .chn _ _ _ _ _, c, S, a, X, ρ, Ψ, e, g, k, h
  | .and _ _, c, S, a, X, ρ, Ψ, e, g, k, h
  | .or _ _, c, S, a, X, ρ, Ψ, e, g, k, h
  | .val _, c, S, a, X, ρ, Ψ, e, g, k, h
  | .ife _ _ _, c, S, a, X, ρ, Ψ, e, g, k, h
  | .ix _ _, c, S, a, X, ρ, Ψ, e, g, k, h
  | .sl _ _ _, c, S, a, X, ρ, Ψ, e, g, k, h
  | .prt _, c, S, a, X, ρ, Ψ, e, g, k, h
  | .call _ _, c, S, a, X, ρ, Ψ, e, g, k, h
  | .eqO _ _ _ _, c, S, a, X, ρ, Ψ, e, g, k, h
  | .isC _ _, c, S, a, X, ρ, Ψ, e, g, k, h
  | .orv _ _, c, S, a, X, ρ, Ψ, e, g, k, h
  | .srtS _, c, S, a, X, ρ, Ψ, e, g, k, h
  | .fld _ _ _, c, S, a, X, ρ, Ψ, e, g, k, h
  | .mth _ _ _ _, c, S, a, X, ρ, Ψ, e, g, k, h
  | .mt0 _ _ _, c, S, a, X, ρ, Ψ, e, g, k, h
  | .prp _ _ _, c, S, a, X, ρ, Ψ, e, g, k, h
  | .new _ _, c, S, a, X, ρ, Ψ, e, g, k, h
  | .isi _ _, c, S, a, X, ρ, Ψ, e, g, k, h
  | .lr1 _, c, S, a, X, ρ, Ψ, e, g, k, h
  | .lr2 _ _, c, S, a, X, ρ, Ψ, e, g, k, h
  | .blt _ _, c, S, a, X, ρ, Ψ, e, g, k, h
  | .lc _ _ _ _ _, c, S, a, X, ρ, Ψ, e, g, k, h
  | .sq _, c, S, a, X, ρ, Ψ, e, g, k, h
  | .rng _, c, S, a, X, ρ, Ψ, e, g, k, h
  | .zip _, c, S, a, X, ρ, Ψ, e, g, k, h
  | .enm _, c, S, a, X, ρ, Ψ, e, g, k, h => by simp [okC] at k
theorem soundT : ∀ (i : I) {c : Cn} {S : Sg} {a : An0} {X : Cx} {ρ : Env} {Ψ : Bool → Prop} {e : Expr}, Good c S a X → okT c i e = true → wt S i ρ Ψ → DT a X ρ e Ψ
  | .not x, c, S, a, X, ρ, Ψ, e, g, k, h => by
    simp only [wt] at h
    simp only [okT] at k
    split at k
    · exact dt_not (soundT x g k h)
    · cases k
  | .and x r, c, S, a, X, ρ, Ψ, e, g, k, h => by
    simp only [wt] at h
    simp only [okT] at k
    split at k
    · simp only [Bool.and_eq_true] at k
      exact dt_bool (dw_and ((soundT x g k.1 h).mono fun b q => ite_mono (fun q => soundW r g k.2 q) (fun q => q) q))
    · cases k
  | .or x r, c, S, a, X, ρ, Ψ, e, g, k, h => by
    simp only [wt] at h
    simp only [okT] at k
    split at k
    · simp only [Bool.and_eq_true] at k
      exact dt_bool (dw_or ((soundT x g k.1 h).mono fun b q => ite_mono (fun q => q) (fun q => soundW r g k.2 q) q))
    · cases k
  | .cmp o x y, c, S, a, X, ρ, Ψ, e, g, k, h => by
    simp only [wt] at h
    simp only [okT] at k
    split at k
    · simp only [Bool.and_eq_true, decide_eq_true_eq] at k
      rw [k.1.1.1]
      exact dt_cmp g.xo k.1.1.2 ((soundE x g k.1.2 h).mono fun t q => soundE y g k.2 q)
    · cases k
  | .chn o o' x y z, c, S, a, X, ρ, Ψ, e, g, k, h => by
    simp only [wt] at h
    simp only [okT] at k
    split at k
    · simp only [Bool.and_eq_true, decide_eq_true_eq] at k
      rw [k.1.1.1.1.1, k.1.1.1.1.2]
      exact dt_chn g.xo k.1.1.1.2 ((soundE x g k.1.1.2 h).mono fun t q => (soundE y g k.1.2 q).mono fun u q => cmp_mono (fun b hb => ite_mono (fun q => soundE z g k.2 q) (fun q => q) hb) q)
    · cases k
  | .eqO n cl x y, c, S, a, X, ρ, Ψ, e, g, k, h => sT_eqO (fun k h => soundE x g k h) (fun k h => soundE y g k h) g k h
  | .val x, c, S, a, X, ρ, Ψ, e, g, k, h => by
    simp only [wt] at h
    simp only [okT, Bool.and_eq_true] at k
    exact dt_val g.xo k.1 (soundE x g k.2 h)
  | .nm _, c, S, a, X, ρ, Ψ, e, g, k, h
  | .ow _, c, S, a, X, ρ, Ψ, e, g, k, h
  | .gl _, c, S, a, X, ρ, Ψ, e, g, k, h
  | .int _, c, S, a, X, ρ, Ψ, e, g, k, h
  | .str _, c, S, a, X, ρ, Ψ, e, g, k, h
  | .bl _, c, S, a, X, ρ, Ψ, e, g, k, h
  | .non, c, S, a, X, ρ, Ψ, e, g, k, h
  | .nil, c, S, a, X, ρ, Ψ, e, g, k, h
  | .cons _ _, c, S, a, X, ρ, Ψ, e, g, k, h
  | .tup _, c, S, a, X, ρ, Ψ, e, g, k, h
  | .lst _, c, S, a, X, ρ, Ψ, e, g, k, h
  | .bin _ _ _, c, S, a, X, ρ, Ψ, e, g, k, h
  | .neg _, c, S, a, X, ρ, Ψ, e, g, k, h
  | .one _, c, S, a, X, ρ, Ψ, e, g, k, h
  | .ife _ _ _, c, S, a, X, ρ, Ψ, e, g, k, h
  | .ix _ _, c, S, a, X, ρ, Ψ, e, g, k, h
  | .sl _ _ _, c, S, a, X, ρ, Ψ, e, g, k, h
  | .nop, c, S, a, X, ρ, Ψ, e, g, k, h
  | .prt _, c, S, a, X, ρ, Ψ, e, g, k, h
  | .call _ _, c, S, a, X, ρ, Ψ, e, g, k, h
  | .isC _ _, c, S, a, X, ρ, Ψ, e, g, k, h
  | .orv _ _, c, S, a, X, ρ, Ψ, e, g, k, h
  | .srtS _, c, S, a, X, ρ, Ψ, e, g, k, h
  | .fld _ _ _, c, S, a, X, ρ, Ψ, e, g, k, h
  | .mth _ _ _ _, c, S, a, X, ρ, Ψ, e, g, k, h
  | .mt0 _ _ _, c, S, a, X, ρ, Ψ, e, g, k, h
  | .prp _ _ _, c, S, a, X, ρ, Ψ, e, g, k, h
  | .new _ _, c, S, a, X, ρ, Ψ, e, g, k, h
  | .isi _ _, c, S, a, X, ρ, Ψ, e, g, k, h
  | .lr1 _, c, S, a, X, ρ, Ψ, e, g, k, h
  | .lr2 _ _, c, S, a, X, ρ, Ψ, e, g, k, h
  | .blt _ _, c, S, a, X, ρ, Ψ, e, g, k, h
  | .lc _ _ _ _ _, c, S, a, X, ρ, Ψ, e, g, k, h
  | .sq _, c, S, a, X, ρ, Ψ, e, g, k, h
  | .rng _, c, S, a, X, ρ, Ψ, e, g, k, h
  | .zip _, c, S, a, X, ρ, Ψ, e, g, k, h
  | .enm _, c, S, a, X, ρ, Ψ, e, g, k, h => by simp [okT] at k
theorem soundW : ∀ (i : I) {c : Cn} {S : Sg} {a : An0} {X : Cx} {ρ : Env} {Ψ : Bool → Prop} {op : PySem.BoolOp} {es : List Expr}, Good c S a X → okW c i op es = true → wt S i ρ Ψ → DW a X ρ op es Ψ
  | .and x r, c, S, a, X, ρ, Ψ, op, es, g, k, h => by
    simp only [wt] at h
    simp only [okW] at k
    split at k
    · simp only [Bool.and_eq_true] at k
      exact dw_and ((soundT x g k.1 h).mono fun b q => ite_mono (fun q => soundW r g k.2 q) (fun q => q) q)
    · cases k
  | .or x r, c, S, a, X, ρ, Ψ, op, es, g, k, h => by
    simp only [wt] at h
    simp only [okW] at k
    split at k
    · simp only [Bool.and_eq_true] at k
      exact dw_or ((soundT x g k.1 h).mono fun b q => ite_mono (fun q => q) (fun q => soundW r g k.2 q) q)
    · cases k
  | .one x, c, S, a, X, ρ, Ψ, op, es, g, k, h => by
    simp only [wt] at h
    cases op <;> simp only [okW] at k <;> split at k
    · exact dw_and1 (soundT x g k h)
    · cases k
    · exact dw_or1 (soundT x g k h)
    · cases k
  | .nm _, c, S, a, X, ρ, Ψ, op, es, g, k, h
  | .ow _, c, S, a, X, ρ, Ψ, op, es, g, k, h
  | .gl _, c, S, a, X, ρ, Ψ, op, es, g, k, h
  | .int _, c, S, a, X, ρ, Ψ, op, es, g, k, h
  | .str _, c, S, a, X, ρ, Ψ, op, es, g, k, h
  | .bl _, c, S, a, X, ρ, Ψ, op, es, g, k, h
  | .non, c, S, a, X, ρ, Ψ, op, es, g, k, h
  | .nil, c, S, a, X, ρ, Ψ, op, es, g, k, h
  | .cons _ _, c, S, a, X, ρ, Ψ, op, es, g, k, h
  | .tup _, c, S, a, X, ρ, Ψ, op, es, g, k, h
  | .lst _, c, S, a, X, ρ, Ψ, op, es, g, k, h
  | .bin _ _ _, c, S, a, X, ρ, Ψ, op, es, g, k, h
  | .neg _, c, S, a, X, ρ, Ψ, op, es, g, k, h
  | .not _, c, S, a, X, ρ, Ψ, op, es, g, k, h
  | .cmp _ _ _, c, S, a, X, ρ, Ψ, op, es, g, k, h
  | .chn _ _ _ _ _, c, S, a, X, ρ, Ψ, op, es, g, k, h
  | .val _, c, S, a, X, ρ, Ψ, op, es, g, k, h
  | .ife _ _ _, c, S, a, X, ρ, Ψ, op, es, g, k, h
  | .ix _ _, c, S, a, X, ρ, Ψ, op, es, g, k, h
  | .sl _ _ _, c, S, a, X, ρ, Ψ, op, es, g, k, h
  | .nop, c, S, a, X, ρ, Ψ, op, es, g, k, h
  | .prt _, c, S, a, X, ρ, Ψ, op, es, g, k, h
  | .call _ _, c, S, a, X, ρ, Ψ, op, es, g, k, h
  | .eqO _ _ _ _, c, S, a, X, ρ, Ψ, op, es, g, k, h
  | .isC _ _, c, S, a, X, ρ, Ψ, op, es, g, k, h
  | .orv _ _, c, S, a, X, ρ, Ψ, op, es, g, k, h
  | .srtS _, c, S, a, X, ρ, Ψ, op, es, g, k, h
  | .fld _ _ _, c, S, a, X, ρ, Ψ, op, es, g, k, h
  | .mth _ _ _ _, c, S, a, X, ρ, Ψ, op, es, g, k, h
  | .mt0 _ _ _, c, S, a, X, ρ, Ψ, op, es, g, k, h
  | .prp _ _ _, c, S, a, X, ρ, Ψ, op, es, g, k, h
  | .new _ _, c, S, a, X, ρ, Ψ, op, es, g, k, h
  | .isi _ _, c, S, a, X, ρ, Ψ, op, es, g, k, h
  | .lr1 _, c, S, a, X, ρ, Ψ, op, es, g, k, h
  | .lr2 _ _, c, S, a, X, ρ, Ψ, op, es, g, k, h
  | .blt _ _, c, S, a, X, ρ, Ψ, op, es, g, k, h
  | .lc _ _ _ _ _, c, S, a, X, ρ, Ψ, op, es, g, k, h
  | .sq _, c, S, a, X, ρ, Ψ, op, es, g, k, h
  | .rng _, c, S, a, X, ρ, Ψ, op, es, g, k, h
  | .zip _, c, S, a, X, ρ, Ψ, op, es, g, k, h
  | .enm _, c, S, a, X, ρ, Ψ, op, es, g, k, h => by simp [okW] at k
theorem soundI : ∀ (i : I) {c : Cn} {S : Sg} {a : An0} {X : Cx} {ρ : Env} {Ψ : List D → Prop} {tg e : Expr}, Good c S a X → okI c i tg e = true → wi S i ρ Ψ → DI a X ρ tg e Ψ
  | .sq x, c, S, a, X, ρ, Ψ, tg, e, g, k, h => by
    simp only [wi] at h
    simp only [okI] at k
    exact di_any g.xo g.io (soundE x g k h)
  | .rng es, c, S, a, X, ρ, Ψ, tg, e, g, k, h => by
    simp only [wi] at h
    simp only [okI] at k
    split at k
    · simp only [Bool.and_eq_true, decide_eq_true_eq] at k
      obtain ⟨⟨⟨⟨⟨k1, k2⟩, k3⟩, k4⟩, k5⟩, k6⟩ := k
      rename_i x _ as _
      have ex := beq_iff_eq.mp k1
      subst ex
      have gl := Ct.glo_of g.co k3
      have mg := g.bs _ k2
      have dv := soundV es g k5 h
      rcases as with _ | ⟨a1, _ | ⟨a2, _ | ⟨a3, _ | ⟨a4, as⟩⟩⟩⟩
      · simp at k6
      · simp only [List.all_cons, List.all_nil, Bool.and_true] at k4
        exact di_rng1 gl mg k4 (dv.mono fun us q => rng1_of q)
      · simp only [List.all_cons, List.all_nil, Bool.and_true, Bool.and_eq_true] at k4
        exact di_rng2 gl mg k4.1 k4.2 (dv.mono fun us q => rng2_of q)
      · simp only [List.all_cons, List.all_nil, Bool.and_true, Bool.and_eq_true] at k4
        exact di_rng3 gl mg k4.1 k4.2.1 k4.2.2 (dv.mono fun us q => rng3_of q)
      · simp at k6
    · cases k
  | .zip es, c, S, a, X, ρ, Ψ, tg, e, g, k, h => by
    simp only [wi] at h
    simp only [okI] at k
    split at k
    · simp only [Bool.and_eq_true, decide_eq_true_eq, List.all_cons, List.all_nil, Bool.and_true] at k
      obtain ⟨⟨⟨⟨⟨k1, k2⟩, k3⟩, k4⟩, k5⟩, k6⟩ := k
      have ex := beq_iff_eq.mp k1
      subst ex
      exact di_zip g.xo g.io (Ct.glo_of g.co k3) (g.bs _ k2) k4 k5.1 k5.2 ((soundV es g k6 h).mono fun us q => q.2)
    · cases k
  | .enm es, c, S, a, X, ρ, Ψ, tg, e, g, k, h => by
    simp only [wi] at h
    simp only [okI] at k
    split at k
    · simp only [Bool.and_eq_true, decide_eq_true_eq, List.all_cons, List.all_nil, Bool.and_true] at k
      obtain ⟨⟨⟨⟨⟨k1, k2⟩, k3⟩, k4⟩, k5⟩, k6⟩ := k
      have ex := beq_iff_eq.mp k1
      subst ex
      exact di_enum g.xo g.io (Ct.glo_of g.co k3) (g.bs _ k2) k4 k5 ((soundV es g k6 h).mono fun us q => q.2)
    · cases k
  | .nm _, c, S, a, X, ρ, Ψ, tg, e, g, k, h
  | .ow _, c, S, a, X, ρ, Ψ, tg, e, g, k, h
  | .gl _, c, S, a, X, ρ, Ψ, tg, e, g, k, h
  | .int _, c, S, a, X, ρ, Ψ, tg, e, g, k, h
  | .str _, c, S, a, X, ρ, Ψ, tg, e, g, k, h
  | .bl _, c, S, a, X, ρ, Ψ, tg, e, g, k, h
  | .non, c, S, a, X, ρ, Ψ, tg, e, g, k, h
  | .nil, c, S, a, X, ρ, Ψ, tg, e, g, k, h
  | .cons _ _, c, S, a, X, ρ, Ψ, tg, e, g, k, h
  | .tup _, c, S, a, X, ρ, Ψ, tg, e, g, k, h
  | .lst _, c, S, a, X, ρ, Ψ, tg, e, g, k, h
  | .bin _ _ _, c, S, a, X, ρ, Ψ, tg, e, g, k, h
  | .neg _, c, S, a, X, ρ, Ψ, tg, e, g, k, h
  | .not _, c, S, a, X, ρ, Ψ, tg, e, g, k, h
  | .cmp _ _ _, c, S, a, X, ρ, Ψ, tg, e, g, k, h
  | .chn _ _ _ _ _, c, S, a, X, ρ, Ψ, tg, e, g, k, h
  | .and _ _, c, S, a, X, ρ, Ψ, tg, e, g, k, h
  | .or _ _, c, S, a, X, ρ, Ψ, tg, e, g, k, h
  | .one _, c, S, a, X, ρ, Ψ, tg, e, g, k, h
  | .val _, c, S, a, X, ρ, Ψ, tg, e, g, k, h
  | .ife _ _ _, c, S, a, X, ρ, Ψ, tg, e, g, k, h
  | .ix _ _, c, S, a, X, ρ, Ψ, tg, e, g, k, h
  | .sl _ _ _, c, S, a, X, ρ, Ψ, tg, e, g, k, h
  | .nop, c, S, a, X, ρ, Ψ, tg, e, g, k, h
  | .prt _, c, S, a, X, ρ, Ψ, tg, e, g, k, h
  | .call _ _, c, S, a, X, ρ, Ψ, tg, e, g, k, h
  | .eqO _ _ _ _, c, S, a, X, ρ, Ψ, tg, e, g, k, h
  | .isC _ _, c, S, a, X, ρ, Ψ, tg, e, g, k, h
  | .orv _ _, c, S, a, X, ρ, Ψ, tg, e, g, k, h
  | .srtS _, c, S, a, X, ρ, Ψ, tg, e, g, k, h
  | .fld _ _ _, c, S, a, X, ρ, Ψ, tg, e, g, k, h
  | .mth _ _ _ _, c, S, a, X, ρ, Ψ, tg, e, g, k, h
  | .mt0 _ _ _, c, S, a, X, ρ, Ψ, tg, e, g, k, h
  | .prp _ _ _, c, S, a, X, ρ, Ψ, tg, e, g, k, h
  | .new _ _, c, S, a, X, ρ, Ψ, tg, e, g, k, h
  | .isi _ _, c, S, a, X, ρ, Ψ, tg, e, g, k, h
  | .lr1 _, c, S, a, X, ρ, Ψ, tg, e, g, k, h
  | .lr2 _ _, c, S, a, X, ρ, Ψ, tg, e, g, k, h
  | .blt _ _, c, S, a, X, ρ, Ψ, tg, e, g, k, h
  | .lc _ _ _ _ _, c, S, a, X, ρ, Ψ, tg, e, g, k, h => by simp [okI] at k
end
end
end DL
namespace DL
open PySem PySem.Spec PyProof.Rows L2
section
variable {a : An0} {X : Cx} {ρ : Env} {σ : L2.St} {ts : List T} {vs : List V} {H F : Hp} {Sc Sm : List Addr} {Φ : T → Prop} {pos p : Pos} {e A B C : Expr} {es : List Expr} {K : EnD}
/-! ### a slot is let be; a list of two is taken apart -/
theorem db_fgt {i : Nat} {sts : List Stmt} (h : DB a X (ρ.put i none) sts K) : DB a X ρ sts K := fun σ H D ok m => by
  obtain ⟨F, Sc, Sm, w⟩ := ok
  have e : ∃ x, σ.set i x = σ := by
    by_cases hi : i < σ.length
    · exact ⟨σ[i], List.set_getElem_self hi⟩
    · exact ⟨none, List.set_eq_of_length_le (by omega)⟩
  obtain ⟨x, e⟩ := e
  obtain ⟨Sc', w'⟩ := w.forget (x := x) i
  rw [e] at w'
  exact h σ H D ⟨F, Sc', Sm, w'⟩ m
theorem swaps_tup {ts : List Expr} {kt : Nat} {pt : Pos} {l : Nat} {env : PySem.Env} (e : Expr) : swapsWithSole [.Tuple ts kt pt] e l env = pure false := by
  cases e <;> rfl
theorem swst_tup {ts : List Expr} {kt : Nat} {pt : Pos} {env : PySem.Env} {e : Expr} (h : isTup e = false) : swappedStores [.Tuple ts kt pt] e env = pure none := by
  cases e <;> first | rfl | simp [isTup] at h
theorem ds_unp2 {c : Ct} {i j : Nat} {t1 t2 : Expr} {kt : Nat} {pt : Pos} (xo : XOk a X) (co : COk c X) (hg : okGs c (.cons (.nm i) (.cons (.nm j) .nil)) [t1, t2] = true) (ht : isTup e = false)
    (h : DE a X ρ e fun t => ∃ u v, t.its = some [u, v] ∧ i < ρ.length ∧ j < ρ.length ∧ K.nx ((ρ.put i (some u)).put j (some v))) : DS a X ρ (.Assign [.Tuple [t1, t2] kt pt] e pos) K := fun σ H D ok m => by
  obtain ⟨q1, q2⟩ := asg_of (env := X.env) hg
  refine ⟨_, ps_asg pe_W (pg_unl (n := 2) xo.calm (pgs_W (e := [t1, t2])) q1 q2) (swaps_tup e) (swst_tup ht) rfl, ?_⟩
  show WE X e σ H fun x H1 => ∃ a xs, x = V.ref a ∧ SqL X.K H1 a xs ∧ xs.length = 2 ∧ WGs X [t1, t2] xs σ H1 D.nx
  refine h σ H [] [] _ ok fun v t H1 ⟨u, u', hit, hi, hj, hk⟩ ok1 => ?_
  obtain ⟨F, Sc, Sm, w⟩ := ok1
  obtain ⟨l, ws, rfl, hl, ⟨l2, n2⟩, Sm', w'⟩ := w.opens hit
  refine ⟨l, ws, rfl, .inl (.inl hl), l2.symm, ?_⟩
  have nn : T.nvs [u, u'] = true := by
    have := w'.tmps
    have t2 : OwL a.toAn F H1 [u, u'] ws Sm' := by simpa using this
    exact t2.nvs n2
  refine dgs xo co (g := .cons (.nm i) (.cons (.nm j) .nil)) hg nn (ts := []) (vs := []) ⟨F, Sc, Sm', by simpa using w'⟩ l2 (ρ' := (ρ.put i (some u)).put j (some u')) ?_ fun σ' ok3 _ => m.1 _ σ' H1 hk ok3
  have e1 : bindG (.nm i) u ρ = some (ρ.put i (some u)) := by simp only [bindG]; exact if_pos hi
  have e2 : bindG (.nm j) u' (ρ.put i (some u)) = some ((ρ.put i (some u)).put j (some u')) := by simp only [bindG]; exact if_pos (by rw [Env.put_length]; exact hj)
  simp only [bindL, e1, e2, Option.bind_some]
end
end DL
namespace DL
open PySem PySem.Spec PyProof.Rows L2

/-! ### blocks in short -/
inductive B where
  | nil
  | asg (g : Tg) (e : I) (r : B)
  | asgLc (i : Nat) (own : List Nat) (g : Tg) (src cond elt : I) (r : B)
  | par2 (i j : Nat) (x y : I) (r : B)
  | par3 (i j l : Nat) (x y z : I) (r : B)
  | aug (o : Aop) (i : Nat) (e : I) (r : B)
  | setix (i : Nat) (x e : I) (r : B)
  | augix (o : Aop) (i : Nat) (x e : I) (r : B)
  | app (i : Nat) (e : I) (r : B)
  | augix2 (o : Aop) (i : Nat) (x y e : I) (r : B)
  | ext (i : Nat) (e : I) (r : B)
  | ex (e : I) (r : B)
  | ret (e : I) (r : B)
  | retN (r : B)
  | ite (t : I) (x y r : B)
  | for_ (g : Tg) (src : I) (b r : B)
  | whl (t : I) (b r : B)
  | pass (r : B) | brk (r : B) | cont (r : B)
  | fz (i : Nat) (r : B)
  | fgt (i : Nat) (r : B)
  | unp2 (i j : Nat) (e : I) (r : B)
  | dead
def wb (S : Sg) : B → Env → EnD → Prop
  | .nil, ρ, K => K.nx ρ
  | .asg g e r, ρ, K => w S e ρ fun t => t.fin fun u => ∃ ρ', bindG g u ρ = some ρ' ∧ wb S r ρ' K
  | .asgLc i own g src cond elt r, ρ, K => i < ρ.length ∧ ρ.wipes own = ρ ∧ wi S src ρ fun ds => ds.length ≤ 100000 ∧ lcW g (wc S cond) (w S elt) ρ ds [] fun us => wb S r (ρ.put i (some (.lst us))) K
  | .par2 i j x y r, ρ, K => i ≠ j ∧ i < ρ.length ∧ j < ρ.length ∧ w S x ρ fun t => t.fin fun u => w S y ρ fun t' => t'.fin fun v => wb S r ((ρ.put i (some u)).put j (some v)) K
  | .par3 i j l x y z r, ρ, K => (i ≠ j ∧ i ≠ l ∧ j ≠ l) ∧ (i < ρ.length ∧ j < ρ.length ∧ l < ρ.length) ∧ w S x ρ fun t => t.fin fun u => w S y ρ fun t' => t'.fin fun v => w S z ρ fun t'' => t''.fin fun q => wb S r (((ρ.put i (some u)).put j (some v)).put l (some q)) K
  | .aug o i e r, ρ, K => ∃ d, ρ.at i = some (.leaf d) ∧ i < ρ.length ∧ w S e ρ fun y => augD o d y.dat fun z => wb S r (ρ.put i (some (.leaf z))) K
  | .setix i x e r, ρ, K => ∃ us, ρ.at i = some (.lst us) ∧ w S e ρ fun t => t.fin fun u => w S x ρ fun y => ∃ n j, y.dat = .int n ∧ ixN us.length n = some j ∧ wb S r (ρ.put i (some (.lst (us.set j u)))) K
  | .augix o i x e r, ρ, K => ∃ us, ρ.at i = some (.lst us) ∧ w S x ρ fun y => ∃ n j d, y.dat = .int n ∧ ixN us.length n = some j ∧ us[j]? = some (.leaf d) ∧ w S e ρ fun y2 => augD o d y2.dat fun z => wb S r (ρ.put i (some (.lst (us.set j (.leaf z))))) K
  | .app i e r, ρ, K => ∃ us, ρ.at i = some (.lst us) ∧ us.length ≤ 99999 ∧ w S e ρ fun t => t.fin fun u => wb S r (ρ.put i (some (.lst (us ++ [u])))) K
  | .augix2 o i x y e r, ρ, K => ∃ us, ρ.at i = some (.lst us) ∧ w S x ρ fun y1 => ∃ n1 j1 ws, y1.dat = .int n1 ∧ ixN us.length n1 = some j1 ∧ us[j1]? = some (.lst ws) ∧ w S y ρ fun y2 => ∃ n2 j2 d, y2.dat = .int n2 ∧ ixN ws.length n2 = some j2 ∧ ws[j2]? = some (.leaf d) ∧ w S e ρ fun y3 => augD o d y3.dat fun z => wb S r (ρ.put i (some (.lst (us.set j1 (.lst (ws.set j2 (.leaf z))))))) K
  | .ext i e r, ρ, K => ∃ us, ρ.at i = some (.lst us) ∧ w S e ρ fun t => ∃ us2, t.its = some us2 ∧ us.length + us2.length ≤ 100000 ∧ wb S r (ρ.put i (some (.lst (us ++ us2)))) K
  | .ex e r, ρ, K => w S e ρ fun _ => wb S r ρ K
  | .fgt i r, ρ, K => wb S r (ρ.put i none) K
  | .unp2 i j e r, ρ, K => w S e ρ fun t => ∃ u v, t.its = some [u, v] ∧ i < ρ.length ∧ j < ρ.length ∧ wb S r ((ρ.put i (some u)).put j (some v)) K
  | .ret e r, ρ, K => w S e ρ fun t => t.fin fun u => K.rt u ρ
  | .retN r, ρ, K => K.rt (.leaf .non) ρ
  | .ite t x y r, ρ, K => wt S t ρ fun b => if b = true then wb S x ρ { K with nx := fun ρ' => wb S r ρ' K } else wb S y ρ { K with nx := fun ρ' => wb S r ρ' K }
  | .for_ g src b r, ρ, K => wi S src ρ fun ds => forW g (fun ρ K => wb S b ρ K) ds ρ { K with nx := fun ρ' => wb S r ρ' K }
  | .whl t b r, ρ, K => ∃ n, whileW (wt S t) (fun ρ K => wb S b ρ K) n ρ { K with nx := fun ρ' => wb S r ρ' K }
  | .pass r, ρ, K => wb S r ρ K
  | .brk r, ρ, K => K.bk ρ
  | .cont r, ρ, K => K.ct ρ
  | .dead, _, _ => False
  | .fz i r, ρ, K => S.z = true ∧ ∃ u, ρ.at i = some u ∧ wb S r (ρ.put i (some (.leaf u.dat))) K
def okB (c : Cn) : B → List Stmt → Bool
  | .nil, s => match s with | [] => true | _ => false
  | .asg g e r, s => match s with | .Assign [tg] v _ :: rest => okG c.toCt g tg && noComp v && noPar2 c.toCt tg v && okE c e v && okB c r rest | _ => false
  | .asgLc i own g src cond elt r, s => match s with
    | .Assign [.Name y _] (.ListComp el [⟨tg, it, ifs, 0⟩] scope _) _ :: rest => nameIs c.toCt i y && c.loc y && blkC c.N c.sc scope (ownOf c own) && decide ((ownOf c own).map (·.2) = own) && okG (c.inn scope).toCt g tg && g.slots.all (fun i => own.contains i) && notSet it && okI c src tg it && okC (c.inn scope) cond ifs && okE (c.inn scope) elt el && okB c r rest
    | _ => false
  | .par2 i j x y r, s => match s with
    | .Assign [.Tuple [.Name n px, .Name m py] _ _] (.Tuple [A, B] _ _) _ :: rest => nameIs c.toCt i n && nameIs c.toCt j m && par2Ok c.toCt n m px py A B && notStar A && notStar B && okE c x A && okE c y B && okB c r rest
    | _ => false
  | .par3 i j l x y z r, s => match s with
    | .Assign [.Tuple [.Name n px, .Name m py, .Name q pz] _ _] (.Tuple [A, B, C] _ _) _ :: rest => nameIs c.toCt i n && nameIs c.toCt j m && nameIs c.toCt l q && par3Ok c.toCt n m q px py pz A B C && notStar A && notStar B && notStar C && okE c x A && okE c y B && okE c z C && okB c r rest
    | _ => false
  | .aug o i e r, s => match s with
    | .AugAssign (.Name x _) op v _ :: rest => decide (op = o.op) && nameIs c.toCt i x && c.loc x && okE c e v && okB c r rest
    | _ => false
  | .setix i x e r, s => match s with
    | .Assign [.Subscript (.Name n _) k _] v _ :: rest => nameIs c.toCt i n && c.vis n && plainName n && noComp v && notSlice k && okE c e v && okE c x k && okB c r rest
    | _ => false
  | .augix o i x e r, s => match s with
    | .AugAssign (.Subscript (.Name n _) k _) op v _ :: rest => decide (op = o.op) && nameIs c.toCt i n && c.vis n && plainName n && notSlice k && okE c x k && okE c e v && okB c r rest
    | _ => false
  | .app i e r, s => match s with
    | .Expr (.Call (.Attribute (.Name n _) m ap) [v] [] cp) _ :: rest => (m == ("append" : Str)) && nameIs c.toCt i n && c.vis n && plainName n && (ap.endLine == cp.line) && notStar v && okE c e v && okB c r rest
    | _ => false
  | .augix2 o i x y e r, s => match s with
    | .AugAssign (.Subscript (.Subscript (.Name n _) k1 _) k2 _) op v _ :: rest => decide (op = o.op) && nameIs c.toCt i n && c.vis n && plainName n && notSlice k1 && notSlice k2 && okE c x k1 && okE c y k2 && okE c e v && okB c r rest
    | _ => false
  | .ext i e r, s => match s with
    | .Expr (.Call (.Attribute (.Name n _) m ap) [v] [] cp) _ :: rest => (m == ("extend" : Str)) && nameIs c.toCt i n && c.vis n && plainName n && (ap.endLine == cp.line) && notStar v && okE c e v && okB c r rest
    | _ => false
  | .fgt i r, s => okB c r s
  | .unp2 i j e r, s => match s with
    | .Assign [.Tuple [t1, t2] _ _] v _ :: rest => okGs c.toCt (.cons (.nm i) (.cons (.nm j) .nil)) [t1, t2] && !isTup v && okE c e v && okB c r rest
    | _ => false
  | .ex e r, s => match s with | .Expr v _ :: rest => noComp v && okE c e v && okB c r rest | _ => false
  | .ret e r, s => match s with | .Return (some v) _ :: _ => okE c e v | _ => false
  | .retN r, s => match s with | .Return none _ :: _ => true | _ => false
  | .ite t x y r, s => match s with | .If q s1 s2 _ :: rest => okT c t q && okB c x s1 && okB c y s2 && okB c r rest | _ => false
  | .for_ g src b r, s => match s with | .For tg it body [] _ :: rest => okG c.toCt g tg && notSet it && okI c src tg it && okB c b body && okB c r rest | _ => false
  | .whl t b r, s => match s with | .While q body [] _ :: rest => okT c t q && okB c b body && okB c r rest | _ => false
  | .pass r, s => match s with | .Pass _ :: rest => okB c r rest | _ => false
  | .brk r, s => match s with | .Break _ :: _ => true | _ => false
  | .cont r, s => match s with | .Continue _ :: _ => true | _ => false
  | .dead, _ => true
  | .fz i r, s => okB c r s
section
variable {c : Cn} {S : Sg} {a : An0} {X : Cx} {ρ : Env} {K : EnD}
theorem da_two {x y : I} {A B : Expr} {Ψ : List T → Prop} (g : Good c S a X) (k1 : notStar A = true) (k2 : notStar B = true) (k3 : okE c x A = true) (k4 : okE c y B = true) (h : w S x ρ fun t => t.fin fun u => w S y ρ fun t' => t'.fin fun v => Ψ [u, v]) : DA a X ρ [A, B] Ψ :=
  da_cons k1 ((soundE x g k3 h).mono fun t q => fin_mono (fun u q => da_cons k2 ((soundE y g k4 q).mono fun t q => fin_mono (fun v q => da_nil q) q)) q)
theorem da_three {x y z : I} {A B C : Expr} {Ψ : List T → Prop} (g : Good c S a X) (k1 : notStar A = true) (k2 : notStar B = true) (k3 : notStar C = true) (k4 : okE c x A = true) (k5 : okE c y B = true) (k6 : okE c z C = true) (h : w S x ρ fun t => t.fin fun u => w S y ρ fun t' => t'.fin fun v => w S z ρ fun t'' => t''.fin fun q => Ψ [u, v, q]) : DA a X ρ [A, B, C] Ψ :=
  da_cons k1 ((soundE x g k4 h).mono fun t q => fin_mono (fun u q => da_cons k2 ((soundE y g k5 q).mono fun t q => fin_mono (fun v q => da_cons k3 ((soundE z g k6 q).mono fun t q => fin_mono (fun q' q => da_nil q) q)) q)) q)
theorem DI.mono {tg e : Expr} {Φ Ψ : List D → Prop} (h : DI a X ρ tg e Φ) (i : ∀ t, Φ t → Ψ t) : DI a X ρ tg e Ψ := fun σ H ts vs R ok k => h σ H ts vs R ok fun J H' F Sc Sm ds q => k J H' F Sc Sm ds (i ds q)
theorem DB.mono_nx {s : List Stmt} {P P' : Env → Prop} (h : DB a X ρ s { K with nx := P }) (i : ∀ ρ', P ρ' → P' ρ') : DB a X ρ s { K with nx := P' } := fun σ H D ok m => h σ H D ok ⟨fun ρ' σ' H' hk => m.1 ρ' σ' H' (i ρ' hk), m.2⟩
theorem DS.mono_nx {s : Stmt} {P P' : Env → Prop} (h : DS a X ρ s { K with nx := P }) (i : ∀ ρ', P ρ' → P' ρ') : DS a X ρ s { K with nx := P' } := fun σ H D ok m => h σ H D ok ⟨fun ρ' σ' H' hk => m.1 ρ' σ' H' (i ρ' hk), m.2⟩
theorem fold_and_id {b : Bool} {p q : Prop} (h : if b = true then p else q) : if b = true then p else q := h
theorem db_fz {i : Nat} {u : T} {sts : List Stmt} (io : NoIo a) (e : ρ.at i = some u) (h : DB a X (ρ.put i (some (.leaf u.dat))) sts K) : DB a X ρ sts K := fun σ H D ok m => by
  obtain ⟨F, Sc, Sm, w⟩ := ok
  obtain ⟨x, Si, Sr, e1, h1, hp, go⟩ := w.cells.focus e
  obtain ⟨v', S1, e2, h2, _, nv⟩ := w.cells.get e
  have nd : ((Si ++ Sr) ++ Sm).Nodup := ((List.Perm.append_right Sm hp).nodup_iff).mp w.nd
  have mem : ∀ p, p ∈ Si ++ Sr → p ∈ Sc := fun p h => hp.mem_iff.mpr h
  have fr1 : ∀ p ∈ Si, F p = none ∧ a.bg ≠ some p ∧ a.H0 p = none := fun p hp2 => by
    obtain ⟨f1, f2, f3⟩ := w.fr p (List.mem_append_left _ (mem p (List.mem_append_left _ hp2)))
    exact ⟨f1, f2, f3.resolve_left fun z => f2 (io p z)⟩
  have sF : Sub F (fun p => if p ∈ Si then H p else F p) := fun p o q => by
    show (if p ∈ Si then H p else F p) = some o
    rw [if_neg fun z => by rw [(fr1 p z).1] at q; cases q]
    exact q
  have isx : Is a.toAn (fun p => if p ∈ Si then H p else F p) u.dat x := Ow.froz sF nv h1 fun p hp2 => if_pos hp2
  have nb : ∀ b, a.bg = some b → b ∉ Si := fun b eb z => (fr1 b z).2.1 eb
  obtain ⟨S', c', p'⟩ := go (fun p => if p ∈ Si then H p else F p) H (.leaf u.dat) [] sF (fun p _ o q => q) (by simp only [Ow]; exact ⟨trivial, isx⟩) rfl
  refine h σ H D ⟨fun p => if p ∈ Si then H p else F p, S', Sm, ?_⟩ m
  have mem' : ∀ p, p ∈ S' → p ∈ Sr := fun p h => by simpa using p'.mem_iff.mp h
  obtain ⟨n1, n2, n3⟩ := List.nodup_append.mp nd
  obtain ⟨n4, n5, n6⟩ := List.nodup_append.mp n1
  refine ⟨fun p o q => ?_, ⟨w.gw.ff.trans sF, w.gw.hh, fun p z n => ?_, w.gw.th⟩, w.bagM, fun b eb => ?_, c', w.tmps.mono sF (Sub.refl _) (fun p _ o q => q), ?_, fun p hp2 => ?_, ?_, w.wit, fun G hG => (w.wif G hG).trans sF⟩
  · by_cases z : p ∈ Si
    · rw [show (if p ∈ Si then H p else F p) = H p from if_pos z] at q; exact q
    · rw [show (if p ∈ Si then H p else F p) = F p from if_neg z] at q; exact w.sub p o q
  · show (if p ∈ Si then H p else F p) = none
    rw [if_neg fun y => z (fr1 p y).2.2]
    exact w.gw.nn p z n
  · obtain ⟨b1, x', y', z', c, ns, b2, b3, b4⟩ := w.bag b eb
    exact ⟨(if_neg (nb b eb)).trans b1, x', y', z', c, ns, b2, sF _ _ b3, b4⟩
  · refine List.nodup_append.mpr ⟨?_, n2, fun p h1 q h2 => n3 p (List.mem_append_right _ (mem' p h1)) q h2⟩
    exact p'.nodup_iff.mpr (by simpa using n5)
  · have hs : p ∉ Si := fun z => by
      rcases List.mem_append.mp hp2 with y | y
      · exact n6 p z p (mem' p y) rfl
      · exact n3 p (List.mem_append_left _ z) p y rfl
    obtain ⟨f1, f2, f3⟩ := w.fr p (by
      rcases List.mem_append.mp hp2 with y | y
      · exact List.mem_append_left _ (mem p (List.mem_append_right _ (mem' p y)))
      · exact List.mem_append_right _ y)
    exact ⟨(if_neg hs).trans f1, f2, f3⟩
  · rw [Env.put_length]; exact w.len
theorem augm {o : Aop} {x y : D} {Φ Ψ : D → Prop} (i : ∀ t, Φ t → Ψ t) (h : augD o x y Φ) : augD o x y Ψ := by
  unfold augD at h ⊢
  split at h <;> first
    | exact h.elim
    | exact ⟨h.1, i _ h.2⟩
    | exact i _ h
theorem soundB : ∀ (b : B) {c : Cn} {S : Sg} {a : An0} {X : Cx} {ρ : Env} {K : EnD} {s : List Stmt}, a.W = [] → Good c S a X → okB c b s = true → wb S b ρ K → DB a X ρ s K
  | .dead, c, S, a, X, ρ, K, s, hW, g, k, h => by
    simp only [wb] at h
  | .nil, c, S, a, X, ρ, K, s, hW, g, k, h => by
    simp only [okB] at k
    simp only [wb] at h
    split at k
    · exact db_nil h
    · cases k
  | .asg gt e r, c, S, a, X, ρ, K, s, hW, g, k, h => by
    simp only [okB] at k
    simp only [wb] at h
    split at k
    · simp only [Bool.and_eq_true] at k
      obtain ⟨⟨⟨⟨k1, k2⟩, k3⟩, k4⟩, k5⟩ := k
      exact db_cons (ds_asgG g.xo g.co k1 (noswap1 k2) (nopar2 g.co k3) ((soundE e g k4 h).mono fun t q => fin_mono (fun u q => q.elim fun ρ' q => ⟨ρ', q.1, soundB r hW g k5 q.2⟩) q))
    · cases k
  | .asgLc i own gt src cond elt r, c, S, a, X, ρ, K, s, hW, g, k, h => by
    simp only [okB] at k
    simp only [wb] at h
    split at k
    · simp only [Bool.and_eq_true, decide_eq_true_eq, List.all_eq_true] at k
      obtain ⟨⟨⟨⟨⟨⟨⟨⟨⟨⟨k1, k2⟩, k3⟩, k4⟩, k5⟩, k6⟩, k7⟩, k8⟩, k9⟩, k10⟩, k11⟩ := k
      have sk := blk_kind k3
      refine db_cons (DS.mono_nx (ds_asgLc (K := { K with nx := fun ρ' => wb S r ρ' K }) (wc := wc S cond) (we := w S elt) g.xo g.co g.hk k1 k2 h.1 k3 k5 (fun i hi => ?_) (by rw [k4]; exact h.2.1) k7 (fun H F s H2 C cl fp ρ' Ψ q => soundC cond (g.on.blk sk) k9 q) (fun H F s H2 C cl fp ρ' Ψ q => soundE elt (g.on.blk sk) k10 q) (soundI src g k8 h.2.2)) fun ρ' q => soundB r hW g k11 q)
      rw [k4]
      have := k6 i hi
      simpa using this
    · cases k
  | .par2 i j x y r, c, S, a, X, ρ, K, s, hW, g, k, h => by
    simp only [okB] at k
    simp only [wb] at h
    split at k
    · simp only [Bool.and_eq_true] at k
      obtain ⟨⟨⟨⟨⟨⟨⟨k1, k2⟩, k3⟩, k4⟩, k5⟩, k6⟩, k7⟩, k8⟩ := k
      obtain ⟨h1, h2, h3, h4⟩ := h
      exact db_cons (ds_par2 g.xo g.co g.hk k1 k2 h1 k3 h2 h3 ((da_two (Ψ := fun us => match us with
        | [u, v] => wb S r ((ρ.put i (some u)).put j (some v)) K
        | _ => False) g k4 k5 k6 k7 h4).mono fun us q => by
          split at q
          · exact ⟨_, _, rfl, soundB r hW g k8 q⟩
          · exact q.elim))
    · cases k
  | .par3 i j l x y z r, c, S, a, X, ρ, K, s, hW, g, k, h => by
    simp only [okB] at k
    simp only [wb] at h
    split at k
    · simp only [Bool.and_eq_true] at k
      obtain ⟨⟨⟨⟨⟨⟨⟨⟨⟨⟨k1, k2⟩, k3⟩, k4⟩, k5⟩, k6⟩, k7⟩, k8⟩, k9⟩, k10⟩, k11⟩ := k
      obtain ⟨⟨h1, h2, h3⟩, ⟨h4, h5, h6⟩, h7⟩ := h
      exact db_cons (ds_par3 g.xo g.co g.hk k1 k2 k3 h1 h2 h3 k4 h4 h5 h6 ((da_three (Ψ := fun us => match us with
        | [u, v, q] => wb S r (((ρ.put i (some u)).put j (some v)).put l (some q)) K
        | _ => False) g k5 k6 k7 k8 k9 k10 h7).mono fun us q => by
          split at q
          · exact ⟨_, _, _, rfl, soundB r hW g k11 q⟩
          · exact q.elim))
    · cases k
  | .aug o i e r, c, S, a, X, ρ, K, s, hW, g, k, h => by
    simp only [okB] at k
    simp only [wb] at h
    split at k
    · simp only [Bool.and_eq_true, decide_eq_true_eq] at k
      obtain ⟨⟨⟨⟨k1, k2⟩, k3⟩, k4⟩, k5⟩ := k
      obtain ⟨d, h1, h2, h3⟩ := h
      obtain ⟨l1, l2⟩ := Ct.loc_of g.co k3
      rw [k1]
      exact db_cons (ds_aug g.xo (nameIs_of g.co k2) l1 l2 h1 h2 ((soundE e g k4 h3).mono fun y q => augm (fun z q => soundB r hW g k5 q) q))
    · cases k
  | .setix i x e r, c, S, a, X, ρ, K, s, hW, g, k, h => by
    simp only [okB] at k
    simp only [wb] at h
    split at k
    · simp only [Bool.and_eq_true] at k
      obtain ⟨⟨⟨⟨⟨⟨⟨k1, k2⟩, k3⟩, k4⟩, k5⟩, k6⟩, k7⟩, k8⟩ := k
      obtain ⟨us, h1, h2⟩ := h
      obtain ⟨q1, q2, _⟩ := plain_of k3
      exact db_cons (ds_setix g.xo hW (nameIs_of g.co k1) (Ct.vis_of g.co k2) q1 q2 k4 k5 h1 ((soundE e g k6 h2).mono fun t q => fin_mono (fun u q => (soundE x g k7 q).mono fun y q => q.elim fun n q => q.elim fun j q => ⟨n, j, q.1, q.2.1, soundB r hW g k8 q.2.2⟩) q))
    · cases k
  | .augix o i x e r, c, S, a, X, ρ, K, s, hW, g, k, h => by
    simp only [okB] at k
    simp only [wb] at h
    split at k
    · simp only [Bool.and_eq_true, decide_eq_true_eq] at k
      obtain ⟨⟨⟨⟨⟨⟨⟨k1, k2⟩, k3⟩, k4⟩, k5⟩, k6⟩, k7⟩, k8⟩ := k
      obtain ⟨us, h1, h2⟩ := h
      obtain ⟨q1, q2, _⟩ := plain_of k4
      rw [k1]
      exact db_cons (ds_augix g.xo hW (nameIs_of g.co k2) (Ct.vis_of g.co k3) q1 q2 k5 h1 ((soundE x g k6 h2).mono fun y q => q.elim fun n q => q.elim fun j q => q.elim fun d q => ⟨n, j, d, q.1, q.2.1, q.2.2.1, (soundE e g k7 q.2.2.2).mono fun y2 q => augm (fun z q => soundB r hW g k8 q) q⟩))
    · cases k
  | .app i e r, c, S, a, X, ρ, K, s, hW, g, k, h => by
    simp only [okB] at k
    simp only [wb] at h
    split at k
    · simp only [Bool.and_eq_true] at k
      obtain ⟨⟨⟨⟨⟨⟨⟨k1, k2⟩, k3⟩, k4⟩, k5⟩, k6⟩, k7⟩, k8⟩ := k
      obtain ⟨us, h1, h2, h3⟩ := h
      obtain ⟨q1, q2, _⟩ := plain_of k4
      have em := beq_iff_eq.mp k1
      subst em
      exact db_cons (ds_append g.xo hW (nameIs_of g.co k2) (Ct.vis_of g.co k3) q1 q2 k5 k6 h1 h2 ((soundE e g k7 h3).mono fun t q => fin_mono (fun u q => soundB r hW g k8 q) q))
    · cases k
  | .augix2 o i x y e r, c, S, a, X, ρ, K, s, hW, g, k, h => by
    simp only [okB] at k
    simp only [wb] at h
    split at k
    · simp only [Bool.and_eq_true, decide_eq_true_eq] at k
      obtain ⟨⟨⟨⟨⟨⟨⟨⟨⟨k1, k2⟩, k3⟩, k4⟩, k5⟩, k6⟩, k7⟩, k8⟩, k9⟩, k10⟩ := k
      obtain ⟨us, h1, h2⟩ := h
      obtain ⟨q1, q2, _⟩ := plain_of k4
      rw [k1]
      exact db_cons (ds_augix2 g.xo hW (nameIs_of g.co k2) (Ct.vis_of g.co k3) q1 q2 k5 k6 h1 ((soundE x g k7 h2).mono fun y1 q => q.elim fun n1 q => q.elim fun j1 q => q.elim fun ws q => ⟨n1, j1, ws, q.1, q.2.1, q.2.2.1, fun H F => (soundE y g.on k8 q.2.2.2).mono fun y2 q => q.elim fun n2 q => q.elim fun j2 q => q.elim fun d q => ⟨n2, j2, d, q.1, q.2.1, q.2.2.1, (soundE e g.on k9 q.2.2.2).mono fun y3 q => augm (fun z q => soundB r hW g k10 q) q⟩⟩))
    · cases k
  | .ext i e r, c, S, a, X, ρ, K, s, hW, g, k, h => by
    simp only [okB] at k
    simp only [wb] at h
    split at k
    · simp only [Bool.and_eq_true] at k
      obtain ⟨⟨⟨⟨⟨⟨⟨k1, k2⟩, k3⟩, k4⟩, k5⟩, k6⟩, k7⟩, k8⟩ := k
      obtain ⟨us, h1, h2⟩ := h
      obtain ⟨q1, q2, _⟩ := plain_of k4
      have em := beq_iff_eq.mp k1
      subst em
      exact db_cons (ds_extend g.xo hW (nameIs_of g.co k2) (Ct.vis_of g.co k3) q1 q2 k5 k6 h1 ((soundE e g k7 h2).mono fun t q => q.elim fun us2 q => ⟨us2, q.1, q.2.1, soundB r hW g k8 q.2.2⟩))
    · cases k
  | .fgt i r, c, S, a, X, ρ, K, s, hW, g, k, h => by
    simp only [okB] at k
    simp only [wb] at h
    exact db_fgt (soundB r hW g k h)
  | .unp2 i j e r, c, S, a, X, ρ, K, s, hW, g, k, h => by
    simp only [okB] at k
    simp only [wb] at h
    split at k
    · simp only [Bool.and_eq_true, Bool.not_eq_true'] at k
      obtain ⟨⟨⟨k1, k2⟩, k3⟩, k4⟩ := k
      exact db_cons (ds_unp2 g.xo g.co k1 k2 ((soundE e g k3 h).mono fun t q => q.elim fun u q => q.elim fun v q => ⟨u, v, q.1, q.2.1, q.2.2.1, soundB r hW g k4 q.2.2.2⟩))
    · cases k
  | .ex e r, c, S, a, X, ρ, K, s, hW, g, k, h => by
    simp only [okB] at k
    simp only [wb] at h
    split at k
    · simp only [Bool.and_eq_true] at k
      exact db_cons (ds_expr k.1.1 ((soundE e g k.1.2 h).mono fun t q => soundB r hW g k.2 q))
    · cases k
  | .ret e r, c, S, a, X, ρ, K, s, hW, g, k, h => by
    simp only [okB] at k
    simp only [wb] at h
    split at k
    · exact db_cons (ds_ret (soundE e g k h))
    · cases k
  | .retN r, c, S, a, X, ρ, K, s, hW, g, k, h => by
    simp only [okB] at k
    simp only [wb] at h
    split at k
    · exact db_cons (ds_retN h)
    · cases k
  | .ite t x y r, c, S, a, X, ρ, K, s, hW, g, k, h => by
    simp only [okB] at k
    simp only [wb] at h
    split at k
    · simp only [Bool.and_eq_true] at k
      obtain ⟨⟨⟨k1, k2⟩, k3⟩, k4⟩ := k
      exact db_cons (ds_if ((soundT t g k1 h).mono fun b q => ite_mono (fun q => (soundB x hW g k2 q).mono_nx fun ρ' q => soundB r hW g k4 q) (fun q => (soundB y hW g k3 q).mono_nx fun ρ' q => soundB r hW g k4 q) q))
    · cases k
  | .for_ gt src b r, c, S, a, X, ρ, K, s, hW, g, k, h => by
    simp only [okB] at k
    simp only [wb] at h
    split at k
    · simp only [Bool.and_eq_true] at k
      obtain ⟨⟨⟨⟨k1, k2⟩, k3⟩, k4⟩, k5⟩ := k
      exact db_cons (DS.mono_nx (ds_for (K := { K with nx := fun ρ' => wb S r ρ' K }) (wb := fun ρ K => wb S b ρ K) g.xo g.co k1 k2 (fun F ρ' K' q => soundB b (by exact hW) g.onV k4 q) (soundI src g k3 h)) fun ρ' q => soundB r hW g k5 q)
    · cases k
  | .whl t b r, c, S, a, X, ρ, K, s, hW, g, k, h => by
    simp only [okB] at k
    simp only [wb] at h
    split at k
    · simp only [Bool.and_eq_true] at k
      obtain ⟨⟨k1, k2⟩, k3⟩ := k
      exact db_cons (DS.mono_nx (ds_while (K := { K with nx := fun ρ' => wb S r ρ' K }) (wt := wt S t) (wb := fun ρ K => wb S b ρ K) g.xo (fun ρ' Ψ q => soundT t g k1 q) (fun ρ' K' q => soundB b hW g k2 q) h) fun ρ' q => soundB r hW g k3 q)
    · cases k
  | .pass r, c, S, a, X, ρ, K, s, hW, g, k, h => by
    simp only [okB] at k
    simp only [wb] at h
    split at k
    · exact db_cons (ds_pass (soundB r hW g k h))
    · cases k
  | .brk r, c, S, a, X, ρ, K, s, hW, g, k, h => by
    simp only [okB] at k
    simp only [wb] at h
    split at k
    · exact db_cons (ds_break h)
    · cases k
  | .cont r, c, S, a, X, ρ, K, s, hW, g, k, h => by
    simp only [okB] at k
    simp only [wb] at h
    split at k
    · exact db_cons (ds_continue h)
    · cases k
  | .fz i r, c, S, a, X, ρ, K, s, hW, g, k, h => by
    simp only [okB] at k
    simp only [wb] at h
    obtain ⟨hz, u, h1, h2⟩ := h
    exact db_fz (g.io hz) h1 (soundB r hW g k h2)
end
end DL
namespace DL
open PySem PySem.Spec PyProof.Rows L2

/-! ### a def by its short body -/
def envS (N : List Str) (ts : List T) : Env := ts.map some ++ List.replicate (N.length - ts.length) none
theorem owc_none {a : An} {F H : Hp} : ∀ (n : Nat) (σ : L2.St), OwC a F H (List.replicate n none) σ []
  | 0, σ => by simp [OwC]
  | n + 1, σ => by
    rw [List.replicate_succ]
    simp only [OwC]
    exact owc_none n _
theorem owc_start {a : An} {F H : Hp} : ∀ {ds : List D} {vs : List V} {n : Nat}, IsL a F ds vs → OwC a F H ((ds.map T.leaf).map some ++ List.replicate n none) (vs.map some ++ List.replicate n none) []
  | [], vs, n, h => owc_none n _
  | d :: ds, vs, n, h => by
    simp only [IsL] at h
    obtain ⟨v, r, rfl, h1, h2⟩ := h
    simp only [List.map_cons, List.cons_append, OwC]
    exact ⟨v, [], [], ⟨rfl, rfl⟩, by simp only [Ow]; exact ⟨trivial, h1⟩, owc_start h2, rfl⟩
/-- a def that keeps its promise, under its name -/
structure FnB (P : Program) (w : World) (K : PySem.W.Frag) (mg : Str → Option Value) (base : Heap) (cls : Nat → Option (Addr × List Str)) (k : Nat) (x : Str) (f : SpecF) : Prop where
  ex : ∃ (fa : Addr) (fd : FuncData) (ps : List Str), FnG P w K mg base CX0 k fa fd ps (spD K cls f) ∧ mg x = some (.ref fa) ∧ PySem.W.keepIn K (.ref fa) = true ∧ Binds K fd ps []
  mo : Mono f
/-- what own classes promise, at level k -/
structure ObB (P : Program) (w : World) (K : PySem.W.Frag) (mg : Str → Option Value) (base : Heap) (cls : Nat → Option (Addr × List Str)) (k : Nat) (c : Cn) (S : Sg) : Prop where
  ms : ∀ (i : Nat) q f, c.ms[i]? = some q → S.ms[i]? = some f → (∃ (C fa : Addr) (ns : List Str) (fd : FuncData) (ps : List Str), cls q.1 = some (C, ns) ∧ q.2 ∉ ns ∧ Cls K C ∧ Meth K C q.2 fa ∧ FnG P w K mg base CX0 k fa fd ps (spD K cls f) ∧ Binds K fd ps []) ∧ Mono f
  ps : ∀ (i : Nat) q f, c.ps[i]? = some q → S.ps[i]? = some f → (∃ (C fa p : Addr) (ns : List Str) (fd : FuncData) (j : Nat) (ps : List Str), j + 1 ≤ k ∧ cls q.1 = some (C, ns) ∧ Cls K C ∧ PropOf K C q.2 p fa ∧ FnG P w K mg base CX0 j fa fd ps (spD K cls f) ∧ Binds K fd ps []) ∧ Mono f
  nw : ∀ (i : Nat) x f, c.nw[i]? = some x → S.nw[i]? = some f → (∃ (C fa : Addr) (cl : Nat) (ns : List Str) (fd : FuncData) (j : Nat) (ps : List Str), j + 1 ≤ k ∧ cls cl = some (C, ns) ∧ Mk K C fa ∧ mg x = some (.ref C) ∧ FnG P w K mg base CX0 j fa fd ps (spI K cls cl f) ∧ Binds K fd ps []) ∧ Mono f
  fd : ∀ q ∈ c.fd, ∃ (C : Addr) (ns : List Str), cls q.1 = some (C, ns) ∧ ns[q.2.1]? = some q.2.2 ∧ ns.Nodup ∧ Cls K C ∧ NoAttr K C q.2.2
  ic : ∀ q ∈ c.ic, ∃ (C : Addr) (ns : List Str), cls q.1 = some (C, ns) ∧ mg q.2 = some (.ref C) ∧ C8.InsC K C
theorem obNil {P : Program} {w : World} {K : PySem.W.Frag} {mg : Str → Option Value} {base : Heap} {cls : Nat → Option (Addr × List Str)} {k : Nat} {c : Cn} {S : Sg} (h1 : c.ms = []) (h2 : c.ps = []) (h3 : c.nw = []) (h4 : c.fd = []) (h5 : c.ic = []) : ObB P w K mg base cls k c S :=
  ⟨fun i q f h => by rw [h1] at h; simp at h, fun i q f h => by rw [h2] at h; simp at h, fun i q f h => by rw [h3] at h; simp at h, fun q h => by rw [h4] at h; simp at h, fun q h => by rw [h5] at h; simp at h⟩
section
variable {P : Program} {w : World} {K : PySem.W.Frag} {mg : Str → Option Value} {base : Heap} {cls : Nat → Option (Addr × List Str)} {k j : Nat} {x qual : Str} {f : SpecF} {st : Stmt} {fa : Addr} {fd : FuncData} {N ps : List Str} {c : Cn} {S : Sg} {b : B}
theorem FnB.mono (h : FnB P w K mg base cls j x f) (l : j ≤ k) : FnB P w K mg base cls k x f :=
  let ⟨fa, fd, ps, g, r⟩ := h.ex
  ⟨⟨fa, fd, ps, g.mono l, r⟩, h.mo⟩
theorem isl_length {a : An} {F : Hp} : ∀ {ds : List D} {vs : List V}, IsL a F ds vs → vs.length = ds.length
  | [], vs, h => by simp only [IsL] at h; rw [h]; rfl
  | d :: ds, vs, h => by
    simp only [IsL] at h
    obtain ⟨v, r, rfl, h1, h2⟩ := h
    simp [isl_length h2]
theorem goodB {a : An0} {cdv : Value} {A : Around} {outer : List PySem.Env} {s : Shared} {H : Hp} {E : XK} (sc : FnScope N ps (defScope st)) (hc : c.toCt = ⟨N, defScope st, defScope st⟩) (gu : A.guards = some []) (hr : Room k (A.deeper (envOfC qual (defScope st) s.heap.objs.size fa cdv)))
    (fns : ∀ (i : Nat) y f, c.fn[i]? = some y → S.fs[i]? = some f → FnB P w K mg base cls k y f)
    (gls : ∀ (i : Nat) y d, c.gl[i]? = some y → S.gs[i]? = some d → ∃ v u, mg y = some u ∧ RelV v u ∧ ∀ (a : An) F, a.K = K → Is a F d v)
    (bs : ∀ y ∈ c.bs, mg y = none) (ob : ObB P w K mg base cls k c S) (hK : a.K = K) (hcl : a.cls = cls) (io : S.z = true → NoIo a) : Good c S a (cxOf CX0 P w K mg base N qual (defScope st) fa cdv A outer s H E).nox := by
  refine ⟨⟨hK.symm, rfl, sc.nd, gu, hr.hd, ?_, PassesOwn.never⟩, ⟨by rw [hc]; rfl, by rw [hc]; rfl, fun _ _ => rfl, fun x k _ h => by rw [hc] at h ⊢; exact h⟩, io, sc.kind, fun i y f h1 h2 => ?_, fun i y d h1 h2 => ?_, bs, fun i q f h1 h2 => ?_, fun i q f h1 h2 => ?_, fun i q f h1 h2 => ?_, fun q h => ?_, fun q h => ?_⟩
  · have := hr.un
    show (A.deeper _).units + 200 < cLine
    omega
  · obtain ⟨fa', fd', ps', g, m, kp, bd⟩ := (fns i y f h1 h2).ex
    exact ⟨⟨fa', fd', k, ps', by rw [hK, hcl]; exact g, hr, m, by exact kp, by exact bd⟩, (fns i y f h1 h2).mo⟩
  · obtain ⟨v, u, e1, r, q⟩ := gls i y d h1 h2
    exact ⟨v, u, e1, r, fun F => q a.toAn F hK⟩
  · obtain ⟨⟨C, fa', ns, fd', ps', e1, e2, cl, me, F, bd⟩, mo⟩ := ob.ms i q f h1 h2
    exact ⟨⟨C, fa', ns, fd', k, ps', by rw [hcl]; exact e1, e2, cl, me, by rw [hK, hcl]; exact F, hr, bd⟩, mo⟩
  · obtain ⟨⟨C, fa', p, ns, fd', j, ps', lj, e1, cl, me, F, bd⟩, mo⟩ := ob.ps i q f h1 h2
    exact ⟨⟨C, fa', p, ns, fd', j, ps', by rw [hcl]; exact e1, cl, me, by rw [hK, hcl]; exact F, hr.mono lj, bd⟩, mo⟩
  · obtain ⟨⟨C, fa', cl, ns, fd', j, ps', lj, e1, M, e2, F, bd⟩, mo⟩ := ob.nw i q f h1 h2
    exact ⟨⟨C, fa', cl, ns, fd', j, ps', by rw [hcl]; exact e1, M, e2, by rw [hK, hcl]; exact F, hr.mono lj, bd⟩, mo⟩
  · obtain ⟨C, ns, e1, e2, e3, cl, na⟩ := ob.fd q h
    exact ⟨C, ns, by rw [hcl]; exact e1, e2, e3, cl, na⟩
  · obtain ⟨C, ns, e1, e2, ic⟩ := ob.ic q h
    exact ⟨C, ns, by rw [hcl]; exact e1, e2, ic⟩
theorem fnD (Fu : L2.Fun K x qual st fa fd) (sc : FnScope N ps (defScope st)) (hc : c.toCt = ⟨N, defScope st, defScope st⟩) (ck : okB c b (defBody st) = true)
    (fns : ∀ (i : Nat) y f, c.fn[i]? = some y → S.fs[i]? = some f → FnB P w K mg base cls k y f)
    (gls : ∀ (i : Nat) y d, c.gl[i]? = some y → S.gs[i]? = some d → ∃ v u, mg y = some u ∧ RelV v u ∧ ∀ (a : An) F, a.K = K → Is a F d v)
    (bs : ∀ y ∈ c.bs, mg y = none)
    (h : ∀ ds Φ, f ds Φ → ds.length = ps.length ∧ wb S b (envS N (ds.map .leaf)) { nx := fun _ => Φ (.leaf .non), rt := fun t _ => Φ t }) (ob : ObB P w K mg base cls k c S := by exact obNil rfl rfl rfl rfl rfl) :
    FnG P w K mg base CX0 (k + 1) fa fd ps (spD K cls f) := by
  obtain ⟨oc, od, kV, doc, pm, an, cdv, ct, osl, rfl, lk, hcd⟩ := Fu.ex
  refine fn_G lk hcd sc (fun vs H Q E hs => ?_) fun A outer s H vs Q E gu hr hs => ?_
  · obtain ⟨bg, F, ds, _, _, il, q⟩ := hs
    rw [isl_length il, (h _ _ q).1]
  obtain ⟨bg, F, ds, sub, bag, il, q⟩ := hs
  obtain ⟨l, q⟩ := h _ _ q
  have vl := isl_length il
  have X := goodB (a := ⟨⟨K, bg, cls⟩, bg.toList, F, H, [], []⟩) (E := E) (H := H) (outer := outer) (cdv := cdv) (qual := qual) (fa := fa) sc hc gu hr fns gls bs ob rfl rfl fun _ p hp => by simpa using hp
  have go := soundB b rfl X ck q
  refine ⟨_, (PSs.nox (pb_W (X := (cxOf CX0 P w K mg base N qual (defScope st) fa cdv A outer s H E).nox))), go (start N vs) H _ ⟨F, [], [], ⟨sub, Gw.refl _ _ _, fun b hb => ⟨by have hb : bg = some b := hb; simp [hb], ?_⟩, bag, ?_, by simp only [OwL]; exact ⟨trivial, trivial⟩, by simp, by simp, ?_, by simp, by simp⟩⟩ ⟨fun ρ σ H' hq ok => ?_, fun t v ρ σ H' hq ok => ?_, fun _ _ _ hq => hq.elim, fun _ _ _ hq => hq.elim⟩⟩
  · obtain ⟨_, x, y, z, c, ns, e, _⟩ := bag b hb
    show H b ≠ none
    rw [e]; simp
  · unfold envS L2.start
    rw [List.length_map, vl]
    exact owc_start il
  · unfold envS L2.start
    simp [vl]
  · obtain ⟨F', Sc, Sm, w⟩ := ok
    exact hq F' H' .non [] w.sub w.gw w.bag (by simp only [Ow, Is]; exact ⟨trivial, trivial⟩) (by simp) (by simp)
  · obtain ⟨F', Sc, Sm, w⟩ := ok
    obtain ⟨v', r, S1, S2, e, h1, h2, e2⟩ := (show ∃ v' r S1 S2, [v] = v' :: r ∧ Ow ⟨K, bg, cls⟩ F' H' t v' S1 ∧ OwL ⟨K, bg, cls⟩ F' H' [] r S2 ∧ Sm = S1 ++ S2 by
      have := w.tmps; simpa only [OwL] using this)
    simp only [OwL] at h2
    cases e
    obtain ⟨_, rfl⟩ := h2
    rw [List.append_nil] at e2
    subst e2
    refine hq F' H' v Sm w.sub w.gw w.bag h1 (List.nodup_append.mp w.nd).2.1 fun p hp => ?_
    obtain ⟨f1, f2, f3⟩ := w.fr p (List.mem_append_right _ hp)
    have f2 : bg ≠ some p := f2
    exact ⟨f1, f2, f3.resolve_left fun z => f2 (by simpa using z)⟩
end
end DL
namespace DL
open PySem PySem.Spec PyProof.Rows L2

/-! ### the readings, step by step -/
section
variable {S : Sg} {ρ ρ' : Env} {Φ : T → Prop} {Ψ : Bool → Prop} {ΨL : List T → Prop} {ΨD : List D → Prop} {K : EnD} {i j k : Nat} {n m : Int} {d : D} {t u : T} {us : List T} {x y z e es c : I} {r b1 b2 : B} {g : Tg} {ds : List D} {own : List Nat}
theorem w_nm (h : ρ.at i = some (.leaf d)) (k : Φ (.leaf d)) : w S (.nm i) ρ Φ := by simp only [w]; rw [h]; exact k
theorem w_ow (h : ρ.at i = some t) (k : Φ (.vw t.dat)) : w S (.ow i) ρ Φ := by simp only [w]; rw [h]; exact k
theorem w_gl (h : S.gs[i]? = some d) (k : Φ (.leaf d)) : w S (.gl i) ρ Φ := by simp only [w]; exact ⟨d, h, k⟩
theorem w_int (k : Φ (.leaf (.int n))) : w S (.int n) ρ Φ := by simpa only [w] using k
theorem w_str {s : Str} (k : Φ (.leaf (.str s))) : w S (.str s) ρ Φ := by simpa only [w] using k
theorem w_bl {b : Bool} (k : Φ (.leaf (.bl b))) : w S (.bl b) ρ Φ := by simpa only [w] using k
theorem w_non (k : Φ (.leaf .non)) : w S .non ρ Φ := by simpa only [w] using k
theorem w_tup (k : wa S es ρ fun us => us.length ≤ 100000 ∧ Φ (T.mk us)) : w S (.tup es) ρ Φ := by simpa only [w] using k
theorem w_lst (k : wa S es ρ fun us => us.length ≤ 100000 ∧ Φ (.lst us)) : w S (.lst es) ρ Φ := by simpa only [w] using k
theorem w_bin {o : Bop} (k : w S x ρ fun t => w S y ρ fun u => binT o t u Φ) : w S (.bin o x y) ρ Φ := by simpa only [w] using k
theorem w_neg (k : w S x ρ fun t => ∃ i, t.dat = .int i ∧ Φ (.leaf (.int (-i)))) : w S (.neg x) ρ Φ := by simpa only [w] using k
theorem w_not (k : w S x ρ fun t => ∃ b, t.dat = .bl b ∧ Φ (.leaf (.bl !b))) : w S (.not x) ρ Φ := by simpa only [w] using k
theorem w_cmp {o : Cop} (k : w S x ρ fun t => w S y ρ fun u => cmpD o t.dat u.dat fun b => Φ (.leaf (.bl b))) : w S (.cmp o x y) ρ Φ := by simpa only [w] using k
theorem w_chn {o o' : Cop} (k : w S x ρ fun t => w S y ρ fun u => cmpD o t.dat u.dat fun b => if b = true then w S z ρ fun v => cmpD o' u.dat v.dat fun b => Φ (.leaf (.bl b)) else Φ (.leaf (.bl false))) : w S (.chn o o' x y z) ρ Φ := by simpa only [w] using k
theorem w_and (k : w S x ρ fun t => ∃ b, t.dat = .bl b ∧ if b = true then w S y ρ Φ else Φ (.leaf (.bl false))) : w S (.and x y) ρ Φ := by simpa only [w] using k
theorem w_or (k : w S x ρ fun t => ∃ b, t.dat = .bl b ∧ if b = true then Φ (.leaf (.bl true)) else w S y ρ Φ) : w S (.or x y) ρ Φ := by simpa only [w] using k
theorem w_orv (k : w S x ρ fun t => ∃ b, t.dat.truth = some b ∧ if b = true then Φ t else w S y ρ Φ) : w S (.orv x y) ρ Φ := by simpa only [w] using k
theorem w_srtS (k : w S x ρ fun t => srtS t Φ) : w S (.srtS x) ρ Φ := by simpa only [w] using k
theorem w_one (k : w S x ρ Φ) : w S (.one x) ρ Φ := by simpa only [w] using k
theorem w_ife (k : wt S x ρ fun b => if b = true then w S y ρ Φ else w S z ρ Φ) : w S (.ife x y z) ρ Φ := by simpa only [w] using k
theorem w_ix (k : w S x ρ fun t => w S y ρ fun u => ixT t u.dat Φ) : w S (.ix x y) ρ Φ := by simpa only [w] using k
theorem w_sl (k : w S x ρ fun t => wo S y ρ fun l => wo S z ρ fun h => slT t l h Φ) : w S (.sl x y z) ρ Φ := by simpa only [w] using k
theorem w_call {f : SpecF} (h : S.fs[i]? = some f) (k : wv S es ρ fun us => frozs S.z us fun ds => f ds Φ) : w S (.call i es) ρ Φ := by simp only [w]; exact ⟨f, h, k⟩
theorem w_blt {f : Blt} (k : wv S es ρ fun us => bltT f us Φ) : w S (.blt f es) ρ Φ := by simpa only [w] using k
theorem w_lc (h : ρ.wipes own = ρ) (k : wi S x ρ fun ds => ds.length ≤ 100000 ∧ lcW g (wc S c) (w S e) ρ ds [] fun us => Φ (.lst us)) : w S (.lc own g x c e) ρ Φ := by simp only [w]; exact ⟨h, k⟩
theorem w_eqO {cl : Nat} {f : SpecF} (h : S.ms[i]? = some f) (k : w S x ρ fun t => w S y ρ fun u => ∃ fs gs, t = .leaf (.obj cl fs) ∧ u = .leaf (.obj cl gs) ∧ f [.obj cl fs, .obj cl gs] fun r => ∃ b, r = .leaf (.bl b) ∧ Φ (.leaf (.bl b))) : w S (.eqO i cl x y) ρ Φ := by simp only [w]; exact ⟨f, h, k⟩
theorem wt_eqO {cl : Nat} {f : SpecF} (h : S.ms[i]? = some f) (k : w S x ρ fun t => w S y ρ fun u => ∃ fs gs, t = .leaf (.obj cl fs) ∧ u = .leaf (.obj cl gs) ∧ f [.obj cl fs, .obj cl gs] fun r => ∃ b, r = .leaf (.bl b) ∧ Ψ b) : wt S (.eqO i cl x y) ρ Ψ := by simp only [wt]; exact ⟨f, h, k⟩
theorem w_isC {cl : Nat} (k : w S x ρ fun t => (∃ fs, t = .leaf (.obj cl fs)) ∧ Φ (.leaf (.bl true))) : w S (.isC cl x) ρ Φ := by simpa only [w] using k
theorem w_fld {cl : Nat} (k : w S x ρ fun t => ∃ fs d, t = .leaf (.obj cl fs) ∧ fs[i]? = some d ∧ Φ (.leaf d)) : w S (.fld cl i x) ρ Φ := by simpa only [w] using k
theorem w_mth {cl : Nat} {f : SpecF} (h : S.ms[i]? = some f) (k : w S x ρ fun t => ∃ fs, t = .leaf (.obj cl fs) ∧ wv S es ρ fun us => frozs S.z us fun ds => f (.obj cl fs :: ds) Φ) : w S (.mth i cl x es) ρ Φ := by simp only [w]; exact ⟨f, h, k⟩
theorem w_mt0 {cl : Nat} {f : SpecF} (h : S.ms[i]? = some f) (k : w S x ρ fun t => ∃ fs, t = .leaf (.obj cl fs) ∧ f [.obj cl fs] Φ) : w S (.mt0 i cl x) ρ Φ := by simp only [w]; exact ⟨f, h, k⟩
theorem w_prp {cl : Nat} {f : SpecF} (h : S.ps[i]? = some f) (k : w S x ρ fun t => ∃ fs, t = .leaf (.obj cl fs) ∧ f [.obj cl fs] Φ) : w S (.prp i cl x) ρ Φ := by simp only [w]; exact ⟨f, h, k⟩
theorem w_new {f : SpecF} (h : S.nw[i]? = some f) (k : wv S es ρ fun us => frozs S.z us fun ds => f ds Φ) : w S (.new i es) ρ Φ := by simp only [w]; exact ⟨f, h, k⟩
theorem w_isi {ty : Ty} (k : w S x ρ fun t => ∃ b, t.dat.isT ty = some b ∧ Φ (.leaf (.bl b))) : w S (.isi ty x) ρ Φ := by simpa only [w] using k
theorem w_lr1 (k : w S x ρ fun t => ∃ j, t.dat = .int j ∧ RgS 0 j ∧ Φ (rgT 0 j)) : w S (.lr1 x) ρ Φ := by simpa only [w] using k
theorem w_lr2 (k : w S x ρ fun t => w S y ρ fun u => ∃ i j, t.dat = .int i ∧ u.dat = .int j ∧ RgS i j ∧ Φ (rgT i j)) : w S (.lr2 x y) ρ Φ := by simpa only [w] using k
theorem wa_nil (k : ΨL []) : wa S .nil ρ ΨL := by simpa only [wa] using k
theorem wa_cons (k : w S e ρ fun t => t.fin fun u => wa S x ρ fun us => ΨL (u :: us)) : wa S (.cons e x) ρ ΨL := by simpa only [wa] using k
theorem wv_nil (k : ΨL []) : wv S .nil ρ ΨL := by simpa only [wv] using k
theorem wv_cons (k : w S e ρ fun t => wv S x ρ fun us => ΨL (t :: us)) : wv S (.cons e x) ρ ΨL := by simpa only [wv] using k
theorem wo_nop {Ψ : Option Int → Prop} (k : Ψ none) : wo S .nop ρ Ψ := by simpa only [wo] using k
theorem wo_prt {Ψ : Option Int → Prop} (k : w S x ρ fun t => ∃ i, t.dat = .int i ∧ Ψ (some i)) : wo S (.prt x) ρ Ψ := by simpa only [wo] using k
theorem wt_not (k : wt S x ρ fun b => Ψ !b) : wt S (.not x) ρ Ψ := by simpa only [wt] using k
theorem wt_and (k : wt S x ρ fun b => if b = true then wt S y ρ Ψ else Ψ false) : wt S (.and x y) ρ Ψ := by simpa only [wt] using k
theorem wt_or (k : wt S x ρ fun b => if b = true then Ψ true else wt S y ρ Ψ) : wt S (.or x y) ρ Ψ := by simpa only [wt] using k
theorem wt_one (k : wt S x ρ Ψ) : wt S (.one x) ρ Ψ := by simpa only [wt] using k
theorem wt_cmp {o : Cop} (k : w S x ρ fun t => w S y ρ fun u => cmpD o t.dat u.dat Ψ) : wt S (.cmp o x y) ρ Ψ := by simpa only [wt] using k
theorem wt_chn {o o' : Cop} (k : w S x ρ fun t => w S y ρ fun u => cmpD o t.dat u.dat fun b => if b = true then w S z ρ fun v => cmpD o' u.dat v.dat Ψ else Ψ false) : wt S (.chn o o' x y z) ρ Ψ := by simpa only [wt] using k
theorem wt_val (k : w S x ρ fun t => tru t Ψ) : wt S (.val x) ρ Ψ := by simpa only [wt] using k
theorem wc_nop (k : Ψ true) : wc S .nop ρ Ψ := by simpa only [wc] using k
theorem wc_one (k : wt S x ρ Ψ) : wc S (.one x) ρ Ψ := by simpa only [wc] using k
theorem wi_sq (k : w S x ρ fun t => t.froz S.z fun d => ∃ ds, d.items = some ds ∧ ΨD ds) : wi S (.sq x) ρ ΨD := by simpa only [wi] using k
theorem wi_rng (k : wv S es ρ fun us => rngW (T.dats us) ΨD) : wi S (.rng es) ρ ΨD := by simpa only [wi] using k
theorem wi_zip (k : wv S es ρ fun us => frozs S.z us fun ds => zipW ds ΨD) : wi S (.zip es) ρ ΨD := by simpa only [wi] using k
theorem wi_enm (k : wv S es ρ fun us => frozs S.z us fun ds => ∃ xs, ds = [.lst xs] ∧ ΨD (enumFrom 0 xs)) : wi S (.enm es) ρ ΨD := by simpa only [wi] using k
theorem wb_nil (k : K.nx ρ) : wb S .nil ρ K := by simpa only [wb] using k
theorem wb_asg (k : w S e ρ fun t => t.fin fun u => ∃ ρ', bindG g u ρ = some ρ' ∧ wb S r ρ' K) : wb S (.asg g e r) ρ K := by simpa only [wb] using k
theorem wb_asgLc (h0 : Nat.blt i ρ.length = true) (h : ρ.wipes own = ρ) (k : wi S x ρ fun ds => ds.length ≤ 100000 ∧ lcW g (wc S c) (w S e) ρ ds [] fun us => wb S r (ρ.put i (some (.lst us))) K) : wb S (.asgLc i own g x c e r) ρ K := by simp only [wb]; exact ⟨Nat.le_of_ble_eq_true h0, h, k⟩
theorem wb_par2 (h0 : i ≠ j) (h1 : Nat.blt i ρ.length = true) (h2 : Nat.blt j ρ.length = true) (k : w S x ρ fun t => t.fin fun u => w S y ρ fun t' => t'.fin fun v => wb S r ((ρ.put i (some u)).put j (some v)) K) : wb S (.par2 i j x y r) ρ K := by simp only [wb]; exact ⟨h0, Nat.le_of_ble_eq_true h1, Nat.le_of_ble_eq_true h2, k⟩
theorem wb_aug {o : Aop} (h : ρ.at i = some (.leaf d)) (h1 : Nat.blt i ρ.length = true) (k : w S e ρ fun y => augD o d y.dat fun z => wb S r (ρ.put i (some (.leaf z))) K) : wb S (.aug o i e r) ρ K := by simp only [wb]; exact ⟨d, h, Nat.le_of_ble_eq_true h1, k⟩
theorem wb_setix (h : ρ.at i = some (.lst us)) (k : w S e ρ fun t => t.fin fun u => w S x ρ fun y => ∃ n j, y.dat = .int n ∧ ixN us.length n = some j ∧ wb S r (ρ.put i (some (.lst (us.set j u)))) K) : wb S (.setix i x e r) ρ K := by simp only [wb]; exact ⟨us, h, k⟩
theorem wb_augix {o : Aop} (h : ρ.at i = some (.lst us)) (k : w S x ρ fun y => ∃ n j d, y.dat = .int n ∧ ixN us.length n = some j ∧ us[j]? = some (.leaf d) ∧ w S e ρ fun y2 => augD o d y2.dat fun z => wb S r (ρ.put i (some (.lst (us.set j (.leaf z))))) K) : wb S (.augix o i x e r) ρ K := by simp only [wb]; exact ⟨us, h, k⟩
theorem wb_par3 {l : Nat} {z : I} (h0 : i ≠ j ∧ i ≠ l ∧ j ≠ l) (h1 : i < ρ.length ∧ j < ρ.length ∧ l < ρ.length) (k : w S x ρ fun t => t.fin fun u => w S y ρ fun t' => t'.fin fun v => w S z ρ fun t'' => t''.fin fun q => wb S r (((ρ.put i (some u)).put j (some v)).put l (some q)) K) : wb S (.par3 i j l x y z r) ρ K := by simp only [wb]; exact ⟨h0, h1, k⟩
theorem wb_ext (h : ρ.at i = some (.lst us)) (k : w S e ρ fun t => ∃ us2, t.its = some us2 ∧ us.length + us2.length ≤ 100000 ∧ wb S r (ρ.put i (some (.lst (us ++ us2)))) K) : wb S (.ext i e r) ρ K := by simp only [wb]; exact ⟨us, h, k⟩
theorem wb_augix2 {o : Aop} (h : ρ.at i = some (.lst us)) (k : w S x ρ fun y1 => ∃ n1 j1 ws, y1.dat = .int n1 ∧ ixN us.length n1 = some j1 ∧ us[j1]? = some (.lst ws) ∧ w S y ρ fun y2 => ∃ n2 j2 d, y2.dat = .int n2 ∧ ixN ws.length n2 = some j2 ∧ ws[j2]? = some (.leaf d) ∧ w S e ρ fun y3 => augD o d y3.dat fun z => wb S r (ρ.put i (some (.lst (us.set j1 (.lst (ws.set j2 (.leaf z))))))) K) : wb S (.augix2 o i x y e r) ρ K := by simp only [wb]; exact ⟨us, h, k⟩
theorem wb_fgt (k : wb S r (ρ.put i none) K) : wb S (.fgt i r) ρ K := by simpa only [wb] using k
theorem wb_unp2 (k : w S e ρ fun t => ∃ u v, t.its = some [u, v] ∧ i < ρ.length ∧ j < ρ.length ∧ wb S r ((ρ.put i (some u)).put j (some v)) K) : wb S (.unp2 i j e r) ρ K := by simpa only [wb] using k
theorem wb_app (h : ρ.at i = some (.lst us)) (h1 : us.length ≤ 99999) (k : w S e ρ fun t => t.fin fun u => wb S r (ρ.put i (some (.lst (us ++ [u])))) K) : wb S (.app i e r) ρ K := by simp only [wb]; exact ⟨us, h, h1, k⟩
theorem wb_ex (k : w S e ρ fun _ => wb S r ρ K) : wb S (.ex e r) ρ K := by simpa only [wb] using k
theorem wb_ret (k : w S e ρ fun t => t.fin fun u => K.rt u ρ) : wb S (.ret e r) ρ K := by simpa only [wb] using k
theorem wb_retN (k : K.rt (.leaf .non) ρ) : wb S (.retN r) ρ K := by simpa only [wb] using k
theorem wb_ite (k : wt S x ρ fun b => if b = true then wb S b1 ρ { K with nx := fun ρ' => wb S r ρ' K } else wb S b2 ρ { K with nx := fun ρ' => wb S r ρ' K }) : wb S (.ite x b1 b2 r) ρ K := by simpa only [wb] using k
theorem wb_for (k : wi S x ρ fun ds => forW g (fun ρ K => wb S b1 ρ K) ds ρ { K with nx := fun ρ' => wb S r ρ' K }) : wb S (.for_ g x b1 r) ρ K := by simpa only [wb] using k
theorem wb_whl (n : Nat) (k : whileW (wt S x) (fun ρ K => wb S b1 ρ K) n ρ { K with nx := fun ρ' => wb S r ρ' K }) : wb S (.whl x b1 r) ρ K := by simp only [wb]; exact ⟨n, k⟩
theorem wb_pass (k : wb S r ρ K) : wb S (.pass r) ρ K := by simpa only [wb] using k
theorem wb_brk (k : K.bk ρ) : wb S (.brk r) ρ K := by simpa only [wb] using k
theorem wb_cont (k : K.ct ρ) : wb S (.cont r) ρ K := by simpa only [wb] using k
theorem wb_fz (h0 : S.z = true) (h : ρ.at i = some u) (k : wb S r (ρ.put i (some (.leaf u.dat))) K) : wb S (.fz i r) ρ K := by simp only [wb]; exact ⟨h0, u, h, k⟩
/-! the data's steps -/
theorem fin_leaf (h : t = .leaf d) (k : Φ (.leaf d)) : t.fin Φ := by subst h; exact k
theorem fin_lst (h : t = .lst us) (k : Φ (.lst us)) : t.fin Φ := by subst h; exact k
theorem fin_tup (h : t = .tup us) (k : Φ (.tup us)) : t.fin Φ := by subst h; exact k
theorem ex_int {p : Int → Prop} (h : t.dat = .int n) (k : p n) : ∃ i, t.dat = .int i ∧ p i := ⟨n, h, k⟩
theorem ex_bl {p : Bool → Prop} {b : Bool} (h : t.dat = .bl b) (k : p b) : ∃ i, t.dat = .bl i ∧ p i := ⟨b, h, k⟩
theorem ite_dec {p : Prop} [dp : Decidable p] {A B : Prop} (h1 : p → A) (h2 : ¬p → B) : if decide p = true then A else B := by
  by_cases h : p
  · rw [if_pos (decide_eq_true h)]; exact h1 h
  · rw [if_neg (by simp [h])]; exact h2 h
theorem ite_ndec {p : Prop} [dp : Decidable p] {A B : Prop} (h1 : ¬p → A) (h2 : p → B) : if (!decide p) = true then A else B := by
  by_cases h : p
  · rw [if_neg (by simp [h])]; exact h2 h
  · rw [if_pos (by simp [h])]; exact h1 h
theorem ite_t {A B : Prop} (h : A) : if true = true then A else B := by rw [if_pos rfl]; exact h
theorem ite_f {A B : Prop} (h : B) : if false = true then A else B := by rw [if_neg (by decide)]; exact h
theorem ite_b {b : Bool} {A B : Prop} (h1 : b = true → A) (h2 : b = false → B) : if b = true then A else B := by
  cases b with
  | true => exact ite_t (h1 rfl)
  | false => exact ite_f (h2 rfl)
theorem fit_int (n : Int) : (D.int n).Fit := ⟨rfl, by simp [D.dep]⟩
theorem c_eq {d1 d2 : D} (h1 : d1 = .int n) (h2 : d2 = .int m) (k : Ψ (decide (n = m))) : cmpD .eq d1 d2 Ψ := by
  subst h1 h2
  simp only [cmpD, eqD_int]; exact .inr ⟨fit_int _, fit_int _, k⟩
theorem c_ne {d1 d2 : D} (h1 : d1 = .int n) (h2 : d2 = .int m) (k : Ψ (!decide (n = m))) : cmpD .ne d1 d2 Ψ := by
  subst h1 h2
  simp only [cmpD, eqD_int]; exact .inr ⟨fit_int _, fit_int _, k⟩
theorem c_eqs {d1 d2 : D} {s1 s2 : Str} (h1 : d1 = .str s1) (h2 : d2 = .str s2) (k : Ψ (decide (s1 = s2))) : cmpD .eq d1 d2 Ψ := by
  subst h1 h2
  exact .inl ⟨_, _, rfl, rfl, k⟩
theorem c_eqd {d1 d2 : D} (h1 : d1.Fit) (h2 : d2.Fit) (k : Ψ (eqD d1 d2)) : cmpD .eq d1 d2 Ψ := .inr ⟨h1, h2, k⟩
theorem c_ned {d1 d2 : D} (h1 : d1.Fit) (h2 : d2.Fit) (k : Ψ (!eqD d1 d2)) : cmpD .ne d1 d2 Ψ := .inr ⟨h1, h2, k⟩
theorem c_lt {d1 d2 : D} (h1 : d1 = .int n) (h2 : d2 = .int m) (k : Ψ (decide (n < m))) : cmpD .lt d1 d2 Ψ := by
  subst h1 h2
  simp only [cmpD]; exact k
theorem c_le {d1 d2 : D} (h1 : d1 = .int n) (h2 : d2 = .int m) (k : Ψ (decide (n ≤ m))) : cmpD .le d1 d2 Ψ := by
  subst h1 h2
  simp only [cmpD]; exact k
theorem c_gt {d1 d2 : D} (h1 : d1 = .int n) (h2 : d2 = .int m) (k : Ψ (decide (m < n))) : cmpD .gt d1 d2 Ψ := by
  subst h1 h2
  simp only [cmpD]; exact k
theorem c_ge {d1 d2 : D} (h1 : d1 = .int n) (h2 : d2 = .int m) (k : Ψ (decide (m ≤ n))) : cmpD .ge d1 d2 Ψ := by
  subst h1 h2
  simp only [cmpD]; exact k
theorem b_add (h1 : t.dat = .int n) (h2 : u.dat = .int m) (k : Φ (.leaf (.int (n + m)))) : binT .add t u Φ := by simp only [binT, h1, h2, binD]; exact k
theorem b_sub (h1 : t.dat = .int n) (h2 : u.dat = .int m) (k : Φ (.leaf (.int (n - m)))) : binT .sub t u Φ := by simp only [binT, h1, h2, binD]; exact k
theorem b_mul (h1 : t.dat = .int n) (h2 : u.dat = .int m) (h : MulOk n m) (k : Φ (.leaf (.int (n * m)))) : binT .mul t u Φ := by simp only [binT, h1, h2, binD]; exact ⟨h, k⟩
theorem b_mod (h1 : t.dat = .int n) (h2 : u.dat = .int m) (h : 0 < m) (k : Φ (.leaf (.int (n % m)))) : binT .mod t u Φ := by simp only [binT, h1, h2, binD]; exact ⟨h, k⟩
theorem small_log {j : Int} (h : 0 < j ∧ j < 10 ^ 100) : 0 < j ∧ j.natAbs.log2 < 9000 := by
  refine ⟨h.1, ?_⟩
  have : j.natAbs < 2 ^ 400 := by
    have h2 : (10 : Int) ^ 100 < 2 ^ 400 := by decide +kernel
    have h3 : j < 2 ^ 400 := Int.lt_trans h.2 h2
    omega
  by_cases z : j.natAbs = 0
  · rw [z]; decide
  · exact Nat.lt_of_lt_of_le ((Nat.log2_lt z).mpr this) (by decide)
theorem b_fdiv (h1 : t.dat = .int n) (h2 : u.dat = .int m) (h : 0 < m ∧ m < 10 ^ 100) (k : Φ (.leaf (.int (n / m)))) : binT .fdiv t u Φ := by simp only [binT, h1, h2, binD]; exact ⟨small_log h, k⟩
theorem b_pow (h1 : t.dat = .int n) (h2 : u.dat = .int m) (h : 0 ≤ m ∧ m ≤ 1000000 ∧ n.natAbs < 2 ^ 64) (k : Φ (.leaf (.int (n ^ m.toNat)))) : binT .pow t u Φ := by simp only [binT, h1, h2, binD]; exact ⟨h, k⟩
theorem mulL (h : -(2 ^ 64) < n ∧ n < 2 ^ 64) : MulOk n m := .inl h
theorem mulR (h : -(2 ^ 64) < m ∧ m < 2 ^ 64) : MulOk n m := .inr (.inl h)
theorem ix_lst {v : T} {d1 : D} (h1 : v = .lst us) (h2 : d1 = .int n) (h : atI us n = some t) (k : Φ t) : ixT v d1 Φ := by subst h1 h2; exact ⟨t, h, k⟩
theorem ix_tup {v : T} {d1 : D} (h1 : v = .tup us) (h2 : d1 = .int n) (h : atI us n = some t) (k : Φ t) : ixT v d1 Φ := by subst h1 h2; exact ⟨t, h, k⟩
theorem ix_ll {v : T} {d1 : D} (h1 : v = .leaf (.lst ds)) (h2 : d1 = .int n) (h : atI ds n = some d) (k : Φ (.leaf d)) : ixT v d1 Φ := by subst h1 h2; exact ⟨d, h, k⟩
theorem ix_lt {v : T} {d1 : D} (h1 : v = .leaf (.tup ds)) (h2 : d1 = .int n) (h : atI ds n = some d) (k : Φ (.leaf d)) : ixT v d1 Φ := by subst h1 h2; exact ⟨d, h, k⟩
theorem ix_vl {v : T} {d1 : D} (h1 : v = .vw (.lst ds)) (h2 : d1 = .int n) (h : atI ds n = some d) (k : Φ d.vwOf) : ixT v d1 Φ := by subst h1 h2; exact ⟨d, h, k⟩
theorem ix_vt {v : T} {d1 : D} (h1 : v = .vw (.tup ds)) (h2 : d1 = .int n) (h : atI ds n = some d) (k : Φ d.vwOf) : ixT v d1 Φ := by subst h1 h2; exact ⟨d, h, k⟩
theorem ix_vli {v : T} {d1 : D} (h1 : v = .vw (.lst ds)) (h2 : d1 = .int n) (h : atI ds n = some (.int m)) (k : Φ (.leaf (.int m))) : ixT v d1 Φ := ix_vl h1 h2 h k
theorem ix_vti {v : T} {d1 : D} (h1 : v = .vw (.tup ds)) (h2 : d1 = .int n) (h : atI ds n = some (.int m)) (k : Φ (.leaf (.int m))) : ixT v d1 Φ := ix_vt h1 h2 h k
theorem ix_vls {s : Str} {v : T} {d1 : D} (h1 : v = .vw (.lst ds)) (h2 : d1 = .int n) (h : atI ds n = some (.str s)) (k : Φ (.leaf (.str s))) : ixT v d1 Φ := ix_vl h1 h2 h k
theorem ix_vts {s : Str} {v : T} {d1 : D} (h1 : v = .vw (.tup ds)) (h2 : d1 = .int n) (h : atI ds n = some (.str s)) (k : Φ (.leaf (.str s))) : ixT v d1 Φ := ix_vt h1 h2 h k
theorem ix_vll {ds' : List D} {v : T} {d1 : D} (h1 : v = .vw (.lst ds)) (h2 : d1 = .int n) (h : atI ds n = some (.lst ds')) (k : Φ (.vw (.lst ds'))) : ixT v d1 Φ := ix_vl h1 h2 h k
theorem ix_vtl {ds' : List D} {v : T} {d1 : D} (h1 : v = .vw (.tup ds)) (h2 : d1 = .int n) (h : atI ds n = some (.lst ds')) (k : Φ (.vw (.lst ds'))) : ixT v d1 Φ := ix_vt h1 h2 h k
theorem ix_vlt {ds' : List D} {v : T} {d1 : D} (h1 : v = .vw (.lst ds)) (h2 : d1 = .int n) (h : atI ds n = some (.tup ds')) (k : Φ (.vw (.tup ds'))) : ixT v d1 Φ := ix_vl h1 h2 h k
theorem ix_vtt {ds' : List D} {v : T} {d1 : D} (h1 : v = .vw (.tup ds)) (h2 : d1 = .int n) (h : atI ds n = some (.tup ds')) (k : Φ (.vw (.tup ds'))) : ixT v d1 Φ := ix_vt h1 h2 h k
theorem a_add {d1 d2 : D} {Ψ : D → Prop} (h1 : d1 = .int n) (h2 : d2 = .int m) (k : Ψ (.int (n + m))) : augD .add d1 d2 Ψ := by subst h1 h2; exact k
theorem a_sub {d1 d2 : D} {Ψ : D → Prop} (h1 : d1 = .int n) (h2 : d2 = .int m) (k : Ψ (.int (n - m))) : augD .sub d1 d2 Ψ := by subst h1 h2; exact k
theorem bind_nm {p : Env → Prop} (h : Nat.blt i ρ.length = true) (k : p (ρ.put i (some u))) : ∃ ρ', bindG (.nm i) u ρ = some ρ' ∧ p ρ' := ⟨_, by simp only [bindG]; exact if_pos (Nat.le_of_ble_eq_true h), k⟩
theorem bind_to {p : Env → Prop} (h : bindG g u ρ = some ρ') (k : p ρ') : ∃ ρ', bindG g u ρ = some ρ' ∧ p ρ' := ⟨_, h, k⟩
theorem set_at {p : Int → Nat → Prop} (h : t.dat = .int n) (h2 : ixN i n = some j) (k : p n j) : ∃ n j, t.dat = .int n ∧ ixN i n = some j ∧ p n j := ⟨_, _, h, h2, k⟩
theorem set_to {p : Nat → Prop} (h : t.dat = .int n) (h2 : ixN i n = some j) (k : p j) : ∃ n j, t.dat = .int n ∧ ixN i n = some j ∧ p j := ⟨_, _, h, h2, k⟩
theorem aug_to {p : Nat → D → Prop} (h : t.dat = .int n) (h2 : ixN i n = some j) (h3 : us[j]? = some (.leaf d)) (k : p j d) : ∃ n j d, t.dat = .int n ∧ ixN i n = some j ∧ us[j]? = some (.leaf d) ∧ p j d := ⟨_, _, _, h, h2, h3, k⟩
theorem l_len (h : t.dat = .lst ds) (k : Φ (.leaf (.int ds.length))) : bltT .len [t] Φ := by simp only [bltT, T.dats, h, bltD]; exact k
theorem l_lent (h : t.dat = .tup ds) (k : Φ (.leaf (.int ds.length))) : bltT .len [t] Φ := by simp only [bltT, T.dats, h, bltD]; exact k
theorem l_abs (h : t.dat = .int n) (k : Φ (.leaf (.int (if n < 0 then -n else n)))) : bltT .abs [t] Φ := by simp only [bltT, T.dats, h, bltD]; exact k
theorem l_max2 (h : t.dat = .int n) (h2 : u.dat = .int m) (k : Φ (.leaf (.int (if m > n then m else n)))) : bltT .max [t, u] Φ := by simp only [bltT, T.dats, h, h2, bltD]; exact k
theorem l_min2 (h : t.dat = .int n) (h2 : u.dat = .int m) (k : Φ (.leaf (.int (if m < n then m else n)))) : bltT .min [t, u] Φ := by simp only [bltT, T.dats, h, h2, bltD]; exact k
theorem l_repr (h : t.dat = d) (h2 : d.Shw) (k : Φ (.leaf (.str (shown d)))) : bltT .repr [t] Φ := by simp only [bltT, T.dats, h, bltD]; exact ⟨h2, k⟩
theorem l_list (h : t.its = some us ∨ t.prt = some us) (k : Φ (.lst us)) : bltT .list [t] Φ := ⟨us, h, k⟩
theorem l_tuple (h : t.its = some us ∨ t.prt = some us) (k : Φ (T.mk us)) : bltT .tuple [t] Φ := ⟨us, h, k⟩
theorem fz_nil {z : Bool} {Ψ : List D → Prop} (k : Ψ []) : frozs z [] Ψ := k
theorem fz_cons {z : Bool} {Ψ : List D → Prop} (k : t.froz z fun d => frozs z us fun ds => Ψ (d :: ds)) : frozs z (t :: us) Ψ := k
theorem fz_leaf {z : Bool} {Ψ : D → Prop} (h : t = .leaf d) (k : Ψ d) : t.froz z Ψ := by subst h; exact k
theorem fz_vw {z : Bool} {Ψ : D → Prop} (h0 : t = .vw d) (h : d.flat = true) (k : Ψ d) : t.froz z Ψ := by subst h0; exact ⟨h, k⟩
theorem fz_lst {z : Bool} {Ψ : D → Prop} (h0 : t = .lst us) (h : z = true) (k : Ψ (T.lst us).dat) : t.froz z Ψ := by subst h0; exact ⟨h, k⟩
theorem fz_tup {z : Bool} {Ψ : D → Prop} (h0 : t = .tup us) (h : z = true) (k : Ψ (T.tup us).dat) : t.froz z Ψ := by subst h0; exact ⟨h, k⟩
end
end DL
namespace DL
open PySem PySem.Spec PyProof.Rows L2

/-! ### the bag's two defs -/
def takeP2 : B := .ite (.cmp .gt (.ix (.ow 0) (.int 0)) (.int 0))
    (.asg (.nm 3) (.bin .mod (.ix (.ow 0) (.int 0)) (.nm 1))
    (.setix 0 (.int 0) (.bin .fdiv (.ix (.ow 0) (.int 0)) (.nm 1))
    (.ret (.nm 3) .nil))) .nil
  (.asg (.nm 4) (.bin .mod (.bin .mul (.bin .add (.ix (.ow 0) (.int 1)) (.int 1)) (.int 39373)) (.int 1000000007))
  (.asg (.nm 5) (.bin .mod (.bin .mul (.bin .mod (.bin .mul (.nm 4) (.nm 4)) (.int 998244353)) (.int 30011)) (.int 998244353))
  (.ite (.cmp .gt (.nm 1) (.int 1000000)) (.ret (.bin .mod (.bin .add (.bin .mul (.nm 5) (.int 1000000007)) (.nm 4)) (.nm 1)) .nil) .nil
  (.ret (.bin .mod (.bin .fdiv (.nm 5) (.int 7)) (.nm 1)) .nil))))
def takeP1 : B := .augix .add 0 (.int 2) (.int 1)
    (.ite (.cmp .ge (.nm 2) (.int 1000000000000000000)) (.setix 0 (.int 0) (.nm 2) .nil) .nil
    (.setix 0 (.int 1) (.bin .mod (.bin .add (.bin .add (.bin .mul (.ix (.ow 0) (.int 1)) (.int 48271)) (.bin .mod (.nm 2) (.int 2147483647))) (.bin .mul (.int 7919) (.ix (.ow 0) (.int 2)))) (.int 2147483647)) .nil))
abbrev takeB : B :=
  .ite (.cmp .eq (.ix (.ow 0) (.int 0)) (.int 0))
    (.asg (.nm 2) (.int 0)
    (.ite (.cmp .lt (.ix (.ow 0) (.int 2)) (.blt .len (.cons (.ix (.ow 0) (.int 3)) .nil)))
      (.asg (.nm 2) (.ix (.ix (.ow 0) (.int 3)) (.ix (.ow 0) (.int 2))) .nil) .nil takeP1)) .nil takeP2
def lf (n : Int) : T := .leaf (.int n)
def bagT (x y z : Int) (ns : List Int) : T := .lst [.leaf (.int x), .leaf (.int y), .leaf (.int z), .leaf (.lst (ns.map .int))]
def BagN (x y z : Int) (ns : List Int) : Prop := 0 ≤ x ∧ 0 ≤ y ∧ y < 2147483647 ∧ 0 ≤ z ∧ ∀ n ∈ ns, 0 ≤ n
theorem atI_ints {ns : List Int} {z : Int} (h0 : 0 ≤ z) (h : z < (ns.map D.int).length) : ∃ n, n ∈ ns ∧ atI (ns.map D.int) z = some (.int n) := by
  rw [List.length_map] at h
  refine ⟨ns[z.toNat]'(by omega), List.getElem_mem _, ?_⟩
  unfold L2.atI L2.ixN
  rw [if_pos h0, List.length_map, if_pos h]
  simp only [Option.bind_some, List.getElem?_map]
  rw [List.getElem?_eq_getElem (by omega)]
  rfl
theorem takeW {x y z m : Int} {ns : List Int} {S : Sg} (b : BagN x y z ns) (hm : 0 < m) (hm2 : m < 10 ^ 100) {K : EnD}
    (k : ∀ (v x' y' z' : Int) (ρ : Env), 0 ≤ v → v < m → BagN x' y' z' ns → ρ.at 0 = some (bagT x' y' z' ns) → K.rt (.leaf (.int v)) ρ) :
    wb S takeB [some (bagT x y z ns), some (.leaf (.int m)), none, none, none, none] K := by
  have part2 : ∀ (x y z : Int) (c : Option T), BagN x y z ns → wb S takeP2 [some (bagT x y z ns), some (.leaf (.int m)), c, none, none, none] K := fun x y z c b => by
    unfold takeP2
    repeat' first | ((with_reducible apply w_nm); exact rfl) | with_reducible refine w_int ?_ | ((with_reducible apply w_ow); exact rfl) | with_reducible refine w_ix ?_ | with_reducible refine w_bin ?_ | with_reducible refine w_cmp ?_ | ((with_reducible apply w_call); exact rfl) | with_reducible refine w_blt ?_ | ((with_reducible apply w_gl); exact rfl) | with_reducible refine w_str ?_ | with_reducible refine w_bl ?_ | with_reducible refine w_non ?_ | with_reducible refine w_neg ?_ | with_reducible refine w_tup ?_ | with_reducible refine w_lst ?_ | with_reducible refine w_not ?_ | with_reducible refine w_and ?_ | with_reducible refine w_or ?_ | with_reducible refine w_one ?_ | with_reducible refine w_ife ?_ | with_reducible refine w_sl ?_ | with_reducible refine w_chn ?_ | ((with_reducible apply w_lc); exact rfl) | with_reducible refine wa_cons ?_ | with_reducible refine wa_nil ?_ | with_reducible refine wv_cons ?_ | with_reducible refine wv_nil ?_ | with_reducible refine wo_nop ?_ | with_reducible refine wo_prt ?_ | with_reducible refine wt_cmp ?_ | with_reducible refine wt_not ?_ | with_reducible refine wt_and ?_ | with_reducible refine wt_or ?_ | with_reducible refine wt_one ?_ | with_reducible refine wt_chn ?_ | with_reducible refine wt_val ?_ | with_reducible refine wc_nop ?_ | with_reducible refine wc_one ?_ | with_reducible refine wi_sq ?_ | with_reducible refine wi_rng ?_ | with_reducible refine wi_zip ?_ | with_reducible refine wi_enm ?_ | with_reducible refine wb_asg ?_ | with_reducible refine wb_ite ?_ | with_reducible refine wb_ret ?_ | with_reducible refine wb_nil ?_ | with_reducible refine wb_for ?_ | ((with_reducible apply wb_asgLc); exact rfl; exact rfl) | ((with_reducible apply wb_setix); exact rfl) | ((with_reducible apply wb_augix); exact rfl) | ((with_reducible apply wb_aug); exact rfl; exact rfl) | with_reducible refine wb_ex ?_ | with_reducible refine wb_retN ?_ | with_reducible refine wb_pass ?_ | with_reducible refine wb_brk ?_ | with_reducible refine wb_cont ?_ | ((with_reducible apply wb_fz); exact rfl; exact rfl) | ((with_reducible apply fin_leaf); exact rfl) | ((with_reducible apply fin_lst); exact rfl) | ((with_reducible apply fin_tup); exact rfl) | ((with_reducible apply bind_nm); exact rfl) | ((with_reducible apply c_eq); exact rfl; exact rfl) | ((with_reducible apply c_ne); exact rfl; exact rfl) | ((with_reducible apply c_lt); exact rfl; exact rfl) | ((with_reducible apply c_le); exact rfl; exact rfl) | ((with_reducible apply c_gt); exact rfl; exact rfl) | ((with_reducible apply c_ge); exact rfl; exact rfl) | ((with_reducible apply b_add); exact rfl; exact rfl) | ((with_reducible apply b_sub); exact rfl; exact rfl) | ((with_reducible apply wb_par2); decide; exact rfl; exact rfl) | ((with_reducible apply wb_app); exact rfl; (simp; done)) | ((with_reducible apply wb_app); exact rfl) | ((with_reducible apply b_mul); exact rfl; exact rfl; exact mulR ⟨by decide, by decide⟩) | ((with_reducible apply b_mul); exact rfl; exact rfl; exact mulL ⟨by decide, by decide⟩) | ((with_reducible apply b_mul); exact rfl; exact rfl; exact mulL ⟨by omega, by omega⟩) | ((with_reducible apply b_mul); exact rfl; exact rfl; exact mulR ⟨by omega, by omega⟩) | ((with_reducible apply b_mul); exact rfl; exact rfl) | ((with_reducible apply b_mod); exact rfl; exact rfl; (first | decide | assumption | omega)) | ((with_reducible apply b_mod); exact rfl; exact rfl) | ((with_reducible apply b_fdiv); exact rfl; exact rfl; exact ⟨by decide, by decide⟩) | ((with_reducible apply b_fdiv); exact rfl; exact rfl; exact ⟨by assumption, by assumption⟩) | ((with_reducible apply b_fdiv); exact rfl; exact rfl) | ((with_reducible apply ix_vli); exact rfl; exact rfl; exact rfl) | ((with_reducible apply ix_vll); exact rfl; exact rfl; exact rfl) | ((with_reducible apply ix_lst); exact rfl; exact rfl; exact rfl) | ((with_reducible apply ix_ll); exact rfl; exact rfl; exact rfl) | ((with_reducible apply ix_lt); exact rfl; exact rfl; exact rfl) | ((with_reducible apply ix_tup); exact rfl; exact rfl; exact rfl) | ((with_reducible apply ix_vti); exact rfl; exact rfl; exact rfl) | ((with_reducible apply ix_vlt); exact rfl; exact rfl; exact rfl) | ((with_reducible apply ix_vtl); exact rfl; exact rfl; exact rfl) | ((with_reducible apply ix_vls); exact rfl; exact rfl; exact rfl) | ((with_reducible apply a_add); exact rfl; exact rfl) | ((with_reducible apply a_sub); exact rfl; exact rfl) | ((with_reducible apply l_len); exact rfl) | ((with_reducible apply l_lent); exact rfl) | ((with_reducible apply l_abs); exact rfl) | ((with_reducible apply l_max2); exact rfl; exact rfl) | ((with_reducible apply l_min2); exact rfl; exact rfl) | with_reducible refine fz_nil ?_ | with_reducible refine fz_cons ?_ | ((with_reducible apply fz_leaf); exact rfl) | ((with_reducible apply fz_lst); exact rfl; exact rfl) | ((with_reducible apply fz_tup); exact rfl; exact rfl) | ((with_reducible apply fz_vw); exact rfl; exact rfl) | ((with_reducible apply ex_int); exact rfl) | ((with_reducible apply ex_bl); exact rfl) | ((with_reducible apply set_to); exact rfl; exact rfl) | ((with_reducible apply aug_to); exact rfl; exact rfl; exact rfl) | with_reducible refine ite_dec (fun _ => ?_) (fun _ => ?_) | with_reducible refine ite_ndec (fun _ => ?_) (fun _ => ?_) | with_reducible refine ite_t ?_ | with_reducible refine ite_f ?_
    · exact k _ (x / m) y z _ (Int.emod_nonneg _ (by omega)) (Int.emod_lt_of_pos _ hm) ⟨Int.ediv_nonneg b.1 (by omega), b.2⟩ rfl
    · exact k _ x y z _ (Int.emod_nonneg _ (by omega)) (Int.emod_lt_of_pos _ hm) b rfl
    · exact k _ x y z _ (Int.emod_nonneg _ (by omega)) (Int.emod_lt_of_pos _ hm) b rfl
  have part1 : ∀ (c : Int), x = 0 → 0 ≤ c → wb S takeP1 [some (bagT x y z ns), some (.leaf (.int m)), some (.leaf (.int c)), none, none, none] { K with nx := fun ρ' => wb S takeP2 ρ' K } := fun c ex hc => by
    unfold takeP1
    have hz := b.2.2.2.1
    have l := b.2.2.2.2
    repeat' first | ((with_reducible apply w_nm); exact rfl) | with_reducible refine w_int ?_ | ((with_reducible apply w_ow); exact rfl) | with_reducible refine w_ix ?_ | with_reducible refine w_bin ?_ | with_reducible refine w_cmp ?_ | ((with_reducible apply w_call); exact rfl) | with_reducible refine w_blt ?_ | ((with_reducible apply w_gl); exact rfl) | with_reducible refine w_str ?_ | with_reducible refine w_bl ?_ | with_reducible refine w_non ?_ | with_reducible refine w_neg ?_ | with_reducible refine w_tup ?_ | with_reducible refine w_lst ?_ | with_reducible refine w_not ?_ | with_reducible refine w_and ?_ | with_reducible refine w_or ?_ | with_reducible refine w_one ?_ | with_reducible refine w_ife ?_ | with_reducible refine w_sl ?_ | with_reducible refine w_chn ?_ | ((with_reducible apply w_lc); exact rfl) | with_reducible refine wa_cons ?_ | with_reducible refine wa_nil ?_ | with_reducible refine wv_cons ?_ | with_reducible refine wv_nil ?_ | with_reducible refine wo_nop ?_ | with_reducible refine wo_prt ?_ | with_reducible refine wt_cmp ?_ | with_reducible refine wt_not ?_ | with_reducible refine wt_and ?_ | with_reducible refine wt_or ?_ | with_reducible refine wt_one ?_ | with_reducible refine wt_chn ?_ | with_reducible refine wt_val ?_ | with_reducible refine wc_nop ?_ | with_reducible refine wc_one ?_ | with_reducible refine wi_sq ?_ | with_reducible refine wi_rng ?_ | with_reducible refine wi_zip ?_ | with_reducible refine wi_enm ?_ | with_reducible refine wb_asg ?_ | with_reducible refine wb_ite ?_ | with_reducible refine wb_ret ?_ | with_reducible refine wb_nil ?_ | with_reducible refine wb_for ?_ | ((with_reducible apply wb_asgLc); exact rfl; exact rfl) | ((with_reducible apply wb_setix); exact rfl) | ((with_reducible apply wb_augix); exact rfl) | ((with_reducible apply wb_aug); exact rfl; exact rfl) | with_reducible refine wb_ex ?_ | with_reducible refine wb_retN ?_ | with_reducible refine wb_pass ?_ | with_reducible refine wb_brk ?_ | with_reducible refine wb_cont ?_ | ((with_reducible apply wb_fz); exact rfl; exact rfl) | ((with_reducible apply fin_leaf); exact rfl) | ((with_reducible apply fin_lst); exact rfl) | ((with_reducible apply fin_tup); exact rfl) | ((with_reducible apply bind_nm); exact rfl) | ((with_reducible apply c_eq); exact rfl; exact rfl) | ((with_reducible apply c_ne); exact rfl; exact rfl) | ((with_reducible apply c_lt); exact rfl; exact rfl) | ((with_reducible apply c_le); exact rfl; exact rfl) | ((with_reducible apply c_gt); exact rfl; exact rfl) | ((with_reducible apply c_ge); exact rfl; exact rfl) | ((with_reducible apply b_add); exact rfl; exact rfl) | ((with_reducible apply b_sub); exact rfl; exact rfl) | ((with_reducible apply wb_par2); decide; exact rfl; exact rfl) | ((with_reducible apply wb_app); exact rfl; (simp; done)) | ((with_reducible apply wb_app); exact rfl) | ((with_reducible apply b_mul); exact rfl; exact rfl; exact mulR ⟨by decide, by decide⟩) | ((with_reducible apply b_mul); exact rfl; exact rfl; exact mulL ⟨by decide, by decide⟩) | ((with_reducible apply b_mul); exact rfl; exact rfl; exact mulL ⟨by omega, by omega⟩) | ((with_reducible apply b_mul); exact rfl; exact rfl; exact mulR ⟨by omega, by omega⟩) | ((with_reducible apply b_mul); exact rfl; exact rfl) | ((with_reducible apply b_mod); exact rfl; exact rfl; (first | decide | assumption | omega)) | ((with_reducible apply b_mod); exact rfl; exact rfl) | ((with_reducible apply b_fdiv); exact rfl; exact rfl; exact ⟨by decide, by decide⟩) | ((with_reducible apply b_fdiv); exact rfl; exact rfl; exact ⟨by assumption, by assumption⟩) | ((with_reducible apply b_fdiv); exact rfl; exact rfl) | ((with_reducible apply ix_vli); exact rfl; exact rfl; exact rfl) | ((with_reducible apply ix_vll); exact rfl; exact rfl; exact rfl) | ((with_reducible apply ix_lst); exact rfl; exact rfl; exact rfl) | ((with_reducible apply ix_ll); exact rfl; exact rfl; exact rfl) | ((with_reducible apply ix_lt); exact rfl; exact rfl; exact rfl) | ((with_reducible apply ix_tup); exact rfl; exact rfl; exact rfl) | ((with_reducible apply ix_vti); exact rfl; exact rfl; exact rfl) | ((with_reducible apply ix_vlt); exact rfl; exact rfl; exact rfl) | ((with_reducible apply ix_vtl); exact rfl; exact rfl; exact rfl) | ((with_reducible apply ix_vls); exact rfl; exact rfl; exact rfl) | ((with_reducible apply a_add); exact rfl; exact rfl) | ((with_reducible apply a_sub); exact rfl; exact rfl) | ((with_reducible apply l_len); exact rfl) | ((with_reducible apply l_lent); exact rfl) | ((with_reducible apply l_abs); exact rfl) | ((with_reducible apply l_max2); exact rfl; exact rfl) | ((with_reducible apply l_min2); exact rfl; exact rfl) | with_reducible refine fz_nil ?_ | with_reducible refine fz_cons ?_ | ((with_reducible apply fz_leaf); exact rfl) | ((with_reducible apply fz_lst); exact rfl; exact rfl) | ((with_reducible apply fz_tup); exact rfl; exact rfl) | ((with_reducible apply fz_vw); exact rfl; exact rfl) | ((with_reducible apply ex_int); exact rfl) | ((with_reducible apply ex_bl); exact rfl) | ((with_reducible apply set_to); exact rfl; exact rfl) | ((with_reducible apply aug_to); exact rfl; exact rfl; exact rfl) | with_reducible refine ite_dec (fun _ => ?_) (fun _ => ?_) | with_reducible refine ite_ndec (fun _ => ?_) (fun _ => ?_) | with_reducible refine ite_t ?_ | with_reducible refine ite_f ?_
    · refine part2 c _ _ _ ⟨hc, ?_, ?_, by omega, l⟩
      · exact Int.emod_nonneg _ (by decide)
      · exact Int.emod_lt_of_pos _ (by decide)
    · refine part2 x _ _ _ ⟨b.1, ?_, ?_, by omega, l⟩
      · exact Int.emod_nonneg _ (by decide)
      · exact Int.emod_lt_of_pos _ (by decide)
  refine wb_ite ?_
  refine wt_cmp (w_ix (w_ow rfl (w_int (ix_vli rfl rfl rfl (w_int (c_eq rfl rfl (ite_dec (fun h => ?_) fun h => ?_)))))))
  · refine wb_asg (w_int (fin_leaf rfl (bind_nm rfl (wb_ite (wt_cmp (w_ix (w_ow rfl (w_int (ix_vli rfl rfl rfl (w_blt (wv_cons (w_ix (w_ow rfl (w_int (ix_vll rfl rfl rfl (wv_nil (l_len rfl (c_lt rfl rfl (ite_dec (fun h2 => ?_) fun h2 => ?_)))))))))))))))))))
    · obtain ⟨n, hn, hi⟩ := atI_ints b.2.2.2.1 h2
      refine wb_asg (w_ix (w_ix (w_ow rfl (w_int (ix_vll rfl rfl rfl (w_ix (w_ow rfl (w_int (ix_vli rfl rfl rfl (ix_vli rfl rfl hi (fin_leaf rfl (bind_nm rfl (wb_nil ?_)))))))))))))
      exact part1 n h (b.2.2.2.2 n hn)
    · refine wb_nil ?_
      exact part1 0 h (Int.le_refl 0)
  · refine wb_nil ?_
    exact part2 x y z none b
end DL
namespace DL
open PySem PySem.Spec PyProof.Rows L2

/-! ### statements that leave the first slot's place alone -/
def Pn (b : Addr) (σ : L2.St) : Prop := σ[0]? = some (some (.ref b))
def Mtp (b : Addr) (a : An0) (K : EnD) (D : Ends) : Prop :=
  (∀ ρ σ H, K.nx ρ → SOk a ρ σ [] [] H → Pn b σ → D.nx σ H) ∧ ∀ t v ρ σ H, K.rt t ρ → SOk a ρ σ [t] [v] H → Pn b σ → D.rt v H
def DSp (b : Addr) (a : An0) (X : Cx) (ρ : Env) (st : Stmt) (K : EnD) : Prop := ∀ σ H D, SOk a ρ σ [] [] H → Pn b σ → Mtp b a K D → WS X st D σ H
def DBp (b : Addr) (a : An0) (X : Cx) (ρ : Env) (sts : List Stmt) (K : EnD) : Prop := ∀ σ H D, SOk a ρ σ [] [] H → Pn b σ → Mtp b a K D → WB X sts D σ H
def B.pin : DL.B → Bool
  | .nil => true
  | .asg (.nm i) _ r => i != 0 && r.pin
  | .setix _ _ _ r => r.pin
  | .augix _ _ _ _ r => r.pin
  | .ret _ _ => true
  | .ite _ x y r => x.pin && y.pin && r.pin
  | _ => false
section
variable {a : An0} {X : Cx} {ρ : Env} {σ : L2.St} {ts : List T} {vs : List V} {H F : Hp} {Sc Sm : List Addr} {Φ : T → Prop} {pos p : Pos} {e A B C tg it elt : Expr} {es : List Expr} {Ψ : List D → Prop} {z : Bool} {st : Stmt} {rest body : List Stmt} {K : EnD} {q : Addr}
theorem pn_wipe {i : Nat} {σ' : L2.St} (h0 : i ≠ 0) (pn : Pn q σ) (h : L2.wipe σ' [i] = L2.wipe σ [i]) : Pn q σ' := by
  have e : (L2.wipe σ' [i])[0]? = (L2.wipe σ [i])[0]? := by rw [h]
  have r : ∀ s : L2.St, (L2.wipe s [i])[0]? = s[0]? := fun s => by
    show (s.set i none)[0]? = s[0]?
    rw [List.getElem?_set_ne h0]
  rw [r, r] at e
  exact e.trans pn
theorem db_nilp (h : K.nx ρ) : DBp q a X ρ [] K := fun σ H D ok pn m => ⟨_, pss_nil, m.1 ρ σ H h ok pn⟩
theorem db_consp (h : DSp q a X ρ st { K with nx := fun ρ' => DBp q a X ρ' rest K }) : DBp q a X ρ (st :: rest) K := fun σ H D ok pn m => by
  refine ⟨_, pss_cons ps_W pb_W, ?_⟩
  show WS X st { D with nx := WB X rest D } σ H
  exact h σ H _ ok pn ⟨fun ρ' σ' H' hk ok' pn' => hk σ' H' D ok' pn' m, m.2⟩
theorem ds_asgp {c : Ct} {i : Nat} (h0 : i ≠ 0) (xo : XOk a X) (co : COk c X) (hg : okG c (.nm i) tg = true) (h1 : noComp e = true) (h2 : noPar2 c tg e = true) (h : DE a X ρ e fun t => t.fin fun u => ∃ ρ', bindG (.nm i) u ρ = some ρ' ∧ K.nx ρ') : DSp q a X ρ (.Assign [tg] e pos) K := fun σ H D ok pn m => by
  refine ⟨_, ps_asg pe_W pg_W (noswap h1) (nopar2 co h2) (asg_one hg), ?_⟩
  show WE X e σ H fun x H1 => WG X tg x σ H1 D.nx
  refine h σ H [] [] _ ok fun v t H1 h1 ok1 => SOk.fin ok1 h1 fun u ⟨ρ', hb, hk⟩ nu ok2 => ?_
  obtain ⟨F, Sc, Sm, w⟩ := ok2
  obtain ⟨S, h3, _⟩ := w.cut
  exact dg xo co hg (h3.nv nu) ⟨F, Sc, Sm, w⟩ hb fun σ' ok3 wp => m.1 ρ' σ' H1 hk ok3 (pn_wipe h0 pn (wp [i] fun j hj => hj))
theorem ds_retp (h : DE a X ρ e fun t => t.fin fun u => K.rt u ρ) : DSp q a X ρ (.Return (some e) pos) K := fun σ H D ok pn m => by
  refine ⟨_, ps_ret pe_W, ?_⟩
  show WE X e σ H D.rt
  exact h σ H [] [] _ ok fun v t H1 h1 ok1 => SOk.fin ok1 h1 fun u hk nu ok2 => m.2 u v ρ σ H1 hk ok2 pn
theorem ds_ifp {s1 s2 : List Stmt} (h : DT a X ρ A fun b => if b = true then DBp q a X ρ s1 K else DBp q a X ρ s2 K) : DSp q a X ρ (.If A s1 s2 pos) K := fun σ H D ok pn m => by
  refine ⟨_, ps_if pt_W pb_W pb_W, ?_⟩
  show WT X A σ H fun b H1 => if b = true then WB X s1 D σ H1 else WB X s2 D σ H1
  refine h σ H [] [] _ ok fun b H1 hb ok1 => ?_
  cases b with
  | true =>
    rw [if_pos rfl] at hb ⊢
    exact hb σ H1 D ok1 pn m
  | false =>
    rw [if_neg (by decide)] at hb ⊢
    exact hb σ H1 D ok1 pn m

/-! ### loops -/
theorem ds_setixp {i : Nat} {x : Str} {us : List T} {xp sp : Pos} (xo : XOk a X) (hW : a.W = []) (hN : X.N[i]? = some x) (hv : Vis X.env.scope x) (hd : (x == ("__debug__" : Str)) = false) (hc : (x == ("__classdict__" : Str)) = false)
    (h1 : noComp e = true) (hB : notSlice B = true) (hat : ρ.at i = some (.lst us)) (h : DE a X ρ e fun t => t.fin fun u => DE a X ρ B fun y => ∃ n j, y.dat = .int n ∧ ixN us.length n = some j ∧ K.nx (ρ.put i (some (.lst (us.set j u))))) :
    DSp q a X ρ (.Assign [.Subscript (.Name x xp) B sp] e pos) K := fun σ H D ok pn m => by
  refine ⟨_, ps_asg pe_W (pg_sub (pvar hN hv hd hc) pe_W set_list (ha := asg_sub hB)) (noswap1 h1) (by rfl) (by rfl), ?_⟩
  show WE X e σ H fun v H1 => tVar i σ H1 fun o H2 => WE X B σ H2 fun b H3 => rSetL o b v H3 fun H4 => D.nx σ H4
  refine h σ H [] [] _ ok fun y t H1 ht ok1 => SOk.fin ok1 ht fun u hu nu ok2 => ?_
  obtain ⟨F, Sc, Sm, w⟩ := ok2
  obtain ⟨v, S1, e1, h3, _⟩ := w.cells.get hat
  simp only [Ow] at h3
  obtain ⟨_, l, ws0, _, rfl, hl0, _⟩ := h3
  refine ⟨_, e1, ?_⟩
  refine hu σ H1 _ _ _ ⟨F, Sc, Sm, w⟩ fun b tb H3 ⟨n, j, hb, hj, hk⟩ ok3 => ?_
  have ib := ok3.top
  rw [hb] at ib
  obtain ⟨F2, Sc2, Sm2, w2⟩ := ok3.pop1
  obtain ⟨l', ws, e2, hl2, lw, so⟩ := w2.store (j := j) hW nu hat (ixN_seq hj).2.1
  rw [e1] at e2
  cases e2
  exact ⟨l, ws, n, j, rfl, ib.int, hl2, by rw [lw]; exact hj, m.1 _ σ _ hk so pn⟩
theorem ds_augixp {o : Aop} {i : Nat} {x : Str} {us : List T} {xp sp : Pos} (xo : XOk a X) (hW : a.W = []) (hN : X.N[i]? = some x) (hv : Vis X.env.scope x) (hd : (x == ("__debug__" : Str)) = false) (hc : (x == ("__classdict__" : Str)) = false)
    (hB : notSlice B = true) (hat : ρ.at i = some (.lst us)) (h : DE a X ρ B fun y => ∃ n j d, y.dat = .int n ∧ ixN us.length n = some j ∧ us[j]? = some (.leaf d) ∧ DE a X ρ e fun y2 => augD o d y2.dat fun r => K.nx (ρ.put i (some (.lst (us.set j (.leaf r)))))) :
    DSp q a X ρ (.AugAssign (.Subscript (.Name x xp) B sp) o.op e pos) K := fun σ H D ok pn m => by
  refine ⟨_, ps_augS (pvar hN hv hd hc) pe_W get_list pe_W (ip_rAug o) set_list (fun ov iv new => ?_), ?_⟩
  · cases B with
    | Slice l u st p =>
      cases st with
      | none => simp [notSlice] at hB
      | some _ => rfl
    | _ => rfl
  show tVar i σ H fun o1 H1 => WE X B σ H1 fun b H2 => rGetL X.K o1 b H2 fun x1 H3 => WE X e σ H3 fun y H4 => rAug o x1 y H4 fun z1 H5 => rSetL o1 b z1 H5 fun H6 => D.nx σ H6
  obtain ⟨F, Sc, Sm, w⟩ := ok
  obtain ⟨v, S1, e1, h3, _⟩ := w.cells.get hat
  simp only [Ow] at h3
  obtain ⟨_, l, ws0, _, rfl, hl0, _⟩ := h3
  refine ⟨_, e1, ?_⟩
  refine h σ H [] [] _ ⟨F, Sc, Sm, w⟩ fun b tb H2 ⟨n, j, d, hb, hj, hd', hy⟩ ok2 => ?_
  have ib := ok2.top
  rw [hb] at ib
  rw [ib.int]
  obtain ⟨F2, Sc2, Sm2, w2⟩ := ok2.pop1
  obtain ⟨v2, S2, e2, h4, _⟩ := w2.cells.get hat
  rw [e1] at e2
  cases e2
  simp only [Ow] at h4
  obtain ⟨_, l', ws2, S3, el, hl2, ho2, _⟩ := h4
  cases el
  obtain ⟨x1, S4, e4, h5, _⟩ := ho2.get hd'
  refine ⟨l, ws2, n, x1, rfl, rfl, .inl (.inl hl2), atI_of (by rw [ho2.length]; exact hj) e4, ?_⟩
  refine hy σ H2 [] [] _ ⟨F2, Sc2, Sm2, w2⟩ fun y2 ty2 H4 hy2 ok4 => ?_
  have i2 := ok4.top
  obtain ⟨F5, Sc5, Sm5, w5⟩ := ok4.pop1
  simp only [Ow] at h5
  -- the item stays as it was where it is flat; otherwise the operator says no
  have fl : d.flat = true := by
    cases o with
    | add =>
      generalize ty2.dat = dy at hy2
      match d, dy, hy2 with
      | .int _, .int _, _ => rfl
      | .str _, .str _, _ => rfl
    | sub =>
      generalize ty2.dat = dy at hy2
      match d, dy, hy2 with
      | .int _, .int _, _ => rfl
  refine aug_ok (h5.2.flat fl) i2 hy2 fun r z1 hr fr ir => ?_
  obtain ⟨l', ws, e6, hl6, lw, so⟩ := SW.store (j := j) (w5.leaf (ir.flat fr)) hW rfl hat (ixN_seq hj).2.1
  rw [e1] at e6
  cases e6
  exact ⟨l, ws, n, j, rfl, rfl, hl6, by rw [lw]; exact hj, m.1 _ σ _ hr so pn⟩
theorem DBp.mono_nx {s : List Stmt} {P P' : Env → Prop} (h : DBp q a X ρ s { K with nx := P }) (i : ∀ ρ', P ρ' → P' ρ') : DBp q a X ρ s { K with nx := P' } := fun σ H D ok pn m => h σ H D ok pn ⟨fun ρ' σ' H' hk => m.1 ρ' σ' H' (i ρ' hk), m.2⟩
theorem soundBp : ∀ (b : DL.B) {c : Cn} {S : Sg} {a : An0} {X : Cx} {ρ : Env} {K : EnD} {s : List Stmt}, b.pin = true → a.W = [] → Good c S a X → okB c b s = true → wb S b ρ K → DBp q a X ρ s K
  | .nil, c, S, a, X, ρ, K, s, pn, hW, g, k, h => by
    simp only [okB] at k
    simp only [wb] at h
    split at k
    · exact db_nilp h
    · cases k
  | .asg (.nm i) e r, c, S, a, X, ρ, K, s, pn, hW, g, k, h => by
    simp only [B.pin, Bool.and_eq_true] at pn
    simp only [okB] at k
    simp only [wb] at h
    split at k
    · simp only [Bool.and_eq_true] at k
      obtain ⟨⟨⟨⟨k1, k2⟩, k3⟩, k4⟩, k5⟩ := k
      exact db_consp (ds_asgp (by simpa using pn.1) g.xo g.co k1 k2 k3 ((soundE e g k4 h).mono fun t q => fin_mono (fun u q => q.elim fun ρ' q => ⟨ρ', q.1, soundBp r pn.2 hW g k5 q.2⟩) q))
    · cases k
  | .setix i x e r, c, S, a, X, ρ, K, s, pn, hW, g, k, h => by
    simp only [B.pin] at pn
    simp only [okB] at k
    simp only [wb] at h
    split at k
    · simp only [Bool.and_eq_true] at k
      obtain ⟨⟨⟨⟨⟨⟨⟨k1, k2⟩, k3⟩, k4⟩, k5⟩, k6⟩, k7⟩, k8⟩ := k
      obtain ⟨us, h1, h2⟩ := h
      obtain ⟨q1, q2, _⟩ := plain_of k3
      exact db_consp (ds_setixp g.xo hW (nameIs_of g.co k1) (Ct.vis_of g.co k2) q1 q2 k4 k5 h1 ((soundE e g k6 h2).mono fun t q => fin_mono (fun u q => (soundE x g k7 q).mono fun y q => q.elim fun n q => q.elim fun j q => ⟨n, j, q.1, q.2.1, soundBp r pn hW g k8 q.2.2⟩) q))
    · cases k
  | .augix o i x e r, c, S, a, X, ρ, K, s, pn, hW, g, k, h => by
    simp only [B.pin] at pn
    simp only [okB] at k
    simp only [wb] at h
    split at k
    · simp only [Bool.and_eq_true, decide_eq_true_eq] at k
      obtain ⟨⟨⟨⟨⟨⟨⟨k1, k2⟩, k3⟩, k4⟩, k5⟩, k6⟩, k7⟩, k8⟩ := k
      obtain ⟨us, h1, h2⟩ := h
      obtain ⟨q1, q2, _⟩ := plain_of k4
      rw [k1]
      exact db_consp (ds_augixp g.xo hW (nameIs_of g.co k2) (Ct.vis_of g.co k3) q1 q2 k5 h1 ((soundE x g k6 h2).mono fun y q => q.elim fun n q => q.elim fun j q => q.elim fun d q => ⟨n, j, d, q.1, q.2.1, q.2.2.1, (soundE e g k7 q.2.2.2).mono fun y2 q => augm (fun z q => soundBp r pn hW g k8 q) q⟩))
    · cases k
  | .ret e r, c, S, a, X, ρ, K, s, pn, hW, g, k, h => by
    simp only [okB] at k
    simp only [wb] at h
    split at k
    · exact db_consp (ds_retp (soundE e g k h))
    · cases k
  | .ite t x y r, c, S, a, X, ρ, K, s, pn, hW, g, k, h => by
    simp only [B.pin, Bool.and_eq_true] at pn
    simp only [okB] at k
    simp only [wb] at h
    split at k
    · simp only [Bool.and_eq_true] at k
      obtain ⟨⟨⟨k1, k2⟩, k3⟩, k4⟩ := k
      exact db_consp (ds_ifp ((soundT t g k1 h).mono fun b q => ite_mono (fun q => (soundBp x pn.1.1 hW g k2 q).mono_nx fun ρ' q => soundBp r pn.2 hW g k4 q) (fun q => (soundBp y pn.1.2 hW g k3 q).mono_nx fun ρ' q => soundBp r pn.2 hW g k4 q) q))
    · cases k
  | .asg .nil _ _, c, S, a, X, ρ, K, s, pn, hW, g, k, h
  | .asg (.cons _ _) _ _, c, S, a, X, ρ, K, s, pn, hW, g, k, h
  | .asgLc _ _ _ _ _ _ _, c, S, a, X, ρ, K, s, pn, hW, g, k, h
  | .par2 _ _ _ _ _, c, S, a, X, ρ, K, s, pn, hW, g, k, h
  | .par3 _ _ _ _ _ _ _, c, S, a, X, ρ, K, s, pn, hW, g, k, h
  | .fgt _ _, c, S, a, X, ρ, K, s, pn, hW, g, k, h
  | .unp2 _ _ _ _, c, S, a, X, ρ, K, s, pn, hW, g, k, h
  | .aug _ _ _ _, c, S, a, X, ρ, K, s, pn, hW, g, k, h
  | .app _ _ _, c, S, a, X, ρ, K, s, pn, hW, g, k, h
  | .augix2 _ _ _ _ _ _, c, S, a, X, ρ, K, s, pn, hW, g, k, h
  | .ext _ _ _, c, S, a, X, ρ, K, s, pn, hW, g, k, h
  | .ex _ _, c, S, a, X, ρ, K, s, pn, hW, g, k, h
  | .retN _, c, S, a, X, ρ, K, s, pn, hW, g, k, h
  | .for_ _ _ _ _, c, S, a, X, ρ, K, s, pn, hW, g, k, h
  | .whl _ _ _, c, S, a, X, ρ, K, s, pn, hW, g, k, h
  | .pass _, c, S, a, X, ρ, K, s, pn, hW, g, k, h
  | .brk _, c, S, a, X, ρ, K, s, pn, hW, g, k, h
  | .dead, c, S, a, X, ρ, K, s, pn, hW, g, k, h
  | .cont _, c, S, a, X, ρ, K, s, pn, hW, g, k, h
  | .fz _ _, c, S, a, X, ρ, K, s, pn, hW, g, k, h => by simp [B.pin] at pn
end
end DL
namespace DL
open PySem PySem.Spec PyProof.Rows L2

/-! ### comprehensions and loops by what they keep -/
def Rl (R : D → T → Prop) : List D → List T → Prop
  | [], us => us = []
  | d :: ds, us => ∃ t r, us = t :: r ∧ R d t ∧ Rl R ds r
theorem lcW_fil {g : Tg} {wc : Env → (Bool → Prop) → Prop} {we : Env → (T → Prop) → Prop} {ρ : Env} {Φ : List T → Prop} (p : D → Bool) (R : D → T → Prop) : ∀ {ds : List D} {acc : List T},
    (∀ d ∈ ds, ∀ (Ψ : T → Prop) (N : Prop), (p d = true → ∀ t, R d t → Ψ t) → (p d = false → N) → ∃ ρ', bindG g (.leaf d) ρ = some ρ' ∧ wc ρ' fun b => if b = true then we ρ' fun t => t.fin Ψ else N) →
    (∀ us, Rl R (ds.filter p) us → Φ (acc ++ us)) → lcW g wc we ρ ds acc Φ
  | [], acc, _, k => by simpa [lcW] using k [] (by simp [Rl])
  | d :: ds, acc, hs, k => by
    simp only [lcW]
    refine hs d List.mem_cons_self _ _ (fun hp t ht => ?_) fun hp => ?_
    · refine lcW_fil p R (fun d' hd' => hs d' (List.mem_cons_of_mem _ hd')) fun us hu => ?_
      rw [List.append_assoc]
      exact k (t :: us) (by rw [List.filter_cons_of_pos (by exact hp)]; exact ⟨t, us, rfl, ht, hu⟩)
    · refine lcW_fil p R (fun d' hd' => hs d' (List.mem_cons_of_mem _ hd')) fun us hu => ?_
      exact k us (by rw [List.filter_cons_of_neg (by simp [hp])]; exact hu)
theorem lcW_all {S : Sg} {g : Tg} {we : Env → (T → Prop) → Prop} {ρ : Env} {Φ : List T → Prop} (R : D → T → Prop) {ds : List D} {acc : List T}
    (hs : ∀ d ∈ ds, ∀ (Ψ : T → Prop), (∀ t, R d t → Ψ t) → ∃ ρ', bindG g (.leaf d) ρ = some ρ' ∧ we ρ' fun t => t.fin Ψ)
    (k : ∀ us, Rl R ds us → Φ (acc ++ us)) : lcW g (wc S .nop) we ρ ds acc Φ := by
  refine lcW_fil (fun _ => true) R (fun d hd Ψ N h1 h2 => ?_) fun us hu => k us (by rwa [List.filter_eq_self.mpr fun _ _ => rfl] at hu)
  obtain ⟨ρ', e, q⟩ := hs d hd Ψ (h1 rfl)
  exact ⟨ρ', e, wc_nop (by rw [if_pos rfl]; exact q)⟩
theorem rl_map {f : D → T} : ∀ {ds : List D} {us : List T}, Rl (fun d t => t = f d) ds us → us = ds.map f
  | [], us, h => h
  | d :: ds, us, ⟨t, r, e, h1, h2⟩ => by rw [e, h1, rl_map h2]; rfl
theorem lcW_map {S : Sg} {g : Tg} {we : Env → (T → Prop) → Prop} {ρ : Env} {Φ : List T → Prop} (f : D → T) {ds : List D}
    (hs : ∀ d ∈ ds, ∀ (Ψ : T → Prop), Ψ (f d) → ∃ ρ', bindG g (.leaf d) ρ = some ρ' ∧ we ρ' fun t => t.fin Ψ)
    (k : Φ (ds.map f)) : lcW g (wc S .nop) we ρ ds [] Φ :=
  lcW_all (fun d t => t = f d) (fun d hd Ψ h => hs d hd Ψ (h _ rfl)) fun us hu => by rw [rl_map hu]; exact k
theorem forW_inv {g : Tg} {wb : Env → EnD → Prop} {K : EnD} (J : List D → Env → Prop) : ∀ {ds : List D} {ρ : Env}, J ds ρ →
    (∀ d r ρ (K' : EnD), J (d :: r) ρ → (∀ ρ', J r ρ' → K'.nx ρ') → (∀ ρ', J r ρ' → K'.ct ρ') → (∀ ρ', K.nx ρ' → K'.bk ρ') → (∀ t ρ', K.rt t ρ' → K'.rt t ρ') → ∃ ρ', bindG g (.leaf d) ρ = some ρ' ∧ wb ρ' K') →
    (∀ ρ, J [] ρ → K.nx ρ) → forW g wb ds ρ K
  | [], ρ, h, _, k => k ρ h
  | d :: r, ρ, h, s, k => s d r ρ _ h (fun ρ' h' => forW_inv J h' s k) (fun ρ' h' => forW_inv J h' s k) (fun _ h => h) fun _ _ h => h
/-! ### the draw keeps its promise -/
def takeF : SpecF := fun ds Φ => ∃ m, ds = [.bag, .int m] ∧ (0 < m ∧ m < 10 ^ 100) ∧ ∀ v, 0 ≤ v → v < m → Φ (.leaf (.int v))
theorem takeF_mono : Mono takeF := fun ds Φ Ψ i ⟨m, e, b, h⟩ => ⟨m, e, b, fun v h1 h2 => i _ (h v h1 h2)⟩
def bag0 (ms : List Int) : T := .lst [.leaf (.int 0), .leaf (.int 1234567891), .leaf (.int 0), .lst (ms.map fun n => .leaf (.int n))]
def bagF : SpecF := fun ds Φ => ∃ ns, ds = [.scr ns] ∧ ns.length ≤ 63 ∧ ∀ ms : List Int, (∀ n ∈ ms, 0 ≤ n) → Φ (bag0 ms)
theorem bagF_mono : Mono bagF := fun ds Φ Ψ i ⟨m, e, b, h⟩ => ⟨m, e, b, fun v h1 => i _ (h v h1)⟩
abbrev takeN : List Str := ["_law_bag_here", "_law_many", "_law_cell", "_law_value", "_law_first", "_law_second"]
abbrev bagNm : List Str := ["_law_script", "_law_cell"]
def bagB : B := .ret (.lst (.cons (.int 0) (.cons (.int 1234567891) (.cons (.int 0) (.cons (.lc [1] (.nm 1) (.sq (.sl (.nm 0) .nop (.prt (.int 63)))) .nop (.blt .abs (.cons (.nm 1) .nil))) .nil))))) .nil
theorem owc_none_inv {a : An} {F H : Hp} : ∀ {n : Nat} {σ : L2.St} {S : List Addr}, OwC a F H (List.replicate n none) σ S → S = []
  | 0, σ, S, h => by simpa [OwC] using h
  | n + 1, σ, S, h => by
    rw [List.replicate_succ] at h
    simp only [OwC] at h
    exact owc_none_inv h
section
variable {P : Program} {w : World} {K : PySem.W.Frag} {mg : Str → Option Value} {base : Heap} {cls : Nat → Option (Addr × List Str)} {k j : Nat} {x qual : Str} {f : SpecF} {st : Stmt} {fa : Addr} {fd : FuncData} {N ps : List Str} {c : Cn} {S : Sg} {b : B}
theorem cutL_length {α : Type} (xs : List α) (lo hi : Option Int) : (cutL xs lo hi).length ≤ xs.length := by
  unfold cutL
  rw [List.length_take, List.length_drop]
  omega
theorem bagW {S : Sg} {K : EnD} {ns : List Int} (hz : S.z = true) (h : ns.length ≤ 63) (k : ∀ (ms : List Int) ρ, (∀ n ∈ ms, 0 ≤ n) → K.rt (bag0 ms) ρ) : wb S bagB [some (.leaf (.scr ns)), none] K := by
  unfold bagB
  refine wb_ret (w_lst ?_)
  refine wa_cons (w_int (fin_leaf rfl ?_))
  refine wa_cons (w_int (fin_leaf rfl ?_))
  refine wa_cons (w_int (fin_leaf rfl ?_))
  refine wa_cons (w_lc rfl (wi_sq (w_sl (w_nm rfl (wo_nop (wo_prt (w_int (ex_int rfl ?_))))))))
  refine .inr (.inr (.inr ⟨ns, rfl, ?_⟩))
  have len : (cutL ns none (some 63)).length ≤ 63 := Nat.le_trans (cutL_length _ _ _) h
  refine ⟨hz, _, rfl, ?_⟩
  refine ⟨by simp [T.dats_eq]; omega, ?_⟩
  have ed : T.dats ((cutL ns none (some 63)).map fun n => .leaf (.int n)) = (cutL ns none (some 63)).map D.int := by
    rw [T.dats_eq, List.map_map]; rfl
  rw [ed]
  refine lcW_map (fun d => match d with
    | .int n => .leaf (.int (if n < 0 then -n else n))
    | _ => .leaf .non) (fun d hd Ψ hΨ => ?_) ?_
  · obtain ⟨n, _, rfl⟩ := List.mem_map.mp hd
    exact bind_nm rfl (w_blt (wv_cons (w_nm rfl (wv_nil (l_abs rfl (fin_leaf rfl hΨ))))))
  · rw [List.map_map]
    refine fin_lst rfl (wa_nil ⟨Nat.le_of_ble_eq_true rfl, fin_lst rfl ?_⟩)
    have e : (cutL ns none (some 63)).map ((fun d => match d with
    | D.int n => T.leaf (.int (if n < 0 then -n else n))
    | _ => .leaf .non) ∘ D.int) = ((cutL ns none (some 63)).map fun n => if n < 0 then -n else n).map fun n => .leaf (.int n) := by
      rw [List.map_map]; rfl
    rw [e]
    refine k _ _ fun n hn => ?_
    obtain ⟨m, _, rfl⟩ := List.mem_map.mp hn
    split <;> omega
theorem fnTake (Fu : L2.Fun K x qual st fa fd) (sc : FnScope takeN ["_law_bag_here", "_law_many"] (defScope st)) (ck : okB { toCt := ⟨takeN, defScope st, defScope st⟩, fn := [], gl := [], bs := ["len"] } takeB (defBody st) = true) (bs : mg "len" = none) :
    FnG P w K mg base CX0 (k + 1) fa fd ["_law_bag_here", "_law_many"] (spD K cls takeF) := by
  obtain ⟨oc, od, kV, doc, pm, an, cdv, ct, osl, rfl, lk, hcd⟩ := Fu.ex
  refine fn_G lk hcd sc (fun vs H Q E hs => ?_) fun A outer s H vs Q E gu hr hs => ?_
  · obtain ⟨bg, F, ds, _, _, il, m, rfl, _⟩ := hs
    rw [isl_length il]; rfl
  obtain ⟨bg, F, ds, sub, bag, il, m, rfl, hm, q⟩ := hs
  simp only [IsL, Is] at il
  obtain ⟨_, _, rfl, ⟨p, eb, rfl⟩, _, _, rfl, rfl, rfl⟩ := il
  have eb : bg = some p := eb
  subst eb
  obtain ⟨b1, xx, yy, zz, cc, ns, b2, b3, b4⟩ := bag p rfl
  have X := goodB (c := { toCt := ⟨takeN, defScope st, defScope st⟩, fn := [], gl := [], bs := ["len"] }) (S := { z := false, fs := [], gs := [] }) (P := P) (w := w) (mg := mg) (base := base) (cls := cls) (k := k) (a := ⟨⟨K, none, cls⟩, [p], F, H, [], []⟩) (E := E) (H := H) (outer := outer) (cdv := cdv) (qual := qual) (fa := fa) sc rfl gu hr (fun i y f h => by simp at h) (fun i y f h => by simp at h) (fun y hy => by simp at hy; rw [hy]; exact bs) (obNil rfl rfl rfl rfl rfl) rfl rfl fun h => by cases h
  have go := soundBp (q := p) takeB rfl rfl X ck (takeW (K := { nx := fun _ => False, rt := fun t ρ => ∃ v x' y' z', t = .leaf (.int v) ∧ 0 ≤ v ∧ v < m ∧ BagN x' y' z' ns ∧ ρ.at 0 = some (bagT x' y' z' ns) }) b4 hm.1 hm.2 fun v x' y' z' ρ h1 h2 h3 h4 => ⟨v, x', y', z', rfl, h1, h2, h3, h4⟩)
  refine ⟨_, (PSs.nox (pb_W (X := (cxOf CX0 P w K mg base takeN qual (defScope st) fa cdv A outer s H E).nox))), go (L2.start takeN [.ref p, .int m]) H _ ⟨F, [p], [], ⟨sub, Gw.refl _ _ _, fun b hb => (by cases hb), fun b hb => (by cases hb), ?_, by simp only [OwL]; exact ⟨trivial, trivial⟩, by simp, fun b hb => ?_, rfl, by simp, by simp⟩⟩ rfl ⟨fun ρ σ H' hq ok => hq.elim, fun t v ρ σ H' hq ok pn => ?_⟩⟩
  · have hc : Is ⟨K, none, cls⟩ F (.lst (ns.map .int)) (.ref cc) := by
      simp only [Is]
      exact ⟨cc, _, rfl, b3, IsL.ints.mpr rfl⟩
    have hl : OwL ⟨K, none, cls⟩ F H [.leaf (.int xx), .leaf (.int yy), .leaf (.int zz), .leaf (.lst (ns.map .int))] [.int xx, .int yy, .int zz, .ref cc] [] := by
      refine ⟨_, _, [], [], rfl, ⟨rfl, by simp only [Is]⟩, ⟨_, _, [], [], rfl, ⟨rfl, by simp only [Is]⟩, ⟨_, _, [], [], rfl, ⟨rfl, by simp only [Is]⟩, ⟨_, _, [], [], rfl, ⟨rfl, hc⟩, ⟨rfl, rfl⟩, rfl⟩, rfl⟩, rfl⟩, rfl⟩
    exact ⟨.ref p, [p], [], ⟨rfl, rfl⟩, ⟨rfl, p, _, [], rfl, b2, hl, rfl⟩, ⟨.int m, [], [], ⟨rfl, rfl⟩, ⟨rfl, by simp only [Is]⟩, rfl, rfl⟩, rfl⟩
  · obtain rfl : b = p := by simpa using hb
    exact ⟨b1, by simp, .inl (by simp)⟩
  · obtain ⟨v', x', y', z', rfl, h1, h2, h3, h4⟩ := hq
    obtain ⟨F', Sc, Sm, w'⟩ := ok
    have i1 := SOk.top ⟨F', Sc, Sm, w'⟩
    obtain ⟨v2, S1, e1, o1, ms, _⟩ := w'.cells.get h4
    rw [show σ[0]? = some (some (.ref p)) from pn] at e1
    cases e1
    simp only [T.dat, Is] at i1
    subst i1
    simp only [Ow, bagT, OwL] at o1
    obtain ⟨_, p', vs', S', e0, hp', ⟨_, _, _, _, rfl, ⟨_, q1⟩, ⟨_, _, _, _, rfl, ⟨_, q2⟩, ⟨_, _, _, _, rfl, ⟨_, q3⟩, ⟨_, _, _, _, rfl, ⟨_, q4⟩, ⟨rfl, _⟩, _⟩, _⟩, _⟩, _⟩, rfl⟩ := o1
    cases e0
    simp only [Is] at q1 q2 q3 q4
    subst q1 q2 q3
    obtain ⟨c', vs2, rfl, q5, q6⟩ := q4
    rw [IsL.ints.mp q6] at q5
    obtain ⟨f1, _, _⟩ := w'.fr p (List.mem_append_left _ (ms p List.mem_cons_self))
    refine q v' h1 h2 F' H' _ [] w'.sub ⟨w'.gw.ff, fun p2 o2 hp2 e2 => w'.gw.hh p2 o2 (by simpa using hp2) e2, w'.gw.nn, w'.gw.th⟩ (fun b hb => ?_) (by simp only [Ow, Is]; exact ⟨trivial, trivial⟩) (by simp) (by simp)
    cases hb
    exact ⟨f1, x', y', z', c', ns, hp', q5, h3⟩
theorem fnBag (Fu : L2.Fun K x qual st fa fd) (sc : FnScope bagNm ["_law_script"] (defScope st)) (ck : okB { toCt := ⟨bagNm, defScope st, defScope st⟩, fn := [], gl := [], bs := ["abs"] } bagB (defBody st) = true) (bs : mg "abs" = none) :
    FnG P w K mg base CX0 (k + 1) fa fd ["_law_script"] (spD K cls bagF) :=
  fnD (c := { toCt := ⟨bagNm, defScope st, defScope st⟩, fn := [], gl := [], bs := ["abs"] }) (S := { z := true, fs := [], gs := [] }) Fu sc rfl ck (fun i y f h => by simp at h) (fun i y f h => by simp at h) (fun y hy => by simp at hy; rw [hy]; exact bs) fun ds Φ h => by
    obtain ⟨ns, rfl, l, q⟩ := h
    exact ⟨rfl, bagW rfl l fun ms ρ h => q ms h⟩
/-! ### the law -/
def spLaw (K : PySem.W.Frag) : Sp := fun vs H Q _ => ∃ (a : Addr) (ns : List Int), vs = [.ref a] ∧ SqL K H a (ns.map V.int) ∧ ns.length ≤ 63 ∧ ∀ H', Q (.bl true) H'
theorem fnLaw {kb : Nat} (Fu : L2.Fun K x qual st fa fd) (sc : FnScope N ["_law_script"] (defScope st)) (hN : 2 ≤ N.length) (hc : c.toCt = ⟨N, defScope st, defScope st⟩) (ck : okB c (.asg (.nm 1) (.call kb (.cons (.nm 0) .nil)) b) (defBody st) = true)
    (fns : ∀ (i : Nat) y f, c.fn[i]? = some y → S.fs[i]? = some f → FnB P w K mg base cls k y f)
    (gls : ∀ (i : Nat) y d, c.gl[i]? = some y → S.gs[i]? = some d → ∃ v u, mg y = some u ∧ RelV v u ∧ ∀ (a : An) F, a.K = K → Is a F d v)
    (bs : ∀ y ∈ c.bs, mg y = none) (hkb : S.fs[kb]? = some bagF)
    (h : ∀ ns : List Int, ns.length ≤ 63 → wb S b (some (.leaf (.scr ns)) :: some (.leaf .bag) :: List.replicate (N.length - 2) none) { nx := fun _ => False, rt := fun t _ => t = .leaf (.bl true) }) (ob : ObB P w K mg base cls k c S := by exact obNil rfl rfl rfl rfl rfl) :
    FnG P w K mg base CX0 (k + 1) fa fd ["_law_script"] (spLaw K) := by
  obtain ⟨oc, od, kV, doc, pm, an, cdv, ct, osl, rfl, lk, hcd⟩ := Fu.ex
  refine fn_G lk hcd sc (fun vs H Q E hs => ?_) fun A outer s H vs Q E gu hr hs => ?_
  · obtain ⟨a, ns, rfl, _⟩ := hs; rfl
  obtain ⟨a0, ns, rfl, hS, hl, q⟩ := hs
  simp only [okB] at ck
  split at ck
  rotate_left
  · cases ck
  rename_i tg v pos rest heq
  rw [heq]
  simp only [Bool.and_eq_true] at ck
  obtain ⟨⟨⟨⟨k1, k2⟩, k3⟩, k4⟩, k5⟩ := ck
  have X := goodB (a := ⟨⟨K, none, cls⟩, [], H, H, [], []⟩) (E := E) (H := H) (outer := outer) (cdv := cdv) (qual := qual) (fa := fa) sc hc gu hr fns gls bs ob rfl rfl fun _ p hp => by simp at hp
  refine ⟨_, PSs.nox (pss_cons (ps_W (X := (cxOf CX0 P w K mg base N qual (defScope st) fa cdv A outer s H E).nox)) (pb_W (X := (cxOf CX0 P w K mg base N qual (defScope st) fa cdv A outer s H E).nox))), ?_⟩
  have rep : List.replicate (N.length - 1) (none : Option T) = none :: List.replicate (N.length - 2) none := by
    rw [show N.length - 1 = (N.length - 2) + 1 from by omega, List.replicate_succ]
  have sv : ∀ F : Hp, Sub H F → Is ⟨K, none, cls⟩ F (.scr ns) (.ref a0) := fun F sF => by
    simp only [Is]; exact ⟨a0, rfl, sub_l sF hS⟩
  have lenS : ∀ r : List (Option T), r.length = N.length - 2 → (some (T.leaf (.scr ns)) :: none :: r).length = (L2.start N [V.ref a0]).length := fun r hr => by
    unfold L2.start; simp [hr]; omega
  have go := ds_asgG (K := { nx := fun ρ' => ∃ ms : List Int, (∀ n ∈ ms, 0 ≤ n) ∧ ρ' = some (.leaf (.scr ns)) :: some (bag0 ms) :: List.replicate (N.length - 2) none, rt := fun _ _ => False }) (ρ := some (.leaf (.scr ns)) :: none :: List.replicate (N.length - 2) none) (pos := pos) X.xo X.co k1 (noswap1 k2) (nopar2 X.co k3)
    (soundE (.call kb (.cons (.nm 0) .nil)) X k4 (w_call hkb (wv_cons (w_nm rfl (wv_nil (fz_cons (fz_leaf rfl (fz_nil ⟨ns, rfl, hl, fun ms hms => fin_lst rfl (bind_nm rfl ⟨ms, hms, rfl⟩)⟩))))))))
  refine go (L2.start N [.ref a0]) H _ ⟨H, [], [], ⟨Sub.refl H, Gw.refl _ _ _, fun b hb => (by cases hb), fun b hb => (by cases hb), ?_, by simp only [OwL]; exact ⟨trivial, trivial⟩, by simp, by simp, lenS _ (by simp), by simp, by simp⟩⟩ ⟨fun ρ σ H1 hq ok => ?_, fun _ _ _ _ _ hq => hq.elim, fun _ _ _ hq => hq.elim, fun _ _ _ hq => hq.elim⟩
  · unfold L2.start
    simp only [OwC]
    exact ⟨.ref a0, [], [], ⟨rfl, rfl⟩, by simp only [Ow]; exact ⟨trivial, sv _ (Sub.refl H)⟩, owc_none _ _, rfl⟩
  · obtain ⟨ms, hms, rfl⟩ := hq
    obtain ⟨F, Sc, Sm, w1⟩ := ok
    have cells := w1.cells
    simp only [OwC, Ow, OwL, bag0] at cells
    obtain ⟨v0, _, _, ⟨e0, _⟩, ⟨rfl, i0⟩, ⟨v1, S1, S2, ⟨e1, _⟩, ⟨nn, p, vs', S', rfl, hp, ⟨_, _, _, _, rfl, ⟨rfl, q1⟩, ⟨_, _, _, _, rfl, ⟨rfl, q2⟩, ⟨_, _, _, _, rfl, ⟨rfl, q3⟩, ⟨_, _, S3, S4, rfl, ⟨_, cc, vs3, S5, rfl, hcc, o5, rfl⟩, ⟨rfl, rfl⟩, rfl⟩, rfl⟩, rfl⟩, rfl⟩, rfl⟩, o2, rfl⟩, rfl⟩ := cells
    have o2' := owc_none_inv o2
    subst o2'
    obtain ⟨e5, i5⟩ := OwL.plain (by simp [T.plain]) o5
    subst e5
    have ed : T.dats (ms.map fun n => .leaf (.int n)) = ms.map D.int := by
      rw [T.dats_eq, List.map_map]; rfl
    rw [ed] at i5
    have i6 := IsL.ints.mp i5
    subst i6
    have nd := w1.nd
    have pc : p ≠ cc := by
      have := (List.nodup_append.mp nd).1
      simp at this
      exact this
    obtain ⟨fp, _, _⟩ := w1.fr p (by simp)
    obtain ⟨fc, _, _⟩ := w1.fr cc (by simp)
    have sF : Sub F (fun q => if q = cc then H1 q else F q) := fun q o e => by
      show (if q = cc then H1 q else F q) = some o
      rw [if_neg fun z => by rw [z, fc] at e; cases e]
      exact e
    have X2 := goodB (a := ⟨⟨K, some p, cls⟩, [p], fun q => if q = cc then H1 q else F q, H1, [], []⟩) (E := E) (H := H) (outer := outer) (cdv := cdv) (qual := qual) (fa := fa) sc hc gu hr fns gls bs ob rfl rfl fun _ p hp => by simp at hp; rw [hp]
    refine soundB b rfl X2 k5 (h ns hl) σ H1 _ ⟨fun q => if q = cc then H1 q else F q, [], [], ⟨fun q o e => ?_, Gw.refl _ _ _, fun b hb => ?_, fun b hb => ?_, ?_, by simp only [OwL]; exact ⟨trivial, trivial⟩, by simp, by simp, w1.len, by simp, by simp⟩⟩ ⟨fun _ _ _ hq => hq.elim, fun t v ρ σ H2 hq ok => ?_, fun _ _ _ hq => hq.elim, fun _ _ _ hq => hq.elim⟩
    · have e : (if q = cc then H1 q else F q) = some o := e
      by_cases z : q = cc
      · rwa [if_pos z] at e
      · rw [if_neg z] at e
        exact w1.sub q o e
    · cases hb
      refine ⟨by simp, ?_⟩
      show H1 p ≠ none
      rw [hp]; simp
    · cases hb
      exact ⟨(if_neg pc).trans fp, 0, 1234567891, 0, cc, ms, by rw [hp]; simp only [Is] at q1 q2 q3; rw [q1, q2, q3], (if_pos rfl).trans hcc, by decide, by decide, by decide, by decide, hms⟩
    · simp only [OwC, Ow]
      refine ⟨v0, [], [], ⟨e0, rfl⟩, ⟨rfl, ?_⟩, ⟨.ref p, [], [], ⟨e1, rfl⟩, ⟨rfl, ?_⟩, owc_none _ _, rfl⟩, rfl⟩
      · simp only [Is] at i0 ⊢
        obtain ⟨p0, e, h0⟩ := i0
        exact ⟨p0, e, sub_l sF h0⟩
      · simp only [Is]
        exact ⟨p, rfl, rfl⟩
    · subst hq
      obtain ⟨F2, Sc2, Sm2, w2⟩ := ok
      have i1 := SOk.top ⟨F2, Sc2, Sm2, w2⟩
      simp only [T.dat, Is] at i1
      rw [i1]
      exact q H2
theorem fns_nil {fs : List SpecF} : ∀ (i : Nat) y f, ([] : List Str)[i]? = some y → fs[i]? = some f → FnB P w K mg base cls k y f := fun i y f h => by simp at h
theorem fns_cons {x : Str} {g : SpecF} {ys : List Str} {fs : List SpecF} (h : FnB P w K mg base cls k x g) (r : ∀ (i : Nat) y f, ys[i]? = some y → fs[i]? = some f → FnB P w K mg base cls k y f) :
    ∀ (i : Nat) y f, (x :: ys)[i]? = some y → (g :: fs)[i]? = some f → FnB P w K mg base cls k y f
  | 0, y, f, h1, h2 => by
    simp only [List.getElem?_cons_zero, Option.some.injEq] at h1 h2
    rw [← h1, ← h2]; exact h
  | i + 1, y, f, h1, h2 => r i y f (by simpa using h1) (by simpa using h2)
theorem bs_nil : ∀ y ∈ ([] : List Str), mg y = none := fun y h => by simp at h
theorem bs_cons {x : Str} {ys : List Str} (h : mg x = none) (r : ∀ y ∈ ys, mg y = none) : ∀ y ∈ x :: ys, mg y = none := fun y hy => (List.mem_cons.mp hy).elim (fun e => by rw [e]; exact h) (r y)
theorem gls_nil {gs : List D} : ∀ (i : Nat) y d, ([] : List Str)[i]? = some y → gs[i]? = some d → ∃ v u, mg y = some u ∧ RelV v u ∧ ∀ (a : An) F, a.K = K → Is a F d v := fun i y d h => by simp at h
end
/-! ### the law's comparison -/
def sameF : SpecF := fun ds Φ => ∃ d, ds = [d, d] ∧ d.Shw ∧ Φ (.leaf (.bl true))
theorem sameF_mono : Mono sameF := fun ds Φ Ψ i ⟨d, e, s, h⟩ => ⟨d, e, s, i _ h⟩
def alikeB : B := .ret (.and (.cmp .eq (.nm 0) (.nm 1)) (.one (.cmp .eq (.blt .repr (.cons (.nm 0) .nil)) (.blt .repr (.cons (.nm 1) .nil))))) .nil
theorem sameW {S : Sg} {d : D} {Φ : T → Prop} {K : EnD} (s : d.Shw) (h : ∀ ρ, K.rt (.leaf (.bl true)) ρ) : wb S alikeB [some (.leaf d), some (.leaf d)] K := by
  unfold alikeB
  refine wb_ret (w_and (w_cmp (w_nm rfl (w_nm rfl (c_eqd s.1 s.1 (ex_bl rfl ?_))))))
  rw [show eqD (T.leaf d).dat (T.leaf d).dat = true from eqD_refl s.1.1]
  refine ite_t (w_one (w_cmp (w_blt (wv_cons (w_nm rfl (wv_nil (l_repr rfl s (w_blt (wv_cons (w_nm rfl (wv_nil (l_repr rfl s (c_eqs rfl rfl ?_)))))))))))))
  rw [decide_eq_true rfl]
  exact fin_leaf rfl (h _)
end DL
namespace DL
open PySem PySem.Spec PyProof.Rows L2

/-! ### more steps -/
def itup (xs : List Int) : D := .tup (xs.map .int)
section
variable {S : Sg} {ρ ρ' : Env} {Φ : T → Prop} {t u : T} {us xs ys : List T} {ds d1 d2 : List D} {ns : List Int}
theorem dats_ints (ns : List Int) : T.dats (ns.map fun g => .leaf (.int g)) = ns.map .int := by
  rw [T.dats_eq, List.map_map]; rfl
theorem b_cat (h1 : t.dat = .lst d1) (h2 : u.dat = .lst d2) (e1 : t.its = some xs) (e2 : u.its = some ys) (l : xs.length + ys.length ≤ 100000) (k : Φ (.lst (xs ++ ys))) : binT .add t u Φ := by
  simp only [binT, h1, h2]
  exact ⟨xs, ys, e1, e2, l, k⟩
theorem l_maxl (h : t.dat = .lst ds) (e : D.toInts ds = some ns) (h0 : 0 < ns.length) (k : ∀ m, m ∈ ns → (∀ y, y ∈ ns → y ≤ m) → Φ (.leaf (.int m))) : bltT .max [t] Φ := by
  simp only [bltT, T.dats, h, bltD]
  exact ⟨ns, e, h0, k⟩
theorem l_sumt (h : t.dat = .tup ds) (e : D.toInts ds = some ns) (k : Φ (.leaf (.int ns.sum))) : bltT .sum [t] Φ := by
  simp only [bltT, T.dats, h, bltD]
  exact ⟨ns, e, k⟩
theorem bind_pair {p : Env → Prop} {i j : Nat} {v : T} (h : t.prt = some [u, v]) (hi : Nat.blt i ρ.length = true) (hj : Nat.blt j ρ.length = true) (k : p ((ρ.put i (some u)).put j (some v))) : ∃ ρ', bindG (.cons (.nm i) (.cons (.nm j) .nil)) t ρ = some ρ' ∧ p ρ' := by
  refine ⟨_, ?_, k⟩
  have hi := Nat.le_of_ble_eq_true hi
  have hj := Nat.le_of_ble_eq_true hj
  have l : j < (ρ.put i (some u)).length := by rw [Env.put_length]; exact hj
  simp only [bindG, h, bindL]
  rw [if_pos (show i < ρ.length from hi)]
  simp only [Option.bind_some]
  simp only [bindL, bindG]
  rw [if_pos l]
  simp only [Option.bind_some, bindL]
theorem and_len {us : List T} {p : Prop} (h : Nat.ble us.length 100000 = true) (k : p) : us.length ≤ 100000 ∧ p := ⟨Nat.le_of_ble_eq_true h, k⟩
theorem fin_mk (h : us.all T.plain = true) (k : Φ (.leaf (.tup (T.dats us)))) : (T.mk us).fin Φ := by
  unfold T.mk
  rw [if_pos h]
  exact k
end
theorem rl_ints {p : Int → Prop} : ∀ {ds : List D} {us : List T}, Rl (fun _ t => ∃ x, t = .leaf (.int x) ∧ p x) ds us → ∃ xs : List Int, us = xs.map (fun g => .leaf (.int g)) ∧ xs.length = ds.length ∧ ∀ x ∈ xs, p x
  | [], us, h => ⟨[], h, rfl, by simp⟩
  | d :: ds, us, ⟨t, r, e, ⟨x, e2, h1⟩, h2⟩ => by
    obtain ⟨xs, e3, l, q⟩ := rl_ints h2
    refine ⟨x :: xs, by rw [e, e2, e3]; rfl, by simp [l], fun y hy => ?_⟩
    rcases List.mem_cons.mp hy with rfl | hy
    · exact h1
    · exact q y hy
theorem mk_ints (xs : List Int) : T.mk (xs.map fun g => .leaf (.int g)) = .leaf (itup xs) := by
  unfold T.mk
  rw [if_pos (by simp [T.plain]), dats_ints]
  rfl
theorem t_bl {t : T} {b : Bool} {Ψ : Bool → Prop} (h : t = .leaf (.bl b)) (k : Ψ b) : tru t Ψ := by subst h; exact ⟨b, rfl, k⟩
theorem ite_nt {A B : Prop} (h : B) : if (!true) = true then A else B := by rw [if_neg (by decide)]; exact h
theorem at_ints {xs : List Int} {k : Nat} (hk : k < xs.length) : atI (xs.map D.int) (k : Int) = some (.int xs[k]) := by
  unfold L2.atI L2.ixN
  rw [if_pos (by omega), List.length_map, if_pos (by omega)]
  simp [hk]
theorem drop_cons {n k : Nat} {d : D} {r : List D} (e : d :: r = ((List.range n).drop k).map fun (i : Nat) => D.int i) : k < n ∧ d = .int k ∧ r = ((List.range n).drop (k + 1)).map fun (i : Nat) => D.int i := by
  by_cases h : k < n
  · rw [List.drop_eq_getElem_cons (by simpa using h)] at e
    simp only [List.map_cons, List.cons.injEq, List.getElem_range] at e
    exact ⟨h, e.1, e.2⟩
  · rw [List.drop_eq_nil_of_le (by simp; omega)] at e
    simp at e
theorem drop_nil {n k : Nat} (e : [] = ((List.range n).drop k).map fun (i : Nat) => D.int i) : n ≤ k := by
  by_cases h : k < n
  · rw [List.drop_eq_getElem_cons (by simpa using h)] at e
    simp at e
  · omega
section
variable {S : Sg} {ρ ρ' : Env} {Φ : T → Prop} {Ψ : Bool → Prop} {t u v : T} {us xs ys : List T} {ds : List D} {x1 x2 : D} {b : Bool} {n m k : Int}
theorem c_inT (h2 : x2 = .tup ds) (h : (x1.flat && ds.all D.flat) = true) (e : memD x1 ds = b) (k : Ψ b) : cmpD .inn x1 x2 Ψ := by
  subst h2
  rw [Bool.and_eq_true] at h
  exact ⟨h.1, h.2, by rw [e]; exact k⟩
theorem c_isN (e : x1.isNon = b) (k : Ψ b) : cmpD .isN x1 .non Ψ := by
  show Ψ x1.isNon
  rw [e]; exact k
theorem c_notN (e : (!x1.isNon) = b) (k : Ψ b) : cmpD .notN x1 .non Ψ := by
  show Ψ (!x1.isNon)
  rw [e]; exact k
theorem b_catU (h1 : t.dat = .tup ds) {es : List D} (h2 : u.dat = .tup es) (e1 : t.prt = some xs) (e2 : u.prt = some ys) (l : xs.length + ys.length ≤ 100000) (k : Φ (T.mk (xs ++ ys))) : binT .add t u Φ := by
  simp only [binT, h1, h2]
  exact ⟨xs, ys, e1, e2, l, k⟩
theorem l_max3 (h1 : t.dat = .int n) (h2 : u.dat = .int m) (h3 : v.dat = .int k) (q : Φ (.leaf (.int (if (if n < m then m else n) < k then k else if n < m then m else n)))) : bltT .max [t, u, v] Φ := by
  simp only [bltT, T.dats, h1, h2, h3, bltD]
  exact q
theorem l_intb (h1 : t.dat = .bl b) (q : Φ (.leaf (.int (if b then 1 else 0)))) : bltT .int [t] Φ := by
  simp only [bltT, T.dats, h1, bltD]
  exact q
theorem sl_prt {lo hi : Option Int} (h : t.prt = some us) (k : Φ (T.mk (cutL us lo hi))) : slT t lo hi Φ := .inr (.inl ⟨us, h, k⟩)
theorem sl_its {lo hi : Option Int} (h : t.its = some us) (k : Φ (.lst (cutL us lo hi))) : slT t lo hi Φ := .inl ⟨us, h, k⟩
end
end DL
namespace DL
open PySem PySem.Spec PyProof.Rows L2

/-! ### names in a row, decided tests, terms' words -/
def putL : List Nat → List T → Env → Env
  | i :: is, u :: us, ρ => putL is us (ρ.put i (some u))
  | _, _, ρ => ρ
def tgL : List Nat → Tg
  | [] => .nil
  | i :: is => .cons (.nm i) (tgL is)
theorem bindL_tg : ∀ (is : List Nat) (us : List T) (ρ : Env), is.length = us.length → (∀ i ∈ is, i < ρ.length) → bindL (tgL is) us ρ = some (putL is us ρ)
  | [], [], ρ, _, _ => by simp [tgL, bindL, putL]
  | i :: is, u :: us, ρ, l, h => by
    have h0 := h i List.mem_cons_self
    simp only [tgL, bindL, bindG, putL, if_pos h0, Option.bind_some]
    exact bindL_tg is us _ (by simpa using l) fun j hj => by rw [Env.put_length]; exact h j (List.mem_cons_of_mem _ hj)
  | [], _ :: _, _, l, _ => by simp at l
  | _ :: _, [], _, l, _ => by simp at l
theorem bind_tg {p : Env → Prop} {t : T} {ρ : Env} {is : List Nat} {us : List T} (h : t.prt = some us) (l : is.length = us.length) (hi : ∀ i ∈ is, i < ρ.length) (k : p (putL is us ρ)) : ∃ ρ', bindG (tgL is) t ρ = some ρ' ∧ p ρ' := by
  refine ⟨_, ?_, k⟩
  have e := bindL_tg is us ρ l hi
  cases is with
  | nil => cases us with
    | nil => simp only [tgL, bindG, h]; exact e
    | cons _ _ => simp at l
  | cons i is => cases us with
    | nil => simp at l
    | cons u us => simp only [tgL, bindL] at e; rw [← e]; simp only [tgL]; conv => { lhs; unfold bindG }; simp only [h]
section
variable {S : Sg} {ρ ρ' : Env} {Φ : T → Prop} {Ψ : Bool → Prop} {t u v : T} {us xs ys : List T} {ds es : List D} {x1 x2 : D} {b : Bool} {n m k : Int}
theorem bind_5 {p : Env → Prop} {a b c d e : T} {i j k l m : Nat} (h : t.prt = some [a, b, c, d, e]) (hi : [i, j, k, l, m].all (fun x => Nat.blt x ρ.length) = true) (q : p (putL [i, j, k, l, m] [a, b, c, d, e] ρ)) :
    ∃ ρ', bindG (.cons (.nm i) (.cons (.nm j) (.cons (.nm k) (.cons (.nm l) (.cons (.nm m) .nil))))) t ρ = some ρ' ∧ p ρ' :=
  bind_tg (is := [i, j, k, l, m]) h rfl (fun x hx => Nat.le_of_ble_eq_true (List.all_eq_true.mp hi x hx)) q
theorem ite_decT {p : Prop} [dp : Decidable p] {A B : Prop} (h : p) (k : A) : if decide p = true then A else B := by rw [if_pos (decide_eq_true h)]; exact k
theorem ite_decF {p : Prop} [dp : Decidable p] {A B : Prop} (h : ¬p) (k : B) : if decide p = true then A else B := by rw [if_neg (by simp [h])]; exact k
theorem ite_nf {A B : Prop} (h : A) : if (!false) = true then A else B := by rw [if_pos (by decide)]; exact h
theorem c_isT (h2 : x2 = .non) (e : x1.isNon = true) (k : Ψ true) : cmpD .isN x1 x2 Ψ := by subst h2; exact c_isN e k
theorem c_isF (h2 : x2 = .non) (e : x1.isNon = false) (k : Ψ false) : cmpD .isN x1 x2 Ψ := by subst h2; exact c_isN e k
theorem c_notT (h2 : x2 = .non) (e : x1.isNon = false) (k : Ψ true) : cmpD .notN x1 x2 Ψ := by subst h2; exact c_notN (by rw [e]; rfl) k
theorem c_notF (h2 : x2 = .non) (e : x1.isNon = true) (k : Ψ false) : cmpD .notN x1 x2 Ψ := by subst h2; exact c_notN (by rw [e]; rfl) k
theorem b_p18 (h1 : t.dat = .int 10) (h2 : u.dat = .int 18) (q : Φ (.leaf (.int (10 ^ 18)))) : binT .pow t u Φ := b_pow h1 h2 (by decide) q
theorem b_p9 (h1 : t.dat = .int 10) (h2 : u.dat = .int 9) (q : Φ (.leaf (.int (10 ^ 9)))) : binT .pow t u Φ := b_pow h1 h2 (by decide) q
theorem b_p38 (h1 : t.dat = .int 10) (h2 : u.dat = .int 38) (q : Φ (.leaf (.int (10 ^ 38)))) : binT .pow t u Φ := b_pow h1 h2 (by decide) q
theorem b_p17 (h1 : t.dat = .int 10) (h2 : u.dat = .int 17) (q : Φ (.leaf (.int (10 ^ 17)))) : binT .pow t u Φ := b_pow h1 h2 (by decide) q
theorem b_p40 (h1 : t.dat = .int 10) (h2 : u.dat = .int 40) (q : Φ (.leaf (.int (10 ^ 40)))) : binT .pow t u Φ := b_pow h1 h2 (by decide) q
theorem b_p39 (h1 : t.dat = .int 10) (h2 : u.dat = .int 39) (q : Φ (.leaf (.int (10 ^ 39)))) : binT .pow t u Φ := b_pow h1 h2 (by decide) q
theorem b_p21 (h1 : t.dat = .int 10) (h2 : u.dat = .int 21) (q : Φ (.leaf (.int (10 ^ 21)))) : binT .pow t u Φ := b_pow h1 h2 (by decide) q
theorem b_p20 (h1 : t.dat = .int 10) (h2 : u.dat = .int 20) (q : Φ (.leaf (.int (10 ^ 20)))) : binT .pow t u Φ := b_pow h1 h2 (by decide) q
theorem b_p6 (h1 : t.dat = .int 10) (h2 : u.dat = .int 6) (q : Φ (.leaf (.int (10 ^ 6)))) : binT .pow t u Φ := b_pow h1 h2 (by decide) q
theorem c_nes {d1 d2 : D} {s1 s2 : Str} (h1 : d1 = .str s1) (h2 : d2 = .str s2) (k : Ψ (!decide (s1 = s2))) : cmpD .ne d1 d2 Ψ := by
  subst h1 h2
  exact .inl ⟨_, _, rfl, rfl, k⟩
/-- alike data are equal -/
theorem c_nesame {d1 d2 : D} (h : d1 = d2) (h2 : d1.Fit) (k : Ψ false) : cmpD .ne d1 d2 Ψ := by
  subst h
  refine .inr ⟨h2, h2, ?_⟩
  rw [eqD_refl h2.1]; exact k
theorem c_eqsame {d1 d2 : D} (h : d1 = d2) (h2 : d1.Fit) (k : Ψ true) : cmpD .eq d1 d2 Ψ := by
  subst h
  refine .inr ⟨h2, h2, ?_⟩
  rw [eqD_refl h2.1]; exact k
theorem ite_ndecT {p : Prop} [dp : Decidable p] {A B : Prop} (h : p) (k : B) : if (!decide p) = true then A else B := by rw [if_neg (by simp [h])]; exact k
theorem b_rep (h : t.its = some (ds.map .leaf)) (h1 : ∃ es, t.dat = .lst es) (h2 : u.dat = .int n) (h0 : 0 ≤ n ∧ n ≤ 100000 ∧ ds.length * n.toNat ≤ 100000) (k : Φ (.lst ((List.replicate n.toNat ds).flatten.map .leaf))) : binT .mul t u Φ := by
  obtain ⟨es, e⟩ := h1
  simp only [binT, e, h2]
  exact ⟨ds, h, h0.1, h0.2.1, h0.2.2, k⟩
theorem ex_isT {p : Bool → Prop} {d : D} {ty : Ty} {b : Bool} (h : d.isT ty = some b) (k : p b) : ∃ b, d.isT ty = some b ∧ p b := ⟨b, h, k⟩
theorem ex_rg1 {p : Int → Prop} (h : t.dat = .int n) (h2 : RgS 0 n) (k : p n) : ∃ j, t.dat = .int j ∧ RgS 0 j ∧ p j := ⟨n, h, h2, k⟩
theorem ex_rg2 {p : Int → Int → Prop} (h : t.dat = .int n) (h2 : u.dat = .int m) (h3 : RgS n m) (k : p n m) : ∃ i j, t.dat = .int i ∧ u.dat = .int j ∧ RgS i j ∧ p i j := ⟨n, m, h, h2, h3, k⟩
theorem l_intT (h1 : t.dat = .bl true) (q : Φ (.leaf (.int 1))) : bltT .int [t] Φ := l_intb h1 q
theorem l_intF (h1 : t.dat = .bl false) (q : Φ (.leaf (.int 0))) : bltT .int [t] Φ := l_intb h1 q
theorem l_intD {p : Prop} [dp : Decidable p] (h1 : t.dat = .bl (decide p)) (q1 : p → Φ (.leaf (.int 1))) (q2 : ¬p → Φ (.leaf (.int 0))) : bltT .int [t] Φ := by
  by_cases h : p
  · exact l_intT (by rw [h1, decide_eq_true h]) (q1 h)
  · exact l_intF (by rw [h1]; simp [h]) (q2 h)
theorem c_neb {Ψ : Bool → Prop} {d1 d2 : D} {b c : Bool} (h1 : d1 = .bl b) (h2 : d2 = .bl c) (e : b = c) (k : Ψ false) : cmpD .ne d1 d2 Ψ := by
  subst h1 h2 e
  exact c_nesame rfl ⟨rfl, by simp [D.dep]⟩ k
theorem l_all {bs : List Bool} (h : t.dat = .lst ds) (e : D.toBls ds = some bs) (k : Φ (.leaf (.bl (bs.all id)))) : bltT .all [t] Φ := by
  simp only [bltT, T.dats, h, bltD]
  exact ⟨bs, e, k⟩
theorem l_lens {ns : List Int} (h : t = .leaf (itup ns)) (k : Φ (.leaf (.int ns.length))) : bltT .len [t] Φ := by
  subst h
  refine l_lent (ds := ns.map .int) rfl ?_
  rw [List.length_map]; exact k
theorem at_getD {ns : List Int} {k : Nat} (hk : k < ns.length) : atI (ns.map D.int) (k : Int) = some (.int (ns.getD k 0)) := by
  rw [at_ints hk]; simp [hk]
theorem tb_stop : memD (.str "stop") [.str "tie", .str "bar"] = false := by decide +kernel
theorem tb_wish : memD (.str "wish") [.str "tie", .str "bar"] = false := by decide +kernel
theorem tb_bar : memD (.str "bar") [.str "tie", .str "bar"] = true := by decide +kernel
theorem tb_tie : memD (.str "tie") [.str "tie", .str "bar"] = true := by decide +kernel
theorem wt_stop : memD (.str "stop") [.str "wish", .str "tie"] = false := by decide +kernel
theorem wt_wish : memD (.str "wish") [.str "wish", .str "tie"] = true := by decide +kernel
theorem wt_bar : memD (.str "bar") [.str "wish", .str "tie"] = false := by decide +kernel
theorem wt_tie : memD (.str "tie") [.str "wish", .str "tie"] = true := by decide +kernel
theorem cut_map {α β : Type} (f : α → β) (xs : List α) (lo hi : Option Int) : cutL (xs.map f) lo hi = (cutL xs lo hi).map f := by
  simp only [cutL, List.length_map, List.map_take, List.map_drop]
theorem mk_leafs (ds : List D) : T.mk (ds.map .leaf) = .leaf (.tup ds) := by
  unfold T.mk
  rw [if_pos (by simp [T.plain]), T.dats_eq, List.map_map]
  congr 2
  exact (List.map_congr_left fun _ _ => rfl).trans (List.map_id _)
theorem sl_lt {lo hi : Option Int} (h : t = .leaf (.tup ds)) (e : cutL ds lo hi = es) (k : Φ (.leaf (.tup es))) : slT t lo hi Φ := by
  subst h
  refine sl_prt rfl ?_
  rw [cut_map, e, mk_leafs]; exact k
theorem b_catL (h1 : t = .leaf (.tup ds)) (h2 : u = .leaf (.tup es)) (l : Nat.ble (ds.length + es.length) 100000 = true) (k : Φ (.leaf (.tup (ds ++ es)))) : binT .add t u Φ := by
  subst h1 h2
  refine b_catU rfl rfl rfl rfl (by simpa using Nat.le_of_ble_eq_true l) ?_
  rw [← List.map_append, mk_leafs]; exact k
end
end DL
namespace KT
open PySem PySem.Spec PyProof.Rows L2 DL
/-! terms as plain data -/
inductive Tm where
  | stop (d : Nat) (l h : Int) | wish (d : Nat) (l h f : Int) | bar (d o : Nat) (l h : Int) | tie (d o : Nat) (l h f : Int)
def Tm.D : Tm → DL.D
  | .stop d l h => .tup [.str "stop", .int d, .int l, .int h]
  | .wish d l h f => .tup [.str "wish", .int d, .int l, .int h, .int f]
  | .bar d o l h => .tup [.str "bar", .int d, .int o, .int l, .int h]
  | .tie d o l h f => .tup [.str "tie", .int d, .int o, .int l, .int h, .int f]
def Tm.low : Tm → Int
  | .stop _ l _ => l | .wish _ l _ _ => l | .bar _ _ l _ => l | .tie _ _ l _ _ => l
def Tm.high : Tm → Int
  | .stop _ _ h => h | .wish _ _ h _ => h | .bar _ _ _ h => h | .tie _ _ _ h _ => h
def Tm.ends : Tm → Int → Int → Tm
  | .stop d _ _, l, h => .stop d l h
  | .wish d _ _ f, l, h => .wish d l h f
  | .bar d o _ _, l, h => .bar d o l h
  | .tie d o _ _ f, l, h => .tie d o l h f
def Tm.dial : Tm → Nat
  | .stop d _ _ => d | .wish d _ _ _ => d | .bar d _ _ _ => d | .tie d _ _ _ _ => d
/-- the other dial, the force: None for what isn't there -/
def Tm.oth : Tm → DL.D
  | .stop .. => .non | .wish .. => .non | .bar _ o _ _ => .int o | .tie _ o _ _ _ => .int o
def Tm.frc : Tm → DL.D
  | .stop .. => .non | .wish _ _ _ f => .int f | .bar .. => .non | .tie _ _ _ _ f => .int f
def Tm.pulls : Tm → Bool
  | .stop .. => false | .wish .. => true | .bar .. => false | .tie .. => true
def Tm.force : Tm → Int
  | .stop .. => 0 | .wish _ _ _ f => f | .bar .. => 0 | .tie _ _ _ _ f => f
/-- its dials are dials of a standing of this length -/
def Tm.In (n : Nat) : Tm → Prop
  | .stop d _ _ => d < n | .wish d _ _ _ => d < n | .bar d o _ _ => d < n ∧ o < n | .tie d o _ _ _ => d < n ∧ o < n
def Tm.arg (xs : List Int) : Tm → Int
  | .stop d _ _ => xs.getD d 0 | .wish d _ _ _ => xs.getD d 0 | .bar d o _ _ => xs.getD d 0 - xs.getD o 0 | .tie d o _ _ _ => xs.getD d 0 - xs.getD o 0
def Tm.far (t : Tm) (x : Int) : Int := if x < t.low then t.low - x else if x > t.high then x - t.high else 0
def Tm.Ok (n : Nat) (m : Int) (t : Tm) : Prop := t.In n ∧ (-(10 ^ 18) ≤ t.low ∧ t.low ≤ t.high ∧ t.high ≤ 10 ^ 18) ∧ match t with
  | .stop .. => True
  | .wish _ _ _ f => 1 ≤ f ∧ f ≤ m
  | .bar d o _ _ => d ≠ o
  | .tie d o _ _ f => d ≠ o ∧ 1 ≤ f ∧ f ≤ m
/-- a row of settings -/
def Row (n : Nat) (b : Int) (xs : List Int) : Prop := xs.length = n ∧ ∀ x ∈ xs, -b ≤ x ∧ x ≤ b
theorem Row.get {n : Nat} {b : Int} {xs : List Int} (h : Row n b xs) {k : Nat} (hk : k < n) : -b ≤ xs.getD k 0 ∧ xs.getD k 0 ≤ b := by
  have h1 : k < xs.length := by rw [h.1]; exact hk
  have h2 : xs.getD k 0 = xs[k] := by simp [h1]
  rw [h2]
  exact h.2 _ (List.getElem_mem h1)
theorem other_ok {d n v : Int} (h1 : 0 ≤ d) (h2 : d < n) (h3 : 0 ≤ v) (h4 : v < n - 1) : 0 ≤ (d + 1 + v) % n ∧ (d + 1 + v) % n < n ∧ (d + 1 + v) % n ≠ d := by
  refine ⟨Int.emod_nonneg _ (by omega), Int.emod_lt_of_pos _ (by omega), ?_⟩
  by_cases h : d + 1 + v < n
  · rw [Int.emod_eq_of_lt (by omega) h]; omega
  · have e : d + 1 + v = (d + 1 + v - n) + n * 1 := by omega
    rw [e, Int.add_mul_emod_self_left, Int.emod_eq_of_lt (by omega) (by omega)]; omega
end KT
namespace KT
open PySem PySem.Spec PyProof.Rows L2 DL
/-! short bodies of defs that stand in many laws -/
abbrev n_other_of : List Str := ["term"]
def b_other_of : DL.B := (.ret (.ife (.cmp .inn (.ix (.nm 0) (.int 0)) (.tup (.cons (.str "tie") (.cons (.str "bar") .nil)))) (.ix (.nm 0) (.int 2)) .non) .nil)
abbrev n_ends_of : List Str := ["term", "begin"]
def b_ends_of : DL.B := (.asg (.nm 1) (.ife (.cmp .inn (.ix (.nm 0) (.int 0)) (.tup (.cons (.str "tie") (.cons (.str "bar") .nil)))) (.int 3) (.int 2)) (.ret (.tup (.cons (.ix (.nm 0) (.nm 1)) (.cons (.ix (.nm 0) (.bin .add (.nm 1) (.int 1))) .nil))) .nil))
abbrev n_argument : List Str := ["term", "standing", "other"]
def b_argument : DL.B := (.asg (.nm 2) (.call 0 (.cons (.nm 0) .nil)) (.ret (.bin .sub (.ix (.nm 1) (.ix (.nm 0) (.int 1))) (.ife (.cmp .notN (.nm 2) .non) (.ix (.nm 1) (.nm 2)) (.int 0))) .nil))
abbrev n_distance : List Str := ["term", "argument", "low", "high"]
def b_distance : DL.B := (.asg (.cons (.nm 2) (.cons (.nm 3) .nil)) (.call 0 (.cons (.nm 0) .nil)) (.ret (.blt .max (.cons (.bin .sub (.nm 2) (.nm 1)) (.cons (.bin .sub (.nm 1) (.nm 3)) (.cons (.int 0) .nil)))) .nil))
abbrev n_with_ends : List Str := ["term", "low", "high", "begin"]
def b_with_ends : DL.B := (.asg (.nm 3) (.ife (.cmp .inn (.ix (.nm 0) (.int 0)) (.tup (.cons (.str "tie") (.cons (.str "bar") .nil)))) (.int 3) (.int 2)) (.ret (.bin .add (.bin .add (.sl (.nm 0) .nop (.prt (.nm 3))) (.tup (.cons (.nm 1) (.cons (.nm 2) .nil)))) (.sl (.nm 0) (.prt (.bin .add (.nm 3) (.int 2))) .nop)) .nil))
abbrev n_mirrored : List Str := ["term", "low", "high"]
def b_mirrored : DL.B := (.asg (.cons (.nm 1) (.cons (.nm 2) .nil)) (.call 0 (.cons (.nm 0) .nil)) (.ret (.call 1 (.cons (.nm 0) (.cons (.neg (.nm 2)) (.cons (.neg (.nm 1)) .nil)))) .nil))
abbrev n_moved : List Str := ["term", "by", "low", "high"]
def b_moved : DL.B := (.asg (.cons (.nm 2) (.cons (.nm 3) .nil)) (.call 0 (.cons (.nm 0) .nil)) (.ret (.call 1 (.cons (.nm 0) (.cons (.bin .add (.nm 2) (.nm 1)) (.cons (.bin .add (.nm 3) (.nm 1)) .nil)))) .nil))
abbrev n_law_parts : List Str := ["_law_term_here", "_law_begin", "_law_other"]
def b_law_parts : DL.B := (.asg (.nm 1) (.bin .add (.int 2) (.blt .int (.cons (.cmp .inn (.ix (.nm 0) (.int 0)) (.tup (.cons (.str "tie") (.cons (.str "bar") .nil)))) .nil))) (.asg (.nm 2) (.ife (.cmp .eq (.nm 1) (.int 3)) (.ix (.nm 0) (.int 2)) .non) (.ret (.tup (.cons (.ix (.nm 0) (.int 1)) (.cons (.nm 2) (.cons (.ix (.nm 0) (.nm 1)) (.cons (.ix (.nm 0) (.bin .add (.nm 1) (.int 1))) (.cons (.ife (.cmp .inn (.ix (.nm 0) (.int 0)) (.tup (.cons (.str "wish") (.cons (.str "tie") .nil)))) (.ix (.nm 0) (.neg (.int 1))) .non) .nil)))))) .nil)))
abbrev n_law_argument : List Str := ["_law_term_here", "_law_standing_here", "_law_dial", "_law_other", "_law_low", "_law_high", "_law_force"]
def b_law_argument : DL.B := (.asg (.cons (.nm 2) (.cons (.nm 3) (.cons (.nm 4) (.cons (.nm 5) (.cons (.nm 6) .nil))))) (.call 0 (.cons (.nm 0) .nil)) (.ret (.ife (.cmp .isN (.nm 3) .non) (.ix (.nm 1) (.nm 2)) (.bin .sub (.ix (.nm 1) (.nm 2)) (.ix (.nm 1) (.nm 3)))) .nil))
abbrev n_law_far : List Str := ["_law_term_here", "_law_value", "_law_low", "_law_high"]
def b_law_far : DL.B := (.asg (.cons (.nm 2) (.cons (.nm 3) .nil)) (.sl (.call 0 (.cons (.nm 0) .nil)) (.prt (.int 2)) (.prt (.int 4))) (.ite (.cmp .lt (.nm 1) (.nm 2)) (.ret (.bin .sub (.nm 2) (.nm 1)) .nil) .nil (.ret (.ife (.cmp .gt (.nm 1) (.nm 3)) (.bin .sub (.nm 1) (.nm 3)) (.int 0)) .nil)))
abbrev n_law_number : List Str := ["_law_bag_here", "_law_scale"]
def b_law_number : DL.B := (.ret (.bin .sub (.call 0 (.cons (.nm 0) (.cons (.bin .add (.bin .mul (.int 2) (.nm 1)) (.int 1)) .nil))) (.nm 1)) .nil)
abbrev n_law_standing : List Str := ["_law_bag_here", "_law_size", "_law_scale", "_law_middle", "_law_dial"]
def b_law_standing : DL.B := (.asg (.nm 3) (.ix (.lst (.cons (.int 0) (.cons (.int 0) (.cons (.int 0) (.cons (.bin .pow (.int 10) (.int 9)) (.cons (.neg (.bin .pow (.int 10) (.int 9))) (.cons (.bin .sub (.bin .pow (.int 10) (.int 18)) (.int 50)) .nil))))))) (.call 0 (.cons (.nm 0) (.cons (.int 6) .nil)))) (.ret (.blt .tuple (.cons (.lc [4] (.nm 4) (.rng (.cons (.nm 1) .nil)) .nop (.bin .add (.nm 3) (.call 1 (.cons (.nm 0) (.cons (.nm 2) .nil))))) .nil)) .nil))
abbrev n_law_range : List Str := ["_law_bag_here", "_law_value", "_law_scale", "_law_inside", "_law_low", "_law_high"]
def b_law_range : DL.B := (.ite (.not (.val (.nm 3))) (.aug .add 1 (.call 0 (.cons (.nm 0) (.cons (.nm 2) .nil))) .nil) .nil (.par2 4 5 (.bin .sub (.nm 1) (.bin .mul (.call 1 (.cons (.nm 0) (.cons (.int 3) .nil))) (.call 1 (.cons (.nm 0) (.cons (.nm 2) .nil))))) (.bin .add (.nm 1) (.bin .mul (.call 1 (.cons (.nm 0) (.cons (.int 3) .nil))) (.call 1 (.cons (.nm 0) (.cons (.nm 2) .nil))))) (.asg (.cons (.nm 4) (.cons (.nm 5) .nil)) (.ix (.lst (.cons (.tup (.cons (.nm 4) (.cons (.nm 5) .nil))) (.cons (.tup (.cons (.nm 1) (.cons (.nm 1) .nil))) (.cons (.tup (.cons (.nm 4) (.cons (.bin .add (.nm 4) (.int 1)) .nil))) (.cons (.tup (.cons (.nm 5) (.cons (.nm 5) .nil))) .nil))))) (.bin .mul (.call 1 (.cons (.nm 0) (.cons (.int 4) .nil))) (.blt .int (.cons (.not (.nm 3)) .nil)))) (.asg (.nm 4) (.blt .max (.cons (.neg (.bin .pow (.int 10) (.int 18))) (.cons (.blt .min (.cons (.bin .pow (.int 10) (.int 18)) (.cons (.nm 4) .nil))) .nil))) (.ret (.tup (.cons (.nm 4) (.cons (.blt .max (.cons (.nm 4) (.cons (.blt .min (.cons (.nm 5) (.cons (.bin .pow (.int 10) (.int 18)) .nil))) .nil))) .nil))) .nil)))))
abbrev n_law_term : List Str := ["_law_bag_here", "_law_standing_here", "_law_scale", "_law_most", "_law_stops", "_law_force", "_law_other", "_law_size", "_law_way", "_law_dial", "_law_inside", "_law_low", "_law_high"]
def b_law_term : DL.B := (.par2 7 8 (.blt .len (.cons (.nm 1) .nil)) (.call 0 (.cons (.nm 0) (.cons (.int 8) .nil))) (.par2 9 10 (.call 0 (.cons (.nm 0) (.cons (.nm 7) .nil))) (.and (.nm 4) (.one (.cmp .gt (.nm 8) (.int 5)))) (.asg (.nm 5) (.bin .add (.int 1) (.call 0 (.cons (.nm 0) (.cons (.nm 3) .nil)))) (.ite (.or (.cmp .eq (.nm 7) (.int 1)) (.one (.cmp .inn (.nm 8) (.tup (.cons (.int 0) (.cons (.int 1) (.cons (.int 2) (.cons (.int 6) .nil)))))))) (.asg (.cons (.nm 11) (.cons (.nm 12) .nil)) (.call 1 (.cons (.nm 0) (.cons (.ix (.nm 1) (.nm 9)) (.cons (.nm 2) (.cons (.nm 10) .nil))))) (.ret (.ife (.val (.nm 10)) (.tup (.cons (.str "stop") (.cons (.nm 9) (.cons (.nm 11) (.cons (.nm 12) .nil))))) (.tup (.cons (.str "wish") (.cons (.nm 9) (.cons (.nm 11) (.cons (.nm 12) (.cons (.nm 5) .nil))))))) .nil)) .nil (.asg (.nm 6) (.bin .mod (.bin .add (.bin .add (.nm 9) (.int 1)) (.call 0 (.cons (.nm 0) (.cons (.bin .sub (.nm 7) (.int 1)) .nil)))) (.nm 7)) (.asg (.cons (.nm 11) (.cons (.nm 12) .nil)) (.call 1 (.cons (.nm 0) (.cons (.bin .sub (.ix (.nm 1) (.nm 9)) (.ix (.nm 1) (.nm 6))) (.cons (.nm 2) (.cons (.nm 10) .nil))))) (.ret (.ife (.val (.nm 10)) (.tup (.cons (.str "bar") (.cons (.nm 9) (.cons (.nm 6) (.cons (.nm 11) (.cons (.nm 12) .nil)))))) (.tup (.cons (.str "tie") (.cons (.nm 9) (.cons (.nm 6) (.cons (.nm 11) (.cons (.nm 12) (.cons (.nm 5) .nil)))))))) .nil)))))))
end KT
namespace KT
open PySem PySem.Spec PyProof.Rows L2 DL
local macro_rules | `(tactic| trace_state) => `(tactic| repeat' first | (with_reducible show w _ _ _ _; first | with_reducible refine w_nm (by with_unfolding_all exact rfl) ?_ | with_reducible refine w_ix ?_ | with_reducible refine w_int ?_ | with_reducible refine w_bin ?_ | with_reducible refine w_cmp ?_ | with_reducible refine w_call (by with_unfolding_all exact rfl) ?_ | with_reducible refine w_blt ?_ | with_reducible refine w_ow (by with_unfolding_all exact rfl) ?_ | with_reducible refine w_tup ?_ | with_reducible refine w_lst ?_ | with_reducible refine w_str ?_ | with_reducible refine w_neg ?_ | with_reducible refine w_ife ?_ | with_reducible refine w_sl ?_ | with_reducible refine w_and ?_ | with_reducible refine w_one ?_ | with_reducible refine w_or ?_ | with_reducible refine w_not ?_ | with_reducible refine w_bl ?_ | with_reducible refine w_non ?_ | with_reducible refine w_gl (by with_unfolding_all exact rfl) ?_ | with_reducible refine w_chn ?_ | with_reducible refine w_lc (by with_unfolding_all exact rfl) ?_ | with_reducible refine w_isi ?_ | with_reducible refine w_lr1 ?_ | with_reducible refine w_lr2 ?_) | (with_reducible show wa _ _ _ _; first | with_reducible refine wa_cons ?_ | with_reducible refine wa_nil ?_) | (with_reducible show wv _ _ _ _; first | with_reducible refine wv_cons ?_ | with_reducible refine wv_nil ?_) | (with_reducible show T.fin _ _; first | with_reducible refine fin_leaf (by with_unfolding_all exact rfl) ?_ | with_reducible refine fin_mk (by with_unfolding_all exact rfl) ?_ | with_reducible refine fin_lst (by with_unfolding_all exact rfl) ?_ | with_reducible refine fin_tup (by with_unfolding_all exact rfl) ?_) | (with_reducible show And _ _; first | with_reducible refine and_len (by with_unfolding_all exact rfl) ?_) | (with_reducible show frozs _ _ _; first | with_reducible refine fz_nil ?_ | with_reducible refine fz_cons ?_) | (with_reducible show T.froz _ _ _; first | with_reducible refine fz_leaf (by with_unfolding_all exact rfl) ?_ | with_reducible refine fz_lst (by with_unfolding_all exact rfl) (by with_unfolding_all exact rfl) ?_ | with_reducible refine fz_tup (by with_unfolding_all exact rfl) (by with_unfolding_all exact rfl) ?_ | with_reducible refine fz_vw (by with_unfolding_all exact rfl) (by with_unfolding_all exact rfl) ?_) | (with_reducible show ixT _ _ _; first | with_reducible refine ix_lt (by with_unfolding_all exact rfl) (by with_unfolding_all exact rfl) (by with_unfolding_all exact at_getD (by assumption)) ?_ | with_reducible refine ix_lt (by with_unfolding_all exact rfl) (by with_unfolding_all exact rfl) (by with_unfolding_all exact rfl) ?_ | with_reducible refine ix_lst (by with_unfolding_all exact rfl) (by with_unfolding_all exact rfl) (by with_unfolding_all exact rfl) ?_ | with_reducible refine ix_ll (by with_unfolding_all exact rfl) (by with_unfolding_all exact rfl) (by with_unfolding_all exact rfl) ?_ | with_reducible refine ix_vli (by with_unfolding_all exact rfl) (by with_unfolding_all exact rfl) (by with_unfolding_all exact rfl) ?_ | with_reducible refine ix_vll (by with_unfolding_all exact rfl) (by with_unfolding_all exact rfl) (by with_unfolding_all exact rfl) ?_ | with_reducible refine ix_tup (by with_unfolding_all exact rfl) (by with_unfolding_all exact rfl) (by with_unfolding_all exact rfl) ?_ | with_reducible refine ix_vti (by with_unfolding_all exact rfl) (by with_unfolding_all exact rfl) (by with_unfolding_all exact rfl) ?_ | with_reducible refine ix_vlt (by with_unfolding_all exact rfl) (by with_unfolding_all exact rfl) (by with_unfolding_all exact rfl) ?_ | with_reducible refine ix_vtl (by with_unfolding_all exact rfl) (by with_unfolding_all exact rfl) (by with_unfolding_all exact rfl) ?_ | with_reducible refine ix_vls (by with_unfolding_all exact rfl) (by with_unfolding_all exact rfl) (by with_unfolding_all exact rfl) ?_) | (with_reducible show DL.binT _ _ _ _; first | with_reducible refine b_add (by with_unfolding_all exact rfl) (by with_unfolding_all exact rfl) ?_ | with_reducible refine b_sub (by with_unfolding_all exact rfl) (by with_unfolding_all exact rfl) ?_ | with_reducible refine b_mul (by with_unfolding_all exact rfl) (by with_unfolding_all exact rfl) (by with_unfolding_all exact mulR ⟨by decide, by decide⟩) ?_ | with_reducible refine b_mul (by with_unfolding_all exact rfl) (by with_unfolding_all exact rfl) (by with_unfolding_all exact mulL ⟨by decide, by decide⟩) ?_ | with_reducible refine b_mul (by with_unfolding_all exact rfl) (by with_unfolding_all exact rfl) (by with_unfolding_all exact mulL ⟨by omega, by omega⟩) ?_ | with_reducible refine b_mul (by with_unfolding_all exact rfl) (by with_unfolding_all exact rfl) (by with_unfolding_all exact mulR ⟨by omega, by omega⟩) ?_ | with_reducible refine b_mul (by with_unfolding_all exact rfl) (by with_unfolding_all exact rfl) ?_ ?_ | with_reducible refine b_p18 (by with_unfolding_all exact rfl) (by with_unfolding_all exact rfl) ?_ | with_reducible refine b_p9 (by with_unfolding_all exact rfl) (by with_unfolding_all exact rfl) ?_ | with_reducible refine b_p38 (by with_unfolding_all exact rfl) (by with_unfolding_all exact rfl) ?_ | with_reducible refine b_p17 (by with_unfolding_all exact rfl) (by with_unfolding_all exact rfl) ?_ | with_reducible refine b_p40 (by with_unfolding_all exact rfl) (by with_unfolding_all exact rfl) ?_ | with_reducible refine b_p39 (by with_unfolding_all exact rfl) (by with_unfolding_all exact rfl) ?_ | with_reducible refine b_p21 (by with_unfolding_all exact rfl) (by with_unfolding_all exact rfl) ?_ | with_reducible refine b_p20 (by with_unfolding_all exact rfl) (by with_unfolding_all exact rfl) ?_ | with_reducible refine b_p6 (by with_unfolding_all exact rfl) (by with_unfolding_all exact rfl) ?_ | with_reducible refine b_pow (by with_unfolding_all exact rfl) (by with_unfolding_all exact rfl) (by with_unfolding_all decide) ?_ | with_reducible refine b_mod (by with_unfolding_all exact rfl) (by with_unfolding_all exact rfl) (by with_unfolding_all (first | decide | assumption | omega)) ?_ | with_reducible refine b_mod (by with_unfolding_all exact rfl) (by with_unfolding_all exact rfl) ?_ ?_ | with_reducible refine b_fdiv (by with_unfolding_all exact rfl) (by with_unfolding_all exact rfl) (by with_unfolding_all exact ⟨by decide, by decide⟩) ?_ | with_reducible refine b_fdiv (by with_unfolding_all exact rfl) (by with_unfolding_all exact rfl) (by with_unfolding_all exact ⟨by assumption, by assumption⟩) ?_ | with_reducible refine b_fdiv (by with_unfolding_all exact rfl) (by with_unfolding_all exact rfl) ?_ ?_ | with_reducible refine b_catL (by with_unfolding_all exact rfl) (by with_unfolding_all exact rfl) (by with_unfolding_all exact rfl) ?_) | (with_reducible show cmpD _ _ _ _; first | with_reducible refine c_eq (by with_unfolding_all exact rfl) (by with_unfolding_all exact rfl) ?_ | with_reducible refine c_ne (by with_unfolding_all exact rfl) (by with_unfolding_all exact rfl) ?_ | with_reducible refine c_lt (by with_unfolding_all exact rfl) (by with_unfolding_all exact rfl) ?_ | with_reducible refine c_le (by with_unfolding_all exact rfl) (by with_unfolding_all exact rfl) ?_ | with_reducible refine c_gt (by with_unfolding_all exact rfl) (by with_unfolding_all exact rfl) ?_ | with_reducible refine c_ge (by with_unfolding_all exact rfl) (by with_unfolding_all exact rfl) ?_ | with_reducible refine c_nes (by with_unfolding_all exact rfl) (by with_unfolding_all exact rfl) ?_ | with_reducible refine c_eqs (by with_unfolding_all exact rfl) (by with_unfolding_all exact rfl) ?_ | with_reducible refine c_inT (by with_unfolding_all exact rfl) (by with_unfolding_all exact rfl) (by with_unfolding_all (first | exact tb_stop | exact tb_wish | exact tb_bar | exact tb_tie | exact wt_stop | exact wt_wish | exact wt_bar | exact wt_tie)) ?_ | with_reducible refine c_isT (by with_unfolding_all exact rfl) (by with_unfolding_all exact rfl) ?_ | with_reducible refine c_isF (by with_unfolding_all exact rfl) (by with_unfolding_all exact rfl) ?_ | with_reducible refine c_notT (by with_unfolding_all exact rfl) (by with_unfolding_all exact rfl) ?_ | with_reducible refine c_notF (by with_unfolding_all exact rfl) (by with_unfolding_all exact rfl) ?_) | (with_reducible show wt _ _ _ _; first | with_reducible refine wt_cmp ?_ | with_reducible refine wt_not ?_ | with_reducible refine wt_val ?_ | with_reducible refine wt_and ?_ | with_reducible refine wt_or ?_ | with_reducible refine wt_one ?_ | with_reducible refine wt_chn ?_) | (with_reducible show @ite _ _ _ _ _; first | with_reducible refine ite_t ?_ | with_reducible refine ite_f ?_ | with_reducible refine ite_nt ?_ | with_reducible refine ite_nf ?_ | with_reducible refine ite_decT (by decide) ?_ | with_reducible refine ite_decF (by decide) ?_ | with_reducible refine ite_dec (fun _ => ?_) (fun _ => ?_) | with_reducible refine ite_ndecT (by with_unfolding_all exact rfl) ?_ | with_reducible refine ite_ndec (fun _ => ?_) (fun _ => ?_)) | (with_reducible show wb _ _ _ _; first | with_reducible refine wb_asg ?_ | with_reducible refine wb_ite ?_ | with_reducible refine wb_ret ?_ | with_reducible refine wb_nil ?_ | with_reducible refine wb_for ?_ | with_reducible refine wb_asgLc (by with_unfolding_all exact rfl) (by with_unfolding_all exact rfl) ?_ | with_reducible refine wb_setix (by with_unfolding_all exact rfl) ?_ | with_reducible refine wb_augix (by with_unfolding_all exact rfl) ?_ | with_reducible refine wb_aug (by with_unfolding_all exact rfl) (by with_unfolding_all exact rfl) ?_ | with_reducible refine wb_ex ?_ | with_reducible refine wb_fz (by with_unfolding_all exact rfl) (by with_unfolding_all exact rfl) ?_ | with_reducible refine wb_pass ?_ | with_reducible refine wb_brk ?_ | with_reducible refine wb_cont ?_ | with_reducible refine wb_retN ?_ | with_reducible refine wb_par2 (by with_unfolding_all decide) (by with_unfolding_all exact rfl) (by with_unfolding_all exact rfl) ?_ | with_reducible refine wb_app (by with_unfolding_all exact rfl) (by with_unfolding_all (simp; done)) ?_ | with_reducible refine wb_app (by with_unfolding_all exact rfl) ?_ ?_) | (with_reducible show Exists _; first | with_reducible refine bind_nm (by with_unfolding_all exact rfl) ?_ | with_reducible refine bind_pair (by with_unfolding_all exact rfl) (by with_unfolding_all exact rfl) (by with_unfolding_all exact rfl) ?_ | with_reducible refine bind_5 (by with_unfolding_all exact rfl) (by with_unfolding_all exact rfl) ?_ | with_reducible refine ex_int (by with_unfolding_all exact rfl) ?_ | with_reducible refine ex_bl (by with_unfolding_all exact rfl) ?_ | with_reducible refine ex_isT (by with_unfolding_all exact rfl) ?_ | with_reducible refine set_to (by with_unfolding_all exact rfl) (by with_unfolding_all exact rfl) ?_ | with_reducible refine aug_to (by with_unfolding_all exact rfl) (by with_unfolding_all exact rfl) (by with_unfolding_all exact rfl) ?_ | with_reducible refine ex_rg1 (by with_unfolding_all exact rfl) (by with_unfolding_all (unfold RgS; omega)) ?_ | with_reducible refine ex_rg2 (by with_unfolding_all exact rfl) (by with_unfolding_all exact rfl) (by with_unfolding_all (unfold RgS; omega)) ?_) | (with_reducible show bltT _ _ _; first | with_reducible refine l_lens (by with_unfolding_all exact rfl) ?_ | with_reducible refine l_len (by with_unfolding_all exact rfl) ?_ | with_reducible refine l_lent (by with_unfolding_all exact rfl) ?_ | with_reducible refine l_abs (by with_unfolding_all exact rfl) ?_ | with_reducible refine l_max2 (by with_unfolding_all exact rfl) (by with_unfolding_all exact rfl) ?_ | with_reducible refine l_min2 (by with_unfolding_all exact rfl) (by with_unfolding_all exact rfl) ?_ | with_reducible refine l_max3 (by with_unfolding_all exact rfl) (by with_unfolding_all exact rfl) (by with_unfolding_all exact rfl) ?_ | with_reducible refine l_intT (by with_unfolding_all exact rfl) ?_ | with_reducible refine l_intF (by with_unfolding_all exact rfl) ?_ | with_reducible refine l_intD (by with_unfolding_all exact rfl) (fun _ => ?_) (fun _ => ?_)) | (with_reducible show slT _ _ _ _; first | with_reducible refine sl_lt (by with_unfolding_all exact rfl) (by with_unfolding_all exact rfl) ?_) | (with_reducible show tru _ _; first | with_reducible refine t_bl (by with_unfolding_all exact rfl) ?_) | (with_reducible show augD _ _ _ _; first | with_reducible refine a_add (by with_unfolding_all exact rfl) (by with_unfolding_all exact rfl) ?_ | with_reducible refine a_sub (by with_unfolding_all exact rfl) (by with_unfolding_all exact rfl) ?_) | (with_reducible show wo _ _ _ _; first | with_reducible refine wo_nop ?_ | with_reducible refine wo_prt ?_) | (with_reducible show wi _ _ _ _; first | with_reducible refine wi_rng ?_ | with_reducible refine wi_sq ?_ | with_reducible refine wi_zip ?_ | with_reducible refine wi_enm ?_) | (with_reducible show wc _ _ _ _; first | with_reducible refine wc_nop ?_ | with_reducible refine wc_one ?_))
abbrev WOk (S : Sg) (n : List Str) (b : DL.B) (F : SpecF) (k : Nat) : Prop := ∀ ds Φ, F ds Φ → ds.length = k ∧ wb S b (envS n (ds.map .leaf)) { nx := fun _ => Φ (.leaf .non), rt := fun t _ => Φ t }
/-! a function of the arguments -/
def fnF {α : Type} (g : α → List DL.D) (p : α → Prop) (r : α → DL.D) : SpecF := fun ds Φ => ∃ x, ds = g x ∧ p x ∧ Φ (.leaf (r x))
theorem fnM {α : Type} (g : α → List DL.D) (p : α → Prop) (r : α → DL.D) : Mono (fnF g p r) := fun ds Φ Ψ i ⟨x, e, h, k⟩ => ⟨x, e, h, i _ k⟩
def F_other_of : SpecF := fnF (fun t : Tm => [t.D]) (fun _ => True) (fun t => t.oth)
theorem M_other_of : Mono F_other_of := fnM _ _ _
def S_other_of : Sg := { z := true, fs := [], gs := [] }
theorem W_other_of : WOk S_other_of n_other_of b_other_of F_other_of 1 := by
  rintro ds Φ ⟨t, rfl, -, k⟩
  refine ⟨rfl, ?_⟩
  unfold b_other_of
  rcases t with ⟨d, l, h⟩ | ⟨d, l, h, f⟩ | ⟨d, o, l, h⟩ | ⟨d, o, l, h, f⟩
  · trace_state; exact k
  · trace_state; exact k
  · trace_state; exact k
  · trace_state; exact k
def F_ends_of : SpecF := fnF (fun t : Tm => [t.D]) (fun _ => True) (fun t => .tup [.int t.low, .int t.high])
theorem M_ends_of : Mono F_ends_of := fnM _ _ _
def S_ends_of : Sg := { z := true, fs := [], gs := [] }
theorem W_ends_of : WOk S_ends_of n_ends_of b_ends_of F_ends_of 1 := by
  rintro ds Φ ⟨t, rfl, -, k⟩
  refine ⟨rfl, ?_⟩
  unfold b_ends_of
  rcases t with ⟨d, l, h⟩ | ⟨d, l, h, f⟩ | ⟨d, o, l, h⟩ | ⟨d, o, l, h, f⟩
  · trace_state; exact k
  · trace_state; exact k
  · trace_state; exact k
  · trace_state; exact k
def F_argument : SpecF := fnF (fun x : Tm × List Int => [x.1.D, itup x.2]) (fun x => x.1.In x.2.length) (fun x => .int (x.1.arg x.2))
theorem M_argument : Mono F_argument := fnM _ _ _
def S_argument : Sg := { z := true, fs := [F_other_of], gs := [] }
theorem W_argument : WOk S_argument n_argument b_argument F_argument 2 := by
  rintro ds Φ ⟨⟨t, xs⟩, rfl, hI, k⟩
  refine ⟨rfl, ?_⟩
  unfold b_argument
  trace_state
  refine ⟨t, rfl, trivial, ?_⟩
  rcases t with ⟨d, l, h⟩ | ⟨d, l, h, f⟩ | ⟨d, o, l, h⟩ | ⟨d, o, l, h, f⟩
  · have hd : d < xs.length := hI
    trace_state
    rw [Int.sub_zero]; exact k
  · have hd : d < xs.length := hI
    trace_state
    rw [Int.sub_zero]; exact k
  · have hd : d < xs.length := hI.1
    have ho : o < xs.length := hI.2
    trace_state
    exact k
  · have hd : d < xs.length := hI.1
    have ho : o < xs.length := hI.2
    trace_state
    exact k
def F_distance : SpecF := fnF (fun x : Tm × Int => [x.1.D, .int x.2]) (fun x => x.1.low ≤ x.1.high) (fun x => .int (x.1.far x.2))
theorem M_distance : Mono F_distance := fnM _ _ _
def S_distance : Sg := { z := true, fs := [F_ends_of], gs := [] }
theorem W_distance : WOk S_distance n_distance b_distance F_distance 2 := by
  rintro ds Φ ⟨⟨t, a⟩, rfl, hI, k⟩
  refine ⟨rfl, ?_⟩
  unfold b_distance
  trace_state
  refine ⟨t, rfl, trivial, ?_⟩
  trace_state
  have e : t.far a = if (if t.low - a < a - t.high then a - t.high else t.low - a) < 0 then 0 else if t.low - a < a - t.high then a - t.high else t.low - a := by
    have hI : t.low ≤ t.high := hI
    unfold Tm.far
    repeat' split
    all_goals omega
  simp only [e] at k
  exact k
def F_law_parts : SpecF := fnF (fun t : Tm => [t.D]) (fun _ => True) (fun t => .tup [.int t.dial, t.oth, .int t.low, .int t.high, t.frc])
theorem M_law_parts : Mono F_law_parts := fnM _ _ _
def S_law_parts : Sg := { z := true, fs := [], gs := [] }
theorem W_law_parts : WOk S_law_parts n_law_parts b_law_parts F_law_parts 1 := by
  rintro ds Φ ⟨t, rfl, -, k⟩
  refine ⟨rfl, ?_⟩
  unfold b_law_parts
  rcases t with ⟨d, l, h⟩ | ⟨d, l, h, f⟩ | ⟨d, o, l, h⟩ | ⟨d, o, l, h, f⟩
  · trace_state; exact k
  · trace_state; exact k
  · trace_state; exact k
  · trace_state; exact k
def F_law_argument : SpecF := F_argument
theorem M_law_argument : Mono F_law_argument := fnM _ _ _
def S_law_argument : Sg := { z := true, fs := [F_law_parts], gs := [] }
theorem W_law_argument : WOk S_law_argument n_law_argument b_law_argument F_law_argument 2 := by
  rintro ds Φ ⟨⟨t, xs⟩, rfl, hI, k⟩
  refine ⟨rfl, ?_⟩
  unfold b_law_argument
  trace_state
  refine ⟨t, rfl, trivial, ?_⟩
  rcases t with ⟨d, l, h⟩ | ⟨d, l, h, f⟩ | ⟨d, o, l, h⟩ | ⟨d, o, l, h, f⟩
  · have hd : d < xs.length := hI
    trace_state
    exact k
  · have hd : d < xs.length := hI
    trace_state
    exact k
  · have hd : d < xs.length := hI.1
    have ho : o < xs.length := hI.2
    trace_state
    exact k
  · have hd : d < xs.length := hI.1
    have ho : o < xs.length := hI.2
    trace_state
    exact k
def F_law_far : SpecF := fnF (fun x : Tm × Int => [x.1.D, .int x.2]) (fun x => True) (fun x => .int (x.1.far x.2))
theorem M_law_far : Mono F_law_far := fnM _ _ _
def S_law_far : Sg := { z := true, fs := [F_law_parts], gs := [] }
theorem W_law_far : WOk S_law_far n_law_far b_law_far F_law_far 2 := by
  rintro ds Φ ⟨⟨t, a⟩, rfl, -, k⟩
  refine ⟨rfl, ?_⟩
  unfold b_law_far
  trace_state
  refine ⟨t, rfl, trivial, ?_⟩
  trace_state
  all_goals
    have e : Φ (.leaf (.int (t.far a))) := k
    unfold Tm.far at e
    repeat' split at e
    all_goals first | exact e | (exfalso; omega)
end KT
namespace KT
open PySem PySem.Spec PyProof.Rows L2 DL
local macro_rules | `(tactic| trace_state) => `(tactic| repeat' first | (with_reducible show w _ _ _ _; first | with_reducible refine w_nm (by with_unfolding_all exact rfl) ?_ | with_reducible refine w_ix ?_ | with_reducible refine w_int ?_ | with_reducible refine w_bin ?_ | with_reducible refine w_cmp ?_ | with_reducible refine w_call (by with_unfolding_all exact rfl) ?_ | with_reducible refine w_blt ?_ | with_reducible refine w_ow (by with_unfolding_all exact rfl) ?_ | with_reducible refine w_tup ?_ | with_reducible refine w_lst ?_ | with_reducible refine w_str ?_ | with_reducible refine w_neg ?_ | with_reducible refine w_ife ?_ | with_reducible refine w_sl ?_ | with_reducible refine w_and ?_ | with_reducible refine w_one ?_ | with_reducible refine w_or ?_ | with_reducible refine w_not ?_ | with_reducible refine w_bl ?_ | with_reducible refine w_non ?_ | with_reducible refine w_gl (by with_unfolding_all exact rfl) ?_ | with_reducible refine w_chn ?_ | with_reducible refine w_lc (by with_unfolding_all exact rfl) ?_ | with_reducible refine w_isi ?_ | with_reducible refine w_lr1 ?_ | with_reducible refine w_lr2 ?_) | (with_reducible show wa _ _ _ _; first | with_reducible refine wa_cons ?_ | with_reducible refine wa_nil ?_) | (with_reducible show wv _ _ _ _; first | with_reducible refine wv_cons ?_ | with_reducible refine wv_nil ?_) | (with_reducible show T.fin _ _; first | with_reducible refine fin_leaf (by with_unfolding_all exact rfl) ?_ | with_reducible refine fin_mk (by with_unfolding_all exact rfl) ?_ | with_reducible refine fin_lst (by with_unfolding_all exact rfl) ?_ | with_reducible refine fin_tup (by with_unfolding_all exact rfl) ?_) | (with_reducible show And _ _; first | with_reducible refine and_len (by with_unfolding_all exact rfl) ?_) | (with_reducible show frozs _ _ _; first | with_reducible refine fz_nil ?_ | with_reducible refine fz_cons ?_) | (with_reducible show T.froz _ _ _; first | with_reducible refine fz_leaf (by with_unfolding_all exact rfl) ?_ | with_reducible refine fz_lst (by with_unfolding_all exact rfl) (by with_unfolding_all exact rfl) ?_ | with_reducible refine fz_tup (by with_unfolding_all exact rfl) (by with_unfolding_all exact rfl) ?_ | with_reducible refine fz_vw (by with_unfolding_all exact rfl) (by with_unfolding_all exact rfl) ?_) | (with_reducible show ixT _ _ _; first | with_reducible refine ix_lt (by with_unfolding_all exact rfl) (by with_unfolding_all exact rfl) (by with_unfolding_all exact at_getD (by assumption)) ?_ | with_reducible refine ix_lt (by with_unfolding_all exact rfl) (by with_unfolding_all exact rfl) (by with_unfolding_all exact rfl) ?_ | with_reducible refine ix_lst (by with_unfolding_all exact rfl) (by with_unfolding_all exact rfl) (by with_unfolding_all exact rfl) ?_ | with_reducible refine ix_ll (by with_unfolding_all exact rfl) (by with_unfolding_all exact rfl) (by with_unfolding_all exact rfl) ?_ | with_reducible refine ix_vli (by with_unfolding_all exact rfl) (by with_unfolding_all exact rfl) (by with_unfolding_all exact rfl) ?_ | with_reducible refine ix_vll (by with_unfolding_all exact rfl) (by with_unfolding_all exact rfl) (by with_unfolding_all exact rfl) ?_ | with_reducible refine ix_tup (by with_unfolding_all exact rfl) (by with_unfolding_all exact rfl) (by with_unfolding_all exact rfl) ?_ | with_reducible refine ix_vti (by with_unfolding_all exact rfl) (by with_unfolding_all exact rfl) (by with_unfolding_all exact rfl) ?_ | with_reducible refine ix_vlt (by with_unfolding_all exact rfl) (by with_unfolding_all exact rfl) (by with_unfolding_all exact rfl) ?_ | with_reducible refine ix_vtl (by with_unfolding_all exact rfl) (by with_unfolding_all exact rfl) (by with_unfolding_all exact rfl) ?_ | with_reducible refine ix_vls (by with_unfolding_all exact rfl) (by with_unfolding_all exact rfl) (by with_unfolding_all exact rfl) ?_) | (with_reducible show DL.binT _ _ _ _; first | with_reducible refine b_add (by with_unfolding_all exact rfl) (by with_unfolding_all exact rfl) ?_ | with_reducible refine b_sub (by with_unfolding_all exact rfl) (by with_unfolding_all exact rfl) ?_ | with_reducible refine b_mul (by with_unfolding_all exact rfl) (by with_unfolding_all exact rfl) (by with_unfolding_all exact mulR ⟨by decide, by decide⟩) ?_ | with_reducible refine b_mul (by with_unfolding_all exact rfl) (by with_unfolding_all exact rfl) (by with_unfolding_all exact mulL ⟨by decide, by decide⟩) ?_ | with_reducible refine b_mul (by with_unfolding_all exact rfl) (by with_unfolding_all exact rfl) (by with_unfolding_all exact mulL ⟨by omega, by omega⟩) ?_ | with_reducible refine b_mul (by with_unfolding_all exact rfl) (by with_unfolding_all exact rfl) (by with_unfolding_all exact mulR ⟨by omega, by omega⟩) ?_ | with_reducible refine b_mul (by with_unfolding_all exact rfl) (by with_unfolding_all exact rfl) ?_ ?_ | with_reducible refine b_p18 (by with_unfolding_all exact rfl) (by with_unfolding_all exact rfl) ?_ | with_reducible refine b_p9 (by with_unfolding_all exact rfl) (by with_unfolding_all exact rfl) ?_ | with_reducible refine b_p38 (by with_unfolding_all exact rfl) (by with_unfolding_all exact rfl) ?_ | with_reducible refine b_p17 (by with_unfolding_all exact rfl) (by with_unfolding_all exact rfl) ?_ | with_reducible refine b_p40 (by with_unfolding_all exact rfl) (by with_unfolding_all exact rfl) ?_ | with_reducible refine b_p39 (by with_unfolding_all exact rfl) (by with_unfolding_all exact rfl) ?_ | with_reducible refine b_p21 (by with_unfolding_all exact rfl) (by with_unfolding_all exact rfl) ?_ | with_reducible refine b_p20 (by with_unfolding_all exact rfl) (by with_unfolding_all exact rfl) ?_ | with_reducible refine b_p6 (by with_unfolding_all exact rfl) (by with_unfolding_all exact rfl) ?_ | with_reducible refine b_pow (by with_unfolding_all exact rfl) (by with_unfolding_all exact rfl) (by with_unfolding_all decide) ?_ | with_reducible refine b_mod (by with_unfolding_all exact rfl) (by with_unfolding_all exact rfl) (by with_unfolding_all (first | decide | assumption | omega)) ?_ | with_reducible refine b_mod (by with_unfolding_all exact rfl) (by with_unfolding_all exact rfl) ?_ ?_ | with_reducible refine b_fdiv (by with_unfolding_all exact rfl) (by with_unfolding_all exact rfl) (by with_unfolding_all exact ⟨by decide, by decide⟩) ?_ | with_reducible refine b_fdiv (by with_unfolding_all exact rfl) (by with_unfolding_all exact rfl) (by with_unfolding_all exact ⟨by assumption, by assumption⟩) ?_ | with_reducible refine b_fdiv (by with_unfolding_all exact rfl) (by with_unfolding_all exact rfl) ?_ ?_ | with_reducible refine b_catL (by with_unfolding_all exact rfl) (by with_unfolding_all exact rfl) (by with_unfolding_all exact rfl) ?_) | (with_reducible show cmpD _ _ _ _; first | with_reducible refine c_eq (by with_unfolding_all exact rfl) (by with_unfolding_all exact rfl) ?_ | with_reducible refine c_ne (by with_unfolding_all exact rfl) (by with_unfolding_all exact rfl) ?_ | with_reducible refine c_lt (by with_unfolding_all exact rfl) (by with_unfolding_all exact rfl) ?_ | with_reducible refine c_le (by with_unfolding_all exact rfl) (by with_unfolding_all exact rfl) ?_ | with_reducible refine c_gt (by with_unfolding_all exact rfl) (by with_unfolding_all exact rfl) ?_ | with_reducible refine c_ge (by with_unfolding_all exact rfl) (by with_unfolding_all exact rfl) ?_ | with_reducible refine c_nes (by with_unfolding_all exact rfl) (by with_unfolding_all exact rfl) ?_ | with_reducible refine c_eqs (by with_unfolding_all exact rfl) (by with_unfolding_all exact rfl) ?_ | with_reducible refine c_inT (by with_unfolding_all exact rfl) (by with_unfolding_all exact rfl) (by with_unfolding_all (first | exact tb_stop | exact tb_wish | exact tb_bar | exact tb_tie | exact wt_stop | exact wt_wish | exact wt_bar | exact wt_tie)) ?_ | with_reducible refine c_isT (by with_unfolding_all exact rfl) (by with_unfolding_all exact rfl) ?_ | with_reducible refine c_isF (by with_unfolding_all exact rfl) (by with_unfolding_all exact rfl) ?_ | with_reducible refine c_notT (by with_unfolding_all exact rfl) (by with_unfolding_all exact rfl) ?_ | with_reducible refine c_notF (by with_unfolding_all exact rfl) (by with_unfolding_all exact rfl) ?_) | (with_reducible show wt _ _ _ _; first | with_reducible refine wt_cmp ?_ | with_reducible refine wt_not ?_ | with_reducible refine wt_val ?_ | with_reducible refine wt_and ?_ | with_reducible refine wt_or ?_ | with_reducible refine wt_one ?_ | with_reducible refine wt_chn ?_) | (with_reducible show @ite _ _ _ _ _; first | with_reducible refine ite_t ?_ | with_reducible refine ite_f ?_ | with_reducible refine ite_nt ?_ | with_reducible refine ite_nf ?_ | with_reducible refine ite_decT (by decide) ?_ | with_reducible refine ite_decF (by decide) ?_ | with_reducible refine ite_dec (fun _ => ?_) (fun _ => ?_) | with_reducible refine ite_ndecT (by with_unfolding_all exact rfl) ?_ | with_reducible refine ite_ndec (fun _ => ?_) (fun _ => ?_)) | (with_reducible show wb _ _ _ _; first | with_reducible refine wb_asg ?_ | with_reducible refine wb_ite ?_ | with_reducible refine wb_ret ?_ | with_reducible refine wb_nil ?_ | with_reducible refine wb_for ?_ | with_reducible refine wb_asgLc (by with_unfolding_all exact rfl) (by with_unfolding_all exact rfl) ?_ | with_reducible refine wb_setix (by with_unfolding_all exact rfl) ?_ | with_reducible refine wb_augix (by with_unfolding_all exact rfl) ?_ | with_reducible refine wb_aug (by with_unfolding_all exact rfl) (by with_unfolding_all exact rfl) ?_ | with_reducible refine wb_ex ?_ | with_reducible refine wb_fz (by with_unfolding_all exact rfl) (by with_unfolding_all exact rfl) ?_ | with_reducible refine wb_pass ?_ | with_reducible refine wb_brk ?_ | with_reducible refine wb_cont ?_ | with_reducible refine wb_retN ?_ | with_reducible refine wb_par2 (by with_unfolding_all decide) (by with_unfolding_all exact rfl) (by with_unfolding_all exact rfl) ?_ | with_reducible refine wb_app (by with_unfolding_all exact rfl) (by with_unfolding_all (simp; done)) ?_ | with_reducible refine wb_app (by with_unfolding_all exact rfl) ?_ ?_) | (with_reducible show Exists _; first | with_reducible refine bind_nm (by with_unfolding_all exact rfl) ?_ | with_reducible refine bind_pair (by with_unfolding_all exact rfl) (by with_unfolding_all exact rfl) (by with_unfolding_all exact rfl) ?_ | with_reducible refine bind_5 (by with_unfolding_all exact rfl) (by with_unfolding_all exact rfl) ?_ | with_reducible refine ex_int (by with_unfolding_all exact rfl) ?_ | with_reducible refine ex_bl (by with_unfolding_all exact rfl) ?_ | with_reducible refine ex_isT (by with_unfolding_all exact rfl) ?_ | with_reducible refine set_to (by with_unfolding_all exact rfl) (by with_unfolding_all exact rfl) ?_ | with_reducible refine aug_to (by with_unfolding_all exact rfl) (by with_unfolding_all exact rfl) (by with_unfolding_all exact rfl) ?_ | with_reducible refine ex_rg1 (by with_unfolding_all exact rfl) (by with_unfolding_all (unfold RgS; omega)) ?_ | with_reducible refine ex_rg2 (by with_unfolding_all exact rfl) (by with_unfolding_all exact rfl) (by with_unfolding_all (unfold RgS; omega)) ?_) | (with_reducible show bltT _ _ _; first | with_reducible refine l_lens (by with_unfolding_all exact rfl) ?_ | with_reducible refine l_len (by with_unfolding_all exact rfl) ?_ | with_reducible refine l_lent (by with_unfolding_all exact rfl) ?_ | with_reducible refine l_abs (by with_unfolding_all exact rfl) ?_ | with_reducible refine l_max2 (by with_unfolding_all exact rfl) (by with_unfolding_all exact rfl) ?_ | with_reducible refine l_min2 (by with_unfolding_all exact rfl) (by with_unfolding_all exact rfl) ?_ | with_reducible refine l_max3 (by with_unfolding_all exact rfl) (by with_unfolding_all exact rfl) (by with_unfolding_all exact rfl) ?_ | with_reducible refine l_intT (by with_unfolding_all exact rfl) ?_ | with_reducible refine l_intF (by with_unfolding_all exact rfl) ?_ | with_reducible refine l_intD (by with_unfolding_all exact rfl) (fun _ => ?_) (fun _ => ?_)) | (with_reducible show slT _ _ _ _; first | with_reducible refine sl_lt (by with_unfolding_all exact rfl) (by with_unfolding_all exact rfl) ?_) | (with_reducible show tru _ _; first | with_reducible refine t_bl (by with_unfolding_all exact rfl) ?_) | (with_reducible show augD _ _ _ _; first | with_reducible refine a_add (by with_unfolding_all exact rfl) (by with_unfolding_all exact rfl) ?_ | with_reducible refine a_sub (by with_unfolding_all exact rfl) (by with_unfolding_all exact rfl) ?_) | (with_reducible show wo _ _ _ _; first | with_reducible refine wo_nop ?_ | with_reducible refine wo_prt ?_) | (with_reducible show wi _ _ _ _; first | with_reducible refine wi_rng ?_ | with_reducible refine wi_sq ?_ | with_reducible refine wi_zip ?_ | with_reducible refine wi_enm ?_) | (with_reducible show wc _ _ _ _; first | with_reducible refine wc_nop ?_ | with_reducible refine wc_one ?_))
def tl : DL.B → DL.B
  | .asg _ _ r => r
  | .asgLc _ _ _ _ _ _ r => r
  | .par2 _ _ _ _ r => r
  | .ite _ _ _ r => r
  | .fz _ r => r
  | .for_ _ _ _ r => r
  | .aug _ _ _ r => r
  | .setix _ _ _ r => r
  | .app _ _ r => r
  | b => b
def F_law_number : SpecF := fun ds Φ => ∃ n, ds = [.bag, .int n] ∧ 0 ≤ n ∧ n ≤ 10 ^ 40 ∧ ∀ v, -n ≤ v → v ≤ n → Φ (.leaf (.int v))
theorem M_law_number : Mono F_law_number := fun ds Φ Ψ i ⟨n, e, h1, h2, k⟩ => ⟨n, e, h1, h2, fun v a b => i _ (k v a b)⟩
def S_law_number : Sg := { z := true, fs := [takeF], gs := [] }
theorem W_law_number : WOk S_law_number n_law_number b_law_number F_law_number 2 := by
  rintro ds Φ ⟨n, rfl, h1, h2, k⟩
  refine ⟨rfl, ?_⟩
  unfold b_law_number
  trace_state
  refine ⟨_, rfl, ⟨by omega, ?_⟩, fun v a b => ?_⟩
  · have : (2 : Int) * 10 ^ 40 + 1 < 10 ^ 100 := by decide +kernel
    omega
  trace_state
  exact k _ (by omega) (by omega)
def F_law_standing : SpecF := fun ds Φ => ∃ (n : Nat) (s : Int), ds = [.bag, .int n, .int s] ∧ n ≤ 100 ∧ 0 ≤ s ∧ s ≤ 10 ^ 40 ∧ ∀ xs : List Int, Row n (10 ^ 18 + s) xs → (∃ c : Int, -(10 ^ 9) ≤ c ∧ c ≤ 10 ^ 18 - 50 ∧ ∀ x ∈ xs, c - s ≤ x ∧ x ≤ c + s) → Φ (.leaf (itup xs))
theorem M_law_standing : Mono F_law_standing := fun ds Φ Ψ i ⟨n, s, e, h1, h2, h3, k⟩ => ⟨n, s, e, h1, h2, h3, fun xs a b => i _ (k xs a b)⟩
def S_law_standing : Sg := { z := true, fs := [takeF, F_law_number], gs := [] }
theorem W_law_standing : WOk S_law_standing n_law_standing b_law_standing F_law_standing 3 := by
  rintro ds Φ ⟨n, s, rfl, h2, h3, h4, k⟩
  refine ⟨rfl, ?_⟩
  have key : ∀ c : Int, -(10 ^ 9) ≤ c → c ≤ 10 ^ 18 - 50 → wb S_law_standing (tl b_law_standing) [some (.leaf .bag), some (.leaf (.int n)), some (.leaf (.int s)), some (.leaf (.int c)), none] { nx := fun _ => Φ (.leaf .non), rt := fun t _ => Φ t } := fun c c1 c2 => by
    unfold b_law_standing
    simp only [tl]
    trace_state
    refine ⟨⟨by omega, by omega⟩, by simp; omega, ?_⟩
    refine lcW_all (fun _ t => ∃ x, t = .leaf (.int x) ∧ c - s ≤ x ∧ x ≤ c + s) (fun d hd Ψ hΨ => ?_) fun us hu => ?_
    · obtain ⟨_, _, rfl⟩ := List.mem_map.mp hd
      trace_state
      refine ⟨s, rfl, h3, h4, fun v a b => ?_⟩
      trace_state
      exact hΨ _ ⟨_, rfl, by omega, by omega⟩
    · obtain ⟨xs, rfl, l, q⟩ := rl_ints hu
      trace_state
      refine l_tuple (.inl rfl) ?_
      rw [List.nil_append, mk_ints]
      trace_state
      exact k xs ⟨by rw [l]; simp, fun x hx => by have := q x hx; omega⟩ ⟨c, c1, c2, q⟩
  unfold b_law_standing
  trace_state
  refine ⟨_, rfl, ⟨by decide, by decide +kernel⟩, fun v a b => ?_⟩
  have hv : v = 0 ∨ v = 1 ∨ v = 2 ∨ v = 3 ∨ v = 4 ∨ v = 5 := by omega
  rcases hv with rfl | rfl | rfl | rfl | rfl | rfl
  all_goals exact ix_lst rfl rfl rfl (fin_leaf rfl (bind_nm rfl (key _ (by decide) (by decide))))
def F_law_range : SpecF := fun ds Φ => ∃ (v s : Int) (b : Bool), ds = [.bag, .int v, .int s, .bl b] ∧ 0 < s ∧ s ≤ 10 ^ 40 ∧
  ∀ l h, -(10 ^ 18) ≤ l → l ≤ h → h ≤ 10 ^ 18 → (b = true → -(10 ^ 18) ≤ v → v ≤ 10 ^ 18 → l ≤ v ∧ v ≤ h) → (-(10 ^ 18) ≤ v → h ≤ v + 4 * s) → Φ (.leaf (.tup [.int l, .int h]))
theorem M_law_range : Mono F_law_range := fun ds Φ Ψ i ⟨v, s, b, e, h1, h2, k⟩ => ⟨v, s, b, e, h1, h2, fun l h a b c d e => i _ (k l h a b c d e)⟩
def S_law_range : Sg := { z := true, fs := [F_law_number, takeF], gs := [] }
theorem W_law_range : WOk S_law_range n_law_range b_law_range F_law_range 4 := by
  rintro ds Φ ⟨v, s, b, rfl, h1, h2, k⟩
  refine ⟨rfl, ?_⟩
  have hs : s < 10 ^ 100 := by
    have : (10 : Int) ^ 40 < 10 ^ 100 := by decide +kernel
    omega
  have fin : ∀ (l h v' : Int), (b = true → l ≤ v ∧ v ≤ h) → (l ≤ v + 4 * s ∧ h ≤ v + 4 * s) → wb S_law_range (tl (tl (tl b_law_range))) [some (.leaf .bag), some (.leaf (.int v')), some (.leaf (.int s)), some (.leaf (.bl b)), some (.leaf (.int l)), some (.leaf (.int h))] { nx := fun _ => Φ (.leaf .non), rt := fun t _ => Φ t } := fun l h v' hb hb2 => by
    unfold b_law_range
    simp only [tl]
    trace_state
    refine k _ _ ?_ ?_ ?_ (fun e e1 e2 => ?_) fun e => ?_
    · repeat' split
      all_goals omega
    · repeat' split
      all_goals omega
    · repeat' split
      all_goals omega
    · have := hb e
      repeat' split
      all_goals omega
    · repeat' split
      all_goals omega
  have key : ∀ v' : Int, (b = true → v' = v) → v' ≤ v + s → wb S_law_range (tl b_law_range) [some (.leaf .bag), some (.leaf (.int v')), some (.leaf (.int s)), some (.leaf (.bl b)), none, none] { nx := fun _ => Φ (.leaf .non), rt := fun t _ => Φ t } := fun v' hv hv2 => by
    unfold b_law_range
    simp only [tl]
    trace_state
    refine ⟨_, rfl, ⟨by decide, by decide +kernel⟩, fun t1 a1 b1 => ?_⟩
    trace_state
    refine ⟨_, rfl, ⟨h1, hs⟩, fun u1 c1 d1 => ?_⟩
    have p1 := Int.mul_nonneg a1 c1
    trace_state
    refine ⟨_, rfl, ⟨by decide, by decide +kernel⟩, fun t2 a2 b2 => ?_⟩
    trace_state
    refine ⟨_, rfl, ⟨h1, hs⟩, fun u2 c2 d2 => ?_⟩
    have p2 := Int.mul_nonneg a2 c2
    have p3 : t2 * u2 ≤ 2 * s := Int.mul_le_mul (by omega) (by omega) c2 (by decide)
    trace_state
    refine ⟨_, rfl, ⟨by decide, by decide +kernel⟩, fun w a a' => ?_⟩
    cases b with
    | true =>
      have := hv rfl
      subst this
      trace_state
      rw [Int.mul_zero]
      refine ix_lst rfl rfl rfl (fin_leaf rfl (bind_pair rfl rfl rfl (fin _ _ _ (fun _ => ⟨by omega, by omega⟩) ⟨by omega, by omega⟩)))
    | false =>
      trace_state
      rw [Int.mul_one]
      have hv : w = 0 ∨ w = 1 ∨ w = 2 ∨ w = 3 := by omega
      rcases hv with rfl | rfl | rfl | rfl
      all_goals exact ix_lst rfl rfl rfl (fin_leaf rfl (bind_pair rfl rfl rfl (fin _ _ _ nofun ⟨by omega, by omega⟩)))
  unfold b_law_range
  cases b with
  | true => exact wb_ite (wt_not (wt_val (w_nm rfl (t_bl rfl (ite_nt (wb_nil (key _ (fun _ => rfl) (by omega))))))))
  | false =>
    refine wb_ite (wt_not (wt_val (w_nm rfl (t_bl rfl (ite_nf ?_)))))
    trace_state
    refine ⟨_, rfl, by omega, h2, fun w a b => ?_⟩
    exact a_add rfl rfl (wb_nil (key _ nofun (by omega)))
def F_law_term : SpecF := fun ds Φ => ∃ (xs : List Int) (s m : Int) (b : Bool), ds = [.bag, itup xs, .int s, .int m, .bl b] ∧ (0 < xs.length ∧ xs.length ≤ 100) ∧ (0 < s ∧ s ≤ 10 ^ 40) ∧ (0 < m ∧ m ≤ 10 ^ 40) ∧
  ∀ t : Tm, t.Ok xs.length m → (b = false → t.pulls = true) → (t.pulls = false → -(10 ^ 18) ≤ t.arg xs → t.arg xs ≤ 10 ^ 18 → t.low ≤ t.arg xs ∧ t.arg xs ≤ t.high) → (-(10 ^ 18) ≤ t.arg xs → t.high ≤ t.arg xs + 4 * s) → Φ (.leaf t.D)
theorem M_law_term : Mono F_law_term := fun ds Φ Ψ i ⟨xs, s, m, b, e, h1, h2, h3, k⟩ => ⟨xs, s, m, b, e, h1, h2, h3, fun t a b c d => i _ (k t a b c d)⟩
def S_law_term : Sg := { z := true, fs := [takeF, F_law_range], gs := [] }
theorem W_law_term : WOk S_law_term n_law_term b_law_term F_law_term 5 := by
  rintro ds Φ ⟨xs, s, m, b, rfl, h1, h2, h3, k⟩
  refine ⟨rfl, ?_⟩
  have hL : (10 : Int) ^ 40 < 10 ^ 100 := by decide +kernel
  have hL2 : (100 : Int) < 10 ^ 100 := by decide +kernel
  -- the one dial's terms
  have one : ∀ (d : Nat) (f way : Int) (c : Bool), d < xs.length → 1 ≤ f → f ≤ m → (c = true → b = true) → wb S_law_term (match tl (tl (tl b_law_term)) with | .ite _ x _ _ => x | b => b) [some (.leaf .bag), some (.leaf (itup xs)), some (.leaf (.int s)), some (.leaf (.int m)), some (.leaf (.bl b)), some (.leaf (.int f)), none, some (.leaf (.int xs.length)), some (.leaf (.int way)), some (.leaf (.int d)), some (.leaf (.bl c)), none, none] { nx := fun ρ' => wb S_law_term (tl (tl (tl (tl b_law_term)))) ρ' { nx := fun _ => Φ (.leaf .non), rt := fun t _ => Φ t }, rt := fun t _ => Φ t } := fun d f way c hd hf1 hf2 hc => by
    unfold b_law_term
    simp only [tl]
    trace_state
    refine ⟨_, _, _, rfl, h2.1, h2.2, fun l h a1 a2 a3 a4 a5 => ?_⟩
    cases c with
    | true =>
      trace_state
      exact k (.stop d l h) ⟨hd, ⟨a1, a2, a3⟩, trivial⟩ (fun e => by rw [hc rfl] at e; cases e) (fun _ => a4 rfl) a5
    | false =>
      trace_state
      exact k (.wish d l h f) ⟨hd, ⟨a1, a2, a3⟩, hf1, hf2⟩ (fun _ => rfl) nofun a5
  have two : ∀ (d : Nat) (f way : Int) (c : Bool), d < xs.length → 1 < xs.length → 1 ≤ f → f ≤ m → (c = true → b = true) → wb S_law_term (tl (tl (tl (tl b_law_term)))) [some (.leaf .bag), some (.leaf (itup xs)), some (.leaf (.int s)), some (.leaf (.int m)), some (.leaf (.bl b)), some (.leaf (.int f)), none, some (.leaf (.int xs.length)), some (.leaf (.int way)), some (.leaf (.int d)), some (.leaf (.bl c)), none, none] { nx := fun _ => Φ (.leaf .non), rt := fun t _ => Φ t } := fun d f way c hd hx hf1 hf2 hc => by
    unfold b_law_term
    simp only [tl]
    trace_state
    refine ⟨_, rfl, ⟨by omega, by omega⟩, fun u u1 u2 => ?_⟩
    trace_state
    obtain ⟨q1, q2, q3⟩ := other_ok (d := d) (n := xs.length) (v := u) (by omega) (by omega) u1 u2
    obtain ⟨o, ho⟩ := Int.eq_ofNat_of_zero_le q1
    rw [ho] at q2 q3 ⊢
    have ho2 : o < xs.length := by omega
    have ho3 : d ≠ o := by omega
    trace_state
    refine ⟨_, _, _, rfl, h2.1, h2.2, fun l h a1 a2 a3 a4 a5 => ?_⟩
    cases c with
    | true =>
      trace_state
      exact k (.bar d o l h) ⟨⟨hd, ho2⟩, ⟨a1, a2, a3⟩, ho3⟩ (fun e => by rw [hc rfl] at e; cases e) (fun _ => a4 rfl) a5
    | false =>
      trace_state
      exact k (.tie d o l h f) ⟨⟨hd, ho2⟩, ⟨a1, a2, a3⟩, ho3, hf1, hf2⟩ (fun _ => rfl) nofun a5
  have rest : ∀ (d : Nat) (way : Int) (c : Bool), d < xs.length → (c = true → b = true) → wb S_law_term (tl (tl b_law_term)) [some (.leaf .bag), some (.leaf (itup xs)), some (.leaf (.int s)), some (.leaf (.int m)), some (.leaf (.bl b)), none, none, some (.leaf (.int xs.length)), some (.leaf (.int way)), some (.leaf (.int d)), some (.leaf (.bl c)), none, none] { nx := fun _ => Φ (.leaf .non), rt := fun t _ => Φ t } := fun d way c hd hc => by
    unfold b_law_term
    simp only [tl]
    trace_state
    refine ⟨_, rfl, ⟨h3.1, by omega⟩, fun f f1 f2 => ?_⟩
    refine b_add rfl rfl (fin_leaf rfl (bind_nm rfl (wb_ite (wt_or (wt_cmp (w_nm rfl (w_int (c_eq rfl rfl ?_))))))))
    refine ite_dec (fun _ => ite_t ?_) fun _ => ?_
    · exact one d (1 + f) way c hd (by omega) (by omega) hc
    trace_state
    refine c_inT rfl rfl rfl (ite_b (fun _ => ?_) fun _ => ?_)
    · exact one d (1 + f) way c hd (by omega) (by omega) hc
    · exact wb_nil (two d (1 + f) way c hd (by omega) (by omega) (by omega) hc)
  unfold b_law_term
  trace_state
  refine ⟨_, rfl, ⟨by decide, by decide +kernel⟩, fun way w1 w2 => ?_⟩
  trace_state
  refine ⟨_, rfl, ⟨by omega, by omega⟩, fun d d1 d2 => ?_⟩
  obtain ⟨d, rfl⟩ := Int.eq_ofNat_of_zero_le d1
  cases b with
  | true =>
    refine fin_leaf rfl (w_and (w_nm rfl (ex_bl rfl ?_)))
    with_reducible refine ite_t ?_
    refine w_one (w_cmp (w_nm rfl (w_int (c_gt rfl rfl (fin_leaf rfl ?_)))))
    exact rest d way _ (by omega) fun _ => rfl
  | false =>
    refine fin_leaf rfl (w_and (w_nm rfl (ex_bl rfl ?_)))
    with_reducible refine ite_f ?_
    refine fin_leaf rfl ?_
    exact rest d way _ (by omega) nofun
end KT
namespace KT
open PySem PySem.Spec PyProof.Rows L2 DL
local macro_rules | `(tactic| trace_state) => `(tactic| repeat' first | (with_reducible show w _ _ _ _; first | with_reducible refine w_nm (by with_unfolding_all exact rfl) ?_ | with_reducible refine w_ix ?_ | with_reducible refine w_int ?_ | with_reducible refine w_bin ?_ | with_reducible refine w_cmp ?_ | with_reducible refine w_call (by with_unfolding_all exact rfl) ?_ | with_reducible refine w_blt ?_ | with_reducible refine w_ow (by with_unfolding_all exact rfl) ?_ | with_reducible refine w_tup ?_ | with_reducible refine w_lst ?_ | with_reducible refine w_str ?_ | with_reducible refine w_neg ?_ | with_reducible refine w_ife ?_ | with_reducible refine w_sl ?_ | with_reducible refine w_and ?_ | with_reducible refine w_one ?_ | with_reducible refine w_or ?_ | with_reducible refine w_not ?_ | with_reducible refine w_bl ?_ | with_reducible refine w_non ?_ | with_reducible refine w_gl (by with_unfolding_all exact rfl) ?_ | with_reducible refine w_chn ?_ | with_reducible refine w_lc (by with_unfolding_all exact rfl) ?_ | with_reducible refine w_isi ?_ | with_reducible refine w_lr1 ?_ | with_reducible refine w_lr2 ?_) | (with_reducible show wa _ _ _ _; first | with_reducible refine wa_cons ?_ | with_reducible refine wa_nil ?_) | (with_reducible show wv _ _ _ _; first | with_reducible refine wv_cons ?_ | with_reducible refine wv_nil ?_) | (with_reducible show T.fin _ _; first | with_reducible refine fin_leaf (by with_unfolding_all exact rfl) ?_ | with_reducible refine fin_mk (by with_unfolding_all exact rfl) ?_ | with_reducible refine fin_lst (by with_unfolding_all exact rfl) ?_ | with_reducible refine fin_tup (by with_unfolding_all exact rfl) ?_) | (with_reducible show And _ _; first | with_reducible refine and_len (by with_unfolding_all exact rfl) ?_) | (with_reducible show frozs _ _ _; first | with_reducible refine fz_nil ?_ | with_reducible refine fz_cons ?_) | (with_reducible show T.froz _ _ _; first | with_reducible refine fz_leaf (by with_unfolding_all exact rfl) ?_ | with_reducible refine fz_lst (by with_unfolding_all exact rfl) (by with_unfolding_all exact rfl) ?_ | with_reducible refine fz_tup (by with_unfolding_all exact rfl) (by with_unfolding_all exact rfl) ?_ | with_reducible refine fz_vw (by with_unfolding_all exact rfl) (by with_unfolding_all exact rfl) ?_) | (with_reducible show ixT _ _ _; first | with_reducible refine ix_lt (by with_unfolding_all exact rfl) (by with_unfolding_all exact rfl) (by with_unfolding_all exact at_getD (by assumption)) ?_ | with_reducible refine ix_lt (by with_unfolding_all exact rfl) (by with_unfolding_all exact rfl) (by with_unfolding_all exact rfl) ?_ | with_reducible refine ix_lst (by with_unfolding_all exact rfl) (by with_unfolding_all exact rfl) (by with_unfolding_all exact rfl) ?_ | with_reducible refine ix_ll (by with_unfolding_all exact rfl) (by with_unfolding_all exact rfl) (by with_unfolding_all exact rfl) ?_ | with_reducible refine ix_vli (by with_unfolding_all exact rfl) (by with_unfolding_all exact rfl) (by with_unfolding_all exact rfl) ?_ | with_reducible refine ix_vll (by with_unfolding_all exact rfl) (by with_unfolding_all exact rfl) (by with_unfolding_all exact rfl) ?_ | with_reducible refine ix_tup (by with_unfolding_all exact rfl) (by with_unfolding_all exact rfl) (by with_unfolding_all exact rfl) ?_ | with_reducible refine ix_vti (by with_unfolding_all exact rfl) (by with_unfolding_all exact rfl) (by with_unfolding_all exact rfl) ?_ | with_reducible refine ix_vlt (by with_unfolding_all exact rfl) (by with_unfolding_all exact rfl) (by with_unfolding_all exact rfl) ?_ | with_reducible refine ix_vtl (by with_unfolding_all exact rfl) (by with_unfolding_all exact rfl) (by with_unfolding_all exact rfl) ?_ | with_reducible refine ix_vls (by with_unfolding_all exact rfl) (by with_unfolding_all exact rfl) (by with_unfolding_all exact rfl) ?_) | (with_reducible show DL.binT _ _ _ _; first | with_reducible refine b_add (by with_unfolding_all exact rfl) (by with_unfolding_all exact rfl) ?_ | with_reducible refine b_sub (by with_unfolding_all exact rfl) (by with_unfolding_all exact rfl) ?_ | with_reducible refine b_mul (by with_unfolding_all exact rfl) (by with_unfolding_all exact rfl) (by with_unfolding_all exact mulR ⟨by decide, by decide⟩) ?_ | with_reducible refine b_mul (by with_unfolding_all exact rfl) (by with_unfolding_all exact rfl) (by with_unfolding_all exact mulL ⟨by decide, by decide⟩) ?_ | with_reducible refine b_mul (by with_unfolding_all exact rfl) (by with_unfolding_all exact rfl) (by with_unfolding_all exact mulL ⟨by omega, by omega⟩) ?_ | with_reducible refine b_mul (by with_unfolding_all exact rfl) (by with_unfolding_all exact rfl) (by with_unfolding_all exact mulR ⟨by omega, by omega⟩) ?_ | with_reducible refine b_mul (by with_unfolding_all exact rfl) (by with_unfolding_all exact rfl) ?_ ?_ | with_reducible refine b_p18 (by with_unfolding_all exact rfl) (by with_unfolding_all exact rfl) ?_ | with_reducible refine b_p9 (by with_unfolding_all exact rfl) (by with_unfolding_all exact rfl) ?_ | with_reducible refine b_p38 (by with_unfolding_all exact rfl) (by with_unfolding_all exact rfl) ?_ | with_reducible refine b_p17 (by with_unfolding_all exact rfl) (by with_unfolding_all exact rfl) ?_ | with_reducible refine b_p40 (by with_unfolding_all exact rfl) (by with_unfolding_all exact rfl) ?_ | with_reducible refine b_p39 (by with_unfolding_all exact rfl) (by with_unfolding_all exact rfl) ?_ | with_reducible refine b_p21 (by with_unfolding_all exact rfl) (by with_unfolding_all exact rfl) ?_ | with_reducible refine b_p20 (by with_unfolding_all exact rfl) (by with_unfolding_all exact rfl) ?_ | with_reducible refine b_p6 (by with_unfolding_all exact rfl) (by with_unfolding_all exact rfl) ?_ | with_reducible refine b_pow (by with_unfolding_all exact rfl) (by with_unfolding_all exact rfl) (by with_unfolding_all decide) ?_ | with_reducible refine b_mod (by with_unfolding_all exact rfl) (by with_unfolding_all exact rfl) (by with_unfolding_all (first | decide | assumption | omega)) ?_ | with_reducible refine b_mod (by with_unfolding_all exact rfl) (by with_unfolding_all exact rfl) ?_ ?_ | with_reducible refine b_fdiv (by with_unfolding_all exact rfl) (by with_unfolding_all exact rfl) (by with_unfolding_all exact ⟨by decide, by decide⟩) ?_ | with_reducible refine b_fdiv (by with_unfolding_all exact rfl) (by with_unfolding_all exact rfl) (by with_unfolding_all exact ⟨by assumption, by assumption⟩) ?_ | with_reducible refine b_fdiv (by with_unfolding_all exact rfl) (by with_unfolding_all exact rfl) ?_ ?_ | with_reducible refine b_catL (by with_unfolding_all exact rfl) (by with_unfolding_all exact rfl) (by with_unfolding_all exact rfl) ?_) | (with_reducible show cmpD _ _ _ _; first | with_reducible refine c_eq (by with_unfolding_all exact rfl) (by with_unfolding_all exact rfl) ?_ | with_reducible refine c_ne (by with_unfolding_all exact rfl) (by with_unfolding_all exact rfl) ?_ | with_reducible refine c_lt (by with_unfolding_all exact rfl) (by with_unfolding_all exact rfl) ?_ | with_reducible refine c_le (by with_unfolding_all exact rfl) (by with_unfolding_all exact rfl) ?_ | with_reducible refine c_gt (by with_unfolding_all exact rfl) (by with_unfolding_all exact rfl) ?_ | with_reducible refine c_ge (by with_unfolding_all exact rfl) (by with_unfolding_all exact rfl) ?_ | with_reducible refine c_nes (by with_unfolding_all exact rfl) (by with_unfolding_all exact rfl) ?_ | with_reducible refine c_eqs (by with_unfolding_all exact rfl) (by with_unfolding_all exact rfl) ?_ | with_reducible refine c_inT (by with_unfolding_all exact rfl) (by with_unfolding_all exact rfl) (by with_unfolding_all (first | exact tb_stop | exact tb_wish | exact tb_bar | exact tb_tie | exact wt_stop | exact wt_wish | exact wt_bar | exact wt_tie)) ?_ | with_reducible refine c_isT (by with_unfolding_all exact rfl) (by with_unfolding_all exact rfl) ?_ | with_reducible refine c_isF (by with_unfolding_all exact rfl) (by with_unfolding_all exact rfl) ?_ | with_reducible refine c_notT (by with_unfolding_all exact rfl) (by with_unfolding_all exact rfl) ?_ | with_reducible refine c_notF (by with_unfolding_all exact rfl) (by with_unfolding_all exact rfl) ?_) | (with_reducible show wt _ _ _ _; first | with_reducible refine wt_cmp ?_ | with_reducible refine wt_not ?_ | with_reducible refine wt_val ?_ | with_reducible refine wt_and ?_ | with_reducible refine wt_or ?_ | with_reducible refine wt_one ?_ | with_reducible refine wt_chn ?_) | (with_reducible show @ite _ _ _ _ _; first | with_reducible refine ite_t ?_ | with_reducible refine ite_f ?_ | with_reducible refine ite_nt ?_ | with_reducible refine ite_nf ?_ | with_reducible refine ite_decT (by decide) ?_ | with_reducible refine ite_decF (by decide) ?_ | with_reducible refine ite_dec (fun _ => ?_) (fun _ => ?_) | with_reducible refine ite_ndecT (by with_unfolding_all exact rfl) ?_ | with_reducible refine ite_ndec (fun _ => ?_) (fun _ => ?_)) | (with_reducible show wb _ _ _ _; first | with_reducible refine wb_asg ?_ | with_reducible refine wb_ite ?_ | with_reducible refine wb_ret ?_ | with_reducible refine wb_nil ?_ | with_reducible refine wb_for ?_ | with_reducible refine wb_asgLc (by with_unfolding_all exact rfl) (by with_unfolding_all exact rfl) ?_ | with_reducible refine wb_setix (by with_unfolding_all exact rfl) ?_ | with_reducible refine wb_augix (by with_unfolding_all exact rfl) ?_ | with_reducible refine wb_aug (by with_unfolding_all exact rfl) (by with_unfolding_all exact rfl) ?_ | with_reducible refine wb_ex ?_ | with_reducible refine wb_fz (by with_unfolding_all exact rfl) (by with_unfolding_all exact rfl) ?_ | with_reducible refine wb_pass ?_ | with_reducible refine wb_brk ?_ | with_reducible refine wb_cont ?_ | with_reducible refine wb_retN ?_ | with_reducible refine wb_par2 (by with_unfolding_all decide) (by with_unfolding_all exact rfl) (by with_unfolding_all exact rfl) ?_ | with_reducible refine wb_app (by with_unfolding_all exact rfl) (by with_unfolding_all (simp; done)) ?_ | with_reducible refine wb_app (by with_unfolding_all exact rfl) ?_ ?_) | (with_reducible show Exists _; first | with_reducible refine bind_nm (by with_unfolding_all exact rfl) ?_ | with_reducible refine bind_pair (by with_unfolding_all exact rfl) (by with_unfolding_all exact rfl) (by with_unfolding_all exact rfl) ?_ | with_reducible refine bind_5 (by with_unfolding_all exact rfl) (by with_unfolding_all exact rfl) ?_ | with_reducible refine ex_int (by with_unfolding_all exact rfl) ?_ | with_reducible refine ex_bl (by with_unfolding_all exact rfl) ?_ | with_reducible refine ex_isT (by with_unfolding_all exact rfl) ?_ | with_reducible refine set_to (by with_unfolding_all exact rfl) (by with_unfolding_all exact rfl) ?_ | with_reducible refine aug_to (by with_unfolding_all exact rfl) (by with_unfolding_all exact rfl) (by with_unfolding_all exact rfl) ?_ | with_reducible refine ex_rg1 (by with_unfolding_all exact rfl) (by with_unfolding_all (unfold RgS; omega)) ?_ | with_reducible refine ex_rg2 (by with_unfolding_all exact rfl) (by with_unfolding_all exact rfl) (by with_unfolding_all (unfold RgS; omega)) ?_) | (with_reducible show bltT _ _ _; first | with_reducible refine l_lens (by with_unfolding_all exact rfl) ?_ | with_reducible refine l_len (by with_unfolding_all exact rfl) ?_ | with_reducible refine l_lent (by with_unfolding_all exact rfl) ?_ | with_reducible refine l_abs (by with_unfolding_all exact rfl) ?_ | with_reducible refine l_max2 (by with_unfolding_all exact rfl) (by with_unfolding_all exact rfl) ?_ | with_reducible refine l_min2 (by with_unfolding_all exact rfl) (by with_unfolding_all exact rfl) ?_ | with_reducible refine l_max3 (by with_unfolding_all exact rfl) (by with_unfolding_all exact rfl) (by with_unfolding_all exact rfl) ?_ | with_reducible refine l_intT (by with_unfolding_all exact rfl) ?_ | with_reducible refine l_intF (by with_unfolding_all exact rfl) ?_ | with_reducible refine l_intD (by with_unfolding_all exact rfl) (fun _ => ?_) (fun _ => ?_)) | (with_reducible show slT _ _ _ _; first | with_reducible refine sl_lt (by with_unfolding_all exact rfl) (by with_unfolding_all exact rfl) ?_) | (with_reducible show tru _ _; first | with_reducible refine t_bl (by with_unfolding_all exact rfl) ?_) | (with_reducible show augD _ _ _ _; first | with_reducible refine a_add (by with_unfolding_all exact rfl) (by with_unfolding_all exact rfl) ?_ | with_reducible refine a_sub (by with_unfolding_all exact rfl) (by with_unfolding_all exact rfl) ?_) | (with_reducible show wo _ _ _ _; first | with_reducible refine wo_nop ?_ | with_reducible refine wo_prt ?_) | (with_reducible show wi _ _ _ _; first | with_reducible refine wi_rng ?_ | with_reducible refine wi_sq ?_ | with_reducible refine wi_zip ?_ | with_reducible refine wi_enm ?_) | (with_reducible show wc _ _ _ _; first | with_reducible refine wc_nop ?_ | with_reducible refine wc_one ?_))
def F_law_alike : SpecF := sameF
theorem M_law_alike : Mono F_law_alike := sameF_mono
def S_law_alike : Sg := { z := true, fs := [], gs := [] }
abbrev n_law_alike : List Str := ["_law_found", "_law_due"]
def b_law_alike : DL.B := (.ret (.and (.cmp .eq (.nm 0) (.nm 1)) (.one (.cmp .eq (.blt .repr (.cons (.nm 0) .nil)) (.blt .repr (.cons (.nm 1) .nil))))) .nil)
theorem W_law_alike : WOk S_law_alike n_law_alike b_law_alike F_law_alike 2 := by
  rintro ds Φ ⟨d, rfl, s, k⟩
  exact ⟨rfl, sameW (Φ := Φ) (K := { nx := fun _ => Φ (.leaf .non), rt := fun t _ => Φ t }) s fun _ => k⟩
theorem sm_int {n : Int} (h : -(10 ^ 60) ≤ n ∧ n ≤ 10 ^ 60) : (D.int n).sm = true := by
  have e : (10 ^ 60 : Int) < 10 ^ 250 := by decide +kernel
  have c : ((10 ^ 250 : Nat) : Int) = 10 ^ 250 := by decide +kernel
  simp only [D.sm, decide_eq_true_eq]
  apply Int.ofNat_lt.mp; rw [c]; omega
theorem shw_int {n : Int} (h : -(10 ^ 60) ≤ n ∧ n ≤ 10 ^ 60) : (D.int n).Shw := ⟨fit_int n, sm_int h, by simp [D.wt]⟩
theorem shw_itup {xs : List Int} (h : ∀ x ∈ xs, -(10 ^ 60) ≤ x ∧ x ≤ 10 ^ 60) (l : xs.length ≤ 10000) : (itup xs).Shw := by
  refine ⟨⟨?_, ?_⟩, ?_, ?_⟩
  · simp only [itup, D.lay]
    induction xs with
    | nil => rfl
    | cons x r ih => simp only [List.map_cons, D.lays, D.lay, Bool.true_and]; exact ih (fun y hy => h y (List.mem_cons_of_mem _ hy)) (by simp at l; omega)
  · have : ∀ ys : List Int, D.deps (ys.map D.int) = 0 := fun ys => by
      induction ys with
      | nil => rfl
      | cons x r ih => simp [D.deps, D.dep, ih]
    simp only [itup, D.dep, this]; omega
  · simp only [itup, D.sm]
    induction xs with
    | nil => rfl
    | cons x r ih =>
      simp only [List.map_cons, D.sms, Bool.and_eq_true]
      exact ⟨sm_int (h x List.mem_cons_self), ih (fun y hy => h y (List.mem_cons_of_mem _ hy)) (by simp at l; omega)⟩
  · have : ∀ ys : List Int, D.wts (ys.map D.int) = ys.length := fun ys => by
      induction ys with
      | nil => rfl
      | cons x r ih => simp [D.wts, D.wt, ih]; omega
    simp only [itup, D.wt, this]; omega
theorem so_stop : PyData.strOk "stop" = true := by decide +kernel
theorem so_wish : PyData.strOk "wish" = true := by decide +kernel
theorem so_bar : PyData.strOk "bar" = true := by decide +kernel
theorem so_tie : PyData.strOk "tie" = true := by decide +kernel
theorem Tm.shw {t : Tm} (hi : t.In 1000) (hl : -(10 ^ 60) ≤ t.low ∧ t.low ≤ 10 ^ 60) (hh : -(10 ^ 60) ≤ t.high ∧ t.high ≤ 10 ^ 60) (hf : -(10 ^ 60) ≤ t.force ∧ t.force ≤ 10 ^ 60) : t.D.Shw := by
  have sd : ∀ d : Nat, d < 1000 → (D.int d).sm = true := fun d hd => sm_int ⟨by omega, by omega⟩
  rcases t with ⟨d, l, h⟩ | ⟨d, l, h, f⟩ | ⟨d, o, l, h⟩ | ⟨d, o, l, h, f⟩
  · refine ⟨⟨by simp only [Tm.D, D.lay, D.lays, so_stop, Bool.and_self, Bool.and_true], Nat.le_of_ble_eq_true rfl⟩, ?_, Nat.le_of_ble_eq_true rfl⟩
    have := sd d hi
    simp only [Tm.D, D.sm, D.sms, Bool.and_eq_true] at *
    exact ⟨trivial, this, sm_int hl, sm_int hh, trivial⟩
  · refine ⟨⟨by simp only [Tm.D, D.lay, D.lays, so_wish, Bool.and_self, Bool.and_true], Nat.le_of_ble_eq_true rfl⟩, ?_, Nat.le_of_ble_eq_true rfl⟩
    have := sd d hi
    simp only [Tm.D, D.sm, D.sms, Bool.and_eq_true] at *
    exact ⟨trivial, this, sm_int hl, sm_int hh, sm_int hf, trivial⟩
  · refine ⟨⟨by simp only [Tm.D, D.lay, D.lays, so_bar, Bool.and_self, Bool.and_true], Nat.le_of_ble_eq_true rfl⟩, ?_, Nat.le_of_ble_eq_true rfl⟩
    have := sd d hi.1
    have := sd o hi.2
    simp only [Tm.D, D.sm, D.sms, Bool.and_eq_true] at *
    exact ⟨trivial, sd d hi.1, sd o hi.2, sm_int hl, sm_int hh, trivial⟩
  · refine ⟨⟨by simp only [Tm.D, D.lay, D.lays, so_tie, Bool.and_self, Bool.and_true], Nat.le_of_ble_eq_true rfl⟩, ?_, Nat.le_of_ble_eq_true rfl⟩
    simp only [Tm.D, D.sm, D.sms, Bool.and_eq_true] at *
    exact ⟨trivial, sd d hi.1, sd o hi.2, sm_int hl, sm_int hh, sm_int hf, trivial⟩
theorem Tm.arg_le {t : Tm} {n : Nat} {b : Int} {xs : List Int} (h : t.In n) (r : Row n b xs) (h0 : 0 ≤ b) : -(2 * b) ≤ t.arg xs ∧ t.arg xs ≤ 2 * b := by
  rcases t with ⟨d, l, h⟩ | ⟨d, l, h, f⟩ | ⟨d, o, l, h⟩ | ⟨d, o, l, h, f⟩
  · have := r.get (k := d) h; simp only [Tm.arg]; omega
  · have := r.get (k := d) h; simp only [Tm.arg]; omega
  · have := r.get (k := d) h.1; have := r.get (k := o) h.2; simp only [Tm.arg]; omega
  · have := r.get (k := d) h.1; have := r.get (k := o) h.2; simp only [Tm.arg]; omega
theorem Tm.far_le {t : Tm} {n : Nat} {m x b : Int} (h : t.Ok n m) (hx : -b ≤ x ∧ x ≤ b) : 0 ≤ t.far x ∧ t.far x ≤ b + 10 ^ 18 := by
  have := h.2.1
  unfold Tm.far
  repeat' split
  all_goals omega
theorem Tm.In.mono {t : Tm} {n m : Nat} (h : t.In n) (l : n ≤ m) : t.In m := by
  rcases t with ⟨d, l, h⟩ | ⟨d, l, h, f⟩ | ⟨d, o, l, h⟩ | ⟨d, o, l, h, f⟩ <;> simp only [Tm.In] at h ⊢ <;> omega
theorem Tm.Ok.force_le {t : Tm} {n : Nat} {m : Int} (h : t.Ok n m) (h0 : 0 ≤ m) : 0 ≤ t.force ∧ t.force ≤ m := by
  rcases t with ⟨d, l, h⟩ | ⟨d, l, h, f⟩ | ⟨d, o, l, h⟩ | ⟨d, o, l, h, f⟩ <;> simp only [Tm.Ok, Tm.force] at h ⊢ <;> omega
theorem Tm.low_ends (t : Tm) (a b : Int) : (t.ends a b).low = a := by cases t <;> rfl
theorem Tm.high_ends (t : Tm) (a b : Int) : (t.ends a b).high = b := by cases t <;> rfl
theorem Tm.force_ends (t : Tm) (a b : Int) : (t.ends a b).force = t.force := by cases t <;> rfl
theorem Tm.In_ends (t : Tm) (a b : Int) (n : Nat) : (t.ends a b).In n = t.In n := by cases t <;> rfl
theorem Tm.ends_ends (t : Tm) (a b c d : Int) : (t.ends a b).ends c d = t.ends c d := by cases t <;> rfl
theorem Tm.ends_self (t : Tm) : t.ends t.low t.high = t := by cases t <;> rfl
theorem Tm.Ok.shw {t : Tm} {n : Nat} {m : Int} (h : t.Ok n m) (hn : n ≤ 1000) (h0 : 0 ≤ m) (hm : m ≤ 10 ^ 40) : t.D.Shw := by
  have a := h.2.1
  have f := h.force_le h0
  exact Tm.shw (h.1.mono hn) ⟨by omega, by omega⟩ ⟨by omega, by omega⟩ ⟨by omega, by omega⟩
theorem Tm.Ok.ends {t : Tm} {n : Nat} {m : Int} (h : t.Ok n m) {a b : Int} (h1 : -(10 ^ 18) ≤ a) (h2 : a ≤ b) (h3 : b ≤ 10 ^ 18) : (t.ends a b).Ok n m := by
  rcases t with ⟨d, l, h⟩ | ⟨d, l, h, f⟩ | ⟨d, o, l, h⟩ | ⟨d, o, l, h, f⟩
  · exact ⟨h.1, ⟨h1, h2, h3⟩, h.2.2⟩
  · exact ⟨h.1, ⟨h1, h2, h3⟩, h.2.2⟩
  · exact ⟨h.1, ⟨h1, h2, h3⟩, h.2.2⟩
  · exact ⟨h.1, ⟨h1, h2, h3⟩, h.2.2⟩
/-! with_ends, mirrored, moved -/
def F_with_ends : SpecF := fnF (fun x : Tm × Int × Int => [x.1.D, .int x.2.1, .int x.2.2]) (fun _ => True) (fun x => (x.1.ends x.2.1 x.2.2).D)
theorem M_with_ends : Mono F_with_ends := fnM _ _ _
def S_with_ends : Sg := { z := true, fs := [], gs := [] }
theorem W_with_ends : WOk S_with_ends n_with_ends b_with_ends F_with_ends 3 := by
  rintro ds Φ ⟨⟨t, a, b⟩, rfl, -, k⟩
  refine ⟨rfl, ?_⟩
  unfold b_with_ends
  rcases t with ⟨d, l, h⟩ | ⟨d, l, h, f⟩ | ⟨d, o, l, h⟩ | ⟨d, o, l, h, f⟩
  · trace_state; exact k
  · trace_state; exact k
  · trace_state; exact k
  · trace_state; exact k
def Tm.mir (t : Tm) : Tm := t.ends (-t.high) (-t.low)
def Tm.mov (t : Tm) (x : Int) : Tm := t.ends (t.low + x) (t.high + x)
def F_mirrored : SpecF := fnF (fun x : Tm => [x.D]) (fun _ => True) (fun x => x.mir.D)
theorem M_mirrored : Mono F_mirrored := fnM _ _ _
def S_mirrored : Sg := { z := true, fs := [F_ends_of, F_with_ends], gs := [] }
theorem W_mirrored : WOk S_mirrored n_mirrored b_mirrored F_mirrored 1 := by
  rintro ds Φ ⟨t, rfl, -, k⟩
  refine ⟨rfl, ?_⟩
  unfold b_mirrored
  trace_state
  refine ⟨t, rfl, trivial, ?_⟩
  trace_state
  refine ⟨(t, -t.high, -t.low), rfl, trivial, ?_⟩
  trace_state
  exact k
def F_moved : SpecF := fnF (fun x : Tm × Int => [x.1.D, .int x.2]) (fun _ => True) (fun x => (x.1.mov x.2).D)
theorem M_moved : Mono F_moved := fnM _ _ _
def S_moved : Sg := { z := true, fs := [F_ends_of, F_with_ends], gs := [] }
theorem W_moved : WOk S_moved n_moved b_moved F_moved 2 := by
  rintro ds Φ ⟨⟨t, x⟩, rfl, -, k⟩
  refine ⟨rfl, ?_⟩
  unfold b_moved
  trace_state
  refine ⟨t, rfl, trivial, ?_⟩
  trace_state
  refine ⟨(t, t.low + x, t.high + x), rfl, trivial, ?_⟩
  trace_state
  exact k
theorem Tm.far_mir {t : Tm} (h : t.low ≤ t.high) (x : Int) : t.mir.far (-x) = t.far x := by
  unfold Tm.far Tm.mir
  rw [Tm.low_ends, Tm.high_ends]
  repeat' split
  all_goals omega
theorem Tm.far_mov (t : Tm) (x y : Int) : (t.mov y).far (x + y) = t.far x := by
  unfold Tm.far Tm.mov
  rw [Tm.low_ends, Tm.high_ends]
  repeat' split
  all_goals omega
end KT
namespace KT
open PySem PySem.Spec PyProof.Rows L2 DL
local macro_rules | `(tactic| trace_state) => `(tactic| repeat' first | (with_reducible show w _ _ _ _; first | with_reducible refine w_nm (by with_unfolding_all exact rfl) ?_ | with_reducible refine w_ix ?_ | with_reducible refine w_int ?_ | with_reducible refine w_bin ?_ | with_reducible refine w_cmp ?_ | with_reducible refine w_call (by with_unfolding_all exact rfl) ?_ | with_reducible refine w_blt ?_ | with_reducible refine w_ow (by with_unfolding_all exact rfl) ?_ | with_reducible refine w_tup ?_ | with_reducible refine w_lst ?_ | with_reducible refine w_str ?_ | with_reducible refine w_neg ?_ | with_reducible refine w_ife ?_ | with_reducible refine w_sl ?_ | with_reducible refine w_and ?_ | with_reducible refine w_one ?_ | with_reducible refine w_or ?_ | with_reducible refine w_not ?_ | with_reducible refine w_bl ?_ | with_reducible refine w_non ?_ | with_reducible refine w_gl (by with_unfolding_all exact rfl) ?_ | with_reducible refine w_chn ?_ | with_reducible refine w_lc (by with_unfolding_all exact rfl) ?_ | with_reducible refine w_isi ?_ | with_reducible refine w_lr1 ?_ | with_reducible refine w_lr2 ?_) | (with_reducible show wa _ _ _ _; first | with_reducible refine wa_cons ?_ | with_reducible refine wa_nil ?_) | (with_reducible show wv _ _ _ _; first | with_reducible refine wv_cons ?_ | with_reducible refine wv_nil ?_) | (with_reducible show T.fin _ _; first | with_reducible refine fin_leaf (by with_unfolding_all exact rfl) ?_ | with_reducible refine fin_mk (by with_unfolding_all exact rfl) ?_ | with_reducible refine fin_lst (by with_unfolding_all exact rfl) ?_ | with_reducible refine fin_tup (by with_unfolding_all exact rfl) ?_) | (with_reducible show And _ _; first | with_reducible refine and_len (by with_unfolding_all exact rfl) ?_) | (with_reducible show frozs _ _ _; first | with_reducible refine fz_nil ?_ | with_reducible refine fz_cons ?_) | (with_reducible show T.froz _ _ _; first | with_reducible refine fz_leaf (by with_unfolding_all exact rfl) ?_ | with_reducible refine fz_lst (by with_unfolding_all exact rfl) (by with_unfolding_all exact rfl) ?_ | with_reducible refine fz_tup (by with_unfolding_all exact rfl) (by with_unfolding_all exact rfl) ?_ | with_reducible refine fz_vw (by with_unfolding_all exact rfl) (by with_unfolding_all exact rfl) ?_) | (with_reducible show ixT _ _ _; first | with_reducible refine ix_lt (by with_unfolding_all exact rfl) (by with_unfolding_all exact rfl) (by with_unfolding_all exact at_getD (by assumption)) ?_ | with_reducible refine ix_lt (by with_unfolding_all exact rfl) (by with_unfolding_all exact rfl) (by with_unfolding_all exact rfl) ?_ | with_reducible refine ix_lst (by with_unfolding_all exact rfl) (by with_unfolding_all exact rfl) (by with_unfolding_all exact rfl) ?_ | with_reducible refine ix_ll (by with_unfolding_all exact rfl) (by with_unfolding_all exact rfl) (by with_unfolding_all exact rfl) ?_ | with_reducible refine ix_vli (by with_unfolding_all exact rfl) (by with_unfolding_all exact rfl) (by with_unfolding_all exact rfl) ?_ | with_reducible refine ix_vll (by with_unfolding_all exact rfl) (by with_unfolding_all exact rfl) (by with_unfolding_all exact rfl) ?_ | with_reducible refine ix_tup (by with_unfolding_all exact rfl) (by with_unfolding_all exact rfl) (by with_unfolding_all exact rfl) ?_ | with_reducible refine ix_vti (by with_unfolding_all exact rfl) (by with_unfolding_all exact rfl) (by with_unfolding_all exact rfl) ?_ | with_reducible refine ix_vlt (by with_unfolding_all exact rfl) (by with_unfolding_all exact rfl) (by with_unfolding_all exact rfl) ?_ | with_reducible refine ix_vtl (by with_unfolding_all exact rfl) (by with_unfolding_all exact rfl) (by with_unfolding_all exact rfl) ?_ | with_reducible refine ix_vls (by with_unfolding_all exact rfl) (by with_unfolding_all exact rfl) (by with_unfolding_all exact rfl) ?_) | (with_reducible show DL.binT _ _ _ _; first | with_reducible refine b_add (by with_unfolding_all exact rfl) (by with_unfolding_all exact rfl) ?_ | with_reducible refine b_sub (by with_unfolding_all exact rfl) (by with_unfolding_all exact rfl) ?_ | with_reducible refine b_mul (by with_unfolding_all exact rfl) (by with_unfolding_all exact rfl) (by with_unfolding_all exact mulR ⟨by decide, by decide⟩) ?_ | with_reducible refine b_mul (by with_unfolding_all exact rfl) (by with_unfolding_all exact rfl) (by with_unfolding_all exact mulL ⟨by decide, by decide⟩) ?_ | with_reducible refine b_mul (by with_unfolding_all exact rfl) (by with_unfolding_all exact rfl) (by with_unfolding_all exact mulL ⟨by omega, by omega⟩) ?_ | with_reducible refine b_mul (by with_unfolding_all exact rfl) (by with_unfolding_all exact rfl) (by with_unfolding_all exact mulR ⟨by omega, by omega⟩) ?_ | with_reducible refine b_mul (by with_unfolding_all exact rfl) (by with_unfolding_all exact rfl) ?_ ?_ | with_reducible refine b_p18 (by with_unfolding_all exact rfl) (by with_unfolding_all exact rfl) ?_ | with_reducible refine b_p9 (by with_unfolding_all exact rfl) (by with_unfolding_all exact rfl) ?_ | with_reducible refine b_p38 (by with_unfolding_all exact rfl) (by with_unfolding_all exact rfl) ?_ | with_reducible refine b_p17 (by with_unfolding_all exact rfl) (by with_unfolding_all exact rfl) ?_ | with_reducible refine b_p40 (by with_unfolding_all exact rfl) (by with_unfolding_all exact rfl) ?_ | with_reducible refine b_p39 (by with_unfolding_all exact rfl) (by with_unfolding_all exact rfl) ?_ | with_reducible refine b_p21 (by with_unfolding_all exact rfl) (by with_unfolding_all exact rfl) ?_ | with_reducible refine b_p20 (by with_unfolding_all exact rfl) (by with_unfolding_all exact rfl) ?_ | with_reducible refine b_p6 (by with_unfolding_all exact rfl) (by with_unfolding_all exact rfl) ?_ | with_reducible refine b_pow (by with_unfolding_all exact rfl) (by with_unfolding_all exact rfl) (by with_unfolding_all decide) ?_ | with_reducible refine b_mod (by with_unfolding_all exact rfl) (by with_unfolding_all exact rfl) (by with_unfolding_all (first | decide | assumption | omega)) ?_ | with_reducible refine b_mod (by with_unfolding_all exact rfl) (by with_unfolding_all exact rfl) ?_ ?_ | with_reducible refine b_fdiv (by with_unfolding_all exact rfl) (by with_unfolding_all exact rfl) (by with_unfolding_all exact ⟨by decide, by decide⟩) ?_ | with_reducible refine b_fdiv (by with_unfolding_all exact rfl) (by with_unfolding_all exact rfl) (by with_unfolding_all exact ⟨by assumption, by assumption⟩) ?_ | with_reducible refine b_fdiv (by with_unfolding_all exact rfl) (by with_unfolding_all exact rfl) ?_ ?_ | with_reducible refine b_catL (by with_unfolding_all exact rfl) (by with_unfolding_all exact rfl) (by with_unfolding_all exact rfl) ?_) | (with_reducible show cmpD _ _ _ _; first | with_reducible refine c_eq (by with_unfolding_all exact rfl) (by with_unfolding_all exact rfl) ?_ | with_reducible refine c_ne (by with_unfolding_all exact rfl) (by with_unfolding_all exact rfl) ?_ | with_reducible refine c_lt (by with_unfolding_all exact rfl) (by with_unfolding_all exact rfl) ?_ | with_reducible refine c_le (by with_unfolding_all exact rfl) (by with_unfolding_all exact rfl) ?_ | with_reducible refine c_gt (by with_unfolding_all exact rfl) (by with_unfolding_all exact rfl) ?_ | with_reducible refine c_ge (by with_unfolding_all exact rfl) (by with_unfolding_all exact rfl) ?_ | with_reducible refine c_nes (by with_unfolding_all exact rfl) (by with_unfolding_all exact rfl) ?_ | with_reducible refine c_eqs (by with_unfolding_all exact rfl) (by with_unfolding_all exact rfl) ?_ | with_reducible refine c_inT (by with_unfolding_all exact rfl) (by with_unfolding_all exact rfl) (by with_unfolding_all (first | exact tb_stop | exact tb_wish | exact tb_bar | exact tb_tie | exact wt_stop | exact wt_wish | exact wt_bar | exact wt_tie)) ?_ | with_reducible refine c_isT (by with_unfolding_all exact rfl) (by with_unfolding_all exact rfl) ?_ | with_reducible refine c_isF (by with_unfolding_all exact rfl) (by with_unfolding_all exact rfl) ?_ | with_reducible refine c_notT (by with_unfolding_all exact rfl) (by with_unfolding_all exact rfl) ?_ | with_reducible refine c_notF (by with_unfolding_all exact rfl) (by with_unfolding_all exact rfl) ?_) | (with_reducible show wt _ _ _ _; first | with_reducible refine wt_cmp ?_ | with_reducible refine wt_not ?_ | with_reducible refine wt_val ?_ | with_reducible refine wt_and ?_ | with_reducible refine wt_or ?_ | with_reducible refine wt_one ?_ | with_reducible refine wt_chn ?_) | (with_reducible show @ite _ _ _ _ _; first | with_reducible refine ite_t ?_ | with_reducible refine ite_f ?_ | with_reducible refine ite_nt ?_ | with_reducible refine ite_nf ?_ | with_reducible refine ite_decT (by decide) ?_ | with_reducible refine ite_decF (by decide) ?_ | with_reducible refine ite_dec (fun _ => ?_) (fun _ => ?_) | with_reducible refine ite_ndecT (by with_unfolding_all exact rfl) ?_ | with_reducible refine ite_ndec (fun _ => ?_) (fun _ => ?_)) | (with_reducible show wb _ _ _ _; first | with_reducible refine wb_asg ?_ | with_reducible refine wb_ite ?_ | with_reducible refine wb_ret ?_ | with_reducible refine wb_nil ?_ | with_reducible refine wb_for ?_ | with_reducible refine wb_asgLc (by with_unfolding_all exact rfl) (by with_unfolding_all exact rfl) ?_ | with_reducible refine wb_setix (by with_unfolding_all exact rfl) ?_ | with_reducible refine wb_augix (by with_unfolding_all exact rfl) ?_ | with_reducible refine wb_aug (by with_unfolding_all exact rfl) (by with_unfolding_all exact rfl) ?_ | with_reducible refine wb_ex ?_ | with_reducible refine wb_fz (by with_unfolding_all exact rfl) (by with_unfolding_all exact rfl) ?_ | with_reducible refine wb_pass ?_ | with_reducible refine wb_brk ?_ | with_reducible refine wb_cont ?_ | with_reducible refine wb_retN ?_ | with_reducible refine wb_par2 (by with_unfolding_all decide) (by with_unfolding_all exact rfl) (by with_unfolding_all exact rfl) ?_ | with_reducible refine wb_app (by with_unfolding_all exact rfl) (by with_unfolding_all (simp; done)) ?_ | with_reducible refine wb_app (by with_unfolding_all exact rfl) ?_ ?_) | (with_reducible show Exists _; first | with_reducible refine bind_nm (by with_unfolding_all exact rfl) ?_ | with_reducible refine bind_pair (by with_unfolding_all exact rfl) (by with_unfolding_all exact rfl) (by with_unfolding_all exact rfl) ?_ | with_reducible refine bind_5 (by with_unfolding_all exact rfl) (by with_unfolding_all exact rfl) ?_ | with_reducible refine ex_int (by with_unfolding_all exact rfl) ?_ | with_reducible refine ex_bl (by with_unfolding_all exact rfl) ?_ | with_reducible refine ex_isT (by with_unfolding_all exact rfl) ?_ | with_reducible refine set_to (by with_unfolding_all exact rfl) (by with_unfolding_all exact rfl) ?_ | with_reducible refine aug_to (by with_unfolding_all exact rfl) (by with_unfolding_all exact rfl) (by with_unfolding_all exact rfl) ?_ | with_reducible refine ex_rg1 (by with_unfolding_all exact rfl) (by with_unfolding_all (unfold RgS; omega)) ?_ | with_reducible refine ex_rg2 (by with_unfolding_all exact rfl) (by with_unfolding_all exact rfl) (by with_unfolding_all (unfold RgS; omega)) ?_) | (with_reducible show bltT _ _ _; first | with_reducible refine l_lens (by with_unfolding_all exact rfl) ?_ | with_reducible refine l_len (by with_unfolding_all exact rfl) ?_ | with_reducible refine l_lent (by with_unfolding_all exact rfl) ?_ | with_reducible refine l_abs (by with_unfolding_all exact rfl) ?_ | with_reducible refine l_max2 (by with_unfolding_all exact rfl) (by with_unfolding_all exact rfl) ?_ | with_reducible refine l_min2 (by with_unfolding_all exact rfl) (by with_unfolding_all exact rfl) ?_ | with_reducible refine l_max3 (by with_unfolding_all exact rfl) (by with_unfolding_all exact rfl) (by with_unfolding_all exact rfl) ?_ | with_reducible refine l_intT (by with_unfolding_all exact rfl) ?_ | with_reducible refine l_intF (by with_unfolding_all exact rfl) ?_ | with_reducible refine l_intD (by with_unfolding_all exact rfl) (fun _ => ?_) (fun _ => ?_)) | (with_reducible show slT _ _ _ _; first | with_reducible refine sl_lt (by with_unfolding_all exact rfl) (by with_unfolding_all exact rfl) ?_) | (with_reducible show tru _ _; first | with_reducible refine t_bl (by with_unfolding_all exact rfl) ?_) | (with_reducible show augD _ _ _ _; first | with_reducible refine a_add (by with_unfolding_all exact rfl) (by with_unfolding_all exact rfl) ?_ | with_reducible refine a_sub (by with_unfolding_all exact rfl) (by with_unfolding_all exact rfl) ?_) | (with_reducible show wo _ _ _ _; first | with_reducible refine wo_nop ?_ | with_reducible refine wo_prt ?_) | (with_reducible show wi _ _ _ _; first | with_reducible refine wi_rng ?_ | with_reducible refine wi_sq ?_ | with_reducible refine wi_zip ?_ | with_reducible refine wi_enm ?_) | (with_reducible show wc _ _ _ _; first | with_reducible refine wc_nop ?_ | with_reducible refine wc_one ?_))
abbrev n_is_pulling : List Str := ["term"]
def b_is_pulling : DL.B := (.ret (.cmp .inn (.ix (.nm 0) (.int 0)) (.tup (.cons (.str "wish") (.cons (.str "tie") .nil)))) .nil)
abbrev n_force_of : List Str := ["term"]
def b_force_of : DL.B := (.ret (.ix (.nm 0) (.neg (.int 1))) .nil)
abbrev n_fitting : List Str := ["term", "argument", "most", "less", "low", "high"]
def b_fitting : DL.B := (.asg (.cons (.nm 4) (.cons (.nm 5) .nil)) (.call 0 (.cons (.nm 0) .nil)) (.asg (.nm 2) (.ife (.val (.call 1 (.cons (.nm 0) .nil))) (.call 2 (.cons (.nm 0) .nil)) .non) (.ite (.cmp .lt (.nm 1) (.nm 4)) (.ret (.tup (.cons (.nm 2) (.cons (.nm 2) .nil))) .nil) .nil (.ite (.cmp .gt (.nm 1) (.nm 5)) (.ret (.tup (.cons (.neg (.nm 2)) (.cons (.neg (.nm 2)) .nil))) .nil) .nil (.asg (.nm 3) (.ife (.cmp .notN (.nm 2) .non) (.neg (.nm 2)) .non) (.ret (.tup (.cons (.ife (.cmp .eq (.nm 1) (.nm 5)) (.nm 3) (.int 0)) (.cons (.ife (.cmp .eq (.nm 1) (.nm 4)) (.nm 2) (.int 0)) .nil))) .nil))))))
def F_is_pulling : SpecF := fnF (fun t : Tm => [t.D]) (fun _ => True) (fun t => .bl t.pulls)
theorem M_is_pulling : Mono F_is_pulling := fnM _ _ _
def S_is_pulling : Sg := { z := true, fs := [], gs := [] }
theorem W_is_pulling : WOk S_is_pulling n_is_pulling b_is_pulling F_is_pulling 1 := by
  rintro ds Φ ⟨t, rfl, -, k⟩
  refine ⟨rfl, ?_⟩
  unfold b_is_pulling
  rcases t with ⟨d, l, h⟩ | ⟨d, l, h, f⟩ | ⟨d, o, l, h⟩ | ⟨d, o, l, h, f⟩
  · trace_state; exact k
  · trace_state; exact k
  · trace_state; exact k
  · trace_state; exact k
def F_force_of : SpecF := fnF (fun t : Tm => [t.D]) (fun t => t.pulls = true) (fun t => .int t.force)
theorem M_force_of : Mono F_force_of := fnM _ _ _
def S_force_of : Sg := { z := true, fs := [], gs := [] }
theorem W_force_of : WOk S_force_of n_force_of b_force_of F_force_of 1 := by
  rintro ds Φ ⟨t, rfl, hp, k⟩
  refine ⟨rfl, ?_⟩
  unfold b_force_of
  rcases t with ⟨d, l, h⟩ | ⟨d, l, h, f⟩ | ⟨d, o, l, h⟩ | ⟨d, o, l, h, f⟩
  · cases hp
  · trace_state; exact k
  · cases hp
  · trace_state; exact k
/-! pulls that fit -/
def oD : Option Int → DL.D
  | none => .non
  | some a => .int a
def leO : Option Int → Int → Prop
  | none, _ => True
  | some a, p => a ≤ p
def geO : Option Int → Int → Prop
  | none, _ => True
  | some b, p => p ≤ b
def FitP (pl : Bool) (l h f x p : Int) : Prop := if pl = true then (if x < l then p = f else if h < x then p = -f else (x = h → -f ≤ p) ∧ (x ≠ h → 0 ≤ p) ∧ (x = l → p ≤ f) ∧ (x ≠ l → p ≤ 0)) else ((x ≠ h → 0 ≤ p) ∧ (x ≠ l → p ≤ 0))
def Tm.Fit (t : Tm) (x p : Int) : Prop := FitP t.pulls t.low t.high t.force x p
/-- an end within the force -/
def Small (m : Int) : Option Int → Prop
  | none => True
  | some a => -m ≤ a ∧ a ≤ m
def F_fitting : SpecF := fun ds Φ => ∃ (t : Tm) (x : Int), ds = [t.D, .int x] ∧ t.low ≤ t.high ∧ (t.pulls = false → t.low ≤ x ∧ x ≤ t.high) ∧ 0 ≤ t.force ∧
  ∀ a b : Option Int, (∀ p, (leO a p ∧ geO b p) ↔ t.Fit x p) → Small t.force a → Small t.force b → Φ (.leaf (.tup [oD a, oD b]))
theorem M_fitting : Mono F_fitting := fun ds Φ Ψ i ⟨t, x, e, h1, h2, h3, k⟩ => ⟨t, x, e, h1, h2, h3, fun a b c d e => i _ (k a b c d e)⟩
def S_fitting : Sg := { z := true, fs := [F_ends_of, F_is_pulling, F_force_of], gs := [] }
theorem W_fitting : WOk S_fitting n_fitting b_fitting F_fitting 2 := by
  rintro ds Φ ⟨t, x, rfl, hlh, hst, hf, k⟩
  refine ⟨rfl, ?_⟩
  unfold b_fitting
  trace_state
  refine ⟨t, rfl, trivial, ?_⟩
  trace_state
  refine ⟨t, rfl, trivial, ?_⟩
  cases hp : t.pulls with
  | true =>
    simp only [hp]
    trace_state
    refine ⟨t, rfl, hp, ?_⟩
    unfold Tm.Fit at k
    rw [hp] at k
    trace_state
    · refine k (some t.force) (some t.force) (fun p => ?_) ⟨by omega, by omega⟩ ⟨by omega, by omega⟩
      simp only [leO, geO, FitP, if_true]
      repeat' split
      all_goals omega
    · refine k (some (-t.force)) (some (-t.force)) (fun p => ?_) ⟨by omega, by omega⟩ ⟨by omega, by omega⟩
      simp only [leO, geO, FitP, if_true]
      repeat' split
      all_goals omega
    · refine k (some (-t.force)) (some t.force) (fun p => ?_) ⟨by omega, by omega⟩ ⟨by omega, by omega⟩
      simp only [leO, geO, FitP, if_true]
      repeat' split
      all_goals omega
    · refine k (some (-t.force)) (some 0) (fun p => ?_) ⟨by omega, by omega⟩ ⟨by omega, by omega⟩
      simp only [leO, geO, FitP, if_true]
      repeat' split
      all_goals omega
    · refine k (some 0) (some t.force) (fun p => ?_) ⟨by omega, by omega⟩ ⟨by omega, by omega⟩
      simp only [leO, geO, FitP, if_true]
      repeat' split
      all_goals omega
    · refine k (some 0) (some 0) (fun p => ?_) ⟨by omega, by omega⟩ ⟨by omega, by omega⟩
      simp only [leO, geO, FitP, if_true]
      repeat' split
      all_goals omega
  | false =>
    have hst := hst hp
    simp only [hp]
    unfold Tm.Fit at k
    rw [hp] at k
    trace_state
    · exfalso; omega
    · exfalso; omega
    · refine k none none (fun p => ?_) trivial trivial
      simp only [leO, geO, FitP, Bool.false_eq_true, if_false, true_and, and_true, true_iff]
      omega
    · refine k none (some 0) (fun p => ?_) trivial ⟨by omega, by omega⟩
      simp only [leO, geO, FitP, Bool.false_eq_true, if_false, true_and, and_true, true_iff]
      omega
    · refine k (some 0) none (fun p => ?_) ⟨by omega, by omega⟩ trivial
      simp only [leO, geO, FitP, Bool.false_eq_true, if_false, true_and, and_true, true_iff]
      omega
    · refine k (some 0) (some 0) (fun p => ?_) ⟨by omega, by omega⟩ ⟨by omega, by omega⟩
      simp only [leO, geO, FitP, Bool.false_eq_true, if_false, true_and, and_true, true_iff]
      omega
end KT
namespace DL
open PySem PySem.Spec PyProof.Rows L2

/-! ### an __init__ from its short body: tests that fail, then the fields in order -/
def okStores (c : Cn) : List (Str × I) → List Stmt → Bool
  | [], s => match s with | [] => true | _ => false
  | (n, e) :: fs, s => match s with
    | .Assign [.Attribute (.Name y _) m _] v _ :: rest => nameIs c.toCt 0 y && c.vis y && plainName y && decide (m = n) && noComp v && okE c e v && okStores c fs rest
    | _ => false
def okInit (c : Cn) : List I → List (Str × I) → List Stmt → Bool
  | [], fs, s => okStores c fs s
  | t :: ts, fs, s => match s with
    | .If q _ [] _ :: rest => okT c t q && okInit c ts fs rest
    | _ => false
def storesW (S : Sg) : List (Str × I) → DL.Env → (List D → Prop) → Prop
  | [], _, k => k []
  | (_, e) :: r, ρ, k => w S e ρ fun t => t.froz S.z fun d => storesW S r ρ fun ds => k (d :: ds)
def initW (S : Sg) : List I → List (Str × I) → DL.Env → (List D → Prop) → Prop
  | [], fs, ρ, k => storesW S fs ρ k
  | t :: ts, fs, ρ, k => wt S t ρ fun b => b = false ∧ initW S ts fs ρ k
theorem putF_new {n : Str} {v : V} : ∀ {fs : List (Str × V)}, (∀ p ∈ fs, p.1 ≠ n) → putF n v fs = fs ++ [(n, v)]
  | [], _ => rfl
  | (m, u) :: r, h => by
    have h0 := h (m, u) List.mem_cons_self
    show (if m = n then _ else _) = _
    rw [if_neg h0, putF_new fun p hp => h p (List.mem_cons_of_mem _ hp)]
    rfl
theorem zip_snoc : ∀ {ns : List Str} {vs : List V} {n : Str} {v : V}, ns.length = vs.length → ns.zip vs ++ [(n, v)] = (ns ++ [n]).zip (vs ++ [v])
  | [], [], _, _, _ => rfl
  | [], _ :: _, _, _, h => by simp at h
  | _ :: _, [], _, _, h => by simp at h
  | m :: ns, u :: vs, n, v, h => by
    rw [List.zip_cons_cons, List.cons_append, zip_snoc (by simpa using h)]; rfl
section
variable {K : PySem.W.Frag} {bg : Option Addr} {cls : Nat → Option (Addr × List Str)} {F0 H0 : Hp} {X : Cx} {c : Cn} {S : Sg} {C x dx : Addr} {D : Ends}
abbrev anI (K : PySem.W.Frag) (bg : Option Addr) (cls : Nat → Option (Addr × List Str)) (F0 Hc : Hp) : An0 := ⟨⟨K, bg, cls⟩, bg.toList, F0, Hc, [], []⟩
theorem not_mem_bg {bg : Option Addr} {x : Addr} (h : bg ≠ some x) : x ∉ bg.toList := fun z => by
  cases bg with
  | none => simp at z
  | some b => simp at z; exact h (by rw [z])
/-- a field is stored: the state as before, the object longer -/
theorem sw_stored {Hc H F : Hp} {Sc Sm : List Addr} {ρ : DL.Env} {σ : L2.St} {o o' : HO} (w : SW (anI K bg cls F0 Hc) ρ σ [] [] H F Sc Sm) (hx : Hc x = some o) (f0 : F0 x = none) (nb : bg ≠ some x) : SW (anI K bg cls F0 (upd Hc x o')) ρ σ [] [] (upd H x o') F Sc Sm := by
  have fx : F x = none := w.gw.nn x (by show Hc x ≠ none; rw [hx]; simp) f0
  have ne : ∀ p ∈ Sc ++ Sm, p ≠ x := fun p hp e => by
    obtain ⟨_, f2, f3⟩ := w.fr p hp
    rcases f3 with f3 | f3
    · exact not_mem_bg nb (e ▸ f3)
    · have f3 : Hc p = none := f3
      rw [e, hx] at f3; cases f3
  have keep : ∀ p, p ≠ x → ∀ u, H p = some u → upd H x o' p = some u := fun p n u e => by rw [upd_ne n]; exact e
  have hk : ∀ p, p ≠ x → upd Hc x o' p = Hc p := fun p n => upd_ne n
  refine ⟨fun p u e => keep p (fun z => by rw [z, fx] at e; cases e) u (w.sub p u e), ⟨w.gw.ff, fun p u hp e => ?_, fun p h1 h2 => ?_, fun p h => ?_⟩, fun b e => ⟨(w.bagM b e).1, ?_⟩, fun b e => ?_, OwC.mono' (Sub.refl F) w.cells fun p hp => keep p (ne p (List.mem_append_left _ hp)), by have := w.tmps; simpa only [OwL] using this, w.nd, fun p hp => ?_, w.len, by simp, by simp⟩
  · by_cases z : p = x
    · have e : upd Hc x o' p = some u := e
      rw [z, upd_same] at e ⊢; exact e
    · have e : upd Hc x o' p = some u := e
      rw [hk p z] at e; exact keep p z u (w.gw.hh p u hp e)
  · by_cases z : p = x
    · rw [z]; exact fx
    · exact w.gw.nn p (by have h1 : upd Hc x o' p ≠ none := h1; rw [hk p z] at h1; exact h1) h2
  · by_cases z : p = x
    · rw [z, upd_same]; simp
    · have h : upd Hc x o' p ≠ none := h
      rw [hk p z] at h
      rw [upd_ne z]
      exact w.gw.th p h
  · have z : b ≠ x := fun z => nb (by rw [← z]; exact e)
    show upd Hc x o' b ≠ none
    rw [hk b z]; exact (w.bagM b e).2
  · have z : b ≠ x := fun z => nb (by rw [← z]; exact e)
    obtain ⟨b1, xx, yy, zz, cc, ns, b2, b3⟩ := w.bag b e
    exact ⟨b1, xx, yy, zz, cc, ns, by rw [upd_ne z]; exact b2, b3⟩
  · obtain ⟨f1, f2, f3⟩ := w.fr p hp
    refine ⟨f1, f2, f3.imp id fun f3 => ?_⟩
    show upd Hc x o' p = none
    rw [hk p (ne p hp)]; exact f3
theorem stores_go (gd : ∀ Hc, Good c S (anI K bg cls F0 Hc) X) (cl : Cls K C) (f0 : F0 x = none) (nb : bg ≠ some x) {P : List DL.D → Prop} {ns : List Str} (nd : ns.Nodup) (na : ∀ n ∈ ns, NoAttr K C n) (small : ns.length < 1000)
    (fin : ∀ (ds : List DL.D) (Hc H F : Hp) (Sc Sm : List Addr) (ρ : DL.Env) (σ : L2.St) (vs : List V), P ds → SW (anI K bg cls F0 Hc) ρ σ [] [] H F Sc Sm → Hc x = some (.ins C dx (ns.zip vs)) → vs.length = ns.length → IsL ⟨K, bg, cls⟩ F ds vs → (∀ p, p ≠ x → Hc p = H0 p) → D.nx σ H) :
    ∀ (fs : List (Str × I)) (s : List Stmt) (nsd : List Str) (vsd : List V) (dd : List DL.D) (Hc H F : Hp) (Sc Sm : List Addr) (ρ : DL.Env) (σ : L2.St), okStores c fs s = true → ns = nsd ++ fs.map (·.1) → SW (anI K bg cls F0 Hc) ρ σ [] [] H F Sc Sm → Hc x = some (.ins C dx (nsd.zip vsd)) → vsd.length = nsd.length →
      IsL ⟨K, bg, cls⟩ F dd vsd → (∀ p, p ≠ x → Hc p = H0 p) → σ[0]? = some (some (.ref x)) → storesW S fs ρ (fun ds => P (dd ++ ds)) → WB X s D σ H
  | [], s, nsd, vsd, dd, Hc, H, F, Sc, Sm, ρ, σ, ok, en, w, hx, l, il, hk, pn, h => by
    simp only [okStores] at ok
    split at ok
    · simp only [List.map_nil, List.append_nil] at en
      subst en
      simp only [storesW, List.append_nil] at h
      exact ⟨_, pss_nil, fin dd Hc H F Sc Sm ρ σ vsd h w hx l il hk⟩
    · cases ok
  | (n, e) :: fs, s, nsd, vsd, dd, Hc, H, F, Sc, Sm, ρ, σ, ok, en, w, hx, l, il, hk, pn, h => by
    simp only [okStores] at ok
    split at ok
    · simp only [Bool.and_eq_true, decide_eq_true_eq] at ok
      obtain ⟨⟨⟨⟨⟨⟨k1, k2⟩, k3⟩, k4⟩, k5⟩, k6⟩, k7⟩ := ok
      have k4 := k4.symm
      subst k4
      obtain ⟨q1, q2, _⟩ := plain_of k3
      have g := gd Hc
      have KX : X.K = K := g.xo.K
      refine ⟨_, pss_cons (ps_fld (pvar (nameIs_of g.co k1) (Ct.vis_of g.co k2) q1 q2) pe_W (noswap k5)) pb_W, ?_⟩
      show WE X _ σ H fun y H1 => tVar 0 σ H1 fun z H2 => _
      simp only [storesW] at h
      refine soundE e (g.onV (F := F)) k6 h σ H [] [] _ ⟨F, Sc, Sm, w.onV (Sub.refl F)⟩ fun y t H1 ht ok1 => ?_
      obtain ⟨F1, Sc1, Sm1, w1⟩ := ok1
      have s1 : Sub F F1 := w1.wif F List.mem_cons_self
      obtain ⟨F2, Sm2, s2, w2, iy, h⟩ := w1.offV.froz1 g.io ht
      have s2' : Sub F F2 := s1.trans s2
      have inM : x ∉ (anI K bg cls F0 Hc).M := not_mem_bg nb
      have hx1 : H1 x = some (.ins C dx (nsd.zip vsd)) := w2.gw.hh x _ inM hx
      have hn : n ∈ ns := by rw [en]; simp
      have fresh : n ∉ nsd := fun z => by
        rw [en] at nd
        exact (List.nodup_append.mp nd).2.2 n z n (by simp) rfl
      have pf : putF n y (nsd.zip vsd) = (nsd ++ [n]).zip (vsd ++ [y]) := by
        rw [putF_new fun q hq e => fresh (by rw [← e]; exact (List.of_mem_zip hq).1), zip_snoc l.symm]
      refine ⟨.ref x, pn, x, C, dx, _, rfl, hx1, by rw [KX]; exact cl, by rw [KX]; exact na n hn, ?_, ?_⟩
      · rw [List.length_zip]
        have : nsd.length ≤ ns.length := by rw [en, List.length_append]; omega
        omega
      · rw [pf]
        show WB X _ D σ _
        refine stores_go gd cl f0 nb nd na small fin fs _ (nsd ++ [n]) (vsd ++ [y]) (dd ++ [t.dat]) _ _ F2 Sc1 Sm2 ρ σ k7 (by rw [en]; simp) (sw_stored w2 hx f0 nb) upd_same (by simp [l]) ((il.mono s2').append (by simp only [IsL]; exact ⟨y, [], rfl, iy, rfl⟩)) (fun p hp => by rw [upd_ne hp]; exact hk p hp) pn ?_
        have e2 : ∀ ds, (dd ++ [t.dat]) ++ ds = dd ++ t.dat :: ds := fun ds => by simp
        simp only [e2]
        exact h
    · cases ok
theorem init_go (gd : ∀ Hc, Good c S (anI K bg cls F0 Hc) X) (cl : Cls K C) (f0 : F0 x = none) (nb : bg ≠ some x) {P : List DL.D → Prop} {fs : List (Str × I)} (nd : (fs.map (·.1)).Nodup) (na : ∀ n ∈ fs.map (·.1), NoAttr K C n) (small : fs.length < 1000) (hx : H0 x = some (.ins C dx []))
    (fin : ∀ (ds : List DL.D) (Hc H F : Hp) (Sc Sm : List Addr) (ρ : DL.Env) (σ : L2.St) (vs : List V), P ds → SW (anI K bg cls F0 Hc) ρ σ [] [] H F Sc Sm → Hc x = some (.ins C dx ((fs.map (·.1)).zip vs)) → vs.length = (fs.map (·.1)).length → IsL ⟨K, bg, cls⟩ F ds vs → (∀ p, p ≠ x → Hc p = H0 p) → D.nx σ H) :
    ∀ (ts : List I) (s : List Stmt) (H : Hp) (ρ : DL.Env) (σ : L2.St), okInit c ts fs s = true → SOk (anI K bg cls F0 H0) ρ σ [] [] H → σ[0]? = some (some (.ref x)) → initW S ts fs ρ P → WB X s D σ H
  | [], s, H, ρ, σ, ok, sk, pn, h => by
    obtain ⟨F, Sc, Sm, w⟩ := sk
    simp only [okInit] at ok
    simp only [initW] at h
    exact stores_go gd cl f0 nb nd na (by simpa using small) fin fs s [] [] [] H0 H F Sc Sm ρ σ ok (by simp) w hx rfl (by simp only [IsL]) (fun _ _ => rfl) pn (by simpa using h)
  | t :: ts, s, H, ρ, σ, ok, sk, pn, h => by
    simp only [okInit] at ok
    simp only [initW] at h
    split at ok
    · simp only [Bool.and_eq_true] at ok
      refine ⟨_, pss_cons (ps_if pt_W pb_W pb_W) pb_W, ?_⟩
      rename_i q s1 pos rest
      show WT X q σ H fun b H1 => if b = true then WB X s1 { D with nx := WB X rest D } σ H1 else WB X [] { D with nx := WB X rest D } σ H1
      refine soundT t (gd H0) ok.1 h σ H [] [] _ sk fun b H1 ⟨e, h⟩ ok1 => ?_
      subst e
      rw [if_neg (by decide)]
      exact ⟨_, pss_nil, init_go gd cl f0 nb nd na small hx fin ts rest H1 ρ σ ok.2 ok1 pn h⟩
    · cases ok
end
section
variable {P : Program} {w : World} {K : PySem.W.Frag} {mg : Str → Option Value} {base : Heap} {cls : Nat → Option (Addr × List Str)} {k : Nat} {x qual : Str} {f : SpecF} {st : Stmt} {fa : Addr} {fd : FuncData} {N ps : List Str} {c : Cn} {S : Sg} {ts : List I} {fs : List (Str × I)} {cl : Nat}
theorem fnInit (Fu : L2.Fun K x qual st fa fd) (sc : FnScope N ps (defScope st)) (hc : c.toCt = ⟨N, defScope st, defScope st⟩) (ck : okInit c ts fs (defBody st) = true)
    (fns : ∀ (i : Nat) y f, c.fn[i]? = some y → S.fs[i]? = some f → FnB P w K mg base cls k y f)
    (gls : ∀ (i : Nat) y d, c.gl[i]? = some y → S.gs[i]? = some d → ∃ v u, mg y = some u ∧ RelV v u ∧ ∀ (a : An) F, a.K = K → Is a F d v)
    (bs : ∀ y ∈ c.bs, mg y = none) (hcl : ∀ C ns, cls cl = some (C, ns) → Cls K C ∧ ns = fs.map (·.1) ∧ ∀ n ∈ ns, NoAttr K C n) (nd : (fs.map (·.1)).Nodup) (small : fs.length < 1000) (hN : ps.length ≤ N.length)
    (h : ∀ ds Φ, f ds Φ → ds.length + 1 = ps.length ∧ initW S ts fs (none :: ((ds.map T.leaf).map some ++ List.replicate (N.length - (ds.length + 1)) none)) fun ds' => Φ (.leaf (.obj cl ds')))
    (ob : ObB P w K mg base cls k c S := by exact obNil rfl rfl rfl rfl rfl) :
    FnG P w K mg base CX0 (k + 1) fa fd ps (spI K cls cl f) := by
  obtain ⟨oc, od, kV, doc, pm, an, cdv, ct, osl, rfl, lk, hcd⟩ := Fu.ex
  refine fn_G lk hcd sc (fun vs H Q E hs => ?_) fun A outer s H vs Q E gu hr hs => ?_
  · obtain ⟨bg, F, H0, ds, x, dx, C, ns, ws, rfl, _, _, _, _, _, _, _, il, q⟩ := hs
    rw [List.length_cons, isl_length il, (h _ _ q).1]
  obtain ⟨bg, F, H0, ds, x, dx, C, ns, ws, rfl, hC, n1, n2, ne, rfl, sub, bag, il, q⟩ := hs
  obtain ⟨l, q⟩ := h _ _ q
  obtain ⟨hcl, rfl, na⟩ := hcl C ns hC
  have vl := isl_length il
  have fx : ∀ p, H0 p = none → F p = none := fun p e => by
    cases z : F p with
    | none => rfl
    | some o => rw [sub p o z] at e; cases e
  have nb : ∀ b, bg = some b → H0 b ≠ none := fun b hb => by
    obtain ⟨_, _, _, _, _, _, e, _⟩ := bag b hb
    rw [e]; simp
  have old : ∀ p o, H0 p = some o → upd (upd H0 dx (.own x)) x (.ins C dx []) p = some o := fun p o e => by
    rw [upd_ne (fun z => by rw [z, n1] at e; cases e), upd_ne (fun z => by rw [z, n2] at e; cases e)]; exact e
  have nbx : bg ≠ some x := fun e => nb x e n1
  have X := fun Hc => goodB (c := c) (S := S) (a := anI K bg cls F Hc) (E := E) (H := upd (upd H0 dx (.own x)) x (.ins C dx [])) (outer := outer) (cdv := cdv) (qual := qual) (fa := fa) sc hc gu hr fns gls bs ob rfl rfl fun _ p hp => by simpa using hp
  refine ⟨_, (PSs.nox (pb_W (X := (cxOf CX0 P w K mg base N qual (defScope st) fa cdv A outer s (upd (upd H0 dx (.own x)) x (.ins C dx [])) E).nox))), ?_⟩
  refine init_go (dx := dx) (H0 := upd (upd H0 dx (.own x)) x (.ins C dx [])) X hcl (fx x n1) nbx nd na small upd_same (fun ds' Hc H' F' Sc Sm ρ σ us hP w2 hx2 lu il2 hk => ?_) ts _ _ (none :: ((ds.map T.leaf).map some ++ List.replicate (N.length - (ds.length + 1)) none)) (start N (.ref x :: ws)) ck ⟨F, [], [], ⟨fun p o e => old p o (sub p o e), Gw.refl _ _ _, fun b hb => ⟨?_, ?_⟩, fun b hb => ?_, ?_, by simp only [OwL]; exact ⟨trivial, trivial⟩, by simp, by simp, ?_, by simp, by simp⟩⟩ rfl q
  · have inM : x ∉ (anI K bg cls F Hc).M := not_mem_bg nbx
    have hx3 : H' x = some (.ins C dx ((fs.map (·.1)).zip us)) := w2.gw.hh x _ inM hx2
    have fx2 : F' x = none := w2.gw.nn x (by show Hc x ≠ none; rw [hx2]; simp) (fx x n1)
    have s2 : Sub F' (fun p => if p = x then H' x else F' p) := fun p o e => by
      show (if p = x then H' x else F' p) = some o
      rw [if_neg fun z => by rw [z, fx2] at e; cases e]; exact e
    have oldc : ∀ p o, H0 p = some o → Hc p = some o := fun p o e => by
      have z : p ≠ x := fun z => by rw [z, n1] at e; cases e
      rw [hk p z]; exact old p o e
    refine hP (fun p => if p = x then H' x else F' p) H' (fun p o e => ?_) ⟨w2.gw.ff.trans s2, fun p o hp e => w2.gw.hh p o hp (oldc p o e), fun p h1 h2 => ?_, fun p h1 => ?_⟩ (fun b hb => ?_) ?_
    · by_cases z : p = x
      · have e : (if p = x then H' x else F' p) = some o := e
        rw [if_pos z] at e; rw [z]; exact e
      · have e : (if p = x then H' x else F' p) = some o := e
        rw [if_neg z] at e; exact w2.sub p o e
    · show (if p = x then H' x else F' p) = none
      have z : p ≠ x := fun z => by rw [z] at h1; exact h1 n1
      rw [if_neg z]
      refine w2.gw.nn p ?_ h2
      cases e : H0 p with
      | none => exact absurd e h1
      | some o => show Hc p ≠ none; rw [oldc p o e]; simp
    · cases e : H0 p with
      | none => exact absurd e h1
      | some o => exact w2.gw.th p (by show Hc p ≠ none; rw [oldc p o e]; simp)
    · obtain ⟨b1, xx, yy, zz, cc, ns, b2, b3, b4⟩ := w2.bag b hb
      have z : b ≠ x := fun z => nbx (by rw [← z]; exact hb)
      exact ⟨by show (if b = x then H' x else F' b) = none; rw [if_neg z]; exact b1, xx, yy, zz, cc, ns, b2, s2 _ _ b3, b4⟩
    · simp only [Ow, Is]
      exact ⟨trivial, x, C, fs.map (·.1), dx, us, rfl, hC, lu.symm, by show (if x = x then H' x else F' x) = _; rw [if_pos rfl]; exact hx3, IsL.mono s2 il2⟩
  · have hb : bg = some b := hb
    simp [hb]
  · show upd (upd H0 dx (.own x)) x (.ins C dx []) b ≠ none
    cases e : H0 b with
    | none => exact absurd e (nb b hb)
    | some o => rw [old b o e]; simp
  · obtain ⟨b1, xx, yy, zz, cc, ns, b2, b3⟩ := bag b hb
    exact ⟨b1, xx, yy, zz, cc, ns, old _ _ b2, b3⟩
  · show OwC _ _ _ (none :: _) (start N (.ref x :: ws)) []
    simp only [OwC]
    unfold L2.start
    rw [List.map_cons, List.cons_append, List.tail_cons, List.length_cons, vl]
    exact owc_start il
  · unfold L2.start
    simp [vl]
end
/-! ### lists of promises -/
section
variable (P : Program) (w : World) (K : PySem.W.Frag) (mg : Str → Option Value) (base : Heap) (cls : Nat → Option (Addr × List Str)) (k : Nat)
def MtP (q : Nat × Str) (f : SpecF) : Prop := (∃ (C fa : Addr) (ns : List Str) (fd : FuncData) (ps : List Str), cls q.1 = some (C, ns) ∧ q.2 ∉ ns ∧ Cls K C ∧ Meth K C q.2 fa ∧ FnG P w K mg base CX0 k fa fd ps (spD K cls f) ∧ Binds K fd ps []) ∧ Mono f
def PrP (q : Nat × Str) (f : SpecF) : Prop := (∃ (C fa p : Addr) (ns : List Str) (fd : FuncData) (j : Nat) (ps : List Str), j + 1 ≤ k ∧ cls q.1 = some (C, ns) ∧ Cls K C ∧ PropOf K C q.2 p fa ∧ FnG P w K mg base CX0 j fa fd ps (spD K cls f) ∧ Binds K fd ps []) ∧ Mono f
def NwP (x : Str) (f : SpecF) : Prop := (∃ (C fa : Addr) (cl : Nat) (ns : List Str) (fd : FuncData) (j : Nat) (ps : List Str), j + 1 ≤ k ∧ cls cl = some (C, ns) ∧ Mk K C fa ∧ mg x = some (.ref C) ∧ FnG P w K mg base CX0 j fa fd ps (spI K cls cl f) ∧ Binds K fd ps []) ∧ Mono f
end
section
variable {P : Program} {w : World} {K : PySem.W.Frag} {mg : Str → Option Value} {base : Heap} {cls : Nat → Option (Addr × List Str)} {k j : Nat}
theorem MtP.mono {q : Nat × Str} {f : SpecF} (h : MtP P w K mg base cls j q f) (l : j ≤ k) : MtP P w K mg base cls k q f := ⟨h.1.elim fun C ⟨fa, ns, fd, ps, a, b, c, d, e, g⟩ => ⟨C, fa, ns, fd, ps, a, b, c, d, e.mono l, g⟩, h.2⟩
theorem PrP.mono {q : Nat × Str} {f : SpecF} (h : PrP P w K mg base cls j q f) (l : j ≤ k) : PrP P w K mg base cls k q f := ⟨h.1.elim fun C ⟨fa, p, ns, fd, i, ps, z, r⟩ => ⟨C, fa, p, ns, fd, i, ps, Nat.le_trans z l, r⟩, h.2⟩
theorem NwP.mono {x : Str} {f : SpecF} (h : NwP P w K mg base cls j x f) (l : j ≤ k) : NwP P w K mg base cls k x f := ⟨h.1.elim fun C ⟨fa, cl, ns, fd, i, ps, z, r⟩ => ⟨C, fa, cl, ns, fd, i, ps, Nat.le_trans z l, r⟩, h.2⟩
theorem pl_nil {α β : Type} {R : α → β → Prop} {fs : List β} : ∀ (i : Nat) q f, ([] : List α)[i]? = some q → fs[i]? = some f → R q f := fun i q f h => by simp at h
theorem pl_cons {α β : Type} {R : α → β → Prop} {x : α} {g : β} {ys : List α} {fs : List β} (h : R x g) (r : ∀ (i : Nat) q f, ys[i]? = some q → fs[i]? = some f → R q f) : ∀ (i : Nat) q f, (x :: ys)[i]? = some q → (g :: fs)[i]? = some f → R q f
  | 0, q, f, h1, h2 => by
    simp only [List.getElem?_cons_zero, Option.some.injEq] at h1 h2
    subst h1 h2; exact h
  | i + 1, q, f, h1, h2 => r i q f (by simpa using h1) (by simpa using h2)
theorem obMk {c : Cn} {S : Sg} (m : ∀ (i : Nat) q f, c.ms[i]? = some q → S.ms[i]? = some f → MtP P w K mg base cls k q f) (p : ∀ (i : Nat) q f, c.ps[i]? = some q → S.ps[i]? = some f → PrP P w K mg base cls k q f)
    (n : ∀ (i : Nat) q f, c.nw[i]? = some q → S.nw[i]? = some f → NwP P w K mg base cls k q f) (f : ∀ q ∈ c.fd, ∃ (C : Addr) (ns : List Str), cls q.1 = some (C, ns) ∧ ns[q.2.1]? = some q.2.2 ∧ ns.Nodup ∧ Cls K C ∧ NoAttr K C q.2.2) (ic : ∀ q ∈ c.ic, ∃ (C : Addr) (ns : List Str), cls q.1 = some (C, ns) ∧ mg q.2 = some (.ref C) ∧ C8.InsC K C) : ObB P w K mg base cls k c S := ⟨m, p, n, f, ic⟩
end
section
variable {S : Sg} {ρ ρ' : DL.Env} {Φ : T → Prop} {Ψ : Bool → Prop} {t u v : T} {us xs ys : List T} {ds es : List D} {x1 x2 : D} {b : Bool} {n m : Int} {ns : List Int}
theorem l_lentK (k : Nat) (h : t.dat = .tup ds) (e : Nat.beq ds.length k = true) (q : Φ (.leaf (.int k))) : bltT .len [t] Φ := by
  refine l_lent h ?_
  rw [Nat.eq_of_beq_eq_true e]; exact q
theorem c_ninT (h2 : x2 = .tup ds) (h : (x1.flat && ds.all D.flat) = true) (e : memD x1 ds = b) (k : Ψ (!b)) : cmpD .nin x1 x2 Ψ := by
  subst h2
  rw [Bool.and_eq_true] at h
  exact ⟨h.1, h.2, by rw [e]; exact k⟩
theorem l_suml (h : t.dat = .lst ds) (e : D.toInts ds = some ns) (k : Φ (.leaf (.int ns.sum))) : bltT .sum [t] Φ := by
  simp only [bltT, T.dats, h, bltD]
  exact ⟨ns, e, k⟩
theorem w4_stop : memD (.str "stop") [.str "wish", .str "tie", .str "stop", .str "bar"] = true := by decide +kernel
theorem w4_wish : memD (.str "wish") [.str "wish", .str "tie", .str "stop", .str "bar"] = true := by decide +kernel
theorem w4_bar : memD (.str "bar") [.str "wish", .str "tie", .str "stop", .str "bar"] = true := by decide +kernel
theorem w4_tie : memD (.str "tie") [.str "wish", .str "tie", .str "stop", .str "bar"] = true := by decide +kernel
theorem enm_cons {k : Nat} {d : D} {r ds : List D} (e : d :: r = enumFrom k ds) : ∃ x rest, ds = x :: rest ∧ d = .tup [.int k, x] ∧ r = enumFrom (k + 1) rest := by
  cases ds with
  | nil => simp [enumFrom] at e
  | cons x rest =>
    simp only [enumFrom, List.cons.injEq] at e
    exact ⟨x, rest, rfl, e.1, e.2⟩
end
end DL
namespace KT
open PySem PySem.Spec PyProof.Rows L2 DL
local macro_rules | `(tactic| trace_state) => `(tactic| repeat' first | (with_reducible show w _ _ _ _; first | with_reducible refine w_nm (by with_unfolding_all exact rfl) ?_ | with_reducible refine w_ix ?_ | with_reducible refine w_int ?_ | with_reducible refine w_bin ?_ | with_reducible refine w_cmp ?_ | with_reducible refine w_call (by with_unfolding_all exact rfl) ?_ | with_reducible refine w_blt ?_ | with_reducible refine w_ow (by with_unfolding_all exact rfl) ?_ | with_reducible refine w_tup ?_ | with_reducible refine w_lst ?_ | with_reducible refine w_str ?_ | with_reducible refine w_neg ?_ | with_reducible refine w_ife ?_ | with_reducible refine w_sl ?_ | with_reducible refine w_and ?_ | with_reducible refine w_one ?_ | with_reducible refine w_or ?_ | with_reducible refine w_not ?_ | with_reducible refine w_bl ?_ | with_reducible refine w_non ?_ | with_reducible refine w_gl (by with_unfolding_all exact rfl) ?_ | with_reducible refine w_chn ?_ | with_reducible refine w_lc (by with_unfolding_all exact rfl) ?_ | with_reducible refine w_fld ?_ | with_reducible refine w_mth (by with_unfolding_all exact rfl) ?_ | with_reducible refine w_mt0 (by with_unfolding_all exact rfl) ?_ | with_reducible refine w_prp (by with_unfolding_all exact rfl) ?_ | with_reducible refine w_new (by with_unfolding_all exact rfl) ?_ | with_reducible refine w_isi ?_ | with_reducible refine w_lr1 ?_ | with_reducible refine w_lr2 ?_) | (with_reducible show wa _ _ _ _; first | with_reducible refine wa_cons ?_ | with_reducible refine wa_nil ?_) | (with_reducible show wv _ _ _ _; first | with_reducible refine wv_cons ?_ | with_reducible refine wv_nil ?_) | (with_reducible show T.fin _ _; first | with_reducible refine fin_leaf (by with_unfolding_all exact rfl) ?_ | with_reducible refine fin_mk (by with_unfolding_all exact rfl) ?_ | with_reducible refine fin_lst (by with_unfolding_all exact rfl) ?_ | with_reducible refine fin_tup (by with_unfolding_all exact rfl) ?_) | (with_reducible show And _ _; first | with_reducible refine and_len (by with_unfolding_all exact rfl) ?_) | (with_reducible show frozs _ _ _; first | with_reducible refine fz_nil ?_ | with_reducible refine fz_cons ?_) | (with_reducible show T.froz _ _ _; first | with_reducible refine fz_leaf (by with_unfolding_all exact rfl) ?_ | with_reducible refine fz_lst (by with_unfolding_all exact rfl) (by with_unfolding_all exact rfl) ?_ | with_reducible refine fz_tup (by with_unfolding_all exact rfl) (by with_unfolding_all exact rfl) ?_ | with_reducible refine fz_vw (by with_unfolding_all exact rfl) (by with_unfolding_all exact rfl) ?_) | (with_reducible show ixT _ _ _; first | with_reducible refine ix_lt (by with_unfolding_all exact rfl) (by with_unfolding_all exact rfl) (by with_unfolding_all exact at_getD (by assumption)) ?_ | with_reducible refine ix_lt (by with_unfolding_all exact rfl) (by with_unfolding_all exact rfl) (by with_unfolding_all exact rfl) ?_ | with_reducible refine ix_lst (by with_unfolding_all exact rfl) (by with_unfolding_all exact rfl) (by with_unfolding_all exact rfl) ?_ | with_reducible refine ix_ll (by with_unfolding_all exact rfl) (by with_unfolding_all exact rfl) (by with_unfolding_all exact rfl) ?_ | with_reducible refine ix_vli (by with_unfolding_all exact rfl) (by with_unfolding_all exact rfl) (by with_unfolding_all exact rfl) ?_ | with_reducible refine ix_vll (by with_unfolding_all exact rfl) (by with_unfolding_all exact rfl) (by with_unfolding_all exact rfl) ?_ | with_reducible refine ix_tup (by with_unfolding_all exact rfl) (by with_unfolding_all exact rfl) (by with_unfolding_all exact rfl) ?_ | with_reducible refine ix_vti (by with_unfolding_all exact rfl) (by with_unfolding_all exact rfl) (by with_unfolding_all exact rfl) ?_ | with_reducible refine ix_vlt (by with_unfolding_all exact rfl) (by with_unfolding_all exact rfl) (by with_unfolding_all exact rfl) ?_ | with_reducible refine ix_vtl (by with_unfolding_all exact rfl) (by with_unfolding_all exact rfl) (by with_unfolding_all exact rfl) ?_ | with_reducible refine ix_vls (by with_unfolding_all exact rfl) (by with_unfolding_all exact rfl) (by with_unfolding_all exact rfl) ?_) | (with_reducible show DL.binT _ _ _ _; first | with_reducible refine b_add (by with_unfolding_all exact rfl) (by with_unfolding_all exact rfl) ?_ | with_reducible refine b_sub (by with_unfolding_all exact rfl) (by with_unfolding_all exact rfl) ?_ | with_reducible refine b_mul (by with_unfolding_all exact rfl) (by with_unfolding_all exact rfl) (by with_unfolding_all exact mulR ⟨by decide, by decide⟩) ?_ | with_reducible refine b_mul (by with_unfolding_all exact rfl) (by with_unfolding_all exact rfl) (by with_unfolding_all exact mulL ⟨by decide, by decide⟩) ?_ | with_reducible refine b_mul (by with_unfolding_all exact rfl) (by with_unfolding_all exact rfl) (by with_unfolding_all exact mulL ⟨by omega, by omega⟩) ?_ | with_reducible refine b_mul (by with_unfolding_all exact rfl) (by with_unfolding_all exact rfl) (by with_unfolding_all exact mulR ⟨by omega, by omega⟩) ?_ | with_reducible refine b_mul (by with_unfolding_all exact rfl) (by with_unfolding_all exact rfl) ?_ ?_ | with_reducible refine b_p18 (by with_unfolding_all exact rfl) (by with_unfolding_all exact rfl) ?_ | with_reducible refine b_p9 (by with_unfolding_all exact rfl) (by with_unfolding_all exact rfl) ?_ | with_reducible refine b_p38 (by with_unfolding_all exact rfl) (by with_unfolding_all exact rfl) ?_ | with_reducible refine b_p17 (by with_unfolding_all exact rfl) (by with_unfolding_all exact rfl) ?_ | with_reducible refine b_p40 (by with_unfolding_all exact rfl) (by with_unfolding_all exact rfl) ?_ | with_reducible refine b_p39 (by with_unfolding_all exact rfl) (by with_unfolding_all exact rfl) ?_ | with_reducible refine b_p21 (by with_unfolding_all exact rfl) (by with_unfolding_all exact rfl) ?_ | with_reducible refine b_p20 (by with_unfolding_all exact rfl) (by with_unfolding_all exact rfl) ?_ | with_reducible refine b_p6 (by with_unfolding_all exact rfl) (by with_unfolding_all exact rfl) ?_ | with_reducible refine b_pow (by with_unfolding_all exact rfl) (by with_unfolding_all exact rfl) (by with_unfolding_all decide) ?_ | with_reducible refine b_mod (by with_unfolding_all exact rfl) (by with_unfolding_all exact rfl) (by with_unfolding_all (first | decide | assumption | omega)) ?_ | with_reducible refine b_mod (by with_unfolding_all exact rfl) (by with_unfolding_all exact rfl) ?_ ?_ | with_reducible refine b_fdiv (by with_unfolding_all exact rfl) (by with_unfolding_all exact rfl) (by with_unfolding_all exact ⟨by decide, by decide⟩) ?_ | with_reducible refine b_fdiv (by with_unfolding_all exact rfl) (by with_unfolding_all exact rfl) (by with_unfolding_all exact ⟨by assumption, by assumption⟩) ?_ | with_reducible refine b_fdiv (by with_unfolding_all exact rfl) (by with_unfolding_all exact rfl) ?_ ?_ | with_reducible refine b_catL (by with_unfolding_all exact rfl) (by with_unfolding_all exact rfl) (by with_unfolding_all exact rfl) ?_) | (with_reducible show cmpD _ _ _ _; first | with_reducible refine c_eq (by with_unfolding_all exact rfl) (by with_unfolding_all exact rfl) ?_ | with_reducible refine c_ne (by with_unfolding_all exact rfl) (by with_unfolding_all exact rfl) ?_ | with_reducible refine c_lt (by with_unfolding_all exact rfl) (by with_unfolding_all exact rfl) ?_ | with_reducible refine c_le (by with_unfolding_all exact rfl) (by with_unfolding_all exact rfl) ?_ | with_reducible refine c_gt (by with_unfolding_all exact rfl) (by with_unfolding_all exact rfl) ?_ | with_reducible refine c_ge (by with_unfolding_all exact rfl) (by with_unfolding_all exact rfl) ?_ | with_reducible refine c_nes (by with_unfolding_all exact rfl) (by with_unfolding_all exact rfl) ?_ | with_reducible refine c_eqs (by with_unfolding_all exact rfl) (by with_unfolding_all exact rfl) ?_ | with_reducible refine c_inT (by with_unfolding_all exact rfl) (by with_unfolding_all exact rfl) (by with_unfolding_all (first | exact tb_stop | exact tb_wish | exact tb_bar | exact tb_tie | exact wt_stop | exact wt_wish | exact wt_bar | exact wt_tie)) ?_ | with_reducible refine c_ninT (by with_unfolding_all exact rfl) (by with_unfolding_all exact rfl) (by with_unfolding_all (first | exact w4_stop | exact w4_wish | exact w4_bar | exact w4_tie)) ?_ | with_reducible refine c_isT (by with_unfolding_all exact rfl) (by with_unfolding_all exact rfl) ?_ | with_reducible refine c_isF (by with_unfolding_all exact rfl) (by with_unfolding_all exact rfl) ?_ | with_reducible refine c_notT (by with_unfolding_all exact rfl) (by with_unfolding_all exact rfl) ?_ | with_reducible refine c_notF (by with_unfolding_all exact rfl) (by with_unfolding_all exact rfl) ?_) | (with_reducible show wt _ _ _ _; first | with_reducible refine wt_cmp ?_ | with_reducible refine wt_not ?_ | with_reducible refine wt_val ?_ | with_reducible refine wt_and ?_ | with_reducible refine wt_or ?_ | with_reducible refine wt_one ?_ | with_reducible refine wt_chn ?_) | (with_reducible show @ite _ _ _ _ _; first | with_reducible refine ite_t ?_ | with_reducible refine ite_f ?_ | with_reducible refine ite_nt ?_ | with_reducible refine ite_nf ?_ | with_reducible refine ite_decT (by decide) ?_ | with_reducible refine ite_decF (by decide) ?_ | with_reducible refine ite_dec (fun _ => ?_) (fun _ => ?_) | with_reducible refine ite_ndecT (by with_unfolding_all exact rfl) ?_ | with_reducible refine ite_ndec (fun _ => ?_) (fun _ => ?_)) | (with_reducible show wb _ _ _ _; first | with_reducible refine wb_asg ?_ | with_reducible refine wb_ite ?_ | with_reducible refine wb_ret ?_ | with_reducible refine wb_nil ?_ | with_reducible refine wb_for ?_ | with_reducible refine wb_asgLc (by with_unfolding_all exact rfl) (by with_unfolding_all exact rfl) ?_ | with_reducible refine wb_setix (by with_unfolding_all exact rfl) ?_ | with_reducible refine wb_augix (by with_unfolding_all exact rfl) ?_ | with_reducible refine wb_aug (by with_unfolding_all exact rfl) (by with_unfolding_all exact rfl) ?_ | with_reducible refine wb_ex ?_ | with_reducible refine wb_fz (by with_unfolding_all exact rfl) (by with_unfolding_all exact rfl) ?_ | with_reducible refine wb_pass ?_ | with_reducible refine wb_brk ?_ | with_reducible refine wb_cont ?_ | with_reducible refine wb_retN ?_ | with_reducible refine wb_par2 (by with_unfolding_all decide) (by with_unfolding_all exact rfl) (by with_unfolding_all exact rfl) ?_ | with_reducible refine wb_app (by with_unfolding_all exact rfl) (by with_unfolding_all (simp; done)) ?_ | with_reducible refine wb_app (by with_unfolding_all exact rfl) ?_ ?_) | (with_reducible show Exists _; first | with_reducible refine bind_nm (by with_unfolding_all exact rfl) ?_ | with_reducible refine bind_pair (by with_unfolding_all exact rfl) (by with_unfolding_all exact rfl) (by with_unfolding_all exact rfl) ?_ | with_reducible refine bind_5 (by with_unfolding_all exact rfl) (by with_unfolding_all exact rfl) ?_ | with_reducible refine ex_int (by with_unfolding_all exact rfl) ?_ | with_reducible refine ex_bl (by with_unfolding_all exact rfl) ?_ | with_reducible refine ex_isT (by with_unfolding_all exact rfl) ?_ | with_reducible refine set_to (by with_unfolding_all exact rfl) (by with_unfolding_all exact rfl) ?_ | with_reducible refine aug_to (by with_unfolding_all exact rfl) (by with_unfolding_all exact rfl) (by with_unfolding_all exact rfl) ?_ | with_reducible refine ex_rg1 (by with_unfolding_all exact rfl) (by with_unfolding_all (unfold RgS; omega)) ?_ | with_reducible refine ex_rg2 (by with_unfolding_all exact rfl) (by with_unfolding_all exact rfl) (by with_unfolding_all (unfold RgS; omega)) ?_) | (with_reducible show bltT _ _ _; first | with_reducible refine l_lens (by with_unfolding_all exact rfl) ?_ | with_reducible refine l_len (by with_unfolding_all exact rfl) ?_ | with_reducible refine l_lentK 4 (by with_unfolding_all exact rfl) (by with_unfolding_all exact rfl) ?_ | with_reducible refine l_lentK 5 (by with_unfolding_all exact rfl) (by with_unfolding_all exact rfl) ?_ | with_reducible refine l_lentK 6 (by with_unfolding_all exact rfl) (by with_unfolding_all exact rfl) ?_ | with_reducible refine l_lent (by with_unfolding_all exact rfl) ?_ | with_reducible refine l_abs (by with_unfolding_all exact rfl) ?_ | with_reducible refine l_max2 (by with_unfolding_all exact rfl) (by with_unfolding_all exact rfl) ?_ | with_reducible refine l_min2 (by with_unfolding_all exact rfl) (by with_unfolding_all exact rfl) ?_ | with_reducible refine l_max3 (by with_unfolding_all exact rfl) (by with_unfolding_all exact rfl) (by with_unfolding_all exact rfl) ?_ | with_reducible refine l_intT (by with_unfolding_all exact rfl) ?_ | with_reducible refine l_intF (by with_unfolding_all exact rfl) ?_ | with_reducible refine l_intD (by with_unfolding_all exact rfl) (fun _ => ?_) (fun _ => ?_)) | (with_reducible show slT _ _ _ _; first | with_reducible refine sl_lt (by with_unfolding_all exact rfl) (by with_unfolding_all exact rfl) ?_) | (with_reducible show tru _ _; first | with_reducible refine t_bl (by with_unfolding_all exact rfl) ?_) | (with_reducible show augD _ _ _ _; first | with_reducible refine a_add (by with_unfolding_all exact rfl) (by with_unfolding_all exact rfl) ?_ | with_reducible refine a_sub (by with_unfolding_all exact rfl) (by with_unfolding_all exact rfl) ?_) | (with_reducible show wo _ _ _ _; first | with_reducible refine wo_nop ?_ | with_reducible refine wo_prt ?_) | (with_reducible show wi _ _ _ _; first | with_reducible refine wi_rng ?_ | with_reducible refine wi_sq ?_ | with_reducible refine wi_zip ?_ | with_reducible refine wi_enm ?_) | (with_reducible show wc _ _ _ _; first | with_reducible refine wc_nop ?_ | with_reducible refine wc_one ?_))
abbrev n_is_integer : List Str := ["thing"]
def b_is_integer : DL.B := (.ret (.and (.isi .int (.nm 0)) (.one (.not (.isi .bool (.nm 0))))) .nil)
abbrev n_is_between : List Str := ["thing", "low", "high"]
def b_is_between : DL.B := (.ret (.and (.call 0 (.cons (.nm 0) .nil)) (.one (.chn .le .le (.nm 1) (.nm 0) (.nm 2)))) .nil)
abbrev n_is_value : List Str := ["thing"]
def b_is_value : DL.B := (.ret (.call 0 (.cons (.nm 0) (.cons (.neg (.gl 0)) (.cons (.gl 0) .nil)))) .nil)
abbrev n_is_force : List Str := ["thing"]
def b_is_force : DL.B := (.ret (.call 0 (.cons (.nm 0) (.cons (.int 1) (.cons (.gl 0) .nil)))) .nil)
abbrev n_is_term : List Str := ["thing", "size", "dials", "pulling", "low", "high", "dial"]
def b_is_term : DL.B := (.ite (.or (.not (.val (.isi .tuple (.nm 0)))) (.or (.cmp .lt (.blt .len (.cons (.nm 0) .nil)) (.int 4)) (.or (.not (.val (.isi .str (.ix (.nm 0) (.int 0))))) (.one (.cmp .nin (.ix (.nm 0) (.int 0)) (.gl 0)))))) (.ret (.bl false) .nil) .nil (.par2 2 3 (.bin .add (.int 1) (.blt .int (.cons (.cmp .inn (.ix (.nm 0) (.int 0)) (.tup (.cons (.str "tie") (.cons (.str "bar") .nil)))) .nil))) (.cmp .inn (.ix (.nm 0) (.int 0)) (.tup (.cons (.str "wish") (.cons (.str "tie") .nil)))) (.ite (.cmp .ne (.blt .len (.cons (.nm 0) .nil)) (.bin .add (.bin .add (.int 3) (.nm 2)) (.blt .int (.cons (.nm 3) .nil)))) (.ret (.bl false) .nil) .nil (.ite (.not (.val (.blt .all (.cons (.lc [6] (.nm 6) (.sq (.sl (.nm 0) (.prt (.int 1)) (.prt (.bin .add (.int 1) (.nm 2))))) .nop (.call 0 (.cons (.nm 6) (.cons (.int 0) (.cons (.bin .sub (.nm 1) (.int 1)) .nil))))) .nil)))) (.ret (.bl false) .nil) .nil (.ite (.and (.cmp .eq (.nm 2) (.int 2)) (.one (.cmp .eq (.ix (.nm 0) (.int 1)) (.ix (.nm 0) (.int 2))))) (.ret (.bl false) .nil) .nil (.asg (.cons (.nm 4) (.cons (.nm 5) .nil)) (.sl (.nm 0) (.prt (.bin .add (.int 1) (.nm 2))) (.prt (.bin .add (.int 3) (.nm 2)))) (.ite (.or (.not (.val (.call 1 (.cons (.nm 4) .nil)))) (.or (.not (.val (.call 1 (.cons (.nm 5) .nil)))) (.one (.cmp .gt (.nm 4) (.nm 5))))) (.ret (.bl false) .nil) .nil (.ret (.or (.not (.nm 3)) (.one (.call 2 (.cons (.ix (.nm 0) (.neg (.int 1))) .nil)))) .nil))))))))
abbrev n_Board_init_ : List Str := ["self", "size", "terms", "term"]
def ts_Board_init_ : List I := [(.not (.val (.call 0 (.cons (.nm 1) (.cons (.int 1) (.cons (.gl 0) .nil)))))), (.or (.not (.val (.isi .list (.nm 2)))) (.or (.cmp .gt (.blt .len (.cons (.nm 2) .nil)) (.gl 1)) (.one (.not (.val (.blt .all (.cons (.lc [3] (.nm 3) (.sq (.nm 2)) .nop (.call 1 (.cons (.nm 3) (.cons (.nm 1) .nil)))) .nil)))))))]
def fs_Board_init_ : List (Str × I) := [("dial_count", (.nm 1)), ("term_list", (.blt .list (.cons (.nm 2) .nil)))]
abbrev n_Board_left : List Str := ["self", "standing", "at", "term"]
def b_Board_left : DL.B := (.for_ (.cons (.nm 2) (.cons (.nm 3) .nil)) (.enm (.cons (.fld 0 1 (.nm 0)) .nil)) (.ite (.and (.not (.val (.call 2 (.cons (.nm 3) .nil)))) (.one (.cmp .gt (.call 0 (.cons (.nm 3) (.cons (.call 1 (.cons (.nm 3) (.cons (.nm 1) .nil))) .nil))) (.int 0)))) (.ret (.nm 2) .nil) .nil .nil) (.ret .non .nil))
abbrev n_Board_strain : List Str := ["self", "standing", "pulling", "term"]
def b_Board_strain : DL.B := (.ite (.cmp .notN (.mth 0 0 (.nm 0) (.cons (.nm 1) .nil)) .non) (.ret .non .nil) .nil (.asgLc 2 [3] (.nm 3) (.sq (.fld 0 1 (.nm 0))) (.one (.val (.call 0 (.cons (.nm 3) .nil)))) (.nm 3) (.fz 2 (.ret (.blt .sum (.cons (.lc [3] (.nm 3) (.sq (.nm 2)) .nop (.bin .mul (.call 1 (.cons (.nm 3) .nil)) (.call 2 (.cons (.nm 3) (.cons (.call 3 (.cons (.nm 3) (.cons (.nm 1) .nil))) .nil))))) .nil)) .nil))))
abbrev n_law_terms : List Str := ["_law_bag_here", "_law_standing_here", "_law_scale", "_law_many", "_law_stops", "_law_most", "_law_one"]
def b_law_terms : DL.B := (.asg (.nm 5) (.ix (.lst (.cons (.int 1) (.cons (.int 3) (.cons (.int 30) .nil)))) (.call 0 (.cons (.nm 0) (.cons (.int 3) .nil)))) (.ret (.lc [6] (.nm 6) (.rng (.cons (.call 0 (.cons (.nm 0) (.cons (.bin .add (.nm 3) (.int 1)) .nil))) .nil)) .nop (.call 1 (.cons (.nm 0) (.cons (.nm 1) (.cons (.nm 2) (.cons (.nm 5) (.cons (.nm 4) .nil))))))) .nil))
abbrev n_law_left : List Str := ["_law_terms_here", "_law_standing_here", "_law_at", "_law_far_here", "_law_force"]
def b_law_left : DL.B := (.for_ (.nm 2) (.rng (.cons (.blt .len (.cons (.nm 0) .nil)) .nil)) (.par2 3 4 (.call 0 (.cons (.ix (.nm 0) (.nm 2)) (.cons (.call 1 (.cons (.ix (.nm 0) (.nm 2)) (.cons (.nm 1) .nil))) .nil))) (.ix (.call 2 (.cons (.ix (.nm 0) (.nm 2)) .nil)) (.int 4)) (.ite (.and (.cmp .isN (.nm 4) .non) (.one (.cmp .gt (.nm 3) (.int 0)))) (.ret (.nm 2) .nil) .nil .nil)) (.ret .non .nil))
abbrev n_law_strain : List Str := ["_law_terms_here", "_law_standing_here", "_law_total", "_law_term_here", "_law_far_here", "_law_force"]
def b_law_strain : DL.B := (.asg (.nm 2) (.int 0) (.for_ (.nm 3) (.sq (.nm 0)) (.par2 4 5 (.call 0 (.cons (.nm 3) (.cons (.call 1 (.cons (.nm 3) (.cons (.nm 1) .nil))) .nil))) (.ix (.call 2 (.cons (.nm 3) .nil)) (.int 4)) (.ite (.and (.cmp .isN (.nm 5) .non) (.one (.cmp .gt (.nm 4) (.int 0)))) (.ret .non .nil) .nil (.ite (.cmp .notN (.nm 5) .non) (.aug .add 2 (.bin .mul (.nm 5) (.nm 4)) .nil) .nil .nil))) (.ret (.nm 2) .nil)))
theorem l_allT {Φ : T → Prop} {t : T} {ds : List DL.D} {bs : List Bool} (h : t.dat = .lst ds) (e : D.toBls ds = some bs) (e2 : bs.all id = true) (k : Φ (.leaf (.bl true))) : bltT .all [t] Φ := by
  refine l_all h e ?_
  rw [e2]; exact k
/-! ### kinds -/
def F_is_integer : SpecF := fnF (fun a : Int => [.int a]) (fun _ => True) (fun _ => .bl true)
theorem M_is_integer : Mono F_is_integer := fnM _ _ _
def S_is_integer : Sg := { z := true, fs := [], gs := [] }
theorem W_is_integer : WOk S_is_integer n_is_integer b_is_integer F_is_integer 1 := by
  rintro ds Φ ⟨a, rfl, -, k⟩
  refine ⟨rfl, ?_⟩
  unfold b_is_integer
  trace_state
  exact k
def F_is_between : SpecF := fnF (fun x : Int × Int × Int => [.int x.1, .int x.2.1, .int x.2.2]) (fun _ => True) (fun x => .bl (decide (x.2.1 ≤ x.1 ∧ x.1 ≤ x.2.2)))
theorem M_is_between : Mono F_is_between := fnM _ _ _
def S_is_between : Sg := { z := true, fs := [F_is_integer], gs := [] }
theorem W_is_between : WOk S_is_between n_is_between b_is_between F_is_between 3 := by
  rintro ds Φ ⟨⟨a, l, h⟩, rfl, -, k⟩
  refine ⟨rfl, ?_⟩
  unfold b_is_between
  trace_state
  refine ⟨a, rfl, trivial, ?_⟩
  trace_state
  · rename_i c
    have e : decide (l ≤ a ∧ a ≤ h) = decide (a ≤ h) := by simp [show l ≤ a from c]
    simp only [e] at k
    exact k
  · rename_i c
    have e : decide (l ≤ a ∧ a ≤ h) = false := by simp only [decide_eq_false_iff_not]; exact fun z => c z.1
    simp only [e] at k
    exact k
def F_is_value : SpecF := fnF (fun a : Int => [.int a]) (fun _ => True) (fun a => .bl (decide (-(10 ^ 18) ≤ a ∧ a ≤ 10 ^ 18)))
theorem M_is_value : Mono F_is_value := fnM _ _ _
def S_is_value : Sg := { z := true, fs := [F_is_between], gs := [.int (10 ^ 18)] }
theorem W_is_value : WOk S_is_value n_is_value b_is_value F_is_value 1 := by
  rintro ds Φ ⟨a, rfl, -, k⟩
  refine ⟨rfl, ?_⟩
  unfold b_is_value
  trace_state
  refine ⟨(a, -(10 ^ 18), 10 ^ 18), rfl, trivial, ?_⟩
  trace_state
  exact k
def F_is_force : SpecF := fnF (fun a : Int => [.int a]) (fun _ => True) (fun a => .bl (decide (1 ≤ a ∧ a ≤ 30)))
theorem M_is_force : Mono F_is_force := fnM _ _ _
def S_is_force : Sg := { z := true, fs := [F_is_between], gs := [.int 30] }
theorem W_is_force : WOk S_is_force n_is_force b_is_force F_is_force 1 := by
  rintro ds Φ ⟨a, rfl, -, k⟩
  refine ⟨rfl, ?_⟩
  unfold b_is_force
  trace_state
  refine ⟨(a, 1, 30), rfl, trivial, ?_⟩
  trace_state
  exact k
def words4 : DL.D := .tup [.str "wish", .str "tie", .str "stop", .str "bar"]
def F_is_term : SpecF := fnF (fun x : Tm × Nat => [x.1.D, .int x.2]) (fun x => x.1.Ok x.2 30) (fun _ => .bl true)
theorem M_is_term : Mono F_is_term := fnM _ _ _
def S_is_term : Sg := { z := true, fs := [F_is_between, F_is_value, F_is_force], gs := [words4] }
theorem W_is_term : WOk S_is_term n_is_term b_is_term F_is_term 2 := by
  rintro ds Φ ⟨⟨t, n⟩, rfl, ok, k⟩
  refine ⟨rfl, ?_⟩
  have ok : t.Ok n 30 := ok
  have hb := ok.2.1
  unfold b_is_term
  rcases t with ⟨d, l, h⟩ | ⟨d, l, h, f⟩ | ⟨d, o, l, h⟩ | ⟨d, o, l, h, f⟩
  · have hb : -(10 ^ 18) ≤ l ∧ l ≤ h ∧ h ≤ 10 ^ 18 := hb
    have hv : (-(10 ^ 18) ≤ l ∧ l ≤ 10 ^ 18) ∧ -(10 ^ 18) ≤ h ∧ h ≤ 10 ^ 18 := ⟨⟨hb.1, by omega⟩, by omega, hb.2.2⟩
    have hd : d < n := ok.1
    trace_state
    refine ⟨_, rfl, Nat.le_of_ble_eq_true rfl, lcW_map (fun _ => .leaf (.bl true)) (fun x hx Ψ hΨ => ?_) ?_⟩
    · have hx : x ∈ [DL.D.int d] := hx
      have hx : ∃ j : Nat, x = .int j ∧ j < n := by
        simp only [List.mem_cons, List.not_mem_nil, or_false] at hx
        exact ⟨d, hx, hd⟩
      obtain ⟨j, rfl, hj⟩ := hx
      trace_state
      refine ⟨(j, 0, n - 1), rfl, trivial, ?_⟩
      simp only [decide_eq_true (show (0 : Int) ≤ j ∧ (j : Int) ≤ n - 1 from ⟨by omega, by omega⟩)]
      trace_state
      exact hΨ
    trace_state
    refine l_allT (bs := [true]) rfl rfl rfl ?_
    trace_state
    refine ⟨l, rfl, trivial, ?_⟩
    simp only [decide_eq_true (show -(10 ^ 18) ≤ l ∧ l ≤ 10 ^ 18 from hv.1)]
    trace_state
    refine ⟨h, rfl, trivial, ?_⟩
    simp only [decide_eq_true (show -(10 ^ 18) ≤ h ∧ h ≤ 10 ^ 18 from hv.2)]
    trace_state
    · exfalso; have := hb.2.1; omega
    · exact k
  · have hb : -(10 ^ 18) ≤ l ∧ l ≤ h ∧ h ≤ 10 ^ 18 := hb
    have hv : (-(10 ^ 18) ≤ l ∧ l ≤ 10 ^ 18) ∧ -(10 ^ 18) ≤ h ∧ h ≤ 10 ^ 18 := ⟨⟨hb.1, by omega⟩, by omega, hb.2.2⟩
    have hd : d < n := ok.1
    have hf : 1 ≤ f ∧ f ≤ 30 := ok.2.2
    trace_state
    refine ⟨_, rfl, Nat.le_of_ble_eq_true rfl, lcW_map (fun _ => .leaf (.bl true)) (fun x hx Ψ hΨ => ?_) ?_⟩
    · have hx : x ∈ [DL.D.int d] := hx
      have hx : ∃ j : Nat, x = .int j ∧ j < n := by
        simp only [List.mem_cons, List.not_mem_nil, or_false] at hx
        exact ⟨d, hx, hd⟩
      obtain ⟨j, rfl, hj⟩ := hx
      trace_state
      refine ⟨(j, 0, n - 1), rfl, trivial, ?_⟩
      simp only [decide_eq_true (show (0 : Int) ≤ j ∧ (j : Int) ≤ n - 1 from ⟨by omega, by omega⟩)]
      trace_state
      exact hΨ
    trace_state
    refine l_allT (bs := [true]) rfl rfl rfl ?_
    trace_state
    refine ⟨l, rfl, trivial, ?_⟩
    simp only [decide_eq_true (show -(10 ^ 18) ≤ l ∧ l ≤ 10 ^ 18 from hv.1)]
    trace_state
    refine ⟨h, rfl, trivial, ?_⟩
    simp only [decide_eq_true (show -(10 ^ 18) ≤ h ∧ h ≤ 10 ^ 18 from hv.2)]
    trace_state
    · exfalso; have := hb.2.1; omega
    · refine ⟨f, rfl, trivial, ?_⟩
      simp only [decide_eq_true hf]
      trace_state
      exact k
  · have hb : -(10 ^ 18) ≤ l ∧ l ≤ h ∧ h ≤ 10 ^ 18 := hb
    have hv : (-(10 ^ 18) ≤ l ∧ l ≤ 10 ^ 18) ∧ -(10 ^ 18) ≤ h ∧ h ≤ 10 ^ 18 := ⟨⟨hb.1, by omega⟩, by omega, hb.2.2⟩
    have hd : d < n := ok.1.1
    have ho : o < n := ok.1.2
    have hne : d ≠ o := ok.2.2
    trace_state
    refine ⟨_, rfl, Nat.le_of_ble_eq_true rfl, lcW_map (fun _ => .leaf (.bl true)) (fun x hx Ψ hΨ => ?_) ?_⟩
    · have hx : x ∈ [DL.D.int d, .int o] := hx
      have hx : ∃ j : Nat, x = .int j ∧ j < n := by
        simp only [List.mem_cons, List.not_mem_nil, or_false] at hx
        rcases hx with rfl | rfl
        · exact ⟨d, rfl, hd⟩
        · exact ⟨o, rfl, ho⟩
      obtain ⟨j, rfl, hj⟩ := hx
      trace_state
      refine ⟨(j, 0, n - 1), rfl, trivial, ?_⟩
      simp only [decide_eq_true (show (0 : Int) ≤ j ∧ (j : Int) ≤ n - 1 from ⟨by omega, by omega⟩)]
      trace_state
      exact hΨ
    trace_state
    refine l_allT (bs := [true, true]) rfl rfl rfl ?_
    trace_state
    · exfalso; omega
    trace_state
    refine ⟨l, rfl, trivial, ?_⟩
    simp only [decide_eq_true (show -(10 ^ 18) ≤ l ∧ l ≤ 10 ^ 18 from hv.1)]
    trace_state
    refine ⟨h, rfl, trivial, ?_⟩
    simp only [decide_eq_true (show -(10 ^ 18) ≤ h ∧ h ≤ 10 ^ 18 from hv.2)]
    trace_state
    · exfalso; have := hb.2.1; omega
    · exact k
  · have hb : -(10 ^ 18) ≤ l ∧ l ≤ h ∧ h ≤ 10 ^ 18 := hb
    have hv : (-(10 ^ 18) ≤ l ∧ l ≤ 10 ^ 18) ∧ -(10 ^ 18) ≤ h ∧ h ≤ 10 ^ 18 := ⟨⟨hb.1, by omega⟩, by omega, hb.2.2⟩
    have hd : d < n := ok.1.1
    have ho : o < n := ok.1.2
    have hne : d ≠ o := ok.2.2.1
    have hf : 1 ≤ f ∧ f ≤ 30 := ok.2.2.2
    trace_state
    refine ⟨_, rfl, Nat.le_of_ble_eq_true rfl, lcW_map (fun _ => .leaf (.bl true)) (fun x hx Ψ hΨ => ?_) ?_⟩
    · have hx : x ∈ [DL.D.int d, .int o] := hx
      have hx : ∃ j : Nat, x = .int j ∧ j < n := by
        simp only [List.mem_cons, List.not_mem_nil, or_false] at hx
        rcases hx with rfl | rfl
        · exact ⟨d, rfl, hd⟩
        · exact ⟨o, rfl, ho⟩
      obtain ⟨j, rfl, hj⟩ := hx
      trace_state
      refine ⟨(j, 0, n - 1), rfl, trivial, ?_⟩
      simp only [decide_eq_true (show (0 : Int) ≤ j ∧ (j : Int) ≤ n - 1 from ⟨by omega, by omega⟩)]
      trace_state
      exact hΨ
    trace_state
    refine l_allT (bs := [true, true]) rfl rfl rfl ?_
    trace_state
    · exfalso; omega
    trace_state
    refine ⟨l, rfl, trivial, ?_⟩
    simp only [decide_eq_true (show -(10 ^ 18) ≤ l ∧ l ≤ 10 ^ 18 from hv.1)]
    trace_state
    refine ⟨h, rfl, trivial, ?_⟩
    simp only [decide_eq_true (show -(10 ^ 18) ≤ h ∧ h ≤ 10 ^ 18 from hv.2)]
    trace_state
    · exfalso; have := hb.2.1; omega
    · refine ⟨f, rfl, trivial, ?_⟩
      simp only [decide_eq_true hf]
      trace_state
      exact k
end KT
namespace KT
open PySem PySem.Spec PyProof.Rows L2 DL
local macro_rules | `(tactic| trace_state) => `(tactic| repeat' first | (with_reducible show w _ _ _ _; first | with_reducible refine w_nm (by with_unfolding_all exact rfl) ?_ | with_reducible refine w_ix ?_ | with_reducible refine w_int ?_ | with_reducible refine w_bin ?_ | with_reducible refine w_cmp ?_ | with_reducible refine w_call (by with_unfolding_all exact rfl) ?_ | with_reducible refine w_blt ?_ | with_reducible refine w_ow (by with_unfolding_all exact rfl) ?_ | with_reducible refine w_tup ?_ | with_reducible refine w_lst ?_ | with_reducible refine w_str ?_ | with_reducible refine w_neg ?_ | with_reducible refine w_ife ?_ | with_reducible refine w_sl ?_ | with_reducible refine w_and ?_ | with_reducible refine w_one ?_ | with_reducible refine w_or ?_ | with_reducible refine w_not ?_ | with_reducible refine w_bl ?_ | with_reducible refine w_non ?_ | with_reducible refine w_gl (by with_unfolding_all exact rfl) ?_ | with_reducible refine w_chn ?_ | with_reducible refine w_lc (by with_unfolding_all exact rfl) ?_ | with_reducible refine w_fld ?_ | with_reducible refine w_mth (by with_unfolding_all exact rfl) ?_ | with_reducible refine w_mt0 (by with_unfolding_all exact rfl) ?_ | with_reducible refine w_prp (by with_unfolding_all exact rfl) ?_ | with_reducible refine w_new (by with_unfolding_all exact rfl) ?_ | with_reducible refine w_isi ?_ | with_reducible refine w_lr1 ?_ | with_reducible refine w_lr2 ?_) | (with_reducible show wa _ _ _ _; first | with_reducible refine wa_cons ?_ | with_reducible refine wa_nil ?_) | (with_reducible show wv _ _ _ _; first | with_reducible refine wv_cons ?_ | with_reducible refine wv_nil ?_) | (with_reducible show T.fin _ _; first | with_reducible refine fin_leaf (by with_unfolding_all exact rfl) ?_ | with_reducible refine fin_mk (by with_unfolding_all exact rfl) ?_ | with_reducible refine fin_lst (by with_unfolding_all exact rfl) ?_ | with_reducible refine fin_tup (by with_unfolding_all exact rfl) ?_) | (with_reducible show And _ _; first | with_reducible refine and_len (by with_unfolding_all exact rfl) ?_) | (with_reducible show frozs _ _ _; first | with_reducible refine fz_nil ?_ | with_reducible refine fz_cons ?_) | (with_reducible show T.froz _ _ _; first | with_reducible refine fz_leaf (by with_unfolding_all exact rfl) ?_ | with_reducible refine fz_lst (by with_unfolding_all exact rfl) (by with_unfolding_all exact rfl) ?_ | with_reducible refine fz_tup (by with_unfolding_all exact rfl) (by with_unfolding_all exact rfl) ?_ | with_reducible refine fz_vw (by with_unfolding_all exact rfl) (by with_unfolding_all exact rfl) ?_) | (with_reducible show ixT _ _ _; first | with_reducible refine ix_lt (by with_unfolding_all exact rfl) (by with_unfolding_all exact rfl) (by with_unfolding_all exact at_getD (by assumption)) ?_ | with_reducible refine ix_lt (by with_unfolding_all exact rfl) (by with_unfolding_all exact rfl) (by with_unfolding_all exact rfl) ?_ | with_reducible refine ix_lst (by with_unfolding_all exact rfl) (by with_unfolding_all exact rfl) (by with_unfolding_all exact rfl) ?_ | with_reducible refine ix_ll (by with_unfolding_all exact rfl) (by with_unfolding_all exact rfl) (by with_unfolding_all exact rfl) ?_ | with_reducible refine ix_vli (by with_unfolding_all exact rfl) (by with_unfolding_all exact rfl) (by with_unfolding_all exact rfl) ?_ | with_reducible refine ix_vll (by with_unfolding_all exact rfl) (by with_unfolding_all exact rfl) (by with_unfolding_all exact rfl) ?_ | with_reducible refine ix_tup (by with_unfolding_all exact rfl) (by with_unfolding_all exact rfl) (by with_unfolding_all exact rfl) ?_ | with_reducible refine ix_vti (by with_unfolding_all exact rfl) (by with_unfolding_all exact rfl) (by with_unfolding_all exact rfl) ?_ | with_reducible refine ix_vlt (by with_unfolding_all exact rfl) (by with_unfolding_all exact rfl) (by with_unfolding_all exact rfl) ?_ | with_reducible refine ix_vtl (by with_unfolding_all exact rfl) (by with_unfolding_all exact rfl) (by with_unfolding_all exact rfl) ?_ | with_reducible refine ix_vls (by with_unfolding_all exact rfl) (by with_unfolding_all exact rfl) (by with_unfolding_all exact rfl) ?_) | (with_reducible show DL.binT _ _ _ _; first | with_reducible refine b_add (by with_unfolding_all exact rfl) (by with_unfolding_all exact rfl) ?_ | with_reducible refine b_sub (by with_unfolding_all exact rfl) (by with_unfolding_all exact rfl) ?_ | with_reducible refine b_mul (by with_unfolding_all exact rfl) (by with_unfolding_all exact rfl) (by with_unfolding_all exact mulR ⟨by decide, by decide⟩) ?_ | with_reducible refine b_mul (by with_unfolding_all exact rfl) (by with_unfolding_all exact rfl) (by with_unfolding_all exact mulL ⟨by decide, by decide⟩) ?_ | with_reducible refine b_mul (by with_unfolding_all exact rfl) (by with_unfolding_all exact rfl) (by with_unfolding_all exact mulL ⟨by omega, by omega⟩) ?_ | with_reducible refine b_mul (by with_unfolding_all exact rfl) (by with_unfolding_all exact rfl) (by with_unfolding_all exact mulR ⟨by omega, by omega⟩) ?_ | with_reducible refine b_mul (by with_unfolding_all exact rfl) (by with_unfolding_all exact rfl) ?_ ?_ | with_reducible refine b_p18 (by with_unfolding_all exact rfl) (by with_unfolding_all exact rfl) ?_ | with_reducible refine b_p9 (by with_unfolding_all exact rfl) (by with_unfolding_all exact rfl) ?_ | with_reducible refine b_p38 (by with_unfolding_all exact rfl) (by with_unfolding_all exact rfl) ?_ | with_reducible refine b_p17 (by with_unfolding_all exact rfl) (by with_unfolding_all exact rfl) ?_ | with_reducible refine b_p40 (by with_unfolding_all exact rfl) (by with_unfolding_all exact rfl) ?_ | with_reducible refine b_p39 (by with_unfolding_all exact rfl) (by with_unfolding_all exact rfl) ?_ | with_reducible refine b_p21 (by with_unfolding_all exact rfl) (by with_unfolding_all exact rfl) ?_ | with_reducible refine b_p20 (by with_unfolding_all exact rfl) (by with_unfolding_all exact rfl) ?_ | with_reducible refine b_p6 (by with_unfolding_all exact rfl) (by with_unfolding_all exact rfl) ?_ | with_reducible refine b_pow (by with_unfolding_all exact rfl) (by with_unfolding_all exact rfl) (by with_unfolding_all decide) ?_ | with_reducible refine b_mod (by with_unfolding_all exact rfl) (by with_unfolding_all exact rfl) (by with_unfolding_all (first | decide | assumption | omega)) ?_ | with_reducible refine b_mod (by with_unfolding_all exact rfl) (by with_unfolding_all exact rfl) ?_ ?_ | with_reducible refine b_fdiv (by with_unfolding_all exact rfl) (by with_unfolding_all exact rfl) (by with_unfolding_all exact ⟨by decide, by decide⟩) ?_ | with_reducible refine b_fdiv (by with_unfolding_all exact rfl) (by with_unfolding_all exact rfl) (by with_unfolding_all exact ⟨by assumption, by assumption⟩) ?_ | with_reducible refine b_fdiv (by with_unfolding_all exact rfl) (by with_unfolding_all exact rfl) ?_ ?_ | with_reducible refine b_catL (by with_unfolding_all exact rfl) (by with_unfolding_all exact rfl) (by with_unfolding_all exact rfl) ?_) | (with_reducible show cmpD _ _ _ _; first | with_reducible refine c_eq (by with_unfolding_all exact rfl) (by with_unfolding_all exact rfl) ?_ | with_reducible refine c_ne (by with_unfolding_all exact rfl) (by with_unfolding_all exact rfl) ?_ | with_reducible refine c_lt (by with_unfolding_all exact rfl) (by with_unfolding_all exact rfl) ?_ | with_reducible refine c_le (by with_unfolding_all exact rfl) (by with_unfolding_all exact rfl) ?_ | with_reducible refine c_gt (by with_unfolding_all exact rfl) (by with_unfolding_all exact rfl) ?_ | with_reducible refine c_ge (by with_unfolding_all exact rfl) (by with_unfolding_all exact rfl) ?_ | with_reducible refine c_nes (by with_unfolding_all exact rfl) (by with_unfolding_all exact rfl) ?_ | with_reducible refine c_eqs (by with_unfolding_all exact rfl) (by with_unfolding_all exact rfl) ?_ | with_reducible refine c_inT (by with_unfolding_all exact rfl) (by with_unfolding_all exact rfl) (by with_unfolding_all (first | exact tb_stop | exact tb_wish | exact tb_bar | exact tb_tie | exact wt_stop | exact wt_wish | exact wt_bar | exact wt_tie)) ?_ | with_reducible refine c_ninT (by with_unfolding_all exact rfl) (by with_unfolding_all exact rfl) (by with_unfolding_all (first | exact w4_stop | exact w4_wish | exact w4_bar | exact w4_tie)) ?_ | with_reducible refine c_isT (by with_unfolding_all exact rfl) (by with_unfolding_all exact rfl) ?_ | with_reducible refine c_isF (by with_unfolding_all exact rfl) (by with_unfolding_all exact rfl) ?_ | with_reducible refine c_notT (by with_unfolding_all exact rfl) (by with_unfolding_all exact rfl) ?_ | with_reducible refine c_notF (by with_unfolding_all exact rfl) (by with_unfolding_all exact rfl) ?_) | (with_reducible show wt _ _ _ _; first | with_reducible refine wt_cmp ?_ | with_reducible refine wt_not ?_ | with_reducible refine wt_val ?_ | with_reducible refine wt_and ?_ | with_reducible refine wt_or ?_ | with_reducible refine wt_one ?_ | with_reducible refine wt_chn ?_) | (with_reducible show @ite _ _ _ _ _; first | with_reducible refine ite_t ?_ | with_reducible refine ite_f ?_ | with_reducible refine ite_nt ?_ | with_reducible refine ite_nf ?_ | with_reducible refine ite_decT (by decide) ?_ | with_reducible refine ite_decF (by decide) ?_ | with_reducible refine ite_dec (fun _ => ?_) (fun _ => ?_) | with_reducible refine ite_ndecT (by with_unfolding_all exact rfl) ?_ | with_reducible refine ite_ndec (fun _ => ?_) (fun _ => ?_)) | (with_reducible show wb _ _ _ _; first | with_reducible refine wb_asg ?_ | with_reducible refine wb_ite ?_ | with_reducible refine wb_ret ?_ | with_reducible refine wb_nil ?_ | with_reducible refine wb_for ?_ | with_reducible refine wb_asgLc (by with_unfolding_all exact rfl) (by with_unfolding_all exact rfl) ?_ | with_reducible refine wb_setix (by with_unfolding_all exact rfl) ?_ | with_reducible refine wb_augix (by with_unfolding_all exact rfl) ?_ | with_reducible refine wb_aug (by with_unfolding_all exact rfl) (by with_unfolding_all exact rfl) ?_ | with_reducible refine wb_ex ?_ | with_reducible refine wb_fz (by with_unfolding_all exact rfl) (by with_unfolding_all exact rfl) ?_ | with_reducible refine wb_pass ?_ | with_reducible refine wb_brk ?_ | with_reducible refine wb_cont ?_ | with_reducible refine wb_retN ?_ | with_reducible refine wb_par2 (by with_unfolding_all decide) (by with_unfolding_all exact rfl) (by with_unfolding_all exact rfl) ?_ | with_reducible refine wb_app (by with_unfolding_all exact rfl) (by with_unfolding_all (simp; done)) ?_ | with_reducible refine wb_app (by with_unfolding_all exact rfl) ?_ ?_) | (with_reducible show Exists _; first | with_reducible refine bind_nm (by with_unfolding_all exact rfl) ?_ | with_reducible refine bind_pair (by with_unfolding_all exact rfl) (by with_unfolding_all exact rfl) (by with_unfolding_all exact rfl) ?_ | with_reducible refine bind_5 (by with_unfolding_all exact rfl) (by with_unfolding_all exact rfl) ?_ | with_reducible refine ex_int (by with_unfolding_all exact rfl) ?_ | with_reducible refine ex_bl (by with_unfolding_all exact rfl) ?_ | with_reducible refine ex_isT (by with_unfolding_all exact rfl) ?_ | with_reducible refine set_to (by with_unfolding_all exact rfl) (by with_unfolding_all exact rfl) ?_ | with_reducible refine aug_to (by with_unfolding_all exact rfl) (by with_unfolding_all exact rfl) (by with_unfolding_all exact rfl) ?_ | with_reducible refine ex_rg1 (by with_unfolding_all exact rfl) (by with_unfolding_all (unfold RgS; omega)) ?_ | with_reducible refine ex_rg2 (by with_unfolding_all exact rfl) (by with_unfolding_all exact rfl) (by with_unfolding_all (unfold RgS; omega)) ?_) | (with_reducible show bltT _ _ _; first | with_reducible refine l_lens (by with_unfolding_all exact rfl) ?_ | with_reducible refine l_len (by with_unfolding_all exact rfl) ?_ | with_reducible refine l_lentK 4 (by with_unfolding_all exact rfl) (by with_unfolding_all exact rfl) ?_ | with_reducible refine l_lentK 5 (by with_unfolding_all exact rfl) (by with_unfolding_all exact rfl) ?_ | with_reducible refine l_lentK 6 (by with_unfolding_all exact rfl) (by with_unfolding_all exact rfl) ?_ | with_reducible refine l_lent (by with_unfolding_all exact rfl) ?_ | with_reducible refine l_abs (by with_unfolding_all exact rfl) ?_ | with_reducible refine l_max2 (by with_unfolding_all exact rfl) (by with_unfolding_all exact rfl) ?_ | with_reducible refine l_min2 (by with_unfolding_all exact rfl) (by with_unfolding_all exact rfl) ?_ | with_reducible refine l_max3 (by with_unfolding_all exact rfl) (by with_unfolding_all exact rfl) (by with_unfolding_all exact rfl) ?_ | with_reducible refine l_intT (by with_unfolding_all exact rfl) ?_ | with_reducible refine l_intF (by with_unfolding_all exact rfl) ?_ | with_reducible refine l_intD (by with_unfolding_all exact rfl) (fun _ => ?_) (fun _ => ?_)) | (with_reducible show slT _ _ _ _; first | with_reducible refine sl_lt (by with_unfolding_all exact rfl) (by with_unfolding_all exact rfl) ?_) | (with_reducible show tru _ _; first | with_reducible refine t_bl (by with_unfolding_all exact rfl) ?_) | (with_reducible show augD _ _ _ _; first | with_reducible refine a_add (by with_unfolding_all exact rfl) (by with_unfolding_all exact rfl) ?_ | with_reducible refine a_sub (by with_unfolding_all exact rfl) (by with_unfolding_all exact rfl) ?_) | (with_reducible show wo _ _ _ _; first | with_reducible refine wo_nop ?_ | with_reducible refine wo_prt ?_) | (with_reducible show wi _ _ _ _; first | with_reducible refine wi_rng ?_ | with_reducible refine wi_sq ?_ | with_reducible refine wi_zip ?_ | with_reducible refine wi_enm ?_) | (with_reducible show wc _ _ _ _; first | with_reducible refine wc_nop ?_ | with_reducible refine wc_one ?_))
/-! ### boards -/
def termsD (ts : List Tm) : DL.D := .lst (ts.map Tm.D)
def boardD (n : Nat) (ts : List Tm) : DL.D := .obj 0 [.int n, termsD ts]
def TsOk (n : Nat) (ts : List Tm) : Prop := ∀ t ∈ ts, t.Ok n 30
def F_Board_init_ : SpecF := fnF (fun x : Nat × List Tm => [.int x.1, termsD x.2]) (fun x => (1 ≤ x.1 ∧ x.1 ≤ 8) ∧ x.2.length ≤ 24 ∧ TsOk x.1 x.2) (fun x => boardD x.1 x.2)
theorem M_Board_init_ : Mono F_Board_init_ := fnM _ _ _
def S_Board_init_ : Sg := { z := true, fs := [F_is_between, F_is_term], gs := [.int 8, .int 24] }
theorem W_Board_init_ : ∀ ds Φ, F_Board_init_ ds Φ → ds.length + 1 = 3 ∧ initW S_Board_init_ ts_Board_init_ fs_Board_init_ (none :: ((ds.map T.leaf).map some ++ List.replicate (n_Board_init_.length - (ds.length + 1)) none)) fun ds' => Φ (.leaf (.obj 0 ds')) := by
  rintro ds Φ ⟨⟨n, ts⟩, rfl, ⟨⟨h1, h2⟩, h3, h4⟩, k⟩
  have h3 : ts.length ≤ 24 := h3
  refine ⟨rfl, ?_⟩
  unfold ts_Board_init_ fs_Board_init_
  simp only [initW, storesW]
  trace_state
  refine ⟨(n, 1, 8), rfl, trivial, ?_⟩
  simp only [decide_eq_true (show (1 : Int) ≤ n ∧ (n : Int) ≤ 8 from ⟨by omega, by omega⟩)]
  refine t_bl rfl ⟨rfl, ?_⟩
  trace_state
  · exfalso; rename_i c; simp at c; omega
  refine ⟨_, rfl, by simp; omega, lcW_map (fun _ => .leaf (.bl true)) (fun x hx Ψ hΨ => ?_) ?_⟩
  · obtain ⟨t, ht, rfl⟩ := List.mem_map.mp hx
    trace_state
    refine ⟨(t, n), rfl, h4 t ht, ?_⟩
    trace_state
    exact hΨ
  trace_state
  refine l_allT (bs := ts.map fun _ => true) (ds := ts.map fun _ => .bl true) ?_ ?_ ?_ ?_
  · simp [T.dat, T.dats_eq]
  · rw [← toBls_map (ts.map fun _ => true), List.map_map]; rfl
  · simp
  refine t_bl rfl ⟨rfl, ?_⟩
  trace_state
  refine ⟨_, .inl rfl, rfl, ?_⟩
  simp only [T.dat, dats_leaf]
  exact k
def lefts (xs : List Int) : Nat → List Tm → DL.D
  | _, [] => .non
  | k, t :: r => if t.pulls = false ∧ 0 < t.far (t.arg xs) then .int k else lefts xs (k + 1) r
def F_Board_left : SpecF := fnF (fun x : Nat × List Tm × List Int => [boardD x.1 x.2.1, itup x.2.2]) (fun x => x.2.2.length = x.1 ∧ TsOk x.1 x.2.1) (fun x => lefts x.2.2 0 x.2.1)
theorem M_Board_left : Mono F_Board_left := fnM _ _ _
def S_Board_left : Sg := { z := true, fs := [F_distance, F_argument, F_is_pulling], gs := [] }
theorem W_Board_left : WOk S_Board_left n_Board_left b_Board_left F_Board_left 2 := by
  rintro ds Φ ⟨⟨n, ts, xs⟩, rfl, ⟨h1, h2⟩, k⟩
  refine ⟨rfl, ?_⟩
  have h1 : xs.length = n := h1
  have h2 : TsOk n ts := h2
  unfold b_Board_left
  trace_state
  refine ⟨_, _, rfl, rfl, ?_⟩
  trace_state
  refine ⟨_, rfl, ?_⟩
  refine forW_inv (fun ds ρ => ∃ (j : Nat) (rest : List Tm) (c2 c3 : Option T), ds = enumFrom j (rest.map Tm.D) ∧ (∀ t ∈ rest, t.Ok n 30) ∧ lefts xs 0 ts = lefts xs j rest ∧ ρ = [some (.leaf (boardD n ts)), some (.leaf (itup xs)), c2, c3]) ⟨0, ts, _, _, rfl, h2, rfl, rfl⟩ (fun d r ρ K1 g1 k1 _ _ kr1 => ?_) fun ρ h => ?_
  · obtain ⟨j, rest, c2, c3, e, hr, hl, rfl⟩ := g1
    obtain ⟨x, rest', er, rfl, e2⟩ := enm_cons e
    cases rest with
    | nil => simp at er
    | cons t rest =>
      simp only [List.map_cons, List.cons.injEq] at er
      obtain ⟨rfl, rfl⟩ := er
      have ht := hr t List.mem_cons_self
      have hin : t.In xs.length := by rw [h1]; exact ht.1
      trace_state
      refine ⟨t, rfl, trivial, ?_⟩
      cases hp : t.pulls with
      | true =>
        simp only [hp]
        trace_state
        refine k1 _ ⟨j + 1, rest, _, _, e2, fun u hu => hr u (List.mem_cons_of_mem _ hu), ?_, rfl⟩
        rw [hl, lefts, if_neg (by rw [hp]; simp)]
      | false =>
        simp only [hp]
        trace_state
        refine ⟨(t, xs), rfl, hin, ?_⟩
        trace_state
        refine ⟨(t, t.arg xs), rfl, ht.2.1.2.1, ?_⟩
        trace_state
        · rename_i c
          have e5 : lefts xs 0 ts = .int j := by rw [hl, lefts, if_pos ⟨hp, c⟩]
          simp only [e5] at k
          exact kr1 _ _ k
        · rename_i c
          refine k1 _ ⟨j + 1, rest, _, _, e2, fun u hu => hr u (List.mem_cons_of_mem _ hu), ?_, rfl⟩
          rw [hl, lefts, if_neg fun z => c z.2]
  · obtain ⟨j, rest, c2, c3, e, hr, hl, rfl⟩ := h
    cases rest with
    | cons t rest => simp [enumFrom] at e
    | nil =>
      trace_state
      have e5 : lefts xs 0 ts = .non := hl
      simp only [e5] at k
      exact k
end KT
namespace KT
open PySem PySem.Spec PyProof.Rows L2 DL
local macro_rules | `(tactic| trace_state) => `(tactic| repeat' first | (with_reducible show w _ _ _ _; first | with_reducible refine w_nm (by with_unfolding_all exact rfl) ?_ | with_reducible refine w_ix ?_ | with_reducible refine w_int ?_ | with_reducible refine w_bin ?_ | with_reducible refine w_cmp ?_ | with_reducible refine w_call (by with_unfolding_all exact rfl) ?_ | with_reducible refine w_blt ?_ | with_reducible refine w_ow (by with_unfolding_all exact rfl) ?_ | with_reducible refine w_tup ?_ | with_reducible refine w_lst ?_ | with_reducible refine w_str ?_ | with_reducible refine w_neg ?_ | with_reducible refine w_ife ?_ | with_reducible refine w_sl ?_ | with_reducible refine w_and ?_ | with_reducible refine w_one ?_ | with_reducible refine w_or ?_ | with_reducible refine w_not ?_ | with_reducible refine w_bl ?_ | with_reducible refine w_non ?_ | with_reducible refine w_gl (by with_unfolding_all exact rfl) ?_ | with_reducible refine w_chn ?_ | with_reducible refine w_lc (by with_unfolding_all exact rfl) ?_ | with_reducible refine w_fld ?_ | with_reducible refine w_mth (by with_unfolding_all exact rfl) ?_ | with_reducible refine w_mt0 (by with_unfolding_all exact rfl) ?_ | with_reducible refine w_prp (by with_unfolding_all exact rfl) ?_ | with_reducible refine w_new (by with_unfolding_all exact rfl) ?_ | with_reducible refine w_isi ?_ | with_reducible refine w_lr1 ?_ | with_reducible refine w_lr2 ?_) | (with_reducible show wa _ _ _ _; first | with_reducible refine wa_cons ?_ | with_reducible refine wa_nil ?_) | (with_reducible show wv _ _ _ _; first | with_reducible refine wv_cons ?_ | with_reducible refine wv_nil ?_) | (with_reducible show T.fin _ _; first | with_reducible refine fin_leaf (by with_unfolding_all exact rfl) ?_ | with_reducible refine fin_mk (by with_unfolding_all exact rfl) ?_ | with_reducible refine fin_lst (by with_unfolding_all exact rfl) ?_ | with_reducible refine fin_tup (by with_unfolding_all exact rfl) ?_) | (with_reducible show And _ _; first | with_reducible refine and_len (by with_unfolding_all exact rfl) ?_) | (with_reducible show frozs _ _ _; first | with_reducible refine fz_nil ?_ | with_reducible refine fz_cons ?_) | (with_reducible show T.froz _ _ _; first | with_reducible refine fz_leaf (by with_unfolding_all exact rfl) ?_ | with_reducible refine fz_lst (by with_unfolding_all exact rfl) (by with_unfolding_all exact rfl) ?_ | with_reducible refine fz_tup (by with_unfolding_all exact rfl) (by with_unfolding_all exact rfl) ?_ | with_reducible refine fz_vw (by with_unfolding_all exact rfl) (by with_unfolding_all exact rfl) ?_) | (with_reducible show ixT _ _ _; first | with_reducible refine ix_lt (by with_unfolding_all exact rfl) (by with_unfolding_all exact rfl) (by with_unfolding_all exact at_getD (by assumption)) ?_ | with_reducible refine ix_lt (by with_unfolding_all exact rfl) (by with_unfolding_all exact rfl) (by with_unfolding_all exact rfl) ?_ | with_reducible refine ix_lst (by with_unfolding_all exact rfl) (by with_unfolding_all exact rfl) (by with_unfolding_all exact rfl) ?_ | with_reducible refine ix_ll (by with_unfolding_all exact rfl) (by with_unfolding_all exact rfl) (by with_unfolding_all exact rfl) ?_ | with_reducible refine ix_vli (by with_unfolding_all exact rfl) (by with_unfolding_all exact rfl) (by with_unfolding_all exact rfl) ?_ | with_reducible refine ix_vll (by with_unfolding_all exact rfl) (by with_unfolding_all exact rfl) (by with_unfolding_all exact rfl) ?_ | with_reducible refine ix_tup (by with_unfolding_all exact rfl) (by with_unfolding_all exact rfl) (by with_unfolding_all exact rfl) ?_ | with_reducible refine ix_vti (by with_unfolding_all exact rfl) (by with_unfolding_all exact rfl) (by with_unfolding_all exact rfl) ?_ | with_reducible refine ix_vlt (by with_unfolding_all exact rfl) (by with_unfolding_all exact rfl) (by with_unfolding_all exact rfl) ?_ | with_reducible refine ix_vtl (by with_unfolding_all exact rfl) (by with_unfolding_all exact rfl) (by with_unfolding_all exact rfl) ?_ | with_reducible refine ix_vls (by with_unfolding_all exact rfl) (by with_unfolding_all exact rfl) (by with_unfolding_all exact rfl) ?_) | (with_reducible show DL.binT _ _ _ _; first | with_reducible refine b_add (by with_unfolding_all exact rfl) (by with_unfolding_all exact rfl) ?_ | with_reducible refine b_sub (by with_unfolding_all exact rfl) (by with_unfolding_all exact rfl) ?_ | with_reducible refine b_mul (by with_unfolding_all exact rfl) (by with_unfolding_all exact rfl) (by with_unfolding_all exact mulR ⟨by decide, by decide⟩) ?_ | with_reducible refine b_mul (by with_unfolding_all exact rfl) (by with_unfolding_all exact rfl) (by with_unfolding_all exact mulL ⟨by decide, by decide⟩) ?_ | with_reducible refine b_mul (by with_unfolding_all exact rfl) (by with_unfolding_all exact rfl) (by with_unfolding_all exact mulL ⟨by omega, by omega⟩) ?_ | with_reducible refine b_mul (by with_unfolding_all exact rfl) (by with_unfolding_all exact rfl) (by with_unfolding_all exact mulR ⟨by omega, by omega⟩) ?_ | with_reducible refine b_mul (by with_unfolding_all exact rfl) (by with_unfolding_all exact rfl) ?_ ?_ | with_reducible refine b_p18 (by with_unfolding_all exact rfl) (by with_unfolding_all exact rfl) ?_ | with_reducible refine b_p9 (by with_unfolding_all exact rfl) (by with_unfolding_all exact rfl) ?_ | with_reducible refine b_p38 (by with_unfolding_all exact rfl) (by with_unfolding_all exact rfl) ?_ | with_reducible refine b_p17 (by with_unfolding_all exact rfl) (by with_unfolding_all exact rfl) ?_ | with_reducible refine b_p40 (by with_unfolding_all exact rfl) (by with_unfolding_all exact rfl) ?_ | with_reducible refine b_p39 (by with_unfolding_all exact rfl) (by with_unfolding_all exact rfl) ?_ | with_reducible refine b_p21 (by with_unfolding_all exact rfl) (by with_unfolding_all exact rfl) ?_ | with_reducible refine b_p20 (by with_unfolding_all exact rfl) (by with_unfolding_all exact rfl) ?_ | with_reducible refine b_p6 (by with_unfolding_all exact rfl) (by with_unfolding_all exact rfl) ?_ | with_reducible refine b_pow (by with_unfolding_all exact rfl) (by with_unfolding_all exact rfl) (by with_unfolding_all decide) ?_ | with_reducible refine b_mod (by with_unfolding_all exact rfl) (by with_unfolding_all exact rfl) (by with_unfolding_all (first | decide | assumption | omega)) ?_ | with_reducible refine b_mod (by with_unfolding_all exact rfl) (by with_unfolding_all exact rfl) ?_ ?_ | with_reducible refine b_fdiv (by with_unfolding_all exact rfl) (by with_unfolding_all exact rfl) (by with_unfolding_all exact ⟨by decide, by decide⟩) ?_ | with_reducible refine b_fdiv (by with_unfolding_all exact rfl) (by with_unfolding_all exact rfl) (by with_unfolding_all exact ⟨by assumption, by assumption⟩) ?_ | with_reducible refine b_fdiv (by with_unfolding_all exact rfl) (by with_unfolding_all exact rfl) ?_ ?_ | with_reducible refine b_catL (by with_unfolding_all exact rfl) (by with_unfolding_all exact rfl) (by with_unfolding_all exact rfl) ?_) | (with_reducible show cmpD _ _ _ _; first | with_reducible refine c_eq (by with_unfolding_all exact rfl) (by with_unfolding_all exact rfl) ?_ | with_reducible refine c_ne (by with_unfolding_all exact rfl) (by with_unfolding_all exact rfl) ?_ | with_reducible refine c_lt (by with_unfolding_all exact rfl) (by with_unfolding_all exact rfl) ?_ | with_reducible refine c_le (by with_unfolding_all exact rfl) (by with_unfolding_all exact rfl) ?_ | with_reducible refine c_gt (by with_unfolding_all exact rfl) (by with_unfolding_all exact rfl) ?_ | with_reducible refine c_ge (by with_unfolding_all exact rfl) (by with_unfolding_all exact rfl) ?_ | with_reducible refine c_nes (by with_unfolding_all exact rfl) (by with_unfolding_all exact rfl) ?_ | with_reducible refine c_eqs (by with_unfolding_all exact rfl) (by with_unfolding_all exact rfl) ?_ | with_reducible refine c_inT (by with_unfolding_all exact rfl) (by with_unfolding_all exact rfl) (by with_unfolding_all (first | exact tb_stop | exact tb_wish | exact tb_bar | exact tb_tie | exact wt_stop | exact wt_wish | exact wt_bar | exact wt_tie)) ?_ | with_reducible refine c_ninT (by with_unfolding_all exact rfl) (by with_unfolding_all exact rfl) (by with_unfolding_all (first | exact w4_stop | exact w4_wish | exact w4_bar | exact w4_tie)) ?_ | with_reducible refine c_isT (by with_unfolding_all exact rfl) (by with_unfolding_all exact rfl) ?_ | with_reducible refine c_isF (by with_unfolding_all exact rfl) (by with_unfolding_all exact rfl) ?_ | with_reducible refine c_notT (by with_unfolding_all exact rfl) (by with_unfolding_all exact rfl) ?_ | with_reducible refine c_notF (by with_unfolding_all exact rfl) (by with_unfolding_all exact rfl) ?_) | (with_reducible show wt _ _ _ _; first | with_reducible refine wt_cmp ?_ | with_reducible refine wt_not ?_ | with_reducible refine wt_val ?_ | with_reducible refine wt_and ?_ | with_reducible refine wt_or ?_ | with_reducible refine wt_one ?_ | with_reducible refine wt_chn ?_) | (with_reducible show @ite _ _ _ _ _; first | with_reducible refine ite_t ?_ | with_reducible refine ite_f ?_ | with_reducible refine ite_nt ?_ | with_reducible refine ite_nf ?_ | with_reducible refine ite_decT (by decide) ?_ | with_reducible refine ite_decF (by decide) ?_ | with_reducible refine ite_dec (fun _ => ?_) (fun _ => ?_) | with_reducible refine ite_ndecT (by with_unfolding_all exact rfl) ?_ | with_reducible refine ite_ndec (fun _ => ?_) (fun _ => ?_)) | (with_reducible show wb _ _ _ _; first | with_reducible refine wb_asg ?_ | with_reducible refine wb_ite ?_ | with_reducible refine wb_ret ?_ | with_reducible refine wb_nil ?_ | with_reducible refine wb_for ?_ | with_reducible refine wb_asgLc (by with_unfolding_all exact rfl) (by with_unfolding_all exact rfl) ?_ | with_reducible refine wb_setix (by with_unfolding_all exact rfl) ?_ | with_reducible refine wb_augix (by with_unfolding_all exact rfl) ?_ | with_reducible refine wb_aug (by with_unfolding_all exact rfl) (by with_unfolding_all exact rfl) ?_ | with_reducible refine wb_ex ?_ | with_reducible refine wb_fz (by with_unfolding_all exact rfl) (by with_unfolding_all exact rfl) ?_ | with_reducible refine wb_pass ?_ | with_reducible refine wb_brk ?_ | with_reducible refine wb_cont ?_ | with_reducible refine wb_retN ?_ | with_reducible refine wb_par2 (by with_unfolding_all decide) (by with_unfolding_all exact rfl) (by with_unfolding_all exact rfl) ?_ | with_reducible refine wb_app (by with_unfolding_all exact rfl) (by with_unfolding_all (simp; done)) ?_ | with_reducible refine wb_app (by with_unfolding_all exact rfl) ?_ ?_) | (with_reducible show Exists _; first | with_reducible refine bind_nm (by with_unfolding_all exact rfl) ?_ | with_reducible refine bind_pair (by with_unfolding_all exact rfl) (by with_unfolding_all exact rfl) (by with_unfolding_all exact rfl) ?_ | with_reducible refine bind_5 (by with_unfolding_all exact rfl) (by with_unfolding_all exact rfl) ?_ | with_reducible refine ex_int (by with_unfolding_all exact rfl) ?_ | with_reducible refine ex_bl (by with_unfolding_all exact rfl) ?_ | with_reducible refine ex_isT (by with_unfolding_all exact rfl) ?_ | with_reducible refine set_to (by with_unfolding_all exact rfl) (by with_unfolding_all exact rfl) ?_ | with_reducible refine aug_to (by with_unfolding_all exact rfl) (by with_unfolding_all exact rfl) (by with_unfolding_all exact rfl) ?_ | with_reducible refine ex_rg1 (by with_unfolding_all exact rfl) (by with_unfolding_all (unfold RgS; omega)) ?_ | with_reducible refine ex_rg2 (by with_unfolding_all exact rfl) (by with_unfolding_all exact rfl) (by with_unfolding_all (unfold RgS; omega)) ?_) | (with_reducible show bltT _ _ _; first | with_reducible refine l_lens (by with_unfolding_all exact rfl) ?_ | with_reducible refine l_len (by with_unfolding_all exact rfl) ?_ | with_reducible refine l_lentK 4 (by with_unfolding_all exact rfl) (by with_unfolding_all exact rfl) ?_ | with_reducible refine l_lentK 5 (by with_unfolding_all exact rfl) (by with_unfolding_all exact rfl) ?_ | with_reducible refine l_lentK 6 (by with_unfolding_all exact rfl) (by with_unfolding_all exact rfl) ?_ | with_reducible refine l_lent (by with_unfolding_all exact rfl) ?_ | with_reducible refine l_abs (by with_unfolding_all exact rfl) ?_ | with_reducible refine l_max2 (by with_unfolding_all exact rfl) (by with_unfolding_all exact rfl) ?_ | with_reducible refine l_min2 (by with_unfolding_all exact rfl) (by with_unfolding_all exact rfl) ?_ | with_reducible refine l_max3 (by with_unfolding_all exact rfl) (by with_unfolding_all exact rfl) (by with_unfolding_all exact rfl) ?_ | with_reducible refine l_intT (by with_unfolding_all exact rfl) ?_ | with_reducible refine l_intF (by with_unfolding_all exact rfl) ?_ | with_reducible refine l_intD (by with_unfolding_all exact rfl) (fun _ => ?_) (fun _ => ?_)) | (with_reducible show slT _ _ _ _; first | with_reducible refine sl_lt (by with_unfolding_all exact rfl) (by with_unfolding_all exact rfl) ?_) | (with_reducible show tru _ _; first | with_reducible refine t_bl (by with_unfolding_all exact rfl) ?_) | (with_reducible show augD _ _ _ _; first | with_reducible refine a_add (by with_unfolding_all exact rfl) (by with_unfolding_all exact rfl) ?_ | with_reducible refine a_sub (by with_unfolding_all exact rfl) (by with_unfolding_all exact rfl) ?_) | (with_reducible show wo _ _ _ _; first | with_reducible refine wo_nop ?_ | with_reducible refine wo_prt ?_) | (with_reducible show wi _ _ _ _; first | with_reducible refine wi_rng ?_ | with_reducible refine wi_sq ?_ | with_reducible refine wi_zip ?_ | with_reducible refine wi_enm ?_) | (with_reducible show wc _ _ _ _; first | with_reducible refine wc_nop ?_ | with_reducible refine wc_one ?_))
/-! ### comprehensions over a typed list -/
theorem lcW_ty {α : Type} (enc : α → DL.D) (p : α → Bool) (f : α → DL.D) {g : Tg} {wc : DL.Env → (Bool → Prop) → Prop} {we : DL.Env → (T → Prop) → Prop} {ρ : DL.Env} {Φ : List T → Prop} : ∀ {as : List α} {acc : List T},
    (∀ a ∈ as, ∀ (Ψ : T → Prop) (N : Prop), (p a = true → Ψ (.leaf (f a))) → (p a = false → N) → ∃ ρ', bindG g (.leaf (enc a)) ρ = some ρ' ∧ wc ρ' fun b => if b = true then we ρ' fun t => t.fin Ψ else N) →
    Φ (acc ++ (as.filter p).map fun a => .leaf (f a)) → lcW g wc we ρ (as.map enc) acc Φ
  | [], acc, _, k => by simpa [lcW] using k
  | a :: as, acc, hs, k => by
    simp only [List.map_cons, lcW]
    refine hs a List.mem_cons_self _ _ (fun hp => ?_) fun hp => ?_
    · refine lcW_ty enc p f (fun a' ha' => hs a' (List.mem_cons_of_mem _ ha')) ?_
      rw [List.filter_cons_of_pos hp] at k
      simpa using k
    · refine lcW_ty enc p f (fun a' ha' => hs a' (List.mem_cons_of_mem _ ha')) ?_
      rw [List.filter_cons_of_neg (by simp [hp])] at k
      exact k
theorem lcW_tyM {α : Type} (enc : α → DL.D) (f : α → DL.D) {S : Sg} {g : Tg} {we : DL.Env → (T → Prop) → Prop} {ρ : DL.Env} {Φ : List T → Prop} {as : List α} {acc : List T}
    (hs : ∀ a ∈ as, ∀ (Ψ : T → Prop), Ψ (.leaf (f a)) → ∃ ρ', bindG g (.leaf (enc a)) ρ = some ρ' ∧ we ρ' fun t => t.fin Ψ)
    (k : Φ (acc ++ as.map fun a => .leaf (f a))) : lcW g (wc S .nop) we ρ (as.map enc) acc Φ :=
  lcW_ty enc (fun _ => true) f (fun a ha Ψ N h _ => let ⟨ρ', e, q⟩ := hs a ha Ψ (h rfl); ⟨ρ', e, wc_nop (by rw [if_pos rfl]; exact q)⟩) (by rwa [List.filter_eq_self.mpr fun _ _ => rfl])
/-! ### the strain -/
def leaves (xs : List Int) (t : Tm) : Bool := !t.pulls && decide (0 < t.far (t.arg xs))
def costs (xs : List Int) (ts : List Tm) : List Int := (ts.filter Tm.pulls).map fun t => t.force * t.far (t.arg xs)
def strC (xs : List Int) (c : Int) (ts : List Tm) : DL.D := if ts.any (leaves xs) = true then .non else .int (c + (costs xs ts).sum)
def strD (xs : List Int) (ts : List Tm) : DL.D := strC xs 0 ts
theorem leaves_iff {xs : List Int} {t : Tm} : leaves xs t = true ↔ t.pulls = false ∧ 0 < t.far (t.arg xs) := by simp [leaves]
theorem lefts_non {xs : List Int} : ∀ {ts : List Tm} {k : Nat}, ts.any (leaves xs) = false → lefts xs k ts = .non
  | [], k, _ => rfl
  | t :: r, k, h => by
    simp only [List.any_cons, Bool.or_eq_false_iff] at h
    rw [lefts, if_neg fun z => by rw [leaves_iff.mpr z] at h; exact absurd h.1 (by decide)]
    exact lefts_non h.2
theorem lefts_some {xs : List Int} : ∀ {ts : List Tm} {k : Nat}, ts.any (leaves xs) = true → ∃ j : Nat, lefts xs k ts = .int j
  | [], k, h => by simp at h
  | t :: r, k, h => by
    by_cases z : t.pulls = false ∧ 0 < t.far (t.arg xs)
    · exact ⟨k, by rw [lefts, if_pos z]⟩
    · rw [lefts, if_neg z]
      simp only [List.any_cons, Bool.or_eq_true] at h
      exact lefts_some (h.resolve_left fun q => z (leaves_iff.mp q))
def F_Board_strain : SpecF := fnF (fun x : Nat × List Tm × List Int => [boardD x.1 x.2.1, itup x.2.2]) (fun x => x.2.2.length = x.1 ∧ x.2.1.length ≤ 1000 ∧ TsOk x.1 x.2.1) (fun x => strD x.2.2 x.2.1)
theorem M_Board_strain : Mono F_Board_strain := fnM _ _ _
def S_Board_strain : Sg := { z := true, fs := [F_is_pulling, F_force_of, F_distance, F_argument], gs := [], ms := [F_Board_left] }
theorem W_Board_strain : WOk S_Board_strain n_Board_strain b_Board_strain F_Board_strain 2 := by
  rintro ds Φ ⟨⟨n, ts, xs⟩, rfl, ⟨h1, hl, h2⟩, k⟩
  refine ⟨rfl, ?_⟩
  have h1 : xs.length = n := h1
  have h2 : TsOk n ts := h2
  have hl : ts.length ≤ 1000 := hl
  unfold b_Board_strain
  trace_state
  refine ⟨_, rfl, ?_⟩
  trace_state
  refine ⟨(n, ts, xs), rfl, ⟨h1, h2⟩, ?_⟩
  cases ha : ts.any (leaves xs) with
  | true =>
    obtain ⟨j, ej⟩ := lefts_some (k := 0) ha
    simp only [ej]
    trace_state
    have e5 : strD xs ts = .non := by unfold strD strC; rw [if_pos ha]
    simp only [e5] at k
    exact k
  | false =>
    have ej := lefts_non (k := 0) ha
    simp only [ej]
    trace_state
    refine ⟨_, _, rfl, rfl, ?_⟩
    trace_state
    refine ⟨_, rfl, by simp; omega, lcW_ty Tm.D Tm.pulls Tm.D (fun t ht Ψ N g1 g2 => ?_) ?_⟩
    · trace_state
      refine ⟨t, rfl, trivial, ?_⟩
      cases hp : t.pulls with
      | true =>
        simp only [hp]
        trace_state
        exact g1 hp
      | false =>
        simp only [hp]
        trace_state
        exact g2 hp
    · rw [List.nil_append, show ((ts.filter Tm.pulls).map fun a => T.leaf a.D) = ((ts.filter Tm.pulls).map Tm.D).map .leaf by rw [List.map_map]; rfl]
      refine wb_fz rfl rfl ?_
      rw [show (T.lst (((ts.filter Tm.pulls).map Tm.D).map .leaf)).dat = .lst ((ts.filter Tm.pulls).map Tm.D) by rw [T.dat, dats_leaf]]
      trace_state
      refine ⟨_, rfl, by have := List.length_filter_le Tm.pulls ts; simp; omega, lcW_tyM Tm.D (fun t => .int (t.force * t.far (t.arg xs))) (fun t ht Ψ g1 => ?_) ?_⟩
      · obtain ⟨ht, hp⟩ := List.mem_filter.mp ht
        have ok := h2 t ht
        have hin : t.In xs.length := by rw [h1]; exact ok.1
        have hf : 0 ≤ t.force ∧ t.force ≤ 30 := ok.force_le (by decide)
        trace_state
        refine ⟨t, rfl, hp, ?_⟩
        trace_state
        refine ⟨(t, xs), rfl, hin, ?_⟩
        trace_state
        refine ⟨(t, t.arg xs), rfl, ok.2.1.2.1, ?_⟩
        trace_state
        exact g1
      · trace_state
        refine l_suml (ns := costs xs ts) (ds := (costs xs ts).map .int) ?_ (toInts_map _) ?_
        · simp only [T.dat, List.nil_append]
          rw [T.dats_eq, List.map_map, costs, List.map_map]; rfl
        trace_state
        have e5 : strD xs ts = .int (costs xs ts).sum := by unfold strD strC; rw [if_neg (by rw [ha]; decide), Int.zero_add]
        simp only [e5] at k
        exact k
def F_law_strain : SpecF := fnF (fun x : Nat × List Tm × List Int => [termsD x.2.1, itup x.2.2]) (fun x => x.2.2.length = x.1 ∧ TsOk x.1 x.2.1) (fun x => strD x.2.2 x.2.1)
theorem M_law_strain : Mono F_law_strain := fnM _ _ _
def S_law_strain : Sg := { z := true, fs := [F_law_far, F_law_argument, F_law_parts], gs := [] }
theorem W_law_strain : WOk S_law_strain n_law_strain b_law_strain F_law_strain 2 := by
  rintro ds Φ ⟨⟨n, ts, xs⟩, rfl, ⟨h1, h2⟩, k⟩
  refine ⟨rfl, ?_⟩
  have h1 : xs.length = n := h1
  have h2 : TsOk n ts := h2
  unfold b_law_strain
  trace_state
  refine ⟨_, rfl, ?_⟩
  refine forW_inv (fun ds ρ => ∃ (c : Int) (rest : List Tm) (c3 c4 c5 : Option T), ds = rest.map Tm.D ∧ (∀ t ∈ rest, t.Ok n 30) ∧ strD xs ts = strC xs c rest ∧ ρ = [some (.leaf (termsD ts)), some (.leaf (itup xs)), some (.leaf (.int c)), c3, c4, c5]) ⟨0, ts, _, _, _, rfl, h2, rfl, rfl⟩ (fun d r ρ K1 g1 k1 _ _ kr1 => ?_) fun ρ h => ?_
  · obtain ⟨c, rest, c3, c4, c5, e, hr, hl, rfl⟩ := g1
    cases rest with
    | nil => simp at e
    | cons t rest =>
      simp only [List.map_cons, List.cons.injEq] at e
      obtain ⟨rfl, rfl⟩ := e
      have ht := hr t List.mem_cons_self
      have hin : t.In xs.length := by rw [h1]; exact ht.1
      have hf : 0 ≤ t.force ∧ t.force ≤ 30 := ht.force_le (by decide)
      trace_state
      refine ⟨(t, xs), rfl, hin, ?_⟩
      trace_state
      refine ⟨(t, t.arg xs), rfl, trivial, ?_⟩
      trace_state
      refine ⟨t, rfl, trivial, ?_⟩
      have nx : ∀ c' c3 c4 c5, strC xs c (t :: rest) = strC xs c' rest → K1.nx [some (.leaf (termsD ts)), some (.leaf (itup xs)), some (.leaf (.int c')), c3, c4, c5] := fun c' c3 c4 c5 e => k1 _ ⟨c', rest, c3, c4, c5, rfl, fun u hu => hr u (List.mem_cons_of_mem _ hu), by rw [hl, e], rfl⟩
      have stop : t.pulls = false → 0 < t.far (t.arg xs) → ∀ ρ, K1.rt (.leaf .non) ρ := fun a b ρ => by
        have e5 : strD xs ts = .non := by rw [hl, strC, if_pos (by rw [List.any_cons, leaves_iff.mpr ⟨a, b⟩, Bool.true_or])]
        simp only [e5] at k
        exact kr1 _ _ k
      have go0 : t.pulls = false → ¬ 0 < t.far (t.arg xs) → strC xs c (t :: rest) = strC xs c rest := fun a b => by
        have l0 : leaves xs t = false := by cases z : leaves xs t with
          | false => rfl
          | true => exact absurd (leaves_iff.mp z).2 b
        unfold strC costs
        rw [List.any_cons, l0, Bool.false_or, List.filter_cons_of_neg (by rw [a]; decide)]
      have go1 : t.pulls = true → strC xs c (t :: rest) = strC xs (c + t.force * t.far (t.arg xs)) rest := fun a => by
        have l0 : leaves xs t = false := by simp [leaves, a]
        unfold strC costs
        rw [List.any_cons, l0, Bool.false_or, List.filter_cons_of_pos a, List.map_cons, List.sum_cons, Int.add_assoc]
      rcases t with ⟨d, l, h⟩ | ⟨d, l, h, f⟩ | ⟨d, o, l, h⟩ | ⟨d, o, l, h, f⟩
      · trace_state
        · rename_i z; exact stop rfl z _
        · rename_i z; exact nx _ _ _ _ (go0 rfl z)
      · have hf : 0 ≤ f ∧ f ≤ 30 := hf
        trace_state
        exact nx _ _ _ _ (go1 rfl)
      · trace_state
        · rename_i z; exact stop rfl z _
        · rename_i z; exact nx _ _ _ _ (go0 rfl z)
      · have hf : 0 ≤ f ∧ f ≤ 30 := hf
        trace_state
        exact nx _ _ _ _ (go1 rfl)
  · obtain ⟨c, rest, c3, c4, c5, e, hr, hl, rfl⟩ := h
    cases rest with
    | cons t rest => simp at e
    | nil =>
      trace_state
      have e5 : strD xs ts = .int c := by rw [hl]; simp [strC, costs]
      simp only [e5] at k
      exact k
end KT
namespace KT
open PySem PySem.Spec PyProof.Rows L2 DL
local macro_rules | `(tactic| trace_state) => `(tactic| repeat' first | (with_reducible show w _ _ _ _; first | with_reducible refine w_nm (by with_unfolding_all exact rfl) ?_ | with_reducible refine w_ix ?_ | with_reducible refine w_int ?_ | with_reducible refine w_bin ?_ | with_reducible refine w_cmp ?_ | with_reducible refine w_call (by with_unfolding_all exact rfl) ?_ | with_reducible refine w_blt ?_ | with_reducible refine w_ow (by with_unfolding_all exact rfl) ?_ | with_reducible refine w_tup ?_ | with_reducible refine w_lst ?_ | with_reducible refine w_str ?_ | with_reducible refine w_neg ?_ | with_reducible refine w_ife ?_ | with_reducible refine w_sl ?_ | with_reducible refine w_and ?_ | with_reducible refine w_one ?_ | with_reducible refine w_or ?_ | with_reducible refine w_not ?_ | with_reducible refine w_bl ?_ | with_reducible refine w_non ?_ | with_reducible refine w_gl (by with_unfolding_all exact rfl) ?_ | with_reducible refine w_chn ?_ | with_reducible refine w_lc (by with_unfolding_all exact rfl) ?_ | with_reducible refine w_fld ?_ | with_reducible refine w_mth (by with_unfolding_all exact rfl) ?_ | with_reducible refine w_mt0 (by with_unfolding_all exact rfl) ?_ | with_reducible refine w_prp (by with_unfolding_all exact rfl) ?_ | with_reducible refine w_new (by with_unfolding_all exact rfl) ?_ | with_reducible refine w_isi ?_ | with_reducible refine w_lr1 ?_ | with_reducible refine w_lr2 ?_) | (with_reducible show wa _ _ _ _; first | with_reducible refine wa_cons ?_ | with_reducible refine wa_nil ?_) | (with_reducible show wv _ _ _ _; first | with_reducible refine wv_cons ?_ | with_reducible refine wv_nil ?_) | (with_reducible show T.fin _ _; first | with_reducible refine fin_leaf (by with_unfolding_all exact rfl) ?_ | with_reducible refine fin_mk (by with_unfolding_all exact rfl) ?_ | with_reducible refine fin_lst (by with_unfolding_all exact rfl) ?_ | with_reducible refine fin_tup (by with_unfolding_all exact rfl) ?_) | (with_reducible show And _ _; first | with_reducible refine and_len (by with_unfolding_all exact rfl) ?_) | (with_reducible show frozs _ _ _; first | with_reducible refine fz_nil ?_ | with_reducible refine fz_cons ?_) | (with_reducible show T.froz _ _ _; first | with_reducible refine fz_leaf (by with_unfolding_all exact rfl) ?_ | with_reducible refine fz_lst (by with_unfolding_all exact rfl) (by with_unfolding_all exact rfl) ?_ | with_reducible refine fz_tup (by with_unfolding_all exact rfl) (by with_unfolding_all exact rfl) ?_ | with_reducible refine fz_vw (by with_unfolding_all exact rfl) (by with_unfolding_all exact rfl) ?_) | (with_reducible show ixT _ _ _; first | with_reducible refine ix_lt (by with_unfolding_all exact rfl) (by with_unfolding_all exact rfl) (by with_unfolding_all exact at_getD (by assumption)) ?_ | with_reducible refine ix_lt (by with_unfolding_all exact rfl) (by with_unfolding_all exact rfl) (by with_unfolding_all exact rfl) ?_ | with_reducible refine ix_lst (by with_unfolding_all exact rfl) (by with_unfolding_all exact rfl) (by with_unfolding_all exact rfl) ?_ | with_reducible refine ix_ll (by with_unfolding_all exact rfl) (by with_unfolding_all exact rfl) (by with_unfolding_all exact rfl) ?_ | with_reducible refine ix_vli (by with_unfolding_all exact rfl) (by with_unfolding_all exact rfl) (by with_unfolding_all exact rfl) ?_ | with_reducible refine ix_vll (by with_unfolding_all exact rfl) (by with_unfolding_all exact rfl) (by with_unfolding_all exact rfl) ?_ | with_reducible refine ix_tup (by with_unfolding_all exact rfl) (by with_unfolding_all exact rfl) (by with_unfolding_all exact rfl) ?_ | with_reducible refine ix_vti (by with_unfolding_all exact rfl) (by with_unfolding_all exact rfl) (by with_unfolding_all exact rfl) ?_ | with_reducible refine ix_vlt (by with_unfolding_all exact rfl) (by with_unfolding_all exact rfl) (by with_unfolding_all exact rfl) ?_ | with_reducible refine ix_vtl (by with_unfolding_all exact rfl) (by with_unfolding_all exact rfl) (by with_unfolding_all exact rfl) ?_ | with_reducible refine ix_vls (by with_unfolding_all exact rfl) (by with_unfolding_all exact rfl) (by with_unfolding_all exact rfl) ?_) | (with_reducible show DL.binT _ _ _ _; first | with_reducible refine b_add (by with_unfolding_all exact rfl) (by with_unfolding_all exact rfl) ?_ | with_reducible refine b_sub (by with_unfolding_all exact rfl) (by with_unfolding_all exact rfl) ?_ | with_reducible refine b_mul (by with_unfolding_all exact rfl) (by with_unfolding_all exact rfl) (by with_unfolding_all exact mulR ⟨by decide, by decide⟩) ?_ | with_reducible refine b_mul (by with_unfolding_all exact rfl) (by with_unfolding_all exact rfl) (by with_unfolding_all exact mulL ⟨by decide, by decide⟩) ?_ | with_reducible refine b_mul (by with_unfolding_all exact rfl) (by with_unfolding_all exact rfl) (by with_unfolding_all exact mulL ⟨by omega, by omega⟩) ?_ | with_reducible refine b_mul (by with_unfolding_all exact rfl) (by with_unfolding_all exact rfl) (by with_unfolding_all exact mulR ⟨by omega, by omega⟩) ?_ | with_reducible refine b_mul (by with_unfolding_all exact rfl) (by with_unfolding_all exact rfl) ?_ ?_ | with_reducible refine b_p18 (by with_unfolding_all exact rfl) (by with_unfolding_all exact rfl) ?_ | with_reducible refine b_p9 (by with_unfolding_all exact rfl) (by with_unfolding_all exact rfl) ?_ | with_reducible refine b_p38 (by with_unfolding_all exact rfl) (by with_unfolding_all exact rfl) ?_ | with_reducible refine b_p17 (by with_unfolding_all exact rfl) (by with_unfolding_all exact rfl) ?_ | with_reducible refine b_p40 (by with_unfolding_all exact rfl) (by with_unfolding_all exact rfl) ?_ | with_reducible refine b_p39 (by with_unfolding_all exact rfl) (by with_unfolding_all exact rfl) ?_ | with_reducible refine b_p21 (by with_unfolding_all exact rfl) (by with_unfolding_all exact rfl) ?_ | with_reducible refine b_p20 (by with_unfolding_all exact rfl) (by with_unfolding_all exact rfl) ?_ | with_reducible refine b_p6 (by with_unfolding_all exact rfl) (by with_unfolding_all exact rfl) ?_ | with_reducible refine b_pow (by with_unfolding_all exact rfl) (by with_unfolding_all exact rfl) (by with_unfolding_all decide) ?_ | with_reducible refine b_mod (by with_unfolding_all exact rfl) (by with_unfolding_all exact rfl) (by with_unfolding_all (first | decide | assumption | omega)) ?_ | with_reducible refine b_mod (by with_unfolding_all exact rfl) (by with_unfolding_all exact rfl) ?_ ?_ | with_reducible refine b_fdiv (by with_unfolding_all exact rfl) (by with_unfolding_all exact rfl) (by with_unfolding_all exact ⟨by decide, by decide⟩) ?_ | with_reducible refine b_fdiv (by with_unfolding_all exact rfl) (by with_unfolding_all exact rfl) (by with_unfolding_all exact ⟨by assumption, by assumption⟩) ?_ | with_reducible refine b_fdiv (by with_unfolding_all exact rfl) (by with_unfolding_all exact rfl) ?_ ?_ | with_reducible refine b_catL (by with_unfolding_all exact rfl) (by with_unfolding_all exact rfl) (by with_unfolding_all exact rfl) ?_) | (with_reducible show cmpD _ _ _ _; first | with_reducible refine c_eq (by with_unfolding_all exact rfl) (by with_unfolding_all exact rfl) ?_ | with_reducible refine c_ne (by with_unfolding_all exact rfl) (by with_unfolding_all exact rfl) ?_ | with_reducible refine c_lt (by with_unfolding_all exact rfl) (by with_unfolding_all exact rfl) ?_ | with_reducible refine c_le (by with_unfolding_all exact rfl) (by with_unfolding_all exact rfl) ?_ | with_reducible refine c_gt (by with_unfolding_all exact rfl) (by with_unfolding_all exact rfl) ?_ | with_reducible refine c_ge (by with_unfolding_all exact rfl) (by with_unfolding_all exact rfl) ?_ | with_reducible refine c_nes (by with_unfolding_all exact rfl) (by with_unfolding_all exact rfl) ?_ | with_reducible refine c_eqs (by with_unfolding_all exact rfl) (by with_unfolding_all exact rfl) ?_ | with_reducible refine c_inT (by with_unfolding_all exact rfl) (by with_unfolding_all exact rfl) (by with_unfolding_all (first | exact tb_stop | exact tb_wish | exact tb_bar | exact tb_tie | exact wt_stop | exact wt_wish | exact wt_bar | exact wt_tie)) ?_ | with_reducible refine c_ninT (by with_unfolding_all exact rfl) (by with_unfolding_all exact rfl) (by with_unfolding_all (first | exact w4_stop | exact w4_wish | exact w4_bar | exact w4_tie)) ?_ | with_reducible refine c_isT (by with_unfolding_all exact rfl) (by with_unfolding_all exact rfl) ?_ | with_reducible refine c_isF (by with_unfolding_all exact rfl) (by with_unfolding_all exact rfl) ?_ | with_reducible refine c_notT (by with_unfolding_all exact rfl) (by with_unfolding_all exact rfl) ?_ | with_reducible refine c_notF (by with_unfolding_all exact rfl) (by with_unfolding_all exact rfl) ?_) | (with_reducible show wt _ _ _ _; first | with_reducible refine wt_cmp ?_ | with_reducible refine wt_not ?_ | with_reducible refine wt_val ?_ | with_reducible refine wt_and ?_ | with_reducible refine wt_or ?_ | with_reducible refine wt_one ?_ | with_reducible refine wt_chn ?_) | (with_reducible show @ite _ _ _ _ _; first | with_reducible refine ite_t ?_ | with_reducible refine ite_f ?_ | with_reducible refine ite_nt ?_ | with_reducible refine ite_nf ?_ | with_reducible refine ite_decT (by decide) ?_ | with_reducible refine ite_decF (by decide) ?_ | with_reducible refine ite_dec (fun _ => ?_) (fun _ => ?_) | with_reducible refine ite_ndecT (by with_unfolding_all exact rfl) ?_ | with_reducible refine ite_ndec (fun _ => ?_) (fun _ => ?_)) | (with_reducible show wb _ _ _ _; first | with_reducible refine wb_asg ?_ | with_reducible refine wb_ite ?_ | with_reducible refine wb_ret ?_ | with_reducible refine wb_nil ?_ | with_reducible refine wb_for ?_ | with_reducible refine wb_asgLc (by with_unfolding_all exact rfl) (by with_unfolding_all exact rfl) ?_ | with_reducible refine wb_setix (by with_unfolding_all exact rfl) ?_ | with_reducible refine wb_augix (by with_unfolding_all exact rfl) ?_ | with_reducible refine wb_aug (by with_unfolding_all exact rfl) (by with_unfolding_all exact rfl) ?_ | with_reducible refine wb_ex ?_ | with_reducible refine wb_fz (by with_unfolding_all exact rfl) (by with_unfolding_all exact rfl) ?_ | with_reducible refine wb_pass ?_ | with_reducible refine wb_brk ?_ | with_reducible refine wb_cont ?_ | with_reducible refine wb_retN ?_ | with_reducible refine wb_par2 (by with_unfolding_all decide) (by with_unfolding_all exact rfl) (by with_unfolding_all exact rfl) ?_ | with_reducible refine wb_app (by with_unfolding_all exact rfl) (by with_unfolding_all (simp; done)) ?_ | with_reducible refine wb_app (by with_unfolding_all exact rfl) ?_ ?_) | (with_reducible show Exists _; first | with_reducible refine bind_nm (by with_unfolding_all exact rfl) ?_ | with_reducible refine bind_pair (by with_unfolding_all exact rfl) (by with_unfolding_all exact rfl) (by with_unfolding_all exact rfl) ?_ | with_reducible refine bind_5 (by with_unfolding_all exact rfl) (by with_unfolding_all exact rfl) ?_ | with_reducible refine ex_int (by with_unfolding_all exact rfl) ?_ | with_reducible refine ex_bl (by with_unfolding_all exact rfl) ?_ | with_reducible refine ex_isT (by with_unfolding_all exact rfl) ?_ | with_reducible refine set_to (by with_unfolding_all exact rfl) (by with_unfolding_all exact rfl) ?_ | with_reducible refine aug_to (by with_unfolding_all exact rfl) (by with_unfolding_all exact rfl) (by with_unfolding_all exact rfl) ?_ | with_reducible refine ex_rg1 (by with_unfolding_all exact rfl) (by with_unfolding_all (unfold RgS; omega)) ?_ | with_reducible refine ex_rg2 (by with_unfolding_all exact rfl) (by with_unfolding_all exact rfl) (by with_unfolding_all (unfold RgS; omega)) ?_) | (with_reducible show bltT _ _ _; first | with_reducible refine l_lens (by with_unfolding_all exact rfl) ?_ | with_reducible refine l_len (by with_unfolding_all exact rfl) ?_ | with_reducible refine l_lentK 4 (by with_unfolding_all exact rfl) (by with_unfolding_all exact rfl) ?_ | with_reducible refine l_lentK 5 (by with_unfolding_all exact rfl) (by with_unfolding_all exact rfl) ?_ | with_reducible refine l_lentK 6 (by with_unfolding_all exact rfl) (by with_unfolding_all exact rfl) ?_ | with_reducible refine l_lent (by with_unfolding_all exact rfl) ?_ | with_reducible refine l_abs (by with_unfolding_all exact rfl) ?_ | with_reducible refine l_max2 (by with_unfolding_all exact rfl) (by with_unfolding_all exact rfl) ?_ | with_reducible refine l_min2 (by with_unfolding_all exact rfl) (by with_unfolding_all exact rfl) ?_ | with_reducible refine l_max3 (by with_unfolding_all exact rfl) (by with_unfolding_all exact rfl) (by with_unfolding_all exact rfl) ?_ | with_reducible refine l_intT (by with_unfolding_all exact rfl) ?_ | with_reducible refine l_intF (by with_unfolding_all exact rfl) ?_ | with_reducible refine l_intD (by with_unfolding_all exact rfl) (fun _ => ?_) (fun _ => ?_)) | (with_reducible show slT _ _ _ _; first | with_reducible refine sl_lt (by with_unfolding_all exact rfl) (by with_unfolding_all exact rfl) ?_) | (with_reducible show tru _ _; first | with_reducible refine t_bl (by with_unfolding_all exact rfl) ?_) | (with_reducible show augD _ _ _ _; first | with_reducible refine a_add (by with_unfolding_all exact rfl) (by with_unfolding_all exact rfl) ?_ | with_reducible refine a_sub (by with_unfolding_all exact rfl) (by with_unfolding_all exact rfl) ?_) | (with_reducible show wo _ _ _ _; first | with_reducible refine wo_nop ?_ | with_reducible refine wo_prt ?_) | (with_reducible show wi _ _ _ _; first | with_reducible refine wi_rng ?_ | with_reducible refine wi_sq ?_ | with_reducible refine wi_zip ?_ | with_reducible refine wi_enm ?_) | (with_reducible show wc _ _ _ _; first | with_reducible refine wc_nop ?_ | with_reducible refine wc_one ?_))
theorem at_terms {ts : List Tm} {j : Nat} (h : j < ts.length) : atI (ts.map Tm.D) (j : Int) = some (ts[j]).D := by
  unfold L2.atI L2.ixN
  rw [if_pos (by omega), List.length_map, if_pos (by omega)]
  simp [h]
theorem lefts_drop {xs : List Int} {ts : List Tm} {j : Nat} (h : j < ts.length) : lefts xs j (ts.drop j) = if ts[j].pulls = false ∧ 0 < ts[j].far (ts[j].arg xs) then .int j else lefts xs (j + 1) (ts.drop (j + 1)) := by
  rw [List.drop_eq_getElem_cons h, lefts]
def F_law_left : SpecF := fnF (fun x : Nat × List Tm × List Int => [termsD x.2.1, itup x.2.2]) (fun x => x.2.2.length = x.1 ∧ x.2.1.length ≤ 1000 ∧ TsOk x.1 x.2.1) (fun x => lefts x.2.2 0 x.2.1)
theorem M_law_left : Mono F_law_left := fnM _ _ _
def S_law_left : Sg := { z := true, fs := [F_law_far, F_law_argument, F_law_parts], gs := [] }
theorem W_law_left : WOk S_law_left n_law_left b_law_left F_law_left 2 := by
  rintro ds Φ ⟨⟨n, ts, xs⟩, rfl, ⟨h1, hl, h2⟩, k⟩
  refine ⟨rfl, ?_⟩
  have h1 : xs.length = n := h1
  have h2 : TsOk n ts := h2
  have hl : ts.length ≤ 1000 := hl
  unfold b_law_left
  trace_state
  refine ⟨by simp; omega, ?_⟩
  refine forW_inv (fun ds ρ => ∃ (j : Nat) (c2 c3 c4 : Option T), j ≤ ts.length ∧ ds = ((List.range ts.length).drop j).map (fun (i : Nat) => DL.D.int i) ∧ lefts xs 0 ts = lefts xs j (ts.drop j) ∧ ρ = [some (.leaf (termsD ts)), some (.leaf (itup xs)), c2, c3, c4]) ⟨0, _, _, _, by omega, by simp, rfl, rfl⟩ (fun d r ρ K1 g1 k1 _ _ kr1 => ?_) fun ρ h => ?_
  · obtain ⟨j, c2, c3, c4, hj, e, hd, rfl⟩ := g1
    obtain ⟨hj, rfl, e2⟩ := drop_cons e
    have ht := h2 _ (List.getElem_mem hj)
    have hin : ts[j].In xs.length := by rw [h1]; exact ht.1
    have hd2 := lefts_drop (xs := xs) hj
    trace_state
    refine ix_ll rfl rfl (at_terms hj) ?_
    trace_state
    refine ix_ll rfl rfl (at_terms hj) ?_
    trace_state
    refine ⟨(ts[j], xs), rfl, hin, ?_⟩
    trace_state
    refine ⟨(ts[j], ts[j].arg xs), rfl, trivial, ?_⟩
    trace_state
    refine ix_ll rfl rfl (at_terms hj) ?_
    trace_state
    refine ⟨ts[j], rfl, trivial, ?_⟩
    have nx : ¬(ts[j].pulls = false ∧ 0 < ts[j].far (ts[j].arg xs)) → ∀ c2 c3 c4, K1.nx [some (.leaf (termsD ts)), some (.leaf (itup xs)), c2, c3, c4] := fun a c2 c3 c4 => k1 _ ⟨j + 1, c2, c3, c4, hj, e2, by rw [hd, hd2, if_neg a], rfl⟩
    have stop : ts[j].pulls = false → 0 < ts[j].far (ts[j].arg xs) → ∀ ρ, K1.rt (.leaf (.int j)) ρ := fun a b ρ => by
      have e5 : lefts xs 0 ts = .int j := by rw [hd, hd2, if_pos ⟨a, b⟩]
      simp only [e5] at k
      exact kr1 _ _ k
    generalize ts[j] = t at *
    rcases t with ⟨d, l, h⟩ | ⟨d, l, h, f⟩ | ⟨d, o, l, h⟩ | ⟨d, o, l, h, f⟩
    · trace_state
      · rename_i z; exact stop rfl z _
      · rename_i z; exact nx (fun q => z q.2) _ _ _
    · trace_state
      exact nx (fun q => by cases q.1) _ _ _
    · trace_state
      · rename_i z; exact stop rfl z _
      · rename_i z; exact nx (fun q => z q.2) _ _ _
    · trace_state
      exact nx (fun q => by cases q.1) _ _ _
  · obtain ⟨j, c2, c3, c4, hj, e, hd, rfl⟩ := h
    have := drop_nil e
    trace_state
    have e5 : lefts xs 0 ts = .non := by rw [hd, List.drop_eq_nil_of_le (by omega)]; rfl
    simp only [e5] at k
    exact k
/-! terms near a standing -/
def Near (xs : List Int) (b : Bool) (t : Tm) : Prop := t.Ok xs.length 30 ∧ (b = false → t.pulls = true) ∧ (t.pulls = false → -(10 ^ 18) ≤ t.arg xs → t.arg xs ≤ 10 ^ 18 → t.low ≤ t.arg xs ∧ t.arg xs ≤ t.high)
theorem Tm.Ok.mono {t : Tm} {n : Nat} {m k : Int} (h : t.Ok n m) (l : m ≤ k) : t.Ok n k := by
  cases t with
  | stop a b c => exact ⟨h.1, h.2.1, trivial⟩
  | wish a b c f => exact ⟨h.1, h.2.1, h.2.2.1, Int.le_trans h.2.2.2 l⟩
  | bar a o b c => exact ⟨h.1, h.2.1, h.2.2⟩
  | tie a o b c f => exact ⟨h.1, h.2.1, h.2.2.1, h.2.2.2.1, Int.le_trans h.2.2.2.2 l⟩
/-- the high end is near the argument -/
def Hi (xs : List Int) (s : Int) (t : Tm) : Prop := -(10 ^ 18) ≤ t.arg xs → t.high ≤ t.arg xs + 4 * s
def F_law_terms : SpecF := fun ds Φ => ∃ (xs : List Int) (s m : Int) (b : Bool), ds = [.bag, itup xs, .int s, .int m, .bl b] ∧ (0 < xs.length ∧ xs.length ≤ 100) ∧ (0 < s ∧ s ≤ 10 ^ 40) ∧ (0 ≤ m ∧ m ≤ 1000) ∧
  ∀ ts : List Tm, (ts.length : Int) ≤ m → (∀ t ∈ ts, Near xs b t) → (∀ t ∈ ts, Hi xs s t) → Φ (.lst (ts.map fun t => .leaf t.D))
theorem M_law_terms : Mono F_law_terms := fun ds Φ Ψ i ⟨xs, s, m, b, e, h1, h2, h3, k⟩ => ⟨xs, s, m, b, e, h1, h2, h3, fun t a b c => i _ (k t a b c)⟩
def S_law_terms : Sg := { z := true, fs := [takeF, F_law_term], gs := [] }
theorem rl_terms {p : Tm → Prop} : ∀ {ds : List DL.D} {us : List T}, Rl (fun _ u => ∃ t : Tm, u = .leaf t.D ∧ p t) ds us → ∃ ts : List Tm, us = ts.map (fun t => .leaf t.D) ∧ ts.length = ds.length ∧ ∀ t ∈ ts, p t
  | [], us, h => ⟨[], h, rfl, by simp⟩
  | d :: ds, us, ⟨t, r, e, ⟨x, e2, h1⟩, h2⟩ => by
    obtain ⟨xs, e3, l, q⟩ := rl_terms h2
    refine ⟨x :: xs, by rw [e, e2, e3]; rfl, by simp [l], fun y hy => ?_⟩
    rcases List.mem_cons.mp hy with rfl | hy
    · exact h1
    · exact q y hy
theorem W_law_terms : WOk S_law_terms n_law_terms b_law_terms F_law_terms 5 := by
  rintro ds Φ ⟨xs, s, m, b, rfl, h1, h2, h3, k⟩
  refine ⟨rfl, ?_⟩
  have big : (1000 : Int) + 1 < 10 ^ 100 := by decide +kernel
  have key : ∀ c : Int, 0 < c → c ≤ 30 → wb S_law_terms (tl b_law_terms) [some (.leaf .bag), some (.leaf (itup xs)), some (.leaf (.int s)), some (.leaf (.int m)), some (.leaf (.bl b)), some (.leaf (.int c)), none] { nx := fun _ => Φ (.leaf .non), rt := fun t _ => Φ t } := fun c c1 c2 => by
    unfold b_law_terms
    simp only [tl]
    trace_state
    refine ⟨_, rfl, ⟨by omega, by omega⟩, fun v a a2 => ?_⟩
    trace_state
    refine ⟨⟨by omega, by omega⟩, by simp; omega, ?_⟩
    refine lcW_all (fun _ u => ∃ t : Tm, u = .leaf t.D ∧ Near xs b t ∧ Hi xs s t) (fun d hd Ψ hΨ => ?_) fun us hu => ?_
    · obtain ⟨_, _, rfl⟩ := List.mem_map.mp hd
      trace_state
      refine ⟨xs, s, c, b, rfl, h1, h2, ⟨c1, by omega⟩, fun t t1 t2 t3 t4 => ?_⟩
      exact hΨ _ ⟨t, rfl, ⟨t1.mono c2, t2, t3⟩, t4⟩
    · obtain ⟨ts, rfl, l, q⟩ := rl_terms hu
      trace_state
      exact k ts (by rw [l]; simp; omega) (fun t ht => (q t ht).1) fun t ht => (q t ht).2
  unfold b_law_terms
  trace_state
  refine ⟨_, rfl, ⟨by decide, by decide +kernel⟩, fun v a b => ?_⟩
  have hv : v = 0 ∨ v = 1 ∨ v = 2 := by omega
  rcases hv with rfl | rfl | rfl
  all_goals exact ix_lst rfl rfl rfl (fin_leaf rfl (bind_nm rfl (key _ (by decide) (by decide))))
end KT
namespace KT
open PySem PySem.Spec PyProof.Rows L2 DL
local macro_rules | `(tactic| trace_state) => `(tactic| repeat' first | (with_reducible show w _ _ _ _; first | with_reducible refine w_nm (by with_unfolding_all exact rfl) ?_ | with_reducible refine w_ix ?_ | with_reducible refine w_int ?_ | with_reducible refine w_bin ?_ | with_reducible refine w_cmp ?_ | with_reducible refine w_call (by with_unfolding_all exact rfl) ?_ | with_reducible refine w_blt ?_ | with_reducible refine w_ow (by with_unfolding_all exact rfl) ?_ | with_reducible refine w_tup ?_ | with_reducible refine w_lst ?_ | with_reducible refine w_str ?_ | with_reducible refine w_neg ?_ | with_reducible refine w_ife ?_ | with_reducible refine w_sl ?_ | with_reducible refine w_and ?_ | with_reducible refine w_one ?_ | with_reducible refine w_or ?_ | with_reducible refine w_not ?_ | with_reducible refine w_bl ?_ | with_reducible refine w_non ?_ | with_reducible refine w_gl (by with_unfolding_all exact rfl) ?_ | with_reducible refine w_chn ?_ | with_reducible refine w_lc (by with_unfolding_all exact rfl) ?_ | with_reducible refine w_fld ?_ | with_reducible refine w_mth (by with_unfolding_all exact rfl) ?_ | with_reducible refine w_mt0 (by with_unfolding_all exact rfl) ?_ | with_reducible refine w_prp (by with_unfolding_all exact rfl) ?_ | with_reducible refine w_new (by with_unfolding_all exact rfl) ?_ | with_reducible refine w_isi ?_ | with_reducible refine w_eqO (by with_unfolding_all exact rfl) ?_ | with_reducible refine w_isC ?_ | with_reducible refine w_lr1 ?_ | with_reducible refine w_lr2 ?_) | (with_reducible show wa _ _ _ _; first | with_reducible refine wa_cons ?_ | with_reducible refine wa_nil ?_) | (with_reducible show wv _ _ _ _; first | with_reducible refine wv_cons ?_ | with_reducible refine wv_nil ?_) | (with_reducible show T.fin _ _; first | with_reducible refine fin_leaf (by with_unfolding_all exact rfl) ?_ | with_reducible refine fin_mk (by with_unfolding_all exact rfl) ?_ | with_reducible refine fin_lst (by with_unfolding_all exact rfl) ?_ | with_reducible refine fin_tup (by with_unfolding_all exact rfl) ?_) | (with_reducible show And _ _; first | with_reducible refine and_len (by with_unfolding_all exact rfl) ?_) | (with_reducible show frozs _ _ _; first | with_reducible refine fz_nil ?_ | with_reducible refine fz_cons ?_) | (with_reducible show T.froz _ _ _; first | with_reducible refine fz_leaf (by with_unfolding_all exact rfl) ?_ | with_reducible refine fz_lst (by with_unfolding_all exact rfl) (by with_unfolding_all exact rfl) ?_ | with_reducible refine fz_tup (by with_unfolding_all exact rfl) (by with_unfolding_all exact rfl) ?_ | with_reducible refine fz_vw (by with_unfolding_all exact rfl) (by with_unfolding_all exact rfl) ?_) | (with_reducible show ixT _ _ _; first | with_reducible refine ix_lt (by with_unfolding_all exact rfl) (by with_unfolding_all exact rfl) (by with_unfolding_all exact at_getD (by assumption)) ?_ | with_reducible refine ix_lt (by with_unfolding_all exact rfl) (by with_unfolding_all exact rfl) (by with_unfolding_all exact rfl) ?_ | with_reducible refine ix_lst (by with_unfolding_all exact rfl) (by with_unfolding_all exact rfl) (by with_unfolding_all exact rfl) ?_ | with_reducible refine ix_ll (by with_unfolding_all exact rfl) (by with_unfolding_all exact rfl) (by with_unfolding_all exact rfl) ?_ | with_reducible refine ix_vli (by with_unfolding_all exact rfl) (by with_unfolding_all exact rfl) (by with_unfolding_all exact rfl) ?_ | with_reducible refine ix_vll (by with_unfolding_all exact rfl) (by with_unfolding_all exact rfl) (by with_unfolding_all exact rfl) ?_ | with_reducible refine ix_tup (by with_unfolding_all exact rfl) (by with_unfolding_all exact rfl) (by with_unfolding_all exact rfl) ?_ | with_reducible refine ix_vti (by with_unfolding_all exact rfl) (by with_unfolding_all exact rfl) (by with_unfolding_all exact rfl) ?_ | with_reducible refine ix_vlt (by with_unfolding_all exact rfl) (by with_unfolding_all exact rfl) (by with_unfolding_all exact rfl) ?_ | with_reducible refine ix_vtl (by with_unfolding_all exact rfl) (by with_unfolding_all exact rfl) (by with_unfolding_all exact rfl) ?_ | with_reducible refine ix_vls (by with_unfolding_all exact rfl) (by with_unfolding_all exact rfl) (by with_unfolding_all exact rfl) ?_) | (with_reducible show DL.binT _ _ _ _; first | with_reducible refine b_add (by with_unfolding_all exact rfl) (by with_unfolding_all exact rfl) ?_ | with_reducible refine b_sub (by with_unfolding_all exact rfl) (by with_unfolding_all exact rfl) ?_ | with_reducible refine b_mul (by with_unfolding_all exact rfl) (by with_unfolding_all exact rfl) (by with_unfolding_all exact mulR ⟨by decide, by decide⟩) ?_ | with_reducible refine b_mul (by with_unfolding_all exact rfl) (by with_unfolding_all exact rfl) (by with_unfolding_all exact mulL ⟨by decide, by decide⟩) ?_ | with_reducible refine b_mul (by with_unfolding_all exact rfl) (by with_unfolding_all exact rfl) (by with_unfolding_all exact mulL ⟨by omega, by omega⟩) ?_ | with_reducible refine b_mul (by with_unfolding_all exact rfl) (by with_unfolding_all exact rfl) (by with_unfolding_all exact mulR ⟨by omega, by omega⟩) ?_ | with_reducible refine b_mul (by with_unfolding_all exact rfl) (by with_unfolding_all exact rfl) ?_ ?_ | with_reducible refine b_p18 (by with_unfolding_all exact rfl) (by with_unfolding_all exact rfl) ?_ | with_reducible refine b_p9 (by with_unfolding_all exact rfl) (by with_unfolding_all exact rfl) ?_ | with_reducible refine b_p38 (by with_unfolding_all exact rfl) (by with_unfolding_all exact rfl) ?_ | with_reducible refine b_p17 (by with_unfolding_all exact rfl) (by with_unfolding_all exact rfl) ?_ | with_reducible refine b_p40 (by with_unfolding_all exact rfl) (by with_unfolding_all exact rfl) ?_ | with_reducible refine b_p39 (by with_unfolding_all exact rfl) (by with_unfolding_all exact rfl) ?_ | with_reducible refine b_p21 (by with_unfolding_all exact rfl) (by with_unfolding_all exact rfl) ?_ | with_reducible refine b_p20 (by with_unfolding_all exact rfl) (by with_unfolding_all exact rfl) ?_ | with_reducible refine b_p6 (by with_unfolding_all exact rfl) (by with_unfolding_all exact rfl) ?_ | with_reducible refine b_pow (by with_unfolding_all exact rfl) (by with_unfolding_all exact rfl) (by with_unfolding_all decide) ?_ | with_reducible refine b_mod (by with_unfolding_all exact rfl) (by with_unfolding_all exact rfl) (by with_unfolding_all (first | decide | assumption | omega)) ?_ | with_reducible refine b_mod (by with_unfolding_all exact rfl) (by with_unfolding_all exact rfl) ?_ ?_ | with_reducible refine b_fdiv (by with_unfolding_all exact rfl) (by with_unfolding_all exact rfl) (by with_unfolding_all exact ⟨by decide, by decide⟩) ?_ | with_reducible refine b_fdiv (by with_unfolding_all exact rfl) (by with_unfolding_all exact rfl) (by with_unfolding_all exact ⟨by assumption, by assumption⟩) ?_ | with_reducible refine b_fdiv (by with_unfolding_all exact rfl) (by with_unfolding_all exact rfl) ?_ ?_ | with_reducible refine b_catL (by with_unfolding_all exact rfl) (by with_unfolding_all exact rfl) (by with_unfolding_all exact rfl) ?_) | (with_reducible show cmpD _ _ _ _; first | with_reducible refine c_eq (by with_unfolding_all exact rfl) (by with_unfolding_all exact rfl) ?_ | with_reducible refine c_ne (by with_unfolding_all exact rfl) (by with_unfolding_all exact rfl) ?_ | with_reducible refine c_lt (by with_unfolding_all exact rfl) (by with_unfolding_all exact rfl) ?_ | with_reducible refine c_le (by with_unfolding_all exact rfl) (by with_unfolding_all exact rfl) ?_ | with_reducible refine c_gt (by with_unfolding_all exact rfl) (by with_unfolding_all exact rfl) ?_ | with_reducible refine c_ge (by with_unfolding_all exact rfl) (by with_unfolding_all exact rfl) ?_ | with_reducible refine c_nes (by with_unfolding_all exact rfl) (by with_unfolding_all exact rfl) ?_ | with_reducible refine c_eqs (by with_unfolding_all exact rfl) (by with_unfolding_all exact rfl) ?_ | with_reducible refine c_inT (by with_unfolding_all exact rfl) (by with_unfolding_all exact rfl) (by with_unfolding_all (first | exact tb_stop | exact tb_wish | exact tb_bar | exact tb_tie | exact wt_stop | exact wt_wish | exact wt_bar | exact wt_tie)) ?_ | with_reducible refine c_ninT (by with_unfolding_all exact rfl) (by with_unfolding_all exact rfl) (by with_unfolding_all (first | exact w4_stop | exact w4_wish | exact w4_bar | exact w4_tie)) ?_ | with_reducible refine c_isT (by with_unfolding_all exact rfl) (by with_unfolding_all exact rfl) ?_ | with_reducible refine c_isF (by with_unfolding_all exact rfl) (by with_unfolding_all exact rfl) ?_ | with_reducible refine c_notT (by with_unfolding_all exact rfl) (by with_unfolding_all exact rfl) ?_ | with_reducible refine c_notF (by with_unfolding_all exact rfl) (by with_unfolding_all exact rfl) ?_) | (with_reducible show wt _ _ _ _; first | with_reducible refine wt_cmp ?_ | with_reducible refine wt_not ?_ | with_reducible refine wt_val ?_ | with_reducible refine wt_and ?_ | with_reducible refine wt_or ?_ | with_reducible refine wt_one ?_ | with_reducible refine wt_chn ?_) | (with_reducible show @ite _ _ _ _ _; first | with_reducible refine ite_t ?_ | with_reducible refine ite_f ?_ | with_reducible refine ite_nt ?_ | with_reducible refine ite_nf ?_ | with_reducible refine ite_decT (by decide) ?_ | with_reducible refine ite_decF (by decide) ?_ | with_reducible refine ite_dec (fun _ => ?_) (fun _ => ?_) | with_reducible refine ite_ndecT (by with_unfolding_all exact rfl) ?_ | with_reducible refine ite_ndec (fun _ => ?_) (fun _ => ?_)) | (with_reducible show wb _ _ _ _; first | with_reducible refine wb_asg ?_ | with_reducible refine wb_ite ?_ | with_reducible refine wb_ret ?_ | with_reducible refine wb_nil ?_ | with_reducible refine wb_for ?_ | with_reducible refine wb_asgLc (by with_unfolding_all exact rfl) (by with_unfolding_all exact rfl) ?_ | with_reducible refine wb_setix (by with_unfolding_all exact rfl) ?_ | with_reducible refine wb_augix (by with_unfolding_all exact rfl) ?_ | with_reducible refine wb_aug (by with_unfolding_all exact rfl) (by with_unfolding_all exact rfl) ?_ | with_reducible refine wb_ex ?_ | with_reducible refine wb_fz (by with_unfolding_all exact rfl) (by with_unfolding_all exact rfl) ?_ | with_reducible refine wb_pass ?_ | with_reducible refine wb_brk ?_ | with_reducible refine wb_cont ?_ | with_reducible refine wb_retN ?_ | with_reducible refine wb_par2 (by with_unfolding_all decide) (by with_unfolding_all exact rfl) (by with_unfolding_all exact rfl) ?_ | with_reducible refine wb_app (by with_unfolding_all exact rfl) (by with_unfolding_all (simp; done)) ?_ | with_reducible refine wb_app (by with_unfolding_all exact rfl) ?_ ?_) | (with_reducible show Exists _; first | with_reducible refine bind_nm (by with_unfolding_all exact rfl) ?_ | with_reducible refine bind_pair (by with_unfolding_all exact rfl) (by with_unfolding_all exact rfl) (by with_unfolding_all exact rfl) ?_ | with_reducible refine bind_5 (by with_unfolding_all exact rfl) (by with_unfolding_all exact rfl) ?_ | with_reducible refine ex_int (by with_unfolding_all exact rfl) ?_ | with_reducible refine ex_bl (by with_unfolding_all exact rfl) ?_ | with_reducible refine ex_isT (by with_unfolding_all exact rfl) ?_ | with_reducible refine set_to (by with_unfolding_all exact rfl) (by with_unfolding_all exact rfl) ?_ | with_reducible refine aug_to (by with_unfolding_all exact rfl) (by with_unfolding_all exact rfl) (by with_unfolding_all exact rfl) ?_ | with_reducible refine ex_rg1 (by with_unfolding_all exact rfl) (by with_unfolding_all (unfold RgS; omega)) ?_ | with_reducible refine ex_rg2 (by with_unfolding_all exact rfl) (by with_unfolding_all exact rfl) (by with_unfolding_all (unfold RgS; omega)) ?_) | (with_reducible show bltT _ _ _; first | with_reducible refine l_lens (by with_unfolding_all exact rfl) ?_ | with_reducible refine l_len (by with_unfolding_all exact rfl) ?_ | with_reducible refine l_lentK 4 (by with_unfolding_all exact rfl) (by with_unfolding_all exact rfl) ?_ | with_reducible refine l_lentK 5 (by with_unfolding_all exact rfl) (by with_unfolding_all exact rfl) ?_ | with_reducible refine l_lentK 6 (by with_unfolding_all exact rfl) (by with_unfolding_all exact rfl) ?_ | with_reducible refine l_lent (by with_unfolding_all exact rfl) ?_ | with_reducible refine l_abs (by with_unfolding_all exact rfl) ?_ | with_reducible refine l_max2 (by with_unfolding_all exact rfl) (by with_unfolding_all exact rfl) ?_ | with_reducible refine l_min2 (by with_unfolding_all exact rfl) (by with_unfolding_all exact rfl) ?_ | with_reducible refine l_max3 (by with_unfolding_all exact rfl) (by with_unfolding_all exact rfl) (by with_unfolding_all exact rfl) ?_ | with_reducible refine l_intT (by with_unfolding_all exact rfl) ?_ | with_reducible refine l_intF (by with_unfolding_all exact rfl) ?_ | with_reducible refine l_intD (by with_unfolding_all exact rfl) (fun _ => ?_) (fun _ => ?_)) | (with_reducible show slT _ _ _ _; first | with_reducible refine sl_lt (by with_unfolding_all exact rfl) (by with_unfolding_all exact rfl) ?_) | (with_reducible show tru _ _; first | with_reducible refine t_bl (by with_unfolding_all exact rfl) ?_) | (with_reducible show augD _ _ _ _; first | with_reducible refine a_add (by with_unfolding_all exact rfl) (by with_unfolding_all exact rfl) ?_ | with_reducible refine a_sub (by with_unfolding_all exact rfl) (by with_unfolding_all exact rfl) ?_) | (with_reducible show wo _ _ _ _; first | with_reducible refine wo_nop ?_ | with_reducible refine wo_prt ?_) | (with_reducible show wi _ _ _ _; first | with_reducible refine wi_rng ?_ | with_reducible refine wi_sq ?_ | with_reducible refine wi_zip ?_ | with_reducible refine wi_enm ?_) | (with_reducible show wc _ _ _ _; first | with_reducible refine wc_nop ?_ | with_reducible refine wc_one ?_))
abbrev n_Board_size : List Str := ["self"]
def b_Board_size : DL.B := (.ret (.fld 0 0 (.nm 0)) .nil)
abbrev n_Board_terms : List Str := ["self"]
def b_Board_terms : DL.B := (.ret (.blt .list (.cons (.fld 0 1 (.nm 0)) .nil)) .nil)
abbrev n_Board_also : List Str := ["self", "term"]
def b_Board_also : DL.B := (.ret (.new 0 (.cons (.fld 0 0 (.nm 0)) (.cons (.bin .add (.fld 0 1 (.nm 0)) (.lst (.cons (.nm 1) .nil))) .nil))) .nil)
abbrev n_Board_without : List Str := ["self", "at"]
def b_Board_without : DL.B := (.ret (.new 0 (.cons (.fld 0 0 (.nm 0)) (.cons (.bin .add (.sl (.fld 0 1 (.nm 0)) .nop (.prt (.nm 1))) (.sl (.fld 0 1 (.nm 0)) (.prt (.bin .add (.nm 1) (.int 1))) .nop)) .nil))) .nil)
abbrev n_Board_moved : List Str := ["self", "at", "by", "term"]
def b_Board_moved : DL.B := (.asg (.nm 3) (.call 0 (.cons (.ix (.fld 0 1 (.nm 0)) (.nm 1)) (.cons (.nm 2) .nil))) (.ret (.new 0 (.cons (.fld 0 0 (.nm 0)) (.cons (.bin .add (.bin .add (.sl (.fld 0 1 (.nm 0)) .nop (.prt (.nm 1))) (.lst (.cons (.nm 3) .nil))) (.sl (.fld 0 1 (.nm 0)) (.prt (.bin .add (.nm 1) (.int 1))) .nop)) .nil))) .nil))
abbrev n_Board_mirrored : List Str := ["self", "term"]
def b_Board_mirrored : DL.B := (.ret (.new 0 (.cons (.fld 0 0 (.nm 0)) (.cons (.lc [1] (.nm 1) (.sq (.fld 0 1 (.nm 0))) .nop (.call 0 (.cons (.nm 1) .nil))) .nil))) .nil)
abbrev n_Board_eq_ : List Str := ["self", "other"]
def b_Board_eq_ : DL.B := (.ite (.not (.val (.isC 0 (.nm 1)))) (.ret (.bl false) .nil) .nil (.ret (.and (.cmp .eq (.fld 0 0 (.nm 0)) (.fld 0 0 (.nm 1))) (.one (.cmp .eq (.fld 0 1 (.nm 0)) (.fld 0 1 (.nm 1))))) .nil))
abbrev n_law_with_ends : List Str := ["_law_term_here", "_law_low", "_law_high", "_law_begin"]
def b_law_with_ends : DL.B := (.asg (.nm 3) (.bin .add (.int 2) (.blt .int (.cons (.cmp .inn (.ix (.nm 0) (.int 0)) (.tup (.cons (.str "tie") (.cons (.str "bar") .nil)))) .nil))) (.ret (.bin .add (.bin .add (.sl (.nm 0) .nop (.prt (.nm 3))) (.tup (.cons (.nm 1) (.cons (.nm 2) .nil)))) (.sl (.nm 0) (.prt (.bin .add (.nm 3) (.int 2))) .nop)) .nil))
/-! ### boards made of others -/
theorem wt_eqO {S : Sg} {i cl : Nat} {x y : I} {ρ : DL.Env} {Ψ : Bool → Prop} {f : SpecF} (h : S.ms[i]? = some f) (k : w S x ρ fun t => w S y ρ fun u => ∃ fs gs, t = .leaf (.obj cl fs) ∧ u = .leaf (.obj cl gs) ∧ f [.obj cl fs, .obj cl gs] fun r => ∃ b, r = .leaf (.bl b) ∧ Ψ b) : wt S (.eqO i cl x y) ρ Ψ := by simp only [wt]; exact ⟨f, h, k⟩
theorem cut_to {α : Type} (a b : List α) (k : Nat) (h : k = a.length) : cutL (a ++ b) none (some (k : Int)) = a := by
  subst h
  unfold cutL
  rw [HT.sIx_none, HT.sIx_nat, List.drop_zero, Nat.min_eq_left (by simp)]
  simp
theorem cut_from {α : Type} (a b : List α) (k : Nat) (h : k = a.length) : cutL (a ++ b) (some (k : Int)) none = b := by
  subst h
  unfold cutL
  rw [HT.sIx_none, HT.sIx_nat, Nat.min_eq_left (by simp)]
  simp
theorem at_split (a : List Tm) (t : Tm) (b : List Tm) : atI ((a ++ t :: b).map Tm.D) (a.length : Int) = some t.D := by
  rw [at_terms (j := a.length) (by simp)]
  simp
theorem its_terms (ts : List Tm) : (T.leaf (termsD ts)).its = some (ts.map fun t => .leaf t.D) := by
  show some ((ts.map Tm.D).map T.leaf) = _
  rw [List.map_map]; rfl
theorem dat_terms (ts : List Tm) : (T.lst (ts.map fun t => T.leaf t.D)).dat = termsD ts := by
  simp [T.dat, T.dats_eq, termsD]
def F_Board_size : SpecF := fnF (fun x : Nat × List Tm => [boardD x.1 x.2]) (fun _ => True) (fun x => .int x.1)
theorem M_Board_size : Mono F_Board_size := fnM _ _ _
def S_Board_size : Sg := { z := true, fs := [], gs := [] }
theorem W_Board_size : WOk S_Board_size n_Board_size b_Board_size F_Board_size 1 := by
  rintro ds Φ ⟨⟨n, ts⟩, rfl, _, k⟩
  refine ⟨rfl, ?_⟩
  unfold b_Board_size
  trace_state
  refine ⟨_, _, rfl, rfl, ?_⟩
  trace_state
  exact k
def F_Board_terms : SpecF := fun ds Φ => ∃ (n : Nat) (ts : List Tm), ds = [boardD n ts] ∧ Φ (.lst (ts.map fun t => .leaf t.D))
theorem M_Board_terms : Mono F_Board_terms := fun ds Φ Ψ i ⟨n, ts, e, k⟩ => ⟨n, ts, e, i _ k⟩
def S_Board_terms : Sg := { z := true, fs := [], gs := [] }
theorem W_Board_terms : WOk S_Board_terms n_Board_terms b_Board_terms F_Board_terms 1 := by
  rintro ds Φ ⟨n, ts, rfl, k⟩
  refine ⟨rfl, ?_⟩
  unfold b_Board_terms
  trace_state
  refine ⟨_, _, rfl, rfl, ?_⟩
  trace_state
  refine l_list (.inl (its_terms ts)) ?_
  trace_state
  exact k
def F_Board_also : SpecF := fnF (fun x : Nat × List Tm × Tm => [boardD x.1 x.2.1, x.2.2.D]) (fun x => (1 ≤ x.1 ∧ x.1 ≤ 8) ∧ x.2.1.length < 24 ∧ TsOk x.1 (x.2.1 ++ [x.2.2])) (fun x => boardD x.1 (x.2.1 ++ [x.2.2]))
theorem M_Board_also : Mono F_Board_also := fnM _ _ _
def S_Board_also : Sg := { z := true, fs := [], gs := [], nw := [F_Board_init_] }
theorem W_Board_also : WOk S_Board_also n_Board_also b_Board_also F_Board_also 2 := by
  rintro ds Φ ⟨⟨n, ts, t⟩, rfl, ⟨h1, hl, h2⟩, k⟩
  refine ⟨rfl, ?_⟩
  have hl : ts.length < 24 := hl
  unfold b_Board_also
  trace_state
  refine ⟨_, _, rfl, rfl, ?_⟩
  trace_state
  refine ⟨_, _, rfl, rfl, ?_⟩
  trace_state
  refine b_cat (d1 := ts.map Tm.D) (d2 := [t.D]) rfl (by simp [T.dat, T.dats_eq]) (its_terms ts) rfl (by simp; omega) ?_
  trace_state
  refine ⟨(n, ts ++ [t]), ?_, ⟨h1, by simp; omega, h2⟩, ?_⟩
  · simp [T.dat, T.dats_eq, termsD]
  · trace_state
    exact k
def F_Board_without : SpecF := fnF (fun x : Nat × List Tm × Tm × List Tm => [boardD x.1 (x.2.1 ++ x.2.2.1 :: x.2.2.2), .int x.2.1.length]) (fun x => (1 ≤ x.1 ∧ x.1 ≤ 8) ∧ x.2.1.length + x.2.2.2.length < 24 ∧ TsOk x.1 (x.2.1 ++ x.2.2.2)) (fun x => boardD x.1 (x.2.1 ++ x.2.2.2))
theorem M_Board_without : Mono F_Board_without := fnM _ _ _
def S_Board_without : Sg := { z := true, fs := [], gs := [], nw := [F_Board_init_] }
theorem W_Board_without : WOk S_Board_without n_Board_without b_Board_without F_Board_without 2 := by
  rintro ds Φ ⟨⟨n, a, t, b⟩, rfl, ⟨h1, hl, h2⟩, k⟩
  refine ⟨rfl, ?_⟩
  have hl : a.length + b.length < 24 := hl
  unfold b_Board_without
  trace_state
  refine ⟨_, _, rfl, rfl, ?_⟩
  trace_state
  refine ⟨_, _, rfl, rfl, ?_⟩
  trace_state
  refine sl_its (its_terms _) ?_
  rw [cutL_map, cut_to a (t :: b) a.length rfl]
  trace_state
  refine ⟨_, _, rfl, rfl, ?_⟩
  trace_state
  refine sl_its (its_terms _) ?_
  rw [cutL_map, show a ++ t :: b = (a ++ [t]) ++ b by simp, show ((a.length : Int) + 1) = ((a.length + 1 : Nat) : Int) from rfl, cut_from (a ++ [t]) b (a.length + 1) (by simp)]
  trace_state
  refine b_cat (dat_terms a) (dat_terms b) rfl rfl (by simp; omega) ?_
  trace_state
  refine ⟨(n, a ++ b), ?_, ⟨h1, by simp; omega, h2⟩, ?_⟩
  · rw [← List.map_append, dat_terms]
  · trace_state
    exact k
def F_Board_moved : SpecF := fnF (fun x : Nat × List Tm × Tm × List Tm × Int => [boardD x.1 (x.2.1 ++ x.2.2.1 :: x.2.2.2.1), .int x.2.1.length, .int x.2.2.2.2]) (fun x => (1 ≤ x.1 ∧ x.1 ≤ 8) ∧ x.2.1.length + x.2.2.2.1.length < 24 ∧ TsOk x.1 (x.2.1 ++ x.2.2.1.mov x.2.2.2.2 :: x.2.2.2.1)) (fun x => boardD x.1 (x.2.1 ++ x.2.2.1.mov x.2.2.2.2 :: x.2.2.2.1))
theorem M_Board_moved : Mono F_Board_moved := fnM _ _ _
def S_Board_moved : Sg := { z := true, fs := [F_moved], gs := [], nw := [F_Board_init_] }
theorem W_Board_moved : WOk S_Board_moved n_Board_moved b_Board_moved F_Board_moved 3 := by
  rintro ds Φ ⟨⟨n, a, t, b, x⟩, rfl, ⟨h1, hl, h2⟩, k⟩
  refine ⟨rfl, ?_⟩
  have hl : a.length + b.length < 24 := hl
  unfold b_Board_moved
  trace_state
  refine ⟨_, _, rfl, rfl, ?_⟩
  trace_state
  refine ix_ll rfl rfl (at_split a t b) ?_
  trace_state
  refine ⟨(t, x), rfl, trivial, ?_⟩
  trace_state
  refine ⟨_, _, rfl, rfl, ?_⟩
  trace_state
  refine ⟨_, _, rfl, rfl, ?_⟩
  trace_state
  refine sl_its (its_terms _) ?_
  rw [cutL_map, cut_to a (t :: b) a.length rfl]
  trace_state
  refine b_cat (d2 := [(t.mov x).D]) (dat_terms a) (by simp [T.dat, T.dats_eq]) rfl rfl (by simp; omega) ?_
  trace_state
  refine ⟨_, _, rfl, rfl, ?_⟩
  trace_state
  refine sl_its (its_terms _) ?_
  rw [cutL_map, show a ++ t :: b = (a ++ [t]) ++ b by simp, show ((a.length : Int) + 1) = ((a.length + 1 : Nat) : Int) from rfl, cut_from (a ++ [t]) b (a.length + 1) (by simp)]
  trace_state
  have e1 : (a.map fun t => T.leaf t.D) ++ [T.leaf (t.mov x).D] = (a ++ [t.mov x]).map fun t => T.leaf t.D := by simp
  rw [e1]
  refine b_cat (dat_terms _) (dat_terms b) rfl rfl (by simp; omega) ?_
  trace_state
  refine ⟨(n, a ++ t.mov x :: b), ?_, ⟨h1, by simp; omega, h2⟩, ?_⟩
  · rw [← List.map_append, dat_terms]; simp
  · trace_state
    exact k
theorem TsOk.mir {n : Nat} {ts : List Tm} (h : TsOk n ts) : TsOk n (ts.map Tm.mir) := fun t ht => by
  obtain ⟨u, hu, rfl⟩ := List.mem_map.mp ht
  have := h u hu
  exact this.ends (by have := this.2.1; omega) (by have := this.2.1; omega) (by have := this.2.1; omega)
def F_Board_mirrored : SpecF := fnF (fun x : Nat × List Tm => [boardD x.1 x.2]) (fun x => (1 ≤ x.1 ∧ x.1 ≤ 8) ∧ x.2.length ≤ 24 ∧ TsOk x.1 x.2) (fun x => boardD x.1 (x.2.map Tm.mir))
theorem M_Board_mirrored : Mono F_Board_mirrored := fnM _ _ _
def S_Board_mirrored : Sg := { z := true, fs := [F_mirrored], gs := [], nw := [F_Board_init_] }
theorem W_Board_mirrored : WOk S_Board_mirrored n_Board_mirrored b_Board_mirrored F_Board_mirrored 1 := by
  rintro ds Φ ⟨⟨n, ts⟩, rfl, ⟨h1, hl, h2⟩, k⟩
  refine ⟨rfl, ?_⟩
  have hl : ts.length ≤ 24 := hl
  have h2 : TsOk n ts := h2
  unfold b_Board_mirrored
  trace_state
  refine ⟨_, _, rfl, rfl, ?_⟩
  trace_state
  refine ⟨_, _, rfl, rfl, ?_⟩
  trace_state
  refine ⟨_, rfl, by simp; omega, lcW_tyM Tm.D (fun t => t.mir.D) (fun t ht Ψ hΨ => ?_) ?_⟩
  · trace_state
    refine ⟨t, rfl, trivial, ?_⟩
    trace_state
    exact hΨ
  trace_state
  refine ⟨(n, ts.map Tm.mir), ?_, ⟨h1, by simp; omega, h2.mir⟩, ?_⟩
  · rw [List.nil_append, show (ts.map fun t => T.leaf t.mir.D) = (ts.map Tm.mir).map fun t => T.leaf t.D by simp, dat_terms]
  · trace_state
    exact k
theorem Tm.lay (t : Tm) : t.D.lay = true := by
  rcases t with ⟨d, l, h⟩ | ⟨d, l, h, f⟩ | ⟨d, o, l, h⟩ | ⟨d, o, l, h, f⟩ <;> simp only [Tm.D, D.lay, D.lays, so_stop, so_wish, so_bar, so_tie, Bool.and_self, Bool.and_true]
theorem Tm.dep (t : Tm) : t.D.dep ≤ 1 := by cases t <;> exact Nat.le_of_ble_eq_true rfl
theorem Tm.wt (t : Tm) : t.D.wt ≤ 20 := by cases t <;> exact Nat.le_of_ble_eq_true rfl
theorem terms_deps : ∀ ts : List Tm, D.deps (ts.map Tm.D) ≤ 1
  | [] => by simp [D.deps]
  | t :: r => by
    simp only [List.map_cons, D.deps]
    exact Nat.max_le.mpr ⟨t.dep, terms_deps r⟩
theorem terms_fit (ts : List Tm) : (termsD ts).Fit := by
  refine ⟨?_, ?_⟩
  · show D.lays (ts.map Tm.D) = true
    rw [D.lays_eq, List.all_eq_true]
    intro x hx
    obtain ⟨t, _, rfl⟩ := List.mem_map.mp hx
    exact t.lay
  · show D.deps (ts.map Tm.D) + 1 ≤ 60
    have := terms_deps ts
    omega
theorem terms_shw {n : Nat} {ts : List Tm} (h : TsOk n ts) (hn : n ≤ 1000) (hl : ts.length ≤ 1000) : (termsD ts).Shw := by
  refine ⟨terms_fit ts, ?_, ?_⟩
  · show D.sms (ts.map Tm.D) = true
    rw [D.sms_eq, List.all_eq_true]
    intro x hx
    obtain ⟨t, ht, rfl⟩ := List.mem_map.mp hx
    exact ((h t ht).shw hn (by omega) (by omega)).2.1
  · show D.wts (ts.map Tm.D) ≤ 50000
    have := D.wts_le (n := 20) (ds := ts.map Tm.D) fun d hd => by
      obtain ⟨t, _, rfl⟩ := List.mem_map.mp hd
      exact t.wt
    rw [List.length_map] at this
    omega
/-- == of two like Boards -/
def F_Board_eq_ : SpecF := fnF (fun x : Nat × List Tm => [boardD x.1 x.2, boardD x.1 x.2]) (fun _ => True) (fun _ => .bl true)
theorem M_Board_eq_ : Mono F_Board_eq_ := fnM _ _ _
def S_Board_eq_ : Sg := { z := true, fs := [], gs := [] }
theorem W_Board_eq_ : WOk S_Board_eq_ n_Board_eq_ b_Board_eq_ F_Board_eq_ 2 := by
  rintro ds Φ ⟨⟨n, ts⟩, rfl, _, k⟩
  refine ⟨rfl, ?_⟩
  unfold b_Board_eq_
  trace_state
  refine ⟨⟨_, rfl⟩, ?_⟩
  trace_state
  refine ⟨_, _, rfl, rfl, ?_⟩
  trace_state
  refine ⟨_, _, rfl, rfl, ?_⟩
  trace_state
  · refine ⟨_, _, rfl, rfl, ?_⟩
    trace_state
    refine ⟨_, _, rfl, rfl, ?_⟩
    trace_state
    refine c_eqsame rfl (terms_fit ts) ?_
    trace_state
    exact k
  · rename_i c
    exact absurd rfl c
def F_law_with_ends : SpecF := fnF (fun x : Tm × Int × Int => [x.1.D, .int x.2.1, .int x.2.2]) (fun _ => True) (fun x => (x.1.ends x.2.1 x.2.2).D)
theorem M_law_with_ends : Mono F_law_with_ends := fnM _ _ _
def S_law_with_ends : Sg := { z := true, fs := [], gs := [] }
theorem W_law_with_ends : WOk S_law_with_ends n_law_with_ends b_law_with_ends F_law_with_ends 3 := by
  rintro ds Φ ⟨⟨t, a, b⟩, rfl, -, k⟩
  refine ⟨rfl, ?_⟩
  unfold b_law_with_ends
  rcases t with ⟨d, l, h⟩ | ⟨d, l, h, f⟩ | ⟨d, o, l, h⟩ | ⟨d, o, l, h, f⟩
  · trace_state; exact k
  · trace_state; exact k
  · trace_state; exact k
  · trace_state; exact k
end KT
namespace KT
open PySem PySem.Spec PyProof.Rows L2 DL
theorem wb_par3b {S : Sg} {ρ : DL.Env} {i j l : Nat} {x y z : I} {r : DL.B} {K : EnD} (h0 : i ≠ j ∧ i ≠ l ∧ j ≠ l) (h1 : Nat.blt i ρ.length = true) (h2 : Nat.blt j ρ.length = true) (h3 : Nat.blt l ρ.length = true)
    (k : w S x ρ fun t => t.fin fun u => w S y ρ fun t' => t'.fin fun v => w S z ρ fun t'' => t''.fin fun q => wb S r (((ρ.put i (some u)).put j (some v)).put l (some q)) K) : wb S (.par3 i j l x y z r) ρ K :=
  wb_par3 h0 ⟨Nat.le_of_ble_eq_true h1, Nat.le_of_ble_eq_true h2, Nat.le_of_ble_eq_true h3⟩ k
/-! ### gains, in plain words -/
def Tm.gro (t : Tm) (b y : Int) : Int := if t.pulls = true then t.force * (t.far (b + y) - t.far b) else 1000000 * t.far (b + y)
theorem Tm.far_nn {t : Tm} (h : t.low ≤ t.high) (x : Int) : 0 ≤ t.far x := by
  unfold Tm.far
  split
  · omega
  · split <;> omega
theorem Tm.far_near {t : Tm} (h : t.low ≤ t.high) (x : Int) {y : Int} (h1 : -1 ≤ y) (h2 : y ≤ 1) : -1 ≤ t.far (x + y) - t.far x ∧ t.far (x + y) - t.far x ≤ 1 := by
  unfold Tm.far
  split <;> split <;> (try split) <;> (try split) <;> omega
theorem Tm.far_conv {t : Tm} (h : t.low ≤ t.high) {a b c d : Int} (e : a + d = b + c) (h1 : a ≤ b) (h2 : a ≤ c) (h3 : b ≤ d) (h4 : c ≤ d) : t.far b + t.far c ≤ t.far a + t.far d := by
  have key : ∀ x, t.far x = max (max (t.low - x) (x - t.high)) 0 := fun x => by
    unfold Tm.far
    split
    · omega
    · split <;> omega
  rw [key, key, key, key]
  omega
/-- the standing after a step -/
def stepL (xs : List Int) (w : Int) (g : List Nat) : List Int := (List.range xs.length).map fun d => xs.getD d 0 + w * (if d ∈ g then 1 else 0)
theorem stepL_len (xs : List Int) (w : Int) (g : List Nat) : (stepL xs w g).length = xs.length := by simp [stepL]
theorem stepL_get {xs : List Int} {w : Int} {g : List Nat} {d : Nat} (h : d < xs.length) : (stepL xs w g).getD d 0 = xs.getD d 0 + w * (if d ∈ g then 1 else 0) := by
  simp [stepL, h]
theorem stepL_row {n : Nat} {b : Int} {xs : List Int} {w : Int} {g : List Nat} (hr : Row n b xs) (hw : w = 1 ∨ w = -1) : Row n (b + 1) (stepL xs w g) := by
  refine ⟨by rw [stepL_len]; exact hr.1, fun x hx => ?_⟩
  obtain ⟨d, hd, rfl⟩ := List.mem_map.mp hx
  have := hr.get (k := d) (by rw [← hr.1]; exact List.mem_range.mp hd)
  rcases hw with rfl | rfl <;> split <;> omega
def chi (g : List Nat) (d : Nat) : Int := if d ∈ g then 1 else 0
/-- by how much the argument moves -/
def Tm.shift (g : List Nat) : Tm → Int
  | .stop d _ _ => chi g d | .wish d _ _ _ => chi g d | .bar d o _ _ => chi g d - chi g o | .tie d o _ _ _ => chi g d - chi g o
theorem Tm.arg_step {t : Tm} {xs : List Int} {w : Int} {g : List Nat} (h : t.In xs.length) : t.arg (stepL xs w g) = t.arg xs + w * t.shift g := by
  cases t with
  | stop d l u => simp only [Tm.arg, Tm.shift, chi]; rw [stepL_get h]
  | wish d l u f => simp only [Tm.arg, Tm.shift, chi]; rw [stepL_get h]
  | bar d o l u => simp only [Tm.arg, Tm.shift, chi]; rw [stepL_get h.1, stepL_get h.2, Int.mul_sub]; omega
  | tie d o l u f => simp only [Tm.arg, Tm.shift, chi]; rw [stepL_get h.1, stepL_get h.2, Int.mul_sub]; omega
def ownS (xs : List Int) (w : Int) (t : Tm) (f : Nat → Int) : Nat → Int := match t with
  | .stop d _ _ => fun k => if k = d then f k - t.gro (t.arg xs) w else f k
  | .wish d _ _ _ => fun k => if k = d then f k - t.gro (t.arg xs) w else f k
  | _ => f
def lossS (xs : List Int) (w : Int) (t : Tm) (g : Nat → Nat → Int) : Nat → Nat → Int := match t with
  | .bar d o _ _ => fun i j => (g i j + if i = d ∧ j = o then t.gro (t.arg xs) w else 0) + if i = o ∧ j = d then t.gro (t.arg xs) (-w) else 0
  | .tie d o _ _ _ => fun i j => (g i j + if i = d ∧ j = o then t.gro (t.arg xs) w else 0) + if i = o ∧ j = d then t.gro (t.arg xs) (-w) else 0
  | _ => g
def stay (n : Nat) (grp : List Nat) : List Nat := (List.range n).filter fun o => decide (o ∉ grp)
theorem stay_mem {n : Nat} {grp : List Nat} {o : Nat} : o ∈ stay n grp ↔ o < n ∧ o ∉ grp := by simp [stay]
theorem stay_nodup (n : Nat) (grp : List Nat) : (stay n grp).Nodup := List.nodup_range.sublist List.filter_sublist
def gg (n : Nat) (f : Nat → Int) (g : Nat → Nat → Int) (grp : List Nat) : Int := (grp.map fun d => f d - ((stay n grp).map (g d)).sum).sum
def delta (xs : List Int) (w : Int) (grp : List Nat) (t : Tm) : Int := match t with
  | .stop d _ _ => if d ∈ grp then t.gro (t.arg xs) w else 0
  | .wish d _ _ _ => if d ∈ grp then t.gro (t.arg xs) w else 0
  | .bar d o _ _ => (if d ∈ grp ∧ o ∉ grp then t.gro (t.arg xs) w else 0) + if o ∈ grp ∧ d ∉ grp then t.gro (t.arg xs) (-w) else 0
  | .tie d o _ _ _ => (if d ∈ grp ∧ o ∉ grp then t.gro (t.arg xs) w else 0) + if o ∈ grp ∧ d ∉ grp then t.gro (t.arg xs) (-w) else 0
theorem sum_one {F : Nat → Int} {d : Nat} {c : Int} : ∀ {l : List Nat}, l.Nodup → (l.map fun k => F k + if k = d then c else 0).sum = (l.map F).sum + if d ∈ l then c else 0
  | [], _ => by simp
  | x :: l, h => by
    obtain ⟨h1, h2⟩ := List.nodup_cons.mp h
    have ih := sum_one (F := F) (d := d) (c := c) h2
    rw [List.map_cons, List.map_cons, List.sum_cons, List.sum_cons, ih]
    by_cases e : x = d
    · subst e
      rw [if_pos rfl, if_neg h1, if_pos List.mem_cons_self]
      omega
    · have : (d ∈ x :: l) ↔ d ∈ l := by simp [Ne.symm e]
      rw [if_neg e]
      simp only [this]
      omega
theorem ite_two {p q : Prop} [Decidable p] [Decidable q] {c : Int} : (if p ∧ q then c else 0) = if q then (if p then c else 0) else 0 := by
  by_cases h1 : p <;> by_cases h2 : q <;> simp [h1, h2]
theorem gg_own {n : Nat} {f : Nat → Int} {g : Nat → Nat → Int} {grp : List Nat} {d : Nat} {c : Int} (hn : grp.Nodup) : gg n (fun k => if k = d then f k - c else f k) g grp = gg n f g grp - if d ∈ grp then c else 0 := by
  unfold gg
  have e : (fun k => (if k = d then f k - c else f k) - ((stay n grp).map (g k)).sum) = fun k => (f k - ((stay n grp).map (g k)).sum) + if k = d then -c else 0 := by
    funext k
    split <;> omega
  rw [e, sum_one hn]
  split <;> omega
theorem gg_loss {n : Nat} {f : Nat → Int} {g : Nat → Nat → Int} {grp : List Nat} {d o : Nat} {c c' : Int} (hn : grp.Nodup) (hd : d < n) (ho : o < n) :
    gg n f (fun i j => (g i j + if i = d ∧ j = o then c else 0) + if i = o ∧ j = d then c' else 0) grp = gg n f g grp - ((if d ∈ grp ∧ o ∉ grp then c else 0) + if o ∈ grp ∧ d ∉ grp then c' else 0) := by
  unfold gg
  have inner : ∀ k, ((stay n grp).map fun j => (g k j + if k = d ∧ j = o then c else 0) + if k = o ∧ j = d then c' else 0).sum = ((stay n grp).map (g k)).sum + (if k = d then (if o ∈ grp then 0 else c) else 0) + if k = o then (if d ∈ grp then 0 else c') else 0 := fun k => by
    have e1 : (fun j => (g k j + if k = d ∧ j = o then c else 0) + if k = o ∧ j = d then c' else 0) = fun j => (g k j + if j = o then (if k = d then c else 0) else 0) + if j = d then (if k = o then c' else 0) else 0 := by
      funext j
      rw [ite_two, ite_two]
    rw [e1, sum_one (F := fun j => g k j + if j = o then (if k = d then c else 0) else 0) (stay_nodup n grp), sum_one (F := g k) (stay_nodup n grp)]
    simp only [stay_mem, hd, ho, true_and]
    by_cases h1 : o ∈ grp <;> by_cases h2 : d ∈ grp <;> simp [h1, h2]
  have e : (fun k => f k - ((stay n grp).map fun j => (g k j + if k = d ∧ j = o then c else 0) + if k = o ∧ j = d then c' else 0).sum) = fun k => ((f k - ((stay n grp).map (g k)).sum) + if k = d then -(if o ∈ grp then 0 else c) else 0) + if k = o then -(if d ∈ grp then 0 else c') else 0 := by
    funext k
    rw [inner]
    split <;> split <;> omega
  rw [e, sum_one (F := fun k => (f k - ((stay n grp).map (g k)).sum) + if k = d then -(if o ∈ grp then 0 else c) else 0) hn, sum_one (F := fun k => f k - ((stay n grp).map (g k)).sum) hn]
  by_cases h1 : o ∈ grp <;> by_cases h2 : d ∈ grp <;> simp [h1, h2] <;> omega
theorem gg_step {n : Nat} {f : Nat → Int} {g : Nat → Nat → Int} {grp : List Nat} {xs : List Int} {w : Int} {t : Tm} (hn : grp.Nodup) (ht : t.In n) : gg n (ownS xs w t f) (lossS xs w t g) grp = gg n f g grp - delta xs w grp t := by
  cases t with
  | stop d l u => exact gg_own hn
  | wish d l u m => exact gg_own hn
  | bar d o l u => exact gg_loss hn ht.1 ht.2
  | tie d o l u m => exact gg_loss hn ht.1 ht.2
def ownF (xs : List Int) (w : Int) (ts : List Tm) (f : Nat → Int) : Nat → Int := ts.foldl (fun f t => ownS xs w t f) f
def lossF (xs : List Int) (w : Int) (ts : List Tm) (g : Nat → Nat → Int) : Nat → Nat → Int := ts.foldl (fun g t => lossS xs w t g) g
theorem gg_all {n : Nat} {grp : List Nat} {xs : List Int} {w : Int} (hn : grp.Nodup) : ∀ {ts : List Tm} {f : Nat → Int} {g : Nat → Nat → Int}, (∀ t ∈ ts, t.In n) → gg n (ownF xs w ts f) (lossF xs w ts g) grp = gg n f g grp - (ts.map (delta xs w grp)).sum
  | [], f, g, _ => by simp [ownF, lossF]
  | t :: ts, f, g, h => by
    have ih := gg_all (xs := xs) (w := w) hn (ts := ts) (f := ownS xs w t f) (g := lossS xs w t g) fun u hu => h u (List.mem_cons_of_mem _ hu)
    show gg n (ownF xs w ts (ownS xs w t f)) (lossF xs w ts (lossS xs w t g)) grp = _
    rw [ih, gg_step hn (h t List.mem_cons_self), List.map_cons, List.sum_cons]
    omega
theorem gg_zero {n : Nat} {grp : List Nat} : gg n (fun _ => 0) (fun _ _ => 0) grp = 0 := by
  unfold gg
  have : ∀ l : List Nat, (l.map fun _ => (0 : Int)).sum = 0 := fun l => by induction l <;> simp_all
  have e : (fun d : Nat => (fun _ : Nat => (0 : Int)) d - ((stay n grp).map ((fun _ _ => (0 : Int) : Nat → Nat → Int) d)).sum) = fun _ => 0 := by
    funext d
    show (0 : Int) - ((stay n grp).map fun _ => (0 : Int)).sum = 0
    rw [this]
    rfl
  rw [e]
  exact this grp
theorem delta_eq {xs : List Int} {w : Int} {grp : List Nat} {t : Tm} (ht : t.In xs.length) (h0 : t.pulls = false → t.far (t.arg xs) = 0) :
    delta xs w grp t = if t.pulls = true then t.force * (t.far (t.arg (stepL xs w grp)) - t.far (t.arg xs)) else 1000000 * t.far (t.arg (stepL xs w grp)) := by
  rw [Tm.arg_step ht]
  have z : ∀ y, y = 0 → (if t.pulls = true then t.force * (t.far (t.arg xs + y) - t.far (t.arg xs)) else 1000000 * t.far (t.arg xs + y)) = 0 := fun y hy => by
    subst hy
    rw [Int.add_zero]
    cases hp : t.pulls with
    | true => simp
    | false => simp [h0 hp]
  cases t with
  | stop d l u =>
    simp only [delta, Tm.gro, Tm.shift, chi]
    by_cases h : d ∈ grp
    · simp [h]
    · rw [if_neg h, if_neg h, z _ (by simp)]
  | wish d l u m =>
    simp only [delta, Tm.gro, Tm.shift, chi]
    by_cases h : d ∈ grp
    · simp [h]
    · rw [if_neg h, if_neg h, z _ (by simp)]
  | bar d o l u =>
    simp only [delta, Tm.gro, Tm.shift, chi]
    by_cases h : d ∈ grp <;> by_cases h2 : o ∈ grp <;> simp only [h, h2, not_true_eq_false, not_false_eq_true, and_true, and_false, and_self, if_true, if_false, Int.add_zero, Int.zero_add]
    · rw [z _ (by simp)]
    · rw [show w * (1 - 0) = w by omega]
    · rw [show w * (0 - 1) = -w by omega]
    · rw [z _ (by simp)]
  | tie d o l u m =>
    simp only [delta, Tm.gro, Tm.shift, chi]
    by_cases h : d ∈ grp <;> by_cases h2 : o ∈ grp <;> simp only [h, h2, not_true_eq_false, not_false_eq_true, and_true, and_false, and_self, if_true, if_false, Int.add_zero, Int.zero_add]
    · rw [z _ (by simp)]
    · rw [show w * (1 - 0) = w by omega]
    · rw [show w * (0 - 1) = -w by omega]
    · rw [z _ (by simp)]
/-- what the walls ask of a standing -/
def walls (ys : List Int) (ts : List Tm) : Int := (ts.map fun t => if t.pulls = true then 0 else t.far (t.arg ys)).sum
theorem costs_cons (xs : List Int) (t : Tm) (ts : List Tm) : (costs xs (t :: ts)).sum = (if t.pulls = true then t.force * t.far (t.arg xs) else 0) + (costs xs ts).sum := by
  unfold costs
  cases hp : t.pulls with
  | true => rw [List.filter_cons_of_pos hp]; simp
  | false => rw [List.filter_cons_of_neg (by rw [hp]; decide)]; simp
theorem deltas {xs : List Int} {w : Int} {grp : List Nat} : ∀ {ts : List Tm}, (∀ t ∈ ts, t.In xs.length) → ts.any (leaves xs) = false → (∀ t ∈ ts, t.low ≤ t.high) →
    (ts.map (delta xs w grp)).sum = (costs (stepL xs w grp) ts).sum - (costs xs ts).sum + 1000000 * walls (stepL xs w grp) ts
  | [], _, _, _ => by simp [costs, walls]
  | t :: ts, h, ha, hl => by
    rw [List.any_cons, Bool.or_eq_false_iff] at ha
    have ih := deltas (w := w) (grp := grp) (fun u hu => h u (List.mem_cons_of_mem _ hu)) ha.2 fun u hu => hl u (List.mem_cons_of_mem _ hu)
    have d0 := delta_eq (w := w) (grp := grp) (h t List.mem_cons_self) fun hp => by
      have := ha.1
      have nn := Tm.far_nn (hl t List.mem_cons_self) (t.arg xs)
      by_cases z : 0 < t.far (t.arg xs)
      · rw [leaves_iff.mpr ⟨hp, z⟩] at this; cases this
      · omega
    rw [List.map_cons, List.sum_cons, ih, d0, costs_cons, costs_cons]
    unfold walls
    rw [List.map_cons, List.sum_cons]
    cases hp : t.pulls with
    | true =>
      simp only [if_true]
      rw [Int.mul_sub]
      omega
    | false =>
      simp only [Bool.false_eq_true, if_false]
      rw [Int.mul_add]
      omega
theorem walls_nn {ys : List Int} : ∀ {ts : List Tm}, (∀ t ∈ ts, t.low ≤ t.high) → 0 ≤ walls ys ts ∧ (ts.any (leaves ys) = true → 1 ≤ walls ys ts) ∧ (ts.any (leaves ys) = false → walls ys ts = 0)
  | [], _ => by simp [walls]
  | t :: ts, h => by
    obtain ⟨a, b, c⟩ := walls_nn (ys := ys) fun u hu => h u (List.mem_cons_of_mem _ hu)
    have nn := Tm.far_nn (h t List.mem_cons_self) (t.arg ys)
    have e : walls ys (t :: ts) = (if t.pulls = true then 0 else t.far (t.arg ys)) + walls ys ts := by unfold walls; rw [List.map_cons, List.sum_cons]
    have l : leaves ys t = true ↔ t.pulls = false ∧ 0 < t.far (t.arg ys) := leaves_iff
    rw [e, List.any_cons]
    refine ⟨by split <;> omega, fun z => ?_, fun z => ?_⟩
    · rcases Bool.or_eq_true_iff.mp z with z | z
      · obtain ⟨p, q⟩ := l.mp z
        rw [if_neg (by rw [p]; decide)]
        omega
      · have := b z
        split <;> omega
    · obtain ⟨z1, z2⟩ := Bool.or_eq_false_iff.mp z
      rw [c z2]
      split
      · rfl
      · rename_i p
        have : ¬ (t.pulls = false ∧ 0 < t.far (t.arg ys)) := fun q => by rw [l.mpr q] at z1; cases z1
        have p2 : t.pulls = false := by simpa using p
        have : ¬ 0 < t.far (t.arg ys) := fun q => this ⟨p2, q⟩
        omega
theorem costs_near {n : Nat} {xs : List Int} {w : Int} {grp : List Nat} (hw : w = 1 ∨ w = -1) : ∀ {ts : List Tm}, (∀ t ∈ ts, t.Ok n 30) → n = xs.length →
    -(30 * (ts.length : Int)) ≤ (costs (stepL xs w grp) ts).sum - (costs xs ts).sum ∧ (costs (stepL xs w grp) ts).sum - (costs xs ts).sum ≤ 30 * ts.length
  | [], _, _ => by simp [costs]
  | t :: ts, h, e => by
    obtain ⟨a, b⟩ := costs_near (grp := grp) hw (fun u hu => h u (List.mem_cons_of_mem _ hu)) e
    have ok := h t List.mem_cons_self
    have f := ok.force_le (by decide)
    have s : -1 ≤ w * t.shift grp ∧ w * t.shift grp ≤ 1 := by
      have : -1 ≤ t.shift grp ∧ t.shift grp ≤ 1 := by
        cases t <;> simp only [Tm.shift, chi] <;> (try split) <;> (try split) <;> omega
      rcases hw with rfl | rfl <;> omega
    have nr := Tm.far_near ok.2.1.2.1 (t.arg xs) s.1 s.2
    rw [← Tm.arg_step (by rw [← e]; exact ok.1)] at nr
    rw [costs_cons, costs_cons, List.length_cons]
    have m1 : t.force * (t.far (t.arg (stepL xs w grp)) - t.far (t.arg xs)) ≤ 30 := by
      have := Int.mul_le_mul_of_nonneg_left nr.2 f.1
      omega
    have m2 : -30 ≤ t.force * (t.far (t.arg (stepL xs w grp)) - t.far (t.arg xs)) := by
      have := Int.mul_le_mul_of_nonneg_left nr.1 f.1
      omega
    rw [Int.mul_sub] at m1 m2
    split <;> omega
/-- the gain of a step -/
def gainC (xs : List Int) (ts : List Tm) (w : Int) (grp : List Nat) : Int := (costs xs ts).sum - (costs (stepL xs w grp) ts).sum
def gainD (xs : List Int) (ts : List Tm) (w : Int) (grp : List Nat) : DL.D := if ts.any (leaves (stepL xs w grp)) = true then .non else .int (gainC xs ts w grp)
theorem gain_eq {n : Nat} {xs : List Int} {ts : List Tm} {w : Int} {grp : List Nat} (hn : grp.Nodup) (hx : xs.length = n) (hl : ts.length ≤ 24) (h : ∀ t ∈ ts, t.Ok n 30) (ha : ts.any (leaves xs) = false) (hw : w = 1 ∨ w = -1) :
    (ts.any (leaves (stepL xs w grp)) = true → gg n (ownF xs w ts fun _ => 0) (lossF xs w ts fun _ _ => 0) grp ≤ -500000) ∧
    (ts.any (leaves (stepL xs w grp)) = false → gg n (ownF xs w ts fun _ => 0) (lossF xs w ts fun _ _ => 0) grp = gainC xs ts w grp ∧ -500000 < gainC xs ts w grp) := by
  have hin : ∀ t ∈ ts, t.In xs.length := fun t ht => by rw [hx]; exact (h t ht).1
  have hlo : ∀ t ∈ ts, t.low ≤ t.high := fun t ht => (h t ht).2.1.2.1
  rw [gg_all hn fun t ht => (h t ht).1, gg_zero, deltas hin ha hlo]
  obtain ⟨a, b, c⟩ := walls_nn (ys := stepL xs w grp) hlo
  obtain ⟨d, e⟩ := costs_near (grp := grp) hw h hx.symm
  unfold gainC
  refine ⟨fun z => ?_, fun z => ?_⟩
  · have := b z
    omega
  · rw [c z]
    omega
theorem gain_small {n : Nat} {xs : List Int} {ts : List Tm} {w : Int} {grp : List Nat} (hx : xs.length = n) (hl : ts.length ≤ 24) (h : ∀ t ∈ ts, t.Ok n 30) (hw : w = 1 ∨ w = -1) : -720 ≤ gainC xs ts w grp ∧ gainC xs ts w grp ≤ 720 := by
  obtain ⟨d, e⟩ := costs_near (grp := grp) hw h hx.symm
  unfold gainC
  omega
end KT
namespace KT
open PySem PySem.Spec PyProof.Rows L2 DL
local macro_rules | `(tactic| trace_state) => `(tactic| repeat' first | (with_reducible show w _ _ _ _; first | with_reducible refine w_nm (by with_unfolding_all exact rfl) ?_ | with_reducible refine w_ix ?_ | with_reducible refine w_int ?_ | with_reducible refine w_bin ?_ | with_reducible refine w_cmp ?_ | with_reducible refine w_call (by with_unfolding_all exact rfl) ?_ | with_reducible refine w_blt ?_ | with_reducible refine w_ow (by with_unfolding_all exact rfl) ?_ | with_reducible refine w_tup ?_ | with_reducible refine w_lst ?_ | with_reducible refine w_str ?_ | with_reducible refine w_neg ?_ | with_reducible refine w_ife ?_ | with_reducible refine w_sl ?_ | with_reducible refine w_and ?_ | with_reducible refine w_one ?_ | with_reducible refine w_or ?_ | with_reducible refine w_orv ?_ | with_reducible refine w_srtS ?_ | with_reducible refine w_not ?_ | with_reducible refine w_bl ?_ | with_reducible refine w_non ?_ | with_reducible refine w_gl (by with_unfolding_all exact rfl) ?_ | with_reducible refine w_chn ?_ | with_reducible refine w_lc (by with_unfolding_all exact rfl) ?_ | with_reducible refine w_fld ?_ | with_reducible refine w_mth (by with_unfolding_all exact rfl) ?_ | with_reducible refine w_mt0 (by with_unfolding_all exact rfl) ?_ | with_reducible refine w_prp (by with_unfolding_all exact rfl) ?_ | with_reducible refine w_new (by with_unfolding_all exact rfl) ?_ | with_reducible refine w_isi ?_ | with_reducible refine w_eqO (by with_unfolding_all exact rfl) ?_ | with_reducible refine w_isC ?_ | with_reducible refine w_lr1 ?_ | with_reducible refine w_lr2 ?_) | (with_reducible show wa _ _ _ _; first | with_reducible refine wa_cons ?_ | with_reducible refine wa_nil ?_) | (with_reducible show wv _ _ _ _; first | with_reducible refine wv_cons ?_ | with_reducible refine wv_nil ?_) | (with_reducible show T.fin _ _; first | with_reducible refine fin_leaf (by with_unfolding_all exact rfl) ?_ | with_reducible refine fin_mk (by with_unfolding_all exact rfl) ?_ | with_reducible refine fin_lst (by with_unfolding_all exact rfl) ?_ | with_reducible refine fin_tup (by with_unfolding_all exact rfl) ?_) | (with_reducible show And _ _; first | with_reducible refine and_len (by with_unfolding_all exact rfl) ?_) | (with_reducible show frozs _ _ _; first | with_reducible refine fz_nil ?_ | with_reducible refine fz_cons ?_) | (with_reducible show T.froz _ _ _; first | with_reducible refine fz_leaf (by with_unfolding_all exact rfl) ?_ | with_reducible refine fz_lst (by with_unfolding_all exact rfl) (by with_unfolding_all exact rfl) ?_ | with_reducible refine fz_tup (by with_unfolding_all exact rfl) (by with_unfolding_all exact rfl) ?_ | with_reducible refine fz_vw (by with_unfolding_all exact rfl) (by with_unfolding_all exact rfl) ?_) | (with_reducible show ixT _ _ _; first | with_reducible refine ix_lt (by with_unfolding_all exact rfl) (by with_unfolding_all exact rfl) (by with_unfolding_all exact at_getD (by assumption)) ?_ | with_reducible refine ix_lt (by with_unfolding_all exact rfl) (by with_unfolding_all exact rfl) (by with_unfolding_all exact rfl) ?_ | with_reducible refine ix_lst (by with_unfolding_all exact rfl) (by with_unfolding_all exact rfl) (by with_unfolding_all exact rfl) ?_ | with_reducible refine ix_ll (by with_unfolding_all exact rfl) (by with_unfolding_all exact rfl) (by with_unfolding_all exact rfl) ?_ | with_reducible refine ix_vli (by with_unfolding_all exact rfl) (by with_unfolding_all exact rfl) (by with_unfolding_all exact rfl) ?_ | with_reducible refine ix_vll (by with_unfolding_all exact rfl) (by with_unfolding_all exact rfl) (by with_unfolding_all exact rfl) ?_ | with_reducible refine ix_tup (by with_unfolding_all exact rfl) (by with_unfolding_all exact rfl) (by with_unfolding_all exact rfl) ?_ | with_reducible refine ix_vti (by with_unfolding_all exact rfl) (by with_unfolding_all exact rfl) (by with_unfolding_all exact rfl) ?_ | with_reducible refine ix_vlt (by with_unfolding_all exact rfl) (by with_unfolding_all exact rfl) (by with_unfolding_all exact rfl) ?_ | with_reducible refine ix_vtl (by with_unfolding_all exact rfl) (by with_unfolding_all exact rfl) (by with_unfolding_all exact rfl) ?_ | with_reducible refine ix_vls (by with_unfolding_all exact rfl) (by with_unfolding_all exact rfl) (by with_unfolding_all exact rfl) ?_) | (with_reducible show DL.binT _ _ _ _; first | with_reducible refine b_add (by with_unfolding_all exact rfl) (by with_unfolding_all exact rfl) ?_ | with_reducible refine b_sub (by with_unfolding_all exact rfl) (by with_unfolding_all exact rfl) ?_ | with_reducible refine b_mul (by with_unfolding_all exact rfl) (by with_unfolding_all exact rfl) (by with_unfolding_all exact mulR ⟨by decide, by decide⟩) ?_ | with_reducible refine b_mul (by with_unfolding_all exact rfl) (by with_unfolding_all exact rfl) (by with_unfolding_all exact mulL ⟨by decide, by decide⟩) ?_ | with_reducible refine b_mul (by with_unfolding_all exact rfl) (by with_unfolding_all exact rfl) (by with_unfolding_all exact mulL ⟨by omega, by omega⟩) ?_ | with_reducible refine b_mul (by with_unfolding_all exact rfl) (by with_unfolding_all exact rfl) (by with_unfolding_all exact mulR ⟨by omega, by omega⟩) ?_ | with_reducible refine b_mul (by with_unfolding_all exact rfl) (by with_unfolding_all exact rfl) ?_ ?_ | with_reducible refine b_p18 (by with_unfolding_all exact rfl) (by with_unfolding_all exact rfl) ?_ | with_reducible refine b_p9 (by with_unfolding_all exact rfl) (by with_unfolding_all exact rfl) ?_ | with_reducible refine b_p38 (by with_unfolding_all exact rfl) (by with_unfolding_all exact rfl) ?_ | with_reducible refine b_p17 (by with_unfolding_all exact rfl) (by with_unfolding_all exact rfl) ?_ | with_reducible refine b_p40 (by with_unfolding_all exact rfl) (by with_unfolding_all exact rfl) ?_ | with_reducible refine b_p39 (by with_unfolding_all exact rfl) (by with_unfolding_all exact rfl) ?_ | with_reducible refine b_p21 (by with_unfolding_all exact rfl) (by with_unfolding_all exact rfl) ?_ | with_reducible refine b_p20 (by with_unfolding_all exact rfl) (by with_unfolding_all exact rfl) ?_ | with_reducible refine b_p6 (by with_unfolding_all exact rfl) (by with_unfolding_all exact rfl) ?_ | with_reducible refine b_pow (by with_unfolding_all exact rfl) (by with_unfolding_all exact rfl) (by with_unfolding_all decide) ?_ | with_reducible refine b_mod (by with_unfolding_all exact rfl) (by with_unfolding_all exact rfl) (by with_unfolding_all (first | decide | assumption | omega)) ?_ | with_reducible refine b_mod (by with_unfolding_all exact rfl) (by with_unfolding_all exact rfl) ?_ ?_ | with_reducible refine b_fdiv (by with_unfolding_all exact rfl) (by with_unfolding_all exact rfl) (by with_unfolding_all exact ⟨by decide, by decide⟩) ?_ | with_reducible refine b_fdiv (by with_unfolding_all exact rfl) (by with_unfolding_all exact rfl) (by with_unfolding_all exact ⟨by assumption, by assumption⟩) ?_ | with_reducible refine b_fdiv (by with_unfolding_all exact rfl) (by with_unfolding_all exact rfl) ?_ ?_ | with_reducible refine b_catL (by with_unfolding_all exact rfl) (by with_unfolding_all exact rfl) (by with_unfolding_all exact rfl) ?_) | (with_reducible show cmpD _ _ _ _; first | with_reducible refine c_eq (by with_unfolding_all exact rfl) (by with_unfolding_all exact rfl) ?_ | with_reducible refine c_ne (by with_unfolding_all exact rfl) (by with_unfolding_all exact rfl) ?_ | with_reducible refine c_lt (by with_unfolding_all exact rfl) (by with_unfolding_all exact rfl) ?_ | with_reducible refine c_le (by with_unfolding_all exact rfl) (by with_unfolding_all exact rfl) ?_ | with_reducible refine c_gt (by with_unfolding_all exact rfl) (by with_unfolding_all exact rfl) ?_ | with_reducible refine c_ge (by with_unfolding_all exact rfl) (by with_unfolding_all exact rfl) ?_ | with_reducible refine c_nes (by with_unfolding_all exact rfl) (by with_unfolding_all exact rfl) ?_ | with_reducible refine c_eqs (by with_unfolding_all exact rfl) (by with_unfolding_all exact rfl) ?_ | with_reducible refine c_inT (by with_unfolding_all exact rfl) (by with_unfolding_all exact rfl) (by with_unfolding_all (first | exact tb_stop | exact tb_wish | exact tb_bar | exact tb_tie | exact wt_stop | exact wt_wish | exact wt_bar | exact wt_tie)) ?_ | with_reducible refine c_ninT (by with_unfolding_all exact rfl) (by with_unfolding_all exact rfl) (by with_unfolding_all (first | exact w4_stop | exact w4_wish | exact w4_bar | exact w4_tie)) ?_ | with_reducible refine c_isT (by with_unfolding_all exact rfl) (by with_unfolding_all exact rfl) ?_ | with_reducible refine c_isF (by with_unfolding_all exact rfl) (by with_unfolding_all exact rfl) ?_ | with_reducible refine c_notT (by with_unfolding_all exact rfl) (by with_unfolding_all exact rfl) ?_ | with_reducible refine c_notF (by with_unfolding_all exact rfl) (by with_unfolding_all exact rfl) ?_) | (with_reducible show wt _ _ _ _; first | with_reducible refine wt_cmp ?_ | with_reducible refine wt_not ?_ | with_reducible refine wt_val ?_ | with_reducible refine wt_and ?_ | with_reducible refine wt_or ?_ | with_reducible refine wt_one ?_ | with_reducible refine wt_chn ?_) | (with_reducible show @ite _ _ _ _ _; first | with_reducible refine ite_t ?_ | with_reducible refine ite_f ?_ | with_reducible refine ite_nt ?_ | with_reducible refine ite_nf ?_ | with_reducible refine ite_decT (by decide) ?_ | with_reducible refine ite_decF (by decide) ?_ | with_reducible refine ite_dec (fun _ => ?_) (fun _ => ?_) | with_reducible refine ite_ndecT (by with_unfolding_all exact rfl) ?_ | with_reducible refine ite_ndec (fun _ => ?_) (fun _ => ?_)) | (with_reducible show wb _ _ _ _; first | with_reducible refine wb_asg ?_ | with_reducible refine wb_ite ?_ | with_reducible refine wb_ret ?_ | with_reducible refine wb_nil ?_ | with_reducible refine wb_for ?_ | with_reducible refine wb_asgLc (by with_unfolding_all exact rfl) (by with_unfolding_all exact rfl) ?_ | with_reducible refine wb_setix (by with_unfolding_all exact rfl) ?_ | with_reducible refine wb_augix (by with_unfolding_all exact rfl) ?_ | with_reducible refine wb_aug (by with_unfolding_all exact rfl) (by with_unfolding_all exact rfl) ?_ | with_reducible refine wb_fgt ?_ | with_reducible refine wb_unp2 ?_ | with_reducible refine wb_ext (by with_unfolding_all exact rfl) ?_ | with_reducible refine wb_augix2 (by with_unfolding_all exact rfl) ?_ | with_reducible refine wb_ex ?_ | with_reducible refine wb_fz (by with_unfolding_all exact rfl) (by with_unfolding_all exact rfl) ?_ | with_reducible refine wb_pass ?_ | with_reducible refine wb_brk ?_ | with_reducible refine wb_cont ?_ | with_reducible refine wb_retN ?_ | with_reducible refine wb_par3b (by with_unfolding_all decide) (by with_unfolding_all exact rfl) (by with_unfolding_all exact rfl) (by with_unfolding_all exact rfl) ?_ | with_reducible refine wb_par2 (by with_unfolding_all decide) (by with_unfolding_all exact rfl) (by with_unfolding_all exact rfl) ?_ | with_reducible refine wb_app (by with_unfolding_all exact rfl) (by with_unfolding_all (simp; done)) ?_ | with_reducible refine wb_app (by with_unfolding_all exact rfl) ?_ ?_) | (with_reducible show Exists _; first | with_reducible refine bind_nm (by with_unfolding_all exact rfl) ?_ | with_reducible refine bind_pair (by with_unfolding_all exact rfl) (by with_unfolding_all exact rfl) (by with_unfolding_all exact rfl) ?_ | with_reducible refine bind_5 (by with_unfolding_all exact rfl) (by with_unfolding_all exact rfl) ?_ | with_reducible refine ex_int (by with_unfolding_all exact rfl) ?_ | with_reducible refine ex_bl (by with_unfolding_all exact rfl) ?_ | with_reducible refine ex_isT (by with_unfolding_all exact rfl) ?_ | with_reducible refine set_to (by with_unfolding_all exact rfl) (by with_unfolding_all exact rfl) ?_ | with_reducible refine aug_to (by with_unfolding_all exact rfl) (by with_unfolding_all exact rfl) (by with_unfolding_all exact rfl) ?_ | with_reducible refine ex_rg1 (by with_unfolding_all exact rfl) (by with_unfolding_all (unfold RgS; omega)) ?_ | with_reducible refine ex_rg2 (by with_unfolding_all exact rfl) (by with_unfolding_all exact rfl) (by with_unfolding_all (unfold RgS; omega)) ?_) | (with_reducible show bltT _ _ _; first | with_reducible refine l_lens (by with_unfolding_all exact rfl) ?_ | with_reducible refine l_len (by with_unfolding_all exact rfl) ?_ | with_reducible refine l_lentK 4 (by with_unfolding_all exact rfl) (by with_unfolding_all exact rfl) ?_ | with_reducible refine l_lentK 5 (by with_unfolding_all exact rfl) (by with_unfolding_all exact rfl) ?_ | with_reducible refine l_lentK 6 (by with_unfolding_all exact rfl) (by with_unfolding_all exact rfl) ?_ | with_reducible refine l_lent (by with_unfolding_all exact rfl) ?_ | with_reducible refine l_abs (by with_unfolding_all exact rfl) ?_ | with_reducible refine l_max2 (by with_unfolding_all exact rfl) (by with_unfolding_all exact rfl) ?_ | with_reducible refine l_min2 (by with_unfolding_all exact rfl) (by with_unfolding_all exact rfl) ?_ | with_reducible refine l_max3 (by with_unfolding_all exact rfl) (by with_unfolding_all exact rfl) (by with_unfolding_all exact rfl) ?_ | with_reducible refine l_intT (by with_unfolding_all exact rfl) ?_ | with_reducible refine l_intF (by with_unfolding_all exact rfl) ?_ | with_reducible refine l_intD (by with_unfolding_all exact rfl) (fun _ => ?_) (fun _ => ?_)) | (with_reducible show slT _ _ _ _; first | with_reducible refine sl_lt (by with_unfolding_all exact rfl) (by with_unfolding_all exact rfl) ?_) | (with_reducible show tru _ _; first | with_reducible refine t_bl (by with_unfolding_all exact rfl) ?_) | (with_reducible show augD _ _ _ _; first | with_reducible refine a_add (by with_unfolding_all exact rfl) (by with_unfolding_all exact rfl) ?_ | with_reducible refine a_sub (by with_unfolding_all exact rfl) (by with_unfolding_all exact rfl) ?_) | (with_reducible show wo _ _ _ _; first | with_reducible refine wo_nop ?_ | with_reducible refine wo_prt ?_) | (with_reducible show wi _ _ _ _; first | with_reducible refine wi_rng ?_ | with_reducible refine wi_sq ?_ | with_reducible refine wi_zip ?_ | with_reducible refine wi_enm ?_) | (with_reducible show wc _ _ _ _; first | with_reducible refine wc_nop ?_ | with_reducible refine wc_one ?_))
abbrev n_need_allowed : List Str := ["board", "standing", "at"]
def b_need_allowed : DL.B := (.asg (.nm 2) (.mth 0 0 (.nm 0) (.cons (.nm 1) .nil)) (.ite (.cmp .notN (.nm 2) .non) .dead .nil .nil))
abbrev n_growth : List Str := ["term", "begin", "by"]
def b_growth : DL.B := (.ite (.not (.val (.call 0 (.cons (.nm 0) .nil)))) (.ret (.bin .mul (.gl 0) (.call 1 (.cons (.nm 0) (.cons (.bin .add (.nm 1) (.nm 2)) .nil)))) .nil) .nil (.ret (.bin .mul (.call 2 (.cons (.nm 0) .nil)) (.bin .sub (.call 1 (.cons (.nm 0) (.cons (.bin .add (.nm 1) (.nm 2)) .nil))) (.call 1 (.cons (.nm 0) (.cons (.nm 1) .nil))))) .nil))
abbrev n_local_gains : List Str := ["board", "standing", "way", "hands", "size", "term", "own", "losses", "dial", "other", "begin", "hand"]
def b_local_gains : DL.B := (.asg (.nm 4) (.prp 0 0 (.nm 0)) (.fgt 8 (.par2 6 7 (.lc [11] (.nm 11) (.sq (.nm 3)) .nop (.bin .mul (.nm 2) (.nm 11))) (.lc [8] (.nm 8) (.rng (.cons (.nm 4) .nil)) .nop (.bin .mul (.lst (.cons (.int 0) .nil)) (.nm 4))) (.for_ (.nm 5) (.sq (.mt0 0 0 (.nm 0))) (.par3 8 9 10 (.ix (.nm 5) (.int 1)) (.call 0 (.cons (.nm 5) .nil)) (.call 1 (.cons (.nm 5) (.cons (.nm 1) .nil))) (.ite (.cmp .isN (.nm 9) .non) (.augix .sub 6 (.nm 8) (.call 2 (.cons (.nm 5) (.cons (.nm 10) (.cons (.nm 2) .nil)))) .nil) (.augix2 .add 7 (.nm 8) (.nm 9) (.call 2 (.cons (.nm 5) (.cons (.nm 10) (.cons (.nm 2) .nil)))) (.augix2 .add 7 (.nm 9) (.nm 8) (.call 2 (.cons (.nm 5) (.cons (.nm 10) (.cons (.neg (.nm 2)) .nil)))) .nil)) .nil)) (.fz 7 (.fz 6 (.ret (.tup (.cons (.nm 6) (.cons (.nm 7) .nil))) .nil)))))))
abbrev n_group_gain : List Str := ["local", "group", "stay", "own", "losses", "dial", "other"]
def b_group_gain : DL.B := (.asg (.cons (.nm 3) (.cons (.nm 4) .nil)) (.nm 0) (.asgLc 2 [5] (.nm 5) (.rng (.cons (.blt .len (.cons (.nm 3) .nil)) .nil)) (.one (.cmp .nin (.nm 5) (.nm 1))) (.nm 5) (.fz 2 (.ret (.blt .sum (.cons (.lc [5] (.nm 5) (.sq (.nm 1)) .nop (.bin .sub (.ix (.nm 3) (.nm 5)) (.blt .sum (.cons (.lc [6] (.nm 6) (.sq (.nm 2)) .nop (.ix (.ix (.nm 4) (.nm 5)) (.nm 6))) .nil)))) .nil)) .nil))))
abbrev n_no_hands : List Str := ["board"]
def b_no_hands : DL.B := (.ret (.bin .mul (.lst (.cons (.int 0) .nil)) (.prp 0 0 (.nm 0))) .nil)
abbrev n_gain : List Str := ["board", "standing", "way", "group", "found"]
def b_gain : DL.B := (.ex (.call 0 (.cons (.nm 0) (.cons (.nm 1) .nil))) (.asg (.nm 4) (.call 1 (.cons (.call 2 (.cons (.nm 0) (.cons (.nm 1) (.cons (.nm 2) (.cons (.call 3 (.cons (.nm 0) .nil)) .nil))))) (.cons (.nm 3) .nil))) (.ret (.ife (.cmp .gt (.nm 4) (.bin .fdiv (.neg (.gl 0)) (.int 2))) (.nm 4) .non) .nil)))
abbrev n_law_stepped : List Str := ["_law_standing_here", "_law_way", "_law_group", "_law_dial"]
def b_law_stepped : DL.B := (.ret (.blt .tuple (.cons (.lc [3] (.nm 3) (.rng (.cons (.blt .len (.cons (.nm 0) .nil)) .nil)) .nop (.bin .add (.ix (.nm 0) (.nm 3)) (.bin .mul (.nm 1) (.blt .int (.cons (.cmp .inn (.nm 3) (.nm 2)) .nil))))) .nil)) .nil)

/-- a group as it stands in a list -/
def grpD (g : List Nat) : DL.D := .lst (g.map fun k : Nat => .int k)
theorem memD_grp {g : List Nat} {k : Nat} : memD (.int (k : Int)) (g.map fun k : Nat => .int k) = decide (k ∈ g) := by
  unfold memD L2.inV
  rw [Bool.eq_iff_iff]
  simp only [List.any_map, List.any_eq_true, Function.comp, D.v, L2.eqV, beq_iff_eq, decide_eq_true_eq]
  constructor
  · rintro ⟨x, hx, e⟩
    have : x = k := by omega
    rw [← this]; exact hx
  · exact fun h => ⟨k, h, rfl⟩
theorem flat_grp (g : List Nat) : (g.map fun k : Nat => DL.D.int k).all D.flat = true := by simp [D.flat]
theorem c_inG {d1 d2 : DL.D} {g : List Nat} {k : Nat} {Ψ : Bool → Prop} (h1 : d1 = .int (k : Int)) (h2 : d2 = grpD g) (q : Ψ (decide (k ∈ g))) : cmpD .inn d1 d2 Ψ := by
  subst h1 h2
  refine ⟨rfl, flat_grp g, ?_⟩
  rw [memD_grp]; exact q
theorem c_ninG {d1 d2 : DL.D} {g : List Nat} {k : Nat} {Ψ : Bool → Prop} (h1 : d1 = .int (k : Int)) (h2 : d2 = grpD g) (q : Ψ (!decide (k ∈ g))) : cmpD .nin d1 d2 Ψ := by
  subst h1 h2
  refine ⟨rfl, flat_grp g, ?_⟩
  rw [memD_grp]; exact q
def F_need_allowed : SpecF := fnF (fun x : Nat × List Tm × List Int => [boardD x.1 x.2.1, itup x.2.2]) (fun x => x.2.2.length = x.1 ∧ TsOk x.1 x.2.1 ∧ x.2.1.any (leaves x.2.2) = false) (fun _ => .non)
theorem M_need_allowed : Mono F_need_allowed := fnM _ _ _
def S_need_allowed : Sg := { z := true, fs := [], gs := [], ms := [F_Board_left] }
theorem W_need_allowed : WOk S_need_allowed n_need_allowed b_need_allowed F_need_allowed 2 := by
  rintro ds Φ ⟨⟨n, ts, xs⟩, rfl, ⟨h1, h2, h3⟩, k⟩
  refine ⟨rfl, ?_⟩
  unfold b_need_allowed
  trace_state
  refine ⟨_, rfl, ?_⟩
  trace_state
  refine ⟨(n, ts, xs), rfl, ⟨h1, h2⟩, ?_⟩
  simp only [lefts_non (k := 0) (show ts.any (leaves xs) = false from h3)]
  trace_state
  exact k
def F_growth : SpecF := fnF (fun x : Tm × Int × Int => [x.1.D, .int x.2.1, .int x.2.2]) (fun x => x.1.low ≤ x.1.high ∧ 0 ≤ x.1.force ∧ x.1.force ≤ 30) (fun x => .int (x.1.gro x.2.1 x.2.2))
theorem M_growth : Mono F_growth := fnM _ _ _
def S_growth : Sg := { z := true, fs := [F_is_pulling, F_distance, F_force_of], gs := [.int 1000000] }
theorem W_growth : WOk S_growth n_growth b_growth F_growth 3 := by
  rintro ds Φ ⟨⟨t, b, y⟩, rfl, ⟨h1, h2, h3⟩, k⟩
  refine ⟨rfl, ?_⟩
  have h1 : t.low ≤ t.high := h1
  have h2 : 0 ≤ t.force := h2
  have h3 : t.force ≤ 30 := h3
  unfold b_growth
  trace_state
  refine ⟨t, rfl, trivial, ?_⟩
  have e : (DL.D.int (t.gro b y)) = .int (if t.pulls = true then t.force * (t.far (b + y) - t.far b) else 1000000 * t.far (b + y)) := rfl
  simp only [e] at k
  cases hp : t.pulls with
  | true =>
    simp only [hp] at k ⊢
    trace_state
    refine ⟨t, rfl, hp, ?_⟩
    trace_state
    refine ⟨(t, b + y), rfl, h1, ?_⟩
    trace_state
    refine ⟨(t, b), rfl, h1, ?_⟩
    trace_state
    exact k
  | false =>
    simp only [hp] at k ⊢
    trace_state
    refine ⟨(t, b + y), rfl, h1, ?_⟩
    trace_state
    exact k
def F_no_hands : SpecF := fun ds Φ => ∃ (n : Nat) (ts : List Tm), ds = [boardD n ts] ∧ n ≤ 1000 ∧ Φ (.lst ((List.range n).map fun _ => .leaf (.int 0)))
theorem M_no_hands : Mono F_no_hands := fun ds Φ Ψ i ⟨n, ts, e, h, k⟩ => ⟨n, ts, e, h, i _ k⟩
def S_no_hands : Sg := { z := true, fs := [], gs := [], ps := [F_Board_size] }
theorem zeros_eq (n : Nat) : (List.replicate n [DL.D.int 0]).flatten.map T.leaf = (List.range n).map fun _ => T.leaf (.int 0) := by
  induction n with
  | zero => rfl
  | succ n ih =>
    rw [List.replicate_succ', List.flatten_append, List.map_append, ih, List.range_succ, List.map_append]
    rfl
theorem W_no_hands : WOk S_no_hands n_no_hands b_no_hands F_no_hands 1 := by
  rintro ds Φ ⟨n, ts, rfl, h, k⟩
  refine ⟨rfl, ?_⟩
  unfold b_no_hands
  trace_state
  refine ⟨_, rfl, (n, ts), rfl, trivial, ?_⟩
  refine b_rep (ds := [.int 0]) (n := n) rfl ⟨_, rfl⟩ rfl ⟨by omega, by omega, by simp; omega⟩ ?_
  rw [show ((n : Int)).toNat = n from rfl, zeros_eq]
  trace_state
  exact k
def localD (n : Nat) (f : Nat → Int) (g : Nat → Nat → Int) : DL.D := .tup [.lst ((List.range n).map fun k => .int (f k)), .lst ((List.range n).map fun i => .lst ((List.range n).map fun j => .int (g i j)))]
def F_group_gain : SpecF := fnF (fun x : Nat × (Nat → Int) × (Nat → Nat → Int) × List Nat => [localD x.1 x.2.1 x.2.2.1, grpD x.2.2.2]) (fun x => x.1 ≤ 1000 ∧ x.2.2.2.length ≤ 1000 ∧ ∀ d ∈ x.2.2.2, d < x.1) (fun x => .int (gg x.1 x.2.1 x.2.2.1 x.2.2.2))
theorem M_group_gain : Mono F_group_gain := fnM _ _ _
def S_group_gain : Sg := { z := true, fs := [], gs := [] }
theorem at_range {f : Nat → DL.D} {n k : Nat} (h : k < n) : atI ((List.range n).map f) (k : Int) = some (f k) := by
  unfold L2.atI L2.ixN
  rw [if_pos (by omega), if_pos (by simp; omega)]
  simp [h]
theorem W_group_gain : WOk S_group_gain n_group_gain b_group_gain F_group_gain 2 := by
  rintro ds Φ ⟨⟨n, f, g, grp⟩, rfl, ⟨h1, h2, h3⟩, k⟩
  refine ⟨rfl, ?_⟩
  have h1 : n ≤ 1000 := h1
  have h2 : grp.length ≤ 1000 := h2
  have h3 : ∀ d ∈ grp, d < n := h3
  unfold b_group_gain
  trace_state
  refine ⟨⟨by simp only [List.length_map, List.length_range]; omega, by simp only [List.length_map, List.length_range]; omega⟩, ?_⟩
  simp only [List.length_map, List.length_range, Int.toNat_natCast]
  refine ⟨by omega, lcW_ty (fun k : Nat => DL.D.int k) (fun k => decide (k ∉ grp)) (fun k : Nat => DL.D.int k) (fun d hd Ψ N g1 g2 => ?_) ?_⟩
  · trace_state
    refine c_ninG rfl rfl ?_
    by_cases q : d ∈ grp
    · rw [decide_eq_true q]
      exact g2 (by simp [q])
    · rw [decide_eq_false q]
      trace_state
      exact g1 (by simp [q])
  rw [List.nil_append, show ((List.range n).filter fun k => decide (k ∉ grp)) = stay n grp from rfl, show ((stay n grp).map fun a : Nat => T.leaf (.int a)) = ((stay n grp).map fun a : Nat => DL.D.int a).map .leaf by rw [List.map_map]; rfl]
  refine wb_fz rfl rfl ?_
  rw [show (T.lst (((stay n grp).map fun a : Nat => DL.D.int a).map .leaf)).dat = grpD (stay n grp) by rw [T.dat, dats_leaf]; rfl]
  trace_state
  refine ⟨_, rfl, by simpa using (show grp.length ≤ 100000 by omega), lcW_tyM (fun k : Nat => DL.D.int k) (fun d => .int (f d - ((stay n grp).map (g d)).sum)) (fun d hd Ψ g1 => ?_) ?_⟩
  · have hd := h3 d hd
    trace_state
    refine ix_ll rfl rfl (at_range hd) ?_
    trace_state
    have ls : (stay n grp).length ≤ 100000 := by
      have : (stay n grp).length ≤ n := by unfold stay; exact Nat.le_trans (List.length_filter_le _ _) (by simp)
      omega
    refine ⟨_, rfl, by simpa using ls, lcW_tyM (fun k : Nat => DL.D.int k) (fun o => .int (g d o)) (fun o ho Ψ g1 => ?_) ?_⟩
    · have ho := (stay_mem.mp ho).1
      trace_state
      refine ix_ll rfl rfl (at_range hd) ?_
      trace_state
      refine ix_ll rfl rfl (at_range ho) ?_
      trace_state
      exact g1
    · trace_state
      refine l_suml (ns := (stay n grp).map (g d)) (ds := ((stay n grp).map (g d)).map .int) ?_ (toInts_map _) ?_
      · simp only [T.dat, List.nil_append]
        rw [T.dats_eq, List.map_map, List.map_map]; rfl
      trace_state
      exact g1
  · trace_state
    refine l_suml (ns := grp.map fun d => f d - ((stay n grp).map (g d)).sum) (ds := (grp.map fun d => f d - ((stay n grp).map (g d)).sum).map .int) ?_ (toInts_map _) ?_
    · simp only [T.dat, List.nil_append]
      rw [T.dats_eq, List.map_map, List.map_map]; rfl
    trace_state
    exact k
theorem ix_dial {t : Tm} {Φ : T → Prop} (k : Φ (.leaf (.int t.dial))) : ixT (.leaf t.D) (.int 1) Φ := by cases t <;> exact ⟨_, rfl, k⟩
theorem ixN_nat {n d : Nat} (h : d < n) : ixN n (d : Int) = some d := by
  unfold L2.ixN
  rw [if_pos (by omega), if_pos (by omega)]
  rfl
def F_law_stepped : SpecF := fnF (fun x : List Int × Int × List Nat => [itup x.1, .int x.2.1, grpD x.2.2]) (fun x => x.1.length ≤ 1000) (fun x => itup (stepL x.1 x.2.1 x.2.2))
theorem M_law_stepped : Mono F_law_stepped := fnM _ _ _
def S_law_stepped : Sg := { z := true, fs := [], gs := [] }
theorem W_law_stepped : WOk S_law_stepped n_law_stepped b_law_stepped F_law_stepped 3 := by
  rintro ds Φ ⟨⟨xs, y, g⟩, rfl, hl, k⟩
  refine ⟨rfl, ?_⟩
  have hl : xs.length ≤ 1000 := hl
  unfold b_law_stepped
  trace_state
  refine ⟨⟨by show -(2 ^ 62) ≤ (xs.length : Int); omega, by show (xs.length : Int) < 2 ^ 62; omega⟩, ?_⟩
  simp only [Int.toNat_natCast]
  refine ⟨by simp; omega, lcW_tyM (fun k : Nat => DL.D.int k) (fun d => .int (xs.getD d 0 + y * (if d ∈ g then 1 else 0))) (fun d hd Ψ g1 => ?_) ?_⟩
  · have hd := List.mem_range.mp hd
    trace_state
    refine c_inG rfl rfl ?_
    by_cases q : d ∈ g
    · simp only [if_pos q] at g1
      rw [decide_eq_true q]
      trace_state
      exact g1
    · simp only [if_neg q] at g1
      rw [decide_eq_false q]
      trace_state
      exact g1
  · trace_state
    refine l_tuple (.inl rfl) ?_
    rw [List.nil_append, show ((List.range xs.length).map fun d => T.leaf (.int (xs.getD d 0 + y * (if d ∈ g then 1 else 0)))) = (stepL xs y g).map fun g => T.leaf (.int g) by unfold stepL; rw [List.map_map]; rfl, mk_ints]
    trace_state
    exact k
theorem own_set {n d : Nat} {f : Nat → Int} {c : Int} : ((List.range n).map fun k => T.leaf (.int (f k))).set d (T.leaf (.int (f d - c))) = (List.range n).map fun k => T.leaf (.int (if k = d then f k - c else f k)) := by
  refine List.ext_getElem (by simp) fun i h1 h2 => ?_
  simp only [List.length_set, List.length_map, List.length_range] at h1
  rw [List.getElem_set]
  simp only [List.getElem_map, List.getElem_range]
  by_cases e : d = i
  · subst e; simp
  · rw [if_neg e, if_neg (Ne.symm e)]
theorem loss_set {n d o : Nat} {g : Nat → Nat → Int} {c : Int} : ((List.range n).map fun i => T.lst ((List.range n).map fun j => T.leaf (.int (g i j)))).set d (T.lst (((List.range n).map fun j => T.leaf (.int (g d j))).set o (T.leaf (.int (g d o + c))))) =
    (List.range n).map fun i => T.lst ((List.range n).map fun j => T.leaf (.int (g i j + if i = d ∧ j = o then c else 0))) := by
  refine List.ext_getElem (by simp) fun i h1 h2 => ?_
  simp only [List.length_set, List.length_map, List.length_range] at h1
  rw [List.getElem_set]
  simp only [List.getElem_map, List.getElem_range]
  by_cases e : d = i
  · subst e
    rw [if_pos rfl]
    congr 1
    refine List.ext_getElem (by simp) fun j h3 h4 => ?_
    rw [List.getElem_set]
    simp only [List.getElem_map, List.getElem_range]
    by_cases e : o = j
    · subst e; simp
    · rw [if_neg e]
      have : ¬ j = o := Ne.symm e
      simp [this]
  · rw [if_neg e]
    have : ¬ i = d := Ne.symm e
    simp [this]
def F_local_gains : SpecF := fnF (fun x : Nat × List Tm × List Int × Int × List Int => [boardD x.1 x.2.1, itup x.2.2.1, .int x.2.2.2.1, .lst (x.2.2.2.2.map .int)])
  (fun x => x.1 ≤ 1000 ∧ x.2.1.length ≤ 1000 ∧ TsOk x.1 x.2.1 ∧ x.2.2.1.length = x.1 ∧ (x.2.2.2.1 = 1 ∨ x.2.2.2.1 = -1) ∧ x.2.2.2.2.length = x.1)
  (fun x => localD x.1 (ownF x.2.2.1 x.2.2.2.1 x.2.1 fun k => x.2.2.2.1 * x.2.2.2.2.getD k 0) (lossF x.2.2.1 x.2.2.2.1 x.2.1 fun _ _ => 0))
theorem M_local_gains : Mono F_local_gains := fnM _ _ _
def S_local_gains : Sg := { z := true, fs := [F_other_of, F_argument, F_growth], gs := [], ms := [F_Board_terms], ps := [F_Board_size] }
abbrev ELg (n : Nat) (ts : List Tm) (xs : List Int) (y : Int) (hs : List Int) (f : Nat → Int) (g : Nat → Nat → Int) (c5 c8 c9 c10 : Option T) : DL.Env :=
  [some (.leaf (boardD n ts)), some (.leaf (itup xs)), some (.leaf (.int y)), some (.leaf (.lst (hs.map .int))), some (.leaf (.int n)), c5, some (.lst ((List.range n).map fun k => T.leaf (.int (f k)))), some (.lst ((List.range n).map fun i => T.lst ((List.range n).map fun j => T.leaf (.int (g i j))))), c8, c9, c10, none]
def loopB : DL.B → DL.B
  | .for_ _ _ b _ => b
  | .asg _ _ r => loopB r
  | .fgt _ r => loopB r
  | .par2 _ _ _ _ r => loopB r
  | b => b
theorem W_lg_body {n : Nat} {ts : List Tm} {xs : List Int} {y : Int} {hs : List Int} {f : Nat → Int} {g : Nat → Nat → Int} {c8 c9 c10 : Option T} {K : EnD} {t : Tm} (hx : xs.length = n) (ok : t.Ok n 30)
    (k : ∀ c8 c9 c10, K.nx (ELg n ts xs y hs (ownS xs y t f) (lossS xs y t g) (some (.leaf t.D)) c8 c9 c10)) : wb S_local_gains (loopB b_local_gains) (ELg n ts xs y hs f g (some (.leaf t.D)) c8 c9 c10) K := by
  have hin : t.In xs.length := by rw [hx]; exact ok.1
  have fr := ok.force_le (by decide)
  have lh := ok.2.1.2.1
  unfold b_local_gains
  simp only [loopB]
  trace_state
  refine ix_dial ?_
  trace_state
  refine ⟨t, rfl, trivial, ?_⟩
  trace_state
  refine ⟨(t, xs), rfl, hin, ?_⟩
  cases t with
  | stop d l u =>
    have hd : d < n := ok.1
    trace_state
    refine ⟨(d : Int), d, .int (f d), rfl, ixN_nat (by simp; exact hd), by simp [hd], ?_⟩
    trace_state
    refine ⟨(.stop d l u, (Tm.stop d l u).arg xs, y), rfl, ⟨lh, fr.1, fr.2⟩, ?_⟩
    trace_state
    rw [own_set]
    exact k _ _ _
  | wish d l u m =>
    have hd : d < n := ok.1
    trace_state
    refine ⟨(d : Int), d, .int (f d), rfl, ixN_nat (by simp; exact hd), by simp [hd], ?_⟩
    trace_state
    refine ⟨(.wish d l u m, (Tm.wish d l u m).arg xs, y), rfl, ⟨lh, fr.1, fr.2⟩, ?_⟩
    trace_state
    rw [own_set]
    exact k _ _ _
  | bar d o l u =>
    have hd : d < n := ok.1.1
    have ho : o < n := ok.1.2
    trace_state
    refine ⟨(d : Int), d, _, rfl, ixN_nat (by simp; exact hd), by simp [hd]; rfl, ?_⟩
    trace_state
    refine ⟨(o : Int), o, .int (g d o), rfl, ixN_nat (by simp; exact ho), by simp [ho], ?_⟩
    trace_state
    refine ⟨(.bar d o l u, (Tm.bar d o l u).arg xs, y), rfl, ⟨lh, fr.1, fr.2⟩, ?_⟩
    trace_state
    rw [loss_set]
    refine ⟨(o : Int), o, _, rfl, ixN_nat (by simp; exact ho), by simp [ho]; rfl, ?_⟩
    trace_state
    refine ⟨(d : Int), d, .int (g o d + if o = d ∧ d = o then (Tm.bar d o l u).gro ((Tm.bar d o l u).arg xs) y else 0), rfl, ixN_nat (by simp; exact hd), by simp [hd], ?_⟩
    trace_state
    refine ⟨(.bar d o l u, (Tm.bar d o l u).arg xs, -y), rfl, ⟨lh, fr.1, fr.2⟩, ?_⟩
    trace_state
    rw [loss_set (g := fun i j => g i j + if i = d ∧ j = o then (Tm.bar d o l u).gro ((Tm.bar d o l u).arg xs) y else 0)]
    exact k _ _ _
  | tie d o l u m =>
    have hd : d < n := ok.1.1
    have ho : o < n := ok.1.2
    trace_state
    refine ⟨(d : Int), d, _, rfl, ixN_nat (by simp; exact hd), by simp [hd]; rfl, ?_⟩
    trace_state
    refine ⟨(o : Int), o, .int (g d o), rfl, ixN_nat (by simp; exact ho), by simp [ho], ?_⟩
    trace_state
    refine ⟨(.tie d o l u m, (Tm.tie d o l u m).arg xs, y), rfl, ⟨lh, fr.1, fr.2⟩, ?_⟩
    trace_state
    rw [loss_set]
    refine ⟨(o : Int), o, _, rfl, ixN_nat (by simp; exact ho), by simp [ho]; rfl, ?_⟩
    trace_state
    refine ⟨(d : Int), d, .int (g o d + if o = d ∧ d = o then (Tm.tie d o l u m).gro ((Tm.tie d o l u m).arg xs) y else 0), rfl, ixN_nat (by simp; exact hd), by simp [hd], ?_⟩
    trace_state
    refine ⟨(.tie d o l u m, (Tm.tie d o l u m).arg xs, -y), rfl, ⟨lh, fr.1, fr.2⟩, ?_⟩
    trace_state
    rw [loss_set (g := fun i j => g i j + if i = d ∧ j = o then (Tm.tie d o l u m).gro ((Tm.tie d o l u m).arg xs) y else 0)]
    exact k _ _ _
theorem list_range (hs : List Int) : hs = (List.range hs.length).map fun k => hs.getD k 0 := by
  refine List.ext_getElem (by simp) fun i h1 h2 => ?_
  simp [h1]
end KT
namespace KT
open PySem PySem.Spec PyProof.Rows L2 DL
local macro_rules | `(tactic| trace_state) => `(tactic| repeat' first | (with_reducible show w _ _ _ _; first | with_reducible refine w_nm (by with_unfolding_all exact rfl) ?_ | with_reducible refine w_ix ?_ | with_reducible refine w_int ?_ | with_reducible refine w_bin ?_ | with_reducible refine w_cmp ?_ | with_reducible refine w_call (by with_unfolding_all exact rfl) ?_ | with_reducible refine w_blt ?_ | with_reducible refine w_ow (by with_unfolding_all exact rfl) ?_ | with_reducible refine w_tup ?_ | with_reducible refine w_lst ?_ | with_reducible refine w_str ?_ | with_reducible refine w_neg ?_ | with_reducible refine w_ife ?_ | with_reducible refine w_sl ?_ | with_reducible refine w_and ?_ | with_reducible refine w_one ?_ | with_reducible refine w_or ?_ | with_reducible refine w_orv ?_ | with_reducible refine w_srtS ?_ | with_reducible refine w_not ?_ | with_reducible refine w_bl ?_ | with_reducible refine w_non ?_ | with_reducible refine w_gl (by with_unfolding_all exact rfl) ?_ | with_reducible refine w_chn ?_ | with_reducible refine w_lc (by with_unfolding_all exact rfl) ?_ | with_reducible refine w_fld ?_ | with_reducible refine w_mth (by with_unfolding_all exact rfl) ?_ | with_reducible refine w_mt0 (by with_unfolding_all exact rfl) ?_ | with_reducible refine w_prp (by with_unfolding_all exact rfl) ?_ | with_reducible refine w_new (by with_unfolding_all exact rfl) ?_ | with_reducible refine w_isi ?_ | with_reducible refine w_eqO (by with_unfolding_all exact rfl) ?_ | with_reducible refine w_isC ?_ | with_reducible refine w_lr1 ?_ | with_reducible refine w_lr2 ?_) | (with_reducible show wa _ _ _ _; first | with_reducible refine wa_cons ?_ | with_reducible refine wa_nil ?_) | (with_reducible show wv _ _ _ _; first | with_reducible refine wv_cons ?_ | with_reducible refine wv_nil ?_) | (with_reducible show T.fin _ _; first | with_reducible refine fin_leaf (by with_unfolding_all exact rfl) ?_ | with_reducible refine fin_mk (by with_unfolding_all exact rfl) ?_ | with_reducible refine fin_lst (by with_unfolding_all exact rfl) ?_ | with_reducible refine fin_tup (by with_unfolding_all exact rfl) ?_) | (with_reducible show And _ _; first | with_reducible refine and_len (by with_unfolding_all exact rfl) ?_) | (with_reducible show frozs _ _ _; first | with_reducible refine fz_nil ?_ | with_reducible refine fz_cons ?_) | (with_reducible show T.froz _ _ _; first | with_reducible refine fz_leaf (by with_unfolding_all exact rfl) ?_ | with_reducible refine fz_lst (by with_unfolding_all exact rfl) (by with_unfolding_all exact rfl) ?_ | with_reducible refine fz_tup (by with_unfolding_all exact rfl) (by with_unfolding_all exact rfl) ?_ | with_reducible refine fz_vw (by with_unfolding_all exact rfl) (by with_unfolding_all exact rfl) ?_) | (with_reducible show ixT _ _ _; first | with_reducible refine ix_lt (by with_unfolding_all exact rfl) (by with_unfolding_all exact rfl) (by with_unfolding_all exact at_getD (by assumption)) ?_ | with_reducible refine ix_lt (by with_unfolding_all exact rfl) (by with_unfolding_all exact rfl) (by with_unfolding_all exact rfl) ?_ | with_reducible refine ix_lst (by with_unfolding_all exact rfl) (by with_unfolding_all exact rfl) (by with_unfolding_all exact rfl) ?_ | with_reducible refine ix_ll (by with_unfolding_all exact rfl) (by with_unfolding_all exact rfl) (by with_unfolding_all exact rfl) ?_ | with_reducible refine ix_vli (by with_unfolding_all exact rfl) (by with_unfolding_all exact rfl) (by with_unfolding_all exact rfl) ?_ | with_reducible refine ix_vll (by with_unfolding_all exact rfl) (by with_unfolding_all exact rfl) (by with_unfolding_all exact rfl) ?_ | with_reducible refine ix_tup (by with_unfolding_all exact rfl) (by with_unfolding_all exact rfl) (by with_unfolding_all exact rfl) ?_ | with_reducible refine ix_vti (by with_unfolding_all exact rfl) (by with_unfolding_all exact rfl) (by with_unfolding_all exact rfl) ?_ | with_reducible refine ix_vlt (by with_unfolding_all exact rfl) (by with_unfolding_all exact rfl) (by with_unfolding_all exact rfl) ?_ | with_reducible refine ix_vtl (by with_unfolding_all exact rfl) (by with_unfolding_all exact rfl) (by with_unfolding_all exact rfl) ?_ | with_reducible refine ix_vls (by with_unfolding_all exact rfl) (by with_unfolding_all exact rfl) (by with_unfolding_all exact rfl) ?_) | (with_reducible show DL.binT _ _ _ _; first | with_reducible refine b_add (by with_unfolding_all exact rfl) (by with_unfolding_all exact rfl) ?_ | with_reducible refine b_sub (by with_unfolding_all exact rfl) (by with_unfolding_all exact rfl) ?_ | with_reducible refine b_mul (by with_unfolding_all exact rfl) (by with_unfolding_all exact rfl) (by with_unfolding_all exact mulR ⟨by decide, by decide⟩) ?_ | with_reducible refine b_mul (by with_unfolding_all exact rfl) (by with_unfolding_all exact rfl) (by with_unfolding_all exact mulL ⟨by decide, by decide⟩) ?_ | with_reducible refine b_mul (by with_unfolding_all exact rfl) (by with_unfolding_all exact rfl) (by with_unfolding_all exact mulL ⟨by omega, by omega⟩) ?_ | with_reducible refine b_mul (by with_unfolding_all exact rfl) (by with_unfolding_all exact rfl) (by with_unfolding_all exact mulR ⟨by omega, by omega⟩) ?_ | with_reducible refine b_mul (by with_unfolding_all exact rfl) (by with_unfolding_all exact rfl) ?_ ?_ | with_reducible refine b_p18 (by with_unfolding_all exact rfl) (by with_unfolding_all exact rfl) ?_ | with_reducible refine b_p9 (by with_unfolding_all exact rfl) (by with_unfolding_all exact rfl) ?_ | with_reducible refine b_p38 (by with_unfolding_all exact rfl) (by with_unfolding_all exact rfl) ?_ | with_reducible refine b_p17 (by with_unfolding_all exact rfl) (by with_unfolding_all exact rfl) ?_ | with_reducible refine b_p40 (by with_unfolding_all exact rfl) (by with_unfolding_all exact rfl) ?_ | with_reducible refine b_p39 (by with_unfolding_all exact rfl) (by with_unfolding_all exact rfl) ?_ | with_reducible refine b_p21 (by with_unfolding_all exact rfl) (by with_unfolding_all exact rfl) ?_ | with_reducible refine b_p20 (by with_unfolding_all exact rfl) (by with_unfolding_all exact rfl) ?_ | with_reducible refine b_p6 (by with_unfolding_all exact rfl) (by with_unfolding_all exact rfl) ?_ | with_reducible refine b_pow (by with_unfolding_all exact rfl) (by with_unfolding_all exact rfl) (by with_unfolding_all decide) ?_ | with_reducible refine b_mod (by with_unfolding_all exact rfl) (by with_unfolding_all exact rfl) (by with_unfolding_all (first | decide | assumption | omega)) ?_ | with_reducible refine b_mod (by with_unfolding_all exact rfl) (by with_unfolding_all exact rfl) ?_ ?_ | with_reducible refine b_fdiv (by with_unfolding_all exact rfl) (by with_unfolding_all exact rfl) (by with_unfolding_all exact ⟨by decide, by decide⟩) ?_ | with_reducible refine b_fdiv (by with_unfolding_all exact rfl) (by with_unfolding_all exact rfl) (by with_unfolding_all exact ⟨by assumption, by assumption⟩) ?_ | with_reducible refine b_fdiv (by with_unfolding_all exact rfl) (by with_unfolding_all exact rfl) ?_ ?_ | with_reducible refine b_catL (by with_unfolding_all exact rfl) (by with_unfolding_all exact rfl) (by with_unfolding_all exact rfl) ?_) | (with_reducible show cmpD _ _ _ _; first | with_reducible refine c_eq (by with_unfolding_all exact rfl) (by with_unfolding_all exact rfl) ?_ | with_reducible refine c_ne (by with_unfolding_all exact rfl) (by with_unfolding_all exact rfl) ?_ | with_reducible refine c_lt (by with_unfolding_all exact rfl) (by with_unfolding_all exact rfl) ?_ | with_reducible refine c_le (by with_unfolding_all exact rfl) (by with_unfolding_all exact rfl) ?_ | with_reducible refine c_gt (by with_unfolding_all exact rfl) (by with_unfolding_all exact rfl) ?_ | with_reducible refine c_ge (by with_unfolding_all exact rfl) (by with_unfolding_all exact rfl) ?_ | with_reducible refine c_nes (by with_unfolding_all exact rfl) (by with_unfolding_all exact rfl) ?_ | with_reducible refine c_eqs (by with_unfolding_all exact rfl) (by with_unfolding_all exact rfl) ?_ | with_reducible refine c_inT (by with_unfolding_all exact rfl) (by with_unfolding_all exact rfl) (by with_unfolding_all (first | exact tb_stop | exact tb_wish | exact tb_bar | exact tb_tie | exact wt_stop | exact wt_wish | exact wt_bar | exact wt_tie)) ?_ | with_reducible refine c_ninT (by with_unfolding_all exact rfl) (by with_unfolding_all exact rfl) (by with_unfolding_all (first | exact w4_stop | exact w4_wish | exact w4_bar | exact w4_tie)) ?_ | with_reducible refine c_isT (by with_unfolding_all exact rfl) (by with_unfolding_all exact rfl) ?_ | with_reducible refine c_isF (by with_unfolding_all exact rfl) (by with_unfolding_all exact rfl) ?_ | with_reducible refine c_notT (by with_unfolding_all exact rfl) (by with_unfolding_all exact rfl) ?_ | with_reducible refine c_notF (by with_unfolding_all exact rfl) (by with_unfolding_all exact rfl) ?_) | (with_reducible show wt _ _ _ _; first | with_reducible refine wt_cmp ?_ | with_reducible refine wt_not ?_ | with_reducible refine wt_val ?_ | with_reducible refine wt_and ?_ | with_reducible refine wt_or ?_ | with_reducible refine wt_one ?_ | with_reducible refine wt_chn ?_) | (with_reducible show @ite _ _ _ _ _; first | with_reducible refine ite_t ?_ | with_reducible refine ite_f ?_ | with_reducible refine ite_nt ?_ | with_reducible refine ite_nf ?_ | with_reducible refine ite_decT (by decide) ?_ | with_reducible refine ite_decF (by decide) ?_ | with_reducible refine ite_dec (fun _ => ?_) (fun _ => ?_) | with_reducible refine ite_ndecT (by with_unfolding_all exact rfl) ?_ | with_reducible refine ite_ndec (fun _ => ?_) (fun _ => ?_)) | (with_reducible show wb _ _ _ _; first | with_reducible refine wb_asg ?_ | with_reducible refine wb_ite ?_ | with_reducible refine wb_ret ?_ | with_reducible refine wb_nil ?_ | with_reducible refine wb_for ?_ | with_reducible refine wb_asgLc (by with_unfolding_all exact rfl) (by with_unfolding_all exact rfl) ?_ | with_reducible refine wb_setix (by with_unfolding_all exact rfl) ?_ | with_reducible refine wb_augix (by with_unfolding_all exact rfl) ?_ | with_reducible refine wb_aug (by with_unfolding_all exact rfl) (by with_unfolding_all exact rfl) ?_ | with_reducible refine wb_fgt ?_ | with_reducible refine wb_unp2 ?_ | with_reducible refine wb_ext (by with_unfolding_all exact rfl) ?_ | with_reducible refine wb_augix2 (by with_unfolding_all exact rfl) ?_ | with_reducible refine wb_ex ?_ | with_reducible refine wb_fz (by with_unfolding_all exact rfl) (by with_unfolding_all exact rfl) ?_ | with_reducible refine wb_pass ?_ | with_reducible refine wb_brk ?_ | with_reducible refine wb_cont ?_ | with_reducible refine wb_retN ?_ | with_reducible refine wb_par3b (by with_unfolding_all decide) (by with_unfolding_all exact rfl) (by with_unfolding_all exact rfl) (by with_unfolding_all exact rfl) ?_ | with_reducible refine wb_par2 (by with_unfolding_all decide) (by with_unfolding_all exact rfl) (by with_unfolding_all exact rfl) ?_ | with_reducible refine wb_app (by with_unfolding_all exact rfl) (by with_unfolding_all (simp; done)) ?_ | with_reducible refine wb_app (by with_unfolding_all exact rfl) ?_ ?_) | (with_reducible show Exists _; first | with_reducible refine bind_nm (by with_unfolding_all exact rfl) ?_ | with_reducible refine bind_pair (by with_unfolding_all exact rfl) (by with_unfolding_all exact rfl) (by with_unfolding_all exact rfl) ?_ | with_reducible refine bind_5 (by with_unfolding_all exact rfl) (by with_unfolding_all exact rfl) ?_ | with_reducible refine ex_int (by with_unfolding_all exact rfl) ?_ | with_reducible refine ex_bl (by with_unfolding_all exact rfl) ?_ | with_reducible refine ex_isT (by with_unfolding_all exact rfl) ?_ | with_reducible refine set_to (by with_unfolding_all exact rfl) (by with_unfolding_all exact rfl) ?_ | with_reducible refine aug_to (by with_unfolding_all exact rfl) (by with_unfolding_all exact rfl) (by with_unfolding_all exact rfl) ?_ | with_reducible refine ex_rg1 (by with_unfolding_all exact rfl) (by with_unfolding_all (unfold RgS; omega)) ?_ | with_reducible refine ex_rg2 (by with_unfolding_all exact rfl) (by with_unfolding_all exact rfl) (by with_unfolding_all (unfold RgS; omega)) ?_) | (with_reducible show bltT _ _ _; first | with_reducible refine l_lens (by with_unfolding_all exact rfl) ?_ | with_reducible refine l_len (by with_unfolding_all exact rfl) ?_ | with_reducible refine l_lentK 4 (by with_unfolding_all exact rfl) (by with_unfolding_all exact rfl) ?_ | with_reducible refine l_lentK 5 (by with_unfolding_all exact rfl) (by with_unfolding_all exact rfl) ?_ | with_reducible refine l_lentK 6 (by with_unfolding_all exact rfl) (by with_unfolding_all exact rfl) ?_ | with_reducible refine l_lent (by with_unfolding_all exact rfl) ?_ | with_reducible refine l_abs (by with_unfolding_all exact rfl) ?_ | with_reducible refine l_max2 (by with_unfolding_all exact rfl) (by with_unfolding_all exact rfl) ?_ | with_reducible refine l_min2 (by with_unfolding_all exact rfl) (by with_unfolding_all exact rfl) ?_ | with_reducible refine l_max3 (by with_unfolding_all exact rfl) (by with_unfolding_all exact rfl) (by with_unfolding_all exact rfl) ?_ | with_reducible refine l_intT (by with_unfolding_all exact rfl) ?_ | with_reducible refine l_intF (by with_unfolding_all exact rfl) ?_ | with_reducible refine l_intD (by with_unfolding_all exact rfl) (fun _ => ?_) (fun _ => ?_)) | (with_reducible show slT _ _ _ _; first | with_reducible refine sl_lt (by with_unfolding_all exact rfl) (by with_unfolding_all exact rfl) ?_) | (with_reducible show tru _ _; first | with_reducible refine t_bl (by with_unfolding_all exact rfl) ?_) | (with_reducible show augD _ _ _ _; first | with_reducible refine a_add (by with_unfolding_all exact rfl) (by with_unfolding_all exact rfl) ?_ | with_reducible refine a_sub (by with_unfolding_all exact rfl) (by with_unfolding_all exact rfl) ?_) | (with_reducible show wo _ _ _ _; first | with_reducible refine wo_nop ?_ | with_reducible refine wo_prt ?_) | (with_reducible show wi _ _ _ _; first | with_reducible refine wi_rng ?_ | with_reducible refine wi_sq ?_ | with_reducible refine wi_zip ?_ | with_reducible refine wi_enm ?_) | (with_reducible show wc _ _ _ _; first | with_reducible refine wc_nop ?_ | with_reducible refine wc_one ?_))

theorem W_local_gains : WOk S_local_gains n_local_gains b_local_gains F_local_gains 4 := by
  rintro ds Φ ⟨⟨n, ts, xs, y, hs⟩, rfl, ⟨hn, hl, ok, hx, hy, hh⟩, k⟩
  refine ⟨rfl, ?_⟩
  have hn : n ≤ 1000 := hn
  have hl : ts.length ≤ 1000 := hl
  have ok : TsOk n ts := ok
  have hx : xs.length = n := hx
  have hh : hs.length = n := hh
  have hy : y = 1 ∨ y = -1 := hy
  have y1 : -(2 ^ 64) < y := by omega
  have y2 : y < 2 ^ 64 := by omega
  unfold b_local_gains
  trace_state
  refine ⟨_, rfl, (n, ts), rfl, trivial, ?_⟩
  trace_state
  refine ⟨_, rfl, by simp; omega, lcW_tyM DL.D.int (fun h => .int (y * h)) (fun h hm Ψ g1 => ?_) ?_⟩
  · trace_state
    exact g1
  trace_state
  have e1 : ([] ++ List.map (fun a => T.leaf (D.int (y * a))) hs) = (List.range n).map fun k => T.leaf (.int (y * hs.getD k 0)) := by
    rw [List.nil_append]
    conv => lhs; rw [list_range hs, hh, List.map_map]
    rfl
  refine ⟨⟨by show -(2 ^ 62) ≤ (n : Int); omega, by show (n : Int) < 2 ^ 62; omega⟩, ?_⟩
  simp only [Int.toNat_natCast]
  refine ⟨by simp; omega, ?_⟩
  rw [e1]
  refine lcW_map (fun _ => T.lst ((List.range n).map fun _ => .leaf (.int 0))) (fun d hd Ψ g1 => ?_) ?_
  · trace_state
    refine b_rep (ds := [.int 0]) (n := n) rfl ⟨_, rfl⟩ rfl ⟨by omega, by omega, by simp; omega⟩ ?_
    rw [show ((n : Int)).toNat = n from rfl, zeros_eq]
    trace_state
    exact g1
  rw [List.map_map]
  trace_state
  refine ⟨_, rfl, n, ts, rfl, ?_⟩
  refine fz_lst rfl rfl ?_
  refine ⟨ts.map Tm.D, by rw [dat_terms]; rfl, ?_⟩
  refine forW_inv (fun ds ρ => ∃ (dn rs : List Tm) (c5 c8 c9 c10 : Option T), ts = dn ++ rs ∧ ds = rs.map Tm.D ∧
    ρ = ELg n ts xs y hs (ownF xs y dn fun k => y * hs.getD k 0) (lossF xs y dn fun _ _ => 0) c5 c8 c9 c10) ⟨[], ts, none, none, none, none, rfl, rfl, rfl⟩ ?_ ?_
  · rintro d r ρ K' ⟨dn, rs, c5, c8, c9, c10, e, e2, rfl⟩ q1 q2 q3 q4
    cases rs with
    | nil => cases e2
    | cons t rs =>
      obtain ⟨rfl, rfl⟩ := List.cons.inj e2
      refine bind_nm rfl ?_
      refine W_lg_body (c8 := c8) (c9 := c9) (c10 := c10) hx (ok t (by rw [e]; simp)) fun d8 d9 d10 => q1 _ ⟨dn ++ [t], rs, some (.leaf t.D), d8, d9, d10, by rw [e]; simp, rfl, ?_⟩
      unfold ownF lossF
      rw [List.foldl_append, List.foldl_append]
      rfl
  · rintro ρ ⟨dn, rs, c5, c8, c9, c10, e, e2, rfl⟩
    cases rs with
    | cons t rs => cases e2
    | nil =>
      rw [List.append_nil] at e
      subst e
      refine wb_fz rfl rfl ?_
      refine wb_fz rfl rfl ?_
      trace_state
      have e3 : D.tup (T.dats
          [T.leaf (T.lst (List.map (fun k => T.leaf (D.int (ownF xs y ts (fun k => y * hs.getD k 0) k))) (List.range n))).dat,
            T.leaf (T.lst (List.map (fun i => T.lst (List.map (fun j => T.leaf (D.int (lossF xs y ts (fun x x_1 => 0) i j))) (List.range n))) (List.range n))).dat]) =
          localD n (ownF xs y ts fun k => y * hs.getD k 0) (lossF xs y ts fun _ _ => 0) := by
        simp [T.dat, T.dats_eq, localD]
      show Φ _
      rw [e3]
      exact k
/-! ### the gain itself -/
def F_gain : SpecF := fnF (fun x : Nat × List Tm × List Int × Int × List Nat => [boardD x.1 x.2.1, itup x.2.2.1, .int x.2.2.2.1, grpD x.2.2.2.2])
  (fun x => x.1 ≤ 8 ∧ x.2.1.length ≤ 24 ∧ TsOk x.1 x.2.1 ∧ x.2.2.1.length = x.1 ∧ x.2.1.any (leaves x.2.2.1) = false ∧ (x.2.2.2.1 = 1 ∨ x.2.2.2.1 = -1) ∧ x.2.2.2.2.Nodup ∧ ∀ d ∈ x.2.2.2.2, d < x.1)
  (fun x => gainD x.2.2.1 x.2.1 x.2.2.2.1 x.2.2.2.2)
theorem M_gain : Mono F_gain := fnM _ _ _
theorem nodup_len {n : Nat} {g : List Nat} (h : g.Nodup) (hb : ∀ d ∈ g, d < n) : g.length ≤ n := by
  have := h.length_le_of_subset (l₂ := List.range n) fun d hd => List.mem_range.mpr (hb d hd)
  simpa using this
def S_gain : Sg := { z := true, fs := [F_need_allowed, F_group_gain, F_local_gains, F_no_hands], gs := [.int 1000000] }
theorem W_gain : WOk S_gain n_gain b_gain F_gain 4 := by
  rintro ds Φ ⟨⟨n, ts, xs, y, g⟩, rfl, ⟨hn, hl, ok, hx, ha, hy, hg, hb⟩, k⟩
  refine ⟨rfl, ?_⟩
  have hn : n ≤ 8 := hn
  have hl : ts.length ≤ 24 := hl
  have ok : TsOk n ts := ok
  have hx : xs.length = n := hx
  have hy : y = 1 ∨ y = -1 := hy
  have ha : ts.any (leaves xs) = false := ha
  have hg : g.Nodup := hg
  have hb : ∀ d ∈ g, d < n := hb
  unfold b_gain
  trace_state
  refine ⟨(n, ts, xs), rfl, ⟨hx, ok, ha⟩, ?_⟩
  trace_state
  refine ⟨n, ts, rfl, by omega, ?_⟩
  trace_state
  refine ⟨(n, ts, xs, y, (List.range n).map fun _ => 0), ?_, ⟨by omega, show ts.length ≤ 1000 by omega, ok, hx, hy, by simp⟩, ?_⟩
  · simp [T.dat, T.dats_eq]
  trace_state
  refine ⟨(n, ownF xs y ts fun _ => 0, lossF xs y ts fun _ _ => 0, g), ?_, ⟨by omega, show g.length ≤ 1000 by have := nodup_len hg hb; omega, hb⟩, ?_⟩
  · have e0 : (fun k => y * ((List.range n).map fun _ => (0 : Int)).getD k 0) = fun _ => 0 := by
      funext k
      have : ((List.range n).map fun _ => (0 : Int)).getD k 0 = 0 := by
        rw [List.getD_eq_getElem?_getD, List.getElem?_map]
        cases (List.range n)[k]? <;> rfl
      rw [this, Int.mul_zero]
    show [localD n (ownF xs y ts fun k => y * ((List.range n).map fun _ => (0 : Int)).getD k 0) _, grpD g] = _
    rw [e0]
  obtain ⟨q1, q2⟩ := gain_eq hg hx hl ok ha hy
  trace_state
  all_goals
    rename_i hc
    show Φ _
  · have hc : -500000 < gg n (ownF xs y ts fun _ => 0) (lossF xs y ts fun _ _ => 0) g := hc
    have k : Φ (.leaf (gainD xs ts y g)) := k
    unfold gainD at k
    by_cases z : ts.any (leaves (stepL xs y g)) = true
    · have := q1 z
      omega
    · rw [if_neg z] at k
      rw [← (q2 (by simpa using z)).1] at k
      exact k
  · have hc : ¬ -500000 < gg n (ownF xs y ts fun _ => 0) (lossF xs y ts fun _ _ => 0) g := hc
    have k : Φ (.leaf (gainD xs ts y g)) := k
    unfold gainD at k
    by_cases z : ts.any (leaves (stepL xs y g)) = true
    · rw [if_pos z] at k
      exact k
    · have := q2 (by simpa using z)
      omega
end KT
namespace KT
open PySem PySem.Spec PyProof.Rows L2 DL
theorem getD_neg (ys : List Int) (d : Nat) : (ys.map fun x => -x).getD d 0 = -(ys.getD d 0) := by
  simp only [List.getD_eq_getElem?_getD, List.getElem?_map]
  cases ys[d]? <;> simp
theorem arg_mir (t : Tm) (ys : List Int) : t.mir.arg (ys.map fun x => -x) = -(t.arg ys) := by
  cases t <;> simp only [Tm.mir, Tm.ends, Tm.arg, getD_neg] <;> omega
theorem pulls_mir (t : Tm) : t.mir.pulls = t.pulls := by cases t <;> rfl
theorem force_mir (t : Tm) : t.mir.force = t.force := by cases t <;> rfl
theorem mir_both {n : Nat} {ts : List Tm} (h : TsOk n ts) (ys : List Int) : (ts.map Tm.mir).any (leaves (ys.map fun x => -x)) = ts.any (leaves ys) ∧ costs (ys.map fun x => -x) (ts.map Tm.mir) = costs ys ts := by
  have far : ∀ t ∈ ts, t.mir.far (t.mir.arg (ys.map fun x => -x)) = t.far (t.arg ys) := fun t ht => by
    rw [arg_mir, Tm.far_mir (h t ht).2.1.2.1]
  have e1 : (ts.map Tm.mir).any (leaves (ys.map fun x => -x)) = ts.any (leaves ys) := by
    clear h
    induction ts with
    | nil => rfl
    | cons t r ih =>
      rw [List.map_cons, List.any_cons, List.any_cons, ih fun t ht => far t (List.mem_cons_of_mem _ ht)]
      unfold leaves
      rw [pulls_mir, far t List.mem_cons_self]
  have e2 : costs (ys.map fun x => -x) (ts.map Tm.mir) = costs ys ts := by
    clear h e1
    unfold costs
    induction ts with
    | nil => rfl
    | cons t r ih =>
      have ih := ih fun t ht => far t (List.mem_cons_of_mem _ ht)
      rw [List.map_cons]
      cases hp : t.pulls with
      | true => rw [List.filter_cons_of_pos (by rw [pulls_mir]; exact hp), List.filter_cons_of_pos hp, List.map_cons, List.map_cons, ih, force_mir, far t List.mem_cons_self]
      | false => rw [List.filter_cons_of_neg (by rw [pulls_mir, hp]; decide), List.filter_cons_of_neg (by rw [hp]; decide), ih]
  exact ⟨e1, e2⟩
theorem step_mir (xs : List Int) (w : Int) (g : List Nat) : stepL (xs.map fun x => -x) (-w) g = (stepL xs w g).map fun x => -x := by
  unfold stepL
  rw [List.length_map, List.map_map]
  refine List.map_congr_left fun d _ => ?_
  simp only [Function.comp, getD_neg, Int.neg_mul]
  omega
theorem gain_mir {n : Nat} {xs : List Int} {ts : List Tm} {w : Int} {g : List Nat} (h : TsOk n ts) : gainD (xs.map fun x => -x) (ts.map Tm.mir) (-w) g = gainD xs ts w g := by
  unfold gainD gainC
  rw [step_mir, (mir_both h _).1, (mir_both h _).2, (mir_both h _).2]
theorem step_back {xs : List Int} {w : Int} {g : List Nat} : stepL (stepL xs w g) (-w) g = xs := by
  refine List.ext_getElem (by rw [stepL_len, stepL_len]) fun i h1 h2 => ?_
  have e : ∀ (l : List Int) (h : i < l.length), l[i] = l.getD i 0 := fun l h => by simp [h]
  rw [e _ h1, e _ h2, stepL_get (by rw [stepL_len]; exact h2), stepL_get h2, Int.neg_mul]
  omega
theorem step_nil {xs : List Int} {w : Int} : stepL xs w [] = xs := by
  refine List.ext_getElem (by rw [stepL_len]) fun i h1 h2 => ?_
  have e : ∀ (l : List Int) (h : i < l.length), l[i] = l.getD i 0 := fun l h => by simp [h]
  rw [e _ h1, e _ h2, stepL_get h2]
  simp
theorem gain_nil {xs : List Int} {ts : List Tm} {w : Int} (h : ts.any (leaves xs) = false) : gainD xs ts w [] = .int 0 := by
  unfold gainD gainC
  rw [step_nil, h, if_neg (by decide), Int.sub_self]
theorem gain_back_eq {xs : List Int} {ts : List Tm} {w : Int} {g : List Nat} (h : ts.any (leaves xs) = false) : gainD (stepL xs w g) ts (-w) g = .int (-(gainC xs ts w g)) := by
  unfold gainD gainC
  rw [step_back, h, if_neg (by decide)]
  congr 1
  omega
theorem costs_four {P Q R S : List Int} : ∀ {ts : List Tm}, (∀ t ∈ ts, 0 ≤ t.force ∧ t.low ≤ t.high ∧ t.far (t.arg P) + t.far (t.arg Q) ≤ t.far (t.arg R) + t.far (t.arg S)) →
    ts.any (leaves R) = false → ts.any (leaves S) = false → ts.any (leaves P) = false ∧ ts.any (leaves Q) = false ∧ (costs P ts).sum + (costs Q ts).sum ≤ (costs R ts).sum + (costs S ts).sum
  | [], _, _, _ => by simp [costs]
  | t :: ts, h, a, b => by
    rw [List.any_cons, Bool.or_eq_false_iff] at a b
    obtain ⟨i1, i2, i3⟩ := costs_four (fun u hu => h u (List.mem_cons_of_mem _ hu)) a.2 b.2
    obtain ⟨f, l, q⟩ := h t List.mem_cons_self
    have nP := Tm.far_nn l (t.arg P)
    have nQ := Tm.far_nn l (t.arg Q)
    have nR := Tm.far_nn l (t.arg R)
    have nS := Tm.far_nn l (t.arg S)
    rw [List.any_cons, List.any_cons, i1, i2, Bool.or_false, Bool.or_false, costs_cons, costs_cons, costs_cons, costs_cons]
    cases hp : t.pulls with
    | true =>
      have m := Int.mul_le_mul_of_nonneg_left q f
      rw [Int.mul_add, Int.mul_add] at m
      simp only [if_true]
      refine ⟨by simp [leaves, hp], by simp [leaves, hp], by omega⟩
    | false =>
      have zR : ¬ 0 < t.far (t.arg R) := fun z => by rw [leaves_iff.mpr ⟨hp, z⟩] at a; cases a.1
      have zS : ¬ 0 < t.far (t.arg S) := fun z => by rw [leaves_iff.mpr ⟨hp, z⟩] at b; cases b.1
      have zP : ¬ 0 < t.far (t.arg P) := by omega
      have zQ : ¬ 0 < t.far (t.arg Q) := by omega
      refine ⟨by simp [leaves, hp, zP], by simp [leaves, hp, zQ], by simp; omega⟩
theorem four_shift {t : Tm} (hl : t.low ≤ t.high) {a p q r s w : Int} (hw : w = 1 ∨ w = -1) (e : p + q = r + s) (b : (r ≤ p ∧ r ≤ q ∧ p ≤ s ∧ q ≤ s) ∨ (s ≤ p ∧ s ≤ q ∧ p ≤ r ∧ q ≤ r)) :
    t.far (a + w * p) + t.far (a + w * q) ≤ t.far (a + w * r) + t.far (a + w * s) := by
  have k1 : ∀ a b c d : Int, a + d = b + c → a ≤ b → a ≤ c → b ≤ d → c ≤ d → t.far b + t.far c ≤ t.far a + t.far d := fun _ _ _ _ => Tm.far_conv hl
  have k2 : ∀ a b c d : Int, a + d = b + c → a ≤ b → a ≤ c → b ≤ d → c ≤ d → t.far b + t.far c ≤ t.far d + t.far a := fun a b c d e h1 h2 h3 h4 => by have := k1 a b c d e h1 h2 h3 h4; omega
  rcases hw with rfl | rfl
  · rcases b with b | b
    · exact k1 _ _ _ _ (by omega) (by omega) (by omega) (by omega) (by omega)
    · exact k2 _ _ _ _ (by omega) (by omega) (by omega) (by omega) (by omega)
  · rcases b with b | b
    · exact k2 _ _ _ _ (by omega) (by omega) (by omega) (by omega) (by omega)
    · exact k1 _ _ _ _ (by omega) (by omega) (by omega) (by omega) (by omega)
theorem chi_01 (g : List Nat) (d : Nat) : 0 ≤ chi g d ∧ chi g d ≤ 1 := by unfold chi; split <;> omega
theorem chi_max {A B S : List Nat} (h : ∀ d, d ∈ S ↔ d ∈ A ∨ d ∈ B) (d : Nat) : chi S d = max (chi A d) (chi B d) := by
  unfold chi
  simp only [h]
  by_cases h1 : d ∈ A <;> by_cases h2 : d ∈ B <;> simp [h1, h2] <;> omega
theorem chi_min {A B S : List Nat} (h : ∀ d, d ∈ S ↔ d ∈ A ∧ d ∈ B) (d : Nat) : chi S d = min (chi A d) (chi B d) := by
  unfold chi
  simp only [h]
  by_cases h1 : d ∈ A <;> by_cases h2 : d ∈ B <;> simp [h1, h2] <;> omega
theorem chi_sub {A P T : List Nat} (hp : ∀ d ∈ P, d ∈ A) (h : ∀ d, d ∈ T ↔ d ∈ A ∧ d ∉ P) (d : Nat) : chi T d = chi A d - chi P d ∧ chi P d ≤ chi A d := by
  unfold chi
  simp only [h]
  have := hp d
  by_cases h1 : d ∈ A <;> by_cases h2 : d ∈ P <;> simp_all
theorem gain_pair {n : Nat} {xs : List Int} {ts : List Tm} {w : Int} {A B S C : List Nat} (hx : xs.length = n) (h : TsOk n ts) (hw : w = 1 ∨ w = -1) (hS : ∀ d, d ∈ S ↔ d ∈ A ∨ d ∈ B) (hC : ∀ d, d ∈ C ↔ d ∈ A ∧ d ∈ B)
    (a1 : ts.any (leaves (stepL xs w A)) = false) (b1 : ts.any (leaves (stepL xs w B)) = false) :
    ts.any (leaves (stepL xs w S)) = false ∧ ts.any (leaves (stepL xs w C)) = false ∧ gainC xs ts w A + gainC xs ts w B ≤ gainC xs ts w S + gainC xs ts w C := by
  have key : ∀ t ∈ ts, 0 ≤ t.force ∧ t.low ≤ t.high ∧ t.far (t.arg (stepL xs w S)) + t.far (t.arg (stepL xs w C)) ≤ t.far (t.arg (stepL xs w A)) + t.far (t.arg (stepL xs w B)) := fun t ht => by
    have ok := h t ht
    have hin : t.In xs.length := by rw [hx]; exact ok.1
    refine ⟨(ok.force_le (by decide)).1, ok.2.1.2.1, ?_⟩
    rw [Tm.arg_step hin, Tm.arg_step hin, Tm.arg_step hin, Tm.arg_step hin]
    refine four_shift ok.2.1.2.1 hw ?_ ?_ <;>
    (cases t with
    | stop d l u => have := chi_max hS d; have := chi_min hC d; simp only [Tm.shift]; omega
    | wish d l u f => have := chi_max hS d; have := chi_min hC d; simp only [Tm.shift]; omega
    | bar d o l u => have := chi_max hS d; have := chi_min hC d; have := chi_max hS o; have := chi_min hC o; have := chi_01 A d; have := chi_01 B d; have := chi_01 A o; have := chi_01 B o; simp only [Tm.shift]; omega
    | tie d o l u f => have := chi_max hS d; have := chi_min hC d; have := chi_max hS o; have := chi_min hC o; have := chi_01 A d; have := chi_01 B d; have := chi_01 A o; have := chi_01 B o; simp only [Tm.shift]; omega)
  obtain ⟨c1, c2, c3⟩ := costs_four key a1 b1
  unfold gainC
  exact ⟨c1, c2, by omega⟩
theorem gain_back {n : Nat} {xs : List Int} {ts : List Tm} {w : Int} {A P T : List Nat} (hx : xs.length = n) (h : TsOk n ts) (hw : w = 1 ∨ w = -1) (hP : ∀ d ∈ P, d ∈ A) (hT : ∀ d, d ∈ T ↔ d ∈ A ∧ d ∉ P)
    (a1 : ts.any (leaves (stepL xs w A)) = false) (b1 : ts.any (leaves (stepL xs (-w) P)) = false) :
    ts.any (leaves (stepL xs w T)) = false ∧ gainC xs ts w A + gainC xs ts (-w) P ≤ gainC xs ts w T := by
  have key : ∀ t ∈ ts, 0 ≤ t.force ∧ t.low ≤ t.high ∧ t.far (t.arg xs) + t.far (t.arg (stepL xs w T)) ≤ t.far (t.arg (stepL xs w A)) + t.far (t.arg (stepL xs (-w) P)) := fun t ht => by
    have ok := h t ht
    have hin : t.In xs.length := by rw [hx]; exact ok.1
    refine ⟨(ok.force_le (by decide)).1, ok.2.1.2.1, ?_⟩
    rw [Tm.arg_step hin, Tm.arg_step hin, Tm.arg_step hin]
    have four := four_shift (t := t) (a := t.arg xs) (p := 0) (q := t.shift T) (r := t.shift A) (s := -(t.shift P)) ok.2.1.2.1 hw
    rw [Int.mul_zero, Int.add_zero, Int.mul_neg, ← Int.neg_mul] at four
    refine four ?_ ?_ <;>
    (cases t with
    | stop d l u => have := chi_sub hP hT d; have := chi_01 A d; have := chi_01 P d; simp only [Tm.shift]; omega
    | wish d l u f => have := chi_sub hP hT d; have := chi_01 A d; have := chi_01 P d; simp only [Tm.shift]; omega
    | bar d o l u => have := chi_sub hP hT d; have := chi_01 A d; have := chi_01 P d; have := chi_sub hP hT o; have := chi_01 A o; have := chi_01 P o; simp only [Tm.shift]; omega
    | tie d o l u f => have := chi_sub hP hT d; have := chi_01 A d; have := chi_01 P d; have := chi_sub hP hT o; have := chi_01 A o; have := chi_01 P o; simp only [Tm.shift]; omega)
  obtain ⟨c1, c2, c3⟩ := costs_four key a1 b1
  unfold gainC
  exact ⟨c2, by omega⟩
end KT
namespace KT
open PySem PySem.Spec PyProof.Rows L2 DL
def topS (i : Nat) : Stmt := PySem.Challenge.pw_mostpulled_k25_whole_gains_of_two_groups.main.body.getD i (.Pass ⟨0, 0, 0, 0⟩)
abbrev s_is_pulling : Stmt := topS 6
abbrev s_other_of : Stmt := topS 7
abbrev s_ends_of : Stmt := topS 8
abbrev s_force_of : Stmt := topS 9
abbrev s_argument : Stmt := topS 10
abbrev s_distance : Stmt := topS 11
abbrev s_with_ends : Stmt := topS 12
abbrev s_mirrored : Stmt := topS 13
abbrev s_need_allowed : Stmt := topS 17
abbrev s_growth : Stmt := topS 18
abbrev s_local_gains : Stmt := topS 19
abbrev s_group_gain : Stmt := topS 20
abbrev s_no_hands : Stmt := topS 21
abbrev s_gain : Stmt := topS 22
abbrev s_is_integer : Stmt := topS 27
abbrev s_is_between : Stmt := topS 28
abbrev s_is_value : Stmt := topS 29
abbrev s_is_force : Stmt := topS 30
abbrev s_is_term : Stmt := topS 31
abbrev s_law_bag : Stmt := topS 37
abbrev s_law_take : Stmt := topS 38
abbrev s_law_stepped : Stmt := topS 39
abbrev s_law_number : Stmt := topS 40
abbrev s_law_standing : Stmt := topS 41
abbrev s_law_range : Stmt := topS 42
abbrev s_law_term : Stmt := topS 43
abbrev s_law_terms : Stmt := topS 44
abbrev s_law_or_none : Stmt := topS 45
abbrev s_law_pair_right : Stmt := topS 46
abbrev s_law_back_right : Stmt := topS 47
abbrev s_law : Stmt := topS 48
abbrev s_Board_init_ : Stmt := inClass (topS 35) 0
abbrev s_Board_size : Stmt := inClass (topS 35) 2
abbrev s_Board_terms : Stmt := inClass (topS 35) 3
abbrev s_Board_left : Stmt := inClass (topS 35) 4
abbrev s_Board_mirrored : Stmt := inClass (topS 35) 9
def c_is_pulling : Cn := { toCt := ⟨n_is_pulling, defScope s_is_pulling, defScope s_is_pulling⟩, fn := [], gl := [], bs := [] }
theorem sc_is_pulling : FnScope n_is_pulling ["term"] (defScope s_is_pulling) := ⟨rfl, rfl, rfl, by decide +kernel, rfl, by decide +kernel, by decide +kernel⟩
theorem ck_is_pulling : okB c_is_pulling b_is_pulling (defBody s_is_pulling) = true := by decide +kernel
def c_other_of : Cn := { toCt := ⟨n_other_of, defScope s_other_of, defScope s_other_of⟩, fn := [], gl := [], bs := [] }
theorem sc_other_of : FnScope n_other_of ["term"] (defScope s_other_of) := ⟨rfl, rfl, rfl, by decide +kernel, rfl, by decide +kernel, by decide +kernel⟩
theorem ck_other_of : okB c_other_of b_other_of (defBody s_other_of) = true := by decide +kernel
def c_ends_of : Cn := { toCt := ⟨n_ends_of, defScope s_ends_of, defScope s_ends_of⟩, fn := [], gl := [], bs := [] }
theorem sc_ends_of : FnScope n_ends_of ["term"] (defScope s_ends_of) := ⟨rfl, rfl, rfl, by decide +kernel, rfl, by decide +kernel, by decide +kernel⟩
theorem ck_ends_of : okB c_ends_of b_ends_of (defBody s_ends_of) = true := by decide +kernel
def c_force_of : Cn := { toCt := ⟨n_force_of, defScope s_force_of, defScope s_force_of⟩, fn := [], gl := [], bs := [] }
theorem sc_force_of : FnScope n_force_of ["term"] (defScope s_force_of) := ⟨rfl, rfl, rfl, by decide +kernel, rfl, by decide +kernel, by decide +kernel⟩
theorem ck_force_of : okB c_force_of b_force_of (defBody s_force_of) = true := by decide +kernel
def c_argument : Cn := { toCt := ⟨n_argument, defScope s_argument, defScope s_argument⟩, fn := ["other_of"], gl := [], bs := [] }
theorem sc_argument : FnScope n_argument ["term", "standing"] (defScope s_argument) := ⟨rfl, rfl, rfl, by decide +kernel, rfl, by decide +kernel, by decide +kernel⟩
theorem ck_argument : okB c_argument b_argument (defBody s_argument) = true := by decide +kernel
def c_distance : Cn := { toCt := ⟨n_distance, defScope s_distance, defScope s_distance⟩, fn := ["ends_of"], gl := [], bs := ["max"] }
theorem sc_distance : FnScope n_distance ["term", "argument"] (defScope s_distance) := ⟨rfl, rfl, rfl, by decide +kernel, rfl, by decide +kernel, by decide +kernel⟩
theorem ck_distance : okB c_distance b_distance (defBody s_distance) = true := by decide +kernel
def c_with_ends : Cn := { toCt := ⟨n_with_ends, defScope s_with_ends, defScope s_with_ends⟩, fn := [], gl := [], bs := [] }
theorem sc_with_ends : FnScope n_with_ends ["term", "low", "high"] (defScope s_with_ends) := ⟨rfl, rfl, rfl, by decide +kernel, rfl, by decide +kernel, by decide +kernel⟩
theorem ck_with_ends : okB c_with_ends b_with_ends (defBody s_with_ends) = true := by decide +kernel
def c_mirrored : Cn := { toCt := ⟨n_mirrored, defScope s_mirrored, defScope s_mirrored⟩, fn := ["ends_of", "with_ends"], gl := [], bs := [] }
theorem sc_mirrored : FnScope n_mirrored ["term"] (defScope s_mirrored) := ⟨rfl, rfl, rfl, by decide +kernel, rfl, by decide +kernel, by decide +kernel⟩
theorem ck_mirrored : okB c_mirrored b_mirrored (defBody s_mirrored) = true := by decide +kernel
def c_need_allowed : Cn := { toCt := ⟨n_need_allowed, defScope s_need_allowed, defScope s_need_allowed⟩, fn := [], gl := [], bs := [], ms := [(0, "left")] }
theorem sc_need_allowed : FnScope n_need_allowed ["board", "standing"] (defScope s_need_allowed) := ⟨rfl, rfl, rfl, by decide +kernel, rfl, by decide +kernel, by decide +kernel⟩
theorem ck_need_allowed : okB c_need_allowed b_need_allowed (defBody s_need_allowed) = true := by decide +kernel
def c_growth : Cn := { toCt := ⟨n_growth, defScope s_growth, defScope s_growth⟩, fn := ["is_pulling", "distance", "force_of"], gl := ["BLOCK"], bs := [] }
theorem sc_growth : FnScope n_growth ["term", "begin", "by"] (defScope s_growth) := ⟨rfl, rfl, rfl, by decide +kernel, rfl, by decide +kernel, by decide +kernel⟩
theorem ck_growth : okB c_growth b_growth (defBody s_growth) = true := by decide +kernel
def c_local_gains : Cn := { toCt := ⟨n_local_gains, defScope s_local_gains, defScope s_local_gains⟩, fn := ["other_of", "argument", "growth"], gl := [], bs := ["range"], ms := [(0, "terms")], ps := [(0, "size")] }
theorem sc_local_gains : FnScope n_local_gains ["board", "standing", "way", "hands"] (defScope s_local_gains) := ⟨rfl, rfl, rfl, by decide +kernel, rfl, by decide +kernel, by decide +kernel⟩
theorem ck_local_gains : okB c_local_gains b_local_gains (defBody s_local_gains) = true := by decide +kernel
def c_group_gain : Cn := { toCt := ⟨n_group_gain, defScope s_group_gain, defScope s_group_gain⟩, fn := [], gl := [], bs := ["range", "len", "sum"] }
theorem sc_group_gain : FnScope n_group_gain ["local", "group"] (defScope s_group_gain) := ⟨rfl, rfl, rfl, by decide +kernel, rfl, by decide +kernel, by decide +kernel⟩
theorem ck_group_gain : okB c_group_gain b_group_gain (defBody s_group_gain) = true := by decide +kernel
def c_no_hands : Cn := { toCt := ⟨n_no_hands, defScope s_no_hands, defScope s_no_hands⟩, fn := [], gl := [], bs := [], ps := [(0, "size")] }
theorem sc_no_hands : FnScope n_no_hands ["board"] (defScope s_no_hands) := ⟨rfl, rfl, rfl, by decide +kernel, rfl, by decide +kernel, by decide +kernel⟩
theorem ck_no_hands : okB c_no_hands b_no_hands (defBody s_no_hands) = true := by decide +kernel
def c_gain : Cn := { toCt := ⟨n_gain, defScope s_gain, defScope s_gain⟩, fn := ["need_allowed", "group_gain", "local_gains", "no_hands"], gl := ["BLOCK"], bs := [] }
theorem sc_gain : FnScope n_gain ["board", "standing", "way", "group"] (defScope s_gain) := ⟨rfl, rfl, rfl, by decide +kernel, rfl, by decide +kernel, by decide +kernel⟩
theorem ck_gain : okB c_gain b_gain (defBody s_gain) = true := by decide +kernel
def c_is_integer : Cn := { toCt := ⟨n_is_integer, defScope s_is_integer, defScope s_is_integer⟩, fn := [], gl := [], bs := ["isinstance", "bool", "int"] }
theorem sc_is_integer : FnScope n_is_integer ["thing"] (defScope s_is_integer) := ⟨rfl, rfl, rfl, by decide +kernel, rfl, by decide +kernel, by decide +kernel⟩
theorem ck_is_integer : okB c_is_integer b_is_integer (defBody s_is_integer) = true := by decide +kernel
def c_is_between : Cn := { toCt := ⟨n_is_between, defScope s_is_between, defScope s_is_between⟩, fn := ["is_integer"], gl := [], bs := [] }
theorem sc_is_between : FnScope n_is_between ["thing", "low", "high"] (defScope s_is_between) := ⟨rfl, rfl, rfl, by decide +kernel, rfl, by decide +kernel, by decide +kernel⟩
theorem ck_is_between : okB c_is_between b_is_between (defBody s_is_between) = true := by decide +kernel
def c_is_value : Cn := { toCt := ⟨n_is_value, defScope s_is_value, defScope s_is_value⟩, fn := ["is_between"], gl := ["FARTHEST"], bs := [] }
theorem sc_is_value : FnScope n_is_value ["thing"] (defScope s_is_value) := ⟨rfl, rfl, rfl, by decide +kernel, rfl, by decide +kernel, by decide +kernel⟩
theorem ck_is_value : okB c_is_value b_is_value (defBody s_is_value) = true := by decide +kernel
def c_is_force : Cn := { toCt := ⟨n_is_force, defScope s_is_force, defScope s_is_force⟩, fn := ["is_between"], gl := ["MOST_FORCE"], bs := [] }
theorem sc_is_force : FnScope n_is_force ["thing"] (defScope s_is_force) := ⟨rfl, rfl, rfl, by decide +kernel, rfl, by decide +kernel, by decide +kernel⟩
theorem ck_is_force : okB c_is_force b_is_force (defBody s_is_force) = true := by decide +kernel
def c_is_term : Cn := { toCt := ⟨n_is_term, defScope s_is_term, defScope s_is_term⟩, fn := ["is_between", "is_value", "is_force"], gl := ["WORDS"], bs := ["isinstance", "str", "len", "tuple", "int", "all"] }
theorem sc_is_term : FnScope n_is_term ["thing", "size"] (defScope s_is_term) := ⟨rfl, rfl, rfl, by decide +kernel, rfl, by decide +kernel, by decide +kernel⟩
theorem ck_is_term : okB c_is_term b_is_term (defBody s_is_term) = true := by decide +kernel
def c_law_stepped : Cn := { toCt := ⟨n_law_stepped, defScope s_law_stepped, defScope s_law_stepped⟩, fn := [], gl := [], bs := ["tuple", "range", "len", "int"] }
theorem sc_law_stepped : FnScope n_law_stepped ["_law_standing_here", "_law_way", "_law_group"] (defScope s_law_stepped) := ⟨rfl, rfl, rfl, by decide +kernel, rfl, by decide +kernel, by decide +kernel⟩
theorem ck_law_stepped : okB c_law_stepped b_law_stepped (defBody s_law_stepped) = true := by decide +kernel
def c_law_number : Cn := { toCt := ⟨n_law_number, defScope s_law_number, defScope s_law_number⟩, fn := ["_law_take"], gl := [], bs := [] }
theorem sc_law_number : FnScope n_law_number ["_law_bag_here", "_law_scale"] (defScope s_law_number) := ⟨rfl, rfl, rfl, by decide +kernel, rfl, by decide +kernel, by decide +kernel⟩
theorem ck_law_number : okB c_law_number b_law_number (defBody s_law_number) = true := by decide +kernel
def c_law_standing : Cn := { toCt := ⟨n_law_standing, defScope s_law_standing, defScope s_law_standing⟩, fn := ["_law_take", "_law_number"], gl := [], bs := ["tuple", "range"] }
theorem sc_law_standing : FnScope n_law_standing ["_law_bag_here", "_law_size", "_law_scale"] (defScope s_law_standing) := ⟨rfl, rfl, rfl, by decide +kernel, rfl, by decide +kernel, by decide +kernel⟩
theorem ck_law_standing : okB c_law_standing b_law_standing (defBody s_law_standing) = true := by decide +kernel
def c_law_range : Cn := { toCt := ⟨n_law_range, defScope s_law_range, defScope s_law_range⟩, fn := ["_law_number", "_law_take"], gl := [], bs := ["int", "max", "min"] }
theorem sc_law_range : FnScope n_law_range ["_law_bag_here", "_law_value", "_law_scale", "_law_inside"] (defScope s_law_range) := ⟨rfl, rfl, rfl, by decide +kernel, rfl, by decide +kernel, by decide +kernel⟩
theorem ck_law_range : okB c_law_range b_law_range (defBody s_law_range) = true := by decide +kernel
def c_law_term : Cn := { toCt := ⟨n_law_term, defScope s_law_term, defScope s_law_term⟩, fn := ["_law_take", "_law_range"], gl := [], bs := ["len"] }
theorem sc_law_term : FnScope n_law_term ["_law_bag_here", "_law_standing_here", "_law_scale", "_law_most", "_law_stops"] (defScope s_law_term) := ⟨rfl, rfl, rfl, by decide +kernel, rfl, by decide +kernel, by decide +kernel⟩
theorem ck_law_term : okB c_law_term b_law_term (defBody s_law_term) = true := by decide +kernel
def c_law_terms : Cn := { toCt := ⟨n_law_terms, defScope s_law_terms, defScope s_law_terms⟩, fn := ["_law_take", "_law_term"], gl := [], bs := ["range"] }
theorem sc_law_terms : FnScope n_law_terms ["_law_bag_here", "_law_standing_here", "_law_scale", "_law_many", "_law_stops"] (defScope s_law_terms) := ⟨rfl, rfl, rfl, by decide +kernel, rfl, by decide +kernel, by decide +kernel⟩
theorem ck_law_terms : okB c_law_terms b_law_terms (defBody s_law_terms) = true := by decide +kernel
abbrev n_law_or_none : List Str := ["_law_board", "_law_standing_here", "_law_way", "_law_group"]
def c_law_or_none : Cn := { toCt := ⟨n_law_or_none, defScope s_law_or_none, defScope s_law_or_none⟩, fn := ["gain"], gl := [], bs := [] }
def b_law_or_none : DL.B := (.ret (.ife (.cmp .eq (.nm 3) (.lst .nil)) (.int 0) (.call 0 (.cons (.nm 0) (.cons (.nm 1) (.cons (.nm 2) (.cons (.nm 3) .nil)))))) .nil)
theorem sc_law_or_none : FnScope n_law_or_none ["_law_board", "_law_standing_here", "_law_way", "_law_group"] (defScope s_law_or_none) := ⟨rfl, rfl, rfl, by decide +kernel, rfl, by decide +kernel, by decide +kernel⟩
theorem ck_law_or_none : okB c_law_or_none b_law_or_none (defBody s_law_or_none) = true := by decide +kernel
abbrev n_law_pair_right : List Str := ["_law_board", "_law_standing_here", "_law_way", "_law_one", "_law_other", "_law_gains", "_law_more", "_law_both", "_law_common", "_law_group", "_law_dial"]
def c_law_pair_right : Cn := { toCt := ⟨n_law_pair_right, defScope s_law_pair_right, defScope s_law_pair_right⟩, fn := ["_law_or_none"], gl := [], bs := ["sorted", "set", "sum"] }
def b_law_pair_right : DL.B := (.asgLc 5 [9] (.nm 9) (.sq (.tup (.cons (.nm 3) (.cons (.nm 4) .nil)))) .nop (.call 0 (.cons (.nm 0) (.cons (.nm 1) (.cons (.nm 2) (.cons (.nm 9) .nil))))) (.fz 5 (.ite (.cmp .inn .non (.nm 5)) (.ret (.bl true) .nil) .nil (.par2 7 8 (.srtS (.bin .add (.nm 3) (.nm 4))) (.lc [10] (.nm 10) (.sq (.nm 3)) (.one (.cmp .inn (.nm 10) (.nm 4))) (.nm 10)) (.fz 8 (.fz 7 (.asgLc 6 [9] (.nm 9) (.sq (.tup (.cons (.nm 7) (.cons (.nm 8) .nil)))) .nop (.call 0 (.cons (.nm 0) (.cons (.nm 1) (.cons (.nm 2) (.cons (.nm 9) .nil))))) (.fz 6 (.ret (.and (.cmp .nin .non (.nm 6)) (.one (.cmp .ge (.blt .sum (.cons (.nm 6) .nil)) (.blt .sum (.cons (.nm 5) .nil))))) .nil)))))))))
theorem sc_law_pair_right : FnScope n_law_pair_right ["_law_board", "_law_standing_here", "_law_way", "_law_one", "_law_other"] (defScope s_law_pair_right) := ⟨rfl, rfl, rfl, by decide +kernel, rfl, by decide +kernel, by decide +kernel⟩
theorem ck_law_pair_right : okB c_law_pair_right b_law_pair_right (defBody s_law_pair_right) = true := by decide +kernel
abbrev n_law_back_right : List Str := ["_law_board", "_law_standing_here", "_law_way", "_law_one", "_law_part", "_law_there", "_law_later", "_law_ahead", "_law_tail", "_law_back", "_law_dial"]
def c_law_back_right : Cn := { toCt := ⟨n_law_back_right, defScope s_law_back_right, defScope s_law_back_right⟩, fn := ["gain", "_law_stepped", "_law_or_none"], gl := [], bs := [] }
def b_law_back_right : DL.B := (.asg (.nm 5) (.call 0 (.cons (.nm 0) (.cons (.nm 1) (.cons (.nm 2) (.cons (.nm 3) .nil))))) (.ite (.cmp .isN (.nm 5) .non) (.ret (.bl true) .nil) .nil (.asg (.nm 6) (.call 1 (.cons (.nm 1) (.cons (.nm 2) (.cons (.nm 3) .nil)))) (.ite (.cmp .ne (.call 0 (.cons (.nm 0) (.cons (.nm 6) (.cons (.neg (.nm 2)) (.cons (.nm 3) .nil))))) (.neg (.nm 5))) (.ret (.bl false) .nil) .nil (.par2 8 9 (.lc [10] (.nm 10) (.sq (.nm 3)) (.one (.cmp .nin (.nm 10) (.nm 4))) (.nm 10)) (.call 2 (.cons (.nm 0) (.cons (.nm 1) (.cons (.neg (.nm 2)) (.cons (.nm 4) .nil))))) (.fz 8 (.asg (.nm 7) (.call 2 (.cons (.nm 0) (.cons (.nm 1) (.cons (.nm 2) (.cons (.nm 8) .nil))))) (.ret (.or (.cmp .isN (.nm 9) .non) (.one (.and (.cmp .notN (.nm 7) .non) (.one (.cmp .le (.bin .add (.nm 5) (.nm 9)) (.nm 7)))))) .nil))))))))
theorem sc_law_back_right : FnScope n_law_back_right ["_law_board", "_law_standing_here", "_law_way", "_law_one", "_law_part"] (defScope s_law_back_right) := ⟨rfl, rfl, rfl, by decide +kernel, rfl, by decide +kernel, by decide +kernel⟩
theorem ck_law_back_right : okB c_law_back_right b_law_back_right (defBody s_law_back_right) = true := by decide +kernel
abbrev n_law : List Str := ["_law_script", "_law_bag_here", "_law_k", "_law_size", "_law_standing_here", "_law_board", "_law_turn", "_law_mirror", "_law_turned", "_law_way", "_law_part", "_law_one", "_law_other", "_law_dial", "_law_setting"]
def c_law : Cn := { toCt := ⟨n_law, defScope s_law, defScope s_law⟩, fn := ["_law_bag", "_law_take", "_law_standing", "_law_terms", "_law_pair_right", "_law_back_right", "gain"], gl := [], bs := ["range", "tuple"], ms := [(0, "mirrored")], nw := ["Board"] }
def b_law_1 : DL.B := (.ite (.cmp .ne (.call 6 (.cons (.nm 7) (.cons (.nm 8) (.cons (.neg (.nm 9)) (.cons (.nm 11) .nil))))) (.call 6 (.cons (.nm 5) (.cons (.nm 4) (.cons (.nm 9) (.cons (.nm 11) .nil)))))) (.ret (.bl false) .nil) .nil .nil)
def b_law_2 : DL.B := (.asgLc 10 [13] (.nm 13) (.sq (.nm 11)) (.one (.cmp .eq (.call 1 (.cons (.nm 1) (.cons (.int 2) .nil))) (.int 0))) (.nm 13) (.fz 10 (.ite (.not (.val (.call 5 (.cons (.nm 5) (.cons (.nm 4) (.cons (.nm 9) (.cons (.nm 11) (.cons (.nm 10) .nil)))))))) (.ret (.bl false) .nil) .nil b_law_1)))
def b_law_3 : DL.B := (.asg (.nm 9) (.ix (.lst (.cons (.int 1) (.cons (.neg (.int 1)) .nil))) (.call 1 (.cons (.nm 1) (.cons (.int 2) .nil)))) (.fgt 2 (.unp2 11 12 (.lc [2] (.nm 2) (.rng (.cons (.int 2) .nil)) .nop (.orv (.lc [13] (.nm 13) (.rng (.cons (.nm 3) .nil)) (.one (.cmp .eq (.call 1 (.cons (.nm 1) (.cons (.int 2) .nil))) (.int 0))) (.nm 13)) (.one (.lst (.cons (.int 0) .nil))))) (.fz 11 (.fz 12 (.ite (.not (.val (.call 4 (.cons (.nm 5) (.cons (.nm 4) (.cons (.nm 9) (.cons (.nm 11) (.cons (.nm 12) .nil)))))))) (.ret (.bl false) .nil) .nil b_law_2))))))
def b_law_4 : DL.B := (.asg (.nm 3) (.bin .add (.int 1) (.call 1 (.cons (.nm 1) (.cons (.int 8) .nil)))) (.asg (.nm 4) (.call 2 (.cons (.nm 1) (.cons (.nm 3) (.cons (.int 9) .nil)))) (.asg (.nm 5) (.new 0 (.cons (.nm 3) (.cons (.call 3 (.cons (.nm 1) (.cons (.nm 4) (.cons (.ix (.lst (.cons (.int 2) (.cons (.int 6) .nil))) (.call 1 (.cons (.nm 1) (.cons (.int 2) .nil)))) (.cons (.int 24) (.cons (.bl true) .nil)))))) .nil))) (.par2 7 8 (.mt0 0 0 (.nm 5)) (.blt .tuple (.cons (.lc [14] (.nm 14) (.sq (.nm 4)) .nop (.neg (.nm 14))) .nil)) (.for_ (.nm 6) (.rng (.cons (.int 6) .nil)) b_law_3 .nil)))))
def b_law : DL.B := (.asg (.nm 1) (.call 0 (.cons (.nm 0) .nil)) (.for_ (.nm 2) (.rng (.cons (.int 5) .nil)) b_law_4 (.ret (.bl true) .nil)))
theorem sc_law : FnScope n_law ["_law_script"] (defScope s_law) := ⟨rfl, rfl, rfl, by decide +kernel, rfl, by decide +kernel, by decide +kernel⟩
theorem ck_law : okB c_law b_law (defBody s_law) = true := by decide +kernel
def c_Board_init_ : Cn := { toCt := ⟨n_Board_init_, defScope s_Board_init_, defScope s_Board_init_⟩, fn := ["is_between", "is_term"], gl := ["MOST_DIALS", "MOST_TERMS"], bs := ["all", "len", "isinstance", "list"] }
theorem sc_Board_init_ : FnScope n_Board_init_ ["self", "size", "terms"] (defScope s_Board_init_) := ⟨rfl, rfl, rfl, by decide +kernel, rfl, by decide +kernel, by decide +kernel⟩
theorem ck_Board_init_ : okInit c_Board_init_ ts_Board_init_ fs_Board_init_ (defBody s_Board_init_) = true := by decide +kernel
def c_Board_size : Cn := { toCt := ⟨n_Board_size, defScope s_Board_size, defScope s_Board_size⟩, fn := [], gl := [], bs := [], fd := [(0, 0, "dial_count")] }
theorem sc_Board_size : FnScope n_Board_size ["self"] (defScope s_Board_size) := ⟨rfl, rfl, rfl, by decide +kernel, rfl, by decide +kernel, by decide +kernel⟩
theorem ck_Board_size : okB c_Board_size b_Board_size (defBody s_Board_size) = true := by decide +kernel
def c_Board_terms : Cn := { toCt := ⟨n_Board_terms, defScope s_Board_terms, defScope s_Board_terms⟩, fn := [], gl := [], bs := ["list"], fd := [(0, 1, "term_list")] }
theorem sc_Board_terms : FnScope n_Board_terms ["self"] (defScope s_Board_terms) := ⟨rfl, rfl, rfl, by decide +kernel, rfl, by decide +kernel, by decide +kernel⟩
theorem ck_Board_terms : okB c_Board_terms b_Board_terms (defBody s_Board_terms) = true := by decide +kernel
def c_Board_left : Cn := { toCt := ⟨n_Board_left, defScope s_Board_left, defScope s_Board_left⟩, fn := ["distance", "argument", "is_pulling"], gl := [], bs := ["enumerate"], fd := [(0, 1, "term_list")] }
theorem sc_Board_left : FnScope n_Board_left ["self", "standing"] (defScope s_Board_left) := ⟨rfl, rfl, rfl, by decide +kernel, rfl, by decide +kernel, by decide +kernel⟩
theorem ck_Board_left : okB c_Board_left b_Board_left (defBody s_Board_left) = true := by decide +kernel
def c_Board_mirrored : Cn := { toCt := ⟨n_Board_mirrored, defScope s_Board_mirrored, defScope s_Board_mirrored⟩, fn := ["mirrored_terms"], gl := [], bs := [], nw := ["Board"], fd := [(0, 1, "term_list"), (0, 0, "dial_count")] }
theorem sc_Board_mirrored : FnScope n_Board_mirrored ["self"] (defScope s_Board_mirrored) := ⟨rfl, rfl, rfl, by decide +kernel, rfl, by decide +kernel, by decide +kernel⟩
theorem ck_Board_mirrored : okB c_Board_mirrored b_Board_mirrored (defBody s_Board_mirrored) = true := by decide +kernel
theorem sc_law_take : FnScope takeN ["_law_bag_here", "_law_many"] (defScope s_law_take) := ⟨rfl, rfl, rfl, by decide +kernel, rfl, by decide +kernel, by decide +kernel⟩
theorem sc_law_bag : FnScope bagNm ["_law_script"] (defScope s_law_bag) := ⟨rfl, rfl, rfl, by decide +kernel, rfl, by decide +kernel, by decide +kernel⟩
theorem ck_law_take : okB { toCt := ⟨takeN, defScope s_law_take, defScope s_law_take⟩, fn := [], gl := [], bs := ["len"] } takeB (defBody s_law_take) = true := by decide +kernel
theorem ck_law_bag : okB { toCt := ⟨bagNm, defScope s_law_bag, defScope s_law_bag⟩, fn := [], gl := [], bs := ["abs"] } bagB (defBody s_law_bag) = true := by decide +kernel
end KT
namespace KT
open PySem PySem.Spec PyProof.Rows L2 DL
local macro_rules | `(tactic| trace_state) => `(tactic| repeat' first | (with_reducible show w _ _ _ _; first | with_reducible refine w_nm (by with_unfolding_all exact rfl) ?_ | with_reducible refine w_ix ?_ | with_reducible refine w_int ?_ | with_reducible refine w_bin ?_ | with_reducible refine w_cmp ?_ | with_reducible refine w_call (by with_unfolding_all exact rfl) ?_ | with_reducible refine w_blt ?_ | with_reducible refine w_ow (by with_unfolding_all exact rfl) ?_ | with_reducible refine w_tup ?_ | with_reducible refine w_lst ?_ | with_reducible refine w_str ?_ | with_reducible refine w_neg ?_ | with_reducible refine w_ife ?_ | with_reducible refine w_sl ?_ | with_reducible refine w_and ?_ | with_reducible refine w_one ?_ | with_reducible refine w_or ?_ | with_reducible refine w_orv ?_ | with_reducible refine w_srtS ?_ | with_reducible refine w_not ?_ | with_reducible refine w_bl ?_ | with_reducible refine w_non ?_ | with_reducible refine w_gl (by with_unfolding_all exact rfl) ?_ | with_reducible refine w_chn ?_ | with_reducible refine w_lc (by with_unfolding_all exact rfl) ?_ | with_reducible refine w_fld ?_ | with_reducible refine w_mth (by with_unfolding_all exact rfl) ?_ | with_reducible refine w_mt0 (by with_unfolding_all exact rfl) ?_ | with_reducible refine w_prp (by with_unfolding_all exact rfl) ?_ | with_reducible refine w_new (by with_unfolding_all exact rfl) ?_ | with_reducible refine w_isi ?_ | with_reducible refine w_eqO (by with_unfolding_all exact rfl) ?_ | with_reducible refine w_isC ?_ | with_reducible refine w_lr1 ?_ | with_reducible refine w_lr2 ?_) | (with_reducible show wa _ _ _ _; first | with_reducible refine wa_cons ?_ | with_reducible refine wa_nil ?_) | (with_reducible show wv _ _ _ _; first | with_reducible refine wv_cons ?_ | with_reducible refine wv_nil ?_) | (with_reducible show T.fin _ _; first | with_reducible refine fin_leaf (by with_unfolding_all exact rfl) ?_ | with_reducible refine fin_mk (by with_unfolding_all exact rfl) ?_ | with_reducible refine fin_lst (by with_unfolding_all exact rfl) ?_ | with_reducible refine fin_tup (by with_unfolding_all exact rfl) ?_) | (with_reducible show And _ _; first | with_reducible refine and_len (by with_unfolding_all exact rfl) ?_) | (with_reducible show frozs _ _ _; first | with_reducible refine fz_nil ?_ | with_reducible refine fz_cons ?_) | (with_reducible show T.froz _ _ _; first | with_reducible refine fz_leaf (by with_unfolding_all exact rfl) ?_ | with_reducible refine fz_lst (by with_unfolding_all exact rfl) (by with_unfolding_all exact rfl) ?_ | with_reducible refine fz_tup (by with_unfolding_all exact rfl) (by with_unfolding_all exact rfl) ?_ | with_reducible refine fz_vw (by with_unfolding_all exact rfl) (by with_unfolding_all exact rfl) ?_) | (with_reducible show ixT _ _ _; first | with_reducible refine ix_lt (by with_unfolding_all exact rfl) (by with_unfolding_all exact rfl) (by with_unfolding_all exact at_getD (by assumption)) ?_ | with_reducible refine ix_lt (by with_unfolding_all exact rfl) (by with_unfolding_all exact rfl) (by with_unfolding_all exact rfl) ?_ | with_reducible refine ix_lst (by with_unfolding_all exact rfl) (by with_unfolding_all exact rfl) (by with_unfolding_all exact rfl) ?_ | with_reducible refine ix_ll (by with_unfolding_all exact rfl) (by with_unfolding_all exact rfl) (by with_unfolding_all exact rfl) ?_ | with_reducible refine ix_vli (by with_unfolding_all exact rfl) (by with_unfolding_all exact rfl) (by with_unfolding_all exact rfl) ?_ | with_reducible refine ix_vll (by with_unfolding_all exact rfl) (by with_unfolding_all exact rfl) (by with_unfolding_all exact rfl) ?_ | with_reducible refine ix_tup (by with_unfolding_all exact rfl) (by with_unfolding_all exact rfl) (by with_unfolding_all exact rfl) ?_ | with_reducible refine ix_vti (by with_unfolding_all exact rfl) (by with_unfolding_all exact rfl) (by with_unfolding_all exact rfl) ?_ | with_reducible refine ix_vlt (by with_unfolding_all exact rfl) (by with_unfolding_all exact rfl) (by with_unfolding_all exact rfl) ?_ | with_reducible refine ix_vtl (by with_unfolding_all exact rfl) (by with_unfolding_all exact rfl) (by with_unfolding_all exact rfl) ?_ | with_reducible refine ix_vls (by with_unfolding_all exact rfl) (by with_unfolding_all exact rfl) (by with_unfolding_all exact rfl) ?_) | (with_reducible show DL.binT _ _ _ _; first | with_reducible refine b_add (by with_unfolding_all exact rfl) (by with_unfolding_all exact rfl) ?_ | with_reducible refine b_sub (by with_unfolding_all exact rfl) (by with_unfolding_all exact rfl) ?_ | with_reducible refine b_mul (by with_unfolding_all exact rfl) (by with_unfolding_all exact rfl) (by with_unfolding_all exact mulR ⟨by decide, by decide⟩) ?_ | with_reducible refine b_mul (by with_unfolding_all exact rfl) (by with_unfolding_all exact rfl) (by with_unfolding_all exact mulL ⟨by decide, by decide⟩) ?_ | with_reducible refine b_mul (by with_unfolding_all exact rfl) (by with_unfolding_all exact rfl) (by with_unfolding_all exact mulL ⟨by omega, by omega⟩) ?_ | with_reducible refine b_mul (by with_unfolding_all exact rfl) (by with_unfolding_all exact rfl) (by with_unfolding_all exact mulR ⟨by omega, by omega⟩) ?_ | with_reducible refine b_mul (by with_unfolding_all exact rfl) (by with_unfolding_all exact rfl) ?_ ?_ | with_reducible refine b_p18 (by with_unfolding_all exact rfl) (by with_unfolding_all exact rfl) ?_ | with_reducible refine b_p9 (by with_unfolding_all exact rfl) (by with_unfolding_all exact rfl) ?_ | with_reducible refine b_p38 (by with_unfolding_all exact rfl) (by with_unfolding_all exact rfl) ?_ | with_reducible refine b_p17 (by with_unfolding_all exact rfl) (by with_unfolding_all exact rfl) ?_ | with_reducible refine b_p40 (by with_unfolding_all exact rfl) (by with_unfolding_all exact rfl) ?_ | with_reducible refine b_p39 (by with_unfolding_all exact rfl) (by with_unfolding_all exact rfl) ?_ | with_reducible refine b_p21 (by with_unfolding_all exact rfl) (by with_unfolding_all exact rfl) ?_ | with_reducible refine b_p20 (by with_unfolding_all exact rfl) (by with_unfolding_all exact rfl) ?_ | with_reducible refine b_p6 (by with_unfolding_all exact rfl) (by with_unfolding_all exact rfl) ?_ | with_reducible refine b_pow (by with_unfolding_all exact rfl) (by with_unfolding_all exact rfl) (by with_unfolding_all decide) ?_ | with_reducible refine b_mod (by with_unfolding_all exact rfl) (by with_unfolding_all exact rfl) (by with_unfolding_all (first | decide | assumption | omega)) ?_ | with_reducible refine b_mod (by with_unfolding_all exact rfl) (by with_unfolding_all exact rfl) ?_ ?_ | with_reducible refine b_fdiv (by with_unfolding_all exact rfl) (by with_unfolding_all exact rfl) (by with_unfolding_all exact ⟨by decide, by decide⟩) ?_ | with_reducible refine b_fdiv (by with_unfolding_all exact rfl) (by with_unfolding_all exact rfl) (by with_unfolding_all exact ⟨by assumption, by assumption⟩) ?_ | with_reducible refine b_fdiv (by with_unfolding_all exact rfl) (by with_unfolding_all exact rfl) ?_ ?_ | with_reducible refine b_catL (by with_unfolding_all exact rfl) (by with_unfolding_all exact rfl) (by with_unfolding_all exact rfl) ?_) | (with_reducible show cmpD _ _ _ _; first | with_reducible refine c_eq (by with_unfolding_all exact rfl) (by with_unfolding_all exact rfl) ?_ | with_reducible refine c_ne (by with_unfolding_all exact rfl) (by with_unfolding_all exact rfl) ?_ | with_reducible refine c_lt (by with_unfolding_all exact rfl) (by with_unfolding_all exact rfl) ?_ | with_reducible refine c_le (by with_unfolding_all exact rfl) (by with_unfolding_all exact rfl) ?_ | with_reducible refine c_gt (by with_unfolding_all exact rfl) (by with_unfolding_all exact rfl) ?_ | with_reducible refine c_ge (by with_unfolding_all exact rfl) (by with_unfolding_all exact rfl) ?_ | with_reducible refine c_nes (by with_unfolding_all exact rfl) (by with_unfolding_all exact rfl) ?_ | with_reducible refine c_eqs (by with_unfolding_all exact rfl) (by with_unfolding_all exact rfl) ?_ | with_reducible refine c_inT (by with_unfolding_all exact rfl) (by with_unfolding_all exact rfl) (by with_unfolding_all (first | exact tb_stop | exact tb_wish | exact tb_bar | exact tb_tie | exact wt_stop | exact wt_wish | exact wt_bar | exact wt_tie)) ?_ | with_reducible refine c_ninT (by with_unfolding_all exact rfl) (by with_unfolding_all exact rfl) (by with_unfolding_all (first | exact w4_stop | exact w4_wish | exact w4_bar | exact w4_tie)) ?_ | with_reducible refine c_isT (by with_unfolding_all exact rfl) (by with_unfolding_all exact rfl) ?_ | with_reducible refine c_isF (by with_unfolding_all exact rfl) (by with_unfolding_all exact rfl) ?_ | with_reducible refine c_notT (by with_unfolding_all exact rfl) (by with_unfolding_all exact rfl) ?_ | with_reducible refine c_notF (by with_unfolding_all exact rfl) (by with_unfolding_all exact rfl) ?_) | (with_reducible show wt _ _ _ _; first | with_reducible refine wt_cmp ?_ | with_reducible refine wt_not ?_ | with_reducible refine wt_val ?_ | with_reducible refine wt_and ?_ | with_reducible refine wt_or ?_ | with_reducible refine wt_one ?_ | with_reducible refine wt_chn ?_) | (with_reducible show @ite _ _ _ _ _; first | with_reducible refine ite_t ?_ | with_reducible refine ite_f ?_ | with_reducible refine ite_nt ?_ | with_reducible refine ite_nf ?_ | with_reducible refine ite_decT (by decide) ?_ | with_reducible refine ite_decF (by decide) ?_ | with_reducible refine ite_dec (fun _ => ?_) (fun _ => ?_) | with_reducible refine ite_ndecT (by with_unfolding_all exact rfl) ?_ | with_reducible refine ite_ndec (fun _ => ?_) (fun _ => ?_)) | (with_reducible show wb _ _ _ _; first | with_reducible refine wb_asg ?_ | with_reducible refine wb_ite ?_ | with_reducible refine wb_ret ?_ | with_reducible refine wb_nil ?_ | with_reducible refine wb_for ?_ | with_reducible refine wb_asgLc (by with_unfolding_all exact rfl) (by with_unfolding_all exact rfl) ?_ | with_reducible refine wb_setix (by with_unfolding_all exact rfl) ?_ | with_reducible refine wb_augix (by with_unfolding_all exact rfl) ?_ | with_reducible refine wb_aug (by with_unfolding_all exact rfl) (by with_unfolding_all exact rfl) ?_ | with_reducible refine wb_fgt ?_ | with_reducible refine wb_unp2 ?_ | with_reducible refine wb_ext (by with_unfolding_all exact rfl) ?_ | with_reducible refine wb_augix2 (by with_unfolding_all exact rfl) ?_ | with_reducible refine wb_ex ?_ | with_reducible refine wb_fz (by with_unfolding_all exact rfl) (by with_unfolding_all exact rfl) ?_ | with_reducible refine wb_pass ?_ | with_reducible refine wb_brk ?_ | with_reducible refine wb_cont ?_ | with_reducible refine wb_retN ?_ | with_reducible refine wb_par3b (by with_unfolding_all decide) (by with_unfolding_all exact rfl) (by with_unfolding_all exact rfl) (by with_unfolding_all exact rfl) ?_ | with_reducible refine wb_par2 (by with_unfolding_all decide) (by with_unfolding_all exact rfl) (by with_unfolding_all exact rfl) ?_ | with_reducible refine wb_app (by with_unfolding_all exact rfl) (by with_unfolding_all (simp; done)) ?_ | with_reducible refine wb_app (by with_unfolding_all exact rfl) ?_ ?_) | (with_reducible show Exists _; first | with_reducible refine bind_nm (by with_unfolding_all exact rfl) ?_ | with_reducible refine bind_pair (by with_unfolding_all exact rfl) (by with_unfolding_all exact rfl) (by with_unfolding_all exact rfl) ?_ | with_reducible refine bind_5 (by with_unfolding_all exact rfl) (by with_unfolding_all exact rfl) ?_ | with_reducible refine ex_int (by with_unfolding_all exact rfl) ?_ | with_reducible refine ex_bl (by with_unfolding_all exact rfl) ?_ | with_reducible refine ex_isT (by with_unfolding_all exact rfl) ?_ | with_reducible refine set_to (by with_unfolding_all exact rfl) (by with_unfolding_all exact rfl) ?_ | with_reducible refine aug_to (by with_unfolding_all exact rfl) (by with_unfolding_all exact rfl) (by with_unfolding_all exact rfl) ?_ | with_reducible refine ex_rg1 (by with_unfolding_all exact rfl) (by with_unfolding_all (unfold RgS; omega)) ?_ | with_reducible refine ex_rg2 (by with_unfolding_all exact rfl) (by with_unfolding_all exact rfl) (by with_unfolding_all (unfold RgS; omega)) ?_) | (with_reducible show bltT _ _ _; first | with_reducible refine l_lens (by with_unfolding_all exact rfl) ?_ | with_reducible refine l_len (by with_unfolding_all exact rfl) ?_ | with_reducible refine l_lentK 4 (by with_unfolding_all exact rfl) (by with_unfolding_all exact rfl) ?_ | with_reducible refine l_lentK 5 (by with_unfolding_all exact rfl) (by with_unfolding_all exact rfl) ?_ | with_reducible refine l_lentK 6 (by with_unfolding_all exact rfl) (by with_unfolding_all exact rfl) ?_ | with_reducible refine l_lent (by with_unfolding_all exact rfl) ?_ | with_reducible refine l_abs (by with_unfolding_all exact rfl) ?_ | with_reducible refine l_max2 (by with_unfolding_all exact rfl) (by with_unfolding_all exact rfl) ?_ | with_reducible refine l_min2 (by with_unfolding_all exact rfl) (by with_unfolding_all exact rfl) ?_ | with_reducible refine l_max3 (by with_unfolding_all exact rfl) (by with_unfolding_all exact rfl) (by with_unfolding_all exact rfl) ?_ | with_reducible refine l_intT (by with_unfolding_all exact rfl) ?_ | with_reducible refine l_intF (by with_unfolding_all exact rfl) ?_ | with_reducible refine l_intD (by with_unfolding_all exact rfl) (fun _ => ?_) (fun _ => ?_)) | (with_reducible show slT _ _ _ _; first | with_reducible refine sl_lt (by with_unfolding_all exact rfl) (by with_unfolding_all exact rfl) ?_) | (with_reducible show tru _ _; first | with_reducible refine t_bl (by with_unfolding_all exact rfl) ?_) | (with_reducible show augD _ _ _ _; first | with_reducible refine a_add (by with_unfolding_all exact rfl) (by with_unfolding_all exact rfl) ?_ | with_reducible refine a_sub (by with_unfolding_all exact rfl) (by with_unfolding_all exact rfl) ?_) | (with_reducible show wo _ _ _ _; first | with_reducible refine wo_nop ?_ | with_reducible refine wo_prt ?_) | (with_reducible show wi _ _ _ _; first | with_reducible refine wi_rng ?_ | with_reducible refine wi_sq ?_ | with_reducible refine wi_zip ?_ | with_reducible refine wi_enm ?_) | (with_reducible show wc _ _ _ _; first | with_reducible refine wc_nop ?_ | with_reducible refine wc_one ?_))
theorem fit_grp (g : List Nat) : (grpD g).Fit := by
  refine ⟨?_, ?_⟩
  · show D.lays _ = true
    rw [D.lays_eq, List.all_eq_true]
    intro x hx
    obtain ⟨t, _, rfl⟩ := List.mem_map.mp hx
    rfl
  · have : D.deps (g.map fun k : Nat => DL.D.int k) ≤ 1 := D.deps_le fun d hd => by
      obtain ⟨t, _, rfl⟩ := List.mem_map.mp hd
      exact Nat.le_of_ble_eq_true rfl
    show D.deps _ + 1 ≤ 60
    omega
theorem fit_gain (xs : List Int) (ts : List Tm) (w : Int) (g : List Nat) : (gainD xs ts w g).Fit := by
  unfold gainD
  split
  · exact ⟨rfl, Nat.le_of_ble_eq_true rfl⟩
  · exact fit_int _
abbrev Ready (n : Nat) (ts : List Tm) (xs : List Int) (y : Int) : Prop := n ≤ 8 ∧ ts.length ≤ 24 ∧ TsOk n ts ∧ xs.length = n ∧ ts.any (leaves xs) = false ∧ (y = 1 ∨ y = -1)
abbrev Grp (n : Nat) (g : List Nat) : Prop := g.Nodup ∧ ∀ d ∈ g, d < n
def F_law_or_none : SpecF := fnF (fun x : Nat × List Tm × List Int × Int × List Nat => [boardD x.1 x.2.1, itup x.2.2.1, .int x.2.2.2.1, grpD x.2.2.2.2])
  (fun x => Ready x.1 x.2.1 x.2.2.1 x.2.2.2.1 ∧ Grp x.1 x.2.2.2.2) (fun x => gainD x.2.2.1 x.2.1 x.2.2.2.1 x.2.2.2.2)
theorem M_law_or_none : Mono F_law_or_none := fnM _ _ _
def S_law_or_none : Sg := { z := true, fs := [F_gain], gs := [] }
theorem W_law_or_none : WOk S_law_or_none n_law_or_none b_law_or_none F_law_or_none 4 := by
  rintro ds Φ ⟨⟨n, ts, xs, y, g⟩, rfl, ⟨⟨hn, hl, ok, hx, ha, hy⟩, hg, hb⟩, k⟩
  refine ⟨rfl, ?_⟩
  have ha : ts.any (leaves xs) = false := ha
  have k : Φ (.leaf (gainD xs ts y g)) := k
  unfold b_law_or_none
  trace_state
  cases g with
  | nil =>
    refine c_eqsame rfl (fit_grp []) ?_
    rw [gain_nil ha] at k
    trace_state
    exact k
  | cons a r =>
    refine c_eqd (fit_grp _) (fit_grp []) ?_
    show (if eqD (grpD (a :: r)) (.lst []) = true then _ else _)
    rw [show eqD (grpD (a :: r)) (.lst []) = false from rfl]
    trace_state
    refine ⟨(n, ts, xs, y, a :: r), rfl, ⟨hn, hl, ok, hx, ha, hy, hg, hb⟩, ?_⟩
    trace_state
    exact k
theorem gain_or (xs : List Int) (ts : List Tm) (y : Int) (A : List Nat) : (ts.any (leaves (stepL xs y A)) = true ∧ gainD xs ts y A = .non) ∨ (ts.any (leaves (stepL xs y A)) = false ∧ gainD xs ts y A = .int (gainC xs ts y A)) := by
  unfold gainD
  by_cases z : ts.any (leaves (stepL xs y A)) = true
  · exact .inl ⟨z, if_pos z⟩
  · exact .inr ⟨by simpa using z, if_neg z⟩
theorem mem_int {d : Nat} {A : List Nat} : ((d : Int) ∈ A.map fun k : Nat => (k : Int)) ↔ d ∈ A := by
  rw [List.mem_map]
  constructor
  · rintro ⟨x, hx, e⟩
    have : x = d := by omega
    rw [← this]; exact hx
  · exact fun h => ⟨d, h, rfl⟩
theorem nat_list {A : List Nat} : ∀ {ns : List Int}, (∀ k ∈ ns, k ∈ A.map fun k : Nat => (k : Int)) → ∃ S : List Nat, ns = S.map fun k : Nat => (k : Int)
  | [], _ => ⟨[], rfl⟩
  | k :: r, h => by
    obtain ⟨S, e⟩ := nat_list fun x hx => h x (List.mem_cons_of_mem _ hx)
    obtain ⟨d, _, e2⟩ := List.mem_map.mp (h k List.mem_cons_self)
    exact ⟨d :: S, by rw [e, List.map_cons, e2]⟩
theorem dat_grp1 (S : List Nat) : (T.lst (S.map fun k : Nat => T.leaf (.int k))).dat = grpD S := by
  rw [T.dat, T.dats_eq, List.map_map]; rfl
theorem dat_grp2 (S : List Nat) : (T.lst ((S.map fun k : Nat => (k : Int)).map fun k => T.leaf (.int k))).dat = grpD S := by
  rw [List.map_map]; exact dat_grp1 S
def F_law_pair_right : SpecF := fnF (fun x : Nat × List Tm × List Int × Int × List Nat × List Nat => [boardD x.1 x.2.1, itup x.2.2.1, .int x.2.2.2.1, grpD x.2.2.2.2.1, grpD x.2.2.2.2.2])
  (fun x => Ready x.1 x.2.1 x.2.2.1 x.2.2.2.1 ∧ Grp x.1 x.2.2.2.2.1 ∧ Grp x.1 x.2.2.2.2.2) (fun _ => .bl true)
theorem M_law_pair_right : Mono F_law_pair_right := fnM _ _ _
def S_law_pair_right : Sg := { z := true, fs := [F_law_or_none], gs := [] }
theorem W_law_pair_right : WOk S_law_pair_right n_law_pair_right b_law_pair_right F_law_pair_right 5 := by
  rintro ds Φ ⟨⟨n, ts, xs, y, A, B⟩, rfl, ⟨⟨hn, hl, ok, hx, ha, hy⟩, gA, gB⟩, k⟩
  refine ⟨rfl, ?_⟩
  have hn : n ≤ 8 := hn
  have hl : ts.length ≤ 24 := hl
  have ok : TsOk n ts := ok
  have hx : xs.length = n := hx
  have hy : y = 1 ∨ y = -1 := hy
  have ha : ts.any (leaves xs) = false := ha
  have gA : Grp n A := gA
  have gB : Grp n B := gB
  have k : Φ (.leaf (.bl true)) := k
  have rd : Ready n ts xs y := ⟨hn, hl, ok, hx, ha, hy⟩
  unfold b_law_pair_right
  trace_state
  refine ⟨_, rfl, Nat.le_of_ble_eq_true rfl, lcW_tyM (as := [A, B]) grpD (fun g => gainD xs ts y g) (fun g hg Ψ g1 => ?_) ?_⟩
  · have hg : Grp n g := by
      rcases List.mem_cons.mp hg with rfl | hg
      · exact gA
      · obtain rfl := List.mem_singleton.mp hg
        exact gB
    trace_state
    refine ⟨(n, ts, xs, y, g), rfl, ⟨rd, hg⟩, ?_⟩
    trace_state
    exact g1
  refine wb_fz rfl rfl ?_
  simp only [List.map_cons, List.map_nil, List.nil_append, T.dat, T.dats]
  trace_state
  have hA : (ts.any (leaves (stepL xs y A)) = true ∧ gainD xs ts y A = .non) ∨ (ts.any (leaves (stepL xs y A)) = false ∧ gainD xs ts y A = .int (gainC xs ts y A)) := gain_or _ _ _ _
  have hB : (ts.any (leaves (stepL xs y B)) = true ∧ gainD xs ts y B = .non) ∨ (ts.any (leaves (stepL xs y B)) = false ∧ gainD xs ts y B = .int (gainC xs ts y B)) := gain_or _ _ _ _
  rcases hA with ⟨_, eA⟩ | ⟨zA, eA⟩
  · rcases hB with ⟨_, eB⟩ | ⟨_, eB⟩ <;> rw [eA, eB] <;> refine ⟨rfl, rfl, ?_⟩ <;> exact ite_t (wb_ret (w_bl (fin_leaf rfl k)))
  rcases hB with ⟨_, eB⟩ | ⟨zB, eB⟩
  · rw [eA, eB]
    refine ⟨rfl, rfl, ?_⟩
    exact ite_t (wb_ret (w_bl (fin_leaf rfl k)))
  rw [eA, eB]
  refine ⟨rfl, rfl, ?_⟩
  refine ite_f ?_
  trace_state
  have lA := nodup_len gA.1 gA.2
  have lB := nodup_len gB.1 gB.2
  refine b_cat (d1 := A.map fun k : Nat => .int k) (d2 := B.map fun k : Nat => .int k) rfl rfl rfl rfl (by simp; omega) ?_
  refine ⟨(A ++ B).map fun k : Nat => (k : Int), by simp [T.dat, T.dats_eq]; rfl, by simp; omega, fun ns' pw mem => ?_⟩
  obtain ⟨S, rfl⟩ := nat_list (A := A ++ B) fun k hk => (mem k).mp hk
  have nS : S.Nodup := (List.pairwise_map.mp pw).imp fun h => by omega
  have hS : ∀ d, d ∈ S ↔ d ∈ A ∨ d ∈ B := fun d => by
    have := mem (d : Int)
    rw [mem_int, mem_int, List.mem_append] at this
    exact this
  have gS : Grp n S := ⟨nS, fun d hd => by
    rcases (hS d).mp hd with h | h
    · exact gA.2 d h
    · exact gB.2 d h⟩
  refine fin_lst rfl ?_
  trace_state
  refine ⟨_, rfl, by simp; omega, lcW_ty (fun k : Nat => DL.D.int k) (fun k => decide (k ∈ B)) (fun k : Nat => DL.D.int k) (fun d hd Ψ N g1 g2 => ?_) ?_⟩
  · trace_state
    refine c_inG rfl rfl ?_
    by_cases q : d ∈ B
    · rw [decide_eq_true q]
      trace_state
      exact g1 (by simp [q])
    · rw [decide_eq_false q]
      exact g2 (by simp [q])
  obtain ⟨C, eC⟩ : ∃ C, C = A.filter fun k => decide (k ∈ B) := ⟨_, rfl⟩
  have hC : ∀ d, d ∈ C ↔ d ∈ A ∧ d ∈ B := fun d => by rw [eC]; simp
  have gC : Grp n C := ⟨by rw [eC]; exact gA.1.sublist List.filter_sublist, fun d hd => gA.2 d ((hC d).mp hd).1⟩
  rw [List.nil_append, ← eC]
  trace_state
  rw [dat_grp2, dat_grp1]
  refine ⟨_, rfl, Nat.le_of_ble_eq_true rfl, lcW_tyM (as := [S, C]) grpD (fun g => gainD xs ts y g) (fun g hg Ψ g1 => ?_) ?_⟩
  · have hg : Grp n g := by
      rcases List.mem_cons.mp hg with rfl | hg
      · exact gS
      · obtain rfl := List.mem_singleton.mp hg
        exact gC
    trace_state
    refine ⟨(n, ts, xs, y, g), rfl, ⟨rd, hg⟩, ?_⟩
    trace_state
    exact g1
  obtain ⟨zS, zC, le⟩ := gain_pair hx ok hy hS hC zA zB
  have eS : gainD xs ts y S = .int (gainC xs ts y S) := by unfold gainD; rw [if_neg (by rw [zS]; decide)]
  have eC : gainD xs ts y C = .int (gainC xs ts y C) := by unfold gainD; rw [if_neg (by rw [zC]; decide)]
  refine wb_fz rfl rfl ?_
  simp only [List.map_cons, List.map_nil, List.nil_append, T.dat, T.dats, eS, eC]
  trace_state
  refine ⟨rfl, rfl, ?_⟩
  refine ⟨_, rfl, ite_t ?_⟩
  trace_state
  refine l_suml (ns := [gainC xs ts y S, gainC xs ts y C]) rfl rfl ?_
  trace_state
  refine l_suml (ns := [gainC xs ts y A, gainC xs ts y B]) rfl rfl ?_
  trace_state
  have fin : decide ([gainC xs ts y A, gainC xs ts y B].sum ≤ [gainC xs ts y S, gainC xs ts y C].sum) = true := by
    simp only [List.sum_cons, List.sum_nil]
    exact decide_eq_true (by omega)
  rw [fin]
  exact k
end KT
namespace KT
open PySem PySem.Spec PyProof.Rows L2 DL
local macro_rules | `(tactic| trace_state) => `(tactic| repeat' first | (with_reducible show w _ _ _ _; first | with_reducible refine w_nm (by with_unfolding_all exact rfl) ?_ | with_reducible refine w_ix ?_ | with_reducible refine w_int ?_ | with_reducible refine w_bin ?_ | with_reducible refine w_cmp ?_ | with_reducible refine w_call (by with_unfolding_all exact rfl) ?_ | with_reducible refine w_blt ?_ | with_reducible refine w_ow (by with_unfolding_all exact rfl) ?_ | with_reducible refine w_tup ?_ | with_reducible refine w_lst ?_ | with_reducible refine w_str ?_ | with_reducible refine w_neg ?_ | with_reducible refine w_ife ?_ | with_reducible refine w_sl ?_ | with_reducible refine w_and ?_ | with_reducible refine w_one ?_ | with_reducible refine w_or ?_ | with_reducible refine w_orv ?_ | with_reducible refine w_srtS ?_ | with_reducible refine w_not ?_ | with_reducible refine w_bl ?_ | with_reducible refine w_non ?_ | with_reducible refine w_gl (by with_unfolding_all exact rfl) ?_ | with_reducible refine w_chn ?_ | with_reducible refine w_lc (by with_unfolding_all exact rfl) ?_ | with_reducible refine w_fld ?_ | with_reducible refine w_mth (by with_unfolding_all exact rfl) ?_ | with_reducible refine w_mt0 (by with_unfolding_all exact rfl) ?_ | with_reducible refine w_prp (by with_unfolding_all exact rfl) ?_ | with_reducible refine w_new (by with_unfolding_all exact rfl) ?_ | with_reducible refine w_isi ?_ | with_reducible refine w_eqO (by with_unfolding_all exact rfl) ?_ | with_reducible refine w_isC ?_ | with_reducible refine w_lr1 ?_ | with_reducible refine w_lr2 ?_) | (with_reducible show wa _ _ _ _; first | with_reducible refine wa_cons ?_ | with_reducible refine wa_nil ?_) | (with_reducible show wv _ _ _ _; first | with_reducible refine wv_cons ?_ | with_reducible refine wv_nil ?_) | (with_reducible show T.fin _ _; first | with_reducible refine fin_leaf (by with_unfolding_all exact rfl) ?_ | with_reducible refine fin_mk (by with_unfolding_all exact rfl) ?_ | with_reducible refine fin_lst (by with_unfolding_all exact rfl) ?_ | with_reducible refine fin_tup (by with_unfolding_all exact rfl) ?_) | (with_reducible show And _ _; first | with_reducible refine and_len (by with_unfolding_all exact rfl) ?_) | (with_reducible show frozs _ _ _; first | with_reducible refine fz_nil ?_ | with_reducible refine fz_cons ?_) | (with_reducible show T.froz _ _ _; first | with_reducible refine fz_leaf (by with_unfolding_all exact rfl) ?_ | with_reducible refine fz_lst (by with_unfolding_all exact rfl) (by with_unfolding_all exact rfl) ?_ | with_reducible refine fz_tup (by with_unfolding_all exact rfl) (by with_unfolding_all exact rfl) ?_ | with_reducible refine fz_vw (by with_unfolding_all exact rfl) (by with_unfolding_all exact rfl) ?_) | (with_reducible show ixT _ _ _; first | with_reducible refine ix_lt (by with_unfolding_all exact rfl) (by with_unfolding_all exact rfl) (by with_unfolding_all exact at_getD (by assumption)) ?_ | with_reducible refine ix_lt (by with_unfolding_all exact rfl) (by with_unfolding_all exact rfl) (by with_unfolding_all exact rfl) ?_ | with_reducible refine ix_lst (by with_unfolding_all exact rfl) (by with_unfolding_all exact rfl) (by with_unfolding_all exact rfl) ?_ | with_reducible refine ix_ll (by with_unfolding_all exact rfl) (by with_unfolding_all exact rfl) (by with_unfolding_all exact rfl) ?_ | with_reducible refine ix_vli (by with_unfolding_all exact rfl) (by with_unfolding_all exact rfl) (by with_unfolding_all exact rfl) ?_ | with_reducible refine ix_vll (by with_unfolding_all exact rfl) (by with_unfolding_all exact rfl) (by with_unfolding_all exact rfl) ?_ | with_reducible refine ix_tup (by with_unfolding_all exact rfl) (by with_unfolding_all exact rfl) (by with_unfolding_all exact rfl) ?_ | with_reducible refine ix_vti (by with_unfolding_all exact rfl) (by with_unfolding_all exact rfl) (by with_unfolding_all exact rfl) ?_ | with_reducible refine ix_vlt (by with_unfolding_all exact rfl) (by with_unfolding_all exact rfl) (by with_unfolding_all exact rfl) ?_ | with_reducible refine ix_vtl (by with_unfolding_all exact rfl) (by with_unfolding_all exact rfl) (by with_unfolding_all exact rfl) ?_ | with_reducible refine ix_vls (by with_unfolding_all exact rfl) (by with_unfolding_all exact rfl) (by with_unfolding_all exact rfl) ?_) | (with_reducible show DL.binT _ _ _ _; first | with_reducible refine b_add (by with_unfolding_all exact rfl) (by with_unfolding_all exact rfl) ?_ | with_reducible refine b_sub (by with_unfolding_all exact rfl) (by with_unfolding_all exact rfl) ?_ | with_reducible refine b_mul (by with_unfolding_all exact rfl) (by with_unfolding_all exact rfl) (by with_unfolding_all exact mulR ⟨by decide, by decide⟩) ?_ | with_reducible refine b_mul (by with_unfolding_all exact rfl) (by with_unfolding_all exact rfl) (by with_unfolding_all exact mulL ⟨by decide, by decide⟩) ?_ | with_reducible refine b_mul (by with_unfolding_all exact rfl) (by with_unfolding_all exact rfl) (by with_unfolding_all exact mulL ⟨by omega, by omega⟩) ?_ | with_reducible refine b_mul (by with_unfolding_all exact rfl) (by with_unfolding_all exact rfl) (by with_unfolding_all exact mulR ⟨by omega, by omega⟩) ?_ | with_reducible refine b_mul (by with_unfolding_all exact rfl) (by with_unfolding_all exact rfl) ?_ ?_ | with_reducible refine b_p18 (by with_unfolding_all exact rfl) (by with_unfolding_all exact rfl) ?_ | with_reducible refine b_p9 (by with_unfolding_all exact rfl) (by with_unfolding_all exact rfl) ?_ | with_reducible refine b_p38 (by with_unfolding_all exact rfl) (by with_unfolding_all exact rfl) ?_ | with_reducible refine b_p17 (by with_unfolding_all exact rfl) (by with_unfolding_all exact rfl) ?_ | with_reducible refine b_p40 (by with_unfolding_all exact rfl) (by with_unfolding_all exact rfl) ?_ | with_reducible refine b_p39 (by with_unfolding_all exact rfl) (by with_unfolding_all exact rfl) ?_ | with_reducible refine b_p21 (by with_unfolding_all exact rfl) (by with_unfolding_all exact rfl) ?_ | with_reducible refine b_p20 (by with_unfolding_all exact rfl) (by with_unfolding_all exact rfl) ?_ | with_reducible refine b_p6 (by with_unfolding_all exact rfl) (by with_unfolding_all exact rfl) ?_ | with_reducible refine b_pow (by with_unfolding_all exact rfl) (by with_unfolding_all exact rfl) (by with_unfolding_all decide) ?_ | with_reducible refine b_mod (by with_unfolding_all exact rfl) (by with_unfolding_all exact rfl) (by with_unfolding_all (first | decide | assumption | omega)) ?_ | with_reducible refine b_mod (by with_unfolding_all exact rfl) (by with_unfolding_all exact rfl) ?_ ?_ | with_reducible refine b_fdiv (by with_unfolding_all exact rfl) (by with_unfolding_all exact rfl) (by with_unfolding_all exact ⟨by decide, by decide⟩) ?_ | with_reducible refine b_fdiv (by with_unfolding_all exact rfl) (by with_unfolding_all exact rfl) (by with_unfolding_all exact ⟨by assumption, by assumption⟩) ?_ | with_reducible refine b_fdiv (by with_unfolding_all exact rfl) (by with_unfolding_all exact rfl) ?_ ?_ | with_reducible refine b_catL (by with_unfolding_all exact rfl) (by with_unfolding_all exact rfl) (by with_unfolding_all exact rfl) ?_) | (with_reducible show cmpD _ _ _ _; first | with_reducible refine c_eq (by with_unfolding_all exact rfl) (by with_unfolding_all exact rfl) ?_ | with_reducible refine c_ne (by with_unfolding_all exact rfl) (by with_unfolding_all exact rfl) ?_ | with_reducible refine c_lt (by with_unfolding_all exact rfl) (by with_unfolding_all exact rfl) ?_ | with_reducible refine c_le (by with_unfolding_all exact rfl) (by with_unfolding_all exact rfl) ?_ | with_reducible refine c_gt (by with_unfolding_all exact rfl) (by with_unfolding_all exact rfl) ?_ | with_reducible refine c_ge (by with_unfolding_all exact rfl) (by with_unfolding_all exact rfl) ?_ | with_reducible refine c_nes (by with_unfolding_all exact rfl) (by with_unfolding_all exact rfl) ?_ | with_reducible refine c_eqs (by with_unfolding_all exact rfl) (by with_unfolding_all exact rfl) ?_ | with_reducible refine c_inT (by with_unfolding_all exact rfl) (by with_unfolding_all exact rfl) (by with_unfolding_all (first | exact tb_stop | exact tb_wish | exact tb_bar | exact tb_tie | exact wt_stop | exact wt_wish | exact wt_bar | exact wt_tie)) ?_ | with_reducible refine c_ninT (by with_unfolding_all exact rfl) (by with_unfolding_all exact rfl) (by with_unfolding_all (first | exact w4_stop | exact w4_wish | exact w4_bar | exact w4_tie)) ?_ | with_reducible refine c_isT (by with_unfolding_all exact rfl) (by with_unfolding_all exact rfl) ?_ | with_reducible refine c_isF (by with_unfolding_all exact rfl) (by with_unfolding_all exact rfl) ?_ | with_reducible refine c_notT (by with_unfolding_all exact rfl) (by with_unfolding_all exact rfl) ?_ | with_reducible refine c_notF (by with_unfolding_all exact rfl) (by with_unfolding_all exact rfl) ?_) | (with_reducible show wt _ _ _ _; first | with_reducible refine wt_cmp ?_ | with_reducible refine wt_not ?_ | with_reducible refine wt_val ?_ | with_reducible refine wt_and ?_ | with_reducible refine wt_or ?_ | with_reducible refine wt_one ?_ | with_reducible refine wt_chn ?_) | (with_reducible show @ite _ _ _ _ _; first | with_reducible refine ite_t ?_ | with_reducible refine ite_f ?_ | with_reducible refine ite_nt ?_ | with_reducible refine ite_nf ?_ | with_reducible refine ite_decT (by decide) ?_ | with_reducible refine ite_decF (by decide) ?_ | with_reducible refine ite_dec (fun _ => ?_) (fun _ => ?_) | with_reducible refine ite_ndecT (by with_unfolding_all exact rfl) ?_ | with_reducible refine ite_ndec (fun _ => ?_) (fun _ => ?_)) | (with_reducible show wb _ _ _ _; first | with_reducible refine wb_asg ?_ | with_reducible refine wb_ite ?_ | with_reducible refine wb_ret ?_ | with_reducible refine wb_nil ?_ | with_reducible refine wb_for ?_ | with_reducible refine wb_asgLc (by with_unfolding_all exact rfl) (by with_unfolding_all exact rfl) ?_ | with_reducible refine wb_setix (by with_unfolding_all exact rfl) ?_ | with_reducible refine wb_augix (by with_unfolding_all exact rfl) ?_ | with_reducible refine wb_aug (by with_unfolding_all exact rfl) (by with_unfolding_all exact rfl) ?_ | with_reducible refine wb_fgt ?_ | with_reducible refine wb_unp2 ?_ | with_reducible refine wb_ext (by with_unfolding_all exact rfl) ?_ | with_reducible refine wb_augix2 (by with_unfolding_all exact rfl) ?_ | with_reducible refine wb_ex ?_ | with_reducible refine wb_fz (by with_unfolding_all exact rfl) (by with_unfolding_all exact rfl) ?_ | with_reducible refine wb_pass ?_ | with_reducible refine wb_brk ?_ | with_reducible refine wb_cont ?_ | with_reducible refine wb_retN ?_ | with_reducible refine wb_par3b (by with_unfolding_all decide) (by with_unfolding_all exact rfl) (by with_unfolding_all exact rfl) (by with_unfolding_all exact rfl) ?_ | with_reducible refine wb_par2 (by with_unfolding_all decide) (by with_unfolding_all exact rfl) (by with_unfolding_all exact rfl) ?_ | with_reducible refine wb_app (by with_unfolding_all exact rfl) (by with_unfolding_all (simp; done)) ?_ | with_reducible refine wb_app (by with_unfolding_all exact rfl) ?_ ?_) | (with_reducible show Exists _; first | with_reducible refine bind_nm (by with_unfolding_all exact rfl) ?_ | with_reducible refine bind_pair (by with_unfolding_all exact rfl) (by with_unfolding_all exact rfl) (by with_unfolding_all exact rfl) ?_ | with_reducible refine bind_5 (by with_unfolding_all exact rfl) (by with_unfolding_all exact rfl) ?_ | with_reducible refine ex_int (by with_unfolding_all exact rfl) ?_ | with_reducible refine ex_bl (by with_unfolding_all exact rfl) ?_ | with_reducible refine ex_isT (by with_unfolding_all exact rfl) ?_ | with_reducible refine set_to (by with_unfolding_all exact rfl) (by with_unfolding_all exact rfl) ?_ | with_reducible refine aug_to (by with_unfolding_all exact rfl) (by with_unfolding_all exact rfl) (by with_unfolding_all exact rfl) ?_ | with_reducible refine ex_rg1 (by with_unfolding_all exact rfl) (by with_unfolding_all (unfold RgS; omega)) ?_ | with_reducible refine ex_rg2 (by with_unfolding_all exact rfl) (by with_unfolding_all exact rfl) (by with_unfolding_all (unfold RgS; omega)) ?_) | (with_reducible show bltT _ _ _; first | with_reducible refine l_lens (by with_unfolding_all exact rfl) ?_ | with_reducible refine l_len (by with_unfolding_all exact rfl) ?_ | with_reducible refine l_lentK 4 (by with_unfolding_all exact rfl) (by with_unfolding_all exact rfl) ?_ | with_reducible refine l_lentK 5 (by with_unfolding_all exact rfl) (by with_unfolding_all exact rfl) ?_ | with_reducible refine l_lentK 6 (by with_unfolding_all exact rfl) (by with_unfolding_all exact rfl) ?_ | with_reducible refine l_lent (by with_unfolding_all exact rfl) ?_ | with_reducible refine l_abs (by with_unfolding_all exact rfl) ?_ | with_reducible refine l_max2 (by with_unfolding_all exact rfl) (by with_unfolding_all exact rfl) ?_ | with_reducible refine l_min2 (by with_unfolding_all exact rfl) (by with_unfolding_all exact rfl) ?_ | with_reducible refine l_max3 (by with_unfolding_all exact rfl) (by with_unfolding_all exact rfl) (by with_unfolding_all exact rfl) ?_ | with_reducible refine l_intT (by with_unfolding_all exact rfl) ?_ | with_reducible refine l_intF (by with_unfolding_all exact rfl) ?_ | with_reducible refine l_intD (by with_unfolding_all exact rfl) (fun _ => ?_) (fun _ => ?_)) | (with_reducible show slT _ _ _ _; first | with_reducible refine sl_lt (by with_unfolding_all exact rfl) (by with_unfolding_all exact rfl) ?_) | (with_reducible show tru _ _; first | with_reducible refine t_bl (by with_unfolding_all exact rfl) ?_) | (with_reducible show augD _ _ _ _; first | with_reducible refine a_add (by with_unfolding_all exact rfl) (by with_unfolding_all exact rfl) ?_ | with_reducible refine a_sub (by with_unfolding_all exact rfl) (by with_unfolding_all exact rfl) ?_) | (with_reducible show wo _ _ _ _; first | with_reducible refine wo_nop ?_ | with_reducible refine wo_prt ?_) | (with_reducible show wi _ _ _ _; first | with_reducible refine wi_rng ?_ | with_reducible refine wi_sq ?_ | with_reducible refine wi_zip ?_ | with_reducible refine wi_enm ?_) | (with_reducible show wc _ _ _ _; first | with_reducible refine wc_nop ?_ | with_reducible refine wc_one ?_))
def F_law_back_right : SpecF := fnF (fun x : Nat × List Tm × List Int × Int × List Nat × List Nat => [boardD x.1 x.2.1, itup x.2.2.1, .int x.2.2.2.1, grpD x.2.2.2.2.1, grpD x.2.2.2.2.2])
  (fun x => Ready x.1 x.2.1 x.2.2.1 x.2.2.2.1 ∧ Grp x.1 x.2.2.2.2.1 ∧ x.2.2.2.2.2.Nodup ∧ ∀ d ∈ x.2.2.2.2.2, d ∈ x.2.2.2.2.1) (fun _ => .bl true)
theorem M_law_back_right : Mono F_law_back_right := fnM _ _ _
def S_law_back_right : Sg := { z := true, fs := [F_gain, F_law_stepped, F_law_or_none], gs := [] }
theorem W_law_back_right : WOk S_law_back_right n_law_back_right b_law_back_right F_law_back_right 5 := by
  rintro ds Φ ⟨⟨n, ts, xs, y, A, P⟩, rfl, ⟨⟨hn, hl, ok, hx, ha, hy⟩, gA, nP, hP⟩, k⟩
  refine ⟨rfl, ?_⟩
  have hn : n ≤ 8 := hn
  have hl : ts.length ≤ 24 := hl
  have ok : TsOk n ts := ok
  have hx : xs.length = n := hx
  have hy : y = 1 ∨ y = -1 := hy
  have hy' : -y = 1 ∨ -y = -1 := by omega
  have ha : ts.any (leaves xs) = false := ha
  have gA : Grp n A := gA
  have nP : P.Nodup := nP
  have hP : ∀ d ∈ P, d ∈ A := hP
  have gP : Grp n P := ⟨nP, fun d hd => gA.2 d (hP d hd)⟩
  have k : Φ (.leaf (.bl true)) := k
  have rd : Ready n ts xs y := ⟨hn, hl, ok, hx, ha, hy⟩
  have rd' : Ready n ts xs (-y) := ⟨hn, hl, ok, hx, ha, hy'⟩
  have lA := nodup_len gA.1 gA.2
  unfold b_law_back_right
  trace_state
  refine ⟨(n, ts, xs, y, A), rfl, ⟨hn, hl, ok, hx, ha, hy, gA⟩, ?_⟩
  dsimp only
  have hA : (ts.any (leaves (stepL xs y A)) = true ∧ gainD xs ts y A = .non) ∨ (ts.any (leaves (stepL xs y A)) = false ∧ gainD xs ts y A = .int (gainC xs ts y A)) := gain_or _ _ _ _
  rcases hA with ⟨_, eA⟩ | ⟨zA, eA⟩
  · rw [eA]
    trace_state
    exact k
  rw [eA]
  trace_state
  refine ⟨(xs, y, A), rfl, by show xs.length ≤ 1000; omega, ?_⟩
  trace_state
  refine ⟨(n, ts, stepL xs y A, -y, A), rfl, ⟨hn, hl, ok, by rw [stepL_len]; exact hx, zA, hy', gA⟩, ?_⟩
  dsimp only
  rw [gain_back_eq ha]
  trace_state
  refine ⟨_, rfl, by simp; omega, lcW_ty (fun k : Nat => DL.D.int k) (fun k => decide (k ∉ P)) (fun k : Nat => DL.D.int k) (fun d hd Ψ N g1 g2 => ?_) ?_⟩
  · trace_state
    refine c_ninG rfl rfl ?_
    by_cases q : d ∈ P
    · rw [decide_eq_true q]
      exact g2 (by simp [q])
    · rw [decide_eq_false q]
      trace_state
      exact g1 (by simp [q])
  obtain ⟨C, eC⟩ : ∃ C, C = A.filter fun k => decide (k ∉ P) := ⟨_, rfl⟩
  have hC : ∀ d, d ∈ C ↔ d ∈ A ∧ d ∉ P := fun d => by rw [eC]; simp
  have gC : Grp n C := ⟨by rw [eC]; exact gA.1.sublist List.filter_sublist, fun d hd => gA.2 d ((hC d).mp hd).1⟩
  rw [List.nil_append, ← eC]
  trace_state
  refine ⟨(n, ts, xs, -y, P), rfl, ⟨rd', gP⟩, ?_⟩
  dsimp only
  trace_state
  rw [dat_grp1]
  trace_state
  refine ⟨(n, ts, xs, y, C), rfl, ⟨rd, gC⟩, ?_⟩
  dsimp only
  have hA : (ts.any (leaves (stepL xs (-y) P)) = true ∧ gainD xs ts (-y) P = .non) ∨ (ts.any (leaves (stepL xs (-y) P)) = false ∧ gainD xs ts (-y) P = .int (gainC xs ts (-y) P)) := gain_or _ _ _ _
  rcases hA with ⟨_, eP⟩ | ⟨zP, eP⟩
  · rw [eP]
    trace_state
    exact k
  · obtain ⟨zC, le⟩ := gain_back hx ok hy hP hC zA zP
    have eC : gainD xs ts y C = .int (gainC xs ts y C) := by unfold gainD; rw [if_neg (by rw [zC]; decide)]
    rw [eP, eC]
    trace_state
    rw [decide_eq_true le]
    exact k
end KT
namespace KT
open PySem PySem.Spec PyProof.Rows L2 DL
local macro_rules | `(tactic| trace_state) => `(tactic| repeat' first | (with_reducible show w _ _ _ _; first | with_reducible refine w_nm (by with_unfolding_all exact rfl) ?_ | with_reducible refine w_ix ?_ | with_reducible refine w_int ?_ | with_reducible refine w_bin ?_ | with_reducible refine w_cmp ?_ | with_reducible refine w_call (by with_unfolding_all exact rfl) ?_ | with_reducible refine w_blt ?_ | with_reducible refine w_ow (by with_unfolding_all exact rfl) ?_ | with_reducible refine w_tup ?_ | with_reducible refine w_lst ?_ | with_reducible refine w_str ?_ | with_reducible refine w_neg ?_ | with_reducible refine w_ife ?_ | with_reducible refine w_sl ?_ | with_reducible refine w_and ?_ | with_reducible refine w_one ?_ | with_reducible refine w_or ?_ | with_reducible refine w_orv ?_ | with_reducible refine w_srtS ?_ | with_reducible refine w_not ?_ | with_reducible refine w_bl ?_ | with_reducible refine w_non ?_ | with_reducible refine w_gl (by with_unfolding_all exact rfl) ?_ | with_reducible refine w_chn ?_ | with_reducible refine w_lc (by with_unfolding_all exact rfl) ?_ | with_reducible refine w_fld ?_ | with_reducible refine w_mth (by with_unfolding_all exact rfl) ?_ | with_reducible refine w_mt0 (by with_unfolding_all exact rfl) ?_ | with_reducible refine w_prp (by with_unfolding_all exact rfl) ?_ | with_reducible refine w_new (by with_unfolding_all exact rfl) ?_ | with_reducible refine w_isi ?_ | with_reducible refine w_eqO (by with_unfolding_all exact rfl) ?_ | with_reducible refine w_isC ?_ | with_reducible refine w_lr1 ?_ | with_reducible refine w_lr2 ?_) | (with_reducible show wa _ _ _ _; first | with_reducible refine wa_cons ?_ | with_reducible refine wa_nil ?_) | (with_reducible show wv _ _ _ _; first | with_reducible refine wv_cons ?_ | with_reducible refine wv_nil ?_) | (with_reducible show T.fin _ _; first | with_reducible refine fin_leaf (by with_unfolding_all exact rfl) ?_ | with_reducible refine fin_mk (by with_unfolding_all exact rfl) ?_ | with_reducible refine fin_lst (by with_unfolding_all exact rfl) ?_ | with_reducible refine fin_tup (by with_unfolding_all exact rfl) ?_) | (with_reducible show And _ _; first | with_reducible refine and_len (by with_unfolding_all exact rfl) ?_) | (with_reducible show frozs _ _ _; first | with_reducible refine fz_nil ?_ | with_reducible refine fz_cons ?_) | (with_reducible show T.froz _ _ _; first | with_reducible refine fz_leaf (by with_unfolding_all exact rfl) ?_ | with_reducible refine fz_lst (by with_unfolding_all exact rfl) (by with_unfolding_all exact rfl) ?_ | with_reducible refine fz_tup (by with_unfolding_all exact rfl) (by with_unfolding_all exact rfl) ?_ | with_reducible refine fz_vw (by with_unfolding_all exact rfl) (by with_unfolding_all exact rfl) ?_) | (with_reducible show ixT _ _ _; first | with_reducible refine ix_lt (by with_unfolding_all exact rfl) (by with_unfolding_all exact rfl) (by with_unfolding_all exact at_getD (by assumption)) ?_ | with_reducible refine ix_lt (by with_unfolding_all exact rfl) (by with_unfolding_all exact rfl) (by with_unfolding_all exact rfl) ?_ | with_reducible refine ix_lst (by with_unfolding_all exact rfl) (by with_unfolding_all exact rfl) (by with_unfolding_all exact rfl) ?_ | with_reducible refine ix_ll (by with_unfolding_all exact rfl) (by with_unfolding_all exact rfl) (by with_unfolding_all exact rfl) ?_ | with_reducible refine ix_vli (by with_unfolding_all exact rfl) (by with_unfolding_all exact rfl) (by with_unfolding_all exact rfl) ?_ | with_reducible refine ix_vll (by with_unfolding_all exact rfl) (by with_unfolding_all exact rfl) (by with_unfolding_all exact rfl) ?_ | with_reducible refine ix_tup (by with_unfolding_all exact rfl) (by with_unfolding_all exact rfl) (by with_unfolding_all exact rfl) ?_ | with_reducible refine ix_vti (by with_unfolding_all exact rfl) (by with_unfolding_all exact rfl) (by with_unfolding_all exact rfl) ?_ | with_reducible refine ix_vlt (by with_unfolding_all exact rfl) (by with_unfolding_all exact rfl) (by with_unfolding_all exact rfl) ?_ | with_reducible refine ix_vtl (by with_unfolding_all exact rfl) (by with_unfolding_all exact rfl) (by with_unfolding_all exact rfl) ?_ | with_reducible refine ix_vls (by with_unfolding_all exact rfl) (by with_unfolding_all exact rfl) (by with_unfolding_all exact rfl) ?_) | (with_reducible show DL.binT _ _ _ _; first | with_reducible refine b_add (by with_unfolding_all exact rfl) (by with_unfolding_all exact rfl) ?_ | with_reducible refine b_sub (by with_unfolding_all exact rfl) (by with_unfolding_all exact rfl) ?_ | with_reducible refine b_mul (by with_unfolding_all exact rfl) (by with_unfolding_all exact rfl) (by with_unfolding_all exact mulR ⟨by decide, by decide⟩) ?_ | with_reducible refine b_mul (by with_unfolding_all exact rfl) (by with_unfolding_all exact rfl) (by with_unfolding_all exact mulL ⟨by decide, by decide⟩) ?_ | with_reducible refine b_mul (by with_unfolding_all exact rfl) (by with_unfolding_all exact rfl) (by with_unfolding_all exact mulL ⟨by omega, by omega⟩) ?_ | with_reducible refine b_mul (by with_unfolding_all exact rfl) (by with_unfolding_all exact rfl) (by with_unfolding_all exact mulR ⟨by omega, by omega⟩) ?_ | with_reducible refine b_mul (by with_unfolding_all exact rfl) (by with_unfolding_all exact rfl) ?_ ?_ | with_reducible refine b_p18 (by with_unfolding_all exact rfl) (by with_unfolding_all exact rfl) ?_ | with_reducible refine b_p9 (by with_unfolding_all exact rfl) (by with_unfolding_all exact rfl) ?_ | with_reducible refine b_p38 (by with_unfolding_all exact rfl) (by with_unfolding_all exact rfl) ?_ | with_reducible refine b_p17 (by with_unfolding_all exact rfl) (by with_unfolding_all exact rfl) ?_ | with_reducible refine b_p40 (by with_unfolding_all exact rfl) (by with_unfolding_all exact rfl) ?_ | with_reducible refine b_p39 (by with_unfolding_all exact rfl) (by with_unfolding_all exact rfl) ?_ | with_reducible refine b_p21 (by with_unfolding_all exact rfl) (by with_unfolding_all exact rfl) ?_ | with_reducible refine b_p20 (by with_unfolding_all exact rfl) (by with_unfolding_all exact rfl) ?_ | with_reducible refine b_p6 (by with_unfolding_all exact rfl) (by with_unfolding_all exact rfl) ?_ | with_reducible refine b_pow (by with_unfolding_all exact rfl) (by with_unfolding_all exact rfl) (by with_unfolding_all decide) ?_ | with_reducible refine b_mod (by with_unfolding_all exact rfl) (by with_unfolding_all exact rfl) (by with_unfolding_all (first | decide | assumption | omega)) ?_ | with_reducible refine b_mod (by with_unfolding_all exact rfl) (by with_unfolding_all exact rfl) ?_ ?_ | with_reducible refine b_fdiv (by with_unfolding_all exact rfl) (by with_unfolding_all exact rfl) (by with_unfolding_all exact ⟨by decide, by decide⟩) ?_ | with_reducible refine b_fdiv (by with_unfolding_all exact rfl) (by with_unfolding_all exact rfl) (by with_unfolding_all exact ⟨by assumption, by assumption⟩) ?_ | with_reducible refine b_fdiv (by with_unfolding_all exact rfl) (by with_unfolding_all exact rfl) ?_ ?_ | with_reducible refine b_catL (by with_unfolding_all exact rfl) (by with_unfolding_all exact rfl) (by with_unfolding_all exact rfl) ?_) | (with_reducible show cmpD _ _ _ _; first | with_reducible refine c_eq (by with_unfolding_all exact rfl) (by with_unfolding_all exact rfl) ?_ | with_reducible refine c_ne (by with_unfolding_all exact rfl) (by with_unfolding_all exact rfl) ?_ | with_reducible refine c_lt (by with_unfolding_all exact rfl) (by with_unfolding_all exact rfl) ?_ | with_reducible refine c_le (by with_unfolding_all exact rfl) (by with_unfolding_all exact rfl) ?_ | with_reducible refine c_gt (by with_unfolding_all exact rfl) (by with_unfolding_all exact rfl) ?_ | with_reducible refine c_ge (by with_unfolding_all exact rfl) (by with_unfolding_all exact rfl) ?_ | with_reducible refine c_nes (by with_unfolding_all exact rfl) (by with_unfolding_all exact rfl) ?_ | with_reducible refine c_eqs (by with_unfolding_all exact rfl) (by with_unfolding_all exact rfl) ?_ | with_reducible refine c_inT (by with_unfolding_all exact rfl) (by with_unfolding_all exact rfl) (by with_unfolding_all (first | exact tb_stop | exact tb_wish | exact tb_bar | exact tb_tie | exact wt_stop | exact wt_wish | exact wt_bar | exact wt_tie)) ?_ | with_reducible refine c_ninT (by with_unfolding_all exact rfl) (by with_unfolding_all exact rfl) (by with_unfolding_all (first | exact w4_stop | exact w4_wish | exact w4_bar | exact w4_tie)) ?_ | with_reducible refine c_isT (by with_unfolding_all exact rfl) (by with_unfolding_all exact rfl) ?_ | with_reducible refine c_isF (by with_unfolding_all exact rfl) (by with_unfolding_all exact rfl) ?_ | with_reducible refine c_notT (by with_unfolding_all exact rfl) (by with_unfolding_all exact rfl) ?_ | with_reducible refine c_notF (by with_unfolding_all exact rfl) (by with_unfolding_all exact rfl) ?_) | (with_reducible show wt _ _ _ _; first | with_reducible refine wt_cmp ?_ | with_reducible refine wt_not ?_ | with_reducible refine wt_val ?_ | with_reducible refine wt_and ?_ | with_reducible refine wt_or ?_ | with_reducible refine wt_one ?_ | with_reducible refine wt_chn ?_) | (with_reducible show @ite _ _ _ _ _; first | with_reducible refine ite_t ?_ | with_reducible refine ite_f ?_ | with_reducible refine ite_nt ?_ | with_reducible refine ite_nf ?_ | with_reducible refine ite_decT (by decide) ?_ | with_reducible refine ite_decF (by decide) ?_ | with_reducible refine ite_dec (fun _ => ?_) (fun _ => ?_) | with_reducible refine ite_ndecT (by with_unfolding_all exact rfl) ?_ | with_reducible refine ite_ndec (fun _ => ?_) (fun _ => ?_)) | (with_reducible show wb _ _ _ _; first | with_reducible refine wb_asg ?_ | with_reducible refine wb_ite ?_ | with_reducible refine wb_ret ?_ | with_reducible refine wb_nil ?_ | with_reducible refine wb_for ?_ | with_reducible refine wb_asgLc (by with_unfolding_all exact rfl) (by with_unfolding_all exact rfl) ?_ | with_reducible refine wb_setix (by with_unfolding_all exact rfl) ?_ | with_reducible refine wb_augix (by with_unfolding_all exact rfl) ?_ | with_reducible refine wb_aug (by with_unfolding_all exact rfl) (by with_unfolding_all exact rfl) ?_ | with_reducible refine wb_fgt ?_ | with_reducible refine wb_unp2 ?_ | with_reducible refine wb_ext (by with_unfolding_all exact rfl) ?_ | with_reducible refine wb_augix2 (by with_unfolding_all exact rfl) ?_ | with_reducible refine wb_ex ?_ | with_reducible refine wb_fz (by with_unfolding_all exact rfl) (by with_unfolding_all exact rfl) ?_ | with_reducible refine wb_pass ?_ | with_reducible refine wb_brk ?_ | with_reducible refine wb_cont ?_ | with_reducible refine wb_retN ?_ | with_reducible refine wb_par3b (by with_unfolding_all decide) (by with_unfolding_all exact rfl) (by with_unfolding_all exact rfl) (by with_unfolding_all exact rfl) ?_ | with_reducible refine wb_par2 (by with_unfolding_all decide) (by with_unfolding_all exact rfl) (by with_unfolding_all exact rfl) ?_ | with_reducible refine wb_app (by with_unfolding_all exact rfl) (by with_unfolding_all (simp; done)) ?_ | with_reducible refine wb_app (by with_unfolding_all exact rfl) ?_ ?_) | (with_reducible show Exists _; first | with_reducible refine bind_nm (by with_unfolding_all exact rfl) ?_ | with_reducible refine bind_pair (by with_unfolding_all exact rfl) (by with_unfolding_all exact rfl) (by with_unfolding_all exact rfl) ?_ | with_reducible refine bind_5 (by with_unfolding_all exact rfl) (by with_unfolding_all exact rfl) ?_ | with_reducible refine ex_int (by with_unfolding_all exact rfl) ?_ | with_reducible refine ex_bl (by with_unfolding_all exact rfl) ?_ | with_reducible refine ex_isT (by with_unfolding_all exact rfl) ?_ | with_reducible refine set_to (by with_unfolding_all exact rfl) (by with_unfolding_all exact rfl) ?_ | with_reducible refine aug_to (by with_unfolding_all exact rfl) (by with_unfolding_all exact rfl) (by with_unfolding_all exact rfl) ?_ | with_reducible refine ex_rg1 (by with_unfolding_all exact rfl) (by with_unfolding_all (unfold RgS; omega)) ?_ | with_reducible refine ex_rg2 (by with_unfolding_all exact rfl) (by with_unfolding_all exact rfl) (by with_unfolding_all (unfold RgS; omega)) ?_) | (with_reducible show bltT _ _ _; first | with_reducible refine l_lens (by with_unfolding_all exact rfl) ?_ | with_reducible refine l_len (by with_unfolding_all exact rfl) ?_ | with_reducible refine l_lentK 4 (by with_unfolding_all exact rfl) (by with_unfolding_all exact rfl) ?_ | with_reducible refine l_lentK 5 (by with_unfolding_all exact rfl) (by with_unfolding_all exact rfl) ?_ | with_reducible refine l_lentK 6 (by with_unfolding_all exact rfl) (by with_unfolding_all exact rfl) ?_ | with_reducible refine l_lent (by with_unfolding_all exact rfl) ?_ | with_reducible refine l_abs (by with_unfolding_all exact rfl) ?_ | with_reducible refine l_max2 (by with_unfolding_all exact rfl) (by with_unfolding_all exact rfl) ?_ | with_reducible refine l_min2 (by with_unfolding_all exact rfl) (by with_unfolding_all exact rfl) ?_ | with_reducible refine l_max3 (by with_unfolding_all exact rfl) (by with_unfolding_all exact rfl) (by with_unfolding_all exact rfl) ?_ | with_reducible refine l_intT (by with_unfolding_all exact rfl) ?_ | with_reducible refine l_intF (by with_unfolding_all exact rfl) ?_ | with_reducible refine l_intD (by with_unfolding_all exact rfl) (fun _ => ?_) (fun _ => ?_)) | (with_reducible show slT _ _ _ _; first | with_reducible refine sl_lt (by with_unfolding_all exact rfl) (by with_unfolding_all exact rfl) ?_) | (with_reducible show tru _ _; first | with_reducible refine t_bl (by with_unfolding_all exact rfl) ?_) | (with_reducible show augD _ _ _ _; first | with_reducible refine a_add (by with_unfolding_all exact rfl) (by with_unfolding_all exact rfl) ?_ | with_reducible refine a_sub (by with_unfolding_all exact rfl) (by with_unfolding_all exact rfl) ?_) | (with_reducible show wo _ _ _ _; first | with_reducible refine wo_nop ?_ | with_reducible refine wo_prt ?_) | (with_reducible show wi _ _ _ _; first | with_reducible refine wi_rng ?_ | with_reducible refine wi_sq ?_ | with_reducible refine wi_zip ?_ | with_reducible refine wi_enm ?_) | (with_reducible show wc _ _ _ _; first | with_reducible refine wc_nop ?_ | with_reducible refine wc_one ?_))
theorem lcW_sub {α : Type} (enc : α → DL.D) {g : Tg} {wc : DL.Env → (Bool → Prop) → Prop} {we : DL.Env → (T → Prop) → Prop} {ρ : DL.Env} {Φ : List T → Prop} : ∀ {as : List α} {acc : List T},
    (∀ a ∈ as, ∀ (Ψ : T → Prop) (N : Prop), Ψ (.leaf (enc a)) → N → ∃ ρ', bindG g (.leaf (enc a)) ρ = some ρ' ∧ wc ρ' fun b => if b = true then we ρ' fun t => t.fin Ψ else N) →
    (∀ bs : List α, bs.Sublist as → Φ (acc ++ bs.map fun a => .leaf (enc a))) → lcW g wc we ρ (as.map enc) acc Φ
  | [], acc, _, k => by simpa [lcW] using k [] (List.Sublist.refl _)
  | a :: as, acc, hs, k => by
    simp only [List.map_cons, lcW]
    refine hs a List.mem_cons_self _ _ ?_ ?_
    · refine lcW_sub enc (fun a' ha' => hs a' (List.mem_cons_of_mem _ ha')) fun bs hb => ?_
      rw [List.append_assoc]
      exact k (a :: bs) (hb.cons_cons _)
    · exact lcW_sub enc (fun a' ha' => hs a' (List.mem_cons_of_mem _ ha')) fun bs hb => k bs (hb.cons _)
def S_law : Sg := { z := true, fs := [bagF, takeF, F_law_standing, F_law_terms, F_law_pair_right, F_law_back_right, F_gain], gs := [], ms := [F_Board_mirrored], nw := [F_Board_init_] }
abbrev E25 (ns xs : List Int) (n : Nat) (ts : List Tm) (c2 c6 c9 c10 c11 c12 c13 c14 : Option T) : DL.Env :=
  [some (.leaf (.scr ns)), some (.leaf .bag), c2, some (.leaf (.int n)), some (.leaf (itup xs)), some (.leaf (boardD n ts)), c6, some (.leaf (boardD n (ts.map Tm.mir))), some (.leaf (itup (xs.map fun x => -x))), c9, c10, c11, c12, c13, c14]
def tlA : DL.B → DL.B
  | .asg _ _ r => r
  | b => b
theorem near_ok {xs : List Int} {c s : Int} (hc : -(10 ^ 9) ≤ c ∧ c ≤ 10 ^ 18 - 50) (hs : 0 ≤ s ∧ s ≤ 40) (hx : ∀ x ∈ xs, c - s ≤ x ∧ x ≤ c + s) : ∀ {ts : List Tm}, (∀ t ∈ ts, Near xs true t) → ts.any (leaves xs) = false := fun {ts} h => by
  have row : Row xs.length (2 * 10 ^ 18) (xs.map fun x => x) := ⟨by simp, fun x h => by have := hx x (by simpa using h); omega⟩
  have get : ∀ d : Nat, d < xs.length → c - s ≤ xs.getD d 0 ∧ xs.getD d 0 ≤ c + s := fun d hd => by
    have e : xs.getD d 0 = xs[d] := by simp [hd]
    rw [e]; exact hx _ (List.getElem_mem hd)
  rw [List.any_eq_false]
  intro t ht z
  obtain ⟨hp, hf⟩ := leaves_iff.mp z
  obtain ⟨ok, _, near⟩ := h t ht
  have hin := ok.1
  have b : -(10 ^ 18) ≤ t.arg xs ∧ t.arg xs ≤ 10 ^ 18 := by
    cases t with
    | stop d l h => have := get d hin; simp only [Tm.arg]; omega
    | wish d l h f => cases hp
    | bar d o l h => have a := get d hin.1; have b := get o hin.2; simp only [Tm.arg]; omega
    | tie d o l h f => cases hp
  have := near hp b.1 b.2
  rw [Tm.far, if_neg (by omega), if_neg (by omega)] at hf
  exact absurd hf (by decide)
section
variable {ns xs : List Int} {n : Nat} {ts : List Tm} {y : Int} {A B : List Nat} {c2 c6 c9 c10 c11 c12 c13 c14 : Option T} {K : EnD}
theorem W_1 (rd : Ready n ts xs y) (gA : Grp n A) (k : K.nx (E25 ns xs n ts c2 c6 (some (.leaf (.int y))) c10 (some (.leaf (grpD A))) c12 c13 c14)) :
    wb S_law b_law_1 (E25 ns xs n ts c2 c6 (some (.leaf (.int y))) c10 (some (.leaf (grpD A))) c12 c13 c14) K := by
  obtain ⟨hn, hl, ok, hx, ha, hy⟩ := rd
  unfold b_law_1
  trace_state
  refine ⟨(n, ts.map Tm.mir, xs.map fun x => -x, -y, A), rfl, ⟨hn, by show (ts.map Tm.mir).length ≤ 24; rw [List.length_map]; exact hl, ok.mir, by show (xs.map fun x => -x).length = n; rw [List.length_map]; exact hx, by show (ts.map Tm.mir).any (leaves (xs.map fun x => -x)) = false; rw [(mir_both ok xs).1]; exact ha, by show -y = 1 ∨ -y = -1; omega, gA⟩, ?_⟩
  trace_state
  refine ⟨(n, ts, xs, y, A), rfl, ⟨hn, hl, ok, hx, ha, hy, gA⟩, ?_⟩
  refine c_nesame (gain_mir ok) (fit_gain _ _ _ _) ?_
  trace_state
  exact k
theorem W_2 (rd : Ready n ts xs y) (gA : Grp n A) (k : ∀ c10, K.nx (E25 ns xs n ts c2 c6 (some (.leaf (.int y))) c10 (some (.leaf (grpD A))) c12 none c14)) :
    wb S_law b_law_2 (E25 ns xs n ts c2 c6 (some (.leaf (.int y))) c10 (some (.leaf (grpD A))) c12 none c14) K := by
  have lA := nodup_len gA.1 gA.2
  have hn := rd.1
  unfold b_law_2
  trace_state
  refine ⟨_, rfl, by simp; omega, lcW_sub (fun k : Nat => DL.D.int k) (fun d hd Ψ N g1 g2 => ?_) fun P hP => ?_⟩
  · trace_state
    refine ⟨_, rfl, ⟨by decide, by decide +kernel⟩, fun v a b => ?_⟩
    trace_state
    · exact g1
    · exact g2
  rw [List.nil_append]
  trace_state
  rw [dat_grp1]
  refine ⟨(n, ts, xs, y, A, P), rfl, ⟨rd, gA, gA.1.sublist hP, fun d hd => hP.mem hd⟩, ?_⟩
  trace_state
  exact W_1 rd gA (k _)
theorem W_3 (hn : 1 ≤ n) (rd : ∀ y, y = 1 ∨ y = -1 → Ready n ts xs y) (k : ∀ c2 c9 c10 c11 c12, K.nx (E25 ns xs n ts c2 c6 c9 c10 c11 c12 none c14)) :
    wb S_law b_law_3 (E25 ns xs n ts c2 c6 c9 c10 c11 c12 none c14) K := by
  have key : ∀ y : Int, y = 1 ∨ y = -1 → wb S_law (tlA b_law_3) (E25 ns xs n ts c2 c6 (some (.leaf (.int y))) c10 c11 c12 none c14) K := fun y hy => by
    have rdy := rd y hy
    have h8 := rdy.1
    unfold b_law_3
    simp only [tlA]
    trace_state
    refine ⟨⟨by decide, by decide⟩, ?_⟩
    refine ⟨Nat.le_of_ble_eq_true rfl, ?_⟩
    refine lcW_all (fun _ t => ∃ g : List Nat, Grp n g ∧ t = .lst (g.map fun k : Nat => .leaf (.int k))) (fun d hd Ψ hΨ => ?_) fun us hu => ?_
    · refine bind_nm rfl ?_
      refine w_orv ?_
      trace_state
      refine ⟨⟨by show -(2 ^ 62) ≤ (n : Int); omega, by show (n : Int) < 2 ^ 62; omega⟩, ?_⟩
      simp only [Int.toNat_natCast]
      refine ⟨by simp; omega, lcW_sub (fun k : Nat => DL.D.int k) (fun d hd Ψ N g1 g2 => ?_) fun P hP => ?_⟩
      · trace_state
        refine ⟨_, rfl, ⟨by decide, by decide +kernel⟩, fun v a b => ?_⟩
        trace_state
        · exact g1
        · exact g2
      rw [List.nil_append]
      cases P with
      | nil =>
        refine ⟨false, rfl, ite_f ?_⟩
        trace_state
        exact hΨ _ ⟨[0], ⟨by decide, fun d hd => by rw [List.mem_singleton.mp hd]; omega⟩, rfl⟩
      | cons p P =>
        refine ⟨true, rfl, ite_t ?_⟩
        refine fin_lst rfl (hΨ _ ⟨p :: P, ⟨List.nodup_range.sublist hP, fun d hd => List.mem_range.mp (hP.mem hd)⟩, rfl⟩)
    obtain ⟨t1, u1, rfl, ⟨A, gA, rfl⟩, h1⟩ := hu
    obtain ⟨t2, u2, rfl, ⟨B, gB, rfl⟩, h2⟩ := h1
    have : u2 = [] := h2
    subst this
    refine ⟨_, _, rfl, Nat.le_of_ble_eq_true rfl, Nat.le_of_ble_eq_true rfl, ?_⟩
    trace_state
    rw [dat_grp1, dat_grp1]
    refine ⟨(n, ts, xs, y, A, B), rfl, ⟨rdy, gA, gB⟩, ?_⟩
    trace_state
    exact W_2 rdy gA fun _ => k _ _ _ _ _
  unfold b_law_3
  trace_state
  refine ⟨_, rfl, ⟨by decide, by decide +kernel⟩, fun v a b => ?_⟩
  have hv : v = 0 ∨ v = 1 := by omega
  rcases hv with rfl | rfl
  all_goals exact ix_lst rfl rfl rfl (fin_leaf rfl (bind_nm rfl (key _ (by decide))))
def b_law_5 : DL.B := .par2 7 8 (.mt0 0 0 (.nm 5)) (.blt .tuple (.cons (.lc [14] (.nm 14) (.sq (.nm 4)) .nop (.neg (.nm 14))) .nil)) (.for_ (.nm 6) (.rng (.cons (.int 6) .nil)) b_law_3 .nil)
theorem W_5 {c7 c8 : Option T} (hn : 1 ≤ n ∧ n ≤ 8) (hl : ts.length ≤ 24) (ok : TsOk n ts) (hx : xs.length = n) (ha : ts.any (leaves xs) = false)
    (k : ∀ c2 c6 c9 c10 c11 c12, K.nx (E25 ns xs n ts c2 c6 c9 c10 c11 c12 none none)) :
    wb S_law b_law_5 [some (.leaf (.scr ns)), some (.leaf .bag), c2, some (.leaf (.int n)), some (.leaf (itup xs)), some (.leaf (boardD n ts)), c6, c7, c8, c9, c10, c11, c12, none, none] K := by
  unfold b_law_5
  trace_state
  refine ⟨_, rfl, (n, ts), rfl, ⟨hn, hl, ok⟩, ?_⟩
  trace_state
  refine ⟨_, rfl, by simp; omega, lcW_tyM DL.D.int (fun x => .int (-x)) (fun x hx Ψ g1 => ?_) ?_⟩
  · trace_state
    exact g1
  trace_state
  refine l_tuple (.inl rfl) ?_
  rw [List.nil_append, show (xs.map fun a => T.leaf (.int (-a))) = (xs.map fun a => -a).map fun g => T.leaf (.int g) by rw [List.map_map]; rfl, mk_ints]
  trace_state
  refine ⟨⟨by decide, by decide⟩, ?_⟩
  refine forW_inv (fun _ ρ => ∃ c2 c6 c9 c10 c11 c12, ρ = E25 ns xs n ts c2 c6 c9 c10 c11 c12 none none) ⟨_, _, _, _, _, _, rfl⟩ (fun d1 r1 ρ K1 h1 k1 _ _ kr1 => ?_) fun ρ h => ?_
  · obtain ⟨c2, c6, c9, c10, c11, c12, rfl⟩ := h1
    refine bind_nm rfl ?_
    exact W_3 hn.1 (fun y hy => ⟨hn.2, hl, ok, hx, ha, hy⟩) fun _ _ _ _ _ => k1 _ ⟨_, _, _, _, _, _, rfl⟩
  · obtain ⟨c2, c6, c9, c10, c11, c12, rfl⟩ := h
    trace_state
    exact k _ _ _ _ _ _
theorem W_4 {c3 c4 c5 c7 c8 : Option T} (k : ∀ c2 c3 c4 c5 c6 c7 c8 c9 c10 c11 c12, K.nx [some (.leaf (.scr ns)), some (.leaf .bag), c2, c3, c4, c5, c6, c7, c8, c9, c10, c11, c12, none, none]) :
    wb S_law b_law_4 [some (.leaf (.scr ns)), some (.leaf .bag), c2, c3, c4, c5, c6, c7, c8, c9, c10, c11, c12, none, none] K := by
  unfold b_law_4
  trace_state
  refine ⟨_, rfl, ⟨by decide, by decide +kernel⟩, fun v1 a1 b1 => ?_⟩
  obtain ⟨n, hn⟩ := Int.eq_ofNat_of_zero_le (show 0 ≤ 1 + v1 by omega)
  trace_state
  simp only [hn]
  refine ⟨n, 9, rfl, by omega, by decide, by decide, fun xs hr hc => ?_⟩
  obtain ⟨c, c1, c2', hc⟩ := hc
  have fin5 : ∀ ts : List Tm, ts.length ≤ 24 → TsOk n ts → ts.any (leaves xs) = false → wb S_law b_law_5 [some (.leaf (.scr ns)), some (.leaf .bag), c2, some (.leaf (.int n)), some (.leaf (itup xs)), some (.leaf (boardD n ts)), c6, c7, c8, c9, c10, c11, c12, none, none] K := fun ts hl ok ha =>
    W_5 ⟨by omega, by omega⟩ hl ok hr.1 ha fun _ _ _ _ _ _ => k _ _ _ _ _ _ _ _ _ _ _
  trace_state
  refine ⟨_, rfl, ⟨by decide, by decide +kernel⟩, fun v a b => ?_⟩
  have hv : v = 0 ∨ v = 1 := by omega
  rcases hv with rfl | rfl
  all_goals
    refine ix_lst rfl rfl rfl ?_
    trace_state
    refine ⟨xs, _, _, _, rfl, by have := hr.1; omega, ⟨by decide, by decide⟩, ⟨by decide, by decide⟩, fun ts tl ht _ => ?_⟩
    have ok : TsOk n ts := fun t h => by have := (ht t h).1; rw [hr.1] at this; exact this
    have ha := near_ok ⟨c1, c2'⟩ ⟨by decide, by decide⟩ hc ht
    trace_state
    rw [dat_terms]
    refine ⟨(n, ts), rfl, ⟨⟨by omega, by omega⟩, show ts.length ≤ 24 by omega, ok⟩, ?_⟩
    refine fin_leaf rfl (bind_nm rfl ?_)
    exact fin5 ts (by omega) ok ha
theorem W_law : ∀ ns : List Int, ns.length ≤ 63 → wb S_law (tlA b_law) (some (.leaf (.scr ns)) :: some (.leaf .bag) :: List.replicate (n_law.length - 2) none) { nx := fun _ => False, rt := fun t _ => t = .leaf (.bl true) } := by
  intro ns _
  unfold b_law
  simp only [tlA]
  trace_state
  refine ⟨⟨by decide, by decide⟩, ?_⟩
  refine forW_inv (fun _ ρ => ∃ c2 c3 c4 c5 c6 c7 c8 c9 c10 c11 c12, ρ = [some (.leaf (.scr ns)), some (.leaf .bag), c2, c3, c4, c5, c6, c7, c8, c9, c10, c11, c12, none, none]) ⟨_, _, _, _, _, _, _, _, _, _, _, rfl⟩ (fun d1 r1 ρ K1 h1 k1 _ _ kr1 => ?_) fun ρ h => ?_
  · obtain ⟨c2, c3, c4, c5, c6, c7, c8, c9, c10, c11, c12, rfl⟩ := h1
    refine bind_nm rfl ?_
    exact W_4 fun _ _ _ _ _ _ _ _ _ _ _ => k1 _ ⟨_, _, _, _, _, _, _, _, _, _, _, rfl⟩
  · obtain ⟨c2, c3, c4, c5, c6, c7, c8, c9, c10, c11, c12, rfl⟩ := h
    trace_state
    rfl
end
end KT
namespace DL
open PySem PySem.Spec PyProof.Rows L2
def GlP (K : PySem.W.Frag) (mg : Str → Option Value) (y : Str) (d : D) : Prop := ∃ v u, mg y = some u ∧ RelV v u ∧ ∀ (a : An) F, a.K = K → Is a F d v
theorem gl_int {K : PySem.W.Frag} {mg : Str → Option Value} {y : Str} {n : Int} {u : Value} (h : mg y = some u) (r : RelV (.int n) u) : GlP K mg y (.int n) := ⟨.int n, u, h, r, fun a F _ => by simp only [Is]⟩
theorem isl_strs {a : An} {F : Hp} : ∀ xs : List Str, IsL a F (xs.map .str) (xs.map .str)
  | [] => by simp only [List.map_nil, IsL]
  | x :: xs => by simp only [List.map_cons, IsL]; exact ⟨_, _, rfl, by simp only [Is], isl_strs xs⟩
theorem gl_strs {K : PySem.W.Frag} {mg : Str → Option Value} {y : Str} {xs : List Str} {p : Addr} {oc : Value} {od : Option Addr} {its : Array Value} {n : Nat} {sl : Array (Option Value)} (h : mg y = some (.ref p)) (l : K.lookup p = some ⟨oc, od, .seq its n, sl⟩) (t : oc = .type "tuple") (z : its.size ≤ sizeLine) (v : Vals (xs.map V.str) its.toList) :
    GlP K mg y (.tup (xs.map .str)) := ⟨.ref p, .ref p, h, rfl, fun a F e => by
  simp only [Is]
  subst e
  exact ⟨p, xs.map .str, rfl, .inr ⟨_, its, n, l, t, rfl, z, v⟩, isl_strs xs⟩⟩
theorem al_nil {α : Type} {R : α → Prop} : ∀ y ∈ ([] : List α), R y := fun y h => by simp at h
theorem al_cons {α : Type} {R : α → Prop} {x : α} {ys : List α} (h : R x) (r : ∀ y ∈ ys, R y) : ∀ y ∈ x :: ys, R y := fun y hy => (List.mem_cons.mp hy).elim (fun e => by rw [e]; exact h) (r y)
end DL
namespace KT
open PySem PySem.Spec PyProof.Rows L2 DL
abbrev clsO (C : Addr) : Nat → Option (Addr × List Str) := fun n => if n = 0 then some (C, ["dial_count", "term_list"]) else none
theorem all_mk {l : PySem.W.OpenLaw} {w : World} {K : PySem.W.Frag} {h : Heap} {mg : Str → Option Value} {fa : Addr} (X : K.In h) (G : h.Ns mainGlobals mg) (hfa : mg "law" = some (.ref fa))
    {oc1 kV1 dc1 pm1 cd1 ct1 : Value} {od1 an1 : Option Addr} {sl1 : Array (Option Value)} {f1 : Addr}
    {oc2 kV2 dc2 pm2 cd2 ct2 : Value} {od2 an2 : Option Addr} {sl2 : Array (Option Value)} {f2 : Addr}
    {oc3 kV3 dc3 pm3 cd3 ct3 : Value} {od3 an3 : Option Addr} {sl3 : Array (Option Value)} {f3 : Addr}
    {oc4 kV4 dc4 pm4 cd4 ct4 : Value} {od4 an4 : Option Addr} {sl4 : Array (Option Value)} {f4 : Addr}
    {oc5 kV5 dc5 pm5 cd5 ct5 : Value} {od5 an5 : Option Addr} {sl5 : Array (Option Value)} {f5 : Addr}
    {oc6 kV6 dc6 pm6 cd6 ct6 : Value} {od6 an6 : Option Addr} {sl6 : Array (Option Value)} {f6 : Addr}
    {oc7 kV7 dc7 pm7 cd7 ct7 : Value} {od7 an7 : Option Addr} {sl7 : Array (Option Value)} {f7 : Addr}
    {oc8 kV8 dc8 pm8 cd8 ct8 : Value} {od8 an8 : Option Addr} {sl8 : Array (Option Value)} {f8 : Addr}
    {oc9 kV9 dc9 pm9 cd9 ct9 : Value} {od9 an9 : Option Addr} {sl9 : Array (Option Value)} {f9 : Addr}
    {oc10 kV10 dc10 pm10 cd10 ct10 : Value} {od10 an10 : Option Addr} {sl10 : Array (Option Value)} {f10 : Addr}
    {oc11 kV11 dc11 pm11 cd11 ct11 : Value} {od11 an11 : Option Addr} {sl11 : Array (Option Value)} {f11 : Addr}
    {oc12 kV12 dc12 pm12 cd12 ct12 : Value} {od12 an12 : Option Addr} {sl12 : Array (Option Value)} {f12 : Addr}
    {oc13 kV13 dc13 pm13 cd13 ct13 : Value} {od13 an13 : Option Addr} {sl13 : Array (Option Value)} {f13 : Addr}
    {oc14 kV14 dc14 pm14 cd14 ct14 : Value} {od14 an14 : Option Addr} {sl14 : Array (Option Value)} {f14 : Addr}
    {oc15 kV15 dc15 pm15 cd15 ct15 : Value} {od15 an15 : Option Addr} {sl15 : Array (Option Value)} {f15 : Addr}
    {oc16 kV16 dc16 pm16 cd16 ct16 : Value} {od16 an16 : Option Addr} {sl16 : Array (Option Value)} {f16 : Addr}
    {oc17 kV17 dc17 pm17 cd17 ct17 : Value} {od17 an17 : Option Addr} {sl17 : Array (Option Value)} {f17 : Addr}
    {oc18 kV18 dc18 pm18 cd18 ct18 : Value} {od18 an18 : Option Addr} {sl18 : Array (Option Value)} {f18 : Addr}
    {oc19 kV19 dc19 pm19 cd19 ct19 : Value} {od19 an19 : Option Addr} {sl19 : Array (Option Value)} {f19 : Addr}
    {oc20 kV20 dc20 pm20 cd20 ct20 : Value} {od20 an20 : Option Addr} {sl20 : Array (Option Value)} {f20 : Addr}
    {oc21 kV21 dc21 pm21 cd21 ct21 : Value} {od21 an21 : Option Addr} {sl21 : Array (Option Value)} {f21 : Addr}
    {oc22 kV22 dc22 pm22 cd22 ct22 : Value} {od22 an22 : Option Addr} {sl22 : Array (Option Value)} {f22 : Addr}
    {oc23 kV23 dc23 pm23 cd23 ct23 : Value} {od23 an23 : Option Addr} {sl23 : Array (Option Value)} {f23 : Addr}
    {oc24 kV24 dc24 pm24 cd24 ct24 : Value} {od24 an24 : Option Addr} {sl24 : Array (Option Value)} {f24 : Addr}
    {oc25 kV25 dc25 pm25 cd25 ct25 : Value} {od25 an25 : Option Addr} {sl25 : Array (Option Value)} {f25 : Addr}
    {oc26 kV26 dc26 pm26 cd26 ct26 : Value} {od26 an26 : Option Addr} {sl26 : Array (Option Value)} {f26 : Addr}
    {oc27 kV27 dc27 pm27 cd27 ct27 : Value} {od27 an27 : Option Addr} {sl27 : Array (Option Value)} {f27 : Addr}
    {oc28 kV28 dc28 pm28 cd28 ct28 : Value} {od28 an28 : Option Addr} {sl28 : Array (Option Value)} {f28 : Addr}
    {oc29 kV29 dc29 pm29 cd29 ct29 : Value} {od29 an29 : Option Addr} {sl29 : Array (Option Value)} {f29 : Addr}
    {oc30 kV30 dc30 pm30 cd30 ct30 : Value} {od30 an30 : Option Addr} {sl30 : Array (Option Value)} {f30 : Addr}
    {oc31 kV31 dc31 pm31 cd31 ct31 : Value} {od31 an31 : Option Addr} {sl31 : Array (Option Value)} {f31 : Addr}
    {oc32 kV32 dc32 pm32 cd32 ct32 : Value} {od32 an32 : Option Addr} {sl32 : Array (Option Value)} {f32 : Addr}
    {oc33 kV33 dc33 pm33 cd33 ct33 : Value} {od33 an33 : Option Addr} {sl33 : Array (Option Value)} {f33 : Addr}
    {oc34 kV34 dc34 pm34 cd34 ct34 : Value} {od34 an34 : Option Addr} {sl34 : Array (Option Value)} {f34 : Addr}
    {oc35 kV35 dc35 pm35 cd35 ct35 : Value} {od35 an35 : Option Addr} {sl35 : Array (Option Value)} {f35 : Addr}
    {oc36 kV36 dc36 pm36 cd36 ct36 : Value} {od36 an36 : Option Addr} {sl36 : Array (Option Value)} {f36 : Addr}
    {C0 : Addr} (aC : PySem.W.nsIn K mainGlobals "Board" = some (some (.ref C0)))
    (a1 : PySem.W.nsIn K mainGlobals "is_pulling" = some (some (.ref f1)))
    (l1 : K.lookup f1 = some ⟨oc1, od1, .func (PySem.W.fnOf "is_pulling" "is_pulling" (defArgs s_is_pulling) (defBody s_is_pulling) (defScope s_is_pulling) .none kV1 dc1 pm1 an1 cd1 ct1), sl1⟩) (c1 : PySem.W.codeIn K cd1 "is_pulling" = true) (k1 : PySem.W.keepIn K (.ref f1) = true)
    (a2 : PySem.W.nsIn K mainGlobals "other_of" = some (some (.ref f2)))
    (l2 : K.lookup f2 = some ⟨oc2, od2, .func (PySem.W.fnOf "other_of" "other_of" (defArgs s_other_of) (defBody s_other_of) (defScope s_other_of) .none kV2 dc2 pm2 an2 cd2 ct2), sl2⟩) (c2 : PySem.W.codeIn K cd2 "other_of" = true) (k2 : PySem.W.keepIn K (.ref f2) = true)
    (a3 : PySem.W.nsIn K mainGlobals "ends_of" = some (some (.ref f3)))
    (l3 : K.lookup f3 = some ⟨oc3, od3, .func (PySem.W.fnOf "ends_of" "ends_of" (defArgs s_ends_of) (defBody s_ends_of) (defScope s_ends_of) .none kV3 dc3 pm3 an3 cd3 ct3), sl3⟩) (c3 : PySem.W.codeIn K cd3 "ends_of" = true) (k3 : PySem.W.keepIn K (.ref f3) = true)
    (a4 : PySem.W.nsIn K mainGlobals "force_of" = some (some (.ref f4)))
    (l4 : K.lookup f4 = some ⟨oc4, od4, .func (PySem.W.fnOf "force_of" "force_of" (defArgs s_force_of) (defBody s_force_of) (defScope s_force_of) .none kV4 dc4 pm4 an4 cd4 ct4), sl4⟩) (c4 : PySem.W.codeIn K cd4 "force_of" = true) (k4 : PySem.W.keepIn K (.ref f4) = true)
    (a5 : PySem.W.nsIn K mainGlobals "argument" = some (some (.ref f5)))
    (l5 : K.lookup f5 = some ⟨oc5, od5, .func (PySem.W.fnOf "argument" "argument" (defArgs s_argument) (defBody s_argument) (defScope s_argument) .none kV5 dc5 pm5 an5 cd5 ct5), sl5⟩) (c5 : PySem.W.codeIn K cd5 "argument" = true) (k5 : PySem.W.keepIn K (.ref f5) = true)
    (a6 : PySem.W.nsIn K mainGlobals "distance" = some (some (.ref f6)))
    (l6 : K.lookup f6 = some ⟨oc6, od6, .func (PySem.W.fnOf "distance" "distance" (defArgs s_distance) (defBody s_distance) (defScope s_distance) .none kV6 dc6 pm6 an6 cd6 ct6), sl6⟩) (c6 : PySem.W.codeIn K cd6 "distance" = true) (k6 : PySem.W.keepIn K (.ref f6) = true)
    (a7 : PySem.W.nsIn K mainGlobals "with_ends" = some (some (.ref f7)))
    (l7 : K.lookup f7 = some ⟨oc7, od7, .func (PySem.W.fnOf "with_ends" "with_ends" (defArgs s_with_ends) (defBody s_with_ends) (defScope s_with_ends) .none kV7 dc7 pm7 an7 cd7 ct7), sl7⟩) (c7 : PySem.W.codeIn K cd7 "with_ends" = true) (k7 : PySem.W.keepIn K (.ref f7) = true)
    (a8 : PySem.W.nsIn K mainGlobals "mirrored" = some (some (.ref f8)))
    (l8 : K.lookup f8 = some ⟨oc8, od8, .func (PySem.W.fnOf "mirrored" "mirrored" (defArgs s_mirrored) (defBody s_mirrored) (defScope s_mirrored) .none kV8 dc8 pm8 an8 cd8 ct8), sl8⟩) (c8 : PySem.W.codeIn K cd8 "mirrored" = true) (k8 : PySem.W.keepIn K (.ref f8) = true)
    (a9 : PySem.W.nsIn K mainGlobals "need_allowed" = some (some (.ref f9)))
    (l9 : K.lookup f9 = some ⟨oc9, od9, .func (PySem.W.fnOf "need_allowed" "need_allowed" (defArgs s_need_allowed) (defBody s_need_allowed) (defScope s_need_allowed) .none kV9 dc9 pm9 an9 cd9 ct9), sl9⟩) (c9 : PySem.W.codeIn K cd9 "need_allowed" = true) (k9 : PySem.W.keepIn K (.ref f9) = true)
    (a10 : PySem.W.nsIn K mainGlobals "growth" = some (some (.ref f10)))
    (l10 : K.lookup f10 = some ⟨oc10, od10, .func (PySem.W.fnOf "growth" "growth" (defArgs s_growth) (defBody s_growth) (defScope s_growth) .none kV10 dc10 pm10 an10 cd10 ct10), sl10⟩) (c10 : PySem.W.codeIn K cd10 "growth" = true) (k10 : PySem.W.keepIn K (.ref f10) = true)
    (a11 : PySem.W.nsIn K mainGlobals "local_gains" = some (some (.ref f11)))
    (l11 : K.lookup f11 = some ⟨oc11, od11, .func (PySem.W.fnOf "local_gains" "local_gains" (defArgs s_local_gains) (defBody s_local_gains) (defScope s_local_gains) .none kV11 dc11 pm11 an11 cd11 ct11), sl11⟩) (c11 : PySem.W.codeIn K cd11 "local_gains" = true) (k11 : PySem.W.keepIn K (.ref f11) = true)
    (a12 : PySem.W.nsIn K mainGlobals "group_gain" = some (some (.ref f12)))
    (l12 : K.lookup f12 = some ⟨oc12, od12, .func (PySem.W.fnOf "group_gain" "group_gain" (defArgs s_group_gain) (defBody s_group_gain) (defScope s_group_gain) .none kV12 dc12 pm12 an12 cd12 ct12), sl12⟩) (c12 : PySem.W.codeIn K cd12 "group_gain" = true) (k12 : PySem.W.keepIn K (.ref f12) = true)
    (a13 : PySem.W.nsIn K mainGlobals "no_hands" = some (some (.ref f13)))
    (l13 : K.lookup f13 = some ⟨oc13, od13, .func (PySem.W.fnOf "no_hands" "no_hands" (defArgs s_no_hands) (defBody s_no_hands) (defScope s_no_hands) .none kV13 dc13 pm13 an13 cd13 ct13), sl13⟩) (c13 : PySem.W.codeIn K cd13 "no_hands" = true) (k13 : PySem.W.keepIn K (.ref f13) = true)
    (a14 : PySem.W.nsIn K mainGlobals "gain" = some (some (.ref f14)))
    (l14 : K.lookup f14 = some ⟨oc14, od14, .func (PySem.W.fnOf "gain" "gain" (defArgs s_gain) (defBody s_gain) (defScope s_gain) .none kV14 dc14 pm14 an14 cd14 ct14), sl14⟩) (c14 : PySem.W.codeIn K cd14 "gain" = true) (k14 : PySem.W.keepIn K (.ref f14) = true)
    (a15 : PySem.W.nsIn K mainGlobals "is_integer" = some (some (.ref f15)))
    (l15 : K.lookup f15 = some ⟨oc15, od15, .func (PySem.W.fnOf "is_integer" "is_integer" (defArgs s_is_integer) (defBody s_is_integer) (defScope s_is_integer) .none kV15 dc15 pm15 an15 cd15 ct15), sl15⟩) (c15 : PySem.W.codeIn K cd15 "is_integer" = true) (k15 : PySem.W.keepIn K (.ref f15) = true)
    (a16 : PySem.W.nsIn K mainGlobals "is_between" = some (some (.ref f16)))
    (l16 : K.lookup f16 = some ⟨oc16, od16, .func (PySem.W.fnOf "is_between" "is_between" (defArgs s_is_between) (defBody s_is_between) (defScope s_is_between) .none kV16 dc16 pm16 an16 cd16 ct16), sl16⟩) (c16 : PySem.W.codeIn K cd16 "is_between" = true) (k16 : PySem.W.keepIn K (.ref f16) = true)
    (a17 : PySem.W.nsIn K mainGlobals "is_value" = some (some (.ref f17)))
    (l17 : K.lookup f17 = some ⟨oc17, od17, .func (PySem.W.fnOf "is_value" "is_value" (defArgs s_is_value) (defBody s_is_value) (defScope s_is_value) .none kV17 dc17 pm17 an17 cd17 ct17), sl17⟩) (c17 : PySem.W.codeIn K cd17 "is_value" = true) (k17 : PySem.W.keepIn K (.ref f17) = true)
    (a18 : PySem.W.nsIn K mainGlobals "is_force" = some (some (.ref f18)))
    (l18 : K.lookup f18 = some ⟨oc18, od18, .func (PySem.W.fnOf "is_force" "is_force" (defArgs s_is_force) (defBody s_is_force) (defScope s_is_force) .none kV18 dc18 pm18 an18 cd18 ct18), sl18⟩) (c18 : PySem.W.codeIn K cd18 "is_force" = true) (k18 : PySem.W.keepIn K (.ref f18) = true)
    (a19 : PySem.W.nsIn K mainGlobals "is_term" = some (some (.ref f19)))
    (l19 : K.lookup f19 = some ⟨oc19, od19, .func (PySem.W.fnOf "is_term" "is_term" (defArgs s_is_term) (defBody s_is_term) (defScope s_is_term) .none kV19 dc19 pm19 an19 cd19 ct19), sl19⟩) (c19 : PySem.W.codeIn K cd19 "is_term" = true) (k19 : PySem.W.keepIn K (.ref f19) = true)
    (a20 : PySem.W.nsIn K mainGlobals "_law_bag" = some (some (.ref f20)))
    (l20 : K.lookup f20 = some ⟨oc20, od20, .func (PySem.W.fnOf "_law_bag" "_law_bag" (defArgs s_law_bag) (defBody s_law_bag) (defScope s_law_bag) .none kV20 dc20 pm20 an20 cd20 ct20), sl20⟩) (c20 : PySem.W.codeIn K cd20 "_law_bag" = true) (k20 : PySem.W.keepIn K (.ref f20) = true)
    (a21 : PySem.W.nsIn K mainGlobals "_law_take" = some (some (.ref f21)))
    (l21 : K.lookup f21 = some ⟨oc21, od21, .func (PySem.W.fnOf "_law_take" "_law_take" (defArgs s_law_take) (defBody s_law_take) (defScope s_law_take) .none kV21 dc21 pm21 an21 cd21 ct21), sl21⟩) (c21 : PySem.W.codeIn K cd21 "_law_take" = true) (k21 : PySem.W.keepIn K (.ref f21) = true)
    (a22 : PySem.W.nsIn K mainGlobals "_law_stepped" = some (some (.ref f22)))
    (l22 : K.lookup f22 = some ⟨oc22, od22, .func (PySem.W.fnOf "_law_stepped" "_law_stepped" (defArgs s_law_stepped) (defBody s_law_stepped) (defScope s_law_stepped) .none kV22 dc22 pm22 an22 cd22 ct22), sl22⟩) (c22 : PySem.W.codeIn K cd22 "_law_stepped" = true) (k22 : PySem.W.keepIn K (.ref f22) = true)
    (a23 : PySem.W.nsIn K mainGlobals "_law_number" = some (some (.ref f23)))
    (l23 : K.lookup f23 = some ⟨oc23, od23, .func (PySem.W.fnOf "_law_number" "_law_number" (defArgs s_law_number) (defBody s_law_number) (defScope s_law_number) .none kV23 dc23 pm23 an23 cd23 ct23), sl23⟩) (c23 : PySem.W.codeIn K cd23 "_law_number" = true) (k23 : PySem.W.keepIn K (.ref f23) = true)
    (a24 : PySem.W.nsIn K mainGlobals "_law_standing" = some (some (.ref f24)))
    (l24 : K.lookup f24 = some ⟨oc24, od24, .func (PySem.W.fnOf "_law_standing" "_law_standing" (defArgs s_law_standing) (defBody s_law_standing) (defScope s_law_standing) .none kV24 dc24 pm24 an24 cd24 ct24), sl24⟩) (c24 : PySem.W.codeIn K cd24 "_law_standing" = true) (k24 : PySem.W.keepIn K (.ref f24) = true)
    (a25 : PySem.W.nsIn K mainGlobals "_law_range" = some (some (.ref f25)))
    (l25 : K.lookup f25 = some ⟨oc25, od25, .func (PySem.W.fnOf "_law_range" "_law_range" (defArgs s_law_range) (defBody s_law_range) (defScope s_law_range) .none kV25 dc25 pm25 an25 cd25 ct25), sl25⟩) (c25 : PySem.W.codeIn K cd25 "_law_range" = true) (k25 : PySem.W.keepIn K (.ref f25) = true)
    (a26 : PySem.W.nsIn K mainGlobals "_law_term" = some (some (.ref f26)))
    (l26 : K.lookup f26 = some ⟨oc26, od26, .func (PySem.W.fnOf "_law_term" "_law_term" (defArgs s_law_term) (defBody s_law_term) (defScope s_law_term) .none kV26 dc26 pm26 an26 cd26 ct26), sl26⟩) (c26 : PySem.W.codeIn K cd26 "_law_term" = true) (k26 : PySem.W.keepIn K (.ref f26) = true)
    (a27 : PySem.W.nsIn K mainGlobals "_law_terms" = some (some (.ref f27)))
    (l27 : K.lookup f27 = some ⟨oc27, od27, .func (PySem.W.fnOf "_law_terms" "_law_terms" (defArgs s_law_terms) (defBody s_law_terms) (defScope s_law_terms) .none kV27 dc27 pm27 an27 cd27 ct27), sl27⟩) (c27 : PySem.W.codeIn K cd27 "_law_terms" = true) (k27 : PySem.W.keepIn K (.ref f27) = true)
    (a28 : PySem.W.nsIn K mainGlobals "_law_or_none" = some (some (.ref f28)))
    (l28 : K.lookup f28 = some ⟨oc28, od28, .func (PySem.W.fnOf "_law_or_none" "_law_or_none" (defArgs s_law_or_none) (defBody s_law_or_none) (defScope s_law_or_none) .none kV28 dc28 pm28 an28 cd28 ct28), sl28⟩) (c28 : PySem.W.codeIn K cd28 "_law_or_none" = true) (k28 : PySem.W.keepIn K (.ref f28) = true)
    (a29 : PySem.W.nsIn K mainGlobals "_law_pair_right" = some (some (.ref f29)))
    (l29 : K.lookup f29 = some ⟨oc29, od29, .func (PySem.W.fnOf "_law_pair_right" "_law_pair_right" (defArgs s_law_pair_right) (defBody s_law_pair_right) (defScope s_law_pair_right) .none kV29 dc29 pm29 an29 cd29 ct29), sl29⟩) (c29 : PySem.W.codeIn K cd29 "_law_pair_right" = true) (k29 : PySem.W.keepIn K (.ref f29) = true)
    (a30 : PySem.W.nsIn K mainGlobals "_law_back_right" = some (some (.ref f30)))
    (l30 : K.lookup f30 = some ⟨oc30, od30, .func (PySem.W.fnOf "_law_back_right" "_law_back_right" (defArgs s_law_back_right) (defBody s_law_back_right) (defScope s_law_back_right) .none kV30 dc30 pm30 an30 cd30 ct30), sl30⟩) (c30 : PySem.W.codeIn K cd30 "_law_back_right" = true) (k30 : PySem.W.keepIn K (.ref f30) = true)
    (a31 : PySem.W.nsIn K mainGlobals "law" = some (some (.ref f31)))
    (l31 : K.lookup f31 = some ⟨oc31, od31, .func (PySem.W.fnOf "law" "law" (defArgs s_law) (defBody s_law) (defScope s_law) .none kV31 dc31 pm31 an31 cd31 ct31), sl31⟩) (c31 : PySem.W.codeIn K cd31 "law" = true) (k31 : PySem.W.keepIn K (.ref f31) = true)
    (a32 : PySem.W.findIn K (.ref C0) "__init__" = some (some (.ref f32))) (i32 : PySem.W.isFn K (.ref f32) = true)
    (l32 : K.lookup f32 = some ⟨oc32, od32, .func (PySem.W.fnOf "__init__" "Board.__init__" (defArgs s_Board_init_) (defBody s_Board_init_) (defScope s_Board_init_) .none kV32 dc32 pm32 an32 cd32 ct32), sl32⟩) (c32 : PySem.W.codeIn K cd32 "Board.__init__" = true) (k32 : PySem.W.keepIn K (.ref f32) = true)
    {p33 : Addr} {r33 : List Value} (a33 : PySem.W.findIn K (.ref C0) "size" = some (some (.ref p33))) (e33 : PySem.W.recIn K p33 "property" = some (.ref f33 :: r33)) (g33 : PySem.W.specialIn K (.ref p33) "__get__" = some (some (.builtin "property.__get__"))) (t33 : PySem.W.takesIn K (.ref p33) = some true)
    (l33 : K.lookup f33 = some ⟨oc33, od33, .func (PySem.W.fnOf "size" "Board.size" (defArgs s_Board_size) (defBody s_Board_size) (defScope s_Board_size) .none kV33 dc33 pm33 an33 cd33 ct33), sl33⟩) (c33 : PySem.W.codeIn K cd33 "Board.size" = true) (k33 : PySem.W.keepIn K (.ref f33) = true)
    (a34 : PySem.W.findIn K (.ref C0) "terms" = some (some (.ref f34))) (i34 : PySem.W.isFn K (.ref f34) = true)
    (l34 : K.lookup f34 = some ⟨oc34, od34, .func (PySem.W.fnOf "terms" "Board.terms" (defArgs s_Board_terms) (defBody s_Board_terms) (defScope s_Board_terms) .none kV34 dc34 pm34 an34 cd34 ct34), sl34⟩) (c34 : PySem.W.codeIn K cd34 "Board.terms" = true) (k34 : PySem.W.keepIn K (.ref f34) = true)
    (a35 : PySem.W.findIn K (.ref C0) "left" = some (some (.ref f35))) (i35 : PySem.W.isFn K (.ref f35) = true)
    (l35 : K.lookup f35 = some ⟨oc35, od35, .func (PySem.W.fnOf "left" "Board.left" (defArgs s_Board_left) (defBody s_Board_left) (defScope s_Board_left) .none kV35 dc35 pm35 an35 cd35 ct35), sl35⟩) (c35 : PySem.W.codeIn K cd35 "Board.left" = true) (k35 : PySem.W.keepIn K (.ref f35) = true)
    (a36 : PySem.W.findIn K (.ref C0) "mirrored" = some (some (.ref f36))) (i36 : PySem.W.isFn K (.ref f36) = true)
    (l36 : K.lookup f36 = some ⟨oc36, od36, .func (PySem.W.fnOf "mirrored" "Board.mirrored" (defArgs s_Board_mirrored) (defBody s_Board_mirrored) (defScope s_Board_mirrored) .none kV36 dc36 pm36 an36 cd36 ct36), sl36⟩) (c36 : PySem.W.codeIn K cd36 "Board.mirrored" = true) (k36 : PySem.W.keepIn K (.ref f36) = true)
    (pg : PySem.W.plainGet K C0 Str.empty = true) (hd : PySem.W.hasDictIn K C0 = true) (po : PySem.W.plainOver K C0 = true) (sa : PySem.W.findIn K (.ref C0) "__setattr__" = some (some (.builtin "object.__setattr__"))) (mk : PySem.W.makesIn K C0 = true) (kc : PySem.W.keepIn K (.ref C0) = true)
    (nf0 : PySem.W.findIn K (.ref C0) "dial_count" = some none)
    (nf1 : PySem.W.findIn K (.ref C0) "term_list" = some none)
    (al_mirrored_terms : PySem.W.nsIn K mainGlobals "mirrored_terms" = some (some (.ref f8)))
    {u_BLOCK : Value} (g_BLOCK : PySem.W.nsIn K mainGlobals "BLOCK" = some (some u_BLOCK)) (r_BLOCK : RelV (V.int 1000000) u_BLOCK)
    {u_FARTHEST : Value} (g_FARTHEST : PySem.W.nsIn K mainGlobals "FARTHEST" = some (some u_FARTHEST)) (r_FARTHEST : RelV (V.int 1000000000000000000) u_FARTHEST)
    {u_MOST_FORCE : Value} (g_MOST_FORCE : PySem.W.nsIn K mainGlobals "MOST_FORCE" = some (some u_MOST_FORCE)) (r_MOST_FORCE : RelV (V.int 30) u_MOST_FORCE)
    {p_WORDS : Addr} {oc_WORDS : Value} {od_WORDS : Option Addr} {it_WORDS : Array Value} {n_WORDS : Nat} {sl_WORDS : Array (Option Value)} (g_WORDS : PySem.W.nsIn K mainGlobals "WORDS" = some (some (.ref p_WORDS))) (l_WORDS : K.lookup p_WORDS = some ⟨oc_WORDS, od_WORDS, .seq it_WORDS n_WORDS, sl_WORDS⟩) (t_WORDS : oc_WORDS = .type "tuple") (z_WORDS : it_WORDS.size ≤ sizeLine) (v_WORDS : Vals ((["wish", "tie", "stop", "bar"] : List Str).map V.str) it_WORDS.toList)
    {u_MOST_DIALS : Value} (g_MOST_DIALS : PySem.W.nsIn K mainGlobals "MOST_DIALS" = some (some u_MOST_DIALS)) (r_MOST_DIALS : RelV (V.int 8) u_MOST_DIALS)
    {u_MOST_TERMS : Value} (g_MOST_TERMS : PySem.W.nsIn K mainGlobals "MOST_TERMS" = some (some u_MOST_TERMS)) (r_MOST_TERMS : RelV (V.int 24) u_MOST_TERMS)
    (z_len : PySem.W.nsIn K mainGlobals "len" = some none)
    (z_abs : PySem.W.nsIn K mainGlobals "abs" = some none)
    (z_max : PySem.W.nsIn K mainGlobals "max" = some none)
    (z_range : PySem.W.nsIn K mainGlobals "range" = some none)
    (z_sum : PySem.W.nsIn K mainGlobals "sum" = some none)
    (z_isinstance : PySem.W.nsIn K mainGlobals "isinstance" = some none)
    (z_bool : PySem.W.nsIn K mainGlobals "bool" = some none)
    (z_int : PySem.W.nsIn K mainGlobals "int" = some none)
    (z_str : PySem.W.nsIn K mainGlobals "str" = some none)
    (z_tuple : PySem.W.nsIn K mainGlobals "tuple" = some none)
    (z_all : PySem.W.nsIn K mainGlobals "all" = some none)
    (z_min : PySem.W.nsIn K mainGlobals "min" = some none)
    (z_sorted : PySem.W.nsIn K mainGlobals "sorted" = some none)
    (z_set : PySem.W.nsIn K mainGlobals "set" = some none)
    (z_list : PySem.W.nsIn K mainGlobals "list" = some none)
    (z_enumerate : PySem.W.nsIn K mainGlobals "enumerate" = some none) :
    ∃ fd : FuncData, (∀ (s : Shared) (v : Value), BindsTo s fd ⟨[v], []⟩ [("_law_script", v)]) ∧ ∀ base : Heap, K.In base → base.Ns mainGlobals mg → FnG l.prog w K mg base L2.CX0 8 fa fd ["_law_script"] (spLaw K) := by
  have e := hfa.symm.trans (PySem.W.mg_of X G a31)
  cases e
  have F1 := L2.fun_mk (st := s_is_pulling) l1 c1 k1
  have F2 := L2.fun_mk (st := s_other_of) l2 c2 k2
  have F3 := L2.fun_mk (st := s_ends_of) l3 c3 k3
  have F4 := L2.fun_mk (st := s_force_of) l4 c4 k4
  have F5 := L2.fun_mk (st := s_argument) l5 c5 k5
  have F6 := L2.fun_mk (st := s_distance) l6 c6 k6
  have F7 := L2.fun_mk (st := s_with_ends) l7 c7 k7
  have F8 := L2.fun_mk (st := s_mirrored) l8 c8 k8
  have F9 := L2.fun_mk (st := s_need_allowed) l9 c9 k9
  have F10 := L2.fun_mk (st := s_growth) l10 c10 k10
  have F11 := L2.fun_mk (st := s_local_gains) l11 c11 k11
  have F12 := L2.fun_mk (st := s_group_gain) l12 c12 k12
  have F13 := L2.fun_mk (st := s_no_hands) l13 c13 k13
  have F14 := L2.fun_mk (st := s_gain) l14 c14 k14
  have F15 := L2.fun_mk (st := s_is_integer) l15 c15 k15
  have F16 := L2.fun_mk (st := s_is_between) l16 c16 k16
  have F17 := L2.fun_mk (st := s_is_value) l17 c17 k17
  have F18 := L2.fun_mk (st := s_is_force) l18 c18 k18
  have F19 := L2.fun_mk (st := s_is_term) l19 c19 k19
  have F20 := L2.fun_mk (st := s_law_bag) l20 c20 k20
  have F21 := L2.fun_mk (st := s_law_take) l21 c21 k21
  have F22 := L2.fun_mk (st := s_law_stepped) l22 c22 k22
  have F23 := L2.fun_mk (st := s_law_number) l23 c23 k23
  have F24 := L2.fun_mk (st := s_law_standing) l24 c24 k24
  have F25 := L2.fun_mk (st := s_law_range) l25 c25 k25
  have F26 := L2.fun_mk (st := s_law_term) l26 c26 k26
  have F27 := L2.fun_mk (st := s_law_terms) l27 c27 k27
  have F28 := L2.fun_mk (st := s_law_or_none) l28 c28 k28
  have F29 := L2.fun_mk (st := s_law_pair_right) l29 c29 k29
  have F30 := L2.fun_mk (st := s_law_back_right) l30 c30 k30
  have F31 := L2.fun_mk (st := s_law) l31 c31 k31
  have F32 := L2.fun_mk (st := s_Board_init_) l32 c32 k32
  have F33 := L2.fun_mk (st := s_Board_size) l33 c33 k33
  have F34 := L2.fun_mk (st := s_Board_terms) l34 c34 k34
  have F35 := L2.fun_mk (st := s_Board_left) l35 c35 k35
  have F36 := L2.fun_mk (st := s_Board_mirrored) l36 c36 k36
  refine ⟨PySem.W.fnOf "law" "law" (defArgs s_law) (defBody s_law) (defScope s_law) .none kV31 dc31 pm31 an31 cd31 ct31, fun s v => .of_eq rfl, fun base _ _ => ?_⟩
  have y_len := PySem.W.mg_none_of X G z_len
  have y_abs := PySem.W.mg_none_of X G z_abs
  have y_max := PySem.W.mg_none_of X G z_max
  have y_range := PySem.W.mg_none_of X G z_range
  have y_sum := PySem.W.mg_none_of X G z_sum
  have y_isinstance := PySem.W.mg_none_of X G z_isinstance
  have y_bool := PySem.W.mg_none_of X G z_bool
  have y_int := PySem.W.mg_none_of X G z_int
  have y_str := PySem.W.mg_none_of X G z_str
  have y_tuple := PySem.W.mg_none_of X G z_tuple
  have y_all := PySem.W.mg_none_of X G z_all
  have y_min := PySem.W.mg_none_of X G z_min
  have y_sorted := PySem.W.mg_none_of X G z_sorted
  have y_set := PySem.W.mg_none_of X G z_set
  have y_list := PySem.W.mg_none_of X G z_list
  have y_enumerate := PySem.W.mg_none_of X G z_enumerate
  have cl0 : Cls K C0 := ⟨pg, hd, po, sa⟩
  have G_BLOCK : GlP K mg "BLOCK" (.int 1000000) := gl_int (PySem.W.mg_of X G g_BLOCK) r_BLOCK
  have G_FARTHEST : GlP K mg "FARTHEST" (.int 1000000000000000000) := gl_int (PySem.W.mg_of X G g_FARTHEST) r_FARTHEST
  have G_MOST_FORCE : GlP K mg "MOST_FORCE" (.int 30) := gl_int (PySem.W.mg_of X G g_MOST_FORCE) r_MOST_FORCE
  have G_WORDS := gl_strs (xs := ["wish", "tie", "stop", "bar"]) (PySem.W.mg_of X G g_WORDS) l_WORDS t_WORDS z_WORDS v_WORDS
  have G_MOST_DIALS : GlP K mg "MOST_DIALS" (.int 8) := gl_int (PySem.W.mg_of X G g_MOST_DIALS) r_MOST_DIALS
  have G_MOST_TERMS : GlP K mg "MOST_TERMS" (.int 24) := gl_int (PySem.W.mg_of X G g_MOST_TERMS) r_MOST_TERMS
  have B_is_pulling : FnB l.prog w K mg base (clsO C0) 1 "is_pulling" F_is_pulling := ⟨⟨f1, _, ["term"], fnD (c := c_is_pulling) (S := S_is_pulling) F1 sc_is_pulling rfl ck_is_pulling fns_nil gls_nil bs_nil W_is_pulling, PySem.W.mg_of X G a1, k1, F1.binds (ps := ["term"]) fun _ _ _ _ _ _ us hl => match us, hl with | [_], _ => rfl⟩, M_is_pulling⟩
  have B_other_of : FnB l.prog w K mg base (clsO C0) 1 "other_of" F_other_of := ⟨⟨f2, _, ["term"], fnD (c := c_other_of) (S := S_other_of) F2 sc_other_of rfl ck_other_of fns_nil gls_nil bs_nil W_other_of, PySem.W.mg_of X G a2, k2, F2.binds (ps := ["term"]) fun _ _ _ _ _ _ us hl => match us, hl with | [_], _ => rfl⟩, M_other_of⟩
  have B_ends_of : FnB l.prog w K mg base (clsO C0) 1 "ends_of" F_ends_of := ⟨⟨f3, _, ["term"], fnD (c := c_ends_of) (S := S_ends_of) F3 sc_ends_of rfl ck_ends_of fns_nil gls_nil bs_nil W_ends_of, PySem.W.mg_of X G a3, k3, F3.binds (ps := ["term"]) fun _ _ _ _ _ _ us hl => match us, hl with | [_], _ => rfl⟩, M_ends_of⟩
  have B_force_of : FnB l.prog w K mg base (clsO C0) 1 "force_of" F_force_of := ⟨⟨f4, _, ["term"], fnD (c := c_force_of) (S := S_force_of) F4 sc_force_of rfl ck_force_of fns_nil gls_nil bs_nil W_force_of, PySem.W.mg_of X G a4, k4, F4.binds (ps := ["term"]) fun _ _ _ _ _ _ us hl => match us, hl with | [_], _ => rfl⟩, M_force_of⟩
  have B_with_ends : FnB l.prog w K mg base (clsO C0) 1 "with_ends" F_with_ends := ⟨⟨f7, _, ["term", "low", "high"], fnD (c := c_with_ends) (S := S_with_ends) F7 sc_with_ends rfl ck_with_ends fns_nil gls_nil bs_nil W_with_ends, PySem.W.mg_of X G a7, k7, F7.binds (ps := ["term", "low", "high"]) fun _ _ _ _ _ _ us hl => match us, hl with | [_, _, _], _ => rfl⟩, M_with_ends⟩
  have B_group_gain : FnB l.prog w K mg base (clsO C0) 1 "group_gain" F_group_gain := ⟨⟨f12, _, ["local", "group"], fnD (c := c_group_gain) (S := S_group_gain) F12 sc_group_gain rfl ck_group_gain fns_nil gls_nil (bs_cons y_range (bs_cons y_len (bs_cons y_sum bs_nil))) W_group_gain, PySem.W.mg_of X G a12, k12, F12.binds (ps := ["local", "group"]) fun _ _ _ _ _ _ us hl => match us, hl with | [_, _], _ => rfl⟩, M_group_gain⟩
  have B_is_integer : FnB l.prog w K mg base (clsO C0) 1 "is_integer" F_is_integer := ⟨⟨f15, _, ["thing"], fnD (c := c_is_integer) (S := S_is_integer) F15 sc_is_integer rfl ck_is_integer fns_nil gls_nil (bs_cons y_isinstance (bs_cons y_bool (bs_cons y_int bs_nil))) W_is_integer, PySem.W.mg_of X G a15, k15, F15.binds (ps := ["thing"]) fun _ _ _ _ _ _ us hl => match us, hl with | [_], _ => rfl⟩, M_is_integer⟩
  have B_law_bag : FnB l.prog w K mg base (clsO C0) 1 "_law_bag" bagF := ⟨⟨f20, _, ["_law_script"], fnBag F20 sc_law_bag ck_law_bag y_abs, PySem.W.mg_of X G a20, k20, F20.binds (ps := ["_law_script"]) fun _ _ _ _ _ _ us hl => match us, hl with | [_], _ => rfl⟩, bagF_mono⟩
  have B_law_take : FnB l.prog w K mg base (clsO C0) 1 "_law_take" takeF := ⟨⟨f21, _, ["_law_bag_here", "_law_many"], fnTake F21 sc_law_take ck_law_take y_len, PySem.W.mg_of X G a21, k21, F21.binds (ps := ["_law_bag_here", "_law_many"]) fun _ _ _ _ _ _ us hl => match us, hl with | [_, _], _ => rfl⟩, takeF_mono⟩
  have B_law_stepped : FnB l.prog w K mg base (clsO C0) 1 "_law_stepped" F_law_stepped := ⟨⟨f22, _, ["_law_standing_here", "_law_way", "_law_group"], fnD (c := c_law_stepped) (S := S_law_stepped) F22 sc_law_stepped rfl ck_law_stepped fns_nil gls_nil (bs_cons y_tuple (bs_cons y_range (bs_cons y_len (bs_cons y_int bs_nil)))) W_law_stepped, PySem.W.mg_of X G a22, k22, F22.binds (ps := ["_law_standing_here", "_law_way", "_law_group"]) fun _ _ _ _ _ _ us hl => match us, hl with | [_, _, _], _ => rfl⟩, M_law_stepped⟩
  have B_Board_size : PrP l.prog w K mg base (clsO C0) 2 (0, "size") F_Board_size := ⟨⟨C0, f33, p33, ["dial_count", "term_list"], _, 1, ["self"], Nat.le_refl _, rfl, cl0, ⟨a33, g33, t33, _, e33⟩, fnD (c := c_Board_size) (S := S_Board_size) F33 sc_Board_size rfl ck_Board_size fns_nil gls_nil bs_nil W_Board_size (obMk pl_nil pl_nil pl_nil (al_cons ⟨C0, ["dial_count", "term_list"], rfl, rfl, by decide +kernel, cl0, nf0⟩ al_nil) al_nil), F33.binds (ps := ["self"]) fun _ _ _ _ _ _ us hl => match us, hl with | [_], _ => rfl⟩, M_Board_size⟩
  have B_Board_terms : MtP l.prog w K mg base (clsO C0) 1 (0, "terms") F_Board_terms := ⟨⟨C0, f34, ["dial_count", "term_list"], _, ["self"], rfl, by decide +kernel, cl0, ⟨a34, i34, k34⟩, fnD (c := c_Board_terms) (S := S_Board_terms) F34 sc_Board_terms rfl ck_Board_terms fns_nil gls_nil (bs_cons y_list bs_nil) W_Board_terms (obMk pl_nil pl_nil pl_nil (al_cons ⟨C0, ["dial_count", "term_list"], rfl, rfl, by decide +kernel, cl0, nf1⟩ al_nil) al_nil), F34.binds (ps := ["self"]) fun _ _ _ _ _ _ us hl => match us, hl with | [_], _ => rfl⟩, M_Board_terms⟩
  have B_argument : FnB l.prog w K mg base (clsO C0) 2 "argument" F_argument := ⟨⟨f5, _, ["term", "standing"], fnD (c := c_argument) (S := S_argument) F5 sc_argument rfl ck_argument (fns_cons (B_other_of.mono (by decide)) fns_nil) gls_nil bs_nil W_argument, PySem.W.mg_of X G a5, k5, F5.binds (ps := ["term", "standing"]) fun _ _ _ _ _ _ us hl => match us, hl with | [_, _], _ => rfl⟩, M_argument⟩
  have B_distance : FnB l.prog w K mg base (clsO C0) 2 "distance" F_distance := ⟨⟨f6, _, ["term", "argument"], fnD (c := c_distance) (S := S_distance) F6 sc_distance rfl ck_distance (fns_cons (B_ends_of.mono (by decide)) fns_nil) gls_nil (bs_cons y_max bs_nil) W_distance, PySem.W.mg_of X G a6, k6, F6.binds (ps := ["term", "argument"]) fun _ _ _ _ _ _ us hl => match us, hl with | [_, _], _ => rfl⟩, M_distance⟩
  have B_mirrored : FnB l.prog w K mg base (clsO C0) 2 "mirrored" F_mirrored := ⟨⟨f8, _, ["term"], fnD (c := c_mirrored) (S := S_mirrored) F8 sc_mirrored rfl ck_mirrored (fns_cons (B_ends_of.mono (by decide)) (fns_cons (B_with_ends.mono (by decide)) fns_nil)) gls_nil bs_nil W_mirrored, PySem.W.mg_of X G a8, k8, F8.binds (ps := ["term"]) fun _ _ _ _ _ _ us hl => match us, hl with | [_], _ => rfl⟩, M_mirrored⟩
  have B_mirrored_terms : FnB l.prog w K mg base (clsO C0) 2 "mirrored_terms" F_mirrored := ⟨⟨f8, _, ["term"], fnD (c := c_mirrored) (S := S_mirrored) F8 sc_mirrored rfl ck_mirrored (fns_cons (B_ends_of.mono (by decide)) (fns_cons (B_with_ends.mono (by decide)) fns_nil)) gls_nil bs_nil W_mirrored, PySem.W.mg_of X G al_mirrored_terms, k8, F8.binds (ps := ["term"]) fun _ _ _ _ _ _ us hl => match us, hl with | [_], _ => rfl⟩, M_mirrored⟩
  have B_is_between : FnB l.prog w K mg base (clsO C0) 2 "is_between" F_is_between := ⟨⟨f16, _, ["thing", "low", "high"], fnD (c := c_is_between) (S := S_is_between) F16 sc_is_between rfl ck_is_between (fns_cons (B_is_integer.mono (by decide)) fns_nil) gls_nil bs_nil W_is_between, PySem.W.mg_of X G a16, k16, F16.binds (ps := ["thing", "low", "high"]) fun _ _ _ _ _ _ us hl => match us, hl with | [_, _, _], _ => rfl⟩, M_is_between⟩
  have B_law_number : FnB l.prog w K mg base (clsO C0) 2 "_law_number" F_law_number := ⟨⟨f23, _, ["_law_bag_here", "_law_scale"], fnD (c := c_law_number) (S := S_law_number) F23 sc_law_number rfl ck_law_number (fns_cons (B_law_take.mono (by decide)) fns_nil) gls_nil bs_nil W_law_number, PySem.W.mg_of X G a23, k23, F23.binds (ps := ["_law_bag_here", "_law_scale"]) fun _ _ _ _ _ _ us hl => match us, hl with | [_, _], _ => rfl⟩, M_law_number⟩
  have B_growth : FnB l.prog w K mg base (clsO C0) 3 "growth" F_growth := ⟨⟨f10, _, ["term", "begin", "by"], fnD (c := c_growth) (S := S_growth) F10 sc_growth rfl ck_growth (fns_cons (B_is_pulling.mono (by decide)) (fns_cons (B_distance.mono (by decide)) (fns_cons (B_force_of.mono (by decide)) fns_nil))) (pl_cons G_BLOCK pl_nil) bs_nil W_growth, PySem.W.mg_of X G a10, k10, F10.binds (ps := ["term", "begin", "by"]) fun _ _ _ _ _ _ us hl => match us, hl with | [_, _, _], _ => rfl⟩, M_growth⟩
  have B_no_hands : FnB l.prog w K mg base (clsO C0) 3 "no_hands" F_no_hands := ⟨⟨f13, _, ["board"], fnD (c := c_no_hands) (S := S_no_hands) F13 sc_no_hands rfl ck_no_hands fns_nil gls_nil bs_nil W_no_hands (obMk pl_nil (pl_cons (B_Board_size.mono (by decide)) pl_nil) pl_nil al_nil al_nil), PySem.W.mg_of X G a13, k13, F13.binds (ps := ["board"]) fun _ _ _ _ _ _ us hl => match us, hl with | [_], _ => rfl⟩, M_no_hands⟩
  have B_is_value : FnB l.prog w K mg base (clsO C0) 3 "is_value" F_is_value := ⟨⟨f17, _, ["thing"], fnD (c := c_is_value) (S := S_is_value) F17 sc_is_value rfl ck_is_value (fns_cons (B_is_between.mono (by decide)) fns_nil) (pl_cons G_FARTHEST pl_nil) bs_nil W_is_value, PySem.W.mg_of X G a17, k17, F17.binds (ps := ["thing"]) fun _ _ _ _ _ _ us hl => match us, hl with | [_], _ => rfl⟩, M_is_value⟩
  have B_is_force : FnB l.prog w K mg base (clsO C0) 3 "is_force" F_is_force := ⟨⟨f18, _, ["thing"], fnD (c := c_is_force) (S := S_is_force) F18 sc_is_force rfl ck_is_force (fns_cons (B_is_between.mono (by decide)) fns_nil) (pl_cons G_MOST_FORCE pl_nil) bs_nil W_is_force, PySem.W.mg_of X G a18, k18, F18.binds (ps := ["thing"]) fun _ _ _ _ _ _ us hl => match us, hl with | [_], _ => rfl⟩, M_is_force⟩
  have B_law_standing : FnB l.prog w K mg base (clsO C0) 3 "_law_standing" F_law_standing := ⟨⟨f24, _, ["_law_bag_here", "_law_size", "_law_scale"], fnD (c := c_law_standing) (S := S_law_standing) F24 sc_law_standing rfl ck_law_standing (fns_cons (B_law_take.mono (by decide)) (fns_cons (B_law_number.mono (by decide)) fns_nil)) gls_nil (bs_cons y_tuple (bs_cons y_range bs_nil)) W_law_standing, PySem.W.mg_of X G a24, k24, F24.binds (ps := ["_law_bag_here", "_law_size", "_law_scale"]) fun _ _ _ _ _ _ us hl => match us, hl with | [_, _, _], _ => rfl⟩, M_law_standing⟩
  have B_law_range : FnB l.prog w K mg base (clsO C0) 3 "_law_range" F_law_range := ⟨⟨f25, _, ["_law_bag_here", "_law_value", "_law_scale", "_law_inside"], fnD (c := c_law_range) (S := S_law_range) F25 sc_law_range rfl ck_law_range (fns_cons (B_law_number.mono (by decide)) (fns_cons (B_law_take.mono (by decide)) fns_nil)) gls_nil (bs_cons y_int (bs_cons y_max (bs_cons y_min bs_nil))) W_law_range, PySem.W.mg_of X G a25, k25, F25.binds (ps := ["_law_bag_here", "_law_value", "_law_scale", "_law_inside"]) fun _ _ _ _ _ _ us hl => match us, hl with | [_, _, _, _], _ => rfl⟩, M_law_range⟩
  have B_Board_left : MtP l.prog w K mg base (clsO C0) 3 (0, "left") F_Board_left := ⟨⟨C0, f35, ["dial_count", "term_list"], _, ["self", "standing"], rfl, by decide +kernel, cl0, ⟨a35, i35, k35⟩, fnD (c := c_Board_left) (S := S_Board_left) F35 sc_Board_left rfl ck_Board_left (fns_cons (B_distance.mono (by decide)) (fns_cons (B_argument.mono (by decide)) (fns_cons (B_is_pulling.mono (by decide)) fns_nil))) gls_nil (bs_cons y_enumerate bs_nil) W_Board_left (obMk pl_nil pl_nil pl_nil (al_cons ⟨C0, ["dial_count", "term_list"], rfl, rfl, by decide +kernel, cl0, nf1⟩ al_nil) al_nil), F35.binds (ps := ["self", "standing"]) fun _ _ _ _ _ _ us hl => match us, hl with | [_, _], _ => rfl⟩, M_Board_left⟩
  have B_need_allowed : FnB l.prog w K mg base (clsO C0) 4 "need_allowed" F_need_allowed := ⟨⟨f9, _, ["board", "standing"], fnD (c := c_need_allowed) (S := S_need_allowed) F9 sc_need_allowed rfl ck_need_allowed fns_nil gls_nil bs_nil W_need_allowed (obMk (pl_cons (B_Board_left.mono (by decide)) pl_nil) pl_nil pl_nil al_nil al_nil), PySem.W.mg_of X G a9, k9, F9.binds (ps := ["board", "standing"]) fun _ _ _ _ _ _ us hl => match us, hl with | [_, _], _ => rfl⟩, M_need_allowed⟩
  have B_local_gains : FnB l.prog w K mg base (clsO C0) 4 "local_gains" F_local_gains := ⟨⟨f11, _, ["board", "standing", "way", "hands"], fnD (c := c_local_gains) (S := S_local_gains) F11 sc_local_gains rfl ck_local_gains (fns_cons (B_other_of.mono (by decide)) (fns_cons (B_argument.mono (by decide)) (fns_cons (B_growth.mono (by decide)) fns_nil))) gls_nil (bs_cons y_range bs_nil) W_local_gains (obMk (pl_cons (B_Board_terms.mono (by decide)) pl_nil) (pl_cons (B_Board_size.mono (by decide)) pl_nil) pl_nil al_nil al_nil), PySem.W.mg_of X G a11, k11, F11.binds (ps := ["board", "standing", "way", "hands"]) fun _ _ _ _ _ _ us hl => match us, hl with | [_, _, _, _], _ => rfl⟩, M_local_gains⟩
  have B_is_term : FnB l.prog w K mg base (clsO C0) 4 "is_term" F_is_term := ⟨⟨f19, _, ["thing", "size"], fnD (c := c_is_term) (S := S_is_term) F19 sc_is_term rfl ck_is_term (fns_cons (B_is_between.mono (by decide)) (fns_cons (B_is_value.mono (by decide)) (fns_cons (B_is_force.mono (by decide)) fns_nil))) (pl_cons G_WORDS pl_nil) (bs_cons y_isinstance (bs_cons y_str (bs_cons y_len (bs_cons y_tuple (bs_cons y_int (bs_cons y_all bs_nil)))))) W_is_term, PySem.W.mg_of X G a19, k19, F19.binds (ps := ["thing", "size"]) fun _ _ _ _ _ _ us hl => match us, hl with | [_, _], _ => rfl⟩, M_is_term⟩
  have B_law_term : FnB l.prog w K mg base (clsO C0) 4 "_law_term" F_law_term := ⟨⟨f26, _, ["_law_bag_here", "_law_standing_here", "_law_scale", "_law_most", "_law_stops"], fnD (c := c_law_term) (S := S_law_term) F26 sc_law_term rfl ck_law_term (fns_cons (B_law_take.mono (by decide)) (fns_cons (B_law_range.mono (by decide)) fns_nil)) gls_nil (bs_cons y_len bs_nil) W_law_term, PySem.W.mg_of X G a26, k26, F26.binds (ps := ["_law_bag_here", "_law_standing_here", "_law_scale", "_law_most", "_law_stops"]) fun _ _ _ _ _ _ us hl => match us, hl with | [_, _, _, _, _], _ => rfl⟩, M_law_term⟩
  have B_gain : FnB l.prog w K mg base (clsO C0) 5 "gain" F_gain := ⟨⟨f14, _, ["board", "standing", "way", "group"], fnD (c := c_gain) (S := S_gain) F14 sc_gain rfl ck_gain (fns_cons (B_need_allowed.mono (by decide)) (fns_cons (B_group_gain.mono (by decide)) (fns_cons (B_local_gains.mono (by decide)) (fns_cons (B_no_hands.mono (by decide)) fns_nil)))) (pl_cons G_BLOCK pl_nil) bs_nil W_gain, PySem.W.mg_of X G a14, k14, F14.binds (ps := ["board", "standing", "way", "group"]) fun _ _ _ _ _ _ us hl => match us, hl with | [_, _, _, _], _ => rfl⟩, M_gain⟩
  have B_law_terms : FnB l.prog w K mg base (clsO C0) 5 "_law_terms" F_law_terms := ⟨⟨f27, _, ["_law_bag_here", "_law_standing_here", "_law_scale", "_law_many", "_law_stops"], fnD (c := c_law_terms) (S := S_law_terms) F27 sc_law_terms rfl ck_law_terms (fns_cons (B_law_take.mono (by decide)) (fns_cons (B_law_term.mono (by decide)) fns_nil)) gls_nil (bs_cons y_range bs_nil) W_law_terms, PySem.W.mg_of X G a27, k27, F27.binds (ps := ["_law_bag_here", "_law_standing_here", "_law_scale", "_law_many", "_law_stops"]) fun _ _ _ _ _ _ us hl => match us, hl with | [_, _, _, _, _], _ => rfl⟩, M_law_terms⟩
  have B_Board_init_ : NwP l.prog w K mg base (clsO C0) 6 "Board" F_Board_init_ := ⟨⟨C0, f32, 0, ["dial_count", "term_list"], _, 5, ["self", "size", "terms"], Nat.le_refl _, rfl, ⟨mk, a32, i32, kc⟩, PySem.W.mg_of X G aC, fnInit (c := c_Board_init_) (S := S_Board_init_) F32 sc_Board_init_ rfl ck_Board_init_ (fns_cons (B_is_between.mono (by decide)) (fns_cons (B_is_term.mono (by decide)) fns_nil)) (pl_cons G_MOST_DIALS (pl_cons G_MOST_TERMS pl_nil)) (bs_cons y_all (bs_cons y_len (bs_cons y_isinstance (bs_cons y_list bs_nil)))) (fun C1 ns1 e1 => by cases e1; exact ⟨cl0, rfl, (al_cons nf0 (al_cons nf1 al_nil))⟩) (by show (["dial_count", "term_list"] : List Str).Nodup; decide +kernel) (by show 2 < 1000; decide) (by decide) W_Board_init_, F32.binds (ps := ["self", "size", "terms"]) fun _ _ _ _ _ _ us hl => match us, hl with | [_, _, _], _ => rfl⟩, M_Board_init_⟩
  have B_law_or_none : FnB l.prog w K mg base (clsO C0) 6 "_law_or_none" F_law_or_none := ⟨⟨f28, _, ["_law_board", "_law_standing_here", "_law_way", "_law_group"], fnD (c := c_law_or_none) (S := S_law_or_none) F28 sc_law_or_none rfl ck_law_or_none (fns_cons (B_gain.mono (by decide)) fns_nil) gls_nil bs_nil W_law_or_none, PySem.W.mg_of X G a28, k28, F28.binds (ps := ["_law_board", "_law_standing_here", "_law_way", "_law_group"]) fun _ _ _ _ _ _ us hl => match us, hl with | [_, _, _, _], _ => rfl⟩, M_law_or_none⟩
  have B_law_pair_right : FnB l.prog w K mg base (clsO C0) 7 "_law_pair_right" F_law_pair_right := ⟨⟨f29, _, ["_law_board", "_law_standing_here", "_law_way", "_law_one", "_law_other"], fnD (c := c_law_pair_right) (S := S_law_pair_right) F29 sc_law_pair_right rfl ck_law_pair_right (fns_cons (B_law_or_none.mono (by decide)) fns_nil) gls_nil (bs_cons y_sorted (bs_cons y_set (bs_cons y_sum bs_nil))) W_law_pair_right, PySem.W.mg_of X G a29, k29, F29.binds (ps := ["_law_board", "_law_standing_here", "_law_way", "_law_one", "_law_other"]) fun _ _ _ _ _ _ us hl => match us, hl with | [_, _, _, _, _], _ => rfl⟩, M_law_pair_right⟩
  have B_law_back_right : FnB l.prog w K mg base (clsO C0) 7 "_law_back_right" F_law_back_right := ⟨⟨f30, _, ["_law_board", "_law_standing_here", "_law_way", "_law_one", "_law_part"], fnD (c := c_law_back_right) (S := S_law_back_right) F30 sc_law_back_right rfl ck_law_back_right (fns_cons (B_gain.mono (by decide)) (fns_cons (B_law_stepped.mono (by decide)) (fns_cons (B_law_or_none.mono (by decide)) fns_nil))) gls_nil bs_nil W_law_back_right, PySem.W.mg_of X G a30, k30, F30.binds (ps := ["_law_board", "_law_standing_here", "_law_way", "_law_one", "_law_part"]) fun _ _ _ _ _ _ us hl => match us, hl with | [_, _, _, _, _], _ => rfl⟩, M_law_back_right⟩
  have B_Board_mirrored : MtP l.prog w K mg base (clsO C0) 7 (0, "mirrored") F_Board_mirrored := ⟨⟨C0, f36, ["dial_count", "term_list"], _, ["self"], rfl, by decide +kernel, cl0, ⟨a36, i36, k36⟩, fnD (c := c_Board_mirrored) (S := S_Board_mirrored) F36 sc_Board_mirrored rfl ck_Board_mirrored (fns_cons (B_mirrored_terms.mono (by decide)) fns_nil) gls_nil bs_nil W_Board_mirrored (obMk pl_nil pl_nil (pl_cons (B_Board_init_.mono (by decide)) pl_nil) (al_cons ⟨C0, ["dial_count", "term_list"], rfl, rfl, by decide +kernel, cl0, nf1⟩ (al_cons ⟨C0, ["dial_count", "term_list"], rfl, rfl, by decide +kernel, cl0, nf0⟩ al_nil)) al_nil), F36.binds (ps := ["self"]) fun _ _ _ _ _ _ us hl => match us, hl with | [_], _ => rfl⟩, M_Board_mirrored⟩
  exact fnLaw (c := c_law) (S := S_law) (cls := (clsO C0)) (kb := 0) F31 sc_law (by decide) rfl ck_law (fns_cons (B_law_bag.mono (by decide)) (fns_cons (B_law_take.mono (by decide)) (fns_cons (B_law_standing.mono (by decide)) (fns_cons (B_law_terms.mono (by decide)) (fns_cons (B_law_pair_right.mono (by decide)) (fns_cons (B_law_back_right.mono (by decide)) (fns_cons (B_gain.mono (by decide)) fns_nil))))))) gls_nil (bs_cons y_range (bs_cons y_tuple bs_nil)) rfl W_law (obMk (pl_cons (B_Board_mirrored.mono (by decide)) pl_nil) pl_nil (pl_cons (B_Board_init_.mono (by decide)) pl_nil) al_nil al_nil)
end KT
open PySem PySem.W PyProof.Rows
set_option maxHeartbeats 0 in
theorem PySem.Challenge.cw_mostpulled_k25_whole_gains_of_two_groups_holds : PySem.Challenge.rw_mostpulled_k25_whole_gains_of_two_groups.Holds := by
  w_on; o_law; k_head; (case hw => w_witness2)
  k_fill
  refine DL.walk_G (l := PySem.Challenge.rw_mostpulled_k25_whole_gains_of_two_groups) (n := 63) (k := 8) (x := "_law_script") (CX := fun _ => L2.CX0) (sp := fun w => DL.spLaw _) rfl (by decide) rfl ⟨rfl, by decide, by decide⟩ (fun w h Y => PySem.W.kIn_of Y) ?F (fun _ _ a ns hl _ hS => ⟨a, ns, rfl, hS, hl, fun _ => rfl⟩) (fun _ _ _ _ _ h => h)
  case F =>
    intro w mg fa h KX G hmg
    refine' KT.all_mk KX G hmg ?aC ?a1 ?l1 ?c1 ?k1 ?a2 ?l2 ?c2 ?k2 ?a3 ?l3 ?c3 ?k3 ?a4 ?l4 ?c4 ?k4 ?a5 ?l5 ?c5 ?k5 ?a6 ?l6 ?c6 ?k6 ?a7 ?l7 ?c7 ?k7 ?a8 ?l8 ?c8 ?k8 ?a9 ?l9 ?c9 ?k9 ?a10 ?l10 ?c10 ?k10 ?a11 ?l11 ?c11 ?k11 ?a12 ?l12 ?c12 ?k12 ?a13 ?l13 ?c13 ?k13 ?a14 ?l14 ?c14 ?k14 ?a15 ?l15 ?c15 ?k15 ?a16 ?l16 ?c16 ?k16 ?a17 ?l17 ?c17 ?k17 ?a18 ?l18 ?c18 ?k18 ?a19 ?l19 ?c19 ?k19 ?a20 ?l20 ?c20 ?k20 ?a21 ?l21 ?c21 ?k21 ?a22 ?l22 ?c22 ?k22 ?a23 ?l23 ?c23 ?k23 ?a24 ?l24 ?c24 ?k24 ?a25 ?l25 ?c25 ?k25 ?a26 ?l26 ?c26 ?k26 ?a27 ?l27 ?c27 ?k27 ?a28 ?l28 ?c28 ?k28 ?a29 ?l29 ?c29 ?k29 ?a30 ?l30 ?c30 ?k30 ?a31 ?l31 ?c31 ?k31 ?a32 ?i32 ?l32 ?c32 ?k32 ?a33 ?e33 ?g33 ?t33 ?l33 ?c33 ?k33 ?a34 ?i34 ?l34 ?c34 ?k34 ?a35 ?i35 ?l35 ?c35 ?k35 ?a36 ?i36 ?l36 ?c36 ?k36 ?pg ?hd ?po ?sa ?mk ?kc ?nf0 ?nf1 ?al_mirrored_terms ?g_BLOCK ?r_BLOCK ?g_FARTHEST ?r_FARTHEST ?g_MOST_FORCE ?r_MOST_FORCE ?g_WORDS ?l_WORDS ?t_WORDS ?z_WORDS ?v_WORDS ?g_MOST_DIALS ?r_MOST_DIALS ?g_MOST_TERMS ?r_MOST_TERMS ?z_len ?z_abs ?z_max ?z_range ?z_sum ?z_isinstance ?z_bool ?z_int ?z_str ?z_tuple ?z_all ?z_min ?z_sorted ?z_set ?z_list ?z_enumerate
    (case aC => k_is); (case a1 => k_is); (case l1 => k_is); (case c1 => k_is); (case k1 => k_is); (case a2 => k_is); (case l2 => k_is); (case c2 => k_is); (case k2 => k_is); (case a3 => k_is); (case l3 => k_is); (case c3 => k_is); (case k3 => k_is); (case a4 => k_is); (case l4 => k_is); (case c4 => k_is); (case k4 => k_is); (case a5 => k_is); (case l5 => k_is); (case c5 => k_is); (case k5 => k_is); (case a6 => k_is); (case l6 => k_is); (case c6 => k_is); (case k6 => k_is); (case a7 => k_is); (case l7 => k_is); (case c7 => k_is); (case k7 => k_is); (case a8 => k_is); (case l8 => k_is); (case c8 => k_is); (case k8 => k_is); (case a9 => k_is); (case l9 => k_is); (case c9 => k_is); (case k9 => k_is); (case a10 => k_is); (case l10 => k_is); (case c10 => k_is); (case k10 => k_is); (case a11 => k_is); (case l11 => k_is); (case c11 => k_is); (case k11 => k_is); (case a12 => k_is); (case l12 => k_is); (case c12 => k_is); (case k12 => k_is); (case a13 => k_is); (case l13 => k_is); (case c13 => k_is); (case k13 => k_is); (case a14 => k_is); (case l14 => k_is); (case c14 => k_is); (case k14 => k_is); (case a15 => k_is); (case l15 => k_is); (case c15 => k_is); (case k15 => k_is); (case a16 => k_is); (case l16 => k_is); (case c16 => k_is); (case k16 => k_is); (case a17 => k_is); (case l17 => k_is); (case c17 => k_is); (case k17 => k_is); (case a18 => k_is); (case l18 => k_is); (case c18 => k_is); (case k18 => k_is); (case a19 => k_is); (case l19 => k_is); (case c19 => k_is); (case k19 => k_is); (case a20 => k_is); (case l20 => k_is); (case c20 => k_is); (case k20 => k_is); (case a21 => k_is); (case l21 => k_is); (case c21 => k_is); (case k21 => k_is); (case a22 => k_is); (case l22 => k_is); (case c22 => k_is); (case k22 => k_is); (case a23 => k_is); (case l23 => k_is); (case c23 => k_is); (case k23 => k_is); (case a24 => k_is); (case l24 => k_is); (case c24 => k_is); (case k24 => k_is); (case a25 => k_is); (case l25 => k_is); (case c25 => k_is); (case k25 => k_is); (case a26 => k_is); (case l26 => k_is); (case c26 => k_is); (case k26 => k_is); (case a27 => k_is); (case l27 => k_is); (case c27 => k_is); (case k27 => k_is); (case a28 => k_is); (case l28 => k_is); (case c28 => k_is); (case k28 => k_is); (case a29 => k_is); (case l29 => k_is); (case c29 => k_is); (case k29 => k_is); (case a30 => k_is); (case l30 => k_is); (case c30 => k_is); (case k30 => k_is); (case a31 => k_is); (case l31 => k_is); (case c31 => k_is); (case k31 => k_is); (case a32 => k_is); (case i32 => k_is); (case l32 => k_is); (case c32 => k_is); (case k32 => k_is); (case a33 => k_is); (case e33 => k_is); (case g33 => k_is); (case t33 => k_is); (case l33 => k_is); (case c33 => k_is); (case k33 => k_is); (case a34 => k_is); (case i34 => k_is); (case l34 => k_is); (case c34 => k_is); (case k34 => k_is); (case a35 => k_is); (case i35 => k_is); (case l35 => k_is); (case c35 => k_is); (case k35 => k_is); (case a36 => k_is); (case i36 => k_is); (case l36 => k_is); (case c36 => k_is); (case k36 => k_is); (case pg => k_is); (case hd => k_is); (case po => k_is); (case sa => k_is); (case mk => k_is); (case kc => k_is); (case nf0 => k_is); (case nf1 => k_is); (case al_mirrored_terms => k_is); (case g_BLOCK => k_is); (case g_FARTHEST => k_is); (case g_MOST_FORCE => k_is); (case g_WORDS => k_is); (case l_WORDS => k_is); (case g_MOST_DIALS => k_is); (case g_MOST_TERMS => k_is); (case z_len => k_is); (case z_abs => k_is); (case z_max => k_is); (case z_range => k_is); (case z_sum => k_is); (case z_isinstance => k_is); (case z_bool => k_is); (case z_int => k_is); (case z_str => k_is); (case z_tuple => k_is); (case z_all => k_is); (case z_min => k_is); (case z_sorted => k_is); (case z_set => k_is); (case z_list => k_is); (case z_enumerate => k_is)
    (case r_BLOCK => exact ⟨_, rfl⟩); (case r_FARTHEST => exact ⟨_, rfl⟩); (case r_MOST_FORCE => exact ⟨_, rfl⟩); (case t_WORDS => rfl); (case z_WORDS => decide); (case v_WORDS => exact .cons ⟨_, rfl⟩ (.cons ⟨_, rfl⟩ (.cons ⟨_, rfl⟩ (.cons ⟨_, rfl⟩ (.nil))))); (case r_MOST_DIALS => exact ⟨_, rfl⟩); (case r_MOST_TERMS => exact ⟨_, rfl⟩)
