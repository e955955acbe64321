import PyProof.Rows.All
import HandS.ForMost
import HandS.Zip
import HandS.Walk
import HandS.Wide
import HandS.TupAny
import HandS.IsInst
import HandS.Text
import HandS.Flt
import HandS.SortInts
import HandS.RaiseMore
import PyProof.ReprBulk
import PyProof.ReprRoads
import KE.SortData
import KE.KTupSum
import HandS.Style
import HandS.Conv
import HandS.Property
import HandS.OwnEq
import HandS.Codes
import HandS.Flow
import HandS.SetFor
import HandS.Strs
import HandS.NoneIn
import PySem.Challenge.RW_mostpulled_k51_exchanges
set_option Elab.async false
set_option linter.all false
set_option maxRecDepth 100000
set_option maxHeartbeats 8000000
namespace DL
open PySem PySem.Spec PyProof.Rows L2

/-! ### plain data, and values as they are held -/
inductive D where
  | non | bl (b : Bool) | int (i : Int) | str (x : Str)
  | tup (ds : List D) | lst (ds : List D) | bag
  | obj (c : Nat) (fs : List D) | scr (ns : List Int)
inductive T where
  | leaf (d : D) | lst (ts : List T) | tup (ts : List T) | vw (d : D)

mutual
def T.dat : T → D
  | .leaf d => d
  | .lst ts => .lst (T.dats ts)
  | .tup ts => .tup (T.dats ts)
  | .vw d => d
def T.dats : List T → List D
  | [] => []
  | t :: r => t.dat :: T.dats r
end
theorem T.dats_eq : ∀ ts : List T, T.dats ts = ts.map T.dat
  | [] => by simp [T.dats]
  | t :: r => by simp [T.dats, T.dats_eq r]

mutual
/-- nothing in it is only read -/
def T.nv : T → Bool
  | .leaf _ => true
  | .vw _ => false
  | .lst ts => T.nvs ts
  | .tup ts => T.nvs ts
def T.nvs : List T → Bool
  | [] => true
  | t :: r => t.nv && T.nvs r
end
theorem T.nvs_leaf : ∀ ds : List D, T.nvs (ds.map .leaf) = true
  | [] => rfl
  | d :: r => by simp [T.nvs, T.nv, T.nvs_leaf r]

/-- what is fixed: the written part, the bag's place, the classes by number (place, fields in order) -/
structure An where
  K : PySem.W.Frag
  bg : Option Addr
  cls : Nat → Option (Addr × List Str)

abbrev Sub (F G : Hp) : Prop := ∀ p o, F p = some o → G p = some o
theorem Sub.refl (F : Hp) : Sub F F := fun _ _ h => h
theorem Sub.trans {F G I : Hp} (a : Sub F G) (b : Sub G I) : Sub F I := fun p o h => b p o (a p o h)
/-- the heap without the bag -/
def hb (a : An) (H : Hp) : Hp := fun p => if a.bg = some p then none else H p
theorem hb_sub (a : An) (H : Hp) : Sub (hb a H) H := fun p o h => by
  unfold hb at h
  split at h
  · cases h
  · exact h

theorem sub_l {K : PySem.W.Frag} {F G : Hp} {a : Addr} {xs : List V} (e : Sub F G) (h : SqL K F a xs) : SqL K G a xs := by
  rcases h with (h | ⟨o, h⟩) | h
  · exact .inl (.inl (e a _ h))
  · exact .inl (.inr ⟨o, e a _ h⟩)
  · exact .inr h
theorem sub_t {K : PySem.W.Frag} {F G : Hp} {a : Addr} {xs : List V} (e : Sub F G) (h : SqT K F a xs) : SqT K G a xs := by
  rcases h with (h | ⟨o, h⟩) | h
  · exact .inl (.inl (e a _ h))
  · exact .inl (.inr ⟨o, e a _ h⟩)
  · exact .inr h

mutual
/-- v is d, read off F -/
def Is (a : An) (F : Hp) : D → V → Prop
  | .non, v => v = .non
  | .bl b, v => v = .bl b
  | .int i, v => v = .int i
  | .str x, v => v = .str x
  | .tup ds, v => ∃ p vs, v = .ref p ∧ SqT a.K F p vs ∧ IsL a F ds vs
  | .lst ds, v => ∃ p vs, v = .ref p ∧ F p = some (.lst vs) ∧ IsL a F ds vs
  | .scr ns, v => ∃ p, v = .ref p ∧ SqL a.K F p (ns.map V.int)
  | .bag, v => ∃ b, a.bg = some b ∧ v = .ref b
  | .obj c fs, v => ∃ p C ns dx vs, v = .ref p ∧ a.cls c = some (C, ns) ∧ ns.length = vs.length ∧ F p = some (.ins C dx (ns.zip vs)) ∧ IsL a F fs vs
def IsL (a : An) (F : Hp) : List D → List V → Prop
  | [], vs => vs = []
  | d :: ds, vs => ∃ v r, vs = v :: r ∧ Is a F d v ∧ IsL a F ds r
end
mutual
theorem Is.mono {a : An} {F G : Hp} (e : Sub F G) : ∀ {d : D} {v : V}, Is a F d v → Is a G d v
  | .non, _, h | .bl _, _, h | .int _, _, h | .str _, _, h => by simpa only [Is] using h
  | .bag, _, h => by simpa only [Is] using h
  | .tup ds, v, h => by
    simp only [Is] at h ⊢
    obtain ⟨p, vs, e1, h1, h2⟩ := h
    exact ⟨p, vs, e1, sub_t e h1, IsL.mono e h2⟩
  | .lst ds, v, h => by
    simp only [Is] at h ⊢
    obtain ⟨p, vs, e1, h1, h2⟩ := h
    exact ⟨p, vs, e1, e _ _ h1, IsL.mono e h2⟩
  | .scr ns, v, h => by
    simp only [Is] at h ⊢
    obtain ⟨p, e1, h1⟩ := h
    exact ⟨p, e1, sub_l e h1⟩
  | .obj c fs, v, h => by
    simp only [Is] at h ⊢
    obtain ⟨p, C, ns, dx, vs, e1, e2, e3, e4, h2⟩ := h
    exact ⟨p, C, ns, dx, vs, e1, e2, e3, e _ _ e4, IsL.mono e h2⟩
theorem IsL.mono {a : An} {F G : Hp} (e : Sub F G) : ∀ {ds : List D} {vs : List V}, IsL a F ds vs → IsL a G ds vs
  | [], _, h => by simpa only [IsL] using h
  | d :: ds, vs, h => by
    simp only [IsL] at h ⊢
    obtain ⟨v, r, e1, h1, h2⟩ := h
    exact ⟨v, r, e1, Is.mono e h1, IsL.mono e h2⟩
end
theorem IsL.length {a : An} {F : Hp} : ∀ {ds : List D} {vs : List V}, IsL a F ds vs → vs.length = ds.length
  | [], _, h => by simp only [IsL] at h; subst h; rfl
  | d :: ds, vs, h => by
    simp only [IsL] at h
    obtain ⟨v, r, rfl, _, h2⟩ := h
    simp [IsL.length h2]
theorem IsL.get {a : An} {F : Hp} : ∀ {ds : List D} {vs : List V} {i : Nat} {d : D}, IsL a F ds vs → ds[i]? = some d → ∃ v, vs[i]? = some v ∧ Is a F d v
  | [], _, _, _, _, h => by simp at h
  | d :: ds, vs, 0, e, h, g => by
    simp only [IsL] at h
    obtain ⟨v, r, rfl, h1, h2⟩ := h
    simp only [List.getElem?_cons_zero, Option.some.injEq] at g
    subst g
    exact ⟨v, rfl, h1⟩
  | d :: ds, vs, i + 1, e, h, g => by
    simp only [IsL] at h
    obtain ⟨v, r, rfl, h1, h2⟩ := h
    simp only [List.getElem?_cons_succ] at g ⊢
    exact IsL.get h2 g
theorem IsL.append {a : An} {F : Hp} : ∀ {ds es : List D} {vs us : List V}, IsL a F ds vs → IsL a F es us → IsL a F (ds ++ es) (vs ++ us)
  | [], _, _, _, h, g => by simp only [IsL] at h; subst h; exact g
  | d :: ds, es, vs, us, h, g => by
    simp only [IsL] at h
    obtain ⟨v, r, rfl, h1, h2⟩ := h
    show IsL a F (d :: (ds ++ es)) (v :: (r ++ us))
    simp only [IsL]
    exact ⟨v, _, rfl, h1, IsL.append h2 g⟩
theorem IsL.take {a : An} {F : Hp} : ∀ {ds : List D} {vs : List V} (n : Nat), IsL a F ds vs → IsL a F (ds.take n) (vs.take n)
  | _, _, 0, _ => by simp [IsL]
  | [], _, n + 1, h => by simp only [IsL] at h; subst h; simp [IsL]
  | d :: ds, vs, n + 1, h => by
    simp only [IsL] at h
    obtain ⟨v, r, rfl, h1, h2⟩ := h
    simp only [List.take_succ_cons, IsL]
    exact ⟨v, _, rfl, h1, IsL.take n h2⟩
theorem IsL.drop {a : An} {F : Hp} : ∀ {ds : List D} {vs : List V} (n : Nat), IsL a F ds vs → IsL a F (ds.drop n) (vs.drop n)
  | _, _, 0, h => h
  | [], _, n + 1, h => by simp only [IsL] at h; subst h; simp [IsL]
  | d :: ds, vs, n + 1, h => by
    simp only [IsL] at h
    obtain ⟨v, r, rfl, h1, h2⟩ := h
    simp only [List.drop_succ_cons]
    exact IsL.drop n h2
theorem IsL.ints {a : An} {F : Hp} : ∀ {ns : List Int} {vs : List V}, IsL a F (ns.map D.int) vs ↔ vs = ns.map V.int
  | [], vs => by simp [IsL]
  | n :: ns, vs => by
    simp only [List.map_cons, IsL, Is]
    constructor
    · rintro ⟨v, r, rfl, rfl, h⟩
      rw [IsL.ints.mp h]
    · rintro rfl
      exact ⟨_, _, rfl, rfl, IsL.ints.mpr rfl⟩

mutual
/-- v is t; S: the places that t holds alone -/
def Ow (a : An) (F H : Hp) : T → V → List Addr → Prop
  | .leaf d, v, S => S = [] ∧ Is a F d v
  | .vw d, v, S => S = [] ∧ Is a (hb a H) d v
  | .lst ts, v, S => T.nvs ts = true ∧ ∃ p vs S', v = .ref p ∧ H p = some (.lst vs) ∧ OwL a F H ts vs S' ∧ S = p :: S'
  | .tup ts, v, S => T.nvs ts = true ∧ ∃ p vs, v = .ref p ∧ SqT a.K F p vs ∧ OwL a F H ts vs S
def OwL (a : An) (F H : Hp) : List T → List V → List Addr → Prop
  | [], vs, S => vs = [] ∧ S = []
  | t :: ts, vs, S => ∃ v r S1 S2, vs = v :: r ∧ Ow a F H t v S1 ∧ OwL a F H ts r S2 ∧ S = S1 ++ S2
end
mutual
theorem Ow.mono {a : An} {F F' H H' : Hp} (e : Sub F F') (eb : Sub (hb a H) (hb a H')) : ∀ {t : T} {v : V} {S : List Addr}, Ow a F H t v S → (∀ p ∈ S, ∀ o, H p = some o → H' p = some o) → Ow a F' H' t v S
  | .leaf d, v, S, h, _ => by
    simp only [Ow] at h ⊢
    exact ⟨h.1, Is.mono e h.2⟩
  | .vw d, v, S, h, _ => by
    simp only [Ow] at h ⊢
    exact ⟨h.1, Is.mono eb h.2⟩
  | .lst ts, v, S, h, k => by
    simp only [Ow] at h ⊢
    obtain ⟨nn, p, vs, S', e1, e2, h1, rfl⟩ := h
    exact ⟨nn, p, vs, S', e1, k p List.mem_cons_self _ e2, OwL.mono e eb h1 fun q hq => k q (List.mem_cons_of_mem _ hq), rfl⟩
  | .tup ts, v, S, h, k => by
    simp only [Ow] at h ⊢
    obtain ⟨nn, p, vs, e1, e2, h1⟩ := h
    exact ⟨nn, p, vs, e1, sub_t e e2, OwL.mono e eb h1 k⟩
theorem OwL.mono {a : An} {F F' H H' : Hp} (e : Sub F F') (eb : Sub (hb a H) (hb a H')) : ∀ {ts : List T} {vs : List V} {S : List Addr}, OwL a F H ts vs S → (∀ p ∈ S, ∀ o, H p = some o → H' p = some o) → OwL a F' H' ts vs S
  | [], _, _, h, _ => by simpa only [OwL] using h
  | t :: ts, vs, S, h, k => by
    simp only [OwL] at h ⊢
    obtain ⟨v, r, S1, S2, e1, h1, h2, rfl⟩ := h
    exact ⟨v, r, S1, S2, e1, Ow.mono e eb h1 (fun p hp => k p (List.mem_append_left _ hp)), OwL.mono e eb h2 (fun p hp => k p (List.mem_append_right _ hp)), rfl⟩
end
mutual
theorem Ow.mono' {a : An} {F F' H H' : Hp} (e : Sub F F') : ∀ {t : T} {v : V} {S : List Addr}, t.nv = true → Ow a F H t v S → (∀ p ∈ S, ∀ o, H p = some o → H' p = some o) → Ow a F' H' t v S
  | .leaf d, v, S, _, h, _ => by
    simp only [Ow] at h ⊢
    exact ⟨h.1, Is.mono e h.2⟩
  | .vw d, v, S, n, h, _ => by simp [T.nv] at n
  | .lst ts, v, S, n, h, k => by
    simp only [T.nv] at n
    simp only [Ow] at h ⊢
    obtain ⟨nn, p, vs, S', e1, e2, h1, rfl⟩ := h
    exact ⟨nn, p, vs, S', e1, k p List.mem_cons_self _ e2, OwL.mono' e n h1 fun q hq => k q (List.mem_cons_of_mem _ hq), rfl⟩
  | .tup ts, v, S, n, h, k => by
    simp only [T.nv] at n
    simp only [Ow] at h ⊢
    obtain ⟨nn, p, vs, e1, e2, h1⟩ := h
    exact ⟨nn, p, vs, e1, sub_t e e2, OwL.mono' e n h1 k⟩
theorem OwL.mono' {a : An} {F F' H H' : Hp} (e : Sub F F') : ∀ {ts : List T} {vs : List V} {S : List Addr}, T.nvs ts = true → OwL a F H ts vs S → (∀ p ∈ S, ∀ o, H p = some o → H' p = some o) → OwL a F' H' ts vs S
  | [], _, _, _, h, _ => by simpa only [OwL] using h
  | t :: ts, vs, S, n, h, k => by
    simp only [T.nvs, Bool.and_eq_true] at n
    simp only [OwL] at h ⊢
    obtain ⟨v, r, S1, S2, e1, h1, h2, rfl⟩ := h
    exact ⟨v, r, S1, S2, e1, Ow.mono' e n.1 h1 (fun p hp => k p (List.mem_append_left _ hp)), OwL.mono' e n.2 h2 (fun p hp => k p (List.mem_append_right _ hp)), rfl⟩
end
mutual
/-- what is held can be read -/
theorem Ow.is {a : An} {F H : Hp} (e : Sub F H) (hF : ∀ b, a.bg = some b → F b = none) : ∀ {t : T} {v : V} {S : List Addr}, Ow a F H t v S → (∀ p ∈ S, a.bg ≠ some p) → Is a (hb a H) t.dat v
  | .leaf d, v, S, h, _ => by
    simp only [Ow] at h
    simp only [T.dat]
    refine Is.mono (fun p o q => ?_) h.2
    unfold hb
    split
    · rename_i z
      rw [hF p z] at q; cases q
    · exact e p o q
  | .vw d, v, S, h, _ => by
    simp only [Ow] at h
    simp only [T.dat]
    exact h.2
  | .lst ts, v, S, h, k => by
    simp only [Ow] at h
    simp only [T.dat, Is]
    obtain ⟨_, p, vs, S', e1, e2, h1, rfl⟩ := h
    refine ⟨p, vs, e1, ?_, OwL.is e hF h1 fun q hq => k q (List.mem_cons_of_mem _ hq)⟩
    unfold hb
    rw [if_neg (k p List.mem_cons_self)]
    exact e2
  | .tup ts, v, S, h, k => by
    simp only [Ow] at h
    simp only [T.dat, Is]
    obtain ⟨_, p, vs, e1, e2, h1⟩ := h
    refine ⟨p, vs, e1, sub_t (fun q o z => ?_) e2, OwL.is e hF h1 k⟩
    unfold hb
    split
    · rename_i y
      rw [hF q y] at z; cases z
    · exact e q o z
theorem OwL.is {a : An} {F H : Hp} (e : Sub F H) (hF : ∀ b, a.bg = some b → F b = none) : ∀ {ts : List T} {vs : List V} {S : List Addr}, OwL a F H ts vs S → (∀ p ∈ S, a.bg ≠ some p) → IsL a (hb a H) (T.dats ts) vs
  | [], _, _, h, _ => by
    simp only [OwL] at h
    simp only [T.dats, IsL]
    exact h.1
  | t :: ts, vs, S, h, k => by
    simp only [OwL] at h
    simp only [T.dats, IsL]
    obtain ⟨v, r, S1, S2, e1, h1, h2, rfl⟩ := h
    exact ⟨v, r, e1, Ow.is e hF h1 (fun p hp => k p (List.mem_append_left _ hp)), OwL.is e hF h2 (fun p hp => k p (List.mem_append_right _ hp))⟩
end
/-- it isn't itself only read -/
def T.nvw : T → Bool
  | .vw _ => false
  | _ => true
theorem nvw_leaf (ds : List D) : (ds.map T.leaf).all T.nvw = true := by simp [T.nvw]
theorem nvw_of : ∀ {us : List T}, T.nvs us = true → us.all T.nvw = true
  | [], _ => rfl
  | t :: r, h => by
    simp only [T.nvs, Bool.and_eq_true] at h
    rw [List.all_cons, nvw_of h.2, Bool.and_true]
    cases t <;> first | rfl | simp [T.nv] at h
theorem Ow.nv {a : An} {F H : Hp} {t : T} {v : V} {S : List Addr} (h : Ow a F H t v S) (n : t.nvw = true) : t.nv = true := by
  cases t with
  | leaf d => rfl
  | vw d => simp [T.nvw] at n
  | lst us => simp only [Ow] at h; simpa only [T.nv] using h.1
  | tup us => simp only [Ow] at h; simpa only [T.nv] using h.1
theorem OwL.nvs {a : An} {F H : Hp} : ∀ {us : List T} {vs : List V} {S : List Addr}, OwL a F H us vs S → us.all T.nvw = true → T.nvs us = true
  | [], _, _, _, _ => rfl
  | t :: r, vs, S, h, n => by
    simp only [OwL] at h
    obtain ⟨v, r', S1, S2, _, h1, h2, _⟩ := h
    simp only [List.all_cons, Bool.and_eq_true] at n
    simp only [T.nvs, Bool.and_eq_true]
    exact ⟨h1.nv n.1, OwL.nvs h2 n.2⟩
end DL
namespace DL
open PySem PySem.Spec PyProof.Rows L2

abbrev Env := List (Option T)
/-- the slots hold what the environment says -/
def OwC (a : An) (F H : Hp) : Env → L2.St → List Addr → Prop
  | [], _, S => S = []
  | none :: ρ, σ, S => OwC a F H ρ σ.tail S
  | some t :: ρ, σ, S => ∃ v S1 S2, (σ.head? = some (some v) ∧ t.nv = true) ∧ Ow a F H t v S1 ∧ OwC a F H ρ σ.tail S2 ∧ S = S1 ++ S2
theorem OwC.mono {a : An} {F F' H H' : Hp} (e : Sub F F') (eb : Sub (hb a H) (hb a H')) : ∀ {ρ : Env} {σ : L2.St} {S : List Addr}, OwC a F H ρ σ S → (∀ p ∈ S, ∀ o, H p = some o → H' p = some o) → OwC a F' H' ρ σ S
  | [], _, _, h, _ => h
  | none :: ρ, σ, S, h, k => by
    simp only [OwC] at h ⊢
    exact OwC.mono e eb h k
  | some t :: ρ, σ, S, h, k => by
    simp only [OwC] at h ⊢
    obtain ⟨v, S1, S2, e1, h1, h2, rfl⟩ := h
    exact ⟨v, S1, S2, e1, Ow.mono e eb h1 (fun p hp => k p (List.mem_append_left _ hp)), OwC.mono e eb h2 (fun p hp => k p (List.mem_append_right _ hp)), rfl⟩
mutual
theorem Ow.there {a : An} {F H : Hp} : ∀ {t : T} {v : V} {S : List Addr}, Ow a F H t v S → ∀ p ∈ S, H p ≠ none
  | .leaf d, v, S, h => by
    simp only [Ow] at h
    intro p hp
    rw [h.1] at hp; cases hp
  | .vw d, v, S, h => by
    simp only [Ow] at h
    intro p hp
    rw [h.1] at hp; cases hp
  | .lst ts, v, S, h => by
    simp only [Ow] at h
    obtain ⟨_, p, vs, S', e1, e2, h1, rfl⟩ := h
    intro q hq
    rcases List.mem_cons.mp hq with rfl | hq
    · rw [e2]; simp
    · exact OwL.there h1 q hq
  | .tup ts, v, S, h => by
    simp only [Ow] at h
    obtain ⟨_, p, vs, e1, e2, h1⟩ := h
    exact OwL.there h1
theorem OwL.there {a : An} {F H : Hp} : ∀ {ts : List T} {vs : List V} {S : List Addr}, OwL a F H ts vs S → ∀ p ∈ S, H p ≠ none
  | [], vs, S, h => by
    simp only [OwL] at h
    intro p hp
    rw [h.2] at hp; cases hp
  | t :: ts, vs, S, h => by
    simp only [OwL] at h
    obtain ⟨v, r, S1, S2, e1, h1, h2, rfl⟩ := h
    intro p hp
    rcases List.mem_append.mp hp with q | q
    · exact Ow.there h1 p q
    · exact OwL.there h2 p q
end
theorem OwC.there {a : An} {F H : Hp} : ∀ {ρ : Env} {σ : L2.St} {S : List Addr}, OwC a F H ρ σ S → ∀ p ∈ S, H p ≠ none
  | [], σ, S, h => by
    simp only [OwC] at h
    intro p hp
    rw [h] at hp; cases hp
  | none :: ρ, σ, S, h => by
    simp only [OwC] at h
    exact OwC.there h
  | some t :: ρ, σ, S, h => by
    simp only [OwC] at h
    obtain ⟨v, S1, S2, e1, h1, h2, rfl⟩ := h
    intro p hp
    rcases List.mem_append.mp hp with q | q
    · exact Ow.there h1 p q
    · exact OwC.there h2 p q
/-- the cell at i -/
def Env.at : Env → Nat → Option T
  | [], _ => none
  | x :: _, 0 => x
  | _ :: r, i + 1 => Env.at r i
def Env.put : Env → Nat → Option T → Env
  | [], _, _ => []
  | _ :: r, 0, y => y :: r
  | x :: r, i + 1, y => x :: Env.put r i y
theorem OwC.mono' {a : An} {F F' H H' : Hp} (e : Sub F F') : ∀ {ρ : Env} {σ : L2.St} {S : List Addr}, OwC a F H ρ σ S → (∀ p ∈ S, ∀ o, H p = some o → H' p = some o) → OwC a F' H' ρ σ S
  | [], _, _, h, _ => h
  | none :: ρ, σ, S, h, k => by
    simp only [OwC] at h ⊢
    exact OwC.mono' e h k
  | some t :: ρ, σ, S, h, k => by
    simp only [OwC] at h ⊢
    obtain ⟨v, S1, S2, e1, h1, h2, rfl⟩ := h
    exact ⟨v, S1, S2, e1, Ow.mono' e e1.2 h1 (fun p hp => k p (List.mem_append_left _ hp)), OwC.mono' e h2 (fun p hp => k p (List.mem_append_right _ hp)), rfl⟩
theorem OwC.get {a : An} {F H : Hp} : ∀ {ρ : Env} {σ : L2.St} {S : List Addr} {i : Nat} {t : T}, OwC a F H ρ σ S → ρ.at i = some t → ∃ v S1, σ[i]? = some (some v) ∧ Ow a F H t v S1 ∧ (∀ p ∈ S1, p ∈ S) ∧ t.nv = true
  | [], _, _, _, _, _, h => by simp [Env.at] at h
  | none :: ρ, σ, S, 0, t, h, g => by simp [Env.at] at g
  | some u :: ρ, σ, S, 0, t, h, g => by
    simp only [OwC] at h
    simp only [Env.at, Option.some.injEq] at g
    subst g
    obtain ⟨v, S1, S2, ⟨e1, nv⟩, h1, h2, rfl⟩ := h
    refine ⟨v, S1, ?_, h1, fun p hp => List.mem_append_left _ hp, nv⟩
    cases σ with
    | nil => simp at e1
    | cons x r => simpa using e1
  | none :: ρ, σ, S, i + 1, t, h, g => by
    simp only [OwC] at h
    simp only [Env.at] at g
    obtain ⟨v, S1, e1, h1, k⟩ := OwC.get h g
    refine ⟨v, S1, ?_, h1, k⟩
    cases σ with
    | nil => simp at e1
    | cons x r => simpa using e1
  | some u :: ρ, σ, S, i + 1, t, h, g => by
    simp only [OwC] at h
    simp only [Env.at] at g
    obtain ⟨v, S1, S2, e1, h1, h2, rfl⟩ := h
    obtain ⟨v', S1', e1', h1', k⟩ := OwC.get h2 g
    refine ⟨v', S1', ?_, h1', fun p hp => List.mem_append_right _ (k.1 p hp), k.2⟩
    cases σ with
    | nil => simp at e1'
    | cons x r => simpa using e1'
/-- a slot is stored: its old places are let go -/
theorem OwC.put {a : An} {F H : Hp} {t : T} {v : V} {St : List Addr} (ht : Ow a F H t v St) (hn : t.nv = true) : ∀ {ρ : Env} {σ : L2.St} {S : List Addr} {i : Nat}, OwC a F H ρ σ S → i < ρ.length → i < σ.length → S.Nodup → St.Nodup → (∀ p ∈ St, p ∉ S) →
    ∃ S', OwC a F H (ρ.put i (some t)) (σ.set i (some v)) S' ∧ S'.Nodup ∧ ∀ p ∈ S', p ∈ S ∨ p ∈ St
  | [], σ, S, i, h, l, _, _, _, _ => by simp at l
  | x :: ρ, [], S, i, h, l, l2, _, _, _ => by simp at l2
  | none :: ρ, y :: σ, S, 0, h, _, _, n, nt, d => by
    simp only [OwC, List.tail_cons] at h
    refine ⟨St ++ S, ?_, ?_, fun p hp => (List.mem_append.mp hp).symm⟩
    · simp only [Env.put, List.set_cons_zero, OwC, List.tail_cons]
      exact ⟨v, St, S, ⟨rfl, hn⟩, ht, h, rfl⟩
    · exact List.nodup_append.mpr ⟨nt, n, fun p hp q hq e => d p hp (e ▸ hq)⟩
  | some u :: ρ, y :: σ, S, 0, h, _, _, n, nt, d => by
    simp only [OwC, List.tail_cons] at h
    obtain ⟨v1, S1, S2, e1, h1, h2, rfl⟩ := h
    refine ⟨St ++ S2, ?_, ?_, fun p hp => ?_⟩
    · simp only [Env.put, List.set_cons_zero, OwC, List.tail_cons]
      exact ⟨v, St, S2, ⟨rfl, hn⟩, ht, h2, rfl⟩
    · exact List.nodup_append.mpr ⟨nt, (List.nodup_append.mp n).2.1, fun p hp q hq e => d p hp (List.mem_append_right _ (e ▸ hq))⟩
    · rcases List.mem_append.mp hp with q | q
      · exact .inr q
      · exact .inl (List.mem_append_right _ q)
  | none :: ρ, y :: σ, S, i + 1, h, l, l2, n, nt, d => by
    simp only [OwC, List.tail_cons] at h
    obtain ⟨S', h', n', k⟩ := OwC.put ht hn (i := i) h (by simpa using l) (by simpa using l2) n nt d
    refine ⟨S', ?_, n', k⟩
    simp only [Env.put, List.set_cons_succ, OwC, List.tail_cons]
    exact h'
  | some u :: ρ, y :: σ, S, i + 1, h, l, l2, n, nt, d => by
    simp only [OwC, List.tail_cons] at h
    obtain ⟨v1, S1, S2, e1, h1, h2, rfl⟩ := h
    obtain ⟨n1, n2, n3⟩ := List.nodup_append.mp n
    obtain ⟨S', h', n', k⟩ := OwC.put ht hn (i := i) h2 (by simpa using l) (by simpa using l2) n2 nt (fun p hp q => d p hp (List.mem_append_right _ q))
    refine ⟨S1 ++ S', ?_, ?_, fun p hp => ?_⟩
    · simp only [Env.put, List.set_cons_succ, OwC, List.tail_cons]
      exact ⟨v1, S1, S', e1, h1, h', rfl⟩
    · refine List.nodup_append.mpr ⟨n1, n', fun p hp q hq e => ?_⟩
      subst e
      rcases k p hq with z | z
      · exact n3 p hp p z rfl
      · exact d p z (List.mem_append_left _ hp)
    · rcases List.mem_append.mp hp with q | q
      · exact .inl (List.mem_append_left _ q)
      · rcases k p q with z | z
        · exact .inl (List.mem_append_right _ z)
        · exact .inr z
/-- a slot is forgotten (its store may have changed) -/
theorem OwC.drop {a : An} {F H : Hp} : ∀ {ρ : Env} {σ : L2.St} {S : List Addr} {x : Option V} (i : Nat), OwC a F H ρ σ S → S.Nodup →
    ∃ S', OwC a F H (ρ.put i none) (σ.set i x) S' ∧ S'.Nodup ∧ ∀ p ∈ S', p ∈ S
  | [], σ, S, x, i, h, n => ⟨S, by simpa only [Env.put, OwC] using h, n, fun _ h => h⟩
  | none :: ρ, [], S, x, 0, h, n => ⟨S, by simpa [Env.put, OwC] using h, n, fun _ h => h⟩
  | none :: ρ, y :: σ, S, x, 0, h, n => ⟨S, by simpa [Env.put, OwC] using h, n, fun _ h => h⟩
  | some u :: ρ, [], S, x, i, h, n => by simp [OwC] at h
  | some u :: ρ, y :: σ, S, x, 0, h, n => by
    simp only [OwC, List.tail_cons] at h
    obtain ⟨v1, S1, S2, e1, h1, h2, rfl⟩ := h
    exact ⟨S2, by simpa [Env.put, OwC] using h2, (List.nodup_append.mp n).2.1, fun p hp => List.mem_append_right _ hp⟩
  | none :: ρ, [], S, x, i + 1, h, n => by
    simp only [OwC] at h
    obtain ⟨S', h', n', k⟩ := OwC.drop (x := x) i h n
    exact ⟨S', by simpa [Env.put, OwC] using h', n', k⟩
  | none :: ρ, y :: σ, S, x, i + 1, h, n => by
    simp only [OwC] at h
    obtain ⟨S', h', n', k⟩ := OwC.drop (x := x) i h n
    exact ⟨S', by simpa [Env.put, OwC] using h', n', k⟩
  | some u :: ρ, y :: σ, S, x, i + 1, h, n => by
    simp only [OwC, List.tail_cons] at h
    obtain ⟨v1, S1, S2, e1, h1, h2, rfl⟩ := h
    obtain ⟨n1, n2, n3⟩ := List.nodup_append.mp n
    obtain ⟨S', h', n', k⟩ := OwC.drop (x := x) i h2 n2
    refine ⟨S1 ++ S', ?_, List.nodup_append.mpr ⟨n1, n', fun p hp q hq => n3 p hp q (k q hq)⟩, fun p hp => ?_⟩
    · simp only [Env.put, List.set_cons_succ, OwC, List.tail_cons]
      exact ⟨v1, S1, S', e1, h1, h', rfl⟩
    · rcases List.mem_append.mp hp with q | q
      · exact List.mem_append_left _ q
      · exact List.mem_append_right _ (k p q)
theorem Env.put_length : ∀ (ρ : Env) (i : Nat) (x : Option T), (ρ.put i x).length = ρ.length
  | [], _, _ => rfl
  | _ :: r, 0, _ => rfl
  | _ :: r, i + 1, x => by simp [Env.put, Env.put_length r i x]

/-! ### the state -/
/-- the bag: a list of three ints and a list of ints -/
def BagOk (a : An) (F H : Hp) : Prop := ∀ b, a.bg = some b → F b = none ∧ ∃ (x y z : Int) (c : Addr) (ns : List Int),
  H b = some (.lst [.int x, .int y, .int z, .ref c]) ∧ F c = some (.lst (ns.map V.int)) ∧ 0 ≤ x ∧ 0 ≤ y ∧ y < 2147483647 ∧ 0 ≤ z ∧ ∀ n ∈ ns, 0 ≤ n
/-- what has become of the heaps since the entry; M: places that may be written -/
structure Gw (M : List Addr) (F0 H0 F H : Hp) : Prop where
  ff : Sub F0 F
  hh : ∀ p o, p ∉ M → H0 p = some o → H p = some o
  nn : ∀ p, H0 p ≠ none → F0 p = none → F p = none
  th : ∀ p, H0 p ≠ none → H p ≠ none
theorem Gw.refl (M : List Addr) (F H : Hp) : Gw M F H F H := ⟨Sub.refl F, fun _ _ _ h => h, fun _ _ h => h, fun _ h => h⟩
theorem Gw.trans {M : List Addr} {F0 H0 F1 H1 F2 H2 : Hp} (g : Gw M F0 H0 F1 H1) (g' : Gw M F1 H1 F2 H2) : Gw M F0 H0 F2 H2 :=
  ⟨g.ff.trans g'.ff, fun p o hp h => g'.hh p o hp (g.hh p o hp h), fun p h n => g'.nn p (g.th p h) (g.nn p h n), fun p h => g'.th p (g.th p h)⟩

structure An0 extends An where
  M : List Addr
  F0 : Hp
  H0 : Hp
  W : List Hp
  V : List Hp
structure SW (a : An0) (ρ : Env) (σ : L2.St) (ts : List T) (vs : List V) (H F : Hp) (Sc Sm : List Addr) : Prop where
  sub : Sub F H
  gw : Gw a.M a.F0 a.H0 F H
  bagM : ∀ b, a.bg = some b → b ∈ a.M ∧ a.H0 b ≠ none
  bag : BagOk a.toAn F H
  cells : OwC a.toAn F H ρ σ Sc
  tmps : OwL a.toAn F H ts vs Sm
  nd : (Sc ++ Sm).Nodup
  fr : ∀ p ∈ Sc ++ Sm, F p = none ∧ a.bg ≠ some p ∧ (p ∈ a.M ∨ a.H0 p = none)
  len : ρ.length = σ.length
  wit : ∀ G ∈ a.W, Sub (hb a.toAn G) (hb a.toAn H)
  wif : ∀ G ∈ a.V, Sub G F
def SOk (a : An0) (ρ : Env) (σ : L2.St) (ts : List T) (vs : List V) (H : Hp) : Prop := ∃ F Sc Sm, SW a ρ σ ts vs H F Sc Sm
section
variable {a : An0} {ρ : Env} {σ : L2.St} {ts : List T} {vs : List V} {H F : Hp} {Sc Sm : List Addr}
theorem SW.nobag (w : SW a ρ σ ts vs H F Sc Sm) : ∀ b, a.bg = some b → F b = none := fun b e => (w.bag b e).1
theorem SW.subb (w : SW a ρ σ ts vs H F Sc Sm) : Sub F (hb a.toAn H) := fun p o q => by
  unfold hb
  split
  · rename_i z
    rw [w.nobag p z] at q; cases q
  · exact w.sub p o q
/-- temporaries: the first can be read -/
theorem SW.top {t : T} {v : V} (w : SW a ρ σ (t :: ts) (v :: vs) H F Sc Sm) : Is a.toAn (hb a.toAn H) t.dat v := by
  obtain ⟨v', r, S1, S2, e, h1, h2, e2⟩ := (show ∃ v' r S1 S2, v :: vs = v' :: r ∧ Ow a.toAn F H t v' S1 ∧ OwL a.toAn F H ts r S2 ∧ Sm = S1 ++ S2 by
    have := w.tmps; simpa only [OwL] using this)
  cases e
  exact Ow.is w.sub w.nobag h1 fun p hp => (w.fr p (by rw [e2]; exact List.mem_append_right _ (List.mem_append_left _ hp))).2.1
theorem SW.all (w : SW a ρ σ ts vs H F Sc Sm) : IsL a.toAn (hb a.toAn H) (T.dats ts) vs :=
  OwL.is w.sub w.nobag w.tmps fun p hp => (w.fr p (List.mem_append_right _ hp)).2.1
theorem SOk.top {t : T} {v : V} : SOk a ρ σ (t :: ts) (v :: vs) H → Is a.toAn (hb a.toAn H) t.dat v := fun ⟨_, _, _, w⟩ => w.top
theorem OwL.split {a : An} {F H : Hp} : ∀ {ts us : List T} {vs ws : List V} {S : List Addr}, OwL a F H (ts ++ us) (vs ++ ws) S → ts.length = vs.length → ∃ S1 S2, OwL a F H ts vs S1 ∧ OwL a F H us ws S2 ∧ S = S1 ++ S2
  | [], us, [], ws, S, h, _ => ⟨[], S, by simp [OwL], h, rfl⟩
  | [], us, v :: vs, ws, S, h, l => by simp at l
  | t :: ts, us, [], ws, S, h, l => by simp at l
  | t :: ts, us, v :: vs, ws, S, h, l => by
    have h : OwL a F H (t :: (ts ++ us)) (v :: (vs ++ ws)) S := h
    simp only [OwL] at h
    obtain ⟨v', r, S1, S2, e, h1, h2, rfl⟩ := h
    cases e
    obtain ⟨S3, S4, h3, h4, rfl⟩ := OwL.split h2 (by simpa using l)
    refine ⟨S1 ++ S3, S4, ?_, h4, by simp⟩
    simp only [OwL]
    exact ⟨v, vs, S1, S3, rfl, h1, h3, rfl⟩
theorem OwL.join {a : An} {F H : Hp} : ∀ {ts us : List T} {vs ws : List V} {S1 S2 : List Addr}, OwL a F H ts vs S1 → OwL a F H us ws S2 → OwL a F H (ts ++ us) (vs ++ ws) (S1 ++ S2)
  | [], us, vs, ws, S1, S2, h1, h2 => by
    simp only [OwL] at h1
    obtain ⟨rfl, rfl⟩ := h1
    exact h2
  | t :: ts, us, vs, ws, S1, S2, h1, h2 => by
    simp only [OwL] at h1
    obtain ⟨v, r, S3, S4, rfl, h3, h4, rfl⟩ := h1
    show OwL a F H (t :: (ts ++ us)) (v :: (r ++ ws)) (S3 ++ S4 ++ S2)
    simp only [OwL]
    exact ⟨v, r ++ ws, S3, S4 ++ S2, rfl, h3, OwL.join h4 h2, by simp⟩
theorem OwL.length {a : An} {F H : Hp} : ∀ {ts : List T} {vs : List V} {S : List Addr}, OwL a F H ts vs S → vs.length = ts.length
  | [], _, _, h => by simp only [OwL] at h; simp [h.1]
  | t :: ts, vs, S, h => by
    simp only [OwL] at h
    obtain ⟨v, r, S1, S2, rfl, _, h2, _⟩ := h
    simp [OwL.length h2]
/-- temporaries are let go, or taken in another order -/
theorem SW.tmp {us : List T} {ws : List V} {Sn : List Addr} (w : SW a ρ σ ts vs H F Sc Sm) (h : OwL a.toAn F H us ws Sn) (n : Sn.Nodup) (k : ∀ p ∈ Sn, p ∈ Sm) : SW a ρ σ us ws H F Sc Sn := by
  obtain ⟨n1, n2, n3⟩ := List.nodup_append.mp w.nd
  refine ⟨w.sub, w.gw, w.bagM, w.bag, w.cells, h, List.nodup_append.mpr ⟨n1, n, fun p hp q hq => n3 p hp q (k q hq)⟩, fun p hp => w.fr p ?_, w.len, w.wit, w.wif⟩
  rcases List.mem_append.mp hp with q | q
  · exact List.mem_append_left _ q
  · exact List.mem_append_right _ (k p q)
theorem SOk.pop {us : List T} {ws : List V} (l : us.length = ws.length) : SOk a ρ σ (us ++ ts) (ws ++ vs) H → SOk a ρ σ ts vs H := fun ⟨F, Sc, Sm, w⟩ => by
  obtain ⟨S1, S2, h1, h2, e⟩ := OwL.split w.tmps l
  have n := (List.nodup_append.mp w.nd).2.1
  rw [e] at n
  exact ⟨F, Sc, S2, w.tmp h2 (List.nodup_append.mp n).2.1 fun p hp => by rw [e]; exact List.mem_append_right _ hp⟩
theorem SOk.pop1 {t : T} {v : V} (h : SOk a ρ σ (t :: ts) (v :: vs) H) : SOk a ρ σ ts vs H := SOk.pop (us := [t]) (ws := [v]) rfl h
/-- a value without places of its own -/
theorem SW.leaf {d : D} {v : V} (w : SW a ρ σ ts vs H F Sc Sm) (h : Is a.toAn F d v) : SW a ρ σ (.leaf d :: ts) (v :: vs) H F Sc Sm :=
  ⟨w.sub, w.gw, w.bagM, w.bag, w.cells, by simp only [OwL]; exact ⟨v, vs, [], Sm, rfl, by simp only [Ow]; exact ⟨trivial, h⟩, w.tmps, rfl⟩, w.nd, w.fr, w.len, w.wit, w.wif⟩
theorem SW.vw {d : D} {v : V} (w : SW a ρ σ ts vs H F Sc Sm) (h : Is a.toAn (hb a.toAn H) d v) : SW a ρ σ (.vw d :: ts) (v :: vs) H F Sc Sm :=
  ⟨w.sub, w.gw, w.bagM, w.bag, w.cells, by simp only [OwL]; exact ⟨v, vs, [], Sm, rfl, by simp only [Ow]; exact ⟨trivial, h⟩, w.tmps, rfl⟩, w.nd, w.fr, w.len, w.wit, w.wif⟩
/-- what needs no heap -/
def D.flat : D → Bool
  | .non | .bl _ | .int _ | .str _ => true
  | _ => false
theorem Is.flat {a : An} {F G : Hp} {d : D} {v : V} (f : d.flat = true) (h : Is a F d v) : Is a G d v := by
  cases d <;> simp [D.flat] at f <;> simpa only [Is] using h
theorem SOk.flat {d : D} {v : V} (f : d.flat = true) (h : Is a.toAn (hb a.toAn H) d v) : SOk a ρ σ ts vs H → SOk a ρ σ (.leaf d :: ts) (v :: vs) H := fun ⟨F, Sc, Sm, w⟩ => ⟨F, Sc, Sm, w.leaf (h.flat f)⟩
theorem SOk.int {i : Int} (h : SOk a ρ σ ts vs H) : SOk a ρ σ (.leaf (.int i) :: ts) (.int i :: vs) H := h.flat rfl (by simp only [Is])
theorem SOk.bl {b : Bool} (h : SOk a ρ σ ts vs H) : SOk a ρ σ (.leaf (.bl b) :: ts) (.bl b :: vs) H := h.flat rfl (by simp only [Is])
theorem SOk.str {b : Str} (h : SOk a ρ σ ts vs H) : SOk a ρ σ (.leaf (.str b) :: ts) (.str b :: vs) H := h.flat rfl (by simp only [Is])
theorem SOk.non (h : SOk a ρ σ ts vs H) : SOk a ρ σ (.leaf .non :: ts) (.non :: vs) H := h.flat rfl (by simp only [Is])
theorem hb_upd {a : An} {H : Hp} {p : Addr} {o : HO} (hp : H p = none) : Sub (hb a H) (hb a (upd H p o)) := fun q u e => by
  unfold hb at e ⊢
  split at e
  · cases e
  · rename_i z
    rw [if_neg z, upd_ne (ne_of_none e hp)]
    exact e
theorem sub_new {H : Hp} {p : Addr} {o : HO} (hp : H p = none) : Sub H (upd H p o) := fun q u e => by
  rw [upd_ne (ne_of_none e hp)]
  exact e
theorem SW.fresh (w : SW a ρ σ ts vs H F Sc Sm) {p : Addr} (hp : H p = none) : a.H0 p = none ∧ F p = none ∧ a.bg ≠ some p := by
  refine ⟨?_, ?_, fun e => ?_⟩
  · cases q : a.H0 p with
    | none => rfl
    | some o => exact absurd hp (w.gw.th p (by rw [q]; simp))
  · cases q : F p with
    | none => rfl
    | some o =>
      have := w.sub p o q
      rw [hp] at this; cases this
  · obtain ⟨_, x, y, z, c, ns, e1, _⟩ := w.bag p e
    rw [hp] at e1; cases e1
theorem bag_new {p : Addr} {o : HO} (w : BagOk a.toAn F H) (hp : H p = none) : BagOk a.toAn F (upd H p o) := fun b e => by
  obtain ⟨h1, x, y, z, c, ns, e1, h2, h3⟩ := w b e
  refine ⟨h1, x, y, z, c, ns, ?_, h2, h3⟩
  rw [upd_ne (ne_of_none e1 hp)]
  exact e1
/-- all is kept where a new object is laid that the frozen part doesn't know -/
theorem SW.laid (w : SW a ρ σ ts vs H F Sc Sm) {p : Addr} {o : HO} (hp : H p = none) : SW a ρ σ ts vs (upd H p o) F Sc Sm := by
  have s := sub_new (o := o) hp
  have sb := hb_upd (a := a.toAn) (o := o) hp
  refine ⟨w.sub.trans s, ⟨w.gw.ff, fun q u hq e => s q u (w.gw.hh q u hq e), w.gw.nn, fun q h => ?_⟩, w.bagM, bag_new w.bag hp, w.cells.mono (Sub.refl F) sb fun q _ u e => s q u e, w.tmps.mono (Sub.refl F) sb fun q _ u e => s q u e, w.nd, w.fr, w.len, fun G hG => (w.wit G hG).trans sb, w.wif⟩
  unfold upd
  split
  · simp
  · exact w.gw.th q h
/-- .. or that the frozen part takes in -/
theorem SW.froze (w : SW a ρ σ ts vs H F Sc Sm) {p : Addr} {o : HO} (hp : H p = none) : SW a ρ σ ts vs (upd H p o) (upd F p o) Sc Sm := by
  obtain ⟨h0, hF, hbg⟩ := w.fresh hp
  have s := sub_new (o := o) hp
  have sF : Sub F (upd F p o) := sub_new (o := o) hF
  have sb := hb_upd (a := a.toAn) (o := o) hp
  refine ⟨fun q u e => ?_, ⟨w.gw.ff.trans sF, fun q u hq e => s q u (w.gw.hh q u hq e), fun q h n => ?_, fun q h => ?_⟩, w.bagM, fun b e => ?_, w.cells.mono sF sb fun q _ u e => s q u e, w.tmps.mono sF sb fun q _ u e => s q u e, w.nd, fun q hq => ?_, w.len, fun G hG => (w.wit G hG).trans sb, fun G hG => (w.wif G hG).trans sF⟩
  · unfold upd at e ⊢
    split at e
    · rename_i z; rw [if_pos z]; exact e
    · rename_i z; rw [if_neg z]; exact w.sub q u e
  · rw [upd_ne (fun z => h (by rw [z]; exact h0))]
    exact w.gw.nn q h n
  · unfold upd
    split
    · simp
    · exact w.gw.th q h
  · obtain ⟨h1, x, y, z, c, ns, e1, h2, h3⟩ := bag_new (o := o) w.bag hp b e
    refine ⟨?_, x, y, z, c, ns, e1, sF _ _ h2, h3⟩
    rw [upd_ne (fun z => hbg (by rw [← z]; exact e))]
    exact h1
  · obtain ⟨f1, f2, f3⟩ := w.fr q hq
    refine ⟨?_, f2, f3⟩
    rw [upd_ne (fun z => ?_)]
    · exact f1
    · rcases List.mem_append.mp hq with y | y
      · exact OwC.there w.cells q y (by rw [z]; exact hp)
      · exact OwL.there w.tmps q y (by rw [z]; exact hp)
/-- a new list of temporaries -/
theorem SW.mkLst {us : List T} {ws : List V} {p : Addr} (w : SW a ρ σ (us ++ ts) (ws ++ vs) H F Sc Sm) (l : us.length = ws.length) (n : us.all T.nvw = true) (hp : H p = none) :
    ∃ Sm', SW a ρ σ (.lst us :: ts) (.ref p :: vs) (upd H p (.lst ws)) F Sc Sm' := by
  have w' := w.laid (o := .lst ws) hp
  obtain ⟨S1, S2, h1, h2, e⟩ := OwL.split w'.tmps l
  obtain ⟨h0, hF, hbg⟩ := w.fresh hp
  have np : p ∉ Sc ++ Sm := fun hq => by
    rcases List.mem_append.mp hq with y | y
    · exact OwC.there w.cells p y hp
    · exact OwL.there w.tmps p y hp
  refine ⟨p :: Sm, w'.sub, w'.gw, w'.bagM, w'.bag, w'.cells, ?_, ?_, fun q hq => ?_, w'.len, w'.wit, w'.wif⟩
  · simp only [OwL, Ow]
    exact ⟨.ref p, vs, p :: S1, S2, rfl, ⟨h1.nvs n, p, ws, S1, rfl, upd_same, h1, rfl⟩, h2, by rw [e]; rfl⟩
  · exact (List.perm_middle.nodup_iff).mpr (List.nodup_cons.mpr ⟨np, w.nd⟩)
  · rcases List.mem_append.mp hq with y | y
    · exact w'.fr q (List.mem_append_left _ y)
    · rcases List.mem_cons.mp y with rfl | y
      · exact ⟨hF, hbg, .inr h0⟩
      · exact w'.fr q (List.mem_append_right _ y)
theorem SW.mkTup {us : List T} {ws : List V} {p : Addr} (w : SW a ρ σ (us ++ ts) (ws ++ vs) H F Sc Sm) (l : us.length = ws.length) (n : us.all T.nvw = true) (hp : H p = none) :
    ∃ F', SW a ρ σ (.tup us :: ts) (.ref p :: vs) (upd H p (.tup ws)) F' Sc Sm := by
  have w' := w.froze (o := .tup ws) hp
  obtain ⟨S1, S2, h1, h2, e⟩ := OwL.split w'.tmps l
  refine ⟨_, w'.sub, w'.gw, w'.bagM, w'.bag, w'.cells, ?_, w'.nd, w'.fr, w'.len, w'.wit, w'.wif⟩
  simp only [OwL, Ow]
  exact ⟨.ref p, vs, S1, S2, rfl, ⟨h1.nvs n, p, ws, rfl, .inl (.inl upd_same), h1⟩, h2, e⟩
/-- T's that are plain -/
def T.plain : T → Bool
  | .leaf _ => true
  | _ => false
theorem OwL.plain {a : An} {F H : Hp} : ∀ {ts : List T} {vs : List V} {S : List Addr}, ts.all T.plain = true → OwL a F H ts vs S → S = [] ∧ IsL a F (T.dats ts) vs
  | [], vs, S, _, h => by
    simp only [OwL] at h
    exact ⟨h.2, by simp only [T.dats, IsL]; exact h.1⟩
  | t :: ts, vs, S, k, h => by
    simp only [List.all_cons, Bool.and_eq_true] at k
    simp only [OwL] at h
    obtain ⟨v, r, S1, S2, rfl, h1, h2, rfl⟩ := h
    obtain ⟨e2, i2⟩ := OwL.plain k.2 h2
    cases t with
    | leaf d =>
      simp only [Ow] at h1
      obtain ⟨rfl, i1⟩ := h1
      exact ⟨by rw [e2]; rfl, by simp only [T.dats, T.dat, IsL]; exact ⟨v, r, rfl, i1, i2⟩⟩
    | lst _ => simp [T.plain] at k
    | tup _ => simp [T.plain] at k
    | vw _ => simp [T.plain] at k
/-- a tuple of plain things is plain -/
def T.mk (us : List T) : T := if us.all T.plain then .leaf (.tup (T.dats us)) else .tup us
theorem SW.mkT {us : List T} {v : V} (w : SW a ρ σ (.tup us :: ts) (v :: vs) H F Sc Sm) : SW a ρ σ (T.mk us :: ts) (v :: vs) H F Sc Sm := by
  unfold T.mk
  split
  · rename_i k
    obtain ⟨v', r, S1, S2, e, h1, h2, e2⟩ := (show ∃ v' r S1 S2, v :: vs = v' :: r ∧ Ow a.toAn F H (.tup us) v' S1 ∧ OwL a.toAn F H ts r S2 ∧ Sm = S1 ++ S2 by
      have := w.tmps; simpa only [OwL] using this)
    cases e
    simp only [Ow] at h1
    obtain ⟨_, p, ws, rfl, q, h3⟩ := h1
    obtain ⟨rfl, h4⟩ := OwL.plain k h3
    refine ⟨w.sub, w.gw, w.bagM, w.bag, w.cells, ?_, w.nd, w.fr, w.len, w.wit, w.wif⟩
    rw [e2]
    simp only [OwL, Ow, Is]
    exact ⟨_, _, [], S2, rfl, ⟨rfl, p, ws, rfl, q, h4⟩, h2, rfl⟩
  · exact w
end
end DL
namespace DL
open PySem PySem.Spec PyProof.Rows L2

/-! ### a def's promise where no repr is under way (no guards) -/
structure FnG (P : Program) (w : World) (K : PySem.W.Frag) (mg : Str → Option Value) (base : Heap) (CX : CXT) (k : Nat)
    (f : Addr) (fd : FuncData) (ps : List Str) (sp : Sp) : Prop where
  len : ∀ vs H Q E, sp vs H Q E → vs.length = ps.length
  run : ∀ (A : Around) (outer : List PySem.Env) (s : Shared) (H : Hp) (args : Args) (us : List Value) (vs : List V) (Q : VK) (E : XK),
    A.guards = some [] → Room k A → Env0 P w K mg base A outer s H → BindsTo s fd args (ps.zip us) → Vals vs us → sp vs H Q E →
    codeAny (model P w) A (.call (.ref f) args) (CR CX outer P w H s Q E) s
theorem FnG.mono {P : Program} {w : World} {K : PySem.W.Frag} {mg : Str → Option Value} {base : Heap} {CX : CXT} {j k : Nat} {f : Addr} {fd : FuncData} {ps : List Str} {sp : Sp}
    (F : FnG P w K mg base CX j f fd ps sp) (h : j ≤ k) : FnG P w K mg base CX k f fd ps sp :=
  ⟨F.len, fun A o s H ar us vs Q E g hr => F.run A o s H ar us vs Q E g (hr.mono h)⟩

section
variable {X : Cx} {CX : CXT} {k : Nat} {f C : Addr} {fd : FuncData} {ps : List Str} {sp : Sp} {dvs : List V} {ds : List Value} {E : XK} {x m : Str} {p pos apos : Pos} {e o : Expr} {es : List Expr} {ta : TE} {t : TA}
theorem run_G {pins : List (Addr × Obj)} {σ : L2.St} {H : Hp} {s : Shared} {Q : VK} {us : List Value} {vs : List V}
    (F : FnG X.prog X.w X.K X.mg X.base CX k f fd ps sp) (hg : X.A.guards = some []) (hr : Room k X.A) (hb : Binds X.K fd ps ds) (hd : Vals dvs ds) (hx : Passes CX X E)
    (I : Inv X pins σ H s) (r : Vals vs us) (h : sp (vs ++ dvs) H Q E) :
    wpAny (model X.prog X.w) X.A (call (.ref f) us) (EP X pins σ Q) X.xe s := by
  have both : Vals (vs ++ dvs) (us ++ ds) := r.append hd
  have n : (us ++ ds).length = ps.length := both.length ▸ F.len _ _ _ _ h
  have go := F.run X.A X.stack s H ⟨us, []⟩ (us ++ ds) (vs ++ dvs) Q E hg hr I.env0 (hb s us I.kIn n) both h
  refine wpAny_call (codeAny_mono go fun res s' hq => ?_)
  match res, hq with
  | .error e, hq => exact hx pins σ H s e s' I hq
  | .ok (.ret u), hq => exact I.after hq
  | .ok .next, hq => exact False.elim hq
  | .ok .brk, hq => exact False.elim hq
  | .ok .cont, hq => exact False.elim hq
theorem pe_callG (F : FnG X.prog X.w X.K X.mg X.base CX k f fd ps sp) (gu : X.A.guards = some []) (hr : Room k X.A) (hg : Gl X x) (hm : X.mg x = some (.ref f))
    (hk : PySem.W.keepIn X.K (.ref f) = true) (hb : Binds X.K fd ps ds) (hd : Vals dvs ds) (hx : Passes CX X E)
    (ha : PA X (e :: es) t) (hdb : (x == ("__debug__" : Str)) = false) (he : starEach (e :: es) X.env = (false, eval e X.env) :: starEach es X.env)
    (hpl : (backTo pos (starEach es X.env)).any (·.1) = false) :
    PE X (.Call (.Name x p) (e :: es) [] pos) (tCall sp dvs E t) :=
  ⟨fun pins s σ H Q I h => wpAny_Call_Name_kw (ld_glob I hg hm
    (PySem.W.callWith_K (h₀ := X.base) I.ok.mod.kin hk
      (thn (ha.run pos pins s σ H _ I h) fun us s1 ⟨vs, H1, I1, r, q⟩ => ⟨I1.kIn, run_G F gu hr hb hd hx I1 r q⟩) he hpl) hdb)⟩
theorem pe_callG0 (F : FnG X.prog X.w X.K X.mg X.base CX k f fd ps sp) (gu : X.A.guards = some []) (hr : Room k X.A) (hg : Gl X x) (hm : X.mg x = some (.ref f))
    (hk : PySem.W.keepIn X.K (.ref f) = true) (hb : Binds X.K fd ps ds) (hd : Vals dvs ds) (hx : Passes CX X E) (hdb : (x == ("__debug__" : Str)) = false) :
    PE X (.Call (.Name x p) [] [] pos) (tCall sp dvs E tNil) :=
  ⟨fun pins s σ H Q I h => wpAny_Call_Name_kw (ld_glob I hg hm (PySem.W.callWith_K0 I.kIn hk (run_G (us := []) F gu hr hb hd hx I .nil h)) hdb)⟩
end

/-- a def keeps its promise, by its body -/
theorem fn_G {CX : CXT} {P : Program} {w : World} {K : PySem.W.Frag} {mg : Str → Option Value} {base : Heap} {k : Nat} {f : Addr} {name qual : Str} {params : Arguments} {body : List Stmt} {scope : Scope}
    {dV kV doc pm cdv ct oc : Value} {an od : Option Addr} {osl : Array (Option Value)} {N ps : List Str} {sp : Sp}
    (lk : K.lookup f = some ⟨oc, od, .func (PySem.W.fnOf name qual params body scope dV kV doc pm an cdv ct), osl⟩) (hcd : PySem.W.codeIn K cdv qual = true) (S : FnScope N ps scope)
    (len : ∀ vs H Q E, sp vs H Q E → vs.length = ps.length)
    (hbody : ∀ (A : Around) (outer : List PySem.Env) (s : Shared) (H : Hp) (vs : List V) (Q : VK) (E : XK), A.guards = some [] → Room k (A.deeper (envOfC qual scope s.heap.objs.size f cdv)) → sp vs H Q E →
      ∃ t, PSs (cxOf CX P w K mg base N qual scope f cdv A outer s H E) body t ∧ t { nx := fun _ H' => Q .non H', rt := Q } (start N vs) H) :
    FnG P w K mg base CX (k + 1) f (PySem.W.fnOf name qual params body scope dV kV doc pm an cdv ct) ps sp := by
  refine ⟨len, fun A outer s H args us vs Q E g hr e0 hb r hsp => ?_⟩
  have hl := len vs H Q E hsp
  have KX : K.In s.heap := e0.mod.kin.keeps fun b o e => (e0.bs b o e).1
  have lim := e0.mod.nolimit.keeps fun b o e => (e0.bs b o e).1
  have kinds : ∀ y ∈ ps.zip us, scope.names.lookup y.1 = some .local ∨ (scope.names.lookup y.1 = some .cell ∧ ((cellsFrom (s.heap.objs.size + 1) scope.names []).lookup y.1).isSome = true) := by
    rintro ⟨n, v⟩ hy
    refine (S.par n (List.of_mem_zip hy).1).imp id fun q => ⟨q, PySem.W.cellsFrom_some _ _ _ (.inl q)⟩
  refine codeAny_call_function hr.depth (KX _ _ lk) rfl S.co S.gen rfl (PySem.W.codeRec_of KX hcd) (hb _ _ _ _ ?_)
  refine wpAny_newFunctionEnv_cells S.kind kinds fun env he s1 x => ?_
  subst he
  refine ⟨lim.keeps x.toInCall.keep, codeAny_func ?_⟩
  obtain ⟨t, ht, hq⟩ := hbody A outer s H vs Q E g (hr.deeper _) hsp
  have I := inv_start (CX := CX) (E := E) S hr.hd e0 hl r x
  refine wpAny_mono (ht.run [] s1 (start N vs) H _ I hq) (fun fl s' hs => ?_) fun e s' hs => hs
  match fl, hs with
  | .ret u, ⟨v, σ', H', J, rv, q⟩ => exact ⟨v, H', J.os, J.bare, J.base, J.hok, rv, q⟩
  | .next, ⟨σ', H', J, q⟩ => exact ⟨.non, H', J.os, J.bare, J.base, J.hok, rfl, q⟩
  | .brk, ⟨_, _, _, q⟩ => exact False.elim q
  | .cont, ⟨_, _, _, q⟩ => exact False.elim q

/-- the law is called: its promise gives the row's walk -/
theorem law_G {P : Program} {w : World} {K : PySem.W.Frag} {mg mb : Str → Option Value} {CX : CXT} {k : Nat} {fa a : Addr} {fd : FuncData} {x : Str} {sp : Sp} {s₁ : Shared} {vs : List Value} {ns : List Int}
    (KX : K.In s₁.heap) (hns : s₁.heap.Ns mainGlobals mg) (hb : s₁.heap.Ns builtinsNs mb) (hbb : ∀ x : Str, x ≠ "__name__" → mb x = bootBuiltins x) (hlim : s₁.heap.NoLimit) (hg : s₁.gens = #[])
    (ha : s₁.heap.get? a = some { cls := .type "list", data := .seq vs.toArray }) (hi : IntsAre vs ns) (hl : ns.length ≤ sizeLine) (hr : Room k callerA)
    (F : ∀ base : Heap, K.In base → base.Ns mainGlobals mg → FnG P w K mg base CX k fa fd [x] sp) (hbind : ∀ (s : Shared) (u : Value), BindsTo s fd ⟨[u], []⟩ [(x, u)])
    (hsp : ∀ H : Hp, Only H → SqL K H a (ns.map V.int) → sp [.ref a] H (fun v _ => v = .bl true) fun _ _ _ => False) (hCX : ∀ H e s', CX [] H s₁ (fun _ _ _ => False) e s' → False) :
    codeAny (model P w) callerA (.call (.ref fa) ⟨[.ref a], []⟩) (fun r s' => r = .ok (.ret (.bool true)) ∧ OldK s₁.heap s'.heap ∧ s'.os = s₁.os ∧ AllBare s'.gens) s₁ := by
  have values := vals_ints hi
  have many := hi.length
  -- H knows the script at most
  have from_heap : ∀ H : Hp, Only H → SqL K H a (ns.map V.int) → HOk P w H s₁.heap → (∀ b, H b ≠ none → b = a) → (H a ≠ none → K.lookup a = none) →
      codeAny (model P w) callerA (.call (.ref fa) ⟨[.ref a], []⟩) (fun r s' => r = .ok (.ret (.bool true)) ∧ OldK s₁.heap s'.heap ∧ s'.os = s₁.os ∧ AllBare s'.gens) s₁ := by
    intro H only script okay alone notWritten
    have stays : ∀ {b : Addr} {o : Obj}, s₁.heap.get? b = some o → H b = none → (hidT s₁.heap H).get? b = some o := fun e n => hidT_get e n
    have dictsFree : ∀ {b : Addr} {o : Obj} {es : Array DictEntry} {ep : Nat}, s₁.heap.get? b = some o → o.data = .dict es ep → H b = none := by
      intro b o es ep e d
      by_cases z : H b = none
      · exact z
      · have := alone b z
        subst this
        rw [ha] at e
        cases e
        cases (show Data.seq vs.toArray _ = Data.dict es ep from d)
    have tables : ∀ {b : Addr} {m : Str → Option Value}, s₁.heap.Ns b m → (hidT s₁.heap H).Ns b m := by
      rintro b m ⟨o, es, ep, e, d, r⟩
      exact ⟨o, es, ep, stays e (dictsFree e d), d, r⟩
    have written : K.In (hidT s₁.heap H) := by
      intro b o e
      refine stays (KX b o e) ?_
      by_cases z : H b = none
      · exact z
      · have := alone b z
        subst this
        rw [notWritten z] at e
        cases e
    have module : Mod K mg (hidT s₁.heap H) := ⟨written, tables hns, ⟨mb, tables hb, hbb⟩, hlim.elim fun mc h => ⟨mc, tables h.1, h.2⟩⟩
    have at_call : Env0 P w K mg (hidT s₁.heap H) callerA [] s₁ H :=
      ⟨rfl, module, fun b o e => of_hidT e, Nat.le_of_eq (hidT_size _ _), trivial, fun b hb => absurd hb (by simp [frs]), okay, .of_eq hg⟩
    have go := (F _ written (tables hns)).run callerA [] s₁ H ⟨[.ref a], []⟩ [.ref a] [.ref a] _ _ rfl hr at_call (hbind s₁ (.ref a)) (.cons rfl .nil) (hsp H only script)
    refine codeAny_mono go fun r s' h => ?_
    match r, h with
    | .error e, h => exact (hCX H e s' h).elim
    | .ok .next, h => exact False.elim h
    | .ok .brk, h => exact False.elim h
    | .ok .cont, h => exact False.elim h
    | .ok (.ret u), ⟨v, H', os, bare, un, okay', rel, q⟩ =>
      obtain rfl : v = .bl true := q
      obtain rfl : u = Value.bool true := rel
      refine ⟨rfl, OldK.of_keep fun b o e => ?_, os, bare⟩
      cases q : H b with
      | none => exact un.keep b o e q (by simp [frs]) (by simp)
      | some u =>
        rcases only b with z | ⟨ob, xs, z⟩
        · rw [q] at z; cases z
        · obtain ⟨e1, _⟩ := okay b _ z
          obtain ⟨e2, _⟩ := okay' b _ (un.frzs b ob _ z)
          rw [e] at e1
          cases e1
          exact e2
  match hk : K.lookup a with
  | some o =>
    have e := KX a o hk
    rw [ha] at e
    cases e
    refine from_heap (fun _ => none) (fun _ => .inl rfl) (.inr ⟨_, vs.toArray, _, hk, rfl, rfl, rfl, ?_, by simpa using values⟩) (fun b u z => nomatch z) (fun b z => absurd rfl z) fun z => absurd rfl z
    rw [List.size_toArray, many]
    exact hl
  | none =>
    obtain ⟨Hs, self, other⟩ : ∃ Hs : Hp, Hs a = some (HO.frz { cls := .type "list", data := .seq vs.toArray } (.lst (ns.map V.int))) ∧ ∀ b, b ≠ a → Hs b = none :=
      ⟨fun b => if b = a then some (HO.frz { cls := .type "list", data := .seq vs.toArray } (.lst (ns.map V.int))) else none, if_pos rfl, fun b h => if_neg h⟩
    refine from_heap Hs (fun b => ?_) (.inl (.inr ⟨_, self⟩)) (fun b u z => ?_) (fun b z => ?_) fun _ => hk
    · by_cases hb : b = a
      · subst hb; exact .inr ⟨_, _, self⟩
      · exact .inl (other b hb)
    · by_cases hb : b = a
      · subst hb
        rw [self] at z
        cases z
        exact ⟨ha, by rw [List.length_map]; exact hl, vs, _, values, ha⟩
      · rw [other b hb] at z
        cases z
    · by_cases hb : b = a
      · exact hb
      · exact absurd (other b hb) z
theorem walk_G {l : PySem.W.OpenLaw} {n k : Nat} {q : Program} {loose : List Str} {XP : (Str → Option Value) → Heap → Prop} {YP : World → Heap → Prop} {d : DefRec} {K : Params → PySem.W.Frag} {CX : World → CXT} {sp : World → Sp} {x : Str}
    (hn : l.most = some n) (hn2 : n ≤ sizeLine) (hdf : d.params.defaults = []) (hr : Room k callerA) (hY : ∀ (w : World) (h : Heap), YP w h → (K w.params).In h)
    (F : ∀ (w : World) (mg : Str → Option Value) (fa : Addr) (h : Heap), (K w.params).In h → h.Ns mainGlobals mg → mg d.name = some (.ref fa) →
      ∃ fd : FuncData, (∀ (s : Shared) (u : Value), BindsTo s fd ⟨[u], []⟩ [(x, u)]) ∧
        ∀ base : Heap, (K w.params).In base → base.Ns mainGlobals mg → FnG l.prog w (K w.params) mg base (CX w) k fa fd [x] (sp w))
    (hsp : ∀ (w : World) (H : Hp) (a : Addr) (ns : List Int), ns.length ≤ n → Only H → SqL (K w.params) H a (ns.map V.int) → sp w [.ref a] H (fun v _ => v = .bl true) fun _ _ _ => False)
    (hCX : ∀ (w : World) (H : Hp) (s : Shared) (e : Value) (s' : Shared), CX w [] H s (fun _ _ _ => False) e s' → False) :
    PySem.W.WalkO q loose XP YP l.row.toRowW d [] (fun f vs => PySem.call f vs) := by
  refine Att.attach_call hn hdf fun w s₀ s₁ mg mb fa o pm cd doc a vs ns G Y ho hd hcd hmg hobj hints hlen hg => ?_
  have KX := hY w _ Y
  have ⟨fd, hb, hF⟩ := F w mg fa _ KX G.T.g hmg
  exact law_G KX G.T.g G.T.b G.T.builtins G.T.nolimit hg hobj hints (Nat.le_trans hlen hn2) hr hF hb
    (fun H only script => hsp w H a ns hlen only script) fun H e s' => hCX w H s₁ e s'
end DL
namespace DL
open PySem PySem.Spec PyProof.Rows L2

/-! ### the weakest readings -/
section
variable {X : Cx}
def WE (X : Cx) (e : Expr) : TE := fun σ H Q => ∃ t, PE X e t ∧ t σ H Q
def WT (X : Cx) (e : Expr) : TT := fun σ H Q => ∃ t, PT X e t ∧ t σ H Q
def WA (X : Cx) (e : List Expr) : TA := fun σ H Q => ∃ t, PA X e t ∧ t σ H Q
def WS (X : Cx) (e : Stmt) : TS := fun D σ H => ∃ t, PS X e t ∧ t D σ H
def WB (X : Cx) (e : List Stmt) : TS := fun D σ H => ∃ t, PSs X e t ∧ t D σ H
def WI (X : Cx) (tg e : Expr) : TI := fun σ H Q => ∃ t, PI X tg e t ∧ t σ H Q
def WG (X : Cx) (e : Expr) : TG := fun v σ H Q => ∃ t, PG X e t ∧ t v σ H Q
def WGs (X : Cx) (e : List Expr) : TGs := fun v σ H Q => ∃ t, PGs X e t ∧ t v σ H Q
theorem pe_W {e : Expr} : PE X e (WE X e) := ⟨fun p s σ H Q I ⟨_, h, q⟩ => h.run p s σ H Q I q⟩
theorem pt_W {e : Expr} : PT X e (WT X e) := ⟨fun p s σ H Q I ⟨_, h, q⟩ => h.run p s σ H Q I q⟩
theorem pa_W {e : List Expr} : PA X e (WA X e) := ⟨fun c p s σ H Q I ⟨_, h, q⟩ => h.run c p s σ H Q I q⟩
theorem ps_W {e : Stmt} : PS X e (WS X e) := ⟨fun p s σ H Q I ⟨_, h, q⟩ => h.run p s σ H Q I q⟩
theorem pb_W {e : List Stmt} : PSs X e (WB X e) := ⟨fun p s σ H Q I ⟨_, h, q⟩ => h.run p s σ H Q I q⟩
theorem pi_W {tg e : Expr} : PI X tg e (WI X tg e) := ⟨fun p s σ H Q I ⟨_, h, q⟩ => h.run p s σ H Q I q⟩
theorem pg_W {e : Expr} : PG X e (WG X e) := ⟨fun p s σ H v u Q I r ⟨_, h, q⟩ => h.run p s σ H v u Q I r q⟩
theorem pgs_W {e : List Expr} : PGs X e (WGs X e) := ⟨fun p s σ H v u Q I r ⟨_, h, q⟩ => h.run p s σ H v u Q I r q⟩
end

/-! ### what an expression gives, in plain data -/
def DE (a : An0) (X : Cx) (ρ : Env) (e : Expr) (Φ : T → Prop) : Prop :=
  ∀ σ H ts vs Q, SOk a ρ σ ts vs H → (∀ v t H', Φ t → SOk a ρ σ (t :: ts) (v :: vs) H' → Q v H') → WE X e σ H Q
def DT (a : An0) (X : Cx) (ρ : Env) (e : Expr) (Φ : Bool → Prop) : Prop :=
  ∀ σ H ts vs Q, SOk a ρ σ ts vs H → (∀ b H', Φ b → SOk a ρ σ ts vs H' → Q b H') → WT X e σ H Q
def DA (a : An0) (X : Cx) (ρ : Env) (es : List Expr) (Φ : List T → Prop) : Prop :=
  ∀ σ H ts vs Q, SOk a ρ σ ts vs H → (∀ ws us H', Φ us → us.all T.nvw = true → us.length = ws.length → SOk a ρ σ (us ++ ts) (ws ++ vs) H' → Q ws H') → WA X es σ H Q
/-- .. where they may be only read -/
def DV (a : An0) (X : Cx) (ρ : Env) (es : List Expr) (Φ : List T → Prop) : Prop :=
  ∀ σ H ts vs Q, SOk a ρ σ ts vs H → (∀ ws us H', Φ us → us.length = ws.length → SOk a ρ σ (us ++ ts) (ws ++ vs) H' → Q ws H') → WA X es σ H Q
/-- what holds of a body's whole -/
structure XOk (a : An0) (X : Cx) : Prop where
  K : X.K = a.K
  calm : X.calm = true
  nd : X.N.Nodup
  gu : X.A.guards = some []
  hd : X.A.handled = none
  un : X.A.units + 200 < cLine
  po : PassesOwn (model X.prog X.w) X.A X.env X.xe

section
variable {a : An0} {X : Cx} {ρ : Env} {σ : L2.St} {ts : List T} {vs : List V} {H F : Hp} {Sc Sm : List Addr} {Φ : T → Prop} {pos : Pos} {e A B C : Expr}

theorem OwL.perm1 {a : An} {F H : Hp} {t : T} {v : V} : ∀ {us : List T} {ws : List V} {ts : List T} {vs : List V} {S : List Addr}, us.length = ws.length → OwL a F H (us ++ t :: ts) (ws ++ v :: vs) S → ∃ S', OwL a F H (t :: us ++ ts) (v :: ws ++ vs) S' ∧ S'.Perm S
  | us, ws, ts, vs, S, l, h => by
    obtain ⟨S1, S2, h1, h2, rfl⟩ := OwL.split h l
    simp only [OwL] at h2
    obtain ⟨v', r, S3, S4, e, h3, h4, rfl⟩ := h2
    cases e
    refine ⟨S3 ++ (S1 ++ S4), ?_, ?_⟩
    · show OwL a F H (t :: (us ++ ts)) (v :: (ws ++ vs)) _
      simp only [OwL]
      exact ⟨v, _, S3, S1 ++ S4, rfl, h3, OwL.join h1 h4, rfl⟩
    · rw [← List.append_assoc, ← List.append_assoc]
      exact List.Perm.append_right _ List.perm_append_comm
theorem SW.re {us : List T} {ws : List V} {Sn : List Addr} (w : SW a ρ σ ts vs H F Sc Sm) (h : OwL a.toAn F H us ws Sn) (p : Sn.Perm Sm) : SW a ρ σ us ws H F Sc Sn :=
  w.tmp h (p.nodup_iff.mpr (List.nodup_append.mp w.nd).2.1) fun q hq => p.mem_iff.mp hq
theorem SW.rot {t : T} {v : V} {us : List T} {ws : List V} (w : SW a ρ σ (us ++ t :: ts) (ws ++ v :: vs) H F Sc Sm) (l : us.length = ws.length) : ∃ Sm', SW a ρ σ (t :: us ++ ts) (v :: ws ++ vs) H F Sc Sm' :=
  let ⟨_, h, p⟩ := OwL.perm1 l w.tmps
  ⟨_, w.re h p⟩
theorem SOk.rot {t : T} {v : V} {us : List T} {ws : List V} (l : us.length = ws.length) : SOk a ρ σ (us ++ t :: ts) (ws ++ v :: vs) H → SOk a ρ σ (t :: us ++ ts) (v :: ws ++ vs) H := fun ⟨F, Sc, _, w⟩ =>
  let ⟨Sm', w'⟩ := w.rot l
  ⟨F, Sc, Sm', w'⟩

/-! names and constants -/
theorem de_nm {i : Nat} {x : Str} {d : D} (hN : X.N[i]? = some x) (hv : Vis X.env.scope x) (hd : (x == ("__debug__" : Str)) = false) (hc : (x == ("__classdict__" : Str)) = false)
    (h : ρ.at i = some (.leaf d)) (q : Φ (.leaf d)) : DE a X ρ (.Name x pos) Φ := fun σ H ts vs Q ok k => by
  obtain ⟨F, Sc, Sm, w⟩ := ok
  obtain ⟨v, S1, e1, h1, _⟩ := w.cells.get h
  simp only [Ow] at h1
  exact ⟨_, pe_var hN hv hd hc, v, e1, k v _ H q ⟨F, Sc, Sm, w.leaf h1.2⟩⟩
theorem de_ow {i : Nat} {x : Str} {t : T} (hN : X.N[i]? = some x) (hv : Vis X.env.scope x) (hd : (x == ("__debug__" : Str)) = false) (hc : (x == ("__classdict__" : Str)) = false)
    (h : ρ.at i = some t) (q : Φ (.vw t.dat)) : DE a X ρ (.Name x pos) Φ := fun σ H ts vs Q ok k => by
  obtain ⟨F, Sc, Sm, w⟩ := ok
  obtain ⟨v, S1, e1, h1, h2⟩ := w.cells.get h
  exact ⟨_, pe_var hN hv hd hc, v, e1, k v _ H q ⟨F, Sc, Sm, w.vw (Ow.is w.sub w.nobag h1 fun p hp => (w.fr p (List.mem_append_left _ (h2.1 p hp))).2.1)⟩⟩
theorem de_int {i : Int} {j : Nat} (q : Φ (.leaf (.int i))) : DE a X ρ (.Constant (.int i) j pos) Φ := fun _ _ _ _ _ ok k => ⟨_, pe_int, k _ _ _ q ok.int⟩
theorem de_bl {i : Bool} {j : Nat} (q : Φ (.leaf (.bl i))) : DE a X ρ (.Constant (.bool i) j pos) Φ := fun _ _ _ _ _ ok k => ⟨_, pe_bl, k _ _ _ q ok.bl⟩
theorem de_str {i : Str} {j : Nat} (q : Φ (.leaf (.str i))) : DE a X ρ (.Constant (.str i) j pos) Φ := fun _ _ _ _ _ ok k => ⟨_, pe_str, k _ _ _ q ok.str⟩
theorem de_non {j : Nat} (q : Φ (.leaf .non)) : DE a X ρ (.Constant .none j pos) Φ := fun _ _ _ _ _ ok k => ⟨_, pe_non, k _ _ _ q ok.non⟩

/-! ### operators -/
inductive Bop where
  | add | sub | mul | fdiv | mod | pow | shr | band
  deriving DecidableEq
def Bop.op : Bop → Operator
  | .add => .Add | .sub => .Sub | .mul => .Mult | .fdiv => .FloorDiv | .mod => .Mod | .pow => .Pow | .shr => .RShift | .band => .BitAnd
def MulOk (i j : Int) : Prop := (-(2 ^ 64) < i ∧ i < 2 ^ 64) ∨ (-(2 ^ 64) < j ∧ j < 2 ^ 64) ∨ i.natAbs.log2 + j.natAbs.log2 < 1000000
/-- items of a list, of a tuple, each with its own places -/
def T.its : T → Option (List T)
  | .leaf (.lst ds) => some (ds.map .leaf)
  | .lst ts => some ts
  | .vw (.lst ds) => if ds.all D.flat then some (ds.map .leaf) else none
  | _ => none
def T.prt : T → Option (List T)
  | .leaf (.tup ds) => some (ds.map .leaf)
  | .tup ts => some ts
  | _ => none
def binD : Bop → D → D → (D → Prop) → Prop
  | .add, .int i, .int j, Φ => Φ (.int (i + j))
  | .add, .str s, .str t, Φ => s.length + t.length ≤ 100000 ∧ Φ (.str (s ++ t))
  | .sub, .int i, .int j, Φ => Φ (.int (i - j))
  | .mul, .int i, .int j, Φ => MulOk i j ∧ Φ (.int (i * j))
  | .fdiv, .int i, .int j, Φ => (0 < j ∧ j.natAbs.log2 < 9000) ∧ Φ (.int (i / j))
  | .mod, .int i, .int j, Φ => 0 < j ∧ Φ (.int (i % j))
  | .pow, .int i, .int j, Φ => (0 ≤ j ∧ j ≤ 1000000 ∧ i.natAbs < 2 ^ 64) ∧ Φ (.int (i ^ j.toNat))
  | .shr, .int i, .int j, Φ => 0 ≤ j ∧ Φ (.int (i / 2 ^ j.toNat))
  | .band, .int i, .int j, Φ => Φ (.int (Builtin.bitAnd i j))
  | _, _, _, _ => False
/-- x + y of lists, of tuples; x * n -/
def catT (x y : T) (Φ : T → Prop) : Prop := ∃ xs ys, x.its = some xs ∧ y.its = some ys ∧ xs.length + ys.length ≤ 100000 ∧ Φ (.lst (xs ++ ys))
def catU (x y : T) (Φ : T → Prop) : Prop := ∃ xs ys, x.prt = some xs ∧ y.prt = some ys ∧ xs.length + ys.length ≤ 100000 ∧ Φ (T.mk (xs ++ ys))
def repT (x : T) (n : Int) (Φ : T → Prop) : Prop := ∃ ds, x.its = some (ds.map .leaf) ∧ 0 ≤ n ∧ n ≤ 100000 ∧ ds.length * n.toNat ≤ 100000 ∧ Φ (.lst ((List.replicate n.toNat ds).flatten.map .leaf))
def binT : Bop → T → T → (T → Prop) → Prop
  | .add, x, y, Φ => match x.dat, y.dat with
    | .lst _, .lst _ => catT x y Φ
    | .tup _, .tup _ => catU x y Φ
    | dx, dy => binD .add dx dy fun d => Φ (.leaf d)
  | .mul, x, y, Φ => match x.dat, y.dat with
    | .lst _, .int n => repT x n Φ
    | dx, dy => binD .mul dx dy fun d => Φ (.leaf d)
  | o, x, y, Φ => binD o x.dat y.dat fun d => Φ (.leaf d)

def OpD (a : An0) (r : R2) (g : T → T → (T → Prop) → Prop) : Prop := ∀ (ρ : Env) σ H ts vs x y tx ty Φ (Q : VK), SOk a ρ σ (ty :: tx :: ts) (y :: x :: vs) H → g tx ty Φ →
  (∀ v t H', Φ t → SOk a ρ σ (t :: ts) (v :: vs) H' → Q v H') → r x y H Q
theorem de_bin {op : Operator} {r : R2} {g : T → T → (T → Prop) → Prop} (ho : OpR X (binaryOp op) r) (hg : OpD a r g) (h : DE a X ρ A fun x => DE a X ρ B fun y => g x y Φ) : DE a X ρ (.BinOp A op B pos) Φ := fun σ H ts vs Q ok k => by
  refine ⟨_, pe_op ho pe_W pe_W, ?_⟩
  show WE X A σ H fun x H1 => WE X B σ H1 fun y H2 => r x y H2 Q
  refine h σ H ts vs _ ok fun x tx H1 h1 ok1 => ?_
  exact h1 σ H1 _ _ _ ok1 fun y ty H2 h2 ok2 => hg ρ σ H2 ts vs x y tx ty Φ Q ok2 h2 k
/-- the two values -/
theorem SOk.two {x y : V} {tx ty : T} (ok : SOk a ρ σ (ty :: tx :: ts) (y :: x :: vs) H) : Is a.toAn (hb a.toAn H) tx.dat x ∧ Is a.toAn (hb a.toAn H) ty.dat y ∧ SOk a ρ σ ts vs H := ⟨ok.pop1.top, ok.top, ok.pop1.pop1⟩
theorem Is.int {a : An} {F : Hp} {i : Int} {v : V} (h : Is a F (.int i) v) : v = .int i := by simpa only [Is] using h
theorem Is.str {a : An} {F : Hp} {i : Str} {v : V} (h : Is a F (.str i) v) : v = .str i := by simpa only [Is] using h
theorem Is.bl {a : An} {F : Hp} {i : Bool} {v : V} (h : Is a F (.bl i) v) : v = .bl i := by simpa only [Is] using h
theorem Is.non {a : An} {F : Hp} {v : V} (h : Is a F .non v) : v = .non := by simpa only [Is] using h
theorem leafs_length (ds : List D) : (ds.map T.leaf).length = ds.length := by simp
theorem OwL.leafs {a : An} {F H : Hp} : ∀ {ds : List D} {vs : List V}, IsL a F ds vs → OwL a F H (ds.map .leaf) vs []
  | [], vs, h => by
    simp only [IsL] at h
    simpa only [List.map_nil, OwL, and_true] using h
  | d :: ds, vs, h => by
    simp only [IsL] at h
    obtain ⟨v, r, rfl, h1, h2⟩ := h
    simp only [List.map_cons, OwL]
    exact ⟨v, r, [], [], rfl, by simp only [Ow]; exact ⟨trivial, h1⟩, OwL.leafs h2, rfl⟩
theorem IsL.flat {a : An} {F G : Hp} : ∀ {ds : List D} {vs : List V}, ds.all D.flat = true → IsL a F ds vs → IsL a G ds vs
  | [], vs, _, h => by simpa only [IsL] using h
  | d :: ds, vs, f, h => by
    simp only [List.all_cons, Bool.and_eq_true] at f
    simp only [IsL] at h ⊢
    obtain ⟨v, r, rfl, h1, h2⟩ := h
    exact ⟨v, r, rfl, h1.flat f.1, IsL.flat f.2 h2⟩
/-- a temporary list is taken apart -/
theorem SW.opens {t : T} {x : V} {us : List T} (w : SW a ρ σ (t :: ts) (x :: vs) H F Sc Sm) (h : t.its = some us) :
    ∃ l ws, x = .ref l ∧ H l = some (.lst ws) ∧ (us.length = ws.length ∧ us.all T.nvw = true) ∧ ∃ Sm', SW a ρ σ (us ++ ts) (ws ++ vs) H F Sc Sm' := by
  obtain ⟨v', r, S1, S2, e, h1, h2, e2⟩ := (show ∃ v' r S1 S2, x :: vs = v' :: r ∧ Ow a.toAn F H t v' S1 ∧ OwL a.toAn F H ts r S2 ∧ Sm = S1 ++ S2 by
    have := w.tmps; simpa only [OwL] using this)
  cases e
  have nSm : (S1 ++ S2).Nodup := e2 ▸ (List.nodup_append.mp w.nd).2.1
  have fin : ∀ {ws S}, OwL a.toAn F H us ws S → S.Nodup → (∀ p ∈ S, p ∈ S1) → ∃ Sm', SW a ρ σ (us ++ ts) (ws ++ vs) H F Sc Sm' := fun {ws S} ho n k => by
    refine ⟨S ++ S2, w.tmp (OwL.join ho h2) ?_ fun p hp => ?_⟩
    · obtain ⟨n1, n2, n3⟩ := List.nodup_append.mp nSm
      exact List.nodup_append.mpr ⟨n, n2, fun p hp q hq => n3 p (k p hp) q hq⟩
    · rw [e2]
      rcases List.mem_append.mp hp with z | z
      · exact List.mem_append_left _ (k p z)
      · exact List.mem_append_right _ z
  match t, h, h1 with
  | .leaf (.lst ds), h, h1 =>
    simp only [T.its, Option.some.injEq] at h
    subst h
    simp only [Ow, Is] at h1
    obtain ⟨rfl, p, ws, rfl, q, il⟩ := h1
    exact ⟨p, ws, rfl, w.sub p _ q, ⟨by rw [leafs_length, il.length], nvw_leaf _⟩, fin (OwL.leafs il) List.nodup_nil fun _ h => h⟩
  | .lst us', h, h1 =>
    simp only [T.its, Option.some.injEq] at h
    subst h
    simp only [Ow] at h1
    obtain ⟨nn, p, ws, S', rfl, q, ho, rfl⟩ := h1
    exact ⟨p, ws, rfl, q, ⟨ho.length.symm, nvw_of nn⟩, fin ho (List.nodup_cons.mp (List.nodup_append.mp nSm).1).2 fun p hp => List.mem_cons_of_mem _ hp⟩
  | .vw (.lst ds), h, h1 =>
    simp only [T.its] at h
    split at h
    · rename_i f
      simp only [Option.some.injEq] at h
      subst h
      simp only [Ow, Is] at h1
      obtain ⟨rfl, p, ws, rfl, q, il⟩ := h1
      exact ⟨p, ws, rfl, hb_sub _ _ p _ q, ⟨by rw [leafs_length, il.length], nvw_leaf _⟩, fin (OwL.leafs (il.flat f)) List.nodup_nil fun _ h => h⟩
    · cases h
  | .leaf .non, h, _ | .leaf (.bl _), h, _ | .leaf (.int _), h, _ | .leaf (.str _), h, _ | .leaf (.tup _), h, _ | .leaf .bag, h, _ | .leaf (.obj _ _), h, _ | .leaf (.scr _), h, _ => simp [T.its] at h
  | .vw .non, h, _ | .vw (.bl _), h, _ | .vw (.int _), h, _ | .vw (.str _), h, _ | .vw (.tup _), h, _ | .vw .bag, h, _ | .vw (.obj _ _), h, _ | .vw (.scr _), h, _ => simp [T.its] at h
  | .tup _, h, _ => simp [T.its] at h
theorem SW.opent {t : T} {x : V} {us : List T} (w : SW a ρ σ (t :: ts) (x :: vs) H F Sc Sm) (h : t.prt = some us) :
    ∃ l ws, x = .ref l ∧ SqT a.K H l ws ∧ (us.length = ws.length ∧ us.all T.nvw = true) ∧ ∃ Sm', SW a ρ σ (us ++ ts) (ws ++ vs) H F Sc Sm' := by
  obtain ⟨v', r, S1, S2, e, h1, h2, e2⟩ := (show ∃ v' r S1 S2, x :: vs = v' :: r ∧ Ow a.toAn F H t v' S1 ∧ OwL a.toAn F H ts r S2 ∧ Sm = S1 ++ S2 by
    have := w.tmps; simpa only [OwL] using this)
  cases e
  have nSm : (S1 ++ S2).Nodup := e2 ▸ (List.nodup_append.mp w.nd).2.1
  have fin : ∀ {ws S}, OwL a.toAn F H us ws S → S.Nodup → (∀ p ∈ S, p ∈ S1) → ∃ Sm', SW a ρ σ (us ++ ts) (ws ++ vs) H F Sc Sm' := fun {ws S} ho n k => by
    refine ⟨S ++ S2, w.tmp (OwL.join ho h2) ?_ fun p hp => ?_⟩
    · obtain ⟨n1, n2, n3⟩ := List.nodup_append.mp nSm
      exact List.nodup_append.mpr ⟨n, n2, fun p hp q hq => n3 p (k p hp) q hq⟩
    · rw [e2]
      rcases List.mem_append.mp hp with z | z
      · exact List.mem_append_left _ (k p z)
      · exact List.mem_append_right _ z
  match t, h, h1 with
  | .leaf (.tup ds), h, h1 =>
    simp only [T.prt, Option.some.injEq] at h
    subst h
    simp only [Ow, Is] at h1
    obtain ⟨rfl, p, ws, rfl, q, il⟩ := h1
    exact ⟨p, ws, rfl, sub_t w.sub q, ⟨by rw [leafs_length, il.length], nvw_leaf _⟩, fin (OwL.leafs il) List.nodup_nil fun _ h => h⟩
  | .tup us', h, h1 =>
    simp only [T.prt, Option.some.injEq] at h
    subst h
    simp only [Ow] at h1
    obtain ⟨nn, p, ws, rfl, q, ho⟩ := h1
    exact ⟨p, ws, rfl, sub_t w.sub q, ⟨ho.length.symm, nvw_of nn⟩, fin ho (List.nodup_append.mp nSm).1 fun p hp => hp⟩
  | .leaf .non, h, _ | .leaf (.bl _), h, _ | .leaf (.int _), h, _ | .leaf (.str _), h, _ | .leaf (.lst _), h, _ | .leaf .bag, h, _ | .leaf (.obj _ _), h, _ | .leaf (.scr _), h, _ => simp [T.prt] at h
  | .vw _, h, _ => simp [T.prt] at h
  | .lst _, h, _ => simp [T.prt] at h
theorem small {n : Nat} (h : n ≤ 100000) : n ≤ sizeLine := Nat.le_trans h (by decide)
theorem smallLt {n : Nat} (h : n ≤ 100000) : n < sizeLine := Nat.lt_of_le_of_lt h (by decide)
/-- flat results of flat operands -/
theorem opd_flat {r : R2} {g : D → D → (D → Prop) → Prop} (hr : ∀ F dx dy x y Ψ H (Q : VK), Is a.toAn F dx x → Is a.toAn F dy y → g dx dy Ψ → (∀ d v, Ψ d → d.flat = true → Is a.toAn F d v → Q v H) → r x y H Q) :
    OpD a r fun x y Φ => g x.dat y.dat fun d => Φ (.leaf d) := fun ρ σ H ts vs x y tx ty Φ Q ok h k => by
  obtain ⟨h1, h2, ok'⟩ := ok.two
  exact hr _ _ _ x y _ H Q h1 h2 h fun d v hd f is => k v _ H hd (SOk.flat f is ok')
theorem opd_flat2 {r : R2} {g : T → T → (T → Prop) → Prop} (h : OpD a r g) {g' : T → T → (T → Prop) → Prop} (i : ∀ x y Φ, g' x y Φ → g x y Φ) : OpD a r g' := fun ρ σ H ts vs x y tx ty Φ Q ok q k => h ρ σ H ts vs x y tx ty Φ Q ok (i _ _ _ q) k
theorem opd_or {r r' : R2} {g : T → T → (T → Prop) → Prop} {p : T → T → Bool} (h : OpD a r fun x y Φ => p x y = true ∧ g x y Φ) (h' : OpD a r' fun x y Φ => p x y = false ∧ g x y Φ) : OpD a (fun x y H Q => r x y H Q ∨ r' x y H Q) g := fun ρ σ H ts vs x y tx ty Φ Q ok q k => by
  cases e : p tx ty with
  | true => exact .inl (h ρ σ H ts vs x y tx ty Φ Q ok ⟨e, q⟩ k)
  | false => exact .inr (h' ρ σ H ts vs x y tx ty Φ Q ok ⟨e, q⟩ k)
theorem opd_cat : OpD a rCat catT := fun ρ σ H ts vs x y tx ty Φ Q ok q k => by
  obtain ⟨F, Sc, Sm, w⟩ := ok
  obtain ⟨xs, ys, e1, e2, hz, q⟩ := q
  obtain ⟨lb, ws, rfl, hb, ⟨ly, ny⟩, Sm1, w1⟩ := w.opens e2
  obtain ⟨Sm2, w2⟩ := w1.rot ly
  obtain ⟨la, us, rfl, ha, ⟨lx, nx⟩, Sm3, w3⟩ := w2.opens e1
  refine ⟨la, lb, us, ws, rfl, rfl, ha, hb, small (by omega), fun p hp => ?_⟩
  have w4 : SW a ρ σ ((xs ++ ys) ++ ts) ((us ++ ws) ++ vs) H F Sc Sm3 := by
    rw [List.append_assoc, List.append_assoc]
    exact w3
  obtain ⟨Sm4, w5⟩ := w4.mkLst (by simp [lx, ly]) (by rw [List.all_append, nx, ny]; rfl) hp
  exact k _ _ _ q ⟨F, Sc, Sm4, w5⟩
end
end DL
namespace DL
open PySem PySem.Spec PyProof.Rows L2
section
variable {a : An0} {X : Cx} {ρ : Env} {σ : L2.St} {ts : List T} {vs : List V} {H F : Hp} {Sc Sm : List Addr} {Φ : T → Prop} {pos : Pos} {e A B C : Expr}

theorem isL_app {ds es : List D} : ds.map T.leaf ++ es.map T.leaf = (ds ++ es).map T.leaf := by simp
theorem dats_leaf : ∀ ds : List D, T.dats (ds.map T.leaf) = ds
  | [] => by simp [T.dats]
  | d :: ds => by simp [T.dats, T.dat, dats_leaf ds]
theorem plain_leaf (ds : List D) : (ds.map T.leaf).all T.plain = true := by simp [T.plain]
theorem mk_leaf (ds : List D) : T.mk (ds.map T.leaf) = .leaf (.tup ds) := by unfold T.mk; rw [if_pos (plain_leaf ds), dats_leaf]
/-- the elements' own order back -/
theorem SOk.mkLst {us : List T} {ws : List V} {p : Addr} (l : us.length = ws.length) (n : us.all T.nvw = true) (hp : H p = none) : SOk a ρ σ (us ++ ts) (ws ++ vs) H → SOk a ρ σ (.lst us :: ts) (.ref p :: vs) (upd H p (.lst ws)) := fun ⟨F, Sc, _, w⟩ =>
  let ⟨Sm', w'⟩ := w.mkLst l n hp
  ⟨F, Sc, Sm', w'⟩
theorem SOk.mkTup {us : List T} {ws : List V} {p : Addr} (l : us.length = ws.length) (n : us.all T.nvw = true) (hp : H p = none) : SOk a ρ σ (us ++ ts) (ws ++ vs) H → SOk a ρ σ (T.mk us :: ts) (.ref p :: vs) (upd H p (.tup ws)) := fun ⟨F, Sc, Sm, w⟩ =>
  let ⟨F', w'⟩ := w.mkTup l n hp
  ⟨F', Sc, Sm, w'.mkT⟩
theorem SOk.drop2 {t u : T} {x y : V} : SOk a ρ σ (t :: u :: ts) (x :: y :: vs) H → SOk a ρ σ (t :: ts) (x :: vs) H := fun h => (SOk.rot (us := [t]) (ws := [x]) rfl h).pop1
/-- a tuple handed on as it is -/
theorem SOk.same {t : T} {v : V} {zs : List T} (hz : t.prt = some zs) : SOk a ρ σ (t :: ts) (v :: vs) H → SOk a ρ σ (T.mk zs :: ts) (v :: vs) H := fun ⟨F, Sc, Sm, w⟩ => by
  match t, hz with
  | .leaf (.tup ds), hz =>
    simp only [T.prt, Option.some.injEq] at hz
    subst hz
    rw [mk_leaf]
    exact ⟨F, Sc, Sm, w⟩
  | .tup ts', hz =>
    simp only [T.prt, Option.some.injEq] at hz
    subst hz
    exact ⟨F, Sc, Sm, w.mkT⟩
  | .leaf .non, h | .leaf (.bl _), h | .leaf (.int _), h | .leaf (.str _), h | .leaf (.lst _), h | .leaf .bag, h | .leaf (.obj _ _), h | .leaf (.scr _), h => simp [T.prt] at h
  | .vw _, h => simp [T.prt] at h
  | .lst _, h => simp [T.prt] at h
theorem opd_catU : OpD a (rCatA a.K) catU := fun ρ σ H ts vs x y tx ty Φ Q ok q k => by
  have ok0 := ok
  obtain ⟨F, Sc, Sm, w⟩ := ok
  obtain ⟨xs, ys, e1, e2, hz, q⟩ := q
  obtain ⟨lb, ws, rfl, hb, ⟨ly, ny⟩, Sm1, w1⟩ := w.opent e2
  obtain ⟨Sm2, w2⟩ := w1.rot ly
  obtain ⟨la, us, rfl, ha, ⟨lx, nx⟩, Sm3, w3⟩ := w2.opent e1
  have w4 : SW a ρ σ ((xs ++ ys) ++ ts) ((us ++ ws) ++ vs) H F Sc Sm3 := by
    rw [List.append_assoc, List.append_assoc]
    exact w3
  refine ⟨la, lb, us, ws, rfl, rfl, ha, hb, small (by omega), fun h0 => ?_, fun _ h0 => ?_, fun _ _ p hp => ?_⟩
  · have h1 : xs = [] := List.eq_nil_of_length_eq_zero (by rw [lx, h0]; rfl)
    subst h1
    exact k _ _ _ q (SOk.same e2 ok0.drop2)
  · have h1 : ys = [] := List.eq_nil_of_length_eq_zero (by rw [ly, h0]; rfl)
    subst h1
    rw [List.append_nil] at q
    exact k _ _ _ q (SOk.same e1 ok0.pop1)
  · exact k _ _ _ q (SOk.mkTup (by simp [lx, ly]) (by rw [List.all_append, nx, ny]; rfl) hp ⟨F, Sc, Sm3, w4⟩)
theorem IsL.rep {a : An} {F : Hp} {ds : List D} {vs : List V} (h : IsL a F ds vs) : ∀ n : Nat, IsL a F (List.replicate n ds).flatten (List.replicate n vs).flatten
  | 0 => by simp [IsL]
  | n + 1 => by
    simp only [List.replicate_succ, List.flatten_cons]
    exact h.append (IsL.rep h n)
theorem OwL.unleaf {a : An} {F H : Hp} : ∀ {ds : List D} {vs : List V} {S : List Addr}, OwL a F H (ds.map .leaf) vs S → IsL a F ds vs ∧ S = []
  | [], vs, S, h => by
    simp only [List.map_nil, OwL] at h
    simpa only [IsL] using h
  | d :: ds, vs, S, h => by
    simp only [List.map_cons, OwL, Ow] at h
    obtain ⟨v, r, S1, S2, rfl, ⟨rfl, h1⟩, h2, rfl⟩ := h
    obtain ⟨i2, rfl⟩ := OwL.unleaf h2
    simp only [IsL]
    exact ⟨⟨v, r, rfl, h1, i2⟩, trivial⟩
theorem opd_rep : OpD a rRep fun x y Φ => ∃ n, y.dat = .int n ∧ repT x n Φ := fun ρ σ H ts vs x y tx ty Φ Q ok q k => by
  obtain ⟨n, en, ds, e1, h0, h1, hz, q⟩ := q
  have hy := ok.top
  rw [en] at hy
  obtain rfl := hy.int
  obtain ⟨F, Sc, Sm, w⟩ := ok.pop1
  obtain ⟨l, ws, rfl, hl, ⟨lx, nx⟩, Sm1, w1⟩ := w.opens e1
  obtain ⟨S1, S2, o1, o2, e3⟩ := OwL.split w1.tmps lx
  obtain ⟨il, rfl⟩ := OwL.unleaf o1
  refine ⟨l, n, ws, rfl, rfl, hl, by omega, by omega, small (by rw [leafs_length] at lx; rw [← lx]; exact hz), fun p hp => ?_⟩
  have w2 : SW a ρ σ ((List.replicate n.toNat ds).flatten.map .leaf ++ ts) ((List.replicate n.toNat ws).flatten ++ vs) H F Sc S2 := by
    refine w1.tmp (Sn := [] ++ S2) (OwL.join (OwL.leafs (il.rep _)) o2) ?_ fun p hp => ?_
    · rw [e3] at w1
      exact (List.nodup_append.mp w1.nd).2.1
    · rw [e3]; exact hp
  obtain ⟨Sm4, w3⟩ := w2.mkLst (by rw [leafs_length, (il.rep n.toNat).length]) (nvw_leaf _) hp
  exact k _ _ _ q ⟨F, Sc, Sm4, w3⟩

/-- the two-place operators of ints and texts -/
theorem MulOk.or {i j : Int} (h : MulOk i j) : CMul i j ∨ CMulW i j := by
  rcases h with h | h | h
  · exact .inl (.inl h)
  · exact .inl (.inr h)
  · exact .inr h
def rInt2 (C : Int → Int → Prop) (f : Int → Int → Int) : R2 := rI C fun i j => .int (f i j)
theorem opd_int {C : Int → Int → Prop} {f : Int → Int → Int} {o : Bop} (h : ∀ dx dy Ψ, binD o dx dy Ψ → ∃ i j, dx = .int i ∧ dy = .int j ∧ C i j ∧ Ψ (.int (f i j))) : OpD a (rI C fun i j => .int (f i j)) fun x y Φ => binD o x.dat y.dat fun d => Φ (.leaf d) := by
  refine opd_flat (g := binD o) fun F dx dy x y Ψ H Q h1 h2 hg k => ?_
  obtain ⟨i, j, rfl, rfl, c, q⟩ := h dx dy Ψ hg
  obtain rfl := h1.int
  obtain rfl := h2.int
  exact ⟨i, j, rfl, rfl, c, k _ _ q rfl (by simp only [Is])⟩
theorem opd_int0 {f : Int → Int → Int} {o : Bop} (h : ∀ dx dy Ψ, binD o dx dy Ψ → ∃ i j, dx = .int i ∧ dy = .int j ∧ Ψ (.int (f i j))) : OpD a (rI0 fun i j => .int (f i j)) fun x y Φ => binD o x.dat y.dat fun d => Φ (.leaf d) := by
  refine opd_flat (g := binD o) fun F dx dy x y Ψ H Q h1 h2 hg k => ?_
  obtain ⟨i, j, rfl, rfl, q⟩ := h dx dy Ψ hg
  obtain rfl := h1.int
  obtain rfl := h2.int
  exact ⟨i, j, rfl, rfl, k _ _ q rfl (by simp only [Is])⟩
/-- what the model's operator does on each -/
def rBin (K : PySem.W.Frag) : Bop → R2
  | .add => fun x y H Q => rI0 (fun i j => .int (i + j)) x y H Q ∨ (∃ i j, x = .str i ∧ y = .str j ∧ i.length + j.length ≤ sizeLine ∧ Q (.str (i ++ j)) H) ∨ rCat x y H Q ∨ rCatA K x y H Q
  | .sub => rI0 fun i j => .int (i - j)
  | .mul => fun x y H Q => rI CMul (fun i j => .int (i * j)) x y H Q ∨ rI CMulW (fun i j => .int (i * j)) x y H Q ∨ rRep x y H Q
  | .fdiv => rI CDivW fun i j => .int (i / j)
  | .mod => rI (fun _ j => 0 < j) fun i j => .int (i % j)
  | .pow => rI CPow fun i j => .int (i ^ j.toNat)
  | .shr => rI (fun _ j => 0 ≤ j) fun i j => .int (i / 2 ^ j.toNat)
  | .band => rI0 fun i j => .int (Builtin.bitAnd i j)
theorem op_rBin : ∀ o : Bop, OpR X (binaryOp o.op) (rBin X.K o)
  | .add => OpR.or op_add (OpR.or op_add_str (OpR.or op_cat op_catA))
  | .sub => op_sub
  | .mul => OpR.or op_mul (OpR.or op_mulW op_rep)
  | .fdiv => op_fdivW
  | .mod => op_mod
  | .pow => op_pow
  | .shr => op_shr
  | .band => op_and
theorem opd_bin : ∀ o : Bop, OpD a (rBin a.K o) (binT o)
  | .sub => opd_int0 fun dx dy Ψ h => by
      match dx, dy, h with
      | .int i, .int j, h => exact ⟨i, j, rfl, rfl, h⟩
  | .band => opd_int0 fun dx dy Ψ h => by
      match dx, dy, h with
      | .int i, .int j, h => exact ⟨i, j, rfl, rfl, h⟩
  | .fdiv => opd_int fun dx dy Ψ h => by
      match dx, dy, h with
      | .int i, .int j, h => exact ⟨i, j, rfl, rfl, h.1, h.2⟩
  | .mod => opd_int fun dx dy Ψ h => by
      match dx, dy, h with
      | .int i, .int j, h => exact ⟨i, j, rfl, rfl, h.1, h.2⟩
  | .pow => opd_int fun dx dy Ψ h => by
      match dx, dy, h with
      | .int i, .int j, h => exact ⟨i, j, rfl, rfl, h.1, h.2⟩
  | .shr => opd_int fun dx dy Ψ h => by
      match dx, dy, h with
      | .int i, .int j, h => exact ⟨i, j, rfl, rfl, h.1, h.2⟩
  | .mul => fun ρ σ H ts vs x y tx ty Φ Q ok q k => by
      have two := ok.two
      generalize e1 : tx.dat = dx at two
      generalize e2 : ty.dat = dy at two
      simp only [binT, e1, e2] at q
      match dx, dy, q, two with
      | .lst _, .int n, q, _ => exact .inr (.inr (opd_rep ρ σ H ts vs x y tx ty Φ Q ok ⟨n, e2, q⟩ k))
      | .int i, .int j, q, ⟨h1, h2, ok'⟩ =>
        obtain ⟨m, q⟩ : MulOk i j ∧ Φ (.leaf (.int (i * j))) := q
        obtain rfl := h1.int
        obtain rfl := h2.int
        rcases m.or with m | m
        · exact .inl ⟨i, j, rfl, rfl, m, k _ _ _ q ok'.int⟩
        · exact .inr (.inl ⟨i, j, rfl, rfl, m, k _ _ _ q ok'.int⟩)
  | .add => fun ρ σ H ts vs x y tx ty Φ Q ok q k => by
      have two := ok.two
      generalize e1 : tx.dat = dx at two
      generalize e2 : ty.dat = dy at two
      simp only [binT, e1, e2] at q
      match dx, dy, q, two with
      | .lst _, .lst _, q, _ => exact .inr (.inr (.inl (opd_cat ρ σ H ts vs x y tx ty Φ Q ok q k)))
      | .tup _, .tup _, q, _ => exact .inr (.inr (.inr (opd_catU ρ σ H ts vs x y tx ty Φ Q ok q k)))
      | .int i, .int j, q, ⟨h1, h2, ok'⟩ =>
        obtain rfl := h1.int
        obtain rfl := h2.int
        exact .inl ⟨i, j, rfl, rfl, k _ _ _ q ok'.int⟩
      | .str i, .str j, q, ⟨h1, h2, ok'⟩ =>
        obtain rfl := h1.str
        obtain rfl := h2.str
        exact .inr (.inl ⟨i, j, rfl, rfl, small q.1, k _ _ _ q.2 ok'.str⟩)
theorem de_binT {o : Bop} (xo : XOk a X) (h : DE a X ρ A fun x => DE a X ρ B fun y => binT o x y Φ) : DE a X ρ (.BinOp A o.op B pos) Φ :=
  de_bin (by rw [← xo.K]; exact op_rBin o) (opd_bin o) h
end
end DL
namespace DL
open PySem PySem.Spec PyProof.Rows L2

mutual
def D.py : D → PyData
  | .bl b => .bool b
  | .int i => .int i
  | .str x => .str x
  | .tup ds => .tuple (D.pys ds)
  | .lst ds => .list (D.pys ds)
  | .non => .none
  | .bag => .none
  | .obj _ _ => .none
  | .scr _ => .none
def D.pys : List D → List PyData
  | [] => []
  | d :: r => d.py :: D.pys r
end
mutual
/-- data that == and repr know, of texts with true signs -/
def D.lay : D → Bool
  | .non => true
  | .bl _ => true
  | .int _ => true
  | .str x => PyData.strOk x
  | .tup ds => D.lays ds
  | .lst ds => D.lays ds
  | .bag => false
  | .obj _ _ => false
  | .scr _ => false
def D.lays : List D → Bool
  | [] => true
  | d :: r => d.lay && D.lays r
end
mutual
def D.dep : D → Nat
  | .tup ds => D.deps ds + 1
  | .lst ds => D.deps ds + 1
  | .non => 0
  | .bl _ => 0
  | .int _ => 0
  | .str _ => 0
  | .bag => 0
  | .obj _ _ => 0
  | .scr _ => 0
def D.deps : List D → Nat
  | [] => 0
  | d :: r => max d.dep (D.deps r)
end
theorem D.pys_eq : ∀ ds : List D, D.pys ds = ds.map D.py
  | [] => by simp [D.pys]
  | d :: r => by simp [D.pys, D.pys_eq r]
theorem D.lays_eq : ∀ ds : List D, D.lays ds = ds.all D.lay
  | [] => by simp [D.lays]
  | d :: r => by simp [D.lays, D.lays_eq r]
theorem D.deps_le {n : Nat} : ∀ {ds : List D}, (∀ d ∈ ds, d.dep ≤ n) → D.deps ds ≤ n
  | [], _ => by simp [D.deps]
  | d :: r, h => by
    simp only [D.deps]
    have h1 := h d List.mem_cons_self
    have h2 := D.deps_le (ds := r) fun e he => h e (List.mem_cons_of_mem _ he)
    omega
mutual
theorem Is.dp {a : An} {F H : Hp} (e : Sub F H) : ∀ {d : D} {v : V}, d.lay = true → Is a F d v → Dp a.K H v d.py
  | .non, v, _, h => by rw [Is.non h]; simp only [D.py]; exact .non
  | .bl b, v, _, h => by rw [Is.bl h]; simp only [D.py]; exact .bl b
  | .int i, v, _, h => by rw [Is.int h]; simp only [D.py]; exact .int i
  | .str x, v, _, h => by rw [Is.str h]; simp only [D.py]; exact .str x
  | .tup ds, v, l, h => by
    simp only [D.lay] at l
    simp only [Is] at h
    obtain ⟨p, vs, rfl, q, il⟩ := h
    simp only [D.py]
    exact .tup (sub_t e q) (IsL.dp e l il)
  | .lst ds, v, l, h => by
    simp only [D.lay] at l
    simp only [Is] at h
    obtain ⟨p, vs, rfl, q, il⟩ := h
    simp only [D.py]
    exact .lst (.inl (.inl (e _ _ q))) (IsL.dp e l il)
  | .bag, _, l, _ => by simp [D.lay] at l
  | .obj _ _, _, l, _ => by simp [D.lay] at l
  | .scr _, _, l, _ => by simp [D.lay] at l
theorem IsL.dp {a : An} {F H : Hp} (e : Sub F H) : ∀ {ds : List D} {vs : List V}, D.lays ds = true → IsL a F ds vs → DpAll a.K H vs (D.pys ds)
  | [], vs, _, h => by
    simp only [IsL] at h
    subst h
    simp only [D.pys]
    exact .nil
  | d :: ds, vs, l, h => by
    simp only [D.lays, Bool.and_eq_true] at l
    simp only [IsL] at h
    obtain ⟨v, r, rfl, h1, h2⟩ := h
    simp only [D.pys]
    exact .cons (Is.dp e l.1 h1) (IsL.dp e l.2 h2)
end
mutual
theorem D.canLay : ∀ d : D, d.lay = true → d.py.canLay0 = true
  | .non, _ => by simp [D.py, PyData.canLay0]
  | .bl b, _ => by simp [D.py, PyData.canLay0]
  | .int i, _ => by simp [D.py, PyData.canLay0]
  | .str x, h => by simpa [D.py, PyData.canLay0, D.lay] using h
  | .tup ds, h => by
    simp only [D.lay] at h
    simp only [D.py, PyData.canLay0]
    exact D.canLays ds h
  | .lst ds, h => by
    simp only [D.lay] at h
    simp only [D.py, PyData.canLay0]
    exact D.canLays ds h
  | .bag, l => by simp [D.lay] at l
  | .obj _ _, l => by simp [D.lay] at l
  | .scr _, l => by simp [D.lay] at l
theorem D.canLays : ∀ ds : List D, D.lays ds = true → PyData.canLayAll0 (D.pys ds) = true
  | [], _ => by simp [D.pys, PyData.canLayAll0]
  | d :: r, h => by
    simp only [D.lays, Bool.and_eq_true] at h
    simp only [D.pys, PyData.canLayAll0, Bool.and_eq_true]
    exact ⟨D.canLay d h.1, D.canLays r h.2⟩
end
mutual
theorem D.depth_le : ∀ d : D, d.py.depth ≤ d.dep
  | .non | .bl _ | .int _ | .str _ | .bag | .obj _ _ | .scr _ => by simp [D.py, PyData.depth]
  | .tup ds => by
    simp only [D.py, PyData.depth, D.dep]
    have := D.depths_le ds
    omega
  | .lst ds => by
    simp only [D.py, PyData.depth, D.dep]
    have := D.depths_le ds
    omega
theorem D.depths_le : ∀ ds : List D, PyData.depthAll (D.pys ds) ≤ D.deps ds
  | [] => by simp [D.pys, PyData.depthAll]
  | d :: r => by
    simp only [D.pys, PyData.depthAll, D.deps]
    have h1 := D.depth_le d
    have h2 := D.depths_le r
    omega
end
/-- what may be compared and shown -/
def D.Fit (d : D) : Prop := d.lay = true ∧ d.dep ≤ 60
theorem D.Fit.shaped {d : D} (h : d.Fit) : SeqAt.shaped d.py = true := by
  unfold SeqAt.shaped
  rw [Bool.and_eq_true]
  refine ⟨D.canLay d h.1, decide_eq_true ?_⟩
  have := D.depth_le d
  have := h.2
  omega
def eqD (x y : D) : Bool := PyData.eqv x.py y.py
theorem eqD_refl {d : D} (h : d.lay = true) : eqD d d = true := SeqAt.eqv_refl d.py (D.canLay d h)
theorem eqD_int (i j : Int) : eqD (.int i) (.int j) = decide (i = j) := by
  simp only [eqD, D.py, PyData.eqv]
  exact Bool.beq_eq_decide_eq i j
theorem eqD_bl (i j : Bool) : eqD (.bl i) (.bl j) = (i == j) := by simp only [eqD, D.py, PyData.eqv]
theorem eqD_str (i j : Str) : eqD (.str i) (.str j) = (i == j) := by simp only [eqD, D.py, PyData.eqv]

inductive Cop where
  | eq | ne | lt | le | gt | ge | isN | notN | inn | nin
  deriving DecidableEq
def Cop.op : Cop → CmpOp
  | .eq => .Eq | .ne => .NotEq | .lt => .Lt | .le => .LtE | .gt => .Gt | .ge => .GtE | .isN => .Is | .notN => .IsNot | .inn => .In | .nin => .NotIn
def D.isNon : D → Bool
  | .non => true
  | _ => false
def D.v : D → V
  | .bl b => .bl b
  | .int i => .int i
  | .str x => .str x
  | _ => .non
/-- x in ys, of flat things -/
def memD (x : D) (ys : List D) : Bool := inV x.v (ys.map D.v)
def cmpD : Cop → D → D → (Bool → Prop) → Prop
  | .isN, x, .non, Ψ => Ψ x.isNon
  | .notN, x, .non, Ψ => Ψ (!x.isNon)
  | .lt, .int i, .int j, Ψ => Ψ (decide (i < j))
  | .le, .int i, .int j, Ψ => Ψ (decide (i ≤ j))
  | .gt, .int i, .int j, Ψ => Ψ (decide (j < i))
  | .ge, .int i, .int j, Ψ => Ψ (decide (j ≤ i))
  | .eq, x, y, Ψ => (∃ s t, x = .str s ∧ y = .str t ∧ Ψ (decide (s = t))) ∨ x.Fit ∧ y.Fit ∧ Ψ (eqD x y)
  | .ne, x, y, Ψ => (∃ s t, x = .str s ∧ y = .str t ∧ Ψ (!decide (s = t))) ∨ x.Fit ∧ y.Fit ∧ Ψ (!eqD x y)
  | .inn, x, .lst ys, Ψ => x.flat = true ∧ ys.all D.flat = true ∧ Ψ (memD x ys)
  | .inn, x, .tup ys, Ψ => x.flat = true ∧ ys.all D.flat = true ∧ Ψ (memD x ys)
  | .nin, x, .lst ys, Ψ => x.flat = true ∧ ys.all D.flat = true ∧ Ψ (!memD x ys)
  | .nin, x, .tup ys, Ψ => x.flat = true ∧ ys.all D.flat = true ∧ Ψ (!memD x ys)
  | .inn, .str s, .str t, Ψ => ∃ c, s = ⟨#[c]⟩ ∧ Ψ (decide (c ∈ t.cps.toList))
  | .nin, .str s, .str t, Ψ => ∃ c, s = ⟨#[c]⟩ ∧ Ψ (!decide (c ∈ t.cps.toList))
  | _, _, _, _ => False
section
variable {a : An0} {X : Cx} {ρ : Env} {σ : L2.St} {ts : List T} {vs : List V} {H F : Hp} {Sc Sm : List Addr} {Φ : T → Prop} {pos : Pos} {e A B C : Expr}
theorem Is.v {a : An} {F : Hp} {d : D} {v : V} (f : d.flat = true) (h : Is a F d v) : v = d.v := by
  cases d <;> simp [D.flat] at f <;> simpa only [Is, D.v] using h
theorem D.flatV {d : D} (f : d.flat = true) : L2.flatV d.v = true := by cases d <;> simp [D.flat] at f <;> rfl
theorem IsL.vals {a : An} {F : Hp} : ∀ {ds : List D} {vs : List V}, ds.all D.flat = true → IsL a F ds vs → vs = ds.map D.v
  | [], _, _, h => by simpa only [IsL, List.map_nil] using h
  | d :: ds, vs, f, h => by
    simp only [List.all_cons, Bool.and_eq_true] at f
    simp only [IsL] at h
    obtain ⟨v, r, rfl, h1, h2⟩ := h
    rw [h1.v f.1, IsL.vals f.2 h2, List.map_cons]
theorem flatVs {ds : List D} (f : ds.all D.flat = true) : (ds.map D.v).all L2.flatV = true := by
  rw [List.all_eq_true] at f ⊢
  intro v hv
  obtain ⟨d, hd, rfl⟩ := List.mem_map.mp hv
  exact D.flatV (f d hd)
theorem Is.isNon {a : An} {F : Hp} {d : D} {v : V} (h : Is a F d v) : decide (v = V.non) = d.isNon := by
  cases d <;> simp only [Is] at h <;> (first | subst h | obtain ⟨p, hp⟩ := h) <;> simp [D.isNon]
  · obtain ⟨vs, rfl, _⟩ := hp; simp
  · obtain ⟨vs, rfl, _⟩ := hp; simp
  · obtain ⟨_, rfl⟩ := hp; simp
  · obtain ⟨_, _, _, _, rfl, _⟩ := hp; simp
  · obtain ⟨rfl, _⟩ := hp; simp
/-- what the model's comparison does -/
def rCmp (K : PySem.W.Frag) : Cop → R2
  | .eq => fun x y H Q => rEq x y H Q ∨ rEqD K x y H Q
  | .ne => fun x y H Q => rNe x y H Q ∨ rNeD K x y H Q
  | .lt => rI0 fun i j => .bl (decide (i < j))
  | .le => rI0 fun i j => .bl (decide (i ≤ j))
  | .gt => rI0 fun i j => .bl (decide (j < i))
  | .ge => rI0 fun i j => .bl (decide (j ≤ i))
  | .isN => fun x y H Q => y = .non ∧ Q (.bl (decide (x = .non))) H
  | .notN => fun x y H Q => y = .non ∧ Q (.bl (!decide (x = .non))) H
  | .inn => fun x y H Q => rIn K false x y H Q ∨ ∃ c z, x = V.str { cps := #[c] } ∧ y = V.str z ∧ Q (V.bl (decide (c ∈ z.cps.toList))) H
  | .nin => fun x y H Q => rIn K true x y H Q ∨ ∃ c z, x = V.str { cps := #[c] } ∧ y = V.str z ∧ Q (V.bl !decide (c ∈ z.cps.toList)) H
theorem op_rCmp (xo : XOk a X) : ∀ o : Cop, OpR X (compareOp o.op) (rCmp X.K o)
  | .eq => OpR.or op_eq (op_eqD (by have := xo.un; omega))
  | .ne => OpR.or op_ne (op_neD (by have := xo.un; omega))
  | .lt => op_lt
  | .le => op_le
  | .gt => op_gt
  | .ge => op_ge
  | .isN => op_isN
  | .notN => op_notN
  | .inn => OpR.or op_in_seq op_in_sign
  | .nin => OpR.or op_notIn_seq op_notIn_sign
def OpB (a : An0) (r : R2) (g : D → D → (Bool → Prop) → Prop) : Prop := ∀ F H x y dx dy Ψ (Q : VK), Sub F H → Is a.toAn F dx x → Is a.toAn F dy y → g dx dy Ψ → (∀ b, Ψ b → Q (.bl b) H) → r x y H Q
theorem opb_int {f : Int → Int → Bool} {g : D → D → (Bool → Prop) → Prop} (h : ∀ dx dy Ψ, g dx dy Ψ → ∃ i j, dx = .int i ∧ dy = .int j ∧ Ψ (f i j)) : OpB a (rI0 fun i j => .bl (f i j)) g := fun F H x y dx dy Ψ Q sub h1 h2 hg k => by
  obtain ⟨i, j, rfl, rfl, q⟩ := h dx dy Ψ hg
  obtain rfl := h1.int
  obtain rfl := h2.int
  exact ⟨i, j, rfl, rfl, k _ q⟩
theorem opb_in {neg : Bool} {F H : Hp} {x y : V} {dx : D} {ys : List D} {Ψ : Bool → Prop} {Q : VK} (h1 : Is a.toAn F dx x) (h2 : ∃ p vs, y = .ref p ∧ (SqL a.K H p vs ∨ SqT a.K H p vs) ∧ IsL a.toAn F ys vs)
    (hg : dx.flat = true ∧ ys.all D.flat = true ∧ Ψ (if neg then !memD dx ys else memD dx ys)) (k : ∀ b, Ψ b → Q (.bl b) H) : rIn a.K neg x y H Q := by
  obtain ⟨f1, f2, q⟩ := hg
  obtain ⟨p, vs, rfl, s, il⟩ := h2
  obtain rfl := h1.v f1
  obtain rfl := il.vals f2
  exact ⟨p, _, rfl, s, D.flatV f1, flatVs f2, k _ q⟩
theorem opb_cmp : ∀ o : Cop, OpB a (rCmp a.K o) (cmpD o)
  | .lt => opb_int fun dx dy Ψ h => by
      match dx, dy, h with
      | .int i, .int j, h => exact ⟨i, j, rfl, rfl, h⟩
  | .le => opb_int fun dx dy Ψ h => by
      match dx, dy, h with
      | .int i, .int j, h => exact ⟨i, j, rfl, rfl, h⟩
  | .gt => opb_int fun dx dy Ψ h => by
      match dx, dy, h with
      | .int i, .int j, h => exact ⟨i, j, rfl, rfl, h⟩
  | .ge => opb_int fun dx dy Ψ h => by
      match dx, dy, h with
      | .int i, .int j, h => exact ⟨i, j, rfl, rfl, h⟩
  | .isN => fun F H x y dx dy Ψ Q sub h1 h2 hg k => by
      match dy, hg with
      | .non, hg => exact ⟨h2.non, by rw [h1.isNon]; exact k _ hg⟩
  | .notN => fun F H x y dx dy Ψ Q sub h1 h2 hg k => by
      match dy, hg with
      | .non, hg => exact ⟨h2.non, by rw [h1.isNon]; exact k _ hg⟩
  | .eq => fun F H x y dx dy Ψ Q sub h1 h2 hg k => by
      rcases hg with ⟨s, t, rfl, rfl, q⟩ | ⟨f1, f2, q⟩
      · obtain rfl := h1.str
        obtain rfl := h2.str
        refine .inl ⟨rfl, ?_⟩
        rw [show decide (V.str s = V.str t) = decide (s = t) from by simp]
        exact k _ q
      · exact .inr ⟨_, _, h1.dp sub f1.1, h2.dp sub f2.1, f1.shaped, f2.shaped, k _ q⟩
  | .ne => fun F H x y dx dy Ψ Q sub h1 h2 hg k => by
      rcases hg with ⟨s, t, rfl, rfl, q⟩ | ⟨f1, f2, q⟩
      · obtain rfl := h1.str
        obtain rfl := h2.str
        refine .inl ⟨rfl, ?_⟩
        rw [show decide (V.str s = V.str t) = decide (s = t) from by simp]
        exact k _ q
      · exact .inr ⟨_, _, h1.dp sub f1.1, h2.dp sub f2.1, f1.shaped, f2.shaped, k _ q⟩
  | .inn => fun F H x y dx dy Ψ Q sub h1 h2 hg k => by
      match dy, hg with
      | .lst ys, hg =>
        simp only [Is] at h2
        obtain ⟨p, vs, e, q, il⟩ := h2
        exact .inl (opb_in h1 ⟨p, vs, e, .inl (.inl (.inl (sub _ _ q))), il⟩ (by simpa [cmpD] using hg) k)
      | .tup ys, hg =>
        simp only [Is] at h2
        obtain ⟨p, vs, e, q, il⟩ := h2
        exact .inl (opb_in h1 ⟨p, vs, e, .inr (sub_t sub q), il⟩ (by simpa [cmpD] using hg) k)
      | .str t, hg =>
        match dx, hg with
        | .str s, hg =>
          obtain ⟨c, rfl, q⟩ := hg
          exact .inr ⟨c, t, h1.str, h2.str, k _ q⟩
  | .nin => fun F H x y dx dy Ψ Q sub h1 h2 hg k => by
      match dy, hg with
      | .lst ys, hg =>
        simp only [Is] at h2
        obtain ⟨p, vs, e, q, il⟩ := h2
        exact .inl (opb_in h1 ⟨p, vs, e, .inl (.inl (.inl (sub _ _ q))), il⟩ (by simpa [cmpD] using hg) k)
      | .tup ys, hg =>
        simp only [Is] at h2
        obtain ⟨p, vs, e, q, il⟩ := h2
        exact .inl (opb_in h1 ⟨p, vs, e, .inr (sub_t sub q), il⟩ (by simpa [cmpD] using hg) k)
      | .str t, hg =>
        match dx, hg with
        | .str s, hg =>
          obtain ⟨c, rfl, q⟩ := hg
          exact .inr ⟨c, t, h1.str, h2.str, k _ q⟩
/-- not a display of a set behind in -/
def notSet : Expr → Bool
  | .Set _ _ _ => false
  | _ => true
theorem behind_of {b : Expr} {op : CmpOp} (h : notSet b = true) : behindInMarks op b = false := by
  cases b <;> first | rfl | simp [notSet] at h
theorem de_cmp {o : Cop} (xo : XOk a X) (hn : notSet B = true) (h : DE a X ρ A fun x => DE a X ρ B fun y => cmpD o x.dat y.dat fun b => Φ (.leaf (.bl b))) : DE a X ρ (.Compare A [o.op] [B] pos) Φ := fun σ H ts vs Q ok k => by
  refine ⟨_, pe_cmpR (op_rCmp xo o) pe_W pe_W (behind_of hn), ?_⟩
  show WE X A σ H fun x H1 => WE X B σ H1 fun y H2 => rCmp X.K o x y H2 Q
  refine h σ H ts vs _ ok fun x tx H1 h1 ok1 => h1 σ H1 _ _ _ ok1 fun y ty H2 h2 ok2 => ?_
  obtain ⟨i1, i2, ok3⟩ := ok2.two
  rw [xo.K]
  exact opb_cmp o _ H2 x y _ _ _ Q (hb_sub _ _) i1 i2 h2 fun b hb => k _ _ _ hb ok3.bl
theorem dt_cmp {o : Cop} {Ψ : Bool → Prop} (xo : XOk a X) (hn : notSet B = true) (h : DE a X ρ A fun x => DE a X ρ B fun y => cmpD o x.dat y.dat Ψ) : DT a X ρ (.Compare A [o.op] [B] pos) Ψ := fun σ H ts vs Q ok k => by
  refine ⟨_, pt_cmpR (op_rCmp xo o) pe_W pe_W (behind_of hn), ?_⟩
  show WE X A σ H fun x H1 => WE X B σ H1 fun y H2 => rCmp X.K o x y H2 fun z H3 => ∃ k, z = .bl k ∧ Q k H3
  refine h σ H ts vs _ ok fun x tx H1 h1 ok1 => h1 σ H1 _ _ _ ok1 fun y ty H2 h2 ok2 => ?_
  obtain ⟨i1, i2, ok3⟩ := ok2.two
  rw [xo.K]
  exact opb_cmp o _ H2 x y _ _ _ _ (hb_sub _ _) i1 i2 h2 fun b hb => ⟨b, rfl, k _ _ hb ok3⟩
/-- a < b < c -/
def chnD (o o' : Cop) (x y : D) (Ψc : (D → Prop) → Prop) (Ψ : Bool → Prop) : Prop := cmpD o x y fun b => if b then Ψc fun z => cmpD o' y z Ψ else Ψ false
theorem last_of {op op' : CmpOp} {b c : Expr} (h : notSet c = true) : lastMarks [op, op'] [b, c] = false := behind_of h
theorem de_chn {o o' : Cop} (xo : XOk a X) (hn : notSet C = true) (h : DE a X ρ A fun x => DE a X ρ B fun y => cmpD o x.dat y.dat fun b => if b = true then DE a X ρ C fun z => cmpD o' y.dat z.dat fun b => Φ (.leaf (.bl b)) else Φ (.leaf (.bl false))) :
    DE a X ρ (.Compare A [o.op, o'.op] [B, C] pos) Φ := fun σ H ts vs Q ok k => by
  refine ⟨_, pe_chain (op_rCmp xo o) (op_rCmp xo o') pe_W pe_W pe_W (last_of hn), ?_⟩
  show WE X A σ H fun x H1 => WE X B σ H1 fun y H2 => rCmp X.K o x y H2 fun z H3 => ∃ k, z = .bl k ∧ (if k = true then WE X C σ H3 fun w' H4 => rCmp X.K o' y w' H4 Q else Q (.bl false) H3)
  refine h σ H ts vs _ ok fun x tx H1 h1 ok1 => h1 σ H1 _ _ _ ok1 fun y ty H2 h2 ok2 => ?_
  obtain ⟨i1, i2, ok3⟩ := ok2.two
  rw [xo.K]
  refine opb_cmp o _ H2 x y _ _ _ _ (hb_sub _ _) i1 i2 h2 fun b hb => ⟨b, rfl, ?_⟩
  cases b with
  | false =>
    rw [if_neg (by decide)] at hb ⊢
    exact k _ _ _ hb ok3.bl
  | true =>
    rw [if_pos rfl] at hb ⊢
    refine hb σ H2 _ _ _ ok2.drop2 fun z tz H3 h3 ok4 => ?_
    obtain ⟨i3, i4, ok5⟩ := ok4.two
    exact opb_cmp o' _ H3 y z _ _ _ Q (hb_sub _ _) i3 i4 h3 fun b hb => k _ _ _ hb ok5.bl
theorem dt_chn {o o' : Cop} {Ψ : Bool → Prop} (xo : XOk a X) (hn : notSet C = true) (h : DE a X ρ A fun x => DE a X ρ B fun y => cmpD o x.dat y.dat fun b => if b = true then DE a X ρ C fun z => cmpD o' y.dat z.dat Ψ else Ψ false) :
    DT a X ρ (.Compare A [o.op, o'.op] [B, C] pos) Ψ := fun σ H ts vs Q ok k => by
  refine ⟨_, pt_chain (op_rCmp xo o) (op_rCmp xo o') pe_W pe_W pe_W (last_of hn), ?_⟩
  show WE X A σ H fun x H1 => WE X B σ H1 fun y H2 => rCmp X.K o x y H2 fun z H3 => ∃ k, z = .bl k ∧ (if k = true then WE X C σ H3 fun w' H4 => rCmp X.K o' y w' H4 (fun z H' => ∃ k, z = .bl k ∧ Q k H') else (∃ k, V.bl false = .bl k ∧ Q k H3))
  refine h σ H ts vs _ ok fun x tx H1 h1 ok1 => h1 σ H1 _ _ _ ok1 fun y ty H2 h2 ok2 => ?_
  obtain ⟨i1, i2, ok3⟩ := ok2.two
  rw [xo.K]
  refine opb_cmp o _ H2 x y _ _ _ _ (hb_sub _ _) i1 i2 h2 fun b hb => ⟨b, rfl, ?_⟩
  cases b with
  | false =>
    rw [if_neg (by decide)] at hb ⊢
    exact ⟨false, rfl, k _ _ hb ok3⟩
  | true =>
    rw [if_pos rfl] at hb ⊢
    refine hb σ H2 _ _ _ ok2.drop2 fun z tz H3 h3 ok4 => ?_
    obtain ⟨i3, i4, ok5⟩ := ok4.two
    exact opb_cmp o' _ H3 y z _ _ _ _ (hb_sub _ _) i3 i4 h3 fun b hb => ⟨b, rfl, k _ _ hb ok5⟩
end
end DL
namespace DL
open PySem PySem.Spec PyProof.Rows L2
section
variable {a : An0} {X : Cx} {ρ : Env} {σ : L2.St} {ts : List T} {vs : List V} {H F : Hp} {Sc Sm : List Addr} {Φ : T → Prop} {pos : Pos} {e A B C : Expr}

/-! ### truth, and, or, not, if -/
def D.truth : D → Option Bool
  | .non => some false
  | .bl b => some b
  | .int i => some (i != 0)
  | .lst ds => some !ds.isEmpty
  | .tup ds => some !ds.isEmpty
  | .str x => if x.length ≤ 100000 then some ((x.length : Int) != 0) else none
  | _ => none
theorem Is.tru {F H : Hp} (sub : Sub F H) {d : D} {v : V} {b : Bool} (h : Is a.toAn F d v) (e : d.truth = some b) : TruV a.K v H b := by
  cases d with
  | non => rw [h.non]; simp [D.truth] at e; exact e.symm ▸ rfl
  | bl c => rw [h.bl]; simp [D.truth] at e; exact e ▸ rfl
  | int i => rw [h.int]; simp only [D.truth, Option.some.injEq] at e; exact e ▸ rfl
  | str x =>
    rw [h.str]
    simp only [D.truth] at e
    split at e
    · simp only [Option.some.injEq] at e
      exact ⟨small (by assumption), e ▸ rfl⟩
    · cases e
  | lst ds =>
    simp only [D.truth, Option.some.injEq] at e
    simp only [Is] at h
    obtain ⟨p, vs, rfl, q, il⟩ := h
    refine .inl ⟨vs, .inl (.inl (sub _ _ q)), ?_⟩
    rw [← e]
    have := il.length
    cases vs <;> cases ds <;> simp at this <;> rfl
  | tup ds =>
    simp only [D.truth, Option.some.injEq] at e
    simp only [Is] at h
    obtain ⟨p, vs, rfl, q, il⟩ := h
    refine .inr (.inl ⟨vs, sub_t sub q, ?_⟩)
    rw [← e]
    have := il.length
    cases vs <;> cases ds <;> simp at this <;> rfl
  | bag => simp [D.truth] at e
  | obj _ _ => simp [D.truth] at e
  | scr _ => simp [D.truth] at e
/-- its test is its value's truth -/
def plainTest : Expr → Bool
  | .UnaryOp .Not _ _ => false
  | .BoolOp _ _ _ => false
  | .IfExp _ _ _ _ => false
  | .Compare _ _ _ _ => false
  | _ => true
theorem test_of {env : PySem.Env} (h : plainTest e = true) (whole : Sem Value) : isTrue e env whole = (do let v ← whole; standAt e.pos; holding [v] (truthy v)) := by
  cases e with
  | UnaryOp op x p => cases op <;> first | rfl | simp [plainTest] at h
  | BoolOp => simp [plainTest] at h
  | IfExp => simp [plainTest] at h
  | Compare => simp [plainTest] at h
  | _ => rfl
def tru (x : T) (Ψ : Bool → Prop) : Prop := ∃ b, x.dat.truth = some b ∧ Ψ b
theorem dt_val {Ψ : Bool → Prop} (xo : XOk a X) (hp : plainTest A = true) (h : DE a X ρ A fun x => tru x Ψ) : DT a X ρ A Ψ := fun σ H ts vs Q ok k => by
  refine ⟨_, pt_truth pe_W (test_of hp), ?_⟩
  show WE X A σ H fun x H' => ∃ k, TruV X.K x H' k ∧ Q k H'
  refine h σ H ts vs _ ok fun x tx H1 ⟨b, e, hb⟩ ok1 => ⟨b, ?_, k b H1 hb ok1.pop1⟩
  rw [xo.K]
  exact (ok1.top).tru (hb_sub _ _) e
theorem dt_not {Ψ : Bool → Prop} (h : DT a X ρ A fun b => Ψ !b) : DT a X ρ (.UnaryOp .Not A pos) Ψ := fun σ H ts vs Q ok k =>
  ⟨_, pt_not pt_W, h σ H ts vs _ ok fun b H' hb ok' => k _ _ hb ok'⟩
/-- the rest of a chain, as one test -/
def DW (a : An0) (X : Cx) (ρ : Env) (op : PySem.BoolOp) (es : List Expr) (Ψ : Bool → Prop) : Prop :=
  ∀ pos σ H ts vs Q, SOk a ρ σ ts vs H → (∀ b H', Ψ b → SOk a ρ σ ts vs H' → Q b H') → ∃ t, PW X (.BoolOp op es pos) t ∧ t σ H Q
def WW (X : Cx) (e : Expr) : TT := fun σ H Q => ∃ t, PW X e t ∧ t σ H Q
theorem pw_W {e : Expr} : PW X e (WW X e) := ⟨fun wh p s σ H Q I ⟨_, h, q⟩ => h.run wh p s σ H Q I q⟩
theorem dw_and1 {Ψ : Bool → Prop} (h : DT a X ρ A Ψ) : DW a X ρ .And [A] Ψ := fun pos σ H ts vs Q ok k => ⟨_, pw_and1 pt_W, h σ H ts vs Q ok k⟩
theorem dw_or1 {Ψ : Bool → Prop} (h : DT a X ρ A Ψ) : DW a X ρ .Or [A] Ψ := fun pos σ H ts vs Q ok k => ⟨_, pw_or1 pt_W, h σ H ts vs Q ok k⟩
theorem dw_and {es : List Expr} {Ψ : Bool → Prop} (h : DT a X ρ A fun b => if b = true then DW a X ρ .And (B :: es) Ψ else Ψ false) : DW a X ρ .And (A :: B :: es) Ψ := fun pos σ H ts vs Q ok k => by
  refine ⟨_, pw_and pt_W (pw_W (e := .BoolOp .And (B :: es) pos)), ?_⟩
  show WT X A σ H fun c H1 => if c = true then WW X _ σ H1 Q else Q false H1
  refine h σ H ts vs _ ok fun b H1 hb ok1 => ?_
  cases b with
  | true =>
    rw [if_pos rfl] at hb ⊢
    exact hb pos σ H1 ts vs Q ok1 k
  | false =>
    rw [if_neg (by decide)] at hb ⊢
    exact k _ _ hb ok1
theorem dw_or {es : List Expr} {Ψ : Bool → Prop} (h : DT a X ρ A fun b => if b = true then Ψ true else DW a X ρ .Or (B :: es) Ψ) : DW a X ρ .Or (A :: B :: es) Ψ := fun pos σ H ts vs Q ok k => by
  refine ⟨_, pw_or pt_W (pw_W (e := .BoolOp .Or (B :: es) pos)), ?_⟩
  show WT X A σ H fun c H1 => if c = true then Q true H1 else WW X _ σ H1 Q
  refine h σ H ts vs _ ok fun b H1 hb ok1 => ?_
  cases b with
  | true =>
    rw [if_pos rfl] at hb ⊢
    exact k _ _ hb ok1
  | false =>
    rw [if_neg (by decide)] at hb ⊢
    exact hb pos σ H1 ts vs Q ok1 k
theorem dt_bool {op : PySem.BoolOp} {es : List Expr} {Ψ : Bool → Prop} (h : DW a X ρ op es Ψ) : DT a X ρ (.BoolOp op es pos) Ψ := fun σ H ts vs Q ok k =>
  let ⟨_, p, q⟩ := h pos σ H ts vs Q ok k
  ⟨_, p.pt, q⟩
/-- .. as values -/
theorem de_one {op : PySem.BoolOp} (h : DE a X ρ A Φ) : DE a X ρ (.BoolOp op [A] pos) Φ := fun σ H ts vs Q ok k => ⟨_, pe_one pe_W, h σ H ts vs Q ok k⟩
theorem de_and {es : List Expr} (h : DE a X ρ A fun x => ∃ b, x.dat = .bl b ∧ if b = true then DE a X ρ (.BoolOp .And (B :: es) pos) Φ else Φ (.leaf (.bl false))) : DE a X ρ (.BoolOp .And (A :: B :: es) pos) Φ := fun σ H ts vs Q ok k => by
  refine ⟨_, pe_and pe_W pe_W, ?_⟩
  show WE X A σ H fun x H1 => ∃ c, x = .bl c ∧ if c = true then WE X _ σ H1 Q else Q (.bl false) H1
  refine h σ H ts vs _ ok fun x tx H1 ⟨b, e, hb⟩ ok1 => ?_
  have i1 := ok1.top
  rw [e] at i1
  refine ⟨b, i1.bl, ?_⟩
  cases b with
  | true =>
    rw [if_pos rfl] at hb ⊢
    exact hb σ H1 ts vs Q ok1.pop1 k
  | false =>
    rw [if_neg (by decide)] at hb ⊢
    exact k _ _ _ hb ok1.pop1.bl
theorem de_or {es : List Expr} (h : DE a X ρ A fun x => ∃ b, x.dat = .bl b ∧ if b = true then Φ (.leaf (.bl true)) else DE a X ρ (.BoolOp .Or (B :: es) pos) Φ) : DE a X ρ (.BoolOp .Or (A :: B :: es) pos) Φ := fun σ H ts vs Q ok k => by
  refine ⟨_, pe_or pe_W pe_W, ?_⟩
  show WE X A σ H fun x H1 => ∃ c, x = .bl c ∧ if c = true then Q (.bl true) H1 else WE X _ σ H1 Q
  refine h σ H ts vs _ ok fun x tx H1 ⟨b, e, hb⟩ ok1 => ?_
  have i1 := ok1.top
  rw [e] at i1
  refine ⟨b, i1.bl, ?_⟩
  cases b with
  | true =>
    rw [if_pos rfl] at hb ⊢
    exact k _ _ _ hb ok1.pop1.bl
  | false =>
    rw [if_neg (by decide)] at hb ⊢
    exact hb σ H1 ts vs Q ok1.pop1 k
theorem de_not (h : DE a X ρ A fun x => ∃ b, x.dat = .bl b ∧ Φ (.leaf (.bl !b))) : DE a X ρ (.UnaryOp .Not A pos) Φ := fun σ H ts vs Q ok k => by
  refine ⟨_, pe_not pe_W, ?_⟩
  show WE X A σ H fun x H1 => ∃ c, x = .bl c ∧ Q (.bl (!c)) H1
  refine h σ H ts vs _ ok fun x tx H1 ⟨b, e, hb⟩ ok1 => ?_
  have i1 := ok1.top
  rw [e] at i1
  exact ⟨b, i1.bl, k _ _ _ hb ok1.pop1.bl⟩
theorem de_neg (h : DE a X ρ A fun x => ∃ i, x.dat = .int i ∧ Φ (.leaf (.int (-i)))) : DE a X ρ (.UnaryOp .USub A pos) Φ := fun σ H ts vs Q ok k => by
  refine ⟨_, pe_un un_neg pe_W, ?_⟩
  show WE X A σ H fun x H1 => ∃ i, x = .int i ∧ Q (.int (-i)) H1
  refine h σ H ts vs _ ok fun x tx H1 ⟨b, e, hb⟩ ok1 => ?_
  have i1 := ok1.top
  rw [e] at i1
  exact ⟨b, i1.int, k _ _ _ hb ok1.pop1.int⟩
theorem de_ife (h : DT a X ρ A fun b => if b = true then DE a X ρ B Φ else DE a X ρ C Φ) : DE a X ρ (.IfExp A B C pos) Φ := fun σ H ts vs Q ok k => by
  refine ⟨_, pe_ifExp pt_W pe_W pe_W, ?_⟩
  show WT X A σ H fun c H1 => if c = true then WE X B σ H1 Q else WE X C σ H1 Q
  refine h σ H ts vs _ ok fun b H1 hb ok1 => ?_
  cases b with
  | true =>
    rw [if_pos rfl] at hb ⊢
    exact hb σ H1 ts vs Q ok1 k
  | false =>
    rw [if_neg (by decide)] at hb ⊢
    exact hb σ H1 ts vs Q ok1 k

/-! ### subscripts -/
def notSlice : Expr → Bool
  | .Slice _ _ none _ => false
  | _ => true
theorem ix_plain (h : notSlice B = true) : PlainIx B := fun o i => by
  unfold subscripted
  cases B with
  | Slice l u st p =>
    cases st with
    | none => simp [notSlice] at h
    | some _ => rfl
  | _ => rfl
/-- an item of what is only read -/
def D.vwOf (d : D) : T := if d.flat then .leaf d else .vw d
def ixT (x : T) (i : D) (Φ : T → Prop) : Prop := match i with
  | .int n => match x with
    | .leaf (.tup ds) => ∃ d, atI ds n = some d ∧ Φ (.leaf d)
    | .leaf (.lst ds) => ∃ d, atI ds n = some d ∧ Φ (.leaf d)
    | .leaf (.str z) => ∃ c, z.length ≤ 100000 ∧ atI z.cps.toList n = some c ∧ Φ (.leaf (.str ⟨#[c]⟩))
    | .vw (.tup ds) => ∃ d, atI ds n = some d ∧ Φ d.vwOf
    | .vw (.lst ds) => ∃ d, atI ds n = some d ∧ Φ d.vwOf
    | .tup us => ∃ t, atI us n = some t ∧ Φ t
    | .lst us => ∃ t, atI us n = some t ∧ Φ t
    | _ => False
  | _ => False
theorem IsL.atI {a : An} {F : Hp} {ds : List D} {vs : List V} {n : Int} {d : D} (h : IsL a F ds vs) (e : L2.atI ds n = some d) : ∃ v, L2.atI vs n = some v ∧ Is a F d v := by
  unfold L2.atI at e ⊢
  rw [h.length]
  cases hx : ixN ds.length n with
  | none => rw [hx] at e; cases e
  | some j =>
    rw [hx] at e
    exact h.get e
theorem OwL.get {a : An} {F H : Hp} : ∀ {ts : List T} {vs : List V} {S : List Addr} {i : Nat} {t : T}, OwL a F H ts vs S → ts[i]? = some t → ∃ v S1, vs[i]? = some v ∧ Ow a F H t v S1 ∧ (S.Nodup → S1.Nodup) ∧ ∀ p ∈ S1, p ∈ S
  | [], _, _, _, _, _, g => by simp at g
  | u :: ts, vs, S, 0, t, h, g => by
    simp only [OwL] at h
    obtain ⟨v, r, S1, S2, rfl, h1, h2, rfl⟩ := h
    simp only [List.getElem?_cons_zero, Option.some.injEq] at g
    subst g
    exact ⟨v, S1, rfl, h1, fun n => (List.nodup_append.mp n).1, fun p hp => List.mem_append_left _ hp⟩
  | u :: ts, vs, S, i + 1, t, h, g => by
    simp only [OwL] at h
    obtain ⟨v, r, S1, S2, rfl, h1, h2, rfl⟩ := h
    simp only [List.getElem?_cons_succ] at g ⊢
    obtain ⟨v', S', e1, e2, e3, e4⟩ := OwL.get h2 g
    exact ⟨v', S', e1, e2, fun n => e3 (List.nodup_append.mp n).2.1, fun p hp => List.mem_append_right _ (e4 p hp)⟩
theorem OwL.atI {a : An} {F H : Hp} {us : List T} {vs : List V} {S : List Addr} {n : Int} {t : T} (h : OwL a F H us vs S) (e : L2.atI us n = some t) : ∃ v S1, L2.atI vs n = some v ∧ Ow a F H t v S1 ∧ (S.Nodup → S1.Nodup) ∧ ∀ p ∈ S1, p ∈ S := by
  unfold L2.atI at e ⊢
  rw [h.length]
  cases hx : ixN us.length n with
  | none => rw [hx] at e; cases e
  | some j =>
    rw [hx] at e
    exact h.get e
theorem SW.vwOf {d : D} {v : V} (w : SW a ρ σ ts vs H F Sc Sm) (h : Is a.toAn (hb a.toAn H) d v) : SW a ρ σ (d.vwOf :: ts) (v :: vs) H F Sc Sm := by
  unfold D.vwOf
  split
  · rename_i f; exact w.leaf (h.flat f)
  · exact w.vw h
/-- the first temporary may become a part of itself -/
theorem SW.cut {t : T} {x : V} (w : SW a ρ σ (t :: ts) (x :: vs) H F Sc Sm) : ∃ S1, Ow a.toAn F H t x S1 ∧ S1.Nodup ∧
    ∀ (u : T) (v : V) (S' : List Addr), Ow a.toAn F H u v S' → S'.Nodup → (∀ p ∈ S', p ∈ S1) → SOk a ρ σ (u :: ts) (v :: vs) H := by
  obtain ⟨v', r, S1, S2, e, h1, h2, e2⟩ := (show ∃ v' r S1 S2, x :: vs = v' :: r ∧ Ow a.toAn F H t v' S1 ∧ OwL a.toAn F H ts r S2 ∧ Sm = S1 ++ S2 by
    have := w.tmps; simpa only [OwL] using this)
  cases e
  have nSm : (S1 ++ S2).Nodup := e2 ▸ (List.nodup_append.mp w.nd).2.1
  obtain ⟨n1, n2, n3⟩ := List.nodup_append.mp nSm
  refine ⟨S1, h1, n1, fun u v S' h3 n' k => ⟨F, Sc, S' ++ S2, w.tmp ?_ (List.nodup_append.mpr ⟨n', n2, fun p hp q hq => n3 p (k p hp) q hq⟩) fun p hp => ?_⟩⟩
  · simp only [OwL]
    exact ⟨v, vs, S', S2, rfl, h3, h2, rfl⟩
  · rw [e2]
    rcases List.mem_append.mp hp with z | z
    · exact List.mem_append_left _ (k p z)
    · exact List.mem_append_right _ z
theorem Ow.leaf {a : An} {F H : Hp} {d : D} {v : V} (h : Is a F d v) : Ow a F H (.leaf d) v [] := by simp only [Ow]; exact ⟨trivial, h⟩
theorem opd_ix {n : Int} {x : T} {vx : V} {Q : VK} (ok : SOk a ρ σ (x :: ts) (vx :: vs) H) (h : ixT x (.int n) Φ) (k : ∀ v t H', Φ t → SOk a ρ σ (t :: ts) (v :: vs) H' → Q v H') : rIx a.K vx (.int n) H Q := by
  obtain ⟨F, Sc, Sm, w⟩ := ok
  match x, h with
  | .leaf (.tup ds), h =>
    obtain ⟨d, e, q⟩ := h
    obtain ⟨_, h1, _, go⟩ := w.cut
    simp only [Ow, Is] at h1
    obtain ⟨rfl, p, ws, rfl, z, il⟩ := h1
    obtain ⟨v, e2, i2⟩ := il.atI e
    exact .inr (.inl ⟨p, ws, n, v, rfl, rfl, sub_t w.sub z, e2, k v _ H q (go _ v [] (Ow.leaf i2) List.nodup_nil fun _ h => nomatch h)⟩)
  | .leaf (.lst ds), h =>
    obtain ⟨d, e, q⟩ := h
    obtain ⟨_, h1, _, go⟩ := w.cut
    simp only [Ow, Is] at h1
    obtain ⟨rfl, p, ws, rfl, z, il⟩ := h1
    obtain ⟨v, e2, i2⟩ := il.atI e
    exact .inl ⟨p, ws, n, v, rfl, rfl, .inl (.inl (w.sub _ _ z)), e2, k v _ H q (go _ v [] (Ow.leaf i2) List.nodup_nil fun _ h => nomatch h)⟩
  | .leaf (.str z), h =>
    obtain ⟨c, hz, e, q⟩ := h
    obtain rfl := (w.top : Is a.toAn (hb a.toAn H) (.str z) vx).str
    exact .inr (.inr ⟨z, n, c, rfl, rfl, small hz, e, k _ _ H q (SOk.str (SOk.pop1 ⟨F, Sc, Sm, w⟩))⟩)
  | .vw (.tup ds), h =>
    obtain ⟨d, e, q⟩ := h
    have h1 := w.top
    simp only [T.dat, Is] at h1
    obtain ⟨p, ws, rfl, z, il⟩ := h1
    obtain ⟨v, e2, i2⟩ := il.atI e
    refine .inr (.inl ⟨p, ws, n, v, rfl, rfl, sub_t (hb_sub _ _) z, e2, k v _ H q ?_⟩)
    obtain ⟨F, Sc, Sm, w⟩ := SOk.pop1 (t := .vw (.tup ds)) (v := .ref p) ⟨F, Sc, Sm, w⟩
    exact ⟨F, Sc, Sm, w.vwOf i2⟩
  | .vw (.lst ds), h =>
    obtain ⟨d, e, q⟩ := h
    have h1 := w.top
    simp only [T.dat, Is] at h1
    obtain ⟨p, ws, rfl, z, il⟩ := h1
    obtain ⟨v, e2, i2⟩ := il.atI e
    refine .inl ⟨p, ws, n, v, rfl, rfl, .inl (.inl (hb_sub _ _ _ _ z)), e2, k v _ H q ?_⟩
    obtain ⟨F, Sc, Sm, w⟩ := SOk.pop1 (t := .vw (.lst ds)) (v := .ref p) ⟨F, Sc, Sm, w⟩
    exact ⟨F, Sc, Sm, w.vwOf i2⟩
  | .tup us, h =>
    obtain ⟨t, e, q⟩ := h
    obtain ⟨S1, h1, n1, go⟩ := w.cut
    simp only [Ow] at h1
    obtain ⟨_, p, ws, rfl, z, ol⟩ := h1
    obtain ⟨v, S2, e2, i2, n2, k2⟩ := ol.atI e
    exact .inr (.inl ⟨p, ws, n, v, rfl, rfl, sub_t w.sub z, e2, k v _ H q (go _ v S2 i2 (n2 n1) k2)⟩)
  | .lst us, h =>
    obtain ⟨t, e, q⟩ := h
    obtain ⟨S1, h1, n1, go⟩ := w.cut
    simp only [Ow] at h1
    obtain ⟨_, p, ws, S', rfl, z, ol, rfl⟩ := h1
    obtain ⟨v, S2, e2, i2, n2, k2⟩ := ol.atI e
    exact .inl ⟨p, ws, n, v, rfl, rfl, .inl (.inl z), e2, k v _ H q (go _ v S2 i2 (n2 (List.nodup_cons.mp n1).2) fun q hq => List.mem_cons_of_mem _ (k2 q hq))⟩
  | .leaf .non, h | .leaf (.bl _), h | .leaf (.int _), h | .leaf .bag, h | .leaf (.obj _ _), h | .leaf (.scr _), h => exact False.elim h
  | .vw .non, h | .vw (.bl _), h | .vw (.int _), h | .vw (.str _), h | .vw .bag, h | .vw (.obj _ _), h | .vw (.scr _), h => exact False.elim h
theorem de_ix (xo : XOk a X) (hB : notSlice B = true) (h : DE a X ρ A fun x => DE a X ρ B fun y => ixT x y.dat Φ) : DE a X ρ (.Subscript A B pos) Φ := fun σ H ts vs Q ok k => by
  refine ⟨_, pe_ix ix_seq pe_W pe_W (ix_plain hB), ?_⟩
  show WE X A σ H fun x H1 => WE X B σ H1 fun y H2 => rIx X.K x y H2 Q
  refine h σ H ts vs _ ok fun x tx H1 h1 ok1 => h1 σ H1 _ _ _ ok1 fun y ty H2 h2 ok2 => ?_
  have i2 := ok2.top
  have h2 : ixT tx ty.dat Φ := h2
  rw [xo.K]
  cases hy : ty.dat with
  | int n =>
    rw [hy] at i2 h2
    rw [i2.int]
    exact opd_ix ok2.pop1 h2 k
  | _ => rw [hy] at h2; exact False.elim h2

/-! ### displays, arguments -/
def notStar : Expr → Bool
  | .Starred _ _ => false
  | _ => true
theorem star_of {env : PySem.Env} {es : List Expr} (h : notStar e = true) : starEach (e :: es) env = (false, eval e env) :: starEach es env := by
  cases e <;> first | rfl | simp [notStar] at h
theorem stars_of {env : PySem.Env} : ∀ {es : List Expr}, es.all notStar = true → (starEach es env).all (fun x => !x.1) = true
  | [], _ => rfl
  | e :: es, h => by
    simp only [List.all_cons, Bool.and_eq_true] at h
    rw [star_of h.1, List.all_cons]
    simp only [Bool.not_false, Bool.true_and]
    exact stars_of h.2
theorem back_of {env : PySem.Env} {es : List Expr} (h : es.all notStar = true) : (backTo pos (starEach es env)).any (·.1) = false := by
  have h2 := stars_of (env := env) h
  unfold backTo
  rw [List.any_map, List.any_eq_false]
  rw [List.all_eq_true] at h2
  intro x hx
  have := h2 x hx
  simpa using this
/-- what is only read may be kept where it needs no heap -/
def T.fin (t : T) (Φ : T → Prop) : Prop := match t with
  | .vw d => d.flat = true ∧ Φ (.leaf d)
  | t => Φ t
theorem SOk.fin {t : T} {v : V} {Q : Prop} (ok : SOk a ρ σ (t :: ts) (v :: vs) H) (h : t.fin Φ) (k : ∀ t, Φ t → t.nvw = true → SOk a ρ σ (t :: ts) (v :: vs) H → Q) : Q := by
  cases t with
  | vw d =>
    obtain ⟨f, h⟩ := h
    exact k _ h rfl (SOk.flat f ok.top ok.pop1)
  | leaf d => exact k _ h rfl ok
  | lst us => exact k _ h rfl ok
  | tup us => exact k _ h rfl ok
theorem da_nil {Ψ : List T → Prop} (q : Ψ []) : DA a X ρ [] Ψ := fun σ H ts vs Q ok k => ⟨_, pa_nil, k [] [] H q rfl rfl ok⟩
theorem da_cons {es : List Expr} {Ψ : List T → Prop} (hs : notStar e = true) (h : DE a X ρ e fun x => x.fin fun t => DA a X ρ es fun us => Ψ (t :: us)) : DA a X ρ (e :: es) Ψ := fun σ H ts vs Q ok k => by
  refine ⟨_, pa_cons pe_W pa_W (star_of hs), ?_⟩
  show WE X e σ H fun x H1 => WA X es σ H1 fun xs H2 => Q (x :: xs) H2
  refine h σ H ts vs _ ok fun x tx H1 h1 ok1 => ok1.fin h1 fun t h2 n2 ok2 => ?_
  refine h2 σ H1 _ _ _ ok2 fun ws us H2 h3 n3 l ok3 => ?_
  exact k (x :: ws) (t :: us) H2 h3 (by rw [List.all_cons, n2, n3]; rfl) (by simp [l]) (SOk.rot l ok3)
theorem de_tup {es : List Expr} {j : Nat} (h : DA a X ρ es fun us => us.length ≤ 100000 ∧ Φ (T.mk us)) : DE a X ρ (.Tuple es j pos) Φ := fun σ H ts vs Q ok k => by
  refine ⟨_, pe_tup pa_W, ?_⟩
  show WA X es σ H fun xs H1 => xs.length ≤ sizeLine ∧ ∀ p, H1 p = none → Q (.ref p) (upd H1 p (.tup xs))
  exact h σ H ts vs _ ok fun ws us H1 ⟨hz, q⟩ n l ok1 => ⟨small (l ▸ hz), fun p hp => k _ _ _ q (ok1.mkTup l n hp)⟩
theorem de_lst {es : List Expr} (h : DA a X ρ es fun us => us.length ≤ 100000 ∧ Φ (.lst us)) : DE a X ρ (.List es pos) Φ := fun σ H ts vs Q ok k => by
  refine ⟨_, pe_lst pa_W, ?_⟩
  show WA X es σ H fun xs H1 => xs.length ≤ sizeLine ∧ ∀ p, H1 p = none → Q (.ref p) (upd H1 p (.lst xs))
  exact h σ H ts vs _ ok fun ws us H1 ⟨hz, q⟩ n l ok1 => ⟨small (l ▸ hz), fun p hp => k _ _ _ q (ok1.mkLst l n hp)⟩
end
end DL
namespace DL
open PySem PySem.Spec PyProof.Rows L2

/-! ### repr of data -/
mutual
/-- its ints have at most 500 figures -/
def D.sm : D → Bool
  | .int i => decide (i.natAbs < 10 ^ 250)
  | .tup ds => D.sms ds
  | .lst ds => D.sms ds
  | .non => true
  | .bl _ => true
  | .str _ => true
  | .bag => true
  | .obj _ _ => true
  | .scr _ => true
def D.sms : List D → Bool
  | [] => true
  | d :: r => d.sm && D.sms r
end
mutual
/-- its size -/
def D.wt : D → Nat
  | .str x => x.length
  | .tup ds => D.wts ds
  | .lst ds => D.wts ds
  | .int _ => 0
  | .non => 0
  | .bl _ => 0
  | .bag => 0
  | .obj _ _ => 0
  | .scr _ => 0
def D.wts : List D → Nat
  | [] => 0
  | d :: r => d.wt + 1 + D.wts r
end
theorem D.sms_eq : ∀ ds : List D, D.sms ds = ds.all D.sm
  | [] => by simp [D.sms]
  | d :: r => by simp [D.sms, D.sms_eq r]
theorem D.wts_le {n : Nat} : ∀ {ds : List D}, (∀ d ∈ ds, d.wt ≤ n) → D.wts ds ≤ ds.length * (n + 1)
  | [], _ => by simp [D.wts]
  | d :: r, h => by
    simp only [D.wts, List.length_cons]
    have h1 := h d List.mem_cons_self
    have h2 := D.wts_le (ds := r) fun e he => h e (List.mem_cons_of_mem _ he)
    rw [Nat.succ_mul]
    omega
theorem log10_250 {i : Int} (h : i.natAbs < 10 ^ 250) : i.natAbs.log2 < 1920 := Nat.lt_of_lt_of_le (PySem.Flt.log2_lt_of (k := 1000) (by decide) (Nat.lt_trans h (by decide +kernel))) (by decide)
mutual
theorem D.showable : ∀ d : D, d.sm = true → d.py.showable = true
  | .int i, h => by
    simp only [D.sm, decide_eq_true_eq] at h
    simp only [D.py, PyData.showable, decide_eq_true_eq]
    exact log10_250 h
  | .tup ds, h => by
    simp only [D.sm] at h
    simp only [D.py, PyData.showable]
    exact D.showables ds h
  | .lst ds, h => by
    simp only [D.sm] at h
    simp only [D.py, PyData.showable]
    exact D.showables ds h
  | .non, _ | .bl _, _ | .str _, _ | .bag, _ | .obj _ _, _ | .scr _, _ => by simp [D.py, PyData.showable]
theorem D.showables : ∀ ds : List D, D.sms ds = true → PyData.showableAll (D.pys ds) = true
  | [], _ => by simp [D.pys, PyData.showableAll]
  | d :: r, h => by
    simp only [D.sms, Bool.and_eq_true] at h
    simp only [D.pys, PyData.showableAll, Bool.and_eq_true]
    exact ⟨D.showable d h.1, D.showables r h.2⟩
end
theorem shown_int_250 {i : Int} (h : i.natAbs < 10 ^ 250) : (PyData.shown (.int i)).length ≤ 251 := by
  have e := int_text_length_le10 (k := 250) (by decide) h
  show (Str.ofString (toString i)).length ≤ 251
  rw [PySem.ofString_length]
  exact e
theorem strOk_short {x : Str} (h : PyData.strOk x = true) : (x.cps.toList.all fun c => decide (c < 16 ^ 8)) = true := by
  unfold PyData.strOk at h
  rw [← Array.all_toList] at h
  rw [List.all_eq_true] at h ⊢
  intro c hc
  have := of_decide_eq_true (h c hc)
  exact decide_eq_true (Nat.lt_trans this (by decide))
mutual
theorem D.short : ∀ d : D, d.lay = true → d.sm = true → d.py.leavesShort 251 = true
  | .int i, _, h => by
    simp only [D.sm, decide_eq_true_eq] at h
    simp only [D.py, PyData.leavesShort, decide_eq_true_eq]
    exact shown_int_250 h
  | .str x, l, _ => by
    simp only [D.lay] at l
    simp only [D.py, PyData.leavesShort]
    exact strOk_short l
  | .tup ds, l, h => by
    simp only [D.sm] at h
    simp only [D.lay] at l
    simp only [D.py, PyData.leavesShort]
    exact D.shorts ds l h
  | .lst ds, l, h => by
    simp only [D.sm] at h
    simp only [D.lay] at l
    simp only [D.py, PyData.leavesShort]
    exact D.shorts ds l h
  | .non, _, _ | .bl _, _, _ | .bag, _, _ | .obj _ _, _, _ | .scr _, _, _ => by simp [D.py, PyData.leavesShort]
theorem D.shorts : ∀ ds : List D, D.lays ds = true → D.sms ds = true → PyData.leavesShortAll 251 (D.pys ds) = true
  | [], _, _ => by simp [D.pys, PyData.leavesShortAll]
  | d :: r, l, h => by
    simp only [D.sms, Bool.and_eq_true] at h
    simp only [D.lays, Bool.and_eq_true] at l
    simp only [D.pys, PyData.leavesShortAll, Bool.and_eq_true]
    exact ⟨D.short d l.1 h.1, D.shorts r l.2 h.2⟩
end
mutual
theorem D.nodict : ∀ d : D, d.py.hasDict = false
  | .tup ds => by simp only [D.py, PyData.hasDict]; exact D.nodicts ds
  | .lst ds => by simp only [D.py, PyData.hasDict]; exact D.nodicts ds
  | .int _ | .non | .bl _ | .str _ | .bag | .obj _ _ | .scr _ => by simp [D.py, PyData.hasDict]
theorem D.nodicts : ∀ ds : List D, PyData.hasDictAll (D.pys ds) = false
  | [] => by simp [D.pys, PyData.hasDictAll]
  | d :: r => by simp only [D.pys, PyData.hasDictAll, D.nodict d, D.nodicts r, Bool.or_self]
end
mutual
theorem D.bulk_eq : ∀ d : D, d.py.bulk = d.wt
  | .str x => by simp [D.py, PyData.bulk, D.wt]; rfl
  | .tup ds => by simp only [D.py, PyData.bulk, D.wt]; exact D.bulks_eq ds
  | .lst ds => by simp only [D.py, PyData.bulk, D.wt]; exact D.bulks_eq ds
  | .int _ | .non | .bl _ | .bag | .obj _ _ | .scr _ => by simp [D.py, PyData.bulk, D.wt]
theorem D.bulks_eq : ∀ ds : List D, PyData.bulkAll (D.pys ds) = D.wts ds
  | [] => by simp [D.pys, PyData.bulkAll, D.wts]
  | d :: r => by simp only [D.pys, PyData.bulkAll, D.wts, D.bulk_eq d, D.bulks_eq r]
end
/-- what repr may be asked of -/
def D.Shw (d : D) : Prop := d.Fit ∧ d.sm = true ∧ d.wt ≤ 50000
theorem D.Shw.len {d : D} (h : d.Shw) : d.py.shown.length ≤ sizeLine := by
  have h1 := PyData.shown_le_bulk 251 (by decide) d.py (D.short d h.1.1 h.2.1)
  rw [D.bulk_eq] at h1
  have h2 := h.2.2
  rw [sizeLine_eq]
  omega
def shown (d : D) : Str := d.py.shown
section
variable {X : Cx} {a : An0}
theorem repr_at {pins : List (Addr × Obj)} {σ : L2.St} {H : Hp} {s : Shared} {Q : VK} {u : Value} {dp : PyData} {as : List Addr} (xg : X.A.guards = some []) (xu : X.A.units + 200 < cLine) (I : Inv X pins σ H s)
    (hz : dp.shown.length ≤ sizeLine) (hsh : dp.showable = true) (hnd : dp.hasDict = false) (hdep : dp.depth ≤ 60) (rd : Reads s.heap u dp as) (q : Q (.str dp.shown) H) :
    wpAny (model X.prog X.w) X.A (call (.builtin "repr") [u]) (EP X pins σ Q) X.xe s := by
  cases rd with
  | none => exact PySem.P.repr_of_none ⟨.str _, H, I.tok _, ⟨_, rfl⟩, by simp only [PyData.shown] at q; exact q⟩
  | bool b => exact PySem.P.repr_of_bool ⟨.str _, H, I.tok _, ⟨_, rfl⟩, by simp only [PyData.shown] at q; exact q⟩
  | int i t =>
    refine PySem.P.repr_of_int ?_ ⟨.str _, H, I.tok _, ⟨_, rfl⟩, by simp only [PyData.shown] at q; exact q⟩
    simpa [PyData.showable] using hsh
  | str y t => exact PySem.P.repr_of_str ⟨.str _, H, I.tok _, ⟨_, rfl⟩, by simp only [PyData.shown] at q; exact q⟩ (by simpa [PyData.shown] using hz)
  | list h1 h2 h3 h4 =>
    exact repr_of_reads' (Reads.list h1 h2 h3 h4) hsh (PyData.noDict_hsm hnd) xg (by omega) (fun _ _ e => e) (fun h' v tk hk => ⟨.str _, H, I.kept hk, ⟨_, rfl⟩, q⟩) hz
  | tuple h1 h2 h3 h4 =>
    exact repr_of_reads' (Reads.tuple h1 h2 h3 h4) hsh (PyData.noDict_hsm hnd) xg (by omega) (fun _ _ e => e) (fun h' v tk hk => ⟨.str _, H, I.kept hk, ⟨_, rfl⟩, q⟩) hz
  | dict h1 h2 h3 h4 h5 => simp [PyData.hasDict] at hnd
theorem call_reprD (xg : X.A.guards = some []) (xu : X.A.units + 200 < cLine) : CallR X (.builtin "repr") (fun xs H Q => ∃ (x : V) (d : D), xs = [x] ∧ d.Shw ∧ Dp X.K H x d.py ∧ Q (.str (shown d)) H) := by
  intro pins s σ H xs us Q I r h
  obtain ⟨x, d, rfl, hs, hd, q⟩ := h
  obtain ⟨u, rfl, ru⟩ := vals1 r
  have hz := hs.len
  have hsh := D.showable d hs.2.1
  have hnd := D.nodict d
  have hdep : d.py.depth ≤ 60 := Nat.le_trans (D.depth_le d) hs.1.2
  unfold shown at q
  obtain ⟨as, rd⟩ := Dp.reads I d.py x u hd ru
  exact repr_at xg xu I hz hsh hnd hdep rd q
end
end DL
namespace DL
open PySem PySem.Spec PyProof.Rows L2

/-! ### sorted(xs), xs of alike data -/
theorem vals_each {f : V × PyData → Prop} {α : Type} (g : α → V) : ∀ {bs : List α} {us : List Value}, Vals (bs.map g) us → PySem.W.EachIs (fun u b => RelV (g b) u) us bs
  | [], us, h => by cases h; exact .nil
  | b :: bs, us, h => by
    cases h with
    | cons r t => exact .cons r (vals_each (f := f) g t)
theorem each_vals {α : Type} (g : α → V) : ∀ {bs : List α} {us : List Value}, PySem.W.EachIs (fun u b => RelV (g b) u) us bs → Vals (bs.map g) us
  | [], us, h => by cases h; exact .nil
  | b :: bs, us, h => by
    cases h with
    | cons r t => exact .cons r (each_vals g t)
theorem each_both {α β : Type} {R Q : α → β → Prop} : ∀ {as : List α} {bs : List β}, PySem.W.EachIs R as bs → (∀ a b, b ∈ bs → R a b → Q a b) → PySem.W.EachIs Q as bs
  | _, _, .nil, _ => .nil
  | _, _, .cons h t, k => .cons (k _ _ List.mem_cons_self h) (each_both t fun a b hb => k a b (List.mem_cons_of_mem _ hb))
/-- the items with what they read as -/
def rSortD {α : Type} (g : α → V) (py : α → PyData) (K : PySem.W.Frag) : List V → Hp → VK → Prop := fun vs H Q => ∃ (p : Addr) (bs : List α), vs = [.ref p] ∧ SqL K H p (bs.map g) ∧ (∀ b ∈ bs, Dp K H (g b) (py b) ∧ (py b).depth ≤ 60) ∧ PySem.W.AllAlike (bs.map py) ∧ PySem.W.Sortable (bs.map py) ∧
  ∀ l, H l = none → Q (.ref l) (upd H l (.lst ((bs.mergeSort (PySem.W.dataLe false py)).map g)))
theorem cr_sortedD {X : Cx} {α : Type} {g : α → V} {py : α → PyData} (xu : X.A.units + 200 < cLine) : CallR X (.builtin "sorted") (rSortD g py X.K) := by
  intro pins s σ H vs us Q I r h
  obtain ⟨p, bs, rfl, hs, hd, al, so, q⟩ := h
  obtain ⟨its, rv, hl, hz⟩ := I.list hs
  rw [Vals.ref1 r]
  have ev := vals_each (f := fun _ => True) g rv
  have hlen : bs.length ≤ sizeLine := by simpa using hz
  refine PySem.W.sorted_data (R := fun u b => RelV (g b) u) (enc := py) (bs := bs) hl.isList ev (each_both ev fun u b hb hr => Dp.reads I _ _ _ (hd b hb).1 hr) al so hlen (fun b hb => ?_) fun out ho he => ?_
  · have := (hd b hb).2
    omega
  · obtain ⟨ep, he'⟩ := PyProof.Rows.sortedAll_at s.heap its out.toArray
    have hn := I.hok.fresh (Nat.le_succ s.heap.objs.size)
    have hm : ((bs.mergeSort (PySem.W.dataLe false py)).map g).length ≤ sizeLine := by
      rw [List.length_map, List.length_mergeSort]; exact hlen
    exact ⟨.ref _, upd H (s.heap.objs.size + 1) (.lst ((bs.mergeSort (PySem.W.dataLe false py)).map g)), I.laid (t' := s.toks) (fun _ _ => PyProof.Rows.sortedAll_old) (Nat.le_succ _) ⟨hm, out, ep, each_vals g he, he'⟩, rfl, q _ hn⟩
end DL
namespace DL
open PySem PySem.Spec PyProof.Rows L2
section
variable {a : An0} {X : Cx} {ρ : Env} {σ : L2.St} {ts : List T} {vs : List V} {H F : Hp} {Sc Sm : List Addr} {Φ : T → Prop} {pos p : Pos} {e A B C : Expr} {es : List Expr}

theorem dv_nil {Ψ : List T → Prop} (q : Ψ []) : DV a X ρ [] Ψ := fun σ H ts vs Q ok k => ⟨_, pa_nil, k [] [] H q rfl ok⟩
theorem dv_cons {Ψ : List T → Prop} (hs : notStar e = true) (h : DE a X ρ e fun t => DV a X ρ es fun us => Ψ (t :: us)) : DV a X ρ (e :: es) Ψ := fun σ H ts vs Q ok k => by
  refine ⟨_, pa_cons pe_W pa_W (star_of hs), ?_⟩
  show WE X e σ H fun x H1 => WA X es σ H1 fun xs H2 => Q (x :: xs) H2
  refine h σ H ts vs _ ok fun x t H1 h2 ok2 => ?_
  refine h2 σ H1 _ _ _ ok2 fun ws us H2 h3 l ok3 => ?_
  exact k (x :: ws) (t :: us) H2 h3 (by simp [l]) (SOk.rot l ok3)
theorem SOk.args {us : List T} {ws : List V} (ok : SOk a ρ σ (us ++ ts) (ws ++ vs) H) (l : us.length = ws.length) : IsL a.toAn (hb a.toAn H) (T.dats us) ws ∧ SOk a ρ σ ts vs H := by
  refine ⟨?_, ok.pop l⟩
  obtain ⟨F, Sc, Sm, w⟩ := ok
  obtain ⟨S1, S2, h1, h2, e⟩ := OwL.split w.tmps l
  exact OwL.is w.sub w.nobag h1 fun p hp => (w.fr p (List.mem_append_right _ (by rw [e]; exact List.mem_append_left _ hp))).2.1

inductive Blt where
  | len | abs | max | min | sum | all | any | sorted | repr
  | list | tuple | int | bool | str
  deriving DecidableEq
def Blt.nm : Blt → Str
  | .len => "len" | .abs => "abs" | .max => "max" | .min => "min" | .sum => "sum" | .all => "all" | .any => "any" | .sorted => "sorted" | .repr => "repr"
  | .list => "list" | .tuple => "tuple" | .int => "int" | .bool => "bool" | .str => "str"
def D.toInts : List D → Option (List Int)
  | [] => some []
  | .int i :: r => (D.toInts r).map (i :: ·)
  | _ :: _ => none
def D.toBls : List D → Option (List Bool)
  | [] => some []
  | .bl i :: r => (D.toBls r).map (i :: ·)
  | _ :: _ => none
theorem toInts_eq : ∀ {ds : List D} {ns : List Int}, D.toInts ds = some ns → ds = ns.map .int
  | [], ns, h => by simp [D.toInts] at h; subst h; rfl
  | .int i :: r, ns, h => by
    simp only [D.toInts, Option.map_eq_some_iff] at h
    obtain ⟨m, h1, rfl⟩ := h
    rw [toInts_eq h1, List.map_cons]
  | .non :: _, _, h | .bl _ :: _, _, h | .str _ :: _, _, h | .tup _ :: _, _, h | .lst _ :: _, _, h | .bag :: _, _, h | .obj _ _ :: _, _, h | .scr _ :: _, _, h => by simp [D.toInts] at h
theorem toInts_map : ∀ ns : List Int, D.toInts (ns.map .int) = some ns
  | [] => rfl
  | n :: r => by simp [D.toInts, toInts_map r]
theorem toBls_eq : ∀ {ds : List D} {ns : List Bool}, D.toBls ds = some ns → ds = ns.map .bl
  | [], ns, h => by simp [D.toBls] at h; subst h; rfl
  | .bl i :: r, ns, h => by
    simp only [D.toBls, Option.map_eq_some_iff] at h
    obtain ⟨m, h1, rfl⟩ := h
    rw [toBls_eq h1, List.map_cons]
  | .non :: _, _, h | .int _ :: _, _, h | .str _ :: _, _, h | .tup _ :: _, _, h | .lst _ :: _, _, h | .bag :: _, _, h | .obj _ _ :: _, _, h | .scr _ :: _, _, h => by simp [D.toBls] at h
theorem toBls_map : ∀ ns : List Bool, D.toBls (ns.map .bl) = some ns
  | [] => rfl
  | n :: r => by simp [D.toBls, toBls_map r]
theorem IsL.bls {a : An} {F : Hp} : ∀ {ns : List Bool} {vs : List V}, IsL a F (ns.map D.bl) vs → vs = ns.map V.bl
  | [], vs, h => by simpa [IsL] using h
  | n :: ns, vs, h => by
    simp only [List.map_cons, IsL, Is] at h
    obtain ⟨v, r, rfl, rfl, h⟩ := h
    rw [IsL.bls h, List.map_cons]
/-- a built-in on plain data: flat answers -/
def bltD : Blt → List D → (D → Prop) → Prop
  | .len, [.lst ds], Φ => Φ (.int ds.length)
  | .len, [.tup ds], Φ => Φ (.int ds.length)
  | .len, [.str z], Φ => z.length ≤ 100000 ∧ Φ (.int z.length)
  | .abs, [.int i], Φ => Φ (.int (if i < 0 then -i else i))
  | .max, [.int i, .int j], Φ => Φ (.int (if j > i then j else i))
  | .min, [.int i, .int j], Φ => Φ (.int (if j < i then j else i))
  | .max, [.int i, .int j, .int k], Φ => Φ (.int (if (if i < j then j else i) < k then k else if i < j then j else i))
  | .max, [.lst ds], Φ => ∃ ns, D.toInts ds = some ns ∧ 0 < ns.length ∧ ∀ m, m ∈ ns → (∀ y, y ∈ ns → y ≤ m) → Φ (.int m)
  | .min, [.lst ds], Φ => ∃ ns, D.toInts ds = some ns ∧ 0 < ns.length ∧ ∀ m, m ∈ ns → (∀ y, y ∈ ns → m ≤ y) → Φ (.int m)
  | .sum, [.lst ds], Φ => ∃ ns, D.toInts ds = some ns ∧ Φ (.int ns.sum)
  | .sum, [.tup ds], Φ => ∃ ns, D.toInts ds = some ns ∧ Φ (.int ns.sum)
  | .all, [.lst ds], Φ => ∃ bs, D.toBls ds = some bs ∧ Φ (.bl (bs.all id))
  | .any, [.lst ds], Φ => ∃ bs, D.toBls ds = some bs ∧ Φ (.bl (bs.any id))
  | .repr, [d], Φ => d.Shw ∧ Φ (.str (shown d))
  | .int, [.int i], Φ => Φ (.int i)
  | .int, [.bl k], Φ => Φ (.int (if k then 1 else 0))
  | .bool, [.int i], Φ => Φ (.bl (i != 0))
  | .bool, [.bl k], Φ => Φ (.bl k)
  | .str, [.int i], Φ => i.natAbs.log2 < 1920 ∧ Φ (.str (toString i))
  | .str, [.str z], Φ => Φ (.str z)
  | _, _, _ => False
/-- items that sorted may be asked of, and their order -/
def leT : T → T → Bool := PySem.W.dataLe false fun t => t.dat.py
def SortOk (us : List T) : Prop := (∀ t ∈ us, t.dat.lay = true ∧ t.dat.dep ≤ 60) ∧ PySem.W.AllAlike (us.map fun t => t.dat.py) ∧ PySem.W.Sortable (us.map fun t => t.dat.py)
theorem isl_zip {a : An} {F : Hp} : ∀ {us : List T} {zs : List V}, IsL a F (T.dats us) zs → ∀ b ∈ zs.zip us, Is a F b.2.dat b.1
  | [], zs, h, b, hb => by simp at hb
  | u :: us, zs, h, b, hb => by
    simp only [T.dats, IsL] at h
    obtain ⟨v, r, rfl, h1, h2⟩ := h
    rcases List.mem_cons.mp hb with rfl | hb
    · exact h1
    · exact isl_zip h2 b hb
theorem owl_perm {a : An} {F H : Hp} {bs bs' : List (V × T)} (p : bs'.Perm bs) : ∀ {S : List Addr}, OwL a F H (bs'.map (·.2)) (bs'.map (·.1)) S → ∃ S', OwL a F H (bs.map (·.2)) (bs.map (·.1)) S' ∧ S'.Perm S := by
  induction p with
  | nil => exact fun {S} h => ⟨S, h, List.Perm.refl _⟩
  | cons x _ ih =>
    intro S h
    simp only [List.map_cons, OwL] at h ⊢
    obtain ⟨v, r, S1, S2, e, h1, h2, rfl⟩ := h
    cases e
    obtain ⟨S', h3, p3⟩ := ih h2
    exact ⟨S1 ++ S', ⟨_, _, S1, S', rfl, h1, h3, rfl⟩, p3.append_left S1⟩
  | swap x y l =>
    intro S h
    simp only [List.map_cons, OwL] at h ⊢
    obtain ⟨v, r, S1, S2, e, h1, ⟨v', r', S3, S4, e', h3, h4, rfl⟩, rfl⟩ := h
    cases e
    cases e'
    refine ⟨S3 ++ (S1 ++ S4), ⟨_, _, S3, S1 ++ S4, rfl, h3, ⟨_, _, S1, S4, rfl, h1, h4, rfl⟩, rfl⟩, ?_⟩
    rw [← List.append_assoc, ← List.append_assoc]
    exact List.perm_append_comm.append_right S4
  | trans _ _ ih1 ih2 =>
    intro S h
    obtain ⟨S1, h1, p1⟩ := ih1 h
    obtain ⟨S2, h2, p2⟩ := ih2 h1
    exact ⟨S2, h2, p2.trans p1⟩
def bltT : Blt → List T → (T → Prop) → Prop
  | .sorted, [x], Φ => (∃ ds ns, x.dat = .lst ds ∧ D.toInts ds = some ns ∧ ∀ ns' : List Int, ns'.Perm ns → ns'.Pairwise (· ≤ ·) → Φ (.lst (ns'.map fun n => .leaf (.int n)))) ∨ ∃ us, x.its = some us ∧ SortOk us ∧ Φ (.lst (us.mergeSort leT))
  | .list, [x], Φ => ∃ us, (x.its = some us ∨ x.prt = some us) ∧ Φ (.lst us)
  | .tuple, [x], Φ => ∃ us, (x.its = some us ∨ x.prt = some us) ∧ Φ (T.mk us)
  | f, us, Φ => bltD f (T.dats us) fun d => Φ (.leaf d)
def CallD (a : An0) (r : List V → Hp → VK → Prop) (g : List T → (T → Prop) → Prop) : Prop := ∀ (ρ : Env) σ H ts vs us ws (Φ : T → Prop) (Q : VK), SOk a ρ σ (us ++ ts) (ws ++ vs) H → us.length = ws.length → g us Φ →
  (∀ v t H', Φ t → SOk a ρ σ (t :: ts) (v :: vs) H' → Q v H') → r ws H Q
theorem de_callB {x : Str} {id : String} {r : List V → Hp → VK → Prop} {g : List T → (T → Prop) → Prop} (hc : CallR X (.builtin id) r) (hr : CallD a r g) (hg : Gl X x) (hm : X.mg x = none) (hv : bootBuiltins x = some (.builtin id)) (hn : x ≠ "__name__") (hd : (x == ("__debug__" : Str)) = false)
    (h1 : notStar e = true) (h2 : es.all notStar = true) (h : DV a X ρ (e :: es) fun us => g us Φ) : DE a X ρ (.Call (.Name x p) (e :: es) [] pos) Φ := fun σ H ts vs Q ok k =>
  ⟨_, pe_callB hc hg hm hv pa_W hn hd (star_of h1) (back_of h2), h σ H ts vs _ ok fun ws us H1 q l ok1 => hr ρ σ H1 ts vs us ws Φ Q ok1 l q k⟩
theorem de_callTy {x : Str} {id : String} {r : List V → Hp → VK → Prop} {g : List T → (T → Prop) → Prop} (hc : CallR X (.type id) r) (hr : CallD a r g) (hg : Gl X x) (hm : X.mg x = none) (hv : bootBuiltins x = some (.type id)) (hn : x ≠ "__name__") (hd : (x == ("__debug__" : Str)) = false)
    (h1 : notStar e = true) (h2 : es.all notStar = true) (h : DV a X ρ (e :: es) fun us => g us Φ) : DE a X ρ (.Call (.Name x p) (e :: es) [] pos) Φ := fun σ H ts vs Q ok k =>
  ⟨_, pe_callTy hc hg hm hv pa_W hn hd (star_of h1) (back_of h2), h σ H ts vs _ ok fun ws us H1 q l ok1 => hr ρ σ H1 ts vs us ws Φ Q ok1 l q k⟩
/-- flat answers by plain data -/
theorem cd_flat {r : List V → Hp → VK → Prop} {f : Blt} (hr : ∀ G H (Q : VK) ds ws Ψ, Sub G H → IsL a.toAn G ds ws → bltD f ds Ψ → (∀ d v, Ψ d → d.flat = true → Is a.toAn G d v → Q v H) → r ws H Q) : CallD a r fun us Φ => bltD f (T.dats us) fun d => Φ (.leaf d) :=
  fun ρ σ H ts vs us ws Φ Q ok l h k => by
    obtain ⟨il, ok'⟩ := ok.args l
    exact hr _ H Q _ ws _ (hb_sub _ _) il h fun d v hd f is => k v _ H hd (SOk.flat f is ok')
theorem one {G : Hp} {d : D} {ws : List V} (h : IsL a.toAn G [d] ws) : ∃ v, ws = [v] ∧ Is a.toAn G d v := by
  simp only [IsL] at h
  obtain ⟨v, r, rfl, h1, rfl⟩ := h
  exact ⟨v, rfl, h1⟩
theorem two {G : Hp} {d d' : D} {ws : List V} (h : IsL a.toAn G [d, d'] ws) : ∃ v v', ws = [v, v'] ∧ Is a.toAn G d v ∧ Is a.toAn G d' v' := by
  simp only [IsL] at h
  obtain ⟨v, r, rfl, h1, v', r', rfl, h2, rfl⟩ := h
  exact ⟨v, v', rfl, h1, h2⟩
theorem Is.lstE {G : Hp} {ds : List D} {v : V} (h : Is a.toAn G (.lst ds) v) : ∃ p vs, v = .ref p ∧ G p = some (.lst vs) ∧ IsL a.toAn G ds vs := by simpa only [Is] using h
theorem Is.tupE {G : Hp} {ds : List D} {v : V} (h : Is a.toAn G (.tup ds) v) : ∃ p vs, v = .ref p ∧ SqT a.K G p vs ∧ IsL a.toAn G ds vs := by simpa only [Is] using h
theorem Is.intsE {G : Hp} {ds : List D} {ns : List Int} {v : V} (h : Is a.toAn G (.lst ds) v) (e : D.toInts ds = some ns) : ∃ p, v = .ref p ∧ G p = some (.lst (ns.map V.int)) := by
  obtain ⟨p, vs, rfl, q, il⟩ := h.lstE
  rw [toInts_eq e] at il
  rw [IsL.ints.mp il] at q
  exact ⟨p, rfl, q⟩
theorem Is.blsE {G : Hp} {ds : List D} {ns : List Bool} {v : V} (h : Is a.toAn G (.lst ds) v) (e : D.toBls ds = some ns) : ∃ p, v = .ref p ∧ G p = some (.lst (ns.map V.bl)) := by
  obtain ⟨p, vs, rfl, q, il⟩ := h.lstE
  rw [toBls_eq e] at il
  rw [il.bls] at q
  exact ⟨p, rfl, q⟩
theorem isI {G : Hp} {i : Int} : Is a.toAn G (.int i) (.int i) := by simp only [Is]
theorem isB {G : Hp} {i : Bool} : Is a.toAn G (.bl i) (.bl i) := by simp only [Is]
theorem isS {G : Hp} {i : Str} : Is a.toAn G (.str i) (.str i) := by simp only [Is]
theorem cr_sumT (hc : X.calm = true) : CallR X (.builtin "sum") (fun xs H Q => ∃ (p : Addr) (ns : List Int), xs = [.ref p] ∧ SqT X.K H p (ns.map V.int) ∧ Q (.int ns.sum) H) := by
  intro pins s σ H vs us Q I r h
  obtain ⟨a, ns, rfl, hs, q⟩ := h
  obtain ⟨its, rv, hl, _⟩ := I.tuple hs
  rw [Vals.ref1 r]
  have hi := rv.ints
  obtain ⟨xs, e⟩ := hi.allInts.items
  have hn : numsOf (intItems xs).toList = ns := by rw [← e]; exact hi.numsOf
  rw [nums_intItems] at hn
  rw [e] at hl
  obtain ⟨o, ho, hc1, n, hd⟩ := hl
  refine PySem.W.ktm_sumG (I.ok.hd hc) ⟨o, ho, hc1, n, hd⟩ fun h' tk t' hk => ?_
  refine ⟨.int _, H, I.kept hk, ⟨_, rfl⟩, ?_⟩
  rw [preSum_eq, List.take_of_length_le (by simp), hn]
  exact q
abbrev CallRs := List V → Hp → VK → Prop
def rBlt (K : PySem.W.Frag) : Blt → CallRs
  | .len => fun xs H Q => (∃ p ys, xs = [.ref p] ∧ (SqL K H p ys ∨ SqT K H p ys) ∧ Q (.int ys.length) H) ∨ (∃ z, xs = [.str z] ∧ z.length ≤ sizeLine ∧ Q (.int z.length) H)
  | .abs => fun xs H Q => ∃ i, xs = [.int i] ∧ Q (.int (if i < 0 then -i else i)) H
  | .max => fun xs H Q => (∃ i j, xs = [.int i, .int j] ∧ Q (.int (if j > i then j else i)) H) ∨ rMax K xs H Q ∨ rNuC3 nuMax3 xs H Q
  | .min => fun xs H Q => (∃ i j, xs = [.int i, .int j] ∧ Q (.int (if j < i then j else i)) H) ∨ rMin K xs H Q
  | .sum => fun xs H Q => rSum K xs H Q ∨ ∃ (p : Addr) (ns : List Int), xs = [.ref p] ∧ SqT K H p (ns.map V.int) ∧ Q (.int ns.sum) H
  | .all => rAll K
  | .any => rAny K
  | .sorted => fun xs H Q => rSortedI K xs H Q ∨ rSortD (α := V × T) (fun b => b.1) (fun b => b.2.dat.py) K xs H Q
  | .repr => fun xs H Q => ∃ (x : V) (d : D), xs = [x] ∧ d.Shw ∧ Dp K H x d.py ∧ Q (.str (shown d)) H
  | .list => fun xs H Q => ∃ p ys, xs = [.ref p] ∧ (SqL K H p ys ∨ SqT K H p ys) ∧ ∀ l, H l = none → Q (.ref l) (upd H l (.lst ys))
  | .tuple => fun xs H Q => ∃ p ys, xs = [.ref p] ∧ ((SqL K H p ys ∧ ∀ l, H l = none → Q (.ref l) (upd H l (.tup ys))) ∨ (SqT K H p ys ∧ Q (.ref p) H))
  | .int => fun xs H Q => (∃ i, xs = [.int i] ∧ Q (.int i) H) ∨ ∃ k, xs = [.bl k] ∧ Q (.int (if k then 1 else 0)) H
  | .bool => fun xs H Q => (∃ i, xs = [.int i] ∧ Q (.bl (i != 0)) H) ∨ ∃ k, xs = [.bl k] ∧ Q (.bl k) H
  | .str => fun xs H Q => (∃ i, xs = [.int i] ∧ i.natAbs.log2 < 1920 ∧ Q (.str (toString i)) H) ∨ ∃ z, xs = [.str z] ∧ Q (.str z) H
theorem cd_blt : ∀ f : Blt, CallD a (rBlt a.K f) (bltT f)
  | .len => cd_flat fun G H Q ds ws Ψ sub il h k => by
      match ds, h with
      | [.lst es], h =>
        obtain ⟨v, rfl, i1⟩ := one il
        obtain ⟨p, us, rfl, q, il2⟩ := i1.lstE
        exact .inl ⟨p, us, rfl, .inl (.inl (.inl (sub _ _ q))), by rw [il2.length]; exact k _ _ h rfl isI⟩
      | [.tup es], h =>
        obtain ⟨v, rfl, i1⟩ := one il
        obtain ⟨p, us, rfl, q, il2⟩ := i1.tupE
        exact .inl ⟨p, us, rfl, .inr (sub_t sub q), by rw [il2.length]; exact k _ _ h rfl isI⟩
      | [.str z], h =>
        obtain ⟨v, rfl, i1⟩ := one il
        obtain rfl := i1.str
        exact .inr ⟨z, rfl, small h.1, k _ _ h.2 rfl isI⟩
  | .abs => cd_flat fun G H Q ds ws Ψ sub il h k => by
      match ds, h with
      | [.int i], h =>
        obtain ⟨v, rfl, i1⟩ := one il
        obtain rfl := i1.int
        exact ⟨i, rfl, k _ _ h rfl isI⟩
  | .max => cd_flat fun G H Q ds ws Ψ sub il h k => by
      match ds, h with
      | [.int i, .int j], h =>
        obtain ⟨v, v', rfl, i1, i2⟩ := two il
        obtain rfl := i1.int
        obtain rfl := i2.int
        exact .inl ⟨i, j, rfl, k _ _ h rfl isI⟩
      | [.lst es], h =>
        obtain ⟨v, rfl, i1⟩ := one il
        obtain ⟨ns, e, l, h⟩ := h
        obtain ⟨p, rfl, q⟩ := i1.intsE e
        exact .inr (.inl ⟨p, ns, rfl, .inl (.inl (sub _ _ q)), l, fun m h1 h2 => k _ _ (h m h1 h2) rfl isI⟩)
      | [.int i, .int j, .int n], h =>
        simp only [IsL, Is] at il
        obtain ⟨_, _, rfl, rfl, _, _, rfl, rfl, _, _, rfl, rfl, rfl⟩ := il
        refine .inr (.inr ⟨_, _, _, _, rfl, ?_, k _ _ h rfl isI⟩)
        show nuMax3 (.int i) (.int j) (.int n) = _
        simp only [nuMax3, nuMax2, nuLt, nuCB, Option.map_some, Option.bind_some, decide_eq_true_eq]
        split <;> simp [nuCB] <;> split <;> simp_all
  | .min => cd_flat fun G H Q ds ws Ψ sub il h k => by
      match ds, h with
      | [.int i, .int j], h =>
        obtain ⟨v, v', rfl, i1, i2⟩ := two il
        obtain rfl := i1.int
        obtain rfl := i2.int
        exact .inl ⟨i, j, rfl, k _ _ h rfl isI⟩
      | [.lst es], h =>
        obtain ⟨v, rfl, i1⟩ := one il
        obtain ⟨ns, e, l, h⟩ := h
        obtain ⟨p, rfl, q⟩ := i1.intsE e
        exact .inr ⟨p, ns, rfl, .inl (.inl (sub _ _ q)), l, fun m h1 h2 => k _ _ (h m h1 h2) rfl isI⟩
  | .sum => cd_flat fun G H Q ds ws Ψ sub il h k => by
      match ds, h with
      | [.lst es], h =>
        obtain ⟨v, rfl, i1⟩ := one il
        obtain ⟨ns, e, h⟩ := h
        obtain ⟨p, rfl, q⟩ := i1.intsE e
        exact .inl ⟨p, ns, rfl, .inl (.inl (sub _ _ q)), k _ _ h rfl isI⟩
      | [.tup es], h =>
        obtain ⟨v, rfl, i1⟩ := one il
        obtain ⟨ns, e, h⟩ := h
        simp only [Is] at i1
        obtain ⟨p, vs, rfl, q, il2⟩ := i1
        rw [toInts_eq e] at il2
        rw [IsL.ints.mp il2] at q
        exact .inr ⟨p, ns, rfl, sub_t sub q, k _ _ h rfl isI⟩
  | .all => cd_flat fun G H Q ds ws Ψ sub il h k => by
      match ds, h with
      | [.lst es], h =>
        obtain ⟨v, rfl, i1⟩ := one il
        obtain ⟨ns, e, h⟩ := h
        obtain ⟨p, rfl, q⟩ := i1.blsE e
        exact ⟨p, ns, rfl, .inl (.inl (sub _ _ q)), k _ _ h rfl isB⟩
  | .any => cd_flat fun G H Q ds ws Ψ sub il h k => by
      match ds, h with
      | [.lst es], h =>
        obtain ⟨v, rfl, i1⟩ := one il
        obtain ⟨ns, e, h⟩ := h
        obtain ⟨p, rfl, q⟩ := i1.blsE e
        exact ⟨p, ns, rfl, .inl (.inl (sub _ _ q)), k _ _ h rfl isB⟩
  | .repr => cd_flat fun G H Q ds ws Ψ sub il h k => by
      match ds, h with
      | [d], h =>
        obtain ⟨v, rfl, i1⟩ := one il
        exact ⟨v, d, rfl, h.1, i1.dp sub h.1.1.1, k _ _ h.2 rfl isS⟩
  | .int => cd_flat fun G H Q ds ws Ψ sub il h k => by
      match ds, h with
      | [.int i], h =>
        obtain ⟨v, rfl, i1⟩ := one il
        obtain rfl := i1.int
        exact .inl ⟨i, rfl, k _ _ h rfl isI⟩
      | [.bl i], h =>
        obtain ⟨v, rfl, i1⟩ := one il
        obtain rfl := i1.bl
        exact .inr ⟨i, rfl, k _ _ h rfl isI⟩
  | .bool => cd_flat fun G H Q ds ws Ψ sub il h k => by
      match ds, h with
      | [.int i], h =>
        obtain ⟨v, rfl, i1⟩ := one il
        obtain rfl := i1.int
        exact .inl ⟨i, rfl, k _ _ h rfl isB⟩
      | [.bl i], h =>
        obtain ⟨v, rfl, i1⟩ := one il
        obtain rfl := i1.bl
        exact .inr ⟨i, rfl, k _ _ h rfl isB⟩
  | .str => cd_flat fun G H Q ds ws Ψ sub il h k => by
      match ds, h with
      | [.int i], h =>
        obtain ⟨v, rfl, i1⟩ := one il
        obtain rfl := i1.int
        exact .inl ⟨i, rfl, h.1, k _ _ h.2 rfl isS⟩
      | [.str i], h =>
        obtain ⟨v, rfl, i1⟩ := one il
        obtain rfl := i1.str
        exact .inr ⟨i, rfl, k _ _ h rfl isS⟩
  | .sorted => fun ρ σ H ts vs us ws Φ Q ok l h k => by
      match us, h with
      | [x], h =>
        rcases h with ⟨ds, ns, e1, e2, h⟩ | ⟨us, hx, so, h⟩
        · obtain ⟨il, ok'⟩ := ok.args l
          rw [T.dats, T.dats, e1] at il
          obtain ⟨v, rfl, i1⟩ := one il
          obtain ⟨p, rfl, q⟩ := i1.intsE e2
          refine .inl ⟨p, ns, rfl, .inl (.inl (hb_sub _ _ _ _ q)), fun ns' p' h1 h2 hp => k _ _ _ (h ns' h1 h2) ?_⟩
          have hm : (ns'.map fun n => T.leaf (.int n)) = (ns'.map D.int).map .leaf := by simp
          rw [hm]
          obtain ⟨F, Sc, Sm, w⟩ := ok'
          have w2 : SW a ρ σ ((ns'.map D.int).map .leaf ++ ts) (ns'.map V.int ++ vs) H F Sc Sm :=
            w.tmp (Sn := [] ++ Sm) (OwL.join (OwL.leafs (IsL.ints.mpr rfl)) w.tmps) (List.nodup_append.mp w.nd).2.1 fun _ h => h
          obtain ⟨Sm', w3⟩ := w2.mkLst (by simp) (nvw_leaf _) hp
          exact ⟨F, Sc, Sm', w3⟩
        · obtain ⟨v, rfl⟩ : ∃ v, ws = [v] := by
            match ws, l with
            | [v], _ => exact ⟨v, rfl⟩
          obtain ⟨F, Sc, Sm, w⟩ := ok
          obtain ⟨q, zs, rfl, hq, ⟨l2, n2⟩, Sm', w'⟩ := w.opens hx
          have e1 : (zs.zip us).map (fun b => b.1) = zs := List.map_fst_zip (by omega)
          have e2 : (zs.zip us).map (fun b => b.2) = us := List.map_snd_zip (by omega)
          have e3 : (zs.zip us).map (fun b => b.2.dat.py) = us.map fun t => t.dat.py := by
            conv => rhs; rw [← e2]
            rw [List.map_map]; rfl
          have il := (SOk.args ⟨F, Sc, Sm', w'⟩ l2).1
          have iz := isl_zip il
          refine .inr ⟨q, zs.zip us, rfl, by rw [e1]; exact .inl (.inl hq), fun b hb => ?_, by rw [e3]; exact so.2.1, by rw [e3]; exact so.2.2, fun p hp => ?_⟩
          · have hm : b.2 ∈ us := by rw [← e2]; exact List.mem_map.mpr ⟨b, hb, rfl⟩
            exact ⟨(iz b hb).dp (hb_sub _ _) (so.1 _ hm).1, Nat.le_trans (D.depth_le _) (so.1 _ hm).2⟩
          · have e4 : ((zs.zip us).mergeSort (PySem.W.dataLe false fun b => b.2.dat.py)).map (fun b => b.2) = us.mergeSort leT := by
              have e5 := List.map_mergeSort (r := PySem.W.dataLe false fun b : V × T => b.2.dat.py) (s := leT) (f := fun b : V × T => b.2) (l := zs.zip us) (fun _ _ _ _ => rfl)
              rw [e2] at e5
              exact e5
            obtain ⟨S1, S2, h1, h2, e⟩ := OwL.split w'.tmps l2
            rw [← e1, ← e2] at h1
            have h1' : OwL a.toAn F H ((zs.zip us).map (fun b => b.2)) ((zs.zip us).map (fun b => b.1)) S1 := by
              rw [e2, e1] at h1 ⊢
              rw [← e2, ← e1] at h1
              simpa [e1, e2] using h1
            obtain ⟨S3, h3, p3⟩ := owl_perm (List.mergeSort_perm _ (PySem.W.dataLe false fun b : V × T => b.2.dat.py)).symm h1'
            rw [e4] at h3
            have w3 := w'.tmp (Sn := S3 ++ S2) (OwL.join h3 h2) (by
              have n := (List.nodup_append.mp w'.nd).2.1
              rw [e] at n
              exact (List.Perm.append_right S2 p3).nodup_iff.mpr n) fun x hx => by
                rw [e]
                exact (List.Perm.append_right S2 p3).mem_iff.mp hx
            have ne : (us.mergeSort leT).all T.nvw = true := by
              rw [List.all_eq_true]
              intro t ht
              exact List.all_eq_true.mp n2 t (List.mem_mergeSort.mp ht)
            exact k _ _ _ h (SOk.mkLst (by rw [← e4]; simp) ne hp ⟨F, Sc, _, w3⟩)
  | .list => fun ρ σ H ts vs us ws Φ Q ok l h k => by
      match us, h with
      | [x], h =>
        obtain ⟨us, hx, h⟩ := h
        obtain ⟨v, rfl⟩ : ∃ v, ws = [v] := by
          match ws, l with
          | [v], _ => exact ⟨v, rfl⟩
        obtain ⟨F, Sc, Sm, w⟩ := ok
        rcases hx with hx | hx
        · obtain ⟨q, zs, rfl, hq, ⟨l2, n2⟩, Sm', w'⟩ := w.opens hx
          exact ⟨q, zs, rfl, .inl (.inl (.inl hq)), fun p hp => k _ _ _ h (SOk.mkLst l2 n2 hp ⟨F, Sc, Sm', w'⟩)⟩
        · obtain ⟨q, zs, rfl, hq, ⟨l2, n2⟩, Sm', w'⟩ := w.opent hx
          exact ⟨q, zs, rfl, .inr hq, fun p hp => k _ _ _ h (SOk.mkLst l2 n2 hp ⟨F, Sc, Sm', w'⟩)⟩
  | .tuple => fun ρ σ H ts vs us ws Φ Q ok l h k => by
      match us, h with
      | [x], h =>
        obtain ⟨us, hx, h⟩ := h
        obtain ⟨v, rfl⟩ : ∃ v, ws = [v] := by
          match ws, l with
          | [v], _ => exact ⟨v, rfl⟩
        have ok0 := ok
        obtain ⟨F, Sc, Sm, w⟩ := ok
        rcases hx with hx | hx
        · obtain ⟨q, zs, rfl, hq, ⟨l2, n2⟩, Sm', w'⟩ := w.opens hx
          exact ⟨q, zs, rfl, .inl ⟨.inl (.inl hq), fun p hp => k _ _ _ h (SOk.mkTup l2 n2 hp ⟨F, Sc, Sm', w'⟩)⟩⟩
        · obtain ⟨q, zs, rfl, hq, ⟨l2, n2⟩, Sm', w'⟩ := w.opent hx
          exact ⟨q, zs, rfl, .inr ⟨hq, k _ _ _ h (SOk.same hx ok0)⟩⟩
theorem de_blt {x : Str} {f : Blt} (xo : XOk a X) (hx : x = f.nm) (hg : Gl X x) (hm : X.mg x = none)
    (h1 : notStar e = true) (h2 : es.all notStar = true) (h : DV a X ρ (e :: es) fun us => bltT f us Φ) : DE a X ρ (.Call (.Name x p) (e :: es) [] pos) Φ := by
  subst hx
  have cd := cd_blt (a := a) f
  rw [← xo.K] at cd
  cases f with
  | len => exact de_callB (CallR.or call_len_seq call_len_str) cd hg hm (by decide +kernel) (by decide) (by decide) h1 h2 h
  | abs => exact de_callB call_abs cd hg hm (by decide +kernel) (by decide) (by decide) h1 h2 h
  | max => exact de_callB (CallR.or (call_max2 xo.calm) (CallR.or (cr_max xo.calm) (call_max3Nu xo.calm))) cd hg hm (by decide +kernel) (by decide) (by decide) h1 h2 h
  | min => exact de_callB (CallR.or (call_min2 xo.calm) (cr_min xo.calm)) cd hg hm (by decide +kernel) (by decide) (by decide) h1 h2 h
  | sum => exact de_callB (CallR.or (cr_sum xo.calm) (cr_sumT xo.calm)) cd hg hm (by decide +kernel) (by decide) (by decide) h1 h2 h
  | all => exact de_callB (cr_all xo.calm) cd hg hm (by decide +kernel) (by decide) (by decide) h1 h2 h
  | any => exact de_callB (cr_any xo.calm) cd hg hm (by decide +kernel) (by decide) (by decide) h1 h2 h
  | sorted => exact de_callB (CallR.or cr_sortedI (cr_sortedD xo.un)) cd hg hm (by decide +kernel) (by decide) (by decide) h1 h2 h
  | repr => exact de_callB (call_reprD xo.gu xo.un) cd hg hm (by decide +kernel) (by decide) (by decide) h1 h2 h
  | list => exact de_callTy call_list_of cd hg hm (by decide +kernel) (by decide) (by decide) h1 h2 h
  | tuple => exact de_callTy call_tuple_of cd hg hm (by decide +kernel) (by decide) (by decide) h1 h2 h
  | int => exact de_callTy call_int1 cd hg hm (by decide +kernel) (by decide) (by decide) h1 h2 h
  | bool => exact de_callTy call_bool1 cd hg hm (by decide +kernel) (by decide) (by decide) h1 h2 h
  | str => exact de_callTy (CallR.or call_str_int SkE.call_str_str) cd hg hm (by decide +kernel) (by decide) (by decide) h1 h2 h
end
end DL
namespace DL
open PySem PySem.Spec PyProof.Rows L2

/-! ### slices -/
def cutL {α : Type} (xs : List α) (lo hi : Option Int) : List α := (xs.drop (HT.sIx xs.length 0 lo)).take (HT.sIx xs.length xs.length hi - HT.sIx xs.length 0 lo)
theorem cutL_V (xs : List V) (lo hi : Option Int) : cutV xs lo hi = cutL xs lo hi := rfl
theorem cutL_map {α β : Type} (f : α → β) (xs : List α) (lo hi : Option Int) : cutL (xs.map f) lo hi = (cutL xs lo hi).map f := by
  simp [cutL, List.map_take, List.map_drop]
theorem cutL_whole {α : Type} (xs : List α) (lo hi : Option Int) (h : HT.sIx xs.length 0 lo = 0 ∧ HT.sIx xs.length xs.length hi = xs.length) : cutL xs lo hi = xs := by
  unfold cutL
  rw [h.1, h.2]
  simp
theorem nvw_cut {us : List T} {lo hi : Option Int} (n : us.all T.nvw = true) : (cutL us lo hi).all T.nvw = true := by
  rw [List.all_eq_true] at n ⊢
  exact fun t ht => n t (List.mem_of_mem_drop (List.mem_of_mem_take ht))
def WO (X : Cx) (e : Option Expr) : TO := fun σ H Q => ∃ t, PO X e t ∧ t σ H Q
section
variable {a : An0} {X : Cx} {ρ : Env} {σ : L2.St} {ts : List T} {vs : List V} {H F : Hp} {Sc Sm : List Addr} {Φ : T → Prop} {pos p : Pos} {e A B C : Expr} {es : List Expr}
theorem po_W {e : Option Expr} : PO X e (WO X e) := ⟨fun p s σ H Q I ⟨_, h, q⟩ => h.run p s σ H Q I q⟩
def DO (a : An0) (X : Cx) (ρ : Env) (e : Option Expr) (Ψ : Option Int → Prop) : Prop :=
  ∀ σ H ts vs Q, SOk a ρ σ ts vs H → (∀ o H', Ψ o → SOk a ρ σ ts vs H' → Q o H') → WO X e σ H Q
theorem do_none {Ψ : Option Int → Prop} (h : Ψ none) : DO a X ρ none Ψ := fun σ H ts vs Q ok k => ⟨_, po_none, k _ _ h ok⟩
theorem do_some {Ψ : Option Int → Prop} (h : DE a X ρ e fun x => ∃ i, x.dat = .int i ∧ Ψ (some i)) : DO a X ρ (some e) Ψ := fun σ H ts vs Q ok k => by
  refine ⟨_, po_some pe_W, ?_⟩
  show WE X e σ H fun x H1 => ∃ i, x = .int i ∧ Q (some i) H1
  refine h σ H ts vs _ ok fun x tx H1 ⟨i, e, q⟩ ok1 => ?_
  have i1 := ok1.top
  rw [e] at i1
  exact ⟨i, i1.int, k _ _ q ok1.pop1⟩
def slT (x : T) (lo hi : Option Int) (Φ : T → Prop) : Prop :=
  (∃ us, x.its = some us ∧ Φ (.lst (cutL us lo hi))) ∨ (∃ us, x.prt = some us ∧ Φ (T.mk (cutL us lo hi))) ∨
  (∃ z, x.dat = .str z ∧ z.length ≤ 100000 ∧ Φ (.leaf (.str (cutS z lo hi)))) ∨ (∃ ns, x.dat = .scr ns ∧ Φ (.lst ((cutL ns lo hi).map fun n => .leaf (.int n))))
theorem OwL.take {a : An} {F H : Hp} : ∀ {us : List T} {ws : List V} {S : List Addr} (n : Nat), OwL a F H us ws S → ∃ S', OwL a F H (us.take n) (ws.take n) S' ∧ (S.Nodup → S'.Nodup) ∧ ∀ p ∈ S', p ∈ S
  | us, ws, S, 0, _ => ⟨[], by simp [OwL], fun _ => List.nodup_nil, fun _ h => nomatch h⟩
  | [], ws, S, n + 1, h => ⟨S, by simp only [OwL] at h; simp [OwL, h.1, h.2], id, fun _ h => h⟩
  | u :: us, ws, S, n + 1, h => by
    simp only [OwL] at h
    obtain ⟨v, r, S1, S2, rfl, h1, h2, rfl⟩ := h
    obtain ⟨S3, h3, h4, h5⟩ := OwL.take n h2
    refine ⟨S1 ++ S3, ?_, fun nd => ?_, fun p hp => ?_⟩
    · simp only [List.take_succ_cons, OwL]
      exact ⟨v, _, S1, S3, rfl, h1, h3, rfl⟩
    · obtain ⟨n1, n2, n3⟩ := List.nodup_append.mp nd
      exact List.nodup_append.mpr ⟨n1, h4 n2, fun p hp q hq => n3 p hp q (h5 q hq)⟩
    · rcases List.mem_append.mp hp with z | z
      · exact List.mem_append_left _ z
      · exact List.mem_append_right _ (h5 p z)
theorem OwL.drop {a : An} {F H : Hp} : ∀ {us : List T} {ws : List V} {S : List Addr} (n : Nat), OwL a F H us ws S → ∃ S', OwL a F H (us.drop n) (ws.drop n) S' ∧ (S.Nodup → S'.Nodup) ∧ ∀ p ∈ S', p ∈ S
  | us, ws, S, 0, h => ⟨S, h, id, fun _ h => h⟩
  | [], ws, S, n + 1, h => ⟨S, by simp only [OwL] at h; simp [OwL, h.1, h.2], id, fun _ h => h⟩
  | u :: us, ws, S, n + 1, h => by
    simp only [OwL] at h
    obtain ⟨v, r, S1, S2, rfl, h1, h2, rfl⟩ := h
    obtain ⟨S3, h3, h4, h5⟩ := OwL.drop n h2
    exact ⟨S3, by simpa using h3, fun nd => h4 (List.nodup_append.mp nd).2.1, fun p hp => List.mem_append_right _ (h5 p hp)⟩
theorem OwL.cut {a : An} {F H : Hp} {us : List T} {ws : List V} {S : List Addr} (lo hi : Option Int) (h : OwL a F H us ws S) : ∃ S', OwL a F H (cutL us lo hi) (cutL ws lo hi) S' ∧ (S.Nodup → S'.Nodup) ∧ ∀ p ∈ S', p ∈ S := by
  unfold cutL
  rw [h.length]
  obtain ⟨S1, h1, n1, k1⟩ := h.drop (HT.sIx us.length 0 lo)
  obtain ⟨S2, h2, n2, k2⟩ := h1.take (HT.sIx us.length us.length hi - HT.sIx us.length 0 lo)
  exact ⟨S2, h2, fun n => n2 (n1 n), fun p hp => k1 p (k2 p hp)⟩
theorem SW.slice {us : List T} {ws : List V} (w : SW a ρ σ (us ++ ts) (ws ++ vs) H F Sc Sm) (l : us.length = ws.length) (lo hi : Option Int) : ∃ Sm', SW a ρ σ (cutL us lo hi ++ ts) (cutL ws lo hi ++ vs) H F Sc Sm' ∧ (cutL us lo hi).length = (cutL ws lo hi).length := by
  obtain ⟨S1, S2, h1, h2, e⟩ := OwL.split w.tmps l
  obtain ⟨S3, h3, n3, k3⟩ := h1.cut lo hi
  have nd := (List.nodup_append.mp w.nd).2.1
  rw [e] at nd
  obtain ⟨n1, n2, n4⟩ := List.nodup_append.mp nd
  refine ⟨S3 ++ S2, w.tmp (OwL.join h3 h2) (List.nodup_append.mpr ⟨n3 n1, n2, fun p hp q hq => n4 p (k3 p hp) q hq⟩) fun p hp => ?_, h3.length.symm⟩
  rw [e]
  rcases List.mem_append.mp hp with z | z
  · exact List.mem_append_left _ (k3 p z)
  · exact List.mem_append_right _ z
def rSlAll (K : PySem.W.Frag) : V → Option Int → Option Int → Hp → VK → Prop := fun x lo hi H Q => rSlL K x lo hi H Q ∨ rSlA K x lo hi H Q ∨ rSlS x lo hi H Q
theorem sl_all : SlR X (rSlAll X.K) := SlR.or sl_list (SlR.or sl_tupA sl_str)
theorem opd_sl {lo hi : Option Int} {x : T} {vx : V} {Q : VK} (ok : SOk a ρ σ (x :: ts) (vx :: vs) H) (h : slT x lo hi Φ) (k : ∀ v t H', Φ t → SOk a ρ σ (t :: ts) (v :: vs) H' → Q v H') : rSlAll a.K vx lo hi H Q := by
  have ok0 := ok
  obtain ⟨F, Sc, Sm, w⟩ := ok
  rcases h with ⟨us, hx, q⟩ | ⟨us, hx, q⟩ | ⟨z, hx, hz, q⟩ | ⟨ns, hx, q⟩
  · obtain ⟨l, ws, rfl, hl, ⟨l2, n2⟩, Sm', w'⟩ := w.opens hx
    refine .inl ⟨l, ws, rfl, .inl (.inl hl), fun p hp => k _ _ _ q ?_⟩
    obtain ⟨Sm2, w2, l3⟩ := w'.slice l2 lo hi
    exact SOk.mkLst l3 (nvw_cut n2) hp ⟨F, Sc, Sm2, w2⟩
  · obtain ⟨l, ws, rfl, hl, ⟨l2, n2⟩, Sm', w'⟩ := w.opent hx
    refine .inr (.inl ⟨l, ws, rfl, hl, fun hw => k _ _ _ q ?_, fun _ p hp => k _ _ _ q ?_⟩)
    · rw [← l2] at hw
      rw [cutL_whole us lo hi hw]
      exact SOk.same hx ok0
    · obtain ⟨Sm2, w2, l3⟩ := w'.slice l2 lo hi
      exact SOk.mkTup l3 (nvw_cut n2) hp ⟨F, Sc, Sm2, w2⟩
  · have i1 := ok0.top
    rw [hx] at i1
    rw [i1.str]
    exact .inr (.inr ⟨z, rfl, small hz, k _ _ _ q ok0.pop1.str⟩)
  · have i1 := ok0.top
    rw [hx] at i1
    simp only [Is] at i1
    obtain ⟨l, rfl, hl⟩ := i1
    refine .inl ⟨l, _, rfl, sub_l (hb_sub _ _) hl, fun p hp => k _ _ _ q ?_⟩
    have hm : ((cutL ns lo hi).map fun n => T.leaf (.int n)) = ((cutL ns lo hi).map D.int).map .leaf := by simp
    rw [hm]
    obtain ⟨F, Sc, Sm, w⟩ := ok0.pop1
    have w2 : SW a ρ σ (((cutL ns lo hi).map D.int).map .leaf ++ ts) (cutV (ns.map V.int) lo hi ++ vs) H F Sc Sm := by
      rw [cutL_V, cutL_map]
      exact w.tmp (Sn := [] ++ Sm) (OwL.join (OwL.leafs (IsL.ints.mpr rfl)) w.tmps) (List.nodup_append.mp w.nd).2.1 fun _ h => h
    exact SOk.mkLst (by rw [cutL_V, cutL_map]; simp) (nvw_leaf _) hp ⟨F, Sc, Sm, w2⟩
theorem de_sl {lo hi : Option Expr} {p2 : Pos} (xo : XOk a X) (h : DE a X ρ A fun x => DO a X ρ lo fun l => DO a X ρ hi fun u => slT x l u Φ) : DE a X ρ (.Subscript A (.Slice lo hi none p2) pos) Φ := fun σ H ts vs Q ok k => by
  refine ⟨_, pe_slice sl_all pe_W po_W po_W, ?_⟩
  show WE X A σ H fun x H1 => WO X lo σ H1 fun l H2 => WO X hi σ H2 fun u H3 => rSlAll X.K x l u H3 Q
  rw [xo.K]
  exact h σ H ts vs _ ok fun x tx H1 h1 ok1 => h1 σ H1 _ _ _ ok1 fun l H2 h2 ok2 => h2 σ H2 _ _ _ ok2 fun u H3 h3 ok3 => opd_sl ok3 h3 k

/-! ### calls of own defs -/
/-- a def's promise in plain data: from the arguments, what is wanted of the answer -/
abbrev SpecF := List D → (T → Prop) → Prop
/-- as the layer's promise: the caller chooses the frozen part -/
def spD (K : PySem.W.Frag) (cls : Nat → Option (Addr × List Str)) (f : SpecF) : Sp := fun vs H Q _ =>
  ∃ (bg : Option Addr) (F : Hp) (ds : List D), Sub F H ∧ BagOk ⟨K, bg, cls⟩ F H ∧ IsL ⟨K, bg, cls⟩ F ds vs ∧
    f ds fun t => ∀ F' H' v S, Sub F' H' → Gw bg.toList F H F' H' → BagOk ⟨K, bg, cls⟩ F' H' → Ow ⟨K, bg, cls⟩ F' H' t v S → S.Nodup → (∀ p ∈ S, F' p = none ∧ bg ≠ some p ∧ H p = none) → Q v H'
mutual
theorem Ow.froz {a : An} {F F' H : Hp} (e : Sub F F') : ∀ {t : T} {v : V} {S : List Addr}, t.nv = true → Ow a F H t v S → (∀ p ∈ S, F' p = H p) → Is a F' t.dat v
  | .leaf d, v, S, _, h, _ => by
    simp only [Ow] at h
    simp only [T.dat]
    exact h.2.mono e
  | .vw d, v, S, n, _, _ => by simp [T.nv] at n
  | .lst us, v, S, n, h, k => by
    simp only [Ow] at h
    simp only [T.nv] at n
    obtain ⟨_, p, vs, S', e1, e2, h1, rfl⟩ := h
    simp only [T.dat, Is]
    exact ⟨p, vs, e1, (k p List.mem_cons_self).trans e2, OwL.froz e n h1 fun q hq => k q (List.mem_cons_of_mem _ hq)⟩
  | .tup us, v, S, n, h, k => by
    simp only [Ow] at h
    simp only [T.nv] at n
    obtain ⟨_, p, vs, e1, e2, h1⟩ := h
    simp only [T.dat, Is]
    exact ⟨p, vs, e1, sub_t e e2, OwL.froz e n h1 k⟩
theorem OwL.froz {a : An} {F F' H : Hp} (e : Sub F F') : ∀ {ts : List T} {vs : List V} {S : List Addr}, T.nvs ts = true → OwL a F H ts vs S → (∀ p ∈ S, F' p = H p) → IsL a F' (T.dats ts) vs
  | [], vs, S, _, h, _ => by
    simp only [OwL] at h
    simp only [T.dats, IsL]
    exact h.1
  | t :: ts, vs, S, n, h, k => by
    simp only [OwL] at h
    simp only [T.nvs, Bool.and_eq_true] at n
    obtain ⟨v, r, S1, S2, e1, h1, h2, rfl⟩ := h
    simp only [T.dats, IsL]
    exact ⟨v, r, e1, Ow.froz e n.1 h1 fun p hp => k p (List.mem_append_left _ hp), OwL.froz e n.2 h2 fun p hp => k p (List.mem_append_right _ hp)⟩
end
/-- no list of the caller's may be written here but the bag -/
def NoIo (a : An0) : Prop := ∀ p ∈ a.M, a.bg = some p
/-- lists held alone become frozen ones -/
theorem SW.freezes {us : List T} {ws : List V} (io : NoIo a) (w : SW a ρ σ (us ++ ts) (ws ++ vs) H F Sc Sm) (l : us.length = ws.length) (n : T.nvs us = true) :
    ∃ F' Sm', Sub F F' ∧ SW a ρ σ ts vs H F' Sc Sm' ∧ IsL a.toAn F' (T.dats us) ws := by
  obtain ⟨S1, S2, h1, h2, e⟩ := OwL.split w.tmps l
  obtain ⟨m1, m2, m3⟩ := List.nodup_append.mp w.nd
  rw [e] at m2
  obtain ⟨n1, n2, n3⟩ := List.nodup_append.mp m2
  have fr1 : ∀ p ∈ S1, F p = none ∧ a.bg ≠ some p ∧ a.H0 p = none := fun p hp => by
    obtain ⟨f1, f2, f3⟩ := w.fr p (List.mem_append_right _ (by rw [e]; exact List.mem_append_left _ hp))
    refine ⟨f1, f2, f3.resolve_left fun z => f2 (io p z)⟩
  have sF : Sub F (fun p => if p ∈ S1 then H p else F p) := fun p o q => by
    show (if p ∈ S1 then H p else F p) = some o
    split
    · exact w.sub p o q
    · exact q
  have at1 : ∀ p ∈ S1, (fun p => if p ∈ S1 then H p else F p) p = H p := fun p hp => if_pos hp
  have at2 : ∀ p, p ∉ S1 → (fun p => if p ∈ S1 then H p else F p) p = F p := fun p hp => if_neg hp
  revert sF at1 at2
  generalize (fun p => if p ∈ S1 then H p else F p) = F'
  intro sF at1 at2
  refine ⟨F', S2, sF, ⟨fun p o q => ?_, ⟨w.gw.ff.trans sF, w.gw.hh, fun p h n => ?_, w.gw.th⟩, w.bagM, fun b hb => ?_, w.cells.mono sF (Sub.refl _) fun _ _ _ h => h, h2.mono sF (Sub.refl _) fun _ _ _ h => h, ?_, fun p hp => ?_, w.len, w.wit, fun G hG => (w.wif G hG).trans sF⟩, OwL.froz sF n h1 at1⟩
  · by_cases z : p ∈ S1
    · rw [at1 p z] at q; exact q
    · rw [at2 p z] at q; exact w.sub p o q
  · rw [at2 p fun z => h (fr1 p z).2.2]
    exact w.gw.nn p h n
  · obtain ⟨b1, x, y, z, c, ns, b2, b3, b4⟩ := w.bag b hb
    refine ⟨?_, x, y, z, c, ns, b2, sF _ _ b3, b4⟩
    rw [at2 b fun z => (fr1 b z).2.1 hb]
    exact b1
  · exact List.nodup_append.mpr ⟨m1, n2, fun p hp q hq => m3 p hp q (by rw [e]; exact List.mem_append_right _ hq)⟩
  · have hp' : p ∈ Sc ++ Sm := by
      rcases List.mem_append.mp hp with z | z
      · exact List.mem_append_left _ z
      · exact List.mem_append_right _ (by rw [e]; exact List.mem_append_right _ z)
    obtain ⟨f1, f2, f3⟩ := w.fr p hp'
    refine ⟨?_, f2, f3⟩
    rw [at2 p fun z => ?_]
    · exact f1
    · rcases List.mem_append.mp hp with y | y
      · exact m3 p y p (by rw [e]; exact List.mem_append_left _ z) rfl
      · exact n3 p z p y rfl
/-- what an argument, or what is walked, must be -/
def T.froz (z : Bool) (t : T) (Ψ : D → Prop) : Prop := match t with
  | .leaf d => Ψ d
  | .vw d => d.flat = true ∧ Ψ d
  | t => z = true ∧ Ψ t.dat
def frozs (z : Bool) : List T → (List D → Prop) → Prop
  | [], Ψ => Ψ []
  | t :: r, Ψ => t.froz z fun d => frozs z r fun ds => Ψ (d :: ds)
theorem froz_of {z : Bool} {t : T} {Ψ : D → Prop} (h : t.froz z Ψ) : Ψ t.dat ∧ ((∃ d, t = .leaf d) ∨ (∃ d, t = .vw d ∧ d.flat = true) ∨ (z = true ∧ t.nvw = true)) := by
  cases t with
  | leaf d => exact ⟨h, .inl ⟨d, rfl⟩⟩
  | vw d => exact ⟨h.2, .inr (.inl ⟨d, rfl, h.1⟩)⟩
  | lst us => exact ⟨h.2, .inr (.inr ⟨h.1, rfl⟩)⟩
  | tup us => exact ⟨h.2, .inr (.inr ⟨h.1, rfl⟩)⟩
theorem SW.froz1 {z : Bool} {t : T} {v : V} {Ψ : D → Prop} (io : z = true → NoIo a) (w : SW a ρ σ (t :: ts) (v :: vs) H F Sc Sm) (h : t.froz z Ψ) :
    ∃ F' Sm', Sub F F' ∧ SW a ρ σ ts vs H F' Sc Sm' ∧ Is a.toAn F' t.dat v ∧ Ψ t.dat := by
  obtain ⟨q, c⟩ := froz_of h
  rcases c with ⟨d, rfl⟩ | ⟨d, rfl, f⟩ | ⟨hz, n⟩
  · obtain ⟨S1, h1, _⟩ := w.cut
    simp only [Ow] at h1
    obtain ⟨F2, Sc2, Sm2, w2⟩ := SOk.pop1 ⟨F, Sc, Sm, w⟩
    obtain ⟨S3, S4, h3, h4, e⟩ := OwL.split (ts := [.leaf d]) (vs := [v]) w.tmps rfl
    exact ⟨F, S4, Sub.refl F, w.tmp h4 (by
      have := (List.nodup_append.mp w.nd).2.1
      rw [e] at this
      exact (List.nodup_append.mp this).2.1) fun p hp => by rw [e]; exact List.mem_append_right _ hp, h1.2, q⟩
  · obtain ⟨S3, S4, h3, h4, e⟩ := OwL.split (ts := [.vw d]) (vs := [v]) w.tmps rfl
    exact ⟨F, S4, Sub.refl F, w.tmp h4 (by
      have := (List.nodup_append.mp w.nd).2.1
      rw [e] at this
      exact (List.nodup_append.mp this).2.1) fun p hp => by rw [e]; exact List.mem_append_right _ hp, w.top.flat f, q⟩
  · obtain ⟨F', Sm', s, w', il⟩ := SW.freezes (us := [t]) (ws := [v]) (io hz) w rfl (by
      obtain ⟨S, h1, _⟩ := w.cut
      simp [T.nvs, h1.nv n])
    rw [T.dats, T.dats] at il
    obtain ⟨v', e, i1⟩ := one il
    cases e
    exact ⟨F', Sm', s, w', i1, q⟩
theorem SW.frozs {z : Bool} (io : z = true → NoIo a) : ∀ {us : List T} {ws : List V} {F : Hp} {Sm : List Addr} {Ψ : List D → Prop}, SW a ρ σ (us ++ ts) (ws ++ vs) H F Sc Sm → us.length = ws.length → DL.frozs z us Ψ →
    ∃ F' Sm' ds, Sub F F' ∧ SW a ρ σ ts vs H F' Sc Sm' ∧ IsL a.toAn F' ds ws ∧ Ψ ds
  | [], [], F, Sm, Ψ, w, _, h => ⟨F, Sm, [], Sub.refl F, w, by simp [IsL], h⟩
  | [], w :: ws, _, _, _, _, l, _ => by simp at l
  | u :: us, [], _, _, _, _, l, _ => by simp at l
  | u :: us, v :: ws, F, Sm, Ψ, w, l, h => by
    obtain ⟨F1, Sm1, s1, w1, i1, h1⟩ := SW.froz1 (ts := us ++ ts) (vs := ws ++ vs) io w h
    obtain ⟨F2, Sm2, ds, s2, w2, il, h2⟩ := SW.frozs io w1 (by simpa using l) h1
    exact ⟨F2, Sm2, u.dat :: ds, s1.trans s2, w2, by simp only [IsL]; exact ⟨v, ws, rfl, i1.mono s2, il⟩, h2⟩
/-- behind a call: the callee's growth is the caller's -/
theorem SW.called {F' H' : Hp} {t : T} {v : V} {S : List Addr} (w : SW a ρ σ ts vs H F Sc Sm) (sub : Sub F' H') (g : Gw a.bg.toList F H F' H') (bg : BagOk a.toAn F' H') (ow : Ow a.toAn F' H' t v S) (nd : S.Nodup)
    (fr : ∀ p ∈ S, F' p = none ∧ a.bg ≠ some p ∧ H p = none) : SOk a ρ σ (t :: ts) (v :: vs) H' := by
  have nb : ∀ p, a.bg ≠ some p → p ∉ a.bg.toList := fun p h z => by
    cases e : a.bg with
    | none => rw [e] at z; simp at z
    | some b =>
      rw [e] at z h
      simp at z
      exact h (by rw [z])
  have kb : Sub (hb a.toAn H) (hb a.toAn H') := fun p o e => by
    unfold hb at e ⊢
    split at e
    · cases e
    · rename_i z
      rw [if_neg z]
      exact g.hh p o (nb p z) e
  have k1 : ∀ p ∈ Sc ++ Sm, ∀ o, H p = some o → H' p = some o := fun p hp o e => g.hh p o (nb p (w.fr p hp).2.1) e
  have there : ∀ p ∈ Sc ++ Sm, H p ≠ none := fun p hp => by
    rcases List.mem_append.mp hp with y | y
    · exact OwC.there w.cells p y
    · exact OwL.there w.tmps p y
  obtain ⟨n1, n2, n3⟩ := List.nodup_append.mp w.nd
  refine ⟨F', Sc, S ++ Sm, sub, ⟨w.gw.ff.trans g.ff, fun p o hp e => ?_, fun p h n => g.nn p (w.gw.th p h) (w.gw.nn p h n), fun p h => g.th p (w.gw.th p h)⟩, w.bagM, bg, w.cells.mono g.ff kb fun p hp => k1 p (List.mem_append_left _ hp), ?_, ?_, fun p hp => ?_, w.len, fun G hG => (w.wit G hG).trans kb, fun G hG => (w.wif G hG).trans g.ff⟩
  · have hb : a.bg ≠ some p := fun z => hp (w.bagM p z).1
    exact g.hh p o (nb p hb) (w.gw.hh p o hp e)
  · simp only [OwL]
    exact ⟨v, vs, S, Sm, rfl, ow, w.tmps.mono g.ff kb fun p hp => k1 p (List.mem_append_right _ hp), rfl⟩
  · refine List.nodup_append.mpr ⟨n1, List.nodup_append.mpr ⟨nd, n2, fun p hp q hq e => ?_⟩, fun p hp q hq e => ?_⟩
    · subst e
      exact there p (List.mem_append_right _ hq) (fr p hp).2.2
    · subst e
      rcases List.mem_append.mp hq with z | z
      · exact there p (List.mem_append_left _ hp) (fr p z).2.2
      · exact n3 p hp p z rfl
  · have old : p ∈ Sc ++ Sm → F' p = none ∧ a.bg ≠ some p ∧ (p ∈ a.M ∨ a.H0 p = none) := fun z => ⟨g.nn p (there p z) (w.fr p z).1, (w.fr p z).2⟩
    rcases List.mem_append.mp hp with z | z
    · exact old (List.mem_append_left _ z)
    · rcases List.mem_append.mp z with z | z
      · obtain ⟨f1, f2, f3⟩ := fr p z
        refine ⟨f1, f2, .inr ?_⟩
        cases q : a.H0 p with
        | none => rfl
        | some o => exact absurd f3 (w.gw.th p (by rw [q]; simp))
      · exact old (List.mem_append_right _ z)
/-- a def of the module that may be called here -/
structure FnAt (a : An0) (X : Cx) (x : Str) (f : SpecF) : Prop where
  ex : ∃ (fa : Addr) (fd : FuncData) (k : Nat) (ps : List Str), FnG X.prog X.w X.K X.mg X.base CX0 k fa fd ps (spD a.K a.cls f) ∧ Room k X.A ∧ X.mg x = some (.ref fa) ∧ PySem.W.keepIn X.K (.ref fa) = true ∧ Binds X.K fd ps []
theorem de_call {x : Str} {f : SpecF} {z : Bool} (xo : XOk a X) (io : z = true → NoIo a) (fn : FnAt a X x f) (hg : Gl X x) (hd : (x == ("__debug__" : Str)) = false) (h1 : notStar e = true) (h2 : es.all notStar = true)
    (h : DV a X ρ (e :: es) fun us => frozs z us fun ds => f ds Φ) (mono : ∀ ds (Φ Ψ : T → Prop), (∀ t, Φ t → Ψ t) → f ds Φ → f ds Ψ) : DE a X ρ (.Call (.Name x p) (e :: es) [] pos) Φ := fun σ H ts vs Q ok k => by
  obtain ⟨fa, fd, n, ps, F, hr, hm, hk, hb⟩ := fn.ex
  refine ⟨_, pe_callG F xo.gu hr hg hm hk hb .nil pass0 pa_W hd (star_of h1) (back_of h2), ?_⟩
  show WA X (e :: es) σ H fun vs H1 => spD a.K a.cls f (vs ++ []) H1 Q _
  refine h σ H ts vs _ ok fun ws us H1 q l ok1 => ?_
  obtain ⟨F0, Sc, Sm, w⟩ := ok1
  obtain ⟨F1, Sm1, ds, s1, w1, il, q⟩ := w.frozs io l q
  rw [List.append_nil]
  refine ⟨a.bg, F1, ds, w1.sub, w1.bag, il, mono _ _ _ (fun t ht F' H' v S sub g bg ow nd fr => ?_) q⟩
  exact k v t H' ht (w1.called sub g bg ow nd fr)
end
end DL
namespace DL
open PySem PySem.Spec PyProof.Rows L2

/-! ### targets -/
inductive Tg where
  | nm (i : Nat) | nil | cons (a b : Tg)
mutual
def bindG : Tg → T → Env → Option Env
  | .nm i, t, ρ => if i < ρ.length then some (ρ.put i (some t)) else none
  | .nil, t, ρ => match t.prt with
    | some us => bindL .nil us ρ
    | none => none
  | .cons a b, t, ρ => match t.prt with
    | some (u :: us) => (bindG a u ρ).bind (bindL b us)
    | _ => none
def bindL : Tg → List T → Env → Option Env
  | .nil, [], ρ => some ρ
  | .cons a b, u :: us, ρ => (bindG a u ρ).bind (bindL b us)
  | _, _, _ => none
end
def Tg.slots : Tg → List Nat
  | .nm i => [i]
  | .nil => []
  | .cons a b => a.slots ++ b.slots
def Env.wipes (ρ : Env) : List Nat → Env
  | [] => ρ
  | v :: vs => (ρ.wipes vs).put v none
section
variable {a : An0} {X : Cx} {ρ : Env} {σ : L2.St} {ts : List T} {vs : List V} {H F : Hp} {Sc Sm : List Addr} {Φ : T → Prop} {pos p : Pos} {e A B C : Expr} {es : List Expr}

theorem SW.put {i : Nat} {t : T} {v : V} (w : SW a ρ σ (t :: ts) (v :: vs) H F Sc Sm) (hi : i < ρ.length) (n : t.nv = true) : ∃ Sc' Sm', SW a (ρ.put i (some t)) (σ.set i (some v)) ts vs H F Sc' Sm' := by
  obtain ⟨S1, S2, h1, h2, e⟩ := OwL.split (ts := [t]) (vs := [v]) w.tmps rfl
  have h1 : Ow a.toAn F H t v S1 := by
    simp only [OwL] at h1
    obtain ⟨v', r, S3, S4, e', h3, ⟨rfl, rfl⟩, rfl⟩ := h1
    cases e'
    simpa using h3
  obtain ⟨n1, n2, n3⟩ := List.nodup_append.mp w.nd
  rw [e] at n2
  obtain ⟨m1, m2, m3⟩ := List.nodup_append.mp n2
  obtain ⟨S', h3, n4, k⟩ := OwC.put h1 n w.cells hi (w.len ▸ hi) n1 m1 fun p hp hq => n3 p hq p (by rw [e]; exact List.mem_append_left _ hp) rfl
  refine ⟨S', S2, w.sub, w.gw, w.bagM, w.bag, h3, h2, List.nodup_append.mpr ⟨n4, m2, fun p hp q hq z => ?_⟩, fun p hp => w.fr p ?_, by rw [Env.put_length, List.length_set]; exact w.len, w.wit, w.wif⟩
  · subst z
    rcases k p hp with y | y
    · exact n3 p y p (by rw [e]; exact List.mem_append_right _ hq) rfl
    · exact m3 p y p hq rfl
  · rcases List.mem_append.mp hp with y | y
    · rcases k p y with y | y
      · exact List.mem_append_left _ y
      · exact List.mem_append_right _ (by rw [e]; exact List.mem_append_left _ y)
    · exact List.mem_append_right _ (by rw [e]; exact List.mem_append_right _ y)
theorem SOk.put {i : Nat} {t : T} {v : V} (hi : i < ρ.length) (n : t.nv = true) : SOk a ρ σ (t :: ts) (v :: vs) H → SOk a (ρ.put i (some t)) (σ.set i (some v)) ts vs H := fun ⟨F, Sc, Sm, w⟩ =>
  let ⟨Sc', Sm', w'⟩ := w.put hi n
  ⟨F, Sc', Sm', w'⟩
theorem SW.forget {x : Option V} (w : SW a ρ σ ts vs H F Sc Sm) (i : Nat) : ∃ Sc', SW a (ρ.put i none) (σ.set i x) ts vs H F Sc' Sm := by
  obtain ⟨n1, n2, n3⟩ := List.nodup_append.mp w.nd
  obtain ⟨S', h, n, k⟩ := OwC.drop (x := x) i w.cells n1
  refine ⟨S', w.sub, w.gw, w.bagM, w.bag, h, w.tmps, List.nodup_append.mpr ⟨n, n2, fun p hp q hq => n3 p (k p hp) q hq⟩, fun p hp => w.fr p ?_, by rw [Env.put_length, List.length_set]; exact w.len, w.wit, w.wif⟩
  rcases List.mem_append.mp hp with y | y
  · exact List.mem_append_left _ (k p y)
  · exact List.mem_append_right _ y
theorem SW.wipe (w : SW a ρ σ ts vs H F Sc Sm) : ∀ own : List Nat, ∃ Sc', SW a (ρ.wipes own) (L2.wipe σ own) ts vs H F Sc' Sm
  | [] => ⟨Sc, w⟩
  | v :: r => by
    obtain ⟨Sc', w'⟩ := w.wipe r
    exact w'.forget v
/-- cells that are not known say nothing of their slots -/
theorem OwC.unset {a : An} {F H : Hp} {x : Option V} : ∀ {ρ : Env} {σ : L2.St} {S : List Addr} {i : Nat}, OwC a F H ρ (σ.set i x) S → ρ.put i none = ρ → OwC a F H ρ σ S
  | [], _, _, _, h, _ => h
  | none :: ρ, [], S, 0, h, _ => h
  | none :: ρ, y :: σ, S, 0, h, _ => by simpa only [OwC, List.set_cons_zero, List.tail_cons] using h
  | some t :: ρ, _, _, 0, _, e => by simp [Env.put] at e
  | none :: ρ, [], S, i + 1, h, _ => h
  | none :: ρ, y :: σ, S, i + 1, h, e => by
    simp only [OwC, List.set_cons_succ, List.tail_cons] at h ⊢
    simp only [Env.put, List.cons.injEq, true_and] at e
    exact OwC.unset h e
  | some t :: ρ, [], S, i + 1, h, e => by simpa using h
  | some t :: ρ, y :: σ, S, i + 1, h, e => by
    simp only [OwC, List.set_cons_succ, List.tail_cons, List.head?_cons] at h ⊢
    simp only [Env.put, List.cons.injEq, true_and] at e
    obtain ⟨v, S1, S2, e1, h1, h2, rfl⟩ := h
    exact ⟨v, S1, S2, e1, h1, OwC.unset h2 e, rfl⟩
theorem Env.put_wipes (ρ : Env) (v : Nat) : ∀ own : List Nat, v ∈ own → (ρ.wipes own).put v none = ρ.wipes own := by
  have twice : ∀ (ρ : Env) (i : Nat), (ρ.put i none).put i none = ρ.put i none := fun ρ => by
    induction ρ with
    | nil => intro i; rfl
    | cons x r ih => intro i; cases i <;> simp [Env.put, ih]
  have comm : ∀ (ρ : Env) (i j : Nat), (ρ.put i none).put j none = (ρ.put j none).put i none := fun ρ => by
    induction ρ with
    | nil => intro i j; rfl
    | cons x r ih => intro i j; cases i <;> cases j <;> simp [Env.put, ih]
  intro own
  induction own with
  | nil => intro h; cases h
  | cons u r ih =>
    intro h
    simp only [Env.wipes]
    rcases List.mem_cons.mp h with rfl | h
    · exact twice _ _
    · rw [comm, ih h]
theorem OwC.unwipe {a : An} {F H : Hp} {ρ : Env} {σ : L2.St} {S : List Addr} : ∀ {own : List Nat}, OwC a F H ρ (L2.wipe σ own) S → (∀ v ∈ own, ρ.put v none = ρ) → OwC a F H ρ σ S
  | [], h, _ => h
  | v :: r, h, e => OwC.unwipe (own := r) (OwC.unset (i := v) h (e v List.mem_cons_self)) fun u hu => e u (List.mem_cons_of_mem _ hu)
theorem SW.unwipe {own : List Nat} (w : SW a ρ (L2.wipe σ own) ts vs H F Sc Sm) (e : ρ.wipes own = ρ) : SW a ρ σ ts vs H F Sc Sm :=
  ⟨w.sub, w.gw, w.bagM, w.bag, w.cells.unwipe fun v hv => by
    have := Env.put_wipes ρ v own hv
    rw [e] at this
    exact this, w.tmps, w.nd, w.fr, by rw [w.len, wipe_length], w.wit, w.wif⟩
theorem wipe_set {σ : L2.St} {i : Nat} {x : Option V} : ∀ {own : List Nat}, i ∈ own → L2.wipe (σ.set i x) own = L2.wipe σ own := by
  have low : ∀ (σ : L2.St) (i : Nat) (x : Option V) (own : List Nat), i ∉ own → L2.wipe (σ.set i x) own = (L2.wipe σ own).set i x := fun σ i x own => by
    induction own with
    | nil => intro _; rfl
    | cons v r ih =>
      intro h
      simp only [L2.wipe]
      rw [ih fun z => h (List.mem_cons_of_mem _ z), List.set_comm _ _ (fun z => h (by rw [z]; exact List.mem_cons_self))]
  intro own
  induction own with
  | nil => intro h; cases h
  | cons v r ih =>
    intro h
    simp only [L2.wipe]
    by_cases hr : i ∈ r
    · rw [ih hr]
    · rcases List.mem_cons.mp h with rfl | h
      · rw [low _ _ _ _ hr, List.set_set]
      · exact absurd h hr
/-- where a def's names stand: its scope as it runs, and as it is written -/
structure Ct where
  N : List Str
  sc : Scope
  wr : Scope
structure COk (c : Ct) (X : Cx) : Prop where
  N : X.N = c.N
  sc : X.env.scope = c.sc
  fn : ∀ x, c.wr.names.lookup x = some .cell → X.fn x = true
  keep : ∀ x k, k ≠ .free → c.wr.names.lookup x = some k → c.sc.names.lookup x = some k
def Ct.vis (c : Ct) (x : Str) : Bool := match c.sc.names.lookup x with
  | some .local => true
  | some .cell => true
  | some .free => true
  | _ => false
def Ct.loc (c : Ct) (x : Str) : Bool := match c.wr.names.lookup x with
  | some .local => true
  | some .cell => true
  | _ => false
def Ct.glo (c : Ct) (x : Str) : Bool := match c.sc.names.lookup x with
  | some .globalImplicit => true
  | _ => false
def nameIs (c : Ct) (i : Nat) (x : Str) : Bool := decide (c.N[i]? = some x)
theorem Ct.vis_of {c : Ct} {x : Str} (k : COk c X) (h : c.vis x = true) : Vis X.env.scope x := by
  unfold Vis
  rw [k.sc]
  unfold Ct.vis at h
  split at h
  · exact .inl (by assumption)
  · exact .inr (.inl (by assumption))
  · exact .inr (.inr (by assumption))
  · cases h
theorem Ct.loc_of {c : Ct} {x : Str} (k : COk c X) (h : c.loc x = true) : L2.Loc X.env.scope x ∧ (X.fn x = true ∨ X.env.scope.names.lookup x = some .local) := by
  unfold L2.Loc
  rw [k.sc]
  unfold Ct.loc at h
  split at h
  · rename_i e
    have := k.keep x _ (by decide) e
    exact ⟨.inl this, .inr this⟩
  · rename_i e
    exact ⟨.inr (k.keep x _ (by decide) e), .inl (k.fn x e)⟩
  · cases h
theorem Ct.glo_of {c : Ct} {x : Str} (k : COk c X) (h : c.glo x = true) : Gl X x := by
  show X.env.scope.names.lookup x = some .globalImplicit
  rw [k.sc]
  unfold Ct.glo at h
  split at h
  · assumption
  · cases h
theorem nameIs_of {c : Ct} {i : Nat} {x : Str} (k : COk c X) (h : nameIs c i x = true) : X.N[i]? = some x := by
  rw [k.N]
  exact of_decide_eq_true h
mutual
/-- the target is written so -/
def okG (c : Ct) : Tg → Expr → Bool
  | .nm i, .Name x _ => nameIs c i x && c.loc x
  | .nil, .Tuple [] _ _ => true
  | .cons a b, .Tuple (e :: es) _ _ => okG c a e && okGs c b es
  | _, _ => false
def okGs (c : Ct) : Tg → List Expr → Bool
  | .nil, [] => true
  | .cons a b, e :: es => okG c a e && okGs c b es
  | _, _ => false
end
theorem Env.put_len {i : Nat} {x : Option T} {n : Nat} (h : ρ.length = n) : (ρ.put i x).length = n := (Env.put_length _ _ _).trans h
mutual
theorem bindG_len : ∀ {g : Tg} {t : T} {ρ ρ' : Env}, bindG g t ρ = some ρ' → ρ'.length = ρ.length
  | .nm i, t, ρ, ρ', h => by
    simp only [bindG] at h
    split at h
    · cases h; exact Env.put_length _ _ _
    · cases h
  | .nil, t, ρ, ρ', h => by
    simp only [bindG] at h
    split at h
    · rename_i us _
      cases us with
      | nil => simp only [bindL, Option.some.injEq] at h; rw [h]
      | cons u us => simp [bindL] at h
    · cases h
  | .cons a b, t, ρ, ρ', h => by
    simp only [bindG] at h
    split at h
    · obtain ⟨ρ1, h1, h2⟩ := Option.bind_eq_some_iff.mp h
      rw [bindL_len h2, bindG_len h1]
    · cases h
theorem bindL_len : ∀ {g : Tg} {us : List T} {ρ ρ' : Env}, bindL g us ρ = some ρ' → ρ'.length = ρ.length
  | .nil, [], ρ, ρ', h => by simp only [bindL, Option.some.injEq] at h; rw [h]
  | .cons a b, u :: us, ρ, ρ', h => by
    simp only [bindL] at h
    obtain ⟨ρ1, h1, h2⟩ := Option.bind_eq_some_iff.mp h
    rw [bindL_len h2, bindG_len h1]
  | .nil, _ :: _, _, _, h => by simp [bindL] at h
  | .cons _ _, [], _, _, h => by simp [bindL] at h
  | .nm _, _, _, _, h => by simp [bindL] at h
end
/-- what is stored holds no part that is only read -/
theorem prt_nv {t : T} {us : List T} (n : t.nv = true) (h : t.prt = some us) : T.nvs us = true := by
  match t, h with
  | .leaf (.tup ds), h =>
    simp only [T.prt, Option.some.injEq] at h
    subst h
    exact T.nvs_leaf ds
  | .tup ts, h =>
    simp only [T.prt, Option.some.injEq] at h
    subst h
    simpa only [T.nv] using n
  | .leaf .non, h | .leaf (.bl _), h | .leaf (.int _), h | .leaf (.str _), h | .leaf (.lst _), h | .leaf .bag, h | .leaf (.obj _ _), h | .leaf (.scr _), h => simp [T.prt] at h
  | .vw _, h => simp [T.prt] at h
  | .lst _, h => simp [T.prt] at h
theorem bindL_num {c : Ct} : ∀ {g : Tg} {us : List T} {ρ ρ' : Env} {es : List Expr}, bindL g us ρ = some ρ' → okGs c g es = true → us.length = es.length
  | .nil, [], _, _, [], _, _ => rfl
  | .cons a b, u :: us, ρ, ρ', e :: es, h, k => by
    simp only [bindL] at h
    obtain ⟨ρ1, h1, h2⟩ := Option.bind_eq_some_iff.mp h
    simp only [okGs, Bool.and_eq_true] at k
    rw [List.length_cons, List.length_cons, bindL_num h2 k.2]
  | .nil, _ :: _, _, _, _, h, _ => by simp [bindL] at h
  | .nil, [], _, _, _ :: _, _, k => by simp [okGs] at k
  | .cons _ _, [], _, _, _, h, _ => by simp [bindL] at h
  | .cons _ _, _ :: _, _, _, [], _, k => by simp [okGs] at k
  | .nm _, _, _, _, _, h, _ => by simp [bindL] at h
theorem asg_map {c : Ct} {env : PySem.Env} {g : Tg} {e : Expr} {es : List Expr} (k : okG c g e = true) : List.map (fun x => x.snd) (assignEach (e :: es) env) = assign e env :: List.map (fun x => x.snd) (assignEach es env) := by
  cases e with
  | Starred x p => cases g <;> simp [okG] at k
  | _ => rfl
theorem asg_of {c : Ct} {env : PySem.Env} : ∀ {g : Tg} {es : List Expr}, okGs c g es = true → (assignEach es env).length = es.length ∧ List.findIdx? (fun x => x.fst) (assignEach es env) = none
  | .nil, [], _ => ⟨rfl, rfl⟩
  | .cons a b, e :: es, k => by
    simp only [okGs, Bool.and_eq_true] at k
    obtain ⟨i1, i2⟩ := asg_of (env := env) k.2
    have hh : ∃ f, assignEach (e :: es) env = (false, f) :: assignEach es env := by
      cases e with
      | Starred x p => cases a <;> simp [okG] at k
      | _ => exact ⟨_, rfl⟩
    obtain ⟨f, hf⟩ := hh
    rw [hf]
    refine ⟨by simp [i1], ?_⟩
    rw [List.findIdx?_cons]
    simp [i2]
  | .nil, _ :: _, k => by simp [okGs] at k
  | .cons _ _, [], k => by simp [okGs] at k
  | .nm _, _, k => by simp [okGs] at k
mutual
theorem dg {c : Ct} (xo : XOk a X) (co : COk c X) : ∀ {g : Tg} {e : Expr} {t : T} {v : V} {ρ ρ' : Env} {σ : L2.St} {ts : List T} {vs : List V} {H : Hp} {Q : L2.St → Hp → Prop}, okG c g e = true → t.nv = true →
    SOk a ρ σ (t :: ts) (v :: vs) H → bindG g t ρ = some ρ' → (∀ σ', SOk a ρ' σ' ts vs H → (∀ own : List Nat, (∀ i ∈ g.slots, i ∈ own) → L2.wipe σ' own = L2.wipe σ own) → Q σ' H) → WG X e v σ H Q
  | .nm i, e, t, v, ρ, ρ', σ, ts, vs, H, Q, ok, n, so, hb, k => by
    match e, ok with
    | .Name x _, ok =>
      simp only [okG, Bool.and_eq_true] at ok
      obtain ⟨l1, l2⟩ := Ct.loc_of co ok.2
      refine ⟨_, pg_name xo.nd (nameIs_of co ok.1) l1 l2, ?_⟩
      simp only [bindG] at hb
      split at hb
      · rename_i hi
        cases hb
        exact k _ (so.put hi n) fun own ho => wipe_set (ho i (by simp [Tg.slots]))
      · cases hb
  | .nil, e, t, v, ρ, ρ', σ, ts, vs, H, Q, ok, n, so, hb, k => by
    match e, ok with
    | .Tuple [] j pp, ok =>
      simp only [bindG] at hb
      split at hb
      · rename_i us hu
        obtain ⟨F, Sc, Sm, w⟩ := so
        obtain ⟨l, ws, rfl, hl, ⟨l2, n2⟩, Sm', w'⟩ := w.opent hu
        refine ⟨_, pg_tup xo.calm (pgs_W (e := [])), ?_⟩
        show ∃ a xs, V.ref l = .ref a ∧ SqT X.K H a xs ∧ xs.length = 0 ∧ WGs X [] xs σ H Q
        rw [xo.K]
        cases us with
        | nil =>
          obtain rfl : ws = [] := List.eq_nil_of_length_eq_zero l2.symm
          exact ⟨l, [], rfl, hl, rfl, dgs xo co (g := .nil) rfl rfl (show SOk a ρ σ ([] ++ ts) ([] ++ vs) H from ⟨F, Sc, Sm', w'⟩) rfl hb k⟩
        | cons u us => simp [bindL] at hb
      · cases hb
    | .Tuple (_ :: _) _ _, ok => simp [okG] at ok
  | .cons ga gb, e, t, v, ρ, ρ', σ, ts, vs, H, Q, ok, n, so, hb, k => by
    match e, ok with
    | .Tuple (e1 :: es) j pp, ok =>
      simp only [bindG] at hb
      split at hb
      · rename_i u us hu
        obtain ⟨F, Sc, Sm, w⟩ := so
        obtain ⟨l, ws, rfl, hl, ⟨l2, n2⟩, Sm', w'⟩ := w.opent hu
        have okk : okGs c (.cons ga gb) (e1 :: es) = true := by simpa only [okGs, okG] using ok
        have hbb : bindL (.cons ga gb) (u :: us) ρ = some ρ' := by simp only [bindL]; exact hb
        refine ⟨_, pg_tup (n := (e1 :: es).length) xo.calm (pgs_W (e := e1 :: es)) (hn := (asg_of okk).1) (hst := (asg_of okk).2), ?_⟩
        show ∃ a xs, V.ref l = .ref a ∧ SqT X.K H a xs ∧ xs.length = (e1 :: es).length ∧ WGs X (e1 :: es) xs σ H Q
        rw [xo.K]
        have hlen : (u :: us).length = (e1 :: es).length := by
          exact bindL_num hbb okk
        refine ⟨l, ws, rfl, hl, by rw [← l2]; exact hlen, ?_⟩
        exact dgs xo co (g := .cons ga gb) okk (prt_nv n hu) (show SOk a ρ σ ((u :: us) ++ ts) (ws ++ vs) H from ⟨F, Sc, Sm', w'⟩) l2 hbb k
      · cases hb
    | .Tuple [] _ _, ok => simp [okG] at ok
theorem dgs {c : Ct} (xo : XOk a X) (co : COk c X) : ∀ {g : Tg} {es : List Expr} {us : List T} {ws : List V} {ρ ρ' : Env} {σ : L2.St} {ts : List T} {vs : List V} {H : Hp} {Q : L2.St → Hp → Prop}, okGs c g es = true → T.nvs us = true →
    SOk a ρ σ (us ++ ts) (ws ++ vs) H → us.length = ws.length → bindL g us ρ = some ρ' → (∀ σ', SOk a ρ' σ' ts vs H → (∀ own : List Nat, (∀ i ∈ g.slots, i ∈ own) → L2.wipe σ' own = L2.wipe σ own) → Q σ' H) → WGs X es ws σ H Q
  | .nil, [], [], [], ρ, ρ', σ, ts, vs, H, Q, ok, n, so, l, hb, k => by
    simp only [bindL, Option.some.injEq] at hb
    subst hb
    exact ⟨_, pgs_nil, rfl, k σ so fun _ _ => rfl⟩
  | .cons ga gb, e :: es, u :: us, w :: ws, ρ, ρ', σ, ts, vs, H, Q, ok, n, so, l, hb, k => by
    simp only [okGs, Bool.and_eq_true] at ok
    simp only [T.nvs, Bool.and_eq_true] at n
    simp only [bindL] at hb
    obtain ⟨ρ1, h1, h2⟩ := Option.bind_eq_some_iff.mp hb
    refine ⟨_, pgs_cons pg_W pgs_W (hs := asg_map ok.1), ?_⟩
    refine ⟨w, ws, rfl, ?_⟩
    refine dg xo co ok.1 n.1 (show SOk a ρ σ (u :: (us ++ ts)) (w :: (ws ++ vs)) H from so) h1 fun σ1 so1 e1 => ?_
    refine dgs xo co ok.2 n.2 so1 (by simpa using l) h2 fun σ2 so2 e2 => k σ2 so2 fun own ho => ?_
    rw [e2 own fun i hi => ho i (by simp [Tg.slots, hi]), e1 own fun i hi => ho i (by simp [Tg.slots, hi])]
  | .nil, _ :: _, _, _, _, _, _, _, _, _, _, ok, _, _, _, _, _ => by simp [okGs] at ok
  | .cons _ _, [], _, _, _, _, _, _, _, _, _, ok, _, _, _, _, _ => by simp [okGs] at ok
  | .nm _, _, _, _, _, _, _, _, _, _, _, ok, _, _, _, _, _ => by simp [okGs] at ok
  | .nil, [], _ :: _, _, _, _, _, _, _, _, _, _, _, _, _, hb, _ => by simp [bindL] at hb
  | .nil, [], [], _ :: _, _, _, _, _, _, _, _, _, _, _, l, _, _ => by simp at l
  | .cons _ _, _ :: _, [], _, _, _, _, _, _, _, _, _, _, _, _, hb, _ => by simp [bindL] at hb
  | .cons _ _, _ :: _, _ :: _, [], _, _, _, _, _, _, _, _, _, _, l, _, _ => by simp at l
end
end
end DL
/-! zip of a tuple and a list -/
namespace ZM
open PySem PySem.Spec PyProof.Rows L2
open PySem.Sem (wp)
section
variable {prog : Program} {w : World} {A : Around} {E : Value → Shared → Prop} {s : Shared}
/-- one turn of the machine's zip whose first walk is over a tuple and whose second is over a list: a pair, or the end -/
theorem turn1 {z TI TO i1 i2 l1 l2 : Addr} {k1 k2 : Nat} {xs ys : Array Value} {a b : Value} {Q : Value → Shared → Prop} (hh : A.handled = none) (D : ZipApart z TI TO i1 i2 l1 l2)
    (hz : IsZip s.heap z TI TO .none) (hTI : IsPair s.heap TI (.ref i1) (.ref i2)) (hTO : IsPair s.heap TO a b)
    (h1 : s.heap.IsTupleIter i1 l1 k1) (h2 : s.heap.IsListIter i2 l2 k2) (hl1 : s.heap.IsTuple l1 xs) (hl2 : s.heap.IsList l2 ys)
    (hQ : ∀ x y, xs[k1]? = some x → ys[k2]? = some y → ∀ h', IsZip h' z TI TO (rawInt s.heap.objs.size) → IsPair h' TO x y → h'.IsTupleIter i1 l1 (k1 + 1) → h'.IsListIter i2 l2 (k2 + 1) → IsPair h' s.heap.objs.size x y →
      h'.objs.size = s.heap.objs.size + 1 → (∀ c o, c ≠ z → c ≠ TO → c ≠ i1 → c ≠ i2 → s.heap.get? c = some o → h'.get? c = some o) → Q (.ref s.heap.objs.size) { s with heap := h' })
    (hE : (xs[k1]? = none ∨ ys[k2]? = none) → ∀ h' e, (∀ c o, c ≠ z → c ≠ TO → c ≠ i1 → c ≠ i2 → s.heap.get? c = some o → h'.get? c = some o) → (∃ o, h'.get? e = some o ∧ o.cls = .type "StopIteration") → E (.ref e) { s with heap := h' }) :
    wpAny (model prog w) A (Builtin.«zip.__next__» ⟨[.ref z], []⟩) (fun fin s' => ∃ v, fin = .done (.ret v) ∧ Q v s') E s := by
  have stop : ∀ (h h2 : Heap) (e : Addr) {R : Unit → Shared → Prop}, (xs[k1]? = none ∨ ys[k2]? = none) → IsZip h2 z TI TO .ellipsis → (∀ c o, c ≠ z → c ≠ TO → c ≠ i1 → c ≠ i2 → s.heap.get? c = some o → h2.get? c = some o) →
      (∃ o, h2.get? e = some o ∧ o.cls = .type "StopIteration") → ∀ h3, Heap.SameBut z h2 h3 → E (.ref e) { s with heap := h3 } := fun h h2 e R no q1 q2 q3 h3 sb => by
    obtain ⟨oe, hoe, hce⟩ := q3
    have ne : e ≠ z := fun x => by subst x; rw [q1] at hoe; cases hoe; simp at hce
    exact hE no h3 e (fun c o c1 c2 c3 c4 x => sb.extBut _ _ c1 (q2 c o c1 c2 c3 c4 x)) ⟨oe, sb.extBut _ _ ne hoe, hce⟩
  show wpAny _ _ (field (.ref z) 2 >>= _) _ _ _
  refine wpAny_bind (wpAny_field hz rfl (x := .bool false) rfl ?_)
  show wpAny _ _ (field (.ref z) 3 >>= _) _ _ _
  refine wpAny_bind (wpAny_field hz rfl (x := .ref TI) rfl (wpAny_bind (wpAny_seqItems hTI rfl ?_)))
  show wpAny _ _ (Builtin.SmallTypes.ownedTupleIsFree (.ref z) >>= _) _ _ _
  refine wpAny_bind ?_
  unfold Builtin.SmallTypes.ownedTupleIsFree
  refine wpAny_bind (wpAny_field hz rfl (x := .none) rfl (wpAny_pure ?_))
  simp only [if_true]
  refine wpAny_bind (wpAny_rule (wpAny_bind (wpAny_field hz rfl (x := .ref TO) rfl (wpAny_bind (wpAny_setField_rec hz (by simp) fun g1 z1 s1 => ?_)))))
  have z1 : IsZip g1 z TI TO .ellipsis := z1
  refine wpAny_bind ?_
  simp only [List.zipIdx_cons, List.zipIdx_nil, List.forIn_cons, List.forIn_nil]
  refine wpAny_bind (wpAny_bind (wpAny_onRaise ?_))
  show wpAny _ _ (Builtin.SmallTypes.nextOf (.ref i1) >>= _) _ _ _
  cases hx : xs[k1]? with
  | none =>
    exact wpAny_bind (RZ.nextOf_tuple_end hh (h1.extBut s1.extBut D.i1z) (hl1.extBut s1.extBut D.l1z) hx fun g2 e s2 he =>
      have z2 : IsZip g2 z TI TO .ellipsis := s2 _ _ D.i1z.symm z1
      wpAny_setField_rec z2 (by simp) fun g3 _ s3 => stop g1 g2 e (R := fun _ _ => True) (.inl hx) z2 (fun c o c1 _ c3 _ q => s2 _ _ c3 (s1.extBut _ _ c1 q)) he g3 s3)
  | some x =>
    refine wpAny_bind (RZ.nextOf_tuple_item (h1.extBut s1.extBut D.i1z) (hl1.extBut s1.extBut D.l1z) hx fun g2 j1 s2 => wpAny_pure ?_)
    have to2 : IsPair g2 TO a b := s2.extBut _ _ D.TOi1 (s1.extBut _ _ D.TOz hTO)
    have j2 : g2.IsListIter i2 l2 k2 := (h2.extBut s1.extBut D.i2z).extBut s2.extBut D.i12.symm
    have m2 : g2.IsList l2 ys := (hl2.extBut s1.extBut D.l2z).extBut s2.extBut D.l2i1
    have z2 : IsZip g2 z TI TO .ellipsis := s2.extBut _ _ D.i1z.symm z1
    refine wpAny_bind (wpAny_seqItems to2 rfl (wpAny_bind (wpAny_updateSeq_pair to2 fun g3 to3 s3 => wpAny_bind (wpAny_letGo (wpAny_pure ?_)))))
    have to3 : IsPair g3 TO x b := to3
    have z3 : IsZip g3 z TI TO .ellipsis := s3.extBut _ _ D.TOz.symm z2
    have up3 : ∀ c o, c ≠ z → c ≠ TO → c ≠ i1 → s.heap.get? c = some o → g3.get? c = some o := fun c o c1 c2 c3 q => s3.extBut _ _ c2 (s2.extBut _ _ c3 (s1.extBut _ _ c1 q))
    refine wpAny_bind (wpAny_bind (wpAny_onRaise ?_))
    show wpAny _ _ (Builtin.SmallTypes.nextOf (.ref i2) >>= _) _ _ _
    cases hy : ys[k2]? with
    | none =>
      exact wpAny_bind (wpAny_nextOf_list_end hh (j2.extBut s3.extBut D.TOi2.symm) (m2.extBut s3.extBut D.l2TO) hy fun g4 e s4 he =>
        have z4 : IsZip g4 z TI TO .ellipsis := s4 _ _ D.i2z.symm z3
        wpAny_setField_rec z4 (by simp) fun g5 _ s5 => stop g3 g4 e (R := fun _ _ => True) (.inr hy) z4 (fun c o c1 c2 c3 c4 q => s4 _ _ c4 (up3 c o c1 c2 c3 q)) he g5 s5)
    | some y =>
      refine wpAny_bind (wpAny_nextOf_list_item (j2.extBut s3.extBut D.TOi2.symm) (m2.extBut s3.extBut D.l2TO) hy fun g4 j4 s4 => wpAny_pure ?_)
      have to4 : IsPair g4 TO x b := s4.extBut _ _ D.TOi2 to3
      refine wpAny_bind (wpAny_seqItems to4 rfl (wpAny_bind (wpAny_updateSeq_pair to4 fun g5 to5 s5 => wpAny_bind (wpAny_letGo (wpAny_pure (wpAny_pure ?_))))))
      have to5 : IsPair g5 TO x y := to5
      have z5 : IsZip g5 z TI TO .ellipsis := s5.extBut _ _ D.TOz.symm (s4.extBut _ _ D.i2z.symm z3)
      have up5 : ∀ c o, c ≠ z → c ≠ TO → c ≠ i1 → c ≠ i2 → s.heap.get? c = some o → g5.get? c = some o := fun c o c1 c2 c3 c4 q => s5.extBut _ _ c2 (s4.extBut _ _ c4 (up3 c o c1 c2 c3 q))
      have n1 : g5.IsTupleIter i1 l1 (k1 + 1) := ((j1.extBut s3.extBut D.TOi1.symm).extBut s4.extBut D.i12).extBut s5.extBut D.TOi1.symm
      have n2 : g5.IsListIter i2 l2 (k2 + 1) := j4.extBut s5.extBut D.TOi2.symm
      have size : g5.objs.size = s.heap.objs.size := by rw [s5.1, s4.1, s3.1, s2.1, s1.1]
      have zl : z < g5.objs.size := Heap.lt_size z5
      refine wpAny_bind (wpAny_seqItems to5 rfl (wpAny_bind (wpAny_newTuple ?_)))
      show wpAny _ _ (Builtin.SmallTypes.ownedTupleHandOut (.ref z) (.ref g5.objs.size) >>= _) _ _ _
      refine wpAny_bind ?_
      unfold Builtin.SmallTypes.ownedTupleHandOut
      have z6 : IsZip (g5.push { cls := .type "tuple", data := .seq #[x, y] }) z TI TO .ellipsis := Heap.get?_push_of_some _ z5
      refine wpAny_bind (wpAny_setField_rec z6 (by simp) fun g7 z7 s7 => ?_)
      have z7 : IsZip g7 z TI TO (rawInt g5.objs.size) := z7
      refine wpAny_setField_rec z7 (by simp) fun g8 z8 s8 => ?_
      have z8 : IsZip g8 z TI TO (rawInt g5.objs.size) := z8
      have up8 : ∀ c o, c ≠ z → g5.get? c = some o → g8.get? c = some o := fun c o c1 q => s8.extBut _ _ c1 (s7.extBut _ _ c1 (Heap.get?_push_of_some _ q))
      have new8 : IsPair g8 g5.objs.size x y := s8.extBut _ _ (Nat.ne_of_gt zl) (s7.extBut _ _ (Nat.ne_of_gt zl) (Heap.get?_push_size _ rfl))
      have size8 : g8.objs.size = g5.objs.size + 1 := by rw [s8.1, s7.1, Heap.size_push]
      refine wpAny_pure ⟨_, rfl, ?_⟩
      show Q (.ref g5.objs.size) _
      rw [size] at z8 new8 size8 ⊢
      exact hQ x y hx hy g8 z8 (up8 _ _ D.TOz to5) (n1.at fun o q => up8 _ o D.i1z q) (n2.at fun o q => up8 _ o D.i2z q) new8 size8 fun c o c1 c2 c3 c4 q => up8 c o c1 (up5 c o c1 c2 c3 c4 q)
theorem next1 {z TI TO i1 i2 l1 l2 : Addr} {k1 k2 : Nat} {xs ys : Array Value} {a b : Value} {Q : Option Value → Shared → Prop} (hh : A.handled = none) (D : ZipApart z TI TO i1 i2 l1 l2)
    (hz : IsZip s.heap z TI TO .none) (hTI : IsPair s.heap TI (.ref i1) (.ref i2)) (hTO : IsPair s.heap TO a b)
    (h1 : s.heap.IsTupleIter i1 l1 k1) (h2 : s.heap.IsListIter i2 l2 k2) (hl1 : s.heap.IsTuple l1 xs) (hl2 : s.heap.IsList l2 ys)
    (hQ : ∀ x y, xs[k1]? = some x → ys[k2]? = some y → ∀ h', IsZip h' z TI TO (rawInt s.heap.objs.size) → IsPair h' TO x y → h'.IsTupleIter i1 l1 (k1 + 1) → h'.IsListIter i2 l2 (k2 + 1) → IsPair h' s.heap.objs.size x y →
      h'.objs.size = s.heap.objs.size + 1 → (∀ c o, c ≠ z → c ≠ TO → c ≠ i1 → c ≠ i2 → s.heap.get? c = some o → h'.get? c = some o) → Q (some (.ref s.heap.objs.size)) { s with heap := h' })
    (hN : (xs[k1]? = none ∨ ys[k2]? = none) → ∀ h', (∀ c o, c ≠ z → c ≠ TO → c ≠ i1 → c ≠ i2 → s.heap.get? c = some o → h'.get? c = some o) → Q none { s with heap := h' }) : wpAny (model prog w) A (pyNext (.ref z)) Q E s := by
  have hT : s.TypeIs (.ref z) "zip" := ⟨_, hz, rfl⟩
  unfold pyNext
  refine wpAny_bind (wpAny_attempt (wpAny_callSpecial?_slot (name := Str.ofString "__next__") hT F.slot_zip_next (wpAny_call_entry F.slot_zip_next hT F.entry_zip_next
    (turn1 hh D hz hTI hTO h1 h2 hl1 hl2 (fun x y e1 e2 h' a1 a2 a3 a4 a5 a6 a7 => wpAny_pure (hQ x y e1 e2 h' a1 a2 a3 a4 a5 a6 a7)) fun no h' e hk he => ?_) (F.args_zip_next_1 _))))
  obtain ⟨o, ho, hc⟩ := he
  exact wpAny_bind (wpAny_isInstance (T := "StopIteration") (b := true) ⟨o, ho, hc⟩ isSubtype_stop (wpAny_pure (hN no _ hk)))
end
/-- the heaps on the way to zip(t, l): two walks, two pairs, the zip -/
abbrev hA (h : Heap) (l1 : Addr) : Heap := h.push { cls := .type "tuple_iterator", data := .fields #[.ref l1, .int 0 0] }
abbrev hB (h : Heap) (l1 l2 : Addr) : Heap := (hA h l1).push { cls := .type "list_iterator", data := .fields #[.ref l2, .int 0 0] }
abbrev hC (h : Heap) (l1 l2 : Addr) : Heap := (hB h l1 l2).push { cls := .type "tuple", data := .seq #[.ref h.objs.size, .ref (hA h l1).objs.size] }
abbrev hD (h : Heap) (l1 l2 : Addr) : Heap := (hC h l1 l2).push { cls := .type "tuple", data := .seq #[.none, .none] }
abbrev hZ (h : Heap) (l1 l2 : Addr) : Heap := (hD h l1 l2).push { cls := .type "zip", data := .fields #[.none, .bool false, .bool false, .ref (hB h l1 l2).objs.size, .ref (hC h l1 l2).objs.size] }
theorem meets_new (l1 l2 : Addr) (xs ys : Array Value) :
    Meets (Builtin.«zip.__new__» ⟨[.type "zip", .ref l1, .ref l2], []⟩) (fun _ R s => s.heap.IsTuple l1 xs ∧ s.heap.IsList l2 ys ∧ R (.ok (.ret (.ref (hD s.heap l1 l2).objs.size))) { s with heap := hZ s.heap l1 l2 }) :=
  .of_wp fun prog w A R s h => by
    obtain ⟨hp, g, d, tk, os⟩ := s
    obtain ⟨t1, t2, h⟩ := h
    have isz := sub_zip
    have T1 : Heap.IsTuple (Shared.heap ⟨hp, g, d, tk, os⟩) l1 xs := t1
    have T2 : Heap.IsList (Shared.heap ⟨hA hp l1, g, d, tk, os⟩) l2 ys := Heap.IsList.push t2 _
    wp_walk using wpAny_pyIter_tuple T1, wpAny_pyIter_list T2
    exact ⟨_, rfl, h⟩
section
variable {prog : Program} {w : World} {A : Around} {E : Value → Shared → Prop} {s : Shared}
theorem call1 {l1 l2 : Addr} {xs ys : Array Value} {Q : Value → Shared → Prop} (hl1 : s.heap.IsTuple l1 xs) (hl2 : s.heap.IsList l2 ys)
    (k : ∀ h', IsZip h' (s.heap.objs.size + 4) (s.heap.objs.size + 2) (s.heap.objs.size + 3) .none → IsPair h' (s.heap.objs.size + 2) (.ref s.heap.objs.size) (.ref (s.heap.objs.size + 1)) → IsPair h' (s.heap.objs.size + 3) .none .none →
      h'.IsTupleIter s.heap.objs.size l1 0 → h'.IsListIter (s.heap.objs.size + 1) l2 0 → (∀ c o, s.heap.get? c = some o → h'.get? c = some o) → Q (.ref (s.heap.objs.size + 4)) { s with heap := h' }) :
    wpAny (model prog w) A (call (.type "zip") [.ref l1, .ref l2]) Q E s := by
  refine callType_new F.called_zip (by decide) (F.typeCall_zip_2 _ _) (F.newCall_zip_2 _ _) (fun obj => F.args_object_init_3 obj _ _) F.entry_zip_new (meets_new l1 l2 xs ys) ⟨hl1, hl2, ?_⟩
  have a1 : (hA s.heap l1).objs.size = s.heap.objs.size + 1 := Heap.size_push ..
  have a2 : (hB s.heap l1 l2).objs.size = s.heap.objs.size + 2 := by rw [Heap.size_push, a1]
  have a3 : (hC s.heap l1 l2).objs.size = s.heap.objs.size + 3 := by rw [Heap.size_push, a2]
  have a4 : (hD s.heap l1 l2).objs.size = s.heap.objs.size + 4 := by rw [Heap.size_push, a3]
  have up : ∀ {c o}, (hA s.heap l1).get? c = some o → (hZ s.heap l1 l2).get? c = some o := fun q => Heap.get?_push_of_some _ (Heap.get?_push_of_some _ (Heap.get?_push_of_some _ (Heap.get?_push_of_some _ q)))
  have o1 : (hZ s.heap l1 l2).get? s.heap.objs.size = some { cls := .type "tuple_iterator", data := .fields #[.ref l1, .int 0 0] } := up (Heap.get?_push_size _ rfl)
  have o2 : (hZ s.heap l1 l2).get? (hA s.heap l1).objs.size = some { cls := .type "list_iterator", data := .fields #[.ref l2, .int 0 0] } := Heap.get?_push_of_some _ (Heap.get?_push_of_some _ (Heap.get?_push_of_some _ (Heap.get?_push_size _ rfl)))
  have o3 : IsPair (hZ s.heap l1 l2) (hB s.heap l1 l2).objs.size (.ref s.heap.objs.size) (.ref (hA s.heap l1).objs.size) := Heap.get?_push_of_some _ (Heap.get?_push_of_some _ (Heap.get?_push_size _ rfl))
  have o4 : IsPair (hZ s.heap l1 l2) (hC s.heap l1 l2).objs.size .none .none := Heap.get?_push_of_some _ (Heap.get?_push_size _ rfl)
  have o5 : IsZip (hZ s.heap l1 l2) (hD s.heap l1 l2).objs.size (hB s.heap l1 l2).objs.size (hC s.heap l1 l2).objs.size .none := Heap.get?_push_size _ rfl
  show _ ∧ _
  rw [a4, a2, a3] at o5
  rw [a3] at o4
  rw [a2, a1] at o3
  rw [a1] at o2
  rw [a4]
  exact ⟨⟨_, o5, rfl⟩, k _ o5 o3 o4 ⟨_, o1, rfl, rfl⟩ ⟨_, o2, rfl, rfl⟩ fun c o q => up (Heap.get?_push_of_some _ q)⟩
end
/-- a tuple at a and a list at b, as they stand at each turn, the items in new pairs -/
def It1 (K : PySem.W.Frag) (a b : Addr) : It :=
  ⟨fun i H => ∃ (xs ys : List V) (x y : V), SqT K H a xs ∧ SqL K H b ys ∧ xs[i]? = some x ∧ ys[i]? = some y,
    fun i H v H' => ∃ T x y, v = .ref T ∧ H T = none ∧ H' = upd H T (.tup [x, y]) ∧ (∀ xs, SqT K H a xs → xs[i]? = some x) ∧ ∀ ys, SqL K H b ys → ys[i]? = some y,
    fun i H => ∃ xs ys : List V, SqT K H a xs ∧ SqL K H b ys ∧ (xs.length ≤ i ∨ ys.length ≤ i)⟩
theorem turn {P : Program} {w : World} {K : PySem.W.Frag} {elts : List Expr} {kk : Nat} {tpos : Pos} {a b z TI TO i1 i2 : Addr} (D : ZipApart z TI TO i1 i2 a b) :
    Turn P w K (.Tuple elts kk tpos) (It1 K a b) [z, TI, TO, i1, i2] z (fun i h => IsZip h z TI TO .none ∧ IsPair h TI (.ref i1) (.ref i2) ∧ (∃ x y, IsPair h TO x y) ∧ h.IsTupleIter i1 a i ∧ h.IsListIter i2 b i) where
  mem := by simp
  obj := fun i h st c hc => by
    obtain ⟨hz, hTI, ⟨x, y, hTO⟩, ⟨o1, e1, _, d1⟩, ⟨o2, e2, _, d2⟩⟩ := st
    simp only [List.mem_cons, List.not_mem_nil, or_false] at hc
    rcases hc with rfl | rfl | rfl | rfl | rfl
    · exact ⟨_, hz, fun v q => nomatch q⟩
    · exact ⟨_, hTI, fun v q => nomatch q⟩
    · exact ⟨_, hTO, fun v q => nomatch q⟩
    · exact ⟨o1, e1, fun v q => by rw [d1] at q; cases q⟩
    · exact ⟨o2, e2, fun v q => by rw [d2] at q; cases q⟩
  keep := fun i h h' ⟨hz, hTI, ⟨x, y, hTO⟩, h1, h2⟩ k => ⟨k z (by simp) _ hz, k TI (by simp) _ hTI, ⟨x, y, k TO (by simp) _ hTO⟩, h1.at fun o q => k i1 (by simp) o q, h2.at fun o q => k i2 (by simp) o q⟩
  item := by
    intro X hP hw hK hc i pins s σ H E I hf st hg
    subst hP hw hK
    obtain ⟨hz, hTI, ⟨x0, y0, hTO⟩, h1, h2⟩ := st
    obtain ⟨xs, ys, x, y, hqx, hqy, hx, hy⟩ := hg
    obtain ⟨its, rv, p, _⟩ := I.tuple hqx
    obtain ⟨its2, rv2, p2, _⟩ := I.list hqy
    obtain ⟨u, hu, ru⟩ := rv.get hx
    obtain ⟨u2, hu2, ru2⟩ := rv2.get hy
    have hu' : its.toArray[i]? = some u := by simpa using hu
    have hu2' : its2.toArray[i]? = some u2 := by simpa using hu2
    have hzl : z < s.heap.objs.size := Heap.lt_size hz
    refine next1 (I.ok.hd hc) D hz hTI hTO h1 h2 p p2.isList (fun v v2 e1 e2 h' z' to' h1' h2' hT hsz hk => ?_) fun no => by rw [hu', hu2'] at no; rcases no with no | no <;> cases no
    rw [hu'] at e1
    rw [hu2'] at e2
    cases e1
    cases e2
    have out : ∀ {c}, c ∉ [z, TI, TO, i1, i2] → c ≠ z ∧ c ≠ TO ∧ c ≠ i1 ∧ c ≠ i2 := fun {c} hb => by
      simp only [List.mem_cons, List.not_mem_nil, or_false, not_or] at hb
      exact ⟨hb.1, hb.2.2.1, hb.2.2.2.1, hb.2.2.2.2⟩
    refine ⟨_, rfl, wpAny_letOwnedTupleGo_zip (s := { s with heap := h' }) z' fun g zg sb => ?_⟩
    have hT2 : g.get? s.heap.objs.size = some { cls := .type "tuple", data := .seq #[u, u2] } := (sb.2 _ (Nat.ne_of_gt hzl)).trans hT
    have new : ObjOk X.prog X.w (upd H s.heap.objs.size (.tup [x, y])) g s.heap.objs.size (.tup [x, y]) := ⟨by show 2 ≤ sizeLine; decide, [u, u2], .cons ru (.cons ru2 .nil), ⟨_, hT2, rfl, _, rfl⟩⟩
    have I1 : Inv X pins σ (upd H s.heap.objs.size (.tup [x, y])) { s with heap := g } :=
      I.turnedNew (t' := s.toks) (ch := [z, TI, TO, i1, i2]) (fun c o hb q => (sb.2 c (out hb).1).trans (hk c o (out hb).1 (out hb).2.1 (out hb).2.2.1 (out hb).2.2.2 q)) hf (Nat.le_refl _) new
    refine ⟨.ref s.heap.objs.size, _, I1, rfl, ⟨_, x, y, rfl, I.hok.fresh (Nat.le_refl _), rfl, fun l hl => by rw [I.tuple_inj hl hqx]; exact hx, fun l hl => by rw [I.list_inj hl hqy]; exact hy⟩, ⟨zg, ?_, ⟨u, u2, ?_⟩, ?_, ?_⟩, fun c hcm => ?_⟩
    · exact (sb.2 _ D.TIz).trans (hk _ _ D.TIz D.TITO D.TIi1 D.TIi2 hTI)
    · exact (sb.2 _ D.TOz).trans to'
    · exact h1'.at fun o q => (sb.2 _ D.i1z).trans q
    · exact h2'.at fun o q => (sb.2 _ D.i2z).trans q
    · have hlt : c < s.heap.objs.size := by
        simp only [List.mem_cons, List.not_mem_nil, or_false] at hcm
        rcases hcm with rfl | rfl | rfl | rfl | rfl
        · exact hzl
        · exact Heap.lt_size hTI
        · exact Heap.lt_size hTO
        · obtain ⟨_, e1, _⟩ := h1; exact Heap.lt_size e1
        · obtain ⟨_, e1, _⟩ := h2; exact Heap.lt_size e1
      rw [upd_ne (Nat.ne_of_lt hlt)]
      exact (hf c hcm).1
  done := by
    intro X hP hw hK hc i pins s σ H E I hf st hg
    subst hP hw hK
    obtain ⟨hz, hTI, ⟨x0, y0, hTO⟩, h1, h2⟩ := st
    obtain ⟨xs, ys, hqx, hqy, hend⟩ := hg
    obtain ⟨its, rv, p, _⟩ := I.tuple hqx
    obtain ⟨its2, rv2, p2, _⟩ := I.list hqy
    have e1 := rv.length
    have e2 := rv2.length
    refine next1 (I.ok.hd hc) D hz hTI hTO h1 h2 p p2.isList (fun v v2 q1 q2 => ?_) fun _ h' hk => ⟨rfl, I.turnedL (t' := s.toks) (ch := [z, TI, TO, i1, i2]) (fun c o hb q => ?_) hf⟩
    · obtain ⟨b1, _⟩ := Array.getElem?_eq_some_iff.mp q1
      obtain ⟨b2, _⟩ := Array.getElem?_eq_some_iff.mp q2
      rw [List.size_toArray] at b1 b2
      omega
    · simp only [List.mem_cons, List.not_mem_nil, or_false, not_or] at hb
      exact hk c o hb.1 hb.2.2.1 hb.2.2.2.1 hb.2.2.2.2 q
  self := fun A i s Q E st h => wpAny_pyIter_zip st.1 h
/-- two lists, two tuples, or a tuple and a list -/
def iZipM (K : PySem.W.Frag) (ta : TA) : TI := fun σ H R => ta σ H fun vs H1 => ∃ a b xs ys, vs = [.ref a, .ref b] ∧
  ((SqL K H1 a xs ∧ SqL K H1 b ys ∧ R (Itz K a b) H1) ∨ (SqT K H1 a xs ∧ SqT K H1 b ys ∧ R (RZ.ItzT K a b) H1) ∨ (SqT K H1 a xs ∧ SqL K H1 b ys ∧ R (It1 K a b) H1))
theorem pi_zipM {X : Cx} {e e2 : Expr} {ta : TA} {p pos tpos : Pos} {elts : List Expr} {kk : Nat} (hg : Gl X "zip") (hm : X.mg "zip" = none) (ha : PA X [e, e2] ta)
    (hs : starEach [e, e2] X.env = (false, eval e X.env) :: starEach [e2] X.env := by rfl) (hpl : (backTo pos (starEach [e2] X.env)).any (·.1) = false := by rfl) :
    PI X (.Tuple elts kk tpos) (.Call (.Name "zip" p) [e, e2] [] pos) (iZipM X.K ta) := by
  refine ⟨fun pins s σ H R I h => ?_⟩
  refine Call_ (ld_blt I hg hm PyProof.Rows.boot_zip (PyProof.Rows.callWith_type1 (thn (ha.run pos pins s σ H _ I h) fun us s1 ⟨vs, H1, I1, r1, q1⟩ => ?_) hs hpl))
  obtain ⟨a, b, xs, ys, rfl, q1⟩ := q1
  obtain ⟨u, u2, rfl, r, r'⟩ : ∃ u u2, us = [u, u2] ∧ RelV (.ref a) u ∧ RelV (.ref b) u2 := by
    cases r1 with
    | cons r rr => cases rr with
      | cons r' rr => cases rr; exact ⟨_, _, rfl, r, r'⟩
  cases r
  cases r'
  have fresh : ∀ c, c ∈ [s1.heap.objs.size + 4, s1.heap.objs.size + 2, s1.heap.objs.size + 3, s1.heap.objs.size, s1.heap.objs.size + 1] → FpOk X pins H1 c := fun c hc => by
    have hle : s1.heap.objs.size ≤ c := by
      simp only [List.mem_cons, List.not_mem_nil, or_false] at hc
      rcases hc with rfl | rfl | rfl | rfl | rfl
      · exact Nat.le_add_right _ _
      · exact Nat.le_add_right _ _
      · exact Nat.le_add_right _ _
      · exact Nat.le_refl _
      · exact Nat.le_add_right _ _
    exact I1.fpOk hle (I1.hok.fresh hle)
  rcases q1 with ⟨hqx, hqy, q⟩ | ⟨hqx, hqy, q⟩ | ⟨hqx, hqy, q⟩
  · obtain ⟨its, rv, p1, _⟩ := I1.list hqx
    obtain ⟨its2, rv2, p2, _⟩ := I1.list hqy
    exact call_zip_2 p1.isList p2.isList fun h' hz hTI hTO h1 h2 _ hk => wpAny_pyIter_zip hz ⟨_, _, _, _, H1, rfl, I1.kept (t' := s1.toks) hk, turn_zip (PySem.W.ktu_apart s1.heap.objs.size a b p1.lt p2.lt), ⟨hz, hTI, ⟨_, _, hTO⟩, h1, h2⟩, fresh, q⟩
  · obtain ⟨its, rv, p1, _⟩ := I1.tuple hqx
    obtain ⟨its2, rv2, p2, _⟩ := I1.tuple hqy
    obtain ⟨o1, ho1, _⟩ := id p1
    obtain ⟨o2, ho2, _⟩ := id p2
    exact RZ.call_zipT (show s1.heap.IsTuple a its.toArray from p1) (show s1.heap.IsTuple b its2.toArray from p2) fun h' hz hTI hTO h1 h2 _ hk => wpAny_pyIter_zip hz ⟨_, _, _, _, H1, rfl, I1.kept (t' := s1.toks) hk, RZ.turn_zipT (PySem.W.ktu_apart s1.heap.objs.size a b (Heap.lt_size ho1) (Heap.lt_size ho2)), ⟨hz, hTI, ⟨_, _, hTO⟩, h1, h2⟩, fresh, q⟩
  · obtain ⟨its, rv, p1, _⟩ := I1.tuple hqx
    obtain ⟨its2, rv2, p2, _⟩ := I1.list hqy
    obtain ⟨o1, ho1, _⟩ := id p1
    exact call1 (show s1.heap.IsTuple a its.toArray from p1) p2.isList fun h' hz hTI hTO h1 h2 hk => wpAny_pyIter_zip hz ⟨_, _, _, _, H1, rfl, I1.kept (t' := s1.toks) hk, turn (PySem.W.ktu_apart s1.heap.objs.size a b (Heap.lt_size ho1) p2.lt), ⟨hz, hTI, ⟨_, _, hTO⟩, h1, h2⟩, fresh, q⟩
end ZM
namespace DL
open PySem PySem.Spec PyProof.Rows L2

/-! ### what is walked -/
/-- a list, a tuple or a text, whichever comes -/
def iAny (K : PySem.W.Frag) (tl : TE) : TI := fun σ H R => tl σ H fun x H1 =>
  (∃ q, x = .ref q ∧ (∃ xs, SqL K H1 q xs) ∧ R (Itl K q) H1) ∨ (∃ q, x = .ref q ∧ (∃ xs, SqT K H1 q xs) ∧ R (Itt K q) H1) ∨ ∃ z, x = .str z ∧ R (Its z) H1
theorem pi_any {X : Cx} {tg l : Expr} {tl : TE} (hl : PE X l tl) : PI X tg l (iAny X.K tl) := by
  refine ⟨fun pins s σ H R I h => ?_⟩
  refine thn (hl.run pins s σ H _ I h) fun v s1 ⟨x, H1, I1, r1, q1⟩ => ?_
  rcases q1 with ⟨q, rfl, ⟨xs, hq⟩, k⟩ | ⟨q, rfl, ⟨xs, hq⟩, k⟩ | ⟨z, rfl, k⟩
  · obtain rfl : v = .ref q := r1
    obtain ⟨its, _, pl, _⟩ := I1.list hq
    refine wpAny_pyIter_list pl.isList ⟨s1.heap.objs.size, [s1.heap.objs.size], _, _, H1, rfl, I1.kept (t' := s1.toks) fun b o e => Heap.get?_push_of_some _ e, turn_list q _,
      ⟨_, Heap.get?_push_size _ rfl, rfl, rfl⟩, fun b hb => ?_, k⟩
    obtain rfl : b = s1.heap.objs.size := by simpa using hb
    exact I1.fpOk (Nat.le_refl _) (I1.hok.fresh (Nat.le_refl _))
  · obtain rfl : v = .ref q := r1
    obtain ⟨its, _, pl, _⟩ := I1.tuple hq
    refine wpAny_pyIter_tuple (show s1.heap.IsTuple q its.toArray from pl) ⟨s1.heap.objs.size, [s1.heap.objs.size], _, _, H1, rfl, I1.kept (t' := s1.toks) fun b o e => Heap.get?_push_of_some _ e,
      turn_tuple q _, ⟨_, Heap.get?_push_size _ rfl, rfl, rfl⟩, fun b hb => ?_, k⟩
    obtain rfl : b = s1.heap.objs.size := by simpa using hb
    exact I1.fpOk (Nat.le_refl _) (I1.hok.fresh (Nat.le_refl _))
  · obtain ⟨t, rfl⟩ := r1
    cases hz : z.cps.all (· < 128)
    · exact wpAny_pyIter_wide hz (pi_one (tk := s1.toks) I1 _ (turn_str _ z t "str_iterator" (.inr rfl)) ⟨_, Heap.get?_push_size _ rfl, rfl, rfl⟩ k)
    · exact wpAny_pyIter_ascii hz (pi_one (tk := s1.toks) I1 _ (turn_str _ z t "str_ascii_iterator" (.inl rfl)) ⟨_, Heap.get?_push_size _ rfl, rfl, rfl⟩ k)

/-- an iterator J gives the items ds, as long as F stands -/
def Yld (a : An) (F : Hp) (J : It) (ds : List D) : Prop := ∃ (G : Hp → Prop) (Y : Nat → Hp → V → Hp → Prop), Walk J ds.length G Y ∧ (∀ H, Sub F H → G H) ∧
  ∀ (i : Nat) H x H', i < ds.length → Y i H x H' → (H' = H ∧ ∃ d, ds[i]? = some d ∧ Is a F d x) ∨
    ∃ p xs es, x = .ref p ∧ H p = none ∧ H' = upd H p (.tup xs) ∧ IsL a F es xs ∧ ds[i]? = some (.tup es)
def DI (a : An0) (X : Cx) (ρ : Env) (tg it : Expr) (Ψ : List D → Prop) : Prop :=
  ∀ σ H ts vs R, SOk a ρ σ ts vs H → (∀ J H' F Sc Sm ds, Ψ ds → SW a ρ σ ts vs H' F Sc Sm → Yld a.toAn F J ds → R J H') → WI X tg it σ H R
def D.items : D → Option (List D)
  | .lst ds => some ds
  | .tup ds => some ds
  | .scr ns => some (ns.map .int)
  | .str z => some (z.cps.toList.map fun c => .str ⟨#[c]⟩)
  | _ => none
section
variable {a : An0} {X : Cx} {ρ : Env} {σ : L2.St} {ts : List T} {vs : List V} {H F : Hp} {Sc Sm : List Addr} {Φ : T → Prop} {pos p : Pos} {e A B C tg it : Expr} {es : List Expr} {Ψ : List D → Prop} {z : Bool}
theorem yld_at {K : PySem.W.Frag} {J : It} {ds : List D} {xs : List V} {G : Hp → Prop} (w : Walk J xs.length G (YAt xs)) (g : ∀ H, Sub F H → G H) (il : IsL a.toAn F ds xs) : Yld a.toAn F J ds := by
  rw [il.length] at w
  refine ⟨G, YAt xs, w, g, fun i H x H' hi y => .inl ⟨y.1, ?_⟩⟩
  obtain ⟨v, e1, i1⟩ := il.get (List.getElem?_eq_getElem hi)
  exact ⟨_, List.getElem?_eq_getElem hi, by rw [y.2] at e1; cases e1; exact i1⟩
theorem di_any (xo : XOk a X) (io : z = true → NoIo a) (h : DE a X ρ A fun t => t.froz z fun d => ∃ ds, d.items = some ds ∧ Ψ ds) : DI a X ρ tg A Ψ := fun σ H ts vs R ok k => by
  refine ⟨_, pi_any pe_W, ?_⟩
  show WE X A σ H fun x H1 => _
  refine h σ H ts vs _ ok fun x t H1 h1 ok1 => ?_
  obtain ⟨F, Sc, Sm, w⟩ := ok1
  obtain ⟨F', Sm', s, w', i1, ds, e, q⟩ := w.froz1 io h1
  rw [xo.K]
  generalize t.dat = d at i1 e
  match d, e with
  | .lst ds', e =>
    cases e
    obtain ⟨p, us, rfl, hp, il⟩ := i1.lstE
    have hq : ∀ H, Sub F' H → SqL a.K H p us := fun H s => .inl (.inl (s _ _ hp))
    exact .inl ⟨p, rfl, ⟨us, hq _ w'.sub⟩, k _ H1 F' Sc Sm' ds q w' (yld_at (K := a.K) walk_list hq il)⟩
  | .tup ds', e =>
    cases e
    obtain ⟨p, us, rfl, hp, il⟩ := i1.tupE
    have hq : ∀ H, Sub F' H → SqT a.K H p us := fun H s => sub_t s hp
    exact .inr (.inl ⟨p, rfl, ⟨us, hq _ w'.sub⟩, k _ H1 F' Sc Sm' ds q w' (yld_at (K := a.K) walk_tup hq il)⟩)
  | .scr ns, e =>
    cases e
    simp only [Is] at i1
    obtain ⟨p, rfl, hp⟩ := i1
    have hq : ∀ H, Sub F' H → SqL a.K H p (ns.map V.int) := fun H s => sub_l s hp
    exact .inl ⟨p, rfl, ⟨_, hq _ w'.sub⟩, k _ H1 F' Sc Sm' _ q w' (yld_at (K := a.K) walk_list hq (IsL.ints.mpr rfl))⟩
  | .str y, e =>
    cases e
    rw [i1.str]
    refine .inr (.inr ⟨y, rfl, k _ H1 F' Sc Sm' _ q w' ⟨fun _ => True, fun i H v H' => H' = H ∧ ∃ c, y.cps[i]? = some c ∧ v = .str ⟨#[c]⟩, by rw [List.length_map, Array.length_toList]; exact walk_str, fun _ _ => trivial, fun i H x H' hi hy => .inl ⟨hy.1, ?_⟩⟩⟩)
    obtain ⟨c, e1, rfl⟩ := hy.2
    refine ⟨.str ⟨#[c]⟩, ?_, by simp only [Is]⟩
    rw [List.getElem?_map, Array.getElem?_toList, e1]
    rfl
theorem yld_fn {J : It} {n : Nat} {f : Nat → Int} (w : Walk J n (fun _ => True) (YFn fun i => .int (f i))) : Yld a.toAn F J ((List.range n).map fun i => .int (f i)) := by
  refine ⟨fun _ => True, YFn fun i => .int (f i), by rw [List.length_map, List.length_range]; exact w, fun _ _ => trivial, fun i H x H' hi y => .inl ⟨y.1, .int (f i), ?_, by rw [y.2]; simp only [Is]⟩⟩
  rw [List.length_map, List.length_range] at hi
  rw [List.getElem?_map, List.getElem?_range hi]
  rfl
theorem di_rng1 (hg : Gl X "range") (hm : X.mg "range" = none) (hs : notStar A = true) (h : DV a X ρ [A] fun us => ∃ j, T.dats us = [.int j] ∧ (-(2 ^ 62) ≤ j ∧ j < 2 ^ 62) ∧ Ψ ((List.range j.toNat).map fun (i : Nat) => .int i)) : DI a X ρ tg (.Call (.Name "range" p) [A] [] pos) Ψ := fun σ H ts vs R ok k => by
  refine ⟨_, pi_range1 hg hm pa_W (star_of hs), ?_⟩
  show WA X [A] σ H fun vs H1 => ∃ j : Int, vs = [.int j] ∧ -(2 ^ 62) ≤ j ∧ j < 2 ^ 62 ∧ R (Itr 0 j.toNat) H1
  refine h σ H ts vs _ ok fun ws us H1 ⟨j, e, hj, q⟩ l ok1 => ?_
  obtain ⟨il, ok2⟩ := ok1.args l
  rw [e] at il
  obtain ⟨v, rfl, i1⟩ := one il
  rw [i1.int]
  obtain ⟨F, Sc, Sm, w⟩ := ok2
  refine ⟨j, rfl, hj.1, hj.2, k _ H1 F Sc Sm _ q w ?_⟩
  have := yld_fn (a := a) (F := F) (n := j.toNat) (J := Itr 0 j.toNat) (f := fun i => 0 + (i : Int)) walk_range
  simpa using this
theorem di_rng2 (hg : Gl X "range") (hm : X.mg "range" = none) (hs : notStar A = true) (hs2 : notStar B = true) (h : DV a X ρ [A, B] fun us => ∃ i j, T.dats us = [.int i, .int j] ∧ (-(2 ^ 62) ≤ i ∧ i < 2 ^ 62 ∧ -(2 ^ 62) ≤ j ∧ j < 2 ^ 62) ∧ Ψ ((List.range (j - i).toNat).map fun (k : Nat) => .int (i + k))) : DI a X ρ tg (.Call (.Name "range" p) [A, B] [] pos) Ψ := fun σ H ts vs R ok k => by
  refine ⟨_, pi_range2 hg hm pa_W (by rw [star_of hs, star_of hs2]; rfl) (star_of hs2), ?_⟩
  show WA X [A, B] σ H fun vs H1 => ∃ i j : Int, vs = [.int i, .int j] ∧ (-(2 ^ 62) ≤ i ∧ i < 2 ^ 62 ∧ -(2 ^ 62) ≤ j ∧ j < 2 ^ 62) ∧ R (Itr i (j - i).toNat) H1
  refine h σ H ts vs _ ok fun ws us H1 ⟨i, j, e, hj, q⟩ l ok1 => ?_
  obtain ⟨il, ok2⟩ := ok1.args l
  rw [e] at il
  obtain ⟨v, v', rfl, i1, i2⟩ := two il
  rw [i1.int, i2.int]
  obtain ⟨F, Sc, Sm, w⟩ := ok2
  exact ⟨i, j, rfl, hj, k _ H1 F Sc Sm _ q w (yld_fn (f := fun m => i + (m : Int)) walk_range)⟩
theorem di_rng3 (hg : Gl X "range") (hm : X.mg "range" = none) (hs : notStar A = true) (hs2 : notStar B = true) (hs3 : notStar C = true) (h : DV a X ρ [A, B, C] fun us => ∃ i j c n, T.dats us = [.int i, .int j, .int c] ∧ RgC i j c n ∧ Ψ ((List.range n).map fun (k : Nat) => .int (i + k * c))) : DI a X ρ tg (.Call (.Name "range" p) [A, B, C] [] pos) Ψ := fun σ H ts vs R ok k => by
  refine ⟨_, pi_range3 hg hm pa_W (star_of hs) (back_of (by simp [hs2, hs3])), ?_⟩
  show WA X [A, B, C] σ H fun vs H1 => ∃ (i j c : Int) (n : Nat), vs = [.int i, .int j, .int c] ∧ RgC i j c n ∧ R (Itc i c n) H1
  refine h σ H ts vs _ ok fun ws us H1 ⟨i, j, c, n, e, hj, q⟩ l ok1 => ?_
  obtain ⟨il, ok2⟩ := ok1.args l
  rw [e] at il
  simp only [IsL, Is] at il
  obtain ⟨_, _, rfl, rfl, _, _, rfl, rfl, _, _, rfl, rfl, rfl⟩ := il
  obtain ⟨F, Sc, Sm, w⟩ := ok2
  exact ⟨i, j, c, n, rfl, hj, k _ H1 F Sc Sm _ q w (yld_fn (f := fun m => i + (m : Int) * c) walk_rangeC)⟩
def zipD : List D → List D → List D
  | x :: xs, y :: ys => .tup [x, y] :: zipD xs ys
  | _, _ => []
theorem zipD_length : ∀ xs ys : List D, (zipD xs ys).length = min xs.length ys.length
  | [], _ => by simp [zipD]
  | _ :: _, [] => by simp [zipD]
  | x :: xs, y :: ys => by simp only [zipD, List.length_cons, zipD_length xs ys]; omega
theorem zipD_get : ∀ (xs ys : List D) (i : Nat), i < min xs.length ys.length → ∃ x y, xs[i]? = some x ∧ ys[i]? = some y ∧ (zipD xs ys)[i]? = some (.tup [x, y])
  | [], _, i, h => by simp at h
  | _ :: _, [], i, h => by simp at h
  | x :: xs, y :: ys, 0, _ => ⟨x, y, rfl, rfl, rfl⟩
  | x :: xs, y :: ys, i + 1, h => by
    obtain ⟨u, v, e1, e2, e3⟩ := zipD_get xs ys i (by simp only [List.length_cons] at h; omega)
    exact ⟨u, v, by simpa using e1, by simpa using e2, by simpa [zipD] using e3⟩
theorem yld_zip {J : It} {xs ys : List V} {ds es : List D} {G : Hp → Prop} {n : Nat} (hn : n = min xs.length ys.length) (w : Walk J n G (YPair (fun i => xs[i]?) (fun i => ys[i]?))) (g : ∀ H, Sub F H → G H) (i1 : IsL a.toAn F ds xs) (i2 : IsL a.toAn F es ys) : Yld a.toAn F J (zipD ds es) := by
  have hl : (zipD ds es).length = n := by rw [zipD_length, hn, i1.length, i2.length]
  refine ⟨G, _, by rw [hl]; exact w, g, fun i H x H' hi y => .inr ?_⟩
  rw [zipD_length] at hi
  obtain ⟨q, u, v, rfl, hq, rfl, e1, e2⟩ := y
  obtain ⟨d, e, g1, g2, g3⟩ := zipD_get ds es i hi
  obtain ⟨u', f1, j1⟩ := i1.get g1
  obtain ⟨v', f2, j2⟩ := i2.get g2
  have e1 : xs[i]? = some u := e1
  have e2 : ys[i]? = some v := e2
  rw [e1] at f1
  rw [e2] at f2
  cases f1
  cases f2
  exact ⟨q, [u, v], [d, e], rfl, hq, rfl, by simp only [IsL]; exact ⟨u, [v], rfl, j1, v, [], rfl, j2, rfl⟩, g3⟩
theorem walk_zipT {K : PySem.W.Frag} {q b : Addr} {xs ys : List V} {n : Nat} (hn : n = min xs.length ys.length) : Walk (RZ.ItzT K q b) n (fun H => SqT K H q xs ∧ SqT K H b ys) (YPair (fun i => xs[i]?) (fun i => ys[i]?)) := by
  subst hn
  refine ⟨fun i _ hi g => ?_, fun _ g => ⟨xs, ys, g.1, g.2, by omega⟩, fun i H v H' _ g y => ?_⟩
  · have h1 : i < xs.length := by omega
    have h2 : i < ys.length := by omega
    exact ⟨xs, ys, xs[i], ys[i], g.1, g.2, by simp [h1], by simp [h2]⟩
  · obtain ⟨t, x, u, h1, h2, h3, h4, h5⟩ := y
    exact ⟨t, x, u, h1, h2, h3, h4 xs g.1, h5 ys g.2⟩
theorem walk_zipM {K : PySem.W.Frag} {q b : Addr} {xs ys : List V} {n : Nat} (hn : n = min xs.length ys.length) : Walk (ZM.It1 K q b) n (fun H => SqT K H q xs ∧ SqL K H b ys) (YPair (fun i => xs[i]?) (fun i => ys[i]?)) := by
  subst hn
  refine ⟨fun i _ hi g => ?_, fun _ g => ⟨xs, ys, g.1, g.2, by omega⟩, fun i H v H' _ g y => ?_⟩
  · have h1 : i < xs.length := by omega
    have h2 : i < ys.length := by omega
    exact ⟨xs, ys, xs[i], ys[i], g.1, g.2, by simp [h1], by simp [h2]⟩
  · obtain ⟨t, x, u, h1, h2, h3, h4, h5⟩ := y
    exact ⟨t, x, u, h1, h2, h3, h4 xs g.1, h5 ys g.2⟩
def isTup : Expr → Bool
  | .Tuple _ _ _ => true
  | _ => false
/-- two lists, or two tuples -/
def zipW : List D → (List D → Prop) → Prop
  | [.lst xs, .lst ys], Ψ => Ψ (zipD xs ys)
  | [.tup xs, .tup ys], Ψ => Ψ (zipD xs ys)
  | [.tup xs, .lst ys], Ψ => Ψ (zipD xs ys)
  | _, _ => False
theorem di_zip (xo : XOk a X) (io : z = true → NoIo a) (hg : Gl X "zip") (hm : X.mg "zip" = none) (ht : isTup tg = true) (hs : notStar A = true) (hs2 : notStar B = true) (h : DV a X ρ [A, B] fun us => frozs z us fun ds => zipW ds Ψ) :
    DI a X ρ tg (.Call (.Name "zip" p) [A, B] [] pos) Ψ := fun σ H ts vs R ok k => by
  match tg, ht with
  | .Tuple elts kk tpos, _ =>
  refine ⟨_, ZM.pi_zipM hg hm pa_W (star_of hs) (back_of (by simp [hs2])), ?_⟩
  show WA X [A, B] σ H fun vs H1 => _
  refine h σ H ts vs _ ok fun ws us H1 q l ok1 => ?_
  obtain ⟨F0, Sc, Sm, w⟩ := ok1
  obtain ⟨F, Sm1, ds, s1, w1, il, q⟩ := w.frozs io l q
  rw [xo.K]
  match ds, q with
  | [.lst xs, .lst ys], q =>
    obtain ⟨v, v', rfl, j1, j2⟩ := two il
    obtain ⟨p1, us1, rfl, hp1, il1⟩ := j1.lstE
    obtain ⟨p2, us2, rfl, hp2, il2⟩ := j2.lstE
    have hq1 : ∀ H, Sub F H → SqL a.K H p1 us1 := fun H s => .inl (.inl (s _ _ hp1))
    have hq2 : ∀ H, Sub F H → SqL a.K H p2 us2 := fun H s => .inl (.inl (s _ _ hp2))
    exact ⟨p1, p2, us1, us2, rfl, .inl ⟨hq1 _ w1.sub, hq2 _ w1.sub, k _ H1 F Sc Sm1 _ q w1 (yld_zip rfl (walk_zip rfl) (fun H s => ⟨hq1 H s, hq2 H s⟩) il1 il2)⟩⟩
  | [.tup xs, .tup ys], q =>
    obtain ⟨v, v', rfl, j1, j2⟩ := two il
    obtain ⟨p1, us1, rfl, hp1, il1⟩ := j1.tupE
    obtain ⟨p2, us2, rfl, hp2, il2⟩ := j2.tupE
    have hq1 : ∀ H, Sub F H → SqT a.K H p1 us1 := fun H s => sub_t s hp1
    have hq2 : ∀ H, Sub F H → SqT a.K H p2 us2 := fun H s => sub_t s hp2
    exact ⟨p1, p2, us1, us2, rfl, .inr (.inl ⟨hq1 _ w1.sub, hq2 _ w1.sub, k _ H1 F Sc Sm1 _ q w1 (yld_zip rfl (walk_zipT rfl) (fun H s => ⟨hq1 H s, hq2 H s⟩) il1 il2)⟩)⟩
  | [.tup xs, .lst ys], q =>
    obtain ⟨v, v', rfl, j1, j2⟩ := two il
    obtain ⟨p1, us1, rfl, hp1, il1⟩ := j1.tupE
    obtain ⟨p2, us2, rfl, hp2, il2⟩ := j2.lstE
    have hq1 : ∀ H, Sub F H → SqT a.K H p1 us1 := fun H s => sub_t s hp1
    have hq2 : ∀ H, Sub F H → SqL a.K H p2 us2 := fun H s => .inl (.inl (s _ _ hp2))
    exact ⟨p1, p2, us1, us2, rfl, .inr (.inr ⟨hq1 _ w1.sub, hq2 _ w1.sub, k _ H1 F Sc Sm1 _ q w1 (yld_zip rfl (walk_zipM rfl) (fun H s => ⟨hq1 H s, hq2 H s⟩) il1 il2)⟩)⟩
def enumFrom (i : Nat) : List D → List D
  | [] => []
  | d :: r => .tup [.int i, d] :: enumFrom (i + 1) r
theorem enumFrom_length : ∀ (ds : List D) (i : Nat), (enumFrom i ds).length = ds.length
  | [], _ => rfl
  | d :: r, i => by simp [enumFrom, enumFrom_length r]
theorem enumFrom_get : ∀ (ds : List D) (k i : Nat) (d : D), ds[i]? = some d → (enumFrom k ds)[i]? = some (.tup [.int ((k + i : Nat) : Int), d])
  | [], _, _, _, h => by simp at h
  | e :: r, k, 0, d, h => by simp at h; subst h; simp [enumFrom]
  | e :: r, k, i + 1, d, h => by
    simp only [List.getElem?_cons_succ] at h
    rw [enumFrom, List.getElem?_cons_succ, enumFrom_get r (k + 1) i d h]
    congr 5
    omega
theorem di_enum (xo : XOk a X) (io : z = true → NoIo a) (hg : Gl X "enumerate") (hm : X.mg "enumerate" = none) (ht : isTup tg = true) (hs : notStar A = true) (h : DV a X ρ [A] fun us => frozs z us fun ds => ∃ xs, ds = [.lst xs] ∧ Ψ (enumFrom 0 xs)) :
    DI a X ρ tg (.Call (.Name "enumerate" p) [A] [] pos) Ψ := fun σ H ts vs R ok k => by
  match tg, ht with
  | .Tuple elts kk tpos, _ =>
  refine ⟨_, pi_enum hg hm pa_W (star_of hs), ?_⟩
  show WA X [A] σ H fun vs H1 => _
  refine h σ H ts vs _ ok fun ws us H1 q l ok1 => ?_
  obtain ⟨F0, Sc, Sm, w⟩ := ok1
  obtain ⟨F, Sm1, ds, s1, w1, il, xs, rfl, q⟩ := w.frozs io l q
  rw [xo.K]
  obtain ⟨v, rfl, j1⟩ := one il
  obtain ⟨p1, us1, rfl, hp1, il1⟩ := j1.lstE
  have hq1 : ∀ H, Sub F H → SqL a.K H p1 us1 := fun H s => .inl (.inl (s _ _ hp1))
  refine ⟨p1, us1, rfl, hq1 _ w1.sub, k _ H1 F Sc Sm1 _ q w1 ⟨_, _, by rw [enumFrom_length, ← il1.length]; exact walk_enum, hq1, fun i H x H' hi y => .inr ?_⟩⟩
  obtain ⟨r, u, v, rfl, hr, rfl, e1, e2⟩ := y
  cases e1
  rw [enumFrom_length] at hi
  obtain ⟨v', f1, i1⟩ := il1.get (List.getElem?_eq_getElem hi)
  have e2 : us1[i]? = some v := e2
  rw [e2] at f1
  cases f1
  refine ⟨r, _, [.int ((0 + i : Nat) : Int), xs[i]], rfl, hr, rfl, ?_, enumFrom_get xs 0 i _ (List.getElem?_eq_getElem hi)⟩
  simp only [IsL, Is]
  exact ⟨_, _, rfl, by rw [Nat.zero_add], _, _, rfl, i1, rfl⟩
/-- range(j), range(i, j), range(i, j, c) -/
def rngW : List D → (List D → Prop) → Prop
  | [.int j], Ψ => (-(2 ^ 62) ≤ j ∧ j < 2 ^ 62) ∧ Ψ ((List.range j.toNat).map fun (i : Nat) => .int i)
  | [.int i, .int j], Ψ => (-(2 ^ 62) ≤ i ∧ i < 2 ^ 62 ∧ -(2 ^ 62) ≤ j ∧ j < 2 ^ 62) ∧ Ψ ((List.range (j - i).toNat).map fun (k : Nat) => .int (i + k))
  | [.int i, .int j, .int c], Ψ => ∃ n, RgC i j c n ∧ Ψ ((List.range n).map fun (k : Nat) => .int (i + k * c))
  | _, _ => False
end
end DL
namespace DL
open PySem PySem.Spec PyProof.Rows L2
section
variable {a : An0} {X : Cx} {ρ : Env} {σ : L2.St} {ts : List T} {vs : List V} {H F : Hp} {Sc Sm : List Addr} {Φ : T → Prop} {pos p : Pos} {e A B C tg it elt : Expr} {es : List Expr} {Ψ : List D → Prop} {z : Bool}

/-- one place that is held alone is written -/
theorem SW.upd {D : Addr} {o : HO} {ρ' : Env} {σ' : L2.St} {ts' : List T} {vs' : List V} {Sc' Sm' : List Addr} (w : SW a ρ σ ts vs H F Sc Sm) (hD : D ∈ Sc ++ Sm) (hw : ∀ G ∈ a.W, hb a.toAn G D = none)
    (cells : OwC a.toAn F (upd H D o) ρ' σ' Sc') (tm : OwL a.toAn F (upd H D o) ts' vs' Sm') (nd : (Sc' ++ Sm').Nodup) (k : ∀ p ∈ Sc' ++ Sm', p ∈ Sc ++ Sm) (len : ρ'.length = σ'.length) :
    SW a ρ' σ' ts' vs' (upd H D o) F Sc' Sm' := by
  obtain ⟨f1, f2, f3⟩ := w.fr D hD
  refine ⟨fun p u q => ?_, ⟨w.gw.ff, fun p u hp e => ?_, w.gw.nn, fun p h => ?_⟩, w.bagM, fun b hb => ?_, cells, tm, nd, fun p hp => w.fr p (k p hp), len, fun G hG p u e => ?_, w.wif⟩
  · rw [upd_ne (fun z => by rw [z, f1] at q; cases q)]
    exact w.sub p u q
  · rw [upd_ne (fun z => ?_)]
    · exact w.gw.hh p u hp e
    · subst z
      rcases f3 with y | y
      · exact hp y
      · rw [y] at e; cases e
  · unfold L2.upd
    split
    · simp
    · exact w.gw.th p h
  · obtain ⟨b1, x, y, z, c, ns, b2, b3⟩ := w.bag b hb
    refine ⟨b1, x, y, z, c, ns, ?_, b3⟩
    rw [upd_ne (fun z => f2 (by rw [← z]; exact hb))]
    exact b2
  · have h1 := w.wit G hG p u e
    have ne : p ≠ D := fun z => by rw [z, hw G hG] at e; cases e
    unfold DL.hb at h1 ⊢
    split
    · rename_i y; rw [if_pos y] at h1; cases h1
    · rename_i y; rw [if_neg y] at h1; rw [upd_ne ne]; exact h1
/-- temporaries stay as they are where another place is written; what is only read was so ahead of it -/
theorem OwL.mix {a : An} {F F1 H1 H H' : Hp} (eb : Sub (hb a H1) (hb a H')) : ∀ {ts : List T} {vs : List V} {S1 S : List Addr}, OwL a F1 H1 ts vs S1 → OwL a F H ts vs S → (∀ p ∈ S, ∀ o, H p = some o → H' p = some o) → OwL a F H' ts vs S
  | [], _, _, _, _, h, _ => by simpa only [OwL] using h
  | t :: ts, vs, S1, S, h1, h, k => by
    simp only [OwL] at h1 h ⊢
    obtain ⟨v1, r1, Sa, Sb, e1, ha, hb', rfl⟩ := h1
    obtain ⟨v, r, Sc, Sd, e, hc, hd, rfl⟩ := h
    obtain ⟨rfl, rfl⟩ : v1 = v ∧ r1 = r := by
      rw [e] at e1
      cases e1
      exact ⟨rfl, rfl⟩
    refine ⟨_, _, Sc, Sd, e, ?_, OwL.mix eb hb' hd (fun p hp => k p (List.mem_append_right _ hp)), rfl⟩
    cases hn : t.nvw with
    | true => exact hc.mono' (Sub.refl F) (hc.nv hn) fun p hp => k p (List.mem_append_left _ hp)
    | false =>
      cases t with
      | vw d =>
        simp only [Ow] at ha hc ⊢
        exact ⟨hc.1, ha.2.mono eb⟩
      | leaf d => simp [T.nvw] at hn
      | lst us => simp [T.nvw] at hn
      | tup us => simp [T.nvw] at hn
/-- an item is appended to a list that is being made -/
theorem SW.more {t : T} {acc : List T} {y : V} {D : Addr} {F1 H1 : Hp} {S1 : List Addr} (w : SW a ρ σ (t :: .lst acc :: ts) (y :: .ref D :: vs) H F Sc Sm) (n : t.nvw = true) (hw : ∀ G ∈ a.W, hb a.toAn G D = none)
    (hW : H1 ∈ a.W) (o1 : OwL a.toAn F1 H1 ts vs S1) : ∃ ws, H D = some (.lst ws) ∧ ws.length = acc.length ∧ ∃ Sm', SW a ρ σ (.lst (acc ++ [t]) :: ts) (.ref D :: vs) (L2.upd H D (.lst (ws ++ [y]))) F Sc Sm' := by
  obtain ⟨v', r, St, S2, e, ht, h2, e2⟩ := (show ∃ v' r S1 S2, y :: V.ref D :: vs = v' :: r ∧ Ow a.toAn F H t v' S1 ∧ OwL a.toAn F H (.lst acc :: ts) r S2 ∧ Sm = S1 ++ S2 by
    have := w.tmps; simpa only [OwL] using this)
  cases e
  obtain ⟨v', r, Sl, Sr, e, hl, hr, e3⟩ := (show ∃ v' r S1 S3, V.ref D :: vs = v' :: r ∧ Ow a.toAn F H (.lst acc) v' S1 ∧ OwL a.toAn F H ts r S3 ∧ S2 = S1 ++ S3 by
    simpa only [OwL] using h2)
  cases e
  subst e3
  subst e2
  simp only [Ow] at hl
  obtain ⟨nn, q, ws, Sa, eq, hq, ha, rfl⟩ := hl
  cases eq
  obtain ⟨n1, n2, n3⟩ := List.nodup_append.mp w.nd
  obtain ⟨m1, m2, m3⟩ := List.nodup_append.mp n2
  obtain ⟨l1, l2, l3⟩ := List.nodup_append.mp m2
  obtain ⟨k1, k2⟩ := List.nodup_cons.mp l1
  -- D stands apart from all the rest
  have dSc : D ∉ Sc := fun z => n3 D z D (List.mem_append_right _ (List.mem_append_left _ List.mem_cons_self)) rfl
  have dSt : D ∉ St := fun z => m3 D z D (List.mem_append_left _ List.mem_cons_self) rfl
  have dSr : D ∉ Sr := fun z => l3 D List.mem_cons_self D z rfl
  have keep : ∀ {S : List Addr}, D ∉ S → ∀ p ∈ S, ∀ o, H p = some o → L2.upd H D (.lst (ws ++ [y])) p = some o := fun {S} h p hp o e => by
    rw [upd_ne (fun z => h (by rw [← z]; exact hp))]
    exact e
  have mem : D ∈ Sc ++ (St ++ (D :: Sa ++ Sr)) := List.mem_append_right _ (List.mem_append_right _ (List.mem_append_left _ List.mem_cons_self))
  have wit : Sub (hb a.toAn H1) (hb a.toAn (L2.upd H D (.lst (ws ++ [y])))) := fun p u e => by
    have h1 := w.wit H1 hW p u e
    have ne : p ≠ D := fun z => by rw [z, hw H1 hW] at e; cases e
    unfold DL.hb at h1 ⊢
    split
    · rename_i z; rw [if_pos z] at h1; cases h1
    · rename_i z; rw [if_neg z] at h1; rw [upd_ne ne]; exact h1
  refine ⟨ws, hq, ha.length, D :: (Sa ++ St) ++ Sr, w.upd mem hw (w.cells.mono' (Sub.refl F) (keep dSc)) ?_ ?_ (fun p hp => ?_) w.len⟩
  · simp only [OwL, Ow]
    refine ⟨.ref D, vs, D :: (Sa ++ St), Sr, rfl, ⟨?_, D, ws ++ [y], Sa ++ St, rfl, upd_same, ?_, rfl⟩, OwL.mix wit o1 hr (keep dSr), rfl⟩
    · refine (ha.nvs (nvw_of nn) : T.nvs acc = true) |> fun z => ?_
      have : ∀ (us : List T), T.nvs us = true → T.nvs (us ++ [t]) = true := fun us => by
        induction us with
        | nil => intro _; simp [T.nvs, ht.nv n]
        | cons u us ih => intro h; simp only [T.nvs, Bool.and_eq_true, List.cons_append] at h ⊢; exact ⟨h.1, ih h.2⟩
      exact this acc z
    · refine OwL.join (ha.mono' (Sub.refl F) nn (keep k1)) ?_
      simp only [OwL]
      exact ⟨y, [], St, [], rfl, ht.mono' (Sub.refl F) (ht.nv n) (keep dSt), ⟨rfl, rfl⟩, by simp⟩
  · refine List.nodup_append.mpr ⟨n1, List.nodup_append.mpr ⟨?_, l2, fun p hp q hz => ?_⟩, fun p hp q hz => n3 p hp q ?_⟩
    · refine List.nodup_cons.mpr ⟨fun z => (List.mem_append.mp z).elim k1 dSt, List.nodup_append.mpr ⟨k2, m1, fun p hp q hq e => m3 q hq p (List.mem_append_left _ (List.mem_cons_of_mem _ hp)) e.symm⟩⟩
    · rcases List.mem_cons.mp hp with rfl | hp
      · exact fun z => dSr (z ▸ hz)
      · rcases List.mem_append.mp hp with z | z
        · exact l3 p (List.mem_cons_of_mem _ z) q hz
        · exact m3 p z q (List.mem_append_right _ hz)
    · rcases List.mem_append.mp hz with z | z
      · rcases List.mem_cons.mp z with rfl | z
        · exact List.mem_append_right _ (List.mem_append_left _ List.mem_cons_self)
        · rcases List.mem_append.mp z with y | y
          · exact List.mem_append_right _ (List.mem_append_left _ (List.mem_cons_of_mem _ y))
          · exact List.mem_append_left _ y
      · exact List.mem_append_right _ (List.mem_append_right _ z)
  · rcases List.mem_append.mp hp with z | z
    · exact List.mem_append_left _ z
    · refine List.mem_append_right _ ?_
      rcases List.mem_append.mp z with z | z
      · rcases List.mem_cons.mp z with rfl | z
        · exact List.mem_append_right _ (List.mem_append_left _ List.mem_cons_self)
        · rcases List.mem_append.mp z with y | y
          · exact List.mem_append_right _ (List.mem_append_left _ (List.mem_cons_of_mem _ y))
          · exact List.mem_append_left _ y
      · exact List.mem_append_right _ (List.mem_append_right _ z)
end
end DL
namespace DL
open PySem PySem.Spec PyProof.Rows L2

/-- a comprehension over plain items: the target, the test, the element -/
def lcW (g : Tg) (wc : Env → (Bool → Prop) → Prop) (we : Env → (T → Prop) → Prop) (ρ : Env) : List D → List T → (List T → Prop) → Prop
  | [], acc, Φ => Φ acc
  | d :: r, acc, Φ => ∃ ρ', bindG g (.leaf d) ρ = some ρ' ∧ wc ρ' fun b => if b = true then we ρ' fun t => t.fin fun u => lcW g wc we ρ r (acc ++ [u]) Φ else lcW g wc we ρ r acc Φ
section
variable {a : An0} {X : Cx} {ρ : Env} {σ : L2.St} {ts : List T} {vs : List V} {H F : Hp} {Sc Sm : List Addr} {Φ : T → Prop} {pos p : Pos} {e A B C tg it elt : Expr} {es : List Expr} {Ψ : List D → Prop} {z : Bool}

theorem wipe_sub (σ : L2.St) (own : List Nat) : ∀ r : List Nat, (∀ v ∈ r, v ∈ own) → L2.wipe (L2.wipe σ r) own = L2.wipe σ own
  | [], _ => rfl
  | v :: r, h => by
    show L2.wipe ((L2.wipe σ r).set v none) own = _
    rw [wipe_set (h v List.mem_cons_self), wipe_sub σ own r fun u hu => h u (List.mem_cons_of_mem _ hu)]
theorem Env.wipes_put {i : Nat} {x : Option T} {own : List Nat} (h : i ∈ own) : (ρ.put i x).wipes own = ρ.wipes own := by
  have low : ∀ (ρ : Env) (i : Nat) (x : Option T) (own : List Nat), i ∉ own → (ρ.put i x).wipes own = (ρ.wipes own).put i x := fun ρ i x own => by
    induction own with
    | nil => intro _; rfl
    | cons v r ih =>
      intro h
      simp only [Env.wipes]
      rw [ih fun z => h (List.mem_cons_of_mem _ z)]
      have comm : ∀ (ρ : Env) (i j : Nat) (x y : Option T), i ≠ j → (ρ.put i x).put j y = (ρ.put j y).put i x := fun ρ => by
        induction ρ with
        | nil => intro i j x y _; rfl
        | cons u r ih => intro i j x y h; cases i <;> cases j <;> simp [Env.put] at h ⊢; exact ih _ _ x y h
      exact comm _ _ _ _ _ fun z => h (by rw [z]; exact List.mem_cons_self)
  have twice : ∀ (ρ : Env) (i : Nat) (x : Option T), (ρ.put i x).put i none = ρ.put i none := fun ρ => by
    induction ρ with
    | nil => intro i x; rfl
    | cons u r ih => intro i x; cases i <;> simp [Env.put, ih]
  induction own with
  | nil => cases h
  | cons v r ih =>
    simp only [Env.wipes]
    by_cases hr : i ∈ r
    · rw [ih hr]
    · rcases List.mem_cons.mp h with rfl | h
      · rw [low _ _ _ _ hr, twice]
      · exact absurd h hr
mutual
theorem bindG_wipes : ∀ {g : Tg} {t : T} {ρ ρ' : Env} {own : List Nat}, bindG g t ρ = some ρ' → (∀ i ∈ g.slots, i ∈ own) → ρ'.wipes own = ρ.wipes own
  | .nm i, t, ρ, ρ', own, h, k => by
    simp only [bindG] at h
    split at h
    · cases h; exact Env.wipes_put (k i (by simp [Tg.slots]))
    · cases h
  | .nil, t, ρ, ρ', own, h, k => by
    simp only [bindG] at h
    split at h
    · rename_i us _
      cases us with
      | nil => simp only [bindL, Option.some.injEq] at h; rw [h]
      | cons u us => simp [bindL] at h
    · cases h
  | .cons a b, t, ρ, ρ', own, h, k => by
    simp only [bindG] at h
    split at h
    · obtain ⟨ρ1, h1, h2⟩ := Option.bind_eq_some_iff.mp h
      rw [bindL_wipes h2 fun i hi => k i (by simp [Tg.slots, hi]), bindG_wipes h1 fun i hi => k i (by simp [Tg.slots, hi])]
    · cases h
theorem bindL_wipes : ∀ {g : Tg} {us : List T} {ρ ρ' : Env} {own : List Nat}, bindL g us ρ = some ρ' → (∀ i ∈ g.slots, i ∈ own) → ρ'.wipes own = ρ.wipes own
  | .nil, [], ρ, ρ', own, h, k => by simp only [bindL, Option.some.injEq] at h; rw [h]
  | .cons a b, u :: us, ρ, ρ', own, h, k => by
    simp only [bindL] at h
    obtain ⟨ρ1, h1, h2⟩ := Option.bind_eq_some_iff.mp h
    rw [bindL_wipes h2 fun i hi => k i (by simp [Tg.slots, hi]), bindG_wipes h1 fun i hi => k i (by simp [Tg.slots, hi])]
  | .nil, _ :: _, _, _, _, h, _ => by simp [bindL] at h
  | .cons _ _, [], _, _, _, h, _ => by simp [bindL] at h
  | .nm _, _, _, _, _, h, _ => by simp [bindL] at h
end
/-- the block of a comprehension, by its own context -/
abbrev Blk (X : Cx) (scope : Scope) (s : Shared) (H : Hp) (C : Addr) (cl : List (Str × Addr)) (fp : List Addr) : Cx := X.blk s H scope (compEnvC scope cl C X.env) fp
theorem XOk.blk (xo : XOk a X) {scope : Scope} {s : Shared} {H : Hp} {C : Addr} {cl : List (Str × Addr)} {fp : List Addr} : XOk a (Blk X scope s H C cl fp) :=
  ⟨xo.K, xo.calm, xo.nd, xo.gu, xo.hd, xo.un, PassesOwn.never⟩
/-- what goes along as the walk goes on -/
abbrev An0.on (a : An0) (H F : Hp) : An0 := { a with W := H :: a.W, V := F :: a.V }
theorem XOk.on {H F : Hp} (xo : XOk a X) : XOk (a.on H F) X := ⟨xo.K, xo.calm, xo.nd, xo.gu, xo.hd, xo.un, xo.po⟩
theorem FnAt.on {H F : Hp} {x : Str} {f : SpecF} (h : FnAt a X x f) : FnAt (a.on H F) X x f := ⟨h.ex⟩
theorem FnAt.blk {scope : Scope} {s : Shared} {H : Hp} {C : Addr} {cl : List (Str × Addr)} {fp : List Addr} {x : Str} {f : SpecF} (h : FnAt a X x f) : FnAt a (Blk X scope s H C cl fp) x f := ⟨h.ex⟩
/-- the names within a comprehension -/
abbrev Ct.inn (c : Ct) (scope : Scope) : Ct := ⟨c.N, relS scope c.sc, scope⟩
theorem COk.blk {c : Ct} (co : COk c X) {scope : Scope} {s : Shared} {H : Hp} {C : Addr} {cl : List (Str × Addr)} {fp : List Addr} : COk (c.inn scope) (Blk X scope s H C cl fp) :=
  ⟨co.N, by show relS scope X.env.scope = _; rw [co.sc], fun x e => by show (scope.names.lookup x == some .cell) = true; rw [e]; rfl, fun x k hk e => lookup_relS_keep hk e⟩
theorem SW.on {F2 : Hp} (w : SW a ρ σ ts vs H F Sc Sm) (h : Sub F2 F) : SW (a.on H F2) ρ σ ts vs H F Sc Sm :=
  ⟨w.sub, w.gw, w.bagM, w.bag, w.cells, w.tmps, w.nd, w.fr, w.len, fun G hG => (List.mem_cons.mp hG).elim (fun e => by rw [e]; exact Sub.refl _) (w.wit G), fun G hG => (List.mem_cons.mp hG).elim (fun e => by rw [e]; exact h) (w.wif G)⟩
theorem SW.off {H2 F2 : Hp} (w : SW (a.on H2 F2) ρ σ ts vs H F Sc Sm) : SW a ρ σ ts vs H F Sc Sm :=
  ⟨w.sub, w.gw, w.bagM, w.bag, w.cells, w.tmps, w.nd, w.fr, w.len, fun G hG => w.wit G (List.mem_cons_of_mem _ hG), fun G hG => w.wif G (List.mem_cons_of_mem _ hG)⟩
/-- the block's readings, whichever block it is -/
def gB (X : Cx) (scope : Scope) (tg : Expr) : TG := fun v σ H Q => ∀ s H2 C cl fp, WG (Blk X scope s H2 C cl fp) tg v σ H Q
def tB' (X : Cx) (scope : Scope) (ifs : List Expr) : TT := fun σ H Q => ∀ s H2 C cl fp, ∃ t, PTs (Blk X scope s H2 C cl fp) ifs t ∧ t σ H Q
def eB (X : Cx) (scope : Scope) (elt : Expr) : TE := fun σ H Q => ∀ s H2 C cl fp, WE (Blk X scope s H2 C cl fp) elt σ H Q
theorem gB_ok {scope : Scope} (s : Shared) (H2 : Hp) (C : Addr) (cl : List (Str × Addr)) (fp : List Addr) : PG (Blk X scope s H2 C cl fp) tg (gB X scope tg) :=
  ⟨fun pins s' σ H v u Q I r hw => (pg_W (X := Blk X scope s H2 C cl fp)).run pins s' σ H v u Q I r (hw s H2 C cl fp)⟩
theorem tB_ok {scope : Scope} {ifs : List Expr} (s : Shared) (H2 : Hp) (C : Addr) (cl : List (Str × Addr)) (fp : List Addr) : PTs (Blk X scope s H2 C cl fp) ifs (tB' X scope ifs) :=
  ⟨fun pins s' σ H Q I hw => let ⟨_, p, q⟩ := hw s H2 C cl fp; p.run pins s' σ H Q I q⟩
theorem eB_ok {scope : Scope} (s : Shared) (H2 : Hp) (C : Addr) (cl : List (Str × Addr)) (fp : List Addr) : PE (Blk X scope s H2 C cl fp) elt (eB X scope elt) :=
  ⟨fun pins s' σ H Q I hw => (pe_W (X := Blk X scope s H2 C cl fp)).run pins s' σ H Q I (hw s H2 C cl fp)⟩
theorem itset (ns : notSet it = true) {env : PySem.Env} (x : Value) : foldedSetIterable it env x = pure x := by
  cases it <;> first | rfl | simp [notSet] at ns
/-- where its test and its element are shown for every block -/
theorem lc_read {c : Ct} {scope : Scope} {own : List (Str × Nat)} {g : Tg} {ifs : List Expr} {wc : Env → (Bool → Prop) → Prop} {we : Env → (T → Prop) → Prop} (xo : XOk a X) (co : COk c X)
    (gk : okG (c.inn scope) g tg = true) (sl : ∀ i ∈ g.slots, i ∈ own.map (·.2)) (wp : ρ.wipes (own.map (·.2)) = ρ)
    (hc : ∀ H F s H2 C cl fp ρ' Ψ, wc ρ' Ψ → ∀ σ H' ts vs Q, SOk (a.on H F) ρ' σ ts vs H' → (∀ b H'', Ψ b → SOk (a.on H F) ρ' σ ts vs H'' → Q b H'') → ∃ t, PTs (Blk X scope s H2 C cl fp) ifs t ∧ t σ H' Q)
    (he : ∀ H F s H2 C cl fp ρ' Ψ, we ρ' Ψ → DE (a.on H F) (Blk X scope s H2 C cl fp) ρ' elt Ψ)
    (h : DI a X ρ tg it fun ds => ds.length ≤ 100000 ∧ lcW g wc we ρ ds [] fun us => Φ (.lst us)) {Q : VK}
    (ok : SOk a ρ σ ts vs H) (k : ∀ v t H', Φ t → SOk a ρ σ (t :: ts) (v :: vs) H' → Q v H') : tLc (WI X tg it) (gB X scope tg) (tB' X scope ifs) (eB X scope elt) (own.map (·.2)) σ H Q := by
  show WI X tg it σ H fun J H1 => ∀ D, H1 D = none → ∃ W : Nat → Nat → Hp → Prop, _
  refine h σ H ts vs _ ok fun J H1 F Sc Sm ds ⟨hz, q⟩ w y D hD => ?_
  obtain ⟨G, Y, wk, hG, hY⟩ := y
  -- the state at a turn
  have w0 := w.on (Sub.refl F)
  obtain ⟨Sm0, w1⟩ := SW.mkLst (us := []) (ws := []) (p := D) w0 rfl rfl hD
  have hW : ∀ G' ∈ (a.on H1 F).W, hb a.toAn G' D = none := fun G' hG' => by
    cases e : hb a.toAn G' D with
    | none => rfl
    | some o =>
      have := hb_sub _ _ D o (w0.wit G' hG' D o e)
      rw [hD] at this; cases this
  refine lc_it wk (g := gB X scope tg) (tt := tB' X scope ifs) (te := eB X scope elt) (vs := own.map (·.2)) (σ := σ) (Qd := fun H => Q (.ref D) H) (fun i H => ∃ F2 Sc2 Sm2 acc, SW (a.on H1 F) ρ σ (.lst acc :: ts) (.ref D :: vs) H F2 Sc2 Sm2 ∧ acc.length ≤ i ∧ lcW g wc we ρ (ds.drop i) acc fun us => Φ (.lst us))
    ⟨F, Sc, Sm0, [], w1, Nat.zero_le _, q⟩ (fun i H hi ⟨F2, Sc2, Sm2, acc, w2, _⟩ => hG H fun p o e => w2.sub p o (w2.wif F List.mem_cons_self p o e)) ?_ ?_
  · rintro i x H H' hi ⟨F2, Sc2, Sm2, acc, w2, la, q2⟩ hy
    rw [List.drop_eq_getElem_cons hi] at q2
    obtain ⟨ρ', hb', q3⟩ := q2
    have s2 : Sub F F2 := w2.wif F List.mem_cons_self
    -- the item
    have ok3 : SOk (a.on H1 F) ρ σ (.leaf ds[i] :: .lst acc :: ts) (x :: .ref D :: vs) H' := by
      rcases hY i H x H' hi hy with ⟨rfl, d, e1, i1⟩ | ⟨p, xs, es, rfl, hp, rfl, il, e1⟩
      · rw [List.getElem?_eq_getElem hi] at e1
        cases e1
        exact ⟨F2, Sc2, Sm2, w2.leaf (i1.mono s2)⟩
      · rw [List.getElem?_eq_getElem hi] at e1
        have e1 := Option.some.inj e1
        rw [e1]
        obtain ⟨_, hF, _⟩ := w2.fresh hp
        refine ⟨_, Sc2, Sm2, (w2.froze (o := .tup xs) hp).leaf ?_⟩
        simp only [Is]
        exact ⟨p, xs, rfl, .inl (.inl upd_same), il.mono (s2.trans (sub_new hF))⟩
    obtain ⟨F3, Sc3, Sm3, w3⟩ := ok3
    obtain ⟨Sc4, w4⟩ := w3.wipe (own.map (·.2))
    rw [wp] at w4
    intro s0 H0 C0 cl0 fp0
    refine dg (xo.on.blk) (co.blk (scope := scope)) gk rfl ⟨F3, Sc4, Sm3, w4⟩ hb' fun σ2 ok5 e5 => ⟨?_, fun s1 H1' C1 cl1 fp1 => ?_⟩
    · have := e5 (own.map (·.2)) sl
      rw [this, wipe_sub _ _ _ fun v h => h]
    · have back : ∀ {ts2 : List T} {vs2 : List V} {H2 : Hp}, SOk (a.on H1 F) ρ' σ2 ts2 vs2 H2 → SOk (a.on H1 F) ρ σ ts2 vs2 H2 := fun ⟨F6, Sc6, Sm6, w6⟩ => by
        obtain ⟨Sc7, w7⟩ := w6.wipe (own.map (·.2))
        rw [bindG_wipes hb' sl, wp, e5 (own.map (·.2)) sl, wipe_sub _ _ _ fun v h => h] at w7
        exact ⟨F6, Sc7, Sm6, w7.unwipe wp⟩
      refine hc H1 F s1 H1' C1 cl1 fp1 ρ' _ q3 σ2 H' _ _ _ ok5 fun b H3 hb3 ok6 => ?_
      cases b with
      | true =>
        rw [if_pos rfl] at hb3
        rw [if_pos rfl]
        intro s2' H2' C2 cl2 fp2
        refine he H1 F s2' H2' C2 cl2 fp2 ρ' _ hb3 σ2 H3 _ _ _ ok6 fun y t H4 ht ok7 => ?_
        refine SOk.fin ok7 ht fun u hu nu ok8 => ?_
        obtain ⟨F9, Sc9, Sm9, w9⟩ := back ok8
        obtain ⟨_, _, _, otm⟩ := (⟨F, Sc, Sm, w0.tmps⟩ : ∃ F Sc Sm, OwL a.toAn F H1 ts vs Sm)
        obtain ⟨ws, hD2, l2, Sm10, w10⟩ := w9.more nu hW List.mem_cons_self (H1 := H1) w0.tmps
        refine ⟨ws, hD2, ?_, F9, Sc9, Sm10, acc ++ [u], w10, by simp; omega, hu⟩
        rw [l2]
        exact smallLt (by omega)
      | false =>
        rw [if_neg (by decide)] at hb3
        rw [if_neg (by decide)]
        obtain ⟨F9, Sc9, Sm9, w9⟩ := back ok6
        exact ⟨F9, Sc9, Sm9, acc, w9, by omega, hb3⟩
  · rintro H ⟨F2, Sc2, Sm2, acc, w2, la, q2⟩
    rw [List.drop_length] at q2
    exact k _ _ H q2 ⟨F2, Sc2, Sm2, w2.off⟩
theorem de_lc {c : Ct} {scope : Scope} {own : List (Str × Nat)} {g : Tg} {ifs : List Expr} {wc : Env → (Bool → Prop) → Prop} {we : Env → (T → Prop) → Prop} (xo : XOk a X) (co : COk c X)
    (bk : blkC c.N c.sc scope own = true) (gk : okG (c.inn scope) g tg = true) (sl : ∀ i ∈ g.slots, i ∈ own.map (·.2)) (wp : ρ.wipes (own.map (·.2)) = ρ) (ns : notSet it = true)
    (hc : ∀ H F s H2 C cl fp ρ' Ψ, wc ρ' Ψ → ∀ σ H' ts vs Q, SOk (a.on H F) ρ' σ ts vs H' → (∀ b H'', Ψ b → SOk (a.on H F) ρ' σ ts vs H'' → Q b H'') → ∃ t, PTs (Blk X scope s H2 C cl fp) ifs t ∧ t σ H' Q)
    (he : ∀ H F s H2 C cl fp ρ' Ψ, we ρ' Ψ → DE (a.on H F) (Blk X scope s H2 C cl fp) ρ' elt Ψ)
    (h : DI a X ρ tg it fun ds => ds.length ≤ 100000 ∧ lcW g wc we ρ ds [] fun us => Φ (.lst us)) :
    DE a X ρ (.ListComp elt [⟨tg, it, ifs, 0⟩] scope pos) Φ := fun σ H ts vs Q ok k => by
  have bo : BlkOk X.N X.env.scope scope own := by
    rw [co.N, co.sc]
    exact blkOk_by bk
  exact ⟨_, pe_lc (own := own) xo.calm xo.nd pi_W bo gB_ok tB_ok eB_ok (itset ns), lc_read xo co gk sl wp hc he h ok k⟩
end
end DL
namespace DL
open PySem PySem.Spec PyProof.Rows L2

/-! ### statements -/
structure EnD where
  nx : Env → Prop
  rt : T → Env → Prop
  bk : Env → Prop := fun _ => False
  ct : Env → Prop := fun _ => False
def Mt (a : An0) (K : EnD) (D : Ends) : Prop :=
  (∀ ρ σ H, K.nx ρ → SOk a ρ σ [] [] H → D.nx σ H) ∧ (∀ t v ρ σ H, K.rt t ρ → SOk a ρ σ [t] [v] H → D.rt v H) ∧
  (∀ ρ σ H, K.bk ρ → SOk a ρ σ [] [] H → D.bk σ H) ∧ ∀ ρ σ H, K.ct ρ → SOk a ρ σ [] [] H → D.ct σ H
def DS (a : An0) (X : Cx) (ρ : Env) (st : Stmt) (K : EnD) : Prop := ∀ σ H D, SOk a ρ σ [] [] H → Mt a K D → WS X st D σ H
def DB (a : An0) (X : Cx) (ρ : Env) (sts : List Stmt) (K : EnD) : Prop := ∀ σ H D, SOk a ρ σ [] [] H → Mt a K D → WB X sts D σ H
section
variable {a : An0} {X : Cx} {ρ : Env} {σ : L2.St} {ts : List T} {vs : List V} {H F : Hp} {Sc Sm : List Addr} {Φ : T → Prop} {pos p : Pos} {e A B C tg it elt : Expr} {es : List Expr} {Ψ : List D → Prop} {z : Bool} {st : Stmt} {rest body : List Stmt} {K : EnD}
theorem db_nil (h : K.nx ρ) : DB a X ρ [] K := fun σ H D ok m => ⟨_, pss_nil, m.1 ρ σ H h ok⟩
theorem db_cons (h : DS a X ρ st { K with nx := fun ρ' => DB a X ρ' rest K }) : DB a X ρ (st :: rest) K := fun σ H D ok m => by
  refine ⟨_, pss_cons ps_W pb_W, ?_⟩
  show WS X st { D with nx := WB X rest D } σ H
  exact h σ H _ ok ⟨fun ρ' σ' H' hk ok' => hk σ' H' D ok' m, m.2⟩
/-- a value that makes no block of its own -/
def noComp : Expr → Bool
  | .ListComp _ _ _ _ => false
  | .SetComp _ _ _ _ => false
  | .DictComp _ _ _ _ _ => false
  | _ => true
theorem noswap {v : Expr} {t : Option Expr} {l : Nat} {env : PySem.Env} (h : noComp v = true) : swapsWith v t l env = pure false := by
  cases v <;> first | rfl | simp [noComp] at h
/-- not a tuple stored into a tuple -/
def noPar : Expr → Expr → Bool
  | .Tuple _ _ _, .Tuple vs _ _ => vs.all (foldedForSure 8) || !(vs.length == 2 || vs.length == 3)
  | .List _ _, .Tuple _ _ _ => false
  | _, _ => true
theorem nopar {t v : Expr} {env : PySem.Env} (h : noPar t v = true) : swappedStores [t] v env = pure none := by
  cases t <;> first | rfl | skip
  · cases v <;> first | rfl | simp [noPar] at h
  · cases v <;> first | rfl | skip
    rename_i ts _ _ vs _ _
    simp only [noPar, Bool.or_eq_true] at h
    unfold swappedStores
    simp only [pure_bind]
    split
    · rfl
    · rename_i hn
      split
      · rfl
      · split
        · rfl
        · rcases h with h | h
          · rw [if_pos h]
          · exfalso
            apply hn
            simp only [Bool.not_eq_true', Bool.or_eq_false_iff, beq_eq_false_iff_ne, ne_eq] at h
            simp only [Bool.or_eq_true, Bool.not_eq_true', Bool.or_eq_false_iff, beq_eq_false_iff_ne, ne_eq, bne_iff_ne]
            by_cases e : vs.length = ts.length
            · rw [← e]; exact .inl (.inl h)
            · exact .inl (.inr e)
theorem asg_one {c : Ct} {env : PySem.Env} {g : Tg} (k : okG c g tg = true) : List.map (fun x => x.snd) (assignEach [tg] env) = [assign tg env] := asg_map k
theorem ds_asg {c : Ct} {g : Tg} (xo : XOk a X) (co : COk c X) (hg : okG c g tg = true) (h1 : noComp e = true) (h2 : noPar tg e = true) (h : DE a X ρ e fun t => t.fin fun u => ∃ ρ', bindG g u ρ = some ρ' ∧ K.nx ρ') : DS a X ρ (.Assign [tg] e pos) K := fun σ H D ok m => by
  refine ⟨_, ps_asg pe_W pg_W (noswap h1) (nopar h2) (asg_one hg), ?_⟩
  show WE X e σ H fun x H1 => WG X tg x σ H1 D.nx
  refine h σ H [] [] _ ok fun v t H1 h1 ok1 => SOk.fin ok1 h1 fun u ⟨ρ', hb, hk⟩ nu ok2 => ?_
  obtain ⟨F, Sc, Sm, w⟩ := ok2
  obtain ⟨S, h3, _⟩ := w.cut
  exact dg xo co hg (h3.nv nu) ⟨F, Sc, Sm, w⟩ hb fun σ' ok3 _ => m.1 ρ' σ' H1 hk ok3
theorem ds_ret (h : DE a X ρ e fun t => t.fin fun u => K.rt u ρ) : DS a X ρ (.Return (some e) pos) K := fun σ H D ok m => by
  refine ⟨_, ps_ret pe_W, ?_⟩
  show WE X e σ H D.rt
  exact h σ H [] [] _ ok fun v t H1 h1 ok1 => SOk.fin ok1 h1 fun u hk nu ok2 => m.2.1 u v ρ σ H1 hk ok2
theorem ds_retN (h : K.rt (.leaf .non) ρ) : DS a X ρ (.Return none pos) K := fun σ H D ok m => ⟨_, ps_retN, m.2.1 _ _ ρ σ H h ok.non⟩
theorem ds_expr (h1 : noComp e = true) (h : DE a X ρ e fun _ => K.nx ρ) : DS a X ρ (.Expr e pos) K := fun σ H D ok m => by
  refine ⟨_, ps_expr pe_W (noswap h1), ?_⟩
  show WE X e σ H fun _ H1 => D.nx σ H1
  exact h σ H [] [] _ ok fun v t H1 h1 ok1 => m.1 ρ σ H1 h1 ok1.pop1
theorem ds_pass (h : K.nx ρ) : DS a X ρ (.Pass pos) K := fun σ H D ok m => ⟨_, ps_pass, m.1 ρ σ H h ok⟩
theorem ds_break (h : K.bk ρ) : DS a X ρ (.Break pos) K := fun σ H D ok m => ⟨_, ps_break, m.2.2.1 ρ σ H h ok⟩
theorem ds_continue (h : K.ct ρ) : DS a X ρ (.Continue pos) K := fun σ H D ok m => ⟨_, ps_continue, m.2.2.2 ρ σ H h ok⟩
theorem ds_if {s1 s2 : List Stmt} (h : DT a X ρ A fun b => if b = true then DB a X ρ s1 K else DB a X ρ s2 K) : DS a X ρ (.If A s1 s2 pos) K := fun σ H D ok m => by
  refine ⟨_, ps_if pt_W pb_W pb_W, ?_⟩
  show WT X A σ H fun b H1 => if b = true then WB X s1 D σ H1 else WB X s2 D σ H1
  refine h σ H [] [] _ ok fun b H1 hb ok1 => ?_
  cases b with
  | true =>
    rw [if_pos rfl] at hb ⊢
    exact hb σ H1 D ok1 m
  | false =>
    rw [if_neg (by decide)] at hb ⊢
    exact hb σ H1 D ok1 m

/-! ### loops -/
def forW (g : Tg) (wb : Env → EnD → Prop) : List D → Env → EnD → Prop
  | [], ρ, K => K.nx ρ
  | d :: r, ρ, K => ∃ ρ', bindG g (.leaf d) ρ = some ρ' ∧ wb ρ' { nx := fun ρ2 => forW g wb r ρ2 K, ct := fun ρ2 => forW g wb r ρ2 K, bk := K.nx, rt := K.rt }
abbrev An0.onV (a : An0) (F : Hp) : An0 := { a with V := F :: a.V }
theorem XOk.onV {F : Hp} (xo : XOk a X) : XOk (a.onV F) X := ⟨xo.K, xo.calm, xo.nd, xo.gu, xo.hd, xo.un, xo.po⟩
theorem SW.onV {F2 : Hp} (w : SW a ρ σ ts vs H F Sc Sm) (h : Sub F2 F) : SW (a.onV F2) ρ σ ts vs H F Sc Sm :=
  ⟨w.sub, w.gw, w.bagM, w.bag, w.cells, w.tmps, w.nd, w.fr, w.len, w.wit, fun G hG => (List.mem_cons.mp hG).elim (fun e => by rw [e]; exact h) (w.wif G)⟩
theorem SW.offV {F2 : Hp} (w : SW (a.onV F2) ρ σ ts vs H F Sc Sm) : SW a ρ σ ts vs H F Sc Sm :=
  ⟨w.sub, w.gw, w.bagM, w.bag, w.cells, w.tmps, w.nd, w.fr, w.len, w.wit, fun G hG => w.wif G (List.mem_cons_of_mem _ hG)⟩
theorem SOk.offV {F2 : Hp} : SOk (a.onV F2) ρ σ ts vs H → SOk a ρ σ ts vs H := fun ⟨F, Sc, Sm, w⟩ => ⟨F, Sc, Sm, w.offV⟩
theorem foldset (ns : notSet it = true) {env : PySem.Env} (x : Value) : foldedSetIterable it env x = pure x := by
  cases it <;> first | rfl | simp [notSet] at ns
theorem passes0 (xo : XOk a X) : PassesOwn (model X.prog X.w) X.A X.env X.xe := xo.po
theorem ds_for {c : Ct} {g : Tg} {wb : Env → EnD → Prop} (xo : XOk a X) (co : COk c X) (hg : okG c g tg = true) (ns : notSet it = true) (hb : ∀ F ρ' K', wb ρ' K' → DB (a.onV F) X ρ' body K')
    (h : DI a X ρ tg it fun ds => forW g wb ds ρ K) : DS a X ρ (.For tg it body [] pos) K := fun σ H D ok m => by
  refine ⟨_, ps_for (passes0 xo) xo.calm pi_W pg_W pb_W (foldset ns), ?_⟩
  show WI X tg it σ H fun J H1 => _
  refine h σ H [] [] _ ok fun J H1 F Sc Sm ds q w y => ?_
  obtain ⟨G, Y, wk, hG, hY⟩ := y
  refine for_it wk (g := WG X tg) (tb := WB X body) (D := D) (σ := σ) (H := H1) (fun i σ H => ∃ ρ2 F2 Sc2 Sm2, SW (a.onV F) ρ2 σ [] [] H F2 Sc2 Sm2 ∧ forW g wb (ds.drop i) ρ2 K)
    ⟨ρ, F, Sc, Sm, w.onV (Sub.refl F), q⟩ (fun i σ H hi ⟨ρ2, F2, Sc2, Sm2, w2, _⟩ => hG H fun p o e => w2.sub p o (w2.wif F List.mem_cons_self p o e)) ?_ ?_
  · rintro i x σ H H' hi ⟨ρ2, F2, Sc2, Sm2, w2, q2⟩ hy
    rw [List.drop_eq_getElem_cons hi] at q2
    obtain ⟨ρ', hb', q3⟩ := q2
    have s2 : Sub F F2 := w2.wif F List.mem_cons_self
    have ok3 : SOk (a.onV F) ρ2 σ [.leaf ds[i]] [x] H' := by
      rcases hY i H x H' hi hy with ⟨rfl, d, e1, i1⟩ | ⟨p, xs, es, rfl, hp, rfl, il, e1⟩
      · rw [List.getElem?_eq_getElem hi] at e1
        cases e1
        exact ⟨F2, Sc2, Sm2, w2.leaf (i1.mono s2)⟩
      · rw [List.getElem?_eq_getElem hi] at e1
        have e1 := Option.some.inj e1
        rw [e1]
        obtain ⟨_, hF, _⟩ := w2.fresh hp
        refine ⟨_, Sc2, Sm2, (w2.froze (o := .tup xs) hp).leaf ?_⟩
        simp only [Is]
        exact ⟨p, xs, rfl, .inl (.inl upd_same), il.mono (s2.trans (sub_new hF))⟩
    refine dg xo.onV co hg rfl ok3 hb' fun σ2 ok4 _ => ?_
    refine hb F ρ' _ q3 σ2 H' _ ok4 ⟨?_, ?_, ?_, ?_⟩
    · rintro ρ5 σ5 H5 hk ⟨F5, Sc5, Sm5, w5⟩
      exact ⟨ρ5, F5, Sc5, Sm5, w5, hk⟩
    · exact fun t v ρ5 σ5 H5 hk ok5 => m.2.1 t v ρ5 σ5 H5 hk ok5.offV
    · exact fun ρ5 σ5 H5 hk ok5 => m.1 ρ5 σ5 H5 hk ok5.offV
    · rintro ρ5 σ5 H5 hk ⟨F5, Sc5, Sm5, w5⟩
      exact ⟨ρ5, F5, Sc5, Sm5, w5, hk⟩
  · rintro σ H ⟨ρ2, F2, Sc2, Sm2, w2, q2⟩
    rw [List.drop_length] at q2
    exact m.1 ρ2 σ H q2 ⟨F2, Sc2, Sm2, w2.offV⟩
/-- a while by so many turns at most -/
def whileW (wt : Env → (Bool → Prop) → Prop) (wb : Env → EnD → Prop) : Nat → Env → EnD → Prop
  | 0, _, _ => False
  | n + 1, ρ, K => wt ρ fun b => if b = true then wb ρ { nx := fun ρ2 => whileW wt wb n ρ2 K, ct := fun ρ2 => whileW wt wb n ρ2 K, bk := K.nx, rt := K.rt } else K.nx ρ
theorem ds_while {wt : Env → (Bool → Prop) → Prop} {wb : Env → EnD → Prop} (xo : XOk a X) (ht : ∀ ρ' Ψ, wt ρ' Ψ → DT a X ρ' A Ψ) (hb : ∀ ρ' K', wb ρ' K' → DB a X ρ' body K') (h : ∃ n, whileW wt wb n ρ K) : DS a X ρ (.While A body [] pos) K := fun σ H D ok m => by
  refine ⟨_, ps_while (passes0 xo) pt_W pb_W, ?_⟩
  obtain ⟨n, h⟩ := h
  refine ⟨fun n σ H => ∃ ρ2, SOk a ρ2 σ [] [] H ∧ whileW wt wb n ρ2 K, ⟨n, ρ, ok, h⟩, ?_⟩
  rintro n σ H ⟨ρ2, ok2, h2⟩
  cases n with
  | zero => exact False.elim h2
  | succ n =>
    refine ht ρ2 _ h2 σ H [] [] _ ok2 fun b H1 hb1 ok3 => ?_
    cases b with
    | false =>
      rw [if_neg (by decide)] at hb1 ⊢
      exact m.1 ρ2 σ H1 hb1 ok3
    | true =>
      rw [if_pos rfl] at hb1 ⊢
      refine ⟨fun σ H => ∃ ρ2, SOk a ρ2 σ [] [] H ∧ whileW wt wb n ρ2 K, fun σ' H' h' => ⟨n, Nat.lt_succ_self n, h'⟩, ?_⟩
      exact hb ρ2 _ hb1 σ H1 _ ok3 ⟨fun ρ5 σ5 H5 hk ok5 => ⟨ρ5, ok5, hk⟩, fun t v ρ5 σ5 H5 hk ok5 => m.2.1 t v ρ5 σ5 H5 hk ok5, fun ρ5 σ5 H5 hk ok5 => m.1 ρ5 σ5 H5 hk ok5, fun ρ5 σ5 H5 hk ok5 => ⟨ρ5, ok5, hk⟩⟩

/-! ### lists that are held alone, written -/
theorem OwC.focus {a : An} {F H : Hp} : ∀ {ρ : Env} {σ : L2.St} {S : List Addr} {i : Nat} {u : T}, OwC a F H ρ σ S → ρ.at i = some u → ∃ x Si Sr, σ[i]? = some (some x) ∧ Ow a F H u x Si ∧ S.Perm (Si ++ Sr) ∧
    ∀ F' H' u' Si', Sub F F' → (∀ p ∈ Sr, ∀ o, H p = some o → H' p = some o) → Ow a F' H' u' x Si' → u'.nv = true → ∃ S', OwC a F' H' (ρ.put i (some u')) σ S' ∧ S'.Perm (Si' ++ Sr)
  | [], _, _, _, _, _, h => by simp [Env.at] at h
  | none :: ρ, σ, S, 0, u, h, g => by simp [Env.at] at g
  | some t :: ρ, σ, S, 0, u, h, g => by
    simp only [OwC] at h
    simp only [Env.at, Option.some.injEq] at g
    subst g
    obtain ⟨v, S1, S2, ⟨e1, nv⟩, h1, h2, rfl⟩ := h
    refine ⟨v, S1, S2, ?_, h1, List.Perm.refl _, fun F' H' u' Si' sF k hu n => ⟨Si' ++ S2, ?_, List.Perm.refl _⟩⟩
    · cases σ with
      | nil => simp at e1
      | cons x r => simpa using e1
    · simp only [Env.put, OwC]
      exact ⟨v, Si', S2, ⟨e1, n⟩, hu, h2.mono' sF k, rfl⟩
  | none :: ρ, σ, S, i + 1, u, h, g => by
    simp only [OwC] at h
    simp only [Env.at] at g
    obtain ⟨x, Si, Sr, e1, h1, hp, go⟩ := OwC.focus h g
    refine ⟨x, Si, Sr, ?_, h1, hp, fun F' H' u' Si' sF k hu n => ?_⟩
    · cases σ with
      | nil => simp at e1
      | cons x r => simpa using e1
    · obtain ⟨S', h3, p3⟩ := go F' H' u' Si' sF k hu n
      exact ⟨S', by simpa only [Env.put, OwC] using h3, p3⟩
  | some t :: ρ, σ, S, i + 1, u, h, g => by
    simp only [OwC] at h
    simp only [Env.at] at g
    obtain ⟨v, S1, S2, e0, h0, h2, rfl⟩ := h
    obtain ⟨x, Si, Sr, e1, h1, hp, go⟩ := OwC.focus h2 g
    refine ⟨x, Si, S1 ++ Sr, ?_, h1, ?_, fun F' H' u' Si' sF k hu n => ?_⟩
    · cases σ with
      | nil => simp at e1
      | cons x r => simpa using e1
    · exact (List.Perm.append_left S1 hp).trans (by rw [← List.append_assoc, ← List.append_assoc]; exact List.Perm.append_right _ List.perm_append_comm)
    · obtain ⟨S', h3, p3⟩ := go F' H' u' Si' sF (fun p hp => k p (List.mem_append_right _ hp)) hu n
      refine ⟨S1 ++ S', ?_, (List.Perm.append_left S1 p3).trans (by rw [← List.append_assoc, ← List.append_assoc]; exact List.Perm.append_right _ List.perm_append_comm)⟩
      simp only [Env.put, OwC]
      exact ⟨v, S1, S', e0, h0.mono' sF e0.2 (fun p hp => k p (List.mem_append_left _ hp)), h3, rfl⟩
theorem SW.rewr {i : Nat} {us : List T} (w : SW a ρ σ ts vs H F Sc Sm) (hW : a.W = []) (e : ρ.at i = some (.lst us)) : ∃ l ws Sa, σ[i]? = some (some (.ref l)) ∧ H l = some (.lst ws) ∧ OwL a.toAn F H us ws Sa ∧ T.nvs us = true ∧ (Sa ++ Sm).Nodup ∧
    ∀ us' ws' Sb, OwL a.toAn F H us' ws' Sb → T.nvs us' = true → Sb.Nodup → (∀ p ∈ Sb, p ∈ Sa ++ Sm) → SOk a (ρ.put i (some (.lst us'))) σ [] [] (L2.upd H l (.lst ws')) := by
  obtain ⟨x, Si, Sr, e1, h1, hp, go⟩ := w.cells.focus e
  simp only [Ow] at h1
  obtain ⟨nn, l, ws, Sa, rfl, hl, ho, rfl⟩ := h1
  have nd : ((l :: Sa ++ Sr) ++ Sm).Nodup := ((List.Perm.append_right Sm hp).nodup_iff).mp w.nd
  have mem : ∀ p, p ∈ l :: Sa ++ Sr → p ∈ Sc := fun p h => hp.mem_iff.mpr h
  obtain ⟨n1, n2, n3⟩ := List.nodup_append.mp nd
  obtain ⟨m1, m2, m3⟩ := List.nodup_append.mp n1
  obtain ⟨k1, k2⟩ := List.nodup_cons.mp m1
  refine ⟨l, ws, Sa, e1, hl, ho, nn, List.nodup_append.mpr ⟨k2, n2, fun p hp q hq => n3 p (List.mem_append_left _ (List.mem_cons_of_mem _ hp)) q hq⟩, fun us' ws' Sb hb nb ndb sub => ?_⟩
  have lSb : l ∉ Sb := fun z => (List.mem_append.mp (sub l z)).elim k1 fun y => n3 l (List.mem_append_left _ List.mem_cons_self) l y rfl
  have lSr : l ∉ Sr := fun z => m3 l List.mem_cons_self l z rfl
  have keep : ∀ {S : List Addr}, l ∉ S → ∀ p ∈ S, ∀ o, H p = some o → L2.upd H l (.lst ws') p = some o := fun {S} h p hp o e => by
    rw [upd_ne (fun z => h (by rw [← z]; exact hp))]
    exact e
  obtain ⟨S', h3, p3⟩ := go F (L2.upd H l (.lst ws')) (.lst us') (l :: Sb) (Sub.refl F) (keep lSr) (by
    simp only [Ow]
    exact ⟨nb, l, ws', Sb, rfl, upd_same, hb.mono' (Sub.refl F) nb (keep lSb), rfl⟩) (by simpa only [T.nv] using nb)
  have dis : ∀ p ∈ Sb, p ∉ Sr := fun p hp hq => (List.mem_append.mp (sub p hp)).elim (fun y => m3 p (List.mem_cons_of_mem _ y) p hq rfl) fun y => n3 p (List.mem_append_right _ hq) p y rfl
  refine ⟨F, S', [], w.upd (Sm' := []) (mem l (List.mem_append_left _ List.mem_cons_self) |> List.mem_append_left _) (by rw [hW]; exact fun _ h => nomatch h) h3 (by simp [OwL]) ?_ (fun p hp' => ?_) (by rw [Env.put_length]; exact w.len)⟩
  · rw [List.append_nil]
    exact p3.nodup_iff.mpr (List.nodup_append.mpr ⟨List.nodup_cons.mpr ⟨lSb, ndb⟩, m2, fun p hp q hq e => by
      subst e
      rcases List.mem_cons.mp hp with rfl | hp
      · exact lSr hq
      · exact dis p hp hq⟩)
  · rw [List.append_nil] at hp'
    rcases List.mem_append.mp (p3.mem_iff.mp hp') with y | y
    · rcases List.mem_cons.mp y with rfl | y
      · exact List.mem_append_left _ (mem _ (List.mem_append_left _ List.mem_cons_self))
      · rcases List.mem_append.mp (sub p y) with y | y
        · exact List.mem_append_left _ (mem _ (List.mem_append_left _ (List.mem_cons_of_mem _ y)))
        · exact List.mem_append_right _ y
    · exact List.mem_append_left _ (mem _ (List.mem_append_right _ y))
end
end DL
namespace DL
open PySem PySem.Spec PyProof.Rows L2
section
variable {a : An0} {X : Cx} {ρ : Env} {σ : L2.St} {ts : List T} {vs : List V} {H F : Hp} {Sc Sm : List Addr} {Φ : T → Prop} {pos p : Pos} {e A B C tg it elt : Expr} {es : List Expr} {Ψ : List D → Prop} {z : Bool} {st : Stmt} {rest body : List Stmt} {K : EnD}

/-- an attribute's base that is no bare super() -/
def noCall : Expr → Bool
  | .Call _ _ _ _ => false
  | _ => true
theorem base_of {o : Expr} {n : Str} {env : PySem.Env} (h : noCall o = true) : attributeBase o n env (eval o env) = eval o env := by
  cases o <;> first | rfl | simp [noCall] at h
theorem pvar {i : Nat} {x : Str} {xp : Pos} (hN : X.N[i]? = some x) (hv : Vis X.env.scope x) (hd : (x == ("__debug__" : Str)) = false) (hc : (x == ("__classdict__" : Str)) = false) : PE X (.Name x xp) (tVar i) := pe_var hN hv hd hc
/-- the list in a slot, and one temporary more -/
theorem ds_append {i : Nat} {x : Str} {us : List T} {xp ap cp : Pos} (xo : XOk a X) (hW : a.W = []) (hN : X.N[i]? = some x) (hv : Vis X.env.scope x) (hd : (x == ("__debug__" : Str)) = false) (hc : (x == ("__classdict__" : Str)) = false)
    (hl : (ap.endLine == cp.line) = true) (ns : notStar e = true) (hat : ρ.at i = some (.lst us)) (hz : us.length ≤ 99999)
    (h : DE a X ρ e fun t => t.fin fun u => K.nx (ρ.put i (some (.lst (us ++ [u]))))) : DS a X ρ (.Expr (.Call (.Attribute (.Name x xp) "append" ap) [e] [] cp) pos) K := fun σ H D ok m => by
  refine ⟨_, ps_expr (pe_bm PySem.F.plainAttrs_list PySem.F.slot_list_append PySem.F.type_list_append mt_append (pvar hN hv hd hc) (pa_W (e := [e])) rfl ?_ hl (star_of ns) rfl) rfl, ?_⟩
  · rw [star_of ns]
    rfl
  show tVar i σ H fun x H1 => tyV X.K "list" x H1 ∧ WA X [e] σ H1 fun xs H2 => rAppend x xs H2 fun _ H3 => D.nx σ H3
  obtain ⟨F, Sc, Sm, w⟩ := ok
  obtain ⟨v, S1, e1, h1, _⟩ := w.cells.get hat
  simp only [Ow] at h1
  obtain ⟨_, l, ws0, _, rfl, hl0, _⟩ := h1
  refine ⟨_, e1, .inl ⟨rfl, _, .inl (.inl hl0)⟩, ?_⟩
  have da : DA a X ρ [e] fun us' => ∃ u, us' = [u] ∧ K.nx (ρ.put i (some (.lst (us ++ [u])))) := da_cons ns (fun σ H ts vs Q ok k => h σ H ts vs Q ok fun v t H' ht ok' => k v t H' (by
    cases t <;> (simp only [T.fin] at ht ⊢) <;> first | exact da_nil ⟨_, rfl, ht⟩ | exact ⟨ht.1, da_nil ⟨_, rfl, ht.2⟩⟩) ok')
  refine da σ H [] [] _ ⟨F, Sc, Sm, w⟩ fun ws us' H2 ⟨u, hu, hk⟩ nu l2 ok2 => ?_
  subst hu
  obtain ⟨y, rfl⟩ : ∃ y, ws = [y] := by
    match ws, l2 with
    | [y], _ => exact ⟨y, rfl⟩
  obtain ⟨F2, Sc2, Sm2, w2⟩ := ok2
  obtain ⟨l', ws, Sa, e2, hl2, ho, nn, nd, go⟩ := w2.rewr hW hat
  rw [e1] at e2
  cases e2
  refine ⟨l, ws, y, rfl, rfl, hl2, by rw [ho.length]; exact smallLt (by omega), ?_⟩
  have ht := w2.tmps
  have nvt : u.nv = true := by
    simp only [List.append_nil, List.all_cons, List.all_nil, Bool.and_true] at nu ht
    simp only [OwL] at ht
    obtain ⟨v', r', S3, S4, _, h3, _⟩ := ht
    exact h3.nv nu
  refine m.1 _ σ _ hk (go (us ++ [u]) (ws ++ [y]) (Sa ++ Sm2) (OwL.join ho (by simpa using ht)) ?_ nd fun p hp => hp)
  have : ∀ (us : List T), T.nvs us = true → T.nvs (us ++ [u]) = true := fun us => by
    induction us with
    | nil => intro _; simp [T.nvs, nvt]
    | cons u us ih => intro h; simp only [T.nvs, Bool.and_eq_true, List.cons_append] at h ⊢; exact ⟨h.1, ih h.2⟩
  exact this us nn
theorem OwL.set {a : An} {F H : Hp} {t : T} {v : V} {St : List Addr} (ht : Ow a F H t v St) : ∀ {us : List T} {ws : List V} {S : List Addr} {j : Nat}, OwL a F H us ws S → j < us.length → (S ++ St).Nodup → ∃ S', OwL a F H (us.set j t) (ws.set j v) S' ∧ S'.Nodup ∧ ∀ p ∈ S', p ∈ S ++ St
  | [], _, _, _, _, h, _ => by simp at h
  | u :: us, ws, S, 0, h, _, nd => by
    simp only [OwL] at h
    obtain ⟨x, r, S1, S2, rfl, h1, h2, rfl⟩ := h
    refine ⟨St ++ S2, ?_, ?_, fun p hp => ?_⟩
    · simp only [List.set_cons_zero, OwL]
      exact ⟨v, r, St, S2, rfl, ht, h2, rfl⟩
    · obtain ⟨n1, n2, n3⟩ := List.nodup_append.mp nd
      exact List.nodup_append.mpr ⟨n2, (List.nodup_append.mp n1).2.1, fun p hp q hq e => n3 q (List.mem_append_right _ hq) p hp e.symm⟩
    · rcases List.mem_append.mp hp with z | z
      · exact List.mem_append_right _ z
      · exact List.mem_append_left _ (List.mem_append_right _ z)
  | u :: us, ws, S, j + 1, h, l, nd => by
    simp only [OwL] at h
    obtain ⟨x, r, S1, S2, rfl, h1, h2, rfl⟩ := h
    obtain ⟨n1, n2, n3⟩ := List.nodup_append.mp nd
    obtain ⟨m1, m2, m3⟩ := List.nodup_append.mp n1
    obtain ⟨S', h3, n4, k⟩ := OwL.set ht (j := j) h2 (by simpa using l) (List.nodup_append.mpr ⟨m2, n2, fun p hp q hq => n3 p (List.mem_append_right _ hp) q hq⟩)
    refine ⟨S1 ++ S', ?_, List.nodup_append.mpr ⟨m1, n4, fun p hp q hq => ?_⟩, fun p hp => ?_⟩
    · simp only [List.set_cons_succ, OwL]
      exact ⟨x, _, S1, S', rfl, h1, h3, rfl⟩
    · rcases List.mem_append.mp (k q hq) with z | z
      · exact m3 p hp q z
      · exact n3 p (List.mem_append_left _ hp) q z
    · rcases List.mem_append.mp hp with z | z
      · exact List.mem_append_left _ (List.mem_append_left _ z)
      · rcases List.mem_append.mp (k p z) with y | y
        · exact List.mem_append_left _ (List.mem_append_right _ y)
        · exact List.mem_append_right _ y
theorem nvs_set {t : T} (n : t.nv = true) : ∀ {us : List T} (j : Nat), T.nvs us = true → T.nvs (us.set j t) = true
  | [], _, _ => rfl
  | u :: us, 0, h => by
    simp only [T.nvs, Bool.and_eq_true, List.set_cons_zero] at h ⊢
    exact ⟨n, h.2⟩
  | u :: us, j + 1, h => by
    simp only [T.nvs, Bool.and_eq_true, List.set_cons_succ] at h ⊢
    exact ⟨h.1, nvs_set n j h.2⟩
/-- the one temporary is stored into the list in slot i -/
theorem SW.store {i j : Nat} {us : List T} {u : T} {y : V} (w : SW a ρ σ [u] [y] H F Sc Sm) (hW : a.W = []) (nu : u.nvw = true) (hat : ρ.at i = some (.lst us)) (hj : j < us.length) :
    ∃ l ws, σ[i]? = some (some (.ref l)) ∧ H l = some (.lst ws) ∧ ws.length = us.length ∧ SOk a (ρ.put i (some (.lst (us.set j u)))) σ [] [] (L2.upd H l (.lst (ws.set j y))) := by
  obtain ⟨l, ws, Sa, e2, hl2, ho, nn, nd, go⟩ := w.rewr hW hat
  have ht := w.tmps
  simp only [OwL] at ht
  obtain ⟨v', r', S3, S4, e3, h3, ⟨rfl, rfl⟩, rfl⟩ := ht
  cases e3
  rw [List.append_nil] at nd go
  obtain ⟨S', h4, n4, k4⟩ := OwL.set h3 ho hj nd
  exact ⟨l, ws, e2, hl2, ho.length, go _ _ S' h4 (nvs_set (h3.nv nu) j nn) n4 k4⟩
theorem noswap1 {v t : Expr} {l : Nat} {env : PySem.Env} (h : noComp v = true) : swapsWithSole [t] v l env = pure false := noswap h
theorem asg_sub {o B : Expr} {sp : Pos} {env : PySem.Env} (hB : notSlice B = true) (v : Value) : assign (.Subscript o B sp) env v = (do
    let ov ← holding [v] (eval o env)
    let iv ← holding [v, ov] (eval B env)
    standAt sp
    holding [v, ov, iv] (setItem ov iv v)
    release [v, ov, iv] []) := by
  cases B with
  | Slice l u st p =>
    cases st with
    | none => simp [notSlice] at hB
    | some _ => rfl
  | _ => rfl
theorem ds_setix {i : Nat} {x : Str} {us : List T} {xp sp : Pos} (xo : XOk a X) (hW : a.W = []) (hN : X.N[i]? = some x) (hv : Vis X.env.scope x) (hd : (x == ("__debug__" : Str)) = false) (hc : (x == ("__classdict__" : Str)) = false)
    (h1 : noComp e = true) (hB : notSlice B = true) (hat : ρ.at i = some (.lst us)) (h : DE a X ρ e fun t => t.fin fun u => DE a X ρ B fun y => ∃ n j, y.dat = .int n ∧ ixN us.length n = some j ∧ K.nx (ρ.put i (some (.lst (us.set j u))))) :
    DS a X ρ (.Assign [.Subscript (.Name x xp) B sp] e pos) K := fun σ H D ok m => by
  refine ⟨_, ps_asg pe_W (pg_sub (pvar hN hv hd hc) pe_W set_list (ha := asg_sub hB)) (noswap1 h1) (by rfl) (by rfl), ?_⟩
  show WE X e σ H fun v H1 => tVar i σ H1 fun o H2 => WE X B σ H2 fun b H3 => rSetL o b v H3 fun H4 => D.nx σ H4
  refine h σ H [] [] _ ok fun y t H1 ht ok1 => SOk.fin ok1 ht fun u hu nu ok2 => ?_
  obtain ⟨F, Sc, Sm, w⟩ := ok2
  obtain ⟨v, S1, e1, h3, _⟩ := w.cells.get hat
  simp only [Ow] at h3
  obtain ⟨_, l, ws0, _, rfl, hl0, _⟩ := h3
  refine ⟨_, e1, ?_⟩
  refine hu σ H1 _ _ _ ⟨F, Sc, Sm, w⟩ fun b tb H3 ⟨n, j, hb, hj, hk⟩ ok3 => ?_
  have ib := ok3.top
  rw [hb] at ib
  obtain ⟨F2, Sc2, Sm2, w2⟩ := ok3.pop1
  obtain ⟨l', ws, e2, hl2, lw, so⟩ := w2.store (j := j) hW nu hat (ixN_seq hj).2.1
  rw [e1] at e2
  cases e2
  exact ⟨l, ws, n, j, rfl, ib.int, hl2, by rw [lw]; exact hj, m.1 _ σ _ hk so⟩
/-- reading ahead of a store -/
def rGetL (K : PySem.W.Frag) : V → V → Hp → VK → Prop := rIxL K
theorem get_list : PGet X (rGetL X.K) := by
  intro pins s σ H o i ov iv Q I ro ri h
  obtain ⟨q, xs, k, v, rfl, rfl, hq, he, fin⟩ := h
  obtain rfl : ov = .ref q := ro
  obtain ⟨t, rfl⟩ := ri
  obtain ⟨its, r, pl, hz⟩ := I.list hq
  obtain ⟨j, h1, h2, h3, h4, h5⟩ := atI_get he
  obtain ⟨w, ew, rw'⟩ := r.get h2
  have hl := r.length
  have hn := line63
  have done : EP X pins σ Q w s := ⟨v, H, I, rw', fin⟩
  by_cases h0 : 0 ≤ k
  · have hj : k.toNat = j := Option.some.inj ((seqIndex_of h0 h5).symm.trans h1)
    exact wpAny_getItem_list pl.isList h0 (by omega) (by rw [hj]; simpa using ew) done
  · have hj : (k + (its.toArray.size : Int)).toNat = j := by
      rw [List.size_toArray, ← hl]
      exact Option.some.inj ((seqIndex_neg (by omega) h4).symm.trans h1)
    exact wpAny_getItem_list_neg pl.isList (by omega) (by rw [List.size_toArray] <;> omega) (by omega) (by rw [hj]; simpa using ew) done
inductive Aop where
  | add | sub
  deriving DecidableEq
def Aop.op : Aop → Operator
  | .add => .Add
  | .sub => .Sub
def augD : Aop → D → D → (D → Prop) → Prop
  | .add, .int i, .int j, Ψ => Ψ (.int (i + j))
  | .sub, .int i, .int j, Ψ => Ψ (.int (i - j))
  | .add, .str s, .str t, Ψ => s.length + t.length ≤ 100000 ∧ Ψ (.str (s ++ t))
  | _, _, _, _ => False
def rAug : Aop → R2
  | .add => fun x y H Q => rI0 (fun i j => .int (i + j)) x y H Q ∨ ∃ i j, x = .str i ∧ y = .str j ∧ i.length + j.length ≤ sizeLine ∧ Q (.str (i ++ j)) H
  | .sub => rI0 fun i j => .int (i - j)
theorem ip_rAug : ∀ o : Aop, PIp X o.op (rAug o)
  | .add => fun pins s σ H x y v u Q I rx ry h => (OpR.or iop_add iop_add_str) pins s σ H x y v u Q I rx ry h
  | .sub => fun pins s σ H x y v u Q I rx ry h => iop_sub pins s σ H x y v u Q I rx ry h
theorem aug_ok {o : Aop} {F H : Hp} {dx dy : D} {x y : V} {Ψ : D → Prop} {Q : VK} (h1 : Is a.toAn F dx x) (h2 : Is a.toAn F dy y) (h : augD o dx dy Ψ) (k : ∀ d v, Ψ d → d.flat = true → Is a.toAn F d v → Q v H) : rAug o x y H Q := by
  cases o with
  | add =>
    match dx, dy, h with
    | .int i, .int j, h =>
      obtain rfl := h1.int
      obtain rfl := h2.int
      exact .inl ⟨i, j, rfl, rfl, k _ _ h rfl isI⟩
    | .str i, .str j, h =>
      obtain rfl := h1.str
      obtain rfl := h2.str
      exact .inr ⟨i, j, rfl, rfl, small h.1, k _ _ h.2 rfl isS⟩
  | sub =>
    match dx, dy, h with
    | .int i, .int j, h =>
      obtain rfl := h1.int
      obtain rfl := h2.int
      exact ⟨i, j, rfl, rfl, k _ _ h rfl isI⟩
theorem ds_aug {o : Aop} {i : Nat} {x : Str} {d : D} {xp : Pos} (xo : XOk a X) (hN : X.N[i]? = some x) (hl : L2.Loc X.env.scope x) (hf : X.fn x = true ∨ X.env.scope.names.lookup x = some .local) (hat : ρ.at i = some (.leaf d)) (hi : i < ρ.length)
    (h : DE a X ρ e fun y => augD o d y.dat fun r => K.nx (ρ.put i (some (.leaf r)))) : DS a X ρ (.AugAssign (.Name x xp) o.op e pos) K := fun σ H D ok m => by
  refine ⟨_, ps_aug xo.nd hN hl pe_W (ip_rAug o) hf, ?_⟩
  show ∃ x, σ[i]? = some (some x) ∧ WE X e σ H fun y H1 => rAug o x y H1 fun z H2 => D.nx (σ.set i (some z)) H2
  obtain ⟨F, Sc, Sm, w⟩ := ok
  obtain ⟨v, S1, e1, h1, _⟩ := w.cells.get hat
  refine ⟨v, e1, ?_⟩
  refine h σ H [] [] _ ⟨F, Sc, Sm, w⟩ fun y ty H1 hy ok1 => ?_
  have i2 := ok1.top
  obtain ⟨F2, Sc2, Sm2, w2⟩ := ok1.pop1
  obtain ⟨v', S2, e2, h2, _⟩ := w2.cells.get hat
  rw [e1] at e2
  cases e2
  simp only [Ow] at h2
  refine aug_ok (h2.2.mono w2.subb) i2 hy fun r z hr fr ir => ?_
  exact m.1 _ _ _ hr (SOk.put hi rfl ⟨F2, Sc2, Sm2, w2.leaf (ir.flat fr)⟩)
theorem atI_of {α : Type} {xs : List α} {n : Int} {j : Nat} {x : α} (h : ixN xs.length n = some j) (h2 : xs[j]? = some x) : L2.atI xs n = some x := by
  unfold L2.atI
  rw [h]
  exact h2
theorem ds_augix {o : Aop} {i : Nat} {x : Str} {us : List T} {xp sp : Pos} (xo : XOk a X) (hW : a.W = []) (hN : X.N[i]? = some x) (hv : Vis X.env.scope x) (hd : (x == ("__debug__" : Str)) = false) (hc : (x == ("__classdict__" : Str)) = false)
    (hB : notSlice B = true) (hat : ρ.at i = some (.lst us)) (h : DE a X ρ B fun y => ∃ n j d, y.dat = .int n ∧ ixN us.length n = some j ∧ us[j]? = some (.leaf d) ∧ DE a X ρ e fun y2 => augD o d y2.dat fun r => K.nx (ρ.put i (some (.lst (us.set j (.leaf r)))))) :
    DS a X ρ (.AugAssign (.Subscript (.Name x xp) B sp) o.op e pos) K := fun σ H D ok m => by
  refine ⟨_, ps_augS (pvar hN hv hd hc) pe_W get_list pe_W (ip_rAug o) set_list (fun ov iv new => ?_), ?_⟩
  · cases B with
    | Slice l u st p =>
      cases st with
      | none => simp [notSlice] at hB
      | some _ => rfl
    | _ => rfl
  show tVar i σ H fun o1 H1 => WE X B σ H1 fun b H2 => rGetL X.K o1 b H2 fun x1 H3 => WE X e σ H3 fun y H4 => rAug o x1 y H4 fun z1 H5 => rSetL o1 b z1 H5 fun H6 => D.nx σ H6
  obtain ⟨F, Sc, Sm, w⟩ := ok
  obtain ⟨v, S1, e1, h3, _⟩ := w.cells.get hat
  simp only [Ow] at h3
  obtain ⟨_, l, ws0, _, rfl, hl0, _⟩ := h3
  refine ⟨_, e1, ?_⟩
  refine h σ H [] [] _ ⟨F, Sc, Sm, w⟩ fun b tb H2 ⟨n, j, d, hb, hj, hd', hy⟩ ok2 => ?_
  have ib := ok2.top
  rw [hb] at ib
  rw [ib.int]
  obtain ⟨F2, Sc2, Sm2, w2⟩ := ok2.pop1
  obtain ⟨v2, S2, e2, h4, _⟩ := w2.cells.get hat
  rw [e1] at e2
  cases e2
  simp only [Ow] at h4
  obtain ⟨_, l', ws2, S3, el, hl2, ho2, _⟩ := h4
  cases el
  obtain ⟨x1, S4, e4, h5, _⟩ := ho2.get hd'
  refine ⟨l, ws2, n, x1, rfl, rfl, .inl (.inl hl2), atI_of (by rw [ho2.length]; exact hj) e4, ?_⟩
  refine hy σ H2 [] [] _ ⟨F2, Sc2, Sm2, w2⟩ fun y2 ty2 H4 hy2 ok4 => ?_
  have i2 := ok4.top
  obtain ⟨F5, Sc5, Sm5, w5⟩ := ok4.pop1
  simp only [Ow] at h5
  -- the item stays as it was where it is flat; otherwise the operator says no
  have fl : d.flat = true := by
    cases o with
    | add =>
      generalize ty2.dat = dy at hy2
      match d, dy, hy2 with
      | .int _, .int _, _ => rfl
      | .str _, .str _, _ => rfl
    | sub =>
      generalize ty2.dat = dy at hy2
      match d, dy, hy2 with
      | .int _, .int _, _ => rfl
  refine aug_ok (h5.2.flat fl) i2 hy2 fun r z1 hr fr ir => ?_
  obtain ⟨l', ws, e6, hl6, lw, so⟩ := SW.store (j := j) (w5.leaf (ir.flat fr)) hW rfl hat (ixN_seq hj).2.1
  rw [e1] at e6
  cases e6
  exact ⟨l, ws, n, j, rfl, rfl, hl6, by rw [lw]; exact hj, m.1 _ σ _ hr so⟩
end
end DL
namespace DL
open PySem PySem.Spec PyProof.Rows L2
section
variable {a : An0} {X : Cx} {ρ : Env} {σ : L2.St} {ts : List T} {vs : List V} {H F : Hp} {Sc Sm : List Addr} {Φ : T → Prop} {pos p : Pos} {e A B C tg it elt : Expr} {es : List Expr} {Ψ : List D → Prop} {z : Bool} {st : Stmt} {rest body : List Stmt} {K : EnD}

/-- the store of any value by the general road -/
theorem ds_asgG {c : Ct} {g : Tg} (xo : XOk a X) (co : COk c X) (hg : okG c g tg = true) (h1 : swapsWithSole [tg] e pos.line X.env = pure false) (h2 : swappedStores [tg] e X.env = pure none) (h : DE a X ρ e fun t => t.fin fun u => ∃ ρ', bindG g u ρ = some ρ' ∧ K.nx ρ') : DS a X ρ (.Assign [tg] e pos) K := fun σ H D ok m => by
  refine ⟨_, ps_asg pe_W pg_W h1 h2 (asg_one hg), ?_⟩
  show WE X e σ H fun x H1 => WG X tg x σ H1 D.nx
  refine h σ H [] [] _ ok fun v t H1 h1 ok1 => SOk.fin ok1 h1 fun u ⟨ρ', hb, hk⟩ nu ok2 => ?_
  obtain ⟨F, Sc, Sm, w⟩ := ok2
  obtain ⟨S, h3, _⟩ := w.cut
  exact dg xo co hg (h3.nv nu) ⟨F, Sc, Sm, w⟩ hb fun σ' ok3 _ => m.1 ρ' σ' H1 hk ok3
/-- a comprehension whose target is turned around with the store -/
def swp (c : Ct) (y : Str) (py ps : Pos) (scope : Scope) : Bool :=
  (match c.sc.names.lookup y with | some .local => true | _ => false) && py.line == ps.line && !(scope.names.any fun (n, k) => n == y && (k == .local || k == .cell))
theorem swp_eq {c : Ct} {y : Str} {py ps : Pos} {scope : Scope} {gs : List Comprehension} {l : Nat} (co : COk c X) (hk : X.env.scope.kind = .function) : swapsWith (.ListComp elt gs scope ps) (some (.Name y py)) l X.env = pure (swp c y py ps scope) := by
  unfold swapsWith swp
  have hb : X.env.blockKind = .function := by unfold PySem.Env.blockKind; rw [hk]; rfl
  have hy : X.env.kindOf y = c.sc.names.lookup y := by show X.env.scope.names.lookup y = _; rw [co.sc]
  simp only [hb, hy, Expr.pos]
  cases hq : c.sc.names.lookup y with
  | none => simp
  | some k => cases k <;> first | (simp; done) | rfl
theorem ds_asgLc {c : Ct} {scope : Scope} {own : List (Str × Nat)} {g : Tg} {i : Nat} {y : Str} {py ps : Pos} {ifs : List Expr} {wc : Env → (Bool → Prop) → Prop} {we : Env → (T → Prop) → Prop} (xo : XOk a X) (co : COk c X) (hk : X.env.scope.kind = .function)
    (hN : nameIs c i y = true) (hl : c.loc y = true) (hi : i < ρ.length)
    (bk : blkC c.N c.sc scope own = true) (gk : okG (c.inn scope) g tg = true) (sl : ∀ i ∈ g.slots, i ∈ own.map (·.2)) (wp : ρ.wipes (own.map (·.2)) = ρ) (ns : notSet it = true)
    (hc : ∀ H F s H2 C cl fp ρ' Ψ, wc ρ' Ψ → ∀ σ H' ts vs Q, SOk (a.on H F) ρ' σ ts vs H' → (∀ b H'', Ψ b → SOk (a.on H F) ρ' σ ts vs H'' → Q b H'') → ∃ t, PTs (Blk X scope s H2 C cl fp) ifs t ∧ t σ H' Q)
    (he : ∀ H F s H2 C cl fp ρ' Ψ, we ρ' Ψ → DE (a.on H F) (Blk X scope s H2 C cl fp) ρ' elt Ψ)
    (h : DI a X ρ tg it fun ds => ds.length ≤ 100000 ∧ lcW g wc we ρ ds [] fun us => K.nx (ρ.put i (some (.lst us)))) :
    DS a X ρ (.Assign [.Name y py] (.ListComp elt [⟨tg, it, ifs, 0⟩] scope ps) pos) K := fun σ H D ok m => by
  have bo : BlkOk X.N X.env.scope scope own := by
    rw [co.N, co.sc]
    exact blkOk_by bk
  obtain ⟨l1, l2⟩ := Ct.loc_of co hl
  have fin : tLc (WI X tg it) (gB X scope tg) (tB' X scope ifs) (eB X scope elt) (own.map (·.2)) σ H fun x H1 => gName i x σ H1 D.nx := by
    refine lc_read (Φ := fun t => match t with
      | .lst us => K.nx (ρ.put i (some (.lst us)))
      | _ => False) xo co gk sl wp hc he h ok fun v t H' hk' ok' => ?_
    match t, hk', ok' with
    | .lst us, hk', ok' =>
      obtain ⟨F, Sc, Sm, w⟩ := ok'
      obtain ⟨S, h3, _⟩ := w.cut
      exact m.1 _ _ _ hk' (SOk.put hi (h3.nv rfl) ⟨F, Sc, Sm, w⟩)
  cases hs : swp c y py ps scope with
  | true =>
    have hloc : X.env.scope.names.lookup y = some .local := by
      rw [co.sc]
      unfold swp at hs
      simp only [Bool.and_eq_true] at hs
      have := hs.1.1
      split at this
      · assumption
      · cases this
    exact ⟨_, ps_setLc xo.calm xo.nd (nameIs_of co hN) hloc ((swp_eq co hk).trans (by rw [hs])) pi_W bo gB_ok tB_ok eB_ok (itset ns), fin⟩
  | false =>
    exact ⟨_, ps_set xo.nd (nameIs_of co hN) l1 (pe_lc (own := own) xo.calm xo.nd pi_W bo gB_ok tB_ok eB_ok (itset ns)) ((swp_eq co hk).trans (by rw [hs])) l2, fin⟩
/-- a, b = x, y stored from the stack -/
def isStar : Expr → Bool
  | .Starred _ _ => true
  | _ => false
def lcl (c : Ct) (x : Str) : Bool := match c.sc.names.lookup x with
  | some .local => true
  | _ => false
def par2Ok (c : Ct) (x y : Str) (px py : Pos) (A B : Expr) : Bool :=
  lcl c x && lcl c y && py.line == px.line && !isStar A && !isStar B && !(x == y) && !([A, B].all (foldedForSure 8)) && !([A, B].all (constantsAlone 8))
theorem lcl_of {c : Ct} {x : Str} (co : COk c X) (h : lcl c x = true) : X.env.scope.names.lookup x = some .local := by
  rw [co.sc]
  unfold lcl at h
  split at h
  · assumption
  · cases h
theorem par2_eq {c : Ct} {x y : Str} {px py pt pt2 : Pos} {kt k2 : Nat} (co : COk c X) (hk : X.env.scope.kind = .function) (h : par2Ok c x y px py A B = true) :
    swappedStores [.Tuple [.Name x px, .Name y py] kt pt] (.Tuple [A, B] k2 pt2) X.env = pure (some [x, y]) := by
  unfold par2Ok at h
  simp only [Bool.and_eq_true, Bool.not_eq_true'] at h
  obtain ⟨⟨⟨⟨⟨⟨⟨h1, h2⟩, h3⟩, h4⟩, h5⟩, h6⟩, h7⟩, h8⟩ := h
  have hb : X.env.blockKind = .function := by unfold PySem.Env.blockKind; rw [hk]; rfl
  have hx : X.env.kindOf x = some .local := lcl_of co h1
  have hy : X.env.kindOf y = some .local := lcl_of co h2
  have e : ∀ e : Expr, (match e with | .Starred .. => true | _ => false) = isStar e := fun e => by cases e <;> rfl
  have hs : ([A, B].any fun | .Starred .. => true | _ => false) = false := by
    simp only [List.any_cons, List.any_nil, Bool.or_false]
    rw [e, e, h4, h5]
    rfl
  have ne : ¬ y = x := fun z => by rw [z] at h6; simp at h6
  have ed : ([x, y].eraseDups.length != [x, y].length) = false := by
    have : (y == x) = false := by simpa using ne
    simp [List.eraseDups_cons, this]
  unfold swappedStores
  simp only [hb, hx, hy, hs, h7, h8, Expr.pos, List.head?_cons, Option.map_some, Option.getD_some, List.filterMap_cons, List.filterMap_nil, List.length_cons, List.length_nil]
  simp [h3, ed]
  have len : [x, y].eraseDups.length = 2 := by simpa using ed
  rw [if_neg (fun z => z.elim (fun z => by have z2 : isStar A = true := z; rw [h4] at z2; cases z2) fun z => by have z2 : isStar B = true := z; rw [h5] at z2; cases z2), if_pos len]
theorem ds_par2 {c : Ct} {i j : Nat} {x y : Str} {px py pt pt2 : Pos} {kt k2 : Nat} (xo : XOk a X) (co : COk c X) (hk : X.env.scope.kind = .function) (hx : nameIs c i x = true) (hy : nameIs c j y = true) (hij : i ≠ j) (hp : par2Ok c x y px py A B = true)
    (hi : i < ρ.length) (hj : j < ρ.length) (h : DA a X ρ [A, B] fun us => ∃ u v, us = [u, v] ∧ K.nx ((ρ.put i (some u)).put j (some v))) :
    DS a X ρ (.Assign [.Tuple [.Name x px, .Name y py] kt pt] (.Tuple [A, B] k2 pt2) pos) K := fun σ H D ok m => by
  have hp' := hp
  unfold par2Ok at hp'
  simp only [Bool.and_eq_true] at hp'
  refine ⟨_, ps_par xo.calm xo.nd (nameIs_of co hx) (nameIs_of co hy) hij (lcl_of co hp'.1.1.1.1.1.1.1) (lcl_of co hp'.1.1.1.1.1.1.2) pa_W (par2_eq co hk hp), ?_⟩
  show WA X [A, B] σ H fun vs H1 => ∃ v w, vs = [v, w] ∧ D.nx ((σ.set i (some v)).set j (some w)) H1
  refine h σ H [] [] _ ok fun ws us H1 ⟨u, v, e, hk⟩ nu l ok1 => ?_
  subst e
  obtain ⟨y1, y2, rfl⟩ : ∃ y1 y2, ws = [y1, y2] := by
    match ws, l with
    | [y1, y2], _ => exact ⟨y1, y2, rfl⟩
  simp only [List.all_cons, List.all_nil, Bool.and_true, Bool.and_eq_true] at nu
  obtain ⟨F, Sc, Sm, w⟩ := ok1
  obtain ⟨S, h3, _⟩ := w.cut
  obtain ⟨Sc2, Sm2, w2⟩ := SW.put (ts := [v]) (vs := [y2]) w hi (h3.nv nu.1)
  obtain ⟨S2, h4, _⟩ := w2.cut
  exact ⟨y1, y2, rfl, m.1 _ _ _ hk (SOk.put (by rw [Env.put_length]; exact hj) (h4.nv nu.2) ⟨F, Sc2, Sm2, w2⟩)⟩
/-- not all the names stored are plain ones: no store from the stack -/
def offStack (c : Ct) : Expr → Expr → Bool
  | .Tuple ts _ _, .Tuple _ _ _ => ts.any fun t => match t with
    | .Name x _ => !lcl c x
    | _ => true
  | _, _ => false
def noPar2 (c : Ct) (t v : Expr) : Bool := noPar t v || offStack c t v
theorem filterMap_short {α β : Type} {f : α → Option β} : ∀ {xs : List α}, (∃ x ∈ xs, f x = none) → (xs.filterMap f).length < xs.length
  | [], h => by simp at h
  | x :: xs, h => by
    cases hf : f x with
    | none =>
      rw [List.filterMap_cons_none hf]
      exact Nat.lt_succ_of_le (List.length_filterMap_le _ _)
    | some y =>
      rw [List.filterMap_cons_some hf, List.length_cons, List.length_cons]
      refine Nat.succ_lt_succ (filterMap_short ?_)
      obtain ⟨z, hz, e⟩ := h
      rcases List.mem_cons.mp hz with rfl | hz
      · rw [hf] at e; cases e
      · exact ⟨z, hz, e⟩
theorem nopar2_aux {c : Ct} {ts vs : List Expr} {k1 k2 : Nat} {p1 p2 : Pos} (co : COk c X) (h : offStack c (.Tuple ts k1 p1) (.Tuple vs k2 p2) = true) : swappedStores [.Tuple ts k1 p1] (.Tuple vs k2 p2) X.env = pure none := by
  unfold offStack at h
  obtain ⟨x, hx, hl⟩ := List.any_eq_true.mp h
  unfold swappedStores
  simp only [pure_bind]
  split
  · rfl
  · split
    · rfl
    · rw [if_pos]
      have := filterMap_short (f := fun e => match e with
        | .Name id pos => if X.env.kindOf id == some .local && pos.line == (ts.head?.map (·.pos.line)).getD 0 then some id else none
        | _ => none) (xs := ts) ⟨x, hx, by
          cases x <;> try rfl
          rename_i y p
          have hy : X.env.kindOf y = c.sc.names.lookup y := by show X.env.scope.names.lookup y = _; rw [co.sc]
          simp only [hy]
          simp only [Bool.not_eq_true'] at hl
          unfold lcl at hl
          cases hq : c.sc.names.lookup y with
          | none => rfl
          | some k => cases k <;> first | rfl | (rw [hq] at hl; cases hl)⟩
      simp only [Bool.or_eq_true, bne_iff_ne, ne_eq]
      exact .inl (Nat.ne_of_lt this)
theorem nopar2 {c : Ct} {t v : Expr} (co : COk c X) (h : noPar2 c t v = true) : swappedStores [t] v X.env = pure none := by
  unfold noPar2 at h
  rcases (Bool.or_eq_true _ _).mp h with h | h
  · exact nopar h
  · cases t <;> cases v <;> first
      | exact nopar2_aux co h
      | cases h
end
end DL
namespace DL
open PySem PySem.Spec PyProof.Rows L2

/-! ### isinstance(x, T), T a built-in type -/
inductive Ty where
  | int | bool | str | tuple | list | dict
  deriving DecidableEq
def Ty.nm : Ty → Str
  | .int => "int" | .bool => "bool" | .str => "str" | .tuple => "tuple" | .list => "list" | .dict => "dict"
def Ty.id : Ty → String
  | .int => "int" | .bool => "bool" | .str => "str" | .tuple => "tuple" | .list => "list" | .dict => "dict"
def D.isT : D → Ty → Option Bool
  | .non, _ => some false
  | .bl _, .int => some true
  | .bl _, .bool => some true
  | .bl _, _ => some false
  | .int _, .int => some true
  | .int _, _ => some false
  | .str _, .str => some true
  | .str _, _ => some false
  | .tup _, .tuple => some true
  | .tup _, _ => some false
  | .lst _, .list => some true
  | .lst _, _ => some false
  | _, _ => none
theorem tyx_tup {K : PySem.W.Frag} {H : Hp} {p : Addr} {vs : List V} (h : SqT K H p vs) : TyX K H (.ref p) (.type "tuple") := by
  rcases h with (h | ⟨o, h⟩) | ⟨o, _, _, h1, h2, _⟩
  · exact .base (.tup h)
  · exact .fTuple h
  · exact .kTuple h1 h2
theorem kitN {K : PySem.W.Frag} : ∀ ty : Ty, PySem.W.kitOne K (.type "NoneType") (.type ty.id) = some false
  | .int | .bool | .str | .tuple | .list | .dict => kit_ty (by decide +kernel)
theorem isT_ok {a : An0} {F H : Hp} {d : D} {ty : Ty} {v : V} {b : Bool} (s : Sub F H) (i : Is a.toAn F d v) (h : d.isT ty = some b) : ∃ t, TyX a.K H v t ∧ PySem.W.kitOne a.K t (.type ty.id) = some b := by
  cases d with
  | non => rw [i.non]; cases h; exact ⟨_, .base .non, kitN ty⟩
  | bl k => rw [i.bl]; refine ⟨_, .base (.bl k), ?_⟩; cases ty <;> cases h <;> exact kit_ty (by decide +kernel)
  | int k => rw [i.int]; refine ⟨_, .base (.int k), ?_⟩; cases ty <;> cases h <;> exact kit_ty (by decide +kernel)
  | str k => rw [i.str]; refine ⟨_, .base (.str k), ?_⟩; cases ty <;> cases h <;> exact kit_ty (by decide +kernel)
  | tup ds =>
    simp only [Is] at i
    obtain ⟨p, vs, rfl, q, _⟩ := i
    refine ⟨_, tyx_tup (sub_t s q), ?_⟩
    cases ty <;> cases h <;> exact kit_ty (by decide +kernel)
  | lst ds =>
    simp only [Is] at i
    obtain ⟨p, vs, rfl, q, _⟩ := i
    refine ⟨_, .base (.lst (s _ _ q)), ?_⟩
    cases ty <;> cases h <;> exact kit_ty (by decide +kernel)
  | bag => cases ty <;> cases h
  | obj _ _ => cases ty <;> cases h
  | scr _ => cases ty <;> cases h
section
variable {a : An0} {X : Cx} {ρ : DL.Env} {Φ : T → Prop} {e A B : Expr} {p p1 p2 pos : Pos}
theorem de_isi {ty : Ty} (xo : XOk a X) (hg : Gl X "isinstance") (hm : X.mg "isinstance" = none) (hg2 : Gl X ty.nm) (hm2 : X.mg ty.nm = none) (h1 : notStar e = true)
    (h : DE a X ρ e fun t => ∃ b, t.dat.isT ty = some b ∧ Φ (.leaf (.bl b))) : DE a X ρ (.Call (.Name "isinstance" p) [e, .Name ty.nm p1] [] pos) Φ := fun σ H ts vs Q ok k => by
  have hv : bootBuiltins ty.nm = some (.type ty.id) := by cases ty <;> decide +kernel
  have hn : ty.nm ≠ "__name__" := by cases ty <;> decide
  have hd : (ty.nm == ("__debug__" : Str)) = false := by cases ty <;> decide
  refine ⟨_, pe_callB call_isi hg hm (by decide +kernel) (pa_cons pe_W (pa_cons (pe_bltn (v := .ty ty.id) hg2 hm2 hv rfl hn hd) pa_nil) (star_of h1)) (by decide) (by decide) (star_of h1) rfl, ?_⟩
  show WE X e σ H fun x H1 => rIsi X.K [x, .ty ty.id] H1 Q
  refine h σ H ts vs _ ok fun x t H1 ⟨b, e1, hb⟩ ok1 => ?_
  obtain ⟨u, tx, kt⟩ := isT_ok (hb_sub _ _) ok1.top e1
  rw [xo.K]
  exact ⟨x, .ty ty.id, u, .type ty.id, b, rfl, .ty _, tx, kt, k _ _ H1 hb ok1.pop1.bl⟩
/-! ### list(range(..)) -/
theorem ok_ints {σ : L2.St} {H : Hp} {ts : List T} {vs : List V} (ns : List Int) (ok : SOk a ρ σ ts vs H) {p : Addr} (hp : H p = none) : SOk a ρ σ (.lst (ns.map fun n => .leaf (.int n)) :: ts) (.ref p :: vs) (upd H p (.lst (ns.map V.int))) := by
  have hm : (ns.map fun n => T.leaf (.int n)) = (ns.map D.int).map .leaf := by simp
  rw [hm]
  obtain ⟨F, Sc, Sm, w⟩ := ok
  have w2 : SW a ρ σ ((ns.map D.int).map .leaf ++ ts) (ns.map V.int ++ vs) H F Sc Sm :=
    w.tmp (Sn := [] ++ Sm) (OwL.join (OwL.leafs (IsL.ints.mpr rfl)) w.tmps) (List.nodup_append.mp w.nd).2.1 fun _ h => h
  obtain ⟨Sm', w3⟩ := w2.mkLst (by simp) (nvw_leaf _) hp
  exact ⟨F, Sc, Sm', w3⟩
def rgI (a b : Int) : List Int := (List.range (b - a).toNat).map fun (k : Nat) => a + (k : Int)
theorem rgV_eq (a b : Int) : rgV a b = (rgI a b).map V.int := by
  unfold rgV rgI
  rw [List.map_map]; rfl
def rgT (a b : Int) : T := .lst ((rgI a b).map fun n => .leaf (.int n))
def RgS (a b : Int) : Prop := -(2 ^ 61) ≤ a ∧ a ≤ 2 ^ 61 ∧ -(2 ^ 61) ≤ b ∧ b ≤ 2 ^ 61 ∧ b - a ≤ 100000
theorem RgS.ok {a b : Int} (h : RgS a b) : RgOk a b := by
  unfold RgS at h; unfold RgOk
  refine ⟨?_, ?_, ?_, ?_, ?_⟩ <;> omega
theorem de_lr1 (xo : XOk a X) (hg : Gl X "list") (hm : X.mg "list" = none) (hg2 : Gl X "range") (hm2 : X.mg "range" = none) (h1 : notStar A = true)
    (h : DE a X ρ A fun t => ∃ j, t.dat = .int j ∧ RgS 0 j ∧ Φ (rgT 0 j)) : DE a X ρ (.Call (.Name "list" p) [.Call (.Name "range" p1) [A] [] p2] [] pos) Φ := fun σ H ts vs Q ok k => by
  refine ⟨_, pe_listRg xo.calm hg hm (prg_1 hg2 hm2 pe_W (star_of h1)) rfl, ?_⟩
  show WE X A σ H fun x H1 => ∃ n, x = .int n ∧ (RgOk 0 n ∧ ∀ q, H1 q = none → Q (.ref q) (upd H1 q (.lst (rgV 0 n))))
  refine h σ H ts vs _ ok fun x t H1 ⟨j, e, s, q⟩ ok1 => ?_
  have i1 := ok1.top
  rw [e] at i1
  refine ⟨j, i1.int, s.ok, fun p hp => ?_⟩
  rw [rgV_eq]
  exact k _ _ _ q (ok_ints _ ok1.pop1 hp)
theorem de_lr2 (xo : XOk a X) (hg : Gl X "list") (hm : X.mg "list" = none) (hg2 : Gl X "range") (hm2 : X.mg "range" = none) (h1 : notStar A = true) (h2 : notStar B = true)
    (h : DE a X ρ A fun t => DE a X ρ B fun u => ∃ i j, t.dat = .int i ∧ u.dat = .int j ∧ RgS i j ∧ Φ (rgT i j)) : DE a X ρ (.Call (.Name "list" p) [.Call (.Name "range" p1) [A, B] [] p2] [] pos) Φ := fun σ H ts vs Q ok k => by
  refine ⟨_, pe_listRg xo.calm hg hm (prg_2 hg2 hm2 pe_W pe_W (star_of h1) (star_of h2) (by rw [star_of h2]; rfl)) rfl, ?_⟩
  show WE X A σ H fun x H1 => WE X B σ H1 fun y H2 => ∃ i j, x = .int i ∧ y = .int j ∧ (RgOk i j ∧ ∀ q, H2 q = none → Q (.ref q) (upd H2 q (.lst (rgV i j))))
  refine h σ H ts vs _ ok fun x t H1 q ok1 => q σ H1 _ _ _ ok1 fun y u H2 ⟨i, j, e1, e2, s, q⟩ ok2 => ?_
  obtain ⟨i1, i2, ok3⟩ := ok2.two
  rw [e1] at i1
  rw [e2] at i2
  refine ⟨i, j, i1.int, i2.int, s.ok, fun p hp => ?_⟩
  rw [rgV_eq]
  exact k _ _ _ q (ok_ints _ ok3 hp)
end
end DL
namespace DL
open PySem PySem.Spec PyProof.Rows L2

/-! ### own classes: methods, properties, new objects, where a def's promise knows no guards -/
section
variable {X : Cx} {CX : CXT} {k : Nat} {f C p0 : Addr} {fd : FuncData} {ps : List Str} {sp : Sp} {E : XK} {x m : Str} {p pos apos : Pos} {e o : Expr} {es : List Expr} {ta : TE} {t : TA}
theorem pe_methG {pl : Sem Bool} (he : PE X o ta) (c : Cls X.K C) (hm : Meth X.K C m f) (F : FnG X.prog X.w X.K X.mg X.base CX k f fd ps sp) (gu : X.A.guards = some []) (hr : Room k X.A) (hb : Binds X.K fd ps []) (hx : Passes CX X E) (ha : PA X (e :: es) t)
    (hst : starEach (e :: es) X.env = (false, eval e X.env) :: starEach es X.env) (hpl : (backTo pos (starEach es X.env)).any (·.1) = false)
    (ht : eval (.Call (.Attribute o m apos) (e :: es) [] pos) X.env = (do let ov ← eval o X.env; standAt apos.atName; let (f, first) ← holding [ov] (getMethod ov m pl); callWith pos f first (backTo pos (starEach (e :: es) X.env)) (backToKw pos (keywordEach [] X.env)))) :
    PE X (.Call (.Attribute o m apos) (e :: es) [] pos) (tMeth C m sp [] E ta t) :=
  ⟨fun pins s σ H Q I h => PySem.W.methodCall_KW (pl := pl) (thn (he.run pins s σ H _ I h) fun u s1 ⟨x, H1, I1, rx, a, dx, fs, ex, ea, l, q⟩ => by
    subst ex
    cases (show u = Value.ref a from rx)
    exact getmeth_ok I1 ea c hm l (PySem.W.callWith_K (first := [.ref a]) (h₀ := X.base) I.ok.mod.kin hm.kp
      (thn (ha.run pos pins s1 σ H1 _ I1 q) fun us s2 ⟨vs, H2, I2, r, q2⟩ => ⟨I2.kIn, run_G (us := .ref a :: us) (vs := .ref a :: vs) F gu hr hb .nil hx I2 (.cons rfl r) q2⟩) hst hpl)) ht⟩
theorem pe_methG0 {pl : Sem Bool} (he : PE X o ta) (c : Cls X.K C) (hm : Meth X.K C m f) (F : FnG X.prog X.w X.K X.mg X.base CX k f fd ps sp) (gu : X.A.guards = some []) (hr : Room k X.A) (hb : Binds X.K fd ps []) (hx : Passes CX X E)
    (ht : eval (.Call (.Attribute o m apos) [] [] pos) X.env = (do let ov ← eval o X.env; standAt apos.atName; let (f, first) ← holding [ov] (getMethod ov m pl); callWith pos f first (backTo pos (starEach [] X.env)) (backToKw pos (keywordEach [] X.env)))) :
    PE X (.Call (.Attribute o m apos) [] [] pos) (tMeth C m sp [] E ta tNil) :=
  ⟨fun pins s σ H Q I h => PySem.W.methodCall_KW (pl := pl) (thn (he.run pins s σ H _ I h) fun u s1 ⟨x, H1, I1, rx, a, dx, fs, ex, ea, l, q⟩ => by
    subst ex
    cases (show u = Value.ref a from rx)
    exact getmeth_ok I1 ea c hm l (PySem.W.callWith_K0 (first := [.ref a]) I1.kIn hm.kp (run_G (us := [.ref a]) (vs := [.ref a]) F gu hr hb .nil hx I1 (.cons rfl .nil) q))) ht⟩
theorem run_makeG {pins : List (Addr × Obj)} {σ : L2.St} {H : Hp} {s : Shared} {Q : VK} {us : List Value} {vs : List V} (M : Mk X.K C f) (F : FnG X.prog X.w X.K X.mg X.base CX k f fd ps sp) (gu : X.A.guards = some []) (hr : Room (k + 1) X.A) (hb : Binds X.K fd ps [])
    (hx : Passes CX X E) (I : Inv X pins σ H s) (r : Vals vs us)
    (h : ∀ x dx, H x = none → H dx = none → dx ≠ x → sp (.ref x :: vs) (upd (upd H dx (.own x)) x (.ins C dx [])) (fun v H2 => v = .non ∧ Q (.ref x) H2) E) :
    wpAny (model X.prog X.w) X.A (call (.ref C) us) (EP X pins σ Q) X.xe s := by
  have I2 := Inv.made (C := C) I
  have hq := h _ _ (I.hok.fresh (Nat.le_succ s.heap.objs.size)) (I.hok.fresh (Nat.le_refl s.heap.objs.size)) (Nat.ne_of_lt (Nat.lt_succ_self _))
  have both : Vals (V.ref (s.heap.objs.size + 1) :: vs) (Value.ref (s.heap.objs.size + 1) :: us) := .cons rfl r
  have n : (Value.ref (s.heap.objs.size + 1) :: us ++ []).length = ps.length := by
    rw [List.append_nil, ← both.length]; exact F.len _ _ _ _ hq
  have bd := hb _ (Value.ref (s.heap.objs.size + 1) :: us) I2.kIn n
  rw [List.append_nil] at bd
  have go := F.run (X.A.under (.builtin "type.__call__" ⟨.ref C :: us, []⟩)) X.stack _ _ ⟨Value.ref (s.heap.objs.size + 1) :: us, []⟩ _ _ _ E gu (hr.make C us []) (I2.env0.make C us []) bd both hq
  refine wpAny_call (make_map (f := f) I.kIn M.makes M.init (beq_iff_eq.mp M.fn) (codeAny_mono go fun res s' hq' => ?_))
  match res, hq' with
  | .error er, hq' => exact hx pins σ _ _ er s' I2 hq'
  | .ok (.ret u), hq' =>
    obtain ⟨v, H', I3, rv, ev, q3⟩ := I2.after hq'
    subst ev
    exact ⟨rv, V.ref (s.heap.objs.size + 1), H', I3, rfl, q3⟩
  | .ok .next, hq' => exact False.elim hq'
  | .ok .brk, hq' => exact False.elim hq'
  | .ok .cont, hq' => exact False.elim hq'
theorem pe_makeG (M : Mk X.K C f) (F : FnG X.prog X.w X.K X.mg X.base CX k f fd ps sp) (gu : X.A.guards = some []) (hr : Room (k + 1) X.A) (hg : Gl X x) (hm : X.mg x = some (.ref C)) (hb : Binds X.K fd ps []) (hx : Passes CX X E)
    (ha : PA X (e :: es) t) (hdb : (x == ("__debug__" : Str)) = false) (he : starEach (e :: es) X.env = (false, eval e X.env) :: starEach es X.env) (hpl : (backTo pos (starEach es X.env)).any (·.1) = false) :
    PE X (.Call (.Name x p) (e :: es) [] pos) (tMake C sp [] E t) :=
  ⟨fun pins s σ H Q I h => wpAny_Call_Name_kw (ld_glob I hg hm (PySem.W.callWith_K (h₀ := X.base) I.ok.mod.kin M.kp
    (thn (ha.run pos pins s σ H _ I h) fun us s1 ⟨vs, H1, I1, r, q⟩ => ⟨I1.kIn, run_makeG M F gu hr hb hx I1 r fun x dx a b c => by have := q x dx a b c; rwa [List.append_nil] at this⟩) he hpl) hdb)⟩
theorem pe_propG {n : Str} (he : PE X e ta) (c : Cls X.K C) (hp : PropOf X.K C n p0 f) (F : FnG X.prog X.w X.K X.mg X.base CX k f fd ps sp) (gu : X.A.guards = some []) (hr : Room (k + 1) X.A) (hb : Binds X.K fd ps []) (hx : Passes CX X.nox E)
    (hab : attributeBase e n X.env (eval e X.env) = eval e X.env) : PE X (.Attribute e n pos) (tProp C sp [] E ta) :=
  ⟨fun pins s σ H Q I h => attr_of hab (thn (he.run pins s σ H _ I h) fun u s0 ⟨y, H1, I1, rx, a, dx, fs, ex, ea, q⟩ => by
    subst ex
    cases (show u = Value.ref a from rx)
    obtain ⟨mA, O, _, _, _, _⟩ := ins_get I1.hok ea
    obtain ⟨od, J, _⟩ := O.look
    obtain ⟨rest, hrec⟩ := hp.rec_
    have I2 := I1.tok (s0.toks + 1)
    have n1 : ([Value.ref a] ++ []).length = ps.length := (F.len _ _ _ _ q).symm ▸ rfl
    have known : (PySem.W.clsIn X.K C).isSome = true := by
      obtain ⟨cd, hc, _⟩ := PySem.W.any_some c.hd
      rw [hc]; rfl
    have go := F.run X.A.in1 X.stack { s0 with toks := s0.toks + 1 } H1 ⟨[.ref a], []⟩ [.ref a] [.ref a] Q E gu hr.in1 I2.env0.in1 (hb _ [.ref a] I2.kIn n1) (.cons rfl .nil) q
    refine PySem.W.get_bind I1.kIn J (PySem.W.plainGet_of (c.get n)).1 (PySem.W.findObj_data known hp.at_ hp.get hp.tak) (PySem.W.plainGet_of (c.get n)).2 (wpAny_call (PySem.W.prop_get (s := { s0 with toks := s0.toks + 1 }) I1.kIn hrec (codeAny_mono go fun res s' hq => ?_)))
    match res, hq with
    | .error er, hq => exact False.elim (hx pins σ H1 { s0 with toks := s0.toks + 1 } er s' (I2.wish _) hq)
    | .ok (.ret u), hq =>
      obtain ⟨v, H', I3, rv, q3⟩ := I2.after hq
      show wpAny _ _ (handedOut u) _ _ _
      rw [PySem.W.handedOut_of (handed_of rv)]
      exact wpAny_pure ⟨v, H', I3, rv, q3⟩
    | .ok .next, hq => exact False.elim hq
    | .ok .brk, hq => exact False.elim hq
    | .ok .cont, hq => exact False.elim hq)⟩
end
end DL
namespace DL
open PySem PySem.Spec PyProof.Rows L2

/-! ### objects in plain data -/
/-- a constructor's promise: the new object x stands empty -/
def spI (K : PySem.W.Frag) (cls : Nat → Option (Addr × List Str)) (c : Nat) (f : SpecF) : Sp := fun vs H Q _ =>
  ∃ (bg : Option Addr) (F H0 : Hp) (ds : List D) (x dx C : Addr) (ns : List Str) (ws : List V), vs = .ref x :: ws ∧ cls c = some (C, ns) ∧ H0 x = none ∧ H0 dx = none ∧ dx ≠ x ∧ H = upd (upd H0 dx (.own x)) x (.ins C dx []) ∧
    Sub F H0 ∧ BagOk ⟨K, bg, cls⟩ F H0 ∧ IsL ⟨K, bg, cls⟩ F ds ws ∧
    f ds fun t => ∀ F' H', Sub F' H' → Gw bg.toList F H0 F' H' → BagOk ⟨K, bg, cls⟩ F' H' → Ow ⟨K, bg, cls⟩ F' H' t (.ref x) [] → Q .non H'
structure MtAt (a : An0) (X : Cx) (c : Nat) (m : Str) (f : SpecF) : Prop where
  ex : ∃ (C fa : Addr) (ns : List Str) (fd : FuncData) (k : Nat) (ps : List Str), a.cls c = some (C, ns) ∧ m ∉ ns ∧ Cls X.K C ∧ Meth X.K C m fa ∧ FnG X.prog X.w X.K X.mg X.base CX0 k fa fd ps (spD a.K a.cls f) ∧ Room k X.A ∧ Binds X.K fd ps []
structure PrAt (a : An0) (X : Cx) (c : Nat) (m : Str) (f : SpecF) : Prop where
  ex : ∃ (C fa p : Addr) (ns : List Str) (fd : FuncData) (k : Nat) (ps : List Str), a.cls c = some (C, ns) ∧ Cls X.K C ∧ PropOf X.K C m p fa ∧ FnG X.prog X.w X.K X.mg X.base CX0 k fa fd ps (spD a.K a.cls f) ∧ Room (k + 1) X.A ∧ Binds X.K fd ps []
structure NwAt (a : An0) (X : Cx) (x : Str) (f : SpecF) : Prop where
  ex : ∃ (C fa : Addr) (c : Nat) (ns : List Str) (fd : FuncData) (k : Nat) (ps : List Str), a.cls c = some (C, ns) ∧ Mk X.K C fa ∧ X.mg x = some (.ref C) ∧ FnG X.prog X.w X.K X.mg X.base CX0 k fa fd ps (spI a.K a.cls c f) ∧ Room (k + 1) X.A ∧ Binds X.K fd ps []
structure FdAt (a : An0) (X : Cx) (c i : Nat) (n : Str) : Prop where
  ex : ∃ (C : Addr) (ns : List Str), a.cls c = some (C, ns) ∧ ns[i]? = some n ∧ ns.Nodup ∧ Cls X.K C ∧ NoAttr X.K C n
theorem lookup_zip : ∀ {ns : List Str} {vs : List V} {i : Nat} {n : Str} {v : V}, ns.Nodup → ns[i]? = some n → vs[i]? = some v → (ns.zip vs).lookup n = some v
  | [], _, _, _, _, _, h, _ => by simp at h
  | _ :: _, [], _, _, _, _, _, h => by simp at h
  | m :: ns, u :: vs, 0, n, v, nd, h1, h2 => by
    simp only [List.getElem?_cons_zero, Option.some.injEq] at h1 h2
    subst h1 h2
    simp [List.lookup]
  | m :: ns, u :: vs, i + 1, n, v, nd, h1, h2 => by
    simp only [List.getElem?_cons_succ] at h1 h2
    obtain ⟨n1, n2⟩ := List.nodup_cons.mp nd
    have ne : n ≠ m := fun e => n1 (e ▸ List.mem_of_getElem? h1)
    rw [List.zip_cons_cons, List.lookup_cons]
    simp only [show (n == m) = false from by simpa using ne]
    exact lookup_zip n2 h1 h2
theorem lookup_zip_none : ∀ {ns : List Str} {vs : List V} {n : Str}, n ∉ ns → (ns.zip vs).lookup n = none
  | [], _, _, _ => rfl
  | _ :: _, [], _, _ => rfl
  | m :: ns, u :: vs, n, h => by
    rw [List.zip_cons_cons, List.lookup_cons]
    have ne : n ≠ m := fun e => h (e ▸ List.mem_cons_self)
    simp only [show (n == m) = false from by simpa using ne]
    exact lookup_zip_none fun z => h (List.mem_cons_of_mem _ z)
section
variable {a : An0} {X : Cx} {ρ : DL.Env} {σ : L2.St} {ts : List T} {vs : List V} {H F : Hp} {Sc Sm : List Addr} {Φ : T → Prop} {pos p apos : Pos} {e o : Expr} {es : List Expr} {z : Bool}
theorem SW.top1 {d : D} {v : V} (w : SW a ρ σ (.leaf d :: ts) (v :: vs) H F Sc Sm) : Is a.toAn F d v ∧ SW a ρ σ ts vs H F Sc Sm := by
  obtain ⟨v', r, S1, S2, e, h1, h2, e2⟩ := (show ∃ v' r S1 S2, v :: vs = v' :: r ∧ Ow a.toAn F H (.leaf d) v' S1 ∧ OwL a.toAn F H ts r S2 ∧ Sm = S1 ++ S2 by
    have := w.tmps; simpa only [OwL] using this)
  cases e
  simp only [Ow] at h1
  obtain ⟨rfl, h1⟩ := h1
  subst e2
  exact ⟨h1, w.sub, w.gw, w.bagM, w.bag, w.cells, h2, w.nd, w.fr, w.len, w.wit, w.wif⟩
theorem de_fld {c i : Nat} {n : Str} (fd : FdAt a X c i n) (hb : attributeBase e n X.env (eval e X.env) = eval e X.env) (h : DE a X ρ e fun t => ∃ fs d, t = .leaf (.obj c fs) ∧ fs[i]? = some d ∧ Φ (.leaf d)) : DE a X ρ (.Attribute e n pos) Φ := fun σ H ts vs Q ok k => by
  obtain ⟨C, ns, hc, hn, nd, cl, na⟩ := fd.ex
  refine ⟨_, pe_fld pe_W hb, ?_⟩
  show WE X e σ H fun x H1 => _
  refine h σ H ts vs _ ok fun x t H1 ⟨fs, d, e1, hd, q⟩ ok1 => ?_
  subst e1
  obtain ⟨F, Sc, Sm, w⟩ := ok1
  obtain ⟨is, w'⟩ := w.top1
  simp only [Is] at is
  obtain ⟨p, C', ns', dx, us, rfl, hc', l, hp, il⟩ := is
  rw [hc] at hc'
  cases hc'
  obtain ⟨v, hv, iv⟩ := il.get hd
  exact ⟨p, C, dx, _, v, rfl, w.sub _ _ hp, cl, na, lookup_zip nd hn hv, k v _ H1 q ⟨F, Sc, Sm, w'.leaf iv⟩⟩
theorem de_mth {c : Nat} {m : Str} {f : SpecF} {pl : Sem Bool} (xo : XOk a X) (io : z = true → NoIo a) (mt : MtAt a X c m f) (h1 : notStar e = true) (h2 : es.all notStar = true)
    (ht : eval (.Call (.Attribute o m apos) (e :: es) [] pos) X.env = (do let ov ← eval o X.env; standAt apos.atName; let (f, first) ← holding [ov] (getMethod ov m pl); callWith pos f first (backTo pos (starEach (e :: es) X.env)) (backToKw pos (keywordEach [] X.env))))
    (h : DE a X ρ o fun t => ∃ fs, t = .leaf (.obj c fs) ∧ DV a X ρ (e :: es) fun us => frozs z us fun ds => f (.obj c fs :: ds) Φ) (mono : ∀ ds (Φ Ψ : T → Prop), (∀ t, Φ t → Ψ t) → f ds Φ → f ds Ψ) : DE a X ρ (.Call (.Attribute o m apos) (e :: es) [] pos) Φ := fun σ H ts vs Q ok k => by
  obtain ⟨C, fa, ns, fd, n, ps, hc, hm, cl, me, F, hr, hb⟩ := mt.ex
  refine ⟨_, pe_methG pe_W cl me F xo.gu hr hb pass0 pa_W (star_of h1) (back_of h2) ht, ?_⟩
  show WE X o σ H fun x H1 => _
  refine h σ H ts vs _ ok fun x t H1 ⟨fs, e1, q⟩ ok1 => ?_
  subst e1
  obtain ⟨p, C', ns', dx, us, rfl, hc', l, hp, il⟩ := (show ∃ p C' ns' dx us, x = V.ref p ∧ a.cls c = some (C', ns') ∧ ns'.length = us.length ∧ H1 p = some (.ins C' dx (ns'.zip us)) ∧ True by
    obtain ⟨F0, Sc, Sm, w⟩ := ok1
    have is := w.top1.1
    simp only [Is] at is
    obtain ⟨p, C', ns', dx, us, e1, hc', l, hp, il⟩ := is
    exact ⟨p, C', ns', dx, us, e1, hc', l, w.sub _ _ hp, trivial⟩)
  rw [hc] at hc'
  cases hc'
  refine ⟨p, dx, _, rfl, hp, lookup_zip_none hm, ?_⟩
  show WA X (e :: es) σ H1 fun vs H2 => spD a.K a.cls f (.ref p :: (vs ++ [])) H2 Q _
  refine q σ H1 _ _ _ ok1 fun ws us2 H2 q2 l2 ok2 => ?_
  obtain ⟨F0, Sc, Sm, w⟩ := ok2
  obtain ⟨F1, Sm1, ds, s1, w1, il2, q3⟩ := w.frozs io l2 q2
  obtain ⟨is, w2⟩ := w1.top1
  rw [List.append_nil]
  refine ⟨a.bg, F1, .obj c fs :: ds, w2.sub, w2.bag, by simp only [IsL]; exact ⟨_, _, rfl, is, il2⟩, mono _ _ _ (fun t ht F' H' v S sub g bg ow nd fr => ?_) q3⟩
  exact k v t H' ht (w2.called sub g bg ow nd fr)
theorem de_mth0 {c : Nat} {m : Str} {f : SpecF} {pl : Sem Bool} (xo : XOk a X) (mt : MtAt a X c m f)
    (ht : eval (.Call (.Attribute o m apos) [] [] pos) X.env = (do let ov ← eval o X.env; standAt apos.atName; let (f, first) ← holding [ov] (getMethod ov m pl); callWith pos f first (backTo pos (starEach [] X.env)) (backToKw pos (keywordEach [] X.env))))
    (h : DE a X ρ o fun t => ∃ fs, t = .leaf (.obj c fs) ∧ f [.obj c fs] Φ) (mono : ∀ ds (Φ Ψ : T → Prop), (∀ t, Φ t → Ψ t) → f ds Φ → f ds Ψ) : DE a X ρ (.Call (.Attribute o m apos) [] [] pos) Φ := fun σ H ts vs Q ok k => by
  obtain ⟨C, fa, ns, fd, n, ps, hc, hm, cl, me, F, hr, hb⟩ := mt.ex
  refine ⟨_, pe_methG0 pe_W cl me F xo.gu hr hb pass0 ht, ?_⟩
  show WE X o σ H fun x H1 => _
  refine h σ H ts vs _ ok fun x t H1 ⟨fs, e1, q⟩ ok1 => ?_
  subst e1
  obtain ⟨F0, Sc, Sm, w⟩ := ok1
  obtain ⟨is, w2⟩ := w.top1
  have is0 := is
  simp only [Is] at is
  obtain ⟨p, C', ns', dx, us, rfl, hc', l, hp, il⟩ := is
  rw [hc] at hc'
  cases hc'
  refine ⟨p, dx, _, rfl, w.sub _ _ hp, lookup_zip_none hm, ?_⟩
  refine ⟨a.bg, F0, [.obj c fs], w2.sub, w2.bag, by simp only [IsL]; exact ⟨_, _, rfl, is0, rfl⟩, mono _ _ _ (fun t ht F' H' v S sub g bg ow nd fr => ?_) q⟩
  exact k v t H' ht (w2.called sub g bg ow nd fr)
theorem de_prp {c : Nat} {m : Str} {f : SpecF} (xo : XOk a X) (mt : PrAt a X c m f) (hab : attributeBase o m X.env (eval o X.env) = eval o X.env)
    (h : DE a X ρ o fun t => ∃ fs, t = .leaf (.obj c fs) ∧ f [.obj c fs] Φ) (mono : ∀ ds (Φ Ψ : T → Prop), (∀ t, Φ t → Ψ t) → f ds Φ → f ds Ψ) : DE a X ρ (.Attribute o m pos) Φ := fun σ H ts vs Q ok k => by
  obtain ⟨C, fa, p0, ns, fd, n, ps, hc, cl, me, F, hr, hb⟩ := mt.ex
  refine ⟨_, pe_propG pe_W cl me F xo.gu hr hb pass0 hab, ?_⟩
  show WE X o σ H fun x H1 => _
  refine h σ H ts vs _ ok fun x t H1 ⟨fs, e1, q⟩ ok1 => ?_
  subst e1
  obtain ⟨F0, Sc, Sm, w⟩ := ok1
  obtain ⟨is, w2⟩ := w.top1
  have is0 := is
  simp only [Is] at is
  obtain ⟨p, C', ns', dx, us, rfl, hc', l, hp, il⟩ := is
  rw [hc] at hc'
  cases hc'
  refine ⟨p, dx, _, rfl, w.sub _ _ hp, ?_⟩
  refine ⟨a.bg, F0, [.obj c fs], w2.sub, w2.bag, by simp only [IsL]; exact ⟨_, _, rfl, is0, rfl⟩, mono _ _ _ (fun t ht F' H' v S sub g bg ow nd fr => ?_) q⟩
  exact k v t H' ht (w2.called sub g bg ow nd fr)
theorem de_new {x : Str} {f : SpecF} (xo : XOk a X) (io : z = true → NoIo a) (nw : NwAt a X x f) (hg : Gl X x) (hd : (x == ("__debug__" : Str)) = false) (h1 : notStar e = true) (h2 : es.all notStar = true)
    (h : DV a X ρ (e :: es) fun us => frozs z us fun ds => f ds Φ) (mono : ∀ ds (Φ Ψ : T → Prop), (∀ t, Φ t → Ψ t) → f ds Φ → f ds Ψ) : DE a X ρ (.Call (.Name x p) (e :: es) [] pos) Φ := fun σ H ts vs Q ok k => by
  obtain ⟨C, fa, c, ns, fd, n, ps, hc, M, hm, F, hr, hb⟩ := nw.ex
  refine ⟨_, pe_makeG M F xo.gu hr hg hm hb pass0 pa_W hd (star_of h1) (back_of h2), ?_⟩
  show WA X (e :: es) σ H fun vs H1 => _
  refine h σ H ts vs _ ok fun ws us H1 q l ok1 => ?_
  obtain ⟨F0, Sc, Sm, w⟩ := ok1
  obtain ⟨F1, Sm1, ds, s1, w1, il, q⟩ := w.frozs io l q
  intro y dx n1 n2 ne
  rw [List.append_nil]
  refine ⟨a.bg, F1, H1, ds, y, dx, C, ns, ws, rfl, hc, n1, n2, ne, rfl, w1.sub, w1.bag, il, mono _ _ _ (fun t ht F' H' sub g bg ow => ?_) q⟩
  exact ⟨rfl, k _ t H' ht (w1.called sub g bg ow (by simp) (by simp))⟩
end
def baseOk : Expr → Bool
  | .Call (.Name _ _) [] [] _ => false
  | _ => true
theorem attr_ok {o : Expr} {m : Str} {env : PySem.Env} {wh : Sem Value} (h : baseOk o = true) : attributeBase o m env wh = wh := by
  unfold attributeBase
  split
  · simp [baseOk] at h
  · rfl
theorem mform {pos : Pos} {es : List Expr} {env : PySem.Env} (h : (backTo pos (starEach es env)).any (·.1) = false) (n : es.length < 30) : methodCallForm (es.length + ([] : List Keyword).length) (backTo pos (starEach es env)) (backToKw pos (keywordEach [] env)) = true := by
  unfold methodCallForm
  rw [List.all_eq_not_any_not]
  simp only [Bool.not_not]
  rw [h]
  simp only [Bool.not_false, Bool.true_and, Bool.and_eq_true, decide_eq_true_eq]
  exact ⟨rfl, by rw [List.length_nil]; show es.length + 0 + 0 < 30; omega⟩
theorem ev_meth {o : Expr} {m : Str} {apos pos : Pos} {es : List Expr} {env : PySem.Env} (hb : baseOk o = true) (hl : (apos.endLine == pos.line) = true) (h : (backTo pos (starEach es env)).any (·.1) = false) (n : es.length < 30) :
    eval (.Call (.Attribute o m apos) es [] pos) env = (do let ov ← eval o env; standAt apos.atName; let (f, first) ← holding [ov] (getMethod ov m (do return (← importBound o env).getD true)); callWith pos f first (backTo pos (starEach es env)) (backToKw pos (keywordEach [] env))) := by
  have e1 : eval (.Call (.Attribute o m apos) es [] pos) env = (do let ov ← attributeBase o m env (eval o env); standAt apos.atName; methodCall o m apos pos env ov (es.length + ([] : List Keyword).length) (backTo pos (starEach es env)) (backToKw pos (keywordEach [] env))) := rfl
  have e2 : ∀ ov, methodCall o m apos pos env ov (es.length + ([] : List Keyword).length) (backTo pos (starEach es env)) (backToKw pos (keywordEach [] env)) = (do let (f, first) ← holding [ov] (getMethod ov m (do return (← importBound o env).getD true)); callWith pos f first (backTo pos (starEach es env)) (backToKw pos (keywordEach [] env))) := fun ov => by
    unfold methodCall
    rw [mform h n]
    unfold calleeOf methodCallPos
    rw [if_pos rfl, hl]
    rfl
  rw [e1, attr_ok hb]
  simp only [e2]
section
variable {a : An0} {X : Cx} {ρ : DL.Env} {Φ : T → Prop} {pos p apos : Pos} {e o : Expr} {es : List Expr} {z : Bool}
theorem de_mthO {c : Nat} {m : Str} {f : SpecF} (xo : XOk a X) (io : z = true → NoIo a) (mt : MtAt a X c m f) (h1 : notStar e = true) (h2 : es.all notStar = true) (hb : baseOk o = true) (hl : (apos.endLine == pos.line) = true) (n : (e :: es).length < 30)
    (h : DE a X ρ o fun t => ∃ fs, t = .leaf (.obj c fs) ∧ DV a X ρ (e :: es) fun us => frozs z us fun ds => f (.obj c fs :: ds) Φ) (mono : ∀ ds (Φ Ψ : T → Prop), (∀ t, Φ t → Ψ t) → f ds Φ → f ds Ψ) : DE a X ρ (.Call (.Attribute o m apos) (e :: es) [] pos) Φ :=
  de_mth xo io mt h1 h2 (ev_meth hb hl (back_of (by rw [List.all_cons, h1, h2]; rfl)) n) h mono
theorem de_mthO0 {c : Nat} {m : Str} {f : SpecF} (xo : XOk a X) (mt : MtAt a X c m f) (hb : baseOk o = true) (hl : (apos.endLine == pos.line) = true)
    (h : DE a X ρ o fun t => ∃ fs, t = .leaf (.obj c fs) ∧ f [.obj c fs] Φ) (mono : ∀ ds (Φ Ψ : T → Prop), (∀ t, Φ t → Ψ t) → f ds Φ → f ds Ψ) : DE a X ρ (.Call (.Attribute o m apos) [] [] pos) Φ :=
  de_mth0 xo mt (ev_meth hb hl (back_of (es := []) rfl) (by decide)) h mono
end
end DL
namespace DL
open PySem PySem.Spec PyProof.Rows L2

/-! ### x == y by an own __eq__, isinstance(x, C) -/
theorem op_eqO {X : Cx} {CX : CXT} {n : Nat} {C f : Addr} {fd : FuncData} {ps : List Str} {sp : Sp} {E : XK} (F : FnG X.prog X.w X.K X.mg X.base CX n f fd ps sp) (gu : X.A.guards = some []) (hs : PySem.W.findIn X.K (.ref C) "__eq__" = some (some (.ref f))) (hf : PySem.W.isFn X.K (.ref f) = true) (hb : Binds X.K fd ps []) (hr : Room n X.A) (hx : Passes CX X E) :
    OpR X (compareOp .Eq) fun x y H Q => ∃ a b dx dy fs gs, x = .ref a ∧ y = .ref b ∧ H a = some (.ins C dx fs) ∧ H b = some (.ins C dy gs) ∧ sp [.ref a, .ref b] H (fun v H' => (∃ k, v = .bl k) ∧ Q v H') E := by
  intro pins s σ H x y v u Q I rx ry hq
  obtain ⟨a, b, dx, dy, fs, gs, rfl, rfl, ha, hb2, hsp⟩ := hq
  cases rx
  cases ry
  obtain ⟨mA, J, _⟩ := ins_get I.hok ha
  obtain ⟨mB, J2, _⟩ := ins_get I.hok hb2
  obtain ⟨od, J, _⟩ := J.look
  obtain ⟨od2, J2, _⟩ := J2.look
  obtain ⟨m, hF⟩ := I.fr
  show wpAny (model X.prog X.w) X.A (richCompare .Eq (.ref a) (.ref b)) (EP X pins σ Q) X.xe s
  refine PySem.W.cmp_K (op := .Eq) (tb := .ref C) hr.units0 hF I.ok.mod.kin J J2.type (by simp [PySem.W.notFirst]) hs hf ?_
  refine wpAny_mono (run_G (us := [.ref a, .ref b]) (vs := [.ref a, .ref b]) F gu hr hb .nil hx I (.cons rfl (.cons rfl .nil)) hsp) (fun r s' h => ?_) fun _ _ e => e
  obtain ⟨z, H', I', rz, ⟨k, ez⟩, q⟩ := h
  subst ez
  have rz2 : r = .bool k := rz
  subst rz2
  exact ⟨.bl k, H', I', rfl, q⟩
section
variable {a : An0} {X : Cx} {ρ : DL.Env} {Φ : T → Prop} {Ψ : Bool → Prop} {pos p p1 : Pos} {e A B : Expr}
def eqOq (a : An0) (X : Cx) (ρ : DL.Env) (cl : Nat) (f : SpecF) (A B : Expr) (Ψ : Bool → Prop) : Prop := DE a X ρ A fun t => DE a X ρ B fun u => ∃ fs gs, t = .leaf (.obj cl fs) ∧ u = .leaf (.obj cl gs) ∧ f [.obj cl fs, .obj cl gs] fun r => ∃ k, r = .leaf (.bl k) ∧ Ψ k
theorem obj_in {F H : Hp} {v : V} {cl : Nat} {C : Addr} {ns : List Str} {fs : List D} (s : Sub F H) (hc : a.cls cl = some (C, ns)) (h : Is a.toAn F (.obj cl fs) v) : ∃ p dx gs, v = .ref p ∧ H p = some (.ins C dx gs) := by
  simp only [Is] at h
  obtain ⟨p, C', ns', dx, us, rfl, hc', l, hp, il⟩ := h
  rw [hc] at hc'
  cases hc'
  exact ⟨p, dx, _, rfl, s _ _ hp⟩
theorem eqO_run {cl : Nat} {f : SpecF} {E : XK} {σ : L2.St} {H : Hp} {ts : List T} {vs : List V} {C fa : Addr} {ns : List Str} (mono : ∀ ds (Φ Ψ : T → Prop), (∀ t, Φ t → Ψ t) → f ds Φ → f ds Ψ) (hc : a.cls cl = some (C, ns)) {Q : VK} (h : eqOq a X ρ cl f A B Ψ) (ok : SOk a ρ σ ts vs H) (k : ∀ b H', Ψ b → SOk a ρ σ ts vs H' → Q (.bl b) H') :
    WE X A σ H fun x H1 => WE X B σ H1 fun y H2 => ∃ p q dx dy fs gs, x = .ref p ∧ y = .ref q ∧ H2 p = some (.ins C dx fs) ∧ H2 q = some (.ins C dy gs) ∧ spD a.K a.cls f [.ref p, .ref q] H2 (fun v H' => (∃ k, v = .bl k) ∧ Q v H') E := by
  refine h σ H ts vs _ ok fun x t H1 h1 ok1 => h1 σ H1 _ _ _ ok1 fun y u H2 ⟨fs, gs, e1, e2, q⟩ ok2 => ?_
  subst e1 e2
  obtain ⟨F, Sc, Sm, w⟩ := ok2
  obtain ⟨i2, w1⟩ := w.top1
  obtain ⟨i1, w2⟩ := w1.top1
  obtain ⟨p1, d1, g1, rfl, hp1⟩ := obj_in w.sub hc i1
  obtain ⟨p2, d2, g2, rfl, hp2⟩ := obj_in w.sub hc i2
  refine ⟨p1, p2, d1, d2, g1, g2, rfl, rfl, hp1, hp2, a.bg, F, _, w2.sub, w2.bag, by simp only [IsL]; exact ⟨_, _, rfl, i1, _, _, rfl, i2, rfl⟩, mono _ _ _ (fun t ht F' H' v S sub g bg ow nd fr => ?_) q⟩
  obtain ⟨b, rfl, hb⟩ := ht
  have ok3 := w2.called sub g bg ow nd fr
  simp only [Ow, Is] at ow
  obtain ⟨_, rfl⟩ := ow
  exact ⟨⟨b, rfl⟩, k b H' hb ok3.pop1⟩
theorem de_eqO {cl : Nat} {f : SpecF} (xo : XOk a X) (mt : MtAt a X cl "__eq__" f) (mono : ∀ ds (Φ Ψ : T → Prop), (∀ t, Φ t → Ψ t) → f ds Φ → f ds Ψ) (hn : notSet B = true) (h : eqOq a X ρ cl f A B fun b => Φ (.leaf (.bl b))) : DE a X ρ (.Compare A [.Eq] [B] pos) Φ := fun σ H ts vs Q ok k => by
  obtain ⟨C, fa, ns, fd, n, ps, hc, hm, c, me, F, hr, hb⟩ := mt.ex
  refine ⟨_, pe_cmpR (op_eqO F xo.gu me.at_ me.fn hb hr pass0) pe_W pe_W (behind_of hn), ?_⟩
  exact eqO_run (fa := fa) mono hc h ok fun b H' hb ok' => k _ _ H' hb ok'.bl
theorem dt_eqO {cl : Nat} {f : SpecF} (xo : XOk a X) (mt : MtAt a X cl "__eq__" f) (mono : ∀ ds (Φ Ψ : T → Prop), (∀ t, Φ t → Ψ t) → f ds Φ → f ds Ψ) (hn : notSet B = true) (h : eqOq a X ρ cl f A B Ψ) : DT a X ρ (.Compare A [.Eq] [B] pos) Ψ := fun σ H ts vs Q ok k => by
  obtain ⟨C, fa, ns, fd, n, ps, hc, hm, c, me, F, hr, hb⟩ := mt.ex
  refine ⟨_, pt_cmpR (op_eqO F xo.gu me.at_ me.fn hb hr pass0) pe_W pe_W (behind_of hn), ?_⟩
  exact eqO_run (fa := fa) mono hc h ok fun b H' hb ok' => ⟨b, rfl, k b H' hb ok'⟩
/-- the class of that number has this name, and isinstance knows it -/
structure InAt (a : An0) (X : Cx) (cl : Nat) (x : Str) : Prop where
  ex : ∃ (C : Addr) (ns : List Str), a.cls cl = some (C, ns) ∧ X.mg x = some (.ref C) ∧ C8.InsC X.K C
theorem de_isC {cl : Nat} {x : Str} (xo : XOk a X) (it : InAt a X cl x) (hg : Gl X "isinstance") (hm : X.mg "isinstance" = none) (hg2 : Gl X x) (hd : (x == ("__debug__" : Str)) = false) (h1 : notStar e = true)
    (h : DE a X ρ e fun t => (∃ fs, t = .leaf (.obj cl fs)) ∧ Φ (.leaf (.bl true))) : DE a X ρ (.Call (.Name "isinstance" p) [e, .Name x p1] [] pos) Φ := fun σ H ts vs Q ok k => by
  obtain ⟨C, ns, hc, hm2, ic⟩ := it.ex
  refine ⟨_, pe_callB (C8.call_isC ic) hg hm (by decide +kernel) (pa_cons pe_W (pa_cons (pe_glob (v := .ref C) hg2 hm2 rfl hd) pa_nil) (star_of h1)) (by decide) (by decide) (star_of h1) rfl, ?_⟩
  show WE X e σ H fun y H1 => ∃ a dx fs, [y, .ref C] = [.ref a, .ref C] ∧ H1 a = some (.ins C dx fs) ∧ Q (.bl true) H1
  refine h σ H ts vs _ ok fun y t H1 ⟨⟨fs, e1⟩, q⟩ ok1 => ?_
  subst e1
  obtain ⟨F, Sc, Sm, w⟩ := ok1
  obtain ⟨i1, w1⟩ := w.top1
  obtain ⟨p1, d1, g1, rfl, hp1⟩ := obj_in w.sub hc i1
  exact ⟨p1, d1, g1, rfl, hp1, k _ _ H1 q (SOk.bl ⟨F, Sc, Sm, w1⟩)⟩
end
end DL
namespace DL
open PySem PySem.Spec PyProof.Rows L2
section
variable {a : An0} {X : Cx} {ρ : Env} {σ : L2.St} {ts : List T} {vs : List V} {H F : Hp} {Sc Sm : List Addr} {Φ : T → Prop} {pos p : Pos} {e A B C : Expr} {es : List Expr} {K : EnD}
theorem DE.imp {e : Expr} {Φ Ψ : T → Prop} (h : DE a X ρ e Φ) (i : ∀ t, Φ t → Ψ t) : DE a X ρ e Ψ := fun σ H ts vs Q ok k => h σ H ts vs Q ok fun v t H' q ok' => k v t H' (i t q) ok'
/-! ### x or y, as values -/
theorem de_orv (xo : XOk a X) (h : DE a X ρ A fun x => ∃ b, x.dat.truth = some b ∧ if b = true then Φ x else DE a X ρ (.BoolOp .Or (B :: es) pos) Φ) : DE a X ρ (.BoolOp .Or (A :: B :: es) pos) Φ := fun σ H ts vs Q ok k => by
  refine ⟨_, pe_orT pe_W pe_W, ?_⟩
  show WE X A σ H fun x H1 => ∃ k, TruV X.K x H1 k ∧ if k = true then Q x H1 else WE X _ σ H1 Q
  refine h σ H ts vs _ ok fun x tx H1 ⟨b, e, hb⟩ ok1 => ⟨b, ?_, ?_⟩
  · rw [xo.K]
    exact (ok1.top).tru (hb_sub _ _) e
  · cases b with
    | true =>
      rw [if_pos rfl] at hb ⊢
      exact k _ _ _ hb ok1
    | false =>
      rw [if_neg (by decide)] at hb ⊢
      exact hb σ H1 ts vs Q ok1.pop1 k
/-! ### a list in a list, written -/
theorem OwL.focus {a : An} {F H : Hp} : ∀ {us : List T} {ws : List V} {S : List Addr} {j : Nat} {u : T}, OwL a F H us ws S → us[j]? = some u → ∃ x Si Sr, ws[j]? = some x ∧ Ow a F H u x Si ∧ S.Perm (Si ++ Sr) ∧
    ∀ H' u' Si', (∀ p ∈ Sr, ∀ o, H p = some o → H' p = some o) → Ow a F H' u' x Si' → T.nvs us = true → ∃ S', OwL a F H' (us.set j u') ws S' ∧ S'.Perm (Si' ++ Sr)
  | [], _, _, _, _, _, g => by simp at g
  | t :: ts, ws, S, 0, u, h, g => by
    simp only [OwL] at h
    obtain ⟨v, r, S1, S2, rfl, h1, h2, rfl⟩ := h
    simp only [List.getElem?_cons_zero, Option.some.injEq] at g
    subst g
    refine ⟨v, S1, S2, rfl, h1, List.Perm.refl _, fun H' u' Si' k hu n => ⟨Si' ++ S2, ?_, List.Perm.refl _⟩⟩
    simp only [T.nvs, Bool.and_eq_true] at n
    simp only [List.set_cons_zero, OwL]
    exact ⟨v, r, Si', S2, rfl, hu, h2.mono' (Sub.refl F) n.2 k, rfl⟩
  | t :: ts, ws, S, j + 1, u, h, g => by
    simp only [OwL] at h
    obtain ⟨v, r, S1, S2, rfl, h1, h2, rfl⟩ := h
    simp only [List.getElem?_cons_succ] at g
    obtain ⟨x, Si, Sr, e, h3, hp, go⟩ := OwL.focus h2 g
    refine ⟨x, Si, S1 ++ Sr, by simpa using e, h3, ?_, fun H' u' Si' k hu n => ?_⟩
    · exact (List.Perm.append_left S1 hp).trans (by rw [← List.append_assoc, ← List.append_assoc]; exact List.Perm.append_right _ List.perm_append_comm)
    · simp only [T.nvs, Bool.and_eq_true] at n
      obtain ⟨S', h4, p4⟩ := go H' u' Si' (fun p hp => k p (List.mem_append_right _ hp)) hu n.2
      refine ⟨S1 ++ S', ?_, (List.Perm.append_left S1 p4).trans (by rw [← List.append_assoc, ← List.append_assoc]; exact List.Perm.append_right _ List.perm_append_comm)⟩
      simp only [List.set_cons_succ, OwL]
      exact ⟨v, r, S1, S', rfl, h1.mono' (Sub.refl F) n.1 fun p hp => k p (List.mem_append_left _ hp), h4, rfl⟩
theorem SW.rewr2 {i j : Nat} {us us1 : List T} (w : SW a ρ σ [] [] H F Sc Sm) (hW : a.W = []) (e : ρ.at i = some (.lst us)) (ej : us[j]? = some (.lst us1)) :
    ∃ l ws l1 ws1, σ[i]? = some (some (.ref l)) ∧ H l = some (.lst ws) ∧ ws[j]? = some (.ref l1) ∧ H l1 = some (.lst ws1) ∧ ws1.length = us1.length ∧
    ∀ k r z, k < us1.length → Is a.toAn F r z → SOk a (ρ.put i (some (.lst (us.set j (.lst (us1.set k (.leaf r))))))) σ [] [] (L2.upd H l1 (.lst (ws1.set k z))) := by
  obtain ⟨x, Si, Sr, e1, h1, hp, go⟩ := w.cells.focus e
  simp only [Ow] at h1
  obtain ⟨nn, l, ws, Sa, rfl, hl, ho, rfl⟩ := h1
  obtain ⟨x1, Sj, Sq, e2, h2, hp2, go2⟩ := OwL.focus ho ej
  simp only [Ow] at h2
  obtain ⟨nn1, l1, ws1, Sb, rfl, hl1, ho1, rfl⟩ := h2
  have nd : ((l :: Sa ++ Sr) ++ Sm).Nodup := ((List.Perm.append_right Sm hp).nodup_iff).mp w.nd
  have mem : ∀ p, p ∈ l :: Sa ++ Sr → p ∈ Sc := fun p h => hp.mem_iff.mpr h
  obtain ⟨n1, n2, n3⟩ := List.nodup_append.mp nd
  obtain ⟨m1, m2, m3⟩ := List.nodup_append.mp n1
  obtain ⟨k1, k2⟩ := List.nodup_cons.mp m1
  have k3 : (l1 :: Sb ++ Sq).Nodup := hp2.nodup_iff.mp k2
  obtain ⟨q1, q2, q3⟩ := List.nodup_append.mp k3
  obtain ⟨q4, q5⟩ := List.nodup_cons.mp q1
  have inSa : ∀ p, p ∈ l1 :: Sb ++ Sq → p ∈ Sa := fun p h => hp2.mem_iff.mpr h
  refine ⟨l, ws, l1, ws1, e1, hl, e2, hl1, ho1.length, fun k r z hk hr => ?_⟩
  obtain ⟨S', h3, nd3, sub3⟩ := OwL.set (Ow.leaf (H := H) hr) (j := k) ho1 hk (by simpa using q5)
  have sub3' : ∀ p ∈ S', p ∈ Sb := fun p hp => by simpa using sub3 p hp
  have ll1 : l ≠ l1 := fun z => k1 (by rw [z]; exact inSa l1 (List.mem_append_left _ List.mem_cons_self))
  have keep : ∀ {S : List Addr}, l1 ∉ S → ∀ p ∈ S, ∀ o, H p = some o → L2.upd H l1 (.lst (ws1.set k z)) p = some o := fun {S} h p hp o e => by
    rw [upd_ne (fun y => h (by rw [← y]; exact hp))]
    exact e
  have nv3 : T.nvs (us1.set k (.leaf r)) = true := nvs_set (t := .leaf r) rfl k nn1
  have nS' : l1 ∉ S' := fun y => q4 (sub3' _ y)
  obtain ⟨S2, h4, p4⟩ := go2 (L2.upd H l1 (.lst (ws1.set k z))) (.lst (us1.set k (.leaf r))) (l1 :: S') (keep fun y => q3 l1 List.mem_cons_self l1 y rfl) (by
    simp only [Ow]
    exact ⟨nv3, l1, ws1.set k z, S', rfl, upd_same, h3.mono' (Sub.refl F) nv3 (keep nS'), rfl⟩) nn
  have in2 : ∀ p ∈ S2, p ∈ Sa := fun p hp => by
    rcases List.mem_append.mp (p4.mem_iff.mp hp) with y | y
    · rcases List.mem_cons.mp y with rfl | y
      · exact inSa _ (List.mem_append_left _ List.mem_cons_self)
      · exact inSa _ (List.mem_append_left _ (List.mem_cons_of_mem _ (sub3' p y)))
    · exact inSa _ (List.mem_append_right _ y)
  have nvu : T.nvs (us.set j (.lst (us1.set k (.leaf r)))) = true := nvs_set (t := .lst (us1.set k (.leaf r))) (by simpa only [T.nv] using nv3) j nn
  have l1Sr : l1 ∉ Sr := fun y => m3 l1 (List.mem_cons_of_mem _ (inSa _ (List.mem_append_left _ List.mem_cons_self))) l1 y rfl
  obtain ⟨S5, h5, p5⟩ := go F (L2.upd H l1 (.lst (ws1.set k z))) (.lst (us.set j (.lst (us1.set k (.leaf r))))) (l :: S2) (Sub.refl F) (keep l1Sr) (by
    simp only [Ow]
    exact ⟨nvu, l, ws, S2, rfl, by rw [upd_ne ll1]; exact hl, h4, rfl⟩) (by simpa only [T.nv] using nvu)
  have nd2 : S2.Nodup := p4.nodup_iff.mpr (List.nodup_append.mpr ⟨List.nodup_cons.mpr ⟨nS', nd3⟩, q2, fun p hp q hq y => by
    subst y
    rcases List.mem_cons.mp hp with rfl | hp
    · exact q3 p List.mem_cons_self p hq rfl
    · exact q3 p (List.mem_cons_of_mem _ (sub3' p hp)) p hq rfl⟩)
  have in5 : ∀ p ∈ S5, p ∈ l :: Sa ++ Sr := fun p hp => by
    rcases List.mem_append.mp (p5.mem_iff.mp hp) with y | y
    · rcases List.mem_cons.mp y with rfl | y
      · exact List.mem_append_left _ List.mem_cons_self
      · exact List.mem_append_left _ (List.mem_cons_of_mem _ (in2 p y))
    · exact List.mem_append_right _ y
  refine ⟨F, S5, [], w.upd (Sm' := []) (List.mem_append_left _ (mem _ (List.mem_append_left _ (List.mem_cons_of_mem _ (inSa _ (List.mem_append_left _ List.mem_cons_self)))))) (by rw [hW]; exact fun _ h => nomatch h) h5 (by simp [OwL]) ?_ (fun p hp' => ?_) (by rw [Env.put_length]; exact w.len)⟩
  · rw [List.append_nil]
    exact p5.nodup_iff.mpr (List.nodup_append.mpr ⟨List.nodup_cons.mpr ⟨fun y => k1 (in2 _ y), nd2⟩, m2, fun p hp q hq y => by
      subst y
      rcases List.mem_cons.mp hp with rfl | hp
      · exact m3 p List.mem_cons_self p hq rfl
      · exact m3 p (List.mem_cons_of_mem _ (in2 p hp)) p hq rfl⟩)
  · rw [List.append_nil] at hp'
    exact List.mem_append_left _ (mem p (in5 p hp'))
theorem ds_augix2 {o : Aop} {i : Nat} {x : Str} {us : List T} {xp s1 s2 : Pos} (xo : XOk a X) (hW : a.W = []) (hN : X.N[i]? = some x) (hv : Vis X.env.scope x) (hd : (x == ("__debug__" : Str)) = false) (hc : (x == ("__classdict__" : Str)) = false)
    (hA : notSlice A = true) (hB : notSlice B = true) (hat : ρ.at i = some (.lst us))
    (h : DE a X ρ A fun y1 => ∃ n1 j1 ws, y1.dat = .int n1 ∧ ixN us.length n1 = some j1 ∧ us[j1]? = some (.lst ws) ∧ ∀ H F, DE (a.on H F) X ρ B fun y2 => ∃ n2 j2 d, y2.dat = .int n2 ∧ ixN ws.length n2 = some j2 ∧ ws[j2]? = some (.leaf d) ∧
      DE (a.on H F) X ρ e fun y3 => augD o d y3.dat fun r => K.nx (ρ.put i (some (.lst (us.set j1 (.lst (ws.set j2 (.leaf r)))))))) :
    DS a X ρ (.AugAssign (.Subscript (.Subscript (.Name x xp) A s1) B s2) o.op e pos) K := fun σ H D ok m => by
  refine ⟨_, ps_augS (pe_ix ix_seq (pvar hN hv hd hc) pe_W (ix_plain hA)) pe_W get_list pe_W (ip_rAug o) set_list (fun ov iv new => ?_), ?_⟩
  · cases B with
    | Slice l u st p =>
      cases st with
      | none => simp [notSlice] at hB
      | some _ => rfl
    | _ => rfl
  show tVar i σ H fun o0 H0 => WE X A σ H0 fun b0 H1 => rIx X.K o0 b0 H1 fun o1 H1' => WE X B σ H1' fun b H2 => rGetL X.K o1 b H2 fun x1 H3 => WE X e σ H3 fun y H4 => rAug o x1 y H4 fun z1 H5 => rSetL o1 b z1 H5 fun H6 => D.nx σ H6
  obtain ⟨F, Sc, Sm, w⟩ := ok
  obtain ⟨v, S1, e1, h3, _⟩ := w.cells.get hat
  simp only [Ow] at h3
  obtain ⟨_, l, ws0, _, rfl, hl0, _⟩ := h3
  refine ⟨_, e1, ?_⟩
  refine h σ H [] [] _ ⟨F, Sc, Sm, w⟩ fun b tb H2 ⟨n1, j1, ws, eb, hj, hws, hB'⟩ ok2 => ?_
  have ib := ok2.top
  rw [eb] at ib
  rw [ib.int, xo.K]
  obtain ⟨F2, Sc2, Sm2, w2⟩ := ok2.pop1
  obtain ⟨v2, S2, e2, h4, k2, _⟩ := w2.cells.get hat
  rw [e1] at e2
  cases e2
  simp only [Ow] at h4
  obtain ⟨_, l', ws2, S3, el, hl2, ho2, rfl⟩ := h4
  cases el
  obtain ⟨x1, S4, e4, h5, _, k4⟩ := ho2.get hws
  simp only [Ow] at h5
  obtain ⟨_, l1, ws1, S5, rfl, hl1, ol1, rfl⟩ := h5
  have in1 : l ∈ Sc2 := k2 l List.mem_cons_self
  have in2 : l1 ∈ Sc2 := k2 l1 (List.mem_cons_of_mem _ (k4 l1 List.mem_cons_self))
  have nb : ∀ q ∈ Sc2, hb a.toAn H2 q = H2 q := fun q hq => by
    unfold hb
    rw [if_neg (w2.fr q (List.mem_append_left _ hq)).2.1]
  have b1 : hb a.toAn H2 l = some (.lst ws2) := by rw [nb l in1]; exact hl2
  have b2 : hb a.toAn H2 l1 = some (.lst ws1) := by rw [nb l1 in2]; exact hl1
  refine .inl ⟨l, ws2, n1, .ref l1, rfl, rfl, .inl (.inl hl2), atI_of (by rw [ho2.length]; exact hj) e4, ?_⟩
  refine hB' H2 F2 σ H2 [] [] _ ⟨F2, Sc2, Sm2, w2.on (Sub.refl F2)⟩ fun bb tb2 H3 ⟨n2, j2, d, hb2, hj2, hd2, he⟩ ok3 => ?_
  have ib2 := ok3.top
  rw [hb2] at ib2
  rw [ib2.int]
  obtain ⟨F3, Sc3, Sm3, w3⟩ := ok3.pop1
  have s3 : Sub (hb a.toAn H2) (hb a.toAn H3) := w3.wit H2 List.mem_cons_self
  obtain ⟨x6, S6, e6, h6, _⟩ := ol1.get hd2
  refine ⟨l1, ws1, n2, x6, rfl, rfl, .inl (.inl (hb_sub _ _ _ _ (s3 _ _ b2))), atI_of (by rw [ol1.length]; exact hj2) e6, ?_⟩
  refine he σ H3 [] [] _ ⟨F3, Sc3, Sm3, w3⟩ fun y3 ty3 H4 hy3 ok4 => ?_
  have i2 := ok4.top
  obtain ⟨F5, Sc5, Sm5, w5⟩ := ok4.pop1
  simp only [Ow] at h6
  have fl : d.flat = true := by
    cases o with
    | add =>
      generalize ty3.dat = dy at hy3
      match d, dy, hy3 with
      | .int _, .int _, _ => rfl
      | .str _, .str _, _ => rfl
    | sub =>
      generalize ty3.dat = dy at hy3
      match d, dy, hy3 with
      | .int _, .int _, _ => rfl
  have s5 : Sub (hb a.toAn H2) (hb a.toAn H4) := w5.wit H2 List.mem_cons_self
  refine aug_ok (h6.2.flat fl) i2 hy3 fun r z1 hr fr ir => ?_
  have w6 := w5.off
  obtain ⟨lx, wx, l1x, ws1x, x1, x2, x3, x4, x5, go⟩ := w6.rewr2 hW hat hws
  rw [e1] at x1
  cases x1
  have y1 := hb_sub _ _ _ _ (s5 _ _ b1)
  rw [x2] at y1
  cases y1
  rw [e4] at x3
  cases x3
  exact ⟨l1, ws1x, n2, j2, rfl, rfl, x4, by rw [x5]; exact hj2, m.1 _ σ _ hr (go j2 r z1 (ixN_seq hj2).2.1 (ir.flat fr))⟩
/-! ### x.extend(e) -/
theorem nvs_app : ∀ {us vs : List T}, T.nvs us = true → T.nvs vs = true → T.nvs (us ++ vs) = true
  | [], _, _, h => h
  | u :: us, vs, h1, h2 => by
    simp only [T.nvs, Bool.and_eq_true, List.cons_append] at h1 ⊢
    exact ⟨h1.1, nvs_app h1.2 h2⟩
theorem ds_extend {i : Nat} {x : Str} {us : List T} {xp ap cp : Pos} (xo : XOk a X) (hW : a.W = []) (hN : X.N[i]? = some x) (hv : Vis X.env.scope x) (hd : (x == ("__debug__" : Str)) = false) (hc : (x == ("__classdict__" : Str)) = false)
    (hl : (ap.endLine == cp.line) = true) (ns : notStar e = true) (hat : ρ.at i = some (.lst us))
    (h : DE a X ρ e fun t => ∃ us2, t.its = some us2 ∧ us.length + us2.length ≤ 100000 ∧ K.nx (ρ.put i (some (.lst (us ++ us2))))) : DS a X ρ (.Expr (.Call (.Attribute (.Name x xp) "extend" ap) [e] [] cp) pos) K := fun σ H D ok m => by
  refine ⟨_, ps_expr (pe_bm PySem.F.plainAttrs_list PySem.F.slot_list_extend PySem.F.type_list_extend mt_extend (pvar hN hv hd hc) (pa_W (e := [e])) rfl ?_ hl (star_of ns) rfl) rfl, ?_⟩
  · rw [star_of ns]
    rfl
  show tVar i σ H fun x H1 => tyV X.K "list" x H1 ∧ WA X [e] σ H1 fun xs H2 => rExtend x xs H2 fun _ H3 => D.nx σ H3
  obtain ⟨F, Sc, Sm, w⟩ := ok
  obtain ⟨v, S1, e1, h1, _⟩ := w.cells.get hat
  simp only [Ow] at h1
  obtain ⟨_, l, ws0, _, rfl, hl0, _⟩ := h1
  refine ⟨_, e1, .inl ⟨rfl, _, .inl (.inl hl0)⟩, ?_⟩
  have dv : DV a X ρ [e] fun us' => ∃ u us2, us' = [u] ∧ u.its = some us2 ∧ us.length + us2.length ≤ 100000 ∧ K.nx (ρ.put i (some (.lst (us ++ us2)))) := dv_cons ns (h.imp fun t q => q.elim fun us2 q => dv_nil ⟨t, us2, rfl, q⟩)
  refine dv σ H [] [] _ ⟨F, Sc, Sm, w⟩ fun ws us' H2 ⟨u, us2, hu, hit, hz, hk⟩ l2 ok2 => ?_
  subst hu
  obtain ⟨y, rfl⟩ : ∃ y, ws = [y] := by
    match ws, l2 with
    | [y], _ => exact ⟨y, rfl⟩
  obtain ⟨F2, Sc2, Sm2, w2⟩ := ok2
  obtain ⟨q, zs, rfl, hq, ⟨l3, n3⟩, Sm3, w3⟩ := w2.opens hit
  obtain ⟨l', ws, Sa, e2, hl2, ho, nn, nd, go⟩ := w3.rewr hW hat
  rw [e1] at e2
  cases e2
  have ht : OwL a.toAn F2 H2 us2 zs Sm3 := by
    have := w3.tmps
    simpa using this
  refine ⟨l, q, ws, zs, rfl, rfl, hl2, hq, by rw [ho.length, ← l3]; exact small hz, ?_⟩
  exact m.1 _ σ _ hk (go (us ++ us2) (ws ++ zs) (Sa ++ Sm3) (OwL.join ho ht) (nvs_app nn (ht.nvs n3)) nd fun p hp => hp)
end
end DL
namespace SetL
open PySem PySem.Spec PyProof.Rows L2
/-! ### set(xs), xs a list of ints -/
/-- a set that is new -/
abbrev fresh0 (w : World) : Obj := { cls := .type "set", dict := none, data := .set #[] 0 (.fresh 0 0 (!w.params.followText "set-order")) }
section
variable {P : Program} {w : World} {A : Around} {E : Value → Shared → Prop} {s : Shared}
theorem set_of_list {l : Addr} {its : Array Value} (ns : List Int) {Q : Value → Shared → Prop} (nh : A.handled = none) (L : s.heap.IsList l its) (ii : IntsAre its.toList ns) (sb : ns.length + 1 < scanBound)
    (done : ∀ (g : Heap) (tk c : Nat), SetR w g s.heap.objs.size (fun j => decide (j ∈ ns)) c → c ≤ ns.length → (∀ b o, s.heap.get? b = some o → g.get? b = some o) → Q (.ref s.heap.objs.size) { s with heap := g, toks := tk }) :
    wpAny (model P w) A (call (.type "set") [.ref l]) Q E s := by
  have sz : its.size = ns.length := by simpa using IntsAre.length ii
  have CS := F.called_set
  obtain ⟨_, _, mro⟩ := CS.mro
  have f1 := CS.made; have f2 := CS.sub; have f3 := CS.notType; have f4 := CS.canCreate; have f5 := F.typeCall_set_1 (.ref l)
  refine wpAny_call (codeAny_of_tree (wpAny_pure ⟨Code.quiet_builtin _ (by decide +kernel), codeAny_builtin F.entry_type_call ?_⟩))
  rw [Around.under_plain (weight_type_call_type "set" [.ref l] []) rfl]
  repeat (any_goals (first | assumption | wp_step))
  refine codeAny_mono (code_set_led1 (.ref l) (E := E) (Q₁ := fun u z => u = .ref s.heap.objs.size ∧ z = { s with heap := s.heap.push (fresh0 w) }) ⟨rfl, rfl⟩) fun r z hz => ?_
  rcases r with _ | (_ | _ | _ | u)
  · exact hz
  · exact hz.elim
  · exact hz.elim
  · exact hz.elim
  · obtain ⟨rfl, rfl⟩ := hz
    have at0 : (s.heap.push (fresh0 w)).get? s.heap.objs.size = some (fresh0 w) := Heap.get?_push_size _ rfl
    have ty0 : Shared.TypeIs { s with heap := s.heap.push (fresh0 w) } (.ref s.heap.objs.size) "set" := ⟨_, at0, rfl⟩
    have f6 := CS.init.lookup
    have f7 := CS.init.bind (.ref s.heap.objs.size)
    repeat (any_goals (first | assumption | wp_step))
    refine codeAny_mono (codeAny_call_builtin (R := wants (fun r z => r = .none ∧ ∃ g tk c, z = { s with heap := g, toks := tk } ∧ SetR w g s.heap.objs.size (fun j => decide (j ∈ ns)) c ∧ c ≤ ns.length ∧ ∀ b o, s.heap.get? b = some o → g.get? b = some o) E) CS.init.plain F.entry_set_init (check_set_init_1 ty0 ?_)) fun r z hz => ?_
    · obtain ⟨⟨cl, dd, da, sl⟩, at1, c1, nl, d1⟩ := L
      simp only at c1 d1
      subst c1 d1
      have at2 : (s.heap.push (fresh0 w)).get? l = some { cls := .type "list", dict := dd, data := .seq its nl, slots := sl } := Heap.get?_push_of_some _ at1
      have L1 : (s.heap.push (fresh0 w)).IsList l its := ⟨_, at2, rfl, nl, rfl⟩
      have g1 := F.sub_list_set
      have g2 := F.sub_list_frozenset
      have g3 : (Value.type "list" == Value.type "dict") = false := by decide
      unfold Builtin.«set.__init__» noKeywords Builtin.Frozenset.updateFrom
      generalize hPI : pyIter = PI
      wp_walk
      subst hPI
      refine wpAny_pyIter_list L1 (wpAny_bind (wpAny_runValue ?_))
      have ll : l < s.heap.objs.size := Heap.lt_size at1
      have zz : (s.heap.push (fresh0 w)).objs.size = s.heap.objs.size + 1 := Heap.size_push ..
      have nI : l ≠ (s.heap.push (fresh0 w)).objs.size := by rw [zz]; exact Nat.ne_of_lt (Nat.lt_succ_of_lt ll)
      have nS : s.heap.objs.size ∉ [(s.heap.push (fresh0 w)).objs.size, l] := by
        rw [zz]
        simp only [List.mem_cons, List.not_mem_nil, or_false, not_or]
        exact ⟨Nat.ne_of_lt (Nat.lt_succ_self _), Nat.ne_of_gt ll⟩
      have val : ∀ (i : Nat) (v : Value), its[i]? = some v → ∃ k t, ns[i]? = some k ∧ v = .int k t := fun i v hv => by
        obtain ⟨hi, _⟩ := Array.getElem?_eq_some_iff.mp hv
        obtain ⟨t, e⟩ := IntsAre.int_at ii i v (by rw [Array.getElem?_toList]; exact hv)
        have hj : i < ns.length := by omega
        exact ⟨ns[i], t, List.getElem?_eq_getElem hj, by rw [e]; simp [hj]⟩
      have at3 : ((s.heap.push (fresh0 w)).push { cls := .type "list_iterator", data := .fields #[.ref l, .int 0 0] }).get? s.heap.objs.size = some (fresh0 w) := Heap.get?_push_of_some _ at0
      refine set_update_ints ((Walks.list (by simp [nh]) _ l nI its).toS) s.heap.objs.size nS ns sz sb val (its.size - 0) 0 _ (by omega) (Nat.zero_le _) ⟨⟨_, Heap.get?_push_size _ rfl, rfl, rfl⟩, L1.push _⟩ ⟨0, Nat.le_refl 0, setR_new_at at3⟩ fun z c mv hc R => ?_
      obtain ⟨g, gg, dr, tk, os⟩ := z
      have k1 : gg = s.gens := mv.gens
      have k2 : dr = s.drawn := mv.drawn
      have k3 : os = s.os := mv.os
      subst k1 k2 k3
      refine wpAny_pure ?_
      show wpAny _ _ (ret Value.none) _ _ _
      refine wpAny_pure ⟨rfl, g, tk, c, rfl, R, by omega, fun b o hb => ?_⟩
      have lb := Heap.lt_size hb
      exact mv.heap b o (by rw [zz]; simp only [List.mem_cons, List.not_mem_nil, or_false, not_or]; exact ⟨Nat.ne_of_lt lb, Nat.ne_of_lt (Nat.lt_succ_of_lt lb)⟩) (Heap.get?_push_of_some _ (Heap.get?_push_of_some _ hb))
    · rcases r with _ | (_ | _ | _ | u)
      · exact hz
      · exact hz.elim
      · exact hz.elim
      · exact hz.elim
      · obtain ⟨rfl, g, tk, c, rfl, R, hc, k⟩ := hz
        repeat (any_goals (first | assumption | wp_step))
        exact done _ _ _ R hc k
end
def rSetL (K : PySem.W.Frag) (w : World) : List V → Hp → VK → Prop := fun vs H Q => ∃ (l : Addr) (ns : List Int), vs = [V.ref l] ∧ SqL K H l (ns.map V.int) ∧ ns.length ≤ 1000 ∧ ∀ p c, H p = none → c ≤ ns.length → Q (.ref p) (upd H p (SetO w p (fun j => decide (j ∈ ns)) c))
theorem cr_setL {X : Cx} (hc : X.calm = true) : CallR X (.type "set") (rSetL X.K X.w) := by
  intro pins s σ H vs us Q I r h
  obtain ⟨l, ns, rfl, hs, hl, q⟩ := h
  obtain ⟨its, rv, L, _⟩ := I.list hs
  rw [Vals.ref1 r]
  refine set_of_list ns (I.ok.hd hc) L.isList (by simpa using rv.ints) (by unfold scanBound; omega) fun g tk c R hc' k => ?_
  have hn := I.hok.fresh (Nat.le_refl s.heap.objs.size)
  exact ⟨.ref _, _, I.laid (t' := tk) k (Nat.le_refl _) (setO_new R), rfl, q _ c hn hc'⟩
end SetL
namespace DL
open PySem PySem.Spec PyProof.Rows L2
section
variable {a : An0} {X : Cx} {ρ : Env} {Φ : T → Prop} {pos p p2 q : Pos} {A : Expr}
/-- sorted(set(xs)) -/
def srtS (t : T) (Φ : T → Prop) : Prop := ∃ ns : List Int, t.dat = .lst (ns.map .int) ∧ ns.length < 64 ∧ ∀ ns' : List Int, ns'.Pairwise (· < ·) → (∀ k, k ∈ ns' ↔ k ∈ ns) → Φ (.lst (ns'.map fun n => .leaf (.int n)))
theorem de_srtS (xo : XOk a X) (hg : Gl X "sorted") (hm : X.mg "sorted" = none) (hg2 : Gl X "set") (hm2 : X.mg "set" = none) (hs : notStar A = true) (h : DE a X ρ A fun t => srtS t Φ) :
    DE a X ρ (.Call (.Name "sorted" p) [.Call (.Name "set" p2) [A] [] q] [] pos) Φ := fun σ H ts vs Q ok k => by
  refine ⟨_, pe_callB (cr_sortedSet xo.calm) hg hm (by decide +kernel) (pa_cons (pe_callTy (SetL.cr_setL xo.calm) hg2 hm2 (by decide +kernel) (pa_W (e := [A])) (by decide) (by decide) (star_of hs) (back_of (by rfl))) pa_nil) (by decide) (by decide) rfl rfl, ?_⟩
  show WA X [A] σ H fun us H1 => SetL.rSetL X.K X.w us H1 fun v H2 => rSortedSet X.w [v] H2 Q
  have dv : DV a X ρ [A] fun us => ∃ t, us = [t] ∧ srtS t Φ := dv_cons hs (h.imp fun t q => dv_nil ⟨t, rfl, q⟩)
  refine dv σ H ts vs _ ok fun ws us H1 ⟨t, hu, ns, e, hl, hk⟩ lw ok1 => ?_
  subst hu
  obtain ⟨v, rfl⟩ : ∃ v, ws = [v] := by
    match ws, lw with
    | [v], _ => exact ⟨v, rfl⟩
  have i1 := ok1.top
  rw [e] at i1
  obtain ⟨l, zs, rfl, hz, il⟩ := i1.lstE
  obtain rfl := IsL.ints.mp il
  refine ⟨l, ns, rfl, by rw [xo.K]; exact .inl (.inl (hb_sub _ _ _ _ hz)), by omega, fun p c hp hc => ⟨p, _, c, rfl, upd_same, by omega, fun ns' p' h1 h2 h3 hp' => ?_⟩⟩
  obtain ⟨F, Sc, Sm, w⟩ := ok1.pop1
  have w1 := w.laid (o := SetO X.w p (fun j => decide (j ∈ ns)) c) hp
  refine k _ _ _ (hk ns' h1 fun k => by rw [h2]; simp) ?_
  have em : (ns'.map fun n => T.leaf (.int n)) = (ns'.map D.int).map .leaf := by simp
  rw [em]
  have w2 : SW a ρ σ ((ns'.map D.int).map .leaf ++ ts) (ns'.map V.int ++ vs) _ F Sc Sm :=
    w1.tmp (Sn := [] ++ Sm) (OwL.join (OwL.leafs (IsL.ints.mpr rfl)) w1.tmps) (List.nodup_append.mp w1.nd).2.1 fun _ h => h
  obtain ⟨Sm', w3⟩ := w2.mkLst (by simp) (nvw_leaf _) hp'
  exact ⟨F, Sc, Sm', w3⟩
end
end DL
namespace DL
open PySem PySem.Spec PyProof.Rows L2
section
variable {a : An0} {X : Cx} {ρ : Env} {σ : L2.St} {ts : List T} {vs : List V} {H F : Hp} {Sc Sm : List Addr} {Φ : T → Prop} {pos p : Pos} {e A B C : Expr} {es : List Expr} {K : EnD}
/-! ### a, b, c = x, y, z from the stack -/
def par3Ok (c : Ct) (x y z : Str) (px py pz : Pos) (A B C : Expr) : Bool :=
  lcl c x && lcl c y && lcl c z && py.line == px.line && pz.line == px.line && !isStar A && !isStar B && !isStar C && !(x == y) && !(x == z) && !(y == z) && !([A, B, C].all (foldedForSure 8)) && !([A, B, C].all (constantsAlone 8))
theorem par3_eq {c : Ct} {x y z : Str} {px py pz pt pt2 : Pos} {kt k2 : Nat} (co : COk c X) (hk : X.env.scope.kind = .function) (h : par3Ok c x y z px py pz A B C = true) :
    swappedStores [.Tuple [.Name x px, .Name y py, .Name z pz] kt pt] (.Tuple [A, B, C] k2 pt2) X.env = pure (some [x, y, z]) := by
  unfold par3Ok at h
  simp only [Bool.and_eq_true, Bool.not_eq_true'] at h
  obtain ⟨⟨⟨⟨⟨⟨⟨⟨⟨⟨⟨⟨h1, h2⟩, h3⟩, h4⟩, h5⟩, h6⟩, h7⟩, h8⟩, h9⟩, h10⟩, h11⟩, h12⟩, h13⟩ := h
  have hb : X.env.blockKind = .function := by unfold PySem.Env.blockKind; rw [hk]; rfl
  have hx : X.env.kindOf x = some .local := lcl_of co h1
  have hy : X.env.kindOf y = some .local := lcl_of co h2
  have hz : X.env.kindOf z = some .local := lcl_of co h3
  have e : ∀ e : Expr, (match e with | .Starred .. => true | _ => false) = isStar e := fun e => by cases e <;> rfl
  have hs : ([A, B, C].any fun | .Starred .. => true | _ => false) = false := by
    simp only [List.any_cons, List.any_nil, Bool.or_false]
    rw [e, e, e, h6, h7, h8]
    rfl
  have n1 : (y == x) = false := by
    have : ¬ y = x := fun q => by rw [q] at h9; simp at h9
    simpa using this
  have n2 : (z == x) = false := by
    have : ¬ z = x := fun q => by rw [q] at h10; simp at h10
    simpa using this
  have n3 : (z == y) = false := by
    have : ¬ z = y := fun q => by rw [q] at h11; simp at h11
    simpa using this
  have len : [x, y, z].eraseDups.length = 3 := by simp [List.eraseDups_cons, n1, n2, n3]
  unfold swappedStores
  simp only [hb, hx, hy, hz, hs, h12, h13, Expr.pos, List.head?_cons, Option.map_some, Option.getD_some, List.filterMap_cons, List.filterMap_nil, List.length_cons, List.length_nil]
  simp [h4, h5]
  rw [if_neg (fun q => q.elim (fun q => by have q2 : isStar A = true := q; rw [h6] at q2; cases q2) fun q => q.elim (fun q => by have q2 : isStar B = true := q; rw [h7] at q2; cases q2) fun q => by have q2 : isStar C = true := q; rw [h8] at q2; cases q2), if_pos len]
theorem ds_par3 {c : Ct} {i j l : Nat} {x y z : Str} {px py pz pt pt2 : Pos} {kt k2 : Nat} (xo : XOk a X) (co : COk c X) (hk : X.env.scope.kind = .function) (hx : nameIs c i x = true) (hy : nameIs c j y = true) (hz : nameIs c l z = true) (hij : i ≠ j) (hil : i ≠ l) (hjl : j ≠ l) (hp : par3Ok c x y z px py pz A B C = true)
    (hi : i < ρ.length) (hj : j < ρ.length) (hl : l < ρ.length) (h : DA a X ρ [A, B, C] fun us => ∃ u v w, us = [u, v, w] ∧ K.nx (((ρ.put i (some u)).put j (some v)).put l (some w))) :
    DS a X ρ (.Assign [.Tuple [.Name x px, .Name y py, .Name z pz] kt pt] (.Tuple [A, B, C] k2 pt2) pos) K := fun σ H D ok m => by
  have hp' := hp
  unfold par3Ok at hp'
  simp only [Bool.and_eq_true] at hp'
  refine ⟨_, ps_par3 xo.calm xo.nd (nameIs_of co hx) (nameIs_of co hy) (nameIs_of co hz) hij hil hjl (lcl_of co hp'.1.1.1.1.1.1.1.1.1.1.1.1) (lcl_of co hp'.1.1.1.1.1.1.1.1.1.1.1.2) (lcl_of co hp'.1.1.1.1.1.1.1.1.1.1.2) pa_W (par3_eq co hk hp), ?_⟩
  show WA X [A, B, C] σ H fun vs H1 => ∃ u v w, vs = [u, v, w] ∧ D.nx (((σ.set i (some u)).set j (some v)).set l (some w)) H1
  refine h σ H [] [] _ ok fun ws us H1 ⟨u, v, w, e, hk⟩ nu ln ok1 => ?_
  subst e
  obtain ⟨y1, y2, y3, rfl⟩ : ∃ y1 y2 y3, ws = [y1, y2, y3] := by
    match ws, ln with
    | [y1, y2, y3], _ => exact ⟨y1, y2, y3, rfl⟩
  simp only [List.all_cons, List.all_nil, Bool.and_true, Bool.and_eq_true] at nu
  obtain ⟨F, Sc, Sm, w1⟩ := ok1
  obtain ⟨S, h3, _⟩ := w1.cut
  obtain ⟨Sc2, Sm2, w2⟩ := SW.put (ts := [v, w]) (vs := [y2, y3]) w1 hi (h3.nv nu.1)
  obtain ⟨S2, h4, _⟩ := w2.cut
  obtain ⟨Sc3, Sm3, w3⟩ := SW.put (ts := [w]) (vs := [y3]) w2 (by rw [Env.put_length]; exact hj) (h4.nv nu.2.1)
  obtain ⟨S3, h5, _⟩ := w3.cut
  exact ⟨y1, y2, y3, rfl, m.1 _ _ _ hk (SOk.put (by rw [Env.put_length, Env.put_length]; exact hl) (h5.nv nu.2.2) ⟨F, Sc3, Sm3, w3⟩)⟩
end
end DL
namespace DL
open PySem PySem.Spec PyProof.Rows L2

/-! ### expressions in short, and what they give -/
inductive I where
  | nm (i : Nat) | ow (i : Nat) | gl (k : Nat)
  | int (n : Int) | str (s : Str) | bl (b : Bool) | non
  | nil | cons (e r : I)
  | tup (es : I) | lst (es : I)
  | bin (o : Bop) (x y : I) | neg (x : I) | not (x : I)
  | cmp (o : Cop) (x y : I) | chn (o o' : Cop) (x y z : I)
  | and (x r : I) | or (x r : I) | one (x : I) | val (x : I)
  | orv (x r : I) | srtS (x : I)
  | ife (t x y : I)
  | ix (x y : I) | sl (x lo hi : I) | nop | prt (x : I)
  | call (k : Nat) (es : I)
  | blt (f : Blt) (es : I)
  | lc (own : List Nat) (g : Tg) (src cond elt : I)
  | eqO (k cl : Nat) (x y : I) | isC (cl : Nat) (x : I)
  | fld (cl i : Nat) (x : I) | mth (k cl : Nat) (x es : I) | mt0 (k cl : Nat) (x : I) | prp (k cl : Nat) (x : I) | new (k : Nat) (es : I)
  | isi (ty : Ty) (x : I) | lr1 (x : I) | lr2 (x y : I)
  | sq (x : I) | rng (es : I) | zip (es : I) | enm (es : I)
structure Sg where
  z : Bool
  fs : List SpecF
  gs : List D
  ms : List SpecF := []
  ps : List SpecF := []
  nw : List SpecF := []
mutual
/-- the value -/
def w (S : Sg) : I → Env → (T → Prop) → Prop
  | .nm i, ρ, Φ => match ρ.at i with
    | some (.leaf d) => Φ (.leaf d)
    | _ => False
  | .ow i, ρ, Φ => match ρ.at i with
    | some t => Φ (.vw t.dat)
    | none => False
  | .gl k, _, Φ => ∃ d, S.gs[k]? = some d ∧ Φ (.leaf d)
  | .int n, _, Φ => Φ (.leaf (.int n))
  | .str s, _, Φ => Φ (.leaf (.str s))
  | .bl b, _, Φ => Φ (.leaf (.bl b))
  | .non, _, Φ => Φ (.leaf .non)
  | .tup es, ρ, Φ => wa S es ρ fun us => us.length ≤ 100000 ∧ Φ (T.mk us)
  | .lst es, ρ, Φ => wa S es ρ fun us => us.length ≤ 100000 ∧ Φ (.lst us)
  | .bin o x y, ρ, Φ => w S x ρ fun t => w S y ρ fun u => binT o t u Φ
  | .neg x, ρ, Φ => w S x ρ fun t => ∃ i, t.dat = .int i ∧ Φ (.leaf (.int (-i)))
  | .not x, ρ, Φ => w S x ρ fun t => ∃ b, t.dat = .bl b ∧ Φ (.leaf (.bl !b))
  | .cmp o x y, ρ, Φ => w S x ρ fun t => w S y ρ fun u => cmpD o t.dat u.dat fun b => Φ (.leaf (.bl b))
  | .chn o o' x y z, ρ, Φ => w S x ρ fun t => w S y ρ fun u => cmpD o t.dat u.dat fun b => if b = true then w S z ρ fun v => cmpD o' u.dat v.dat fun b => Φ (.leaf (.bl b)) else Φ (.leaf (.bl false))
  | .and x r, ρ, Φ => w S x ρ fun t => ∃ b, t.dat = .bl b ∧ if b = true then w S r ρ Φ else Φ (.leaf (.bl false))
  | .or x r, ρ, Φ => w S x ρ fun t => ∃ b, t.dat = .bl b ∧ if b = true then Φ (.leaf (.bl true)) else w S r ρ Φ
  | .one x, ρ, Φ => w S x ρ Φ
  | .orv x r, ρ, Φ => w S x ρ fun t => ∃ b, t.dat.truth = some b ∧ if b = true then Φ t else w S r ρ Φ
  | .srtS x, ρ, Φ => w S x ρ fun t => srtS t Φ
  | .ife t x y, ρ, Φ => wt S t ρ fun b => if b = true then w S x ρ Φ else w S y ρ Φ
  | .ix x y, ρ, Φ => w S x ρ fun t => w S y ρ fun u => ixT t u.dat Φ
  | .sl x lo hi, ρ, Φ => w S x ρ fun t => wo S lo ρ fun l => wo S hi ρ fun h => slT t l h Φ
  | .call k es, ρ, Φ => ∃ f, S.fs[k]? = some f ∧ wv S es ρ fun us => frozs S.z us fun ds => f ds Φ
  | .blt f es, ρ, Φ => wv S es ρ fun us => bltT f us Φ
  | .lc own g src cond elt, ρ, Φ => ρ.wipes own = ρ ∧ wi S src ρ fun ds => ds.length ≤ 100000 ∧ lcW g (wc S cond) (w S elt) ρ ds [] fun us => Φ (.lst us)
  | .eqO k cl x y, ρ, Φ => ∃ f, S.ms[k]? = some f ∧ w S x ρ fun t => w S y ρ fun u => ∃ fs gs, t = .leaf (.obj cl fs) ∧ u = .leaf (.obj cl gs) ∧ f [.obj cl fs, .obj cl gs] fun r => ∃ b, r = .leaf (.bl b) ∧ Φ (.leaf (.bl b))
  | .isC cl x, ρ, Φ => w S x ρ fun t => (∃ fs, t = .leaf (.obj cl fs)) ∧ Φ (.leaf (.bl true))
  | .fld cl i x, ρ, Φ => w S x ρ fun t => ∃ fs d, t = .leaf (.obj cl fs) ∧ fs[i]? = some d ∧ Φ (.leaf d)
  | .mth k cl x es, ρ, Φ => ∃ f, S.ms[k]? = some f ∧ w S x ρ fun t => ∃ fs, t = .leaf (.obj cl fs) ∧ wv S es ρ fun us => frozs S.z us fun ds => f (.obj cl fs :: ds) Φ
  | .mt0 k cl x, ρ, Φ => ∃ f, S.ms[k]? = some f ∧ w S x ρ fun t => ∃ fs, t = .leaf (.obj cl fs) ∧ f [.obj cl fs] Φ
  | .prp k cl x, ρ, Φ => ∃ f, S.ps[k]? = some f ∧ w S x ρ fun t => ∃ fs, t = .leaf (.obj cl fs) ∧ f [.obj cl fs] Φ
  | .new k es, ρ, Φ => ∃ f, S.nw[k]? = some f ∧ wv S es ρ fun us => frozs S.z us fun ds => f ds Φ
  | .isi ty x, ρ, Φ => w S x ρ fun t => ∃ b, t.dat.isT ty = some b ∧ Φ (.leaf (.bl b))
  | .lr1 x, ρ, Φ => w S x ρ fun t => ∃ j, t.dat = .int j ∧ RgS 0 j ∧ Φ (rgT 0 j)
  | .lr2 x y, ρ, Φ => w S x ρ fun t => w S y ρ fun u => ∃ i j, t.dat = .int i ∧ u.dat = .int j ∧ RgS i j ∧ Φ (rgT i j)
  | .val _, _, _ => False
  | .nil, _, _ => False
  | .cons _ _, _, _ => False
  | .nop, _, _ => False
  | .prt _, _, _ => False
  | .sq _, _, _ => False
  | .rng _, _, _ => False
  | .zip _, _, _ => False
  | .enm _, _, _ => False
/-- the test -/
def wt (S : Sg) : I → Env → (Bool → Prop) → Prop
  | .not x, ρ, Ψ => wt S x ρ fun b => Ψ !b
  | .and x r, ρ, Ψ => wt S x ρ fun b => if b = true then wt S r ρ Ψ else Ψ false
  | .or x r, ρ, Ψ => wt S x ρ fun b => if b = true then Ψ true else wt S r ρ Ψ
  | .one x, ρ, Ψ => wt S x ρ Ψ
  | .cmp o x y, ρ, Ψ => w S x ρ fun t => w S y ρ fun u => cmpD o t.dat u.dat Ψ
  | .chn o o' x y z, ρ, Ψ => w S x ρ fun t => w S y ρ fun u => cmpD o t.dat u.dat fun b => if b = true then w S z ρ fun v => cmpD o' u.dat v.dat Ψ else Ψ false
  | .val x, ρ, Ψ => w S x ρ fun t => tru t Ψ
  | .eqO k cl x y, ρ, Ψ => ∃ f, S.ms[k]? = some f ∧ w S x ρ fun t => w S y ρ fun u => ∃ fs gs, t = .leaf (.obj cl fs) ∧ u = .leaf (.obj cl gs) ∧ f [.obj cl fs, .obj cl gs] fun r => ∃ b, r = .leaf (.bl b) ∧ Ψ b
  | _, _, _ => False
/-- a comprehension's test -/
def wc (S : Sg) : I → Env → (Bool → Prop) → Prop
  | .nop, _, Ψ => Ψ true
  | .one x, ρ, Ψ => wt S x ρ Ψ
  | _, _, _ => False
/-- what is laid -/
def wa (S : Sg) : I → Env → (List T → Prop) → Prop
  | .nil, _, Ψ => Ψ []
  | .cons e r, ρ, Ψ => w S e ρ fun t => t.fin fun u => wa S r ρ fun us => Ψ (u :: us)
  | _, _, _ => False
/-- what is handed in -/
def wv (S : Sg) : I → Env → (List T → Prop) → Prop
  | .nil, _, Ψ => Ψ []
  | .cons e r, ρ, Ψ => w S e ρ fun t => wv S r ρ fun us => Ψ (t :: us)
  | _, _, _ => False
def wo (S : Sg) : I → Env → (Option Int → Prop) → Prop
  | .nop, _, Ψ => Ψ none
  | .prt x, ρ, Ψ => w S x ρ fun t => ∃ i, t.dat = .int i ∧ Ψ (some i)
  | _, _, _ => False
/-- what is walked -/
def wi (S : Sg) : I → Env → (List D → Prop) → Prop
  | .sq x, ρ, Ψ => w S x ρ fun t => t.froz S.z fun d => ∃ ds, d.items = some ds ∧ Ψ ds
  | .rng es, ρ, Ψ => wv S es ρ fun us => rngW (T.dats us) Ψ
  | .zip es, ρ, Ψ => wv S es ρ fun us => frozs S.z us fun ds => zipW ds Ψ
  | .enm es, ρ, Ψ => wv S es ρ fun us => frozs S.z us fun ds => ∃ xs, ds = [.lst xs] ∧ Ψ (enumFrom 0 xs)
  | _, _, _ => False
end
end DL
namespace DL
open PySem PySem.Spec PyProof.Rows L2

/-- the names of a def, the defs, constants and built-ins that it reads -/
structure Cn extends Ct where
  fn : List Str
  gl : List Str
  bs : List Str
  ms : List (Nat × Str) := []
  ps : List (Nat × Str) := []
  nw : List Str := []
  fd : List (Nat × Nat × Str) := []
  ic : List (Nat × Str) := []
abbrev Cn.inn (c : Cn) (scope : Scope) : Cn := { c with toCt := c.toCt.inn scope }
def plainName (x : Str) : Bool := !(x == ("__debug__" : Str)) && !(x == ("__classdict__" : Str)) && !(x == ("__name__" : Str))
def ownOf (c : Cn) (sl : List Nat) : List (Str × Nat) := sl.filterMap fun i => c.N[i]?.map fun x => (x, i)
def isRange (x : Str) : Bool := x == ("range" : Str)
mutual
/-- the expression is written so -/
def okE (c : Cn) : I → Expr → Bool
  | .nm i, e => match e with | .Name x _ => nameIs c.toCt i x && c.vis x && plainName x | _ => false
  | .ow i, e => match e with | .Name x _ => nameIs c.toCt i x && c.vis x && plainName x | _ => false
  | .gl k, e => match e with | .Name x _ => decide (c.gl[k]? = some x) && c.glo x && plainName x | _ => false
  | .int n, e => match e with | .Constant (.int m) _ _ => n == m | _ => false
  | .str n, e => match e with | .Constant (.str m) _ _ => n == m | _ => false
  | .bl n, e => match e with | .Constant (.bool m) _ _ => n == m | _ => false
  | .non, e => match e with | .Constant .none _ _ => true | _ => false
  | .tup es, e => match e with | .Tuple xs _ _ => okA c es xs | _ => false
  | .lst es, e => match e with | .List xs _ => okA c es xs | _ => false
  | .bin o x y, e => match e with | .BinOp a op b _ => decide (op = o.op) && okE c x a && okE c y b | _ => false
  | .neg x, e => match e with | .UnaryOp .USub a _ => okE c x a | _ => false
  | .not x, e => match e with | .UnaryOp .Not a _ => okE c x a | _ => false
  | .cmp o x y, e => match e with | .Compare a [op] [b] _ => decide (op = o.op) && notSet b && okE c x a && okE c y b | _ => false
  | .chn o o' x y z, e => match e with | .Compare a [op, op'] [b, d] _ => decide (op = o.op) && decide (op' = o'.op) && notSet d && okE c x a && okE c y b && okE c z d | _ => false
  | .and x r, e => match e with | .BoolOp .And (a :: b :: es) p => okE c x a && okE c r (.BoolOp .And (b :: es) p) | _ => false
  | .or x r, e => match e with | .BoolOp .Or (a :: b :: es) p => okE c x a && okE c r (.BoolOp .Or (b :: es) p) | _ => false
  | .one x, e => match e with | .BoolOp _ [a] _ => okE c x a | _ => false
  | .orv x r, e => match e with | .BoolOp .Or (a :: b :: es) p => okE c x a && okE c r (.BoolOp .Or (b :: es) p) | _ => false
  | .srtS x, e => match e with
    | .Call (.Name f _) [.Call (.Name y _) [a] [] _] [] _ => (f == ("sorted" : Str)) && decide (f ∈ c.bs) && c.glo f && (y == ("set" : Str)) && decide (y ∈ c.bs) && c.glo y && notStar a && okE c x a
    | _ => false
  | .ife t x y, e => match e with | .IfExp d a b _ => okT c t d && okE c x a && okE c y b | _ => false
  | .ix x y, e => match e with | .Subscript a b _ => notSlice b && okE c x a && okE c y b | _ => false
  | .sl x lo hi, e => match e with | .Subscript a (.Slice l h none _) _ => okE c x a && okO c lo l && okO c hi h | _ => false
  | .call k es, e => match e with | .Call (.Name x _) (a :: as) [] _ => decide (c.fn[k]? = some x) && c.glo x && plainName x && (a :: as).all notStar && okA c es (a :: as) | _ => false
  | .blt f es, e => match e with | .Call (.Name x _) (a :: as) [] _ => decide (x = f.nm) && decide (x ∈ c.bs) && c.glo x && (a :: as).all notStar && okA c es (a :: as) | _ => false
  | .lc own g src cond elt, e => match e with
    | .ListComp el [⟨tg, it, ifs, 0⟩] scope _ => blkC c.N c.sc scope (ownOf c own) && decide ((ownOf c own).map (·.2) = own) && okG (c.inn scope).toCt g tg && g.slots.all (fun i => own.contains i) && notSet it && okI c src tg it && okC (c.inn scope) cond ifs && okE (c.inn scope) elt el
    | _ => false
  | .eqO k cl x y, e => match e with | .Compare a [.Eq] [b] _ => decide (c.ms[k]? = some (cl, ("__eq__" : Str))) && notSet b && okE c x a && okE c y b | _ => false
  | .isC cl x, e => match e with
    | .Call (.Name f _) [a, .Name y _] [] _ => (f == ("isinstance" : Str)) && decide (f ∈ c.bs) && c.glo f && decide ((cl, y) ∈ c.ic) && plainName y && c.glo y && notStar a && okE c x a
    | _ => false
  | .fld cl i x, e => match e with
    | .Attribute o n _ => decide ((cl, i, n) ∈ c.fd) && baseOk o && okE c x o
    | _ => false
  | .mth k cl x es, e => match e with
    | .Call (.Attribute o m ap) (a :: as) [] pos => decide (c.ms[k]? = some (cl, m)) && baseOk o && (ap.endLine == pos.line) && Nat.blt (a :: as).length 30 && (a :: as).all notStar && okA c es (a :: as) && okE c x o
    | _ => false
  | .mt0 k cl x, e => match e with
    | .Call (.Attribute o m ap) [] [] pos => decide (c.ms[k]? = some (cl, m)) && baseOk o && (ap.endLine == pos.line) && okE c x o
    | _ => false
  | .prp k cl x, e => match e with
    | .Attribute o m _ => decide (c.ps[k]? = some (cl, m)) && baseOk o && okE c x o
    | _ => false
  | .new k es, e => match e with
    | .Call (.Name x _) (a :: as) [] _ => decide (c.nw[k]? = some x) && c.glo x && plainName x && (a :: as).all notStar && okA c es (a :: as)
    | _ => false
  | .isi ty x, e => match e with
    | .Call (.Name f _) [a, .Name y _] [] _ => (f == ("isinstance" : Str)) && decide (f ∈ c.bs) && c.glo f && decide (y = ty.nm) && decide (y ∈ c.bs) && c.glo y && notStar a && okE c x a
    | _ => false
  | .lr1 x, e => match e with
    | .Call (.Name f _) [r] [] _ => (f == ("list" : Str)) && decide (f ∈ c.bs) && c.glo f && (match r with
      | .Call (.Name y _) [a] [] _ => (y == ("range" : Str)) && decide (y ∈ c.bs) && c.glo y && notStar a && okE c x a
      | _ => false)
    | _ => false
  | .lr2 x x', e => match e with
    | .Call (.Name f _) [r] [] _ => (f == ("list" : Str)) && decide (f ∈ c.bs) && c.glo f && (match r with
      | .Call (.Name y _) [a, b] [] _ => (y == ("range" : Str)) && decide (y ∈ c.bs) && c.glo y && notStar a && notStar b && okE c x a && okE c x' b
      | _ => false)
    | _ => false
  | .val _, _ => false
  | .nil, _ => false
  | .cons _ _, _ => false
  | .nop, _ => false
  | .prt _, _ => false
  | .sq _, _ => false
  | .rng _, _ => false
  | .zip _, _ => false
  | .enm _, _ => false
def okT (c : Cn) : I → Expr → Bool
  | .not x, e => match e with | .UnaryOp .Not a _ => okT c x a | _ => false
  | .and x r, e => match e with | .BoolOp .And (a :: b :: es) _ => okT c x a && okW c r .And (b :: es) | _ => false
  | .or x r, e => match e with | .BoolOp .Or (a :: b :: es) _ => okT c x a && okW c r .Or (b :: es) | _ => false
  | .cmp o x y, e => match e with | .Compare a [op] [b] _ => decide (op = o.op) && notSet b && okE c x a && okE c y b | _ => false
  | .chn o o' x y z, e => match e with | .Compare a [op, op'] [b, d] _ => decide (op = o.op) && decide (op' = o'.op) && notSet d && okE c x a && okE c y b && okE c z d | _ => false
  | .val x, e => plainTest e && okE c x e
  | .eqO k cl x y, e => match e with | .Compare a [.Eq] [b] _ => decide (c.ms[k]? = some (cl, ("__eq__" : Str))) && notSet b && okE c x a && okE c y b | _ => false
  | _, _ => false
def okW (c : Cn) : I → PySem.BoolOp → List Expr → Bool
  | .and x r, op, es => match op, es with | .And, a :: b :: es => okT c x a && okW c r .And (b :: es) | _, _ => false
  | .or x r, op, es => match op, es with | .Or, a :: b :: es => okT c x a && okW c r .Or (b :: es) | _, _ => false
  | .one x, _, es => match es with | [a] => okT c x a | _ => false
  | _, _, _ => false
def okC (c : Cn) : I → List Expr → Bool
  | .nop, es => match es with | [] => true | _ => false
  | .one x, es => match es with | [a] => okT c x a | _ => false
  | _, _ => false
def okA (c : Cn) : I → List Expr → Bool
  | .nil, es => match es with | [] => true | _ => false
  | .cons e r, es => match es with | a :: as => notStar a && okE c e a && okA c r as | _ => false
  | _, _ => false
def okO (c : Cn) : I → Option Expr → Bool
  | .nop, e => match e with | none => true | _ => false
  | .prt x, e => match e with | some a => okE c x a | _ => false
  | _, _ => false
def okI (c : Cn) : I → Expr → Expr → Bool
  | .sq x, _, e => okE c x e
  | .rng es, _, e => match e with
    | .Call (.Name x _) as [] _ => isRange x && decide (x ∈ c.bs) && c.glo x && as.all notStar && okA c es as && (as.length == 1 || as.length == 2 || as.length == 3)
    | _ => false
  | .zip es, tg, e => match e with
    | .Call (.Name x _) [a, b] [] _ => (x == ("zip" : Str)) && decide (x ∈ c.bs) && c.glo x && isTup tg && [a, b].all notStar && okA c es [a, b]
    | _ => false
  | .enm es, tg, e => match e with
    | .Call (.Name x _) [a] [] _ => (x == ("enumerate" : Str)) && decide (x ∈ c.bs) && c.glo x && isTup tg && [a].all notStar && okA c es [a]
    | _ => false
  | _, _, _ => false
end
def Mono (f : SpecF) : Prop := ∀ ds (Φ Ψ : T → Prop), (∀ t, Φ t → Ψ t) → f ds Φ → f ds Ψ
/-- all that a body needs -/
structure Good (c : Cn) (S : Sg) (a : An0) (X : Cx) : Prop where
  xo : XOk a X
  co : COk c.toCt X
  io : S.z = true → NoIo a
  hk : X.env.scope.kind = .function
  fns : ∀ (k : Nat) x f, c.fn[k]? = some x → S.fs[k]? = some f → FnAt a X x f ∧ Mono f
  gls : ∀ (k : Nat) x d, c.gl[k]? = some x → S.gs[k]? = some d → ∃ v u, X.mg x = some u ∧ RelV v u ∧ ∀ F, Is a.toAn F d v
  bs : ∀ x ∈ c.bs, X.mg x = none
  ms : ∀ (k : Nat) q f, c.ms[k]? = some q → S.ms[k]? = some f → MtAt a X q.1 q.2 f ∧ Mono f
  ps : ∀ (k : Nat) q f, c.ps[k]? = some q → S.ps[k]? = some f → PrAt a X q.1 q.2 f ∧ Mono f
  nw : ∀ (k : Nat) x f, c.nw[k]? = some x → S.nw[k]? = some f → NwAt a X x f ∧ Mono f
  fd : ∀ q ∈ c.fd, FdAt a X q.1 q.2.1 q.2.2
  ic : ∀ q ∈ c.ic, InAt a X q.1 q.2
section
variable {c : Cn} {S : Sg} {a : An0} {X : Cx} {ρ : Env} {Φ : T → Prop}
theorem Good.on {H F : Hp} (g : Good c S a X) : Good c S (a.on H F) X := ⟨g.xo.on, g.co, g.io, g.hk, fun k x f h1 h2 => ⟨(g.fns k x f h1 h2).1.on, (g.fns k x f h1 h2).2⟩, g.gls, g.bs, fun k q f h1 h2 => ⟨⟨(g.ms k q f h1 h2).1.ex⟩, (g.ms k q f h1 h2).2⟩, fun k q f h1 h2 => ⟨⟨(g.ps k q f h1 h2).1.ex⟩, (g.ps k q f h1 h2).2⟩, fun k q f h1 h2 => ⟨⟨(g.nw k q f h1 h2).1.ex⟩, (g.nw k q f h1 h2).2⟩, fun q h => ⟨(g.fd q h).ex⟩, fun q h => ⟨(g.ic q h).ex⟩⟩
theorem Good.onV {F : Hp} (g : Good c S a X) : Good c S (a.onV F) X := ⟨g.xo.onV, g.co, g.io, g.hk, fun k x f h1 h2 => ⟨⟨(g.fns k x f h1 h2).1.ex⟩, (g.fns k x f h1 h2).2⟩, g.gls, g.bs, fun k q f h1 h2 => ⟨⟨(g.ms k q f h1 h2).1.ex⟩, (g.ms k q f h1 h2).2⟩, fun k q f h1 h2 => ⟨⟨(g.ps k q f h1 h2).1.ex⟩, (g.ps k q f h1 h2).2⟩, fun k q f h1 h2 => ⟨⟨(g.nw k q f h1 h2).1.ex⟩, (g.nw k q f h1 h2).2⟩, fun q h => ⟨(g.fd q h).ex⟩, fun q h => ⟨(g.ic q h).ex⟩⟩
theorem Good.blk {scope : Scope} (sk : scope.kind = .function) {s : Shared} {H : Hp} {C : Addr} {cl : List (Str × Addr)} {fp : List Addr} (g : Good c S a X) : Good (c.inn scope) S a (Blk X scope s H C cl fp) :=
  ⟨g.xo.blk, g.co.blk, g.io, sk, fun k x f h1 h2 => ⟨(g.fns k x f h1 h2).1.blk, (g.fns k x f h1 h2).2⟩, g.gls, g.bs, fun k q f h1 h2 => ⟨⟨(g.ms k q f h1 h2).1.ex⟩, (g.ms k q f h1 h2).2⟩, fun k q f h1 h2 => ⟨⟨(g.ps k q f h1 h2).1.ex⟩, (g.ps k q f h1 h2).2⟩, fun k q f h1 h2 => ⟨⟨(g.nw k q f h1 h2).1.ex⟩, (g.nw k q f h1 h2).2⟩, fun q h => ⟨(g.fd q h).ex⟩, fun q h => ⟨(g.ic q h).ex⟩⟩
theorem plain_of {x : Str} (h : plainName x = true) : (x == ("__debug__" : Str)) = false ∧ (x == ("__classdict__" : Str)) = false ∧ x ≠ ("__name__" : Str) := by
  unfold plainName at h
  simp only [Bool.and_eq_true, Bool.not_eq_true'] at h
  exact ⟨h.1.1, h.1.2, fun e => by rw [e] at h; simp at h⟩
theorem blk_kind {N : List Str} {sc scope : Scope} {own : List (Str × Nat)} (h : blkC N sc scope own = true) : scope.kind = .function := (blkOk_by h).kind
end
end DL
namespace DL
open PySem PySem.Spec PyProof.Rows L2
section
variable {c : Cn} {S : Sg} {a : An0} {X : Cx} {ρ : Env}
theorem DE.mono {e : Expr} {Φ Ψ : T → Prop} (h : DE a X ρ e Φ) (i : ∀ t, Φ t → Ψ t) : DE a X ρ e Ψ := fun σ H ts vs Q ok k => h σ H ts vs Q ok fun v t H' q ok' => k v t H' (i t q) ok'
theorem DT.mono {e : Expr} {Φ Ψ : Bool → Prop} (h : DT a X ρ e Φ) (i : ∀ t, Φ t → Ψ t) : DT a X ρ e Ψ := fun σ H ts vs Q ok k => h σ H ts vs Q ok fun b H' q ok' => k b H' (i b q) ok'
theorem DA.mono {e : List Expr} {Φ Ψ : List T → Prop} (h : DA a X ρ e Φ) (i : ∀ t, Φ t → Ψ t) : DA a X ρ e Ψ := fun σ H ts vs Q ok k => h σ H ts vs Q ok fun ws us H' q n l ok' => k ws us H' (i us q) n l ok'
theorem DV.mono {e : List Expr} {Φ Ψ : List T → Prop} (h : DV a X ρ e Φ) (i : ∀ t, Φ t → Ψ t) : DV a X ρ e Ψ := fun σ H ts vs Q ok k => h σ H ts vs Q ok fun ws us H' q l ok' => k ws us H' (i us q) l ok'
theorem DO.mono {e : Option Expr} {Φ Ψ : Option Int → Prop} (h : DO a X ρ e Φ) (i : ∀ t, Φ t → Ψ t) : DO a X ρ e Ψ := fun σ H ts vs Q ok k => h σ H ts vs Q ok fun o H' q ok' => k o H' (i o q) ok'
theorem fin_mono {t : T} {Φ Ψ : T → Prop} (i : ∀ t, Φ t → Ψ t) (h : t.fin Φ) : t.fin Ψ := by
  cases t with
  | vw d => exact ⟨h.1, i _ h.2⟩
  | leaf d => exact i _ h
  | lst us => exact i _ h
  | tup us => exact i _ h
theorem ite_mono {b : Bool} {p q p' q' : Prop} (h1 : p → p') (h2 : q → q') (h : if b = true then p else q) : if b = true then p' else q' := by
  cases b with
  | true => rw [if_pos rfl] at h ⊢; exact h1 h
  | false => rw [if_neg (by decide)] at h ⊢; exact h2 h
theorem cmp_mono {o : Cop} {x y : D} {Φ Ψ : Bool → Prop} (i : ∀ b, Φ b → Ψ b) (h : cmpD o x y Φ) : cmpD o x y Ψ := by
  have one : ∀ (o : Cop) (x y : D), cmpD o x y Φ → cmpD o x y Ψ := fun o x y h => by
    unfold cmpD at h ⊢
    split at h <;> first
      | exact i _ h
      | exact ⟨h.1, h.2.1, i _ h.2.2⟩
      | exact h.elim (fun ⟨s, t, e1, e2, q⟩ => .inl ⟨s, t, e1, e2, i _ q⟩) fun h => .inr ⟨h.1, h.2.1, i _ h.2.2⟩
      | (obtain ⟨c, e, q⟩ := h; exact ⟨c, e, i _ q⟩)
      | exact h.elim
  exact one o x y h
def DC (a : An0) (X : Cx) (ρ : Env) (es : List Expr) (Ψ : Bool → Prop) : Prop := ∀ σ H ts vs Q, SOk a ρ σ ts vs H → (∀ b H', Ψ b → SOk a ρ σ ts vs H' → Q b H') → ∃ t, PTs X es t ∧ t σ H Q
theorem rng1_of {us : List T} {Ψ : List D → Prop} (h : us.length = 1 ∧ rngW (T.dats us) Ψ) : ∃ j, T.dats us = [.int j] ∧ (-(2 ^ 62) ≤ j ∧ j < 2 ^ 62) ∧ Ψ ((List.range j.toNat).map fun (i : Nat) => .int i) := by
  obtain ⟨l, h⟩ := h
  match us, l with
  | [t], _ =>
    simp only [T.dats] at h ⊢
    cases e : t.dat <;> rw [e] at h <;> first | exact h.elim | exact ⟨_, rfl, h⟩
theorem rng2_of {us : List T} {Ψ : List D → Prop} (h : us.length = 2 ∧ rngW (T.dats us) Ψ) : ∃ i j, T.dats us = [.int i, .int j] ∧ (-(2 ^ 62) ≤ i ∧ i < 2 ^ 62 ∧ -(2 ^ 62) ≤ j ∧ j < 2 ^ 62) ∧ Ψ ((List.range (j - i).toNat).map fun (k : Nat) => .int (i + k)) := by
  obtain ⟨l, h⟩ := h
  match us, l with
  | [t, u], _ =>
    simp only [T.dats] at h ⊢
    cases e : t.dat <;> cases e2 : u.dat <;> rw [e, e2] at h <;> first | exact h.elim | exact ⟨_, _, rfl, h⟩
theorem rng3_of {us : List T} {Ψ : List D → Prop} (h : us.length = 3 ∧ rngW (T.dats us) Ψ) : ∃ i j c n, T.dats us = [.int i, .int j, .int c] ∧ RgC i j c n ∧ Ψ ((List.range n).map fun (k : Nat) => .int (i + k * c)) := by
  obtain ⟨l, h⟩ := h
  match us, l with
  | [t, u, v], _ =>
    simp only [T.dats] at h ⊢
    cases e : t.dat <;> cases e2 : u.dat <;> cases e3 : v.dat <;> rw [e, e2, e3] at h <;> first | exact h.elim | exact h.elim fun n q => ⟨_, _, _, n, rfl, q⟩
theorem dc_nil {Ψ : Bool → Prop} (h : Ψ true) : DC a X ρ [] Ψ := fun σ H ts vs Q ok k => ⟨_, pts_nil, k _ _ h ok⟩
theorem dc_one {e : Expr} {Ψ : Bool → Prop} (h : DT a X ρ e Ψ) : DC a X ρ [e] Ψ := fun σ H ts vs Q ok k => ⟨_, pts_one pt_W, h σ H ts vs Q ok k⟩
theorem sE_isi {ty : Ty} {x : I} {c : Cn} {S : Sg} {a : An0} {X : Cx} {ρ : Env} {Φ : T → Prop} {e : Expr} (ih : ∀ {Φ e}, okE c x e = true → w S x ρ Φ → DE a X ρ e Φ) (g : Good c S a X) (k : okE c (.isi ty x) e = true) (h : w S (.isi ty x) ρ Φ) : DE a X ρ e Φ := by
    simp only [w] at h
    simp only [okE] at k
    split at k
    · simp only [Bool.and_eq_true, decide_eq_true_eq] at k
      obtain ⟨⟨⟨⟨⟨⟨⟨k1, k2⟩, k3⟩, k4⟩, k5⟩, k6⟩, k7⟩, k8⟩ := k
      have e1 := beq_iff_eq.mp k1
      subst e1 k4
      exact de_isi g.xo (Ct.glo_of g.co k3) (g.bs _ k2) (Ct.glo_of g.co k6) (g.bs _ k5) k7 (ih k8 h)
    · cases k
theorem sE_lr1 {x : I} {c : Cn} {S : Sg} {a : An0} {X : Cx} {ρ : Env} {Φ : T → Prop} {e : Expr} (ih : ∀ {Φ e}, okE c x e = true → w S x ρ Φ → DE a X ρ e Φ) (g : Good c S a X) (k : okE c (.lr1 x) e = true) (h : w S (.lr1 x) ρ Φ) : DE a X ρ e Φ := by
    simp only [w] at h
    simp only [okE] at k
    split at k
    · simp only [Bool.and_eq_true, decide_eq_true_eq] at k
      obtain ⟨⟨⟨k1, k2⟩, k3⟩, k⟩ := k
      split at k
      · simp only [Bool.and_eq_true, decide_eq_true_eq] at k
        obtain ⟨⟨⟨⟨k4, k5⟩, k6⟩, k7⟩, k8⟩ := k
        have e1 := beq_iff_eq.mp k1
        have e2 := beq_iff_eq.mp k4
        subst e1 e2
        exact de_lr1 g.xo (Ct.glo_of g.co k3) (g.bs _ k2) (Ct.glo_of g.co k6) (g.bs _ k5) k7 (ih k8 h)
      · cases k
    · cases k
theorem sE_lr2 {x y : I} {c : Cn} {S : Sg} {a : An0} {X : Cx} {ρ : Env} {Φ : T → Prop} {e : Expr} (ih : ∀ {Φ e}, okE c x e = true → w S x ρ Φ → DE a X ρ e Φ) (ih2 : ∀ {Φ e}, okE c y e = true → w S y ρ Φ → DE a X ρ e Φ) (g : Good c S a X) (k : okE c (.lr2 x y) e = true) (h : w S (.lr2 x y) ρ Φ) : DE a X ρ e Φ := by
    simp only [w] at h
    simp only [okE] at k
    split at k
    · simp only [Bool.and_eq_true, decide_eq_true_eq] at k
      obtain ⟨⟨⟨k1, k2⟩, k3⟩, k⟩ := k
      split at k
      · simp only [Bool.and_eq_true, decide_eq_true_eq] at k
        obtain ⟨⟨⟨⟨⟨⟨k4, k5⟩, k6⟩, k7⟩, k8⟩, k9⟩, k10⟩ := k
        have e1 := beq_iff_eq.mp k1
        have e2 := beq_iff_eq.mp k4
        subst e1 e2
        exact de_lr2 g.xo (Ct.glo_of g.co k3) (g.bs _ k2) (Ct.glo_of g.co k6) (g.bs _ k5) k7 k8 ((ih k9 h).mono fun t q => ih2 k10 q)
      · cases k
    · cases k
theorem sE_fld {cl i : Nat} {x : I} {c : Cn} {S : Sg} {a : An0} {X : Cx} {ρ : Env} {Φ : T → Prop} {e : Expr} (ih : ∀ {Φ e}, okE c x e = true → w S x ρ Φ → DE a X ρ e Φ) (g : Good c S a X) (k : okE c (.fld cl i x) e = true) (h : w S (.fld cl i x) ρ Φ) : DE a X ρ e Φ := by
    simp only [w] at h
    simp only [okE] at k
    split at k
    · simp only [Bool.and_eq_true, decide_eq_true_eq] at k
      exact de_fld (g.fd _ k.1.1) (attr_ok k.1.2) (ih k.2 h)
    · cases k
theorem sE_mth {n cl : Nat} {x es : I} {c : Cn} {S : Sg} {a : An0} {X : Cx} {ρ : Env} {Φ : T → Prop} {e : Expr} (ih : ∀ {Φ e}, okE c x e = true → w S x ρ Φ → DE a X ρ e Φ) (ih2 : ∀ {Φ e}, okA c es e = true → wv S es ρ Φ → DV a X ρ e Φ) (g : Good c S a X) (k : okE c (.mth n cl x es) e = true) (h : w S (.mth n cl x es) ρ Φ) : DE a X ρ e Φ := by
    simp only [w] at h
    simp only [okE] at k
    split at k
    · simp only [Bool.and_eq_true, decide_eq_true_eq, List.all_cons] at k
      obtain ⟨⟨⟨⟨⟨⟨k1, k2⟩, k3⟩, k4⟩, k5⟩, k6⟩, k7⟩ := k
      obtain ⟨f, hf, h⟩ := h
      obtain ⟨mt, mono⟩ := g.ms n _ f k1 hf
      exact de_mthO g.xo g.io mt k5.1 k5.2 k2 k3 (Nat.le_of_ble_eq_true k4) ((ih k7 h).mono fun t q => q.elim fun fs q => ⟨fs, q.1, ih2 k6 q.2⟩) mono
    · cases k
theorem sE_mt0 {n cl : Nat} {x : I} {c : Cn} {S : Sg} {a : An0} {X : Cx} {ρ : Env} {Φ : T → Prop} {e : Expr} (ih : ∀ {Φ e}, okE c x e = true → w S x ρ Φ → DE a X ρ e Φ) (g : Good c S a X) (k : okE c (.mt0 n cl x) e = true) (h : w S (.mt0 n cl x) ρ Φ) : DE a X ρ e Φ := by
    simp only [w] at h
    simp only [okE] at k
    split at k
    · simp only [Bool.and_eq_true, decide_eq_true_eq] at k
      obtain ⟨⟨⟨k1, k2⟩, k3⟩, k7⟩ := k
      obtain ⟨f, hf, h⟩ := h
      obtain ⟨mt, mono⟩ := g.ms n _ f k1 hf
      exact de_mthO0 g.xo mt k2 k3 (ih k7 h) mono
    · cases k
theorem sE_prp {n cl : Nat} {x : I} {c : Cn} {S : Sg} {a : An0} {X : Cx} {ρ : Env} {Φ : T → Prop} {e : Expr} (ih : ∀ {Φ e}, okE c x e = true → w S x ρ Φ → DE a X ρ e Φ) (g : Good c S a X) (k : okE c (.prp n cl x) e = true) (h : w S (.prp n cl x) ρ Φ) : DE a X ρ e Φ := by
    simp only [w] at h
    simp only [okE] at k
    split at k
    · simp only [Bool.and_eq_true, decide_eq_true_eq] at k
      obtain ⟨⟨k1, k2⟩, k7⟩ := k
      obtain ⟨f, hf, h⟩ := h
      obtain ⟨mt, mono⟩ := g.ps n _ f k1 hf
      exact de_prp g.xo mt (attr_ok k2) (ih k7 h) mono
    · cases k
theorem sE_new {n : Nat} {es : I} {c : Cn} {S : Sg} {a : An0} {X : Cx} {ρ : Env} {Φ : T → Prop} {e : Expr} (ih2 : ∀ {Φ e}, okA c es e = true → wv S es ρ Φ → DV a X ρ e Φ) (g : Good c S a X) (k : okE c (.new n es) e = true) (h : w S (.new n es) ρ Φ) : DE a X ρ e Φ := by
    simp only [w] at h
    simp only [okE] at k
    split at k
    · simp only [Bool.and_eq_true, decide_eq_true_eq, List.all_cons] at k
      obtain ⟨⟨⟨⟨k1, k2⟩, k3⟩, k4⟩, k5⟩ := k
      obtain ⟨f, hf, h⟩ := h
      obtain ⟨nw, mono⟩ := g.nw n _ f k1 hf
      exact de_new g.xo g.io nw (Ct.glo_of g.co k2) (plain_of k3).1 k4.1 k4.2 (ih2 k5 h) mono
    · cases k
theorem sE_eqO {n cl : Nat} {x y : I} {c : Cn} {S : Sg} {a : An0} {X : Cx} {ρ : Env} {Φ : T → Prop} {e : Expr} (ih : ∀ {Φ e}, okE c x e = true → w S x ρ Φ → DE a X ρ e Φ) (ih2 : ∀ {Φ e}, okE c y e = true → w S y ρ Φ → DE a X ρ e Φ) (g : Good c S a X) (k : okE c (.eqO n cl x y) e = true) (h : w S (.eqO n cl x y) ρ Φ) : DE a X ρ e Φ := by
    simp only [w] at h
    simp only [okE] at k
    split at k
    · simp only [Bool.and_eq_true, decide_eq_true_eq] at k
      obtain ⟨⟨⟨k1, k2⟩, k3⟩, k4⟩ := k
      obtain ⟨f, hf, h⟩ := h
      obtain ⟨mt, mono⟩ := g.ms n _ f k1 hf
      exact de_eqO g.xo mt mono k2 ((ih k3 h).mono fun t q => ih2 k4 q)
    · cases k
theorem sT_eqO {n cl : Nat} {x y : I} {c : Cn} {S : Sg} {a : An0} {X : Cx} {ρ : Env} {Ψ : Bool → Prop} {e : Expr} (ih : ∀ {Φ e}, okE c x e = true → w S x ρ Φ → DE a X ρ e Φ) (ih2 : ∀ {Φ e}, okE c y e = true → w S y ρ Φ → DE a X ρ e Φ) (g : Good c S a X) (k : okT c (.eqO n cl x y) e = true) (h : wt S (.eqO n cl x y) ρ Ψ) : DT a X ρ e Ψ := by
    simp only [wt] at h
    simp only [okT] at k
    split at k
    · simp only [Bool.and_eq_true, decide_eq_true_eq] at k
      obtain ⟨⟨⟨k1, k2⟩, k3⟩, k4⟩ := k
      obtain ⟨f, hf, h⟩ := h
      obtain ⟨mt, mono⟩ := g.ms n _ f k1 hf
      exact dt_eqO g.xo mt mono k2 ((ih k3 h).mono fun t q => ih2 k4 q)
    · cases k
theorem sE_isC {cl : Nat} {x : I} {c : Cn} {S : Sg} {a : An0} {X : Cx} {ρ : Env} {Φ : T → Prop} {e : Expr} (ih : ∀ {Φ e}, okE c x e = true → w S x ρ Φ → DE a X ρ e Φ) (g : Good c S a X) (k : okE c (.isC cl x) e = true) (h : w S (.isC cl x) ρ Φ) : DE a X ρ e Φ := by
    simp only [w] at h
    simp only [okE] at k
    split at k
    · simp only [Bool.and_eq_true, decide_eq_true_eq] at k
      obtain ⟨⟨⟨⟨⟨⟨⟨k1, k2⟩, k3⟩, k4⟩, k5⟩, k6⟩, k7⟩, k8⟩ := k
      have e1 := beq_iff_eq.mp k1
      subst e1
      exact de_isC g.xo (g.ic _ k4) (Ct.glo_of g.co k3) (g.bs _ k2) (Ct.glo_of g.co k6) (plain_of k5).1 k7 (ih k8 h)
    · cases k
theorem sE_orv {x r : I} {c : Cn} {S : Sg} {a : An0} {X : Cx} {ρ : Env} {Φ : T → Prop} {e : Expr} (ih : ∀ {Φ e}, okE c x e = true → w S x ρ Φ → DE a X ρ e Φ) (ih2 : ∀ {Φ e}, okE c r e = true → w S r ρ Φ → DE a X ρ e Φ) (g : Good c S a X) (k : okE c (.orv x r) e = true) (h : w S (.orv x r) ρ Φ) : DE a X ρ e Φ := by
    simp only [w] at h
    simp only [okE] at k
    split at k
    · simp only [Bool.and_eq_true] at k
      exact de_orv g.xo ((ih k.1 h).mono fun t q => q.elim fun b q => ⟨b, q.1, ite_mono (fun q => q) (fun q => ih2 k.2 q) q.2⟩)
    · cases k
theorem sE_srtS {x : I} {c : Cn} {S : Sg} {a : An0} {X : Cx} {ρ : Env} {Φ : T → Prop} {e : Expr} (ih : ∀ {Φ e}, okE c x e = true → w S x ρ Φ → DE a X ρ e Φ) (g : Good c S a X) (k : okE c (.srtS x) e = true) (h : w S (.srtS x) ρ Φ) : DE a X ρ e Φ := by
    simp only [w] at h
    simp only [okE] at k
    split at k
    · simp only [Bool.and_eq_true, decide_eq_true_eq] at k
      obtain ⟨⟨⟨⟨⟨⟨⟨k1, k2⟩, k3⟩, k4⟩, k5⟩, k6⟩, k7⟩, k8⟩ := k
      have e1 := beq_iff_eq.mp k1
      have e2 := beq_iff_eq.mp k4
      subst e1 e2
      exact de_srtS g.xo (Ct.glo_of g.co k3) (g.bs _ k2) (Ct.glo_of g.co k6) (g.bs _ k5) k7 (ih k8 h)
    · cases k
theorem okE_val (c : Cn) (x : I) (e : Expr) : okE c (.val x) e = false := by simp only [okE]
theorem okE_nil (c : Cn) (e : Expr) : okE c (.nil) e = false := by simp only [okE]
theorem okE_cons (c : Cn) (x : I) (y : I) (e : Expr) : okE c (.cons x y) e = false := by simp only [okE]
theorem okE_nop (c : Cn) (e : Expr) : okE c (.nop) e = false := by simp only [okE]
theorem okE_prt (c : Cn) (x : I) (e : Expr) : okE c (.prt x) e = false := by simp only [okE]
theorem okE_sq (c : Cn) (x : I) (e : Expr) : okE c (.sq x) e = false := by simp only [okE]
theorem okE_rng (c : Cn) (x : I) (e : Expr) : okE c (.rng x) e = false := by simp only [okE]
theorem okE_zip (c : Cn) (x : I) (e : Expr) : okE c (.zip x) e = false := by simp only [okE]
theorem okE_enm (c : Cn) (x : I) (e : Expr) : okE c (.enm x) e = false := by simp only [okE]
mutual
theorem soundE : ∀ (i : I) {c : Cn} {S : Sg} {a : An0} {X : Cx} {ρ : Env} {Φ : T → Prop} {e : Expr}, Good c S a X → okE c i e = true → w S i ρ Φ → DE a X ρ e Φ
  | .nm i, c, S, a, X, ρ, Φ, e, g, k, h => by
    simp only [w] at h
    cases e <;> simp only [okE, Bool.false_eq_true] at k
    rename_i x p
    simp only [Bool.and_eq_true] at k
    obtain ⟨q1, q2, _⟩ := plain_of k.2
    split at h
    · exact de_nm (nameIs_of g.co k.1.1) (Ct.vis_of g.co k.1.2) q1 q2 (by assumption) h
    · exact h.elim
  | .ow i, c, S, a, X, ρ, Φ, e, g, k, h => by
    simp only [w] at h
    cases e <;> simp only [okE, Bool.false_eq_true] at k
    rename_i x p
    simp only [Bool.and_eq_true] at k
    obtain ⟨q1, q2, _⟩ := plain_of k.2
    split at h
    · exact de_ow (nameIs_of g.co k.1.1) (Ct.vis_of g.co k.1.2) q1 q2 (by assumption) h
    · exact h.elim
  | .gl i, c, S, a, X, ρ, Φ, e, g, k, h => by
    simp only [w] at h
    cases e <;> simp only [okE, Bool.false_eq_true] at k
    rename_i x p
    simp only [Bool.and_eq_true, decide_eq_true_eq] at k
    obtain ⟨q1, q2, _⟩ := plain_of k.2
    obtain ⟨d, e1, q⟩ := h
    obtain ⟨v, u, e2, r, is⟩ := g.gls i x d k.1.1 e1
    exact fun σ H ts vs Q ok kk => ⟨_, pe_glob (Ct.glo_of g.co k.1.2) e2 r q1, kk v _ H q (let ⟨F, Sc, Sm, w⟩ := ok; ⟨F, Sc, Sm, w.leaf (is F)⟩)⟩
  | .int n, c, S, a, X, ρ, Φ, e, g, k, h => by
    simp only [w] at h
    simp only [okE] at k
    split at k
    · rw [← beq_iff_eq.mp k]; exact de_int h
    · cases k
  | .str n, c, S, a, X, ρ, Φ, e, g, k, h => by
    simp only [w] at h
    simp only [okE] at k
    split at k
    · rw [← beq_iff_eq.mp k]; exact de_str h
    · cases k
  | .bl n, c, S, a, X, ρ, Φ, e, g, k, h => by
    simp only [w] at h
    simp only [okE] at k
    split at k
    · rw [← beq_iff_eq.mp k]; exact de_bl h
    · cases k
  | .non, c, S, a, X, ρ, Φ, e, g, k, h => by
    simp only [w] at h
    simp only [okE] at k
    split at k
    · exact de_non h
    · cases k
  | .tup es, c, S, a, X, ρ, Φ, e, g, k, h => by
    simp only [w] at h
    simp only [okE] at k
    split at k
    · exact de_tup (soundA es g k h)
    · cases k
  | .lst es, c, S, a, X, ρ, Φ, e, g, k, h => by
    simp only [w] at h
    simp only [okE] at k
    split at k
    · exact de_lst (soundA es g k h)
    · cases k
  | .bin o x y, c, S, a, X, ρ, Φ, e, g, k, h => by
    simp only [w] at h
    simp only [okE] at k
    split at k
    · simp only [Bool.and_eq_true, decide_eq_true_eq] at k
      rw [k.1.1]
      exact de_binT g.xo ((soundE x g k.1.2 h).mono fun t q => soundE y g k.2 q)
    · cases k
  | .neg x, c, S, a, X, ρ, Φ, e, g, k, h => by
    simp only [w] at h
    simp only [okE] at k
    split at k
    · exact de_neg (soundE x g k h)
    · cases k
  | .not x, c, S, a, X, ρ, Φ, e, g, k, h => by
    simp only [w] at h
    simp only [okE] at k
    split at k
    · exact de_not (soundE x g k h)
    · cases k
  | .cmp o x y, c, S, a, X, ρ, Φ, e, g, k, h => by
    simp only [w] at h
    simp only [okE] at k
    split at k
    · simp only [Bool.and_eq_true, decide_eq_true_eq] at k
      rw [k.1.1.1]
      exact de_cmp g.xo k.1.1.2 ((soundE x g k.1.2 h).mono fun t q => soundE y g k.2 q)
    · cases k
  | .chn o o' x y z, c, S, a, X, ρ, Φ, e, g, k, h => by
    simp only [w] at h
    simp only [okE] at k
    split at k
    · simp only [Bool.and_eq_true, decide_eq_true_eq] at k
      rw [k.1.1.1.1.1, k.1.1.1.1.2]
      refine de_chn g.xo k.1.1.1.2 ((soundE x g k.1.1.2 h).mono fun t q => (soundE y g k.1.2 q).mono fun u q => cmp_mono (fun b hb => ite_mono (fun q => soundE z g k.2 q) (fun q => q) hb) q)
    · cases k
  | .and x r, c, S, a, X, ρ, Φ, e, g, k, h => by
    simp only [w] at h
    simp only [okE] at k
    split at k
    · simp only [Bool.and_eq_true] at k
      exact de_and ((soundE x g k.1 h).mono fun t q => q.elim fun b q => ⟨b, q.1, ite_mono (fun q => soundE r g k.2 q) (fun q => q) q.2⟩)
    · cases k
  | .or x r, c, S, a, X, ρ, Φ, e, g, k, h => by
    simp only [w] at h
    simp only [okE] at k
    split at k
    · simp only [Bool.and_eq_true] at k
      exact de_or ((soundE x g k.1 h).mono fun t q => q.elim fun b q => ⟨b, q.1, ite_mono (fun q => q) (fun q => soundE r g k.2 q) q.2⟩)
    · cases k
  | .one x, c, S, a, X, ρ, Φ, e, g, k, h => by
    simp only [w] at h
    simp only [okE] at k
    split at k
    · exact de_one (soundE x g k h)
    · cases k
  | .ife t x y, c, S, a, X, ρ, Φ, e, g, k, h => by
    simp only [w] at h
    simp only [okE] at k
    split at k
    · simp only [Bool.and_eq_true] at k
      exact de_ife ((soundT t g k.1.1 h).mono fun b q => ite_mono (fun q => soundE x g k.1.2 q) (fun q => soundE y g k.2 q) q)
    · cases k
  | .ix x y, c, S, a, X, ρ, Φ, e, g, k, h => by
    simp only [w] at h
    simp only [okE] at k
    split at k
    · simp only [Bool.and_eq_true] at k
      exact de_ix g.xo k.1.1 ((soundE x g k.1.2 h).mono fun t q => soundE y g k.2 q)
    · cases k
  | .sl x lo hi, c, S, a, X, ρ, Φ, e, g, k, h => by
    simp only [w] at h
    simp only [okE] at k
    split at k
    · simp only [Bool.and_eq_true] at k
      exact de_sl g.xo ((soundE x g k.1.1 h).mono fun t q => (soundO lo g k.1.2 q).mono fun l q => soundO hi g k.2 q)
    · cases k
  | .eqO n cl x y, c, S, a, X, ρ, Φ, e, g, k, h => sE_eqO (fun k h => soundE x g k h) (fun k h => soundE y g k h) g k h
  | .isC cl x, c, S, a, X, ρ, Φ, e, g, k, h => sE_isC (fun k h => soundE x g k h) g k h
  | .orv x r, c, S, a, X, ρ, Φ, e, g, k, h => sE_orv (fun k h => soundE x g k h) (fun k h => soundE r g k h) g k h
  | .srtS x, c, S, a, X, ρ, Φ, e, g, k, h => sE_srtS (fun k h => soundE x g k h) g k h
  | .fld cl i x, c, S, a, X, ρ, Φ, e, g, k, h => sE_fld (fun k h => soundE x g k h) g k h
  | .mth n cl x es, c, S, a, X, ρ, Φ, e, g, k, h => sE_mth (fun k h => soundE x g k h) (fun k h => (soundV es g k h).mono fun us q => q.2) g k h
  | .mt0 n cl x, c, S, a, X, ρ, Φ, e, g, k, h => sE_mt0 (fun k h => soundE x g k h) g k h
  | .prp n cl x, c, S, a, X, ρ, Φ, e, g, k, h => sE_prp (fun k h => soundE x g k h) g k h
  | .new n es, c, S, a, X, ρ, Φ, e, g, k, h => sE_new (fun k h => (soundV es g k h).mono fun us q => q.2) g k h
  | .isi ty x, c, S, a, X, ρ, Φ, e, g, k, h => sE_isi (fun k h => soundE x g k h) g k h
  | .lr1 x, c, S, a, X, ρ, Φ, e, g, k, h => sE_lr1 (fun k h => soundE x g k h) g k h
  | .lr2 x y, c, S, a, X, ρ, Φ, e, g, k, h => sE_lr2 (fun k h => soundE x g k h) (fun k h => soundE y g k h) g k h
  | .call n es, c, S, a, X, ρ, Φ, e, g, k, h => by
    simp only [w] at h
    simp only [okE] at k
    split at k
    · simp only [Bool.and_eq_true, decide_eq_true_eq, List.all_cons] at k
      rename_i x _ ea as _
      obtain ⟨⟨⟨⟨k1, k2⟩, k3⟩, k4⟩, k5⟩ := k
      obtain ⟨f, hf, h⟩ := h
      obtain ⟨fn, mono⟩ := g.fns n x f k1 hf
      exact de_call g.xo g.io fn (Ct.glo_of g.co k2) (plain_of k3).1 k4.1 k4.2 ((soundV es g k5 h).mono fun us q => q.2) mono
    · cases k
  | .blt f es, c, S, a, X, ρ, Φ, e, g, k, h => by
    simp only [w] at h
    simp only [okE] at k
    split at k
    · simp only [Bool.and_eq_true, decide_eq_true_eq, List.all_cons] at k
      exact de_blt g.xo k.1.1.1.1 (Ct.glo_of g.co k.1.1.2) (g.bs _ k.1.1.1.2) k.1.2.1 k.1.2.2 ((soundV es g k.2 h).mono fun us q => q.2)
    · cases k
  | .lc own gt src cond elt, c, S, a, X, ρ, Φ, e, g, k, h => by
    simp only [w] at h
    simp only [okE] at k
    split at k
    · simp only [Bool.and_eq_true, decide_eq_true_eq, List.all_eq_true] at k
      obtain ⟨⟨⟨⟨⟨⟨⟨k1, k2⟩, k3⟩, k4⟩, k5⟩, k6⟩, k7⟩, k8⟩ := k
      have sk := blk_kind k1
      refine de_lc (wc := wc S cond) (we := w S elt) g.xo g.co k1 k3 (fun i hi => ?_) (by rw [k2]; exact h.1) k5 (fun H F s H2 C cl fp ρ' Ψ q => soundC cond (g.on.blk sk) k7 q) (fun H F s H2 C cl fp ρ' Ψ q => soundE elt (g.on.blk sk) k8 q) (soundI src g k6 h.2)
      rw [k2]
      have := k4 i hi
      simpa using this
    · cases k
  | .val x, c, S, a, X, ρ, Φ, e, g, k, h => by rw [okE_val] at k; cases k
  | .nil, c, S, a, X, ρ, Φ, e, g, k, h => by rw [okE_nil] at k; cases k
  | .cons x y, c, S, a, X, ρ, Φ, e, g, k, h => by rw [okE_cons] at k; cases k
  | .nop, c, S, a, X, ρ, Φ, e, g, k, h => by rw [okE_nop] at k; cases k
  | .prt x, c, S, a, X, ρ, Φ, e, g, k, h => by rw [okE_prt] at k; cases k
  | .sq x, c, S, a, X, ρ, Φ, e, g, k, h => by rw [okE_sq] at k; cases k
  | .rng x, c, S, a, X, ρ, Φ, e, g, k, h => by rw [okE_rng] at k; cases k
  | .zip x, c, S, a, X, ρ, Φ, e, g, k, h => by rw [okE_zip] at k; cases k
  | .enm x, c, S, a, X, ρ, Φ, e, g, k, h => by rw [okE_enm] at k; cases k
theorem soundA : ∀ (i : I) {c : Cn} {S : Sg} {a : An0} {X : Cx} {ρ : Env} {Ψ : List T → Prop} {es : List Expr}, Good c S a X → okA c i es = true → wa S i ρ Ψ → DA a X ρ es Ψ
  | .nil, c, S, a, X, ρ, Ψ, es, g, k, h => by
    simp only [wa] at h
    simp only [okA] at k
    split at k
    · exact da_nil h
    · cases k
  | .cons e r, c, S, a, X, ρ, Ψ, es, g, k, h => by
    simp only [wa] at h
    simp only [okA] at k
    split at k
    · simp only [Bool.and_eq_true] at k
      exact da_cons k.1.1 ((soundE e g k.1.2 h).mono fun t q => fin_mono (fun u q => soundA r g k.2 q) q)
    · cases k
  | .nm _, c, S, a, X, ρ, Ψ, e, g, k, h
  | .ow _, c, S, a, X, ρ, Ψ, e, g, k, h
  | .gl _, c, S, a, X, ρ, Ψ, e, g, k, h
  | .int _, c, S, a, X, ρ, Ψ, e, g, k, h
  | .str _, c, S, a, X, ρ, Ψ, e, g, k, h
  | .bl _, c, S, a, X, ρ, Ψ, e, g, k, h
  | .non, c, S, a, X, ρ, Ψ, e, g, k, h
  | .tup _, c, S, a, X, ρ, Ψ, e, g, k, h
  | .lst _, c, S, a, X, ρ, Ψ, e, g, k, h
  | .bin _ _ _, c, S, a, X, ρ, Ψ, e, g, k, h
  | .neg _, c, S, a, X, ρ, Ψ, e, g, k, h
  | .not _, c, S, a, X, ρ, Ψ, e, g, k, h
  | .cmp _ _ _, c, S, a, X, ρ, Ψ, e, g, k, h
  | .chn _ _ _ _ _, c, S, a, X, ρ, Ψ, e, g, k, h
  | .and _ _, c, S, a, X, ρ, Ψ, e, g, k, h
  | .or _ _, c, S, a, X, ρ, Ψ, e, g, k, h
  | .one _, c, S, a, X, ρ, Ψ, e, g, k, h
  | .val _, c, S, a, X, ρ, Ψ, e, g, k, h
  | .ife _ _ _, c, S, a, X, ρ, Ψ, e, g, k, h
  | .ix _ _, c, S, a, X, ρ, Ψ, e, g, k, h
  | .sl _ _ _, c, S, a, X, ρ, Ψ, e, g, k, h
  | .nop, c, S, a, X, ρ, Ψ, e, g, k, h
  | .prt _, c, S, a, X, ρ, Ψ, e, g, k, h
  | .call _ _, c, S, a, X, ρ, Ψ, e, g, k, h
  | .eqO _ _ _ _, c, S, a, X, ρ, Ψ, e, g, k, h
  | .isC _ _, c, S, a, X, ρ, Ψ, e, g, k, h
  | .orv _ _, c, S, a, X, ρ, Ψ, e, g, k, h
  | .srtS _, c, S, a, X, ρ, Ψ, e, g, k, h
  | .fld _ _ _, c, S, a, X, ρ, Ψ, e, g, k, h
  | .mth _ _ _ _, c, S, a, X, ρ, Ψ, e, g, k, h
  | .mt0 _ _ _, c, S, a, X, ρ, Ψ, e, g, k, h
  | .prp _ _ _, c, S, a, X, ρ, Ψ, e, g, k, h
  | .new _ _, c, S, a, X, ρ, Ψ, e, g, k, h
  | .isi _ _, c, S, a, X, ρ, Ψ, e, g, k, h
  | .lr1 _, c, S, a, X, ρ, Ψ, e, g, k, h
  | .lr2 _ _, c, S, a, X, ρ, Ψ, e, g, k, h
  | .blt _ _, c, S, a, X, ρ, Ψ, e, g, k, h
  | .lc _ _ _ _ _, c, S, a, X, ρ, Ψ, e, g, k, h
  | .sq _, c, S, a, X, ρ, Ψ, e, g, k, h
  | .rng _, c, S, a, X, ρ, Ψ, e, g, k, h
  | .zip _, c, S, a, X, ρ, Ψ, e, g, k, h
  | .enm _, c, S, a, X, ρ, Ψ, e, g, k, h => by simp [okA] at k
theorem soundV : ∀ (i : I) {c : Cn} {S : Sg} {a : An0} {X : Cx} {ρ : Env} {Ψ : List T → Prop} {es : List Expr}, Good c S a X → okA c i es = true → wv S i ρ Ψ → DV a X ρ es fun us => us.length = es.length ∧ Ψ us
  | .nil, c, S, a, X, ρ, Ψ, es, g, k, h => by
    simp only [wv] at h
    simp only [okA] at k
    split at k
    · exact dv_nil ⟨rfl, h⟩
    · cases k
  | .cons e r, c, S, a, X, ρ, Ψ, es, g, k, h => by
    simp only [wv] at h
    simp only [okA] at k
    split at k
    · simp only [Bool.and_eq_true] at k
      exact dv_cons k.1.1 ((soundE e g k.1.2 h).mono fun t q => (soundV r g k.2 q).mono fun us q => ⟨by rw [List.length_cons, List.length_cons, q.1], q.2⟩)
    · cases k
  | .nm _, c, S, a, X, ρ, Ψ, e, g, k, h
  | .ow _, c, S, a, X, ρ, Ψ, e, g, k, h
  | .gl _, c, S, a, X, ρ, Ψ, e, g, k, h
  | .int _, c, S, a, X, ρ, Ψ, e, g, k, h
  | .str _, c, S, a, X, ρ, Ψ, e, g, k, h
  | .bl _, c, S, a, X, ρ, Ψ, e, g, k, h
  | .non, c, S, a, X, ρ, Ψ, e, g, k, h
  | .tup _, c, S, a, X, ρ, Ψ, e, g, k, h
  | .lst _, c, S, a, X, ρ, Ψ, e, g, k, h
  | .bin _ _ _, c, S, a, X, ρ, Ψ, e, g, k, h
  | .neg _, c, S, a, X, ρ, Ψ, e, g, k, h
  | .not _, c, S, a, X, ρ, Ψ, e, g, k, h
  | .cmp _ _ _, c, S, a, X, ρ, Ψ, e, g, k, h
  | .chn _ _ _ _ _, c, S, a, X, ρ, Ψ, e, g, k, h
  | .and _ _, c, S, a, X, ρ, Ψ, e, g, k, h
  | .or _ _, c, S, a, X, ρ, Ψ, e, g, k, h
  | .one _, c, S, a, X, ρ, Ψ, e, g, k, h
  | .val _, c, S, a, X, ρ, Ψ, e, g, k, h
  | .ife _ _ _, c, S, a, X, ρ, Ψ, e, g, k, h
  | .ix _ _, c, S, a, X, ρ, Ψ, e, g, k, h
  | .sl _ _ _, c, S, a, X, ρ, Ψ, e, g, k, h
  | .nop, c, S, a, X, ρ, Ψ, e, g, k, h
  | .prt _, c, S, a, X, ρ, Ψ, e, g, k, h
  | .call _ _, c, S, a, X, ρ, Ψ, e, g, k, h
  | .eqO _ _ _ _, c, S, a, X, ρ, Ψ, e, g, k, h
  | .isC _ _, c, S, a, X, ρ, Ψ, e, g, k, h
  | .orv _ _, c, S, a, X, ρ, Ψ, e, g, k, h
  | .srtS _, c, S, a, X, ρ, Ψ, e, g, k, h
  | .fld _ _ _, c, S, a, X, ρ, Ψ, e, g, k, h
  | .mth _ _ _ _, c, S, a, X, ρ, Ψ, e, g, k, h
  | .mt0 _ _ _, c, S, a, X, ρ, Ψ, e, g, k, h
  | .prp _ _ _, c, S, a, X, ρ, Ψ, e, g, k, h
  | .new _ _, c, S, a, X, ρ, Ψ, e, g, k, h
  | .isi _ _, c, S, a, X, ρ, Ψ, e, g, k, h
  | .lr1 _, c, S, a, X, ρ, Ψ, e, g, k, h
  | .lr2 _ _, c, S, a, X, ρ, Ψ, e, g, k, h
  | .blt _ _, c, S, a, X, ρ, Ψ, e, g, k, h
  | .lc _ _ _ _ _, c, S, a, X, ρ, Ψ, e, g, k, h
  | .sq _, c, S, a, X, ρ, Ψ, e, g, k, h
  | .rng _, c, S, a, X, ρ, Ψ, e, g, k, h
  | .zip _, c, S, a, X, ρ, Ψ, e, g, k, h
  | .enm _, c, S, a, X, ρ, Ψ, e, g, k, h => by simp [okA] at k
theorem soundO : ∀ (i : I) {c : Cn} {S : Sg} {a : An0} {X : Cx} {ρ : Env} {Ψ : Option Int → Prop} {e : Option Expr}, Good c S a X → okO c i e = true → wo S i ρ Ψ → DO a X ρ e Ψ
  | .nop, c, S, a, X, ρ, Ψ, e, g, k, h => by
    simp only [wo] at h
    simp only [okO] at k
    split at k
    · exact do_none h
    · cases k
  | .prt x, c, S, a, X, ρ, Ψ, e, g, k, h => by
    simp only [wo] at h
    simp only [okO] at k
    split at k
    · exact do_some (soundE x g k h)
    · cases k
  | .nm _, c, S, a, X, ρ, Ψ, e, g, k, h
  | .ow _, c, S, a, X, ρ, Ψ, e, g, k, h
  | .gl _, c, S, a, X, ρ, Ψ, e, g, k, h
  | .int _, c, S, a, X, ρ, Ψ, e, g, k, h
  | .str _, c, S, a, X, ρ, Ψ, e, g, k, h
  | .bl _, c, S, a, X, ρ, Ψ, e, g, k, h
  | .non, c, S, a, X, ρ, Ψ, e, g, k, h
  | .nil, c, S, a, X, ρ, Ψ, e, g, k, h
  | .cons _ _, c, S, a, X, ρ, Ψ, e, g, k, h
  | .tup _, c, S, a, X, ρ, Ψ, e, g, k, h
  | .lst _, c, S, a, X, ρ, Ψ, e, g, k, h
  | .bin _ _ _, c, S, a, X, ρ, Ψ, e, g, k, h
  | .neg _, c, S, a, X, ρ, Ψ, e, g, k, h
  | .not _, c, S, a, X, ρ, Ψ, e, g, k, h
  | .cmp _ _ _, c, S, a, X, ρ, Ψ, e, g, k, h
  | .chn _ _ _ _ _, c, S, a, X, ρ, Ψ, e, g, k, h
  | .and _ _, c, S, a, X, ρ, Ψ, e, g, k, h
  | .or _ _, c, S, a, X, ρ, Ψ, e, g, k, h
  | .one _, c, S, a, X, ρ, Ψ, e, g, k, h
  | .val _, c, S, a, X, ρ, Ψ, e, g, k, h
  | .ife _ _ _, c, S, a, X, ρ, Ψ, e, g, k, h
  | .ix _ _, c, S, a, X, ρ, Ψ, e, g, k, h
  | .sl _ _ _, c, S, a, X, ρ, Ψ, e, g, k, h
  | .call _ _, c, S, a, X, ρ, Ψ, e, g, k, h
  | .eqO _ _ _ _, c, S, a, X, ρ, Ψ, e, g, k, h
  | .isC _ _, c, S, a, X, ρ, Ψ, e, g, k, h
  | .orv _ _, c, S, a, X, ρ, Ψ, e, g, k, h
  | .srtS _, c, S, a, X, ρ, Ψ, e, g, k, h
  | .fld _ _ _, c, S, a, X, ρ, Ψ, e, g, k, h
  | .mth _ _ _ _, c, S, a, X, ρ, Ψ, e, g, k, h
  | .mt0 _ _ _, c, S, a, X, ρ, Ψ, e, g, k, h
  | .prp _ _ _, c, S, a, X, ρ, Ψ, e, g, k, h
  | .new _ _, c, S, a, X, ρ, Ψ, e, g, k, h
  | .isi _ _, c, S, a, X, ρ, Ψ, e, g, k, h
  | .lr1 _, c, S, a, X, ρ, Ψ, e, g, k, h
  | .lr2 _ _, c, S, a, X, ρ, Ψ, e, g, k, h
  | .blt _ _, c, S, a, X, ρ, Ψ, e, g, k, h
  | .lc _ _ _ _ _, c, S, a, X, ρ, Ψ, e, g, k, h
  | .sq _, c, S, a, X, ρ, Ψ, e, g, k, h
  | .rng _, c, S, a, X, ρ, Ψ, e, g, k, h
  | .zip _, c, S, a, X, ρ, Ψ, e, g, k, h
  | .enm _, c, S, a, X, ρ, Ψ, e, g, k, h => by simp [okO] at k
theorem soundC : ∀ (i : I) {c : Cn} {S : Sg} {a : An0} {X : Cx} {ρ : Env} {Ψ : Bool → Prop} {es : List Expr}, Good c S a X → okC c i es = true → wc S i ρ Ψ → DC a X ρ es Ψ
  | .nop, c, S, a, X, ρ, Ψ, es, g, k, h => by
    simp only [wc] at h
    simp only [okC] at k
    split at k
    · exact dc_nil h
    · cases k
  | .one x, c, S, a, X, ρ, Ψ, es, g, k, h => by
    simp only [wc] at h
    simp only [okC] at k
    split at k
    · exact dc_one (soundT x g k h)
    · cases k
  | .nm _, c, S, a, X, ρ, Ψ, e, g, k, h
  | .ow _, c, S, a, X, ρ, Ψ, e, g, k, h
  | .gl _, c, S, a, X, ρ, Ψ, e, g, k, h
  | .int _, c, S, a, X, ρ, Ψ, e, g, k, h
  | .str _, c, S, a, X, ρ, Ψ, e, g, k, h
  | .bl _, c, S, a, X, ρ, Ψ, e, g, k, h
  | .non, c, S, a, X, ρ, Ψ, e, g, k, h
  | .nil, c, S, a, X, ρ, Ψ, e, g, k, h
  | .cons _ _, c, S, a, X, ρ, Ψ, e, g, k, h
  | .tup _, c, S, a, X, ρ, Ψ, e, g, k, h
  | .lst _, c, S, a, X, ρ, Ψ, e, g, k, h
  | .bin _ _ _, c, S, a, X, ρ, Ψ, e, g, k, h
  | .neg _, c, S, a, X, ρ, Ψ, e, g, k, h
  | .not _, c, S, a, X, ρ, Ψ, e, g, k, h
  | .cmp _ _ _, c, S, a, X, ρ, Ψ, e, g, k, h
  | .chn _ _ _ _ _, c, S, a, X, ρ, Ψ, e, g, k, h
  | .and _ _, c, S, a, X, ρ, Ψ, e, g, k, h
  | .or _ _, c, S, a, X, ρ, Ψ, e, g, k, h
  | .val _, c, S, a, X, ρ, Ψ, e, g, k, h
  | .ife _ _ _, c, S, a, X, ρ, Ψ, e, g, k, h
  | .ix _ _, c, S, a, X, ρ, Ψ, e, g, k, h
  | .sl _ _ _, c, S, a, X, ρ, Ψ, e, g, k, h
  | .prt _, c, S, a, X, ρ, Ψ, e, g, k, h
  | .call _ _, c, S, a, X, ρ, Ψ, e, g, k, h
  | .eqO _ _ _ _, c, S, a, X, ρ, Ψ, e, g, k, h
  | .isC _ _, c, S, a, X, ρ, Ψ, e, g, k, h
  | .orv _ _, c, S, a, X, ρ, Ψ, e, g, k, h
  | .srtS _, c, S, a, X, ρ, Ψ, e, g, k, h
  | .fld _ _ _, c, S, a, X, ρ, Ψ, e, g, k, h
  | .mth _ _ _ _, c, S, a, X, ρ, Ψ, e, g, k, h
  | .mt0 _ _ _, c, S, a, X, ρ, Ψ, e, g, k, h
  | .prp _ _ _, c, S, a, X, ρ, Ψ, e, g, k, h
  | .new _ _, c, S, a, X, ρ, Ψ, e, g, k, h
  | .isi _ _, c, S, a, X, ρ, Ψ, e, g, k, h
  | .lr1 _, c, S, a, X, ρ, Ψ, e, g, k, h
  | .lr2 _ _, c, S, a, X, ρ, Ψ, e, g, k, h
  | .blt _ _, c, S, a, X, ρ, Ψ, e, g, k, h
  | .lc _ _ _ _ _, c, S, a, X, ρ, Ψ, e, g, k, h
  | .sq _, c, S, a, X, ρ, Ψ, e, g, k, h
  | .rng _, c, S, a, X, ρ, Ψ, e, g, k, h
  | .zip _, c, S, a, X, ρ, Ψ, e, g, k, h
  | .enm _, c, S, a, X, ρ, Ψ, e, g, k, h => by simp [okC] at k
theorem soundT : ∀ (i : I) {c : Cn} {S : Sg} {a : An0} {X : Cx} {ρ : Env} {Ψ : Bool → Prop} {e : Expr}, Good c S a X → okT c i e = true → wt S i ρ Ψ → DT a X ρ e Ψ
  | .not x, c, S, a, X, ρ, Ψ, e, g, k, h => by
    simp only [wt] at h
    simp only [okT] at k
    split at k
    · exact dt_not (soundT x g k h)
    · cases k
  | .and x r, c, S, a, X, ρ, Ψ, e, g, k, h => by
    simp only [wt] at h
    simp only [okT] at k
    split at k
    · simp only [Bool.and_eq_true] at k
      exact dt_bool (dw_and ((soundT x g k.1 h).mono fun b q => ite_mono (fun q => soundW r g k.2 q) (fun q => q) q))
    · cases k
  | .or x r, c, S, a, X, ρ, Ψ, e, g, k, h => by
    simp only [wt] at h
    simp only [okT] at k
    split at k
    · simp only [Bool.and_eq_true] at k
      exact dt_bool (dw_or ((soundT x g k.1 h).mono fun b q => ite_mono (fun q => q) (fun q => soundW r g k.2 q) q))
    · cases k
  | .cmp o x y, c, S, a, X, ρ, Ψ, e, g, k, h => by
    simp only [wt] at h
    simp only [okT] at k
    split at k
    · simp only [Bool.and_eq_true, decide_eq_true_eq] at k
      rw [k.1.1.1]
      exact dt_cmp g.xo k.1.1.2 ((soundE x g k.1.2 h).mono fun t q => soundE y g k.2 q)
    · cases k
  | .chn o o' x y z, c, S, a, X, ρ, Ψ, e, g, k, h => by
    simp only [wt] at h
    simp only [okT] at k
    split at k
    · simp only [Bool.and_eq_true, decide_eq_true_eq] at k
      rw [k.1.1.1.1.1, k.1.1.1.1.2]
      exact dt_chn g.xo k.1.1.1.2 ((soundE x g k.1.1.2 h).mono fun t q => (soundE y g k.1.2 q).mono fun u q => cmp_mono (fun b hb => ite_mono (fun q => soundE z g k.2 q) (fun q => q) hb) q)
    · cases k
  | .eqO n cl x y, c, S, a, X, ρ, Ψ, e, g, k, h => sT_eqO (fun k h => soundE x g k h) (fun k h => soundE y g k h) g k h
  | .val x, c, S, a, X, ρ, Ψ, e, g, k, h => by
    simp only [wt] at h
    simp only [okT, Bool.and_eq_true] at k
    exact dt_val g.xo k.1 (soundE x g k.2 h)
  | .nm _, c, S, a, X, ρ, Ψ, e, g, k, h
  | .ow _, c, S, a, X, ρ, Ψ, e, g, k, h
  | .gl _, c, S, a, X, ρ, Ψ, e, g, k, h
  | .int _, c, S, a, X, ρ, Ψ, e, g, k, h
  | .str _, c, S, a, X, ρ, Ψ, e, g, k, h
  | .bl _, c, S, a, X, ρ, Ψ, e, g, k, h
  | .non, c, S, a, X, ρ, Ψ, e, g, k, h
  | .nil, c, S, a, X, ρ, Ψ, e, g, k, h
  | .cons _ _, c, S, a, X, ρ, Ψ, e, g, k, h
  | .tup _, c, S, a, X, ρ, Ψ, e, g, k, h
  | .lst _, c, S, a, X, ρ, Ψ, e, g, k, h
  | .bin _ _ _, c, S, a, X, ρ, Ψ, e, g, k, h
  | .neg _, c, S, a, X, ρ, Ψ, e, g, k, h
  | .one _, c, S, a, X, ρ, Ψ, e, g, k, h
  | .ife _ _ _, c, S, a, X, ρ, Ψ, e, g, k, h
  | .ix _ _, c, S, a, X, ρ, Ψ, e, g, k, h
  | .sl _ _ _, c, S, a, X, ρ, Ψ, e, g, k, h
  | .nop, c, S, a, X, ρ, Ψ, e, g, k, h
  | .prt _, c, S, a, X, ρ, Ψ, e, g, k, h
  | .call _ _, c, S, a, X, ρ, Ψ, e, g, k, h
  | .isC _ _, c, S, a, X, ρ, Ψ, e, g, k, h
  | .orv _ _, c, S, a, X, ρ, Ψ, e, g, k, h
  | .srtS _, c, S, a, X, ρ, Ψ, e, g, k, h
  | .fld _ _ _, c, S, a, X, ρ, Ψ, e, g, k, h
  | .mth _ _ _ _, c, S, a, X, ρ, Ψ, e, g, k, h
  | .mt0 _ _ _, c, S, a, X, ρ, Ψ, e, g, k, h
  | .prp _ _ _, c, S, a, X, ρ, Ψ, e, g, k, h
  | .new _ _, c, S, a, X, ρ, Ψ, e, g, k, h
  | .isi _ _, c, S, a, X, ρ, Ψ, e, g, k, h
  | .lr1 _, c, S, a, X, ρ, Ψ, e, g, k, h
  | .lr2 _ _, c, S, a, X, ρ, Ψ, e, g, k, h
  | .blt _ _, c, S, a, X, ρ, Ψ, e, g, k, h
  | .lc _ _ _ _ _, c, S, a, X, ρ, Ψ, e, g, k, h
  | .sq _, c, S, a, X, ρ, Ψ, e, g, k, h
  | .rng _, c, S, a, X, ρ, Ψ, e, g, k, h
  | .zip _, c, S, a, X, ρ, Ψ, e, g, k, h
  | .enm _, c, S, a, X, ρ, Ψ, e, g, k, h => by simp [okT] at k
theorem soundW : ∀ (i : I) {c : Cn} {S : Sg} {a : An0} {X : Cx} {ρ : Env} {Ψ : Bool → Prop} {op : PySem.BoolOp} {es : List Expr}, Good c S a X → okW c i op es = true → wt S i ρ Ψ → DW a X ρ op es Ψ
  | .and x r, c, S, a, X, ρ, Ψ, op, es, g, k, h => by
    simp only [wt] at h
    simp only [okW] at k
    split at k
    · simp only [Bool.and_eq_true] at k
      exact dw_and ((soundT x g k.1 h).mono fun b q => ite_mono (fun q => soundW r g k.2 q) (fun q => q) q)
    · cases k
  | .or x r, c, S, a, X, ρ, Ψ, op, es, g, k, h => by
    simp only [wt] at h
    simp only [okW] at k
    split at k
    · simp only [Bool.and_eq_true] at k
      exact dw_or ((soundT x g k.1 h).mono fun b q => ite_mono (fun q => q) (fun q => soundW r g k.2 q) q)
    · cases k
  | .one x, c, S, a, X, ρ, Ψ, op, es, g, k, h => by
    simp only [wt] at h
    cases op <;> simp only [okW] at k <;> split at k
    · exact dw_and1 (soundT x g k h)
    · cases k
    · exact dw_or1 (soundT x g k h)
    · cases k
  | .nm _, c, S, a, X, ρ, Ψ, op, es, g, k, h
  | .ow _, c, S, a, X, ρ, Ψ, op, es, g, k, h
  | .gl _, c, S, a, X, ρ, Ψ, op, es, g, k, h
  | .int _, c, S, a, X, ρ, Ψ, op, es, g, k, h
  | .str _, c, S, a, X, ρ, Ψ, op, es, g, k, h
  | .bl _, c, S, a, X, ρ, Ψ, op, es, g, k, h
  | .non, c, S, a, X, ρ, Ψ, op, es, g, k, h
  | .nil, c, S, a, X, ρ, Ψ, op, es, g, k, h
  | .cons _ _, c, S, a, X, ρ, Ψ, op, es, g, k, h
  | .tup _, c, S, a, X, ρ, Ψ, op, es, g, k, h
  | .lst _, c, S, a, X, ρ, Ψ, op, es, g, k, h
  | .bin _ _ _, c, S, a, X, ρ, Ψ, op, es, g, k, h
  | .neg _, c, S, a, X, ρ, Ψ, op, es, g, k, h
  | .not _, c, S, a, X, ρ, Ψ, op, es, g, k, h
  | .cmp _ _ _, c, S, a, X, ρ, Ψ, op, es, g, k, h
  | .chn _ _ _ _ _, c, S, a, X, ρ, Ψ, op, es, g, k, h
  | .val _, c, S, a, X, ρ, Ψ, op, es, g, k, h
  | .ife _ _ _, c, S, a, X, ρ, Ψ, op, es, g, k, h
  | .ix _ _, c, S, a, X, ρ, Ψ, op, es, g, k, h
  | .sl _ _ _, c, S, a, X, ρ, Ψ, op, es, g, k, h
  | .nop, c, S, a, X, ρ, Ψ, op, es, g, k, h
  | .prt _, c, S, a, X, ρ, Ψ, op, es, g, k, h
  | .call _ _, c, S, a, X, ρ, Ψ, op, es, g, k, h
  | .eqO _ _ _ _, c, S, a, X, ρ, Ψ, op, es, g, k, h
  | .isC _ _, c, S, a, X, ρ, Ψ, op, es, g, k, h
  | .orv _ _, c, S, a, X, ρ, Ψ, op, es, g, k, h
  | .srtS _, c, S, a, X, ρ, Ψ, op, es, g, k, h
  | .fld _ _ _, c, S, a, X, ρ, Ψ, op, es, g, k, h
  | .mth _ _ _ _, c, S, a, X, ρ, Ψ, op, es, g, k, h
  | .mt0 _ _ _, c, S, a, X, ρ, Ψ, op, es, g, k, h
  | .prp _ _ _, c, S, a, X, ρ, Ψ, op, es, g, k, h
  | .new _ _, c, S, a, X, ρ, Ψ, op, es, g, k, h
  | .isi _ _, c, S, a, X, ρ, Ψ, op, es, g, k, h
  | .lr1 _, c, S, a, X, ρ, Ψ, op, es, g, k, h
  | .lr2 _ _, c, S, a, X, ρ, Ψ, op, es, g, k, h
  | .blt _ _, c, S, a, X, ρ, Ψ, op, es, g, k, h
  | .lc _ _ _ _ _, c, S, a, X, ρ, Ψ, op, es, g, k, h
  | .sq _, c, S, a, X, ρ, Ψ, op, es, g, k, h
  | .rng _, c, S, a, X, ρ, Ψ, op, es, g, k, h
  | .zip _, c, S, a, X, ρ, Ψ, op, es, g, k, h
  | .enm _, c, S, a, X, ρ, Ψ, op, es, g, k, h => by simp [okW] at k
theorem soundI : ∀ (i : I) {c : Cn} {S : Sg} {a : An0} {X : Cx} {ρ : Env} {Ψ : List D → Prop} {tg e : Expr}, Good c S a X → okI c i tg e = true → wi S i ρ Ψ → DI a X ρ tg e Ψ
  | .sq x, c, S, a, X, ρ, Ψ, tg, e, g, k, h => by
    simp only [wi] at h
    simp only [okI] at k
    exact di_any g.xo g.io (soundE x g k h)
  | .rng es, c, S, a, X, ρ, Ψ, tg, e, g, k, h => by
    simp only [wi] at h
    simp only [okI] at k
    split at k
    · simp only [Bool.and_eq_true, decide_eq_true_eq] at k
      obtain ⟨⟨⟨⟨⟨k1, k2⟩, k3⟩, k4⟩, k5⟩, k6⟩ := k
      rename_i x _ as _
      have ex := beq_iff_eq.mp k1
      subst ex
      have gl := Ct.glo_of g.co k3
      have mg := g.bs _ k2
      have dv := soundV es g k5 h
      rcases as with _ | ⟨a1, _ | ⟨a2, _ | ⟨a3, _ | ⟨a4, as⟩⟩⟩⟩
      · simp at k6
      · simp only [List.all_cons, List.all_nil, Bool.and_true] at k4
        exact di_rng1 gl mg k4 (dv.mono fun us q => rng1_of q)
      · simp only [List.all_cons, List.all_nil, Bool.and_true, Bool.and_eq_true] at k4
        exact di_rng2 gl mg k4.1 k4.2 (dv.mono fun us q => rng2_of q)
      · simp only [List.all_cons, List.all_nil, Bool.and_true, Bool.and_eq_true] at k4
        exact di_rng3 gl mg k4.1 k4.2.1 k4.2.2 (dv.mono fun us q => rng3_of q)
      · simp at k6
    · cases k
  | .zip es, c, S, a, X, ρ, Ψ, tg, e, g, k, h => by
    simp only [wi] at h
    simp only [okI] at k
    split at k
    · simp only [Bool.and_eq_true, decide_eq_true_eq, List.all_cons, List.all_nil, Bool.and_true] at k
      obtain ⟨⟨⟨⟨⟨k1, k2⟩, k3⟩, k4⟩, k5⟩, k6⟩ := k
      have ex := beq_iff_eq.mp k1
      subst ex
      exact di_zip g.xo g.io (Ct.glo_of g.co k3) (g.bs _ k2) k4 k5.1 k5.2 ((soundV es g k6 h).mono fun us q => q.2)
    · cases k
  | .enm es, c, S, a, X, ρ, Ψ, tg, e, g, k, h => by
    simp only [wi] at h
    simp only [okI] at k
    split at k
    · simp only [Bool.and_eq_true, decide_eq_true_eq, List.all_cons, List.all_nil, Bool.and_true] at k
      obtain ⟨⟨⟨⟨⟨k1, k2⟩, k3⟩, k4⟩, k5⟩, k6⟩ := k
      have ex := beq_iff_eq.mp k1
      subst ex
      exact di_enum g.xo g.io (Ct.glo_of g.co k3) (g.bs _ k2) k4 k5 ((soundV es g k6 h).mono fun us q => q.2)
    · cases k
  | .nm _, c, S, a, X, ρ, Ψ, tg, e, g, k, h
  | .ow _, c, S, a, X, ρ, Ψ, tg, e, g, k, h
  | .gl _, c, S, a, X, ρ, Ψ, tg, e, g, k, h
  | .int _, c, S, a, X, ρ, Ψ, tg, e, g, k, h
  | .str _, c, S, a, X, ρ, Ψ, tg, e, g, k, h
  | .bl _, c, S, a, X, ρ, Ψ, tg, e, g, k, h
  | .non, c, S, a, X, ρ, Ψ, tg, e, g, k, h
  | .nil, c, S, a, X, ρ, Ψ, tg, e, g, k, h
  | .cons _ _, c, S, a, X, ρ, Ψ, tg, e, g, k, h
  | .tup _, c, S, a, X, ρ, Ψ, tg, e, g, k, h
  | .lst _, c, S, a, X, ρ, Ψ, tg, e, g, k, h
  | .bin _ _ _, c, S, a, X, ρ, Ψ, tg, e, g, k, h
  | .neg _, c, S, a, X, ρ, Ψ, tg, e, g, k, h
  | .not _, c, S, a, X, ρ, Ψ, tg, e, g, k, h
  | .cmp _ _ _, c, S, a, X, ρ, Ψ, tg, e, g, k, h
  | .chn _ _ _ _ _, c, S, a, X, ρ, Ψ, tg, e, g, k, h
  | .and _ _, c, S, a, X, ρ, Ψ, tg, e, g, k, h
  | .or _ _, c, S, a, X, ρ, Ψ, tg, e, g, k, h
  | .one _, c, S, a, X, ρ, Ψ, tg, e, g, k, h
  | .val _, c, S, a, X, ρ, Ψ, tg, e, g, k, h
  | .ife _ _ _, c, S, a, X, ρ, Ψ, tg, e, g, k, h
  | .ix _ _, c, S, a, X, ρ, Ψ, tg, e, g, k, h
  | .sl _ _ _, c, S, a, X, ρ, Ψ, tg, e, g, k, h
  | .nop, c, S, a, X, ρ, Ψ, tg, e, g, k, h
  | .prt _, c, S, a, X, ρ, Ψ, tg, e, g, k, h
  | .call _ _, c, S, a, X, ρ, Ψ, tg, e, g, k, h
  | .eqO _ _ _ _, c, S, a, X, ρ, Ψ, tg, e, g, k, h
  | .isC _ _, c, S, a, X, ρ, Ψ, tg, e, g, k, h
  | .orv _ _, c, S, a, X, ρ, Ψ, tg, e, g, k, h
  | .srtS _, c, S, a, X, ρ, Ψ, tg, e, g, k, h
  | .fld _ _ _, c, S, a, X, ρ, Ψ, tg, e, g, k, h
  | .mth _ _ _ _, c, S, a, X, ρ, Ψ, tg, e, g, k, h
  | .mt0 _ _ _, c, S, a, X, ρ, Ψ, tg, e, g, k, h
  | .prp _ _ _, c, S, a, X, ρ, Ψ, tg, e, g, k, h
  | .new _ _, c, S, a, X, ρ, Ψ, tg, e, g, k, h
  | .isi _ _, c, S, a, X, ρ, Ψ, tg, e, g, k, h
  | .lr1 _, c, S, a, X, ρ, Ψ, tg, e, g, k, h
  | .lr2 _ _, c, S, a, X, ρ, Ψ, tg, e, g, k, h
  | .blt _ _, c, S, a, X, ρ, Ψ, tg, e, g, k, h
  | .lc _ _ _ _ _, c, S, a, X, ρ, Ψ, tg, e, g, k, h => by simp [okI] at k
end
end
end DL
namespace DL
open PySem PySem.Spec PyProof.Rows L2
section
variable {a : An0} {X : Cx} {ρ : Env} {σ : L2.St} {ts : List T} {vs : List V} {H F : Hp} {Sc Sm : List Addr} {Φ : T → Prop} {pos p : Pos} {e A B C : Expr} {es : List Expr} {K : EnD}
/-! ### a slot is let be; a list of two is taken apart -/
theorem db_fgt {i : Nat} {sts : List Stmt} (h : DB a X (ρ.put i none) sts K) : DB a X ρ sts K := fun σ H D ok m => by
  obtain ⟨F, Sc, Sm, w⟩ := ok
  have e : ∃ x, σ.set i x = σ := by
    by_cases hi : i < σ.length
    · exact ⟨σ[i], List.set_getElem_self hi⟩
    · exact ⟨none, List.set_eq_of_length_le (by omega)⟩
  obtain ⟨x, e⟩ := e
  obtain ⟨Sc', w'⟩ := w.forget (x := x) i
  rw [e] at w'
  exact h σ H D ⟨F, Sc', Sm, w'⟩ m
theorem swaps_tup {ts : List Expr} {kt : Nat} {pt : Pos} {l : Nat} {env : PySem.Env} (e : Expr) : swapsWithSole [.Tuple ts kt pt] e l env = pure false := by
  cases e <;> rfl
theorem swst_tup {ts : List Expr} {kt : Nat} {pt : Pos} {env : PySem.Env} {e : Expr} (h : isTup e = false) : swappedStores [.Tuple ts kt pt] e env = pure none := by
  cases e <;> first | rfl | simp [isTup] at h
theorem ds_unp2 {c : Ct} {i j : Nat} {t1 t2 : Expr} {kt : Nat} {pt : Pos} (xo : XOk a X) (co : COk c X) (hg : okGs c (.cons (.nm i) (.cons (.nm j) .nil)) [t1, t2] = true) (ht : isTup e = false)
    (h : DE a X ρ e fun t => ∃ u v, t.its = some [u, v] ∧ i < ρ.length ∧ j < ρ.length ∧ K.nx ((ρ.put i (some u)).put j (some v))) : DS a X ρ (.Assign [.Tuple [t1, t2] kt pt] e pos) K := fun σ H D ok m => by
  obtain ⟨q1, q2⟩ := asg_of (env := X.env) hg
  refine ⟨_, ps_asg pe_W (pg_unl (n := 2) xo.calm (pgs_W (e := [t1, t2])) q1 q2) (swaps_tup e) (swst_tup ht) rfl, ?_⟩
  show WE X e σ H fun x H1 => ∃ a xs, x = V.ref a ∧ SqL X.K H1 a xs ∧ xs.length = 2 ∧ WGs X [t1, t2] xs σ H1 D.nx
  refine h σ H [] [] _ ok fun v t H1 ⟨u, u', hit, hi, hj, hk⟩ ok1 => ?_
  obtain ⟨F, Sc, Sm, w⟩ := ok1
  obtain ⟨l, ws, rfl, hl, ⟨l2, n2⟩, Sm', w'⟩ := w.opens hit
  refine ⟨l, ws, rfl, .inl (.inl hl), l2.symm, ?_⟩
  have nn : T.nvs [u, u'] = true := by
    have := w'.tmps
    have t2 : OwL a.toAn F H1 [u, u'] ws Sm' := by simpa using this
    exact t2.nvs n2
  refine dgs xo co (g := .cons (.nm i) (.cons (.nm j) .nil)) hg nn (ts := []) (vs := []) ⟨F, Sc, Sm', by simpa using w'⟩ l2 (ρ' := (ρ.put i (some u)).put j (some u')) ?_ fun σ' ok3 _ => m.1 _ σ' H1 hk ok3
  have e1 : bindG (.nm i) u ρ = some (ρ.put i (some u)) := by simp only [bindG]; exact if_pos hi
  have e2 : bindG (.nm j) u' (ρ.put i (some u)) = some ((ρ.put i (some u)).put j (some u')) := by simp only [bindG]; exact if_pos (by rw [Env.put_length]; exact hj)
  simp only [bindL, e1, e2, Option.bind_some]
end
end DL
namespace DL
open PySem PySem.Spec PyProof.Rows L2

/-! ### blocks in short -/
inductive B where
  | nil
  | asg (g : Tg) (e : I) (r : B)
  | asgLc (i : Nat) (own : List Nat) (g : Tg) (src cond elt : I) (r : B)
  | par2 (i j : Nat) (x y : I) (r : B)
  | par3 (i j l : Nat) (x y z : I) (r : B)
  | aug (o : Aop) (i : Nat) (e : I) (r : B)
  | setix (i : Nat) (x e : I) (r : B)
  | augix (o : Aop) (i : Nat) (x e : I) (r : B)
  | app (i : Nat) (e : I) (r : B)
  | augix2 (o : Aop) (i : Nat) (x y e : I) (r : B)
  | ext (i : Nat) (e : I) (r : B)
  | ex (e : I) (r : B)
  | ret (e : I) (r : B)
  | retN (r : B)
  | ite (t : I) (x y r : B)
  | for_ (g : Tg) (src : I) (b r : B)
  | whl (t : I) (b r : B)
  | pass (r : B) | brk (r : B) | cont (r : B)
  | fz (i : Nat) (r : B)
  | fgt (i : Nat) (r : B)
  | unp2 (i j : Nat) (e : I) (r : B)
  | dead
def wb (S : Sg) : B → Env → EnD → Prop
  | .nil, ρ, K => K.nx ρ
  | .asg g e r, ρ, K => w S e ρ fun t => t.fin fun u => ∃ ρ', bindG g u ρ = some ρ' ∧ wb S r ρ' K
  | .asgLc i own g src cond elt r, ρ, K => i < ρ.length ∧ ρ.wipes own = ρ ∧ wi S src ρ fun ds => ds.length ≤ 100000 ∧ lcW g (wc S cond) (w S elt) ρ ds [] fun us => wb S r (ρ.put i (some (.lst us))) K
  | .par2 i j x y r, ρ, K => i ≠ j ∧ i < ρ.length ∧ j < ρ.length ∧ w S x ρ fun t => t.fin fun u => w S y ρ fun t' => t'.fin fun v => wb S r ((ρ.put i (some u)).put j (some v)) K
  | .par3 i j l x y z r, ρ, K => (i ≠ j ∧ i ≠ l ∧ j ≠ l) ∧ (i < ρ.length ∧ j < ρ.length ∧ l < ρ.length) ∧ w S x ρ fun t => t.fin fun u => w S y ρ fun t' => t'.fin fun v => w S z ρ fun t'' => t''.fin fun q => wb S r (((ρ.put i (some u)).put j (some v)).put l (some q)) K
  | .aug o i e r, ρ, K => ∃ d, ρ.at i = some (.leaf d) ∧ i < ρ.length ∧ w S e ρ fun y => augD o d y.dat fun z => wb S r (ρ.put i (some (.leaf z))) K
  | .setix i x e r, ρ, K => ∃ us, ρ.at i = some (.lst us) ∧ w S e ρ fun t => t.fin fun u => w S x ρ fun y => ∃ n j, y.dat = .int n ∧ ixN us.length n = some j ∧ wb S r (ρ.put i (some (.lst (us.set j u)))) K
  | .augix o i x e r, ρ, K => ∃ us, ρ.at i = some (.lst us) ∧ w S x ρ fun y => ∃ n j d, y.dat = .int n ∧ ixN us.length n = some j ∧ us[j]? = some (.leaf d) ∧ w S e ρ fun y2 => augD o d y2.dat fun z => wb S r (ρ.put i (some (.lst (us.set j (.leaf z))))) K
  | .app i e r, ρ, K => ∃ us, ρ.at i = some (.lst us) ∧ us.length ≤ 99999 ∧ w S e ρ fun t => t.fin fun u => wb S r (ρ.put i (some (.lst (us ++ [u])))) K
  | .augix2 o i x y e r, ρ, K => ∃ us, ρ.at i = some (.lst us) ∧ w S x ρ fun y1 => ∃ n1 j1 ws, y1.dat = .int n1 ∧ ixN us.length n1 = some j1 ∧ us[j1]? = some (.lst ws) ∧ w S y ρ fun y2 => ∃ n2 j2 d, y2.dat = .int n2 ∧ ixN ws.length n2 = some j2 ∧ ws[j2]? = some (.leaf d) ∧ w S e ρ fun y3 => augD o d y3.dat fun z => wb S r (ρ.put i (some (.lst (us.set j1 (.lst (ws.set j2 (.leaf z))))))) K
  | .ext i e r, ρ, K => ∃ us, ρ.at i = some (.lst us) ∧ w S e ρ fun t => ∃ us2, t.its = some us2 ∧ us.length + us2.length ≤ 100000 ∧ wb S r (ρ.put i (some (.lst (us ++ us2)))) K
  | .ex e r, ρ, K => w S e ρ fun _ => wb S r ρ K
  | .fgt i r, ρ, K => wb S r (ρ.put i none) K
  | .unp2 i j e r, ρ, K => w S e ρ fun t => ∃ u v, t.its = some [u, v] ∧ i < ρ.length ∧ j < ρ.length ∧ wb S r ((ρ.put i (some u)).put j (some v)) K
  | .ret e r, ρ, K => w S e ρ fun t => t.fin fun u => K.rt u ρ
  | .retN r, ρ, K => K.rt (.leaf .non) ρ
  | .ite t x y r, ρ, K => wt S t ρ fun b => if b = true then wb S x ρ { K with nx := fun ρ' => wb S r ρ' K } else wb S y ρ { K with nx := fun ρ' => wb S r ρ' K }
  | .for_ g src b r, ρ, K => wi S src ρ fun ds => forW g (fun ρ K => wb S b ρ K) ds ρ { K with nx := fun ρ' => wb S r ρ' K }
  | .whl t b r, ρ, K => ∃ n, whileW (wt S t) (fun ρ K => wb S b ρ K) n ρ { K with nx := fun ρ' => wb S r ρ' K }
  | .pass r, ρ, K => wb S r ρ K
  | .brk r, ρ, K => K.bk ρ
  | .cont r, ρ, K => K.ct ρ
  | .dead, _, _ => False
  | .fz i r, ρ, K => S.z = true ∧ ∃ u, ρ.at i = some u ∧ wb S r (ρ.put i (some (.leaf u.dat))) K
def okB (c : Cn) : B → List Stmt → Bool
  | .nil, s => match s with | [] => true | _ => false
  | .asg g e r, s => match s with | .Assign [tg] v _ :: rest => okG c.toCt g tg && noComp v && noPar2 c.toCt tg v && okE c e v && okB c r rest | _ => false
  | .asgLc i own g src cond elt r, s => match s with
    | .Assign [.Name y _] (.ListComp el [⟨tg, it, ifs, 0⟩] scope _) _ :: rest => nameIs c.toCt i y && c.loc y && blkC c.N c.sc scope (ownOf c own) && decide ((ownOf c own).map (·.2) = own) && okG (c.inn scope).toCt g tg && g.slots.all (fun i => own.contains i) && notSet it && okI c src tg it && okC (c.inn scope) cond ifs && okE (c.inn scope) elt el && okB c r rest
    | _ => false
  | .par2 i j x y r, s => match s with
    | .Assign [.Tuple [.Name n px, .Name m py] _ _] (.Tuple [A, B] _ _) _ :: rest => nameIs c.toCt i n && nameIs c.toCt j m && par2Ok c.toCt n m px py A B && notStar A && notStar B && okE c x A && okE c y B && okB c r rest
    | _ => false
  | .par3 i j l x y z r, s => match s with
    | .Assign [.Tuple [.Name n px, .Name m py, .Name q pz] _ _] (.Tuple [A, B, C] _ _) _ :: rest => nameIs c.toCt i n && nameIs c.toCt j m && nameIs c.toCt l q && par3Ok c.toCt n m q px py pz A B C && notStar A && notStar B && notStar C && okE c x A && okE c y B && okE c z C && okB c r rest
    | _ => false
  | .aug o i e r, s => match s with
    | .AugAssign (.Name x _) op v _ :: rest => decide (op = o.op) && nameIs c.toCt i x && c.loc x && okE c e v && okB c r rest
    | _ => false
  | .setix i x e r, s => match s with
    | .Assign [.Subscript (.Name n _) k _] v _ :: rest => nameIs c.toCt i n && c.vis n && plainName n && noComp v && notSlice k && okE c e v && okE c x k && okB c r rest
    | _ => false
  | .augix o i x e r, s => match s with
    | .AugAssign (.Subscript (.Name n _) k _) op v _ :: rest => decide (op = o.op) && nameIs c.toCt i n && c.vis n && plainName n && notSlice k && okE c x k && okE c e v && okB c r rest
    | _ => false
  | .app i e r, s => match s with
    | .Expr (.Call (.Attribute (.Name n _) m ap) [v] [] cp) _ :: rest => (m == ("append" : Str)) && nameIs c.toCt i n && c.vis n && plainName n && (ap.endLine == cp.line) && notStar v && okE c e v && okB c r rest
    | _ => false
  | .augix2 o i x y e r, s => match s with
    | .AugAssign (.Subscript (.Subscript (.Name n _) k1 _) k2 _) op v _ :: rest => decide (op = o.op) && nameIs c.toCt i n && c.vis n && plainName n && notSlice k1 && notSlice k2 && okE c x k1 && okE c y k2 && okE c e v && okB c r rest
    | _ => false
  | .ext i e r, s => match s with
    | .Expr (.Call (.Attribute (.Name n _) m ap) [v] [] cp) _ :: rest => (m == ("extend" : Str)) && nameIs c.toCt i n && c.vis n && plainName n && (ap.endLine == cp.line) && notStar v && okE c e v && okB c r rest
    | _ => false
  | .fgt i r, s => okB c r s
  | .unp2 i j e r, s => match s with
    | .Assign [.Tuple [t1, t2] _ _] v _ :: rest => okGs c.toCt (.cons (.nm i) (.cons (.nm j) .nil)) [t1, t2] && !isTup v && okE c e v && okB c r rest
    | _ => false
  | .ex e r, s => match s with | .Expr v _ :: rest => noComp v && okE c e v && okB c r rest | _ => false
  | .ret e r, s => match s with | .Return (some v) _ :: _ => okE c e v | _ => false
  | .retN r, s => match s with | .Return none _ :: _ => true | _ => false
  | .ite t x y r, s => match s with | .If q s1 s2 _ :: rest => okT c t q && okB c x s1 && okB c y s2 && okB c r rest | _ => false
  | .for_ g src b r, s => match s with | .For tg it body [] _ :: rest => okG c.toCt g tg && notSet it && okI c src tg it && okB c b body && okB c r rest | _ => false
  | .whl t b r, s => match s with | .While q body [] _ :: rest => okT c t q && okB c b body && okB c r rest | _ => false
  | .pass r, s => match s with | .Pass _ :: rest => okB c r rest | _ => false
  | .brk r, s => match s with | .Break _ :: _ => true | _ => false
  | .cont r, s => match s with | .Continue _ :: _ => true | _ => false
  | .dead, _ => true
  | .fz i r, s => okB c r s
section
variable {c : Cn} {S : Sg} {a : An0} {X : Cx} {ρ : Env} {K : EnD}
theorem da_two {x y : I} {A B : Expr} {Ψ : List T → Prop} (g : Good c S a X) (k1 : notStar A = true) (k2 : notStar B = true) (k3 : okE c x A = true) (k4 : okE c y B = true) (h : w S x ρ fun t => t.fin fun u => w S y ρ fun t' => t'.fin fun v => Ψ [u, v]) : DA a X ρ [A, B] Ψ :=
  da_cons k1 ((soundE x g k3 h).mono fun t q => fin_mono (fun u q => da_cons k2 ((soundE y g k4 q).mono fun t q => fin_mono (fun v q => da_nil q) q)) q)
theorem da_three {x y z : I} {A B C : Expr} {Ψ : List T → Prop} (g : Good c S a X) (k1 : notStar A = true) (k2 : notStar B = true) (k3 : notStar C = true) (k4 : okE c x A = true) (k5 : okE c y B = true) (k6 : okE c z C = true) (h : w S x ρ fun t => t.fin fun u => w S y ρ fun t' => t'.fin fun v => w S z ρ fun t'' => t''.fin fun q => Ψ [u, v, q]) : DA a X ρ [A, B, C] Ψ :=
  da_cons k1 ((soundE x g k4 h).mono fun t q => fin_mono (fun u q => da_cons k2 ((soundE y g k5 q).mono fun t q => fin_mono (fun v q => da_cons k3 ((soundE z g k6 q).mono fun t q => fin_mono (fun q' q => da_nil q) q)) q)) q)
theorem DI.mono {tg e : Expr} {Φ Ψ : List D → Prop} (h : DI a X ρ tg e Φ) (i : ∀ t, Φ t → Ψ t) : DI a X ρ tg e Ψ := fun σ H ts vs R ok k => h σ H ts vs R ok fun J H' F Sc Sm ds q => k J H' F Sc Sm ds (i ds q)
theorem DB.mono_nx {s : List Stmt} {P P' : Env → Prop} (h : DB a X ρ s { K with nx := P }) (i : ∀ ρ', P ρ' → P' ρ') : DB a X ρ s { K with nx := P' } := fun σ H D ok m => h σ H D ok ⟨fun ρ' σ' H' hk => m.1 ρ' σ' H' (i ρ' hk), m.2⟩
theorem DS.mono_nx {s : Stmt} {P P' : Env → Prop} (h : DS a X ρ s { K with nx := P }) (i : ∀ ρ', P ρ' → P' ρ') : DS a X ρ s { K with nx := P' } := fun σ H D ok m => h σ H D ok ⟨fun ρ' σ' H' hk => m.1 ρ' σ' H' (i ρ' hk), m.2⟩
theorem fold_and_id {b : Bool} {p q : Prop} (h : if b = true then p else q) : if b = true then p else q := h
theorem db_fz {i : Nat} {u : T} {sts : List Stmt} (io : NoIo a) (e : ρ.at i = some u) (h : DB a X (ρ.put i (some (.leaf u.dat))) sts K) : DB a X ρ sts K := fun σ H D ok m => by
  obtain ⟨F, Sc, Sm, w⟩ := ok
  obtain ⟨x, Si, Sr, e1, h1, hp, go⟩ := w.cells.focus e
  obtain ⟨v', S1, e2, h2, _, nv⟩ := w.cells.get e
  have nd : ((Si ++ Sr) ++ Sm).Nodup := ((List.Perm.append_right Sm hp).nodup_iff).mp w.nd
  have mem : ∀ p, p ∈ Si ++ Sr → p ∈ Sc := fun p h => hp.mem_iff.mpr h
  have fr1 : ∀ p ∈ Si, F p = none ∧ a.bg ≠ some p ∧ a.H0 p = none := fun p hp2 => by
    obtain ⟨f1, f2, f3⟩ := w.fr p (List.mem_append_left _ (mem p (List.mem_append_left _ hp2)))
    exact ⟨f1, f2, f3.resolve_left fun z => f2 (io p z)⟩
  have sF : Sub F (fun p => if p ∈ Si then H p else F p) := fun p o q => by
    show (if p ∈ Si then H p else F p) = some o
    rw [if_neg fun z => by rw [(fr1 p z).1] at q; cases q]
    exact q
  have isx : Is a.toAn (fun p => if p ∈ Si then H p else F p) u.dat x := Ow.froz sF nv h1 fun p hp2 => if_pos hp2
  have nb : ∀ b, a.bg = some b → b ∉ Si := fun b eb z => (fr1 b z).2.1 eb
  obtain ⟨S', c', p'⟩ := go (fun p => if p ∈ Si then H p else F p) H (.leaf u.dat) [] sF (fun p _ o q => q) (by simp only [Ow]; exact ⟨trivial, isx⟩) rfl
  refine h σ H D ⟨fun p => if p ∈ Si then H p else F p, S', Sm, ?_⟩ m
  have mem' : ∀ p, p ∈ S' → p ∈ Sr := fun p h => by simpa using p'.mem_iff.mp h
  obtain ⟨n1, n2, n3⟩ := List.nodup_append.mp nd
  obtain ⟨n4, n5, n6⟩ := List.nodup_append.mp n1
  refine ⟨fun p o q => ?_, ⟨w.gw.ff.trans sF, w.gw.hh, fun p z n => ?_, w.gw.th⟩, w.bagM, fun b eb => ?_, c', w.tmps.mono sF (Sub.refl _) (fun p _ o q => q), ?_, fun p hp2 => ?_, ?_, w.wit, fun G hG => (w.wif G hG).trans sF⟩
  · by_cases z : p ∈ Si
    · rw [show (if p ∈ Si then H p else F p) = H p from if_pos z] at q; exact q
    · rw [show (if p ∈ Si then H p else F p) = F p from if_neg z] at q; exact w.sub p o q
  · show (if p ∈ Si then H p else F p) = none
    rw [if_neg fun y => z (fr1 p y).2.2]
    exact w.gw.nn p z n
  · obtain ⟨b1, x', y', z', c, ns, b2, b3, b4⟩ := w.bag b eb
    exact ⟨(if_neg (nb b eb)).trans b1, x', y', z', c, ns, b2, sF _ _ b3, b4⟩
  · refine List.nodup_append.mpr ⟨?_, n2, fun p h1 q h2 => n3 p (List.mem_append_right _ (mem' p h1)) q h2⟩
    exact p'.nodup_iff.mpr (by simpa using n5)
  · have hs : p ∉ Si := fun z => by
      rcases List.mem_append.mp hp2 with y | y
      · exact n6 p z p (mem' p y) rfl
      · exact n3 p (List.mem_append_left _ z) p y rfl
    obtain ⟨f1, f2, f3⟩ := w.fr p (by
      rcases List.mem_append.mp hp2 with y | y
      · exact List.mem_append_left _ (mem p (List.mem_append_right _ (mem' p y)))
      · exact List.mem_append_right _ y)
    exact ⟨(if_neg hs).trans f1, f2, f3⟩
  · rw [Env.put_length]; exact w.len
theorem augm {o : Aop} {x y : D} {Φ Ψ : D → Prop} (i : ∀ t, Φ t → Ψ t) (h : augD o x y Φ) : augD o x y Ψ := by
  unfold augD at h ⊢
  split at h <;> first
    | exact h.elim
    | exact ⟨h.1, i _ h.2⟩
    | exact i _ h
theorem soundB : ∀ (b : B) {c : Cn} {S : Sg} {a : An0} {X : Cx} {ρ : Env} {K : EnD} {s : List Stmt}, a.W = [] → Good c S a X → okB c b s = true → wb S b ρ K → DB a X ρ s K
  | .dead, c, S, a, X, ρ, K, s, hW, g, k, h => by
    simp only [wb] at h
  | .nil, c, S, a, X, ρ, K, s, hW, g, k, h => by
    simp only [okB] at k
    simp only [wb] at h
    split at k
    · exact db_nil h
    · cases k
  | .asg gt e r, c, S, a, X, ρ, K, s, hW, g, k, h => by
    simp only [okB] at k
    simp only [wb] at h
    split at k
    · simp only [Bool.and_eq_true] at k
      obtain ⟨⟨⟨⟨k1, k2⟩, k3⟩, k4⟩, k5⟩ := k
      exact db_cons (ds_asgG g.xo g.co k1 (noswap1 k2) (nopar2 g.co k3) ((soundE e g k4 h).mono fun t q => fin_mono (fun u q => q.elim fun ρ' q => ⟨ρ', q.1, soundB r hW g k5 q.2⟩) q))
    · cases k
  | .asgLc i own gt src cond elt r, c, S, a, X, ρ, K, s, hW, g, k, h => by
    simp only [okB] at k
    simp only [wb] at h
    split at k
    · simp only [Bool.and_eq_true, decide_eq_true_eq, List.all_eq_true] at k
      obtain ⟨⟨⟨⟨⟨⟨⟨⟨⟨⟨k1, k2⟩, k3⟩, k4⟩, k5⟩, k6⟩, k7⟩, k8⟩, k9⟩, k10⟩, k11⟩ := k
      have sk := blk_kind k3
      refine db_cons (DS.mono_nx (ds_asgLc (K := { K with nx := fun ρ' => wb S r ρ' K }) (wc := wc S cond) (we := w S elt) g.xo g.co g.hk k1 k2 h.1 k3 k5 (fun i hi => ?_) (by rw [k4]; exact h.2.1) k7 (fun H F s H2 C cl fp ρ' Ψ q => soundC cond (g.on.blk sk) k9 q) (fun H F s H2 C cl fp ρ' Ψ q => soundE elt (g.on.blk sk) k10 q) (soundI src g k8 h.2.2)) fun ρ' q => soundB r hW g k11 q)
      rw [k4]
      have := k6 i hi
      simpa using this
    · cases k
  | .par2 i j x y r, c, S, a, X, ρ, K, s, hW, g, k, h => by
    simp only [okB] at k
    simp only [wb] at h
    split at k
    · simp only [Bool.and_eq_true] at k
      obtain ⟨⟨⟨⟨⟨⟨⟨k1, k2⟩, k3⟩, k4⟩, k5⟩, k6⟩, k7⟩, k8⟩ := k
      obtain ⟨h1, h2, h3, h4⟩ := h
      exact db_cons (ds_par2 g.xo g.co g.hk k1 k2 h1 k3 h2 h3 ((da_two (Ψ := fun us => match us with
        | [u, v] => wb S r ((ρ.put i (some u)).put j (some v)) K
        | _ => False) g k4 k5 k6 k7 h4).mono fun us q => by
          split at q
          · exact ⟨_, _, rfl, soundB r hW g k8 q⟩
          · exact q.elim))
    · cases k
  | .par3 i j l x y z r, c, S, a, X, ρ, K, s, hW, g, k, h => by
    simp only [okB] at k
    simp only [wb] at h
    split at k
    · simp only [Bool.and_eq_true] at k
      obtain ⟨⟨⟨⟨⟨⟨⟨⟨⟨⟨k1, k2⟩, k3⟩, k4⟩, k5⟩, k6⟩, k7⟩, k8⟩, k9⟩, k10⟩, k11⟩ := k
      obtain ⟨⟨h1, h2, h3⟩, ⟨h4, h5, h6⟩, h7⟩ := h
      exact db_cons (ds_par3 g.xo g.co g.hk k1 k2 k3 h1 h2 h3 k4 h4 h5 h6 ((da_three (Ψ := fun us => match us with
        | [u, v, q] => wb S r (((ρ.put i (some u)).put j (some v)).put l (some q)) K
        | _ => False) g k5 k6 k7 k8 k9 k10 h7).mono fun us q => by
          split at q
          · exact ⟨_, _, _, rfl, soundB r hW g k11 q⟩
          · exact q.elim))
    · cases k
  | .aug o i e r, c, S, a, X, ρ, K, s, hW, g, k, h => by
    simp only [okB] at k
    simp only [wb] at h
    split at k
    · simp only [Bool.and_eq_true, decide_eq_true_eq] at k
      obtain ⟨⟨⟨⟨k1, k2⟩, k3⟩, k4⟩, k5⟩ := k
      obtain ⟨d, h1, h2, h3⟩ := h
      obtain ⟨l1, l2⟩ := Ct.loc_of g.co k3
      rw [k1]
      exact db_cons (ds_aug g.xo (nameIs_of g.co k2) l1 l2 h1 h2 ((soundE e g k4 h3).mono fun y q => augm (fun z q => soundB r hW g k5 q) q))
    · cases k
  | .setix i x e r, c, S, a, X, ρ, K, s, hW, g, k, h => by
    simp only [okB] at k
    simp only [wb] at h
    split at k
    · simp only [Bool.and_eq_true] at k
      obtain ⟨⟨⟨⟨⟨⟨⟨k1, k2⟩, k3⟩, k4⟩, k5⟩, k6⟩, k7⟩, k8⟩ := k
      obtain ⟨us, h1, h2⟩ := h
      obtain ⟨q1, q2, _⟩ := plain_of k3
      exact db_cons (ds_setix g.xo hW (nameIs_of g.co k1) (Ct.vis_of g.co k2) q1 q2 k4 k5 h1 ((soundE e g k6 h2).mono fun t q => fin_mono (fun u q => (soundE x g k7 q).mono fun y q => q.elim fun n q => q.elim fun j q => ⟨n, j, q.1, q.2.1, soundB r hW g k8 q.2.2⟩) q))
    · cases k
  | .augix o i x e r, c, S, a, X, ρ, K, s, hW, g, k, h => by
    simp only [okB] at k
    simp only [wb] at h
    split at k
    · simp only [Bool.and_eq_true, decide_eq_true_eq] at k
      obtain ⟨⟨⟨⟨⟨⟨⟨k1, k2⟩, k3⟩, k4⟩, k5⟩, k6⟩, k7⟩, k8⟩ := k
      obtain ⟨us, h1, h2⟩ := h
      obtain ⟨q1, q2, _⟩ := plain_of k4
      rw [k1]
      exact db_cons (ds_augix g.xo hW (nameIs_of g.co k2) (Ct.vis_of g.co k3) q1 q2 k5 h1 ((soundE x g k6 h2).mono fun y q => q.elim fun n q => q.elim fun j q => q.elim fun d q => ⟨n, j, d, q.1, q.2.1, q.2.2.1, (soundE e g k7 q.2.2.2).mono fun y2 q => augm (fun z q => soundB r hW g k8 q) q⟩))
    · cases k
  | .app i e r, c, S, a, X, ρ, K, s, hW, g, k, h => by
    simp only [okB] at k
    simp only [wb] at h
    split at k
    · simp only [Bool.and_eq_true] at k
      obtain ⟨⟨⟨⟨⟨⟨⟨k1, k2⟩, k3⟩, k4⟩, k5⟩, k6⟩, k7⟩, k8⟩ := k
      obtain ⟨us, h1, h2, h3⟩ := h
      obtain ⟨q1, q2, _⟩ := plain_of k4
      have em := beq_iff_eq.mp k1
      subst em
      exact db_cons (ds_append g.xo hW (nameIs_of g.co k2) (Ct.vis_of g.co k3) q1 q2 k5 k6 h1 h2 ((soundE e g k7 h3).mono fun t q => fin_mono (fun u q => soundB r hW g k8 q) q))
    · cases k
  | .augix2 o i x y e r, c, S, a, X, ρ, K, s, hW, g, k, h => by
    simp only [okB] at k
    simp only [wb] at h
    split at k
    · simp only [Bool.and_eq_true, decide_eq_true_eq] at k
      obtain ⟨⟨⟨⟨⟨⟨⟨⟨⟨k1, k2⟩, k3⟩, k4⟩, k5⟩, k6⟩, k7⟩, k8⟩, k9⟩, k10⟩ := k
      obtain ⟨us, h1, h2⟩ := h
      obtain ⟨q1, q2, _⟩ := plain_of k4
      rw [k1]
      exact db_cons (ds_augix2 g.xo hW (nameIs_of g.co k2) (Ct.vis_of g.co k3) q1 q2 k5 k6 h1 ((soundE x g k7 h2).mono fun y1 q => q.elim fun n1 q => q.elim fun j1 q => q.elim fun ws q => ⟨n1, j1, ws, q.1, q.2.1, q.2.2.1, fun H F => (soundE y g.on k8 q.2.2.2).mono fun y2 q => q.elim fun n2 q => q.elim fun j2 q => q.elim fun d q => ⟨n2, j2, d, q.1, q.2.1, q.2.2.1, (soundE e g.on k9 q.2.2.2).mono fun y3 q => augm (fun z q => soundB r hW g k10 q) q⟩⟩))
    · cases k
  | .ext i e r, c, S, a, X, ρ, K, s, hW, g, k, h => by
    simp only [okB] at k
    simp only [wb] at h
    split at k
    · simp only [Bool.and_eq_true] at k
      obtain ⟨⟨⟨⟨⟨⟨⟨k1, k2⟩, k3⟩, k4⟩, k5⟩, k6⟩, k7⟩, k8⟩ := k
      obtain ⟨us, h1, h2⟩ := h
      obtain ⟨q1, q2, _⟩ := plain_of k4
      have em := beq_iff_eq.mp k1
      subst em
      exact db_cons (ds_extend g.xo hW (nameIs_of g.co k2) (Ct.vis_of g.co k3) q1 q2 k5 k6 h1 ((soundE e g k7 h2).mono fun t q => q.elim fun us2 q => ⟨us2, q.1, q.2.1, soundB r hW g k8 q.2.2⟩))
    · cases k
  | .fgt i r, c, S, a, X, ρ, K, s, hW, g, k, h => by
    simp only [okB] at k
    simp only [wb] at h
    exact db_fgt (soundB r hW g k h)
  | .unp2 i j e r, c, S, a, X, ρ, K, s, hW, g, k, h => by
    simp only [okB] at k
    simp only [wb] at h
    split at k
    · simp only [Bool.and_eq_true, Bool.not_eq_true'] at k
      obtain ⟨⟨⟨k1, k2⟩, k3⟩, k4⟩ := k
      exact db_cons (ds_unp2 g.xo g.co k1 k2 ((soundE e g k3 h).mono fun t q => q.elim fun u q => q.elim fun v q => ⟨u, v, q.1, q.2.1, q.2.2.1, soundB r hW g k4 q.2.2.2⟩))
    · cases k
  | .ex e r, c, S, a, X, ρ, K, s, hW, g, k, h => by
    simp only [okB] at k
    simp only [wb] at h
    split at k
    · simp only [Bool.and_eq_true] at k
      exact db_cons (ds_expr k.1.1 ((soundE e g k.1.2 h).mono fun t q => soundB r hW g k.2 q))
    · cases k
  | .ret e r, c, S, a, X, ρ, K, s, hW, g, k, h => by
    simp only [okB] at k
    simp only [wb] at h
    split at k
    · exact db_cons (ds_ret (soundE e g k h))
    · cases k
  | .retN r, c, S, a, X, ρ, K, s, hW, g, k, h => by
    simp only [okB] at k
    simp only [wb] at h
    split at k
    · exact db_cons (ds_retN h)
    · cases k
  | .ite t x y r, c, S, a, X, ρ, K, s, hW, g, k, h => by
    simp only [okB] at k
    simp only [wb] at h
    split at k
    · simp only [Bool.and_eq_true] at k
      obtain ⟨⟨⟨k1, k2⟩, k3⟩, k4⟩ := k
      exact db_cons (ds_if ((soundT t g k1 h).mono fun b q => ite_mono (fun q => (soundB x hW g k2 q).mono_nx fun ρ' q => soundB r hW g k4 q) (fun q => (soundB y hW g k3 q).mono_nx fun ρ' q => soundB r hW g k4 q) q))
    · cases k
  | .for_ gt src b r, c, S, a, X, ρ, K, s, hW, g, k, h => by
    simp only [okB] at k
    simp only [wb] at h
    split at k
    · simp only [Bool.and_eq_true] at k
      obtain ⟨⟨⟨⟨k1, k2⟩, k3⟩, k4⟩, k5⟩ := k
      exact db_cons (DS.mono_nx (ds_for (K := { K with nx := fun ρ' => wb S r ρ' K }) (wb := fun ρ K => wb S b ρ K) g.xo g.co k1 k2 (fun F ρ' K' q => soundB b (by exact hW) g.onV k4 q) (soundI src g k3 h)) fun ρ' q => soundB r hW g k5 q)
    · cases k
  | .whl t b r, c, S, a, X, ρ, K, s, hW, g, k, h => by
    simp only [okB] at k
    simp only [wb] at h
    split at k
    · simp only [Bool.and_eq_true] at k
      obtain ⟨⟨k1, k2⟩, k3⟩ := k
      exact db_cons (DS.mono_nx (ds_while (K := { K with nx := fun ρ' => wb S r ρ' K }) (wt := wt S t) (wb := fun ρ K => wb S b ρ K) g.xo (fun ρ' Ψ q => soundT t g k1 q) (fun ρ' K' q => soundB b hW g k2 q) h) fun ρ' q => soundB r hW g k3 q)
    · cases k
  | .pass r, c, S, a, X, ρ, K, s, hW, g, k, h => by
    simp only [okB] at k
    simp only [wb] at h
    split at k
    · exact db_cons (ds_pass (soundB r hW g k h))
    · cases k
  | .brk r, c, S, a, X, ρ, K, s, hW, g, k, h => by
    simp only [okB] at k
    simp only [wb] at h
    split at k
    · exact db_cons (ds_break h)
    · cases k
  | .cont r, c, S, a, X, ρ, K, s, hW, g, k, h => by
    simp only [okB] at k
    simp only [wb] at h
    split at k
    · exact db_cons (ds_continue h)
    · cases k
  | .fz i r, c, S, a, X, ρ, K, s, hW, g, k, h => by
    simp only [okB] at k
    simp only [wb] at h
    obtain ⟨hz, u, h1, h2⟩ := h
    exact db_fz (g.io hz) h1 (soundB r hW g k h2)
end
end DL
namespace DL
open PySem PySem.Spec PyProof.Rows L2

/-! ### a def by its short body -/
def envS (N : List Str) (ts : List T) : Env := ts.map some ++ List.replicate (N.length - ts.length) none
theorem owc_none {a : An} {F H : Hp} : ∀ (n : Nat) (σ : L2.St), OwC a F H (List.replicate n none) σ []
  | 0, σ => by simp [OwC]
  | n + 1, σ => by
    rw [List.replicate_succ]
    simp only [OwC]
    exact owc_none n _
theorem owc_start {a : An} {F H : Hp} : ∀ {ds : List D} {vs : List V} {n : Nat}, IsL a F ds vs → OwC a F H ((ds.map T.leaf).map some ++ List.replicate n none) (vs.map some ++ List.replicate n none) []
  | [], vs, n, h => owc_none n _
  | d :: ds, vs, n, h => by
    simp only [IsL] at h
    obtain ⟨v, r, rfl, h1, h2⟩ := h
    simp only [List.map_cons, List.cons_append, OwC]
    exact ⟨v, [], [], ⟨rfl, rfl⟩, by simp only [Ow]; exact ⟨trivial, h1⟩, owc_start h2, rfl⟩
/-- a def that keeps its promise, under its name -/
structure FnB (P : Program) (w : World) (K : PySem.W.Frag) (mg : Str → Option Value) (base : Heap) (cls : Nat → Option (Addr × List Str)) (k : Nat) (x : Str) (f : SpecF) : Prop where
  ex : ∃ (fa : Addr) (fd : FuncData) (ps : List Str), FnG P w K mg base CX0 k fa fd ps (spD K cls f) ∧ mg x = some (.ref fa) ∧ PySem.W.keepIn K (.ref fa) = true ∧ Binds K fd ps []
  mo : Mono f
/-- what own classes promise, at level k -/
structure ObB (P : Program) (w : World) (K : PySem.W.Frag) (mg : Str → Option Value) (base : Heap) (cls : Nat → Option (Addr × List Str)) (k : Nat) (c : Cn) (S : Sg) : Prop where
  ms : ∀ (i : Nat) q f, c.ms[i]? = some q → S.ms[i]? = some f → (∃ (C fa : Addr) (ns : List Str) (fd : FuncData) (ps : List Str), cls q.1 = some (C, ns) ∧ q.2 ∉ ns ∧ Cls K C ∧ Meth K C q.2 fa ∧ FnG P w K mg base CX0 k fa fd ps (spD K cls f) ∧ Binds K fd ps []) ∧ Mono f
  ps : ∀ (i : Nat) q f, c.ps[i]? = some q → S.ps[i]? = some f → (∃ (C fa p : Addr) (ns : List Str) (fd : FuncData) (j : Nat) (ps : List Str), j + 1 ≤ k ∧ cls q.1 = some (C, ns) ∧ Cls K C ∧ PropOf K C q.2 p fa ∧ FnG P w K mg base CX0 j fa fd ps (spD K cls f) ∧ Binds K fd ps []) ∧ Mono f
  nw : ∀ (i : Nat) x f, c.nw[i]? = some x → S.nw[i]? = some f → (∃ (C fa : Addr) (cl : Nat) (ns : List Str) (fd : FuncData) (j : Nat) (ps : List Str), j + 1 ≤ k ∧ cls cl = some (C, ns) ∧ Mk K C fa ∧ mg x = some (.ref C) ∧ FnG P w K mg base CX0 j fa fd ps (spI K cls cl f) ∧ Binds K fd ps []) ∧ Mono f
  fd : ∀ q ∈ c.fd, ∃ (C : Addr) (ns : List Str), cls q.1 = some (C, ns) ∧ ns[q.2.1]? = some q.2.2 ∧ ns.Nodup ∧ Cls K C ∧ NoAttr K C q.2.2
  ic : ∀ q ∈ c.ic, ∃ (C : Addr) (ns : List Str), cls q.1 = some (C, ns) ∧ mg q.2 = some (.ref C) ∧ C8.InsC K C
theorem obNil {P : Program} {w : World} {K : PySem.W.Frag} {mg : Str → Option Value} {base : Heap} {cls : Nat → Option (Addr × List Str)} {k : Nat} {c : Cn} {S : Sg} (h1 : c.ms = []) (h2 : c.ps = []) (h3 : c.nw = []) (h4 : c.fd = []) (h5 : c.ic = []) : ObB P w K mg base cls k c S :=
  ⟨fun i q f h => by rw [h1] at h; simp at h, fun i q f h => by rw [h2] at h; simp at h, fun i q f h => by rw [h3] at h; simp at h, fun q h => by rw [h4] at h; simp at h, fun q h => by rw [h5] at h; simp at h⟩
section
variable {P : Program} {w : World} {K : PySem.W.Frag} {mg : Str → Option Value} {base : Heap} {cls : Nat → Option (Addr × List Str)} {k j : Nat} {x qual : Str} {f : SpecF} {st : Stmt} {fa : Addr} {fd : FuncData} {N ps : List Str} {c : Cn} {S : Sg} {b : B}
theorem FnB.mono (h : FnB P w K mg base cls j x f) (l : j ≤ k) : FnB P w K mg base cls k x f :=
  let ⟨fa, fd, ps, g, r⟩ := h.ex
  ⟨⟨fa, fd, ps, g.mono l, r⟩, h.mo⟩
theorem isl_length {a : An} {F : Hp} : ∀ {ds : List D} {vs : List V}, IsL a F ds vs → vs.length = ds.length
  | [], vs, h => by simp only [IsL] at h; rw [h]; rfl
  | d :: ds, vs, h => by
    simp only [IsL] at h
    obtain ⟨v, r, rfl, h1, h2⟩ := h
    simp [isl_length h2]
theorem goodB {a : An0} {cdv : Value} {A : Around} {outer : List PySem.Env} {s : Shared} {H : Hp} {E : XK} (sc : FnScope N ps (defScope st)) (hc : c.toCt = ⟨N, defScope st, defScope st⟩) (gu : A.guards = some []) (hr : Room k (A.deeper (envOfC qual (defScope st) s.heap.objs.size fa cdv)))
    (fns : ∀ (i : Nat) y f, c.fn[i]? = some y → S.fs[i]? = some f → FnB P w K mg base cls k y f)
    (gls : ∀ (i : Nat) y d, c.gl[i]? = some y → S.gs[i]? = some d → ∃ v u, mg y = some u ∧ RelV v u ∧ ∀ (a : An) F, a.K = K → Is a F d v)
    (bs : ∀ y ∈ c.bs, mg y = none) (ob : ObB P w K mg base cls k c S) (hK : a.K = K) (hcl : a.cls = cls) (io : S.z = true → NoIo a) : Good c S a (cxOf CX0 P w K mg base N qual (defScope st) fa cdv A outer s H E).nox := by
  refine ⟨⟨hK.symm, rfl, sc.nd, gu, hr.hd, ?_, PassesOwn.never⟩, ⟨by rw [hc]; rfl, by rw [hc]; rfl, fun _ _ => rfl, fun x k _ h => by rw [hc] at h ⊢; exact h⟩, io, sc.kind, fun i y f h1 h2 => ?_, fun i y d h1 h2 => ?_, bs, fun i q f h1 h2 => ?_, fun i q f h1 h2 => ?_, fun i q f h1 h2 => ?_, fun q h => ?_, fun q h => ?_⟩
  · have := hr.un
    show (A.deeper _).units + 200 < cLine
    omega
  · obtain ⟨fa', fd', ps', g, m, kp, bd⟩ := (fns i y f h1 h2).ex
    exact ⟨⟨fa', fd', k, ps', by rw [hK, hcl]; exact g, hr, m, by exact kp, by exact bd⟩, (fns i y f h1 h2).mo⟩
  · obtain ⟨v, u, e1, r, q⟩ := gls i y d h1 h2
    exact ⟨v, u, e1, r, fun F => q a.toAn F hK⟩
  · obtain ⟨⟨C, fa', ns, fd', ps', e1, e2, cl, me, F, bd⟩, mo⟩ := ob.ms i q f h1 h2
    exact ⟨⟨C, fa', ns, fd', k, ps', by rw [hcl]; exact e1, e2, cl, me, by rw [hK, hcl]; exact F, hr, bd⟩, mo⟩
  · obtain ⟨⟨C, fa', p, ns, fd', j, ps', lj, e1, cl, me, F, bd⟩, mo⟩ := ob.ps i q f h1 h2
    exact ⟨⟨C, fa', p, ns, fd', j, ps', by rw [hcl]; exact e1, cl, me, by rw [hK, hcl]; exact F, hr.mono lj, bd⟩, mo⟩
  · obtain ⟨⟨C, fa', cl, ns, fd', j, ps', lj, e1, M, e2, F, bd⟩, mo⟩ := ob.nw i q f h1 h2
    exact ⟨⟨C, fa', cl, ns, fd', j, ps', by rw [hcl]; exact e1, M, e2, by rw [hK, hcl]; exact F, hr.mono lj, bd⟩, mo⟩
  · obtain ⟨C, ns, e1, e2, e3, cl, na⟩ := ob.fd q h
    exact ⟨C, ns, by rw [hcl]; exact e1, e2, e3, cl, na⟩
  · obtain ⟨C, ns, e1, e2, ic⟩ := ob.ic q h
    exact ⟨C, ns, by rw [hcl]; exact e1, e2, ic⟩
theorem fnD (Fu : L2.Fun K x qual st fa fd) (sc : FnScope N ps (defScope st)) (hc : c.toCt = ⟨N, defScope st, defScope st⟩) (ck : okB c b (defBody st) = true)
    (fns : ∀ (i : Nat) y f, c.fn[i]? = some y → S.fs[i]? = some f → FnB P w K mg base cls k y f)
    (gls : ∀ (i : Nat) y d, c.gl[i]? = some y → S.gs[i]? = some d → ∃ v u, mg y = some u ∧ RelV v u ∧ ∀ (a : An) F, a.K = K → Is a F d v)
    (bs : ∀ y ∈ c.bs, mg y = none)
    (h : ∀ ds Φ, f ds Φ → ds.length = ps.length ∧ wb S b (envS N (ds.map .leaf)) { nx := fun _ => Φ (.leaf .non), rt := fun t _ => Φ t }) (ob : ObB P w K mg base cls k c S := by exact obNil rfl rfl rfl rfl rfl) :
    FnG P w K mg base CX0 (k + 1) fa fd ps (spD K cls f) := by
  obtain ⟨oc, od, kV, doc, pm, an, cdv, ct, osl, rfl, lk, hcd⟩ := Fu.ex
  refine fn_G lk hcd sc (fun vs H Q E hs => ?_) fun A outer s H vs Q E gu hr hs => ?_
  · obtain ⟨bg, F, ds, _, _, il, q⟩ := hs
    rw [isl_length il, (h _ _ q).1]
  obtain ⟨bg, F, ds, sub, bag, il, q⟩ := hs
  obtain ⟨l, q⟩ := h _ _ q
  have vl := isl_length il
  have X := goodB (a := ⟨⟨K, bg, cls⟩, bg.toList, F, H, [], []⟩) (E := E) (H := H) (outer := outer) (cdv := cdv) (qual := qual) (fa := fa) sc hc gu hr fns gls bs ob rfl rfl fun _ p hp => by simpa using hp
  have go := soundB b rfl X ck q
  refine ⟨_, (PSs.nox (pb_W (X := (cxOf CX0 P w K mg base N qual (defScope st) fa cdv A outer s H E).nox))), go (start N vs) H _ ⟨F, [], [], ⟨sub, Gw.refl _ _ _, fun b hb => ⟨by have hb : bg = some b := hb; simp [hb], ?_⟩, bag, ?_, by simp only [OwL]; exact ⟨trivial, trivial⟩, by simp, by simp, ?_, by simp, by simp⟩⟩ ⟨fun ρ σ H' hq ok => ?_, fun t v ρ σ H' hq ok => ?_, fun _ _ _ hq => hq.elim, fun _ _ _ hq => hq.elim⟩⟩
  · obtain ⟨_, x, y, z, c, ns, e, _⟩ := bag b hb
    show H b ≠ none
    rw [e]; simp
  · unfold envS L2.start
    rw [List.length_map, vl]
    exact owc_start il
  · unfold envS L2.start
    simp [vl]
  · obtain ⟨F', Sc, Sm, w⟩ := ok
    exact hq F' H' .non [] w.sub w.gw w.bag (by simp only [Ow, Is]; exact ⟨trivial, trivial⟩) (by simp) (by simp)
  · obtain ⟨F', Sc, Sm, w⟩ := ok
    obtain ⟨v', r, S1, S2, e, h1, h2, e2⟩ := (show ∃ v' r S1 S2, [v] = v' :: r ∧ Ow ⟨K, bg, cls⟩ F' H' t v' S1 ∧ OwL ⟨K, bg, cls⟩ F' H' [] r S2 ∧ Sm = S1 ++ S2 by
      have := w.tmps; simpa only [OwL] using this)
    simp only [OwL] at h2
    cases e
    obtain ⟨_, rfl⟩ := h2
    rw [List.append_nil] at e2
    subst e2
    refine hq F' H' v Sm w.sub w.gw w.bag h1 (List.nodup_append.mp w.nd).2.1 fun p hp => ?_
    obtain ⟨f1, f2, f3⟩ := w.fr p (List.mem_append_right _ hp)
    have f2 : bg ≠ some p := f2
    exact ⟨f1, f2, f3.resolve_left fun z => f2 (by simpa using z)⟩
end
end DL
namespace DL
open PySem PySem.Spec PyProof.Rows L2

/-! ### the readings, step by step -/
section
variable {S : Sg} {ρ ρ' : Env} {Φ : T → Prop} {Ψ : Bool → Prop} {ΨL : List T → Prop} {ΨD : List D → Prop} {K : EnD} {i j k : Nat} {n m : Int} {d : D} {t u : T} {us : List T} {x y z e es c : I} {r b1 b2 : B} {g : Tg} {ds : List D} {own : List Nat}
theorem w_nm (h : ρ.at i = some (.leaf d)) (k : Φ (.leaf d)) : w S (.nm i) ρ Φ := by simp only [w]; rw [h]; exact k
theorem w_ow (h : ρ.at i = some t) (k : Φ (.vw t.dat)) : w S (.ow i) ρ Φ := by simp only [w]; rw [h]; exact k
theorem w_gl (h : S.gs[i]? = some d) (k : Φ (.leaf d)) : w S (.gl i) ρ Φ := by simp only [w]; exact ⟨d, h, k⟩
theorem w_int (k : Φ (.leaf (.int n))) : w S (.int n) ρ Φ := by simpa only [w] using k
theorem w_str {s : Str} (k : Φ (.leaf (.str s))) : w S (.str s) ρ Φ := by simpa only [w] using k
theorem w_bl {b : Bool} (k : Φ (.leaf (.bl b))) : w S (.bl b) ρ Φ := by simpa only [w] using k
theorem w_non (k : Φ (.leaf .non)) : w S .non ρ Φ := by simpa only [w] using k
theorem w_tup (k : wa S es ρ fun us => us.length ≤ 100000 ∧ Φ (T.mk us)) : w S (.tup es) ρ Φ := by simpa only [w] using k
theorem w_lst (k : wa S es ρ fun us => us.length ≤ 100000 ∧ Φ (.lst us)) : w S (.lst es) ρ Φ := by simpa only [w] using k
theorem w_bin {o : Bop} (k : w S x ρ fun t => w S y ρ fun u => binT o t u Φ) : w S (.bin o x y) ρ Φ := by simpa only [w] using k
theorem w_neg (k : w S x ρ fun t => ∃ i, t.dat = .int i ∧ Φ (.leaf (.int (-i)))) : w S (.neg x) ρ Φ := by simpa only [w] using k
theorem w_not (k : w S x ρ fun t => ∃ b, t.dat = .bl b ∧ Φ (.leaf (.bl !b))) : w S (.not x) ρ Φ := by simpa only [w] using k
theorem w_cmp {o : Cop} (k : w S x ρ fun t => w S y ρ fun u => cmpD o t.dat u.dat fun b => Φ (.leaf (.bl b))) : w S (.cmp o x y) ρ Φ := by simpa only [w] using k
theorem w_chn {o o' : Cop} (k : w S x ρ fun t => w S y ρ fun u => cmpD o t.dat u.dat fun b => if b = true then w S z ρ fun v => cmpD o' u.dat v.dat fun b => Φ (.leaf (.bl b)) else Φ (.leaf (.bl false))) : w S (.chn o o' x y z) ρ Φ := by simpa only [w] using k
theorem w_and (k : w S x ρ fun t => ∃ b, t.dat = .bl b ∧ if b = true then w S y ρ Φ else Φ (.leaf (.bl false))) : w S (.and x y) ρ Φ := by simpa only [w] using k
theorem w_or (k : w S x ρ fun t => ∃ b, t.dat = .bl b ∧ if b = true then Φ (.leaf (.bl true)) else w S y ρ Φ) : w S (.or x y) ρ Φ := by simpa only [w] using k
theorem w_orv (k : w S x ρ fun t => ∃ b, t.dat.truth = some b ∧ if b = true then Φ t else w S y ρ Φ) : w S (.orv x y) ρ Φ := by simpa only [w] using k
theorem w_srtS (k : w S x ρ fun t => srtS t Φ) : w S (.srtS x) ρ Φ := by simpa only [w] using k
theorem w_one (k : w S x ρ Φ) : w S (.one x) ρ Φ := by simpa only [w] using k
theorem w_ife (k : wt S x ρ fun b => if b = true then w S y ρ Φ else w S z ρ Φ) : w S (.ife x y z) ρ Φ := by simpa only [w] using k
theorem w_ix (k : w S x ρ fun t => w S y ρ fun u => ixT t u.dat Φ) : w S (.ix x y) ρ Φ := by simpa only [w] using k
theorem w_sl (k : w S x ρ fun t => wo S y ρ fun l => wo S z ρ fun h => slT t l h Φ) : w S (.sl x y z) ρ Φ := by simpa only [w] using k
theorem w_call {f : SpecF} (h : S.fs[i]? = some f) (k : wv S es ρ fun us => frozs S.z us fun ds => f ds Φ) : w S (.call i es) ρ Φ := by simp only [w]; exact ⟨f, h, k⟩
theorem w_blt {f : Blt} (k : wv S es ρ fun us => bltT f us Φ) : w S (.blt f es) ρ Φ := by simpa only [w] using k
theorem w_lc (h : ρ.wipes own = ρ) (k : wi S x ρ fun ds => ds.length ≤ 100000 ∧ lcW g (wc S c) (w S e) ρ ds [] fun us => Φ (.lst us)) : w S (.lc own g x c e) ρ Φ := by simp only [w]; exact ⟨h, k⟩
theorem w_eqO {cl : Nat} {f : SpecF} (h : S.ms[i]? = some f) (k : w S x ρ fun t => w S y ρ fun u => ∃ fs gs, t = .leaf (.obj cl fs) ∧ u = .leaf (.obj cl gs) ∧ f [.obj cl fs, .obj cl gs] fun r => ∃ b, r = .leaf (.bl b) ∧ Φ (.leaf (.bl b))) : w S (.eqO i cl x y) ρ Φ := by simp only [w]; exact ⟨f, h, k⟩
theorem wt_eqO {cl : Nat} {f : SpecF} (h : S.ms[i]? = some f) (k : w S x ρ fun t => w S y ρ fun u => ∃ fs gs, t = .leaf (.obj cl fs) ∧ u = .leaf (.obj cl gs) ∧ f [.obj cl fs, .obj cl gs] fun r => ∃ b, r = .leaf (.bl b) ∧ Ψ b) : wt S (.eqO i cl x y) ρ Ψ := by simp only [wt]; exact ⟨f, h, k⟩
theorem w_isC {cl : Nat} (k : w S x ρ fun t => (∃ fs, t = .leaf (.obj cl fs)) ∧ Φ (.leaf (.bl true))) : w S (.isC cl x) ρ Φ := by simpa only [w] using k
theorem w_fld {cl : Nat} (k : w S x ρ fun t => ∃ fs d, t = .leaf (.obj cl fs) ∧ fs[i]? = some d ∧ Φ (.leaf d)) : w S (.fld cl i x) ρ Φ := by simpa only [w] using k
theorem w_mth {cl : Nat} {f : SpecF} (h : S.ms[i]? = some f) (k : w S x ρ fun t => ∃ fs, t = .leaf (.obj cl fs) ∧ wv S es ρ fun us => frozs S.z us fun ds => f (.obj cl fs :: ds) Φ) : w S (.mth i cl x es) ρ Φ := by simp only [w]; exact ⟨f, h, k⟩
theorem w_mt0 {cl : Nat} {f : SpecF} (h : S.ms[i]? = some f) (k : w S x ρ fun t => ∃ fs, t = .leaf (.obj cl fs) ∧ f [.obj cl fs] Φ) : w S (.mt0 i cl x) ρ Φ := by simp only [w]; exact ⟨f, h, k⟩
theorem w_prp {cl : Nat} {f : SpecF} (h : S.ps[i]? = some f) (k : w S x ρ fun t => ∃ fs, t = .leaf (.obj cl fs) ∧ f [.obj cl fs] Φ) : w S (.prp i cl x) ρ Φ := by simp only [w]; exact ⟨f, h, k⟩
theorem w_new {f : SpecF} (h : S.nw[i]? = some f) (k : wv S es ρ fun us => frozs S.z us fun ds => f ds Φ) : w S (.new i es) ρ Φ := by simp only [w]; exact ⟨f, h, k⟩
theorem w_isi {ty : Ty} (k : w S x ρ fun t => ∃ b, t.dat.isT ty = some b ∧ Φ (.leaf (.bl b))) : w S (.isi ty x) ρ Φ := by simpa only [w] using k
theorem w_lr1 (k : w S x ρ fun t => ∃ j, t.dat = .int j ∧ RgS 0 j ∧ Φ (rgT 0 j)) : w S (.lr1 x) ρ Φ := by simpa only [w] using k
theorem w_lr2 (k : w S x ρ fun t => w S y ρ fun u => ∃ i j, t.dat = .int i ∧ u.dat = .int j ∧ RgS i j ∧ Φ (rgT i j)) : w S (.lr2 x y) ρ Φ := by simpa only [w] using k
theorem wa_nil (k : ΨL []) : wa S .nil ρ ΨL := by simpa only [wa] using k
theorem wa_cons (k : w S e ρ fun t => t.fin fun u => wa S x ρ fun us => ΨL (u :: us)) : wa S (.cons e x) ρ ΨL := by simpa only [wa] using k
theorem wv_nil (k : ΨL []) : wv S .nil ρ ΨL := by simpa only [wv] using k
theorem wv_cons (k : w S e ρ fun t => wv S x ρ fun us => ΨL (t :: us)) : wv S (.cons e x) ρ ΨL := by simpa only [wv] using k
theorem wo_nop {Ψ : Option Int → Prop} (k : Ψ none) : wo S .nop ρ Ψ := by simpa only [wo] using k
theorem wo_prt {Ψ : Option Int → Prop} (k : w S x ρ fun t => ∃ i, t.dat = .int i ∧ Ψ (some i)) : wo S (.prt x) ρ Ψ := by simpa only [wo] using k
theorem wt_not (k : wt S x ρ fun b => Ψ !b) : wt S (.not x) ρ Ψ := by simpa only [wt] using k
theorem wt_and (k : wt S x ρ fun b => if b = true then wt S y ρ Ψ else Ψ false) : wt S (.and x y) ρ Ψ := by simpa only [wt] using k
theorem wt_or (k : wt S x ρ fun b => if b = true then Ψ true else wt S y ρ Ψ) : wt S (.or x y) ρ Ψ := by simpa only [wt] using k
theorem wt_one (k : wt S x ρ Ψ) : wt S (.one x) ρ Ψ := by simpa only [wt] using k
theorem wt_cmp {o : Cop} (k : w S x ρ fun t => w S y ρ fun u => cmpD o t.dat u.dat Ψ) : wt S (.cmp o x y) ρ Ψ := by simpa only [wt] using k
theorem wt_chn {o o' : Cop} (k : w S x ρ fun t => w S y ρ fun u => cmpD o t.dat u.dat fun b => if b = true then w S z ρ fun v => cmpD o' u.dat v.dat Ψ else Ψ false) : wt S (.chn o o' x y z) ρ Ψ := by simpa only [wt] using k
theorem wt_val (k : w S x ρ fun t => tru t Ψ) : wt S (.val x) ρ Ψ := by simpa only [wt] using k
theorem wc_nop (k : Ψ true) : wc S .nop ρ Ψ := by simpa only [wc] using k
theorem wc_one (k : wt S x ρ Ψ) : wc S (.one x) ρ Ψ := by simpa only [wc] using k
theorem wi_sq (k : w S x ρ fun t => t.froz S.z fun d => ∃ ds, d.items = some ds ∧ ΨD ds) : wi S (.sq x) ρ ΨD := by simpa only [wi] using k
theorem wi_rng (k : wv S es ρ fun us => rngW (T.dats us) ΨD) : wi S (.rng es) ρ ΨD := by simpa only [wi] using k
theorem wi_zip (k : wv S es ρ fun us => frozs S.z us fun ds => zipW ds ΨD) : wi S (.zip es) ρ ΨD := by simpa only [wi] using k
theorem wi_enm (k : wv S es ρ fun us => frozs S.z us fun ds => ∃ xs, ds = [.lst xs] ∧ ΨD (enumFrom 0 xs)) : wi S (.enm es) ρ ΨD := by simpa only [wi] using k
theorem wb_nil (k : K.nx ρ) : wb S .nil ρ K := by simpa only [wb] using k
theorem wb_asg (k : w S e ρ fun t => t.fin fun u => ∃ ρ', bindG g u ρ = some ρ' ∧ wb S r ρ' K) : wb S (.asg g e r) ρ K := by simpa only [wb] using k
theorem wb_asgLc (h0 : Nat.blt i ρ.length = true) (h : ρ.wipes own = ρ) (k : wi S x ρ fun ds => ds.length ≤ 100000 ∧ lcW g (wc S c) (w S e) ρ ds [] fun us => wb S r (ρ.put i (some (.lst us))) K) : wb S (.asgLc i own g x c e r) ρ K := by simp only [wb]; exact ⟨Nat.le_of_ble_eq_true h0, h, k⟩
theorem wb_par2 (h0 : i ≠ j) (h1 : Nat.blt i ρ.length = true) (h2 : Nat.blt j ρ.length = true) (k : w S x ρ fun t => t.fin fun u => w S y ρ fun t' => t'.fin fun v => wb S r ((ρ.put i (some u)).put j (some v)) K) : wb S (.par2 i j x y r) ρ K := by simp only [wb]; exact ⟨h0, Nat.le_of_ble_eq_true h1, Nat.le_of_ble_eq_true h2, k⟩
theorem wb_aug {o : Aop} (h : ρ.at i = some (.leaf d)) (h1 : Nat.blt i ρ.length = true) (k : w S e ρ fun y => augD o d y.dat fun z => wb S r (ρ.put i (some (.leaf z))) K) : wb S (.aug o i e r) ρ K := by simp only [wb]; exact ⟨d, h, Nat.le_of_ble_eq_true h1, k⟩
theorem wb_setix (h : ρ.at i = some (.lst us)) (k : w S e ρ fun t => t.fin fun u => w S x ρ fun y => ∃ n j, y.dat = .int n ∧ ixN us.length n = some j ∧ wb S r (ρ.put i (some (.lst (us.set j u)))) K) : wb S (.setix i x e r) ρ K := by simp only [wb]; exact ⟨us, h, k⟩
theorem wb_augix {o : Aop} (h : ρ.at i = some (.lst us)) (k : w S x ρ fun y => ∃ n j d, y.dat = .int n ∧ ixN us.length n = some j ∧ us[j]? = some (.leaf d) ∧ w S e ρ fun y2 => augD o d y2.dat fun z => wb S r (ρ.put i (some (.lst (us.set j (.leaf z))))) K) : wb S (.augix o i x e r) ρ K := by simp only [wb]; exact ⟨us, h, k⟩
theorem wb_par3 {l : Nat} {z : I} (h0 : i ≠ j ∧ i ≠ l ∧ j ≠ l) (h1 : i < ρ.length ∧ j < ρ.length ∧ l < ρ.length) (k : w S x ρ fun t => t.fin fun u => w S y ρ fun t' => t'.fin fun v => w S z ρ fun t'' => t''.fin fun q => wb S r (((ρ.put i (some u)).put j (some v)).put l (some q)) K) : wb S (.par3 i j l x y z r) ρ K := by simp only [wb]; exact ⟨h0, h1, k⟩
theorem wb_ext (h : ρ.at i = some (.lst us)) (k : w S e ρ fun t => ∃ us2, t.its = some us2 ∧ us.length + us2.length ≤ 100000 ∧ wb S r (ρ.put i (some (.lst (us ++ us2)))) K) : wb S (.ext i e r) ρ K := by simp only [wb]; exact ⟨us, h, k⟩
theorem wb_augix2 {o : Aop} (h : ρ.at i = some (.lst us)) (k : w S x ρ fun y1 => ∃ n1 j1 ws, y1.dat = .int n1 ∧ ixN us.length n1 = some j1 ∧ us[j1]? = some (.lst ws) ∧ w S y ρ fun y2 => ∃ n2 j2 d, y2.dat = .int n2 ∧ ixN ws.length n2 = some j2 ∧ ws[j2]? = some (.leaf d) ∧ w S e ρ fun y3 => augD o d y3.dat fun z => wb S r (ρ.put i (some (.lst (us.set j1 (.lst (ws.set j2 (.leaf z))))))) K) : wb S (.augix2 o i x y e r) ρ K := by simp only [wb]; exact ⟨us, h, k⟩
theorem wb_fgt (k : wb S r (ρ.put i none) K) : wb S (.fgt i r) ρ K := by simpa only [wb] using k
theorem wb_unp2 (k : w S e ρ fun t => ∃ u v, t.its = some [u, v] ∧ i < ρ.length ∧ j < ρ.length ∧ wb S r ((ρ.put i (some u)).put j (some v)) K) : wb S (.unp2 i j e r) ρ K := by simpa only [wb] using k
theorem wb_app (h : ρ.at i = some (.lst us)) (h1 : us.length ≤ 99999) (k : w S e ρ fun t => t.fin fun u => wb S r (ρ.put i (some (.lst (us ++ [u])))) K) : wb S (.app i e r) ρ K := by simp only [wb]; exact ⟨us, h, h1, k⟩
theorem wb_ex (k : w S e ρ fun _ => wb S r ρ K) : wb S (.ex e r) ρ K := by simpa only [wb] using k
theorem wb_ret (k : w S e ρ fun t => t.fin fun u => K.rt u ρ) : wb S (.ret e r) ρ K := by simpa only [wb] using k
theorem wb_retN (k : K.rt (.leaf .non) ρ) : wb S (.retN r) ρ K := by simpa only [wb] using k
theorem wb_ite (k : wt S x ρ fun b => if b = true then wb S b1 ρ { K with nx := fun ρ' => wb S r ρ' K } else wb S b2 ρ { K with nx := fun ρ' => wb S r ρ' K }) : wb S (.ite x b1 b2 r) ρ K := by simpa only [wb] using k
theorem wb_for (k : wi S x ρ fun ds => forW g (fun ρ K => wb S b1 ρ K) ds ρ { K with nx := fun ρ' => wb S r ρ' K }) : wb S (.for_ g x b1 r) ρ K := by simpa only [wb] using k
theorem wb_whl (n : Nat) (k : whileW (wt S x) (fun ρ K => wb S b1 ρ K) n ρ { K with nx := fun ρ' => wb S r ρ' K }) : wb S (.whl x b1 r) ρ K := by simp only [wb]; exact ⟨n, k⟩
theorem wb_pass (k : wb S r ρ K) : wb S (.pass r) ρ K := by simpa only [wb] using k
theorem wb_brk (k : K.bk ρ) : wb S (.brk r) ρ K := by simpa only [wb] using k
theorem wb_cont (k : K.ct ρ) : wb S (.cont r) ρ K := by simpa only [wb] using k
theorem wb_fz (h0 : S.z = true) (h : ρ.at i = some u) (k : wb S r (ρ.put i (some (.leaf u.dat))) K) : wb S (.fz i r) ρ K := by simp only [wb]; exact ⟨h0, u, h, k⟩
/-! the data's steps -/
theorem fin_leaf (h : t = .leaf d) (k : Φ (.leaf d)) : t.fin Φ := by subst h; exact k
theorem fin_lst (h : t = .lst us) (k : Φ (.lst us)) : t.fin Φ := by subst h; exact k
theorem fin_tup (h : t = .tup us) (k : Φ (.tup us)) : t.fin Φ := by subst h; exact k
theorem ex_int {p : Int → Prop} (h : t.dat = .int n) (k : p n) : ∃ i, t.dat = .int i ∧ p i := ⟨n, h, k⟩
theorem ex_bl {p : Bool → Prop} {b : Bool} (h : t.dat = .bl b) (k : p b) : ∃ i, t.dat = .bl i ∧ p i := ⟨b, h, k⟩
theorem ite_dec {p : Prop} [dp : Decidable p] {A B : Prop} (h1 : p → A) (h2 : ¬p → B) : if decide p = true then A else B := by
  by_cases h : p
  · rw [if_pos (decide_eq_true h)]; exact h1 h
  · rw [if_neg (by simp [h])]; exact h2 h
theorem ite_ndec {p : Prop} [dp : Decidable p] {A B : Prop} (h1 : ¬p → A) (h2 : p → B) : if (!decide p) = true then A else B := by
  by_cases h : p
  · rw [if_neg (by simp [h])]; exact h2 h
  · rw [if_pos (by simp [h])]; exact h1 h
theorem ite_t {A B : Prop} (h : A) : if true = true then A else B := by rw [if_pos rfl]; exact h
theorem ite_f {A B : Prop} (h : B) : if false = true then A else B := by rw [if_neg (by decide)]; exact h
theorem ite_b {b : Bool} {A B : Prop} (h1 : b = true → A) (h2 : b = false → B) : if b = true then A else B := by
  cases b with
  | true => exact ite_t (h1 rfl)
  | false => exact ite_f (h2 rfl)
theorem fit_int (n : Int) : (D.int n).Fit := ⟨rfl, by simp [D.dep]⟩
theorem c_eq {d1 d2 : D} (h1 : d1 = .int n) (h2 : d2 = .int m) (k : Ψ (decide (n = m))) : cmpD .eq d1 d2 Ψ := by
  subst h1 h2
  simp only [cmpD, eqD_int]; exact .inr ⟨fit_int _, fit_int _, k⟩
theorem c_ne {d1 d2 : D} (h1 : d1 = .int n) (h2 : d2 = .int m) (k : Ψ (!decide (n = m))) : cmpD .ne d1 d2 Ψ := by
  subst h1 h2
  simp only [cmpD, eqD_int]; exact .inr ⟨fit_int _, fit_int _, k⟩
theorem c_eqs {d1 d2 : D} {s1 s2 : Str} (h1 : d1 = .str s1) (h2 : d2 = .str s2) (k : Ψ (decide (s1 = s2))) : cmpD .eq d1 d2 Ψ := by
  subst h1 h2
  exact .inl ⟨_, _, rfl, rfl, k⟩
theorem c_eqd {d1 d2 : D} (h1 : d1.Fit) (h2 : d2.Fit) (k : Ψ (eqD d1 d2)) : cmpD .eq d1 d2 Ψ := .inr ⟨h1, h2, k⟩
theorem c_ned {d1 d2 : D} (h1 : d1.Fit) (h2 : d2.Fit) (k : Ψ (!eqD d1 d2)) : cmpD .ne d1 d2 Ψ := .inr ⟨h1, h2, k⟩
theorem c_lt {d1 d2 : D} (h1 : d1 = .int n) (h2 : d2 = .int m) (k : Ψ (decide (n < m))) : cmpD .lt d1 d2 Ψ := by
  subst h1 h2
  simp only [cmpD]; exact k
theorem c_le {d1 d2 : D} (h1 : d1 = .int n) (h2 : d2 = .int m) (k : Ψ (decide (n ≤ m))) : cmpD .le d1 d2 Ψ := by
  subst h1 h2
  simp only [cmpD]; exact k
theorem c_gt {d1 d2 : D} (h1 : d1 = .int n) (h2 : d2 = .int m) (k : Ψ (decide (m < n))) : cmpD .gt d1 d2 Ψ := by
  subst h1 h2
  simp only [cmpD]; exact k
theorem c_ge {d1 d2 : D} (h1 : d1 = .int n) (h2 : d2 = .int m) (k : Ψ (decide (m ≤ n))) : cmpD .ge d1 d2 Ψ := by
  subst h1 h2
  simp only [cmpD]; exact k
theorem b_add (h1 : t.dat = .int n) (h2 : u.dat = .int m) (k : Φ (.leaf (.int (n + m)))) : binT .add t u Φ := by simp only [binT, h1, h2, binD]; exact k
theorem b_sub (h1 : t.dat = .int n) (h2 : u.dat = .int m) (k : Φ (.leaf (.int (n - m)))) : binT .sub t u Φ := by simp only [binT, h1, h2, binD]; exact k
theorem b_mul (h1 : t.dat = .int n) (h2 : u.dat = .int m) (h : MulOk n m) (k : Φ (.leaf (.int (n * m)))) : binT .mul t u Φ := by simp only [binT, h1, h2, binD]; exact ⟨h, k⟩
theorem b_mod (h1 : t.dat = .int n) (h2 : u.dat = .int m) (h : 0 < m) (k : Φ (.leaf (.int (n % m)))) : binT .mod t u Φ := by simp only [binT, h1, h2, binD]; exact ⟨h, k⟩
theorem small_log {j : Int} (h : 0 < j ∧ j < 10 ^ 100) : 0 < j ∧ j.natAbs.log2 < 9000 := by
  refine ⟨h.1, ?_⟩
  have : j.natAbs < 2 ^ 400 := by
    have h2 : (10 : Int) ^ 100 < 2 ^ 400 := by decide +kernel
    have h3 : j < 2 ^ 400 := Int.lt_trans h.2 h2
    omega
  by_cases z : j.natAbs = 0
  · rw [z]; decide
  · exact Nat.lt_of_lt_of_le ((Nat.log2_lt z).mpr this) (by decide)
theorem b_fdiv (h1 : t.dat = .int n) (h2 : u.dat = .int m) (h : 0 < m ∧ m < 10 ^ 100) (k : Φ (.leaf (.int (n / m)))) : binT .fdiv t u Φ := by simp only [binT, h1, h2, binD]; exact ⟨small_log h, k⟩
theorem b_pow (h1 : t.dat = .int n) (h2 : u.dat = .int m) (h : 0 ≤ m ∧ m ≤ 1000000 ∧ n.natAbs < 2 ^ 64) (k : Φ (.leaf (.int (n ^ m.toNat)))) : binT .pow t u Φ := by simp only [binT, h1, h2, binD]; exact ⟨h, k⟩
theorem mulL (h : -(2 ^ 64) < n ∧ n < 2 ^ 64) : MulOk n m := .inl h
theorem mulR (h : -(2 ^ 64) < m ∧ m < 2 ^ 64) : MulOk n m := .inr (.inl h)
theorem ix_lst {v : T} {d1 : D} (h1 : v = .lst us) (h2 : d1 = .int n) (h : atI us n = some t) (k : Φ t) : ixT v d1 Φ := by subst h1 h2; exact ⟨t, h, k⟩
theorem ix_tup {v : T} {d1 : D} (h1 : v = .tup us) (h2 : d1 = .int n) (h : atI us n = some t) (k : Φ t) : ixT v d1 Φ := by subst h1 h2; exact ⟨t, h, k⟩
theorem ix_ll {v : T} {d1 : D} (h1 : v = .leaf (.lst ds)) (h2 : d1 = .int n) (h : atI ds n = some d) (k : Φ (.leaf d)) : ixT v d1 Φ := by subst h1 h2; exact ⟨d, h, k⟩
theorem ix_lt {v : T} {d1 : D} (h1 : v = .leaf (.tup ds)) (h2 : d1 = .int n) (h : atI ds n = some d) (k : Φ (.leaf d)) : ixT v d1 Φ := by subst h1 h2; exact ⟨d, h, k⟩
theorem ix_vl {v : T} {d1 : D} (h1 : v = .vw (.lst ds)) (h2 : d1 = .int n) (h : atI ds n = some d) (k : Φ d.vwOf) : ixT v d1 Φ := by subst h1 h2; exact ⟨d, h, k⟩
theorem ix_vt {v : T} {d1 : D} (h1 : v = .vw (.tup ds)) (h2 : d1 = .int n) (h : atI ds n = some d) (k : Φ d.vwOf) : ixT v d1 Φ := by subst h1 h2; exact ⟨d, h, k⟩
theorem ix_vli {v : T} {d1 : D} (h1 : v = .vw (.lst ds)) (h2 : d1 = .int n) (h : atI ds n = some (.int m)) (k : Φ (.leaf (.int m))) : ixT v d1 Φ := ix_vl h1 h2 h k
theorem ix_vti {v : T} {d1 : D} (h1 : v = .vw (.tup ds)) (h2 : d1 = .int n) (h : atI ds n = some (.int m)) (k : Φ (.leaf (.int m))) : ixT v d1 Φ := ix_vt h1 h2 h k
theorem ix_vls {s : Str} {v : T} {d1 : D} (h1 : v = .vw (.lst ds)) (h2 : d1 = .int n) (h : atI ds n = some (.str s)) (k : Φ (.leaf (.str s))) : ixT v d1 Φ := ix_vl h1 h2 h k
theorem ix_vts {s : Str} {v : T} {d1 : D} (h1 : v = .vw (.tup ds)) (h2 : d1 = .int n) (h : atI ds n = some (.str s)) (k : Φ (.leaf (.str s))) : ixT v d1 Φ := ix_vt h1 h2 h k
theorem ix_vll {ds' : List D} {v : T} {d1 : D} (h1 : v = .vw (.lst ds)) (h2 : d1 = .int n) (h : atI ds n = some (.lst ds')) (k : Φ (.vw (.lst ds'))) : ixT v d1 Φ := ix_vl h1 h2 h k
theorem ix_vtl {ds' : List D} {v : T} {d1 : D} (h1 : v = .vw (.tup ds)) (h2 : d1 = .int n) (h : atI ds n = some (.lst ds')) (k : Φ (.vw (.lst ds'))) : ixT v d1 Φ := ix_vt h1 h2 h k
theorem ix_vlt {ds' : List D} {v : T} {d1 : D} (h1 : v = .vw (.lst ds)) (h2 : d1 = .int n) (h : atI ds n = some (.tup ds')) (k : Φ (.vw (.tup ds'))) : ixT v d1 Φ := ix_vl h1 h2 h k
theorem ix_vtt {ds' : List D} {v : T} {d1 : D} (h1 : v = .vw (.tup ds)) (h2 : d1 = .int n) (h : atI ds n = some (.tup ds')) (k : Φ (.vw (.tup ds'))) : ixT v d1 Φ := ix_vt h1 h2 h k
theorem a_add {d1 d2 : D} {Ψ : D → Prop} (h1 : d1 = .int n) (h2 : d2 = .int m) (k : Ψ (.int (n + m))) : augD .add d1 d2 Ψ := by subst h1 h2; exact k
theorem a_sub {d1 d2 : D} {Ψ : D → Prop} (h1 : d1 = .int n) (h2 : d2 = .int m) (k : Ψ (.int (n - m))) : augD .sub d1 d2 Ψ := by subst h1 h2; exact k
theorem bind_nm {p : Env → Prop} (h : Nat.blt i ρ.length = true) (k : p (ρ.put i (some u))) : ∃ ρ', bindG (.nm i) u ρ = some ρ' ∧ p ρ' := ⟨_, by simp only [bindG]; exact if_pos (Nat.le_of_ble_eq_true h), k⟩
theorem bind_to {p : Env → Prop} (h : bindG g u ρ = some ρ') (k : p ρ') : ∃ ρ', bindG g u ρ = some ρ' ∧ p ρ' := ⟨_, h, k⟩
theorem set_at {p : Int → Nat → Prop} (h : t.dat = .int n) (h2 : ixN i n = some j) (k : p n j) : ∃ n j, t.dat = .int n ∧ ixN i n = some j ∧ p n j := ⟨_, _, h, h2, k⟩
theorem set_to {p : Nat → Prop} (h : t.dat = .int n) (h2 : ixN i n = some j) (k : p j) : ∃ n j, t.dat = .int n ∧ ixN i n = some j ∧ p j := ⟨_, _, h, h2, k⟩
theorem aug_to {p : Nat → D → Prop} (h : t.dat = .int n) (h2 : ixN i n = some j) (h3 : us[j]? = some (.leaf d)) (k : p j d) : ∃ n j d, t.dat = .int n ∧ ixN i n = some j ∧ us[j]? = some (.leaf d) ∧ p j d := ⟨_, _, _, h, h2, h3, k⟩
theorem l_len (h : t.dat = .lst ds) (k : Φ (.leaf (.int ds.length))) : bltT .len [t] Φ := by simp only [bltT, T.dats, h, bltD]; exact k
theorem l_lent (h : t.dat = .tup ds) (k : Φ (.leaf (.int ds.length))) : bltT .len [t] Φ := by simp only [bltT, T.dats, h, bltD]; exact k
theorem l_abs (h : t.dat = .int n) (k : Φ (.leaf (.int (if n < 0 then -n else n)))) : bltT .abs [t] Φ := by simp only [bltT, T.dats, h, bltD]; exact k
theorem l_max2 (h : t.dat = .int n) (h2 : u.dat = .int m) (k : Φ (.leaf (.int (if m > n then m else n)))) : bltT .max [t, u] Φ := by simp only [bltT, T.dats, h, h2, bltD]; exact k
theorem l_min2 (h : t.dat = .int n) (h2 : u.dat = .int m) (k : Φ (.leaf (.int (if m < n then m else n)))) : bltT .min [t, u] Φ := by simp only [bltT, T.dats, h, h2, bltD]; exact k
theorem l_repr (h : t.dat = d) (h2 : d.Shw) (k : Φ (.leaf (.str (shown d)))) : bltT .repr [t] Φ := by simp only [bltT, T.dats, h, bltD]; exact ⟨h2, k⟩
theorem l_list (h : t.its = some us ∨ t.prt = some us) (k : Φ (.lst us)) : bltT .list [t] Φ := ⟨us, h, k⟩
theorem l_tuple (h : t.its = some us ∨ t.prt = some us) (k : Φ (T.mk us)) : bltT .tuple [t] Φ := ⟨us, h, k⟩
theorem fz_nil {z : Bool} {Ψ : List D → Prop} (k : Ψ []) : frozs z [] Ψ := k
theorem fz_cons {z : Bool} {Ψ : List D → Prop} (k : t.froz z fun d => frozs z us fun ds => Ψ (d :: ds)) : frozs z (t :: us) Ψ := k
theorem fz_leaf {z : Bool} {Ψ : D → Prop} (h : t = .leaf d) (k : Ψ d) : t.froz z Ψ := by subst h; exact k
theorem fz_vw {z : Bool} {Ψ : D → Prop} (h0 : t = .vw d) (h : d.flat = true) (k : Ψ d) : t.froz z Ψ := by subst h0; exact ⟨h, k⟩
theorem fz_lst {z : Bool} {Ψ : D → Prop} (h0 : t = .lst us) (h : z = true) (k : Ψ (T.lst us).dat) : t.froz z Ψ := by subst h0; exact ⟨h, k⟩
theorem fz_tup {z : Bool} {Ψ : D → Prop} (h0 : t = .tup us) (h : z = true) (k : Ψ (T.tup us).dat) : t.froz z Ψ := by subst h0; exact ⟨h, k⟩
end
end DL
namespace DL
open PySem PySem.Spec PyProof.Rows L2

/-! ### the bag's two defs -/
def takeP2 : B := .ite (.cmp .gt (.ix (.ow 0) (.int 0)) (.int 0))
    (.asg (.nm 3) (.bin .mod (.ix (.ow 0) (.int 0)) (.nm 1))
    (.setix 0 (.int 0) (.bin .fdiv (.ix (.ow 0) (.int 0)) (.nm 1))
    (.ret (.nm 3) .nil))) .nil
  (.asg (.nm 4) (.bin .mod (.bin .mul (.bin .add (.ix (.ow 0) (.int 1)) (.int 1)) (.int 39373)) (.int 1000000007))
  (.asg (.nm 5) (.bin .mod (.bin .mul (.bin .mod (.bin .mul (.nm 4) (.nm 4)) (.int 998244353)) (.int 30011)) (.int 998244353))
  (.ite (.cmp .gt (.nm 1) (.int 1000000)) (.ret (.bin .mod (.bin .add (.bin .mul (.nm 5) (.int 1000000007)) (.nm 4)) (.nm 1)) .nil) .nil
  (.ret (.bin .mod (.bin .fdiv (.nm 5) (.int 7)) (.nm 1)) .nil))))
def takeP1 : B := .augix .add 0 (.int 2) (.int 1)
    (.ite (.cmp .ge (.nm 2) (.int 1000000000000000000)) (.setix 0 (.int 0) (.nm 2) .nil) .nil
    (.setix 0 (.int 1) (.bin .mod (.bin .add (.bin .add (.bin .mul (.ix (.ow 0) (.int 1)) (.int 48271)) (.bin .mod (.nm 2) (.int 2147483647))) (.bin .mul (.int 7919) (.ix (.ow 0) (.int 2)))) (.int 2147483647)) .nil))
abbrev takeB : B :=
  .ite (.cmp .eq (.ix (.ow 0) (.int 0)) (.int 0))
    (.asg (.nm 2) (.int 0)
    (.ite (.cmp .lt (.ix (.ow 0) (.int 2)) (.blt .len (.cons (.ix (.ow 0) (.int 3)) .nil)))
      (.asg (.nm 2) (.ix (.ix (.ow 0) (.int 3)) (.ix (.ow 0) (.int 2))) .nil) .nil takeP1)) .nil takeP2
def lf (n : Int) : T := .leaf (.int n)
def bagT (x y z : Int) (ns : List Int) : T := .lst [.leaf (.int x), .leaf (.int y), .leaf (.int z), .leaf (.lst (ns.map .int))]
def BagN (x y z : Int) (ns : List Int) : Prop := 0 ≤ x ∧ 0 ≤ y ∧ y < 2147483647 ∧ 0 ≤ z ∧ ∀ n ∈ ns, 0 ≤ n
theorem atI_ints {ns : List Int} {z : Int} (h0 : 0 ≤ z) (h : z < (ns.map D.int).length) : ∃ n, n ∈ ns ∧ atI (ns.map D.int) z = some (.int n) := by
  rw [List.length_map] at h
  refine ⟨ns[z.toNat]'(by omega), List.getElem_mem _, ?_⟩
  unfold L2.atI L2.ixN
  rw [if_pos h0, List.length_map, if_pos h]
  simp only [Option.bind_some, List.getElem?_map]
  rw [List.getElem?_eq_getElem (by omega)]
  rfl
theorem takeW {x y z m : Int} {ns : List Int} {S : Sg} (b : BagN x y z ns) (hm : 0 < m) (hm2 : m < 10 ^ 100) {K : EnD}
    (k : ∀ (v x' y' z' : Int) (ρ : Env), 0 ≤ v → v < m → BagN x' y' z' ns → ρ.at 0 = some (bagT x' y' z' ns) → K.rt (.leaf (.int v)) ρ) :
    wb S takeB [some (bagT x y z ns), some (.leaf (.int m)), none, none, none, none] K := by
  have part2 : ∀ (x y z : Int) (c : Option T), BagN x y z ns → wb S takeP2 [some (bagT x y z ns), some (.leaf (.int m)), c, none, none, none] K := fun x y z c b => by
    unfold takeP2
    repeat' first | ((with_reducible apply w_nm); exact rfl) | with_reducible refine w_int ?_ | ((with_reducible apply w_ow); exact rfl) | with_reducible refine w_ix ?_ | with_reducible refine w_bin ?_ | with_reducible refine w_cmp ?_ | ((with_reducible apply w_call); exact rfl) | with_reducible refine w_blt ?_ | ((with_reducible apply w_gl); exact rfl) | with_reducible refine w_str ?_ | with_reducible refine w_bl ?_ | with_reducible refine w_non ?_ | with_reducible refine w_neg ?_ | with_reducible refine w_tup ?_ | with_reducible refine w_lst ?_ | with_reducible refine w_not ?_ | with_reducible refine w_and ?_ | with_reducible refine w_or ?_ | with_reducible refine w_one ?_ | with_reducible refine w_ife ?_ | with_reducible refine w_sl ?_ | with_reducible refine w_chn ?_ | ((with_reducible apply w_lc); exact rfl) | with_reducible refine wa_cons ?_ | with_reducible refine wa_nil ?_ | with_reducible refine wv_cons ?_ | with_reducible refine wv_nil ?_ | with_reducible refine wo_nop ?_ | with_reducible refine wo_prt ?_ | with_reducible refine wt_cmp ?_ | with_reducible refine wt_not ?_ | with_reducible refine wt_and ?_ | with_reducible refine wt_or ?_ | with_reducible refine wt_one ?_ | with_reducible refine wt_chn ?_ | with_reducible refine wt_val ?_ | with_reducible refine wc_nop ?_ | with_reducible refine wc_one ?_ | with_reducible refine wi_sq ?_ | with_reducible refine wi_rng ?_ | with_reducible refine wi_zip ?_ | with_reducible refine wi_enm ?_ | with_reducible refine wb_asg ?_ | with_reducible refine wb_ite ?_ | with_reducible refine wb_ret ?_ | with_reducible refine wb_nil ?_ | with_reducible refine wb_for ?_ | ((with_reducible apply wb_asgLc); exact rfl; exact rfl) | ((with_reducible apply wb_setix); exact rfl) | ((with_reducible apply wb_augix); exact rfl) | ((with_reducible apply wb_aug); exact rfl; exact rfl) | with_reducible refine wb_ex ?_ | with_reducible refine wb_retN ?_ | with_reducible refine wb_pass ?_ | with_reducible refine wb_brk ?_ | with_reducible refine wb_cont ?_ | ((with_reducible apply wb_fz); exact rfl; exact rfl) | ((with_reducible apply fin_leaf); exact rfl) | ((with_reducible apply fin_lst); exact rfl) | ((with_reducible apply fin_tup); exact rfl) | ((with_reducible apply bind_nm); exact rfl) | ((with_reducible apply c_eq); exact rfl; exact rfl) | ((with_reducible apply c_ne); exact rfl; exact rfl) | ((with_reducible apply c_lt); exact rfl; exact rfl) | ((with_reducible apply c_le); exact rfl; exact rfl) | ((with_reducible apply c_gt); exact rfl; exact rfl) | ((with_reducible apply c_ge); exact rfl; exact rfl) | ((with_reducible apply b_add); exact rfl; exact rfl) | ((with_reducible apply b_sub); exact rfl; exact rfl) | ((with_reducible apply wb_par2); decide; exact rfl; exact rfl) | ((with_reducible apply wb_app); exact rfl; (simp; done)) | ((with_reducible apply wb_app); exact rfl) | ((with_reducible apply b_mul); exact rfl; exact rfl; exact mulR ⟨by decide, by decide⟩) | ((with_reducible apply b_mul); exact rfl; exact rfl; exact mulL ⟨by decide, by decide⟩) | ((with_reducible apply b_mul); exact rfl; exact rfl; exact mulL ⟨by omega, by omega⟩) | ((with_reducible apply b_mul); exact rfl; exact rfl; exact mulR ⟨by omega, by omega⟩) | ((with_reducible apply b_mul); exact rfl; exact rfl) | ((with_reducible apply b_mod); exact rfl; exact rfl; (first | decide | assumption | omega)) | ((with_reducible apply b_mod); exact rfl; exact rfl) | ((with_reducible apply b_fdiv); exact rfl; exact rfl; exact ⟨by decide, by decide⟩) | ((with_reducible apply b_fdiv); exact rfl; exact rfl; exact ⟨by assumption, by assumption⟩) | ((with_reducible apply b_fdiv); exact rfl; exact rfl) | ((with_reducible apply ix_vli); exact rfl; exact rfl; exact rfl) | ((with_reducible apply ix_vll); exact rfl; exact rfl; exact rfl) | ((with_reducible apply ix_lst); exact rfl; exact rfl; exact rfl) | ((with_reducible apply ix_ll); exact rfl; exact rfl; exact rfl) | ((with_reducible apply ix_lt); exact rfl; exact rfl; exact rfl) | ((with_reducible apply ix_tup); exact rfl; exact rfl; exact rfl) | ((with_reducible apply ix_vti); exact rfl; exact rfl; exact rfl) | ((with_reducible apply ix_vlt); exact rfl; exact rfl; exact rfl) | ((with_reducible apply ix_vtl); exact rfl; exact rfl; exact rfl) | ((with_reducible apply ix_vls); exact rfl; exact rfl; exact rfl) | ((with_reducible apply a_add); exact rfl; exact rfl) | ((with_reducible apply a_sub); exact rfl; exact rfl) | ((with_reducible apply l_len); exact rfl) | ((with_reducible apply l_lent); exact rfl) | ((with_reducible apply l_abs); exact rfl) | ((with_reducible apply l_max2); exact rfl; exact rfl) | ((with_reducible apply l_min2); exact rfl; exact rfl) | with_reducible refine fz_nil ?_ | with_reducible refine fz_cons ?_ | ((with_reducible apply fz_leaf); exact rfl) | ((with_reducible apply fz_lst); exact rfl; exact rfl) | ((with_reducible apply fz_tup); exact rfl; exact rfl) | ((with_reducible apply fz_vw); exact rfl; exact rfl) | ((with_reducible apply ex_int); exact rfl) | ((with_reducible apply ex_bl); exact rfl) | ((with_reducible apply set_to); exact rfl; exact rfl) | ((with_reducible apply aug_to); exact rfl; exact rfl; exact rfl) | with_reducible refine ite_dec (fun _ => ?_) (fun _ => ?_) | with_reducible refine ite_ndec (fun _ => ?_) (fun _ => ?_) | with_reducible refine ite_t ?_ | with_reducible refine ite_f ?_
    · exact k _ (x / m) y z _ (Int.emod_nonneg _ (by omega)) (Int.emod_lt_of_pos _ hm) ⟨Int.ediv_nonneg b.1 (by omega), b.2⟩ rfl
    · exact k _ x y z _ (Int.emod_nonneg _ (by omega)) (Int.emod_lt_of_pos _ hm) b rfl
    · exact k _ x y z _ (Int.emod_nonneg _ (by omega)) (Int.emod_lt_of_pos _ hm) b rfl
  have part1 : ∀ (c : Int), x = 0 → 0 ≤ c → wb S takeP1 [some (bagT x y z ns), some (.leaf (.int m)), some (.leaf (.int c)), none, none, none] { K with nx := fun ρ' => wb S takeP2 ρ' K } := fun c ex hc => by
    unfold takeP1
    have hz := b.2.2.2.1
    have l := b.2.2.2.2
    repeat' first | ((with_reducible apply w_nm); exact rfl) | with_reducible refine w_int ?_ | ((with_reducible apply w_ow); exact rfl) | with_reducible refine w_ix ?_ | with_reducible refine w_bin ?_ | with_reducible refine w_cmp ?_ | ((with_reducible apply w_call); exact rfl) | with_reducible refine w_blt ?_ | ((with_reducible apply w_gl); exact rfl) | with_reducible refine w_str ?_ | with_reducible refine w_bl ?_ | with_reducible refine w_non ?_ | with_reducible refine w_neg ?_ | with_reducible refine w_tup ?_ | with_reducible refine w_lst ?_ | with_reducible refine w_not ?_ | with_reducible refine w_and ?_ | with_reducible refine w_or ?_ | with_reducible refine w_one ?_ | with_reducible refine w_ife ?_ | with_reducible refine w_sl ?_ | with_reducible refine w_chn ?_ | ((with_reducible apply w_lc); exact rfl) | with_reducible refine wa_cons ?_ | with_reducible refine wa_nil ?_ | with_reducible refine wv_cons ?_ | with_reducible refine wv_nil ?_ | with_reducible refine wo_nop ?_ | with_reducible refine wo_prt ?_ | with_reducible refine wt_cmp ?_ | with_reducible refine wt_not ?_ | with_reducible refine wt_and ?_ | with_reducible refine wt_or ?_ | with_reducible refine wt_one ?_ | with_reducible refine wt_chn ?_ | with_reducible refine wt_val ?_ | with_reducible refine wc_nop ?_ | with_reducible refine wc_one ?_ | with_reducible refine wi_sq ?_ | with_reducible refine wi_rng ?_ | with_reducible refine wi_zip ?_ | with_reducible refine wi_enm ?_ | with_reducible refine wb_asg ?_ | with_reducible refine wb_ite ?_ | with_reducible refine wb_ret ?_ | with_reducible refine wb_nil ?_ | with_reducible refine wb_for ?_ | ((with_reducible apply wb_asgLc); exact rfl; exact rfl) | ((with_reducible apply wb_setix); exact rfl) | ((with_reducible apply wb_augix); exact rfl) | ((with_reducible apply wb_aug); exact rfl; exact rfl) | with_reducible refine wb_ex ?_ | with_reducible refine wb_retN ?_ | with_reducible refine wb_pass ?_ | with_reducible refine wb_brk ?_ | with_reducible refine wb_cont ?_ | ((with_reducible apply wb_fz); exact rfl; exact rfl) | ((with_reducible apply fin_leaf); exact rfl) | ((with_reducible apply fin_lst); exact rfl) | ((with_reducible apply fin_tup); exact rfl) | ((with_reducible apply bind_nm); exact rfl) | ((with_reducible apply c_eq); exact rfl; exact rfl) | ((with_reducible apply c_ne); exact rfl; exact rfl) | ((with_reducible apply c_lt); exact rfl; exact rfl) | ((with_reducible apply c_le); exact rfl; exact rfl) | ((with_reducible apply c_gt); exact rfl; exact rfl) | ((with_reducible apply c_ge); exact rfl; exact rfl) | ((with_reducible apply b_add); exact rfl; exact rfl) | ((with_reducible apply b_sub); exact rfl; exact rfl) | ((with_reducible apply wb_par2); decide; exact rfl; exact rfl) | ((with_reducible apply wb_app); exact rfl; (simp; done)) | ((with_reducible apply wb_app); exact rfl) | ((with_reducible apply b_mul); exact rfl; exact rfl; exact mulR ⟨by decide, by decide⟩) | ((with_reducible apply b_mul); exact rfl; exact rfl; exact mulL ⟨by decide, by decide⟩) | ((with_reducible apply b_mul); exact rfl; exact rfl; exact mulL ⟨by omega, by omega⟩) | ((with_reducible apply b_mul); exact rfl; exact rfl; exact mulR ⟨by omega, by omega⟩) | ((with_reducible apply b_mul); exact rfl; exact rfl) | ((with_reducible apply b_mod); exact rfl; exact rfl; (first | decide | assumption | omega)) | ((with_reducible apply b_mod); exact rfl; exact rfl) | ((with_reducible apply b_fdiv); exact rfl; exact rfl; exact ⟨by decide, by decide⟩) | ((with_reducible apply b_fdiv); exact rfl; exact rfl; exact ⟨by assumption, by assumption⟩) | ((with_reducible apply b_fdiv); exact rfl; exact rfl) | ((with_reducible apply ix_vli); exact rfl; exact rfl; exact rfl) | ((with_reducible apply ix_vll); exact rfl; exact rfl; exact rfl) | ((with_reducible apply ix_lst); exact rfl; exact rfl; exact rfl) | ((with_reducible apply ix_ll); exact rfl; exact rfl; exact rfl) | ((with_reducible apply ix_lt); exact rfl; exact rfl; exact rfl) | ((with_reducible apply ix_tup); exact rfl; exact rfl; exact rfl) | ((with_reducible apply ix_vti); exact rfl; exact rfl; exact rfl) | ((with_reducible apply ix_vlt); exact rfl; exact rfl; exact rfl) | ((with_reducible apply ix_vtl); exact rfl; exact rfl; exact rfl) | ((with_reducible apply ix_vls); exact rfl; exact rfl; exact rfl) | ((with_reducible apply a_add); exact rfl; exact rfl) | ((with_reducible apply a_sub); exact rfl; exact rfl) | ((with_reducible apply l_len); exact rfl) | ((with_reducible apply l_lent); exact rfl) | ((with_reducible apply l_abs); exact rfl) | ((with_reducible apply l_max2); exact rfl; exact rfl) | ((with_reducible apply l_min2); exact rfl; exact rfl) | with_reducible refine fz_nil ?_ | with_reducible refine fz_cons ?_ | ((with_reducible apply fz_leaf); exact rfl) | ((with_reducible apply fz_lst); exact rfl; exact rfl) | ((with_reducible apply fz_tup); exact rfl; exact rfl) | ((with_reducible apply fz_vw); exact rfl; exact rfl) | ((with_reducible apply ex_int); exact rfl) | ((with_reducible apply ex_bl); exact rfl) | ((with_reducible apply set_to); exact rfl; exact rfl) | ((with_reducible apply aug_to); exact rfl; exact rfl; exact rfl) | with_reducible refine ite_dec (fun _ => ?_) (fun _ => ?_) | with_reducible refine ite_ndec (fun _ => ?_) (fun _ => ?_) | with_reducible refine ite_t ?_ | with_reducible refine ite_f ?_
    · refine part2 c _ _ _ ⟨hc, ?_, ?_, by omega, l⟩
      · exact Int.emod_nonneg _ (by decide)
      · exact Int.emod_lt_of_pos _ (by decide)
    · refine part2 x _ _ _ ⟨b.1, ?_, ?_, by omega, l⟩
      · exact Int.emod_nonneg _ (by decide)
      · exact Int.emod_lt_of_pos _ (by decide)
  refine wb_ite ?_
  refine wt_cmp (w_ix (w_ow rfl (w_int (ix_vli rfl rfl rfl (w_int (c_eq rfl rfl (ite_dec (fun h => ?_) fun h => ?_)))))))
  · refine wb_asg (w_int (fin_leaf rfl (bind_nm rfl (wb_ite (wt_cmp (w_ix (w_ow rfl (w_int (ix_vli rfl rfl rfl (w_blt (wv_cons (w_ix (w_ow rfl (w_int (ix_vll rfl rfl rfl (wv_nil (l_len rfl (c_lt rfl rfl (ite_dec (fun h2 => ?_) fun h2 => ?_)))))))))))))))))))
    · obtain ⟨n, hn, hi⟩ := atI_ints b.2.2.2.1 h2
      refine wb_asg (w_ix (w_ix (w_ow rfl (w_int (ix_vll rfl rfl rfl (w_ix (w_ow rfl (w_int (ix_vli rfl rfl rfl (ix_vli rfl rfl hi (fin_leaf rfl (bind_nm rfl (wb_nil ?_)))))))))))))
      exact part1 n h (b.2.2.2.2 n hn)
    · refine wb_nil ?_
      exact part1 0 h (Int.le_refl 0)
  · refine wb_nil ?_
    exact part2 x y z none b
end DL
namespace DL
open PySem PySem.Spec PyProof.Rows L2

/-! ### statements that leave the first slot's place alone -/
def Pn (b : Addr) (σ : L2.St) : Prop := σ[0]? = some (some (.ref b))
def Mtp (b : Addr) (a : An0) (K : EnD) (D : Ends) : Prop :=
  (∀ ρ σ H, K.nx ρ → SOk a ρ σ [] [] H → Pn b σ → D.nx σ H) ∧ ∀ t v ρ σ H, K.rt t ρ → SOk a ρ σ [t] [v] H → Pn b σ → D.rt v H
def DSp (b : Addr) (a : An0) (X : Cx) (ρ : Env) (st : Stmt) (K : EnD) : Prop := ∀ σ H D, SOk a ρ σ [] [] H → Pn b σ → Mtp b a K D → WS X st D σ H
def DBp (b : Addr) (a : An0) (X : Cx) (ρ : Env) (sts : List Stmt) (K : EnD) : Prop := ∀ σ H D, SOk a ρ σ [] [] H → Pn b σ → Mtp b a K D → WB X sts D σ H
def B.pin : DL.B → Bool
  | .nil => true
  | .asg (.nm i) _ r => i != 0 && r.pin
  | .setix _ _ _ r => r.pin
  | .augix _ _ _ _ r => r.pin
  | .ret _ _ => true
  | .ite _ x y r => x.pin && y.pin && r.pin
  | _ => false
section
variable {a : An0} {X : Cx} {ρ : Env} {σ : L2.St} {ts : List T} {vs : List V} {H F : Hp} {Sc Sm : List Addr} {Φ : T → Prop} {pos p : Pos} {e A B C tg it elt : Expr} {es : List Expr} {Ψ : List D → Prop} {z : Bool} {st : Stmt} {rest body : List Stmt} {K : EnD} {q : Addr}
theorem pn_wipe {i : Nat} {σ' : L2.St} (h0 : i ≠ 0) (pn : Pn q σ) (h : L2.wipe σ' [i] = L2.wipe σ [i]) : Pn q σ' := by
  have e : (L2.wipe σ' [i])[0]? = (L2.wipe σ [i])[0]? := by rw [h]
  have r : ∀ s : L2.St, (L2.wipe s [i])[0]? = s[0]? := fun s => by
    show (s.set i none)[0]? = s[0]?
    rw [List.getElem?_set_ne h0]
  rw [r, r] at e
  exact e.trans pn
theorem db_nilp (h : K.nx ρ) : DBp q a X ρ [] K := fun σ H D ok pn m => ⟨_, pss_nil, m.1 ρ σ H h ok pn⟩
theorem db_consp (h : DSp q a X ρ st { K with nx := fun ρ' => DBp q a X ρ' rest K }) : DBp q a X ρ (st :: rest) K := fun σ H D ok pn m => by
  refine ⟨_, pss_cons ps_W pb_W, ?_⟩
  show WS X st { D with nx := WB X rest D } σ H
  exact h σ H _ ok pn ⟨fun ρ' σ' H' hk ok' pn' => hk σ' H' D ok' pn' m, m.2⟩
theorem ds_asgp {c : Ct} {i : Nat} (h0 : i ≠ 0) (xo : XOk a X) (co : COk c X) (hg : okG c (.nm i) tg = true) (h1 : noComp e = true) (h2 : noPar2 c tg e = true) (h : DE a X ρ e fun t => t.fin fun u => ∃ ρ', bindG (.nm i) u ρ = some ρ' ∧ K.nx ρ') : DSp q a X ρ (.Assign [tg] e pos) K := fun σ H D ok pn m => by
  refine ⟨_, ps_asg pe_W pg_W (noswap h1) (nopar2 co h2) (asg_one hg), ?_⟩
  show WE X e σ H fun x H1 => WG X tg x σ H1 D.nx
  refine h σ H [] [] _ ok fun v t H1 h1 ok1 => SOk.fin ok1 h1 fun u ⟨ρ', hb, hk⟩ nu ok2 => ?_
  obtain ⟨F, Sc, Sm, w⟩ := ok2
  obtain ⟨S, h3, _⟩ := w.cut
  exact dg xo co hg (h3.nv nu) ⟨F, Sc, Sm, w⟩ hb fun σ' ok3 wp => m.1 ρ' σ' H1 hk ok3 (pn_wipe h0 pn (wp [i] fun j hj => hj))
theorem ds_retp (h : DE a X ρ e fun t => t.fin fun u => K.rt u ρ) : DSp q a X ρ (.Return (some e) pos) K := fun σ H D ok pn m => by
  refine ⟨_, ps_ret pe_W, ?_⟩
  show WE X e σ H D.rt
  exact h σ H [] [] _ ok fun v t H1 h1 ok1 => SOk.fin ok1 h1 fun u hk nu ok2 => m.2 u v ρ σ H1 hk ok2 pn
theorem ds_ifp {s1 s2 : List Stmt} (h : DT a X ρ A fun b => if b = true then DBp q a X ρ s1 K else DBp q a X ρ s2 K) : DSp q a X ρ (.If A s1 s2 pos) K := fun σ H D ok pn m => by
  refine ⟨_, ps_if pt_W pb_W pb_W, ?_⟩
  show WT X A σ H fun b H1 => if b = true then WB X s1 D σ H1 else WB X s2 D σ H1
  refine h σ H [] [] _ ok fun b H1 hb ok1 => ?_
  cases b with
  | true =>
    rw [if_pos rfl] at hb ⊢
    exact hb σ H1 D ok1 pn m
  | false =>
    rw [if_neg (by decide)] at hb ⊢
    exact hb σ H1 D ok1 pn m

/-! ### loops -/
theorem ds_setixp {i : Nat} {x : Str} {us : List T} {xp sp : Pos} (xo : XOk a X) (hW : a.W = []) (hN : X.N[i]? = some x) (hv : Vis X.env.scope x) (hd : (x == ("__debug__" : Str)) = false) (hc : (x == ("__classdict__" : Str)) = false)
    (h1 : noComp e = true) (hB : notSlice B = true) (hat : ρ.at i = some (.lst us)) (h : DE a X ρ e fun t => t.fin fun u => DE a X ρ B fun y => ∃ n j, y.dat = .int n ∧ ixN us.length n = some j ∧ K.nx (ρ.put i (some (.lst (us.set j u))))) :
    DSp q a X ρ (.Assign [.Subscript (.Name x xp) B sp] e pos) K := fun σ H D ok pn m => by
  refine ⟨_, ps_asg pe_W (pg_sub (pvar hN hv hd hc) pe_W set_list (ha := asg_sub hB)) (noswap1 h1) (by rfl) (by rfl), ?_⟩
  show WE X e σ H fun v H1 => tVar i σ H1 fun o H2 => WE X B σ H2 fun b H3 => rSetL o b v H3 fun H4 => D.nx σ H4
  refine h σ H [] [] _ ok fun y t H1 ht ok1 => SOk.fin ok1 ht fun u hu nu ok2 => ?_
  obtain ⟨F, Sc, Sm, w⟩ := ok2
  obtain ⟨v, S1, e1, h3, _⟩ := w.cells.get hat
  simp only [Ow] at h3
  obtain ⟨_, l, ws0, _, rfl, hl0, _⟩ := h3
  refine ⟨_, e1, ?_⟩
  refine hu σ H1 _ _ _ ⟨F, Sc, Sm, w⟩ fun b tb H3 ⟨n, j, hb, hj, hk⟩ ok3 => ?_
  have ib := ok3.top
  rw [hb] at ib
  obtain ⟨F2, Sc2, Sm2, w2⟩ := ok3.pop1
  obtain ⟨l', ws, e2, hl2, lw, so⟩ := w2.store (j := j) hW nu hat (ixN_seq hj).2.1
  rw [e1] at e2
  cases e2
  exact ⟨l, ws, n, j, rfl, ib.int, hl2, by rw [lw]; exact hj, m.1 _ σ _ hk so pn⟩
theorem ds_augixp {o : Aop} {i : Nat} {x : Str} {us : List T} {xp sp : Pos} (xo : XOk a X) (hW : a.W = []) (hN : X.N[i]? = some x) (hv : Vis X.env.scope x) (hd : (x == ("__debug__" : Str)) = false) (hc : (x == ("__classdict__" : Str)) = false)
    (hB : notSlice B = true) (hat : ρ.at i = some (.lst us)) (h : DE a X ρ B fun y => ∃ n j d, y.dat = .int n ∧ ixN us.length n = some j ∧ us[j]? = some (.leaf d) ∧ DE a X ρ e fun y2 => augD o d y2.dat fun r => K.nx (ρ.put i (some (.lst (us.set j (.leaf r)))))) :
    DSp q a X ρ (.AugAssign (.Subscript (.Name x xp) B sp) o.op e pos) K := fun σ H D ok pn m => by
  refine ⟨_, ps_augS (pvar hN hv hd hc) pe_W get_list pe_W (ip_rAug o) set_list (fun ov iv new => ?_), ?_⟩
  · cases B with
    | Slice l u st p =>
      cases st with
      | none => simp [notSlice] at hB
      | some _ => rfl
    | _ => rfl
  show tVar i σ H fun o1 H1 => WE X B σ H1 fun b H2 => rGetL X.K o1 b H2 fun x1 H3 => WE X e σ H3 fun y H4 => rAug o x1 y H4 fun z1 H5 => rSetL o1 b z1 H5 fun H6 => D.nx σ H6
  obtain ⟨F, Sc, Sm, w⟩ := ok
  obtain ⟨v, S1, e1, h3, _⟩ := w.cells.get hat
  simp only [Ow] at h3
  obtain ⟨_, l, ws0, _, rfl, hl0, _⟩ := h3
  refine ⟨_, e1, ?_⟩
  refine h σ H [] [] _ ⟨F, Sc, Sm, w⟩ fun b tb H2 ⟨n, j, d, hb, hj, hd', hy⟩ ok2 => ?_
  have ib := ok2.top
  rw [hb] at ib
  rw [ib.int]
  obtain ⟨F2, Sc2, Sm2, w2⟩ := ok2.pop1
  obtain ⟨v2, S2, e2, h4, _⟩ := w2.cells.get hat
  rw [e1] at e2
  cases e2
  simp only [Ow] at h4
  obtain ⟨_, l', ws2, S3, el, hl2, ho2, _⟩ := h4
  cases el
  obtain ⟨x1, S4, e4, h5, _⟩ := ho2.get hd'
  refine ⟨l, ws2, n, x1, rfl, rfl, .inl (.inl hl2), atI_of (by rw [ho2.length]; exact hj) e4, ?_⟩
  refine hy σ H2 [] [] _ ⟨F2, Sc2, Sm2, w2⟩ fun y2 ty2 H4 hy2 ok4 => ?_
  have i2 := ok4.top
  obtain ⟨F5, Sc5, Sm5, w5⟩ := ok4.pop1
  simp only [Ow] at h5
  -- the item stays as it was where it is flat; otherwise the operator says no
  have fl : d.flat = true := by
    cases o with
    | add =>
      generalize ty2.dat = dy at hy2
      match d, dy, hy2 with
      | .int _, .int _, _ => rfl
      | .str _, .str _, _ => rfl
    | sub =>
      generalize ty2.dat = dy at hy2
      match d, dy, hy2 with
      | .int _, .int _, _ => rfl
  refine aug_ok (h5.2.flat fl) i2 hy2 fun r z1 hr fr ir => ?_
  obtain ⟨l', ws, e6, hl6, lw, so⟩ := SW.store (j := j) (w5.leaf (ir.flat fr)) hW rfl hat (ixN_seq hj).2.1
  rw [e1] at e6
  cases e6
  exact ⟨l, ws, n, j, rfl, rfl, hl6, by rw [lw]; exact hj, m.1 _ σ _ hr so pn⟩
theorem DBp.mono_nx {s : List Stmt} {P P' : Env → Prop} (h : DBp q a X ρ s { K with nx := P }) (i : ∀ ρ', P ρ' → P' ρ') : DBp q a X ρ s { K with nx := P' } := fun σ H D ok pn m => h σ H D ok pn ⟨fun ρ' σ' H' hk => m.1 ρ' σ' H' (i ρ' hk), m.2⟩
theorem soundBp : ∀ (b : DL.B) {c : Cn} {S : Sg} {a : An0} {X : Cx} {ρ : Env} {K : EnD} {s : List Stmt}, b.pin = true → a.W = [] → Good c S a X → okB c b s = true → wb S b ρ K → DBp q a X ρ s K
  | .nil, c, S, a, X, ρ, K, s, pn, hW, g, k, h => by
    simp only [okB] at k
    simp only [wb] at h
    split at k
    · exact db_nilp h
    · cases k
  | .asg (.nm i) e r, c, S, a, X, ρ, K, s, pn, hW, g, k, h => by
    simp only [B.pin, Bool.and_eq_true] at pn
    simp only [okB] at k
    simp only [wb] at h
    split at k
    · simp only [Bool.and_eq_true] at k
      obtain ⟨⟨⟨⟨k1, k2⟩, k3⟩, k4⟩, k5⟩ := k
      exact db_consp (ds_asgp (by simpa using pn.1) g.xo g.co k1 k2 k3 ((soundE e g k4 h).mono fun t q => fin_mono (fun u q => q.elim fun ρ' q => ⟨ρ', q.1, soundBp r pn.2 hW g k5 q.2⟩) q))
    · cases k
  | .setix i x e r, c, S, a, X, ρ, K, s, pn, hW, g, k, h => by
    simp only [B.pin] at pn
    simp only [okB] at k
    simp only [wb] at h
    split at k
    · simp only [Bool.and_eq_true] at k
      obtain ⟨⟨⟨⟨⟨⟨⟨k1, k2⟩, k3⟩, k4⟩, k5⟩, k6⟩, k7⟩, k8⟩ := k
      obtain ⟨us, h1, h2⟩ := h
      obtain ⟨q1, q2, _⟩ := plain_of k3
      exact db_consp (ds_setixp g.xo hW (nameIs_of g.co k1) (Ct.vis_of g.co k2) q1 q2 k4 k5 h1 ((soundE e g k6 h2).mono fun t q => fin_mono (fun u q => (soundE x g k7 q).mono fun y q => q.elim fun n q => q.elim fun j q => ⟨n, j, q.1, q.2.1, soundBp r pn hW g k8 q.2.2⟩) q))
    · cases k
  | .augix o i x e r, c, S, a, X, ρ, K, s, pn, hW, g, k, h => by
    simp only [B.pin] at pn
    simp only [okB] at k
    simp only [wb] at h
    split at k
    · simp only [Bool.and_eq_true, decide_eq_true_eq] at k
      obtain ⟨⟨⟨⟨⟨⟨⟨k1, k2⟩, k3⟩, k4⟩, k5⟩, k6⟩, k7⟩, k8⟩ := k
      obtain ⟨us, h1, h2⟩ := h
      obtain ⟨q1, q2, _⟩ := plain_of k4
      rw [k1]
      exact db_consp (ds_augixp g.xo hW (nameIs_of g.co k2) (Ct.vis_of g.co k3) q1 q2 k5 h1 ((soundE x g k6 h2).mono fun y q => q.elim fun n q => q.elim fun j q => q.elim fun d q => ⟨n, j, d, q.1, q.2.1, q.2.2.1, (soundE e g k7 q.2.2.2).mono fun y2 q => augm (fun z q => soundBp r pn hW g k8 q) q⟩))
    · cases k
  | .ret e r, c, S, a, X, ρ, K, s, pn, hW, g, k, h => by
    simp only [okB] at k
    simp only [wb] at h
    split at k
    · exact db_consp (ds_retp (soundE e g k h))
    · cases k
  | .ite t x y r, c, S, a, X, ρ, K, s, pn, hW, g, k, h => by
    simp only [B.pin, Bool.and_eq_true] at pn
    simp only [okB] at k
    simp only [wb] at h
    split at k
    · simp only [Bool.and_eq_true] at k
      obtain ⟨⟨⟨k1, k2⟩, k3⟩, k4⟩ := k
      exact db_consp (ds_ifp ((soundT t g k1 h).mono fun b q => ite_mono (fun q => (soundBp x pn.1.1 hW g k2 q).mono_nx fun ρ' q => soundBp r pn.2 hW g k4 q) (fun q => (soundBp y pn.1.2 hW g k3 q).mono_nx fun ρ' q => soundBp r pn.2 hW g k4 q) q))
    · cases k
  | .asg .nil _ _, c, S, a, X, ρ, K, s, pn, hW, g, k, h
  | .asg (.cons _ _) _ _, c, S, a, X, ρ, K, s, pn, hW, g, k, h
  | .asgLc _ _ _ _ _ _ _, c, S, a, X, ρ, K, s, pn, hW, g, k, h
  | .par2 _ _ _ _ _, c, S, a, X, ρ, K, s, pn, hW, g, k, h
  | .par3 _ _ _ _ _ _ _, c, S, a, X, ρ, K, s, pn, hW, g, k, h
  | .fgt _ _, c, S, a, X, ρ, K, s, pn, hW, g, k, h
  | .unp2 _ _ _ _, c, S, a, X, ρ, K, s, pn, hW, g, k, h
  | .aug _ _ _ _, c, S, a, X, ρ, K, s, pn, hW, g, k, h
  | .app _ _ _, c, S, a, X, ρ, K, s, pn, hW, g, k, h
  | .augix2 _ _ _ _ _ _, c, S, a, X, ρ, K, s, pn, hW, g, k, h
  | .ext _ _ _, c, S, a, X, ρ, K, s, pn, hW, g, k, h
  | .ex _ _, c, S, a, X, ρ, K, s, pn, hW, g, k, h
  | .retN _, c, S, a, X, ρ, K, s, pn, hW, g, k, h
  | .for_ _ _ _ _, c, S, a, X, ρ, K, s, pn, hW, g, k, h
  | .whl _ _ _, c, S, a, X, ρ, K, s, pn, hW, g, k, h
  | .pass _, c, S, a, X, ρ, K, s, pn, hW, g, k, h
  | .brk _, c, S, a, X, ρ, K, s, pn, hW, g, k, h
  | .dead, c, S, a, X, ρ, K, s, pn, hW, g, k, h
  | .cont _, c, S, a, X, ρ, K, s, pn, hW, g, k, h
  | .fz _ _, c, S, a, X, ρ, K, s, pn, hW, g, k, h => by simp [B.pin] at pn
end
end DL
namespace DL
open PySem PySem.Spec PyProof.Rows L2

/-! ### comprehensions and loops by what they keep -/
def Rl (R : D → T → Prop) : List D → List T → Prop
  | [], us => us = []
  | d :: ds, us => ∃ t r, us = t :: r ∧ R d t ∧ Rl R ds r
theorem lcW_fil {g : Tg} {wc : Env → (Bool → Prop) → Prop} {we : Env → (T → Prop) → Prop} {ρ : Env} {Φ : List T → Prop} (p : D → Bool) (R : D → T → Prop) : ∀ {ds : List D} {acc : List T},
    (∀ d ∈ ds, ∀ (Ψ : T → Prop) (N : Prop), (p d = true → ∀ t, R d t → Ψ t) → (p d = false → N) → ∃ ρ', bindG g (.leaf d) ρ = some ρ' ∧ wc ρ' fun b => if b = true then we ρ' fun t => t.fin Ψ else N) →
    (∀ us, Rl R (ds.filter p) us → Φ (acc ++ us)) → lcW g wc we ρ ds acc Φ
  | [], acc, _, k => by simpa [lcW] using k [] (by simp [Rl])
  | d :: ds, acc, hs, k => by
    simp only [lcW]
    refine hs d List.mem_cons_self _ _ (fun hp t ht => ?_) fun hp => ?_
    · refine lcW_fil p R (fun d' hd' => hs d' (List.mem_cons_of_mem _ hd')) fun us hu => ?_
      rw [List.append_assoc]
      exact k (t :: us) (by rw [List.filter_cons_of_pos (by exact hp)]; exact ⟨t, us, rfl, ht, hu⟩)
    · refine lcW_fil p R (fun d' hd' => hs d' (List.mem_cons_of_mem _ hd')) fun us hu => ?_
      exact k us (by rw [List.filter_cons_of_neg (by simp [hp])]; exact hu)
theorem lcW_all {S : Sg} {g : Tg} {we : Env → (T → Prop) → Prop} {ρ : Env} {Φ : List T → Prop} (R : D → T → Prop) {ds : List D} {acc : List T}
    (hs : ∀ d ∈ ds, ∀ (Ψ : T → Prop), (∀ t, R d t → Ψ t) → ∃ ρ', bindG g (.leaf d) ρ = some ρ' ∧ we ρ' fun t => t.fin Ψ)
    (k : ∀ us, Rl R ds us → Φ (acc ++ us)) : lcW g (wc S .nop) we ρ ds acc Φ := by
  refine lcW_fil (fun _ => true) R (fun d hd Ψ N h1 h2 => ?_) fun us hu => k us (by rwa [List.filter_eq_self.mpr fun _ _ => rfl] at hu)
  obtain ⟨ρ', e, q⟩ := hs d hd Ψ (h1 rfl)
  exact ⟨ρ', e, wc_nop (by rw [if_pos rfl]; exact q)⟩
theorem rl_map {f : D → T} : ∀ {ds : List D} {us : List T}, Rl (fun d t => t = f d) ds us → us = ds.map f
  | [], us, h => h
  | d :: ds, us, ⟨t, r, e, h1, h2⟩ => by rw [e, h1, rl_map h2]; rfl
theorem lcW_map {S : Sg} {g : Tg} {we : Env → (T → Prop) → Prop} {ρ : Env} {Φ : List T → Prop} (f : D → T) {ds : List D}
    (hs : ∀ d ∈ ds, ∀ (Ψ : T → Prop), Ψ (f d) → ∃ ρ', bindG g (.leaf d) ρ = some ρ' ∧ we ρ' fun t => t.fin Ψ)
    (k : Φ (ds.map f)) : lcW g (wc S .nop) we ρ ds [] Φ :=
  lcW_all (fun d t => t = f d) (fun d hd Ψ h => hs d hd Ψ (h _ rfl)) fun us hu => by rw [rl_map hu]; exact k
theorem forW_inv {g : Tg} {wb : Env → EnD → Prop} {K : EnD} (J : List D → Env → Prop) : ∀ {ds : List D} {ρ : Env}, J ds ρ →
    (∀ d r ρ (K' : EnD), J (d :: r) ρ → (∀ ρ', J r ρ' → K'.nx ρ') → (∀ ρ', J r ρ' → K'.ct ρ') → (∀ ρ', K.nx ρ' → K'.bk ρ') → (∀ t ρ', K.rt t ρ' → K'.rt t ρ') → ∃ ρ', bindG g (.leaf d) ρ = some ρ' ∧ wb ρ' K') →
    (∀ ρ, J [] ρ → K.nx ρ) → forW g wb ds ρ K
  | [], ρ, h, _, k => k ρ h
  | d :: r, ρ, h, s, k => s d r ρ _ h (fun ρ' h' => forW_inv J h' s k) (fun ρ' h' => forW_inv J h' s k) (fun _ h => h) fun _ _ h => h
/-! ### the draw keeps its promise -/
def takeF : SpecF := fun ds Φ => ∃ m, ds = [.bag, .int m] ∧ (0 < m ∧ m < 10 ^ 100) ∧ ∀ v, 0 ≤ v → v < m → Φ (.leaf (.int v))
theorem takeF_mono : Mono takeF := fun ds Φ Ψ i ⟨m, e, b, h⟩ => ⟨m, e, b, fun v h1 h2 => i _ (h v h1 h2)⟩
def bag0 (ms : List Int) : T := .lst [.leaf (.int 0), .leaf (.int 1234567891), .leaf (.int 0), .lst (ms.map fun n => .leaf (.int n))]
def bagF : SpecF := fun ds Φ => ∃ ns, ds = [.scr ns] ∧ ns.length ≤ 63 ∧ ∀ ms : List Int, (∀ n ∈ ms, 0 ≤ n) → Φ (bag0 ms)
theorem bagF_mono : Mono bagF := fun ds Φ Ψ i ⟨m, e, b, h⟩ => ⟨m, e, b, fun v h1 => i _ (h v h1)⟩
abbrev takeN : List Str := ["_law_bag_here", "_law_many", "_law_cell", "_law_value", "_law_first", "_law_second"]
abbrev bagNm : List Str := ["_law_script", "_law_cell"]
def bagB : B := .ret (.lst (.cons (.int 0) (.cons (.int 1234567891) (.cons (.int 0) (.cons (.lc [1] (.nm 1) (.sq (.sl (.nm 0) .nop (.prt (.int 63)))) .nop (.blt .abs (.cons (.nm 1) .nil))) .nil))))) .nil
theorem owc_none_inv {a : An} {F H : Hp} : ∀ {n : Nat} {σ : L2.St} {S : List Addr}, OwC a F H (List.replicate n none) σ S → S = []
  | 0, σ, S, h => by simpa [OwC] using h
  | n + 1, σ, S, h => by
    rw [List.replicate_succ] at h
    simp only [OwC] at h
    exact owc_none_inv h
section
variable {P : Program} {w : World} {K : PySem.W.Frag} {mg : Str → Option Value} {base : Heap} {cls : Nat → Option (Addr × List Str)} {k j : Nat} {x qual : Str} {f : SpecF} {st : Stmt} {fa : Addr} {fd : FuncData} {N ps : List Str} {c : Cn} {S : Sg} {b : B}
theorem cutL_length {α : Type} (xs : List α) (lo hi : Option Int) : (cutL xs lo hi).length ≤ xs.length := by
  unfold cutL
  rw [List.length_take, List.length_drop]
  omega
theorem bagW {S : Sg} {K : EnD} {ns : List Int} (hz : S.z = true) (h : ns.length ≤ 63) (k : ∀ (ms : List Int) ρ, (∀ n ∈ ms, 0 ≤ n) → K.rt (bag0 ms) ρ) : wb S bagB [some (.leaf (.scr ns)), none] K := by
  unfold bagB
  refine wb_ret (w_lst ?_)
  refine wa_cons (w_int (fin_leaf rfl ?_))
  refine wa_cons (w_int (fin_leaf rfl ?_))
  refine wa_cons (w_int (fin_leaf rfl ?_))
  refine wa_cons (w_lc rfl (wi_sq (w_sl (w_nm rfl (wo_nop (wo_prt (w_int (ex_int rfl ?_))))))))
  refine .inr (.inr (.inr ⟨ns, rfl, ?_⟩))
  have len : (cutL ns none (some 63)).length ≤ 63 := Nat.le_trans (cutL_length _ _ _) h
  refine ⟨hz, _, rfl, ?_⟩
  refine ⟨by simp [T.dats_eq]; omega, ?_⟩
  have ed : T.dats ((cutL ns none (some 63)).map fun n => .leaf (.int n)) = (cutL ns none (some 63)).map D.int := by
    rw [T.dats_eq, List.map_map]; rfl
  rw [ed]
  refine lcW_map (fun d => match d with
    | .int n => .leaf (.int (if n < 0 then -n else n))
    | _ => .leaf .non) (fun d hd Ψ hΨ => ?_) ?_
  · obtain ⟨n, _, rfl⟩ := List.mem_map.mp hd
    exact bind_nm rfl (w_blt (wv_cons (w_nm rfl (wv_nil (l_abs rfl (fin_leaf rfl hΨ))))))
  · rw [List.map_map]
    refine fin_lst rfl (wa_nil ⟨Nat.le_of_ble_eq_true rfl, fin_lst rfl ?_⟩)
    have e : (cutL ns none (some 63)).map ((fun d => match d with
    | D.int n => T.leaf (.int (if n < 0 then -n else n))
    | _ => .leaf .non) ∘ D.int) = ((cutL ns none (some 63)).map fun n => if n < 0 then -n else n).map fun n => .leaf (.int n) := by
      rw [List.map_map]; rfl
    rw [e]
    refine k _ _ fun n hn => ?_
    obtain ⟨m, _, rfl⟩ := List.mem_map.mp hn
    split <;> omega
theorem fnTake (Fu : L2.Fun K x qual st fa fd) (sc : FnScope takeN ["_law_bag_here", "_law_many"] (defScope st)) (ck : okB { toCt := ⟨takeN, defScope st, defScope st⟩, fn := [], gl := [], bs := ["len"] } takeB (defBody st) = true) (bs : mg "len" = none) :
    FnG P w K mg base CX0 (k + 1) fa fd ["_law_bag_here", "_law_many"] (spD K cls takeF) := by
  obtain ⟨oc, od, kV, doc, pm, an, cdv, ct, osl, rfl, lk, hcd⟩ := Fu.ex
  refine fn_G lk hcd sc (fun vs H Q E hs => ?_) fun A outer s H vs Q E gu hr hs => ?_
  · obtain ⟨bg, F, ds, _, _, il, m, rfl, _⟩ := hs
    rw [isl_length il]; rfl
  obtain ⟨bg, F, ds, sub, bag, il, m, rfl, hm, q⟩ := hs
  simp only [IsL, Is] at il
  obtain ⟨_, _, rfl, ⟨p, eb, rfl⟩, _, _, rfl, rfl, rfl⟩ := il
  have eb : bg = some p := eb
  subst eb
  obtain ⟨b1, xx, yy, zz, cc, ns, b2, b3, b4⟩ := bag p rfl
  have X := goodB (c := { toCt := ⟨takeN, defScope st, defScope st⟩, fn := [], gl := [], bs := ["len"] }) (S := { z := false, fs := [], gs := [] }) (P := P) (w := w) (mg := mg) (base := base) (cls := cls) (k := k) (a := ⟨⟨K, none, cls⟩, [p], F, H, [], []⟩) (E := E) (H := H) (outer := outer) (cdv := cdv) (qual := qual) (fa := fa) sc rfl gu hr (fun i y f h => by simp at h) (fun i y f h => by simp at h) (fun y hy => by simp at hy; rw [hy]; exact bs) (obNil rfl rfl rfl rfl rfl) rfl rfl fun h => by cases h
  have go := soundBp (q := p) takeB rfl rfl X ck (takeW (K := { nx := fun _ => False, rt := fun t ρ => ∃ v x' y' z', t = .leaf (.int v) ∧ 0 ≤ v ∧ v < m ∧ BagN x' y' z' ns ∧ ρ.at 0 = some (bagT x' y' z' ns) }) b4 hm.1 hm.2 fun v x' y' z' ρ h1 h2 h3 h4 => ⟨v, x', y', z', rfl, h1, h2, h3, h4⟩)
  refine ⟨_, (PSs.nox (pb_W (X := (cxOf CX0 P w K mg base takeN qual (defScope st) fa cdv A outer s H E).nox))), go (L2.start takeN [.ref p, .int m]) H _ ⟨F, [p], [], ⟨sub, Gw.refl _ _ _, fun b hb => (by cases hb), fun b hb => (by cases hb), ?_, by simp only [OwL]; exact ⟨trivial, trivial⟩, by simp, fun b hb => ?_, rfl, by simp, by simp⟩⟩ rfl ⟨fun ρ σ H' hq ok => hq.elim, fun t v ρ σ H' hq ok pn => ?_⟩⟩
  · have hc : Is ⟨K, none, cls⟩ F (.lst (ns.map .int)) (.ref cc) := by
      simp only [Is]
      exact ⟨cc, _, rfl, b3, IsL.ints.mpr rfl⟩
    have hl : OwL ⟨K, none, cls⟩ F H [.leaf (.int xx), .leaf (.int yy), .leaf (.int zz), .leaf (.lst (ns.map .int))] [.int xx, .int yy, .int zz, .ref cc] [] := by
      refine ⟨_, _, [], [], rfl, ⟨rfl, by simp only [Is]⟩, ⟨_, _, [], [], rfl, ⟨rfl, by simp only [Is]⟩, ⟨_, _, [], [], rfl, ⟨rfl, by simp only [Is]⟩, ⟨_, _, [], [], rfl, ⟨rfl, hc⟩, ⟨rfl, rfl⟩, rfl⟩, rfl⟩, rfl⟩, rfl⟩
    exact ⟨.ref p, [p], [], ⟨rfl, rfl⟩, ⟨rfl, p, _, [], rfl, b2, hl, rfl⟩, ⟨.int m, [], [], ⟨rfl, rfl⟩, ⟨rfl, by simp only [Is]⟩, rfl, rfl⟩, rfl⟩
  · obtain rfl : b = p := by simpa using hb
    exact ⟨b1, by simp, .inl (by simp)⟩
  · obtain ⟨v', x', y', z', rfl, h1, h2, h3, h4⟩ := hq
    obtain ⟨F', Sc, Sm, w'⟩ := ok
    have i1 := SOk.top ⟨F', Sc, Sm, w'⟩
    obtain ⟨v2, S1, e1, o1, ms, _⟩ := w'.cells.get h4
    rw [show σ[0]? = some (some (.ref p)) from pn] at e1
    cases e1
    simp only [T.dat, Is] at i1
    subst i1
    simp only [Ow, bagT, OwL] at o1
    obtain ⟨_, p', vs', S', e0, hp', ⟨_, _, _, _, rfl, ⟨_, q1⟩, ⟨_, _, _, _, rfl, ⟨_, q2⟩, ⟨_, _, _, _, rfl, ⟨_, q3⟩, ⟨_, _, _, _, rfl, ⟨_, q4⟩, ⟨rfl, _⟩, _⟩, _⟩, _⟩, _⟩, rfl⟩ := o1
    cases e0
    simp only [Is] at q1 q2 q3 q4
    subst q1 q2 q3
    obtain ⟨c', vs2, rfl, q5, q6⟩ := q4
    rw [IsL.ints.mp q6] at q5
    obtain ⟨f1, _, _⟩ := w'.fr p (List.mem_append_left _ (ms p List.mem_cons_self))
    refine q v' h1 h2 F' H' _ [] w'.sub ⟨w'.gw.ff, fun p2 o2 hp2 e2 => w'.gw.hh p2 o2 (by simpa using hp2) e2, w'.gw.nn, w'.gw.th⟩ (fun b hb => ?_) (by simp only [Ow, Is]; exact ⟨trivial, trivial⟩) (by simp) (by simp)
    cases hb
    exact ⟨f1, x', y', z', c', ns, hp', q5, h3⟩
theorem fnBag (Fu : L2.Fun K x qual st fa fd) (sc : FnScope bagNm ["_law_script"] (defScope st)) (ck : okB { toCt := ⟨bagNm, defScope st, defScope st⟩, fn := [], gl := [], bs := ["abs"] } bagB (defBody st) = true) (bs : mg "abs" = none) :
    FnG P w K mg base CX0 (k + 1) fa fd ["_law_script"] (spD K cls bagF) :=
  fnD (c := { toCt := ⟨bagNm, defScope st, defScope st⟩, fn := [], gl := [], bs := ["abs"] }) (S := { z := true, fs := [], gs := [] }) Fu sc rfl ck (fun i y f h => by simp at h) (fun i y f h => by simp at h) (fun y hy => by simp at hy; rw [hy]; exact bs) fun ds Φ h => by
    obtain ⟨ns, rfl, l, q⟩ := h
    exact ⟨rfl, bagW rfl l fun ms ρ h => q ms h⟩
/-! ### the law -/
def spLaw (K : PySem.W.Frag) : Sp := fun vs H Q _ => ∃ (a : Addr) (ns : List Int), vs = [.ref a] ∧ SqL K H a (ns.map V.int) ∧ ns.length ≤ 63 ∧ ∀ H', Q (.bl true) H'
theorem fnLaw {kb : Nat} (Fu : L2.Fun K x qual st fa fd) (sc : FnScope N ["_law_script"] (defScope st)) (hN : 2 ≤ N.length) (hc : c.toCt = ⟨N, defScope st, defScope st⟩) (ck : okB c (.asg (.nm 1) (.call kb (.cons (.nm 0) .nil)) b) (defBody st) = true)
    (fns : ∀ (i : Nat) y f, c.fn[i]? = some y → S.fs[i]? = some f → FnB P w K mg base cls k y f)
    (gls : ∀ (i : Nat) y d, c.gl[i]? = some y → S.gs[i]? = some d → ∃ v u, mg y = some u ∧ RelV v u ∧ ∀ (a : An) F, a.K = K → Is a F d v)
    (bs : ∀ y ∈ c.bs, mg y = none) (hkb : S.fs[kb]? = some bagF)
    (h : ∀ ns : List Int, ns.length ≤ 63 → wb S b (some (.leaf (.scr ns)) :: some (.leaf .bag) :: List.replicate (N.length - 2) none) { nx := fun _ => False, rt := fun t _ => t = .leaf (.bl true) }) (ob : ObB P w K mg base cls k c S := by exact obNil rfl rfl rfl rfl rfl) :
    FnG P w K mg base CX0 (k + 1) fa fd ["_law_script"] (spLaw K) := by
  obtain ⟨oc, od, kV, doc, pm, an, cdv, ct, osl, rfl, lk, hcd⟩ := Fu.ex
  refine fn_G lk hcd sc (fun vs H Q E hs => ?_) fun A outer s H vs Q E gu hr hs => ?_
  · obtain ⟨a, ns, rfl, _⟩ := hs; rfl
  obtain ⟨a0, ns, rfl, hS, hl, q⟩ := hs
  simp only [okB] at ck
  split at ck
  rotate_left
  · cases ck
  rename_i tg v pos rest heq
  rw [heq]
  simp only [Bool.and_eq_true] at ck
  obtain ⟨⟨⟨⟨k1, k2⟩, k3⟩, k4⟩, k5⟩ := ck
  have X := goodB (a := ⟨⟨K, none, cls⟩, [], H, H, [], []⟩) (E := E) (H := H) (outer := outer) (cdv := cdv) (qual := qual) (fa := fa) sc hc gu hr fns gls bs ob rfl rfl fun _ p hp => by simp at hp
  refine ⟨_, PSs.nox (pss_cons (ps_W (X := (cxOf CX0 P w K mg base N qual (defScope st) fa cdv A outer s H E).nox)) (pb_W (X := (cxOf CX0 P w K mg base N qual (defScope st) fa cdv A outer s H E).nox))), ?_⟩
  have rep : List.replicate (N.length - 1) (none : Option T) = none :: List.replicate (N.length - 2) none := by
    rw [show N.length - 1 = (N.length - 2) + 1 from by omega, List.replicate_succ]
  have sv : ∀ F : Hp, Sub H F → Is ⟨K, none, cls⟩ F (.scr ns) (.ref a0) := fun F sF => by
    simp only [Is]; exact ⟨a0, rfl, sub_l sF hS⟩
  have lenS : ∀ r : List (Option T), r.length = N.length - 2 → (some (T.leaf (.scr ns)) :: none :: r).length = (L2.start N [V.ref a0]).length := fun r hr => by
    unfold L2.start; simp [hr]; omega
  have go := ds_asgG (K := { nx := fun ρ' => ∃ ms : List Int, (∀ n ∈ ms, 0 ≤ n) ∧ ρ' = some (.leaf (.scr ns)) :: some (bag0 ms) :: List.replicate (N.length - 2) none, rt := fun _ _ => False }) (ρ := some (.leaf (.scr ns)) :: none :: List.replicate (N.length - 2) none) (pos := pos) X.xo X.co k1 (noswap1 k2) (nopar2 X.co k3)
    (soundE (.call kb (.cons (.nm 0) .nil)) X k4 (w_call hkb (wv_cons (w_nm rfl (wv_nil (fz_cons (fz_leaf rfl (fz_nil ⟨ns, rfl, hl, fun ms hms => fin_lst rfl (bind_nm rfl ⟨ms, hms, rfl⟩)⟩))))))))
  refine go (L2.start N [.ref a0]) H _ ⟨H, [], [], ⟨Sub.refl H, Gw.refl _ _ _, fun b hb => (by cases hb), fun b hb => (by cases hb), ?_, by simp only [OwL]; exact ⟨trivial, trivial⟩, by simp, by simp, lenS _ (by simp), by simp, by simp⟩⟩ ⟨fun ρ σ H1 hq ok => ?_, fun _ _ _ _ _ hq => hq.elim, fun _ _ _ hq => hq.elim, fun _ _ _ hq => hq.elim⟩
  · unfold L2.start
    simp only [OwC]
    exact ⟨.ref a0, [], [], ⟨rfl, rfl⟩, by simp only [Ow]; exact ⟨trivial, sv _ (Sub.refl H)⟩, owc_none _ _, rfl⟩
  · obtain ⟨ms, hms, rfl⟩ := hq
    obtain ⟨F, Sc, Sm, w1⟩ := ok
    have cells := w1.cells
    simp only [OwC, Ow, OwL, bag0] at cells
    obtain ⟨v0, _, _, ⟨e0, _⟩, ⟨rfl, i0⟩, ⟨v1, S1, S2, ⟨e1, _⟩, ⟨nn, p, vs', S', rfl, hp, ⟨_, _, _, _, rfl, ⟨rfl, q1⟩, ⟨_, _, _, _, rfl, ⟨rfl, q2⟩, ⟨_, _, _, _, rfl, ⟨rfl, q3⟩, ⟨_, _, S3, S4, rfl, ⟨_, cc, vs3, S5, rfl, hcc, o5, rfl⟩, ⟨rfl, rfl⟩, rfl⟩, rfl⟩, rfl⟩, rfl⟩, rfl⟩, o2, rfl⟩, rfl⟩ := cells
    have o2' := owc_none_inv o2
    subst o2'
    obtain ⟨e5, i5⟩ := OwL.plain (by simp [T.plain]) o5
    subst e5
    have ed : T.dats (ms.map fun n => .leaf (.int n)) = ms.map D.int := by
      rw [T.dats_eq, List.map_map]; rfl
    rw [ed] at i5
    have i6 := IsL.ints.mp i5
    subst i6
    have nd := w1.nd
    have pc : p ≠ cc := by
      have := (List.nodup_append.mp nd).1
      simp at this
      exact this
    obtain ⟨fp, _, _⟩ := w1.fr p (by simp)
    obtain ⟨fc, _, _⟩ := w1.fr cc (by simp)
    have sF : Sub F (fun q => if q = cc then H1 q else F q) := fun q o e => by
      show (if q = cc then H1 q else F q) = some o
      rw [if_neg fun z => by rw [z, fc] at e; cases e]
      exact e
    have X2 := goodB (a := ⟨⟨K, some p, cls⟩, [p], fun q => if q = cc then H1 q else F q, H1, [], []⟩) (E := E) (H := H) (outer := outer) (cdv := cdv) (qual := qual) (fa := fa) sc hc gu hr fns gls bs ob rfl rfl fun _ p hp => by simp at hp; rw [hp]
    refine soundB b rfl X2 k5 (h ns hl) σ H1 _ ⟨fun q => if q = cc then H1 q else F q, [], [], ⟨fun q o e => ?_, Gw.refl _ _ _, fun b hb => ?_, fun b hb => ?_, ?_, by simp only [OwL]; exact ⟨trivial, trivial⟩, by simp, by simp, w1.len, by simp, by simp⟩⟩ ⟨fun _ _ _ hq => hq.elim, fun t v ρ σ H2 hq ok => ?_, fun _ _ _ hq => hq.elim, fun _ _ _ hq => hq.elim⟩
    · have e : (if q = cc then H1 q else F q) = some o := e
      by_cases z : q = cc
      · rwa [if_pos z] at e
      · rw [if_neg z] at e
        exact w1.sub q o e
    · cases hb
      refine ⟨by simp, ?_⟩
      show H1 p ≠ none
      rw [hp]; simp
    · cases hb
      exact ⟨(if_neg pc).trans fp, 0, 1234567891, 0, cc, ms, by rw [hp]; simp only [Is] at q1 q2 q3; rw [q1, q2, q3], (if_pos rfl).trans hcc, by decide, by decide, by decide, by decide, hms⟩
    · simp only [OwC, Ow]
      refine ⟨v0, [], [], ⟨e0, rfl⟩, ⟨rfl, ?_⟩, ⟨.ref p, [], [], ⟨e1, rfl⟩, ⟨rfl, ?_⟩, owc_none _ _, rfl⟩, rfl⟩
      · simp only [Is] at i0 ⊢
        obtain ⟨p0, e, h0⟩ := i0
        exact ⟨p0, e, sub_l sF h0⟩
      · simp only [Is]
        exact ⟨p, rfl, rfl⟩
    · subst hq
      obtain ⟨F2, Sc2, Sm2, w2⟩ := ok
      have i1 := SOk.top ⟨F2, Sc2, Sm2, w2⟩
      simp only [T.dat, Is] at i1
      rw [i1]
      exact q H2
theorem fns_nil {fs : List SpecF} : ∀ (i : Nat) y f, ([] : List Str)[i]? = some y → fs[i]? = some f → FnB P w K mg base cls k y f := fun i y f h => by simp at h
theorem fns_cons {x : Str} {g : SpecF} {ys : List Str} {fs : List SpecF} (h : FnB P w K mg base cls k x g) (r : ∀ (i : Nat) y f, ys[i]? = some y → fs[i]? = some f → FnB P w K mg base cls k y f) :
    ∀ (i : Nat) y f, (x :: ys)[i]? = some y → (g :: fs)[i]? = some f → FnB P w K mg base cls k y f
  | 0, y, f, h1, h2 => by
    simp only [List.getElem?_cons_zero, Option.some.injEq] at h1 h2
    rw [← h1, ← h2]; exact h
  | i + 1, y, f, h1, h2 => r i y f (by simpa using h1) (by simpa using h2)
theorem bs_nil : ∀ y ∈ ([] : List Str), mg y = none := fun y h => by simp at h
theorem bs_cons {x : Str} {ys : List Str} (h : mg x = none) (r : ∀ y ∈ ys, mg y = none) : ∀ y ∈ x :: ys, mg y = none := fun y hy => (List.mem_cons.mp hy).elim (fun e => by rw [e]; exact h) (r y)
theorem gls_nil {gs : List D} : ∀ (i : Nat) y d, ([] : List Str)[i]? = some y → gs[i]? = some d → ∃ v u, mg y = some u ∧ RelV v u ∧ ∀ (a : An) F, a.K = K → Is a F d v := fun i y d h => by simp at h
end
/-! ### the law's comparison -/
def sameF : SpecF := fun ds Φ => ∃ d, ds = [d, d] ∧ d.Shw ∧ Φ (.leaf (.bl true))
theorem sameF_mono : Mono sameF := fun ds Φ Ψ i ⟨d, e, s, h⟩ => ⟨d, e, s, i _ h⟩
def alikeB : B := .ret (.and (.cmp .eq (.nm 0) (.nm 1)) (.one (.cmp .eq (.blt .repr (.cons (.nm 0) .nil)) (.blt .repr (.cons (.nm 1) .nil))))) .nil
theorem sameW {S : Sg} {d : D} {Φ : T → Prop} {K : EnD} (s : d.Shw) (h : ∀ ρ, K.rt (.leaf (.bl true)) ρ) : wb S alikeB [some (.leaf d), some (.leaf d)] K := by
  unfold alikeB
  refine wb_ret (w_and (w_cmp (w_nm rfl (w_nm rfl (c_eqd s.1 s.1 (ex_bl rfl ?_))))))
  rw [show eqD (T.leaf d).dat (T.leaf d).dat = true from eqD_refl s.1.1]
  refine ite_t (w_one (w_cmp (w_blt (wv_cons (w_nm rfl (wv_nil (l_repr rfl s (w_blt (wv_cons (w_nm rfl (wv_nil (l_repr rfl s (c_eqs rfl rfl ?_)))))))))))))
  rw [decide_eq_true rfl]
  exact fin_leaf rfl (h _)
end DL
namespace DL
open PySem PySem.Spec PyProof.Rows L2

/-! ### more steps -/
def itup (xs : List Int) : D := .tup (xs.map .int)
section
variable {S : Sg} {ρ ρ' : Env} {Φ : T → Prop} {t u : T} {us xs ys : List T} {ds d1 d2 : List D} {ns : List Int}
theorem dats_ints (ns : List Int) : T.dats (ns.map fun g => .leaf (.int g)) = ns.map .int := by
  rw [T.dats_eq, List.map_map]; rfl
theorem b_cat (h1 : t.dat = .lst d1) (h2 : u.dat = .lst d2) (e1 : t.its = some xs) (e2 : u.its = some ys) (l : xs.length + ys.length ≤ 100000) (k : Φ (.lst (xs ++ ys))) : binT .add t u Φ := by
  simp only [binT, h1, h2]
  exact ⟨xs, ys, e1, e2, l, k⟩
theorem l_maxl (h : t.dat = .lst ds) (e : D.toInts ds = some ns) (h0 : 0 < ns.length) (k : ∀ m, m ∈ ns → (∀ y, y ∈ ns → y ≤ m) → Φ (.leaf (.int m))) : bltT .max [t] Φ := by
  simp only [bltT, T.dats, h, bltD]
  exact ⟨ns, e, h0, k⟩
theorem l_sumt (h : t.dat = .tup ds) (e : D.toInts ds = some ns) (k : Φ (.leaf (.int ns.sum))) : bltT .sum [t] Φ := by
  simp only [bltT, T.dats, h, bltD]
  exact ⟨ns, e, k⟩
theorem bind_pair {p : Env → Prop} {i j : Nat} {v : T} (h : t.prt = some [u, v]) (hi : Nat.blt i ρ.length = true) (hj : Nat.blt j ρ.length = true) (k : p ((ρ.put i (some u)).put j (some v))) : ∃ ρ', bindG (.cons (.nm i) (.cons (.nm j) .nil)) t ρ = some ρ' ∧ p ρ' := by
  refine ⟨_, ?_, k⟩
  have hi := Nat.le_of_ble_eq_true hi
  have hj := Nat.le_of_ble_eq_true hj
  have l : j < (ρ.put i (some u)).length := by rw [Env.put_length]; exact hj
  simp only [bindG, h, bindL]
  rw [if_pos (show i < ρ.length from hi)]
  simp only [Option.bind_some]
  simp only [bindL, bindG]
  rw [if_pos l]
  simp only [Option.bind_some, bindL]
theorem and_len {us : List T} {p : Prop} (h : Nat.ble us.length 100000 = true) (k : p) : us.length ≤ 100000 ∧ p := ⟨Nat.le_of_ble_eq_true h, k⟩
theorem fin_mk (h : us.all T.plain = true) (k : Φ (.leaf (.tup (T.dats us)))) : (T.mk us).fin Φ := by
  unfold T.mk
  rw [if_pos h]
  exact k
end
theorem rl_ints {p : Int → Prop} : ∀ {ds : List D} {us : List T}, Rl (fun _ t => ∃ x, t = .leaf (.int x) ∧ p x) ds us → ∃ xs : List Int, us = xs.map (fun g => .leaf (.int g)) ∧ xs.length = ds.length ∧ ∀ x ∈ xs, p x
  | [], us, h => ⟨[], h, rfl, by simp⟩
  | d :: ds, us, ⟨t, r, e, ⟨x, e2, h1⟩, h2⟩ => by
    obtain ⟨xs, e3, l, q⟩ := rl_ints h2
    refine ⟨x :: xs, by rw [e, e2, e3]; rfl, by simp [l], fun y hy => ?_⟩
    rcases List.mem_cons.mp hy with rfl | hy
    · exact h1
    · exact q y hy
theorem mk_ints (xs : List Int) : T.mk (xs.map fun g => .leaf (.int g)) = .leaf (itup xs) := by
  unfold T.mk
  rw [if_pos (by simp [T.plain]), dats_ints]
  rfl
theorem t_bl {t : T} {b : Bool} {Ψ : Bool → Prop} (h : t = .leaf (.bl b)) (k : Ψ b) : tru t Ψ := by subst h; exact ⟨b, rfl, k⟩
theorem ite_nt {A B : Prop} (h : B) : if (!true) = true then A else B := by rw [if_neg (by decide)]; exact h
theorem at_ints {xs : List Int} {k : Nat} (hk : k < xs.length) : atI (xs.map D.int) (k : Int) = some (.int xs[k]) := by
  unfold L2.atI L2.ixN
  rw [if_pos (by omega), List.length_map, if_pos (by omega)]
  simp [hk]
theorem drop_cons {n k : Nat} {d : D} {r : List D} (e : d :: r = ((List.range n).drop k).map fun (i : Nat) => D.int i) : k < n ∧ d = .int k ∧ r = ((List.range n).drop (k + 1)).map fun (i : Nat) => D.int i := by
  by_cases h : k < n
  · rw [List.drop_eq_getElem_cons (by simpa using h)] at e
    simp only [List.map_cons, List.cons.injEq, List.getElem_range] at e
    exact ⟨h, e.1, e.2⟩
  · rw [List.drop_eq_nil_of_le (by simp; omega)] at e
    simp at e
theorem drop_nil {n k : Nat} (e : [] = ((List.range n).drop k).map fun (i : Nat) => D.int i) : n ≤ k := by
  by_cases h : k < n
  · rw [List.drop_eq_getElem_cons (by simpa using h)] at e
    simp at e
  · omega
section
variable {S : Sg} {ρ ρ' : Env} {Φ : T → Prop} {Ψ : Bool → Prop} {t u v : T} {us xs ys : List T} {ds : List D} {x1 x2 : D} {b : Bool} {n m k : Int}
theorem c_inT (h2 : x2 = .tup ds) (h : (x1.flat && ds.all D.flat) = true) (e : memD x1 ds = b) (k : Ψ b) : cmpD .inn x1 x2 Ψ := by
  subst h2
  rw [Bool.and_eq_true] at h
  exact ⟨h.1, h.2, by rw [e]; exact k⟩
theorem c_isN (e : x1.isNon = b) (k : Ψ b) : cmpD .isN x1 .non Ψ := by
  show Ψ x1.isNon
  rw [e]; exact k
theorem c_notN (e : (!x1.isNon) = b) (k : Ψ b) : cmpD .notN x1 .non Ψ := by
  show Ψ (!x1.isNon)
  rw [e]; exact k
theorem b_catU (h1 : t.dat = .tup ds) {es : List D} (h2 : u.dat = .tup es) (e1 : t.prt = some xs) (e2 : u.prt = some ys) (l : xs.length + ys.length ≤ 100000) (k : Φ (T.mk (xs ++ ys))) : binT .add t u Φ := by
  simp only [binT, h1, h2]
  exact ⟨xs, ys, e1, e2, l, k⟩
theorem l_max3 (h1 : t.dat = .int n) (h2 : u.dat = .int m) (h3 : v.dat = .int k) (q : Φ (.leaf (.int (if (if n < m then m else n) < k then k else if n < m then m else n)))) : bltT .max [t, u, v] Φ := by
  simp only [bltT, T.dats, h1, h2, h3, bltD]
  exact q
theorem l_intb (h1 : t.dat = .bl b) (q : Φ (.leaf (.int (if b then 1 else 0)))) : bltT .int [t] Φ := by
  simp only [bltT, T.dats, h1, bltD]
  exact q
theorem sl_prt {lo hi : Option Int} (h : t.prt = some us) (k : Φ (T.mk (cutL us lo hi))) : slT t lo hi Φ := .inr (.inl ⟨us, h, k⟩)
theorem sl_its {lo hi : Option Int} (h : t.its = some us) (k : Φ (.lst (cutL us lo hi))) : slT t lo hi Φ := .inl ⟨us, h, k⟩
end
end DL
namespace DL
open PySem PySem.Spec PyProof.Rows L2

/-! ### names in a row, decided tests, terms' words -/
def putL : List Nat → List T → Env → Env
  | i :: is, u :: us, ρ => putL is us (ρ.put i (some u))
  | _, _, ρ => ρ
def tgL : List Nat → Tg
  | [] => .nil
  | i :: is => .cons (.nm i) (tgL is)
theorem bindL_tg : ∀ (is : List Nat) (us : List T) (ρ : Env), is.length = us.length → (∀ i ∈ is, i < ρ.length) → bindL (tgL is) us ρ = some (putL is us ρ)
  | [], [], ρ, _, _ => by simp [tgL, bindL, putL]
  | i :: is, u :: us, ρ, l, h => by
    have h0 := h i List.mem_cons_self
    simp only [tgL, bindL, bindG, putL, if_pos h0, Option.bind_some]
    exact bindL_tg is us _ (by simpa using l) fun j hj => by rw [Env.put_length]; exact h j (List.mem_cons_of_mem _ hj)
  | [], _ :: _, _, l, _ => by simp at l
  | _ :: _, [], _, l, _ => by simp at l
theorem bind_tg {p : Env → Prop} {t : T} {ρ : Env} {is : List Nat} {us : List T} (h : t.prt = some us) (l : is.length = us.length) (hi : ∀ i ∈ is, i < ρ.length) (k : p (putL is us ρ)) : ∃ ρ', bindG (tgL is) t ρ = some ρ' ∧ p ρ' := by
  refine ⟨_, ?_, k⟩
  have e := bindL_tg is us ρ l hi
  cases is with
  | nil => cases us with
    | nil => simp only [tgL, bindG, h]; exact e
    | cons _ _ => simp at l
  | cons i is => cases us with
    | nil => simp at l
    | cons u us => simp only [tgL, bindL] at e; rw [← e]; simp only [tgL]; conv => { lhs; unfold bindG }; simp only [h]
section
variable {S : Sg} {ρ ρ' : Env} {Φ : T → Prop} {Ψ : Bool → Prop} {t u v : T} {us xs ys : List T} {ds es : List D} {x1 x2 : D} {b : Bool} {n m k : Int}
theorem bind_5 {p : Env → Prop} {a b c d e : T} {i j k l m : Nat} (h : t.prt = some [a, b, c, d, e]) (hi : [i, j, k, l, m].all (fun x => Nat.blt x ρ.length) = true) (q : p (putL [i, j, k, l, m] [a, b, c, d, e] ρ)) :
    ∃ ρ', bindG (.cons (.nm i) (.cons (.nm j) (.cons (.nm k) (.cons (.nm l) (.cons (.nm m) .nil))))) t ρ = some ρ' ∧ p ρ' :=
  bind_tg (is := [i, j, k, l, m]) h rfl (fun x hx => Nat.le_of_ble_eq_true (List.all_eq_true.mp hi x hx)) q
theorem ite_decT {p : Prop} [dp : Decidable p] {A B : Prop} (h : p) (k : A) : if decide p = true then A else B := by rw [if_pos (decide_eq_true h)]; exact k
theorem ite_decF {p : Prop} [dp : Decidable p] {A B : Prop} (h : ¬p) (k : B) : if decide p = true then A else B := by rw [if_neg (by simp [h])]; exact k
theorem ite_nf {A B : Prop} (h : A) : if (!false) = true then A else B := by rw [if_pos (by decide)]; exact h
theorem c_isT (h2 : x2 = .non) (e : x1.isNon = true) (k : Ψ true) : cmpD .isN x1 x2 Ψ := by subst h2; exact c_isN e k
theorem c_isF (h2 : x2 = .non) (e : x1.isNon = false) (k : Ψ false) : cmpD .isN x1 x2 Ψ := by subst h2; exact c_isN e k
theorem c_notT (h2 : x2 = .non) (e : x1.isNon = false) (k : Ψ true) : cmpD .notN x1 x2 Ψ := by subst h2; exact c_notN (by rw [e]; rfl) k
theorem c_notF (h2 : x2 = .non) (e : x1.isNon = true) (k : Ψ false) : cmpD .notN x1 x2 Ψ := by subst h2; exact c_notN (by rw [e]; rfl) k
theorem b_p18 (h1 : t.dat = .int 10) (h2 : u.dat = .int 18) (q : Φ (.leaf (.int (10 ^ 18)))) : binT .pow t u Φ := b_pow h1 h2 (by decide) q
theorem b_p9 (h1 : t.dat = .int 10) (h2 : u.dat = .int 9) (q : Φ (.leaf (.int (10 ^ 9)))) : binT .pow t u Φ := b_pow h1 h2 (by decide) q
theorem b_p38 (h1 : t.dat = .int 10) (h2 : u.dat = .int 38) (q : Φ (.leaf (.int (10 ^ 38)))) : binT .pow t u Φ := b_pow h1 h2 (by decide) q
theorem b_p17 (h1 : t.dat = .int 10) (h2 : u.dat = .int 17) (q : Φ (.leaf (.int (10 ^ 17)))) : binT .pow t u Φ := b_pow h1 h2 (by decide) q
theorem b_p40 (h1 : t.dat = .int 10) (h2 : u.dat = .int 40) (q : Φ (.leaf (.int (10 ^ 40)))) : binT .pow t u Φ := b_pow h1 h2 (by decide) q
theorem b_p39 (h1 : t.dat = .int 10) (h2 : u.dat = .int 39) (q : Φ (.leaf (.int (10 ^ 39)))) : binT .pow t u Φ := b_pow h1 h2 (by decide) q
theorem b_p21 (h1 : t.dat = .int 10) (h2 : u.dat = .int 21) (q : Φ (.leaf (.int (10 ^ 21)))) : binT .pow t u Φ := b_pow h1 h2 (by decide) q
theorem b_p20 (h1 : t.dat = .int 10) (h2 : u.dat = .int 20) (q : Φ (.leaf (.int (10 ^ 20)))) : binT .pow t u Φ := b_pow h1 h2 (by decide) q
theorem b_p6 (h1 : t.dat = .int 10) (h2 : u.dat = .int 6) (q : Φ (.leaf (.int (10 ^ 6)))) : binT .pow t u Φ := b_pow h1 h2 (by decide) q
theorem c_nes {d1 d2 : D} {s1 s2 : Str} (h1 : d1 = .str s1) (h2 : d2 = .str s2) (k : Ψ (!decide (s1 = s2))) : cmpD .ne d1 d2 Ψ := by
  subst h1 h2
  exact .inl ⟨_, _, rfl, rfl, k⟩
/-- alike data are equal -/
theorem c_nesame {d1 d2 : D} (h : d1 = d2) (h2 : d1.Fit) (k : Ψ false) : cmpD .ne d1 d2 Ψ := by
  subst h
  refine .inr ⟨h2, h2, ?_⟩
  rw [eqD_refl h2.1]; exact k
theorem c_eqsame {d1 d2 : D} (h : d1 = d2) (h2 : d1.Fit) (k : Ψ true) : cmpD .eq d1 d2 Ψ := by
  subst h
  refine .inr ⟨h2, h2, ?_⟩
  rw [eqD_refl h2.1]; exact k
theorem ite_ndecT {p : Prop} [dp : Decidable p] {A B : Prop} (h : p) (k : B) : if (!decide p) = true then A else B := by rw [if_neg (by simp [h])]; exact k
theorem b_rep (h : t.its = some (ds.map .leaf)) (h1 : ∃ es, t.dat = .lst es) (h2 : u.dat = .int n) (h0 : 0 ≤ n ∧ n ≤ 100000 ∧ ds.length * n.toNat ≤ 100000) (k : Φ (.lst ((List.replicate n.toNat ds).flatten.map .leaf))) : binT .mul t u Φ := by
  obtain ⟨es, e⟩ := h1
  simp only [binT, e, h2]
  exact ⟨ds, h, h0.1, h0.2.1, h0.2.2, k⟩
theorem ex_isT {p : Bool → Prop} {d : D} {ty : Ty} {b : Bool} (h : d.isT ty = some b) (k : p b) : ∃ b, d.isT ty = some b ∧ p b := ⟨b, h, k⟩
theorem ex_rg1 {p : Int → Prop} (h : t.dat = .int n) (h2 : RgS 0 n) (k : p n) : ∃ j, t.dat = .int j ∧ RgS 0 j ∧ p j := ⟨n, h, h2, k⟩
theorem ex_rg2 {p : Int → Int → Prop} (h : t.dat = .int n) (h2 : u.dat = .int m) (h3 : RgS n m) (k : p n m) : ∃ i j, t.dat = .int i ∧ u.dat = .int j ∧ RgS i j ∧ p i j := ⟨n, m, h, h2, h3, k⟩
theorem l_intT (h1 : t.dat = .bl true) (q : Φ (.leaf (.int 1))) : bltT .int [t] Φ := l_intb h1 q
theorem l_intF (h1 : t.dat = .bl false) (q : Φ (.leaf (.int 0))) : bltT .int [t] Φ := l_intb h1 q
theorem l_intD {p : Prop} [dp : Decidable p] (h1 : t.dat = .bl (decide p)) (q1 : p → Φ (.leaf (.int 1))) (q2 : ¬p → Φ (.leaf (.int 0))) : bltT .int [t] Φ := by
  by_cases h : p
  · exact l_intT (by rw [h1, decide_eq_true h]) (q1 h)
  · exact l_intF (by rw [h1]; simp [h]) (q2 h)
theorem c_neb {Ψ : Bool → Prop} {d1 d2 : D} {b c : Bool} (h1 : d1 = .bl b) (h2 : d2 = .bl c) (e : b = c) (k : Ψ false) : cmpD .ne d1 d2 Ψ := by
  subst h1 h2 e
  exact c_nesame rfl ⟨rfl, by simp [D.dep]⟩ k
theorem l_all {bs : List Bool} (h : t.dat = .lst ds) (e : D.toBls ds = some bs) (k : Φ (.leaf (.bl (bs.all id)))) : bltT .all [t] Φ := by
  simp only [bltT, T.dats, h, bltD]
  exact ⟨bs, e, k⟩
theorem l_lens {ns : List Int} (h : t = .leaf (itup ns)) (k : Φ (.leaf (.int ns.length))) : bltT .len [t] Φ := by
  subst h
  refine l_lent (ds := ns.map .int) rfl ?_
  rw [List.length_map]; exact k
theorem at_getD {ns : List Int} {k : Nat} (hk : k < ns.length) : atI (ns.map D.int) (k : Int) = some (.int (ns.getD k 0)) := by
  rw [at_ints hk]; simp [hk]
theorem tb_stop : memD (.str "stop") [.str "tie", .str "bar"] = false := by decide +kernel
theorem tb_wish : memD (.str "wish") [.str "tie", .str "bar"] = false := by decide +kernel
theorem tb_bar : memD (.str "bar") [.str "tie", .str "bar"] = true := by decide +kernel
theorem tb_tie : memD (.str "tie") [.str "tie", .str "bar"] = true := by decide +kernel
theorem wt_stop : memD (.str "stop") [.str "wish", .str "tie"] = false := by decide +kernel
theorem wt_wish : memD (.str "wish") [.str "wish", .str "tie"] = true := by decide +kernel
theorem wt_bar : memD (.str "bar") [.str "wish", .str "tie"] = false := by decide +kernel
theorem wt_tie : memD (.str "tie") [.str "wish", .str "tie"] = true := by decide +kernel
theorem cut_map {α β : Type} (f : α → β) (xs : List α) (lo hi : Option Int) : cutL (xs.map f) lo hi = (cutL xs lo hi).map f := by
  simp only [cutL, List.length_map, List.map_take, List.map_drop]
theorem mk_leafs (ds : List D) : T.mk (ds.map .leaf) = .leaf (.tup ds) := by
  unfold T.mk
  rw [if_pos (by simp [T.plain]), T.dats_eq, List.map_map]
  congr 2
  exact (List.map_congr_left fun _ _ => rfl).trans (List.map_id _)
theorem sl_lt {lo hi : Option Int} (h : t = .leaf (.tup ds)) (e : cutL ds lo hi = es) (k : Φ (.leaf (.tup es))) : slT t lo hi Φ := by
  subst h
  refine sl_prt rfl ?_
  rw [cut_map, e, mk_leafs]; exact k
theorem b_catL (h1 : t = .leaf (.tup ds)) (h2 : u = .leaf (.tup es)) (l : Nat.ble (ds.length + es.length) 100000 = true) (k : Φ (.leaf (.tup (ds ++ es)))) : binT .add t u Φ := by
  subst h1 h2
  refine b_catU rfl rfl rfl rfl (by simpa using Nat.le_of_ble_eq_true l) ?_
  rw [← List.map_append, mk_leafs]; exact k
end
end DL
namespace KT
open PySem PySem.Spec PyProof.Rows L2 DL
/-! terms as plain data -/
inductive Tm where
  | stop (d : Nat) (l h : Int) | wish (d : Nat) (l h f : Int) | bar (d o : Nat) (l h : Int) | tie (d o : Nat) (l h f : Int)
def Tm.D : Tm → DL.D
  | .stop d l h => .tup [.str "stop", .int d, .int l, .int h]
  | .wish d l h f => .tup [.str "wish", .int d, .int l, .int h, .int f]
  | .bar d o l h => .tup [.str "bar", .int d, .int o, .int l, .int h]
  | .tie d o l h f => .tup [.str "tie", .int d, .int o, .int l, .int h, .int f]
def Tm.low : Tm → Int
  | .stop _ l _ => l | .wish _ l _ _ => l | .bar _ _ l _ => l | .tie _ _ l _ _ => l
def Tm.high : Tm → Int
  | .stop _ _ h => h | .wish _ _ h _ => h | .bar _ _ _ h => h | .tie _ _ _ h _ => h
def Tm.ends : Tm → Int → Int → Tm
  | .stop d _ _, l, h => .stop d l h
  | .wish d _ _ f, l, h => .wish d l h f
  | .bar d o _ _, l, h => .bar d o l h
  | .tie d o _ _ f, l, h => .tie d o l h f
def Tm.dial : Tm → Nat
  | .stop d _ _ => d | .wish d _ _ _ => d | .bar d _ _ _ => d | .tie d _ _ _ _ => d
/-- the other dial, the force: None for what isn't there -/
def Tm.oth : Tm → DL.D
  | .stop .. => .non | .wish .. => .non | .bar _ o _ _ => .int o | .tie _ o _ _ _ => .int o
def Tm.frc : Tm → DL.D
  | .stop .. => .non | .wish _ _ _ f => .int f | .bar .. => .non | .tie _ _ _ _ f => .int f
def Tm.pulls : Tm → Bool
  | .stop .. => false | .wish .. => true | .bar .. => false | .tie .. => true
def Tm.force : Tm → Int
  | .stop .. => 0 | .wish _ _ _ f => f | .bar .. => 0 | .tie _ _ _ _ f => f
/-- its dials are dials of a standing of this length -/
def Tm.In (n : Nat) : Tm → Prop
  | .stop d _ _ => d < n | .wish d _ _ _ => d < n | .bar d o _ _ => d < n ∧ o < n | .tie d o _ _ _ => d < n ∧ o < n
def Tm.arg (xs : List Int) : Tm → Int
  | .stop d _ _ => xs.getD d 0 | .wish d _ _ _ => xs.getD d 0 | .bar d o _ _ => xs.getD d 0 - xs.getD o 0 | .tie d o _ _ _ => xs.getD d 0 - xs.getD o 0
def Tm.far (t : Tm) (x : Int) : Int := if x < t.low then t.low - x else if x > t.high then x - t.high else 0
def Tm.Ok (n : Nat) (m : Int) (t : Tm) : Prop := t.In n ∧ (-(10 ^ 18) ≤ t.low ∧ t.low ≤ t.high ∧ t.high ≤ 10 ^ 18) ∧ match t with
  | .stop .. => True
  | .wish _ _ _ f => 1 ≤ f ∧ f ≤ m
  | .bar d o _ _ => d ≠ o
  | .tie d o _ _ f => d ≠ o ∧ 1 ≤ f ∧ f ≤ m
/-- a row of settings -/
def Row (n : Nat) (b : Int) (xs : List Int) : Prop := xs.length = n ∧ ∀ x ∈ xs, -b ≤ x ∧ x ≤ b
theorem Row.get {n : Nat} {b : Int} {xs : List Int} (h : Row n b xs) {k : Nat} (hk : k < n) : -b ≤ xs.getD k 0 ∧ xs.getD k 0 ≤ b := by
  have h1 : k < xs.length := by rw [h.1]; exact hk
  have h2 : xs.getD k 0 = xs[k] := by simp [h1]
  rw [h2]
  exact h.2 _ (List.getElem_mem h1)
theorem other_ok {d n v : Int} (h1 : 0 ≤ d) (h2 : d < n) (h3 : 0 ≤ v) (h4 : v < n - 1) : 0 ≤ (d + 1 + v) % n ∧ (d + 1 + v) % n < n ∧ (d + 1 + v) % n ≠ d := by
  refine ⟨Int.emod_nonneg _ (by omega), Int.emod_lt_of_pos _ (by omega), ?_⟩
  by_cases h : d + 1 + v < n
  · rw [Int.emod_eq_of_lt (by omega) h]; omega
  · have e : d + 1 + v = (d + 1 + v - n) + n * 1 := by omega
    rw [e, Int.add_mul_emod_self_left, Int.emod_eq_of_lt (by omega) (by omega)]; omega
end KT
namespace KT
open PySem PySem.Spec PyProof.Rows L2 DL
/-! short bodies of defs that stand in many laws -/
abbrev n_other_of : List Str := ["term"]
def b_other_of : DL.B := (.ret (.ife (.cmp .inn (.ix (.nm 0) (.int 0)) (.tup (.cons (.str "tie") (.cons (.str "bar") .nil)))) (.ix (.nm 0) (.int 2)) .non) .nil)
abbrev n_ends_of : List Str := ["term", "begin"]
def b_ends_of : DL.B := (.asg (.nm 1) (.ife (.cmp .inn (.ix (.nm 0) (.int 0)) (.tup (.cons (.str "tie") (.cons (.str "bar") .nil)))) (.int 3) (.int 2)) (.ret (.tup (.cons (.ix (.nm 0) (.nm 1)) (.cons (.ix (.nm 0) (.bin .add (.nm 1) (.int 1))) .nil))) .nil))
abbrev n_argument : List Str := ["term", "standing", "other"]
def b_argument : DL.B := (.asg (.nm 2) (.call 0 (.cons (.nm 0) .nil)) (.ret (.bin .sub (.ix (.nm 1) (.ix (.nm 0) (.int 1))) (.ife (.cmp .notN (.nm 2) .non) (.ix (.nm 1) (.nm 2)) (.int 0))) .nil))
abbrev n_distance : List Str := ["term", "argument", "low", "high"]
def b_distance : DL.B := (.asg (.cons (.nm 2) (.cons (.nm 3) .nil)) (.call 0 (.cons (.nm 0) .nil)) (.ret (.blt .max (.cons (.bin .sub (.nm 2) (.nm 1)) (.cons (.bin .sub (.nm 1) (.nm 3)) (.cons (.int 0) .nil)))) .nil))
abbrev n_with_ends : List Str := ["term", "low", "high", "begin"]
def b_with_ends : DL.B := (.asg (.nm 3) (.ife (.cmp .inn (.ix (.nm 0) (.int 0)) (.tup (.cons (.str "tie") (.cons (.str "bar") .nil)))) (.int 3) (.int 2)) (.ret (.bin .add (.bin .add (.sl (.nm 0) .nop (.prt (.nm 3))) (.tup (.cons (.nm 1) (.cons (.nm 2) .nil)))) (.sl (.nm 0) (.prt (.bin .add (.nm 3) (.int 2))) .nop)) .nil))
abbrev n_mirrored : List Str := ["term", "low", "high"]
def b_mirrored : DL.B := (.asg (.cons (.nm 1) (.cons (.nm 2) .nil)) (.call 0 (.cons (.nm 0) .nil)) (.ret (.call 1 (.cons (.nm 0) (.cons (.neg (.nm 2)) (.cons (.neg (.nm 1)) .nil)))) .nil))
abbrev n_moved : List Str := ["term", "by", "low", "high"]
def b_moved : DL.B := (.asg (.cons (.nm 2) (.cons (.nm 3) .nil)) (.call 0 (.cons (.nm 0) .nil)) (.ret (.call 1 (.cons (.nm 0) (.cons (.bin .add (.nm 2) (.nm 1)) (.cons (.bin .add (.nm 3) (.nm 1)) .nil)))) .nil))
abbrev n_law_parts : List Str := ["_law_term_here", "_law_begin", "_law_other"]
def b_law_parts : DL.B := (.asg (.nm 1) (.bin .add (.int 2) (.blt .int (.cons (.cmp .inn (.ix (.nm 0) (.int 0)) (.tup (.cons (.str "tie") (.cons (.str "bar") .nil)))) .nil))) (.asg (.nm 2) (.ife (.cmp .eq (.nm 1) (.int 3)) (.ix (.nm 0) (.int 2)) .non) (.ret (.tup (.cons (.ix (.nm 0) (.int 1)) (.cons (.nm 2) (.cons (.ix (.nm 0) (.nm 1)) (.cons (.ix (.nm 0) (.bin .add (.nm 1) (.int 1))) (.cons (.ife (.cmp .inn (.ix (.nm 0) (.int 0)) (.tup (.cons (.str "wish") (.cons (.str "tie") .nil)))) (.ix (.nm 0) (.neg (.int 1))) .non) .nil)))))) .nil)))
abbrev n_law_argument : List Str := ["_law_term_here", "_law_standing_here", "_law_dial", "_law_other", "_law_low", "_law_high", "_law_force"]
def b_law_argument : DL.B := (.asg (.cons (.nm 2) (.cons (.nm 3) (.cons (.nm 4) (.cons (.nm 5) (.cons (.nm 6) .nil))))) (.call 0 (.cons (.nm 0) .nil)) (.ret (.ife (.cmp .isN (.nm 3) .non) (.ix (.nm 1) (.nm 2)) (.bin .sub (.ix (.nm 1) (.nm 2)) (.ix (.nm 1) (.nm 3)))) .nil))
abbrev n_law_far : List Str := ["_law_term_here", "_law_value", "_law_low", "_law_high"]
def b_law_far : DL.B := (.asg (.cons (.nm 2) (.cons (.nm 3) .nil)) (.sl (.call 0 (.cons (.nm 0) .nil)) (.prt (.int 2)) (.prt (.int 4))) (.ite (.cmp .lt (.nm 1) (.nm 2)) (.ret (.bin .sub (.nm 2) (.nm 1)) .nil) .nil (.ret (.ife (.cmp .gt (.nm 1) (.nm 3)) (.bin .sub (.nm 1) (.nm 3)) (.int 0)) .nil)))
abbrev n_law_number : List Str := ["_law_bag_here", "_law_scale"]
def b_law_number : DL.B := (.ret (.bin .sub (.call 0 (.cons (.nm 0) (.cons (.bin .add (.bin .mul (.int 2) (.nm 1)) (.int 1)) .nil))) (.nm 1)) .nil)
abbrev n_law_standing : List Str := ["_law_bag_here", "_law_size", "_law_scale", "_law_middle", "_law_dial"]
def b_law_standing : DL.B := (.asg (.nm 3) (.ix (.lst (.cons (.int 0) (.cons (.int 0) (.cons (.int 0) (.cons (.bin .pow (.int 10) (.int 9)) (.cons (.neg (.bin .pow (.int 10) (.int 9))) (.cons (.bin .sub (.bin .pow (.int 10) (.int 18)) (.int 50)) .nil))))))) (.call 0 (.cons (.nm 0) (.cons (.int 6) .nil)))) (.ret (.blt .tuple (.cons (.lc [4] (.nm 4) (.rng (.cons (.nm 1) .nil)) .nop (.bin .add (.nm 3) (.call 1 (.cons (.nm 0) (.cons (.nm 2) .nil))))) .nil)) .nil))
abbrev n_law_range : List Str := ["_law_bag_here", "_law_value", "_law_scale", "_law_inside", "_law_low", "_law_high"]
def b_law_range : DL.B := (.ite (.not (.val (.nm 3))) (.aug .add 1 (.call 0 (.cons (.nm 0) (.cons (.nm 2) .nil))) .nil) .nil (.par2 4 5 (.bin .sub (.nm 1) (.bin .mul (.call 1 (.cons (.nm 0) (.cons (.int 3) .nil))) (.call 1 (.cons (.nm 0) (.cons (.nm 2) .nil))))) (.bin .add (.nm 1) (.bin .mul (.call 1 (.cons (.nm 0) (.cons (.int 3) .nil))) (.call 1 (.cons (.nm 0) (.cons (.nm 2) .nil))))) (.asg (.cons (.nm 4) (.cons (.nm 5) .nil)) (.ix (.lst (.cons (.tup (.cons (.nm 4) (.cons (.nm 5) .nil))) (.cons (.tup (.cons (.nm 1) (.cons (.nm 1) .nil))) (.cons (.tup (.cons (.nm 4) (.cons (.bin .add (.nm 4) (.int 1)) .nil))) (.cons (.tup (.cons (.nm 5) (.cons (.nm 5) .nil))) .nil))))) (.bin .mul (.call 1 (.cons (.nm 0) (.cons (.int 4) .nil))) (.blt .int (.cons (.not (.nm 3)) .nil)))) (.asg (.nm 4) (.blt .max (.cons (.neg (.bin .pow (.int 10) (.int 18))) (.cons (.blt .min (.cons (.bin .pow (.int 10) (.int 18)) (.cons (.nm 4) .nil))) .nil))) (.ret (.tup (.cons (.nm 4) (.cons (.blt .max (.cons (.nm 4) (.cons (.blt .min (.cons (.nm 5) (.cons (.bin .pow (.int 10) (.int 18)) .nil))) .nil))) .nil))) .nil)))))
abbrev n_law_term : List Str := ["_law_bag_here", "_law_standing_here", "_law_scale", "_law_most", "_law_stops", "_law_force", "_law_other", "_law_size", "_law_way", "_law_dial", "_law_inside", "_law_low", "_law_high"]
def b_law_term : DL.B := (.par2 7 8 (.blt .len (.cons (.nm 1) .nil)) (.call 0 (.cons (.nm 0) (.cons (.int 8) .nil))) (.par2 9 10 (.call 0 (.cons (.nm 0) (.cons (.nm 7) .nil))) (.and (.nm 4) (.one (.cmp .gt (.nm 8) (.int 5)))) (.asg (.nm 5) (.bin .add (.int 1) (.call 0 (.cons (.nm 0) (.cons (.nm 3) .nil)))) (.ite (.or (.cmp .eq (.nm 7) (.int 1)) (.one (.cmp .inn (.nm 8) (.tup (.cons (.int 0) (.cons (.int 1) (.cons (.int 2) (.cons (.int 6) .nil)))))))) (.asg (.cons (.nm 11) (.cons (.nm 12) .nil)) (.call 1 (.cons (.nm 0) (.cons (.ix (.nm 1) (.nm 9)) (.cons (.nm 2) (.cons (.nm 10) .nil))))) (.ret (.ife (.val (.nm 10)) (.tup (.cons (.str "stop") (.cons (.nm 9) (.cons (.nm 11) (.cons (.nm 12) .nil))))) (.tup (.cons (.str "wish") (.cons (.nm 9) (.cons (.nm 11) (.cons (.nm 12) (.cons (.nm 5) .nil))))))) .nil)) .nil (.asg (.nm 6) (.bin .mod (.bin .add (.bin .add (.nm 9) (.int 1)) (.call 0 (.cons (.nm 0) (.cons (.bin .sub (.nm 7) (.int 1)) .nil)))) (.nm 7)) (.asg (.cons (.nm 11) (.cons (.nm 12) .nil)) (.call 1 (.cons (.nm 0) (.cons (.bin .sub (.ix (.nm 1) (.nm 9)) (.ix (.nm 1) (.nm 6))) (.cons (.nm 2) (.cons (.nm 10) .nil))))) (.ret (.ife (.val (.nm 10)) (.tup (.cons (.str "bar") (.cons (.nm 9) (.cons (.nm 6) (.cons (.nm 11) (.cons (.nm 12) .nil)))))) (.tup (.cons (.str "tie") (.cons (.nm 9) (.cons (.nm 6) (.cons (.nm 11) (.cons (.nm 12) (.cons (.nm 5) .nil)))))))) .nil)))))))
end KT
namespace KT
open PySem PySem.Spec PyProof.Rows L2 DL
local macro_rules | `(tactic| trace_state) => `(tactic| repeat' first | (with_reducible show w _ _ _ _; first | with_reducible refine w_nm (by with_unfolding_all exact rfl) ?_ | with_reducible refine w_ix ?_ | with_reducible refine w_int ?_ | with_reducible refine w_bin ?_ | with_reducible refine w_cmp ?_ | with_reducible refine w_call (by with_unfolding_all exact rfl) ?_ | with_reducible refine w_blt ?_ | with_reducible refine w_ow (by with_unfolding_all exact rfl) ?_ | with_reducible refine w_tup ?_ | with_reducible refine w_lst ?_ | with_reducible refine w_str ?_ | with_reducible refine w_neg ?_ | with_reducible refine w_ife ?_ | with_reducible refine w_sl ?_ | with_reducible refine w_and ?_ | with_reducible refine w_one ?_ | with_reducible refine w_or ?_ | with_reducible refine w_not ?_ | with_reducible refine w_bl ?_ | with_reducible refine w_non ?_ | with_reducible refine w_gl (by with_unfolding_all exact rfl) ?_ | with_reducible refine w_chn ?_ | with_reducible refine w_lc (by with_unfolding_all exact rfl) ?_ | with_reducible refine w_isi ?_ | with_reducible refine w_lr1 ?_ | with_reducible refine w_lr2 ?_) | (with_reducible show wa _ _ _ _; first | with_reducible refine wa_cons ?_ | with_reducible refine wa_nil ?_) | (with_reducible show wv _ _ _ _; first | with_reducible refine wv_cons ?_ | with_reducible refine wv_nil ?_) | (with_reducible show T.fin _ _; first | with_reducible refine fin_leaf (by with_unfolding_all exact rfl) ?_ | with_reducible refine fin_mk (by with_unfolding_all exact rfl) ?_ | with_reducible refine fin_lst (by with_unfolding_all exact rfl) ?_ | with_reducible refine fin_tup (by with_unfolding_all exact rfl) ?_) | (with_reducible show And _ _; first | with_reducible refine and_len (by with_unfolding_all exact rfl) ?_) | (with_reducible show frozs _ _ _; first | with_reducible refine fz_nil ?_ | with_reducible refine fz_cons ?_) | (with_reducible show T.froz _ _ _; first | with_reducible refine fz_leaf (by with_unfolding_all exact rfl) ?_ | with_reducible refine fz_lst (by with_unfolding_all exact rfl) (by with_unfolding_all exact rfl) ?_ | with_reducible refine fz_tup (by with_unfolding_all exact rfl) (by with_unfolding_all exact rfl) ?_ | with_reducible refine fz_vw (by with_unfolding_all exact rfl) (by with_unfolding_all exact rfl) ?_) | (with_reducible show ixT _ _ _; first | with_reducible refine ix_lt (by with_unfolding_all exact rfl) (by with_unfolding_all exact rfl) (by with_unfolding_all exact at_getD (by assumption)) ?_ | with_reducible refine ix_lt (by with_unfolding_all exact rfl) (by with_unfolding_all exact rfl) (by with_unfolding_all exact rfl) ?_ | with_reducible refine ix_lst (by with_unfolding_all exact rfl) (by with_unfolding_all exact rfl) (by with_unfolding_all exact rfl) ?_ | with_reducible refine ix_ll (by with_unfolding_all exact rfl) (by with_unfolding_all exact rfl) (by with_unfolding_all exact rfl) ?_ | with_reducible refine ix_vli (by with_unfolding_all exact rfl) (by with_unfolding_all exact rfl) (by with_unfolding_all exact rfl) ?_ | with_reducible refine ix_vll (by with_unfolding_all exact rfl) (by with_unfolding_all exact rfl) (by with_unfolding_all exact rfl) ?_ | with_reducible refine ix_tup (by with_unfolding_all exact rfl) (by with_unfolding_all exact rfl) (by with_unfolding_all exact rfl) ?_ | with_reducible refine ix_vti (by with_unfolding_all exact rfl) (by with_unfolding_all exact rfl) (by with_unfolding_all exact rfl) ?_ | with_reducible refine ix_vlt (by with_unfolding_all exact rfl) (by with_unfolding_all exact rfl) (by with_unfolding_all exact rfl) ?_ | with_reducible refine ix_vtl (by with_unfolding_all exact rfl) (by with_unfolding_all exact rfl) (by with_unfolding_all exact rfl) ?_ | with_reducible refine ix_vls (by with_unfolding_all exact rfl) (by with_unfolding_all exact rfl) (by with_unfolding_all exact rfl) ?_) | (with_reducible show DL.binT _ _ _ _; first | with_reducible refine b_add (by with_unfolding_all exact rfl) (by with_unfolding_all exact rfl) ?_ | with_reducible refine b_sub (by with_unfolding_all exact rfl) (by with_unfolding_all exact rfl) ?_ | with_reducible refine b_mul (by with_unfolding_all exact rfl) (by with_unfolding_all exact rfl) (by with_unfolding_all exact mulR ⟨by decide, by decide⟩) ?_ | with_reducible refine b_mul (by with_unfolding_all exact rfl) (by with_unfolding_all exact rfl) (by with_unfolding_all exact mulL ⟨by decide, by decide⟩) ?_ | with_reducible refine b_mul (by with_unfolding_all exact rfl) (by with_unfolding_all exact rfl) (by with_unfolding_all exact mulL ⟨by omega, by omega⟩) ?_ | with_reducible refine b_mul (by with_unfolding_all exact rfl) (by with_unfolding_all exact rfl) (by with_unfolding_all exact mulR ⟨by omega, by omega⟩) ?_ | with_reducible refine b_mul (by with_unfolding_all exact rfl) (by with_unfolding_all exact rfl) ?_ ?_ | with_reducible refine b_p18 (by with_unfolding_all exact rfl) (by with_unfolding_all exact rfl) ?_ | with_reducible refine b_p9 (by with_unfolding_all exact rfl) (by with_unfolding_all exact rfl) ?_ | with_reducible refine b_p38 (by with_unfolding_all exact rfl) (by with_unfolding_all exact rfl) ?_ | with_reducible refine b_p17 (by with_unfolding_all exact rfl) (by with_unfolding_all exact rfl) ?_ | with_reducible refine b_p40 (by with_unfolding_all exact rfl) (by with_unfolding_all exact rfl) ?_ | with_reducible refine b_p39 (by with_unfolding_all exact rfl) (by with_unfolding_all exact rfl) ?_ | with_reducible refine b_p21 (by with_unfolding_all exact rfl) (by with_unfolding_all exact rfl) ?_ | with_reducible refine b_p20 (by with_unfolding_all exact rfl) (by with_unfolding_all exact rfl) ?_ | with_reducible refine b_p6 (by with_unfolding_all exact rfl) (by with_unfolding_all exact rfl) ?_ | with_reducible refine b_pow (by with_unfolding_all exact rfl) (by with_unfolding_all exact rfl) (by with_unfolding_all decide) ?_ | with_reducible refine b_mod (by with_unfolding_all exact rfl) (by with_unfolding_all exact rfl) (by with_unfolding_all (first | decide | assumption | omega)) ?_ | with_reducible refine b_mod (by with_unfolding_all exact rfl) (by with_unfolding_all exact rfl) ?_ ?_ | with_reducible refine b_fdiv (by with_unfolding_all exact rfl) (by with_unfolding_all exact rfl) (by with_unfolding_all exact ⟨by decide, by decide⟩) ?_ | with_reducible refine b_fdiv (by with_unfolding_all exact rfl) (by with_unfolding_all exact rfl) (by with_unfolding_all exact ⟨by assumption, by assumption⟩) ?_ | with_reducible refine b_fdiv (by with_unfolding_all exact rfl) (by with_unfolding_all exact rfl) ?_ ?_ | with_reducible refine b_catL (by with_unfolding_all exact rfl) (by with_unfolding_all exact rfl) (by with_unfolding_all exact rfl) ?_) | (with_reducible show cmpD _ _ _ _; first | with_reducible refine c_eq (by with_unfolding_all exact rfl) (by with_unfolding_all exact rfl) ?_ | with_reducible refine c_ne (by with_unfolding_all exact rfl) (by with_unfolding_all exact rfl) ?_ | with_reducible refine c_lt (by with_unfolding_all exact rfl) (by with_unfolding_all exact rfl) ?_ | with_reducible refine c_le (by with_unfolding_all exact rfl) (by with_unfolding_all exact rfl) ?_ | with_reducible refine c_gt (by with_unfolding_all exact rfl) (by with_unfolding_all exact rfl) ?_ | with_reducible refine c_ge (by with_unfolding_all exact rfl) (by with_unfolding_all exact rfl) ?_ | with_reducible refine c_nes (by with_unfolding_all exact rfl) (by with_unfolding_all exact rfl) ?_ | with_reducible refine c_eqs (by with_unfolding_all exact rfl) (by with_unfolding_all exact rfl) ?_ | with_reducible refine c_inT (by with_unfolding_all exact rfl) (by with_unfolding_all exact rfl) (by with_unfolding_all (first | exact tb_stop | exact tb_wish | exact tb_bar | exact tb_tie | exact wt_stop | exact wt_wish | exact wt_bar | exact wt_tie)) ?_ | with_reducible refine c_isT (by with_unfolding_all exact rfl) (by with_unfolding_all exact rfl) ?_ | with_reducible refine c_isF (by with_unfolding_all exact rfl) (by with_unfolding_all exact rfl) ?_ | with_reducible refine c_notT (by with_unfolding_all exact rfl) (by with_unfolding_all exact rfl) ?_ | with_reducible refine c_notF (by with_unfolding_all exact rfl) (by with_unfolding_all exact rfl) ?_) | (with_reducible show wt _ _ _ _; first | with_reducible refine wt_cmp ?_ | with_reducible refine wt_not ?_ | with_reducible refine wt_val ?_ | with_reducible refine wt_and ?_ | with_reducible refine wt_or ?_ | with_reducible refine wt_one ?_ | with_reducible refine wt_chn ?_) | (with_reducible show @ite _ _ _ _ _; first | with_reducible refine ite_t ?_ | with_reducible refine ite_f ?_ | with_reducible refine ite_nt ?_ | with_reducible refine ite_nf ?_ | with_reducible refine ite_decT (by decide) ?_ | with_reducible refine ite_decF (by decide) ?_ | with_reducible refine ite_dec (fun _ => ?_) (fun _ => ?_) | with_reducible refine ite_ndecT (by with_unfolding_all exact rfl) ?_ | with_reducible refine ite_ndec (fun _ => ?_) (fun _ => ?_)) | (with_reducible show wb _ _ _ _; first | with_reducible refine wb_asg ?_ | with_reducible refine wb_ite ?_ | with_reducible refine wb_ret ?_ | with_reducible refine wb_nil ?_ | with_reducible refine wb_for ?_ | with_reducible refine wb_asgLc (by with_unfolding_all exact rfl) (by with_unfolding_all exact rfl) ?_ | with_reducible refine wb_setix (by with_unfolding_all exact rfl) ?_ | with_reducible refine wb_augix (by with_unfolding_all exact rfl) ?_ | with_reducible refine wb_aug (by with_unfolding_all exact rfl) (by with_unfolding_all exact rfl) ?_ | with_reducible refine wb_ex ?_ | with_reducible refine wb_fz (by with_unfolding_all exact rfl) (by with_unfolding_all exact rfl) ?_ | with_reducible refine wb_pass ?_ | with_reducible refine wb_brk ?_ | with_reducible refine wb_cont ?_ | with_reducible refine wb_retN ?_ | with_reducible refine wb_par2 (by with_unfolding_all decide) (by with_unfolding_all exact rfl) (by with_unfolding_all exact rfl) ?_ | with_reducible refine wb_app (by with_unfolding_all exact rfl) (by with_unfolding_all (simp; done)) ?_ | with_reducible refine wb_app (by with_unfolding_all exact rfl) ?_ ?_) | (with_reducible show Exists _; first | with_reducible refine bind_nm (by with_unfolding_all exact rfl) ?_ | with_reducible refine bind_pair (by with_unfolding_all exact rfl) (by with_unfolding_all exact rfl) (by with_unfolding_all exact rfl) ?_ | with_reducible refine bind_5 (by with_unfolding_all exact rfl) (by with_unfolding_all exact rfl) ?_ | with_reducible refine ex_int (by with_unfolding_all exact rfl) ?_ | with_reducible refine ex_bl (by with_unfolding_all exact rfl) ?_ | with_reducible refine ex_isT (by with_unfolding_all exact rfl) ?_ | with_reducible refine set_to (by with_unfolding_all exact rfl) (by with_unfolding_all exact rfl) ?_ | with_reducible refine aug_to (by with_unfolding_all exact rfl) (by with_unfolding_all exact rfl) (by with_unfolding_all exact rfl) ?_ | with_reducible refine ex_rg1 (by with_unfolding_all exact rfl) (by with_unfolding_all (unfold RgS; omega)) ?_ | with_reducible refine ex_rg2 (by with_unfolding_all exact rfl) (by with_unfolding_all exact rfl) (by with_unfolding_all (unfold RgS; omega)) ?_) | (with_reducible show bltT _ _ _; first | with_reducible refine l_lens (by with_unfolding_all exact rfl) ?_ | with_reducible refine l_len (by with_unfolding_all exact rfl) ?_ | with_reducible refine l_lent (by with_unfolding_all exact rfl) ?_ | with_reducible refine l_abs (by with_unfolding_all exact rfl) ?_ | with_reducible refine l_max2 (by with_unfolding_all exact rfl) (by with_unfolding_all exact rfl) ?_ | with_reducible refine l_min2 (by with_unfolding_all exact rfl) (by with_unfolding_all exact rfl) ?_ | with_reducible refine l_max3 (by with_unfolding_all exact rfl) (by with_unfolding_all exact rfl) (by with_unfolding_all exact rfl) ?_ | with_reducible refine l_intT (by with_unfolding_all exact rfl) ?_ | with_reducible refine l_intF (by with_unfolding_all exact rfl) ?_ | with_reducible refine l_intD (by with_unfolding_all exact rfl) (fun _ => ?_) (fun _ => ?_)) | (with_reducible show slT _ _ _ _; first | with_reducible refine sl_lt (by with_unfolding_all exact rfl) (by with_unfolding_all exact rfl) ?_) | (with_reducible show tru _ _; first | with_reducible refine t_bl (by with_unfolding_all exact rfl) ?_) | (with_reducible show augD _ _ _ _; first | with_reducible refine a_add (by with_unfolding_all exact rfl) (by with_unfolding_all exact rfl) ?_ | with_reducible refine a_sub (by with_unfolding_all exact rfl) (by with_unfolding_all exact rfl) ?_) | (with_reducible show wo _ _ _ _; first | with_reducible refine wo_nop ?_ | with_reducible refine wo_prt ?_) | (with_reducible show wi _ _ _ _; first | with_reducible refine wi_rng ?_ | with_reducible refine wi_sq ?_ | with_reducible refine wi_zip ?_ | with_reducible refine wi_enm ?_) | (with_reducible show wc _ _ _ _; first | with_reducible refine wc_nop ?_ | with_reducible refine wc_one ?_))
abbrev WOk (S : Sg) (n : List Str) (b : DL.B) (F : SpecF) (k : Nat) : Prop := ∀ ds Φ, F ds Φ → ds.length = k ∧ wb S b (envS n (ds.map .leaf)) { nx := fun _ => Φ (.leaf .non), rt := fun t _ => Φ t }
/-! a function of the arguments -/
def fnF {α : Type} (g : α → List DL.D) (p : α → Prop) (r : α → DL.D) : SpecF := fun ds Φ => ∃ x, ds = g x ∧ p x ∧ Φ (.leaf (r x))
theorem fnM {α : Type} (g : α → List DL.D) (p : α → Prop) (r : α → DL.D) : Mono (fnF g p r) := fun ds Φ Ψ i ⟨x, e, h, k⟩ => ⟨x, e, h, i _ k⟩
def F_other_of : SpecF := fnF (fun t : Tm => [t.D]) (fun _ => True) (fun t => t.oth)
theorem M_other_of : Mono F_other_of := fnM _ _ _
def S_other_of : Sg := { z := true, fs := [], gs := [] }
theorem W_other_of : WOk S_other_of n_other_of b_other_of F_other_of 1 := by
  rintro ds Φ ⟨t, rfl, -, k⟩
  refine ⟨rfl, ?_⟩
  unfold b_other_of
  rcases t with ⟨d, l, h⟩ | ⟨d, l, h, f⟩ | ⟨d, o, l, h⟩ | ⟨d, o, l, h, f⟩
  · trace_state; exact k
  · trace_state; exact k
  · trace_state; exact k
  · trace_state; exact k
def F_ends_of : SpecF := fnF (fun t : Tm => [t.D]) (fun _ => True) (fun t => .tup [.int t.low, .int t.high])
theorem M_ends_of : Mono F_ends_of := fnM _ _ _
def S_ends_of : Sg := { z := true, fs := [], gs := [] }
theorem W_ends_of : WOk S_ends_of n_ends_of b_ends_of F_ends_of 1 := by
  rintro ds Φ ⟨t, rfl, -, k⟩
  refine ⟨rfl, ?_⟩
  unfold b_ends_of
  rcases t with ⟨d, l, h⟩ | ⟨d, l, h, f⟩ | ⟨d, o, l, h⟩ | ⟨d, o, l, h, f⟩
  · trace_state; exact k
  · trace_state; exact k
  · trace_state; exact k
  · trace_state; exact k
def F_argument : SpecF := fnF (fun x : Tm × List Int => [x.1.D, itup x.2]) (fun x => x.1.In x.2.length) (fun x => .int (x.1.arg x.2))
theorem M_argument : Mono F_argument := fnM _ _ _
def S_argument : Sg := { z := true, fs := [F_other_of], gs := [] }
theorem W_argument : WOk S_argument n_argument b_argument F_argument 2 := by
  rintro ds Φ ⟨⟨t, xs⟩, rfl, hI, k⟩
  refine ⟨rfl, ?_⟩
  unfold b_argument
  trace_state
  refine ⟨t, rfl, trivial, ?_⟩
  rcases t with ⟨d, l, h⟩ | ⟨d, l, h, f⟩ | ⟨d, o, l, h⟩ | ⟨d, o, l, h, f⟩
  · have hd : d < xs.length := hI
    trace_state
    rw [Int.sub_zero]; exact k
  · have hd : d < xs.length := hI
    trace_state
    rw [Int.sub_zero]; exact k
  · have hd : d < xs.length := hI.1
    have ho : o < xs.length := hI.2
    trace_state
    exact k
  · have hd : d < xs.length := hI.1
    have ho : o < xs.length := hI.2
    trace_state
    exact k
def F_distance : SpecF := fnF (fun x : Tm × Int => [x.1.D, .int x.2]) (fun x => x.1.low ≤ x.1.high) (fun x => .int (x.1.far x.2))
theorem M_distance : Mono F_distance := fnM _ _ _
def S_distance : Sg := { z := true, fs := [F_ends_of], gs := [] }
theorem W_distance : WOk S_distance n_distance b_distance F_distance 2 := by
  rintro ds Φ ⟨⟨t, a⟩, rfl, hI, k⟩
  refine ⟨rfl, ?_⟩
  unfold b_distance
  trace_state
  refine ⟨t, rfl, trivial, ?_⟩
  trace_state
  have e : t.far a = if (if t.low - a < a - t.high then a - t.high else t.low - a) < 0 then 0 else if t.low - a < a - t.high then a - t.high else t.low - a := by
    have hI : t.low ≤ t.high := hI
    unfold Tm.far
    repeat' split
    all_goals omega
  simp only [e] at k
  exact k
def F_law_parts : SpecF := fnF (fun t : Tm => [t.D]) (fun _ => True) (fun t => .tup [.int t.dial, t.oth, .int t.low, .int t.high, t.frc])
theorem M_law_parts : Mono F_law_parts := fnM _ _ _
def S_law_parts : Sg := { z := true, fs := [], gs := [] }
theorem W_law_parts : WOk S_law_parts n_law_parts b_law_parts F_law_parts 1 := by
  rintro ds Φ ⟨t, rfl, -, k⟩
  refine ⟨rfl, ?_⟩
  unfold b_law_parts
  rcases t with ⟨d, l, h⟩ | ⟨d, l, h, f⟩ | ⟨d, o, l, h⟩ | ⟨d, o, l, h, f⟩
  · trace_state; exact k
  · trace_state; exact k
  · trace_state; exact k
  · trace_state; exact k
def F_law_argument : SpecF := F_argument
theorem M_law_argument : Mono F_law_argument := fnM _ _ _
def S_law_argument : Sg := { z := true, fs := [F_law_parts], gs := [] }
theorem W_law_argument : WOk S_law_argument n_law_argument b_law_argument F_law_argument 2 := by
  rintro ds Φ ⟨⟨t, xs⟩, rfl, hI, k⟩
  refine ⟨rfl, ?_⟩
  unfold b_law_argument
  trace_state
  refine ⟨t, rfl, trivial, ?_⟩
  rcases t with ⟨d, l, h⟩ | ⟨d, l, h, f⟩ | ⟨d, o, l, h⟩ | ⟨d, o, l, h, f⟩
  · have hd : d < xs.length := hI
    trace_state
    exact k
  · have hd : d < xs.length := hI
    trace_state
    exact k
  · have hd : d < xs.length := hI.1
    have ho : o < xs.length := hI.2
    trace_state
    exact k
  · have hd : d < xs.length := hI.1
    have ho : o < xs.length := hI.2
    trace_state
    exact k
def F_law_far : SpecF := fnF (fun x : Tm × Int => [x.1.D, .int x.2]) (fun x => True) (fun x => .int (x.1.far x.2))
theorem M_law_far : Mono F_law_far := fnM _ _ _
def S_law_far : Sg := { z := true, fs := [F_law_parts], gs := [] }
theorem W_law_far : WOk S_law_far n_law_far b_law_far F_law_far 2 := by
  rintro ds Φ ⟨⟨t, a⟩, rfl, -, k⟩
  refine ⟨rfl, ?_⟩
  unfold b_law_far
  trace_state
  refine ⟨t, rfl, trivial, ?_⟩
  trace_state
  all_goals
    have e : Φ (.leaf (.int (t.far a))) := k
    unfold Tm.far at e
    repeat' split at e
    all_goals first | exact e | (exfalso; omega)
end KT
namespace KT
open PySem PySem.Spec PyProof.Rows L2 DL
local macro_rules | `(tactic| trace_state) => `(tactic| repeat' first | (with_reducible show w _ _ _ _; first | with_reducible refine w_nm (by with_unfolding_all exact rfl) ?_ | with_reducible refine w_ix ?_ | with_reducible refine w_int ?_ | with_reducible refine w_bin ?_ | with_reducible refine w_cmp ?_ | with_reducible refine w_call (by with_unfolding_all exact rfl) ?_ | with_reducible refine w_blt ?_ | with_reducible refine w_ow (by with_unfolding_all exact rfl) ?_ | with_reducible refine w_tup ?_ | with_reducible refine w_lst ?_ | with_reducible refine w_str ?_ | with_reducible refine w_neg ?_ | with_reducible refine w_ife ?_ | with_reducible refine w_sl ?_ | with_reducible refine w_and ?_ | with_reducible refine w_one ?_ | with_reducible refine w_or ?_ | with_reducible refine w_not ?_ | with_reducible refine w_bl ?_ | with_reducible refine w_non ?_ | with_reducible refine w_gl (by with_unfolding_all exact rfl) ?_ | with_reducible refine w_chn ?_ | with_reducible refine w_lc (by with_unfolding_all exact rfl) ?_ | with_reducible refine w_isi ?_ | with_reducible refine w_lr1 ?_ | with_reducible refine w_lr2 ?_) | (with_reducible show wa _ _ _ _; first | with_reducible refine wa_cons ?_ | with_reducible refine wa_nil ?_) | (with_reducible show wv _ _ _ _; first | with_reducible refine wv_cons ?_ | with_reducible refine wv_nil ?_) | (with_reducible show T.fin _ _; first | with_reducible refine fin_leaf (by with_unfolding_all exact rfl) ?_ | with_reducible refine fin_mk (by with_unfolding_all exact rfl) ?_ | with_reducible refine fin_lst (by with_unfolding_all exact rfl) ?_ | with_reducible refine fin_tup (by with_unfolding_all exact rfl) ?_) | (with_reducible show And _ _; first | with_reducible refine and_len (by with_unfolding_all exact rfl) ?_) | (with_reducible show frozs _ _ _; first | with_reducible refine fz_nil ?_ | with_reducible refine fz_cons ?_) | (with_reducible show T.froz _ _ _; first | with_reducible refine fz_leaf (by with_unfolding_all exact rfl) ?_ | with_reducible refine fz_lst (by with_unfolding_all exact rfl) (by with_unfolding_all exact rfl) ?_ | with_reducible refine fz_tup (by with_unfolding_all exact rfl) (by with_unfolding_all exact rfl) ?_ | with_reducible refine fz_vw (by with_unfolding_all exact rfl) (by with_unfolding_all exact rfl) ?_) | (with_reducible show ixT _ _ _; first | with_reducible refine ix_lt (by with_unfolding_all exact rfl) (by with_unfolding_all exact rfl) (by with_unfolding_all exact at_getD (by assumption)) ?_ | with_reducible refine ix_lt (by with_unfolding_all exact rfl) (by with_unfolding_all exact rfl) (by with_unfolding_all exact rfl) ?_ | with_reducible refine ix_lst (by with_unfolding_all exact rfl) (by with_unfolding_all exact rfl) (by with_unfolding_all exact rfl) ?_ | with_reducible refine ix_ll (by with_unfolding_all exact rfl) (by with_unfolding_all exact rfl) (by with_unfolding_all exact rfl) ?_ | with_reducible refine ix_vli (by with_unfolding_all exact rfl) (by with_unfolding_all exact rfl) (by with_unfolding_all exact rfl) ?_ | with_reducible refine ix_vll (by with_unfolding_all exact rfl) (by with_unfolding_all exact rfl) (by with_unfolding_all exact rfl) ?_ | with_reducible refine ix_tup (by with_unfolding_all exact rfl) (by with_unfolding_all exact rfl) (by with_unfolding_all exact rfl) ?_ | with_reducible refine ix_vti (by with_unfolding_all exact rfl) (by with_unfolding_all exact rfl) (by with_unfolding_all exact rfl) ?_ | with_reducible refine ix_vlt (by with_unfolding_all exact rfl) (by with_unfolding_all exact rfl) (by with_unfolding_all exact rfl) ?_ | with_reducible refine ix_vtl (by with_unfolding_all exact rfl) (by with_unfolding_all exact rfl) (by with_unfolding_all exact rfl) ?_ | with_reducible refine ix_vls (by with_unfolding_all exact rfl) (by with_unfolding_all exact rfl) (by with_unfolding_all exact rfl) ?_) | (with_reducible show DL.binT _ _ _ _; first | with_reducible refine b_add (by with_unfolding_all exact rfl) (by with_unfolding_all exact rfl) ?_ | with_reducible refine b_sub (by with_unfolding_all exact rfl) (by with_unfolding_all exact rfl) ?_ | with_reducible refine b_mul (by with_unfolding_all exact rfl) (by with_unfolding_all exact rfl) (by with_unfolding_all exact mulR ⟨by decide, by decide⟩) ?_ | with_reducible refine b_mul (by with_unfolding_all exact rfl) (by with_unfolding_all exact rfl) (by with_unfolding_all exact mulL ⟨by decide, by decide⟩) ?_ | with_reducible refine b_mul (by with_unfolding_all exact rfl) (by with_unfolding_all exact rfl) (by with_unfolding_all exact mulL ⟨by omega, by omega⟩) ?_ | with_reducible refine b_mul (by with_unfolding_all exact rfl) (by with_unfolding_all exact rfl) (by with_unfolding_all exact mulR ⟨by omega, by omega⟩) ?_ | with_reducible refine b_mul (by with_unfolding_all exact rfl) (by with_unfolding_all exact rfl) ?_ ?_ | with_reducible refine b_p18 (by with_unfolding_all exact rfl) (by with_unfolding_all exact rfl) ?_ | with_reducible refine b_p9 (by with_unfolding_all exact rfl) (by with_unfolding_all exact rfl) ?_ | with_reducible refine b_p38 (by with_unfolding_all exact rfl) (by with_unfolding_all exact rfl) ?_ | with_reducible refine b_p17 (by with_unfolding_all exact rfl) (by with_unfolding_all exact rfl) ?_ | with_reducible refine b_p40 (by with_unfolding_all exact rfl) (by with_unfolding_all exact rfl) ?_ | with_reducible refine b_p39 (by with_unfolding_all exact rfl) (by with_unfolding_all exact rfl) ?_ | with_reducible refine b_p21 (by with_unfolding_all exact rfl) (by with_unfolding_all exact rfl) ?_ | with_reducible refine b_p20 (by with_unfolding_all exact rfl) (by with_unfolding_all exact rfl) ?_ | with_reducible refine b_p6 (by with_unfolding_all exact rfl) (by with_unfolding_all exact rfl) ?_ | with_reducible refine b_pow (by with_unfolding_all exact rfl) (by with_unfolding_all exact rfl) (by with_unfolding_all decide) ?_ | with_reducible refine b_mod (by with_unfolding_all exact rfl) (by with_unfolding_all exact rfl) (by with_unfolding_all (first | decide | assumption | omega)) ?_ | with_reducible refine b_mod (by with_unfolding_all exact rfl) (by with_unfolding_all exact rfl) ?_ ?_ | with_reducible refine b_fdiv (by with_unfolding_all exact rfl) (by with_unfolding_all exact rfl) (by with_unfolding_all exact ⟨by decide, by decide⟩) ?_ | with_reducible refine b_fdiv (by with_unfolding_all exact rfl) (by with_unfolding_all exact rfl) (by with_unfolding_all exact ⟨by assumption, by assumption⟩) ?_ | with_reducible refine b_fdiv (by with_unfolding_all exact rfl) (by with_unfolding_all exact rfl) ?_ ?_ | with_reducible refine b_catL (by with_unfolding_all exact rfl) (by with_unfolding_all exact rfl) (by with_unfolding_all exact rfl) ?_) | (with_reducible show cmpD _ _ _ _; first | with_reducible refine c_eq (by with_unfolding_all exact rfl) (by with_unfolding_all exact rfl) ?_ | with_reducible refine c_ne (by with_unfolding_all exact rfl) (by with_unfolding_all exact rfl) ?_ | with_reducible refine c_lt (by with_unfolding_all exact rfl) (by with_unfolding_all exact rfl) ?_ | with_reducible refine c_le (by with_unfolding_all exact rfl) (by with_unfolding_all exact rfl) ?_ | with_reducible refine c_gt (by with_unfolding_all exact rfl) (by with_unfolding_all exact rfl) ?_ | with_reducible refine c_ge (by with_unfolding_all exact rfl) (by with_unfolding_all exact rfl) ?_ | with_reducible refine c_nes (by with_unfolding_all exact rfl) (by with_unfolding_all exact rfl) ?_ | with_reducible refine c_eqs (by with_unfolding_all exact rfl) (by with_unfolding_all exact rfl) ?_ | with_reducible refine c_inT (by with_unfolding_all exact rfl) (by with_unfolding_all exact rfl) (by with_unfolding_all (first | exact tb_stop | exact tb_wish | exact tb_bar | exact tb_tie | exact wt_stop | exact wt_wish | exact wt_bar | exact wt_tie)) ?_ | with_reducible refine c_isT (by with_unfolding_all exact rfl) (by with_unfolding_all exact rfl) ?_ | with_reducible refine c_isF (by with_unfolding_all exact rfl) (by with_unfolding_all exact rfl) ?_ | with_reducible refine c_notT (by with_unfolding_all exact rfl) (by with_unfolding_all exact rfl) ?_ | with_reducible refine c_notF (by with_unfolding_all exact rfl) (by with_unfolding_all exact rfl) ?_) | (with_reducible show wt _ _ _ _; first | with_reducible refine wt_cmp ?_ | with_reducible refine wt_not ?_ | with_reducible refine wt_val ?_ | with_reducible refine wt_and ?_ | with_reducible refine wt_or ?_ | with_reducible refine wt_one ?_ | with_reducible refine wt_chn ?_) | (with_reducible show @ite _ _ _ _ _; first | with_reducible refine ite_t ?_ | with_reducible refine ite_f ?_ | with_reducible refine ite_nt ?_ | with_reducible refine ite_nf ?_ | with_reducible refine ite_decT (by decide) ?_ | with_reducible refine ite_decF (by decide) ?_ | with_reducible refine ite_dec (fun _ => ?_) (fun _ => ?_) | with_reducible refine ite_ndecT (by with_unfolding_all exact rfl) ?_ | with_reducible refine ite_ndec (fun _ => ?_) (fun _ => ?_)) | (with_reducible show wb _ _ _ _; first | with_reducible refine wb_asg ?_ | with_reducible refine wb_ite ?_ | with_reducible refine wb_ret ?_ | with_reducible refine wb_nil ?_ | with_reducible refine wb_for ?_ | with_reducible refine wb_asgLc (by with_unfolding_all exact rfl) (by with_unfolding_all exact rfl) ?_ | with_reducible refine wb_setix (by with_unfolding_all exact rfl) ?_ | with_reducible refine wb_augix (by with_unfolding_all exact rfl) ?_ | with_reducible refine wb_aug (by with_unfolding_all exact rfl) (by with_unfolding_all exact rfl) ?_ | with_reducible refine wb_ex ?_ | with_reducible refine wb_fz (by with_unfolding_all exact rfl) (by with_unfolding_all exact rfl) ?_ | with_reducible refine wb_pass ?_ | with_reducible refine wb_brk ?_ | with_reducible refine wb_cont ?_ | with_reducible refine wb_retN ?_ | with_reducible refine wb_par2 (by with_unfolding_all decide) (by with_unfolding_all exact rfl) (by with_unfolding_all exact rfl) ?_ | with_reducible refine wb_app (by with_unfolding_all exact rfl) (by with_unfolding_all (simp; done)) ?_ | with_reducible refine wb_app (by with_unfolding_all exact rfl) ?_ ?_) | (with_reducible show Exists _; first | with_reducible refine bind_nm (by with_unfolding_all exact rfl) ?_ | with_reducible refine bind_pair (by with_unfolding_all exact rfl) (by with_unfolding_all exact rfl) (by with_unfolding_all exact rfl) ?_ | with_reducible refine bind_5 (by with_unfolding_all exact rfl) (by with_unfolding_all exact rfl) ?_ | with_reducible refine ex_int (by with_unfolding_all exact rfl) ?_ | with_reducible refine ex_bl (by with_unfolding_all exact rfl) ?_ | with_reducible refine ex_isT (by with_unfolding_all exact rfl) ?_ | with_reducible refine set_to (by with_unfolding_all exact rfl) (by with_unfolding_all exact rfl) ?_ | with_reducible refine aug_to (by with_unfolding_all exact rfl) (by with_unfolding_all exact rfl) (by with_unfolding_all exact rfl) ?_ | with_reducible refine ex_rg1 (by with_unfolding_all exact rfl) (by with_unfolding_all (unfold RgS; omega)) ?_ | with_reducible refine ex_rg2 (by with_unfolding_all exact rfl) (by with_unfolding_all exact rfl) (by with_unfolding_all (unfold RgS; omega)) ?_) | (with_reducible show bltT _ _ _; first | with_reducible refine l_lens (by with_unfolding_all exact rfl) ?_ | with_reducible refine l_len (by with_unfolding_all exact rfl) ?_ | with_reducible refine l_lent (by with_unfolding_all exact rfl) ?_ | with_reducible refine l_abs (by with_unfolding_all exact rfl) ?_ | with_reducible refine l_max2 (by with_unfolding_all exact rfl) (by with_unfolding_all exact rfl) ?_ | with_reducible refine l_min2 (by with_unfolding_all exact rfl) (by with_unfolding_all exact rfl) ?_ | with_reducible refine l_max3 (by with_unfolding_all exact rfl) (by with_unfolding_all exact rfl) (by with_unfolding_all exact rfl) ?_ | with_reducible refine l_intT (by with_unfolding_all exact rfl) ?_ | with_reducible refine l_intF (by with_unfolding_all exact rfl) ?_ | with_reducible refine l_intD (by with_unfolding_all exact rfl) (fun _ => ?_) (fun _ => ?_)) | (with_reducible show slT _ _ _ _; first | with_reducible refine sl_lt (by with_unfolding_all exact rfl) (by with_unfolding_all exact rfl) ?_) | (with_reducible show tru _ _; first | with_reducible refine t_bl (by with_unfolding_all exact rfl) ?_) | (with_reducible show augD _ _ _ _; first | with_reducible refine a_add (by with_unfolding_all exact rfl) (by with_unfolding_all exact rfl) ?_ | with_reducible refine a_sub (by with_unfolding_all exact rfl) (by with_unfolding_all exact rfl) ?_) | (with_reducible show wo _ _ _ _; first | with_reducible refine wo_nop ?_ | with_reducible refine wo_prt ?_) | (with_reducible show wi _ _ _ _; first | with_reducible refine wi_rng ?_ | with_reducible refine wi_sq ?_ | with_reducible refine wi_zip ?_ | with_reducible refine wi_enm ?_) | (with_reducible show wc _ _ _ _; first | with_reducible refine wc_nop ?_ | with_reducible refine wc_one ?_))
def tl : DL.B → DL.B
  | .asg _ _ r => r
  | .asgLc _ _ _ _ _ _ r => r
  | .par2 _ _ _ _ r => r
  | .ite _ _ _ r => r
  | .fz _ r => r
  | .for_ _ _ _ r => r
  | .aug _ _ _ r => r
  | .setix _ _ _ r => r
  | .app _ _ r => r
  | b => b
def F_law_number : SpecF := fun ds Φ => ∃ n, ds = [.bag, .int n] ∧ 0 ≤ n ∧ n ≤ 10 ^ 40 ∧ ∀ v, -n ≤ v → v ≤ n → Φ (.leaf (.int v))
theorem M_law_number : Mono F_law_number := fun ds Φ Ψ i ⟨n, e, h1, h2, k⟩ => ⟨n, e, h1, h2, fun v a b => i _ (k v a b)⟩
def S_law_number : Sg := { z := true, fs := [takeF], gs := [] }
theorem W_law_number : WOk S_law_number n_law_number b_law_number F_law_number 2 := by
  rintro ds Φ ⟨n, rfl, h1, h2, k⟩
  refine ⟨rfl, ?_⟩
  unfold b_law_number
  trace_state
  refine ⟨_, rfl, ⟨by omega, ?_⟩, fun v a b => ?_⟩
  · have : (2 : Int) * 10 ^ 40 + 1 < 10 ^ 100 := by decide +kernel
    omega
  trace_state
  exact k _ (by omega) (by omega)
def F_law_standing : SpecF := fun ds Φ => ∃ (n : Nat) (s : Int), ds = [.bag, .int n, .int s] ∧ n ≤ 100 ∧ 0 ≤ s ∧ s ≤ 10 ^ 40 ∧ ∀ xs : List Int, Row n (10 ^ 18 + s) xs → (∃ c : Int, -(10 ^ 9) ≤ c ∧ c ≤ 10 ^ 18 - 50 ∧ ∀ x ∈ xs, c - s ≤ x ∧ x ≤ c + s) → Φ (.leaf (itup xs))
theorem M_law_standing : Mono F_law_standing := fun ds Φ Ψ i ⟨n, s, e, h1, h2, h3, k⟩ => ⟨n, s, e, h1, h2, h3, fun xs a b => i _ (k xs a b)⟩
def S_law_standing : Sg := { z := true, fs := [takeF, F_law_number], gs := [] }
theorem W_law_standing : WOk S_law_standing n_law_standing b_law_standing F_law_standing 3 := by
  rintro ds Φ ⟨n, s, rfl, h2, h3, h4, k⟩
  refine ⟨rfl, ?_⟩
  have key : ∀ c : Int, -(10 ^ 9) ≤ c → c ≤ 10 ^ 18 - 50 → wb S_law_standing (tl b_law_standing) [some (.leaf .bag), some (.leaf (.int n)), some (.leaf (.int s)), some (.leaf (.int c)), none] { nx := fun _ => Φ (.leaf .non), rt := fun t _ => Φ t } := fun c c1 c2 => by
    unfold b_law_standing
    simp only [tl]
    trace_state
    refine ⟨⟨by omega, by omega⟩, by simp; omega, ?_⟩
    refine lcW_all (fun _ t => ∃ x, t = .leaf (.int x) ∧ c - s ≤ x ∧ x ≤ c + s) (fun d hd Ψ hΨ => ?_) fun us hu => ?_
    · obtain ⟨_, _, rfl⟩ := List.mem_map.mp hd
      trace_state
      refine ⟨s, rfl, h3, h4, fun v a b => ?_⟩
      trace_state
      exact hΨ _ ⟨_, rfl, by omega, by omega⟩
    · obtain ⟨xs, rfl, l, q⟩ := rl_ints hu
      trace_state
      refine l_tuple (.inl rfl) ?_
      rw [List.nil_append, mk_ints]
      trace_state
      exact k xs ⟨by rw [l]; simp, fun x hx => by have := q x hx; omega⟩ ⟨c, c1, c2, q⟩
  unfold b_law_standing
  trace_state
  refine ⟨_, rfl, ⟨by decide, by decide +kernel⟩, fun v a b => ?_⟩
  have hv : v = 0 ∨ v = 1 ∨ v = 2 ∨ v = 3 ∨ v = 4 ∨ v = 5 := by omega
  rcases hv with rfl | rfl | rfl | rfl | rfl | rfl
  all_goals exact ix_lst rfl rfl rfl (fin_leaf rfl (bind_nm rfl (key _ (by decide) (by decide))))
def F_law_range : SpecF := fun ds Φ => ∃ (v s : Int) (b : Bool), ds = [.bag, .int v, .int s, .bl b] ∧ 0 < s ∧ s ≤ 10 ^ 40 ∧
  ∀ l h, -(10 ^ 18) ≤ l → l ≤ h → h ≤ 10 ^ 18 → (b = true → -(10 ^ 18) ≤ v → v ≤ 10 ^ 18 → l ≤ v ∧ v ≤ h) → (-(10 ^ 18) ≤ v → h ≤ v + 4 * s) → Φ (.leaf (.tup [.int l, .int h]))
theorem M_law_range : Mono F_law_range := fun ds Φ Ψ i ⟨v, s, b, e, h1, h2, k⟩ => ⟨v, s, b, e, h1, h2, fun l h a b c d e => i _ (k l h a b c d e)⟩
def S_law_range : Sg := { z := true, fs := [F_law_number, takeF], gs := [] }
theorem W_law_range : WOk S_law_range n_law_range b_law_range F_law_range 4 := by
  rintro ds Φ ⟨v, s, b, rfl, h1, h2, k⟩
  refine ⟨rfl, ?_⟩
  have hs : s < 10 ^ 100 := by
    have : (10 : Int) ^ 40 < 10 ^ 100 := by decide +kernel
    omega
  have fin : ∀ (l h v' : Int), (b = true → l ≤ v ∧ v ≤ h) → (l ≤ v + 4 * s ∧ h ≤ v + 4 * s) → wb S_law_range (tl (tl (tl b_law_range))) [some (.leaf .bag), some (.leaf (.int v')), some (.leaf (.int s)), some (.leaf (.bl b)), some (.leaf (.int l)), some (.leaf (.int h))] { nx := fun _ => Φ (.leaf .non), rt := fun t _ => Φ t } := fun l h v' hb hb2 => by
    unfold b_law_range
    simp only [tl]
    trace_state
    refine k _ _ ?_ ?_ ?_ (fun e e1 e2 => ?_) fun e => ?_
    · repeat' split
      all_goals omega
    · repeat' split
      all_goals omega
    · repeat' split
      all_goals omega
    · have := hb e
      repeat' split
      all_goals omega
    · repeat' split
      all_goals omega
  have key : ∀ v' : Int, (b = true → v' = v) → v' ≤ v + s → wb S_law_range (tl b_law_range) [some (.leaf .bag), some (.leaf (.int v')), some (.leaf (.int s)), some (.leaf (.bl b)), none, none] { nx := fun _ => Φ (.leaf .non), rt := fun t _ => Φ t } := fun v' hv hv2 => by
    unfold b_law_range
    simp only [tl]
    trace_state
    refine ⟨_, rfl, ⟨by decide, by decide +kernel⟩, fun t1 a1 b1 => ?_⟩
    trace_state
    refine ⟨_, rfl, ⟨h1, hs⟩, fun u1 c1 d1 => ?_⟩
    have p1 := Int.mul_nonneg a1 c1
    trace_state
    refine ⟨_, rfl, ⟨by decide, by decide +kernel⟩, fun t2 a2 b2 => ?_⟩
    trace_state
    refine ⟨_, rfl, ⟨h1, hs⟩, fun u2 c2 d2 => ?_⟩
    have p2 := Int.mul_nonneg a2 c2
    have p3 : t2 * u2 ≤ 2 * s := Int.mul_le_mul (by omega) (by omega) c2 (by decide)
    trace_state
    refine ⟨_, rfl, ⟨by decide, by decide +kernel⟩, fun w a a' => ?_⟩
    cases b with
    | true =>
      have := hv rfl
      subst this
      trace_state
      rw [Int.mul_zero]
      refine ix_lst rfl rfl rfl (fin_leaf rfl (bind_pair rfl rfl rfl (fin _ _ _ (fun _ => ⟨by omega, by omega⟩) ⟨by omega, by omega⟩)))
    | false =>
      trace_state
      rw [Int.mul_one]
      have hv : w = 0 ∨ w = 1 ∨ w = 2 ∨ w = 3 := by omega
      rcases hv with rfl | rfl | rfl | rfl
      all_goals exact ix_lst rfl rfl rfl (fin_leaf rfl (bind_pair rfl rfl rfl (fin _ _ _ nofun ⟨by omega, by omega⟩)))
  unfold b_law_range
  cases b with
  | true => exact wb_ite (wt_not (wt_val (w_nm rfl (t_bl rfl (ite_nt (wb_nil (key _ (fun _ => rfl) (by omega))))))))
  | false =>
    refine wb_ite (wt_not (wt_val (w_nm rfl (t_bl rfl (ite_nf ?_)))))
    trace_state
    refine ⟨_, rfl, by omega, h2, fun w a b => ?_⟩
    exact a_add rfl rfl (wb_nil (key _ nofun (by omega)))
def F_law_term : SpecF := fun ds Φ => ∃ (xs : List Int) (s m : Int) (b : Bool), ds = [.bag, itup xs, .int s, .int m, .bl b] ∧ (0 < xs.length ∧ xs.length ≤ 100) ∧ (0 < s ∧ s ≤ 10 ^ 40) ∧ (0 < m ∧ m ≤ 10 ^ 40) ∧
  ∀ t : Tm, t.Ok xs.length m → (b = false → t.pulls = true) → (t.pulls = false → -(10 ^ 18) ≤ t.arg xs → t.arg xs ≤ 10 ^ 18 → t.low ≤ t.arg xs ∧ t.arg xs ≤ t.high) → (-(10 ^ 18) ≤ t.arg xs → t.high ≤ t.arg xs + 4 * s) → Φ (.leaf t.D)
theorem M_law_term : Mono F_law_term := fun ds Φ Ψ i ⟨xs, s, m, b, e, h1, h2, h3, k⟩ => ⟨xs, s, m, b, e, h1, h2, h3, fun t a b c d => i _ (k t a b c d)⟩
def S_law_term : Sg := { z := true, fs := [takeF, F_law_range], gs := [] }
theorem W_law_term : WOk S_law_term n_law_term b_law_term F_law_term 5 := by
  rintro ds Φ ⟨xs, s, m, b, rfl, h1, h2, h3, k⟩
  refine ⟨rfl, ?_⟩
  have hL : (10 : Int) ^ 40 < 10 ^ 100 := by decide +kernel
  have hL2 : (100 : Int) < 10 ^ 100 := by decide +kernel
  -- the one dial's terms
  have one : ∀ (d : Nat) (f way : Int) (c : Bool), d < xs.length → 1 ≤ f → f ≤ m → (c = true → b = true) → wb S_law_term (match tl (tl (tl b_law_term)) with | .ite _ x _ _ => x | b => b) [some (.leaf .bag), some (.leaf (itup xs)), some (.leaf (.int s)), some (.leaf (.int m)), some (.leaf (.bl b)), some (.leaf (.int f)), none, some (.leaf (.int xs.length)), some (.leaf (.int way)), some (.leaf (.int d)), some (.leaf (.bl c)), none, none] { nx := fun ρ' => wb S_law_term (tl (tl (tl (tl b_law_term)))) ρ' { nx := fun _ => Φ (.leaf .non), rt := fun t _ => Φ t }, rt := fun t _ => Φ t } := fun d f way c hd hf1 hf2 hc => by
    unfold b_law_term
    simp only [tl]
    trace_state
    refine ⟨_, _, _, rfl, h2.1, h2.2, fun l h a1 a2 a3 a4 a5 => ?_⟩
    cases c with
    | true =>
      trace_state
      exact k (.stop d l h) ⟨hd, ⟨a1, a2, a3⟩, trivial⟩ (fun e => by rw [hc rfl] at e; cases e) (fun _ => a4 rfl) a5
    | false =>
      trace_state
      exact k (.wish d l h f) ⟨hd, ⟨a1, a2, a3⟩, hf1, hf2⟩ (fun _ => rfl) nofun a5
  have two : ∀ (d : Nat) (f way : Int) (c : Bool), d < xs.length → 1 < xs.length → 1 ≤ f → f ≤ m → (c = true → b = true) → wb S_law_term (tl (tl (tl (tl b_law_term)))) [some (.leaf .bag), some (.leaf (itup xs)), some (.leaf (.int s)), some (.leaf (.int m)), some (.leaf (.bl b)), some (.leaf (.int f)), none, some (.leaf (.int xs.length)), some (.leaf (.int way)), some (.leaf (.int d)), some (.leaf (.bl c)), none, none] { nx := fun _ => Φ (.leaf .non), rt := fun t _ => Φ t } := fun d f way c hd hx hf1 hf2 hc => by
    unfold b_law_term
    simp only [tl]
    trace_state
    refine ⟨_, rfl, ⟨by omega, by omega⟩, fun u u1 u2 => ?_⟩
    trace_state
    obtain ⟨q1, q2, q3⟩ := other_ok (d := d) (n := xs.length) (v := u) (by omega) (by omega) u1 u2
    obtain ⟨o, ho⟩ := Int.eq_ofNat_of_zero_le q1
    rw [ho] at q2 q3 ⊢
    have ho2 : o < xs.length := by omega
    have ho3 : d ≠ o := by omega
    trace_state
    refine ⟨_, _, _, rfl, h2.1, h2.2, fun l h a1 a2 a3 a4 a5 => ?_⟩
    cases c with
    | true =>
      trace_state
      exact k (.bar d o l h) ⟨⟨hd, ho2⟩, ⟨a1, a2, a3⟩, ho3⟩ (fun e => by rw [hc rfl] at e; cases e) (fun _ => a4 rfl) a5
    | false =>
      trace_state
      exact k (.tie d o l h f) ⟨⟨hd, ho2⟩, ⟨a1, a2, a3⟩, ho3, hf1, hf2⟩ (fun _ => rfl) nofun a5
  have rest : ∀ (d : Nat) (way : Int) (c : Bool), d < xs.length → (c = true → b = true) → wb S_law_term (tl (tl b_law_term)) [some (.leaf .bag), some (.leaf (itup xs)), some (.leaf (.int s)), some (.leaf (.int m)), some (.leaf (.bl b)), none, none, some (.leaf (.int xs.length)), some (.leaf (.int way)), some (.leaf (.int d)), some (.leaf (.bl c)), none, none] { nx := fun _ => Φ (.leaf .non), rt := fun t _ => Φ t } := fun d way c hd hc => by
    unfold b_law_term
    simp only [tl]
    trace_state
    refine ⟨_, rfl, ⟨h3.1, by omega⟩, fun f f1 f2 => ?_⟩
    refine b_add rfl rfl (fin_leaf rfl (bind_nm rfl (wb_ite (wt_or (wt_cmp (w_nm rfl (w_int (c_eq rfl rfl ?_))))))))
    refine ite_dec (fun _ => ite_t ?_) fun _ => ?_
    · exact one d (1 + f) way c hd (by omega) (by omega) hc
    trace_state
    refine c_inT rfl rfl rfl (ite_b (fun _ => ?_) fun _ => ?_)
    · exact one d (1 + f) way c hd (by omega) (by omega) hc
    · exact wb_nil (two d (1 + f) way c hd (by omega) (by omega) (by omega) hc)
  unfold b_law_term
  trace_state
  refine ⟨_, rfl, ⟨by decide, by decide +kernel⟩, fun way w1 w2 => ?_⟩
  trace_state
  refine ⟨_, rfl, ⟨by omega, by omega⟩, fun d d1 d2 => ?_⟩
  obtain ⟨d, rfl⟩ := Int.eq_ofNat_of_zero_le d1
  cases b with
  | true =>
    refine fin_leaf rfl (w_and (w_nm rfl (ex_bl rfl ?_)))
    with_reducible refine ite_t ?_
    refine w_one (w_cmp (w_nm rfl (w_int (c_gt rfl rfl (fin_leaf rfl ?_)))))
    exact rest d way _ (by omega) fun _ => rfl
  | false =>
    refine fin_leaf rfl (w_and (w_nm rfl (ex_bl rfl ?_)))
    with_reducible refine ite_f ?_
    refine fin_leaf rfl ?_
    exact rest d way _ (by omega) nofun
end KT
namespace KT
open PySem PySem.Spec PyProof.Rows L2 DL
local macro_rules | `(tactic| trace_state) => `(tactic| repeat' first | (with_reducible show w _ _ _ _; first | with_reducible refine w_nm (by with_unfolding_all exact rfl) ?_ | with_reducible refine w_ix ?_ | with_reducible refine w_int ?_ | with_reducible refine w_bin ?_ | with_reducible refine w_cmp ?_ | with_reducible refine w_call (by with_unfolding_all exact rfl) ?_ | with_reducible refine w_blt ?_ | with_reducible refine w_ow (by with_unfolding_all exact rfl) ?_ | with_reducible refine w_tup ?_ | with_reducible refine w_lst ?_ | with_reducible refine w_str ?_ | with_reducible refine w_neg ?_ | with_reducible refine w_ife ?_ | with_reducible refine w_sl ?_ | with_reducible refine w_and ?_ | with_reducible refine w_one ?_ | with_reducible refine w_or ?_ | with_reducible refine w_not ?_ | with_reducible refine w_bl ?_ | with_reducible refine w_non ?_ | with_reducible refine w_gl (by with_unfolding_all exact rfl) ?_ | with_reducible refine w_chn ?_ | with_reducible refine w_lc (by with_unfolding_all exact rfl) ?_ | with_reducible refine w_isi ?_ | with_reducible refine w_lr1 ?_ | with_reducible refine w_lr2 ?_) | (with_reducible show wa _ _ _ _; first | with_reducible refine wa_cons ?_ | with_reducible refine wa_nil ?_) | (with_reducible show wv _ _ _ _; first | with_reducible refine wv_cons ?_ | with_reducible refine wv_nil ?_) | (with_reducible show T.fin _ _; first | with_reducible refine fin_leaf (by with_unfolding_all exact rfl) ?_ | with_reducible refine fin_mk (by with_unfolding_all exact rfl) ?_ | with_reducible refine fin_lst (by with_unfolding_all exact rfl) ?_ | with_reducible refine fin_tup (by with_unfolding_all exact rfl) ?_) | (with_reducible show And _ _; first | with_reducible refine and_len (by with_unfolding_all exact rfl) ?_) | (with_reducible show frozs _ _ _; first | with_reducible refine fz_nil ?_ | with_reducible refine fz_cons ?_) | (with_reducible show T.froz _ _ _; first | with_reducible refine fz_leaf (by with_unfolding_all exact rfl) ?_ | with_reducible refine fz_lst (by with_unfolding_all exact rfl) (by with_unfolding_all exact rfl) ?_ | with_reducible refine fz_tup (by with_unfolding_all exact rfl) (by with_unfolding_all exact rfl) ?_ | with_reducible refine fz_vw (by with_unfolding_all exact rfl) (by with_unfolding_all exact rfl) ?_) | (with_reducible show ixT _ _ _; first | with_reducible refine ix_lt (by with_unfolding_all exact rfl) (by with_unfolding_all exact rfl) (by with_unfolding_all exact at_getD (by assumption)) ?_ | with_reducible refine ix_lt (by with_unfolding_all exact rfl) (by with_unfolding_all exact rfl) (by with_unfolding_all exact rfl) ?_ | with_reducible refine ix_lst (by with_unfolding_all exact rfl) (by with_unfolding_all exact rfl) (by with_unfolding_all exact rfl) ?_ | with_reducible refine ix_ll (by with_unfolding_all exact rfl) (by with_unfolding_all exact rfl) (by with_unfolding_all exact rfl) ?_ | with_reducible refine ix_vli (by with_unfolding_all exact rfl) (by with_unfolding_all exact rfl) (by with_unfolding_all exact rfl) ?_ | with_reducible refine ix_vll (by with_unfolding_all exact rfl) (by with_unfolding_all exact rfl) (by with_unfolding_all exact rfl) ?_ | with_reducible refine ix_tup (by with_unfolding_all exact rfl) (by with_unfolding_all exact rfl) (by with_unfolding_all exact rfl) ?_ | with_reducible refine ix_vti (by with_unfolding_all exact rfl) (by with_unfolding_all exact rfl) (by with_unfolding_all exact rfl) ?_ | with_reducible refine ix_vlt (by with_unfolding_all exact rfl) (by with_unfolding_all exact rfl) (by with_unfolding_all exact rfl) ?_ | with_reducible refine ix_vtl (by with_unfolding_all exact rfl) (by with_unfolding_all exact rfl) (by with_unfolding_all exact rfl) ?_ | with_reducible refine ix_vls (by with_unfolding_all exact rfl) (by with_unfolding_all exact rfl) (by with_unfolding_all exact rfl) ?_) | (with_reducible show DL.binT _ _ _ _; first | with_reducible refine b_add (by with_unfolding_all exact rfl) (by with_unfolding_all exact rfl) ?_ | with_reducible refine b_sub (by with_unfolding_all exact rfl) (by with_unfolding_all exact rfl) ?_ | with_reducible refine b_mul (by with_unfolding_all exact rfl) (by with_unfolding_all exact rfl) (by with_unfolding_all exact mulR ⟨by decide, by decide⟩) ?_ | with_reducible refine b_mul (by with_unfolding_all exact rfl) (by with_unfolding_all exact rfl) (by with_unfolding_all exact mulL ⟨by decide, by decide⟩) ?_ | with_reducible refine b_mul (by with_unfolding_all exact rfl) (by with_unfolding_all exact rfl) (by with_unfolding_all exact mulL ⟨by omega, by omega⟩) ?_ | with_reducible refine b_mul (by with_unfolding_all exact rfl) (by with_unfolding_all exact rfl) (by with_unfolding_all exact mulR ⟨by omega, by omega⟩) ?_ | with_reducible refine b_mul (by with_unfolding_all exact rfl) (by with_unfolding_all exact rfl) ?_ ?_ | with_reducible refine b_p18 (by with_unfolding_all exact rfl) (by with_unfolding_all exact rfl) ?_ | with_reducible refine b_p9 (by with_unfolding_all exact rfl) (by with_unfolding_all exact rfl) ?_ | with_reducible refine b_p38 (by with_unfolding_all exact rfl) (by with_unfolding_all exact rfl) ?_ | with_reducible refine b_p17 (by with_unfolding_all exact rfl) (by with_unfolding_all exact rfl) ?_ | with_reducible refine b_p40 (by with_unfolding_all exact rfl) (by with_unfolding_all exact rfl) ?_ | with_reducible refine b_p39 (by with_unfolding_all exact rfl) (by with_unfolding_all exact rfl) ?_ | with_reducible refine b_p21 (by with_unfolding_all exact rfl) (by with_unfolding_all exact rfl) ?_ | with_reducible refine b_p20 (by with_unfolding_all exact rfl) (by with_unfolding_all exact rfl) ?_ | with_reducible refine b_p6 (by with_unfolding_all exact rfl) (by with_unfolding_all exact rfl) ?_ | with_reducible refine b_pow (by with_unfolding_all exact rfl) (by with_unfolding_all exact rfl) (by with_unfolding_all decide) ?_ | with_reducible refine b_mod (by with_unfolding_all exact rfl) (by with_unfolding_all exact rfl) (by with_unfolding_all (first | decide | assumption | omega)) ?_ | with_reducible refine b_mod (by with_unfolding_all exact rfl) (by with_unfolding_all exact rfl) ?_ ?_ | with_reducible refine b_fdiv (by with_unfolding_all exact rfl) (by with_unfolding_all exact rfl) (by with_unfolding_all exact ⟨by decide, by decide⟩) ?_ | with_reducible refine b_fdiv (by with_unfolding_all exact rfl) (by with_unfolding_all exact rfl) (by with_unfolding_all exact ⟨by assumption, by assumption⟩) ?_ | with_reducible refine b_fdiv (by with_unfolding_all exact rfl) (by with_unfolding_all exact rfl) ?_ ?_ | with_reducible refine b_catL (by with_unfolding_all exact rfl) (by with_unfolding_all exact rfl) (by with_unfolding_all exact rfl) ?_) | (with_reducible show cmpD _ _ _ _; first | with_reducible refine c_eq (by with_unfolding_all exact rfl) (by with_unfolding_all exact rfl) ?_ | with_reducible refine c_ne (by with_unfolding_all exact rfl) (by with_unfolding_all exact rfl) ?_ | with_reducible refine c_lt (by with_unfolding_all exact rfl) (by with_unfolding_all exact rfl) ?_ | with_reducible refine c_le (by with_unfolding_all exact rfl) (by with_unfolding_all exact rfl) ?_ | with_reducible refine c_gt (by with_unfolding_all exact rfl) (by with_unfolding_all exact rfl) ?_ | with_reducible refine c_ge (by with_unfolding_all exact rfl) (by with_unfolding_all exact rfl) ?_ | with_reducible refine c_nes (by with_unfolding_all exact rfl) (by with_unfolding_all exact rfl) ?_ | with_reducible refine c_eqs (by with_unfolding_all exact rfl) (by with_unfolding_all exact rfl) ?_ | with_reducible refine c_inT (by with_unfolding_all exact rfl) (by with_unfolding_all exact rfl) (by with_unfolding_all (first | exact tb_stop | exact tb_wish | exact tb_bar | exact tb_tie | exact wt_stop | exact wt_wish | exact wt_bar | exact wt_tie)) ?_ | with_reducible refine c_isT (by with_unfolding_all exact rfl) (by with_unfolding_all exact rfl) ?_ | with_reducible refine c_isF (by with_unfolding_all exact rfl) (by with_unfolding_all exact rfl) ?_ | with_reducible refine c_notT (by with_unfolding_all exact rfl) (by with_unfolding_all exact rfl) ?_ | with_reducible refine c_notF (by with_unfolding_all exact rfl) (by with_unfolding_all exact rfl) ?_) | (with_reducible show wt _ _ _ _; first | with_reducible refine wt_cmp ?_ | with_reducible refine wt_not ?_ | with_reducible refine wt_val ?_ | with_reducible refine wt_and ?_ | with_reducible refine wt_or ?_ | with_reducible refine wt_one ?_ | with_reducible refine wt_chn ?_) | (with_reducible show @ite _ _ _ _ _; first | with_reducible refine ite_t ?_ | with_reducible refine ite_f ?_ | with_reducible refine ite_nt ?_ | with_reducible refine ite_nf ?_ | with_reducible refine ite_decT (by decide) ?_ | with_reducible refine ite_decF (by decide) ?_ | with_reducible refine ite_dec (fun _ => ?_) (fun _ => ?_) | with_reducible refine ite_ndecT (by with_unfolding_all exact rfl) ?_ | with_reducible refine ite_ndec (fun _ => ?_) (fun _ => ?_)) | (with_reducible show wb _ _ _ _; first | with_reducible refine wb_asg ?_ | with_reducible refine wb_ite ?_ | with_reducible refine wb_ret ?_ | with_reducible refine wb_nil ?_ | with_reducible refine wb_for ?_ | with_reducible refine wb_asgLc (by with_unfolding_all exact rfl) (by with_unfolding_all exact rfl) ?_ | with_reducible refine wb_setix (by with_unfolding_all exact rfl) ?_ | with_reducible refine wb_augix (by with_unfolding_all exact rfl) ?_ | with_reducible refine wb_aug (by with_unfolding_all exact rfl) (by with_unfolding_all exact rfl) ?_ | with_reducible refine wb_ex ?_ | with_reducible refine wb_fz (by with_unfolding_all exact rfl) (by with_unfolding_all exact rfl) ?_ | with_reducible refine wb_pass ?_ | with_reducible refine wb_brk ?_ | with_reducible refine wb_cont ?_ | with_reducible refine wb_retN ?_ | with_reducible refine wb_par2 (by with_unfolding_all decide) (by with_unfolding_all exact rfl) (by with_unfolding_all exact rfl) ?_ | with_reducible refine wb_app (by with_unfolding_all exact rfl) (by with_unfolding_all (simp; done)) ?_ | with_reducible refine wb_app (by with_unfolding_all exact rfl) ?_ ?_) | (with_reducible show Exists _; first | with_reducible refine bind_nm (by with_unfolding_all exact rfl) ?_ | with_reducible refine bind_pair (by with_unfolding_all exact rfl) (by with_unfolding_all exact rfl) (by with_unfolding_all exact rfl) ?_ | with_reducible refine bind_5 (by with_unfolding_all exact rfl) (by with_unfolding_all exact rfl) ?_ | with_reducible refine ex_int (by with_unfolding_all exact rfl) ?_ | with_reducible refine ex_bl (by with_unfolding_all exact rfl) ?_ | with_reducible refine ex_isT (by with_unfolding_all exact rfl) ?_ | with_reducible refine set_to (by with_unfolding_all exact rfl) (by with_unfolding_all exact rfl) ?_ | with_reducible refine aug_to (by with_unfolding_all exact rfl) (by with_unfolding_all exact rfl) (by with_unfolding_all exact rfl) ?_ | with_reducible refine ex_rg1 (by with_unfolding_all exact rfl) (by with_unfolding_all (unfold RgS; omega)) ?_ | with_reducible refine ex_rg2 (by with_unfolding_all exact rfl) (by with_unfolding_all exact rfl) (by with_unfolding_all (unfold RgS; omega)) ?_) | (with_reducible show bltT _ _ _; first | with_reducible refine l_lens (by with_unfolding_all exact rfl) ?_ | with_reducible refine l_len (by with_unfolding_all exact rfl) ?_ | with_reducible refine l_lent (by with_unfolding_all exact rfl) ?_ | with_reducible refine l_abs (by with_unfolding_all exact rfl) ?_ | with_reducible refine l_max2 (by with_unfolding_all exact rfl) (by with_unfolding_all exact rfl) ?_ | with_reducible refine l_min2 (by with_unfolding_all exact rfl) (by with_unfolding_all exact rfl) ?_ | with_reducible refine l_max3 (by with_unfolding_all exact rfl) (by with_unfolding_all exact rfl) (by with_unfolding_all exact rfl) ?_ | with_reducible refine l_intT (by with_unfolding_all exact rfl) ?_ | with_reducible refine l_intF (by with_unfolding_all exact rfl) ?_ | with_reducible refine l_intD (by with_unfolding_all exact rfl) (fun _ => ?_) (fun _ => ?_)) | (with_reducible show slT _ _ _ _; first | with_reducible refine sl_lt (by with_unfolding_all exact rfl) (by with_unfolding_all exact rfl) ?_) | (with_reducible show tru _ _; first | with_reducible refine t_bl (by with_unfolding_all exact rfl) ?_) | (with_reducible show augD _ _ _ _; first | with_reducible refine a_add (by with_unfolding_all exact rfl) (by with_unfolding_all exact rfl) ?_ | with_reducible refine a_sub (by with_unfolding_all exact rfl) (by with_unfolding_all exact rfl) ?_) | (with_reducible show wo _ _ _ _; first | with_reducible refine wo_nop ?_ | with_reducible refine wo_prt ?_) | (with_reducible show wi _ _ _ _; first | with_reducible refine wi_rng ?_ | with_reducible refine wi_sq ?_ | with_reducible refine wi_zip ?_ | with_reducible refine wi_enm ?_) | (with_reducible show wc _ _ _ _; first | with_reducible refine wc_nop ?_ | with_reducible refine wc_one ?_))
def F_law_alike : SpecF := sameF
theorem M_law_alike : Mono F_law_alike := sameF_mono
def S_law_alike : Sg := { z := true, fs := [], gs := [] }
abbrev n_law_alike : List Str := ["_law_found", "_law_due"]
def b_law_alike : DL.B := (.ret (.and (.cmp .eq (.nm 0) (.nm 1)) (.one (.cmp .eq (.blt .repr (.cons (.nm 0) .nil)) (.blt .repr (.cons (.nm 1) .nil))))) .nil)
theorem W_law_alike : WOk S_law_alike n_law_alike b_law_alike F_law_alike 2 := by
  rintro ds Φ ⟨d, rfl, s, k⟩
  exact ⟨rfl, sameW (Φ := Φ) (K := { nx := fun _ => Φ (.leaf .non), rt := fun t _ => Φ t }) s fun _ => k⟩
theorem sm_int {n : Int} (h : -(10 ^ 60) ≤ n ∧ n ≤ 10 ^ 60) : (D.int n).sm = true := by
  have e : (10 ^ 60 : Int) < 10 ^ 250 := by decide +kernel
  have c : ((10 ^ 250 : Nat) : Int) = 10 ^ 250 := by decide +kernel
  simp only [D.sm, decide_eq_true_eq]
  apply Int.ofNat_lt.mp; rw [c]; omega
theorem shw_int {n : Int} (h : -(10 ^ 60) ≤ n ∧ n ≤ 10 ^ 60) : (D.int n).Shw := ⟨fit_int n, sm_int h, by simp [D.wt]⟩
theorem shw_itup {xs : List Int} (h : ∀ x ∈ xs, -(10 ^ 60) ≤ x ∧ x ≤ 10 ^ 60) (l : xs.length ≤ 10000) : (itup xs).Shw := by
  refine ⟨⟨?_, ?_⟩, ?_, ?_⟩
  · simp only [itup, D.lay]
    induction xs with
    | nil => rfl
    | cons x r ih => simp only [List.map_cons, D.lays, D.lay, Bool.true_and]; exact ih (fun y hy => h y (List.mem_cons_of_mem _ hy)) (by simp at l; omega)
  · have : ∀ ys : List Int, D.deps (ys.map D.int) = 0 := fun ys => by
      induction ys with
      | nil => rfl
      | cons x r ih => simp [D.deps, D.dep, ih]
    simp only [itup, D.dep, this]; omega
  · simp only [itup, D.sm]
    induction xs with
    | nil => rfl
    | cons x r ih =>
      simp only [List.map_cons, D.sms, Bool.and_eq_true]
      exact ⟨sm_int (h x List.mem_cons_self), ih (fun y hy => h y (List.mem_cons_of_mem _ hy)) (by simp at l; omega)⟩
  · have : ∀ ys : List Int, D.wts (ys.map D.int) = ys.length := fun ys => by
      induction ys with
      | nil => rfl
      | cons x r ih => simp [D.wts, D.wt, ih]; omega
    simp only [itup, D.wt, this]; omega
theorem so_stop : PyData.strOk "stop" = true := by decide +kernel
theorem so_wish : PyData.strOk "wish" = true := by decide +kernel
theorem so_bar : PyData.strOk "bar" = true := by decide +kernel
theorem so_tie : PyData.strOk "tie" = true := by decide +kernel
theorem Tm.shw {t : Tm} (hi : t.In 1000) (hl : -(10 ^ 60) ≤ t.low ∧ t.low ≤ 10 ^ 60) (hh : -(10 ^ 60) ≤ t.high ∧ t.high ≤ 10 ^ 60) (hf : -(10 ^ 60) ≤ t.force ∧ t.force ≤ 10 ^ 60) : t.D.Shw := by
  have sd : ∀ d : Nat, d < 1000 → (D.int d).sm = true := fun d hd => sm_int ⟨by omega, by omega⟩
  rcases t with ⟨d, l, h⟩ | ⟨d, l, h, f⟩ | ⟨d, o, l, h⟩ | ⟨d, o, l, h, f⟩
  · refine ⟨⟨by simp only [Tm.D, D.lay, D.lays, so_stop, Bool.and_self, Bool.and_true], Nat.le_of_ble_eq_true rfl⟩, ?_, Nat.le_of_ble_eq_true rfl⟩
    have := sd d hi
    simp only [Tm.D, D.sm, D.sms, Bool.and_eq_true] at *
    exact ⟨trivial, this, sm_int hl, sm_int hh, trivial⟩
  · refine ⟨⟨by simp only [Tm.D, D.lay, D.lays, so_wish, Bool.and_self, Bool.and_true], Nat.le_of_ble_eq_true rfl⟩, ?_, Nat.le_of_ble_eq_true rfl⟩
    have := sd d hi
    simp only [Tm.D, D.sm, D.sms, Bool.and_eq_true] at *
    exact ⟨trivial, this, sm_int hl, sm_int hh, sm_int hf, trivial⟩
  · refine ⟨⟨by simp only [Tm.D, D.lay, D.lays, so_bar, Bool.and_self, Bool.and_true], Nat.le_of_ble_eq_true rfl⟩, ?_, Nat.le_of_ble_eq_true rfl⟩
    have := sd d hi.1
    have := sd o hi.2
    simp only [Tm.D, D.sm, D.sms, Bool.and_eq_true] at *
    exact ⟨trivial, sd d hi.1, sd o hi.2, sm_int hl, sm_int hh, trivial⟩
  · refine ⟨⟨by simp only [Tm.D, D.lay, D.lays, so_tie, Bool.and_self, Bool.and_true], Nat.le_of_ble_eq_true rfl⟩, ?_, Nat.le_of_ble_eq_true rfl⟩
    simp only [Tm.D, D.sm, D.sms, Bool.and_eq_true] at *
    exact ⟨trivial, sd d hi.1, sd o hi.2, sm_int hl, sm_int hh, sm_int hf, trivial⟩
theorem Tm.arg_le {t : Tm} {n : Nat} {b : Int} {xs : List Int} (h : t.In n) (r : Row n b xs) (h0 : 0 ≤ b) : -(2 * b) ≤ t.arg xs ∧ t.arg xs ≤ 2 * b := by
  rcases t with ⟨d, l, h⟩ | ⟨d, l, h, f⟩ | ⟨d, o, l, h⟩ | ⟨d, o, l, h, f⟩
  · have := r.get (k := d) h; simp only [Tm.arg]; omega
  · have := r.get (k := d) h; simp only [Tm.arg]; omega
  · have := r.get (k := d) h.1; have := r.get (k := o) h.2; simp only [Tm.arg]; omega
  · have := r.get (k := d) h.1; have := r.get (k := o) h.2; simp only [Tm.arg]; omega
theorem Tm.far_le {t : Tm} {n : Nat} {m x b : Int} (h : t.Ok n m) (hx : -b ≤ x ∧ x ≤ b) : 0 ≤ t.far x ∧ t.far x ≤ b + 10 ^ 18 := by
  have := h.2.1
  unfold Tm.far
  repeat' split
  all_goals omega
theorem Tm.In.mono {t : Tm} {n m : Nat} (h : t.In n) (l : n ≤ m) : t.In m := by
  rcases t with ⟨d, l, h⟩ | ⟨d, l, h, f⟩ | ⟨d, o, l, h⟩ | ⟨d, o, l, h, f⟩ <;> simp only [Tm.In] at h ⊢ <;> omega
theorem Tm.Ok.force_le {t : Tm} {n : Nat} {m : Int} (h : t.Ok n m) (h0 : 0 ≤ m) : 0 ≤ t.force ∧ t.force ≤ m := by
  rcases t with ⟨d, l, h⟩ | ⟨d, l, h, f⟩ | ⟨d, o, l, h⟩ | ⟨d, o, l, h, f⟩ <;> simp only [Tm.Ok, Tm.force] at h ⊢ <;> omega
theorem Tm.low_ends (t : Tm) (a b : Int) : (t.ends a b).low = a := by cases t <;> rfl
theorem Tm.high_ends (t : Tm) (a b : Int) : (t.ends a b).high = b := by cases t <;> rfl
theorem Tm.force_ends (t : Tm) (a b : Int) : (t.ends a b).force = t.force := by cases t <;> rfl
theorem Tm.In_ends (t : Tm) (a b : Int) (n : Nat) : (t.ends a b).In n = t.In n := by cases t <;> rfl
theorem Tm.ends_ends (t : Tm) (a b c d : Int) : (t.ends a b).ends c d = t.ends c d := by cases t <;> rfl
theorem Tm.ends_self (t : Tm) : t.ends t.low t.high = t := by cases t <;> rfl
theorem Tm.Ok.shw {t : Tm} {n : Nat} {m : Int} (h : t.Ok n m) (hn : n ≤ 1000) (h0 : 0 ≤ m) (hm : m ≤ 10 ^ 40) : t.D.Shw := by
  have a := h.2.1
  have f := h.force_le h0
  exact Tm.shw (h.1.mono hn) ⟨by omega, by omega⟩ ⟨by omega, by omega⟩ ⟨by omega, by omega⟩
theorem Tm.Ok.ends {t : Tm} {n : Nat} {m : Int} (h : t.Ok n m) {a b : Int} (h1 : -(10 ^ 18) ≤ a) (h2 : a ≤ b) (h3 : b ≤ 10 ^ 18) : (t.ends a b).Ok n m := by
  rcases t with ⟨d, l, h⟩ | ⟨d, l, h, f⟩ | ⟨d, o, l, h⟩ | ⟨d, o, l, h, f⟩
  · exact ⟨h.1, ⟨h1, h2, h3⟩, h.2.2⟩
  · exact ⟨h.1, ⟨h1, h2, h3⟩, h.2.2⟩
  · exact ⟨h.1, ⟨h1, h2, h3⟩, h.2.2⟩
  · exact ⟨h.1, ⟨h1, h2, h3⟩, h.2.2⟩
/-! with_ends, mirrored, moved -/
def F_with_ends : SpecF := fnF (fun x : Tm × Int × Int => [x.1.D, .int x.2.1, .int x.2.2]) (fun _ => True) (fun x => (x.1.ends x.2.1 x.2.2).D)
theorem M_with_ends : Mono F_with_ends := fnM _ _ _
def S_with_ends : Sg := { z := true, fs := [], gs := [] }
theorem W_with_ends : WOk S_with_ends n_with_ends b_with_ends F_with_ends 3 := by
  rintro ds Φ ⟨⟨t, a, b⟩, rfl, -, k⟩
  refine ⟨rfl, ?_⟩
  unfold b_with_ends
  rcases t with ⟨d, l, h⟩ | ⟨d, l, h, f⟩ | ⟨d, o, l, h⟩ | ⟨d, o, l, h, f⟩
  · trace_state; exact k
  · trace_state; exact k
  · trace_state; exact k
  · trace_state; exact k
def Tm.mir (t : Tm) : Tm := t.ends (-t.high) (-t.low)
def Tm.mov (t : Tm) (x : Int) : Tm := t.ends (t.low + x) (t.high + x)
def F_mirrored : SpecF := fnF (fun x : Tm => [x.D]) (fun _ => True) (fun x => x.mir.D)
theorem M_mirrored : Mono F_mirrored := fnM _ _ _
def S_mirrored : Sg := { z := true, fs := [F_ends_of, F_with_ends], gs := [] }
theorem W_mirrored : WOk S_mirrored n_mirrored b_mirrored F_mirrored 1 := by
  rintro ds Φ ⟨t, rfl, -, k⟩
  refine ⟨rfl, ?_⟩
  unfold b_mirrored
  trace_state
  refine ⟨t, rfl, trivial, ?_⟩
  trace_state
  refine ⟨(t, -t.high, -t.low), rfl, trivial, ?_⟩
  trace_state
  exact k
def F_moved : SpecF := fnF (fun x : Tm × Int => [x.1.D, .int x.2]) (fun _ => True) (fun x => (x.1.mov x.2).D)
theorem M_moved : Mono F_moved := fnM _ _ _
def S_moved : Sg := { z := true, fs := [F_ends_of, F_with_ends], gs := [] }
theorem W_moved : WOk S_moved n_moved b_moved F_moved 2 := by
  rintro ds Φ ⟨⟨t, x⟩, rfl, -, k⟩
  refine ⟨rfl, ?_⟩
  unfold b_moved
  trace_state
  refine ⟨t, rfl, trivial, ?_⟩
  trace_state
  refine ⟨(t, t.low + x, t.high + x), rfl, trivial, ?_⟩
  trace_state
  exact k
theorem Tm.far_mir {t : Tm} (h : t.low ≤ t.high) (x : Int) : t.mir.far (-x) = t.far x := by
  unfold Tm.far Tm.mir
  rw [Tm.low_ends, Tm.high_ends]
  repeat' split
  all_goals omega
theorem Tm.far_mov (t : Tm) (x y : Int) : (t.mov y).far (x + y) = t.far x := by
  unfold Tm.far Tm.mov
  rw [Tm.low_ends, Tm.high_ends]
  repeat' split
  all_goals omega
end KT
namespace DL
open PySem PySem.Spec PyProof.Rows L2

/-! ### an __init__ from its short body: tests that fail, then the fields in order -/
def okStores (c : Cn) : List (Str × I) → List Stmt → Bool
  | [], s => match s with | [] => true | _ => false
  | (n, e) :: fs, s => match s with
    | .Assign [.Attribute (.Name y _) m _] v _ :: rest => nameIs c.toCt 0 y && c.vis y && plainName y && decide (m = n) && noComp v && okE c e v && okStores c fs rest
    | _ => false
def okInit (c : Cn) : List I → List (Str × I) → List Stmt → Bool
  | [], fs, s => okStores c fs s
  | t :: ts, fs, s => match s with
    | .If q _ [] _ :: rest => okT c t q && okInit c ts fs rest
    | _ => false
def storesW (S : Sg) : List (Str × I) → DL.Env → (List D → Prop) → Prop
  | [], _, k => k []
  | (_, e) :: r, ρ, k => w S e ρ fun t => t.froz S.z fun d => storesW S r ρ fun ds => k (d :: ds)
def initW (S : Sg) : List I → List (Str × I) → DL.Env → (List D → Prop) → Prop
  | [], fs, ρ, k => storesW S fs ρ k
  | t :: ts, fs, ρ, k => wt S t ρ fun b => b = false ∧ initW S ts fs ρ k
theorem putF_new {n : Str} {v : V} : ∀ {fs : List (Str × V)}, (∀ p ∈ fs, p.1 ≠ n) → putF n v fs = fs ++ [(n, v)]
  | [], _ => rfl
  | (m, u) :: r, h => by
    have h0 := h (m, u) List.mem_cons_self
    show (if m = n then _ else _) = _
    rw [if_neg h0, putF_new fun p hp => h p (List.mem_cons_of_mem _ hp)]
    rfl
theorem zip_snoc : ∀ {ns : List Str} {vs : List V} {n : Str} {v : V}, ns.length = vs.length → ns.zip vs ++ [(n, v)] = (ns ++ [n]).zip (vs ++ [v])
  | [], [], _, _, _ => rfl
  | [], _ :: _, _, _, h => by simp at h
  | _ :: _, [], _, _, h => by simp at h
  | m :: ns, u :: vs, n, v, h => by
    rw [List.zip_cons_cons, List.cons_append, zip_snoc (by simpa using h)]; rfl
section
variable {K : PySem.W.Frag} {bg : Option Addr} {cls : Nat → Option (Addr × List Str)} {F0 H0 : Hp} {X : Cx} {c : Cn} {S : Sg} {C x dx : Addr} {D : Ends}
abbrev anI (K : PySem.W.Frag) (bg : Option Addr) (cls : Nat → Option (Addr × List Str)) (F0 Hc : Hp) : An0 := ⟨⟨K, bg, cls⟩, bg.toList, F0, Hc, [], []⟩
theorem not_mem_bg {bg : Option Addr} {x : Addr} (h : bg ≠ some x) : x ∉ bg.toList := fun z => by
  cases bg with
  | none => simp at z
  | some b => simp at z; exact h (by rw [z])
/-- a field is stored: the state as before, the object longer -/
theorem sw_stored {Hc H F : Hp} {Sc Sm : List Addr} {ρ : DL.Env} {σ : L2.St} {o o' : HO} (w : SW (anI K bg cls F0 Hc) ρ σ [] [] H F Sc Sm) (hx : Hc x = some o) (f0 : F0 x = none) (nb : bg ≠ some x) : SW (anI K bg cls F0 (upd Hc x o')) ρ σ [] [] (upd H x o') F Sc Sm := by
  have fx : F x = none := w.gw.nn x (by show Hc x ≠ none; rw [hx]; simp) f0
  have ne : ∀ p ∈ Sc ++ Sm, p ≠ x := fun p hp e => by
    obtain ⟨_, f2, f3⟩ := w.fr p hp
    rcases f3 with f3 | f3
    · exact not_mem_bg nb (e ▸ f3)
    · have f3 : Hc p = none := f3
      rw [e, hx] at f3; cases f3
  have keep : ∀ p, p ≠ x → ∀ u, H p = some u → upd H x o' p = some u := fun p n u e => by rw [upd_ne n]; exact e
  have hk : ∀ p, p ≠ x → upd Hc x o' p = Hc p := fun p n => upd_ne n
  refine ⟨fun p u e => keep p (fun z => by rw [z, fx] at e; cases e) u (w.sub p u e), ⟨w.gw.ff, fun p u hp e => ?_, fun p h1 h2 => ?_, fun p h => ?_⟩, fun b e => ⟨(w.bagM b e).1, ?_⟩, fun b e => ?_, OwC.mono' (Sub.refl F) w.cells fun p hp => keep p (ne p (List.mem_append_left _ hp)), by have := w.tmps; simpa only [OwL] using this, w.nd, fun p hp => ?_, w.len, by simp, by simp⟩
  · by_cases z : p = x
    · have e : upd Hc x o' p = some u := e
      rw [z, upd_same] at e ⊢; exact e
    · have e : upd Hc x o' p = some u := e
      rw [hk p z] at e; exact keep p z u (w.gw.hh p u hp e)
  · by_cases z : p = x
    · rw [z]; exact fx
    · exact w.gw.nn p (by have h1 : upd Hc x o' p ≠ none := h1; rw [hk p z] at h1; exact h1) h2
  · by_cases z : p = x
    · rw [z, upd_same]; simp
    · have h : upd Hc x o' p ≠ none := h
      rw [hk p z] at h
      rw [upd_ne z]
      exact w.gw.th p h
  · have z : b ≠ x := fun z => nb (by rw [← z]; exact e)
    show upd Hc x o' b ≠ none
    rw [hk b z]; exact (w.bagM b e).2
  · have z : b ≠ x := fun z => nb (by rw [← z]; exact e)
    obtain ⟨b1, xx, yy, zz, cc, ns, b2, b3⟩ := w.bag b e
    exact ⟨b1, xx, yy, zz, cc, ns, by rw [upd_ne z]; exact b2, b3⟩
  · obtain ⟨f1, f2, f3⟩ := w.fr p hp
    refine ⟨f1, f2, f3.imp id fun f3 => ?_⟩
    show upd Hc x o' p = none
    rw [hk p (ne p hp)]; exact f3
theorem stores_go (gd : ∀ Hc, Good c S (anI K bg cls F0 Hc) X) (cl : Cls K C) (f0 : F0 x = none) (nb : bg ≠ some x) {P : List DL.D → Prop} {ns : List Str} (nd : ns.Nodup) (na : ∀ n ∈ ns, NoAttr K C n) (small : ns.length < 1000)
    (fin : ∀ (ds : List DL.D) (Hc H F : Hp) (Sc Sm : List Addr) (ρ : DL.Env) (σ : L2.St) (vs : List V), P ds → SW (anI K bg cls F0 Hc) ρ σ [] [] H F Sc Sm → Hc x = some (.ins C dx (ns.zip vs)) → vs.length = ns.length → IsL ⟨K, bg, cls⟩ F ds vs → (∀ p, p ≠ x → Hc p = H0 p) → D.nx σ H) :
    ∀ (fs : List (Str × I)) (s : List Stmt) (nsd : List Str) (vsd : List V) (dd : List DL.D) (Hc H F : Hp) (Sc Sm : List Addr) (ρ : DL.Env) (σ : L2.St), okStores c fs s = true → ns = nsd ++ fs.map (·.1) → SW (anI K bg cls F0 Hc) ρ σ [] [] H F Sc Sm → Hc x = some (.ins C dx (nsd.zip vsd)) → vsd.length = nsd.length →
      IsL ⟨K, bg, cls⟩ F dd vsd → (∀ p, p ≠ x → Hc p = H0 p) → σ[0]? = some (some (.ref x)) → storesW S fs ρ (fun ds => P (dd ++ ds)) → WB X s D σ H
  | [], s, nsd, vsd, dd, Hc, H, F, Sc, Sm, ρ, σ, ok, en, w, hx, l, il, hk, pn, h => by
    simp only [okStores] at ok
    split at ok
    · simp only [List.map_nil, List.append_nil] at en
      subst en
      simp only [storesW, List.append_nil] at h
      exact ⟨_, pss_nil, fin dd Hc H F Sc Sm ρ σ vsd h w hx l il hk⟩
    · cases ok
  | (n, e) :: fs, s, nsd, vsd, dd, Hc, H, F, Sc, Sm, ρ, σ, ok, en, w, hx, l, il, hk, pn, h => by
    simp only [okStores] at ok
    split at ok
    · simp only [Bool.and_eq_true, decide_eq_true_eq] at ok
      obtain ⟨⟨⟨⟨⟨⟨k1, k2⟩, k3⟩, k4⟩, k5⟩, k6⟩, k7⟩ := ok
      have k4 := k4.symm
      subst k4
      obtain ⟨q1, q2, _⟩ := plain_of k3
      have g := gd Hc
      have KX : X.K = K := g.xo.K
      refine ⟨_, pss_cons (ps_fld (pvar (nameIs_of g.co k1) (Ct.vis_of g.co k2) q1 q2) pe_W (noswap k5)) pb_W, ?_⟩
      show WE X _ σ H fun y H1 => tVar 0 σ H1 fun z H2 => _
      simp only [storesW] at h
      refine soundE e (g.onV (F := F)) k6 h σ H [] [] _ ⟨F, Sc, Sm, w.onV (Sub.refl F)⟩ fun y t H1 ht ok1 => ?_
      obtain ⟨F1, Sc1, Sm1, w1⟩ := ok1
      have s1 : Sub F F1 := w1.wif F List.mem_cons_self
      obtain ⟨F2, Sm2, s2, w2, iy, h⟩ := w1.offV.froz1 g.io ht
      have s2' : Sub F F2 := s1.trans s2
      have inM : x ∉ (anI K bg cls F0 Hc).M := not_mem_bg nb
      have hx1 : H1 x = some (.ins C dx (nsd.zip vsd)) := w2.gw.hh x _ inM hx
      have hn : n ∈ ns := by rw [en]; simp
      have fresh : n ∉ nsd := fun z => by
        rw [en] at nd
        exact (List.nodup_append.mp nd).2.2 n z n (by simp) rfl
      have pf : putF n y (nsd.zip vsd) = (nsd ++ [n]).zip (vsd ++ [y]) := by
        rw [putF_new fun q hq e => fresh (by rw [← e]; exact (List.of_mem_zip hq).1), zip_snoc l.symm]
      refine ⟨.ref x, pn, x, C, dx, _, rfl, hx1, by rw [KX]; exact cl, by rw [KX]; exact na n hn, ?_, ?_⟩
      · rw [List.length_zip]
        have : nsd.length ≤ ns.length := by rw [en, List.length_append]; omega
        omega
      · rw [pf]
        show WB X _ D σ _
        refine stores_go gd cl f0 nb nd na small fin fs _ (nsd ++ [n]) (vsd ++ [y]) (dd ++ [t.dat]) _ _ F2 Sc1 Sm2 ρ σ k7 (by rw [en]; simp) (sw_stored w2 hx f0 nb) upd_same (by simp [l]) ((il.mono s2').append (by simp only [IsL]; exact ⟨y, [], rfl, iy, rfl⟩)) (fun p hp => by rw [upd_ne hp]; exact hk p hp) pn ?_
        have e2 : ∀ ds, (dd ++ [t.dat]) ++ ds = dd ++ t.dat :: ds := fun ds => by simp
        simp only [e2]
        exact h
    · cases ok
theorem init_go (gd : ∀ Hc, Good c S (anI K bg cls F0 Hc) X) (cl : Cls K C) (f0 : F0 x = none) (nb : bg ≠ some x) {P : List DL.D → Prop} {fs : List (Str × I)} (nd : (fs.map (·.1)).Nodup) (na : ∀ n ∈ fs.map (·.1), NoAttr K C n) (small : fs.length < 1000) (hx : H0 x = some (.ins C dx []))
    (fin : ∀ (ds : List DL.D) (Hc H F : Hp) (Sc Sm : List Addr) (ρ : DL.Env) (σ : L2.St) (vs : List V), P ds → SW (anI K bg cls F0 Hc) ρ σ [] [] H F Sc Sm → Hc x = some (.ins C dx ((fs.map (·.1)).zip vs)) → vs.length = (fs.map (·.1)).length → IsL ⟨K, bg, cls⟩ F ds vs → (∀ p, p ≠ x → Hc p = H0 p) → D.nx σ H) :
    ∀ (ts : List I) (s : List Stmt) (H : Hp) (ρ : DL.Env) (σ : L2.St), okInit c ts fs s = true → SOk (anI K bg cls F0 H0) ρ σ [] [] H → σ[0]? = some (some (.ref x)) → initW S ts fs ρ P → WB X s D σ H
  | [], s, H, ρ, σ, ok, sk, pn, h => by
    obtain ⟨F, Sc, Sm, w⟩ := sk
    simp only [okInit] at ok
    simp only [initW] at h
    exact stores_go gd cl f0 nb nd na (by simpa using small) fin fs s [] [] [] H0 H F Sc Sm ρ σ ok (by simp) w hx rfl (by simp only [IsL]) (fun _ _ => rfl) pn (by simpa using h)
  | t :: ts, s, H, ρ, σ, ok, sk, pn, h => by
    simp only [okInit] at ok
    simp only [initW] at h
    split at ok
    · simp only [Bool.and_eq_true] at ok
      refine ⟨_, pss_cons (ps_if pt_W pb_W pb_W) pb_W, ?_⟩
      rename_i q s1 pos rest
      show WT X q σ H fun b H1 => if b = true then WB X s1 { D with nx := WB X rest D } σ H1 else WB X [] { D with nx := WB X rest D } σ H1
      refine soundT t (gd H0) ok.1 h σ H [] [] _ sk fun b H1 ⟨e, h⟩ ok1 => ?_
      subst e
      rw [if_neg (by decide)]
      exact ⟨_, pss_nil, init_go gd cl f0 nb nd na small hx fin ts rest H1 ρ σ ok.2 ok1 pn h⟩
    · cases ok
end
section
variable {P : Program} {w : World} {K : PySem.W.Frag} {mg : Str → Option Value} {base : Heap} {cls : Nat → Option (Addr × List Str)} {k : Nat} {x qual : Str} {f : SpecF} {st : Stmt} {fa : Addr} {fd : FuncData} {N ps : List Str} {c : Cn} {S : Sg} {ts : List I} {fs : List (Str × I)} {cl : Nat}
theorem fnInit (Fu : L2.Fun K x qual st fa fd) (sc : FnScope N ps (defScope st)) (hc : c.toCt = ⟨N, defScope st, defScope st⟩) (ck : okInit c ts fs (defBody st) = true)
    (fns : ∀ (i : Nat) y f, c.fn[i]? = some y → S.fs[i]? = some f → FnB P w K mg base cls k y f)
    (gls : ∀ (i : Nat) y d, c.gl[i]? = some y → S.gs[i]? = some d → ∃ v u, mg y = some u ∧ RelV v u ∧ ∀ (a : An) F, a.K = K → Is a F d v)
    (bs : ∀ y ∈ c.bs, mg y = none) (hcl : ∀ C ns, cls cl = some (C, ns) → Cls K C ∧ ns = fs.map (·.1) ∧ ∀ n ∈ ns, NoAttr K C n) (nd : (fs.map (·.1)).Nodup) (small : fs.length < 1000) (hN : ps.length ≤ N.length)
    (h : ∀ ds Φ, f ds Φ → ds.length + 1 = ps.length ∧ initW S ts fs (none :: ((ds.map T.leaf).map some ++ List.replicate (N.length - (ds.length + 1)) none)) fun ds' => Φ (.leaf (.obj cl ds')))
    (ob : ObB P w K mg base cls k c S := by exact obNil rfl rfl rfl rfl rfl) :
    FnG P w K mg base CX0 (k + 1) fa fd ps (spI K cls cl f) := by
  obtain ⟨oc, od, kV, doc, pm, an, cdv, ct, osl, rfl, lk, hcd⟩ := Fu.ex
  refine fn_G lk hcd sc (fun vs H Q E hs => ?_) fun A outer s H vs Q E gu hr hs => ?_
  · obtain ⟨bg, F, H0, ds, x, dx, C, ns, ws, rfl, _, _, _, _, _, _, _, il, q⟩ := hs
    rw [List.length_cons, isl_length il, (h _ _ q).1]
  obtain ⟨bg, F, H0, ds, x, dx, C, ns, ws, rfl, hC, n1, n2, ne, rfl, sub, bag, il, q⟩ := hs
  obtain ⟨l, q⟩ := h _ _ q
  obtain ⟨hcl, rfl, na⟩ := hcl C ns hC
  have vl := isl_length il
  have fx : ∀ p, H0 p = none → F p = none := fun p e => by
    cases z : F p with
    | none => rfl
    | some o => rw [sub p o z] at e; cases e
  have nb : ∀ b, bg = some b → H0 b ≠ none := fun b hb => by
    obtain ⟨_, _, _, _, _, _, e, _⟩ := bag b hb
    rw [e]; simp
  have old : ∀ p o, H0 p = some o → upd (upd H0 dx (.own x)) x (.ins C dx []) p = some o := fun p o e => by
    rw [upd_ne (fun z => by rw [z, n1] at e; cases e), upd_ne (fun z => by rw [z, n2] at e; cases e)]; exact e
  have nbx : bg ≠ some x := fun e => nb x e n1
  have X := fun Hc => goodB (c := c) (S := S) (a := anI K bg cls F Hc) (E := E) (H := upd (upd H0 dx (.own x)) x (.ins C dx [])) (outer := outer) (cdv := cdv) (qual := qual) (fa := fa) sc hc gu hr fns gls bs ob rfl rfl fun _ p hp => by simpa using hp
  refine ⟨_, (PSs.nox (pb_W (X := (cxOf CX0 P w K mg base N qual (defScope st) fa cdv A outer s (upd (upd H0 dx (.own x)) x (.ins C dx [])) E).nox))), ?_⟩
  refine init_go (dx := dx) (H0 := upd (upd H0 dx (.own x)) x (.ins C dx [])) X hcl (fx x n1) nbx nd na small upd_same (fun ds' Hc H' F' Sc Sm ρ σ us hP w2 hx2 lu il2 hk => ?_) ts _ _ (none :: ((ds.map T.leaf).map some ++ List.replicate (N.length - (ds.length + 1)) none)) (start N (.ref x :: ws)) ck ⟨F, [], [], ⟨fun p o e => old p o (sub p o e), Gw.refl _ _ _, fun b hb => ⟨?_, ?_⟩, fun b hb => ?_, ?_, by simp only [OwL]; exact ⟨trivial, trivial⟩, by simp, by simp, ?_, by simp, by simp⟩⟩ rfl q
  · have inM : x ∉ (anI K bg cls F Hc).M := not_mem_bg nbx
    have hx3 : H' x = some (.ins C dx ((fs.map (·.1)).zip us)) := w2.gw.hh x _ inM hx2
    have fx2 : F' x = none := w2.gw.nn x (by show Hc x ≠ none; rw [hx2]; simp) (fx x n1)
    have s2 : Sub F' (fun p => if p = x then H' x else F' p) := fun p o e => by
      show (if p = x then H' x else F' p) = some o
      rw [if_neg fun z => by rw [z, fx2] at e; cases e]; exact e
    have oldc : ∀ p o, H0 p = some o → Hc p = some o := fun p o e => by
      have z : p ≠ x := fun z => by rw [z, n1] at e; cases e
      rw [hk p z]; exact old p o e
    refine hP (fun p => if p = x then H' x else F' p) H' (fun p o e => ?_) ⟨w2.gw.ff.trans s2, fun p o hp e => w2.gw.hh p o hp (oldc p o e), fun p h1 h2 => ?_, fun p h1 => ?_⟩ (fun b hb => ?_) ?_
    · by_cases z : p = x
      · have e : (if p = x then H' x else F' p) = some o := e
        rw [if_pos z] at e; rw [z]; exact e
      · have e : (if p = x then H' x else F' p) = some o := e
        rw [if_neg z] at e; exact w2.sub p o e
    · show (if p = x then H' x else F' p) = none
      have z : p ≠ x := fun z => by rw [z] at h1; exact h1 n1
      rw [if_neg z]
      refine w2.gw.nn p ?_ h2
      cases e : H0 p with
      | none => exact absurd e h1
      | some o => show Hc p ≠ none; rw [oldc p o e]; simp
    · cases e : H0 p with
      | none => exact absurd e h1
      | some o => exact w2.gw.th p (by show Hc p ≠ none; rw [oldc p o e]; simp)
    · obtain ⟨b1, xx, yy, zz, cc, ns, b2, b3, b4⟩ := w2.bag b hb
      have z : b ≠ x := fun z => nbx (by rw [← z]; exact hb)
      exact ⟨by show (if b = x then H' x else F' b) = none; rw [if_neg z]; exact b1, xx, yy, zz, cc, ns, b2, s2 _ _ b3, b4⟩
    · simp only [Ow, Is]
      exact ⟨trivial, x, C, fs.map (·.1), dx, us, rfl, hC, lu.symm, by show (if x = x then H' x else F' x) = _; rw [if_pos rfl]; exact hx3, IsL.mono s2 il2⟩
  · have hb : bg = some b := hb
    simp [hb]
  · show upd (upd H0 dx (.own x)) x (.ins C dx []) b ≠ none
    cases e : H0 b with
    | none => exact absurd e (nb b hb)
    | some o => rw [old b o e]; simp
  · obtain ⟨b1, xx, yy, zz, cc, ns, b2, b3⟩ := bag b hb
    exact ⟨b1, xx, yy, zz, cc, ns, old _ _ b2, b3⟩
  · show OwC _ _ _ (none :: _) (start N (.ref x :: ws)) []
    simp only [OwC]
    unfold L2.start
    rw [List.map_cons, List.cons_append, List.tail_cons, List.length_cons, vl]
    exact owc_start il
  · unfold L2.start
    simp [vl]
end
/-! ### lists of promises -/
section
variable (P : Program) (w : World) (K : PySem.W.Frag) (mg : Str → Option Value) (base : Heap) (cls : Nat → Option (Addr × List Str)) (k : Nat)
def MtP (q : Nat × Str) (f : SpecF) : Prop := (∃ (C fa : Addr) (ns : List Str) (fd : FuncData) (ps : List Str), cls q.1 = some (C, ns) ∧ q.2 ∉ ns ∧ Cls K C ∧ Meth K C q.2 fa ∧ FnG P w K mg base CX0 k fa fd ps (spD K cls f) ∧ Binds K fd ps []) ∧ Mono f
def PrP (q : Nat × Str) (f : SpecF) : Prop := (∃ (C fa p : Addr) (ns : List Str) (fd : FuncData) (j : Nat) (ps : List Str), j + 1 ≤ k ∧ cls q.1 = some (C, ns) ∧ Cls K C ∧ PropOf K C q.2 p fa ∧ FnG P w K mg base CX0 j fa fd ps (spD K cls f) ∧ Binds K fd ps []) ∧ Mono f
def NwP (x : Str) (f : SpecF) : Prop := (∃ (C fa : Addr) (cl : Nat) (ns : List Str) (fd : FuncData) (j : Nat) (ps : List Str), j + 1 ≤ k ∧ cls cl = some (C, ns) ∧ Mk K C fa ∧ mg x = some (.ref C) ∧ FnG P w K mg base CX0 j fa fd ps (spI K cls cl f) ∧ Binds K fd ps []) ∧ Mono f
end
section
variable {P : Program} {w : World} {K : PySem.W.Frag} {mg : Str → Option Value} {base : Heap} {cls : Nat → Option (Addr × List Str)} {k j : Nat}
theorem MtP.mono {q : Nat × Str} {f : SpecF} (h : MtP P w K mg base cls j q f) (l : j ≤ k) : MtP P w K mg base cls k q f := ⟨h.1.elim fun C ⟨fa, ns, fd, ps, a, b, c, d, e, g⟩ => ⟨C, fa, ns, fd, ps, a, b, c, d, e.mono l, g⟩, h.2⟩
theorem PrP.mono {q : Nat × Str} {f : SpecF} (h : PrP P w K mg base cls j q f) (l : j ≤ k) : PrP P w K mg base cls k q f := ⟨h.1.elim fun C ⟨fa, p, ns, fd, i, ps, z, r⟩ => ⟨C, fa, p, ns, fd, i, ps, Nat.le_trans z l, r⟩, h.2⟩
theorem NwP.mono {x : Str} {f : SpecF} (h : NwP P w K mg base cls j x f) (l : j ≤ k) : NwP P w K mg base cls k x f := ⟨h.1.elim fun C ⟨fa, cl, ns, fd, i, ps, z, r⟩ => ⟨C, fa, cl, ns, fd, i, ps, Nat.le_trans z l, r⟩, h.2⟩
theorem pl_nil {α β : Type} {R : α → β → Prop} {fs : List β} : ∀ (i : Nat) q f, ([] : List α)[i]? = some q → fs[i]? = some f → R q f := fun i q f h => by simp at h
theorem pl_cons {α β : Type} {R : α → β → Prop} {x : α} {g : β} {ys : List α} {fs : List β} (h : R x g) (r : ∀ (i : Nat) q f, ys[i]? = some q → fs[i]? = some f → R q f) : ∀ (i : Nat) q f, (x :: ys)[i]? = some q → (g :: fs)[i]? = some f → R q f
  | 0, q, f, h1, h2 => by
    simp only [List.getElem?_cons_zero, Option.some.injEq] at h1 h2
    subst h1 h2; exact h
  | i + 1, q, f, h1, h2 => r i q f (by simpa using h1) (by simpa using h2)
theorem obMk {c : Cn} {S : Sg} (m : ∀ (i : Nat) q f, c.ms[i]? = some q → S.ms[i]? = some f → MtP P w K mg base cls k q f) (p : ∀ (i : Nat) q f, c.ps[i]? = some q → S.ps[i]? = some f → PrP P w K mg base cls k q f)
    (n : ∀ (i : Nat) q f, c.nw[i]? = some q → S.nw[i]? = some f → NwP P w K mg base cls k q f) (f : ∀ q ∈ c.fd, ∃ (C : Addr) (ns : List Str), cls q.1 = some (C, ns) ∧ ns[q.2.1]? = some q.2.2 ∧ ns.Nodup ∧ Cls K C ∧ NoAttr K C q.2.2) (ic : ∀ q ∈ c.ic, ∃ (C : Addr) (ns : List Str), cls q.1 = some (C, ns) ∧ mg q.2 = some (.ref C) ∧ C8.InsC K C) : ObB P w K mg base cls k c S := ⟨m, p, n, f, ic⟩
end
section
variable {S : Sg} {ρ ρ' : DL.Env} {Φ : T → Prop} {Ψ : Bool → Prop} {t u v : T} {us xs ys : List T} {ds es : List D} {x1 x2 : D} {b : Bool} {n m : Int} {ns : List Int}
theorem l_lentK (k : Nat) (h : t.dat = .tup ds) (e : Nat.beq ds.length k = true) (q : Φ (.leaf (.int k))) : bltT .len [t] Φ := by
  refine l_lent h ?_
  rw [Nat.eq_of_beq_eq_true e]; exact q
theorem c_ninT (h2 : x2 = .tup ds) (h : (x1.flat && ds.all D.flat) = true) (e : memD x1 ds = b) (k : Ψ (!b)) : cmpD .nin x1 x2 Ψ := by
  subst h2
  rw [Bool.and_eq_true] at h
  exact ⟨h.1, h.2, by rw [e]; exact k⟩
theorem l_suml (h : t.dat = .lst ds) (e : D.toInts ds = some ns) (k : Φ (.leaf (.int ns.sum))) : bltT .sum [t] Φ := by
  simp only [bltT, T.dats, h, bltD]
  exact ⟨ns, e, k⟩
theorem w4_stop : memD (.str "stop") [.str "wish", .str "tie", .str "stop", .str "bar"] = true := by decide +kernel
theorem w4_wish : memD (.str "wish") [.str "wish", .str "tie", .str "stop", .str "bar"] = true := by decide +kernel
theorem w4_bar : memD (.str "bar") [.str "wish", .str "tie", .str "stop", .str "bar"] = true := by decide +kernel
theorem w4_tie : memD (.str "tie") [.str "wish", .str "tie", .str "stop", .str "bar"] = true := by decide +kernel
theorem enm_cons {k : Nat} {d : D} {r ds : List D} (e : d :: r = enumFrom k ds) : ∃ x rest, ds = x :: rest ∧ d = .tup [.int k, x] ∧ r = enumFrom (k + 1) rest := by
  cases ds with
  | nil => simp [enumFrom] at e
  | cons x rest =>
    simp only [enumFrom, List.cons.injEq] at e
    exact ⟨x, rest, rfl, e.1, e.2⟩
end
end DL
namespace KT
open PySem PySem.Spec PyProof.Rows L2 DL
def topS (i : Nat) : Stmt := PySem.Challenge.pw_mostpulled_k51_exchanges.main.body.getD i (.Pass ⟨0, 0, 0, 0⟩)
abbrev s_exchange : Stmt := topS 1
abbrev s_law_bag : Stmt := topS 3
abbrev s_law_take : Stmt := topS 4
abbrev s_law_alike : Stmt := topS 5
abbrev s_law_number : Stmt := topS 6
abbrev s_law_standing : Stmt := topS 7
abbrev s_law_traded : Stmt := topS 8
abbrev s_law : Stmt := topS 9
abbrev n_exchange : List Str := ["one", "other", "numbers", "steps", "first", "now", "later", "number", "setting", "step"]
def c_exchange : Cn := { toCt := ⟨n_exchange, defScope s_exchange, defScope s_exchange⟩, fn := [], gl := [], bs := ["zip", "len", "tuple"] }
def b_exchange : DL.B := (.asgLc 3 [5, 6] (.cons (.nm 5) (.cons (.nm 6) .nil)) (.zip (.cons (.nm 0) (.cons (.nm 1) .nil))) .nop (.blt .len (.cons (.lc [7] (.nm 7) (.sq (.nm 2)) (.one (.cmp .le (.nm 7) (.bin .sub (.nm 5) (.nm 6)))) (.nm 7)) .nil)) (.fz 3 (.asg (.nm 4) (.blt .tuple (.cons (.lc [8, 9] (.cons (.nm 8) (.cons (.nm 9) .nil)) (.zip (.cons (.nm 0) (.cons (.nm 3) .nil))) .nop (.bin .sub (.nm 8) (.nm 9))) .nil)) (.ret (.tup (.cons (.nm 4) (.cons (.blt .tuple (.cons (.lc [8, 9] (.cons (.nm 8) (.cons (.nm 9) .nil)) (.zip (.cons (.nm 1) (.cons (.nm 3) .nil))) .nop (.bin .add (.nm 8) (.nm 9))) .nil)) .nil))) .nil))))
theorem sc_exchange : FnScope n_exchange ["one", "other", "numbers"] (defScope s_exchange) := ⟨rfl, rfl, rfl, by decide +kernel, rfl, by decide +kernel, by decide +kernel⟩
theorem ck_exchange : okB c_exchange b_exchange (defBody s_exchange) = true := by decide +kernel
def c_law_alike : Cn := { toCt := ⟨n_law_alike, defScope s_law_alike, defScope s_law_alike⟩, fn := [], gl := [], bs := ["repr"] }
theorem sc_law_alike : FnScope n_law_alike ["_law_found", "_law_due"] (defScope s_law_alike) := ⟨rfl, rfl, rfl, by decide +kernel, rfl, by decide +kernel, by decide +kernel⟩
theorem ck_law_alike : okB c_law_alike b_law_alike (defBody s_law_alike) = true := by decide +kernel
def c_law_number : Cn := { toCt := ⟨n_law_number, defScope s_law_number, defScope s_law_number⟩, fn := ["_law_take"], gl := [], bs := [] }
theorem sc_law_number : FnScope n_law_number ["_law_bag_here", "_law_scale"] (defScope s_law_number) := ⟨rfl, rfl, rfl, by decide +kernel, rfl, by decide +kernel, by decide +kernel⟩
theorem ck_law_number : okB c_law_number b_law_number (defBody s_law_number) = true := by decide +kernel
def c_law_standing : Cn := { toCt := ⟨n_law_standing, defScope s_law_standing, defScope s_law_standing⟩, fn := ["_law_take", "_law_number"], gl := [], bs := ["tuple", "range"] }
theorem sc_law_standing : FnScope n_law_standing ["_law_bag_here", "_law_size", "_law_scale"] (defScope s_law_standing) := ⟨rfl, rfl, rfl, by decide +kernel, rfl, by decide +kernel, by decide +kernel⟩
theorem ck_law_standing : okB c_law_standing b_law_standing (defBody s_law_standing) = true := by decide +kernel
abbrev n_law_traded : List Str := ["_law_one", "_law_other", "_law_numbers", "_law_k", "_law_first", "_law_last", "_law_step", "_law_number_here"]
def c_law_traded : Cn := { toCt := ⟨n_law_traded, defScope s_law_traded, defScope s_law_traded⟩, fn := [], gl := [], bs := ["range", "len", "tuple"] }
def b_law_traded : DL.B := (.par2 4 5 (.lst .nil) (.lst .nil) (.for_ (.nm 3) (.rng (.cons (.blt .len (.cons (.nm 0) .nil)) .nil)) (.asg (.nm 6) (.blt .len (.cons (.lc [7] (.nm 7) (.sq (.nm 2)) (.one (.cmp .le (.nm 7) (.bin .sub (.ix (.nm 0) (.nm 3)) (.ix (.nm 1) (.nm 3))))) (.nm 7)) .nil)) (.app 4 (.bin .sub (.ix (.nm 0) (.nm 3)) (.nm 6)) (.app 5 (.bin .add (.ix (.nm 1) (.nm 3)) (.nm 6)) .nil))) (.fz 4 (.fz 5 (.ret (.tup (.cons (.blt .tuple (.cons (.nm 4) .nil)) (.cons (.blt .tuple (.cons (.nm 5) .nil)) .nil))) .nil)))))
theorem sc_law_traded : FnScope n_law_traded ["_law_one", "_law_other", "_law_numbers"] (defScope s_law_traded) := ⟨rfl, rfl, rfl, by decide +kernel, rfl, by decide +kernel, by decide +kernel⟩
theorem ck_law_traded : okB c_law_traded b_law_traded (defBody s_law_traded) = true := by decide +kernel
abbrev n_law : List Str := ["_law_script", "_law_bag_here", "_law_k", "_law_size", "_law_other", "_law_numbers", "_law_turn", "_law_found", "_law_dial", "_law_one", "_law_by", "_law_number_here", "_law_shown", "_law_due", "_law_pair", "_law_setting", "_law_more"]
def c_law : Cn := { toCt := ⟨n_law, defScope s_law, defScope s_law⟩, fn := ["_law_bag", "_law_take", "_law_standing", "_law_number", "_law_traded", "exchange", "_law_alike"], gl := [], bs := ["range", "tuple", "list", "max", "sum"] }
def b_law_1 : DL.B := (.asg (.nm 11) (.bin .add (.int 1) (.call 1 (.cons (.nm 1) (.cons (.ix (.lst (.cons (.int 3) (.cons (.int 9) (.cons (.bin .pow (.int 10) (.int 18)) .nil)))) (.call 1 (.cons (.nm 1) (.cons (.int 3) .nil)))) .nil)))) (.ite (.cmp .nin (.nm 11) (.ow 5)) (.app 5 (.nm 11) .nil) .nil .nil))
def b_law_2 : DL.B := (.asg (.nm 5) (.bin .add (.nm 5) (.lc [16] (.nm 16) (.rng (.cons (.int 1) (.cons (.bin .add (.int 1) (.call 1 (.cons (.nm 1) (.cons (.int 45) .nil)))) .nil))) (.one (.cmp .nin (.nm 16) (.nm 5))) (.nm 16))) (.fz 5 .nil))
def b_law_3 : DL.B := (.asg (.nm 14) (.lst (.cons (.ix (.ix (.nm 7) (.int 0)) (.nm 8)) (.cons (.ix (.ix (.nm 7) (.int 1)) (.nm 8)) .nil))) (.fz 14 (.ite (.or (.cmp .ne (.blt .sum (.cons (.nm 14) .nil)) (.bin .add (.ix (.nm 9) (.nm 8)) (.ix (.nm 4) (.nm 8)))) (.one (.not (.cmp .le (.blt .max (.cons (.nm 14) .nil)) (.blt .max (.cons (.ix (.nm 9) (.nm 8)) (.cons (.ix (.nm 4) (.nm 8)) .nil))))))) (.ret (.bl false) .nil) .nil .nil)))
def b_law_4 : DL.B := (.par2 12 13 (.blt .list (.cons (.nm 5) .nil)) (.call 4 (.cons (.nm 9) (.cons (.nm 4) (.cons (.nm 5) .nil)))) (.fz 12 (.asg (.nm 7) (.call 5 (.cons (.nm 9) (.cons (.nm 4) (.cons (.nm 5) .nil)))) (.ite (.or (.not (.val (.call 6 (.cons (.nm 7) (.cons (.nm 13) .nil))))) (.one (.cmp .ne (.nm 5) (.nm 12)))) (.ret (.bl false) .nil) .nil (.for_ (.nm 8) (.rng (.cons (.nm 3) .nil)) b_law_3 .nil)))))
def b_law_5 : DL.B := (.fz 5 (.ite (.cmp .eq (.call 1 (.cons (.nm 1) (.cons (.int 4) .nil))) (.int 0)) b_law_2 .nil b_law_4))
def b_law_6 : DL.B := (.asg (.nm 4) (.blt .tuple (.cons (.lc [15] (.nm 15) (.sq (.nm 9)) .nop (.bin .add (.nm 15) (.bin .mul (.call 3 (.cons (.nm 1) (.cons (.nm 10) .nil))) (.call 1 (.cons (.nm 1) (.cons (.int 2) .nil)))))) .nil)) (.asg (.nm 5) (.lst .nil) (.for_ (.nm 6) (.rng (.cons (.call 1 (.cons (.nm 1) (.cons (.int 7) .nil))) .nil)) b_law_1 b_law_5)))
def b_law_7 : DL.B := (.asg (.nm 3) (.bin .add (.int 1) (.call 1 (.cons (.nm 1) (.cons (.int 8) .nil)))) (.asg (.cons (.nm 9) (.cons (.nm 10) .nil)) (.tup (.cons (.call 2 (.cons (.nm 1) (.cons (.nm 3) (.cons (.int 9) .nil)))) (.cons (.ix (.lst (.cons (.int 1) (.cons (.int 4) (.cons (.int 9) (.cons (.bin .pow (.int 10) (.int 18)) (.cons (.bin .pow (.int 10) (.int 38)) .nil)))))) (.call 1 (.cons (.nm 1) (.cons (.int 5) .nil)))) .nil))) b_law_6))
def b_law : DL.B := (.asg (.nm 1) (.call 0 (.cons (.nm 0) .nil)) (.for_ (.nm 2) (.rng (.cons (.int 10) .nil)) b_law_7 (.ret (.bl true) .nil)))
theorem sc_law : FnScope n_law ["_law_script"] (defScope s_law) := ⟨rfl, rfl, rfl, by decide +kernel, rfl, by decide +kernel, by decide +kernel⟩
theorem ck_law : okB c_law b_law (defBody s_law) = true := by decide +kernel
theorem sc_law_take : FnScope takeN ["_law_bag_here", "_law_many"] (defScope s_law_take) := ⟨rfl, rfl, rfl, by decide +kernel, rfl, by decide +kernel, by decide +kernel⟩
theorem sc_law_bag : FnScope bagNm ["_law_script"] (defScope s_law_bag) := ⟨rfl, rfl, rfl, by decide +kernel, rfl, by decide +kernel, by decide +kernel⟩
theorem ck_law_take : okB { toCt := ⟨takeN, defScope s_law_take, defScope s_law_take⟩, fn := [], gl := [], bs := ["len"] } takeB (defBody s_law_take) = true := by decide +kernel
theorem ck_law_bag : okB { toCt := ⟨bagNm, defScope s_law_bag, defScope s_law_bag⟩, fn := [], gl := [], bs := ["abs"] } bagB (defBody s_law_bag) = true := by decide +kernel
end KT
namespace KT
open PySem PySem.Spec PyProof.Rows L2 DL
local macro_rules | `(tactic| trace_state) => `(tactic| repeat' first | (with_reducible show w _ _ _ _; first | with_reducible refine w_nm (by with_unfolding_all exact rfl) ?_ | with_reducible refine w_ix ?_ | with_reducible refine w_int ?_ | with_reducible refine w_bin ?_ | with_reducible refine w_cmp ?_ | with_reducible refine w_call (by with_unfolding_all exact rfl) ?_ | with_reducible refine w_blt ?_ | with_reducible refine w_ow (by with_unfolding_all exact rfl) ?_ | with_reducible refine w_tup ?_ | with_reducible refine w_lst ?_ | with_reducible refine w_str ?_ | with_reducible refine w_neg ?_ | with_reducible refine w_ife ?_ | with_reducible refine w_sl ?_ | with_reducible refine w_and ?_ | with_reducible refine w_one ?_ | with_reducible refine w_or ?_ | with_reducible refine w_orv ?_ | with_reducible refine w_srtS ?_ | with_reducible refine w_not ?_ | with_reducible refine w_bl ?_ | with_reducible refine w_non ?_ | with_reducible refine w_gl (by with_unfolding_all exact rfl) ?_ | with_reducible refine w_chn ?_ | with_reducible refine w_lc (by with_unfolding_all exact rfl) ?_ | with_reducible refine w_fld ?_ | with_reducible refine w_mth (by with_unfolding_all exact rfl) ?_ | with_reducible refine w_mt0 (by with_unfolding_all exact rfl) ?_ | with_reducible refine w_prp (by with_unfolding_all exact rfl) ?_ | with_reducible refine w_new (by with_unfolding_all exact rfl) ?_ | with_reducible refine w_isi ?_ | with_reducible refine w_eqO (by with_unfolding_all exact rfl) ?_ | with_reducible refine w_isC ?_ | with_reducible refine w_lr1 ?_ | with_reducible refine w_lr2 ?_) | (with_reducible show wa _ _ _ _; first | with_reducible refine wa_cons ?_ | with_reducible refine wa_nil ?_) | (with_reducible show wv _ _ _ _; first | with_reducible refine wv_cons ?_ | with_reducible refine wv_nil ?_) | (with_reducible show T.fin _ _; first | with_reducible refine fin_leaf (by with_unfolding_all exact rfl) ?_ | with_reducible refine fin_mk (by with_unfolding_all exact rfl) ?_ | with_reducible refine fin_lst (by with_unfolding_all exact rfl) ?_ | with_reducible refine fin_tup (by with_unfolding_all exact rfl) ?_) | (with_reducible show And _ _; first | with_reducible refine and_len (by with_unfolding_all exact rfl) ?_) | (with_reducible show frozs _ _ _; first | with_reducible refine fz_nil ?_ | with_reducible refine fz_cons ?_) | (with_reducible show T.froz _ _ _; first | with_reducible refine fz_leaf (by with_unfolding_all exact rfl) ?_ | with_reducible refine fz_lst (by with_unfolding_all exact rfl) (by with_unfolding_all exact rfl) ?_ | with_reducible refine fz_tup (by with_unfolding_all exact rfl) (by with_unfolding_all exact rfl) ?_ | with_reducible refine fz_vw (by with_unfolding_all exact rfl) (by with_unfolding_all exact rfl) ?_) | (with_reducible show ixT _ _ _; first | with_reducible refine ix_lt (by with_unfolding_all exact rfl) (by with_unfolding_all exact rfl) (by with_unfolding_all exact at_getD (by assumption)) ?_ | with_reducible refine ix_lt (by with_unfolding_all exact rfl) (by with_unfolding_all exact rfl) (by with_unfolding_all exact rfl) ?_ | with_reducible refine ix_lst (by with_unfolding_all exact rfl) (by with_unfolding_all exact rfl) (by with_unfolding_all exact rfl) ?_ | with_reducible refine ix_ll (by with_unfolding_all exact rfl) (by with_unfolding_all exact rfl) (by with_unfolding_all exact rfl) ?_ | with_reducible refine ix_vli (by with_unfolding_all exact rfl) (by with_unfolding_all exact rfl) (by with_unfolding_all exact rfl) ?_ | with_reducible refine ix_vll (by with_unfolding_all exact rfl) (by with_unfolding_all exact rfl) (by with_unfolding_all exact rfl) ?_ | with_reducible refine ix_tup (by with_unfolding_all exact rfl) (by with_unfolding_all exact rfl) (by with_unfolding_all exact rfl) ?_ | with_reducible refine ix_vti (by with_unfolding_all exact rfl) (by with_unfolding_all exact rfl) (by with_unfolding_all exact rfl) ?_ | with_reducible refine ix_vlt (by with_unfolding_all exact rfl) (by with_unfolding_all exact rfl) (by with_unfolding_all exact rfl) ?_ | with_reducible refine ix_vtl (by with_unfolding_all exact rfl) (by with_unfolding_all exact rfl) (by with_unfolding_all exact rfl) ?_ | with_reducible refine ix_vls (by with_unfolding_all exact rfl) (by with_unfolding_all exact rfl) (by with_unfolding_all exact rfl) ?_) | (with_reducible show DL.binT _ _ _ _; first | with_reducible refine b_add (by with_unfolding_all exact rfl) (by with_unfolding_all exact rfl) ?_ | with_reducible refine b_sub (by with_unfolding_all exact rfl) (by with_unfolding_all exact rfl) ?_ | with_reducible refine b_mul (by with_unfolding_all exact rfl) (by with_unfolding_all exact rfl) (by with_unfolding_all exact mulR ⟨by decide, by decide⟩) ?_ | with_reducible refine b_mul (by with_unfolding_all exact rfl) (by with_unfolding_all exact rfl) (by with_unfolding_all exact mulL ⟨by decide, by decide⟩) ?_ | with_reducible refine b_mul (by with_unfolding_all exact rfl) (by with_unfolding_all exact rfl) (by with_unfolding_all exact mulL ⟨by omega, by omega⟩) ?_ | with_reducible refine b_mul (by with_unfolding_all exact rfl) (by with_unfolding_all exact rfl) (by with_unfolding_all exact mulR ⟨by omega, by omega⟩) ?_ | with_reducible refine b_mul (by with_unfolding_all exact rfl) (by with_unfolding_all exact rfl) ?_ ?_ | with_reducible refine b_p18 (by with_unfolding_all exact rfl) (by with_unfolding_all exact rfl) ?_ | with_reducible refine b_p9 (by with_unfolding_all exact rfl) (by with_unfolding_all exact rfl) ?_ | with_reducible refine b_p38 (by with_unfolding_all exact rfl) (by with_unfolding_all exact rfl) ?_ | with_reducible refine b_p17 (by with_unfolding_all exact rfl) (by with_unfolding_all exact rfl) ?_ | with_reducible refine b_p40 (by with_unfolding_all exact rfl) (by with_unfolding_all exact rfl) ?_ | with_reducible refine b_p39 (by with_unfolding_all exact rfl) (by with_unfolding_all exact rfl) ?_ | with_reducible refine b_p21 (by with_unfolding_all exact rfl) (by with_unfolding_all exact rfl) ?_ | with_reducible refine b_p20 (by with_unfolding_all exact rfl) (by with_unfolding_all exact rfl) ?_ | with_reducible refine b_p6 (by with_unfolding_all exact rfl) (by with_unfolding_all exact rfl) ?_ | with_reducible refine b_pow (by with_unfolding_all exact rfl) (by with_unfolding_all exact rfl) (by with_unfolding_all decide) ?_ | with_reducible refine b_mod (by with_unfolding_all exact rfl) (by with_unfolding_all exact rfl) (by with_unfolding_all (first | decide | assumption | omega)) ?_ | with_reducible refine b_mod (by with_unfolding_all exact rfl) (by with_unfolding_all exact rfl) ?_ ?_ | with_reducible refine b_fdiv (by with_unfolding_all exact rfl) (by with_unfolding_all exact rfl) (by with_unfolding_all exact ⟨by decide, by decide⟩) ?_ | with_reducible refine b_fdiv (by with_unfolding_all exact rfl) (by with_unfolding_all exact rfl) (by with_unfolding_all exact ⟨by assumption, by assumption⟩) ?_ | with_reducible refine b_fdiv (by with_unfolding_all exact rfl) (by with_unfolding_all exact rfl) ?_ ?_ | with_reducible refine b_catL (by with_unfolding_all exact rfl) (by with_unfolding_all exact rfl) (by with_unfolding_all exact rfl) ?_) | (with_reducible show cmpD _ _ _ _; first | with_reducible refine c_eq (by with_unfolding_all exact rfl) (by with_unfolding_all exact rfl) ?_ | with_reducible refine c_ne (by with_unfolding_all exact rfl) (by with_unfolding_all exact rfl) ?_ | with_reducible refine c_lt (by with_unfolding_all exact rfl) (by with_unfolding_all exact rfl) ?_ | with_reducible refine c_le (by with_unfolding_all exact rfl) (by with_unfolding_all exact rfl) ?_ | with_reducible refine c_gt (by with_unfolding_all exact rfl) (by with_unfolding_all exact rfl) ?_ | with_reducible refine c_ge (by with_unfolding_all exact rfl) (by with_unfolding_all exact rfl) ?_ | with_reducible refine c_nes (by with_unfolding_all exact rfl) (by with_unfolding_all exact rfl) ?_ | with_reducible refine c_eqs (by with_unfolding_all exact rfl) (by with_unfolding_all exact rfl) ?_ | with_reducible refine c_inT (by with_unfolding_all exact rfl) (by with_unfolding_all exact rfl) (by with_unfolding_all (first | exact tb_stop | exact tb_wish | exact tb_bar | exact tb_tie | exact wt_stop | exact wt_wish | exact wt_bar | exact wt_tie)) ?_ | with_reducible refine c_ninT (by with_unfolding_all exact rfl) (by with_unfolding_all exact rfl) (by with_unfolding_all (first | exact w4_stop | exact w4_wish | exact w4_bar | exact w4_tie)) ?_ | with_reducible refine c_isT (by with_unfolding_all exact rfl) (by with_unfolding_all exact rfl) ?_ | with_reducible refine c_isF (by with_unfolding_all exact rfl) (by with_unfolding_all exact rfl) ?_ | with_reducible refine c_notT (by with_unfolding_all exact rfl) (by with_unfolding_all exact rfl) ?_ | with_reducible refine c_notF (by with_unfolding_all exact rfl) (by with_unfolding_all exact rfl) ?_) | (with_reducible show wt _ _ _ _; first | with_reducible refine wt_cmp ?_ | with_reducible refine wt_not ?_ | with_reducible refine wt_val ?_ | with_reducible refine wt_and ?_ | with_reducible refine wt_or ?_ | with_reducible refine wt_one ?_ | with_reducible refine wt_chn ?_) | (with_reducible show @ite _ _ _ _ _; first | with_reducible refine ite_t ?_ | with_reducible refine ite_f ?_ | with_reducible refine ite_nt ?_ | with_reducible refine ite_nf ?_ | with_reducible refine ite_decT (by decide) ?_ | with_reducible refine ite_decF (by decide) ?_ | with_reducible refine ite_dec (fun _ => ?_) (fun _ => ?_) | with_reducible refine ite_ndecT (by with_unfolding_all exact rfl) ?_ | with_reducible refine ite_ndec (fun _ => ?_) (fun _ => ?_)) | (with_reducible show wb _ _ _ _; first | with_reducible refine wb_asg ?_ | with_reducible refine wb_ite ?_ | with_reducible refine wb_ret ?_ | with_reducible refine wb_nil ?_ | with_reducible refine wb_for ?_ | with_reducible refine wb_asgLc (by with_unfolding_all exact rfl) (by with_unfolding_all exact rfl) ?_ | with_reducible refine wb_setix (by with_unfolding_all exact rfl) ?_ | with_reducible refine wb_augix (by with_unfolding_all exact rfl) ?_ | with_reducible refine wb_aug (by with_unfolding_all exact rfl) (by with_unfolding_all exact rfl) ?_ | with_reducible refine wb_fgt ?_ | with_reducible refine wb_unp2 ?_ | with_reducible refine wb_ext (by with_unfolding_all exact rfl) ?_ | with_reducible refine wb_augix2 (by with_unfolding_all exact rfl) ?_ | with_reducible refine wb_ex ?_ | with_reducible refine wb_fz (by with_unfolding_all exact rfl) (by with_unfolding_all exact rfl) ?_ | with_reducible refine wb_pass ?_ | with_reducible refine wb_brk ?_ | with_reducible refine wb_cont ?_ | with_reducible refine wb_retN ?_ | with_reducible refine wb_par3b (by with_unfolding_all decide) (by with_unfolding_all exact rfl) (by with_unfolding_all exact rfl) (by with_unfolding_all exact rfl) ?_ | with_reducible refine wb_par2 (by with_unfolding_all decide) (by with_unfolding_all exact rfl) (by with_unfolding_all exact rfl) ?_ | with_reducible refine wb_app (by with_unfolding_all exact rfl) (by with_unfolding_all (simp; done)) ?_ | with_reducible refine wb_app (by with_unfolding_all exact rfl) ?_ ?_) | (with_reducible show Exists _; first | with_reducible refine bind_nm (by with_unfolding_all exact rfl) ?_ | with_reducible refine bind_pair (by with_unfolding_all exact rfl) (by with_unfolding_all exact rfl) (by with_unfolding_all exact rfl) ?_ | with_reducible refine bind_5 (by with_unfolding_all exact rfl) (by with_unfolding_all exact rfl) ?_ | with_reducible refine ex_int (by with_unfolding_all exact rfl) ?_ | with_reducible refine ex_bl (by with_unfolding_all exact rfl) ?_ | with_reducible refine ex_isT (by with_unfolding_all exact rfl) ?_ | with_reducible refine set_to (by with_unfolding_all exact rfl) (by with_unfolding_all exact rfl) ?_ | with_reducible refine aug_to (by with_unfolding_all exact rfl) (by with_unfolding_all exact rfl) (by with_unfolding_all exact rfl) ?_ | with_reducible refine ex_rg1 (by with_unfolding_all exact rfl) (by with_unfolding_all (unfold RgS; omega)) ?_ | with_reducible refine ex_rg2 (by with_unfolding_all exact rfl) (by with_unfolding_all exact rfl) (by with_unfolding_all (unfold RgS; omega)) ?_) | (with_reducible show bltT _ _ _; first | with_reducible refine l_lens (by with_unfolding_all exact rfl) ?_ | with_reducible refine l_len (by with_unfolding_all exact rfl) ?_ | with_reducible refine l_lentK 4 (by with_unfolding_all exact rfl) (by with_unfolding_all exact rfl) ?_ | with_reducible refine l_lentK 5 (by with_unfolding_all exact rfl) (by with_unfolding_all exact rfl) ?_ | with_reducible refine l_lentK 6 (by with_unfolding_all exact rfl) (by with_unfolding_all exact rfl) ?_ | with_reducible refine l_lent (by with_unfolding_all exact rfl) ?_ | with_reducible refine l_abs (by with_unfolding_all exact rfl) ?_ | with_reducible refine l_max2 (by with_unfolding_all exact rfl) (by with_unfolding_all exact rfl) ?_ | with_reducible refine l_min2 (by with_unfolding_all exact rfl) (by with_unfolding_all exact rfl) ?_ | with_reducible refine l_max3 (by with_unfolding_all exact rfl) (by with_unfolding_all exact rfl) (by with_unfolding_all exact rfl) ?_ | with_reducible refine l_intT (by with_unfolding_all exact rfl) ?_ | with_reducible refine l_intF (by with_unfolding_all exact rfl) ?_ | with_reducible refine l_intD (by with_unfolding_all exact rfl) (fun _ => ?_) (fun _ => ?_)) | (with_reducible show slT _ _ _ _; first | with_reducible refine sl_lt (by with_unfolding_all exact rfl) (by with_unfolding_all exact rfl) ?_) | (with_reducible show tru _ _; first | with_reducible refine t_bl (by with_unfolding_all exact rfl) ?_) | (with_reducible show augD _ _ _ _; first | with_reducible refine a_add (by with_unfolding_all exact rfl) (by with_unfolding_all exact rfl) ?_ | with_reducible refine a_sub (by with_unfolding_all exact rfl) (by with_unfolding_all exact rfl) ?_) | (with_reducible show wo _ _ _ _; first | with_reducible refine wo_nop ?_ | with_reducible refine wo_prt ?_) | (with_reducible show wi _ _ _ _; first | with_reducible refine wi_rng ?_ | with_reducible refine wi_sq ?_ | with_reducible refine wi_zip ?_ | with_reducible refine wi_enm ?_) | (with_reducible show wc _ _ _ _; first | with_reducible refine wc_nop ?_ | with_reducible refine wc_one ?_))
theorem lcI_ty {α : Type} (enc : α → DL.D) (p : α → Bool) (f : α → DL.D) {g : Tg} {wc : DL.Env → (Bool → Prop) → Prop} {we : DL.Env → (T → Prop) → Prop} {ρ : DL.Env} {Φ : List T → Prop} : ∀ {as : List α} {acc : List T},
    (∀ a ∈ as, ∀ (Ψ : T → Prop) (N : Prop), (p a = true → Ψ (.leaf (f a))) → (p a = false → N) → ∃ ρ', bindG g (.leaf (enc a)) ρ = some ρ' ∧ wc ρ' fun b => if b = true then we ρ' fun t => t.fin Ψ else N) →
    Φ (acc ++ (as.filter p).map fun a => .leaf (f a)) → lcW g wc we ρ (as.map enc) acc Φ
  | [], acc, _, k => by simpa [lcW] using k
  | a :: as, acc, hs, k => by
    simp only [List.map_cons, lcW]
    refine hs a List.mem_cons_self _ _ (fun hp => ?_) fun hp => ?_
    · refine lcI_ty enc p f (fun a' ha' => hs a' (List.mem_cons_of_mem _ ha')) ?_
      rw [List.filter_cons_of_pos hp] at k
      simpa using k
    · refine lcI_ty enc p f (fun a' ha' => hs a' (List.mem_cons_of_mem _ ha')) ?_
      rw [List.filter_cons_of_neg (by simp [hp])] at k
      exact k
theorem lcI_tyM {α : Type} (enc : α → DL.D) (f : α → DL.D) {S : Sg} {g : Tg} {we : DL.Env → (T → Prop) → Prop} {ρ : DL.Env} {Φ : List T → Prop} {as : List α} {acc : List T}
    (hs : ∀ a ∈ as, ∀ (Ψ : T → Prop), Ψ (.leaf (f a)) → ∃ ρ', bindG g (.leaf (enc a)) ρ = some ρ' ∧ we ρ' fun t => t.fin Ψ)
    (k : Φ (acc ++ as.map fun a => .leaf (f a))) : lcW g (wc S .nop) we ρ (as.map enc) acc Φ :=
  lcI_ty enc (fun _ => true) f (fun a ha Ψ N h _ => let ⟨ρ', e, q⟩ := hs a ha Ψ (h rfl); ⟨ρ', e, wc_nop (by rw [if_pos rfl]; exact q)⟩) (by rwa [List.filter_eq_self.mpr fun _ _ => rfl])
def cnt (ns : List Int) (d : Int) : Int := ((ns.filter fun n => decide (n ≤ d)).length : Int)
abbrev stepAt (xs ys ns : List Int) (k : Nat) : Int := cnt ns (xs.getD k 0 - ys.getD k 0)
def exA (xs ys ns : List Int) : List Int := (List.range xs.length).map fun k => xs.getD k 0 - stepAt xs ys ns k
def exB (xs ys ns : List Int) : List Int := (List.range xs.length).map fun k => ys.getD k 0 + stepAt xs ys ns k
def exD (xs ys ns : List Int) : DL.D := .tup [itup (exA xs ys ns), itup (exB xs ys ns)]
abbrev ilist (ns : List Int) : DL.D := .lst (ns.map .int)
theorem zip_range : ∀ {xs ys : List Int} , ys.length = xs.length → zipD (xs.map .int) (ys.map .int) = (List.range xs.length).map fun k => DL.D.tup [.int (xs.getD k 0), .int (ys.getD k 0)]
  | [], [], _ => rfl
  | x :: xs, y :: ys, h => by
    have ih := zip_range (xs := xs) (ys := ys) (by simpa using h)
    rw [List.map_cons, List.map_cons, zipD, ih, List.length_cons, List.range_succ_eq_map, List.map_cons, List.map_map]
    rfl
  | [], y :: ys, h => by cases h
  | x :: xs, [], h => by cases h
theorem zw_tt {xs ys : List Int} {Ψ : List DL.D → Prop} (h : ys.length = xs.length) (k : Ψ ((List.range xs.length).map fun k => DL.D.tup [.int (xs.getD k 0), .int (ys.getD k 0)])) : zipW [itup xs, itup ys] Ψ := by
  show Ψ (zipD (xs.map .int) (ys.map .int))
  rw [zip_range h]; exact k
theorem zw_tl {xs ys : List Int} {Ψ : List DL.D → Prop} (h : ys.length = xs.length) (k : Ψ ((List.range xs.length).map fun k => DL.D.tup [.int (xs.getD k 0), .int (ys.getD k 0)])) : zipW [itup xs, ilist ys] Ψ := by
  show Ψ (zipD (xs.map .int) (ys.map .int))
  rw [zip_range h]; exact k
theorem len_ints {L : List Int} {Φ : T → Prop} (k : Φ (.leaf (.int L.length))) : bltT .len [.lst (L.map fun a => T.leaf (.int a))] Φ :=
  l_len (ds := L.map .int) (by rw [T.dat, T.dats_eq, List.map_map]; rfl) (by rw [List.length_map]; exact k)
theorem getD_range {f : Nat → Int} {n k : Nat} (h : k < n) : ((List.range n).map f).getD k 0 = f k := by simp [h]
theorem dat_range {n : Nat} (f : Nat → Int) : (T.lst ((List.range n).map fun k => T.leaf (.int (f k)))).dat = ilist ((List.range n).map f) := by
  rw [T.dat, T.dats_eq, List.map_map, ilist, List.map_map]; rfl
theorem tup_ilist {L : List Int} {Φ : T → Prop} (k : Φ (.leaf (itup L))) : bltT .tuple [.leaf (ilist L)] Φ := by
  refine l_tuple (.inl rfl) ?_
  rw [show ((L.map DL.D.int).map T.leaf) = L.map fun g => T.leaf (.int g) by rw [List.map_map]; rfl, mk_ints]
  exact k
theorem tup_range {n : Nat} {f : Nat → Int} {Φ : T → Prop} (k : Φ (.leaf (itup ((List.range n).map f)))) : bltT .tuple [.lst ((List.range n).map fun k => T.leaf (.int (f k)))] Φ := by
  refine l_tuple (.inl rfl) ?_
  rw [show ((List.range n).map fun k => T.leaf (.int (f k))) = ((List.range n).map f).map fun g => T.leaf (.int g) by rw [List.map_map]; rfl, mk_ints]
  exact k
def exF : SpecF := fnF (fun x : List Int × List Int × List Int => [itup x.1, itup x.2.1, ilist x.2.2]) (fun x => x.1.length ≤ 1000 ∧ x.2.1.length = x.1.length ∧ x.2.2.length ≤ 1000) (fun x => exD x.1 x.2.1 x.2.2)
def F_exchange : SpecF := exF
theorem M_exchange : Mono F_exchange := fnM _ _ _
def S_exchange : Sg := { z := true, fs := [], gs := [] }
theorem W_exchange : WOk S_exchange n_exchange b_exchange F_exchange 3 := by
  rintro ds Φ ⟨⟨xs, ys, ns⟩, rfl, ⟨h1, h2, h3⟩, k⟩
  refine ⟨rfl, ?_⟩
  have h1 : xs.length ≤ 1000 := h1
  have h2 : ys.length = xs.length := h2
  have h3 : ns.length ≤ 1000 := h3
  unfold b_exchange
  trace_state
  refine zw_tt h2 ⟨by simp; omega, ?_⟩
  refine lcI_tyM (fun k : Nat => DL.D.tup [.int (xs.getD k 0), .int (ys.getD k 0)]) (fun k => .int (stepAt xs ys ns k)) (fun m hm Ψ g1 => ?_) ?_
  · trace_state
    refine ⟨_, rfl, by simp; omega, lcI_ty DL.D.int (fun n => decide (n ≤ xs.getD m 0 - ys.getD m 0)) DL.D.int (fun d hd Ψ N g1 g2 => ?_) ?_⟩
    · trace_state
      · rename_i h
        exact g1 (decide_eq_true h)
      · rename_i h
        exact g2 (decide_eq_false h)
    trace_state
    refine len_ints ?_
    trace_state
    exact g1
  rw [List.nil_append]
  refine wb_fz rfl rfl ?_
  rw [dat_range]
  trace_state
  refine zw_tl (by simp) ⟨by simp; omega, lcI_tyM (fun k : Nat => DL.D.tup [.int (xs.getD k 0), .int (((List.range xs.length).map (stepAt xs ys ns)).getD k 0)]) (fun k => .int (xs.getD k 0 - stepAt xs ys ns k)) (fun m hm Ψ g1 => ?_) ?_⟩
  · rw [getD_range (List.mem_range.mp hm)]
    trace_state
    exact g1
  rw [List.nil_append]
  trace_state
  refine tup_range (f := fun k => xs.getD k 0 - stepAt xs ys ns k) ?_
  trace_state
  refine zw_tl (by simp; exact h2.symm) ⟨by simp; omega, lcI_tyM (fun k : Nat => DL.D.tup [.int (ys.getD k 0), .int (((List.range xs.length).map (stepAt xs ys ns)).getD k 0)]) (fun k => .int (ys.getD k 0 + stepAt xs ys ns k)) (fun m hm Ψ g1 => ?_) ?_⟩
  · have hm : m < xs.length := by rw [← h2]; exact List.mem_range.mp hm
    rw [getD_range hm]
    trace_state
    exact g1
  rw [List.nil_append]
  trace_state
  refine tup_range (f := fun k => ys.getD k 0 + stepAt xs ys ns k) ?_
  rw [show (xs, ys, ns).snd.fst.length = xs.length from h2]
  trace_state
  exact k
def F_law_traded : SpecF := exF
theorem M_law_traded : Mono F_law_traded := fnM _ _ _
def S_law_traded : Sg := { z := true, fs := [], gs := [] }
abbrev ETr (xs ys ns : List Int) (m : Nat) (c3 c6 : Option T) : DL.Env :=
  [some (.leaf (itup xs)), some (.leaf (itup ys)), some (.leaf (ilist ns)), c3, some (.lst ((List.range m).map fun k => .leaf (.int (xs.getD k 0 - stepAt xs ys ns k)))), some (.lst ((List.range m).map fun k => .leaf (.int (ys.getD k 0 + stepAt xs ys ns k)))), c6, none]
theorem W_law_traded : WOk S_law_traded n_law_traded b_law_traded F_law_traded 3 := by
  rintro ds Φ ⟨⟨xs, ys, ns⟩, rfl, ⟨h1, h2, h3⟩, k⟩
  refine ⟨rfl, ?_⟩
  have h1 : xs.length ≤ 1000 := h1
  have h2 : ys.length = xs.length := h2
  have h3 : ns.length ≤ 1000 := h3
  unfold b_law_traded
  trace_state
  refine ⟨⟨by show -(2 ^ 62) ≤ (xs.length : Int); omega, by show (xs.length : Int) < 2 ^ 62; omega⟩, ?_⟩
  simp only [Int.toNat_natCast]
  refine forW_inv (fun ds ρ => ∃ (m r : Nat) (c3 c6 : Option T), m + r = xs.length ∧ ds = (List.range' m r).map (fun k : Nat => DL.D.int k) ∧ ρ = ETr xs ys ns m c3 c6) ⟨0, xs.length, none, none, by omega, by rw [List.range_eq_range'], rfl⟩ ?_ ?_
  · rintro d r ρ K' ⟨m, j, c3, c6, e, e2, rfl⟩ q1 q2 q3 q4
    cases j with
    | zero => cases e2
    | succ j =>
      rw [List.range'_succ, List.map_cons] at e2
      obtain ⟨rfl, rfl⟩ := List.cons.inj e2
      have hm : m < xs.length := by omega
      have hm2 : m < ys.length := by omega
      refine bind_nm rfl ?_
      trace_state
      refine ⟨_, rfl, by simp; omega, lcI_ty DL.D.int (fun n => decide (n ≤ xs.getD m 0 - ys.getD m 0)) DL.D.int (fun d hd Ψ N g1 g2 => ?_) ?_⟩
      · trace_state
        · rename_i h
          exact g1 (decide_eq_true h)
        · rename_i h
          exact g2 (decide_eq_false h)
      show wv _ _ _ _
      refine wv_nil (len_ints (fin_leaf rfl (bind_nm rfl (wb_app rfl (by simp; omega) ?_))))
      refine w_bin (w_ix (w_nm rfl (w_nm rfl (ix_lt rfl rfl (at_getD hm) (w_nm rfl (b_sub rfl rfl (fin_leaf rfl (wb_app rfl (by simp; omega) ?_))))))))
      refine w_bin (w_ix (w_nm rfl (w_nm rfl (ix_lt rfl rfl (at_getD hm2) (w_nm rfl (b_add rfl rfl (fin_leaf rfl (wb_nil ?_))))))))
      refine q1 _ ⟨m + 1, j, some (.leaf (.int m)), some (.leaf (.int (stepAt xs ys ns m))), by omega, rfl, ?_⟩
      unfold ETr
      rw [List.range_succ, List.map_append, List.map_append]
      rfl
  · rintro ρ ⟨m, j, c3, c6, e, e2, rfl⟩
    cases j with
    | succ j => rw [List.range'_succ, List.map_cons] at e2; cases e2
    | zero =>
      have : m = xs.length := by omega
      subst this
      refine wb_fz rfl rfl (wb_fz rfl rfl ?_)
      rw [dat_range, dat_range]
      trace_state
      refine tup_ilist ?_
      trace_state
      refine tup_ilist ?_
      trace_state
      exact k
end KT
namespace KT
open PySem PySem.Spec PyProof.Rows L2 DL
local macro_rules | `(tactic| trace_state) => `(tactic| repeat' first | (with_reducible show w _ _ _ _; first | with_reducible refine w_nm (by with_unfolding_all exact rfl) ?_ | with_reducible refine w_ix ?_ | with_reducible refine w_int ?_ | with_reducible refine w_bin ?_ | with_reducible refine w_cmp ?_ | with_reducible refine w_call (by with_unfolding_all exact rfl) ?_ | with_reducible refine w_blt ?_ | with_reducible refine w_ow (by with_unfolding_all exact rfl) ?_ | with_reducible refine w_tup ?_ | with_reducible refine w_lst ?_ | with_reducible refine w_str ?_ | with_reducible refine w_neg ?_ | with_reducible refine w_ife ?_ | with_reducible refine w_sl ?_ | with_reducible refine w_and ?_ | with_reducible refine w_one ?_ | with_reducible refine w_or ?_ | with_reducible refine w_orv ?_ | with_reducible refine w_srtS ?_ | with_reducible refine w_not ?_ | with_reducible refine w_bl ?_ | with_reducible refine w_non ?_ | with_reducible refine w_gl (by with_unfolding_all exact rfl) ?_ | with_reducible refine w_chn ?_ | with_reducible refine w_lc (by with_unfolding_all exact rfl) ?_ | with_reducible refine w_fld ?_ | with_reducible refine w_mth (by with_unfolding_all exact rfl) ?_ | with_reducible refine w_mt0 (by with_unfolding_all exact rfl) ?_ | with_reducible refine w_prp (by with_unfolding_all exact rfl) ?_ | with_reducible refine w_new (by with_unfolding_all exact rfl) ?_ | with_reducible refine w_isi ?_ | with_reducible refine w_eqO (by with_unfolding_all exact rfl) ?_ | with_reducible refine w_isC ?_ | with_reducible refine w_lr1 ?_ | with_reducible refine w_lr2 ?_) | (with_reducible show wa _ _ _ _; first | with_reducible refine wa_cons ?_ | with_reducible refine wa_nil ?_) | (with_reducible show wv _ _ _ _; first | with_reducible refine wv_cons ?_ | with_reducible refine wv_nil ?_) | (with_reducible show T.fin _ _; first | with_reducible refine fin_leaf (by with_unfolding_all exact rfl) ?_ | with_reducible refine fin_mk (by with_unfolding_all exact rfl) ?_ | with_reducible refine fin_lst (by with_unfolding_all exact rfl) ?_ | with_reducible refine fin_tup (by with_unfolding_all exact rfl) ?_) | (with_reducible show And _ _; first | with_reducible refine and_len (by with_unfolding_all exact rfl) ?_) | (with_reducible show frozs _ _ _; first | with_reducible refine fz_nil ?_ | with_reducible refine fz_cons ?_) | (with_reducible show T.froz _ _ _; first | with_reducible refine fz_leaf (by with_unfolding_all exact rfl) ?_ | with_reducible refine fz_lst (by with_unfolding_all exact rfl) (by with_unfolding_all exact rfl) ?_ | with_reducible refine fz_tup (by with_unfolding_all exact rfl) (by with_unfolding_all exact rfl) ?_ | with_reducible refine fz_vw (by with_unfolding_all exact rfl) (by with_unfolding_all exact rfl) ?_) | (with_reducible show ixT _ _ _; first | with_reducible refine ix_lt (by with_unfolding_all exact rfl) (by with_unfolding_all exact rfl) (by with_unfolding_all exact at_getD (by assumption)) ?_ | with_reducible refine ix_lt (by with_unfolding_all exact rfl) (by with_unfolding_all exact rfl) (by with_unfolding_all exact rfl) ?_ | with_reducible refine ix_lst (by with_unfolding_all exact rfl) (by with_unfolding_all exact rfl) (by with_unfolding_all exact rfl) ?_ | with_reducible refine ix_ll (by with_unfolding_all exact rfl) (by with_unfolding_all exact rfl) (by with_unfolding_all exact rfl) ?_ | with_reducible refine ix_vli (by with_unfolding_all exact rfl) (by with_unfolding_all exact rfl) (by with_unfolding_all exact rfl) ?_ | with_reducible refine ix_vll (by with_unfolding_all exact rfl) (by with_unfolding_all exact rfl) (by with_unfolding_all exact rfl) ?_ | with_reducible refine ix_tup (by with_unfolding_all exact rfl) (by with_unfolding_all exact rfl) (by with_unfolding_all exact rfl) ?_ | with_reducible refine ix_vti (by with_unfolding_all exact rfl) (by with_unfolding_all exact rfl) (by with_unfolding_all exact rfl) ?_ | with_reducible refine ix_vlt (by with_unfolding_all exact rfl) (by with_unfolding_all exact rfl) (by with_unfolding_all exact rfl) ?_ | with_reducible refine ix_vtl (by with_unfolding_all exact rfl) (by with_unfolding_all exact rfl) (by with_unfolding_all exact rfl) ?_ | with_reducible refine ix_vls (by with_unfolding_all exact rfl) (by with_unfolding_all exact rfl) (by with_unfolding_all exact rfl) ?_) | (with_reducible show DL.binT _ _ _ _; first | with_reducible refine b_add (by with_unfolding_all exact rfl) (by with_unfolding_all exact rfl) ?_ | with_reducible refine b_sub (by with_unfolding_all exact rfl) (by with_unfolding_all exact rfl) ?_ | with_reducible refine b_mul (by with_unfolding_all exact rfl) (by with_unfolding_all exact rfl) (by with_unfolding_all exact mulR ⟨by decide, by decide⟩) ?_ | with_reducible refine b_mul (by with_unfolding_all exact rfl) (by with_unfolding_all exact rfl) (by with_unfolding_all exact mulL ⟨by decide, by decide⟩) ?_ | with_reducible refine b_mul (by with_unfolding_all exact rfl) (by with_unfolding_all exact rfl) (by with_unfolding_all exact mulL ⟨by omega, by omega⟩) ?_ | with_reducible refine b_mul (by with_unfolding_all exact rfl) (by with_unfolding_all exact rfl) (by with_unfolding_all exact mulR ⟨by omega, by omega⟩) ?_ | with_reducible refine b_mul (by with_unfolding_all exact rfl) (by with_unfolding_all exact rfl) ?_ ?_ | with_reducible refine b_p18 (by with_unfolding_all exact rfl) (by with_unfolding_all exact rfl) ?_ | with_reducible refine b_p9 (by with_unfolding_all exact rfl) (by with_unfolding_all exact rfl) ?_ | with_reducible refine b_p38 (by with_unfolding_all exact rfl) (by with_unfolding_all exact rfl) ?_ | with_reducible refine b_p17 (by with_unfolding_all exact rfl) (by with_unfolding_all exact rfl) ?_ | with_reducible refine b_p40 (by with_unfolding_all exact rfl) (by with_unfolding_all exact rfl) ?_ | with_reducible refine b_p39 (by with_unfolding_all exact rfl) (by with_unfolding_all exact rfl) ?_ | with_reducible refine b_p21 (by with_unfolding_all exact rfl) (by with_unfolding_all exact rfl) ?_ | with_reducible refine b_p20 (by with_unfolding_all exact rfl) (by with_unfolding_all exact rfl) ?_ | with_reducible refine b_p6 (by with_unfolding_all exact rfl) (by with_unfolding_all exact rfl) ?_ | with_reducible refine b_pow (by with_unfolding_all exact rfl) (by with_unfolding_all exact rfl) (by with_unfolding_all decide) ?_ | with_reducible refine b_mod (by with_unfolding_all exact rfl) (by with_unfolding_all exact rfl) (by with_unfolding_all (first | decide | assumption | omega)) ?_ | with_reducible refine b_mod (by with_unfolding_all exact rfl) (by with_unfolding_all exact rfl) ?_ ?_ | with_reducible refine b_fdiv (by with_unfolding_all exact rfl) (by with_unfolding_all exact rfl) (by with_unfolding_all exact ⟨by decide, by decide⟩) ?_ | with_reducible refine b_fdiv (by with_unfolding_all exact rfl) (by with_unfolding_all exact rfl) (by with_unfolding_all exact ⟨by assumption, by assumption⟩) ?_ | with_reducible refine b_fdiv (by with_unfolding_all exact rfl) (by with_unfolding_all exact rfl) ?_ ?_ | with_reducible refine b_catL (by with_unfolding_all exact rfl) (by with_unfolding_all exact rfl) (by with_unfolding_all exact rfl) ?_) | (with_reducible show cmpD _ _ _ _; first | with_reducible refine c_eq (by with_unfolding_all exact rfl) (by with_unfolding_all exact rfl) ?_ | with_reducible refine c_ne (by with_unfolding_all exact rfl) (by with_unfolding_all exact rfl) ?_ | with_reducible refine c_lt (by with_unfolding_all exact rfl) (by with_unfolding_all exact rfl) ?_ | with_reducible refine c_le (by with_unfolding_all exact rfl) (by with_unfolding_all exact rfl) ?_ | with_reducible refine c_gt (by with_unfolding_all exact rfl) (by with_unfolding_all exact rfl) ?_ | with_reducible refine c_ge (by with_unfolding_all exact rfl) (by with_unfolding_all exact rfl) ?_ | with_reducible refine c_nes (by with_unfolding_all exact rfl) (by with_unfolding_all exact rfl) ?_ | with_reducible refine c_eqs (by with_unfolding_all exact rfl) (by with_unfolding_all exact rfl) ?_ | with_reducible refine c_inT (by with_unfolding_all exact rfl) (by with_unfolding_all exact rfl) (by with_unfolding_all (first | exact tb_stop | exact tb_wish | exact tb_bar | exact tb_tie | exact wt_stop | exact wt_wish | exact wt_bar | exact wt_tie)) ?_ | with_reducible refine c_ninT (by with_unfolding_all exact rfl) (by with_unfolding_all exact rfl) (by with_unfolding_all (first | exact w4_stop | exact w4_wish | exact w4_bar | exact w4_tie)) ?_ | with_reducible refine c_isT (by with_unfolding_all exact rfl) (by with_unfolding_all exact rfl) ?_ | with_reducible refine c_isF (by with_unfolding_all exact rfl) (by with_unfolding_all exact rfl) ?_ | with_reducible refine c_notT (by with_unfolding_all exact rfl) (by with_unfolding_all exact rfl) ?_ | with_reducible refine c_notF (by with_unfolding_all exact rfl) (by with_unfolding_all exact rfl) ?_) | (with_reducible show wt _ _ _ _; first | with_reducible refine wt_cmp ?_ | with_reducible refine wt_not ?_ | with_reducible refine wt_val ?_ | with_reducible refine wt_and ?_ | with_reducible refine wt_or ?_ | with_reducible refine wt_one ?_ | with_reducible refine wt_chn ?_) | (with_reducible show @ite _ _ _ _ _; first | with_reducible refine ite_t ?_ | with_reducible refine ite_f ?_ | with_reducible refine ite_nt ?_ | with_reducible refine ite_nf ?_ | with_reducible refine ite_decT (by decide) ?_ | with_reducible refine ite_decF (by decide) ?_ | with_reducible refine ite_dec (fun _ => ?_) (fun _ => ?_) | with_reducible refine ite_ndecT (by with_unfolding_all exact rfl) ?_ | with_reducible refine ite_ndec (fun _ => ?_) (fun _ => ?_)) | (with_reducible show wb _ _ _ _; first | with_reducible refine wb_asg ?_ | with_reducible refine wb_ite ?_ | with_reducible refine wb_ret ?_ | with_reducible refine wb_nil ?_ | with_reducible refine wb_for ?_ | with_reducible refine wb_asgLc (by with_unfolding_all exact rfl) (by with_unfolding_all exact rfl) ?_ | with_reducible refine wb_setix (by with_unfolding_all exact rfl) ?_ | with_reducible refine wb_augix (by with_unfolding_all exact rfl) ?_ | with_reducible refine wb_aug (by with_unfolding_all exact rfl) (by with_unfolding_all exact rfl) ?_ | with_reducible refine wb_fgt ?_ | with_reducible refine wb_unp2 ?_ | with_reducible refine wb_ext (by with_unfolding_all exact rfl) ?_ | with_reducible refine wb_augix2 (by with_unfolding_all exact rfl) ?_ | with_reducible refine wb_ex ?_ | with_reducible refine wb_fz (by with_unfolding_all exact rfl) (by with_unfolding_all exact rfl) ?_ | with_reducible refine wb_pass ?_ | with_reducible refine wb_brk ?_ | with_reducible refine wb_cont ?_ | with_reducible refine wb_retN ?_ | with_reducible refine wb_par3b (by with_unfolding_all decide) (by with_unfolding_all exact rfl) (by with_unfolding_all exact rfl) (by with_unfolding_all exact rfl) ?_ | with_reducible refine wb_par2 (by with_unfolding_all decide) (by with_unfolding_all exact rfl) (by with_unfolding_all exact rfl) ?_ | with_reducible refine wb_app (by with_unfolding_all exact rfl) (by with_unfolding_all (simp; done)) ?_ | with_reducible refine wb_app (by with_unfolding_all exact rfl) ?_ ?_) | (with_reducible show Exists _; first | with_reducible refine bind_nm (by with_unfolding_all exact rfl) ?_ | with_reducible refine bind_pair (by with_unfolding_all exact rfl) (by with_unfolding_all exact rfl) (by with_unfolding_all exact rfl) ?_ | with_reducible refine bind_5 (by with_unfolding_all exact rfl) (by with_unfolding_all exact rfl) ?_ | with_reducible refine ex_int (by with_unfolding_all exact rfl) ?_ | with_reducible refine ex_bl (by with_unfolding_all exact rfl) ?_ | with_reducible refine ex_isT (by with_unfolding_all exact rfl) ?_ | with_reducible refine set_to (by with_unfolding_all exact rfl) (by with_unfolding_all exact rfl) ?_ | with_reducible refine aug_to (by with_unfolding_all exact rfl) (by with_unfolding_all exact rfl) (by with_unfolding_all exact rfl) ?_ | with_reducible refine ex_rg1 (by with_unfolding_all exact rfl) (by with_unfolding_all (unfold RgS; omega)) ?_ | with_reducible refine ex_rg2 (by with_unfolding_all exact rfl) (by with_unfolding_all exact rfl) (by with_unfolding_all (unfold RgS; omega)) ?_) | (with_reducible show bltT _ _ _; first | with_reducible refine l_lens (by with_unfolding_all exact rfl) ?_ | with_reducible refine l_len (by with_unfolding_all exact rfl) ?_ | with_reducible refine l_lentK 4 (by with_unfolding_all exact rfl) (by with_unfolding_all exact rfl) ?_ | with_reducible refine l_lentK 5 (by with_unfolding_all exact rfl) (by with_unfolding_all exact rfl) ?_ | with_reducible refine l_lentK 6 (by with_unfolding_all exact rfl) (by with_unfolding_all exact rfl) ?_ | with_reducible refine l_lent (by with_unfolding_all exact rfl) ?_ | with_reducible refine l_abs (by with_unfolding_all exact rfl) ?_ | with_reducible refine l_max2 (by with_unfolding_all exact rfl) (by with_unfolding_all exact rfl) ?_ | with_reducible refine l_min2 (by with_unfolding_all exact rfl) (by with_unfolding_all exact rfl) ?_ | with_reducible refine l_max3 (by with_unfolding_all exact rfl) (by with_unfolding_all exact rfl) (by with_unfolding_all exact rfl) ?_ | with_reducible refine l_intT (by with_unfolding_all exact rfl) ?_ | with_reducible refine l_intF (by with_unfolding_all exact rfl) ?_ | with_reducible refine l_intD (by with_unfolding_all exact rfl) (fun _ => ?_) (fun _ => ?_)) | (with_reducible show slT _ _ _ _; first | with_reducible refine sl_lt (by with_unfolding_all exact rfl) (by with_unfolding_all exact rfl) ?_) | (with_reducible show tru _ _; first | with_reducible refine t_bl (by with_unfolding_all exact rfl) ?_) | (with_reducible show augD _ _ _ _; first | with_reducible refine a_add (by with_unfolding_all exact rfl) (by with_unfolding_all exact rfl) ?_ | with_reducible refine a_sub (by with_unfolding_all exact rfl) (by with_unfolding_all exact rfl) ?_) | (with_reducible show wo _ _ _ _; first | with_reducible refine wo_nop ?_ | with_reducible refine wo_prt ?_) | (with_reducible show wi _ _ _ _; first | with_reducible refine wi_rng ?_ | with_reducible refine wi_sq ?_ | with_reducible refine wi_zip ?_ | with_reducible refine wi_enm ?_) | (with_reducible show wc _ _ _ _; first | with_reducible refine wc_nop ?_ | with_reducible refine wc_one ?_))
abbrev NumOk (ns : List Int) : Prop := ns.Nodup ∧ ∀ x ∈ ns, 1 ≤ x
theorem cnt_nn (ns : List Int) (d : Int) : 0 ≤ cnt ns d := by unfold cnt; omega
theorem cnt_len (ns : List Int) (d : Int) : cnt ns d ≤ ns.length := by
  unfold cnt
  have := List.length_filter_le (fun n => decide (n ≤ d)) ns
  omega
theorem cnt_le {ns : List Int} (h : NumOk ns) (d : Int) : cnt ns d ≤ max d 0 := by
  unfold cnt
  have nd : ((ns.filter fun n => decide (n ≤ d)).map fun x => (x - 1).toNat).Nodup := by
    refine List.pairwise_map.mpr ((h.1.sublist List.filter_sublist).imp_of_mem fun {a b} ha hb ne e => ?_)
    have a1 := h.2 a ((List.mem_filter.mp ha).1)
    have b1 := h.2 b ((List.mem_filter.mp hb).1)
    exact ne (by omega)
  have l := nd.length_le_of_subset (l₂ := List.range d.toNat) fun x hx => by
    obtain ⟨a, ha, rfl⟩ := List.mem_map.mp hx
    obtain ⟨a1, a2⟩ := List.mem_filter.mp ha
    have a3 : a ≤ d := by simpa using a2
    have := h.2 a a1
    rw [List.mem_range]
    omega
  rw [List.length_map, List.length_range] at l
  omega
theorem shw_pair2 {a b : List Int} (ha : ∀ x ∈ a, -(10 ^ 60) ≤ x ∧ x ≤ 10 ^ 60) (hb : ∀ x ∈ b, -(10 ^ 60) ≤ x ∧ x ≤ 10 ^ 60) (la : a.length ≤ 10000) (lb : b.length ≤ 10000) : (DL.D.tup [itup a, itup b]).Shw := by
  obtain ⟨⟨a1, _⟩, a3, _⟩ := shw_itup ha la
  obtain ⟨⟨b1, _⟩, b3, _⟩ := shw_itup hb lb
  have dp : ∀ ys : List Int, D.deps (ys.map D.int) = 0 := fun ys => by
    induction ys with
    | nil => rfl
    | cons x r ih => simp [D.deps, D.dep, ih]
  have wt : ∀ ys : List Int, D.wts (ys.map D.int) = ys.length := fun ys => by
    induction ys with
    | nil => rfl
    | cons x r ih => simp [D.wts, D.wt, ih]; omega
  refine ⟨⟨?_, ?_⟩, ?_, ?_⟩
  · simp only [D.lay, D.lays, a1, b1, Bool.and_self]
  · simp only [D.dep, D.deps, itup, dp]; omega
  · simp only [D.sm, D.sms, a3, b3, Bool.and_self]
  · simp only [D.wt, D.wts, itup, wt]; omega
theorem ilist_fit (ns : List Int) : (ilist ns).Fit := by
  refine ⟨?_, ?_⟩
  · show D.lays (ns.map D.int) = true
    rw [D.lays_eq, List.all_eq_true]
    intro x hx
    obtain ⟨t, _, rfl⟩ := List.mem_map.mp hx
    rfl
  · have : D.deps (ns.map D.int) ≤ 1 := D.deps_le fun d hd => by
      obtain ⟨t, _, rfl⟩ := List.mem_map.mp hd
      exact Nat.le_of_ble_eq_true rfl
    show D.deps _ + 1 ≤ 60
    omega
theorem memD_int {x : Int} {ns : List Int} : memD (.int x) (ns.map .int) = decide (x ∈ ns) := by
  unfold memD L2.inV
  rw [Bool.eq_iff_iff]
  simp only [List.any_map, List.any_eq_true, Function.comp, D.v, L2.eqV, beq_iff_eq, decide_eq_true_eq]
  exact ⟨fun ⟨y, hy, e⟩ => e ▸ hy, fun h => ⟨x, h, rfl⟩⟩
theorem c_ninI {d1 d2 : DL.D} {ns : List Int} {x : Int} {Ψ : Bool → Prop} (h1 : d1 = .int x) (h2 : d2 = ilist ns) (q : Ψ (!decide (x ∈ ns))) : cmpD .nin d1 d2 Ψ := by
  subst h1 h2
  refine ⟨rfl, by simp [D.flat], ?_⟩
  rw [memD_int]; exact q
def S_law : Sg := { z := true, fs := [bagF, takeF, F_law_standing, F_law_number, F_law_traded, F_exchange, F_law_alike], gs := [] }
abbrev E51 (sc xs ys ns : List Int) (n : Nat) (c2 c6 c7 c8 c10 c11 c12 c13 c14 : Option T) : DL.Env :=
  [some (.leaf (.scr sc)), some (.leaf .bag), c2, some (.leaf (.int n)), some (.leaf (itup ys)), some (.leaf (ilist ns)), c6, c7, c8, some (.leaf (itup xs)), c10, c11, c12, c13, c14, none, none]
section
variable {sc xs ys ns : List Int} {n : Nat} {c2 c6 c7 c8 c10 c11 c12 c13 c14 : Option T} {K : EnD}
theorem W_3 {m : Nat} (hx : xs.length = n) (hy : ys.length = n) (hm : m < n) (ok : NumOk ns) (k : ∀ c14, K.nx (E51 sc xs ys ns n c2 c6 (some (.leaf (exD xs ys ns))) (some (.leaf (.int m))) c10 c11 c12 c13 c14)) :
    wb S_law b_law_3 (E51 sc xs ys ns n c2 c6 (some (.leaf (exD xs ys ns))) (some (.leaf (.int m))) c10 c11 c12 c13 c14) K := by
  have m1 : m < xs.length := by omega
  have m2 : m < ys.length := by omega
  have mA : m < (exA xs ys ns).length := by simp [exA]; omega
  have mB : m < (exB xs ys ns).length := by simp [exB]; omega
  have vA : (exA xs ys ns).getD m 0 = xs.getD m 0 - stepAt xs ys ns m := getD_range m1
  have vB : (exB xs ys ns).getD m 0 = ys.getD m 0 + stepAt xs ys ns m := getD_range m1
  have c0 := cnt_nn ns (xs.getD m 0 - ys.getD m 0)
  have c1 := cnt_le ok (xs.getD m 0 - ys.getD m 0)
  unfold b_law_3
  trace_state
  simp only [T.dat, T.dats, vA, vB]
  trace_state
  refine l_suml (ns := [xs.getD m 0 - stepAt xs ys ns m, ys.getD m 0 + stepAt xs ys ns m]) rfl rfl ?_
  trace_state
  · rename_i h
    exact absurd (show [xs.getD m 0 - stepAt xs ys ns m, ys.getD m 0 + stepAt xs ys ns m].sum = xs.getD m 0 + ys.getD m 0 by simp only [List.sum_cons, List.sum_nil]; omega) h
  refine l_maxl (ns := [xs.getD m 0 - stepAt xs ys ns m, ys.getD m 0 + stepAt xs ys ns m]) rfl rfl (Nat.zero_lt_succ _) fun z hz _ => ?_
  have z1 : z ≤ max (xs.getD m 0) (ys.getD m 0) := by
    simp only [List.mem_cons, List.not_mem_nil, or_false] at hz
    rcases hz with rfl | rfl
    · show xs.getD m 0 - cnt ns (xs.getD m 0 - ys.getD m 0) ≤ _
      omega
    · show ys.getD m 0 + cnt ns (xs.getD m 0 - ys.getD m 0) ≤ _
      omega
  have e : (if ys.getD m 0 > xs.getD m 0 then ys.getD m 0 else xs.getD m 0) = max (xs.getD m 0) (ys.getD m 0) := by split <;> omega
  trace_state
  · rename_i h
    exact absurd (show z ≤ (if ys.getD m 0 > xs.getD m 0 then ys.getD m 0 else xs.getD m 0) by rw [e]; exact z1) h
  · exact k _
theorem W_4 (hx : xs.length = n) (hy : ys.length = n) (hn : n ≤ 8) (bx : ∀ x ∈ xs, -(10 ^ 50) ≤ x ∧ x ≤ 10 ^ 50) (by' : ∀ x ∈ ys, -(10 ^ 50) ≤ x ∧ x ≤ 10 ^ 50) (ok : NumOk ns) (hl : ns.length ≤ 100)
    (k : ∀ c7 c8 c12 c13 c14, K.nx (E51 sc xs ys ns n c2 c6 c7 c8 c10 c11 c12 c13 c14)) : wb S_law b_law_4 (E51 sc xs ys ns n c2 c6 c7 c8 c10 c11 c12 c13 c14) K := by
  have gx : ∀ m, m < n → -(10 ^ 50) ≤ xs.getD m 0 ∧ xs.getD m 0 ≤ 10 ^ 50 := fun m hm => by
    have e : xs.getD m 0 = xs[m] := by simp [show m < xs.length by omega]
    rw [e]; exact bx _ (List.getElem_mem _)
  have gy : ∀ m, m < n → -(10 ^ 50) ≤ ys.getD m 0 ∧ ys.getD m 0 ≤ 10 ^ 50 := fun m hm => by
    have e : ys.getD m 0 = ys[m] := by simp [show m < ys.length by omega]
    rw [e]; exact by' _ (List.getElem_mem _)
  have big : (10 : Int) ^ 50 + 100 ≤ 10 ^ 60 := by decide +kernel
  have shw : (exD xs ys ns).Shw := by
    refine shw_pair2 (fun x h => ?_) (fun x h => ?_) (by simp [exA]; omega) (by simp [exB]; omega)
    · obtain ⟨m, hm, rfl⟩ := List.mem_map.mp h
      have hm := List.mem_range.mp hm
      have a1 := gx m (by omega)
      have a2 := cnt_nn ns (xs.getD m 0 - ys.getD m 0)
      have a3 := cnt_len ns (xs.getD m 0 - ys.getD m 0)
      show _ ≤ xs.getD m 0 - cnt ns (xs.getD m 0 - ys.getD m 0) ∧ xs.getD m 0 - cnt ns (xs.getD m 0 - ys.getD m 0) ≤ _
      omega
    · obtain ⟨m, hm, rfl⟩ := List.mem_map.mp h
      have hm := List.mem_range.mp hm
      have a1 := gy m (by omega)
      have a2 := cnt_nn ns (xs.getD m 0 - ys.getD m 0)
      have a3 := cnt_len ns (xs.getD m 0 - ys.getD m 0)
      show _ ≤ ys.getD m 0 + cnt ns (xs.getD m 0 - ys.getD m 0) ∧ ys.getD m 0 + cnt ns (xs.getD m 0 - ys.getD m 0) ≤ _
      omega
  unfold b_law_4
  trace_state
  refine l_list (.inl rfl) ?_
  trace_state
  refine ⟨(xs, ys, ns), rfl, ⟨show xs.length ≤ 1000 by omega, show ys.length = xs.length by omega, show ns.length ≤ 1000 by omega⟩, ?_⟩
  dsimp only
  trace_state
  rw [show (T.lst (List.map T.leaf (List.map DL.D.int ns))).dat = ilist ns by rw [T.dat, T.dats_eq, List.map_map]; simp [Function.comp_def, T.dat]]
  refine ⟨(xs, ys, ns), rfl, ⟨show xs.length ≤ 1000 by omega, show ys.length = xs.length by omega, show ns.length ≤ 1000 by omega⟩, ?_⟩
  dsimp only
  trace_state
  refine ⟨exD xs ys ns, rfl, shw, ?_⟩
  trace_state
  refine c_nesame rfl (ilist_fit ns) ?_
  trace_state
  refine ⟨⟨by show -(2 ^ 62) ≤ (n : Int); omega, by show (n : Int) < 2 ^ 62; omega⟩, ?_⟩
  simp only [Int.toNat_natCast]
  refine forW_inv (fun ds ρ => ∃ (m r : Nat) (c8 c14 : Option T), m + r = n ∧ ds = (List.range' m r).map (fun k : Nat => DL.D.int k) ∧ ρ = E51 sc xs ys ns n c2 c6 (some (.leaf (exD xs ys ns))) c8 c10 c11 (some (.leaf (ilist ns))) (some (.leaf (exD xs ys ns))) c14) ⟨0, n, c8, c14, by omega, by rw [List.range_eq_range'], rfl⟩ ?_ ?_
  · rintro d r ρ K' ⟨m, j, d8, d14, e, e2, rfl⟩ q1 q2 q3 q4
    cases j with
    | zero => cases e2
    | succ j =>
      rw [List.range'_succ, List.map_cons] at e2
      obtain ⟨rfl, rfl⟩ := List.cons.inj e2
      refine bind_nm rfl ?_
      exact W_3 hx hy (by omega) ok fun c14 => q1 _ ⟨m + 1, j, some (.leaf (.int m)), c14, by omega, rfl, rfl⟩
  · rintro ρ ⟨m, j, d8, d14, e, e2, rfl⟩
    exact k _ _ _ _ _
theorem W_2 (hx : xs.length = n) (hy : ys.length = n) (hn : n ≤ 8) (bx : ∀ x ∈ xs, -(10 ^ 50) ≤ x ∧ x ≤ 10 ^ 50) (by' : ∀ x ∈ ys, -(10 ^ 50) ≤ x ∧ x ≤ 10 ^ 50) (ok : NumOk ns) (hl : ns.length ≤ 10)
    (k : ∀ ns, NumOk ns → ns.length ≤ 100 → K.nx (E51 sc xs ys ns n c2 c6 c7 c8 c10 c11 c12 c13 c14)) : wb S_law b_law_2 (E51 sc xs ys ns n c2 c6 c7 c8 c10 c11 c12 c13 c14) K := by
  unfold b_law_2
  trace_state
  refine ⟨_, rfl, ⟨by decide, by decide +kernel⟩, fun v a b => ?_⟩
  trace_state
  have vb : v ≤ 45 := by omega
  refine ⟨⟨by decide, by decide, by omega, by omega⟩, by simp; omega, lcI_ty (fun k : Nat => DL.D.int (1 + k)) (fun k : Nat => decide ((1 + (k : Int)) ∉ ns)) (fun k : Nat => DL.D.int (1 + k)) (fun d hd Ψ N g1 g2 => ?_) ?_⟩
  · trace_state
    refine c_ninI rfl rfl ?_
    by_cases q : (1 + (d : Int)) ∈ ns
    · rw [decide_eq_true q]
      exact g2 (by simp [q])
    · rw [decide_eq_false q]
      trace_state
      exact g1 (by simp [q])
  obtain ⟨more, em⟩ : ∃ more, more = ((List.range (1 + v - 1).toNat).filter fun k : Nat => decide ((1 + (k : Int)) ∉ ns)).map fun k : Nat => 1 + (k : Int) := ⟨_, rfl⟩
  have hm : ∀ x ∈ more, x ∉ ns ∧ 1 ≤ x := fun x hx => by
    rw [em] at hx
    obtain ⟨k, hk, rfl⟩ := List.mem_map.mp hx
    exact ⟨of_decide_eq_true (List.mem_filter.mp hk).2, by omega⟩
  have nm : more.Nodup := by
    rw [em]
    exact List.pairwise_map.mpr ((List.nodup_range.sublist List.filter_sublist).imp fun h e => h (by omega))
  have lm : more.length ≤ 45 := by
    rw [em, List.length_map]
    have := List.length_filter_le (fun k : Nat => decide ((1 + (k : Int)) ∉ ns)) (List.range (1 + v - 1).toNat)
    rw [List.length_range] at this
    omega
  rw [List.nil_append, show (((List.range (1 + v - 1).toNat).filter fun k : Nat => decide ((1 + (k : Int)) ∉ ns)).map fun a : Nat => T.leaf (.int (1 + (a : Int)))) = more.map fun z => T.leaf (.int z) by rw [em, List.map_map]; rfl]
  refine b_cat (d1 := ns.map .int) (d2 := more.map .int) rfl (by rw [T.dat, T.dats_eq, List.map_map]; rfl) rfl rfl (by simp; omega) ?_
  refine fin_lst rfl (bind_nm rfl (wb_fz rfl rfl ?_))
  rw [show (T.lst (List.map T.leaf (List.map DL.D.int ns) ++ List.map (fun z => T.leaf (DL.D.int z)) more)).dat = ilist (ns ++ more) by simp [T.dat, T.dats_eq, Function.comp_def]]
  trace_state
  exact k (ns ++ more) ⟨List.nodup_append.mpr ⟨ok.1, nm, fun x hx z hz e => (hm z hz).1 (e ▸ hx)⟩, fun x hx => by
    rcases List.mem_append.mp hx with h | h
    · exact ok.2 x h
    · exact (hm x h).2⟩ (by simp; omega)
abbrev E5o (sc xs ys ns : List Int) (n : Nat) (c2 c6 c7 c8 c10 c11 c12 c13 c14 : Option T) : DL.Env :=
  [some (.leaf (.scr sc)), some (.leaf .bag), c2, some (.leaf (.int n)), some (.leaf (itup ys)), some (.lst (ns.map fun z => .leaf (.int z))), c6, c7, c8, some (.leaf (itup xs)), c10, c11, c12, c13, c14, none, none]
theorem W_1 (ok : NumOk ns) (hl : ns.length ≤ 50) (k : ∀ ns' c11, NumOk ns' → ns'.length ≤ ns.length + 1 → K.nx (E5o sc xs ys ns' n c2 c6 c7 c8 c10 c11 c12 c13 c14)) :
    wb S_law b_law_1 (E5o sc xs ys ns n c2 c6 c7 c8 c10 c11 c12 c13 c14) K := by
  have key : ∀ u : Int, 0 ≤ u → wb S_law (tl b_law_1) (E5o sc xs ys ns n c2 c6 c7 c8 c10 (some (.leaf (.int (1 + u)))) c12 c13 c14) K := fun u hu => by
    unfold b_law_1
    simp only [tl]
    trace_state
    refine c_ninI (ns := ns) rfl (by simp [T.dat, T.dats_eq, Function.comp_def]) ?_
    by_cases q : 1 + u ∈ ns
    · rw [decide_eq_true q]
      trace_state
      exact k _ _ ok (by omega)
    · rw [decide_eq_false q]
      refine ite_t (wb_app rfl (by simp; omega) ?_)
      trace_state
      rw [show (ns.map fun z => T.leaf (.int z)) ++ [T.leaf (.int (1 + u))] = (ns ++ [1 + u]).map fun z => T.leaf (.int z) by simp]
      refine k (ns ++ [1 + u]) _ ⟨List.nodup_append.mpr ⟨ok.1, by simp, fun x hx z hz e => ?_⟩, fun x hx => ?_⟩ (by simp)
      · rw [List.mem_singleton] at hz
        exact q (by rw [← hz, ← e]; exact hx)
      · rcases List.mem_append.mp hx with h | h
        · exact ok.2 x h
        · rw [List.mem_singleton] at h
          omega
  unfold b_law_1
  trace_state
  refine ⟨_, rfl, ⟨by decide, by decide +kernel⟩, fun v a b => ?_⟩
  have hv : v = 0 ∨ v = 1 ∨ v = 2 := by omega
  rcases hv with rfl | rfl | rfl
  all_goals
    refine ix_lst rfl rfl rfl ?_
    trace_state
    refine ⟨_, rfl, ⟨by decide +kernel, by decide +kernel⟩, fun u a b => ?_⟩
    trace_state
    exact key u a
theorem W_5 (hx : xs.length = n) (hy : ys.length = n) (hn : n ≤ 8) (bx : ∀ x ∈ xs, -(10 ^ 50) ≤ x ∧ x ≤ 10 ^ 50) (by' : ∀ x ∈ ys, -(10 ^ 50) ≤ x ∧ x ≤ 10 ^ 50) (ok : NumOk ns) (hl : ns.length ≤ 10)
    (k : ∀ c7 c8 c12 c13 c14 ns, K.nx (E51 sc xs ys ns n c2 c6 c7 c8 c10 c11 c12 c13 c14)) : wb S_law b_law_5 (E5o sc xs ys ns n c2 c6 c7 c8 c10 c11 c12 c13 c14) K := by
  unfold b_law_5
  refine wb_fz rfl rfl ?_
  rw [show (T.lst (ns.map fun z => T.leaf (.int z))).dat = ilist ns by simp [T.dat, T.dats_eq, Function.comp_def]]
  trace_state
  refine ⟨_, rfl, ⟨by decide, by decide +kernel⟩, fun v a b => ?_⟩
  trace_state
  · exact W_2 hx hy hn bx by' ok hl fun ns' o l => W_4 hx hy hn bx by' o l fun _ _ _ _ _ => k _ _ _ _ _ _
  · exact W_4 hx hy hn bx by' ok (by omega) fun _ _ _ _ _ => k _ _ _ _ _ _
theorem W_6 {c3 c4 c5 c9 : Option T} (k : ∀ c2 c3 c4 c5 c6 c7 c8 c9 c10 c11 c12 c13 c14, K.nx [some (.leaf (.scr sc)), some (.leaf .bag), c2, c3, c4, c5, c6, c7, c8, c9, c10, c11, c12, c13, c14, none, none]) :
    wb S_law b_law_7 [some (.leaf (.scr sc)), some (.leaf .bag), c2, c3, c4, c5, c6, c7, c8, c9, c10, c11, c12, c13, c14, none, none] K := by
  have key : ∀ (n : Nat) (xs : List Int) (z : Int), 1 ≤ n → n ≤ 8 → Row n (10 ^ 18 + 9) xs → 0 ≤ z → z ≤ 10 ^ 38 → wb S_law b_law_6 [some (.leaf (.scr sc)), some (.leaf .bag), c2, some (.leaf (.int n)), c4, c5, c6, c7, c8, some (.leaf (itup xs)), some (.leaf (.int z)), c11, c12, c13, c14, none, none] K := fun n xs z n1 n8 hr z0 z1 => by
    have hl := hr.1
    unfold b_law_6
    trace_state
    refine ⟨_, rfl, by simp; omega, ?_⟩
    refine lcW_all (fun _ t => ∃ x, t = .leaf (.int x) ∧ -(10 ^ 50) ≤ x ∧ x ≤ 10 ^ 50) (fun d hd Ψ hΨ => ?_) fun us hu => ?_
    · obtain ⟨x, hx, rfl⟩ := List.mem_map.mp hd
      have hx3 := hr.2 x hx
      trace_state
      refine ⟨_, rfl, z0, by omega, fun u u1 u2 => ?_⟩
      trace_state
      refine ⟨_, rfl, ⟨by decide, by decide +kernel⟩, fun v a b => ?_⟩
      trace_state
      refine hΨ _ ⟨_, rfl, ?_⟩
      have hv : v = 0 ∨ v = 1 := by omega
      rcases hv with rfl | rfl
      · rw [Int.mul_zero]; omega
      · rw [Int.mul_one]; omega
    · obtain ⟨ys, rfl, l, q⟩ := rl_ints hu
      trace_state
      refine l_tuple (.inl rfl) ?_
      rw [List.nil_append, mk_ints]
      trace_state
      refine ⟨_, rfl, ⟨by decide, by decide +kernel⟩, fun m ma mb => ?_⟩
      trace_state
      refine ⟨⟨by omega, by omega⟩, ?_⟩
      refine forW_inv (fun ds ρ => ∃ (ns : List Int) (c6 c11 : Option T), NumOk ns ∧ ns.length + ds.length ≤ 6 ∧ ρ = E5o sc xs ys ns n c2 c6 c7 c8 (some (.leaf (.int z))) c11 c12 c13 c14) ⟨[], c6, c11, ⟨List.nodup_nil, fun _ h => by cases h⟩, by simp; omega, rfl⟩ ?_ ?_
      · rintro d r ρ K' ⟨ns, d6, d11, ok, le, rfl⟩ q1 q2 q3 q4
        rw [List.length_cons] at le
        refine bind_nm rfl ?_
        exact W_1 ok (by omega) fun ns' e11 ok' le' => q1 _ ⟨ns', _, e11, ok', by omega, rfl⟩
      · rintro ρ ⟨ns, d6, d11, ok, le, rfl⟩
        exact W_5 hl (by rw [l, List.length_map]; exact hl) n8 (fun x hx => by have := hr.2 x hx; omega) q ok (by omega) fun _ _ _ _ _ _ => k _ _ _ _ _ _ _ _ _ _ _ _ _
  unfold b_law_7
  trace_state
  refine ⟨_, rfl, ⟨by decide, by decide +kernel⟩, fun v1 a1 b1 => ?_⟩
  obtain ⟨n, hn⟩ := Int.eq_ofNat_of_zero_le (show 0 ≤ 1 + v1 by omega)
  trace_state
  simp only [hn]
  refine ⟨n, 9, rfl, by omega, by decide, by decide, fun xs hr hc => ?_⟩
  trace_state
  refine ⟨_, rfl, ⟨by decide, by decide +kernel⟩, fun v a b => ?_⟩
  have hv : v = 0 ∨ v = 1 ∨ v = 2 ∨ v = 3 ∨ v = 4 := by omega
  rcases hv with rfl | rfl | rfl | rfl | rfl
  all_goals
    refine ix_lst rfl rfl rfl ?_
    trace_state
    refine key n xs _ (by omega) (by omega) hr ?_ ?_ <;> first | decide | decide +kernel
theorem W_law : ∀ ns : List Int, ns.length ≤ 63 → wb S_law (tl b_law) (some (.leaf (.scr ns)) :: some (.leaf .bag) :: List.replicate (n_law.length - 2) none) { nx := fun _ => False, rt := fun t _ => t = .leaf (.bl true) } := by
  intro ns _
  unfold b_law
  simp only [tl]
  trace_state
  refine ⟨⟨by decide, by decide⟩, ?_⟩
  refine forW_inv (fun _ ρ => ∃ c2 c3 c4 c5 c6 c7 c8 c9 c10 c11 c12 c13 c14, ρ = [some (.leaf (.scr ns)), some (.leaf .bag), c2, c3, c4, c5, c6, c7, c8, c9, c10, c11, c12, c13, c14, none, none]) ⟨_, _, _, _, _, _, _, _, _, _, _, _, _, rfl⟩ (fun d1 r1 ρ K1 h1 k1 _ _ kr1 => ?_) fun ρ h => ?_
  · obtain ⟨c2, c3, c4, c5, c6, c7, c8, c9, c10, c11, c12, c13, c14, rfl⟩ := h1
    refine bind_nm rfl ?_
    exact W_6 fun _ _ _ _ _ _ _ _ _ _ _ _ _ => k1 _ ⟨_, _, _, _, _, _, _, _, _, _, _, _, _, rfl⟩
  · obtain ⟨c2, c3, c4, c5, c6, c7, c8, c9, c10, c11, c12, c13, c14, rfl⟩ := h
    trace_state
    rfl
end
end KT
namespace DL
open PySem PySem.Spec PyProof.Rows L2
def GlP (K : PySem.W.Frag) (mg : Str → Option Value) (y : Str) (d : D) : Prop := ∃ v u, mg y = some u ∧ RelV v u ∧ ∀ (a : An) F, a.K = K → Is a F d v
theorem gl_int {K : PySem.W.Frag} {mg : Str → Option Value} {y : Str} {n : Int} {u : Value} (h : mg y = some u) (r : RelV (.int n) u) : GlP K mg y (.int n) := ⟨.int n, u, h, r, fun a F _ => by simp only [Is]⟩
theorem isl_strs {a : An} {F : Hp} : ∀ xs : List Str, IsL a F (xs.map .str) (xs.map .str)
  | [] => by simp only [List.map_nil, IsL]
  | x :: xs => by simp only [List.map_cons, IsL]; exact ⟨_, _, rfl, by simp only [Is], isl_strs xs⟩
theorem gl_strs {K : PySem.W.Frag} {mg : Str → Option Value} {y : Str} {xs : List Str} {p : Addr} {oc : Value} {od : Option Addr} {its : Array Value} {n : Nat} {sl : Array (Option Value)} (h : mg y = some (.ref p)) (l : K.lookup p = some ⟨oc, od, .seq its n, sl⟩) (t : oc = .type "tuple") (z : its.size ≤ sizeLine) (v : Vals (xs.map V.str) its.toList) :
    GlP K mg y (.tup (xs.map .str)) := ⟨.ref p, .ref p, h, rfl, fun a F e => by
  simp only [Is]
  subst e
  exact ⟨p, xs.map .str, rfl, .inr ⟨_, its, n, l, t, rfl, z, v⟩, isl_strs xs⟩⟩
theorem al_nil {α : Type} {R : α → Prop} : ∀ y ∈ ([] : List α), R y := fun y h => by simp at h
theorem al_cons {α : Type} {R : α → Prop} {x : α} {ys : List α} (h : R x) (r : ∀ y ∈ ys, R y) : ∀ y ∈ x :: ys, R y := fun y hy => (List.mem_cons.mp hy).elim (fun e => by rw [e]; exact h) (r y)
end DL
namespace KT
open PySem PySem.Spec PyProof.Rows L2 DL
theorem all_mk {l : PySem.W.OpenLaw} {w : World} {K : PySem.W.Frag} {h : Heap} {mg : Str → Option Value} {fa : Addr} (X : K.In h) (G : h.Ns mainGlobals mg) (hfa : mg "law" = some (.ref fa))
    {oc1 kV1 dc1 pm1 cd1 ct1 : Value} {od1 an1 : Option Addr} {sl1 : Array (Option Value)} {f1 : Addr}
    {oc2 kV2 dc2 pm2 cd2 ct2 : Value} {od2 an2 : Option Addr} {sl2 : Array (Option Value)} {f2 : Addr}
    {oc3 kV3 dc3 pm3 cd3 ct3 : Value} {od3 an3 : Option Addr} {sl3 : Array (Option Value)} {f3 : Addr}
    {oc4 kV4 dc4 pm4 cd4 ct4 : Value} {od4 an4 : Option Addr} {sl4 : Array (Option Value)} {f4 : Addr}
    {oc5 kV5 dc5 pm5 cd5 ct5 : Value} {od5 an5 : Option Addr} {sl5 : Array (Option Value)} {f5 : Addr}
    {oc6 kV6 dc6 pm6 cd6 ct6 : Value} {od6 an6 : Option Addr} {sl6 : Array (Option Value)} {f6 : Addr}
    {oc7 kV7 dc7 pm7 cd7 ct7 : Value} {od7 an7 : Option Addr} {sl7 : Array (Option Value)} {f7 : Addr}
    {oc8 kV8 dc8 pm8 cd8 ct8 : Value} {od8 an8 : Option Addr} {sl8 : Array (Option Value)} {f8 : Addr}
    (a1 : PySem.W.nsIn K mainGlobals "exchange" = some (some (.ref f1)))
    (l1 : K.lookup f1 = some ⟨oc1, od1, .func (PySem.W.fnOf "exchange" "exchange" (defArgs s_exchange) (defBody s_exchange) (defScope s_exchange) .none kV1 dc1 pm1 an1 cd1 ct1), sl1⟩) (c1 : PySem.W.codeIn K cd1 "exchange" = true) (k1 : PySem.W.keepIn K (.ref f1) = true)
    (a2 : PySem.W.nsIn K mainGlobals "_law_bag" = some (some (.ref f2)))
    (l2 : K.lookup f2 = some ⟨oc2, od2, .func (PySem.W.fnOf "_law_bag" "_law_bag" (defArgs s_law_bag) (defBody s_law_bag) (defScope s_law_bag) .none kV2 dc2 pm2 an2 cd2 ct2), sl2⟩) (c2 : PySem.W.codeIn K cd2 "_law_bag" = true) (k2 : PySem.W.keepIn K (.ref f2) = true)
    (a3 : PySem.W.nsIn K mainGlobals "_law_take" = some (some (.ref f3)))
    (l3 : K.lookup f3 = some ⟨oc3, od3, .func (PySem.W.fnOf "_law_take" "_law_take" (defArgs s_law_take) (defBody s_law_take) (defScope s_law_take) .none kV3 dc3 pm3 an3 cd3 ct3), sl3⟩) (c3 : PySem.W.codeIn K cd3 "_law_take" = true) (k3 : PySem.W.keepIn K (.ref f3) = true)
    (a4 : PySem.W.nsIn K mainGlobals "_law_alike" = some (some (.ref f4)))
    (l4 : K.lookup f4 = some ⟨oc4, od4, .func (PySem.W.fnOf "_law_alike" "_law_alike" (defArgs s_law_alike) (defBody s_law_alike) (defScope s_law_alike) .none kV4 dc4 pm4 an4 cd4 ct4), sl4⟩) (c4 : PySem.W.codeIn K cd4 "_law_alike" = true) (k4 : PySem.W.keepIn K (.ref f4) = true)
    (a5 : PySem.W.nsIn K mainGlobals "_law_number" = some (some (.ref f5)))
    (l5 : K.lookup f5 = some ⟨oc5, od5, .func (PySem.W.fnOf "_law_number" "_law_number" (defArgs s_law_number) (defBody s_law_number) (defScope s_law_number) .none kV5 dc5 pm5 an5 cd5 ct5), sl5⟩) (c5 : PySem.W.codeIn K cd5 "_law_number" = true) (k5 : PySem.W.keepIn K (.ref f5) = true)
    (a6 : PySem.W.nsIn K mainGlobals "_law_standing" = some (some (.ref f6)))
    (l6 : K.lookup f6 = some ⟨oc6, od6, .func (PySem.W.fnOf "_law_standing" "_law_standing" (defArgs s_law_standing) (defBody s_law_standing) (defScope s_law_standing) .none kV6 dc6 pm6 an6 cd6 ct6), sl6⟩) (c6 : PySem.W.codeIn K cd6 "_law_standing" = true) (k6 : PySem.W.keepIn K (.ref f6) = true)
    (a7 : PySem.W.nsIn K mainGlobals "_law_traded" = some (some (.ref f7)))
    (l7 : K.lookup f7 = some ⟨oc7, od7, .func (PySem.W.fnOf "_law_traded" "_law_traded" (defArgs s_law_traded) (defBody s_law_traded) (defScope s_law_traded) .none kV7 dc7 pm7 an7 cd7 ct7), sl7⟩) (c7 : PySem.W.codeIn K cd7 "_law_traded" = true) (k7 : PySem.W.keepIn K (.ref f7) = true)
    (a8 : PySem.W.nsIn K mainGlobals "law" = some (some (.ref f8)))
    (l8 : K.lookup f8 = some ⟨oc8, od8, .func (PySem.W.fnOf "law" "law" (defArgs s_law) (defBody s_law) (defScope s_law) .none kV8 dc8 pm8 an8 cd8 ct8), sl8⟩) (c8 : PySem.W.codeIn K cd8 "law" = true) (k8 : PySem.W.keepIn K (.ref f8) = true)
    (z_len : PySem.W.nsIn K mainGlobals "len" = some none)
    (z_abs : PySem.W.nsIn K mainGlobals "abs" = some none)
    (z_zip : PySem.W.nsIn K mainGlobals "zip" = some none)
    (z_tuple : PySem.W.nsIn K mainGlobals "tuple" = some none)
    (z_repr : PySem.W.nsIn K mainGlobals "repr" = some none)
    (z_range : PySem.W.nsIn K mainGlobals "range" = some none)
    (z_list : PySem.W.nsIn K mainGlobals "list" = some none)
    (z_max : PySem.W.nsIn K mainGlobals "max" = some none)
    (z_sum : PySem.W.nsIn K mainGlobals "sum" = some none) :
    ∃ fd : FuncData, (∀ (s : Shared) (v : Value), BindsTo s fd ⟨[v], []⟩ [("_law_script", v)]) ∧ ∀ base : Heap, K.In base → base.Ns mainGlobals mg → FnG l.prog w K mg base L2.CX0 4 fa fd ["_law_script"] (spLaw K) := by
  have e := hfa.symm.trans (PySem.W.mg_of X G a8)
  cases e
  have F1 := L2.fun_mk (st := s_exchange) l1 c1 k1
  have F2 := L2.fun_mk (st := s_law_bag) l2 c2 k2
  have F3 := L2.fun_mk (st := s_law_take) l3 c3 k3
  have F4 := L2.fun_mk (st := s_law_alike) l4 c4 k4
  have F5 := L2.fun_mk (st := s_law_number) l5 c5 k5
  have F6 := L2.fun_mk (st := s_law_standing) l6 c6 k6
  have F7 := L2.fun_mk (st := s_law_traded) l7 c7 k7
  have F8 := L2.fun_mk (st := s_law) l8 c8 k8
  refine ⟨PySem.W.fnOf "law" "law" (defArgs s_law) (defBody s_law) (defScope s_law) .none kV8 dc8 pm8 an8 cd8 ct8, fun s v => .of_eq rfl, fun base _ _ => ?_⟩
  have y_len := PySem.W.mg_none_of X G z_len
  have y_abs := PySem.W.mg_none_of X G z_abs
  have y_zip := PySem.W.mg_none_of X G z_zip
  have y_tuple := PySem.W.mg_none_of X G z_tuple
  have y_repr := PySem.W.mg_none_of X G z_repr
  have y_range := PySem.W.mg_none_of X G z_range
  have y_list := PySem.W.mg_none_of X G z_list
  have y_max := PySem.W.mg_none_of X G z_max
  have y_sum := PySem.W.mg_none_of X G z_sum
  have B_exchange : FnB l.prog w K mg base (fun _ => none) 1 "exchange" F_exchange := ⟨⟨f1, _, ["one", "other", "numbers"], fnD (c := c_exchange) (S := S_exchange) F1 sc_exchange rfl ck_exchange fns_nil gls_nil (bs_cons y_zip (bs_cons y_len (bs_cons y_tuple bs_nil))) W_exchange, PySem.W.mg_of X G a1, k1, F1.binds (ps := ["one", "other", "numbers"]) fun _ _ _ _ _ _ us hl => match us, hl with | [_, _, _], _ => rfl⟩, M_exchange⟩
  have B_law_bag : FnB l.prog w K mg base (fun _ => none) 1 "_law_bag" bagF := ⟨⟨f2, _, ["_law_script"], fnBag F2 sc_law_bag ck_law_bag y_abs, PySem.W.mg_of X G a2, k2, F2.binds (ps := ["_law_script"]) fun _ _ _ _ _ _ us hl => match us, hl with | [_], _ => rfl⟩, bagF_mono⟩
  have B_law_take : FnB l.prog w K mg base (fun _ => none) 1 "_law_take" takeF := ⟨⟨f3, _, ["_law_bag_here", "_law_many"], fnTake F3 sc_law_take ck_law_take y_len, PySem.W.mg_of X G a3, k3, F3.binds (ps := ["_law_bag_here", "_law_many"]) fun _ _ _ _ _ _ us hl => match us, hl with | [_, _], _ => rfl⟩, takeF_mono⟩
  have B_law_alike : FnB l.prog w K mg base (fun _ => none) 1 "_law_alike" F_law_alike := ⟨⟨f4, _, ["_law_found", "_law_due"], fnD (c := c_law_alike) (S := S_law_alike) F4 sc_law_alike rfl ck_law_alike fns_nil gls_nil (bs_cons y_repr bs_nil) W_law_alike, PySem.W.mg_of X G a4, k4, F4.binds (ps := ["_law_found", "_law_due"]) fun _ _ _ _ _ _ us hl => match us, hl with | [_, _], _ => rfl⟩, M_law_alike⟩
  have B_law_traded : FnB l.prog w K mg base (fun _ => none) 1 "_law_traded" F_law_traded := ⟨⟨f7, _, ["_law_one", "_law_other", "_law_numbers"], fnD (c := c_law_traded) (S := S_law_traded) F7 sc_law_traded rfl ck_law_traded fns_nil gls_nil (bs_cons y_range (bs_cons y_len (bs_cons y_tuple bs_nil))) W_law_traded, PySem.W.mg_of X G a7, k7, F7.binds (ps := ["_law_one", "_law_other", "_law_numbers"]) fun _ _ _ _ _ _ us hl => match us, hl with | [_, _, _], _ => rfl⟩, M_law_traded⟩
  have B_law_number : FnB l.prog w K mg base (fun _ => none) 2 "_law_number" F_law_number := ⟨⟨f5, _, ["_law_bag_here", "_law_scale"], fnD (c := c_law_number) (S := S_law_number) F5 sc_law_number rfl ck_law_number (fns_cons (B_law_take.mono (by decide)) fns_nil) gls_nil bs_nil W_law_number, PySem.W.mg_of X G a5, k5, F5.binds (ps := ["_law_bag_here", "_law_scale"]) fun _ _ _ _ _ _ us hl => match us, hl with | [_, _], _ => rfl⟩, M_law_number⟩
  have B_law_standing : FnB l.prog w K mg base (fun _ => none) 3 "_law_standing" F_law_standing := ⟨⟨f6, _, ["_law_bag_here", "_law_size", "_law_scale"], fnD (c := c_law_standing) (S := S_law_standing) F6 sc_law_standing rfl ck_law_standing (fns_cons (B_law_take.mono (by decide)) (fns_cons (B_law_number.mono (by decide)) fns_nil)) gls_nil (bs_cons y_tuple (bs_cons y_range bs_nil)) W_law_standing, PySem.W.mg_of X G a6, k6, F6.binds (ps := ["_law_bag_here", "_law_size", "_law_scale"]) fun _ _ _ _ _ _ us hl => match us, hl with | [_, _, _], _ => rfl⟩, M_law_standing⟩
  exact fnLaw (c := c_law) (S := S_law) (cls := (fun _ => none)) (kb := 0) F8 sc_law (by decide) rfl ck_law (fns_cons (B_law_bag.mono (by decide)) (fns_cons (B_law_take.mono (by decide)) (fns_cons (B_law_standing.mono (by decide)) (fns_cons (B_law_number.mono (by decide)) (fns_cons (B_law_traded.mono (by decide)) (fns_cons (B_exchange.mono (by decide)) (fns_cons (B_law_alike.mono (by decide)) fns_nil))))))) gls_nil (bs_cons y_range (bs_cons y_tuple (bs_cons y_list (bs_cons y_max (bs_cons y_sum bs_nil))))) rfl W_law
end KT
open PySem PySem.W PyProof.Rows
set_option maxHeartbeats 0 in
theorem PySem.Challenge.cw_mostpulled_k51_exchanges_holds : PySem.Challenge.rw_mostpulled_k51_exchanges.Holds := by
  w_on; o_law; k_head; (case hw => w_witness2)
  k_fill
  refine DL.walk_G (l := PySem.Challenge.rw_mostpulled_k51_exchanges) (n := 63) (k := 4) (x := "_law_script") (CX := fun _ => L2.CX0) (sp := fun w => DL.spLaw _) rfl (by decide) rfl ⟨rfl, by decide, by decide⟩ (fun w h Y => PySem.W.kIn_of Y) ?F (fun _ _ a ns hl _ hS => ⟨a, ns, rfl, hS, hl, fun _ => rfl⟩) (fun _ _ _ _ _ h => h)
  case F =>
    intro w mg fa h KX G hmg
    refine' KT.all_mk KX G hmg ?a1 ?l1 ?c1 ?k1 ?a2 ?l2 ?c2 ?k2 ?a3 ?l3 ?c3 ?k3 ?a4 ?l4 ?c4 ?k4 ?a5 ?l5 ?c5 ?k5 ?a6 ?l6 ?c6 ?k6 ?a7 ?l7 ?c7 ?k7 ?a8 ?l8 ?c8 ?k8 ?z_len ?z_abs ?z_zip ?z_tuple ?z_repr ?z_range ?z_list ?z_max ?z_sum
    (case a1 => k_is); (case l1 => k_is); (case c1 => k_is); (case k1 => k_is); (case a2 => k_is); (case l2 => k_is); (case c2 => k_is); (case k2 => k_is); (case a3 => k_is); (case l3 => k_is); (case c3 => k_is); (case k3 => k_is); (case a4 => k_is); (case l4 => k_is); (case c4 => k_is); (case k4 => k_is); (case a5 => k_is); (case l5 => k_is); (case c5 => k_is); (case k5 => k_is); (case a6 => k_is); (case l6 => k_is); (case c6 => k_is); (case k6 => k_is); (case a7 => k_is); (case l7 => k_is); (case c7 => k_is); (case k7 => k_is); (case a8 => k_is); (case l8 => k_is); (case c8 => k_is); (case k8 => k_is); (case z_len => k_is); (case z_abs => k_is); (case z_zip => k_is); (case z_tuple => k_is); (case z_repr => k_is); (case z_range => k_is); (case z_list => k_is); (case z_max => k_is); (case z_sum => k_is)
