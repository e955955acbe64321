import PyProof.Rows.All
import KE.OsRunLaw
import HandS.ForMost
import HandS.Zip
import HandS.Walk
import HandS.Wide
import HandS.Lambda
import HandS.TupAny
import HandS.List
import HandS.TupLe
import HandS.Deep
import KE.DataCmp
import HandS.IsInst
import HandS.Text
import HandS.Flt
import HandS.SortInts
import HandS.RaiseMore
import PyProof.ReprBulk
import PyProof.ReprRoads
import KE.SortData
import KE.KTupSum
import KE.GoesMore
import HandS.Style
import HandS.Conv
import HandS.Property
import HandS.OwnEq
import HandS.Codes
import HandS.Flow
import HandS.SetFor
import HandS.Strs
import HandS.Exc
import HandS.ExcOwn
import HandS.ExcInit
import HandS.ExcField
import HandS.ExcIs
import HandS.Defaults
import HandS.MakeKwOnly
import KE.KExcIs
import HandS.TryOnly
import HandS.More
import HandS.NoneIn
import PyProof.AutoSeq1
import HandS.Dict
import HandS.DictSub
import KE.KDictSum
import KE.KIsAll
import PySem.Challenge.RW_mostpulled_k80_kinks_by_their_definition
set_option Elab.async false
set_option linter.all false
set_option maxRecDepth 100000
set_option maxHeartbeats 8000000
namespace HD
open PySem PySem.W PySem.Calls PyProof.Rows
abbrev P : Program := PySem.Challenge.pw_mostpulled_k80_kinks_by_their_definition
def Q : Program := view P [0, 2, 3, 4, 6, 7, 8, 9, 11, 12, 13, 14, 16, 17, 18, 19, 20, 21, 22, 23, 25, 26, 27, 29, 30, 31, 32, 33, 34, 35, 36, 37]
def lo : List PySem.Str := ["FARTHEST", "Board"]
def lv : List (PySem.Str × WData) := [("FARTHEST", WData.int 1000000000000000000)]
noncomputable def Xt (s : Shared) : Bool := xlAt Q lv s && recOk (RowW.records (OpenRow.toRowW (OpenLaw.row PySem.Challenge.rw_mostpulled_k80_kinks_by_their_definition))) s
noncomputable abbrev go (w : World) (os : OsState) := HeadRun.endF (HeadRun.stepQ (HeadRun.denQ HeadRun.tabQ) P w) 4716 P w os
noncomputable abbrev sq (s : SharedT) := HeadRun.seenQ Q lo (importedModules P.main.body) Xt s.abs
theorem pr {α β γ : Type} {x : Option α} {f : α → β} {g : α → γ} {b : β} {c : γ} (h : x.map f = some b) (k : x.map g = some c) : x.map (fun s => (f s, g s)) = some (b, c) := by
  cases x with
  | none => cases h
  | some s =>
    have h1 : f s = b := Option.some.inj h
    have k1 : g s = c := Option.some.inj k
    show some (f s, g s) = _
    rw [h1, k1]
theorem p1 {α β γ : Type} {x : Option α} {f : α → β} {g : α → γ} {b : β} {c : γ} (h : x.map (fun s => (f s, g s)) = some (b, c)) : x.map f = some b := by
  cases x with
  | none => cases h
  | some s => exact congrArg some (Prod.mk.inj (Option.some.inj h)).1
theorem p2 {α β γ : Type} {x : Option α} {f : α → β} {g : α → γ} {b : β} {c : γ} (h : x.map (fun s => (f s, g s)) = some (b, c)) : x.map g = some c := by
  cases x with
  | none => cases h
  | some s => exact congrArg some (Prod.mk.inj (Option.some.inj h)).2
theorem g0 (w : World) (os : OsState) : (go w os).map (fun s => ((sq s).1, HeadRun.looksF P (boot_heap w.params) s.abs, (sq s).2.1, (sq s).2.2.2.2.2.2.1, (sq s).2.2.2.2.2.2.2.2)) = some (expectedOf Q, true, bltViewBooted, plainGoodD Q lo, clsGoodW Q lo) := by kernel_rfl
theorem g1 (w : World) (os : OsState) : (go w os).map (fun s => ((sq s).2.2.1, (sq s).2.2.2.1)) = some (true, true) := by kernel_rfl
theorem g2 (w : World) (os : OsState) : (go w os).map (fun s => ((sq s).2.2.2.2.1, (sq s).2.2.2.2.2.1, (sq s).2.2.2.2.2.2.2.1)) = some (pinGoodD (drecsOf Q), plainGoodE Q (looseW Q lo), wideGood Q) := by kernel_rfl
theorem pf {α β γ : Type} {x : Option α} (f : α → β × γ) {b : β} {c : γ} (h : x.map (fun s => (f s).1) = some b) (k : x.map (fun s => (f s).2) = some c) : x.map f = some (b, c) := by
  cases x with
  | none => cases h
  | some s =>
    have h1 : (f s).1 = b := Option.some.inj h
    have k1 : (f s).2 = c := Option.some.inj k
    show some (f s) = _
    rw [← h1, ← k1]
theorem sqv (w : World) (os : OsState) : (go w os).map (fun s => sq s) = some (expectedOf Q, bltViewBooted, true, true, pinGoodD (drecsOf Q), plainGoodE Q (looseW Q lo), plainGoodD Q lo, wideGood Q, clsGoodW Q lo) :=
  (pf (fun s => (sq s)) (p1 (g0 w os)) (pf (fun s => (sq s).2) (p1 (p2 (p2 (g0 w os)))) (pf (fun s => (sq s).2.2) (p1 (g1 w os)) (pf (fun s => (sq s).2.2.2) (p2 (g1 w os)) (pf (fun s => (sq s).2.2.2.2) (p1 (g2 w os)) (pf (fun s => (sq s).2.2.2.2.2) (p1 (p2 (g2 w os))) (pf (fun s => (sq s).2.2.2.2.2.2) (p1 (p2 (p2 (p2 (g0 w os))))) (pf (fun s => (sq s).2.2.2.2.2.2.2) (p2 (p2 (g2 w os))) (p2 (p2 (p2 (p2 (g0 w os)))))))))))))
theorem all {α : Type} {f : SharedT → α} {a : α} (w : World) (os : OsState) (k : (go w os).map f = some a) : (go w os).map (fun s => (HeadRun.looksF P (boot_heap w.params) s.abs, HeadRun.seenQ Q lo (importedModules P.main.body) Xt s.abs, f s)) = some (true, openGood Q lo, a) :=
  pr (p1 (p2 (g0 w os))) (pr (sqv w os) k)
theorem pe : (OpenLaw.row PySem.Challenge.rw_mostpulled_k80_kinks_by_their_definition).prog = P := rfl
theorem a1 : opening P = plainProg P.main.scope.names := by kernel_rfl
theorem a2 (s : Shared) : fenceModules? P s = some s := by kernel_rfl
theorem left_g {α : Type} {Yf : Shared → α} {Ya : World → α} (g : SharedT → α) (e : ∀ s, g s = Yf s.abs) (h : ∀ w os, (go w os).map g = some (Ya w)) : LeftO (OpenLaw.row PySem.Challenge.rw_mostpulled_k80_kinks_by_their_definition).prog Q lo Xt Yf Ya 5416 true := by
  rw [pe]
  refine HeadRun.left_one (p := P) (q := Q) (loose := lo) (Xt := Xt) (M := 4716) a1 rfl a2 rfl (fun w os => ?_)
  have z := all w os (h w os)
  rw [show g = fun s => Yf s.abs from funext e] at z
  simp only [HeadRun.endQ_eq, HeadRun.seenQ_eq]
  exact z
theorem getTs (as : List Addr) (s : SharedT) : as.map (HeadRun.getT s) = as.map s.abs.heap.get? := List.map_congr_left fun a _ => HeadRun.getT_eq s a
theorem left_k {K : Params → Frag} {as : List Addr} {ek : ∀ P, as = (K P).map (·.1)} (h : ∀ w os, (go w os).map (fun s => as.map (HeadRun.getT s)) = some ((K w.params).map fun x => some x.2)) : LeftO (OpenLaw.row PySem.Challenge.rw_mostpulled_k80_kinks_by_their_definition).prog Q lo Xt (Hook.obs (kHook K as ek)) (Hook.val (kHook K as ek)) 5416 true :=
  left_g (Ya := Hook.val (kHook K as ek)) (fun s => as.map (HeadRun.getT s)) (fun s => getTs as s) h
theorem left_km {K : Params → Frag} {as ts : List Addr} {ek : ∀ P, as = (K P).map (·.1)} (h : ∀ w os, (go w os).map (fun s => (as.map (HeadRun.getT s), ts.map (HeadRun.getT s))) = some ((K w.params).map (fun x => some x.2), ts.map fun _ => some (tabObj #[]))) : LeftO (OpenLaw.row PySem.Challenge.rw_mostpulled_k80_kinks_by_their_definition).prog Q lo Xt (Hook.obs (kmHook K as ek ts)) (Hook.val (kmHook K as ek ts)) 5416 true :=
  left_g (Yf := Hook.obs (kmHook K as ek ts)) (Ya := Hook.val (kmHook K as ek ts)) (fun s => (as.map (HeadRun.getT s), ts.map (HeadRun.getT s))) (fun s => by rw [getTs as s, getTs ts s]; rfl) h
end HD
set_option hygiene false in
local macro_rules | `(tactic| o_head $H:term) => `(tactic| (
  refine PySem.W.holds_open (q := HD.Q) (loose := HD.lo) (Xt := HD.Xt) (XP := PySem.W.XL HD.Q HD.lv) (Yf := PySem.W.Hook.obs $H) (Ya := PySem.W.Hook.val $H) (YP := PySem.W.Hook.says $H) (N := 5416) ?hl (PySem.W.Hook.of $H) (PySem.W.Hook.keeps $H) (fun s e => PySem.W.xl_of s (Bool.and_eq_true_iff.mp e).1) PySem.W.XL.keeps (by rfl) (by rfl) (by rfl) (fun s e => PySem.W.recFacts_of (Bool.and_eq_true_iff.mp e).2) (by rfl) (by first | assumption | decide +kernel) (by decide +kernel) ⟨rfl, rfl, rfl, rfl, rfl, by decide +kernel⟩ ?hw ?hc
  case hl => exact HD.left_k (fun w os => by kernel_rfl)))
open_top headS for PySem.Challenge.rw_mostpulled_k80_kinks_by_their_definition
local macro_rules | `(term| decl_name%) => `(by with_unfolding_all exact rfl)
local macro_rules | `(tactic| specialize $t:term) => `(tactic| with_reducible refine $t)
namespace DL
open PySem PySem.Spec PyProof.Rows L2

inductive D where
  | non | bl (b : Bool) | int (i : Int) | str (x : Str)
  | tup (ds : List D) | lst (ds : List D) | bag
  | obj (c : Nat) (fs : List D) | scr (ns : List Int)
  | opq (p : Addr)
  | emp
/-- what is fixed: the written part, the bag's place, the classes by number (place, fields in order) -/
structure An where
  K : PySem.W.Frag
  bg : Option Addr
  cls : Nat → Option (Addr × List Str)

/-- places that are held alone, described by one's own words -/
structure Reg where
  adr : Addr
  P : An → Hp → Hp → V → List Addr → Prop
  mono : ∀ {a F F' H H' v S}, P a F H v S → (∀ p o, F p = some o → F' p = some o) → (∀ p ∈ S, ∀ o, H p = some o → H' p = some o) → P a F' H' v S
  ref : ∀ {a F H v S}, P a F H v S → v = .ref adr
  there : ∀ {a F H v S}, P a F H v S → ∀ p ∈ S, ∃ o, H p = some o ∧ ∀ q, o ≠ .ext q
inductive T where
  | leaf (d : D) | lst (ts : List T) | tup (ts : List T) | vw (d : D) | reg (r : Reg)

mutual
noncomputable def T.dat : T → D
  | .leaf d => d
  | .lst ts => .lst (T.dats ts)
  | .tup ts => .tup (T.dats ts)
  | .vw d => d
  | .reg R => .opq R.adr
noncomputable def T.dats : List T → List D
  | [] => []
  | t :: r => t.dat :: T.dats r
end
theorem T.dats_eq : ∀ ts : List T, T.dats ts = ts.map T.dat
  | [] => by simp [T.dats]
  | t :: r => by simp [T.dats, T.dats_eq r]

mutual
/-- nothing in it is only read -/
noncomputable def T.nv : T → Bool
  | .leaf _ => true
  | .vw _ => false
  | .reg _ => true
  | .lst ts => T.nvs ts
  | .tup ts => T.nvs ts
noncomputable def T.nvs : List T → Bool
  | [] => true
  | t :: r => t.nv && T.nvs r
end
theorem T.nvs_leaf : ∀ ds : List D, T.nvs (ds.map .leaf) = true
  | [] => rfl
  | d :: r => by simp [T.nvs, T.nv, T.nvs_leaf r]

noncomputable abbrev Sub (F G : Hp) : Prop := ∀ p o, F p = some o → G p = some o
theorem Sub.refl (F : Hp) : Sub F F := fun _ _ h => h
theorem Sub.trans {F G I : Hp} (a : Sub F G) (b : Sub G I) : Sub F I := fun p o h => b p o (a p o h)
/-- tables of code objects that grow: numbered as classes from 1000 on -/
noncomputable def An.tb (a : An) (p : Addr) (q : Str) : Prop := ∃ i, a.cls (1000 + i) = some (p, [q])
/-- places that are written behind the names' backs: the bag, the tables -/
noncomputable def An.hid (a : An) (p : Addr) : Prop := a.bg = some p ∨ ∃ q, a.tb p q
theorem An.hid_bg {a : An} {b : Addr} (e : a.bg = some b) : a.hid b := .inl e
open Classical in
/-- the heap without them -/
noncomputable def hb (a : An) (H : Hp) : Hp := fun p => if a.hid p then none else H p
theorem hb_sub (a : An) (H : Hp) : Sub (hb a H) H := fun p o h => by
  unfold hb at h
  split at h
  · cases h
  · exact h

theorem sub_l {K : PySem.W.Frag} {F G : Hp} {a : Addr} {xs : List V} (e : Sub F G) (h : SqL K F a xs) : SqL K G a xs := by
  rcases h with (h | ⟨o, h⟩) | h
  · exact .inl (.inl (e a _ h))
  · exact .inl (.inr ⟨o, e a _ h⟩)
  · exact .inr h
theorem sub_t {K : PySem.W.Frag} {F G : Hp} {a : Addr} {xs : List V} (e : Sub F G) (h : SqT K F a xs) : SqT K G a xs := by
  rcases h with (h | ⟨o, h⟩) | h
  · exact .inl (.inl (e a _ h))
  · exact .inl (.inr ⟨o, e a _ h⟩)
  · exact .inr h

mutual
/-- v is d, read off F -/
noncomputable def Is (a : An) (F : Hp) : D → V → Prop
  | .non, v => v = .non
  | .bl b, v => v = .bl b
  | .int i, v => v = .int i
  | .str x, v => v = .str x
  | .tup ds, v => ∃ p vs, v = .ref p ∧ SqT a.K F p vs ∧ IsL a F ds vs
  | .lst ds, v => ∃ p vs, v = .ref p ∧ F p = some (.lst vs) ∧ IsL a F ds vs
  | .scr ns, v => ∃ p, v = .ref p ∧ SqL a.K F p (ns.map V.int)
  | .bag, v => ∃ b, a.bg = some b ∧ v = .ref b
  | .obj c fs, v => ∃ p C ns dx vs, v = .ref p ∧ a.cls c = some (C, ns) ∧ ns.length = vs.length ∧ F p = some (.ins C dx (ns.zip vs)) ∧ IsL a F fs vs
  | .opq p, v => v = .ref p
  | .emp, v => ∃ p, v = .ref p ∧ F p = some (.dK [])
noncomputable def IsL (a : An) (F : Hp) : List D → List V → Prop
  | [], vs => vs = []
  | d :: ds, vs => ∃ v r, vs = v :: r ∧ Is a F d v ∧ IsL a F ds r
end
mutual
theorem Is.mono {a : An} {F G : Hp} (e : Sub F G) : ∀ {d : D} {v : V}, Is a F d v → Is a G d v
  | .non, _, h | .bl _, _, h | .int _, _, h | .str _, _, h => by simpa only [Is] using h
  | .bag, _, h => by simpa only [Is] using h
  | .opq _, _, h => by simpa only [Is] using h
  | .emp, _, h => by
    simp only [Is] at h ⊢
    obtain ⟨p, e1, h1⟩ := h
    exact ⟨p, e1, e _ _ h1⟩
  | .tup ds, v, h => by
    simp only [Is] at h ⊢
    obtain ⟨p, vs, e1, h1, h2⟩ := h
    exact ⟨p, vs, e1, sub_t e h1, IsL.mono e h2⟩
  | .lst ds, v, h => by
    simp only [Is] at h ⊢
    obtain ⟨p, vs, e1, h1, h2⟩ := h
    exact ⟨p, vs, e1, e _ _ h1, IsL.mono e h2⟩
  | .scr ns, v, h => by
    simp only [Is] at h ⊢
    obtain ⟨p, e1, h1⟩ := h
    exact ⟨p, e1, sub_l e h1⟩
  | .obj c fs, v, h => by
    simp only [Is] at h ⊢
    obtain ⟨p, C, ns, dx, vs, e1, e2, e3, e4, h2⟩ := h
    exact ⟨p, C, ns, dx, vs, e1, e2, e3, e _ _ e4, IsL.mono e h2⟩
theorem IsL.mono {a : An} {F G : Hp} (e : Sub F G) : ∀ {ds : List D} {vs : List V}, IsL a F ds vs → IsL a G ds vs
  | [], _, h => by simpa only [IsL] using h
  | d :: ds, vs, h => by
    simp only [IsL] at h ⊢
    obtain ⟨v, r, e1, h1, h2⟩ := h
    exact ⟨v, r, e1, Is.mono e h1, IsL.mono e h2⟩
end
theorem IsL.length {a : An} {F : Hp} : ∀ {ds : List D} {vs : List V}, IsL a F ds vs → vs.length = ds.length
  | [], _, h => by simp only [IsL] at h; subst h; rfl
  | d :: ds, vs, h => by
    simp only [IsL] at h
    obtain ⟨v, r, rfl, _, h2⟩ := h
    simp [IsL.length h2]
theorem IsL.get {a : An} {F : Hp} : ∀ {ds : List D} {vs : List V} {i : Nat} {d : D}, IsL a F ds vs → ds[i]? = some d → ∃ v, vs[i]? = some v ∧ Is a F d v
  | [], _, _, _, _, h => by simp at h
  | d :: ds, vs, 0, e, h, g => by
    simp only [IsL] at h
    obtain ⟨v, r, rfl, h1, h2⟩ := h
    simp only [List.getElem?_cons_zero, Option.some.injEq] at g
    subst g
    exact ⟨v, rfl, h1⟩
  | d :: ds, vs, i + 1, e, h, g => by
    simp only [IsL] at h
    obtain ⟨v, r, rfl, h1, h2⟩ := h
    simp only [List.getElem?_cons_succ] at g ⊢
    exact IsL.get h2 g
theorem IsL.append {a : An} {F : Hp} : ∀ {ds es : List D} {vs us : List V}, IsL a F ds vs → IsL a F es us → IsL a F (ds ++ es) (vs ++ us)
  | [], _, _, _, h, g => by simp only [IsL] at h; subst h; exact g
  | d :: ds, es, vs, us, h, g => by
    simp only [IsL] at h
    obtain ⟨v, r, rfl, h1, h2⟩ := h
    show IsL a F (d :: (ds ++ es)) (v :: (r ++ us))
    simp only [IsL]
    exact ⟨v, _, rfl, h1, IsL.append h2 g⟩
theorem IsL.take {a : An} {F : Hp} : ∀ {ds : List D} {vs : List V} (n : Nat), IsL a F ds vs → IsL a F (ds.take n) (vs.take n)
  | _, _, 0, _ => by simp [IsL]
  | [], _, n + 1, h => by simp only [IsL] at h; subst h; simp [IsL]
  | d :: ds, vs, n + 1, h => by
    simp only [IsL] at h
    obtain ⟨v, r, rfl, h1, h2⟩ := h
    simp only [List.take_succ_cons, IsL]
    exact ⟨v, _, rfl, h1, IsL.take n h2⟩
theorem IsL.drop {a : An} {F : Hp} : ∀ {ds : List D} {vs : List V} (n : Nat), IsL a F ds vs → IsL a F (ds.drop n) (vs.drop n)
  | _, _, 0, h => h
  | [], _, n + 1, h => by simp only [IsL] at h; subst h; simp [IsL]
  | d :: ds, vs, n + 1, h => by
    simp only [IsL] at h
    obtain ⟨v, r, rfl, h1, h2⟩ := h
    simp only [List.drop_succ_cons]
    exact IsL.drop n h2
theorem IsL.ints {a : An} {F : Hp} : ∀ {ns : List Int} {vs : List V}, IsL a F (ns.map D.int) vs ↔ vs = ns.map V.int
  | [], vs => by simp [IsL]
  | n :: ns, vs => by
    simp only [List.map_cons, IsL, Is]
    constructor
    · rintro ⟨v, r, rfl, rfl, h⟩
      rw [IsL.ints.mp h]
    · rintro rfl
      exact ⟨_, _, rfl, rfl, IsL.ints.mpr rfl⟩

mutual
/-- v is t; S: the places that t holds alone -/
noncomputable def Ow (a : An) (F H : Hp) : T → V → List Addr → Prop
  | .leaf d, v, S => S = [] ∧ Is a F d v
  | .vw d, v, S => S = [] ∧ Is a (hb a H) d v
  | .reg R, v, S => R.P a F H v S
  | .lst ts, v, S => T.nvs ts = true ∧ ∃ p vs S', v = .ref p ∧ H p = some (.lst vs) ∧ OwL a F H ts vs S' ∧ S = p :: S'
  | .tup ts, v, S => T.nvs ts = true ∧ ∃ p vs, v = .ref p ∧ SqT a.K F p vs ∧ OwL a F H ts vs S
noncomputable def OwL (a : An) (F H : Hp) : List T → List V → List Addr → Prop
  | [], vs, S => vs = [] ∧ S = []
  | t :: ts, vs, S => ∃ v r S1 S2, vs = v :: r ∧ Ow a F H t v S1 ∧ OwL a F H ts r S2 ∧ S = S1 ++ S2
end
mutual
theorem Ow.mono {a : An} {F F' H H' : Hp} (e : Sub F F') (eb : Sub (hb a H) (hb a H')) : ∀ {t : T} {v : V} {S : List Addr}, Ow a F H t v S → (∀ p ∈ S, ∀ o, H p = some o → H' p = some o) → Ow a F' H' t v S
  | .leaf d, v, S, h, _ => by
    simp only [Ow] at h ⊢
    exact ⟨h.1, Is.mono e h.2⟩
  | .vw d, v, S, h, _ => by
    simp only [Ow] at h ⊢
    exact ⟨h.1, Is.mono eb h.2⟩
  | .reg R, v, S, h, k => by
    simp only [Ow] at h ⊢
    exact R.mono h e k
  | .lst ts, v, S, h, k => by
    simp only [Ow] at h ⊢
    obtain ⟨nn, p, vs, S', e1, e2, h1, rfl⟩ := h
    exact ⟨nn, p, vs, S', e1, k p List.mem_cons_self _ e2, OwL.mono e eb h1 fun q hq => k q (List.mem_cons_of_mem _ hq), rfl⟩
  | .tup ts, v, S, h, k => by
    simp only [Ow] at h ⊢
    obtain ⟨nn, p, vs, e1, e2, h1⟩ := h
    exact ⟨nn, p, vs, e1, sub_t e e2, OwL.mono e eb h1 k⟩
theorem OwL.mono {a : An} {F F' H H' : Hp} (e : Sub F F') (eb : Sub (hb a H) (hb a H')) : ∀ {ts : List T} {vs : List V} {S : List Addr}, OwL a F H ts vs S → (∀ p ∈ S, ∀ o, H p = some o → H' p = some o) → OwL a F' H' ts vs S
  | [], _, _, h, _ => by simpa only [OwL] using h
  | t :: ts, vs, S, h, k => by
    simp only [OwL] at h ⊢
    obtain ⟨v, r, S1, S2, e1, h1, h2, rfl⟩ := h
    exact ⟨v, r, S1, S2, e1, Ow.mono e eb h1 (fun p hp => k p (List.mem_append_left _ hp)), OwL.mono e eb h2 (fun p hp => k p (List.mem_append_right _ hp)), rfl⟩
end
mutual
theorem Ow.mono' {a : An} {F F' H H' : Hp} (e : Sub F F') : ∀ {t : T} {v : V} {S : List Addr}, t.nv = true → Ow a F H t v S → (∀ p ∈ S, ∀ o, H p = some o → H' p = some o) → Ow a F' H' t v S
  | .leaf d, v, S, _, h, _ => by
    simp only [Ow] at h ⊢
    exact ⟨h.1, Is.mono e h.2⟩
  | .vw d, v, S, n, h, _ => by simp [T.nv] at n
  | .reg R, v, S, n, h, k => by
    simp only [Ow] at h ⊢
    exact R.mono h e k
  | .lst ts, v, S, n, h, k => by
    simp only [T.nv] at n
    simp only [Ow] at h ⊢
    obtain ⟨nn, p, vs, S', e1, e2, h1, rfl⟩ := h
    exact ⟨nn, p, vs, S', e1, k p List.mem_cons_self _ e2, OwL.mono' e n h1 fun q hq => k q (List.mem_cons_of_mem _ hq), rfl⟩
  | .tup ts, v, S, n, h, k => by
    simp only [T.nv] at n
    simp only [Ow] at h ⊢
    obtain ⟨nn, p, vs, e1, e2, h1⟩ := h
    exact ⟨nn, p, vs, e1, sub_t e e2, OwL.mono' e n h1 k⟩
theorem OwL.mono' {a : An} {F F' H H' : Hp} (e : Sub F F') : ∀ {ts : List T} {vs : List V} {S : List Addr}, T.nvs ts = true → OwL a F H ts vs S → (∀ p ∈ S, ∀ o, H p = some o → H' p = some o) → OwL a F' H' ts vs S
  | [], _, _, _, h, _ => by simpa only [OwL] using h
  | t :: ts, vs, S, n, h, k => by
    simp only [T.nvs, Bool.and_eq_true] at n
    simp only [OwL] at h ⊢
    obtain ⟨v, r, S1, S2, e1, h1, h2, rfl⟩ := h
    exact ⟨v, r, S1, S2, e1, Ow.mono' e n.1 h1 (fun p hp => k p (List.mem_append_left _ hp)), OwL.mono' e n.2 h2 (fun p hp => k p (List.mem_append_right _ hp)), rfl⟩
end
mutual
/-- what is held can be read -/
theorem Ow.is {a : An} {F H : Hp} (e : Sub F H) (hF : ∀ b, a.hid b → F b = none) : ∀ {t : T} {v : V} {S : List Addr}, Ow a F H t v S → (∀ p ∈ S, ¬ a.hid p) → Is a (hb a H) t.dat v
  | .leaf d, v, S, h, _ => by
    simp only [Ow] at h
    simp only [T.dat]
    refine Is.mono (fun p o q => ?_) h.2
    unfold hb
    split
    · rename_i z
      rw [hF p z] at q; cases q
    · exact e p o q
  | .vw d, v, S, h, _ => by
    simp only [Ow] at h
    simp only [T.dat]
    exact h.2
  | .reg R, v, S, h, k => by
    simp only [Ow] at h
    simp only [T.dat, Is]
    exact R.ref h
  | .lst ts, v, S, h, k => by
    simp only [Ow] at h
    simp only [T.dat, Is]
    obtain ⟨_, p, vs, S', e1, e2, h1, rfl⟩ := h
    refine ⟨p, vs, e1, ?_, OwL.is e hF h1 fun q hq => k q (List.mem_cons_of_mem _ hq)⟩
    unfold hb
    rw [if_neg (k p List.mem_cons_self)]
    exact e2
  | .tup ts, v, S, h, k => by
    simp only [Ow] at h
    simp only [T.dat, Is]
    obtain ⟨_, p, vs, e1, e2, h1⟩ := h
    refine ⟨p, vs, e1, sub_t (fun q o z => ?_) e2, OwL.is e hF h1 k⟩
    unfold hb
    split
    · rename_i y
      rw [hF q y] at z; cases z
    · exact e q o z
theorem OwL.is {a : An} {F H : Hp} (e : Sub F H) (hF : ∀ b, a.hid b → F b = none) : ∀ {ts : List T} {vs : List V} {S : List Addr}, OwL a F H ts vs S → (∀ p ∈ S, ¬ a.hid p) → IsL a (hb a H) (T.dats ts) vs
  | [], _, _, h, _ => by
    simp only [OwL] at h
    simp only [T.dats, IsL]
    exact h.1
  | t :: ts, vs, S, h, k => by
    simp only [OwL] at h
    simp only [T.dats, IsL]
    obtain ⟨v, r, S1, S2, e1, h1, h2, rfl⟩ := h
    exact ⟨v, r, e1, Ow.is e hF h1 (fun p hp => k p (List.mem_append_left _ hp)), OwL.is e hF h2 (fun p hp => k p (List.mem_append_right _ hp))⟩
end
/-- it isn't itself only read -/
noncomputable def T.nvw : T → Bool
  | .vw _ => false
  | _ => true
theorem nvw_leaf (ds : List D) : (ds.map T.leaf).all T.nvw = true := by simp [T.nvw]
theorem nvw_of : ∀ {us : List T}, T.nvs us = true → us.all T.nvw = true
  | [], _ => rfl
  | t :: r, h => by
    simp only [T.nvs, Bool.and_eq_true] at h
    rw [List.all_cons, nvw_of h.2, Bool.and_true]
    cases t <;> first | rfl | simp [T.nv] at h
theorem Ow.nv {a : An} {F H : Hp} {t : T} {v : V} {S : List Addr} (h : Ow a F H t v S) (n : t.nvw = true) : t.nv = true := by
  cases t with
  | leaf d => rfl
  | vw d => simp [T.nvw] at n
  | reg R => rfl
  | lst us => simp only [Ow] at h; simpa only [T.nv] using h.1
  | tup us => simp only [Ow] at h; simpa only [T.nv] using h.1
theorem OwL.nvs {a : An} {F H : Hp} : ∀ {us : List T} {vs : List V} {S : List Addr}, OwL a F H us vs S → us.all T.nvw = true → T.nvs us = true
  | [], _, _, _, _ => rfl
  | t :: r, vs, S, h, n => by
    simp only [OwL] at h
    obtain ⟨v, r', S1, S2, _, h1, h2, _⟩ := h
    simp only [List.all_cons, Bool.and_eq_true] at n
    simp only [T.nvs, Bool.and_eq_true]
    exact ⟨h1.nv n.1, OwL.nvs h2 n.2⟩
end DL
namespace DL
open PySem PySem.Spec PyProof.Rows L2

noncomputable abbrev Env := List (Option T)
/-- the slots hold what the environment says -/
noncomputable def OwC (a : An) (F H : Hp) : Env → L2.St → List Addr → Prop
  | [], _, S => S = []
  | none :: ρ, σ, S => OwC a F H ρ σ.tail S
  | some t :: ρ, σ, S => ∃ v S1 S2, (σ.head? = some (some v) ∧ t.nv = true) ∧ Ow a F H t v S1 ∧ OwC a F H ρ σ.tail S2 ∧ S = S1 ++ S2
theorem OwC.mono {a : An} {F F' H H' : Hp} (e : Sub F F') (eb : Sub (hb a H) (hb a H')) : ∀ {ρ : Env} {σ : L2.St} {S : List Addr}, OwC a F H ρ σ S → (∀ p ∈ S, ∀ o, H p = some o → H' p = some o) → OwC a F' H' ρ σ S
  | [], _, _, h, _ => h
  | none :: ρ, σ, S, h, k => by
    simp only [OwC] at h ⊢
    exact OwC.mono e eb h k
  | some t :: ρ, σ, S, h, k => by
    simp only [OwC] at h ⊢
    obtain ⟨v, S1, S2, e1, h1, h2, rfl⟩ := h
    exact ⟨v, S1, S2, e1, Ow.mono e eb h1 (fun p hp => k p (List.mem_append_left _ hp)), OwC.mono e eb h2 (fun p hp => k p (List.mem_append_right _ hp)), rfl⟩
mutual
theorem Ow.there {a : An} {F H : Hp} : ∀ {t : T} {v : V} {S : List Addr}, Ow a F H t v S → ∀ p ∈ S, H p ≠ none
  | .leaf d, v, S, h => by
    simp only [Ow] at h
    intro p hp
    rw [h.1] at hp; cases hp
  | .vw d, v, S, h => by
    simp only [Ow] at h
    intro p hp
    rw [h.1] at hp; cases hp
  | .reg R, v, S, h => by
    simp only [Ow] at h
    intro p hp
    obtain ⟨o, e, _⟩ := R.there h p hp
    rw [e]; simp
  | .lst ts, v, S, h => by
    simp only [Ow] at h
    obtain ⟨_, p, vs, S', e1, e2, h1, rfl⟩ := h
    intro q hq
    rcases List.mem_cons.mp hq with rfl | hq
    · rw [e2]; simp
    · exact OwL.there h1 q hq
  | .tup ts, v, S, h => by
    simp only [Ow] at h
    obtain ⟨_, p, vs, e1, e2, h1⟩ := h
    exact OwL.there h1
theorem OwL.there {a : An} {F H : Hp} : ∀ {ts : List T} {vs : List V} {S : List Addr}, OwL a F H ts vs S → ∀ p ∈ S, H p ≠ none
  | [], vs, S, h => by
    simp only [OwL] at h
    intro p hp
    rw [h.2] at hp; cases hp
  | t :: ts, vs, S, h => by
    simp only [OwL] at h
    obtain ⟨v, r, S1, S2, e1, h1, h2, rfl⟩ := h
    intro p hp
    rcases List.mem_append.mp hp with q | q
    · exact Ow.there h1 p q
    · exact OwL.there h2 p q
end
theorem OwC.there {a : An} {F H : Hp} : ∀ {ρ : Env} {σ : L2.St} {S : List Addr}, OwC a F H ρ σ S → ∀ p ∈ S, H p ≠ none
  | [], σ, S, h => by
    simp only [OwC] at h
    intro p hp
    rw [h] at hp; cases hp
  | none :: ρ, σ, S, h => by
    simp only [OwC] at h
    exact OwC.there h
  | some t :: ρ, σ, S, h => by
    simp only [OwC] at h
    obtain ⟨v, S1, S2, e1, h1, h2, rfl⟩ := h
    intro p hp
    rcases List.mem_append.mp hp with q | q
    · exact Ow.there h1 p q
    · exact OwC.there h2 p q
mutual
theorem Ow.isl {a : An} {F H : Hp} : ∀ {t : T} {v : V} {S : List Addr}, Ow a F H t v S → ∀ p ∈ S, ∃ o, H p = some o ∧ ∀ q, o ≠ .ext q
  | .leaf d, v, S, h => by
    simp only [Ow] at h
    intro p hp
    rw [h.1] at hp; cases hp
  | .vw d, v, S, h => by
    simp only [Ow] at h
    intro p hp
    rw [h.1] at hp; cases hp
  | .reg R, v, S, h => by
    simp only [Ow] at h
    exact R.there h
  | .lst ts, v, S, h => by
    simp only [Ow] at h
    obtain ⟨_, p, vs, S', e1, e2, h1, rfl⟩ := h
    intro q hq
    rcases List.mem_cons.mp hq with rfl | hq
    · exact ⟨_, e2, fun _ z => nomatch z⟩
    · exact OwL.isl h1 q hq
  | .tup ts, v, S, h => by
    simp only [Ow] at h
    obtain ⟨_, p, vs, e1, e2, h1⟩ := h
    exact OwL.isl h1
theorem OwL.isl {a : An} {F H : Hp} : ∀ {ts : List T} {vs : List V} {S : List Addr}, OwL a F H ts vs S → ∀ p ∈ S, ∃ o, H p = some o ∧ ∀ q, o ≠ .ext q
  | [], vs, S, h => by
    simp only [OwL] at h
    intro p hp
    rw [h.2] at hp; cases hp
  | t :: ts, vs, S, h => by
    simp only [OwL] at h
    obtain ⟨v, r, S1, S2, e1, h1, h2, rfl⟩ := h
    intro p hp
    rcases List.mem_append.mp hp with q | q
    · exact Ow.isl h1 p q
    · exact OwL.isl h2 p q
end
theorem OwC.isl {a : An} {F H : Hp} : ∀ {ρ : Env} {σ : L2.St} {S : List Addr}, OwC a F H ρ σ S → ∀ p ∈ S, ∃ o, H p = some o ∧ ∀ q, o ≠ .ext q
  | [], σ, S, h => by
    simp only [OwC] at h
    intro p hp
    rw [h] at hp; cases hp
  | none :: ρ, σ, S, h => by
    simp only [OwC] at h
    exact OwC.isl h
  | some t :: ρ, σ, S, h => by
    simp only [OwC] at h
    obtain ⟨v, S1, S2, e1, h1, h2, rfl⟩ := h
    intro p hp
    rcases List.mem_append.mp hp with q | q
    · exact Ow.isl h1 p q
    · exact OwC.isl h2 p q
/-- the cell at i -/
noncomputable def Env.at : Env → Nat → Option T
  | [], _ => none
  | x :: _, 0 => x
  | _ :: r, i + 1 => Env.at r i
noncomputable def Env.put : Env → Nat → Option T → Env
  | [], _, _ => []
  | _ :: r, 0, y => y :: r
  | x :: r, i + 1, y => x :: Env.put r i y
theorem OwC.mono' {a : An} {F F' H H' : Hp} (e : Sub F F') : ∀ {ρ : Env} {σ : L2.St} {S : List Addr}, OwC a F H ρ σ S → (∀ p ∈ S, ∀ o, H p = some o → H' p = some o) → OwC a F' H' ρ σ S
  | [], _, _, h, _ => h
  | none :: ρ, σ, S, h, k => by
    simp only [OwC] at h ⊢
    exact OwC.mono' e h k
  | some t :: ρ, σ, S, h, k => by
    simp only [OwC] at h ⊢
    obtain ⟨v, S1, S2, e1, h1, h2, rfl⟩ := h
    exact ⟨v, S1, S2, e1, Ow.mono' e e1.2 h1 (fun p hp => k p (List.mem_append_left _ hp)), OwC.mono' e h2 (fun p hp => k p (List.mem_append_right _ hp)), rfl⟩
theorem OwC.get {a : An} {F H : Hp} : ∀ {ρ : Env} {σ : L2.St} {S : List Addr} {i : Nat} {t : T}, OwC a F H ρ σ S → ρ.at i = some t → ∃ v S1, σ[i]? = some (some v) ∧ Ow a F H t v S1 ∧ (∀ p ∈ S1, p ∈ S) ∧ t.nv = true
  | [], _, _, _, _, _, h => by simp [Env.at] at h
  | none :: ρ, σ, S, 0, t, h, g => by simp [Env.at] at g
  | some u :: ρ, σ, S, 0, t, h, g => by
    simp only [OwC] at h
    simp only [Env.at, Option.some.injEq] at g
    subst g
    obtain ⟨v, S1, S2, ⟨e1, nv⟩, h1, h2, rfl⟩ := h
    refine ⟨v, S1, ?_, h1, fun p hp => List.mem_append_left _ hp, nv⟩
    cases σ with
    | nil => simp at e1
    | cons x r => simpa using e1
  | none :: ρ, σ, S, i + 1, t, h, g => by
    simp only [OwC] at h
    simp only [Env.at] at g
    obtain ⟨v, S1, e1, h1, k⟩ := OwC.get h g
    refine ⟨v, S1, ?_, h1, k⟩
    cases σ with
    | nil => simp at e1
    | cons x r => simpa using e1
  | some u :: ρ, σ, S, i + 1, t, h, g => by
    simp only [OwC] at h
    simp only [Env.at] at g
    obtain ⟨v, S1, S2, e1, h1, h2, rfl⟩ := h
    obtain ⟨v', S1', e1', h1', k⟩ := OwC.get h2 g
    refine ⟨v', S1', ?_, h1', fun p hp => List.mem_append_right _ (k.1 p hp), k.2⟩
    cases σ with
    | nil => simp at e1'
    | cons x r => simpa using e1'
/-- a slot is stored: its old places are let go -/
theorem OwC.put {a : An} {F H : Hp} {t : T} {v : V} {St : List Addr} (ht : Ow a F H t v St) (hn : t.nv = true) : ∀ {ρ : Env} {σ : L2.St} {S : List Addr} {i : Nat}, OwC a F H ρ σ S → i < ρ.length → i < σ.length → S.Nodup → St.Nodup → (∀ p ∈ St, p ∉ S) →
    ∃ S', OwC a F H (ρ.put i (some t)) (σ.set i (some v)) S' ∧ S'.Nodup ∧ ∀ p ∈ S', p ∈ S ∨ p ∈ St
  | [], σ, S, i, h, l, _, _, _, _ => by simp at l
  | x :: ρ, [], S, i, h, l, l2, _, _, _ => by simp at l2
  | none :: ρ, y :: σ, S, 0, h, _, _, n, nt, d => by
    simp only [OwC, List.tail_cons] at h
    refine ⟨St ++ S, ?_, ?_, fun p hp => (List.mem_append.mp hp).symm⟩
    · simp only [Env.put, List.set_cons_zero, OwC, List.tail_cons]
      exact ⟨v, St, S, ⟨rfl, hn⟩, ht, h, rfl⟩
    · exact List.nodup_append.mpr ⟨nt, n, fun p hp q hq e => d p hp (e ▸ hq)⟩
  | some u :: ρ, y :: σ, S, 0, h, _, _, n, nt, d => by
    simp only [OwC, List.tail_cons] at h
    obtain ⟨v1, S1, S2, e1, h1, h2, rfl⟩ := h
    refine ⟨St ++ S2, ?_, ?_, fun p hp => ?_⟩
    · simp only [Env.put, List.set_cons_zero, OwC, List.tail_cons]
      exact ⟨v, St, S2, ⟨rfl, hn⟩, ht, h2, rfl⟩
    · exact List.nodup_append.mpr ⟨nt, (List.nodup_append.mp n).2.1, fun p hp q hq e => d p hp (List.mem_append_right _ (e ▸ hq))⟩
    · rcases List.mem_append.mp hp with q | q
      · exact .inr q
      · exact .inl (List.mem_append_right _ q)
  | none :: ρ, y :: σ, S, i + 1, h, l, l2, n, nt, d => by
    simp only [OwC, List.tail_cons] at h
    obtain ⟨S', h', n', k⟩ := OwC.put ht hn (i := i) h (by simpa using l) (by simpa using l2) n nt d
    refine ⟨S', ?_, n', k⟩
    simp only [Env.put, List.set_cons_succ, OwC, List.tail_cons]
    exact h'
  | some u :: ρ, y :: σ, S, i + 1, h, l, l2, n, nt, d => by
    simp only [OwC, List.tail_cons] at h
    obtain ⟨v1, S1, S2, e1, h1, h2, rfl⟩ := h
    obtain ⟨n1, n2, n3⟩ := List.nodup_append.mp n
    obtain ⟨S', h', n', k⟩ := OwC.put ht hn (i := i) h2 (by simpa using l) (by simpa using l2) n2 nt (fun p hp q => d p hp (List.mem_append_right _ q))
    refine ⟨S1 ++ S', ?_, ?_, fun p hp => ?_⟩
    · simp only [Env.put, List.set_cons_succ, OwC, List.tail_cons]
      exact ⟨v1, S1, S', e1, h1, h', rfl⟩
    · refine List.nodup_append.mpr ⟨n1, n', fun p hp q hq e => ?_⟩
      subst e
      rcases k p hq with z | z
      · exact n3 p hp p z rfl
      · exact d p z (List.mem_append_left _ hp)
    · rcases List.mem_append.mp hp with q | q
      · exact .inl (List.mem_append_left _ q)
      · rcases k p q with z | z
        · exact .inl (List.mem_append_right _ z)
        · exact .inr z
/-- a slot is forgotten (its store may have changed) -/
theorem OwC.drop {a : An} {F H : Hp} : ∀ {ρ : Env} {σ : L2.St} {S : List Addr} {x : Option V} (i : Nat), OwC a F H ρ σ S → S.Nodup →
    ∃ S', OwC a F H (ρ.put i none) (σ.set i x) S' ∧ S'.Nodup ∧ ∀ p ∈ S', p ∈ S
  | [], σ, S, x, i, h, n => ⟨S, by simpa only [Env.put, OwC] using h, n, fun _ h => h⟩
  | none :: ρ, [], S, x, 0, h, n => ⟨S, by simpa [Env.put, OwC] using h, n, fun _ h => h⟩
  | none :: ρ, y :: σ, S, x, 0, h, n => ⟨S, by simpa [Env.put, OwC] using h, n, fun _ h => h⟩
  | some u :: ρ, [], S, x, i, h, n => by simp [OwC] at h
  | some u :: ρ, y :: σ, S, x, 0, h, n => by
    simp only [OwC, List.tail_cons] at h
    obtain ⟨v1, S1, S2, e1, h1, h2, rfl⟩ := h
    exact ⟨S2, by simpa [Env.put, OwC] using h2, (List.nodup_append.mp n).2.1, fun p hp => List.mem_append_right _ hp⟩
  | none :: ρ, [], S, x, i + 1, h, n => by
    simp only [OwC] at h
    obtain ⟨S', h', n', k⟩ := OwC.drop (x := x) i h n
    exact ⟨S', by simpa [Env.put, OwC] using h', n', k⟩
  | none :: ρ, y :: σ, S, x, i + 1, h, n => by
    simp only [OwC] at h
    obtain ⟨S', h', n', k⟩ := OwC.drop (x := x) i h n
    exact ⟨S', by simpa [Env.put, OwC] using h', n', k⟩
  | some u :: ρ, y :: σ, S, x, i + 1, h, n => by
    simp only [OwC, List.tail_cons] at h
    obtain ⟨v1, S1, S2, e1, h1, h2, rfl⟩ := h
    obtain ⟨n1, n2, n3⟩ := List.nodup_append.mp n
    obtain ⟨S', h', n', k⟩ := OwC.drop (x := x) i h2 n2
    refine ⟨S1 ++ S', ?_, List.nodup_append.mpr ⟨n1, n', fun p hp q hq => n3 p hp q (k q hq)⟩, fun p hp => ?_⟩
    · simp only [Env.put, List.set_cons_succ, OwC, List.tail_cons]
      exact ⟨v1, S1, S', e1, h1, h', rfl⟩
    · rcases List.mem_append.mp hp with q | q
      · exact List.mem_append_left _ q
      · exact List.mem_append_right _ (k p q)
theorem Env.put_length : ∀ (ρ : Env) (i : Nat) (x : Option T), (ρ.put i x).length = ρ.length
  | [], _, _ => rfl
  | _ :: r, 0, _ => rfl
  | _ :: r, i + 1, x => by simp [Env.put, Env.put_length r i x]

/-- the bag: a list of three ints and a list of ints; the tables -/
structure BagOk (a : An) (F H : Hp) : Prop where
  no : ∀ b, a.hid b → F b = none
  bag : ∀ b, a.bg = some b → ∃ (x y z : Int) (c : Addr) (ns : List Int),
    H b = some (.lst [.int x, .int y, .int z, .ref c]) ∧ F c = some (.lst (ns.map V.int)) ∧ 0 ≤ x ∧ 0 ≤ y ∧ y < 2147483647 ∧ 0 ≤ z ∧ ∀ n ∈ ns, 0 ≤ n
  tab : ∀ p q, a.tb p q → LamX.TabS H p q
theorem BagOk.there {a : An} {F H : Hp} (w : BagOk a F H) {b : Addr} (h : a.hid b) : H b ≠ none := by
  rcases h with h | ⟨q, h⟩
  · obtain ⟨x, y, z, c, ns, e, _⟩ := w.bag b h
    rw [e]; simp
  · obtain ⟨ps, e, _⟩ := w.tab b q h
    rw [e]; simp
/-- a list that is held alone is written -/
theorem BagOk.written {a : An} {F H : Hp} {D : Addr} {o : HO} (w : BagOk a F H) (hD : ∀ φ, H D ≠ some (.ext φ)) (n : ¬ a.hid D) : BagOk a F (upd H D o) :=
  ⟨w.no, fun b e => by
    obtain ⟨x, y, z, c, ns, e1, r⟩ := w.bag b e
    exact ⟨x, y, z, c, ns, by rw [upd_ne (fun z => n (by rw [← z]; exact An.hid_bg e))]; exact e1, r⟩, fun p q e => by
    obtain ⟨ps, e1, e2, e3⟩ := w.tab p q e
    refine ⟨ps, by rw [upd_ne (fun z => n (by rw [← z]; exact .inr ⟨q, e⟩))]; exact e1, e2, fun ps' cv h => ?_⟩
    obtain ⟨c, h1, h2⟩ := e3 ps' cv h
    refine ⟨c, h1, ?_⟩
    rw [upd_ne (fun z => ?_)]
    · exact h2
    · rw [z] at h2; exact hD _ h2⟩
/-- the heap grows -/
theorem BagOk.mono {a : An} {F F' H H' : Hp} (w : BagOk a F H) (sF : Sub F F') (sH : Sub H H') (no : ∀ b, a.hid b → F' b = none) : BagOk a F' H' :=
  ⟨no, fun b e => by
    obtain ⟨x, y, z, c, ns, e1, e2, r⟩ := w.bag b e
    exact ⟨x, y, z, c, ns, sH _ _ e1, sF _ _ e2, r⟩, fun p q e => (w.tab p q e).ext sH⟩
/-- what has become of the heaps since the entry; M: places that may be written -/
structure Gw (M : Addr → Prop) (F0 H0 F H : Hp) : Prop where
  ff : Sub F0 F
  hh : ∀ p o, ¬ M p → H0 p = some o → H p = some o
  nn : ∀ p, H0 p ≠ none → F0 p = none → F p = none
  th : ∀ p, H0 p ≠ none → H p ≠ none
theorem Gw.refl (M : Addr → Prop) (F H : Hp) : Gw M F H F H := ⟨Sub.refl F, fun _ _ _ h => h, fun _ _ h => h, fun _ h => h⟩
theorem Gw.trans {M : Addr → Prop} {F0 H0 F1 H1 F2 H2 : Hp} (g : Gw M F0 H0 F1 H1) (g' : Gw M F1 H1 F2 H2) : Gw M F0 H0 F2 H2 :=
  ⟨g.ff.trans g'.ff, fun p o hp h => g'.hh p o hp (g.hh p o hp h), fun p h n => g'.nn p (g.th p h) (g.nn p h n), fun p h => g'.th p (g.th p h)⟩

structure An0 extends An where
  M : Addr → Prop
  F0 : Hp
  H0 : Hp
  W : List Hp
  V : List Hp
structure SW (a : An0) (ρ : Env) (σ : L2.St) (ts : List T) (vs : List V) (H F : Hp) (Sc Sm : List Addr) : Prop where
  sub : Sub F H
  gw : Gw a.M a.F0 a.H0 F H
  bagM : ∀ b, a.toAn.hid b → a.M b ∧ a.H0 b ≠ none
  bag : BagOk a.toAn F H
  cells : OwC a.toAn F H ρ σ Sc
  tmps : OwL a.toAn F H ts vs Sm
  nd : (Sc ++ Sm).Nodup
  fr : ∀ p ∈ Sc ++ Sm, F p = none ∧ ¬ a.toAn.hid p ∧ (a.M p ∨ a.H0 p = none)
  len : ρ.length = σ.length
  wit : ∀ G ∈ a.W, Sub (hb a.toAn G) (hb a.toAn H)
  wif : ∀ G ∈ a.V, Sub G F
noncomputable def SOk (a : An0) (ρ : Env) (σ : L2.St) (ts : List T) (vs : List V) (H : Hp) : Prop := ∃ F Sc Sm, SW a ρ σ ts vs H F Sc Sm
section
variable {a : An0} {ρ : Env} {σ : L2.St} {ts : List T} {vs : List V} {H F : Hp} {Sc Sm : List Addr}
theorem SW.nobag (w : SW a ρ σ ts vs H F Sc Sm) : ∀ b, a.toAn.hid b → F b = none := w.bag.no
theorem SW.subb (w : SW a ρ σ ts vs H F Sc Sm) : Sub F (hb a.toAn H) := fun p o q => by
  unfold hb
  split
  · rename_i z
    rw [w.nobag p z] at q; cases q
  · exact w.sub p o q
/-- temporaries: the first can be read -/
theorem SW.top {t : T} {v : V} (w : SW a ρ σ (t :: ts) (v :: vs) H F Sc Sm) : Is a.toAn (hb a.toAn H) t.dat v := by
  obtain ⟨v', r, S1, S2, e, h1, h2, e2⟩ := (show ∃ v' r S1 S2, v :: vs = v' :: r ∧ Ow a.toAn F H t v' S1 ∧ OwL a.toAn F H ts r S2 ∧ Sm = S1 ++ S2 by
    have := w.tmps; simpa only [OwL] using this)
  cases e
  exact Ow.is w.sub w.nobag h1 fun p hp => (w.fr p (by rw [e2]; exact List.mem_append_right _ (List.mem_append_left _ hp))).2.1
theorem SW.all (w : SW a ρ σ ts vs H F Sc Sm) : IsL a.toAn (hb a.toAn H) (T.dats ts) vs :=
  OwL.is w.sub w.nobag w.tmps fun p hp => (w.fr p (List.mem_append_right _ hp)).2.1
theorem SOk.top {t : T} {v : V} : SOk a ρ σ (t :: ts) (v :: vs) H → Is a.toAn (hb a.toAn H) t.dat v := fun ⟨_, _, _, w⟩ => w.top
theorem OwL.split {a : An} {F H : Hp} : ∀ {ts us : List T} {vs ws : List V} {S : List Addr}, OwL a F H (ts ++ us) (vs ++ ws) S → ts.length = vs.length → ∃ S1 S2, OwL a F H ts vs S1 ∧ OwL a F H us ws S2 ∧ S = S1 ++ S2
  | [], us, [], ws, S, h, _ => ⟨[], S, by simp [OwL], h, rfl⟩
  | [], us, v :: vs, ws, S, h, l => by simp at l
  | t :: ts, us, [], ws, S, h, l => by simp at l
  | t :: ts, us, v :: vs, ws, S, h, l => by
    have h : OwL a F H (t :: (ts ++ us)) (v :: (vs ++ ws)) S := h
    simp only [OwL] at h
    obtain ⟨v', r, S1, S2, e, h1, h2, rfl⟩ := h
    cases e
    obtain ⟨S3, S4, h3, h4, rfl⟩ := OwL.split h2 (by simpa using l)
    refine ⟨S1 ++ S3, S4, ?_, h4, by simp⟩
    simp only [OwL]
    exact ⟨v, vs, S1, S3, rfl, h1, h3, rfl⟩
theorem OwL.join {a : An} {F H : Hp} : ∀ {ts us : List T} {vs ws : List V} {S1 S2 : List Addr}, OwL a F H ts vs S1 → OwL a F H us ws S2 → OwL a F H (ts ++ us) (vs ++ ws) (S1 ++ S2)
  | [], us, vs, ws, S1, S2, h1, h2 => by
    simp only [OwL] at h1
    obtain ⟨rfl, rfl⟩ := h1
    exact h2
  | t :: ts, us, vs, ws, S1, S2, h1, h2 => by
    simp only [OwL] at h1
    obtain ⟨v, r, S3, S4, rfl, h3, h4, rfl⟩ := h1
    show OwL a F H (t :: (ts ++ us)) (v :: (r ++ ws)) (S3 ++ S4 ++ S2)
    simp only [OwL]
    exact ⟨v, r ++ ws, S3, S4 ++ S2, rfl, h3, OwL.join h4 h2, by simp⟩
theorem OwL.length {a : An} {F H : Hp} : ∀ {ts : List T} {vs : List V} {S : List Addr}, OwL a F H ts vs S → vs.length = ts.length
  | [], _, _, h => by simp only [OwL] at h; simp [h.1]
  | t :: ts, vs, S, h => by
    simp only [OwL] at h
    obtain ⟨v, r, S1, S2, rfl, _, h2, _⟩ := h
    simp [OwL.length h2]
/-- temporaries are let go, or taken in another order -/
theorem SW.tmp {us : List T} {ws : List V} {Sn : List Addr} (w : SW a ρ σ ts vs H F Sc Sm) (h : OwL a.toAn F H us ws Sn) (n : Sn.Nodup) (k : ∀ p ∈ Sn, p ∈ Sm) : SW a ρ σ us ws H F Sc Sn := by
  obtain ⟨n1, n2, n3⟩ := List.nodup_append.mp w.nd
  refine ⟨w.sub, w.gw, w.bagM, w.bag, w.cells, h, List.nodup_append.mpr ⟨n1, n, fun p hp q hq => n3 p hp q (k q hq)⟩, fun p hp => w.fr p ?_, w.len, w.wit, w.wif⟩
  rcases List.mem_append.mp hp with q | q
  · exact List.mem_append_left _ q
  · exact List.mem_append_right _ (k p q)
theorem SOk.pop {us : List T} {ws : List V} (l : us.length = ws.length) : SOk a ρ σ (us ++ ts) (ws ++ vs) H → SOk a ρ σ ts vs H := fun ⟨F, Sc, Sm, w⟩ => by
  obtain ⟨S1, S2, h1, h2, e⟩ := OwL.split w.tmps l
  have n := (List.nodup_append.mp w.nd).2.1
  rw [e] at n
  exact ⟨F, Sc, S2, w.tmp h2 (List.nodup_append.mp n).2.1 fun p hp => by rw [e]; exact List.mem_append_right _ hp⟩
theorem SOk.pop1 {t : T} {v : V} (h : SOk a ρ σ (t :: ts) (v :: vs) H) : SOk a ρ σ ts vs H := SOk.pop (us := [t]) (ws := [v]) rfl h
/-- a value without places of its own -/
theorem SW.leaf {d : D} {v : V} (w : SW a ρ σ ts vs H F Sc Sm) (h : Is a.toAn F d v) : SW a ρ σ (.leaf d :: ts) (v :: vs) H F Sc Sm :=
  ⟨w.sub, w.gw, w.bagM, w.bag, w.cells, by simp only [OwL]; exact ⟨v, vs, [], Sm, rfl, by simp only [Ow]; exact ⟨trivial, h⟩, w.tmps, rfl⟩, w.nd, w.fr, w.len, w.wit, w.wif⟩
theorem SW.vw {d : D} {v : V} (w : SW a ρ σ ts vs H F Sc Sm) (h : Is a.toAn (hb a.toAn H) d v) : SW a ρ σ (.vw d :: ts) (v :: vs) H F Sc Sm :=
  ⟨w.sub, w.gw, w.bagM, w.bag, w.cells, by simp only [OwL]; exact ⟨v, vs, [], Sm, rfl, by simp only [Ow]; exact ⟨trivial, h⟩, w.tmps, rfl⟩, w.nd, w.fr, w.len, w.wit, w.wif⟩
/-- what needs no heap -/
noncomputable def D.flat : D → Bool
  | .non | .bl _ | .int _ | .str _ => true
  | _ => false
theorem Is.flat {a : An} {F G : Hp} {d : D} {v : V} (f : d.flat = true) (h : Is a F d v) : Is a G d v := by
  cases d <;> simp [D.flat] at f <;> simpa only [Is] using h
theorem SOk.flat {d : D} {v : V} (f : d.flat = true) (h : Is a.toAn (hb a.toAn H) d v) : SOk a ρ σ ts vs H → SOk a ρ σ (.leaf d :: ts) (v :: vs) H := fun ⟨F, Sc, Sm, w⟩ => ⟨F, Sc, Sm, w.leaf (h.flat f)⟩
theorem SOk.int {i : Int} (h : SOk a ρ σ ts vs H) : SOk a ρ σ (.leaf (.int i) :: ts) (.int i :: vs) H := h.flat rfl (by simp only [Is])
theorem SOk.bl {b : Bool} (h : SOk a ρ σ ts vs H) : SOk a ρ σ (.leaf (.bl b) :: ts) (.bl b :: vs) H := h.flat rfl (by simp only [Is])
theorem SOk.str {b : Str} (h : SOk a ρ σ ts vs H) : SOk a ρ σ (.leaf (.str b) :: ts) (.str b :: vs) H := h.flat rfl (by simp only [Is])
theorem SOk.non (h : SOk a ρ σ ts vs H) : SOk a ρ σ (.leaf .non :: ts) (.non :: vs) H := h.flat rfl (by simp only [Is])
theorem hb_upd {a : An} {H : Hp} {p : Addr} {o : HO} (hp : H p = none) : Sub (hb a H) (hb a (upd H p o)) := fun q u e => by
  unfold hb at e ⊢
  split at e
  · cases e
  · rename_i z
    rw [if_neg z, upd_ne (ne_of_none e hp)]
    exact e
theorem sub_new {H : Hp} {p : Addr} {o : HO} (hp : H p = none) : Sub H (upd H p o) := fun q u e => by
  rw [upd_ne (ne_of_none e hp)]
  exact e
theorem SW.fresh (w : SW a ρ σ ts vs H F Sc Sm) {p : Addr} (hp : H p = none) : a.H0 p = none ∧ F p = none ∧ ¬ a.toAn.hid p := by
  refine ⟨?_, ?_, fun e => w.bag.there e hp⟩
  · cases q : a.H0 p with
    | none => rfl
    | some o => exact absurd hp (w.gw.th p (by rw [q]; simp))
  · cases q : F p with
    | none => rfl
    | some o =>
      have := w.sub p o q
      rw [hp] at this; cases this
theorem bag_new {p : Addr} {o : HO} (w : BagOk a.toAn F H) (hp : H p = none) : BagOk a.toAn F (upd H p o) := w.mono (Sub.refl F) (sub_new hp) w.no
/-- all is kept where a new object is laid that the frozen part doesn't know -/
theorem SW.laid (w : SW a ρ σ ts vs H F Sc Sm) {p : Addr} {o : HO} (hp : H p = none) : SW a ρ σ ts vs (upd H p o) F Sc Sm := by
  have s := sub_new (o := o) hp
  have sb := hb_upd (a := a.toAn) (o := o) hp
  refine ⟨w.sub.trans s, ⟨w.gw.ff, fun q u hq e => s q u (w.gw.hh q u hq e), w.gw.nn, fun q h => ?_⟩, w.bagM, bag_new w.bag hp, w.cells.mono (Sub.refl F) sb fun q _ u e => s q u e, w.tmps.mono (Sub.refl F) sb fun q _ u e => s q u e, w.nd, w.fr, w.len, fun G hG => (w.wit G hG).trans sb, w.wif⟩
  unfold upd
  split
  · simp
  · exact w.gw.th q h
/-- .. or that the frozen part takes in -/
theorem SW.froze (w : SW a ρ σ ts vs H F Sc Sm) {p : Addr} {o : HO} (hp : H p = none) : SW a ρ σ ts vs (upd H p o) (upd F p o) Sc Sm := by
  obtain ⟨h0, hF, hbg⟩ := w.fresh hp
  have s := sub_new (o := o) hp
  have sF : Sub F (upd F p o) := sub_new (o := o) hF
  have sb := hb_upd (a := a.toAn) (o := o) hp
  refine ⟨fun q u e => ?_, ⟨w.gw.ff.trans sF, fun q u hq e => s q u (w.gw.hh q u hq e), fun q h n => ?_, fun q h => ?_⟩, w.bagM, w.bag.mono sF s fun b e => ?_, w.cells.mono sF sb fun q _ u e => s q u e, w.tmps.mono sF sb fun q _ u e => s q u e, w.nd, fun q hq => ?_, w.len, fun G hG => (w.wit G hG).trans sb, fun G hG => (w.wif G hG).trans sF⟩
  · unfold upd at e ⊢
    split at e
    · rename_i z; rw [if_pos z]; exact e
    · rename_i z; rw [if_neg z]; exact w.sub q u e
  · rw [upd_ne (fun z => h (by rw [z]; exact h0))]
    exact w.gw.nn q h n
  · unfold upd
    split
    · simp
    · exact w.gw.th q h
  · rw [upd_ne (fun z => hbg (by rw [← z]; exact e))]
    exact w.bag.no b e
  · obtain ⟨f1, f2, f3⟩ := w.fr q hq
    refine ⟨?_, f2, f3⟩
    rw [upd_ne (fun z => ?_)]
    · exact f1
    · rcases List.mem_append.mp hq with y | y
      · exact OwC.there w.cells q y (by rw [z]; exact hp)
      · exact OwL.there w.tmps q y (by rw [z]; exact hp)
/-- a new list of temporaries -/
theorem SW.mkLst {us : List T} {ws : List V} {p : Addr} (w : SW a ρ σ (us ++ ts) (ws ++ vs) H F Sc Sm) (l : us.length = ws.length) (n : us.all T.nvw = true) (hp : H p = none) :
    ∃ Sm', SW a ρ σ (.lst us :: ts) (.ref p :: vs) (upd H p (.lst ws)) F Sc Sm' := by
  have w' := w.laid (o := .lst ws) hp
  obtain ⟨S1, S2, h1, h2, e⟩ := OwL.split w'.tmps l
  obtain ⟨h0, hF, hbg⟩ := w.fresh hp
  have np : p ∉ Sc ++ Sm := fun hq => by
    rcases List.mem_append.mp hq with y | y
    · exact OwC.there w.cells p y hp
    · exact OwL.there w.tmps p y hp
  refine ⟨p :: Sm, w'.sub, w'.gw, w'.bagM, w'.bag, w'.cells, ?_, ?_, fun q hq => ?_, w'.len, w'.wit, w'.wif⟩
  · simp only [OwL, Ow]
    exact ⟨.ref p, vs, p :: S1, S2, rfl, ⟨h1.nvs n, p, ws, S1, rfl, upd_same, h1, rfl⟩, h2, by rw [e]; rfl⟩
  · exact (List.perm_middle.nodup_iff).mpr (List.nodup_cons.mpr ⟨np, w.nd⟩)
  · rcases List.mem_append.mp hq with y | y
    · exact w'.fr q (List.mem_append_left _ y)
    · rcases List.mem_cons.mp y with rfl | y
      · exact ⟨hF, hbg, .inr h0⟩
      · exact w'.fr q (List.mem_append_right _ y)
theorem SW.mkTup {us : List T} {ws : List V} {p : Addr} (w : SW a ρ σ (us ++ ts) (ws ++ vs) H F Sc Sm) (l : us.length = ws.length) (n : us.all T.nvw = true) (hp : H p = none) :
    ∃ F', SW a ρ σ (.tup us :: ts) (.ref p :: vs) (upd H p (.tup ws)) F' Sc Sm := by
  have w' := w.froze (o := .tup ws) hp
  obtain ⟨S1, S2, h1, h2, e⟩ := OwL.split w'.tmps l
  refine ⟨_, w'.sub, w'.gw, w'.bagM, w'.bag, w'.cells, ?_, w'.nd, w'.fr, w'.len, w'.wit, w'.wif⟩
  simp only [OwL, Ow]
  exact ⟨.ref p, vs, S1, S2, rfl, ⟨h1.nvs n, p, ws, rfl, .inl (.inl upd_same), h1⟩, h2, e⟩
/-- T's that are plain -/
noncomputable def T.plain : T → Bool
  | .leaf _ => true
  | _ => false
theorem OwL.plain {a : An} {F H : Hp} : ∀ {ts : List T} {vs : List V} {S : List Addr}, ts.all T.plain = true → OwL a F H ts vs S → S = [] ∧ IsL a F (T.dats ts) vs
  | [], vs, S, _, h => by
    simp only [OwL] at h
    exact ⟨h.2, by simp only [T.dats, IsL]; exact h.1⟩
  | t :: ts, vs, S, k, h => by
    simp only [List.all_cons, Bool.and_eq_true] at k
    simp only [OwL] at h
    obtain ⟨v, r, S1, S2, rfl, h1, h2, rfl⟩ := h
    obtain ⟨e2, i2⟩ := OwL.plain k.2 h2
    cases t with
    | leaf d =>
      simp only [Ow] at h1
      obtain ⟨rfl, i1⟩ := h1
      exact ⟨by rw [e2]; rfl, by simp only [T.dats, T.dat, IsL]; exact ⟨v, r, rfl, i1, i2⟩⟩
    | lst _ => simp [T.plain] at k
    | tup _ => simp [T.plain] at k
    | vw _ => simp [T.plain] at k
    | reg _ => simp [T.plain] at k
/-- a tuple of plain things is plain -/
noncomputable def T.mk (us : List T) : T := if us.all T.plain then .leaf (.tup (T.dats us)) else .tup us
theorem SW.mkT {us : List T} {v : V} (w : SW a ρ σ (.tup us :: ts) (v :: vs) H F Sc Sm) : SW a ρ σ (T.mk us :: ts) (v :: vs) H F Sc Sm := by
  unfold T.mk
  split
  · rename_i k
    obtain ⟨v', r, S1, S2, e, h1, h2, e2⟩ := (show ∃ v' r S1 S2, v :: vs = v' :: r ∧ Ow a.toAn F H (.tup us) v' S1 ∧ OwL a.toAn F H ts r S2 ∧ Sm = S1 ++ S2 by
      have := w.tmps; simpa only [OwL] using this)
    cases e
    simp only [Ow] at h1
    obtain ⟨_, p, ws, rfl, q, h3⟩ := h1
    obtain ⟨rfl, h4⟩ := OwL.plain k h3
    refine ⟨w.sub, w.gw, w.bagM, w.bag, w.cells, ?_, w.nd, w.fr, w.len, w.wit, w.wif⟩
    rw [e2]
    simp only [OwL, Ow, Is]
    exact ⟨_, _, [], S2, rfl, ⟨rfl, p, ws, rfl, q, h4⟩, h2, rfl⟩
  · exact w
end
end DL
namespace DL
open PySem PySem.Spec PyProof.Rows L2

structure FnG (P : Program) (w : World) (K : PySem.W.Frag) (mg : Str → Option Value) (base : Heap) (CX : CXT) (k : Nat)
    (f : Addr) (fd : FuncData) (ps : List Str) (sp : Sp) : Prop where
  len : ∀ vs H Q E, sp vs H Q E → vs.length = ps.length
  run : ∀ (A : Around) (outer : List PySem.Env) (s : Shared) (H : Hp) (args : Args) (us : List Value) (vs : List V) (Q : VK) (E : XK),
    A.guards = some [] → Room k A → Env0 P w K mg base A outer s H → BindsTo s fd args (ps.zip us) → Vals vs us → sp vs H Q E →
    codeAny (model P w) A (.call (.ref f) args) (CR CX outer P w H s Q E) s
theorem FnG.mono {P : Program} {w : World} {K : PySem.W.Frag} {mg : Str → Option Value} {base : Heap} {CX : CXT} {j k : Nat} {f : Addr} {fd : FuncData} {ps : List Str} {sp : Sp}
    (F : FnG P w K mg base CX j f fd ps sp) (h : j ≤ k) : FnG P w K mg base CX k f fd ps sp :=
  ⟨F.len, fun A o s H ar us vs Q E g hr => F.run A o s H ar us vs Q E g (hr.mono h)⟩

section
variable {X : Cx} {CX : CXT} {k : Nat} {f C : Addr} {fd : FuncData} {ps : List Str} {sp : Sp} {dvs : List V} {ds : List Value} {E : XK} {x m : Str} {p pos apos : Pos} {e o : Expr} {es : List Expr} {ta : TE} {t : TA}
theorem run_G {pins : List (Addr × Obj)} {σ : L2.St} {H : Hp} {s : Shared} {Q : VK} {us : List Value} {vs : List V}
    (F : FnG X.prog X.w X.K X.mg X.base CX k f fd ps sp) (hg : X.A.guards = some []) (hr : Room k X.A) (hb : Binds X.K fd ps ds) (hd : Vals dvs ds) (hx : Passes CX X E)
    (I : Inv X pins σ H s) (r : Vals vs us) (h : sp (vs ++ dvs) H Q E) :
    wpAny (model X.prog X.w) X.A (call (.ref f) us) (EP X pins σ Q) X.xe s := by
  have both : Vals (vs ++ dvs) (us ++ ds) := r.append hd
  have n : (us ++ ds).length = ps.length := both.length ▸ F.len _ _ _ _ h
  have go := F.run X.A X.stack s H ⟨us, []⟩ (us ++ ds) (vs ++ dvs) Q E hg hr I.env0 (hb s us I.kIn n) both h
  refine wpAny_call (codeAny_mono go fun res s' hq => ?_)
  match res, hq with
  | .error e, hq => exact hx pins σ H s e s' I hq
  | .ok (.ret u), hq => exact I.after hq
  | .ok .next, hq => exact False.elim hq
  | .ok .brk, hq => exact False.elim hq
  | .ok .cont, hq => exact False.elim hq
theorem pe_callG (F : FnG X.prog X.w X.K X.mg X.base CX k f fd ps sp) (gu : X.A.guards = some []) (hr : Room k X.A) (hg : Gl X x) (hm : X.mg x = some (.ref f))
    (hk : PySem.W.keepIn X.K (.ref f) = true) (hb : Binds X.K fd ps ds) (hd : Vals dvs ds) (hx : Passes CX X E)
    (ha : PA X (e :: es) t) (hdb : (x == ("__debug__" : Str)) = false) (he : starEach (e :: es) X.env = (false, eval e X.env) :: starEach es X.env)
    (hpl : (backTo pos (starEach es X.env)).any (·.1) = false) :
    PE X (.Call (.Name x p) (e :: es) [] pos) (tCall sp dvs E t) :=
  ⟨fun pins s σ H Q I h => wpAny_Call_Name_kw (ld_glob I hg hm
    (PySem.W.callWith_K (h₀ := X.base) I.ok.mod.kin hk
      (thn (ha.run pos pins s σ H _ I h) fun us s1 ⟨vs, H1, I1, r, q⟩ => ⟨I1.kIn, run_G F gu hr hb hd hx I1 r q⟩) he hpl) hdb)⟩
end

/-- a def keeps its promise, by its body -/
theorem fn_G {CX : CXT} {P : Program} {w : World} {K : PySem.W.Frag} {mg : Str → Option Value} {base : Heap} {k : Nat} {f : Addr} {name qual : Str} {params : Arguments} {body : List Stmt} {scope : Scope}
    {dV kV doc pm cdv ct oc : Value} {an od : Option Addr} {osl : Array (Option Value)} {N ps : List Str} {sp : Sp}
    (lk : K.lookup f = some ⟨oc, od, .func (PySem.W.fnOf name qual params body scope dV kV doc pm an cdv ct), osl⟩) (hcd : PySem.W.codeIn K cdv qual = true) (S : FnScope N ps scope)
    (len : ∀ vs H Q E, sp vs H Q E → vs.length = ps.length)
    (hbody : ∀ (A : Around) (outer : List PySem.Env) (s : Shared) (H : Hp) (vs : List V) (Q : VK) (E : XK), A.guards = some [] → Room k (A.deeper (envOfC qual scope s.heap.objs.size f cdv)) → sp vs H Q E →
      ∃ t, PSs (cxOf CX P w K mg base N qual scope f cdv A outer s H E) body t ∧ t { nx := fun _ H' => Q .non H', rt := Q } (start N vs) H) :
    FnG P w K mg base CX (k + 1) f (PySem.W.fnOf name qual params body scope dV kV doc pm an cdv ct) ps sp := by
  refine ⟨len, fun A outer s H args us vs Q E g hr e0 hb r hsp => ?_⟩
  have hl := len vs H Q E hsp
  have KX : K.In s.heap := e0.mod.kin.keeps fun b o e => (e0.bs b o e).1
  have lim := e0.mod.nolimit.keeps fun b o e => (e0.bs b o e).1
  have kinds : ∀ y ∈ ps.zip us, scope.names.lookup y.1 = some .local ∨ (scope.names.lookup y.1 = some .cell ∧ ((cellsFrom (s.heap.objs.size + 1) scope.names []).lookup y.1).isSome = true) := by
    rintro ⟨n, v⟩ hy
    refine (S.par n (List.of_mem_zip hy).1).imp id fun q => ⟨q, PySem.W.cellsFrom_some _ _ _ (.inl q)⟩
  refine codeAny_call_function hr.depth (KX _ _ lk) rfl S.co S.gen rfl (PySem.W.codeRec_of KX hcd) (hb _ _ _ _ ?_)
  refine wpAny_newFunctionEnv_cells S.kind kinds fun env he s1 x => ?_
  subst he
  refine ⟨lim.keeps x.toInCall.keep, codeAny_func ?_⟩
  obtain ⟨t, ht, hq⟩ := hbody A outer s H vs Q E g (hr.deeper _) hsp
  have I := inv_start (CX := CX) (E := E) S hr.hd e0 hl r x
  refine wpAny_mono (ht.run [] s1 (start N vs) H _ I hq) (fun fl s' hs => ?_) fun e s' hs => hs
  match fl, hs with
  | .ret u, ⟨v, σ', H', J, rv, q⟩ => exact ⟨v, H', J.os, J.bare, J.base, J.hok, rv, q⟩
  | .next, ⟨σ', H', J, q⟩ => exact ⟨.non, H', J.os, J.bare, J.base, J.hok, rfl, q⟩
  | .brk, ⟨_, _, _, q⟩ => exact False.elim q
  | .cont, ⟨_, _, _, q⟩ => exact False.elim q

/-- the law is called: its promise gives the row's walk -/
theorem law_G {P : Program} {w : World} {K : PySem.W.Frag} {mg mb : Str → Option Value} {CX : CXT} {k : Nat} {fa a : Addr} {fd : FuncData} {x : Str} {sp : Sp} {s₁ : Shared} {vs : List Value} {ns : List Int}
    (KX : K.In s₁.heap) (hns : s₁.heap.Ns mainGlobals mg) (hb : s₁.heap.Ns builtinsNs mb) (hbb : ∀ x : Str, x ≠ "__name__" → mb x = bootBuiltins x) (hlim : s₁.heap.NoLimit) (hg : s₁.gens = #[])
    (ha : s₁.heap.get? a = some { cls := .type "list", data := .seq vs.toArray }) (hi : IntsAre vs ns) (hl : ns.length ≤ sizeLine) (hr : Room k callerA)
    (F : ∀ base : Heap, K.In base → base.Ns mainGlobals mg → FnG P w K mg base CX k fa fd [x] sp) (hbind : ∀ (s : Shared) (u : Value), BindsTo s fd ⟨[u], []⟩ [(x, u)])
    (hsp : ∀ H : Hp, Only H → SqL K H a (ns.map V.int) → sp [.ref a] H (fun v _ => v = .bl true) fun _ _ _ => False) (hCX : ∀ H e s', CX [] H s₁ (fun _ _ _ => False) e s' → False) :
    codeAny (model P w) callerA (.call (.ref fa) ⟨[.ref a], []⟩) (fun r s' => r = .ok (.ret (.bool true)) ∧ OldK s₁.heap s'.heap ∧ s'.os = s₁.os ∧ AllBare s'.gens) s₁ := by
  have values := vals_ints hi
  have many := hi.length
  -- H knows the script at most
  have from_heap : ∀ H : Hp, Only H → SqL K H a (ns.map V.int) → HOk P w H s₁.heap → (∀ b, H b ≠ none → b = a) → (H a ≠ none → K.lookup a = none) →
      codeAny (model P w) callerA (.call (.ref fa) ⟨[.ref a], []⟩) (fun r s' => r = .ok (.ret (.bool true)) ∧ OldK s₁.heap s'.heap ∧ s'.os = s₁.os ∧ AllBare s'.gens) s₁ := by
    intro H only script okay alone notWritten
    have stays : ∀ {b : Addr} {o : Obj}, s₁.heap.get? b = some o → H b = none → (hidT s₁.heap H).get? b = some o := fun e n => hidT_get e n
    have dictsFree : ∀ {b : Addr} {o : Obj} {es : Array DictEntry} {ep : Nat}, s₁.heap.get? b = some o → o.data = .dict es ep → H b = none := by
      intro b o es ep e d
      by_cases z : H b = none
      · exact z
      · have := alone b z
        subst this
        rw [ha] at e
        cases e
        cases (show Data.seq vs.toArray _ = Data.dict es ep from d)
    have tables : ∀ {b : Addr} {m : Str → Option Value}, s₁.heap.Ns b m → (hidT s₁.heap H).Ns b m := by
      rintro b m ⟨o, es, ep, e, d, r⟩
      exact ⟨o, es, ep, stays e (dictsFree e d), d, r⟩
    have written : K.In (hidT s₁.heap H) := by
      intro b o e
      refine stays (KX b o e) ?_
      by_cases z : H b = none
      · exact z
      · have := alone b z
        subst this
        rw [notWritten z] at e
        cases e
    have module : Mod K mg (hidT s₁.heap H) := ⟨written, tables hns, ⟨mb, tables hb, hbb⟩, hlim.elim fun mc h => ⟨mc, tables h.1, h.2⟩⟩
    have at_call : Env0 P w K mg (hidT s₁.heap H) callerA [] s₁ H :=
      ⟨rfl, module, fun b o e => of_hidT e, Nat.le_of_eq (hidT_size _ _), trivial, fun b hb => absurd hb (by simp [frs]), okay, .of_eq hg⟩
    have go := (F _ written (tables hns)).run callerA [] s₁ H ⟨[.ref a], []⟩ [.ref a] [.ref a] _ _ rfl hr at_call (hbind s₁ (.ref a)) (.cons rfl .nil) (hsp H only script)
    refine codeAny_mono go fun r s' h => ?_
    match r, h with
    | .error e, h => exact (hCX H e s' h).elim
    | .ok .next, h => exact False.elim h
    | .ok .brk, h => exact False.elim h
    | .ok .cont, h => exact False.elim h
    | .ok (.ret u), ⟨v, H', os, bare, un, okay', rel, q⟩ =>
      obtain rfl : v = .bl true := q
      obtain rfl : u = Value.bool true := rel
      refine ⟨rfl, OldK.of_keep fun b o e => ?_, os, bare⟩
      cases q : H b with
      | none => exact un.keep b o e q (by simp [frs]) (by simp)
      | some u =>
        rcases only b with z | ⟨ob, xs, z⟩
        · rw [q] at z; cases z
        · obtain ⟨e1, _⟩ := okay b _ z
          obtain ⟨e2, _⟩ := okay' b _ (un.frzs b ob _ z)
          rw [e] at e1
          cases e1
          exact e2
  match hk : K.lookup a with
  | some o =>
    have e := KX a o hk
    rw [ha] at e
    cases e
    refine from_heap (fun _ => none) (fun _ => .inl rfl) (.inr ⟨_, vs.toArray, _, hk, rfl, rfl, rfl, ?_, by simpa using values⟩) (fun b u z => nomatch z) (fun b z => absurd rfl z) fun z => absurd rfl z
    rw [List.size_toArray, many]
    exact hl
  | none =>
    obtain ⟨Hs, self, other⟩ : ∃ Hs : Hp, Hs a = some (HO.frz { cls := .type "list", data := .seq vs.toArray } (.lst (ns.map V.int))) ∧ ∀ b, b ≠ a → Hs b = none :=
      ⟨fun b => if b = a then some (HO.frz { cls := .type "list", data := .seq vs.toArray } (.lst (ns.map V.int))) else none, if_pos rfl, fun b h => if_neg h⟩
    refine from_heap Hs (fun b => ?_) (.inl (.inr ⟨_, self⟩)) (fun b u z => ?_) (fun b z => ?_) fun _ => hk
    · by_cases hb : b = a
      · subst hb; exact .inr ⟨_, _, self⟩
      · exact .inl (other b hb)
    · by_cases hb : b = a
      · subst hb
        rw [self] at z
        cases z
        exact ⟨ha, by rw [List.length_map]; exact hl, vs, _, values, ha⟩
      · rw [other b hb] at z
        cases z
    · by_cases hb : b = a
      · exact hb
      · exact absurd (other b hb) z
theorem walk_G {l : PySem.W.OpenLaw} {n k : Nat} {q : Program} {loose : List Str} {XP : (Str → Option Value) → Heap → Prop} {YP : World → Heap → Prop} {d : DefRec} {K : Params → PySem.W.Frag} {CX : World → CXT} {sp : World → Sp} {x : Str}
    (hn : l.most = some n) (hn2 : n ≤ sizeLine) (hdf : d.params.defaults = []) (hr : Room k callerA) (hY : ∀ (w : World) (h : Heap), YP w h → (K w.params).In h)
    (F : ∀ (w : World) (mg : Str → Option Value) (fa : Addr) (h : Heap), (K w.params).In h → h.Ns mainGlobals mg → mg d.name = some (.ref fa) →
      ∃ fd : FuncData, (∀ (s : Shared) (u : Value), BindsTo s fd ⟨[u], []⟩ [(x, u)]) ∧
        ∀ base : Heap, (K w.params).In base → base.Ns mainGlobals mg → FnG l.prog w (K w.params) mg base (CX w) k fa fd [x] (sp w))
    (hsp : ∀ (w : World) (H : Hp) (a : Addr) (ns : List Int), ns.length ≤ n → Only H → SqL (K w.params) H a (ns.map V.int) → sp w [.ref a] H (fun v _ => v = .bl true) fun _ _ _ => False)
    (hCX : ∀ (w : World) (H : Hp) (s : Shared) (e : Value) (s' : Shared), CX w [] H s (fun _ _ _ => False) e s' → False) :
    PySem.W.WalkO q loose XP YP l.row.toRowW d [] (fun f vs => PySem.call f vs) := by
  refine Att.attach_call hn hdf fun w s₀ s₁ mg mb fa o pm cd doc a vs ns G Y ho hd hcd hmg hobj hints hlen hg => ?_
  have KX := hY w _ Y
  have ⟨fd, hb, hF⟩ := F w mg fa _ KX G.T.g hmg
  exact law_G KX G.T.g G.T.b G.T.builtins G.T.nolimit hg hobj hints (Nat.le_trans hlen hn2) hr hF hb
    (fun H only script => hsp w H a ns hlen only script) fun H e s' => hCX w H s₁ e s'
end DL
namespace DL
open PySem PySem.Spec PyProof.Rows L2

section
variable {X : Cx}
noncomputable def WE (X : Cx) (e : Expr) : TE := fun σ H Q => ∃ t, PE X e t ∧ t σ H Q
noncomputable def WT (X : Cx) (e : Expr) : TT := fun σ H Q => ∃ t, PT X e t ∧ t σ H Q
noncomputable def WA (X : Cx) (e : List Expr) : TA := fun σ H Q => ∃ t, PA X e t ∧ t σ H Q
noncomputable def WS (X : Cx) (e : Stmt) : TS := fun D σ H => ∃ t, PS X e t ∧ t D σ H
noncomputable def WB (X : Cx) (e : List Stmt) : TS := fun D σ H => ∃ t, PSs X e t ∧ t D σ H
noncomputable def WI (X : Cx) (tg e : Expr) : TI := fun σ H Q => ∃ t, PI X tg e t ∧ t σ H Q
noncomputable def WG (X : Cx) (e : Expr) : TG := fun v σ H Q => ∃ t, PG X e t ∧ t v σ H Q
noncomputable def WGs (X : Cx) (e : List Expr) : TGs := fun v σ H Q => ∃ t, PGs X e t ∧ t v σ H Q
theorem pe_W {e : Expr} : PE X e (WE X e) := ⟨fun p s σ H Q I ⟨_, h, q⟩ => h.run p s σ H Q I q⟩
theorem pt_W {e : Expr} : PT X e (WT X e) := ⟨fun p s σ H Q I ⟨_, h, q⟩ => h.run p s σ H Q I q⟩
theorem pa_W {e : List Expr} : PA X e (WA X e) := ⟨fun c p s σ H Q I ⟨_, h, q⟩ => h.run c p s σ H Q I q⟩
theorem ps_W {e : Stmt} : PS X e (WS X e) := ⟨fun p s σ H Q I ⟨_, h, q⟩ => h.run p s σ H Q I q⟩
theorem pb_W {e : List Stmt} : PSs X e (WB X e) := ⟨fun p s σ H Q I ⟨_, h, q⟩ => h.run p s σ H Q I q⟩
theorem pi_W {tg e : Expr} : PI X tg e (WI X tg e) := ⟨fun p s σ H Q I ⟨_, h, q⟩ => h.run p s σ H Q I q⟩
theorem pg_W {e : Expr} : PG X e (WG X e) := ⟨fun p s σ H v u Q I r ⟨_, h, q⟩ => h.run p s σ H v u Q I r q⟩
theorem pgs_W {e : List Expr} : PGs X e (WGs X e) := ⟨fun p s σ H v u Q I r ⟨_, h, q⟩ => h.run p s σ H v u Q I r q⟩
end

noncomputable def DE (a : An0) (X : Cx) (ρ : Env) (e : Expr) (Φ : T → Prop) : Prop :=
  ∀ σ H ts vs Q, SOk a ρ σ ts vs H → (∀ v t H', Φ t → SOk a ρ σ (t :: ts) (v :: vs) H' → Q v H') → WE X e σ H Q
noncomputable def DT (a : An0) (X : Cx) (ρ : Env) (e : Expr) (Φ : Bool → Prop) : Prop :=
  ∀ σ H ts vs Q, SOk a ρ σ ts vs H → (∀ b H', Φ b → SOk a ρ σ ts vs H' → Q b H') → WT X e σ H Q
noncomputable def DA (a : An0) (X : Cx) (ρ : Env) (es : List Expr) (Φ : List T → Prop) : Prop :=
  ∀ σ H ts vs Q, SOk a ρ σ ts vs H → (∀ ws us H', Φ us → us.all T.nvw = true → us.length = ws.length → SOk a ρ σ (us ++ ts) (ws ++ vs) H' → Q ws H') → WA X es σ H Q
/-- .. where they may be only read -/
noncomputable def DV (a : An0) (X : Cx) (ρ : Env) (es : List Expr) (Φ : List T → Prop) : Prop :=
  ∀ σ H ts vs Q, SOk a ρ σ ts vs H → (∀ ws us H', Φ us → us.length = ws.length → SOk a ρ σ (us ++ ts) (ws ++ vs) H' → Q ws H') → WA X es σ H Q
/-- what holds of a body's whole -/
structure XOk (a : An0) (X : Cx) : Prop where
  K : X.K = a.K
  calm : X.calm = true
  nd : X.N.Nodup
  gu : X.A.guards = some []
  hd : X.A.handled = none
  un : X.A.units + 200 < cLine
  po : PassesOwn (model X.prog X.w) X.A X.env X.xe

section
variable {a : An0} {X : Cx} {ρ : Env} {σ : L2.St} {ts : List T} {vs : List V} {H F : Hp} {Sc Sm : List Addr} {Φ : T → Prop} {pos : Pos} {e A B C : Expr}

theorem OwL.perm1 {a : An} {F H : Hp} {t : T} {v : V} : ∀ {us : List T} {ws : List V} {ts : List T} {vs : List V} {S : List Addr}, us.length = ws.length → OwL a F H (us ++ t :: ts) (ws ++ v :: vs) S → ∃ S', OwL a F H (t :: us ++ ts) (v :: ws ++ vs) S' ∧ S'.Perm S
  | us, ws, ts, vs, S, l, h => by
    obtain ⟨S1, S2, h1, h2, rfl⟩ := OwL.split h l
    simp only [OwL] at h2
    obtain ⟨v', r, S3, S4, e, h3, h4, rfl⟩ := h2
    cases e
    refine ⟨S3 ++ (S1 ++ S4), ?_, ?_⟩
    · show OwL a F H (t :: (us ++ ts)) (v :: (ws ++ vs)) _
      simp only [OwL]
      exact ⟨v, _, S3, S1 ++ S4, rfl, h3, OwL.join h1 h4, rfl⟩
    · rw [← List.append_assoc, ← List.append_assoc]
      exact List.Perm.append_right _ List.perm_append_comm
theorem SW.re {us : List T} {ws : List V} {Sn : List Addr} (w : SW a ρ σ ts vs H F Sc Sm) (h : OwL a.toAn F H us ws Sn) (p : Sn.Perm Sm) : SW a ρ σ us ws H F Sc Sn :=
  w.tmp h (p.nodup_iff.mpr (List.nodup_append.mp w.nd).2.1) fun q hq => p.mem_iff.mp hq
theorem SW.rot {t : T} {v : V} {us : List T} {ws : List V} (w : SW a ρ σ (us ++ t :: ts) (ws ++ v :: vs) H F Sc Sm) (l : us.length = ws.length) : ∃ Sm', SW a ρ σ (t :: us ++ ts) (v :: ws ++ vs) H F Sc Sm' :=
  let ⟨_, h, p⟩ := OwL.perm1 l w.tmps
  ⟨_, w.re h p⟩
theorem SOk.rot {t : T} {v : V} {us : List T} {ws : List V} (l : us.length = ws.length) : SOk a ρ σ (us ++ t :: ts) (ws ++ v :: vs) H → SOk a ρ σ (t :: us ++ ts) (v :: ws ++ vs) H := fun ⟨F, Sc, _, w⟩ =>
  let ⟨Sm', w'⟩ := w.rot l
  ⟨F, Sc, Sm', w'⟩

theorem de_nm {i : Nat} {x : Str} {d : D} (hN : X.N[i]? = some x) (hv : Vis X.env.scope x) (hd : (x == ("__debug__" : Str)) = false) (hc : (x == ("__classdict__" : Str)) = false)
    (h : ρ.at i = some (.leaf d)) (q : Φ (.leaf d)) : DE a X ρ (.Name x pos) Φ := fun σ H ts vs Q ok k => by
  obtain ⟨F, Sc, Sm, w⟩ := ok
  obtain ⟨v, S1, e1, h1, _⟩ := w.cells.get h
  simp only [Ow] at h1
  exact ⟨_, pe_var hN hv hd hc, v, e1, k v _ H q ⟨F, Sc, Sm, w.leaf h1.2⟩⟩
theorem de_ow {i : Nat} {x : Str} {t : T} (hN : X.N[i]? = some x) (hv : Vis X.env.scope x) (hd : (x == ("__debug__" : Str)) = false) (hc : (x == ("__classdict__" : Str)) = false)
    (h : ρ.at i = some t) (q : Φ (.vw t.dat)) : DE a X ρ (.Name x pos) Φ := fun σ H ts vs Q ok k => by
  obtain ⟨F, Sc, Sm, w⟩ := ok
  obtain ⟨v, S1, e1, h1, h2⟩ := w.cells.get h
  exact ⟨_, pe_var hN hv hd hc, v, e1, k v _ H q ⟨F, Sc, Sm, w.vw (Ow.is w.sub w.nobag h1 fun p hp => (w.fr p (List.mem_append_left _ (h2.1 p hp))).2.1)⟩⟩
theorem de_int {i : Int} {j : Nat} (q : Φ (.leaf (.int i))) : DE a X ρ (.Constant (.int i) j pos) Φ := fun _ _ _ _ _ ok k => ⟨_, pe_int, k _ _ _ q ok.int⟩
theorem de_bl {i : Bool} {j : Nat} (q : Φ (.leaf (.bl i))) : DE a X ρ (.Constant (.bool i) j pos) Φ := fun _ _ _ _ _ ok k => ⟨_, pe_bl, k _ _ _ q ok.bl⟩
theorem de_str {i : Str} {j : Nat} (q : Φ (.leaf (.str i))) : DE a X ρ (.Constant (.str i) j pos) Φ := fun _ _ _ _ _ ok k => ⟨_, pe_str, k _ _ _ q ok.str⟩
theorem de_non {j : Nat} (q : Φ (.leaf .non)) : DE a X ρ (.Constant .none j pos) Φ := fun _ _ _ _ _ ok k => ⟨_, pe_non, k _ _ _ q ok.non⟩

inductive Bop where
  | add | sub | mul | fdiv | mod | pow | shr | band
  deriving DecidableEq
noncomputable def Bop.op : Bop → Operator
  | .add => .Add | .sub => .Sub | .mul => .Mult | .fdiv => .FloorDiv | .mod => .Mod | .pow => .Pow | .shr => .RShift | .band => .BitAnd
noncomputable def MulOk (i j : Int) : Prop := (-(2 ^ 64) < i ∧ i < 2 ^ 64) ∨ (-(2 ^ 64) < j ∧ j < 2 ^ 64) ∨ i.natAbs.log2 + j.natAbs.log2 < 1000000
/-- items of a list, of a tuple, each with its own places -/
noncomputable def T.its : T → Option (List T)
  | .leaf (.lst ds) => some (ds.map .leaf)
  | .lst ts => some ts
  | .vw (.lst ds) => if ds.all D.flat then some (ds.map .leaf) else none
  | _ => none
noncomputable def T.prt : T → Option (List T)
  | .leaf (.tup ds) => some (ds.map .leaf)
  | .tup ts => some ts
  | _ => none
noncomputable def binD : Bop → D → D → (D → Prop) → Prop
  | .add, .int i, .int j, Φ => Φ (.int (i + j))
  | .add, .str s, .str t, Φ => s.length + t.length ≤ 100000 ∧ Φ (.str (s ++ t))
  | .sub, .int i, .int j, Φ => Φ (.int (i - j))
  | .mul, .int i, .int j, Φ => MulOk i j ∧ Φ (.int (i * j))
  | .fdiv, .int i, .int j, Φ => (0 < j ∧ j.natAbs.log2 < 9000) ∧ Φ (.int (i / j))
  | .mod, .int i, .int j, Φ => 0 < j ∧ Φ (.int (i % j))
  | .pow, .int i, .int j, Φ => (0 ≤ j ∧ j ≤ 1000000 ∧ i.natAbs < 2 ^ 64) ∧ Φ (.int (i ^ j.toNat))
  | .shr, .int i, .int j, Φ => 0 ≤ j ∧ Φ (.int (i / 2 ^ j.toNat))
  | .band, .int i, .int j, Φ => Φ (.int (Builtin.bitAnd i j))
  | _, _, _, _ => False
/-- x + y of lists, of tuples; x * n -/
noncomputable def catT (x y : T) (Φ : T → Prop) : Prop := ∃ xs ys, x.its = some xs ∧ y.its = some ys ∧ xs.length + ys.length ≤ 100000 ∧ Φ (.lst (xs ++ ys))
noncomputable def catU (x y : T) (Φ : T → Prop) : Prop := ∃ xs ys, x.prt = some xs ∧ y.prt = some ys ∧ xs.length + ys.length ≤ 100000 ∧ Φ (T.mk (xs ++ ys))
noncomputable def repT (x : T) (n : Int) (Φ : T → Prop) : Prop := ∃ ds, x.its = some (ds.map .leaf) ∧ 0 ≤ n ∧ n ≤ 100000 ∧ ds.length * n.toNat ≤ 100000 ∧ Φ (.lst ((List.replicate n.toNat ds).flatten.map .leaf))
noncomputable def binT : Bop → T → T → (T → Prop) → Prop
  | .add, x, y, Φ => match x.dat, y.dat with
    | .lst _, .lst _ => catT x y Φ
    | .tup _, .tup _ => catU x y Φ
    | dx, dy => binD .add dx dy fun d => Φ (.leaf d)
  | .mul, x, y, Φ => match x.dat, y.dat with
    | .lst _, .int n => repT x n Φ
    | dx, dy => binD .mul dx dy fun d => Φ (.leaf d)
  | o, x, y, Φ => binD o x.dat y.dat fun d => Φ (.leaf d)

noncomputable def OpD (a : An0) (r : R2) (g : T → T → (T → Prop) → Prop) : Prop := ∀ (ρ : Env) σ H ts vs x y tx ty Φ (Q : VK), SOk a ρ σ (ty :: tx :: ts) (y :: x :: vs) H → g tx ty Φ →
  (∀ v t H', Φ t → SOk a ρ σ (t :: ts) (v :: vs) H' → Q v H') → r x y H Q
theorem de_bin {op : Operator} {r : R2} {g : T → T → (T → Prop) → Prop} (ho : OpR X (binaryOp op) r) (hg : OpD a r g) (h : DE a X ρ A fun x => DE a X ρ B fun y => g x y Φ) : DE a X ρ (.BinOp A op B pos) Φ := fun σ H ts vs Q ok k => by
  refine ⟨_, pe_op ho pe_W pe_W, ?_⟩
  show WE X A σ H fun x H1 => WE X B σ H1 fun y H2 => r x y H2 Q
  refine h σ H ts vs _ ok fun x tx H1 h1 ok1 => ?_
  exact h1 σ H1 _ _ _ ok1 fun y ty H2 h2 ok2 => hg ρ σ H2 ts vs x y tx ty Φ Q ok2 h2 k
/-- the two values -/
theorem SOk.two {x y : V} {tx ty : T} (ok : SOk a ρ σ (ty :: tx :: ts) (y :: x :: vs) H) : Is a.toAn (hb a.toAn H) tx.dat x ∧ Is a.toAn (hb a.toAn H) ty.dat y ∧ SOk a ρ σ ts vs H := ⟨ok.pop1.top, ok.top, ok.pop1.pop1⟩
theorem Is.int {a : An} {F : Hp} {i : Int} {v : V} (h : Is a F (.int i) v) : v = .int i := by simpa only [Is] using h
theorem Is.str {a : An} {F : Hp} {i : Str} {v : V} (h : Is a F (.str i) v) : v = .str i := by simpa only [Is] using h
theorem Is.bl {a : An} {F : Hp} {i : Bool} {v : V} (h : Is a F (.bl i) v) : v = .bl i := by simpa only [Is] using h
theorem Is.non {a : An} {F : Hp} {v : V} (h : Is a F .non v) : v = .non := by simpa only [Is] using h
theorem leafs_length (ds : List D) : (ds.map T.leaf).length = ds.length := by simp
theorem OwL.leafs {a : An} {F H : Hp} : ∀ {ds : List D} {vs : List V}, IsL a F ds vs → OwL a F H (ds.map .leaf) vs []
  | [], vs, h => by
    simp only [IsL] at h
    simpa only [List.map_nil, OwL, and_true] using h
  | d :: ds, vs, h => by
    simp only [IsL] at h
    obtain ⟨v, r, rfl, h1, h2⟩ := h
    simp only [List.map_cons, OwL]
    exact ⟨v, r, [], [], rfl, by simp only [Ow]; exact ⟨trivial, h1⟩, OwL.leafs h2, rfl⟩
theorem IsL.flat {a : An} {F G : Hp} : ∀ {ds : List D} {vs : List V}, ds.all D.flat = true → IsL a F ds vs → IsL a G ds vs
  | [], vs, _, h => by simpa only [IsL] using h
  | d :: ds, vs, f, h => by
    simp only [List.all_cons, Bool.and_eq_true] at f
    simp only [IsL] at h ⊢
    obtain ⟨v, r, rfl, h1, h2⟩ := h
    exact ⟨v, r, rfl, h1.flat f.1, IsL.flat f.2 h2⟩
/-- a temporary list is taken apart -/
theorem SW.opens {t : T} {x : V} {us : List T} (w : SW a ρ σ (t :: ts) (x :: vs) H F Sc Sm) (h : t.its = some us) :
    ∃ l ws, x = .ref l ∧ H l = some (.lst ws) ∧ (us.length = ws.length ∧ us.all T.nvw = true) ∧ ∃ Sm', SW a ρ σ (us ++ ts) (ws ++ vs) H F Sc Sm' := by
  obtain ⟨v', r, S1, S2, e, h1, h2, e2⟩ := (show ∃ v' r S1 S2, x :: vs = v' :: r ∧ Ow a.toAn F H t v' S1 ∧ OwL a.toAn F H ts r S2 ∧ Sm = S1 ++ S2 by
    have := w.tmps; simpa only [OwL] using this)
  cases e
  have nSm : (S1 ++ S2).Nodup := e2 ▸ (List.nodup_append.mp w.nd).2.1
  have fin : ∀ {ws S}, OwL a.toAn F H us ws S → S.Nodup → (∀ p ∈ S, p ∈ S1) → ∃ Sm', SW a ρ σ (us ++ ts) (ws ++ vs) H F Sc Sm' := fun {ws S} ho n k => by
    refine ⟨S ++ S2, w.tmp (OwL.join ho h2) ?_ fun p hp => ?_⟩
    · obtain ⟨n1, n2, n3⟩ := List.nodup_append.mp nSm
      exact List.nodup_append.mpr ⟨n, n2, fun p hp q hq => n3 p (k p hp) q hq⟩
    · rw [e2]
      rcases List.mem_append.mp hp with z | z
      · exact List.mem_append_left _ (k p z)
      · exact List.mem_append_right _ z
  match t, h, h1 with
  | .leaf (.lst ds), h, h1 =>
    simp only [T.its, Option.some.injEq] at h
    subst h
    simp only [Ow, Is] at h1
    obtain ⟨rfl, p, ws, rfl, q, il⟩ := h1
    exact ⟨p, ws, rfl, w.sub p _ q, ⟨by rw [leafs_length, il.length], nvw_leaf _⟩, fin (OwL.leafs il) List.nodup_nil fun _ h => h⟩
  | .lst us', h, h1 =>
    simp only [T.its, Option.some.injEq] at h
    subst h
    simp only [Ow] at h1
    obtain ⟨nn, p, ws, S', rfl, q, ho, rfl⟩ := h1
    exact ⟨p, ws, rfl, q, ⟨ho.length.symm, nvw_of nn⟩, fin ho (List.nodup_cons.mp (List.nodup_append.mp nSm).1).2 fun p hp => List.mem_cons_of_mem _ hp⟩
  | .vw (.lst ds), h, h1 =>
    simp only [T.its] at h
    split at h
    · rename_i f
      simp only [Option.some.injEq] at h
      subst h
      simp only [Ow, Is] at h1
      obtain ⟨rfl, p, ws, rfl, q, il⟩ := h1
      exact ⟨p, ws, rfl, hb_sub _ _ p _ q, ⟨by rw [leafs_length, il.length], nvw_leaf _⟩, fin (OwL.leafs (il.flat f)) List.nodup_nil fun _ h => h⟩
    · cases h
  | .leaf .non, h, _ | .leaf (.bl _), h, _ | .leaf (.int _), h, _ | .leaf (.str _), h, _ | .leaf (.tup _), h, _ | .leaf .bag, h, _ | .leaf (.obj _ _), h, _ | .leaf (.scr _), h, _ => simp [T.its] at h
  | .vw .non, h, _ | .vw (.bl _), h, _ | .vw (.int _), h, _ | .vw (.str _), h, _ | .vw (.tup _), h, _ | .vw .bag, h, _ | .vw (.obj _ _), h, _ | .vw (.scr _), h, _ => simp [T.its] at h
  | .tup _, h, _ => simp [T.its] at h
theorem SW.opent {t : T} {x : V} {us : List T} (w : SW a ρ σ (t :: ts) (x :: vs) H F Sc Sm) (h : t.prt = some us) :
    ∃ l ws, x = .ref l ∧ SqT a.K H l ws ∧ (us.length = ws.length ∧ us.all T.nvw = true) ∧ ∃ Sm', SW a ρ σ (us ++ ts) (ws ++ vs) H F Sc Sm' := by
  obtain ⟨v', r, S1, S2, e, h1, h2, e2⟩ := (show ∃ v' r S1 S2, x :: vs = v' :: r ∧ Ow a.toAn F H t v' S1 ∧ OwL a.toAn F H ts r S2 ∧ Sm = S1 ++ S2 by
    have := w.tmps; simpa only [OwL] using this)
  cases e
  have nSm : (S1 ++ S2).Nodup := e2 ▸ (List.nodup_append.mp w.nd).2.1
  have fin : ∀ {ws S}, OwL a.toAn F H us ws S → S.Nodup → (∀ p ∈ S, p ∈ S1) → ∃ Sm', SW a ρ σ (us ++ ts) (ws ++ vs) H F Sc Sm' := fun {ws S} ho n k => by
    refine ⟨S ++ S2, w.tmp (OwL.join ho h2) ?_ fun p hp => ?_⟩
    · obtain ⟨n1, n2, n3⟩ := List.nodup_append.mp nSm
      exact List.nodup_append.mpr ⟨n, n2, fun p hp q hq => n3 p (k p hp) q hq⟩
    · rw [e2]
      rcases List.mem_append.mp hp with z | z
      · exact List.mem_append_left _ (k p z)
      · exact List.mem_append_right _ z
  match t, h, h1 with
  | .leaf (.tup ds), h, h1 =>
    simp only [T.prt, Option.some.injEq] at h
    subst h
    simp only [Ow, Is] at h1
    obtain ⟨rfl, p, ws, rfl, q, il⟩ := h1
    exact ⟨p, ws, rfl, sub_t w.sub q, ⟨by rw [leafs_length, il.length], nvw_leaf _⟩, fin (OwL.leafs il) List.nodup_nil fun _ h => h⟩
  | .tup us', h, h1 =>
    simp only [T.prt, Option.some.injEq] at h
    subst h
    simp only [Ow] at h1
    obtain ⟨nn, p, ws, rfl, q, ho⟩ := h1
    exact ⟨p, ws, rfl, sub_t w.sub q, ⟨ho.length.symm, nvw_of nn⟩, fin ho (List.nodup_append.mp nSm).1 fun p hp => hp⟩
  | .leaf .non, h, _ | .leaf (.bl _), h, _ | .leaf (.int _), h, _ | .leaf (.str _), h, _ | .leaf (.lst _), h, _ | .leaf .bag, h, _ | .leaf (.obj _ _), h, _ | .leaf (.scr _), h, _ => simp [T.prt] at h
  | .vw _, h, _ => simp [T.prt] at h
  | .lst _, h, _ => simp [T.prt] at h
theorem small {n : Nat} (h : n ≤ 100000) : n ≤ sizeLine := Nat.le_trans h (by decide)
theorem smallLt {n : Nat} (h : n ≤ 100000) : n < sizeLine := Nat.lt_of_le_of_lt h (by decide)
/-- flat results of flat operands -/
theorem opd_flat {r : R2} {g : D → D → (D → Prop) → Prop} (hr : ∀ F dx dy x y Ψ H (Q : VK), Is a.toAn F dx x → Is a.toAn F dy y → g dx dy Ψ → (∀ d v, Ψ d → d.flat = true → Is a.toAn F d v → Q v H) → r x y H Q) :
    OpD a r fun x y Φ => g x.dat y.dat fun d => Φ (.leaf d) := fun ρ σ H ts vs x y tx ty Φ Q ok h k => by
  obtain ⟨h1, h2, ok'⟩ := ok.two
  exact hr _ _ _ x y _ H Q h1 h2 h fun d v hd f is => k v _ H hd (SOk.flat f is ok')
theorem opd_cat : OpD a rCat catT := fun ρ σ H ts vs x y tx ty Φ Q ok q k => by
  obtain ⟨F, Sc, Sm, w⟩ := ok
  obtain ⟨xs, ys, e1, e2, hz, q⟩ := q
  obtain ⟨lb, ws, rfl, hb, ⟨ly, ny⟩, Sm1, w1⟩ := w.opens e2
  obtain ⟨Sm2, w2⟩ := w1.rot ly
  obtain ⟨la, us, rfl, ha, ⟨lx, nx⟩, Sm3, w3⟩ := w2.opens e1
  refine ⟨la, lb, us, ws, rfl, rfl, ha, hb, small (by omega), fun p hp => ?_⟩
  have w4 : SW a ρ σ ((xs ++ ys) ++ ts) ((us ++ ws) ++ vs) H F Sc Sm3 := by
    rw [List.append_assoc, List.append_assoc]
    exact w3
  obtain ⟨Sm4, w5⟩ := w4.mkLst (by simp [lx, ly]) (by rw [List.all_append, nx, ny]; rfl) hp
  exact k _ _ _ q ⟨F, Sc, Sm4, w5⟩
end
end DL
namespace DL
open PySem PySem.Spec PyProof.Rows L2
section
variable {a : An0} {X : Cx} {ρ : Env} {σ : L2.St} {ts : List T} {vs : List V} {H F : Hp} {Sc Sm : List Addr} {Φ : T → Prop} {pos : Pos} {e A B C : Expr}

theorem dats_leaf : ∀ ds : List D, T.dats (ds.map T.leaf) = ds
  | [] => by simp [T.dats]
  | d :: ds => by simp [T.dats, T.dat, dats_leaf ds]
theorem plain_leaf (ds : List D) : (ds.map T.leaf).all T.plain = true := by simp [T.plain]
theorem mk_leaf (ds : List D) : T.mk (ds.map T.leaf) = .leaf (.tup ds) := by unfold T.mk; rw [if_pos (plain_leaf ds), dats_leaf]
/-- the elements' own order back -/
theorem SOk.mkLst {us : List T} {ws : List V} {p : Addr} (l : us.length = ws.length) (n : us.all T.nvw = true) (hp : H p = none) : SOk a ρ σ (us ++ ts) (ws ++ vs) H → SOk a ρ σ (.lst us :: ts) (.ref p :: vs) (upd H p (.lst ws)) := fun ⟨F, Sc, _, w⟩ =>
  let ⟨Sm', w'⟩ := w.mkLst l n hp
  ⟨F, Sc, Sm', w'⟩
theorem SOk.mkTup {us : List T} {ws : List V} {p : Addr} (l : us.length = ws.length) (n : us.all T.nvw = true) (hp : H p = none) : SOk a ρ σ (us ++ ts) (ws ++ vs) H → SOk a ρ σ (T.mk us :: ts) (.ref p :: vs) (upd H p (.tup ws)) := fun ⟨F, Sc, Sm, w⟩ =>
  let ⟨F', w'⟩ := w.mkTup l n hp
  ⟨F', Sc, Sm, w'.mkT⟩
theorem SOk.drop2 {t u : T} {x y : V} : SOk a ρ σ (t :: u :: ts) (x :: y :: vs) H → SOk a ρ σ (t :: ts) (x :: vs) H := fun h => (SOk.rot (us := [t]) (ws := [x]) rfl h).pop1
/-- a tuple handed on as it is -/
theorem SOk.same {t : T} {v : V} {zs : List T} (hz : t.prt = some zs) : SOk a ρ σ (t :: ts) (v :: vs) H → SOk a ρ σ (T.mk zs :: ts) (v :: vs) H := fun ⟨F, Sc, Sm, w⟩ => by
  match t, hz with
  | .leaf (.tup ds), hz =>
    simp only [T.prt, Option.some.injEq] at hz
    subst hz
    rw [mk_leaf]
    exact ⟨F, Sc, Sm, w⟩
  | .tup ts', hz =>
    simp only [T.prt, Option.some.injEq] at hz
    subst hz
    exact ⟨F, Sc, Sm, w.mkT⟩
  | .leaf .non, h | .leaf (.bl _), h | .leaf (.int _), h | .leaf (.str _), h | .leaf (.lst _), h | .leaf .bag, h | .leaf (.obj _ _), h | .leaf (.scr _), h => simp [T.prt] at h
  | .vw _, h => simp [T.prt] at h
  | .lst _, h => simp [T.prt] at h
theorem opd_catU : OpD a (rCatA a.K) catU := fun ρ σ H ts vs x y tx ty Φ Q ok q k => by
  have ok0 := ok
  obtain ⟨F, Sc, Sm, w⟩ := ok
  obtain ⟨xs, ys, e1, e2, hz, q⟩ := q
  obtain ⟨lb, ws, rfl, hb, ⟨ly, ny⟩, Sm1, w1⟩ := w.opent e2
  obtain ⟨Sm2, w2⟩ := w1.rot ly
  obtain ⟨la, us, rfl, ha, ⟨lx, nx⟩, Sm3, w3⟩ := w2.opent e1
  have w4 : SW a ρ σ ((xs ++ ys) ++ ts) ((us ++ ws) ++ vs) H F Sc Sm3 := by
    rw [List.append_assoc, List.append_assoc]
    exact w3
  refine ⟨la, lb, us, ws, rfl, rfl, ha, hb, small (by omega), fun h0 => ?_, fun _ h0 => ?_, fun _ _ p hp => ?_⟩
  · have h1 : xs = [] := List.eq_nil_of_length_eq_zero (by rw [lx, h0]; rfl)
    subst h1
    exact k _ _ _ q (SOk.same e2 ok0.drop2)
  · have h1 : ys = [] := List.eq_nil_of_length_eq_zero (by rw [ly, h0]; rfl)
    subst h1
    rw [List.append_nil] at q
    exact k _ _ _ q (SOk.same e1 ok0.pop1)
  · exact k _ _ _ q (SOk.mkTup (by simp [lx, ly]) (by rw [List.all_append, nx, ny]; rfl) hp ⟨F, Sc, Sm3, w4⟩)
theorem IsL.rep {a : An} {F : Hp} {ds : List D} {vs : List V} (h : IsL a F ds vs) : ∀ n : Nat, IsL a F (List.replicate n ds).flatten (List.replicate n vs).flatten
  | 0 => by simp [IsL]
  | n + 1 => by
    simp only [List.replicate_succ, List.flatten_cons]
    exact h.append (IsL.rep h n)
theorem OwL.unleaf {a : An} {F H : Hp} : ∀ {ds : List D} {vs : List V} {S : List Addr}, OwL a F H (ds.map .leaf) vs S → IsL a F ds vs ∧ S = []
  | [], vs, S, h => by
    simp only [List.map_nil, OwL] at h
    simpa only [IsL] using h
  | d :: ds, vs, S, h => by
    simp only [List.map_cons, OwL, Ow] at h
    obtain ⟨v, r, S1, S2, rfl, ⟨rfl, h1⟩, h2, rfl⟩ := h
    obtain ⟨i2, rfl⟩ := OwL.unleaf h2
    simp only [IsL]
    exact ⟨⟨v, r, rfl, h1, i2⟩, trivial⟩
theorem opd_rep : OpD a rRep fun x y Φ => ∃ n, y.dat = .int n ∧ repT x n Φ := fun ρ σ H ts vs x y tx ty Φ Q ok q k => by
  obtain ⟨n, en, ds, e1, h0, h1, hz, q⟩ := q
  have hy := ok.top
  rw [en] at hy
  obtain rfl := hy.int
  obtain ⟨F, Sc, Sm, w⟩ := ok.pop1
  obtain ⟨l, ws, rfl, hl, ⟨lx, nx⟩, Sm1, w1⟩ := w.opens e1
  obtain ⟨S1, S2, o1, o2, e3⟩ := OwL.split w1.tmps lx
  obtain ⟨il, rfl⟩ := OwL.unleaf o1
  refine ⟨l, n, ws, rfl, rfl, hl, by omega, by omega, small (by rw [leafs_length] at lx; rw [← lx]; exact hz), fun p hp => ?_⟩
  have w2 : SW a ρ σ ((List.replicate n.toNat ds).flatten.map .leaf ++ ts) ((List.replicate n.toNat ws).flatten ++ vs) H F Sc S2 := by
    refine w1.tmp (Sn := [] ++ S2) (OwL.join (OwL.leafs (il.rep _)) o2) ?_ fun p hp => ?_
    · rw [e3] at w1
      exact (List.nodup_append.mp w1.nd).2.1
    · rw [e3]; exact hp
  obtain ⟨Sm4, w3⟩ := w2.mkLst (by rw [leafs_length, (il.rep n.toNat).length]) (nvw_leaf _) hp
  exact k _ _ _ q ⟨F, Sc, Sm4, w3⟩

/-- the two-place operators of ints and texts -/
theorem MulOk.or {i j : Int} (h : MulOk i j) : CMul i j ∨ CMulW i j := by
  rcases h with h | h | h
  · exact .inl (.inl h)
  · exact .inl (.inr h)
  · exact .inr h
theorem opd_int {C : Int → Int → Prop} {f : Int → Int → Int} {o : Bop} (h : ∀ dx dy Ψ, binD o dx dy Ψ → ∃ i j, dx = .int i ∧ dy = .int j ∧ C i j ∧ Ψ (.int (f i j))) : OpD a (rI C fun i j => .int (f i j)) fun x y Φ => binD o x.dat y.dat fun d => Φ (.leaf d) := by
  refine opd_flat (g := binD o) fun F dx dy x y Ψ H Q h1 h2 hg k => ?_
  obtain ⟨i, j, rfl, rfl, c, q⟩ := h dx dy Ψ hg
  obtain rfl := h1.int
  obtain rfl := h2.int
  exact ⟨i, j, rfl, rfl, c, k _ _ q rfl (by simp only [Is])⟩
theorem opd_int0 {f : Int → Int → Int} {o : Bop} (h : ∀ dx dy Ψ, binD o dx dy Ψ → ∃ i j, dx = .int i ∧ dy = .int j ∧ Ψ (.int (f i j))) : OpD a (rI0 fun i j => .int (f i j)) fun x y Φ => binD o x.dat y.dat fun d => Φ (.leaf d) := by
  refine opd_flat (g := binD o) fun F dx dy x y Ψ H Q h1 h2 hg k => ?_
  obtain ⟨i, j, rfl, rfl, q⟩ := h dx dy Ψ hg
  obtain rfl := h1.int
  obtain rfl := h2.int
  exact ⟨i, j, rfl, rfl, k _ _ q rfl (by simp only [Is])⟩
/-- what the model's operator does on each -/
noncomputable def rBin (K : PySem.W.Frag) : Bop → R2
  | .add => fun x y H Q => rI0 (fun i j => .int (i + j)) x y H Q ∨ (∃ i j, x = .str i ∧ y = .str j ∧ i.length + j.length ≤ sizeLine ∧ Q (.str (i ++ j)) H) ∨ rCat x y H Q ∨ rCatA K x y H Q
  | .sub => rI0 fun i j => .int (i - j)
  | .mul => fun x y H Q => rI CMul (fun i j => .int (i * j)) x y H Q ∨ rI CMulW (fun i j => .int (i * j)) x y H Q ∨ rRep x y H Q
  | .fdiv => rI CDivW fun i j => .int (i / j)
  | .mod => rI (fun _ j => 0 < j) fun i j => .int (i % j)
  | .pow => rI CPow fun i j => .int (i ^ j.toNat)
  | .shr => rI (fun _ j => 0 ≤ j) fun i j => .int (i / 2 ^ j.toNat)
  | .band => rI0 fun i j => .int (Builtin.bitAnd i j)
theorem op_rBin : ∀ o : Bop, OpR X (binaryOp o.op) (rBin X.K o)
  | .add => OpR.or op_add (OpR.or op_add_str (OpR.or op_cat op_catA))
  | .sub => op_sub
  | .mul => OpR.or op_mul (OpR.or op_mulW op_rep)
  | .fdiv => op_fdivW
  | .mod => op_mod
  | .pow => op_pow
  | .shr => op_shr
  | .band => op_and
theorem opd_bin : ∀ o : Bop, OpD a (rBin a.K o) (binT o)
  | .sub => opd_int0 fun dx dy Ψ h => by
      match dx, dy, h with
      | .int i, .int j, h => exact ⟨i, j, rfl, rfl, h⟩
  | .band => opd_int0 fun dx dy Ψ h => by
      match dx, dy, h with
      | .int i, .int j, h => exact ⟨i, j, rfl, rfl, h⟩
  | .fdiv => opd_int fun dx dy Ψ h => by
      match dx, dy, h with
      | .int i, .int j, h => exact ⟨i, j, rfl, rfl, h.1, h.2⟩
  | .mod => opd_int fun dx dy Ψ h => by
      match dx, dy, h with
      | .int i, .int j, h => exact ⟨i, j, rfl, rfl, h.1, h.2⟩
  | .pow => opd_int fun dx dy Ψ h => by
      match dx, dy, h with
      | .int i, .int j, h => exact ⟨i, j, rfl, rfl, h.1, h.2⟩
  | .shr => opd_int fun dx dy Ψ h => by
      match dx, dy, h with
      | .int i, .int j, h => exact ⟨i, j, rfl, rfl, h.1, h.2⟩
  | .mul => fun ρ σ H ts vs x y tx ty Φ Q ok q k => by
      have two := ok.two
      generalize e1 : tx.dat = dx at two
      generalize e2 : ty.dat = dy at two
      simp only [binT, e1, e2] at q
      match dx, dy, q, two with
      | .lst _, .int n, q, _ => exact .inr (.inr (opd_rep ρ σ H ts vs x y tx ty Φ Q ok ⟨n, e2, q⟩ k))
      | .int i, .int j, q, ⟨h1, h2, ok'⟩ =>
        obtain ⟨m, q⟩ : MulOk i j ∧ Φ (.leaf (.int (i * j))) := q
        obtain rfl := h1.int
        obtain rfl := h2.int
        rcases m.or with m | m
        · exact .inl ⟨i, j, rfl, rfl, m, k _ _ _ q ok'.int⟩
        · exact .inr (.inl ⟨i, j, rfl, rfl, m, k _ _ _ q ok'.int⟩)
  | .add => fun ρ σ H ts vs x y tx ty Φ Q ok q k => by
      have two := ok.two
      generalize e1 : tx.dat = dx at two
      generalize e2 : ty.dat = dy at two
      simp only [binT, e1, e2] at q
      match dx, dy, q, two with
      | .lst _, .lst _, q, _ => exact .inr (.inr (.inl (opd_cat ρ σ H ts vs x y tx ty Φ Q ok q k)))
      | .tup _, .tup _, q, _ => exact .inr (.inr (.inr (opd_catU ρ σ H ts vs x y tx ty Φ Q ok q k)))
      | .int i, .int j, q, ⟨h1, h2, ok'⟩ =>
        obtain rfl := h1.int
        obtain rfl := h2.int
        exact .inl ⟨i, j, rfl, rfl, k _ _ _ q ok'.int⟩
      | .str i, .str j, q, ⟨h1, h2, ok'⟩ =>
        obtain rfl := h1.str
        obtain rfl := h2.str
        exact .inr (.inl ⟨i, j, rfl, rfl, small q.1, k _ _ _ q.2 ok'.str⟩)
theorem de_binT {o : Bop} (xo : XOk a X) (h : DE a X ρ A fun x => DE a X ρ B fun y => binT o x y Φ) : DE a X ρ (.BinOp A o.op B pos) Φ :=
  de_bin (by rw [← xo.K]; exact op_rBin o) (opd_bin o) h
end
end DL
namespace L2
open PySem PySem.Spec PyProof.Rows
noncomputable def rGeT (K : PySem.W.Frag) : R2 := fun x y H Q => ∃ (a b : Addr) (ns ms : List Int), x = .ref a ∧ y = .ref b ∧ SqT K H a (ns.map V.int) ∧ SqT K H b (ms.map V.int) ∧ Q (.bl (!HT.lexLt ns ms)) H
theorem firstGe : ∀ (ns ms ps qs : List Int) (k : Nat), ps.length = k → qs.length = k →
    SeqAt.firstLt (fun j => decide ((ps ++ ns).getD j 0 = (qs ++ ms).getD j 0)) (fun j => decide ((qs ++ ms).getD j 0 ≤ (ps ++ ns).getD j 0)) (decide ((ps ++ ns).length ≥ (qs ++ ms).length)) (List.range' k (min ns.length ms.length)) = !HT.lexLt ns ms
  | [], [], ps, qs, k, h1, h2 => by
    simp only [List.length_nil, Nat.min_self, List.range'_zero, List.append_nil]
    show decide _ = !false
    rw [h1, h2]
    simp
  | [], m :: ms, ps, qs, k, h1, h2 => by
    simp only [List.length_nil, Nat.zero_min, List.range'_zero]
    show decide _ = !true
    simp only [List.length_append, List.length_nil, List.length_cons, h1, h2]
    simp
  | n :: ns, [], ps, qs, k, h1, h2 => by
    simp only [List.length_nil, Nat.min_zero, List.range'_zero]
    show decide _ = !false
    simp only [List.length_append, List.length_nil, List.length_cons, h1, h2]
    simp
  | n :: ns, m :: ms, ps, qs, k, h1, h2 => by
    have g1 : (ps ++ n :: ns).getD k 0 = n := by rw [List.getD_eq_getElem?_getD, List.getElem?_append_right (by omega), h1, Nat.sub_self]; rfl
    have g2 : (qs ++ m :: ms).getD k 0 = m := by rw [List.getD_eq_getElem?_getD, List.getElem?_append_right (by omega), h2, Nat.sub_self]; rfl
    rw [show min (n :: ns).length (m :: ms).length = min ns.length ms.length + 1 by simp only [List.length_cons]; omega, List.range'_succ]
    have ih := firstGe ns ms (ps ++ [n]) (qs ++ [m]) (k + 1) (by simp [h1]) (by simp [h2])
    simp only [List.append_assoc, List.singleton_append] at ih
    unfold HT.lexLt
    by_cases e : n = m
    · rw [SeqAt.firstLt_yes (by rw [g1, g2]; exact decide_eq_true e), if_pos e]
      exact ih
    · rw [SeqAt.firstLt_no (by rw [g1, g2]; exact decide_eq_false e), if_neg e, g1, g2]
      by_cases q : n < m
      · rw [decide_eq_false (by omega), decide_eq_true q]; rfl
      · rw [decide_eq_true (by omega), decide_eq_false q]; rfl
theorem op_geT {X : Cx} (hu : X.A.units < cLine) : OpR X (compareOp .GtE) (rGeT X.K) := by
  intro pins s σ H x y v u Q I rx ry h
  obtain ⟨a, b, ns, ms, rfl, rfl, ha, hb, q⟩ := h
  cases rx
  cases ry
  obtain ⟨its, r1, p1, _⟩ := I.tuple ha
  obtain ⟨its2, r2, p2, _⟩ := I.tuple hb
  have i1 : IntsAre its ns := Vals.ints r1
  have i2 : IntsAre its2 ms := Vals.ints r2
  have e1 : its.toArray.size = ns.length := by rw [List.size_toArray]; exact i1.length
  have e2 : its2.toArray.size = ms.length := by rw [List.size_toArray]; exact i2.length
  have at1 : ∀ j (h1 : j < its.toArray.size), ∃ t, its.toArray[j] = .int (ns.getD j 0) t := fun j h1 => PyProof.Rows.IntsAre.int_at i1 _ _ (by simp at h1; simp [h1])
  have at2 : ∀ j (h1 : j < its2.toArray.size), ∃ t, its2.toArray[j] = .int (ms.getD j 0) t := fun j h1 => PyProof.Rows.IntsAre.int_at i2 _ _ (by simp at h1; simp [h1])
  have R := SeqAt.RcOp.tuples_ge (A := X.A) (s := s) (e := fun j => decide (ns.getD j 0 = ms.getD j 0)) (r := fun j => decide (ms.getD j 0 ≤ ns.getD j 0)) p1 p2 hu (fun j h1 h2 => by
    obtain ⟨t, et⟩ := at1 j h1
    obtain ⟨t', et'⟩ := at2 j h2
    rw [et, et']
    have z : (ns.getD j 0 == ms.getD j 0) = decide (ns.getD j 0 = ms.getD j 0) := by
      by_cases q : ns.getD j 0 = ms.getD j 0
      · rw [decide_eq_true q]; exact beq_iff_eq.mpr q
      · rw [decide_eq_false q]; exact beq_eq_false_iff_ne.mpr q
    rw [← z]
    exact SeqAt.EqAt.int_int _ _ _ _) (fun j h1 h2 _ => by
    obtain ⟨t, et⟩ := at1 j h1
    obtain ⟨t', et'⟩ := at2 j h2
    rw [et, et']
    exact fun _ _ _ _ h => PyProof.Rows.ge_int h)
  rw [e1, e2] at R
  have g := firstGe ns ms [] [] 0 rfl rfl
  simp only [List.nil_append] at g
  rw [List.range_eq_range', g] at R
  have z : wpAny (model X.prog X.w) X.A (compareOp .GtE (.ref a) (.ref b)) (EP X pins σ Q) X.xe s := R X.prog X.w X.xe (EP X pins σ Q) ⟨.bl _, H, I, rfl, q⟩
  exact z
end L2
namespace DL
open PySem PySem.Spec PyProof.Rows L2

mutual
noncomputable def D.py : D → PyData
  | .bl b => .bool b
  | .int i => .int i
  | .str x => .str x
  | .tup ds => .tuple (D.pys ds)
  | .lst ds => .list (D.pys ds)
  | .non => .none
  | .bag => .none
  | .obj _ _ => .none
  | .scr _ => .none
  | .opq _ => .none
  | .emp => .dict []
noncomputable def D.pys : List D → List PyData
  | [] => []
  | d :: r => d.py :: D.pys r
end
mutual
/-- data that == and repr know, of texts with true signs -/
noncomputable def D.lay : D → Bool
  | .non => true
  | .bl _ => true
  | .int _ => true
  | .str x => PyData.strOk x
  | .tup ds => D.lays ds
  | .lst ds => D.lays ds
  | .bag => false
  | .obj _ _ => false
  | .scr _ => false
  | .opq _ => false
  | .emp => false
noncomputable def D.lays : List D → Bool
  | [] => true
  | d :: r => d.lay && D.lays r
end
mutual
noncomputable def D.dep : D → Nat
  | .tup ds => D.deps ds + 1
  | .lst ds => D.deps ds + 1
  | .non => 0
  | .bl _ => 0
  | .int _ => 0
  | .str _ => 0
  | .bag => 0
  | .obj _ _ => 0
  | .scr _ => 0
  | .opq _ => 0
  | .emp => 1
noncomputable def D.deps : List D → Nat
  | [] => 0
  | d :: r => max d.dep (D.deps r)
end
theorem D.lays_eq : ∀ ds : List D, D.lays ds = ds.all D.lay
  | [] => by simp [D.lays]
  | d :: r => by simp [D.lays, D.lays_eq r]
theorem D.deps_le {n : Nat} : ∀ {ds : List D}, (∀ d ∈ ds, d.dep ≤ n) → D.deps ds ≤ n
  | [], _ => by simp [D.deps]
  | d :: r, h => by
    simp only [D.deps]
    have h1 := h d List.mem_cons_self
    have h2 := D.deps_le (ds := r) fun e he => h e (List.mem_cons_of_mem _ he)
    omega
mutual
theorem Is.dp {a : An} {F H : Hp} (e : Sub F H) : ∀ {d : D} {v : V}, d.lay = true → Is a F d v → Dp a.K H v d.py
  | .non, v, _, h => by rw [Is.non h]; simp only [D.py]; exact .non
  | .bl b, v, _, h => by rw [Is.bl h]; simp only [D.py]; exact .bl b
  | .int i, v, _, h => by rw [Is.int h]; simp only [D.py]; exact .int i
  | .str x, v, _, h => by rw [Is.str h]; simp only [D.py]; exact .str x
  | .tup ds, v, l, h => by
    simp only [D.lay] at l
    simp only [Is] at h
    obtain ⟨p, vs, rfl, q, il⟩ := h
    simp only [D.py]
    exact .tup (sub_t e q) (IsL.dp e l il)
  | .lst ds, v, l, h => by
    simp only [D.lay] at l
    simp only [Is] at h
    obtain ⟨p, vs, rfl, q, il⟩ := h
    simp only [D.py]
    exact .lst (.inl (.inl (e _ _ q))) (IsL.dp e l il)
  | .bag, _, l, _ => by simp [D.lay] at l
  | .obj _ _, _, l, _ => by simp [D.lay] at l
  | .scr _, _, l, _ => by simp [D.lay] at l
  | .opq _, _, l, _ => by simp [D.lay] at l
  | .emp, _, l, _ => by simp [D.lay] at l
theorem IsL.dp {a : An} {F H : Hp} (e : Sub F H) : ∀ {ds : List D} {vs : List V}, D.lays ds = true → IsL a F ds vs → DpAll a.K H vs (D.pys ds)
  | [], vs, _, h => by
    simp only [IsL] at h
    subst h
    simp only [D.pys]
    exact .nil
  | d :: ds, vs, l, h => by
    simp only [D.lays, Bool.and_eq_true] at l
    simp only [IsL] at h
    obtain ⟨v, r, rfl, h1, h2⟩ := h
    simp only [D.pys]
    exact .cons (Is.dp e l.1 h1) (IsL.dp e l.2 h2)
end
mutual
theorem D.canLay : ∀ d : D, d.lay = true → d.py.canLay0 = true
  | .non, _ => by simp [D.py, PyData.canLay0]
  | .bl b, _ => by simp [D.py, PyData.canLay0]
  | .int i, _ => by simp [D.py, PyData.canLay0]
  | .str x, h => by simpa [D.py, PyData.canLay0, D.lay] using h
  | .tup ds, h => by
    simp only [D.lay] at h
    simp only [D.py, PyData.canLay0]
    exact D.canLays ds h
  | .lst ds, h => by
    simp only [D.lay] at h
    simp only [D.py, PyData.canLay0]
    exact D.canLays ds h
  | .bag, l => by simp [D.lay] at l
  | .obj _ _, l => by simp [D.lay] at l
  | .scr _, l => by simp [D.lay] at l
  | .opq _, l => by simp [D.lay] at l
  | .emp, l => by simp [D.lay] at l
theorem D.canLays : ∀ ds : List D, D.lays ds = true → PyData.canLayAll0 (D.pys ds) = true
  | [], _ => by simp [D.pys, PyData.canLayAll0]
  | d :: r, h => by
    simp only [D.lays, Bool.and_eq_true] at h
    simp only [D.pys, PyData.canLayAll0, Bool.and_eq_true]
    exact ⟨D.canLay d h.1, D.canLays r h.2⟩
end
mutual
theorem D.depth_le : ∀ d : D, d.py.depth ≤ d.dep
  | .non | .bl _ | .int _ | .str _ | .bag | .obj _ _ | .scr _ | .opq _ => by simp [D.py, PyData.depth]
  | .emp => by simp [D.py, PyData.depth, PyData.depthKv, D.dep]
  | .tup ds => by
    simp only [D.py, PyData.depth, D.dep]
    have := D.depths_le ds
    omega
  | .lst ds => by
    simp only [D.py, PyData.depth, D.dep]
    have := D.depths_le ds
    omega
theorem D.depths_le : ∀ ds : List D, PyData.depthAll (D.pys ds) ≤ D.deps ds
  | [] => by simp [D.pys, PyData.depthAll]
  | d :: r => by
    simp only [D.pys, PyData.depthAll, D.deps]
    have h1 := D.depth_le d
    have h2 := D.depths_le r
    omega
end
/-- what may be compared and shown -/
noncomputable def D.Fit (d : D) : Prop := d.lay = true ∧ d.dep ≤ 60
theorem D.Fit.shaped {d : D} (h : d.Fit) : SeqAt.shaped d.py = true := by
  unfold SeqAt.shaped
  rw [Bool.and_eq_true]
  refine ⟨D.canLay d h.1, decide_eq_true ?_⟩
  have := D.depth_le d
  have := h.2
  omega
noncomputable def eqD (x y : D) : Bool := PyData.eqv x.py y.py
theorem eqD_refl {d : D} (h : d.lay = true) : eqD d d = true := SeqAt.eqv_refl d.py (D.canLay d h)
theorem eqD_int (i j : Int) : eqD (.int i) (.int j) = decide (i = j) := by
  simp only [eqD, D.py, PyData.eqv]
  exact Bool.beq_eq_decide_eq i j
inductive Cop where
  | eq | ne | lt | le | gt | ge | isN | notN | inn | nin
  deriving DecidableEq
noncomputable def Cop.op : Cop → CmpOp
  | .eq => .Eq | .ne => .NotEq | .lt => .Lt | .le => .LtE | .gt => .Gt | .ge => .GtE | .isN => .Is | .notN => .IsNot | .inn => .In | .nin => .NotIn
noncomputable def D.isNon : D → Bool
  | .non => true
  | _ => false
noncomputable def D.v : D → V
  | .bl b => .bl b
  | .int i => .int i
  | .str x => .str x
  | _ => .non
/-- x in ys, of flat things -/
noncomputable def memD (x : D) (ys : List D) : Bool := inV x.v (ys.map D.v)
noncomputable def cmpD : Cop → D → D → (Bool → Prop) → Prop
  | .isN, x, .non, Ψ => Ψ x.isNon
  | .notN, x, .non, Ψ => Ψ (!x.isNon)
  | .lt, .int i, .int j, Ψ => Ψ (decide (i < j))
  | .lt, .tup xs, .tup ys, Ψ => ∃ ns ms : List Int, xs = ns.map D.int ∧ ys = ms.map D.int ∧ Ψ (HT.lexLt ns ms)
  | .le, .int i, .int j, Ψ => Ψ (decide (i ≤ j))
  | .gt, .int i, .int j, Ψ => Ψ (decide (j < i))
  | .ge, .int i, .int j, Ψ => Ψ (decide (j ≤ i))
  | .ge, .tup xs, .tup ys, Ψ => ∃ ns ms : List Int, xs = ns.map D.int ∧ ys = ms.map D.int ∧ Ψ (!HT.lexLt ns ms)
  | .eq, x, y, Ψ => (∃ s t, x = .str s ∧ y = .str t ∧ Ψ (decide (s = t))) ∨ x.Fit ∧ y.Fit ∧ Ψ (eqD x y)
  | .ne, x, y, Ψ => (∃ s t, x = .str s ∧ y = .str t ∧ Ψ (!decide (s = t))) ∨ x.Fit ∧ y.Fit ∧ Ψ (!eqD x y)
  | .inn, .tup xs, .lst ys, Ψ => (D.tup xs).Fit ∧ (D.lst ys).Fit ∧ Ψ (ys.any fun z => eqD z (.tup xs))
  | .inn, x, .lst ys, Ψ => x.flat = true ∧ ys.all D.flat = true ∧ Ψ (memD x ys)
  | .inn, x, .tup ys, Ψ => x.flat = true ∧ ys.all D.flat = true ∧ Ψ (memD x ys)
  | .nin, x, .lst ys, Ψ => x.flat = true ∧ ys.all D.flat = true ∧ Ψ (!memD x ys)
  | .nin, x, .tup ys, Ψ => x.flat = true ∧ ys.all D.flat = true ∧ Ψ (!memD x ys)
  | .inn, .str s, .str t, Ψ => ∃ c, s = ⟨#[c]⟩ ∧ Ψ (decide (c ∈ t.cps.toList))
  | .nin, .str s, .str t, Ψ => ∃ c, s = ⟨#[c]⟩ ∧ Ψ (!decide (c ∈ t.cps.toList))
  | _, _, _, _ => False
section
variable {a : An0} {X : Cx} {ρ : Env} {σ : L2.St} {ts : List T} {vs : List V} {H F : Hp} {Sc Sm : List Addr} {Φ : T → Prop} {pos : Pos} {e A B C : Expr}
theorem Is.v {a : An} {F : Hp} {d : D} {v : V} (f : d.flat = true) (h : Is a F d v) : v = d.v := by
  cases d <;> simp [D.flat] at f <;> simpa only [Is, D.v] using h
theorem D.flatV {d : D} (f : d.flat = true) : L2.flatV d.v = true := by cases d <;> simp [D.flat] at f <;> rfl
theorem IsL.vals {a : An} {F : Hp} : ∀ {ds : List D} {vs : List V}, ds.all D.flat = true → IsL a F ds vs → vs = ds.map D.v
  | [], _, _, h => by simpa only [IsL, List.map_nil] using h
  | d :: ds, vs, f, h => by
    simp only [List.all_cons, Bool.and_eq_true] at f
    simp only [IsL] at h
    obtain ⟨v, r, rfl, h1, h2⟩ := h
    rw [h1.v f.1, IsL.vals f.2 h2, List.map_cons]
theorem flatVs {ds : List D} (f : ds.all D.flat = true) : (ds.map D.v).all L2.flatV = true := by
  rw [List.all_eq_true] at f ⊢
  intro v hv
  obtain ⟨d, hd, rfl⟩ := List.mem_map.mp hv
  exact D.flatV (f d hd)
theorem Is.isNon {a : An} {F : Hp} {d : D} {v : V} (h : Is a F d v) : decide (v = V.non) = d.isNon := by
  cases d <;> simp only [Is] at h <;> (first | subst h | obtain ⟨p, hp⟩ := h) <;> simp [D.isNon]
  · obtain ⟨vs, rfl, _⟩ := hp; simp
  · obtain ⟨vs, rfl, _⟩ := hp; simp
  · obtain ⟨_, rfl⟩ := hp; simp
  · obtain ⟨_, _, _, _, rfl, _⟩ := hp; simp
  · obtain ⟨rfl, _⟩ := hp; simp
  · obtain ⟨rfl, _⟩ := hp; simp
/-- what the model's comparison does -/
noncomputable def rCmp (K : PySem.W.Frag) : Cop → R2
  | .eq => fun x y H Q => rEq x y H Q ∨ rEqD K x y H Q
  | .ne => fun x y H Q => rNe x y H Q ∨ rNeD K x y H Q
  | .lt => fun x y H Q => rI0 (fun i j => .bl (decide (i < j))) x y H Q ∨ rLtT K x y H Q
  | .le => rI0 fun i j => .bl (decide (i ≤ j))
  | .gt => rI0 fun i j => .bl (decide (j < i))
  | .ge => fun x y H Q => rI0 (fun i j => .bl (decide (j ≤ i))) x y H Q ∨ rGeT K x y H Q
  | .isN => fun x y H Q => y = .non ∧ Q (.bl (decide (x = .non))) H
  | .notN => fun x y H Q => y = .non ∧ Q (.bl (!decide (x = .non))) H
  | .inn => fun x y H Q => (rIn K false x y H Q ∨ ∃ c z, x = V.str { cps := #[c] } ∧ y = V.str z ∧ Q (V.bl (decide (c ∈ z.cps.toList))) H) ∨ rInD K x y H Q
  | .nin => fun x y H Q => rIn K true x y H Q ∨ ∃ c z, x = V.str { cps := #[c] } ∧ y = V.str z ∧ Q (V.bl !decide (c ∈ z.cps.toList)) H
theorem op_rCmp (xo : XOk a X) : ∀ o : Cop, OpR X (compareOp o.op) (rCmp X.K o)
  | .eq => OpR.or op_eq (op_eqD (by have := xo.un; omega))
  | .ne => OpR.or op_ne (op_neD (by have := xo.un; omega))
  | .lt => OpR.or op_lt (op_ltT (by have := xo.un; omega))
  | .le => op_le
  | .gt => op_gt
  | .ge => OpR.or op_ge (op_geT (by have := xo.un; omega))
  | .isN => op_isN
  | .notN => op_notN
  | .inn => OpR.or (OpR.or op_in_seq op_in_sign) (op_inD (by have := xo.un; omega))
  | .nin => OpR.or op_notIn_seq op_notIn_sign
noncomputable def OpB (a : An0) (r : R2) (g : D → D → (Bool → Prop) → Prop) : Prop := ∀ F H x y dx dy Ψ (Q : VK), Sub F H → Is a.toAn F dx x → Is a.toAn F dy y → g dx dy Ψ → (∀ b, Ψ b → Q (.bl b) H) → r x y H Q
theorem opb_int {f : Int → Int → Bool} {g : D → D → (Bool → Prop) → Prop} (h : ∀ dx dy Ψ, g dx dy Ψ → ∃ i j, dx = .int i ∧ dy = .int j ∧ Ψ (f i j)) : OpB a (rI0 fun i j => .bl (f i j)) g := fun F H x y dx dy Ψ Q sub h1 h2 hg k => by
  obtain ⟨i, j, rfl, rfl, q⟩ := h dx dy Ψ hg
  obtain rfl := h1.int
  obtain rfl := h2.int
  exact ⟨i, j, rfl, rfl, k _ q⟩
theorem opb_in {neg : Bool} {F H : Hp} {x y : V} {dx : D} {ys : List D} {Ψ : Bool → Prop} {Q : VK} (h1 : Is a.toAn F dx x) (h2 : ∃ p vs, y = .ref p ∧ (SqL a.K H p vs ∨ SqT a.K H p vs) ∧ IsL a.toAn F ys vs)
    (hg : dx.flat = true ∧ ys.all D.flat = true ∧ Ψ (if neg then !memD dx ys else memD dx ys)) (k : ∀ b, Ψ b → Q (.bl b) H) : rIn a.K neg x y H Q := by
  obtain ⟨f1, f2, q⟩ := hg
  obtain ⟨p, vs, rfl, s, il⟩ := h2
  obtain rfl := h1.v f1
  obtain rfl := il.vals f2
  exact ⟨p, _, rfl, s, D.flatV f1, flatVs f2, k _ q⟩
theorem sqT_of {F H : Hp} {ds : List D} {x : V} {ns : List Int} (sub : Sub F H) (h : Is a.toAn F (.tup ds) x) (e : ds = ns.map D.int) : ∃ p, x = .ref p ∧ SqT a.K H p (ns.map V.int) := by
  simp only [Is] at h
  obtain ⟨p, vs, e1, q, il⟩ := h
  subst e
  have f : (ns.map D.int).all D.flat = true := by rw [List.all_map]; exact List.all_eq_true.mpr fun _ _ => rfl
  have ev := il.vals f
  rw [List.map_map] at ev
  exact ⟨p, e1, by have := sub_t sub q; rw [ev] at this; exact this⟩
theorem pys_any (x : D) : ∀ ys : List D, ((D.pys ys).any fun z => PyData.eqv z x.py) = ys.any fun z => eqD z x
  | [] => rfl
  | y :: ys => by
    simp only [D.pys, List.any_cons]
    rw [pys_any x ys]
    rfl
theorem opb_cmp : ∀ o : Cop, OpB a (rCmp a.K o) (cmpD o)
  | .lt => fun F H x y dx dy Ψ Q sub h1 h2 hg k => by
      match dx, dy, hg with
      | .int i, .int j, hg =>
        obtain rfl := h1.int
        obtain rfl := h2.int
        exact .inl ⟨i, j, rfl, rfl, k _ hg⟩
      | .tup xs, .tup ys, ⟨ns, ms, e1, e2, q⟩ =>
        obtain ⟨p, rfl, s1⟩ := sqT_of sub h1 e1
        obtain ⟨p2, rfl, s2⟩ := sqT_of sub h2 e2
        exact .inr ⟨p, p2, ns, ms, rfl, rfl, s1, s2, k _ q⟩
  | .le => opb_int fun dx dy Ψ h => by
      match dx, dy, h with
      | .int i, .int j, h => exact ⟨i, j, rfl, rfl, h⟩
  | .gt => opb_int fun dx dy Ψ h => by
      match dx, dy, h with
      | .int i, .int j, h => exact ⟨i, j, rfl, rfl, h⟩
  | .ge => fun F H x y dx dy Ψ Q sub h1 h2 hg k => by
      match dx, dy, hg with
      | .int i, .int j, hg =>
        obtain rfl := h1.int
        obtain rfl := h2.int
        exact .inl ⟨i, j, rfl, rfl, k _ hg⟩
      | .tup xs, .tup ys, ⟨ns, ms, e1, e2, q⟩ =>
        obtain ⟨p, rfl, s1⟩ := sqT_of sub h1 e1
        obtain ⟨p2, rfl, s2⟩ := sqT_of sub h2 e2
        exact .inr ⟨p, p2, ns, ms, rfl, rfl, s1, s2, k _ q⟩
  | .isN => fun F H x y dx dy Ψ Q sub h1 h2 hg k => by
      match dy, hg with
      | .non, hg => exact ⟨h2.non, by rw [h1.isNon]; exact k _ hg⟩
  | .notN => fun F H x y dx dy Ψ Q sub h1 h2 hg k => by
      match dy, hg with
      | .non, hg => exact ⟨h2.non, by rw [h1.isNon]; exact k _ hg⟩
  | .eq => fun F H x y dx dy Ψ Q sub h1 h2 hg k => by
      rcases hg with ⟨s, t, rfl, rfl, q⟩ | ⟨f1, f2, q⟩
      · obtain rfl := h1.str
        obtain rfl := h2.str
        refine .inl ⟨rfl, ?_⟩
        rw [show decide (V.str s = V.str t) = decide (s = t) from by simp]
        exact k _ q
      · exact .inr ⟨_, _, h1.dp sub f1.1, h2.dp sub f2.1, f1.shaped, f2.shaped, k _ q⟩
  | .ne => fun F H x y dx dy Ψ Q sub h1 h2 hg k => by
      rcases hg with ⟨s, t, rfl, rfl, q⟩ | ⟨f1, f2, q⟩
      · obtain rfl := h1.str
        obtain rfl := h2.str
        refine .inl ⟨rfl, ?_⟩
        rw [show decide (V.str s = V.str t) = decide (s = t) from by simp]
        exact k _ q
      · exact .inr ⟨_, _, h1.dp sub f1.1, h2.dp sub f2.1, f1.shaped, f2.shaped, k _ q⟩
  | .inn => fun F H x y dx dy Ψ Q sub h1 h2 hg k => by
      cases dy with
      | lst ys =>
        have gen : (dx.flat = true ∧ ys.all D.flat = true ∧ Ψ (memD dx ys)) → (rIn a.K false x y H Q ∨ ∃ c z, x = V.str { cps := #[c] } ∧ y = V.str z ∧ Q (V.bl (decide (c ∈ z.cps.toList))) H) ∨ rInD a.K x y H Q := fun hg => by
          simp only [Is] at h2
          obtain ⟨p, vs, e, q, il⟩ := h2
          exact .inl (.inl (opb_in h1 ⟨p, vs, e, .inl (.inl (.inl (sub _ _ q))), il⟩ (by simpa using hg) k))
        cases dx with
        | tup xs =>
          obtain ⟨f1, f2, q⟩ := hg
          have e := h2.dp sub f2.1
          exact .inr ⟨_, D.pys ys, h1.dp sub f1.1, by simpa only [D.py] using e, f1.shaped, by simpa only [D.py] using f2.shaped, by rw [pys_any]; exact k _ q⟩
        | non => exact gen hg
        | bl _ => exact gen hg
        | int _ => exact gen hg
        | str _ => exact gen hg
        | lst _ => exact gen hg
        | bag => exact gen hg
        | obj _ _ => exact gen hg
        | scr _ => exact gen hg
        | opq _ => exact gen hg
        | emp => exact gen hg
      | tup ys =>
        simp only [Is] at h2
        obtain ⟨p, vs, e, q, il⟩ := h2
        exact .inl (.inl (opb_in h1 ⟨p, vs, e, .inr (sub_t sub q), il⟩ (by simpa [cmpD] using hg) k))
      | str t =>
        cases dx with
        | str s =>
          obtain ⟨c, rfl, q⟩ := hg
          exact .inl (.inr ⟨c, t, h1.str, h2.str, k _ q⟩)
        | _ => exact (show False from hg).elim
      | _ => cases dx <;> exact (show False from hg).elim
  | .nin => fun F H x y dx dy Ψ Q sub h1 h2 hg k => by
      match dy, hg with
      | .lst ys, hg =>
        simp only [Is] at h2
        obtain ⟨p, vs, e, q, il⟩ := h2
        exact .inl (opb_in h1 ⟨p, vs, e, .inl (.inl (.inl (sub _ _ q))), il⟩ (by simpa [cmpD] using hg) k)
      | .tup ys, hg =>
        simp only [Is] at h2
        obtain ⟨p, vs, e, q, il⟩ := h2
        exact .inl (opb_in h1 ⟨p, vs, e, .inr (sub_t sub q), il⟩ (by simpa [cmpD] using hg) k)
      | .str t, hg =>
        match dx, hg with
        | .str s, hg =>
          obtain ⟨c, rfl, q⟩ := hg
          exact .inr ⟨c, t, h1.str, h2.str, k _ q⟩
/-- not a display of a set behind in -/
noncomputable def notSet : Expr → Bool
  | .Set _ _ _ => false
  | _ => true
theorem behind_of {b : Expr} {op : CmpOp} (h : notSet b = true) : behindInMarks op b = false := by
  cases b <;> first | rfl | simp [notSet] at h
theorem de_cmp {o : Cop} (xo : XOk a X) (hn : notSet B = true) (h : DE a X ρ A fun x => DE a X ρ B fun y => cmpD o x.dat y.dat fun b => Φ (.leaf (.bl b))) : DE a X ρ (.Compare A [o.op] [B] pos) Φ := fun σ H ts vs Q ok k => by
  refine ⟨_, pe_cmpR (op_rCmp xo o) pe_W pe_W (behind_of hn), ?_⟩
  show WE X A σ H fun x H1 => WE X B σ H1 fun y H2 => rCmp X.K o x y H2 Q
  refine h σ H ts vs _ ok fun x tx H1 h1 ok1 => h1 σ H1 _ _ _ ok1 fun y ty H2 h2 ok2 => ?_
  obtain ⟨i1, i2, ok3⟩ := ok2.two
  rw [xo.K]
  exact opb_cmp o _ H2 x y _ _ _ Q (hb_sub _ _) i1 i2 h2 fun b hb => k _ _ _ hb ok3.bl
theorem dt_cmp {o : Cop} {Ψ : Bool → Prop} (xo : XOk a X) (hn : notSet B = true) (h : DE a X ρ A fun x => DE a X ρ B fun y => cmpD o x.dat y.dat Ψ) : DT a X ρ (.Compare A [o.op] [B] pos) Ψ := fun σ H ts vs Q ok k => by
  refine ⟨_, pt_cmpR (op_rCmp xo o) pe_W pe_W (behind_of hn), ?_⟩
  show WE X A σ H fun x H1 => WE X B σ H1 fun y H2 => rCmp X.K o x y H2 fun z H3 => ∃ k, z = .bl k ∧ Q k H3
  refine h σ H ts vs _ ok fun x tx H1 h1 ok1 => h1 σ H1 _ _ _ ok1 fun y ty H2 h2 ok2 => ?_
  obtain ⟨i1, i2, ok3⟩ := ok2.two
  rw [xo.K]
  exact opb_cmp o _ H2 x y _ _ _ _ (hb_sub _ _) i1 i2 h2 fun b hb => ⟨b, rfl, k _ _ hb ok3⟩
theorem last_of {op op' : CmpOp} {b c : Expr} (h : notSet c = true) : lastMarks [op, op'] [b, c] = false := behind_of h
theorem de_chn {o o' : Cop} (xo : XOk a X) (hn : notSet C = true) (h : DE a X ρ A fun x => DE a X ρ B fun y => cmpD o x.dat y.dat fun b => if b = true then DE a X ρ C fun z => cmpD o' y.dat z.dat fun b => Φ (.leaf (.bl b)) else Φ (.leaf (.bl false))) :
    DE a X ρ (.Compare A [o.op, o'.op] [B, C] pos) Φ := fun σ H ts vs Q ok k => by
  refine ⟨_, pe_chain (op_rCmp xo o) (op_rCmp xo o') pe_W pe_W pe_W (last_of hn), ?_⟩
  show WE X A σ H fun x H1 => WE X B σ H1 fun y H2 => rCmp X.K o x y H2 fun z H3 => ∃ k, z = .bl k ∧ (if k = true then WE X C σ H3 fun w' H4 => rCmp X.K o' y w' H4 Q else Q (.bl false) H3)
  refine h σ H ts vs _ ok fun x tx H1 h1 ok1 => h1 σ H1 _ _ _ ok1 fun y ty H2 h2 ok2 => ?_
  obtain ⟨i1, i2, ok3⟩ := ok2.two
  rw [xo.K]
  refine opb_cmp o _ H2 x y _ _ _ _ (hb_sub _ _) i1 i2 h2 fun b hb => ⟨b, rfl, ?_⟩
  cases b with
  | false =>
    rw [if_neg (by decide)] at hb ⊢
    exact k _ _ _ hb ok3.bl
  | true =>
    rw [if_pos rfl] at hb ⊢
    refine hb σ H2 _ _ _ ok2.drop2 fun z tz H3 h3 ok4 => ?_
    obtain ⟨i3, i4, ok5⟩ := ok4.two
    exact opb_cmp o' _ H3 y z _ _ _ Q (hb_sub _ _) i3 i4 h3 fun b hb => k _ _ _ hb ok5.bl
theorem dt_chn {o o' : Cop} {Ψ : Bool → Prop} (xo : XOk a X) (hn : notSet C = true) (h : DE a X ρ A fun x => DE a X ρ B fun y => cmpD o x.dat y.dat fun b => if b = true then DE a X ρ C fun z => cmpD o' y.dat z.dat Ψ else Ψ false) :
    DT a X ρ (.Compare A [o.op, o'.op] [B, C] pos) Ψ := fun σ H ts vs Q ok k => by
  refine ⟨_, pt_chain (op_rCmp xo o) (op_rCmp xo o') pe_W pe_W pe_W (last_of hn), ?_⟩
  show WE X A σ H fun x H1 => WE X B σ H1 fun y H2 => rCmp X.K o x y H2 fun z H3 => ∃ k, z = .bl k ∧ (if k = true then WE X C σ H3 fun w' H4 => rCmp X.K o' y w' H4 (fun z H' => ∃ k, z = .bl k ∧ Q k H') else (∃ k, V.bl false = .bl k ∧ Q k H3))
  refine h σ H ts vs _ ok fun x tx H1 h1 ok1 => h1 σ H1 _ _ _ ok1 fun y ty H2 h2 ok2 => ?_
  obtain ⟨i1, i2, ok3⟩ := ok2.two
  rw [xo.K]
  refine opb_cmp o _ H2 x y _ _ _ _ (hb_sub _ _) i1 i2 h2 fun b hb => ⟨b, rfl, ?_⟩
  cases b with
  | false =>
    rw [if_neg (by decide)] at hb ⊢
    exact ⟨false, rfl, k _ _ hb ok3⟩
  | true =>
    rw [if_pos rfl] at hb ⊢
    refine hb σ H2 _ _ _ ok2.drop2 fun z tz H3 h3 ok4 => ?_
    obtain ⟨i3, i4, ok5⟩ := ok4.two
    exact opb_cmp o' _ H3 y z _ _ _ _ (hb_sub _ _) i3 i4 h3 fun b hb => ⟨b, rfl, k _ _ hb ok5⟩
end
end DL
namespace DL
open PySem PySem.Spec PyProof.Rows L2
section
variable {a : An0} {X : Cx} {ρ : Env} {σ : L2.St} {ts : List T} {vs : List V} {H F : Hp} {Sc Sm : List Addr} {Φ : T → Prop} {pos : Pos} {e A B C : Expr}

noncomputable def D.truth : D → Option Bool
  | .non => some false
  | .bl b => some b
  | .int i => some (i != 0)
  | .lst ds => some !ds.isEmpty
  | .tup ds => some !ds.isEmpty
  | .str x => if x.length ≤ 100000 then some ((x.length : Int) != 0) else none
  | _ => none
theorem Is.tru {F H : Hp} (sub : Sub F H) {d : D} {v : V} {b : Bool} (h : Is a.toAn F d v) (e : d.truth = some b) : TruV a.K v H b := by
  cases d with
  | non => rw [h.non]; simp [D.truth] at e; exact e.symm ▸ rfl
  | bl c => rw [h.bl]; simp [D.truth] at e; exact e ▸ rfl
  | int i => rw [h.int]; simp only [D.truth, Option.some.injEq] at e; exact e ▸ rfl
  | str x =>
    rw [h.str]
    simp only [D.truth] at e
    split at e
    · simp only [Option.some.injEq] at e
      exact ⟨small (by assumption), e ▸ rfl⟩
    · cases e
  | lst ds =>
    simp only [D.truth, Option.some.injEq] at e
    simp only [Is] at h
    obtain ⟨p, vs, rfl, q, il⟩ := h
    refine .inl ⟨vs, .inl (.inl (sub _ _ q)), ?_⟩
    rw [← e]
    have := il.length
    cases vs <;> cases ds <;> simp at this <;> rfl
  | tup ds =>
    simp only [D.truth, Option.some.injEq] at e
    simp only [Is] at h
    obtain ⟨p, vs, rfl, q, il⟩ := h
    refine .inr (.inl ⟨vs, sub_t sub q, ?_⟩)
    rw [← e]
    have := il.length
    cases vs <;> cases ds <;> simp at this <;> rfl
  | bag => simp [D.truth] at e
  | obj _ _ => simp [D.truth] at e
  | scr _ => simp [D.truth] at e
  | opq _ => simp [D.truth] at e
  | emp => simp [D.truth] at e
/-- its test is its value's truth -/
noncomputable def plainTest : Expr → Bool
  | .UnaryOp .Not _ _ => false
  | .BoolOp _ _ _ => false
  | .IfExp _ _ _ _ => false
  | .Compare _ _ _ _ => false
  | _ => true
theorem test_of {env : PySem.Env} (h : plainTest e = true) (whole : Sem Value) : isTrue e env whole = (do let v ← whole; standAt e.pos; holding [v] (truthy v)) := by
  cases e with
  | UnaryOp op x p => cases op <;> first | rfl | simp [plainTest] at h
  | BoolOp => simp [plainTest] at h
  | IfExp => simp [plainTest] at h
  | Compare => simp [plainTest] at h
  | _ => rfl
noncomputable def tru (x : T) (Ψ : Bool → Prop) : Prop := ∃ b, x.dat.truth = some b ∧ Ψ b
theorem dt_val {Ψ : Bool → Prop} (xo : XOk a X) (hp : plainTest A = true) (h : DE a X ρ A fun x => tru x Ψ) : DT a X ρ A Ψ := fun σ H ts vs Q ok k => by
  refine ⟨_, pt_truth pe_W (test_of hp), ?_⟩
  show WE X A σ H fun x H' => ∃ k, TruV X.K x H' k ∧ Q k H'
  refine h σ H ts vs _ ok fun x tx H1 ⟨b, e, hb⟩ ok1 => ⟨b, ?_, k b H1 hb ok1.pop1⟩
  rw [xo.K]
  exact (ok1.top).tru (hb_sub _ _) e
theorem dt_not {Ψ : Bool → Prop} (h : DT a X ρ A fun b => Ψ !b) : DT a X ρ (.UnaryOp .Not A pos) Ψ := fun σ H ts vs Q ok k =>
  ⟨_, pt_not pt_W, h σ H ts vs _ ok fun b H' hb ok' => k _ _ hb ok'⟩
/-- the rest of a chain, as one test -/
noncomputable def DW (a : An0) (X : Cx) (ρ : Env) (op : PySem.BoolOp) (es : List Expr) (Ψ : Bool → Prop) : Prop :=
  ∀ pos σ H ts vs Q, SOk a ρ σ ts vs H → (∀ b H', Ψ b → SOk a ρ σ ts vs H' → Q b H') → ∃ t, PW X (.BoolOp op es pos) t ∧ t σ H Q
noncomputable def WW (X : Cx) (e : Expr) : TT := fun σ H Q => ∃ t, PW X e t ∧ t σ H Q
theorem pw_W {e : Expr} : PW X e (WW X e) := ⟨fun wh p s σ H Q I ⟨_, h, q⟩ => h.run wh p s σ H Q I q⟩
theorem dw_and1 {Ψ : Bool → Prop} (h : DT a X ρ A Ψ) : DW a X ρ .And [A] Ψ := fun pos σ H ts vs Q ok k => ⟨_, pw_and1 pt_W, h σ H ts vs Q ok k⟩
theorem dw_or1 {Ψ : Bool → Prop} (h : DT a X ρ A Ψ) : DW a X ρ .Or [A] Ψ := fun pos σ H ts vs Q ok k => ⟨_, pw_or1 pt_W, h σ H ts vs Q ok k⟩
theorem dw_and {es : List Expr} {Ψ : Bool → Prop} (h : DT a X ρ A fun b => if b = true then DW a X ρ .And (B :: es) Ψ else Ψ false) : DW a X ρ .And (A :: B :: es) Ψ := fun pos σ H ts vs Q ok k => by
  refine ⟨_, pw_and pt_W (pw_W (e := .BoolOp .And (B :: es) pos)), ?_⟩
  show WT X A σ H fun c H1 => if c = true then WW X _ σ H1 Q else Q false H1
  refine h σ H ts vs _ ok fun b H1 hb ok1 => ?_
  cases b with
  | true =>
    rw [if_pos rfl] at hb ⊢
    exact hb pos σ H1 ts vs Q ok1 k
  | false =>
    rw [if_neg (by decide)] at hb ⊢
    exact k _ _ hb ok1
theorem dw_or {es : List Expr} {Ψ : Bool → Prop} (h : DT a X ρ A fun b => if b = true then Ψ true else DW a X ρ .Or (B :: es) Ψ) : DW a X ρ .Or (A :: B :: es) Ψ := fun pos σ H ts vs Q ok k => by
  refine ⟨_, pw_or pt_W (pw_W (e := .BoolOp .Or (B :: es) pos)), ?_⟩
  show WT X A σ H fun c H1 => if c = true then Q true H1 else WW X _ σ H1 Q
  refine h σ H ts vs _ ok fun b H1 hb ok1 => ?_
  cases b with
  | true =>
    rw [if_pos rfl] at hb ⊢
    exact k _ _ hb ok1
  | false =>
    rw [if_neg (by decide)] at hb ⊢
    exact hb pos σ H1 ts vs Q ok1 k
theorem dt_bool {op : PySem.BoolOp} {es : List Expr} {Ψ : Bool → Prop} (h : DW a X ρ op es Ψ) : DT a X ρ (.BoolOp op es pos) Ψ := fun σ H ts vs Q ok k =>
  let ⟨_, p, q⟩ := h pos σ H ts vs Q ok k
  ⟨_, p.pt, q⟩
/-- .. as values -/
theorem de_one {op : PySem.BoolOp} (h : DE a X ρ A Φ) : DE a X ρ (.BoolOp op [A] pos) Φ := fun σ H ts vs Q ok k => ⟨_, pe_one pe_W, h σ H ts vs Q ok k⟩
theorem de_and {es : List Expr} (h : DE a X ρ A fun x => ∃ b, x.dat = .bl b ∧ if b = true then DE a X ρ (.BoolOp .And (B :: es) pos) Φ else Φ (.leaf (.bl false))) : DE a X ρ (.BoolOp .And (A :: B :: es) pos) Φ := fun σ H ts vs Q ok k => by
  refine ⟨_, pe_and pe_W pe_W, ?_⟩
  show WE X A σ H fun x H1 => ∃ c, x = .bl c ∧ if c = true then WE X _ σ H1 Q else Q (.bl false) H1
  refine h σ H ts vs _ ok fun x tx H1 ⟨b, e, hb⟩ ok1 => ?_
  have i1 := ok1.top
  rw [e] at i1
  refine ⟨b, i1.bl, ?_⟩
  cases b with
  | true =>
    rw [if_pos rfl] at hb ⊢
    exact hb σ H1 ts vs Q ok1.pop1 k
  | false =>
    rw [if_neg (by decide)] at hb ⊢
    exact k _ _ _ hb ok1.pop1.bl
theorem de_or {es : List Expr} (h : DE a X ρ A fun x => ∃ b, x.dat = .bl b ∧ if b = true then Φ (.leaf (.bl true)) else DE a X ρ (.BoolOp .Or (B :: es) pos) Φ) : DE a X ρ (.BoolOp .Or (A :: B :: es) pos) Φ := fun σ H ts vs Q ok k => by
  refine ⟨_, pe_or pe_W pe_W, ?_⟩
  show WE X A σ H fun x H1 => ∃ c, x = .bl c ∧ if c = true then Q (.bl true) H1 else WE X _ σ H1 Q
  refine h σ H ts vs _ ok fun x tx H1 ⟨b, e, hb⟩ ok1 => ?_
  have i1 := ok1.top
  rw [e] at i1
  refine ⟨b, i1.bl, ?_⟩
  cases b with
  | true =>
    rw [if_pos rfl] at hb ⊢
    exact k _ _ _ hb ok1.pop1.bl
  | false =>
    rw [if_neg (by decide)] at hb ⊢
    exact hb σ H1 ts vs Q ok1.pop1 k
theorem de_not (h : DE a X ρ A fun x => ∃ b, x.dat = .bl b ∧ Φ (.leaf (.bl !b))) : DE a X ρ (.UnaryOp .Not A pos) Φ := fun σ H ts vs Q ok k => by
  refine ⟨_, pe_not pe_W, ?_⟩
  show WE X A σ H fun x H1 => ∃ c, x = .bl c ∧ Q (.bl (!c)) H1
  refine h σ H ts vs _ ok fun x tx H1 ⟨b, e, hb⟩ ok1 => ?_
  have i1 := ok1.top
  rw [e] at i1
  exact ⟨b, i1.bl, k _ _ _ hb ok1.pop1.bl⟩
theorem de_neg (h : DE a X ρ A fun x => ∃ i, x.dat = .int i ∧ Φ (.leaf (.int (-i)))) : DE a X ρ (.UnaryOp .USub A pos) Φ := fun σ H ts vs Q ok k => by
  refine ⟨_, pe_un un_neg pe_W, ?_⟩
  show WE X A σ H fun x H1 => ∃ i, x = .int i ∧ Q (.int (-i)) H1
  refine h σ H ts vs _ ok fun x tx H1 ⟨b, e, hb⟩ ok1 => ?_
  have i1 := ok1.top
  rw [e] at i1
  exact ⟨b, i1.int, k _ _ _ hb ok1.pop1.int⟩
theorem de_ife (h : DT a X ρ A fun b => if b = true then DE a X ρ B Φ else DE a X ρ C Φ) : DE a X ρ (.IfExp A B C pos) Φ := fun σ H ts vs Q ok k => by
  refine ⟨_, pe_ifExp pt_W pe_W pe_W, ?_⟩
  show WT X A σ H fun c H1 => if c = true then WE X B σ H1 Q else WE X C σ H1 Q
  refine h σ H ts vs _ ok fun b H1 hb ok1 => ?_
  cases b with
  | true =>
    rw [if_pos rfl] at hb ⊢
    exact hb σ H1 ts vs Q ok1 k
  | false =>
    rw [if_neg (by decide)] at hb ⊢
    exact hb σ H1 ts vs Q ok1 k

noncomputable def notSlice : Expr → Bool
  | .Slice _ _ none _ => false
  | _ => true
theorem ix_plain (h : notSlice B = true) : PlainIx B := fun o i => by
  unfold subscripted
  cases B with
  | Slice l u st p =>
    cases st with
    | none => simp [notSlice] at h
    | some _ => rfl
  | _ => rfl
/-- an item of what is only read -/
noncomputable def D.vwOf (d : D) : T := if d.flat then .leaf d else .vw d
noncomputable def ixT (x : T) (i : D) (Φ : T → Prop) : Prop := match i with
  | .int n => match x with
    | .leaf (.tup ds) => ∃ d, atI ds n = some d ∧ Φ (.leaf d)
    | .leaf (.lst ds) => ∃ d, atI ds n = some d ∧ Φ (.leaf d)
    | .leaf (.str z) => ∃ c, z.length ≤ 100000 ∧ atI z.cps.toList n = some c ∧ Φ (.leaf (.str ⟨#[c]⟩))
    | .vw (.tup ds) => ∃ d, atI ds n = some d ∧ Φ d.vwOf
    | .vw (.lst ds) => ∃ d, atI ds n = some d ∧ Φ d.vwOf
    | .tup us => ∃ t, atI us n = some t ∧ Φ t
    | .lst us => ∃ t, atI us n = some t ∧ Φ t
    | _ => False
  | _ => False
theorem IsL.atI {a : An} {F : Hp} {ds : List D} {vs : List V} {n : Int} {d : D} (h : IsL a F ds vs) (e : L2.atI ds n = some d) : ∃ v, L2.atI vs n = some v ∧ Is a F d v := by
  unfold L2.atI at e ⊢
  rw [h.length]
  cases hx : ixN ds.length n with
  | none => rw [hx] at e; cases e
  | some j =>
    rw [hx] at e
    exact h.get e
theorem OwL.get {a : An} {F H : Hp} : ∀ {ts : List T} {vs : List V} {S : List Addr} {i : Nat} {t : T}, OwL a F H ts vs S → ts[i]? = some t → ∃ v S1, vs[i]? = some v ∧ Ow a F H t v S1 ∧ (S.Nodup → S1.Nodup) ∧ ∀ p ∈ S1, p ∈ S
  | [], _, _, _, _, _, g => by simp at g
  | u :: ts, vs, S, 0, t, h, g => by
    simp only [OwL] at h
    obtain ⟨v, r, S1, S2, rfl, h1, h2, rfl⟩ := h
    simp only [List.getElem?_cons_zero, Option.some.injEq] at g
    subst g
    exact ⟨v, S1, rfl, h1, fun n => (List.nodup_append.mp n).1, fun p hp => List.mem_append_left _ hp⟩
  | u :: ts, vs, S, i + 1, t, h, g => by
    simp only [OwL] at h
    obtain ⟨v, r, S1, S2, rfl, h1, h2, rfl⟩ := h
    simp only [List.getElem?_cons_succ] at g ⊢
    obtain ⟨v', S', e1, e2, e3, e4⟩ := OwL.get h2 g
    exact ⟨v', S', e1, e2, fun n => e3 (List.nodup_append.mp n).2.1, fun p hp => List.mem_append_right _ (e4 p hp)⟩
theorem OwL.atI {a : An} {F H : Hp} {us : List T} {vs : List V} {S : List Addr} {n : Int} {t : T} (h : OwL a F H us vs S) (e : L2.atI us n = some t) : ∃ v S1, L2.atI vs n = some v ∧ Ow a F H t v S1 ∧ (S.Nodup → S1.Nodup) ∧ ∀ p ∈ S1, p ∈ S := by
  unfold L2.atI at e ⊢
  rw [h.length]
  cases hx : ixN us.length n with
  | none => rw [hx] at e; cases e
  | some j =>
    rw [hx] at e
    exact h.get e
theorem SW.vwOf {d : D} {v : V} (w : SW a ρ σ ts vs H F Sc Sm) (h : Is a.toAn (hb a.toAn H) d v) : SW a ρ σ (d.vwOf :: ts) (v :: vs) H F Sc Sm := by
  unfold D.vwOf
  split
  · rename_i f; exact w.leaf (h.flat f)
  · exact w.vw h
/-- the first temporary may become a part of itself -/
theorem SW.cut {t : T} {x : V} (w : SW a ρ σ (t :: ts) (x :: vs) H F Sc Sm) : ∃ S1, Ow a.toAn F H t x S1 ∧ S1.Nodup ∧
    ∀ (u : T) (v : V) (S' : List Addr), Ow a.toAn F H u v S' → S'.Nodup → (∀ p ∈ S', p ∈ S1) → SOk a ρ σ (u :: ts) (v :: vs) H := by
  obtain ⟨v', r, S1, S2, e, h1, h2, e2⟩ := (show ∃ v' r S1 S2, x :: vs = v' :: r ∧ Ow a.toAn F H t v' S1 ∧ OwL a.toAn F H ts r S2 ∧ Sm = S1 ++ S2 by
    have := w.tmps; simpa only [OwL] using this)
  cases e
  have nSm : (S1 ++ S2).Nodup := e2 ▸ (List.nodup_append.mp w.nd).2.1
  obtain ⟨n1, n2, n3⟩ := List.nodup_append.mp nSm
  refine ⟨S1, h1, n1, fun u v S' h3 n' k => ⟨F, Sc, S' ++ S2, w.tmp ?_ (List.nodup_append.mpr ⟨n', n2, fun p hp q hq => n3 p (k p hp) q hq⟩) fun p hp => ?_⟩⟩
  · simp only [OwL]
    exact ⟨v, vs, S', S2, rfl, h3, h2, rfl⟩
  · rw [e2]
    rcases List.mem_append.mp hp with z | z
    · exact List.mem_append_left _ (k p z)
    · exact List.mem_append_right _ z
theorem Ow.leaf {a : An} {F H : Hp} {d : D} {v : V} (h : Is a F d v) : Ow a F H (.leaf d) v [] := by simp only [Ow]; exact ⟨trivial, h⟩
theorem opd_ix {n : Int} {x : T} {vx : V} {Q : VK} (ok : SOk a ρ σ (x :: ts) (vx :: vs) H) (h : ixT x (.int n) Φ) (k : ∀ v t H', Φ t → SOk a ρ σ (t :: ts) (v :: vs) H' → Q v H') : rIx a.K vx (.int n) H Q := by
  obtain ⟨F, Sc, Sm, w⟩ := ok
  match x, h with
  | .leaf (.tup ds), h =>
    obtain ⟨d, e, q⟩ := h
    obtain ⟨_, h1, _, go⟩ := w.cut
    simp only [Ow, Is] at h1
    obtain ⟨rfl, p, ws, rfl, z, il⟩ := h1
    obtain ⟨v, e2, i2⟩ := il.atI e
    exact .inr (.inl ⟨p, ws, n, v, rfl, rfl, sub_t w.sub z, e2, k v _ H q (go _ v [] (Ow.leaf i2) List.nodup_nil fun _ h => nomatch h)⟩)
  | .leaf (.lst ds), h =>
    obtain ⟨d, e, q⟩ := h
    obtain ⟨_, h1, _, go⟩ := w.cut
    simp only [Ow, Is] at h1
    obtain ⟨rfl, p, ws, rfl, z, il⟩ := h1
    obtain ⟨v, e2, i2⟩ := il.atI e
    exact .inl ⟨p, ws, n, v, rfl, rfl, .inl (.inl (w.sub _ _ z)), e2, k v _ H q (go _ v [] (Ow.leaf i2) List.nodup_nil fun _ h => nomatch h)⟩
  | .leaf (.str z), h =>
    obtain ⟨c, hz, e, q⟩ := h
    obtain rfl := (w.top : Is a.toAn (hb a.toAn H) (.str z) vx).str
    exact .inr (.inr ⟨z, n, c, rfl, rfl, small hz, e, k _ _ H q (SOk.str (SOk.pop1 ⟨F, Sc, Sm, w⟩))⟩)
  | .vw (.tup ds), h =>
    obtain ⟨d, e, q⟩ := h
    have h1 := w.top
    simp only [T.dat, Is] at h1
    obtain ⟨p, ws, rfl, z, il⟩ := h1
    obtain ⟨v, e2, i2⟩ := il.atI e
    refine .inr (.inl ⟨p, ws, n, v, rfl, rfl, sub_t (hb_sub _ _) z, e2, k v _ H q ?_⟩)
    obtain ⟨F, Sc, Sm, w⟩ := SOk.pop1 (t := .vw (.tup ds)) (v := .ref p) ⟨F, Sc, Sm, w⟩
    exact ⟨F, Sc, Sm, w.vwOf i2⟩
  | .vw (.lst ds), h =>
    obtain ⟨d, e, q⟩ := h
    have h1 := w.top
    simp only [T.dat, Is] at h1
    obtain ⟨p, ws, rfl, z, il⟩ := h1
    obtain ⟨v, e2, i2⟩ := il.atI e
    refine .inl ⟨p, ws, n, v, rfl, rfl, .inl (.inl (hb_sub _ _ _ _ z)), e2, k v _ H q ?_⟩
    obtain ⟨F, Sc, Sm, w⟩ := SOk.pop1 (t := .vw (.lst ds)) (v := .ref p) ⟨F, Sc, Sm, w⟩
    exact ⟨F, Sc, Sm, w.vwOf i2⟩
  | .tup us, h =>
    obtain ⟨t, e, q⟩ := h
    obtain ⟨S1, h1, n1, go⟩ := w.cut
    simp only [Ow] at h1
    obtain ⟨_, p, ws, rfl, z, ol⟩ := h1
    obtain ⟨v, S2, e2, i2, n2, k2⟩ := ol.atI e
    exact .inr (.inl ⟨p, ws, n, v, rfl, rfl, sub_t w.sub z, e2, k v _ H q (go _ v S2 i2 (n2 n1) k2)⟩)
  | .lst us, h =>
    obtain ⟨t, e, q⟩ := h
    obtain ⟨S1, h1, n1, go⟩ := w.cut
    simp only [Ow] at h1
    obtain ⟨_, p, ws, S', rfl, z, ol, rfl⟩ := h1
    obtain ⟨v, S2, e2, i2, n2, k2⟩ := ol.atI e
    exact .inl ⟨p, ws, n, v, rfl, rfl, .inl (.inl z), e2, k v _ H q (go _ v S2 i2 (n2 (List.nodup_cons.mp n1).2) fun q hq => List.mem_cons_of_mem _ (k2 q hq))⟩
  | .leaf .non, h | .leaf (.bl _), h | .leaf (.int _), h | .leaf .bag, h | .leaf (.obj _ _), h | .leaf (.scr _), h => exact False.elim h
  | .vw .non, h | .vw (.bl _), h | .vw (.int _), h | .vw (.str _), h | .vw .bag, h | .vw (.obj _ _), h | .vw (.scr _), h => exact False.elim h
theorem de_ix (xo : XOk a X) (hB : notSlice B = true) (h : DE a X ρ A fun x => DE a X ρ B fun y => ixT x y.dat Φ) : DE a X ρ (.Subscript A B pos) Φ := fun σ H ts vs Q ok k => by
  refine ⟨_, pe_ix ix_seq pe_W pe_W (ix_plain hB), ?_⟩
  show WE X A σ H fun x H1 => WE X B σ H1 fun y H2 => rIx X.K x y H2 Q
  refine h σ H ts vs _ ok fun x tx H1 h1 ok1 => h1 σ H1 _ _ _ ok1 fun y ty H2 h2 ok2 => ?_
  have i2 := ok2.top
  have h2 : ixT tx ty.dat Φ := h2
  rw [xo.K]
  cases hy : ty.dat with
  | int n =>
    rw [hy] at i2 h2
    rw [i2.int]
    exact opd_ix ok2.pop1 h2 k
  | _ => rw [hy] at h2; exact False.elim h2

noncomputable def notStar : Expr → Bool
  | .Starred _ _ => false
  | _ => true
theorem star_of {env : PySem.Env} {es : List Expr} (h : notStar e = true) : starEach (e :: es) env = (false, eval e env) :: starEach es env := by
  cases e <;> first | rfl | simp [notStar] at h
theorem stars_of {env : PySem.Env} : ∀ {es : List Expr}, es.all notStar = true → (starEach es env).all (fun x => !x.1) = true
  | [], _ => rfl
  | e :: es, h => by
    simp only [List.all_cons, Bool.and_eq_true] at h
    rw [star_of h.1, List.all_cons]
    simp only [Bool.not_false, Bool.true_and]
    exact stars_of h.2
theorem back_of {env : PySem.Env} {es : List Expr} (h : es.all notStar = true) : (backTo pos (starEach es env)).any (·.1) = false := by
  have h2 := stars_of (env := env) h
  unfold backTo
  rw [List.any_map, List.any_eq_false]
  rw [List.all_eq_true] at h2
  intro x hx
  have := h2 x hx
  simpa using this
/-- what is only read may be kept where it needs no heap -/
noncomputable def T.fin (t : T) (Φ : T → Prop) : Prop := match t with
  | .vw d => d.flat = true ∧ Φ (.leaf d)
  | t => Φ t
theorem SOk.fin {t : T} {v : V} {Q : Prop} (ok : SOk a ρ σ (t :: ts) (v :: vs) H) (h : t.fin Φ) (k : ∀ t, Φ t → t.nvw = true → SOk a ρ σ (t :: ts) (v :: vs) H → Q) : Q := by
  cases t with
  | vw d =>
    obtain ⟨f, h⟩ := h
    exact k _ h rfl (SOk.flat f ok.top ok.pop1)
  | reg R => exact k _ h rfl ok
  | leaf d => exact k _ h rfl ok
  | lst us => exact k _ h rfl ok
  | tup us => exact k _ h rfl ok
theorem da_nil {Ψ : List T → Prop} (q : Ψ []) : DA a X ρ [] Ψ := fun σ H ts vs Q ok k => ⟨_, pa_nil, k [] [] H q rfl rfl ok⟩
theorem da_cons {es : List Expr} {Ψ : List T → Prop} (hs : notStar e = true) (h : DE a X ρ e fun x => x.fin fun t => DA a X ρ es fun us => Ψ (t :: us)) : DA a X ρ (e :: es) Ψ := fun σ H ts vs Q ok k => by
  refine ⟨_, pa_cons pe_W pa_W (star_of hs), ?_⟩
  show WE X e σ H fun x H1 => WA X es σ H1 fun xs H2 => Q (x :: xs) H2
  refine h σ H ts vs _ ok fun x tx H1 h1 ok1 => ok1.fin h1 fun t h2 n2 ok2 => ?_
  refine h2 σ H1 _ _ _ ok2 fun ws us H2 h3 n3 l ok3 => ?_
  exact k (x :: ws) (t :: us) H2 h3 (by rw [List.all_cons, n2, n3]; rfl) (by simp [l]) (SOk.rot l ok3)
theorem de_tup {es : List Expr} {j : Nat} (h : DA a X ρ es fun us => us.length ≤ 100000 ∧ Φ (T.mk us)) : DE a X ρ (.Tuple es j pos) Φ := fun σ H ts vs Q ok k => by
  refine ⟨_, pe_tup pa_W, ?_⟩
  show WA X es σ H fun xs H1 => xs.length ≤ sizeLine ∧ ∀ p, H1 p = none → Q (.ref p) (upd H1 p (.tup xs))
  exact h σ H ts vs _ ok fun ws us H1 ⟨hz, q⟩ n l ok1 => ⟨small (l ▸ hz), fun p hp => k _ _ _ q (ok1.mkTup l n hp)⟩
theorem de_lst {es : List Expr} (h : DA a X ρ es fun us => us.length ≤ 100000 ∧ Φ (.lst us)) : DE a X ρ (.List es pos) Φ := fun σ H ts vs Q ok k => by
  refine ⟨_, pe_lst pa_W, ?_⟩
  show WA X es σ H fun xs H1 => xs.length ≤ sizeLine ∧ ∀ p, H1 p = none → Q (.ref p) (upd H1 p (.lst xs))
  exact h σ H ts vs _ ok fun ws us H1 ⟨hz, q⟩ n l ok1 => ⟨small (l ▸ hz), fun p hp => k _ _ _ q (ok1.mkLst l n hp)⟩
end
end DL
namespace DL
open PySem PySem.Spec PyProof.Rows L2

mutual
/-- its ints have at most 500 figures -/
noncomputable def D.sm : D → Bool
  | .int i => decide (i.natAbs < 10 ^ 250)
  | .tup ds => D.sms ds
  | .lst ds => D.sms ds
  | .non => true
  | .bl _ => true
  | .str _ => true
  | .bag => true
  | .obj _ _ => true
  | .scr _ => true
  | .opq _ => true
  | .emp => true
noncomputable def D.sms : List D → Bool
  | [] => true
  | d :: r => d.sm && D.sms r
end
mutual
/-- its size -/
noncomputable def D.wt : D → Nat
  | .str x => x.length
  | .tup ds => D.wts ds
  | .lst ds => D.wts ds
  | .int _ => 0
  | .non => 0
  | .bl _ => 0
  | .bag => 0
  | .obj _ _ => 0
  | .scr _ => 0
  | .opq _ => 0
  | .emp => 0
noncomputable def D.wts : List D → Nat
  | [] => 0
  | d :: r => d.wt + 1 + D.wts r
end
theorem D.sms_eq : ∀ ds : List D, D.sms ds = ds.all D.sm
  | [] => by simp [D.sms]
  | d :: r => by simp [D.sms, D.sms_eq r]
theorem D.wts_le {n : Nat} : ∀ {ds : List D}, (∀ d ∈ ds, d.wt ≤ n) → D.wts ds ≤ ds.length * (n + 1)
  | [], _ => by simp [D.wts]
  | d :: r, h => by
    simp only [D.wts, List.length_cons]
    have h1 := h d List.mem_cons_self
    have h2 := D.wts_le (ds := r) fun e he => h e (List.mem_cons_of_mem _ he)
    rw [Nat.succ_mul]
    omega
theorem log10_250 {i : Int} (h : i.natAbs < 10 ^ 250) : i.natAbs.log2 < 1920 := Nat.lt_of_lt_of_le (PySem.Flt.log2_lt_of (k := 1000) (by decide) (Nat.lt_trans h (by decide +kernel))) (by decide)
mutual
theorem D.showable : ∀ d : D, d.sm = true → d.py.showable = true
  | .int i, h => by
    simp only [D.sm, decide_eq_true_eq] at h
    simp only [D.py, PyData.showable, decide_eq_true_eq]
    exact log10_250 h
  | .tup ds, h => by
    simp only [D.sm] at h
    simp only [D.py, PyData.showable]
    exact D.showables ds h
  | .lst ds, h => by
    simp only [D.sm] at h
    simp only [D.py, PyData.showable]
    exact D.showables ds h
  | .non, _ | .bl _, _ | .str _, _ | .bag, _ | .obj _ _, _ | .scr _, _ | .opq _, _ | .emp, _ => by simp [D.py, PyData.showable, PyData.showableKv]
theorem D.showables : ∀ ds : List D, D.sms ds = true → PyData.showableAll (D.pys ds) = true
  | [], _ => by simp [D.pys, PyData.showableAll]
  | d :: r, h => by
    simp only [D.sms, Bool.and_eq_true] at h
    simp only [D.pys, PyData.showableAll, Bool.and_eq_true]
    exact ⟨D.showable d h.1, D.showables r h.2⟩
end
theorem shown_int_250 {i : Int} (h : i.natAbs < 10 ^ 250) : (PyData.shown (.int i)).length ≤ 251 := by
  have e := int_text_length_le10 (k := 250) (by decide) h
  show (Str.ofString (toString i)).length ≤ 251
  rw [PySem.ofString_length]
  exact e
theorem strOk_short {x : Str} (h : PyData.strOk x = true) : (x.cps.toList.all fun c => decide (c < 16 ^ 8)) = true := by
  unfold PyData.strOk at h
  rw [← Array.all_toList] at h
  rw [List.all_eq_true] at h ⊢
  intro c hc
  have := of_decide_eq_true (h c hc)
  exact decide_eq_true (Nat.lt_trans this (by decide))
mutual
theorem D.short : ∀ d : D, d.lay = true → d.sm = true → d.py.leavesShort 251 = true
  | .int i, _, h => by
    simp only [D.sm, decide_eq_true_eq] at h
    simp only [D.py, PyData.leavesShort, decide_eq_true_eq]
    exact shown_int_250 h
  | .str x, l, _ => by
    simp only [D.lay] at l
    simp only [D.py, PyData.leavesShort]
    exact strOk_short l
  | .tup ds, l, h => by
    simp only [D.sm] at h
    simp only [D.lay] at l
    simp only [D.py, PyData.leavesShort]
    exact D.shorts ds l h
  | .lst ds, l, h => by
    simp only [D.sm] at h
    simp only [D.lay] at l
    simp only [D.py, PyData.leavesShort]
    exact D.shorts ds l h
  | .non, _, _ | .bl _, _, _ | .bag, _, _ | .obj _ _, _, _ | .scr _, _, _ | .opq _, _, _ | .emp, _, _ => by simp [D.py, PyData.leavesShort, PyData.leavesShortKv]
theorem D.shorts : ∀ ds : List D, D.lays ds = true → D.sms ds = true → PyData.leavesShortAll 251 (D.pys ds) = true
  | [], _, _ => by simp [D.pys, PyData.leavesShortAll]
  | d :: r, l, h => by
    simp only [D.sms, Bool.and_eq_true] at h
    simp only [D.lays, Bool.and_eq_true] at l
    simp only [D.pys, PyData.leavesShortAll, Bool.and_eq_true]
    exact ⟨D.short d l.1 h.1, D.shorts r l.2 h.2⟩
end
mutual
theorem D.nodict : ∀ d : D, d.lay = true → d.py.hasDict = false
  | .tup ds, l => by simp only [D.py, PyData.hasDict]; exact D.nodicts ds (by simpa only [D.lay] using l)
  | .lst ds, l => by simp only [D.py, PyData.hasDict]; exact D.nodicts ds (by simpa only [D.lay] using l)
  | .int _, _ | .non, _ | .bl _, _ | .str _, _ | .bag, _ | .obj _ _, _ | .scr _, _ | .opq _, _ => by simp [D.py, PyData.hasDict]
  | .emp, l => by simp [D.lay] at l
theorem D.nodicts : ∀ ds : List D, D.lays ds = true → PyData.hasDictAll (D.pys ds) = false
  | [], _ => by simp [D.pys, PyData.hasDictAll]
  | d :: r, l => by
    simp only [D.lays, Bool.and_eq_true] at l
    simp only [D.pys, PyData.hasDictAll, D.nodict d l.1, D.nodicts r l.2, Bool.or_self]
end
mutual
theorem D.bulk_eq : ∀ d : D, d.py.bulk = d.wt
  | .str x => by simp [D.py, PyData.bulk, D.wt]; rfl
  | .tup ds => by simp only [D.py, PyData.bulk, D.wt]; exact D.bulks_eq ds
  | .lst ds => by simp only [D.py, PyData.bulk, D.wt]; exact D.bulks_eq ds
  | .int _ | .non | .bl _ | .bag | .obj _ _ | .scr _ | .opq _ | .emp => by simp [D.py, PyData.bulk, PyData.bulkKv, D.wt]
theorem D.bulks_eq : ∀ ds : List D, PyData.bulkAll (D.pys ds) = D.wts ds
  | [] => by simp [D.pys, PyData.bulkAll, D.wts]
  | d :: r => by simp only [D.pys, PyData.bulkAll, D.wts, D.bulk_eq d, D.bulks_eq r]
end
/-- what repr may be asked of -/
noncomputable def D.Shw (d : D) : Prop := d.Fit ∧ d.sm = true ∧ d.wt ≤ 50000
theorem D.Shw.len {d : D} (h : d.Shw) : d.py.shown.length ≤ sizeLine := by
  have h1 := PyData.shown_le_bulk 251 (by decide) d.py (D.short d h.1.1 h.2.1)
  rw [D.bulk_eq] at h1
  have h2 := h.2.2
  rw [sizeLine_eq]
  omega
noncomputable def shown (d : D) : Str := d.py.shown
section
variable {X : Cx} {a : An0}
theorem repr_at {pins : List (Addr × Obj)} {σ : L2.St} {H : Hp} {s : Shared} {Q : VK} {u : Value} {dp : PyData} {as : List Addr} (xg : X.A.guards = some []) (xu : X.A.units + 200 < cLine) (I : Inv X pins σ H s)
    (hz : dp.shown.length ≤ sizeLine) (hsh : dp.showable = true) (hnd : dp.hasDict = false) (hdep : dp.depth ≤ 60) (rd : Reads s.heap u dp as) (q : Q (.str dp.shown) H) :
    wpAny (model X.prog X.w) X.A (call (.builtin "repr") [u]) (EP X pins σ Q) X.xe s := by
  cases rd with
  | none => exact PySem.P.repr_of_none ⟨.str _, H, I.tok _, ⟨_, rfl⟩, by simp only [PyData.shown] at q; exact q⟩
  | bool b => exact PySem.P.repr_of_bool ⟨.str _, H, I.tok _, ⟨_, rfl⟩, by simp only [PyData.shown] at q; exact q⟩
  | int i t =>
    refine PySem.P.repr_of_int ?_ ⟨.str _, H, I.tok _, ⟨_, rfl⟩, by simp only [PyData.shown] at q; exact q⟩
    simpa [PyData.showable] using hsh
  | str y t => exact PySem.P.repr_of_str ⟨.str _, H, I.tok _, ⟨_, rfl⟩, by simp only [PyData.shown] at q; exact q⟩ (by simpa [PyData.shown] using hz)
  | list h1 h2 h3 h4 =>
    exact repr_of_reads' (Reads.list h1 h2 h3 h4) hsh (PyData.noDict_hsm hnd) xg (by omega) (fun _ _ e => e) (fun h' v tk hk => ⟨.str _, H, I.kept hk, ⟨_, rfl⟩, q⟩) hz
  | tuple h1 h2 h3 h4 =>
    exact repr_of_reads' (Reads.tuple h1 h2 h3 h4) hsh (PyData.noDict_hsm hnd) xg (by omega) (fun _ _ e => e) (fun h' v tk hk => ⟨.str _, H, I.kept hk, ⟨_, rfl⟩, q⟩) hz
  | dict h1 h2 h3 h4 h5 => simp [PyData.hasDict] at hnd
theorem call_reprD (xg : X.A.guards = some []) (xu : X.A.units + 200 < cLine) : CallR X (.builtin "repr") (fun xs H Q => ∃ (x : V) (d : D), xs = [x] ∧ d.Shw ∧ Dp X.K H x d.py ∧ Q (.str (shown d)) H) := by
  intro pins s σ H xs us Q I r h
  obtain ⟨x, d, rfl, hs, hd, q⟩ := h
  obtain ⟨u, rfl, ru⟩ := vals1 r
  have hz := hs.len
  have hsh := D.showable d hs.2.1
  have hnd := D.nodict d hs.1.1
  have hdep : d.py.depth ≤ 60 := Nat.le_trans (D.depth_le d) hs.1.2
  unfold shown at q
  obtain ⟨as, rd⟩ := Dp.reads I d.py x u hd ru
  exact repr_at xg xu I hz hsh hnd hdep rd q
end
end DL
namespace DL
open PySem PySem.Spec PyProof.Rows L2

theorem vals_each {f : V × PyData → Prop} {α : Type} (g : α → V) : ∀ {bs : List α} {us : List Value}, Vals (bs.map g) us → PySem.W.EachIs (fun u b => RelV (g b) u) us bs
  | [], us, h => by cases h; exact .nil
  | b :: bs, us, h => by
    cases h with
    | cons r t => exact .cons r (vals_each (f := f) g t)
theorem each_vals {α : Type} (g : α → V) : ∀ {bs : List α} {us : List Value}, PySem.W.EachIs (fun u b => RelV (g b) u) us bs → Vals (bs.map g) us
  | [], us, h => by cases h; exact .nil
  | b :: bs, us, h => by
    cases h with
    | cons r t => exact .cons r (each_vals g t)
theorem each_both {α β : Type} {R Q : α → β → Prop} : ∀ {as : List α} {bs : List β}, PySem.W.EachIs R as bs → (∀ a b, b ∈ bs → R a b → Q a b) → PySem.W.EachIs Q as bs
  | _, _, .nil, _ => .nil
  | _, _, .cons h t, k => .cons (k _ _ List.mem_cons_self h) (each_both t fun a b hb => k a b (List.mem_cons_of_mem _ hb))
/-- the items with what they read as -/
noncomputable def rSortD {α : Type} (g : α → V) (py : α → PyData) (K : PySem.W.Frag) : List V → Hp → VK → Prop := fun vs H Q => ∃ (p : Addr) (bs : List α), vs = [.ref p] ∧ SqL K H p (bs.map g) ∧ (∀ b ∈ bs, Dp K H (g b) (py b) ∧ (py b).depth ≤ 60) ∧ PySem.W.AllAlike (bs.map py) ∧ PySem.W.Sortable (bs.map py) ∧
  ∀ l, H l = none → Q (.ref l) (upd H l (.lst ((bs.mergeSort (PySem.W.dataLe false py)).map g)))
theorem cr_sortedD {X : Cx} {α : Type} {g : α → V} {py : α → PyData} (xu : X.A.units + 200 < cLine) : CallR X (.builtin "sorted") (rSortD g py X.K) := by
  intro pins s σ H vs us Q I r h
  obtain ⟨p, bs, rfl, hs, hd, al, so, q⟩ := h
  obtain ⟨its, rv, hl, hz⟩ := I.list hs
  rw [Vals.ref1 r]
  have ev := vals_each (f := fun _ => True) g rv
  have hlen : bs.length ≤ sizeLine := by simpa using hz
  refine PySem.W.sorted_data (R := fun u b => RelV (g b) u) (enc := py) (bs := bs) hl.isList ev (each_both ev fun u b hb hr => Dp.reads I _ _ _ (hd b hb).1 hr) al so hlen (fun b hb => ?_) fun out ho he => ?_
  · have := (hd b hb).2
    omega
  · obtain ⟨ep, he'⟩ := PyProof.Rows.sortedAll_at s.heap its out.toArray
    have hn := I.hok.fresh (Nat.le_succ s.heap.objs.size)
    have hm : ((bs.mergeSort (PySem.W.dataLe false py)).map g).length ≤ sizeLine := by
      rw [List.length_map, List.length_mergeSort]; exact hlen
    exact ⟨.ref _, upd H (s.heap.objs.size + 1) (.lst ((bs.mergeSort (PySem.W.dataLe false py)).map g)), I.laid (t' := s.toks) (fun _ _ => PyProof.Rows.sortedAll_old) (Nat.le_succ _) ⟨hm, out, ep, each_vals g he, he'⟩, rfl, q _ hn⟩
end DL
namespace DL
open PySem PySem.Spec PyProof.Rows L2
section
variable {a : An0} {X : Cx} {ρ : Env} {σ : L2.St} {ts : List T} {vs : List V} {H F : Hp} {Sc Sm : List Addr} {Φ : T → Prop} {pos p : Pos} {e A B C : Expr} {es : List Expr}

theorem dv_nil {Ψ : List T → Prop} (q : Ψ []) : DV a X ρ [] Ψ := fun σ H ts vs Q ok k => ⟨_, pa_nil, k [] [] H q rfl ok⟩
theorem dv_cons {Ψ : List T → Prop} (hs : notStar e = true) (h : DE a X ρ e fun t => DV a X ρ es fun us => Ψ (t :: us)) : DV a X ρ (e :: es) Ψ := fun σ H ts vs Q ok k => by
  refine ⟨_, pa_cons pe_W pa_W (star_of hs), ?_⟩
  show WE X e σ H fun x H1 => WA X es σ H1 fun xs H2 => Q (x :: xs) H2
  refine h σ H ts vs _ ok fun x t H1 h2 ok2 => ?_
  refine h2 σ H1 _ _ _ ok2 fun ws us H2 h3 l ok3 => ?_
  exact k (x :: ws) (t :: us) H2 h3 (by simp [l]) (SOk.rot l ok3)
theorem SOk.args {us : List T} {ws : List V} (ok : SOk a ρ σ (us ++ ts) (ws ++ vs) H) (l : us.length = ws.length) : IsL a.toAn (hb a.toAn H) (T.dats us) ws ∧ SOk a ρ σ ts vs H := by
  refine ⟨?_, ok.pop l⟩
  obtain ⟨F, Sc, Sm, w⟩ := ok
  obtain ⟨S1, S2, h1, h2, e⟩ := OwL.split w.tmps l
  exact OwL.is w.sub w.nobag h1 fun p hp => (w.fr p (List.mem_append_right _ (by rw [e]; exact List.mem_append_left _ hp))).2.1

inductive Blt where
  | len | abs | max | min | sum | all | any | sorted | repr
  | list | tuple | int | bool | str
  deriving DecidableEq
noncomputable def Blt.nm : Blt → Str
  | .len => "len" | .abs => "abs" | .max => "max" | .min => "min" | .sum => "sum" | .all => "all" | .any => "any" | .sorted => "sorted" | .repr => "repr"
  | .list => "list" | .tuple => "tuple" | .int => "int" | .bool => "bool" | .str => "str"
noncomputable def D.toInts : List D → Option (List Int)
  | [] => some []
  | .int i :: r => (D.toInts r).map (i :: ·)
  | _ :: _ => none
noncomputable def D.toBls : List D → Option (List Bool)
  | [] => some []
  | .bl i :: r => (D.toBls r).map (i :: ·)
  | _ :: _ => none
theorem toInts_eq : ∀ {ds : List D} {ns : List Int}, D.toInts ds = some ns → ds = ns.map .int
  | [], ns, h => by simp [D.toInts] at h; subst h; rfl
  | .int i :: r, ns, h => by
    simp only [D.toInts, Option.map_eq_some_iff] at h
    obtain ⟨m, h1, rfl⟩ := h
    rw [toInts_eq h1, List.map_cons]
  | .non :: _, _, h | .bl _ :: _, _, h | .str _ :: _, _, h | .tup _ :: _, _, h | .lst _ :: _, _, h | .bag :: _, _, h | .obj _ _ :: _, _, h | .scr _ :: _, _, h | (.opq _) :: _, _, h | .emp :: _, _, h => by simp [D.toInts] at h
theorem toBls_eq : ∀ {ds : List D} {ns : List Bool}, D.toBls ds = some ns → ds = ns.map .bl
  | [], ns, h => by simp [D.toBls] at h; subst h; rfl
  | .bl i :: r, ns, h => by
    simp only [D.toBls, Option.map_eq_some_iff] at h
    obtain ⟨m, h1, rfl⟩ := h
    rw [toBls_eq h1, List.map_cons]
  | .non :: _, _, h | .int _ :: _, _, h | .str _ :: _, _, h | .tup _ :: _, _, h | .lst _ :: _, _, h | .bag :: _, _, h | .obj _ _ :: _, _, h | .scr _ :: _, _, h | (.opq _) :: _, _, h | .emp :: _, _, h => by simp [D.toBls] at h
theorem toBls_map : ∀ ns : List Bool, D.toBls (ns.map .bl) = some ns
  | [] => rfl
  | n :: r => by simp [D.toBls, toBls_map r]
theorem IsL.bls {a : An} {F : Hp} : ∀ {ns : List Bool} {vs : List V}, IsL a F (ns.map D.bl) vs → vs = ns.map V.bl
  | [], vs, h => by simpa [IsL] using h
  | n :: ns, vs, h => by
    simp only [List.map_cons, IsL, Is] at h
    obtain ⟨v, r, rfl, rfl, h⟩ := h
    rw [IsL.bls h, List.map_cons]
/-- a built-in on plain data: flat answers -/
noncomputable def bltD : Blt → List D → (D → Prop) → Prop
  | .len, [.lst ds], Φ => Φ (.int ds.length)
  | .len, [.tup ds], Φ => Φ (.int ds.length)
  | .len, [.str z], Φ => z.length ≤ 100000 ∧ Φ (.int z.length)
  | .abs, [.int i], Φ => Φ (.int (if i < 0 then -i else i))
  | .max, [.int i, .int j], Φ => Φ (.int (if j > i then j else i))
  | .min, [.int i, .int j], Φ => Φ (.int (if j < i then j else i))
  | .max, [.int i, .int j, .int k], Φ => Φ (.int (if (if i < j then j else i) < k then k else if i < j then j else i))
  | .max, [.lst ds], Φ => ∃ ns, D.toInts ds = some ns ∧ 0 < ns.length ∧ ∀ m, m ∈ ns → (∀ y, y ∈ ns → y ≤ m) → Φ (.int m)
  | .min, [.lst ds], Φ => ∃ ns, D.toInts ds = some ns ∧ 0 < ns.length ∧ ∀ m, m ∈ ns → (∀ y, y ∈ ns → m ≤ y) → Φ (.int m)
  | .sum, [.lst ds], Φ => ∃ ns, D.toInts ds = some ns ∧ Φ (.int ns.sum)
  | .sum, [.tup ds], Φ => ∃ ns, D.toInts ds = some ns ∧ Φ (.int ns.sum)
  | .all, [.lst ds], Φ => ∃ bs, D.toBls ds = some bs ∧ Φ (.bl (bs.all id))
  | .any, [.lst ds], Φ => ∃ bs, D.toBls ds = some bs ∧ Φ (.bl (bs.any id))
  | .repr, [d], Φ => d.Shw ∧ Φ (.str (shown d))
  | .int, [.int i], Φ => Φ (.int i)
  | .int, [.bl k], Φ => Φ (.int (if k then 1 else 0))
  | .bool, [.int i], Φ => Φ (.bl (i != 0))
  | .bool, [.bl k], Φ => Φ (.bl k)
  | .str, [.int i], Φ => i.natAbs.log2 < 1920 ∧ Φ (.str (toString i))
  | .str, [.str z], Φ => Φ (.str z)
  | _, _, _ => False
/-- items that sorted may be asked of, and their order -/
noncomputable def leT : T → T → Bool := PySem.W.dataLe false fun t => t.dat.py
noncomputable def SortOk (us : List T) : Prop := (∀ t ∈ us, t.dat.lay = true ∧ t.dat.dep ≤ 60) ∧ PySem.W.AllAlike (us.map fun t => t.dat.py) ∧ PySem.W.Sortable (us.map fun t => t.dat.py)
theorem isl_zip {a : An} {F : Hp} : ∀ {us : List T} {zs : List V}, IsL a F (T.dats us) zs → ∀ b ∈ zs.zip us, Is a F b.2.dat b.1
  | [], zs, h, b, hb => by simp at hb
  | u :: us, zs, h, b, hb => by
    simp only [T.dats, IsL] at h
    obtain ⟨v, r, rfl, h1, h2⟩ := h
    rcases List.mem_cons.mp hb with rfl | hb
    · exact h1
    · exact isl_zip h2 b hb
theorem owl_perm {a : An} {F H : Hp} {bs bs' : List (V × T)} (p : bs'.Perm bs) : ∀ {S : List Addr}, OwL a F H (bs'.map (·.2)) (bs'.map (·.1)) S → ∃ S', OwL a F H (bs.map (·.2)) (bs.map (·.1)) S' ∧ S'.Perm S := by
  induction p with
  | nil => exact fun {S} h => ⟨S, h, List.Perm.refl _⟩
  | cons x _ ih =>
    intro S h
    simp only [List.map_cons, OwL] at h ⊢
    obtain ⟨v, r, S1, S2, e, h1, h2, rfl⟩ := h
    cases e
    obtain ⟨S', h3, p3⟩ := ih h2
    exact ⟨S1 ++ S', ⟨_, _, S1, S', rfl, h1, h3, rfl⟩, p3.append_left S1⟩
  | swap x y l =>
    intro S h
    simp only [List.map_cons, OwL] at h ⊢
    obtain ⟨v, r, S1, S2, e, h1, ⟨v', r', S3, S4, e', h3, h4, rfl⟩, rfl⟩ := h
    cases e
    cases e'
    refine ⟨S3 ++ (S1 ++ S4), ⟨_, _, S3, S1 ++ S4, rfl, h3, ⟨_, _, S1, S4, rfl, h1, h4, rfl⟩, rfl⟩, ?_⟩
    rw [← List.append_assoc, ← List.append_assoc]
    exact List.perm_append_comm.append_right S4
  | trans _ _ ih1 ih2 =>
    intro S h
    obtain ⟨S1, h1, p1⟩ := ih1 h
    obtain ⟨S2, h2, p2⟩ := ih2 h1
    exact ⟨S2, h2, p2.trans p1⟩
noncomputable def bltT : Blt → List T → (T → Prop) → Prop
  | .sorted, [x], Φ => (∃ ds ns, x.dat = .lst ds ∧ D.toInts ds = some ns ∧ ∀ ns' : List Int, ns'.Perm ns → ns'.Pairwise (· ≤ ·) → Φ (.lst (ns'.map fun n => .leaf (.int n)))) ∨ ∃ us, x.its = some us ∧ SortOk us ∧ Φ (.lst (us.mergeSort leT))
  | .list, [x], Φ => ∃ us, (x.its = some us ∨ x.prt = some us) ∧ Φ (.lst us)
  | .tuple, [x], Φ => ∃ us, (x.its = some us ∨ x.prt = some us) ∧ Φ (T.mk us)
  | f, us, Φ => bltD f (T.dats us) fun d => Φ (.leaf d)
noncomputable def CallD (a : An0) (r : List V → Hp → VK → Prop) (g : List T → (T → Prop) → Prop) : Prop := ∀ (ρ : Env) σ H ts vs us ws (Φ : T → Prop) (Q : VK), SOk a ρ σ (us ++ ts) (ws ++ vs) H → us.length = ws.length → g us Φ →
  (∀ v t H', Φ t → SOk a ρ σ (t :: ts) (v :: vs) H' → Q v H') → r ws H Q
theorem de_callB {x : Str} {id : String} {r : List V → Hp → VK → Prop} {g : List T → (T → Prop) → Prop} (hc : CallR X (.builtin id) r) (hr : CallD a r g) (hg : Gl X x) (hm : X.mg x = none) (hv : bootBuiltins x = some (.builtin id)) (hn : x ≠ "__name__") (hd : (x == ("__debug__" : Str)) = false)
    (h1 : notStar e = true) (h2 : es.all notStar = true) (h : DV a X ρ (e :: es) fun us => g us Φ) : DE a X ρ (.Call (.Name x p) (e :: es) [] pos) Φ := fun σ H ts vs Q ok k =>
  ⟨_, pe_callB hc hg hm hv pa_W hn hd (star_of h1) (back_of h2), h σ H ts vs _ ok fun ws us H1 q l ok1 => hr ρ σ H1 ts vs us ws Φ Q ok1 l q k⟩
theorem de_callTy {x : Str} {id : String} {r : List V → Hp → VK → Prop} {g : List T → (T → Prop) → Prop} (hc : CallR X (.type id) r) (hr : CallD a r g) (hg : Gl X x) (hm : X.mg x = none) (hv : bootBuiltins x = some (.type id)) (hn : x ≠ "__name__") (hd : (x == ("__debug__" : Str)) = false)
    (h1 : notStar e = true) (h2 : es.all notStar = true) (h : DV a X ρ (e :: es) fun us => g us Φ) : DE a X ρ (.Call (.Name x p) (e :: es) [] pos) Φ := fun σ H ts vs Q ok k =>
  ⟨_, pe_callTy hc hg hm hv pa_W hn hd (star_of h1) (back_of h2), h σ H ts vs _ ok fun ws us H1 q l ok1 => hr ρ σ H1 ts vs us ws Φ Q ok1 l q k⟩
/-- flat answers by plain data -/
theorem cd_flat {r : List V → Hp → VK → Prop} {f : Blt} (hr : ∀ G H (Q : VK) ds ws Ψ, Sub G H → IsL a.toAn G ds ws → bltD f ds Ψ → (∀ d v, Ψ d → d.flat = true → Is a.toAn G d v → Q v H) → r ws H Q) : CallD a r fun us Φ => bltD f (T.dats us) fun d => Φ (.leaf d) :=
  fun ρ σ H ts vs us ws Φ Q ok l h k => by
    obtain ⟨il, ok'⟩ := ok.args l
    exact hr _ H Q _ ws _ (hb_sub _ _) il h fun d v hd f is => k v _ H hd (SOk.flat f is ok')
theorem one {G : Hp} {d : D} {ws : List V} (h : IsL a.toAn G [d] ws) : ∃ v, ws = [v] ∧ Is a.toAn G d v := by
  simp only [IsL] at h
  obtain ⟨v, r, rfl, h1, rfl⟩ := h
  exact ⟨v, rfl, h1⟩
theorem two {G : Hp} {d d' : D} {ws : List V} (h : IsL a.toAn G [d, d'] ws) : ∃ v v', ws = [v, v'] ∧ Is a.toAn G d v ∧ Is a.toAn G d' v' := by
  simp only [IsL] at h
  obtain ⟨v, r, rfl, h1, v', r', rfl, h2, rfl⟩ := h
  exact ⟨v, v', rfl, h1, h2⟩
theorem Is.lstE {G : Hp} {ds : List D} {v : V} (h : Is a.toAn G (.lst ds) v) : ∃ p vs, v = .ref p ∧ G p = some (.lst vs) ∧ IsL a.toAn G ds vs := by simpa only [Is] using h
theorem Is.tupE {G : Hp} {ds : List D} {v : V} (h : Is a.toAn G (.tup ds) v) : ∃ p vs, v = .ref p ∧ SqT a.K G p vs ∧ IsL a.toAn G ds vs := by simpa only [Is] using h
theorem Is.intsE {G : Hp} {ds : List D} {ns : List Int} {v : V} (h : Is a.toAn G (.lst ds) v) (e : D.toInts ds = some ns) : ∃ p, v = .ref p ∧ G p = some (.lst (ns.map V.int)) := by
  obtain ⟨p, vs, rfl, q, il⟩ := h.lstE
  rw [toInts_eq e] at il
  rw [IsL.ints.mp il] at q
  exact ⟨p, rfl, q⟩
theorem Is.blsE {G : Hp} {ds : List D} {ns : List Bool} {v : V} (h : Is a.toAn G (.lst ds) v) (e : D.toBls ds = some ns) : ∃ p, v = .ref p ∧ G p = some (.lst (ns.map V.bl)) := by
  obtain ⟨p, vs, rfl, q, il⟩ := h.lstE
  rw [toBls_eq e] at il
  rw [il.bls] at q
  exact ⟨p, rfl, q⟩
theorem isI {G : Hp} {i : Int} : Is a.toAn G (.int i) (.int i) := by simp only [Is]
theorem isB {G : Hp} {i : Bool} : Is a.toAn G (.bl i) (.bl i) := by simp only [Is]
theorem isS {G : Hp} {i : Str} : Is a.toAn G (.str i) (.str i) := by simp only [Is]
theorem cr_sumT (hc : X.calm = true) : CallR X (.builtin "sum") (fun xs H Q => ∃ (p : Addr) (ns : List Int), xs = [.ref p] ∧ SqT X.K H p (ns.map V.int) ∧ Q (.int ns.sum) H) := by
  intro pins s σ H vs us Q I r h
  obtain ⟨a, ns, rfl, hs, q⟩ := h
  obtain ⟨its, rv, hl, _⟩ := I.tuple hs
  rw [Vals.ref1 r]
  have hi := rv.ints
  obtain ⟨xs, e⟩ := hi.allInts.items
  have hn : numsOf (intItems xs).toList = ns := by rw [← e]; exact hi.numsOf
  rw [nums_intItems] at hn
  rw [e] at hl
  obtain ⟨o, ho, hc1, n, hd⟩ := hl
  refine PySem.W.ktm_sumG (I.ok.hd hc) ⟨o, ho, hc1, n, hd⟩ fun h' tk t' hk => ?_
  refine ⟨.int _, H, I.kept hk, ⟨_, rfl⟩, ?_⟩
  rw [preSum_eq, List.take_of_length_le (by simp), hn]
  exact q
noncomputable abbrev CallRs := List V → Hp → VK → Prop
noncomputable def rBlt (K : PySem.W.Frag) : Blt → CallRs
  | .len => fun xs H Q => (∃ p ys, xs = [.ref p] ∧ (SqL K H p ys ∨ SqT K H p ys) ∧ Q (.int ys.length) H) ∨ (∃ z, xs = [.str z] ∧ z.length ≤ sizeLine ∧ Q (.int z.length) H)
  | .abs => fun xs H Q => ∃ i, xs = [.int i] ∧ Q (.int (if i < 0 then -i else i)) H
  | .max => fun xs H Q => (∃ i j, xs = [.int i, .int j] ∧ Q (.int (if j > i then j else i)) H) ∨ rMax K xs H Q ∨ rNuC3 nuMax3 xs H Q
  | .min => fun xs H Q => (∃ i j, xs = [.int i, .int j] ∧ Q (.int (if j < i then j else i)) H) ∨ rMin K xs H Q
  | .sum => fun xs H Q => rSum K xs H Q ∨ ∃ (p : Addr) (ns : List Int), xs = [.ref p] ∧ SqT K H p (ns.map V.int) ∧ Q (.int ns.sum) H
  | .all => rAll K
  | .any => rAny K
  | .sorted => fun xs H Q => rSortedI K xs H Q ∨ rSortD (α := V × T) (fun b => b.1) (fun b => b.2.dat.py) K xs H Q
  | .repr => fun xs H Q => ∃ (x : V) (d : D), xs = [x] ∧ d.Shw ∧ Dp K H x d.py ∧ Q (.str (shown d)) H
  | .list => fun xs H Q => ∃ p ys, xs = [.ref p] ∧ (SqL K H p ys ∨ SqT K H p ys) ∧ ∀ l, H l = none → Q (.ref l) (upd H l (.lst ys))
  | .tuple => fun xs H Q => ∃ p ys, xs = [.ref p] ∧ ((SqL K H p ys ∧ ∀ l, H l = none → Q (.ref l) (upd H l (.tup ys))) ∨ (SqT K H p ys ∧ Q (.ref p) H))
  | .int => fun xs H Q => (∃ i, xs = [.int i] ∧ Q (.int i) H) ∨ ∃ k, xs = [.bl k] ∧ Q (.int (if k then 1 else 0)) H
  | .bool => fun xs H Q => (∃ i, xs = [.int i] ∧ Q (.bl (i != 0)) H) ∨ ∃ k, xs = [.bl k] ∧ Q (.bl k) H
  | .str => fun xs H Q => (∃ i, xs = [.int i] ∧ i.natAbs.log2 < 1920 ∧ Q (.str (toString i)) H) ∨ ∃ z, xs = [.str z] ∧ Q (.str z) H
theorem cd_blt : ∀ f : Blt, CallD a (rBlt a.K f) (bltT f)
  | .len => cd_flat fun G H Q ds ws Ψ sub il h k => by
      match ds, h with
      | [.lst es], h =>
        obtain ⟨v, rfl, i1⟩ := one il
        obtain ⟨p, us, rfl, q, il2⟩ := i1.lstE
        exact .inl ⟨p, us, rfl, .inl (.inl (.inl (sub _ _ q))), by rw [il2.length]; exact k _ _ h rfl isI⟩
      | [.tup es], h =>
        obtain ⟨v, rfl, i1⟩ := one il
        obtain ⟨p, us, rfl, q, il2⟩ := i1.tupE
        exact .inl ⟨p, us, rfl, .inr (sub_t sub q), by rw [il2.length]; exact k _ _ h rfl isI⟩
      | [.str z], h =>
        obtain ⟨v, rfl, i1⟩ := one il
        obtain rfl := i1.str
        exact .inr ⟨z, rfl, small h.1, k _ _ h.2 rfl isI⟩
  | .abs => cd_flat fun G H Q ds ws Ψ sub il h k => by
      match ds, h with
      | [.int i], h =>
        obtain ⟨v, rfl, i1⟩ := one il
        obtain rfl := i1.int
        exact ⟨i, rfl, k _ _ h rfl isI⟩
  | .max => cd_flat fun G H Q ds ws Ψ sub il h k => by
      match ds, h with
      | [.int i, .int j], h =>
        obtain ⟨v, v', rfl, i1, i2⟩ := two il
        obtain rfl := i1.int
        obtain rfl := i2.int
        exact .inl ⟨i, j, rfl, k _ _ h rfl isI⟩
      | [.lst es], h =>
        obtain ⟨v, rfl, i1⟩ := one il
        obtain ⟨ns, e, l, h⟩ := h
        obtain ⟨p, rfl, q⟩ := i1.intsE e
        exact .inr (.inl ⟨p, ns, rfl, .inl (.inl (sub _ _ q)), l, fun m h1 h2 => k _ _ (h m h1 h2) rfl isI⟩)
      | [.int i, .int j, .int n], h =>
        simp only [IsL, Is] at il
        obtain ⟨_, _, rfl, rfl, _, _, rfl, rfl, _, _, rfl, rfl, rfl⟩ := il
        refine .inr (.inr ⟨_, _, _, _, rfl, ?_, k _ _ h rfl isI⟩)
        show nuMax3 (.int i) (.int j) (.int n) = _
        simp only [nuMax3, nuMax2, nuLt, nuCB, Option.map_some, Option.bind_some, decide_eq_true_eq]
        split <;> simp [nuCB] <;> split <;> simp_all
  | .min => cd_flat fun G H Q ds ws Ψ sub il h k => by
      match ds, h with
      | [.int i, .int j], h =>
        obtain ⟨v, v', rfl, i1, i2⟩ := two il
        obtain rfl := i1.int
        obtain rfl := i2.int
        exact .inl ⟨i, j, rfl, k _ _ h rfl isI⟩
      | [.lst es], h =>
        obtain ⟨v, rfl, i1⟩ := one il
        obtain ⟨ns, e, l, h⟩ := h
        obtain ⟨p, rfl, q⟩ := i1.intsE e
        exact .inr ⟨p, ns, rfl, .inl (.inl (sub _ _ q)), l, fun m h1 h2 => k _ _ (h m h1 h2) rfl isI⟩
  | .sum => cd_flat fun G H Q ds ws Ψ sub il h k => by
      match ds, h with
      | [.lst es], h =>
        obtain ⟨v, rfl, i1⟩ := one il
        obtain ⟨ns, e, h⟩ := h
        obtain ⟨p, rfl, q⟩ := i1.intsE e
        exact .inl ⟨p, ns, rfl, .inl (.inl (sub _ _ q)), k _ _ h rfl isI⟩
      | [.tup es], h =>
        obtain ⟨v, rfl, i1⟩ := one il
        obtain ⟨ns, e, h⟩ := h
        simp only [Is] at i1
        obtain ⟨p, vs, rfl, q, il2⟩ := i1
        rw [toInts_eq e] at il2
        rw [IsL.ints.mp il2] at q
        exact .inr ⟨p, ns, rfl, sub_t sub q, k _ _ h rfl isI⟩
  | .all => cd_flat fun G H Q ds ws Ψ sub il h k => by
      match ds, h with
      | [.lst es], h =>
        obtain ⟨v, rfl, i1⟩ := one il
        obtain ⟨ns, e, h⟩ := h
        obtain ⟨p, rfl, q⟩ := i1.blsE e
        exact ⟨p, ns, rfl, .inl (.inl (sub _ _ q)), k _ _ h rfl isB⟩
  | .any => cd_flat fun G H Q ds ws Ψ sub il h k => by
      match ds, h with
      | [.lst es], h =>
        obtain ⟨v, rfl, i1⟩ := one il
        obtain ⟨ns, e, h⟩ := h
        obtain ⟨p, rfl, q⟩ := i1.blsE e
        exact ⟨p, ns, rfl, .inl (.inl (sub _ _ q)), k _ _ h rfl isB⟩
  | .repr => cd_flat fun G H Q ds ws Ψ sub il h k => by
      match ds, h with
      | [d], h =>
        obtain ⟨v, rfl, i1⟩ := one il
        exact ⟨v, d, rfl, h.1, i1.dp sub h.1.1.1, k _ _ h.2 rfl isS⟩
  | .int => cd_flat fun G H Q ds ws Ψ sub il h k => by
      match ds, h with
      | [.int i], h =>
        obtain ⟨v, rfl, i1⟩ := one il
        obtain rfl := i1.int
        exact .inl ⟨i, rfl, k _ _ h rfl isI⟩
      | [.bl i], h =>
        obtain ⟨v, rfl, i1⟩ := one il
        obtain rfl := i1.bl
        exact .inr ⟨i, rfl, k _ _ h rfl isI⟩
  | .bool => cd_flat fun G H Q ds ws Ψ sub il h k => by
      match ds, h with
      | [.int i], h =>
        obtain ⟨v, rfl, i1⟩ := one il
        obtain rfl := i1.int
        exact .inl ⟨i, rfl, k _ _ h rfl isB⟩
      | [.bl i], h =>
        obtain ⟨v, rfl, i1⟩ := one il
        obtain rfl := i1.bl
        exact .inr ⟨i, rfl, k _ _ h rfl isB⟩
  | .str => cd_flat fun G H Q ds ws Ψ sub il h k => by
      match ds, h with
      | [.int i], h =>
        obtain ⟨v, rfl, i1⟩ := one il
        obtain rfl := i1.int
        exact .inl ⟨i, rfl, h.1, k _ _ h.2 rfl isS⟩
      | [.str i], h =>
        obtain ⟨v, rfl, i1⟩ := one il
        obtain rfl := i1.str
        exact .inr ⟨i, rfl, k _ _ h rfl isS⟩
  | .sorted => fun ρ σ H ts vs us ws Φ Q ok l h k => by
      match us, h with
      | [x], h =>
        rcases h with ⟨ds, ns, e1, e2, h⟩ | ⟨us, hx, so, h⟩
        · obtain ⟨il, ok'⟩ := ok.args l
          rw [T.dats, T.dats, e1] at il
          obtain ⟨v, rfl, i1⟩ := one il
          obtain ⟨p, rfl, q⟩ := i1.intsE e2
          refine .inl ⟨p, ns, rfl, .inl (.inl (hb_sub _ _ _ _ q)), fun ns' p' h1 h2 hp => k _ _ _ (h ns' h1 h2) ?_⟩
          have hm : (ns'.map fun n => T.leaf (.int n)) = (ns'.map D.int).map .leaf := by simp
          rw [hm]
          obtain ⟨F, Sc, Sm, w⟩ := ok'
          have w2 : SW a ρ σ ((ns'.map D.int).map .leaf ++ ts) (ns'.map V.int ++ vs) H F Sc Sm :=
            w.tmp (Sn := [] ++ Sm) (OwL.join (OwL.leafs (IsL.ints.mpr rfl)) w.tmps) (List.nodup_append.mp w.nd).2.1 fun _ h => h
          obtain ⟨Sm', w3⟩ := w2.mkLst (by simp) (nvw_leaf _) hp
          exact ⟨F, Sc, Sm', w3⟩
        · obtain ⟨v, rfl⟩ : ∃ v, ws = [v] := by
            match ws, l with
            | [v], _ => exact ⟨v, rfl⟩
          obtain ⟨F, Sc, Sm, w⟩ := ok
          obtain ⟨q, zs, rfl, hq, ⟨l2, n2⟩, Sm', w'⟩ := w.opens hx
          have e1 : (zs.zip us).map (fun b => b.1) = zs := List.map_fst_zip (by omega)
          have e2 : (zs.zip us).map (fun b => b.2) = us := List.map_snd_zip (by omega)
          have e3 : (zs.zip us).map (fun b => b.2.dat.py) = us.map fun t => t.dat.py := by
            conv => rhs; rw [← e2]
            rw [List.map_map]; rfl
          have il := (SOk.args ⟨F, Sc, Sm', w'⟩ l2).1
          have iz := isl_zip il
          refine .inr ⟨q, zs.zip us, rfl, by rw [e1]; exact .inl (.inl hq), fun b hb => ?_, by rw [e3]; exact so.2.1, by rw [e3]; exact so.2.2, fun p hp => ?_⟩
          · have hm : b.2 ∈ us := by rw [← e2]; exact List.mem_map.mpr ⟨b, hb, rfl⟩
            exact ⟨(iz b hb).dp (hb_sub _ _) (so.1 _ hm).1, Nat.le_trans (D.depth_le _) (so.1 _ hm).2⟩
          · have e4 : ((zs.zip us).mergeSort (PySem.W.dataLe false fun b => b.2.dat.py)).map (fun b => b.2) = us.mergeSort leT := by
              have e5 := List.map_mergeSort (r := PySem.W.dataLe false fun b : V × T => b.2.dat.py) (s := leT) (f := fun b : V × T => b.2) (l := zs.zip us) (fun _ _ _ _ => rfl)
              rw [e2] at e5
              exact e5
            obtain ⟨S1, S2, h1, h2, e⟩ := OwL.split w'.tmps l2
            rw [← e1, ← e2] at h1
            have h1' : OwL a.toAn F H ((zs.zip us).map (fun b => b.2)) ((zs.zip us).map (fun b => b.1)) S1 := by
              rw [e2, e1] at h1 ⊢
              rw [← e2, ← e1] at h1
              simpa [e1, e2] using h1
            obtain ⟨S3, h3, p3⟩ := owl_perm (List.mergeSort_perm _ (PySem.W.dataLe false fun b : V × T => b.2.dat.py)).symm h1'
            rw [e4] at h3
            have w3 := w'.tmp (Sn := S3 ++ S2) (OwL.join h3 h2) (by
              have n := (List.nodup_append.mp w'.nd).2.1
              rw [e] at n
              exact (List.Perm.append_right S2 p3).nodup_iff.mpr n) fun x hx => by
                rw [e]
                exact (List.Perm.append_right S2 p3).mem_iff.mp hx
            have ne : (us.mergeSort leT).all T.nvw = true := by
              rw [List.all_eq_true]
              intro t ht
              exact List.all_eq_true.mp n2 t (List.mem_mergeSort.mp ht)
            exact k _ _ _ h (SOk.mkLst (by rw [← e4]; simp) ne hp ⟨F, Sc, _, w3⟩)
  | .list => fun ρ σ H ts vs us ws Φ Q ok l h k => by
      match us, h with
      | [x], h =>
        obtain ⟨us, hx, h⟩ := h
        obtain ⟨v, rfl⟩ : ∃ v, ws = [v] := by
          match ws, l with
          | [v], _ => exact ⟨v, rfl⟩
        obtain ⟨F, Sc, Sm, w⟩ := ok
        rcases hx with hx | hx
        · obtain ⟨q, zs, rfl, hq, ⟨l2, n2⟩, Sm', w'⟩ := w.opens hx
          exact ⟨q, zs, rfl, .inl (.inl (.inl hq)), fun p hp => k _ _ _ h (SOk.mkLst l2 n2 hp ⟨F, Sc, Sm', w'⟩)⟩
        · obtain ⟨q, zs, rfl, hq, ⟨l2, n2⟩, Sm', w'⟩ := w.opent hx
          exact ⟨q, zs, rfl, .inr hq, fun p hp => k _ _ _ h (SOk.mkLst l2 n2 hp ⟨F, Sc, Sm', w'⟩)⟩
  | .tuple => fun ρ σ H ts vs us ws Φ Q ok l h k => by
      match us, h with
      | [x], h =>
        obtain ⟨us, hx, h⟩ := h
        obtain ⟨v, rfl⟩ : ∃ v, ws = [v] := by
          match ws, l with
          | [v], _ => exact ⟨v, rfl⟩
        have ok0 := ok
        obtain ⟨F, Sc, Sm, w⟩ := ok
        rcases hx with hx | hx
        · obtain ⟨q, zs, rfl, hq, ⟨l2, n2⟩, Sm', w'⟩ := w.opens hx
          exact ⟨q, zs, rfl, .inl ⟨.inl (.inl hq), fun p hp => k _ _ _ h (SOk.mkTup l2 n2 hp ⟨F, Sc, Sm', w'⟩)⟩⟩
        · obtain ⟨q, zs, rfl, hq, ⟨l2, n2⟩, Sm', w'⟩ := w.opent hx
          exact ⟨q, zs, rfl, .inr ⟨hq, k _ _ _ h (SOk.same hx ok0)⟩⟩
theorem de_blt {x : Str} {f : Blt} (xo : XOk a X) (hx : x = f.nm) (hg : Gl X x) (hm : X.mg x = none)
    (h1 : notStar e = true) (h2 : es.all notStar = true) (h : DV a X ρ (e :: es) fun us => bltT f us Φ) : DE a X ρ (.Call (.Name x p) (e :: es) [] pos) Φ := by
  subst hx
  have cd := cd_blt (a := a) f
  rw [← xo.K] at cd
  cases f with
  | len => exact de_callB (CallR.or call_len_seq call_len_str) cd hg hm (by decide +kernel) (by decide) (by decide) h1 h2 h
  | abs => exact de_callB call_abs cd hg hm (by decide +kernel) (by decide) (by decide) h1 h2 h
  | max => exact de_callB (CallR.or (call_max2 xo.calm) (CallR.or (cr_max xo.calm) (call_max3Nu xo.calm))) cd hg hm (by decide +kernel) (by decide) (by decide) h1 h2 h
  | min => exact de_callB (CallR.or (call_min2 xo.calm) (cr_min xo.calm)) cd hg hm (by decide +kernel) (by decide) (by decide) h1 h2 h
  | sum => exact de_callB (CallR.or (cr_sum xo.calm) (cr_sumT xo.calm)) cd hg hm (by decide +kernel) (by decide) (by decide) h1 h2 h
  | all => exact de_callB (cr_all xo.calm) cd hg hm (by decide +kernel) (by decide) (by decide) h1 h2 h
  | any => exact de_callB (cr_any xo.calm) cd hg hm (by decide +kernel) (by decide) (by decide) h1 h2 h
  | sorted => exact de_callB (CallR.or cr_sortedI (cr_sortedD xo.un)) cd hg hm (by decide +kernel) (by decide) (by decide) h1 h2 h
  | repr => exact de_callB (call_reprD xo.gu xo.un) cd hg hm (by decide +kernel) (by decide) (by decide) h1 h2 h
  | list => exact de_callTy call_list_of cd hg hm (by decide +kernel) (by decide) (by decide) h1 h2 h
  | tuple => exact de_callTy call_tuple_of cd hg hm (by decide +kernel) (by decide) (by decide) h1 h2 h
  | int => exact de_callTy call_int1 cd hg hm (by decide +kernel) (by decide) (by decide) h1 h2 h
  | bool => exact de_callTy call_bool1 cd hg hm (by decide +kernel) (by decide) (by decide) h1 h2 h
  | str => exact de_callTy (CallR.or call_str_int SkE.call_str_str) cd hg hm (by decide +kernel) (by decide) (by decide) h1 h2 h
end
end DL
namespace DL
open PySem PySem.Spec PyProof.Rows L2

noncomputable def cutL {α : Type} (xs : List α) (lo hi : Option Int) : List α := (xs.drop (HT.sIx xs.length 0 lo)).take (HT.sIx xs.length xs.length hi - HT.sIx xs.length 0 lo)
theorem cutL_V (xs : List V) (lo hi : Option Int) : cutV xs lo hi = cutL xs lo hi := rfl
theorem cutL_map {α β : Type} (f : α → β) (xs : List α) (lo hi : Option Int) : cutL (xs.map f) lo hi = (cutL xs lo hi).map f := by
  simp [cutL, List.map_take, List.map_drop]
theorem cutL_whole {α : Type} (xs : List α) (lo hi : Option Int) (h : HT.sIx xs.length 0 lo = 0 ∧ HT.sIx xs.length xs.length hi = xs.length) : cutL xs lo hi = xs := by
  unfold cutL
  rw [h.1, h.2]
  simp
theorem nvw_cut {us : List T} {lo hi : Option Int} (n : us.all T.nvw = true) : (cutL us lo hi).all T.nvw = true := by
  rw [List.all_eq_true] at n ⊢
  exact fun t ht => n t (List.mem_of_mem_drop (List.mem_of_mem_take ht))
noncomputable def WO (X : Cx) (e : Option Expr) : TO := fun σ H Q => ∃ t, PO X e t ∧ t σ H Q
section
variable {a : An0} {X : Cx} {ρ : Env} {σ : L2.St} {ts : List T} {vs : List V} {H F : Hp} {Sc Sm : List Addr} {Φ : T → Prop} {pos p : Pos} {e A B C : Expr} {es : List Expr}
theorem po_W {e : Option Expr} : PO X e (WO X e) := ⟨fun p s σ H Q I ⟨_, h, q⟩ => h.run p s σ H Q I q⟩
noncomputable def DO (a : An0) (X : Cx) (ρ : Env) (e : Option Expr) (Ψ : Option Int → Prop) : Prop :=
  ∀ σ H ts vs Q, SOk a ρ σ ts vs H → (∀ o H', Ψ o → SOk a ρ σ ts vs H' → Q o H') → WO X e σ H Q
theorem do_none {Ψ : Option Int → Prop} (h : Ψ none) : DO a X ρ none Ψ := fun σ H ts vs Q ok k => ⟨_, po_none, k _ _ h ok⟩
theorem do_some {Ψ : Option Int → Prop} (h : DE a X ρ e fun x => ∃ i, x.dat = .int i ∧ Ψ (some i)) : DO a X ρ (some e) Ψ := fun σ H ts vs Q ok k => by
  refine ⟨_, po_some pe_W, ?_⟩
  show WE X e σ H fun x H1 => ∃ i, x = .int i ∧ Q (some i) H1
  refine h σ H ts vs _ ok fun x tx H1 ⟨i, e, q⟩ ok1 => ?_
  have i1 := ok1.top
  rw [e] at i1
  exact ⟨i, i1.int, k _ _ q ok1.pop1⟩
noncomputable def slT (x : T) (lo hi : Option Int) (Φ : T → Prop) : Prop :=
  (∃ us, x.its = some us ∧ Φ (.lst (cutL us lo hi))) ∨ (∃ us, x.prt = some us ∧ Φ (T.mk (cutL us lo hi))) ∨
  (∃ z, x.dat = .str z ∧ z.length ≤ 100000 ∧ Φ (.leaf (.str (cutS z lo hi)))) ∨ (∃ ns, x.dat = .scr ns ∧ Φ (.lst ((cutL ns lo hi).map fun n => .leaf (.int n))))
theorem OwL.take {a : An} {F H : Hp} : ∀ {us : List T} {ws : List V} {S : List Addr} (n : Nat), OwL a F H us ws S → ∃ S', OwL a F H (us.take n) (ws.take n) S' ∧ (S.Nodup → S'.Nodup) ∧ ∀ p ∈ S', p ∈ S
  | us, ws, S, 0, _ => ⟨[], by simp [OwL], fun _ => List.nodup_nil, fun _ h => nomatch h⟩
  | [], ws, S, n + 1, h => ⟨S, by simp only [OwL] at h; simp [OwL, h.1, h.2], id, fun _ h => h⟩
  | u :: us, ws, S, n + 1, h => by
    simp only [OwL] at h
    obtain ⟨v, r, S1, S2, rfl, h1, h2, rfl⟩ := h
    obtain ⟨S3, h3, h4, h5⟩ := OwL.take n h2
    refine ⟨S1 ++ S3, ?_, fun nd => ?_, fun p hp => ?_⟩
    · simp only [List.take_succ_cons, OwL]
      exact ⟨v, _, S1, S3, rfl, h1, h3, rfl⟩
    · obtain ⟨n1, n2, n3⟩ := List.nodup_append.mp nd
      exact List.nodup_append.mpr ⟨n1, h4 n2, fun p hp q hq => n3 p hp q (h5 q hq)⟩
    · rcases List.mem_append.mp hp with z | z
      · exact List.mem_append_left _ z
      · exact List.mem_append_right _ (h5 p z)
theorem OwL.drop {a : An} {F H : Hp} : ∀ {us : List T} {ws : List V} {S : List Addr} (n : Nat), OwL a F H us ws S → ∃ S', OwL a F H (us.drop n) (ws.drop n) S' ∧ (S.Nodup → S'.Nodup) ∧ ∀ p ∈ S', p ∈ S
  | us, ws, S, 0, h => ⟨S, h, id, fun _ h => h⟩
  | [], ws, S, n + 1, h => ⟨S, by simp only [OwL] at h; simp [OwL, h.1, h.2], id, fun _ h => h⟩
  | u :: us, ws, S, n + 1, h => by
    simp only [OwL] at h
    obtain ⟨v, r, S1, S2, rfl, h1, h2, rfl⟩ := h
    obtain ⟨S3, h3, h4, h5⟩ := OwL.drop n h2
    exact ⟨S3, by simpa using h3, fun nd => h4 (List.nodup_append.mp nd).2.1, fun p hp => List.mem_append_right _ (h5 p hp)⟩
theorem OwL.cut {a : An} {F H : Hp} {us : List T} {ws : List V} {S : List Addr} (lo hi : Option Int) (h : OwL a F H us ws S) : ∃ S', OwL a F H (cutL us lo hi) (cutL ws lo hi) S' ∧ (S.Nodup → S'.Nodup) ∧ ∀ p ∈ S', p ∈ S := by
  unfold cutL
  rw [h.length]
  obtain ⟨S1, h1, n1, k1⟩ := h.drop (HT.sIx us.length 0 lo)
  obtain ⟨S2, h2, n2, k2⟩ := h1.take (HT.sIx us.length us.length hi - HT.sIx us.length 0 lo)
  exact ⟨S2, h2, fun n => n2 (n1 n), fun p hp => k1 p (k2 p hp)⟩
theorem SW.slice {us : List T} {ws : List V} (w : SW a ρ σ (us ++ ts) (ws ++ vs) H F Sc Sm) (l : us.length = ws.length) (lo hi : Option Int) : ∃ Sm', SW a ρ σ (cutL us lo hi ++ ts) (cutL ws lo hi ++ vs) H F Sc Sm' ∧ (cutL us lo hi).length = (cutL ws lo hi).length := by
  obtain ⟨S1, S2, h1, h2, e⟩ := OwL.split w.tmps l
  obtain ⟨S3, h3, n3, k3⟩ := h1.cut lo hi
  have nd := (List.nodup_append.mp w.nd).2.1
  rw [e] at nd
  obtain ⟨n1, n2, n4⟩ := List.nodup_append.mp nd
  refine ⟨S3 ++ S2, w.tmp (OwL.join h3 h2) (List.nodup_append.mpr ⟨n3 n1, n2, fun p hp q hq => n4 p (k3 p hp) q hq⟩) fun p hp => ?_, h3.length.symm⟩
  rw [e]
  rcases List.mem_append.mp hp with z | z
  · exact List.mem_append_left _ (k3 p z)
  · exact List.mem_append_right _ z
noncomputable def rSlAll (K : PySem.W.Frag) : V → Option Int → Option Int → Hp → VK → Prop := fun x lo hi H Q => rSlL K x lo hi H Q ∨ rSlA K x lo hi H Q ∨ rSlS x lo hi H Q
theorem sl_all : SlR X (rSlAll X.K) := SlR.or sl_list (SlR.or sl_tupA sl_str)
theorem opd_sl {lo hi : Option Int} {x : T} {vx : V} {Q : VK} (ok : SOk a ρ σ (x :: ts) (vx :: vs) H) (h : slT x lo hi Φ) (k : ∀ v t H', Φ t → SOk a ρ σ (t :: ts) (v :: vs) H' → Q v H') : rSlAll a.K vx lo hi H Q := by
  have ok0 := ok
  obtain ⟨F, Sc, Sm, w⟩ := ok
  rcases h with ⟨us, hx, q⟩ | ⟨us, hx, q⟩ | ⟨z, hx, hz, q⟩ | ⟨ns, hx, q⟩
  · obtain ⟨l, ws, rfl, hl, ⟨l2, n2⟩, Sm', w'⟩ := w.opens hx
    refine .inl ⟨l, ws, rfl, .inl (.inl hl), fun p hp => k _ _ _ q ?_⟩
    obtain ⟨Sm2, w2, l3⟩ := w'.slice l2 lo hi
    exact SOk.mkLst l3 (nvw_cut n2) hp ⟨F, Sc, Sm2, w2⟩
  · obtain ⟨l, ws, rfl, hl, ⟨l2, n2⟩, Sm', w'⟩ := w.opent hx
    refine .inr (.inl ⟨l, ws, rfl, hl, fun hw => k _ _ _ q ?_, fun _ p hp => k _ _ _ q ?_⟩)
    · rw [← l2] at hw
      rw [cutL_whole us lo hi hw]
      exact SOk.same hx ok0
    · obtain ⟨Sm2, w2, l3⟩ := w'.slice l2 lo hi
      exact SOk.mkTup l3 (nvw_cut n2) hp ⟨F, Sc, Sm2, w2⟩
  · have i1 := ok0.top
    rw [hx] at i1
    rw [i1.str]
    exact .inr (.inr ⟨z, rfl, small hz, k _ _ _ q ok0.pop1.str⟩)
  · have i1 := ok0.top
    rw [hx] at i1
    simp only [Is] at i1
    obtain ⟨l, rfl, hl⟩ := i1
    refine .inl ⟨l, _, rfl, sub_l (hb_sub _ _) hl, fun p hp => k _ _ _ q ?_⟩
    have hm : ((cutL ns lo hi).map fun n => T.leaf (.int n)) = ((cutL ns lo hi).map D.int).map .leaf := by simp
    rw [hm]
    obtain ⟨F, Sc, Sm, w⟩ := ok0.pop1
    have w2 : SW a ρ σ (((cutL ns lo hi).map D.int).map .leaf ++ ts) (cutV (ns.map V.int) lo hi ++ vs) H F Sc Sm := by
      rw [cutL_V, cutL_map]
      exact w.tmp (Sn := [] ++ Sm) (OwL.join (OwL.leafs (IsL.ints.mpr rfl)) w.tmps) (List.nodup_append.mp w.nd).2.1 fun _ h => h
    exact SOk.mkLst (by rw [cutL_V, cutL_map]; simp) (nvw_leaf _) hp ⟨F, Sc, Sm, w2⟩
theorem de_sl {lo hi : Option Expr} {p2 : Pos} (xo : XOk a X) (h : DE a X ρ A fun x => DO a X ρ lo fun l => DO a X ρ hi fun u => slT x l u Φ) : DE a X ρ (.Subscript A (.Slice lo hi none p2) pos) Φ := fun σ H ts vs Q ok k => by
  refine ⟨_, pe_slice sl_all pe_W po_W po_W, ?_⟩
  show WE X A σ H fun x H1 => WO X lo σ H1 fun l H2 => WO X hi σ H2 fun u H3 => rSlAll X.K x l u H3 Q
  rw [xo.K]
  exact h σ H ts vs _ ok fun x tx H1 h1 ok1 => h1 σ H1 _ _ _ ok1 fun l H2 h2 ok2 => h2 σ H2 _ _ _ ok2 fun u H3 h3 ok3 => opd_sl ok3 h3 k

/-- a def's promise in plain data: from the arguments, what is wanted of the answer -/
noncomputable abbrev SpecF := List D → (T → Prop) → Prop
/-- as the layer's promise: the caller chooses the frozen part -/
noncomputable def spD (K : PySem.W.Frag) (cls : Nat → Option (Addr × List Str)) (f : SpecF) : Sp := fun vs H Q _ =>
  ∃ (bg : Option Addr) (F : Hp) (ds : List D), Sub F H ∧ BagOk ⟨K, bg, cls⟩ F H ∧ IsL ⟨K, bg, cls⟩ F ds vs ∧
    f ds fun t => ∀ F' H' v S, Sub F' H' → Gw (An.hid ⟨K, bg, cls⟩) F H F' H' → BagOk ⟨K, bg, cls⟩ F' H' → Ow ⟨K, bg, cls⟩ F' H' t v S → S.Nodup → (∀ p ∈ S, F' p = none ∧ ¬ An.hid ⟨K, bg, cls⟩ p ∧ H p = none) → Q v H'
mutual
theorem Ow.froz {a : An} {F F' H : Hp} (e : Sub F F') : ∀ {t : T} {v : V} {S : List Addr}, t.nv = true → Ow a F H t v S → (∀ p ∈ S, F' p = H p) → Is a F' t.dat v
  | .leaf d, v, S, _, h, _ => by
    simp only [Ow] at h
    simp only [T.dat]
    exact h.2.mono e
  | .vw d, v, S, n, _, _ => by simp [T.nv] at n
  | .reg R, v, S, _, h, _ => by
    simp only [Ow] at h
    simp only [T.dat, Is]
    exact R.ref h
  | .lst us, v, S, n, h, k => by
    simp only [Ow] at h
    simp only [T.nv] at n
    obtain ⟨_, p, vs, S', e1, e2, h1, rfl⟩ := h
    simp only [T.dat, Is]
    exact ⟨p, vs, e1, (k p List.mem_cons_self).trans e2, OwL.froz e n h1 fun q hq => k q (List.mem_cons_of_mem _ hq)⟩
  | .tup us, v, S, n, h, k => by
    simp only [Ow] at h
    simp only [T.nv] at n
    obtain ⟨_, p, vs, e1, e2, h1⟩ := h
    simp only [T.dat, Is]
    exact ⟨p, vs, e1, sub_t e e2, OwL.froz e n h1 k⟩
theorem OwL.froz {a : An} {F F' H : Hp} (e : Sub F F') : ∀ {ts : List T} {vs : List V} {S : List Addr}, T.nvs ts = true → OwL a F H ts vs S → (∀ p ∈ S, F' p = H p) → IsL a F' (T.dats ts) vs
  | [], vs, S, _, h, _ => by
    simp only [OwL] at h
    simp only [T.dats, IsL]
    exact h.1
  | t :: ts, vs, S, n, h, k => by
    simp only [OwL] at h
    simp only [T.nvs, Bool.and_eq_true] at n
    obtain ⟨v, r, S1, S2, e1, h1, h2, rfl⟩ := h
    simp only [T.dats, IsL]
    exact ⟨v, r, e1, Ow.froz e n.1 h1 fun p hp => k p (List.mem_append_left _ hp), OwL.froz e n.2 h2 fun p hp => k p (List.mem_append_right _ hp)⟩
end
/-- no list of the caller's may be written here but the bag -/
noncomputable def NoIo (a : An0) : Prop := ∀ p, a.M p → a.toAn.hid p
/-- lists held alone become frozen ones -/
theorem SW.freezes {us : List T} {ws : List V} (io : NoIo a) (w : SW a ρ σ (us ++ ts) (ws ++ vs) H F Sc Sm) (l : us.length = ws.length) (n : T.nvs us = true) :
    ∃ F' Sm', Sub F F' ∧ SW a ρ σ ts vs H F' Sc Sm' ∧ IsL a.toAn F' (T.dats us) ws := by
  obtain ⟨S1, S2, h1, h2, e⟩ := OwL.split w.tmps l
  obtain ⟨m1, m2, m3⟩ := List.nodup_append.mp w.nd
  rw [e] at m2
  obtain ⟨n1, n2, n3⟩ := List.nodup_append.mp m2
  have fr1 : ∀ p ∈ S1, F p = none ∧ ¬ a.toAn.hid p ∧ a.H0 p = none := fun p hp => by
    obtain ⟨f1, f2, f3⟩ := w.fr p (List.mem_append_right _ (by rw [e]; exact List.mem_append_left _ hp))
    refine ⟨f1, f2, f3.resolve_left fun z => f2 (io p z)⟩
  have sF : Sub F (fun p => if p ∈ S1 then H p else F p) := fun p o q => by
    show (if p ∈ S1 then H p else F p) = some o
    split
    · exact w.sub p o q
    · exact q
  have at1 : ∀ p ∈ S1, (fun p => if p ∈ S1 then H p else F p) p = H p := fun p hp => if_pos hp
  have at2 : ∀ p, p ∉ S1 → (fun p => if p ∈ S1 then H p else F p) p = F p := fun p hp => if_neg hp
  revert sF at1 at2
  generalize (fun p => if p ∈ S1 then H p else F p) = F'
  intro sF at1 at2
  refine ⟨F', S2, sF, ⟨fun p o q => ?_, ⟨w.gw.ff.trans sF, w.gw.hh, fun p h n => ?_, w.gw.th⟩, w.bagM, w.bag.mono sF (Sub.refl H) fun b hb => ?_, w.cells.mono sF (Sub.refl _) fun _ _ _ h => h, h2.mono sF (Sub.refl _) fun _ _ _ h => h, ?_, fun p hp => ?_, w.len, w.wit, fun G hG => (w.wif G hG).trans sF⟩, OwL.froz sF n h1 at1⟩
  · by_cases z : p ∈ S1
    · rw [at1 p z] at q; exact q
    · rw [at2 p z] at q; exact w.sub p o q
  · rw [at2 p fun z => h (fr1 p z).2.2]
    exact w.gw.nn p h n
  · rw [at2 b fun z => (fr1 b z).2.1 hb]
    exact w.bag.no b hb
  · exact List.nodup_append.mpr ⟨m1, n2, fun p hp q hq => m3 p hp q (by rw [e]; exact List.mem_append_right _ hq)⟩
  · have hp' : p ∈ Sc ++ Sm := by
      rcases List.mem_append.mp hp with z | z
      · exact List.mem_append_left _ z
      · exact List.mem_append_right _ (by rw [e]; exact List.mem_append_right _ z)
    obtain ⟨f1, f2, f3⟩ := w.fr p hp'
    refine ⟨?_, f2, f3⟩
    rw [at2 p fun z => ?_]
    · exact f1
    · rcases List.mem_append.mp hp with y | y
      · exact m3 p y p (by rw [e]; exact List.mem_append_left _ z) rfl
      · exact n3 p z p y rfl
/-- what an argument, or what is walked, must be -/
noncomputable def T.froz (z : Bool) (t : T) (Ψ : D → Prop) : Prop := match t with
  | .leaf d => Ψ d
  | .vw d => d.flat = true ∧ Ψ d
  | .reg _ => False
  | t => z = true ∧ Ψ t.dat
noncomputable def frozs (z : Bool) : List T → (List D → Prop) → Prop
  | [], Ψ => Ψ []
  | t :: r, Ψ => t.froz z fun d => frozs z r fun ds => Ψ (d :: ds)
theorem froz_of {z : Bool} {t : T} {Ψ : D → Prop} (h : t.froz z Ψ) : Ψ t.dat ∧ ((∃ d, t = .leaf d) ∨ (∃ d, t = .vw d ∧ d.flat = true) ∨ (z = true ∧ t.nvw = true)) := by
  cases t with
  | leaf d => exact ⟨h, .inl ⟨d, rfl⟩⟩
  | vw d => exact ⟨h.2, .inr (.inl ⟨d, rfl, h.1⟩)⟩
  | reg R => exact False.elim h
  | lst us => exact ⟨h.2, .inr (.inr ⟨h.1, rfl⟩)⟩
  | tup us => exact ⟨h.2, .inr (.inr ⟨h.1, rfl⟩)⟩
theorem SW.froz1 {z : Bool} {t : T} {v : V} {Ψ : D → Prop} (io : z = true → NoIo a) (w : SW a ρ σ (t :: ts) (v :: vs) H F Sc Sm) (h : t.froz z Ψ) :
    ∃ F' Sm', Sub F F' ∧ SW a ρ σ ts vs H F' Sc Sm' ∧ Is a.toAn F' t.dat v ∧ Ψ t.dat := by
  obtain ⟨q, c⟩ := froz_of h
  rcases c with ⟨d, rfl⟩ | ⟨d, rfl, f⟩ | ⟨hz, n⟩
  · obtain ⟨S1, h1, _⟩ := w.cut
    simp only [Ow] at h1
    obtain ⟨F2, Sc2, Sm2, w2⟩ := SOk.pop1 ⟨F, Sc, Sm, w⟩
    obtain ⟨S3, S4, h3, h4, e⟩ := OwL.split (ts := [.leaf d]) (vs := [v]) w.tmps rfl
    exact ⟨F, S4, Sub.refl F, w.tmp h4 (by
      have := (List.nodup_append.mp w.nd).2.1
      rw [e] at this
      exact (List.nodup_append.mp this).2.1) fun p hp => by rw [e]; exact List.mem_append_right _ hp, h1.2, q⟩
  · obtain ⟨S3, S4, h3, h4, e⟩ := OwL.split (ts := [.vw d]) (vs := [v]) w.tmps rfl
    exact ⟨F, S4, Sub.refl F, w.tmp h4 (by
      have := (List.nodup_append.mp w.nd).2.1
      rw [e] at this
      exact (List.nodup_append.mp this).2.1) fun p hp => by rw [e]; exact List.mem_append_right _ hp, w.top.flat f, q⟩
  · obtain ⟨F', Sm', s, w', il⟩ := SW.freezes (us := [t]) (ws := [v]) (io hz) w rfl (by
      obtain ⟨S, h1, _⟩ := w.cut
      simp [T.nvs, h1.nv n])
    rw [T.dats, T.dats] at il
    obtain ⟨v', e, i1⟩ := one il
    cases e
    exact ⟨F', Sm', s, w', i1, q⟩
theorem SW.frozs {z : Bool} (io : z = true → NoIo a) : ∀ {us : List T} {ws : List V} {F : Hp} {Sm : List Addr} {Ψ : List D → Prop}, SW a ρ σ (us ++ ts) (ws ++ vs) H F Sc Sm → us.length = ws.length → DL.frozs z us Ψ →
    ∃ F' Sm' ds, Sub F F' ∧ SW a ρ σ ts vs H F' Sc Sm' ∧ IsL a.toAn F' ds ws ∧ Ψ ds
  | [], [], F, Sm, Ψ, w, _, h => ⟨F, Sm, [], Sub.refl F, w, by simp [IsL], h⟩
  | [], w :: ws, _, _, _, _, l, _ => by simp at l
  | u :: us, [], _, _, _, _, l, _ => by simp at l
  | u :: us, v :: ws, F, Sm, Ψ, w, l, h => by
    obtain ⟨F1, Sm1, s1, w1, i1, h1⟩ := SW.froz1 (ts := us ++ ts) (vs := ws ++ vs) io w h
    obtain ⟨F2, Sm2, ds, s2, w2, il, h2⟩ := SW.frozs io w1 (by simpa using l) h1
    exact ⟨F2, Sm2, u.dat :: ds, s1.trans s2, w2, by simp only [IsL]; exact ⟨v, ws, rfl, i1.mono s2, il⟩, h2⟩
/-- behind a call: the callee's growth is the caller's -/
theorem SW.calledS {F' H' : Hp} {t : T} {v : V} {S : List Addr} (w : SW a ρ σ ts vs H F Sc Sm) (sub : Sub F' H') (g : Gw a.toAn.hid F H F' H') (bg : BagOk a.toAn F' H') (ow : Ow a.toAn F' H' t v S) (nd : S.Nodup)
    (fr : ∀ p ∈ S, F' p = none ∧ ¬ a.toAn.hid p ∧ H p = none) : ∃ Sc' Sm', SW a ρ σ (t :: ts) (v :: vs) H' F' Sc' Sm' := by
  have kb : Sub (hb a.toAn H) (hb a.toAn H') := fun p o e => by
    unfold hb at e ⊢
    split at e
    · cases e
    · rename_i z
      rw [if_neg z]
      exact g.hh p o z e
  have k1 : ∀ p ∈ Sc ++ Sm, ∀ o, H p = some o → H' p = some o := fun p hp o e => g.hh p o (w.fr p hp).2.1 e
  have there : ∀ p ∈ Sc ++ Sm, H p ≠ none := fun p hp => by
    rcases List.mem_append.mp hp with y | y
    · exact OwC.there w.cells p y
    · exact OwL.there w.tmps p y
  obtain ⟨n1, n2, n3⟩ := List.nodup_append.mp w.nd
  refine ⟨Sc, S ++ Sm, sub, ⟨w.gw.ff.trans g.ff, fun p o hp e => ?_, fun p h n => g.nn p (w.gw.th p h) (w.gw.nn p h n), fun p h => g.th p (w.gw.th p h)⟩, w.bagM, bg, w.cells.mono g.ff kb fun p hp => k1 p (List.mem_append_left _ hp), ?_, ?_, fun p hp => ?_, w.len, fun G hG => (w.wit G hG).trans kb, fun G hG => (w.wif G hG).trans g.ff⟩
  · exact g.hh p o (fun z => hp (w.bagM p z).1) (w.gw.hh p o hp e)
  · simp only [OwL]
    exact ⟨v, vs, S, Sm, rfl, ow, w.tmps.mono g.ff kb fun p hp => k1 p (List.mem_append_right _ hp), rfl⟩
  · refine List.nodup_append.mpr ⟨n1, List.nodup_append.mpr ⟨nd, n2, fun p hp q hq e => ?_⟩, fun p hp q hq e => ?_⟩
    · subst e
      exact there p (List.mem_append_right _ hq) (fr p hp).2.2
    · subst e
      rcases List.mem_append.mp hq with z | z
      · exact there p (List.mem_append_left _ hp) (fr p z).2.2
      · exact n3 p hp p z rfl
  · have old : p ∈ Sc ++ Sm → F' p = none ∧ ¬ a.toAn.hid p ∧ (a.M p ∨ a.H0 p = none) := fun z => ⟨g.nn p (there p z) (w.fr p z).1, (w.fr p z).2⟩
    rcases List.mem_append.mp hp with z | z
    · exact old (List.mem_append_left _ z)
    · rcases List.mem_append.mp z with z | z
      · obtain ⟨f1, f2, f3⟩ := fr p z
        refine ⟨f1, f2, .inr ?_⟩
        cases q : a.H0 p with
        | none => rfl
        | some o => exact absurd f3 (w.gw.th p (by rw [q]; simp))
      · exact old (List.mem_append_right _ z)
theorem SW.called {F' H' : Hp} {t : T} {v : V} {S : List Addr} (w : SW a ρ σ ts vs H F Sc Sm) (sub : Sub F' H') (g : Gw a.toAn.hid F H F' H') (bg : BagOk a.toAn F' H') (ow : Ow a.toAn F' H' t v S) (nd : S.Nodup)
    (fr : ∀ p ∈ S, F' p = none ∧ ¬ a.toAn.hid p ∧ H p = none) : SOk a ρ σ (t :: ts) (v :: vs) H' :=
  let ⟨Sc', Sm', w'⟩ := w.calledS sub g bg ow nd fr
  ⟨F', Sc', Sm', w'⟩
/-- a def of the module that may be called here -/
structure FnAt (a : An0) (X : Cx) (x : Str) (f : SpecF) : Prop where
  ex : ∃ (fa : Addr) (fd : FuncData) (k : Nat) (ps : List Str), FnG X.prog X.w X.K X.mg X.base CX0 k fa fd ps (spD a.K a.cls f) ∧ Room k X.A ∧ X.mg x = some (.ref fa) ∧ PySem.W.keepIn X.K (.ref fa) = true ∧ Binds X.K fd ps []
theorem de_call {x : Str} {f : SpecF} {z : Bool} (xo : XOk a X) (io : z = true → NoIo a) (fn : FnAt a X x f) (hg : Gl X x) (hd : (x == ("__debug__" : Str)) = false) (h1 : notStar e = true) (h2 : es.all notStar = true)
    (h : DV a X ρ (e :: es) fun us => frozs z us fun ds => f ds Φ) (mono : ∀ ds (Φ Ψ : T → Prop), (∀ t, Φ t → Ψ t) → f ds Φ → f ds Ψ) : DE a X ρ (.Call (.Name x p) (e :: es) [] pos) Φ := fun σ H ts vs Q ok k => by
  obtain ⟨fa, fd, n, ps, F, hr, hm, hk, hb⟩ := fn.ex
  refine ⟨_, pe_callG F xo.gu hr hg hm hk hb .nil pass0 pa_W hd (star_of h1) (back_of h2), ?_⟩
  show WA X (e :: es) σ H fun vs H1 => spD a.K a.cls f (vs ++ []) H1 Q _
  refine h σ H ts vs _ ok fun ws us H1 q l ok1 => ?_
  obtain ⟨F0, Sc, Sm, w⟩ := ok1
  obtain ⟨F1, Sm1, ds, s1, w1, il, q⟩ := w.frozs io l q
  rw [List.append_nil]
  refine ⟨a.bg, F1, ds, w1.sub, w1.bag, il, mono _ _ _ (fun t ht F' H' v S sub g bg ow nd fr => ?_) q⟩
  exact k v t H' ht (w1.called sub g bg ow nd fr)
end
end DL
namespace DL
open PySem PySem.Spec PyProof.Rows L2

inductive Tg where
  | nm (i : Nat) | nil | cons (a b : Tg)
mutual
noncomputable def bindG : Tg → T → Env → Option Env
  | .nm i, t, ρ => if i < ρ.length then some (ρ.put i (some t)) else none
  | .nil, t, ρ => match t.prt with
    | some us => bindL .nil us ρ
    | none => none
  | .cons a b, t, ρ => match t.prt with
    | some (u :: us) => (bindG a u ρ).bind (bindL b us)
    | _ => none
noncomputable def bindL : Tg → List T → Env → Option Env
  | .nil, [], ρ => some ρ
  | .cons a b, u :: us, ρ => (bindG a u ρ).bind (bindL b us)
  | _, _, _ => none
end
noncomputable def Tg.slots : Tg → List Nat
  | .nm i => [i]
  | .nil => []
  | .cons a b => a.slots ++ b.slots
noncomputable def Env.wipes (ρ : Env) : List Nat → Env
  | [] => ρ
  | v :: vs => (ρ.wipes vs).put v none
section
variable {a : An0} {X : Cx} {ρ : Env} {σ : L2.St} {ts : List T} {vs : List V} {H F : Hp} {Sc Sm : List Addr} {Φ : T → Prop} {pos p : Pos} {e A B C : Expr} {es : List Expr}

theorem SW.put {i : Nat} {t : T} {v : V} (w : SW a ρ σ (t :: ts) (v :: vs) H F Sc Sm) (hi : i < ρ.length) (n : t.nv = true) : ∃ Sc' Sm', SW a (ρ.put i (some t)) (σ.set i (some v)) ts vs H F Sc' Sm' := by
  obtain ⟨S1, S2, h1, h2, e⟩ := OwL.split (ts := [t]) (vs := [v]) w.tmps rfl
  have h1 : Ow a.toAn F H t v S1 := by
    simp only [OwL] at h1
    obtain ⟨v', r, S3, S4, e', h3, ⟨rfl, rfl⟩, rfl⟩ := h1
    cases e'
    simpa using h3
  obtain ⟨n1, n2, n3⟩ := List.nodup_append.mp w.nd
  rw [e] at n2
  obtain ⟨m1, m2, m3⟩ := List.nodup_append.mp n2
  obtain ⟨S', h3, n4, k⟩ := OwC.put h1 n w.cells hi (w.len ▸ hi) n1 m1 fun p hp hq => n3 p hq p (by rw [e]; exact List.mem_append_left _ hp) rfl
  refine ⟨S', S2, w.sub, w.gw, w.bagM, w.bag, h3, h2, List.nodup_append.mpr ⟨n4, m2, fun p hp q hq z => ?_⟩, fun p hp => w.fr p ?_, by rw [Env.put_length, List.length_set]; exact w.len, w.wit, w.wif⟩
  · subst z
    rcases k p hp with y | y
    · exact n3 p y p (by rw [e]; exact List.mem_append_right _ hq) rfl
    · exact m3 p y p hq rfl
  · rcases List.mem_append.mp hp with y | y
    · rcases k p y with y | y
      · exact List.mem_append_left _ y
      · exact List.mem_append_right _ (by rw [e]; exact List.mem_append_left _ y)
    · exact List.mem_append_right _ (by rw [e]; exact List.mem_append_right _ y)
theorem SOk.put {i : Nat} {t : T} {v : V} (hi : i < ρ.length) (n : t.nv = true) : SOk a ρ σ (t :: ts) (v :: vs) H → SOk a (ρ.put i (some t)) (σ.set i (some v)) ts vs H := fun ⟨F, Sc, Sm, w⟩ =>
  let ⟨Sc', Sm', w'⟩ := w.put hi n
  ⟨F, Sc', Sm', w'⟩
theorem SW.forget {x : Option V} (w : SW a ρ σ ts vs H F Sc Sm) (i : Nat) : ∃ Sc', SW a (ρ.put i none) (σ.set i x) ts vs H F Sc' Sm := by
  obtain ⟨n1, n2, n3⟩ := List.nodup_append.mp w.nd
  obtain ⟨S', h, n, k⟩ := OwC.drop (x := x) i w.cells n1
  refine ⟨S', w.sub, w.gw, w.bagM, w.bag, h, w.tmps, List.nodup_append.mpr ⟨n, n2, fun p hp q hq => n3 p (k p hp) q hq⟩, fun p hp => w.fr p ?_, by rw [Env.put_length, List.length_set]; exact w.len, w.wit, w.wif⟩
  rcases List.mem_append.mp hp with y | y
  · exact List.mem_append_left _ (k p y)
  · exact List.mem_append_right _ y
theorem SW.wipe (w : SW a ρ σ ts vs H F Sc Sm) : ∀ own : List Nat, ∃ Sc', SW a (ρ.wipes own) (L2.wipe σ own) ts vs H F Sc' Sm
  | [] => ⟨Sc, w⟩
  | v :: r => by
    obtain ⟨Sc', w'⟩ := w.wipe r
    exact w'.forget v
/-- cells that are not known say nothing of their slots -/
theorem OwC.unset {a : An} {F H : Hp} {x : Option V} : ∀ {ρ : Env} {σ : L2.St} {S : List Addr} {i : Nat}, OwC a F H ρ (σ.set i x) S → ρ.put i none = ρ → OwC a F H ρ σ S
  | [], _, _, _, h, _ => h
  | none :: ρ, [], S, 0, h, _ => h
  | none :: ρ, y :: σ, S, 0, h, _ => by simpa only [OwC, List.set_cons_zero, List.tail_cons] using h
  | some t :: ρ, _, _, 0, _, e => by simp [Env.put] at e
  | none :: ρ, [], S, i + 1, h, _ => h
  | none :: ρ, y :: σ, S, i + 1, h, e => by
    simp only [OwC, List.set_cons_succ, List.tail_cons] at h ⊢
    simp only [Env.put, List.cons.injEq, true_and] at e
    exact OwC.unset h e
  | some t :: ρ, [], S, i + 1, h, e => by simpa using h
  | some t :: ρ, y :: σ, S, i + 1, h, e => by
    simp only [OwC, List.set_cons_succ, List.tail_cons, List.head?_cons] at h ⊢
    simp only [Env.put, List.cons.injEq, true_and] at e
    obtain ⟨v, S1, S2, e1, h1, h2, rfl⟩ := h
    exact ⟨v, S1, S2, e1, h1, OwC.unset h2 e, rfl⟩
theorem Env.put_wipes (ρ : Env) (v : Nat) : ∀ own : List Nat, v ∈ own → (ρ.wipes own).put v none = ρ.wipes own := by
  have twice : ∀ (ρ : Env) (i : Nat), (ρ.put i none).put i none = ρ.put i none := fun ρ => by
    induction ρ with
    | nil => intro i; rfl
    | cons x r ih => intro i; cases i <;> simp [Env.put, ih]
  have comm : ∀ (ρ : Env) (i j : Nat), (ρ.put i none).put j none = (ρ.put j none).put i none := fun ρ => by
    induction ρ with
    | nil => intro i j; rfl
    | cons x r ih => intro i j; cases i <;> cases j <;> simp [Env.put, ih]
  intro own
  induction own with
  | nil => intro h; cases h
  | cons u r ih =>
    intro h
    simp only [Env.wipes]
    rcases List.mem_cons.mp h with rfl | h
    · exact twice _ _
    · rw [comm, ih h]
theorem OwC.unwipe {a : An} {F H : Hp} {ρ : Env} {σ : L2.St} {S : List Addr} : ∀ {own : List Nat}, OwC a F H ρ (L2.wipe σ own) S → (∀ v ∈ own, ρ.put v none = ρ) → OwC a F H ρ σ S
  | [], h, _ => h
  | v :: r, h, e => OwC.unwipe (own := r) (OwC.unset (i := v) h (e v List.mem_cons_self)) fun u hu => e u (List.mem_cons_of_mem _ hu)
theorem SW.unwipe {own : List Nat} (w : SW a ρ (L2.wipe σ own) ts vs H F Sc Sm) (e : ρ.wipes own = ρ) : SW a ρ σ ts vs H F Sc Sm :=
  ⟨w.sub, w.gw, w.bagM, w.bag, w.cells.unwipe fun v hv => by
    have := Env.put_wipes ρ v own hv
    rw [e] at this
    exact this, w.tmps, w.nd, w.fr, by rw [w.len, wipe_length], w.wit, w.wif⟩
theorem wipe_set {σ : L2.St} {i : Nat} {x : Option V} : ∀ {own : List Nat}, i ∈ own → L2.wipe (σ.set i x) own = L2.wipe σ own := by
  have low : ∀ (σ : L2.St) (i : Nat) (x : Option V) (own : List Nat), i ∉ own → L2.wipe (σ.set i x) own = (L2.wipe σ own).set i x := fun σ i x own => by
    induction own with
    | nil => intro _; rfl
    | cons v r ih =>
      intro h
      simp only [L2.wipe]
      rw [ih fun z => h (List.mem_cons_of_mem _ z), List.set_comm _ _ (fun z => h (by rw [z]; exact List.mem_cons_self))]
  intro own
  induction own with
  | nil => intro h; cases h
  | cons v r ih =>
    intro h
    simp only [L2.wipe]
    by_cases hr : i ∈ r
    · rw [ih hr]
    · rcases List.mem_cons.mp h with rfl | h
      · rw [low _ _ _ _ hr, List.set_set]
      · exact absurd h hr
/-- where a def's names stand: its scope as it runs, and as it is written -/
structure Ct where
  N : List Str
  sc : Scope
  wr : Scope
structure COk (c : Ct) (X : Cx) : Prop where
  N : X.N = c.N
  sc : X.env.scope = c.sc
  fn : ∀ x, c.wr.names.lookup x = some .cell → X.fn x = true
  keep : ∀ x k, k ≠ .free → c.wr.names.lookup x = some k → c.sc.names.lookup x = some k
noncomputable def Ct.vis (c : Ct) (x : Str) : Bool := match c.sc.names.lookup x with
  | some .local => true
  | some .cell => true
  | some .free => true
  | _ => false
noncomputable def Ct.loc (c : Ct) (x : Str) : Bool := match c.wr.names.lookup x with
  | some .local => true
  | some .cell => true
  | _ => false
noncomputable def Ct.glo (c : Ct) (x : Str) : Bool := match c.sc.names.lookup x with
  | some .globalImplicit => true
  | _ => false
noncomputable def nameIs (c : Ct) (i : Nat) (x : Str) : Bool := decide (c.N[i]? = some x)
theorem Ct.vis_of {c : Ct} {x : Str} (k : COk c X) (h : c.vis x = true) : Vis X.env.scope x := by
  unfold Vis
  rw [k.sc]
  unfold Ct.vis at h
  split at h
  · exact .inl (by assumption)
  · exact .inr (.inl (by assumption))
  · exact .inr (.inr (by assumption))
  · cases h
theorem Ct.loc_of {c : Ct} {x : Str} (k : COk c X) (h : c.loc x = true) : L2.Loc X.env.scope x ∧ (X.fn x = true ∨ X.env.scope.names.lookup x = some .local) := by
  unfold L2.Loc
  rw [k.sc]
  unfold Ct.loc at h
  split at h
  · rename_i e
    have := k.keep x _ (by decide) e
    exact ⟨.inl this, .inr this⟩
  · rename_i e
    exact ⟨.inr (k.keep x _ (by decide) e), .inl (k.fn x e)⟩
  · cases h
theorem Ct.glo_of {c : Ct} {x : Str} (k : COk c X) (h : c.glo x = true) : Gl X x := by
  show X.env.scope.names.lookup x = some .globalImplicit
  rw [k.sc]
  unfold Ct.glo at h
  split at h
  · assumption
  · cases h
theorem nameIs_of {c : Ct} {i : Nat} {x : Str} (k : COk c X) (h : nameIs c i x = true) : X.N[i]? = some x := by
  rw [k.N]
  exact of_decide_eq_true h
mutual
/-- the target is written so -/
noncomputable def okG (c : Ct) : Tg → Expr → Bool
  | .nm i, .Name x _ => nameIs c i x && c.loc x
  | .nil, .Tuple [] _ _ => true
  | .cons a b, .Tuple (e :: es) _ _ => okG c a e && okGs c b es
  | _, _ => false
noncomputable def okGs (c : Ct) : Tg → List Expr → Bool
  | .nil, [] => true
  | .cons a b, e :: es => okG c a e && okGs c b es
  | _, _ => false
end
mutual
theorem bindG_len : ∀ {g : Tg} {t : T} {ρ ρ' : Env}, bindG g t ρ = some ρ' → ρ'.length = ρ.length
  | .nm i, t, ρ, ρ', h => by
    simp only [bindG] at h
    split at h
    · cases h; exact Env.put_length _ _ _
    · cases h
  | .nil, t, ρ, ρ', h => by
    simp only [bindG] at h
    split at h
    · rename_i us _
      cases us with
      | nil => simp only [bindL, Option.some.injEq] at h; rw [h]
      | cons u us => simp [bindL] at h
    · cases h
  | .cons a b, t, ρ, ρ', h => by
    simp only [bindG] at h
    split at h
    · obtain ⟨ρ1, h1, h2⟩ := Option.bind_eq_some_iff.mp h
      rw [bindL_len h2, bindG_len h1]
    · cases h
theorem bindL_len : ∀ {g : Tg} {us : List T} {ρ ρ' : Env}, bindL g us ρ = some ρ' → ρ'.length = ρ.length
  | .nil, [], ρ, ρ', h => by simp only [bindL, Option.some.injEq] at h; rw [h]
  | .cons a b, u :: us, ρ, ρ', h => by
    simp only [bindL] at h
    obtain ⟨ρ1, h1, h2⟩ := Option.bind_eq_some_iff.mp h
    rw [bindL_len h2, bindG_len h1]
  | .nil, _ :: _, _, _, h => by simp [bindL] at h
  | .cons _ _, [], _, _, h => by simp [bindL] at h
  | .nm _, _, _, _, h => by simp [bindL] at h
end
/-- what is stored holds no part that is only read -/
theorem prt_nv {t : T} {us : List T} (n : t.nv = true) (h : t.prt = some us) : T.nvs us = true := by
  match t, h with
  | .leaf (.tup ds), h =>
    simp only [T.prt, Option.some.injEq] at h
    subst h
    exact T.nvs_leaf ds
  | .tup ts, h =>
    simp only [T.prt, Option.some.injEq] at h
    subst h
    simpa only [T.nv] using n
  | .leaf .non, h | .leaf (.bl _), h | .leaf (.int _), h | .leaf (.str _), h | .leaf (.lst _), h | .leaf .bag, h | .leaf (.obj _ _), h | .leaf (.scr _), h | .leaf (.opq _), h | .leaf .emp, h => simp [T.prt] at h
  | .vw _, h => simp [T.prt] at h
  | .reg _, h => simp [T.prt] at h
  | .lst _, h => simp [T.prt] at h
theorem bindL_num {c : Ct} : ∀ {g : Tg} {us : List T} {ρ ρ' : Env} {es : List Expr}, bindL g us ρ = some ρ' → okGs c g es = true → us.length = es.length
  | .nil, [], _, _, [], _, _ => rfl
  | .cons a b, u :: us, ρ, ρ', e :: es, h, k => by
    simp only [bindL] at h
    obtain ⟨ρ1, h1, h2⟩ := Option.bind_eq_some_iff.mp h
    simp only [okGs, Bool.and_eq_true] at k
    rw [List.length_cons, List.length_cons, bindL_num h2 k.2]
  | .nil, _ :: _, _, _, _, h, _ => by simp [bindL] at h
  | .nil, [], _, _, _ :: _, _, k => by simp [okGs] at k
  | .cons _ _, [], _, _, _, h, _ => by simp [bindL] at h
  | .cons _ _, _ :: _, _, _, [], _, k => by simp [okGs] at k
  | .nm _, _, _, _, _, h, _ => by simp [bindL] at h
theorem asg_map {c : Ct} {env : PySem.Env} {g : Tg} {e : Expr} {es : List Expr} (k : okG c g e = true) : List.map (fun x => x.snd) (assignEach (e :: es) env) = assign e env :: List.map (fun x => x.snd) (assignEach es env) := by
  cases e with
  | Starred x p => cases g <;> simp [okG] at k
  | _ => rfl
theorem asg_of {c : Ct} {env : PySem.Env} : ∀ {g : Tg} {es : List Expr}, okGs c g es = true → (assignEach es env).length = es.length ∧ List.findIdx? (fun x => x.fst) (assignEach es env) = none
  | .nil, [], _ => ⟨rfl, rfl⟩
  | .cons a b, e :: es, k => by
    simp only [okGs, Bool.and_eq_true] at k
    obtain ⟨i1, i2⟩ := asg_of (env := env) k.2
    have hh : ∃ f, assignEach (e :: es) env = (false, f) :: assignEach es env := by
      cases e with
      | Starred x p => cases a <;> simp [okG] at k
      | _ => exact ⟨_, rfl⟩
    obtain ⟨f, hf⟩ := hh
    rw [hf]
    refine ⟨by simp [i1], ?_⟩
    rw [List.findIdx?_cons]
    simp [i2]
  | .nil, _ :: _, k => by simp [okGs] at k
  | .cons _ _, [], k => by simp [okGs] at k
  | .nm _, _, k => by simp [okGs] at k
theorem okG_nm {c : Ct} {i : Nat} {e : Expr} (h : okG c (.nm i) e = true) : ∃ x p, e = .Name x p := by
  cases e with
  | Name x p => exact ⟨x, p, rfl⟩
  | _ => exact nomatch (show false = true from h)
theorem okG_nil {c : Ct} {e : Expr} (h : okG c .nil e = true) : ∃ j p, e = .Tuple [] j p := by
  cases e with
  | Tuple es j p =>
    cases es with
    | nil => exact ⟨j, p, rfl⟩
    | cons a b => simp [okG] at h
  | _ => exact nomatch (show false = true from h)
theorem okG_cons {c : Ct} {ga gb : Tg} {e : Expr} (h : okG c (.cons ga gb) e = true) : ∃ e1 es j p, e = .Tuple (e1 :: es) j p := by
  cases e with
  | Tuple es j p =>
    cases es with
    | nil => simp [okG] at h
    | cons a b => exact ⟨a, b, j, p, rfl⟩
  | _ => exact nomatch (show false = true from h)
theorem dgB {c : Ct} (xo : XOk a X) (co : COk c X) (g : Tg) :
    (∀ {e : Expr} {t : T} {v : V} {ρ ρ' : Env} {σ : L2.St} {ts : List T} {vs : List V} {H : Hp} {Q : L2.St → Hp → Prop}, okG c g e = true → t.nv = true →
      SOk a ρ σ (t :: ts) (v :: vs) H → bindG g t ρ = some ρ' → (∀ σ', SOk a ρ' σ' ts vs H → (∀ own : List Nat, (∀ i ∈ g.slots, i ∈ own) → L2.wipe σ' own = L2.wipe σ own) → Q σ' H) → WG X e v σ H Q) ∧
    (∀ {es : List Expr} {us : List T} {ws : List V} {ρ ρ' : Env} {σ : L2.St} {ts : List T} {vs : List V} {H : Hp} {Q : L2.St → Hp → Prop}, okGs c g es = true → T.nvs us = true →
      SOk a ρ σ (us ++ ts) (ws ++ vs) H → us.length = ws.length → bindL g us ρ = some ρ' → (∀ σ', SOk a ρ' σ' ts vs H → (∀ own : List Nat, (∀ i ∈ g.slots, i ∈ own) → L2.wipe σ' own = L2.wipe σ own) → Q σ' H) → WGs X es ws σ H Q) := by
  induction g with
  | nm i =>
    refine ⟨fun {e t v ρ ρ' σ ts vs H Q} ok n so hb k => ?_, fun {es us ws ρ ρ' σ ts vs H Q} ok n so l hb k => by simp [okGs] at ok⟩
    obtain ⟨x, _, rfl⟩ := okG_nm ok
    simp only [okG, Bool.and_eq_true] at ok
    obtain ⟨l1, l2⟩ := Ct.loc_of co ok.2
    refine ⟨_, pg_name xo.nd (nameIs_of co ok.1) l1 l2, ?_⟩
    simp only [bindG] at hb
    split at hb
    · rename_i hi
      cases hb
      exact k _ (so.put hi n) fun own ho => wipe_set (ho i (by simp [Tg.slots]))
    · cases hb
  | nil =>
    have two : ∀ {es : List Expr} {us : List T} {ws : List V} {ρ ρ' : Env} {σ : L2.St} {ts : List T} {vs : List V} {H : Hp} {Q : L2.St → Hp → Prop}, okGs c .nil es = true → T.nvs us = true →
      SOk a ρ σ (us ++ ts) (ws ++ vs) H → us.length = ws.length → bindL .nil us ρ = some ρ' → (∀ σ', SOk a ρ' σ' ts vs H → (∀ own : List Nat, (∀ i ∈ (Tg.nil).slots, i ∈ own) → L2.wipe σ' own = L2.wipe σ own) → Q σ' H) → WGs X es ws σ H Q := fun {es us ws ρ ρ' σ ts vs H Q} ok n so l hb k => by
      cases es with
      | cons _ _ => simp [okGs] at ok
      | nil =>
        cases us with
        | cons _ _ => simp [bindL] at hb
        | nil =>
          cases ws with
          | cons _ _ => simp at l
          | nil =>
            simp only [bindL, Option.some.injEq] at hb
            subst hb
            exact ⟨_, pgs_nil, rfl, k σ so fun _ _ => rfl⟩
    refine ⟨fun {e t v ρ ρ' σ ts vs H Q} ok n so hb k => ?_, two⟩
    obtain ⟨j, pp, rfl⟩ := okG_nil ok
    simp only [bindG] at hb
    split at hb
    · rename_i us hu
      obtain ⟨F, Sc, Sm, w⟩ := so
      obtain ⟨l, ws, rfl, hl, ⟨l2, n2⟩, Sm', w'⟩ := w.opent hu
      refine ⟨_, pg_tup xo.calm (pgs_W (e := [])), ?_⟩
      show ∃ a xs, V.ref l = .ref a ∧ SqT X.K H a xs ∧ xs.length = 0 ∧ WGs X [] xs σ H Q
      rw [xo.K]
      cases us with
      | nil =>
        obtain rfl : ws = [] := List.eq_nil_of_length_eq_zero l2.symm
        exact ⟨l, [], rfl, hl, rfl, two rfl rfl (show SOk a ρ σ ([] ++ ts) ([] ++ vs) H from ⟨F, Sc, Sm', w'⟩) rfl hb k⟩
      | cons u us => simp [bindL] at hb
    · cases hb
  | cons ga gb iha ihb =>
    have two : ∀ {es : List Expr} {us : List T} {ws : List V} {ρ ρ' : Env} {σ : L2.St} {ts : List T} {vs : List V} {H : Hp} {Q : L2.St → Hp → Prop}, okGs c (.cons ga gb) es = true → T.nvs us = true →
      SOk a ρ σ (us ++ ts) (ws ++ vs) H → us.length = ws.length → bindL (.cons ga gb) us ρ = some ρ' → (∀ σ', SOk a ρ' σ' ts vs H → (∀ own : List Nat, (∀ i ∈ (Tg.cons ga gb).slots, i ∈ own) → L2.wipe σ' own = L2.wipe σ own) → Q σ' H) → WGs X es ws σ H Q := fun {es us ws ρ ρ' σ ts vs H Q} ok n so l hb k => by
      cases es with
      | nil => simp [okGs] at ok
      | cons e es =>
        cases us with
        | nil => simp [bindL] at hb
        | cons u us =>
          cases ws with
          | nil => simp at l
          | cons w ws =>
            simp only [okGs, Bool.and_eq_true] at ok
            simp only [T.nvs, Bool.and_eq_true] at n
            simp only [bindL] at hb
            obtain ⟨ρ1, h1, h2⟩ := Option.bind_eq_some_iff.mp hb
            refine ⟨_, pgs_cons pg_W pgs_W (hs := asg_map ok.1), ?_⟩
            refine ⟨w, ws, rfl, ?_⟩
            refine iha.1 ok.1 n.1 (show SOk a ρ σ (u :: (us ++ ts)) (w :: (ws ++ vs)) H from so) h1 fun σ1 so1 e1 => ?_
            refine ihb.2 ok.2 n.2 so1 (by simpa using l) h2 fun σ2 so2 e2 => k σ2 so2 fun own ho => ?_
            rw [e2 own fun i hi => ho i (by simp [Tg.slots, hi]), e1 own fun i hi => ho i (by simp [Tg.slots, hi])]
    refine ⟨fun {e t v ρ ρ' σ ts vs H Q} ok n so hb k => ?_, two⟩
    obtain ⟨e1, es, j, pp, rfl⟩ := okG_cons ok
    simp only [bindG] at hb
    split at hb
    · rename_i u us hu
      obtain ⟨F, Sc, Sm, w⟩ := so
      obtain ⟨l, ws, rfl, hl, ⟨l2, n2⟩, Sm', w'⟩ := w.opent hu
      have okk : okGs c (.cons ga gb) (e1 :: es) = true := by simpa only [okGs, okG] using ok
      have hbb : bindL (.cons ga gb) (u :: us) ρ = some ρ' := by simp only [bindL]; exact hb
      refine ⟨_, pg_tup (n := (e1 :: es).length) xo.calm (pgs_W (e := e1 :: es)) (hn := (asg_of okk).1) (hst := (asg_of okk).2), ?_⟩
      show ∃ a xs, V.ref l = .ref a ∧ SqT X.K H a xs ∧ xs.length = (e1 :: es).length ∧ WGs X (e1 :: es) xs σ H Q
      rw [xo.K]
      have hlen : (u :: us).length = (e1 :: es).length := bindL_num hbb okk
      refine ⟨l, ws, rfl, hl, by rw [← l2]; exact hlen, ?_⟩
      exact two okk (prt_nv n hu) (show SOk a ρ σ ((u :: us) ++ ts) (ws ++ vs) H from ⟨F, Sc, Sm', w'⟩) l2 hbb k
    · cases hb
theorem dg {c : Ct} (xo : XOk a X) (co : COk c X) {g : Tg} {e : Expr} {t : T} {v : V} {ρ ρ' : Env} {σ : L2.St} {ts : List T} {vs : List V} {H : Hp} {Q : L2.St → Hp → Prop} (h1 : okG c g e = true) (h2 : t.nv = true)
    (h3 : SOk a ρ σ (t :: ts) (v :: vs) H) (h4 : bindG g t ρ = some ρ') (h5 : ∀ σ', SOk a ρ' σ' ts vs H → (∀ own : List Nat, (∀ i ∈ g.slots, i ∈ own) → L2.wipe σ' own = L2.wipe σ own) → Q σ' H) : WG X e v σ H Q := (dgB xo co g).1 h1 h2 h3 h4 h5
end
end DL
namespace ZM
open PySem PySem.Spec PyProof.Rows L2
open PySem.Sem (wp)
section
variable {prog : Program} {w : World} {A : Around} {E : Value → Shared → Prop} {s : Shared}
/-- one turn of the machine's zip whose first walk is over a tuple and whose second is over a list: a pair, or the end -/
theorem turn1 {z TI TO i1 i2 l1 l2 : Addr} {k1 k2 : Nat} {xs ys : Array Value} {a b : Value} {Q : Value → Shared → Prop} (hh : A.handled = none) (D : ZipApart z TI TO i1 i2 l1 l2)
    (hz : IsZip s.heap z TI TO .none) (hTI : IsPair s.heap TI (.ref i1) (.ref i2)) (hTO : IsPair s.heap TO a b)
    (h1 : s.heap.IsTupleIter i1 l1 k1) (h2 : s.heap.IsListIter i2 l2 k2) (hl1 : s.heap.IsTuple l1 xs) (hl2 : s.heap.IsList l2 ys)
    (hQ : ∀ x y, xs[k1]? = some x → ys[k2]? = some y → ∀ h', IsZip h' z TI TO (rawInt s.heap.objs.size) → IsPair h' TO x y → h'.IsTupleIter i1 l1 (k1 + 1) → h'.IsListIter i2 l2 (k2 + 1) → IsPair h' s.heap.objs.size x y →
      h'.objs.size = s.heap.objs.size + 1 → (∀ c o, c ≠ z → c ≠ TO → c ≠ i1 → c ≠ i2 → s.heap.get? c = some o → h'.get? c = some o) → Q (.ref s.heap.objs.size) { s with heap := h' })
    (hE : (xs[k1]? = none ∨ ys[k2]? = none) → ∀ h' e, (∀ c o, c ≠ z → c ≠ TO → c ≠ i1 → c ≠ i2 → s.heap.get? c = some o → h'.get? c = some o) → (∃ o, h'.get? e = some o ∧ o.cls = .type "StopIteration") → E (.ref e) { s with heap := h' }) :
    wpAny (model prog w) A (Builtin.«zip.__next__» ⟨[.ref z], []⟩) (fun fin s' => ∃ v, fin = .done (.ret v) ∧ Q v s') E s := by
  have stop : ∀ (h h2 : Heap) (e : Addr) {R : Unit → Shared → Prop}, (xs[k1]? = none ∨ ys[k2]? = none) → IsZip h2 z TI TO .ellipsis → (∀ c o, c ≠ z → c ≠ TO → c ≠ i1 → c ≠ i2 → s.heap.get? c = some o → h2.get? c = some o) →
      (∃ o, h2.get? e = some o ∧ o.cls = .type "StopIteration") → ∀ h3, Heap.SameBut z h2 h3 → E (.ref e) { s with heap := h3 } := fun h h2 e R no q1 q2 q3 h3 sb => by
    obtain ⟨oe, hoe, hce⟩ := q3
    have ne : e ≠ z := fun x => by subst x; rw [q1] at hoe; cases hoe; simp at hce
    exact hE no h3 e (fun c o c1 c2 c3 c4 x => sb.extBut _ _ c1 (q2 c o c1 c2 c3 c4 x)) ⟨oe, sb.extBut _ _ ne hoe, hce⟩
  show wpAny _ _ (field (.ref z) 2 >>= _) _ _ _
  refine wpAny_bind (wpAny_field hz rfl (x := .bool false) rfl ?_)
  show wpAny _ _ (field (.ref z) 3 >>= _) _ _ _
  refine wpAny_bind (wpAny_field hz rfl (x := .ref TI) rfl (wpAny_bind (wpAny_seqItems hTI rfl ?_)))
  show wpAny _ _ (Builtin.SmallTypes.ownedTupleIsFree (.ref z) >>= _) _ _ _
  refine wpAny_bind ?_
  unfold Builtin.SmallTypes.ownedTupleIsFree
  refine wpAny_bind (wpAny_field hz rfl (x := .none) rfl (wpAny_pure ?_))
  simp only [if_true]
  refine wpAny_bind (wpAny_rule (wpAny_bind (wpAny_field hz rfl (x := .ref TO) rfl (wpAny_bind (wpAny_setField_rec hz (by simp) fun g1 z1 s1 => ?_)))))
  have z1 : IsZip g1 z TI TO .ellipsis := z1
  refine wpAny_bind ?_
  simp only [List.zipIdx_cons, List.zipIdx_nil, List.forIn_cons, List.forIn_nil]
  refine wpAny_bind (wpAny_bind (wpAny_onRaise ?_))
  show wpAny _ _ (Builtin.SmallTypes.nextOf (.ref i1) >>= _) _ _ _
  cases hx : xs[k1]? with
  | none =>
    exact wpAny_bind (RZ.nextOf_tuple_end hh (h1.extBut s1.extBut D.i1z) (hl1.extBut s1.extBut D.l1z) hx fun g2 e s2 he =>
      have z2 : IsZip g2 z TI TO .ellipsis := s2 _ _ D.i1z.symm z1
      wpAny_setField_rec z2 (by simp) fun g3 _ s3 => stop g1 g2 e (R := fun _ _ => True) (.inl hx) z2 (fun c o c1 _ c3 _ q => s2 _ _ c3 (s1.extBut _ _ c1 q)) he g3 s3)
  | some x =>
    refine wpAny_bind (RZ.nextOf_tuple_item (h1.extBut s1.extBut D.i1z) (hl1.extBut s1.extBut D.l1z) hx fun g2 j1 s2 => wpAny_pure ?_)
    have to2 : IsPair g2 TO a b := s2.extBut _ _ D.TOi1 (s1.extBut _ _ D.TOz hTO)
    have j2 : g2.IsListIter i2 l2 k2 := (h2.extBut s1.extBut D.i2z).extBut s2.extBut D.i12.symm
    have m2 : g2.IsList l2 ys := (hl2.extBut s1.extBut D.l2z).extBut s2.extBut D.l2i1
    have z2 : IsZip g2 z TI TO .ellipsis := s2.extBut _ _ D.i1z.symm z1
    refine wpAny_bind (wpAny_seqItems to2 rfl (wpAny_bind (wpAny_updateSeq_pair to2 fun g3 to3 s3 => wpAny_bind (wpAny_letGo (wpAny_pure ?_)))))
    have to3 : IsPair g3 TO x b := to3
    have z3 : IsZip g3 z TI TO .ellipsis := s3.extBut _ _ D.TOz.symm z2
    have up3 : ∀ c o, c ≠ z → c ≠ TO → c ≠ i1 → s.heap.get? c = some o → g3.get? c = some o := fun c o c1 c2 c3 q => s3.extBut _ _ c2 (s2.extBut _ _ c3 (s1.extBut _ _ c1 q))
    refine wpAny_bind (wpAny_bind (wpAny_onRaise ?_))
    show wpAny _ _ (Builtin.SmallTypes.nextOf (.ref i2) >>= _) _ _ _
    cases hy : ys[k2]? with
    | none =>
      exact wpAny_bind (wpAny_nextOf_list_end hh (j2.extBut s3.extBut D.TOi2.symm) (m2.extBut s3.extBut D.l2TO) hy fun g4 e s4 he =>
        have z4 : IsZip g4 z TI TO .ellipsis := s4 _ _ D.i2z.symm z3
        wpAny_setField_rec z4 (by simp) fun g5 _ s5 => stop g3 g4 e (R := fun _ _ => True) (.inr hy) z4 (fun c o c1 c2 c3 c4 q => s4 _ _ c4 (up3 c o c1 c2 c3 q)) he g5 s5)
    | some y =>
      refine wpAny_bind (wpAny_nextOf_list_item (j2.extBut s3.extBut D.TOi2.symm) (m2.extBut s3.extBut D.l2TO) hy fun g4 j4 s4 => wpAny_pure ?_)
      have to4 : IsPair g4 TO x b := s4.extBut _ _ D.TOi2 to3
      refine wpAny_bind (wpAny_seqItems to4 rfl (wpAny_bind (wpAny_updateSeq_pair to4 fun g5 to5 s5 => wpAny_bind (wpAny_letGo (wpAny_pure (wpAny_pure ?_))))))
      have to5 : IsPair g5 TO x y := to5
      have z5 : IsZip g5 z TI TO .ellipsis := s5.extBut _ _ D.TOz.symm (s4.extBut _ _ D.i2z.symm z3)
      have up5 : ∀ c o, c ≠ z → c ≠ TO → c ≠ i1 → c ≠ i2 → s.heap.get? c = some o → g5.get? c = some o := fun c o c1 c2 c3 c4 q => s5.extBut _ _ c2 (s4.extBut _ _ c4 (up3 c o c1 c2 c3 q))
      have n1 : g5.IsTupleIter i1 l1 (k1 + 1) := ((j1.extBut s3.extBut D.TOi1.symm).extBut s4.extBut D.i12).extBut s5.extBut D.TOi1.symm
      have n2 : g5.IsListIter i2 l2 (k2 + 1) := j4.extBut s5.extBut D.TOi2.symm
      have size : g5.objs.size = s.heap.objs.size := by rw [s5.1, s4.1, s3.1, s2.1, s1.1]
      have zl : z < g5.objs.size := Heap.lt_size z5
      refine wpAny_bind (wpAny_seqItems to5 rfl (wpAny_bind (wpAny_newTuple ?_)))
      show wpAny _ _ (Builtin.SmallTypes.ownedTupleHandOut (.ref z) (.ref g5.objs.size) >>= _) _ _ _
      refine wpAny_bind ?_
      unfold Builtin.SmallTypes.ownedTupleHandOut
      have z6 : IsZip (g5.push { cls := .type "tuple", data := .seq #[x, y] }) z TI TO .ellipsis := Heap.get?_push_of_some _ z5
      refine wpAny_bind (wpAny_setField_rec z6 (by simp) fun g7 z7 s7 => ?_)
      have z7 : IsZip g7 z TI TO (rawInt g5.objs.size) := z7
      refine wpAny_setField_rec z7 (by simp) fun g8 z8 s8 => ?_
      have z8 : IsZip g8 z TI TO (rawInt g5.objs.size) := z8
      have up8 : ∀ c o, c ≠ z → g5.get? c = some o → g8.get? c = some o := fun c o c1 q => s8.extBut _ _ c1 (s7.extBut _ _ c1 (Heap.get?_push_of_some _ q))
      have new8 : IsPair g8 g5.objs.size x y := s8.extBut _ _ (Nat.ne_of_gt zl) (s7.extBut _ _ (Nat.ne_of_gt zl) (Heap.get?_push_size _ rfl))
      have size8 : g8.objs.size = g5.objs.size + 1 := by rw [s8.1, s7.1, Heap.size_push]
      refine wpAny_pure ⟨_, rfl, ?_⟩
      show Q (.ref g5.objs.size) _
      rw [size] at z8 new8 size8 ⊢
      exact hQ x y hx hy g8 z8 (up8 _ _ D.TOz to5) (n1.at fun o q => up8 _ o D.i1z q) (n2.at fun o q => up8 _ o D.i2z q) new8 size8 fun c o c1 c2 c3 c4 q => up8 c o c1 (up5 c o c1 c2 c3 c4 q)
theorem next1 {z TI TO i1 i2 l1 l2 : Addr} {k1 k2 : Nat} {xs ys : Array Value} {a b : Value} {Q : Option Value → Shared → Prop} (hh : A.handled = none) (D : ZipApart z TI TO i1 i2 l1 l2)
    (hz : IsZip s.heap z TI TO .none) (hTI : IsPair s.heap TI (.ref i1) (.ref i2)) (hTO : IsPair s.heap TO a b)
    (h1 : s.heap.IsTupleIter i1 l1 k1) (h2 : s.heap.IsListIter i2 l2 k2) (hl1 : s.heap.IsTuple l1 xs) (hl2 : s.heap.IsList l2 ys)
    (hQ : ∀ x y, xs[k1]? = some x → ys[k2]? = some y → ∀ h', IsZip h' z TI TO (rawInt s.heap.objs.size) → IsPair h' TO x y → h'.IsTupleIter i1 l1 (k1 + 1) → h'.IsListIter i2 l2 (k2 + 1) → IsPair h' s.heap.objs.size x y →
      h'.objs.size = s.heap.objs.size + 1 → (∀ c o, c ≠ z → c ≠ TO → c ≠ i1 → c ≠ i2 → s.heap.get? c = some o → h'.get? c = some o) → Q (some (.ref s.heap.objs.size)) { s with heap := h' })
    (hN : (xs[k1]? = none ∨ ys[k2]? = none) → ∀ h', (∀ c o, c ≠ z → c ≠ TO → c ≠ i1 → c ≠ i2 → s.heap.get? c = some o → h'.get? c = some o) → Q none { s with heap := h' }) : wpAny (model prog w) A (pyNext (.ref z)) Q E s := by
  have hT : s.TypeIs (.ref z) "zip" := ⟨_, hz, rfl⟩
  unfold pyNext
  refine wpAny_bind (wpAny_attempt (wpAny_callSpecial?_slot (name := Str.ofString "__next__") hT F.slot_zip_next (wpAny_call_entry F.slot_zip_next hT F.entry_zip_next
    (turn1 hh D hz hTI hTO h1 h2 hl1 hl2 (fun x y e1 e2 h' a1 a2 a3 a4 a5 a6 a7 => wpAny_pure (hQ x y e1 e2 h' a1 a2 a3 a4 a5 a6 a7)) fun no h' e hk he => ?_) (F.args_zip_next_1 _))))
  obtain ⟨o, ho, hc⟩ := he
  exact wpAny_bind (wpAny_isInstance (T := "StopIteration") (b := true) ⟨o, ho, hc⟩ isSubtype_stop (wpAny_pure (hN no _ hk)))
end
/-- the heaps on the way to zip(t, l): two walks, two pairs, the zip -/
noncomputable abbrev hA (h : Heap) (l1 : Addr) : Heap := h.push { cls := .type "tuple_iterator", data := .fields #[.ref l1, .int 0 0] }
noncomputable abbrev hB (h : Heap) (l1 l2 : Addr) : Heap := (hA h l1).push { cls := .type "list_iterator", data := .fields #[.ref l2, .int 0 0] }
noncomputable abbrev hC (h : Heap) (l1 l2 : Addr) : Heap := (hB h l1 l2).push { cls := .type "tuple", data := .seq #[.ref h.objs.size, .ref (hA h l1).objs.size] }
noncomputable abbrev hD (h : Heap) (l1 l2 : Addr) : Heap := (hC h l1 l2).push { cls := .type "tuple", data := .seq #[.none, .none] }
noncomputable abbrev hZ (h : Heap) (l1 l2 : Addr) : Heap := (hD h l1 l2).push { cls := .type "zip", data := .fields #[.none, .bool false, .bool false, .ref (hB h l1 l2).objs.size, .ref (hC h l1 l2).objs.size] }
theorem meets_new (l1 l2 : Addr) (xs ys : Array Value) :
    Meets (Builtin.«zip.__new__» ⟨[.type "zip", .ref l1, .ref l2], []⟩) (fun _ R s => s.heap.IsTuple l1 xs ∧ s.heap.IsList l2 ys ∧ R (.ok (.ret (.ref (hD s.heap l1 l2).objs.size))) { s with heap := hZ s.heap l1 l2 }) :=
  .of_wp fun prog w A R s h => by
    obtain ⟨hp, g, d, tk, os⟩ := s
    obtain ⟨t1, t2, h⟩ := h
    have isz := sub_zip
    have T1 : Heap.IsTuple (Shared.heap ⟨hp, g, d, tk, os⟩) l1 xs := t1
    have T2 : Heap.IsList (Shared.heap ⟨hA hp l1, g, d, tk, os⟩) l2 ys := Heap.IsList.push t2 _
    wp_walk using wpAny_pyIter_tuple T1, wpAny_pyIter_list T2
    exact ⟨_, rfl, h⟩
section
variable {prog : Program} {w : World} {A : Around} {E : Value → Shared → Prop} {s : Shared}
theorem call1 {l1 l2 : Addr} {xs ys : Array Value} {Q : Value → Shared → Prop} (hl1 : s.heap.IsTuple l1 xs) (hl2 : s.heap.IsList l2 ys)
    (k : ∀ h', IsZip h' (s.heap.objs.size + 4) (s.heap.objs.size + 2) (s.heap.objs.size + 3) .none → IsPair h' (s.heap.objs.size + 2) (.ref s.heap.objs.size) (.ref (s.heap.objs.size + 1)) → IsPair h' (s.heap.objs.size + 3) .none .none →
      h'.IsTupleIter s.heap.objs.size l1 0 → h'.IsListIter (s.heap.objs.size + 1) l2 0 → (∀ c o, s.heap.get? c = some o → h'.get? c = some o) → Q (.ref (s.heap.objs.size + 4)) { s with heap := h' }) :
    wpAny (model prog w) A (call (.type "zip") [.ref l1, .ref l2]) Q E s := by
  refine callType_new F.called_zip (by decide) (F.typeCall_zip_2 _ _) (F.newCall_zip_2 _ _) (fun obj => F.args_object_init_3 obj _ _) F.entry_zip_new (meets_new l1 l2 xs ys) ⟨hl1, hl2, ?_⟩
  have a1 : (hA s.heap l1).objs.size = s.heap.objs.size + 1 := Heap.size_push ..
  have a2 : (hB s.heap l1 l2).objs.size = s.heap.objs.size + 2 := by rw [Heap.size_push, a1]
  have a3 : (hC s.heap l1 l2).objs.size = s.heap.objs.size + 3 := by rw [Heap.size_push, a2]
  have a4 : (hD s.heap l1 l2).objs.size = s.heap.objs.size + 4 := by rw [Heap.size_push, a3]
  have up : ∀ {c o}, (hA s.heap l1).get? c = some o → (hZ s.heap l1 l2).get? c = some o := fun q => Heap.get?_push_of_some _ (Heap.get?_push_of_some _ (Heap.get?_push_of_some _ (Heap.get?_push_of_some _ q)))
  have o1 : (hZ s.heap l1 l2).get? s.heap.objs.size = some { cls := .type "tuple_iterator", data := .fields #[.ref l1, .int 0 0] } := up (Heap.get?_push_size _ rfl)
  have o2 : (hZ s.heap l1 l2).get? (hA s.heap l1).objs.size = some { cls := .type "list_iterator", data := .fields #[.ref l2, .int 0 0] } := Heap.get?_push_of_some _ (Heap.get?_push_of_some _ (Heap.get?_push_of_some _ (Heap.get?_push_size _ rfl)))
  have o3 : IsPair (hZ s.heap l1 l2) (hB s.heap l1 l2).objs.size (.ref s.heap.objs.size) (.ref (hA s.heap l1).objs.size) := Heap.get?_push_of_some _ (Heap.get?_push_of_some _ (Heap.get?_push_size _ rfl))
  have o4 : IsPair (hZ s.heap l1 l2) (hC s.heap l1 l2).objs.size .none .none := Heap.get?_push_of_some _ (Heap.get?_push_size _ rfl)
  have o5 : IsZip (hZ s.heap l1 l2) (hD s.heap l1 l2).objs.size (hB s.heap l1 l2).objs.size (hC s.heap l1 l2).objs.size .none := Heap.get?_push_size _ rfl
  show _ ∧ _
  rw [a4, a2, a3] at o5
  rw [a3] at o4
  rw [a2, a1] at o3
  rw [a1] at o2
  rw [a4]
  exact ⟨⟨_, o5, rfl⟩, k _ o5 o3 o4 ⟨_, o1, rfl, rfl⟩ ⟨_, o2, rfl, rfl⟩ fun c o q => up (Heap.get?_push_of_some _ q)⟩
end
/-- a tuple at a and a list at b, as they stand at each turn, the items in new pairs -/
noncomputable def It1 (K : PySem.W.Frag) (a b : Addr) : It :=
  ⟨fun i H => ∃ (xs ys : List V) (x y : V), SqT K H a xs ∧ SqL K H b ys ∧ xs[i]? = some x ∧ ys[i]? = some y,
    fun i H v H' => ∃ T x y, v = .ref T ∧ H T = none ∧ H' = upd H T (.tup [x, y]) ∧ (∀ xs, SqT K H a xs → xs[i]? = some x) ∧ ∀ ys, SqL K H b ys → ys[i]? = some y,
    fun i H => ∃ xs ys : List V, SqT K H a xs ∧ SqL K H b ys ∧ (xs.length ≤ i ∨ ys.length ≤ i)⟩
theorem turn {P : Program} {w : World} {K : PySem.W.Frag} {elts : List Expr} {kk : Nat} {tpos : Pos} {a b z TI TO i1 i2 : Addr} (D : ZipApart z TI TO i1 i2 a b) :
    Turn P w K (.Tuple elts kk tpos) (It1 K a b) [z, TI, TO, i1, i2] z (fun i h => IsZip h z TI TO .none ∧ IsPair h TI (.ref i1) (.ref i2) ∧ (∃ x y, IsPair h TO x y) ∧ h.IsTupleIter i1 a i ∧ h.IsListIter i2 b i) where
  mem := by simp
  obj := fun i h st c hc => by
    obtain ⟨hz, hTI, ⟨x, y, hTO⟩, ⟨o1, e1, _, d1⟩, ⟨o2, e2, _, d2⟩⟩ := st
    simp only [List.mem_cons, List.not_mem_nil, or_false] at hc
    rcases hc with rfl | rfl | rfl | rfl | rfl
    · exact ⟨_, hz, fun v q => nomatch q⟩
    · exact ⟨_, hTI, fun v q => nomatch q⟩
    · exact ⟨_, hTO, fun v q => nomatch q⟩
    · exact ⟨o1, e1, fun v q => by rw [d1] at q; cases q⟩
    · exact ⟨o2, e2, fun v q => by rw [d2] at q; cases q⟩
  keep := fun i h h' ⟨hz, hTI, ⟨x, y, hTO⟩, h1, h2⟩ k => ⟨k z (by simp) _ hz, k TI (by simp) _ hTI, ⟨x, y, k TO (by simp) _ hTO⟩, h1.at fun o q => k i1 (by simp) o q, h2.at fun o q => k i2 (by simp) o q⟩
  item := by
    intro X hP hw hK hc i pins s σ H E I hf st hg
    subst hP hw hK
    obtain ⟨hz, hTI, ⟨x0, y0, hTO⟩, h1, h2⟩ := st
    obtain ⟨xs, ys, x, y, hqx, hqy, hx, hy⟩ := hg
    obtain ⟨its, rv, p, _⟩ := I.tuple hqx
    obtain ⟨its2, rv2, p2, _⟩ := I.list hqy
    obtain ⟨u, hu, ru⟩ := rv.get hx
    obtain ⟨u2, hu2, ru2⟩ := rv2.get hy
    have hu' : its.toArray[i]? = some u := by simpa using hu
    have hu2' : its2.toArray[i]? = some u2 := by simpa using hu2
    have hzl : z < s.heap.objs.size := Heap.lt_size hz
    refine next1 (I.ok.hd hc) D hz hTI hTO h1 h2 p p2.isList (fun v v2 e1 e2 h' z' to' h1' h2' hT hsz hk => ?_) fun no => by rw [hu', hu2'] at no; rcases no with no | no <;> cases no
    rw [hu'] at e1
    rw [hu2'] at e2
    cases e1
    cases e2
    have out : ∀ {c}, c ∉ [z, TI, TO, i1, i2] → c ≠ z ∧ c ≠ TO ∧ c ≠ i1 ∧ c ≠ i2 := fun {c} hb => by
      simp only [List.mem_cons, List.not_mem_nil, or_false, not_or] at hb
      exact ⟨hb.1, hb.2.2.1, hb.2.2.2.1, hb.2.2.2.2⟩
    refine ⟨_, rfl, wpAny_letOwnedTupleGo_zip (s := { s with heap := h' }) z' fun g zg sb => ?_⟩
    have hT2 : g.get? s.heap.objs.size = some { cls := .type "tuple", data := .seq #[u, u2] } := (sb.2 _ (Nat.ne_of_gt hzl)).trans hT
    have new : ObjOk X.prog X.w (upd H s.heap.objs.size (.tup [x, y])) g s.heap.objs.size (.tup [x, y]) := ⟨by show 2 ≤ sizeLine; decide, [u, u2], .cons ru (.cons ru2 .nil), ⟨_, hT2, rfl, _, rfl⟩⟩
    have I1 : Inv X pins σ (upd H s.heap.objs.size (.tup [x, y])) { s with heap := g } :=
      I.turnedNew (t' := s.toks) (ch := [z, TI, TO, i1, i2]) (fun c o hb q => (sb.2 c (out hb).1).trans (hk c o (out hb).1 (out hb).2.1 (out hb).2.2.1 (out hb).2.2.2 q)) hf (Nat.le_refl _) new
    refine ⟨.ref s.heap.objs.size, _, I1, rfl, ⟨_, x, y, rfl, I.hok.fresh (Nat.le_refl _), rfl, fun l hl => by rw [I.tuple_inj hl hqx]; exact hx, fun l hl => by rw [I.list_inj hl hqy]; exact hy⟩, ⟨zg, ?_, ⟨u, u2, ?_⟩, ?_, ?_⟩, fun c hcm => ?_⟩
    · exact (sb.2 _ D.TIz).trans (hk _ _ D.TIz D.TITO D.TIi1 D.TIi2 hTI)
    · exact (sb.2 _ D.TOz).trans to'
    · exact h1'.at fun o q => (sb.2 _ D.i1z).trans q
    · exact h2'.at fun o q => (sb.2 _ D.i2z).trans q
    · have hlt : c < s.heap.objs.size := by
        simp only [List.mem_cons, List.not_mem_nil, or_false] at hcm
        rcases hcm with rfl | rfl | rfl | rfl | rfl
        · exact hzl
        · exact Heap.lt_size hTI
        · exact Heap.lt_size hTO
        · obtain ⟨_, e1, _⟩ := h1; exact Heap.lt_size e1
        · obtain ⟨_, e1, _⟩ := h2; exact Heap.lt_size e1
      rw [upd_ne (Nat.ne_of_lt hlt)]
      exact (hf c hcm).1
  done := by
    intro X hP hw hK hc i pins s σ H E I hf st hg
    subst hP hw hK
    obtain ⟨hz, hTI, ⟨x0, y0, hTO⟩, h1, h2⟩ := st
    obtain ⟨xs, ys, hqx, hqy, hend⟩ := hg
    obtain ⟨its, rv, p, _⟩ := I.tuple hqx
    obtain ⟨its2, rv2, p2, _⟩ := I.list hqy
    have e1 := rv.length
    have e2 := rv2.length
    refine next1 (I.ok.hd hc) D hz hTI hTO h1 h2 p p2.isList (fun v v2 q1 q2 => ?_) fun _ h' hk => ⟨rfl, I.turnedL (t' := s.toks) (ch := [z, TI, TO, i1, i2]) (fun c o hb q => ?_) hf⟩
    · obtain ⟨b1, _⟩ := Array.getElem?_eq_some_iff.mp q1
      obtain ⟨b2, _⟩ := Array.getElem?_eq_some_iff.mp q2
      rw [List.size_toArray] at b1 b2
      omega
    · simp only [List.mem_cons, List.not_mem_nil, or_false, not_or] at hb
      exact hk c o hb.1 hb.2.2.1 hb.2.2.2.1 hb.2.2.2.2 q
  self := fun A i s Q E st h => wpAny_pyIter_zip st.1 h
/-- two lists, two tuples, or a tuple and a list -/
noncomputable def iZipM (K : PySem.W.Frag) (ta : TA) : TI := fun σ H R => ta σ H fun vs H1 => ∃ a b xs ys, vs = [.ref a, .ref b] ∧
  ((SqL K H1 a xs ∧ SqL K H1 b ys ∧ R (Itz K a b) H1) ∨ (SqT K H1 a xs ∧ SqT K H1 b ys ∧ R (RZ.ItzT K a b) H1) ∨ (SqT K H1 a xs ∧ SqL K H1 b ys ∧ R (It1 K a b) H1))
theorem pi_zipM {X : Cx} {e e2 : Expr} {ta : TA} {p pos tpos : Pos} {elts : List Expr} {kk : Nat} (hg : Gl X "zip") (hm : X.mg "zip" = none) (ha : PA X [e, e2] ta)
    (hs : starEach [e, e2] X.env = (false, eval e X.env) :: starEach [e2] X.env := by rfl) (hpl : (backTo pos (starEach [e2] X.env)).any (·.1) = false := by rfl) :
    PI X (.Tuple elts kk tpos) (.Call (.Name "zip" p) [e, e2] [] pos) (iZipM X.K ta) := by
  refine ⟨fun pins s σ H R I h => ?_⟩
  refine Call_ (ld_blt I hg hm PyProof.Rows.boot_zip (PyProof.Rows.callWith_type1 (thn (ha.run pos pins s σ H _ I h) fun us s1 ⟨vs, H1, I1, r1, q1⟩ => ?_) hs hpl))
  obtain ⟨a, b, xs, ys, rfl, q1⟩ := q1
  obtain ⟨u, u2, rfl, r, r'⟩ : ∃ u u2, us = [u, u2] ∧ RelV (.ref a) u ∧ RelV (.ref b) u2 := by
    cases r1 with
    | cons r rr => cases rr with
      | cons r' rr => cases rr; exact ⟨_, _, rfl, r, r'⟩
  cases r
  cases r'
  have fresh : ∀ c, c ∈ [s1.heap.objs.size + 4, s1.heap.objs.size + 2, s1.heap.objs.size + 3, s1.heap.objs.size, s1.heap.objs.size + 1] → FpOk X pins H1 c := fun c hc => by
    have hle : s1.heap.objs.size ≤ c := by
      simp only [List.mem_cons, List.not_mem_nil, or_false] at hc
      rcases hc with rfl | rfl | rfl | rfl | rfl
      · exact Nat.le_add_right _ _
      · exact Nat.le_add_right _ _
      · exact Nat.le_add_right _ _
      · exact Nat.le_refl _
      · exact Nat.le_add_right _ _
    exact I1.fpOk hle (I1.hok.fresh hle)
  rcases q1 with ⟨hqx, hqy, q⟩ | ⟨hqx, hqy, q⟩ | ⟨hqx, hqy, q⟩
  · obtain ⟨its, rv, p1, _⟩ := I1.list hqx
    obtain ⟨its2, rv2, p2, _⟩ := I1.list hqy
    exact call_zip_2 p1.isList p2.isList fun h' hz hTI hTO h1 h2 _ hk => wpAny_pyIter_zip hz ⟨_, _, _, _, H1, rfl, I1.kept (t' := s1.toks) hk, turn_zip (PySem.W.ktu_apart s1.heap.objs.size a b p1.lt p2.lt), ⟨hz, hTI, ⟨_, _, hTO⟩, h1, h2⟩, fresh, q⟩
  · obtain ⟨its, rv, p1, _⟩ := I1.tuple hqx
    obtain ⟨its2, rv2, p2, _⟩ := I1.tuple hqy
    obtain ⟨o1, ho1, _⟩ := id p1
    obtain ⟨o2, ho2, _⟩ := id p2
    exact RZ.call_zipT (show s1.heap.IsTuple a its.toArray from p1) (show s1.heap.IsTuple b its2.toArray from p2) fun h' hz hTI hTO h1 h2 _ hk => wpAny_pyIter_zip hz ⟨_, _, _, _, H1, rfl, I1.kept (t' := s1.toks) hk, RZ.turn_zipT (PySem.W.ktu_apart s1.heap.objs.size a b (Heap.lt_size ho1) (Heap.lt_size ho2)), ⟨hz, hTI, ⟨_, _, hTO⟩, h1, h2⟩, fresh, q⟩
  · obtain ⟨its, rv, p1, _⟩ := I1.tuple hqx
    obtain ⟨its2, rv2, p2, _⟩ := I1.list hqy
    obtain ⟨o1, ho1, _⟩ := id p1
    exact call1 (show s1.heap.IsTuple a its.toArray from p1) p2.isList fun h' hz hTI hTO h1 h2 hk => wpAny_pyIter_zip hz ⟨_, _, _, _, H1, rfl, I1.kept (t' := s1.toks) hk, turn (PySem.W.ktu_apart s1.heap.objs.size a b (Heap.lt_size ho1) p2.lt), ⟨hz, hTI, ⟨_, _, hTO⟩, h1, h2⟩, fresh, q⟩
end ZM
namespace DL
open PySem PySem.Spec PyProof.Rows L2
theorem new_enumT (l : Addr) (items : Array Value) : Meets (Builtin.«enumerate.__new__» ⟨[.type "enumerate", .ref l], []⟩) (fun _ R s => s.heap.IsTuple l items ∧
      R (.ok (.ret (.ref (s.heap.push { cls := .type "tuple_iterator", data := .fields #[.ref l, .int 0 0] }).objs.size)))
        { s with heap := (s.heap.push { cls := .type "tuple_iterator", data := .fields #[.ref l, .int 0 0] }).push { cls := .type "enumerate", data := .fields #[.none, .bool false, .ref s.heap.objs.size, rawInt 0, .none, .none] } }) :=
  .of_wp fun P w A R s hyp => by
    obtain ⟨hp, gg, dr, tk, os⟩ := s
    obtain ⟨isT, fin⟩ := hyp
    have isSub := sub_enumerate
    have it1 : ∀ {A' : Around} {E : Value → Shared → Prop} {Q : Value → Shared → Prop}, Q (.ref hp.objs.size) ⟨hp.push { cls := .type "tuple_iterator", data := .fields #[.ref l, .int 0 0] }, gg, dr, tk, os⟩ → wpAny (model P w) A' (pyIter (.ref l)) Q E ⟨hp, gg, dr, tk, os⟩ :=
      fun q => wpAny_pyIter_tuple isT q
    wp_walk using it1
    refine wpAny_stack_any fun _ => wpAny_pure ?_
    split
    · rename_i c _ _ _ _ _
      cases (c == Value.type "enumerate") <;> (wp_walk using it1) <;> exact ⟨_, rfl, fin⟩
    · wp_walk using it1
      exact ⟨_, rfl, fin⟩
section
variable {P : Program} {w : World} {A : Around} {E : Value → Shared → Prop} {s : Shared}
theorem call_enumT {l : Addr} {items : Array Value} {Q : Value → Shared → Prop} (isT : s.heap.IsTuple l items)
    (h : ∀ h', IsEnum h' (s.heap.objs.size + 1) s.heap.objs.size 0 .none → h'.IsTupleIter s.heap.objs.size l 0 → (∀ b o, s.heap.get? b = some o → h'.get? b = some o) → Q (.ref (s.heap.objs.size + 1)) { s with heap := h' }) :
    wpAny (model P w) A (call (.type "enumerate") [.ref l]) Q E s := by
  refine callType_new F.called_enumerate (by decide) (F.typeCall_enumerate_1 _) (F.newCall_enumerate_1 _) (fun o => F.args_object_init_2 o _) F.entry_enumerate_new (new_enumT l items) ⟨isT, ?_⟩
  have sz : (s.heap.push { cls := .type "tuple_iterator", data := .fields #[.ref l, .int 0 0] }).objs.size = s.heap.objs.size + 1 := Heap.size_push ..
  show _ ∧ _
  rw [sz]
  have at_ := Heap.get?_push_size (s.heap.push { cls := .type "tuple_iterator", data := .fields #[.ref l, .int 0 0] }) (o := { cls := .type "enumerate", data := .fields #[.none, .bool false, .ref s.heap.objs.size, rawInt 0, .none, .none] }) rfl
  rw [sz] at at_
  exact ⟨⟨_, at_, rfl⟩, h _ at_ ⟨_, Heap.get?_push_of_some _ (Heap.get?_push_size _ rfl), rfl, rfl⟩ fun b o e => Heap.get?_push_of_some _ (Heap.get?_push_of_some _ e)⟩
end
/-- the tuple at a, each item in a new pair -/
noncomputable def Itet (K : PySem.W.Frag) (a : Addr) : It :=
  ⟨fun i H => ∃ (xs : List V) (x : V), SqT K H a xs ∧ xs[i]? = some x, fun i H v H' => ∃ T x, v = .ref T ∧ H T = none ∧ H' = upd H T (.tup [.int (i : Nat), x]) ∧ ∀ xs, SqT K H a xs → xs[i]? = some x, fun i H => ∃ xs : List V, SqT K H a xs ∧ xs.length = i⟩
theorem turn_enumT {P : Program} {w : World} {K : PySem.W.Frag} {elts : List Expr} {kk : Nat} {tpos : Pos} (a e it : Addr) :
    Turn P w K (.Tuple elts kk tpos) (Itet K a) [e, it] e (fun i h => (∃ old, IsEnum h e it ((i : Nat) : Int) old) ∧ h.IsTupleIter it a i ∧ e ≠ it ∧ a ≠ it ∧ e ≠ a) where
  mem := List.mem_cons_self
  obj := fun i h st b hb => by
    obtain ⟨⟨old, en⟩, ⟨o, ho, hc, hd⟩, _⟩ := st
    rcases List.mem_cons.mp hb with rfl | hb
    · exact ⟨_, en, fun v q => nomatch q⟩
    · obtain rfl := List.mem_singleton.mp hb
      exact ⟨o, ho, fun v q => by rw [hd] at q; cases q⟩
  keep := fun i h h' st k => let ⟨⟨old, en⟩, hi, r⟩ := st; ⟨⟨old, k e List.mem_cons_self _ en⟩, hi.at fun o q => k it (List.mem_cons_of_mem _ List.mem_cons_self) o q, r⟩
  item := by
    intro X hP hw hK hc i pins s σ H E I hf st hg
    subst hP hw hK
    obtain ⟨⟨old, en⟩, hit, n1, n2, n3⟩ := st
    obtain ⟨xs, x, hq, hx⟩ := hg
    obtain ⟨its, rv, p, hz⟩ := I.tuple hq
    obtain ⟨u, hu, ru⟩ := rv.get hx
    have elt : e < s.heap.objs.size := Heap.lt_size en
    have ilt : it < s.heap.objs.size := by obtain ⟨_, q, _⟩ := hit; exact Heap.lt_size q
    have isT : s.heap.IsTuple a its.toArray := p
    have li : i < its.toArray.size := by
      have := (List.getElem?_eq_some_iff.mp hu).1
      simpa using this
    refine wpAny_pyNext_enum_itemD (Draws.tuple (A := X.A.in1) (I.ok.hd hc) it a n2 its.toArray) en ⟨hit, isT⟩ li n1 (fun hm => ?_) fun x2 h1 tk hx2 ho hst hT sz hk => ?_
    · rcases List.mem_cons.mp hm with z | z
      · exact n1 z
      · exact n3 (List.mem_singleton.mp z)
    have hx2 : its.toArray[i]? = some x2 := hx2
    have eq2 : x2 = u := by
      rw [List.getElem?_toArray] at hx2
      exact Option.some.inj (hx2.symm.trans hu)
    subst eq2
    refine ⟨_, rfl, wpAny_letOwnedTupleGo_enum (s := { s with heap := h1, toks := tk + 1 }) ho fun h2 e2 sb => ?_⟩
    have tup2 : h2.get? s.heap.objs.size = some { cls := .type "tuple", data := .seq #[.int i tk, x2] } := (sb.2 _ (Nat.ne_of_gt elt)).trans hT
    have new : ObjOk X.prog X.w (upd H s.heap.objs.size (.tup [.int (i : Nat), x])) h2 s.heap.objs.size (.tup [.int (i : Nat), x]) :=
      ⟨by show 2 ≤ sizeLine; decide, [.int i tk, x2], .cons ⟨_, rfl⟩ (.cons ru .nil), ⟨_, tup2, rfl, _, rfl⟩⟩
    have I1 : Inv X pins σ (upd H s.heap.objs.size (.tup [.int (i : Nat), x])) { s with heap := h2, toks := tk + 1 } :=
      I.turnedNew (ch := [e, it]) (fun b ob hb q => (sb.2 b fun z => hb (z ▸ List.mem_cons_self)).trans (hk b ob (fun z => hb (z ▸ List.mem_cons_self)) (fun z => hb (z ▸ List.mem_cons_of_mem _ List.mem_cons_self)) q)) hf (Nat.le_refl _) new
    refine ⟨.ref s.heap.objs.size, _, I1, rfl, ⟨_, x, rfl, I.hok.fresh (Nat.le_refl _), rfl, fun ys hy => by rw [I.tuple_inj hy hq]; exact hx⟩, ⟨⟨x2, ?_⟩, hst.1.at fun o q => (sb.2 it (Ne.symm n1)).trans q, n1, n2, n3⟩, fun b hb => ?_⟩
    · rw [show ((i + 1 : Nat) : Int) = (i : Int) + 1 by omega]
      exact e2
    · have blt : b < s.heap.objs.size := by
        rcases List.mem_cons.mp hb with rfl | hb
        · exact elt
        · obtain rfl := List.mem_singleton.mp hb
          exact ilt
      rw [upd_ne (Nat.ne_of_lt blt)]
      exact (hf b hb).1
  done := by
    intro X hP hw hK hc i pins s σ H E I hf st hg
    subst hP hw hK
    obtain ⟨⟨old, en⟩, hit, n1, n2, n3⟩ := st
    obtain ⟨xs, hq, hx⟩ := hg
    obtain ⟨its, rv, p, hz⟩ := I.tuple hq
    have isT : s.heap.IsTuple a its.toArray := p
    obtain ⟨f0, f1, f2, f3, f4, f5⟩ := hf it (List.mem_cons_of_mem _ List.mem_cons_self)
    have hl := rv.length
    have sz : its.toArray.size = i := by simp; omega
    exact wpAny_pyNext_enum_endD (Draws.tuple (A := X.A.in1) (I.ok.hd hc) it a n2 its.toArray) en ⟨by rw [sz]; exact hit, isT⟩ fun h' eb => ⟨rfl, I.turned (t' := s.toks) (fun b o hb q => eb b o hb q) f0 f1 f3 f4 f5⟩
  self := fun A i s Q E st h => let ⟨⟨_, en⟩, _⟩ := st; wpAny_pyIter_enum en h
/-- of a list or of a tuple -/
noncomputable def iEnumA (K : PySem.W.Frag) (ta : TA) : TI := fun σ H R => ta σ H fun vs H1 => ∃ a xs, vs = [.ref a] ∧ ((SqL K H1 a xs ∧ R (Ite K a) H1) ∨ (SqT K H1 a xs ∧ R (Itet K a) H1))
theorem pi_enumA {X : Cx} {e : Expr} {ta : TA} {p pos tpos : Pos} {elts : List Expr} {kk : Nat} (hg : Gl X "enumerate") (hm : X.mg "enumerate" = none) (ha : PA X [e] ta) (hs : starEach [e] X.env = [(false, eval e X.env)]) :
    PI X (.Tuple elts kk tpos) (.Call (.Name "enumerate" p) [e] [] pos) (iEnumA X.K ta) := by
  refine ⟨fun pins s σ H R I h => ?_⟩
  refine Call_ (ld_blt I hg hm boot_enumerate (PyProof.Rows.callWith_type1 (thn (ha.run pos pins s σ H _ I h) fun us s1 ⟨vs, H1, I1, r1, q1⟩ => ?_) hs rfl))
  obtain ⟨a, xs, ex, q1⟩ := q1
  subst ex
  obtain rfl := Vals.ref1 r1
  have fp : ∀ b ∈ [s1.heap.objs.size + 1, s1.heap.objs.size], FpOk X pins H1 b := fun b hb => by
    have le : s1.heap.objs.size ≤ b := by
      rcases List.mem_cons.mp hb with rfl | hb
      · exact Nat.le_add_right _ _
      · obtain rfl := List.mem_singleton.mp hb
        exact Nat.le_refl _
    exact I1.fpOk le (I1.hok.fresh le)
  rcases q1 with ⟨hq, q⟩ | ⟨hq, q⟩
  · obtain ⟨its, rv, pl, hz⟩ := I1.list hq
    refine call_enumerate_list pl.isList fun h' en hit sz hk => wpAny_pyIter_enum en ?_
    have I2 : Inv X pins σ H1 { s1 with heap := h' } := I1.kept (t' := s1.toks) hk
    exact ⟨s1.heap.objs.size + 1, [s1.heap.objs.size + 1, s1.heap.objs.size], _, _, H1, rfl, I2, turn_enum a _ _, ⟨⟨.none, en⟩, hit, Nat.succ_ne_self _⟩, fp, q⟩
  · obtain ⟨its, rv, pl, hz⟩ := I1.tuple hq
    have isT : s1.heap.IsTuple a its.toArray := pl
    have alt : a < s1.heap.objs.size := by obtain ⟨o, eo, _⟩ := isT; exact Heap.lt_size eo
    refine call_enumT isT fun h' en hit hk => wpAny_pyIter_enum en ?_
    have I2 : Inv X pins σ H1 { s1 with heap := h' } := I1.kept (t' := s1.toks) hk
    exact ⟨s1.heap.objs.size + 1, [s1.heap.objs.size + 1, s1.heap.objs.size], _, _, H1, rfl, I2, turn_enumT a _ _, ⟨⟨.none, en⟩, hit, Nat.succ_ne_self _, Nat.ne_of_lt alt, Nat.ne_of_gt (Nat.lt_succ_of_lt alt)⟩, fp, q⟩
end DL
namespace DL
open PySem PySem.Spec PyProof.Rows L2

/-- a list, a tuple or a text, whichever comes -/
noncomputable def iAny (K : PySem.W.Frag) (tl : TE) : TI := fun σ H R => tl σ H fun x H1 =>
  (∃ q, x = .ref q ∧ (∃ xs, SqL K H1 q xs) ∧ R (Itl K q) H1) ∨ (∃ q, x = .ref q ∧ (∃ xs, SqT K H1 q xs) ∧ R (Itt K q) H1) ∨ ∃ z, x = .str z ∧ R (Its z) H1
theorem pi_any {X : Cx} {tg l : Expr} {tl : TE} (hl : PE X l tl) : PI X tg l (iAny X.K tl) := by
  refine ⟨fun pins s σ H R I h => ?_⟩
  refine thn (hl.run pins s σ H _ I h) fun v s1 ⟨x, H1, I1, r1, q1⟩ => ?_
  rcases q1 with ⟨q, rfl, ⟨xs, hq⟩, k⟩ | ⟨q, rfl, ⟨xs, hq⟩, k⟩ | ⟨z, rfl, k⟩
  · obtain rfl : v = .ref q := r1
    obtain ⟨its, _, pl, _⟩ := I1.list hq
    refine wpAny_pyIter_list pl.isList ⟨s1.heap.objs.size, [s1.heap.objs.size], _, _, H1, rfl, I1.kept (t' := s1.toks) fun b o e => Heap.get?_push_of_some _ e, turn_list q _,
      ⟨_, Heap.get?_push_size _ rfl, rfl, rfl⟩, fun b hb => ?_, k⟩
    obtain rfl : b = s1.heap.objs.size := by simpa using hb
    exact I1.fpOk (Nat.le_refl _) (I1.hok.fresh (Nat.le_refl _))
  · obtain rfl : v = .ref q := r1
    obtain ⟨its, _, pl, _⟩ := I1.tuple hq
    refine wpAny_pyIter_tuple (show s1.heap.IsTuple q its.toArray from pl) ⟨s1.heap.objs.size, [s1.heap.objs.size], _, _, H1, rfl, I1.kept (t' := s1.toks) fun b o e => Heap.get?_push_of_some _ e,
      turn_tuple q _, ⟨_, Heap.get?_push_size _ rfl, rfl, rfl⟩, fun b hb => ?_, k⟩
    obtain rfl : b = s1.heap.objs.size := by simpa using hb
    exact I1.fpOk (Nat.le_refl _) (I1.hok.fresh (Nat.le_refl _))
  · obtain ⟨t, rfl⟩ := r1
    cases hz : z.cps.all (· < 128)
    · exact wpAny_pyIter_wide hz (pi_one (tk := s1.toks) I1 _ (turn_str _ z t "str_iterator" (.inr rfl)) ⟨_, Heap.get?_push_size _ rfl, rfl, rfl⟩ k)
    · exact wpAny_pyIter_ascii hz (pi_one (tk := s1.toks) I1 _ (turn_str _ z t "str_ascii_iterator" (.inl rfl)) ⟨_, Heap.get?_push_size _ rfl, rfl, rfl⟩ k)

/-- an iterator J gives the items ds, as long as F stands -/
noncomputable def Yld (a : An) (F : Hp) (J : It) (ds : List D) : Prop := ∃ (G : Hp → Prop) (Y : Nat → Hp → V → Hp → Prop), Walk J ds.length G Y ∧ (∀ H, Sub F H → G H) ∧
  ∀ (i : Nat) H x H', i < ds.length → Y i H x H' → (H' = H ∧ ∃ d, ds[i]? = some d ∧ Is a F d x) ∨
    ∃ p xs es, x = .ref p ∧ H p = none ∧ H' = upd H p (.tup xs) ∧ IsL a F es xs ∧ ds[i]? = some (.tup es)
noncomputable def DI (a : An0) (X : Cx) (ρ : Env) (tg it : Expr) (Ψ : List D → Prop) : Prop :=
  ∀ σ H ts vs R, SOk a ρ σ ts vs H → (∀ J H' F Sc Sm ds, Ψ ds → SW a ρ σ ts vs H' F Sc Sm → Yld a.toAn F J ds → R J H') → WI X tg it σ H R
noncomputable def D.items : D → Option (List D)
  | .lst ds => some ds
  | .tup ds => some ds
  | .scr ns => some (ns.map .int)
  | .str z => some (z.cps.toList.map fun c => .str ⟨#[c]⟩)
  | _ => none
section
variable {a : An0} {X : Cx} {ρ : Env} {σ : L2.St} {ts : List T} {vs : List V} {H F : Hp} {Sc Sm : List Addr} {Φ : T → Prop} {pos p : Pos} {e A B C tg it : Expr} {es : List Expr} {Ψ : List D → Prop} {z : Bool}
theorem yld_at {K : PySem.W.Frag} {J : It} {ds : List D} {xs : List V} {G : Hp → Prop} (w : Walk J xs.length G (YAt xs)) (g : ∀ H, Sub F H → G H) (il : IsL a.toAn F ds xs) : Yld a.toAn F J ds := by
  rw [il.length] at w
  refine ⟨G, YAt xs, w, g, fun i H x H' hi y => .inl ⟨y.1, ?_⟩⟩
  obtain ⟨v, e1, i1⟩ := il.get (List.getElem?_eq_getElem hi)
  exact ⟨_, List.getElem?_eq_getElem hi, by rw [y.2] at e1; cases e1; exact i1⟩
theorem di_any (xo : XOk a X) (io : z = true → NoIo a) (h : DE a X ρ A fun t => t.froz z fun d => ∃ ds, d.items = some ds ∧ Ψ ds) : DI a X ρ tg A Ψ := fun σ H ts vs R ok k => by
  refine ⟨_, pi_any pe_W, ?_⟩
  show WE X A σ H fun x H1 => _
  refine h σ H ts vs _ ok fun x t H1 h1 ok1 => ?_
  obtain ⟨F, Sc, Sm, w⟩ := ok1
  obtain ⟨F', Sm', s, w', i1, ds, e, q⟩ := w.froz1 io h1
  rw [xo.K]
  generalize t.dat = d at i1 e
  match d, e with
  | .lst ds', e =>
    cases e
    obtain ⟨p, us, rfl, hp, il⟩ := i1.lstE
    have hq : ∀ H, Sub F' H → SqL a.K H p us := fun H s => .inl (.inl (s _ _ hp))
    exact .inl ⟨p, rfl, ⟨us, hq _ w'.sub⟩, k _ H1 F' Sc Sm' ds q w' (yld_at (K := a.K) walk_list hq il)⟩
  | .tup ds', e =>
    cases e
    obtain ⟨p, us, rfl, hp, il⟩ := i1.tupE
    have hq : ∀ H, Sub F' H → SqT a.K H p us := fun H s => sub_t s hp
    exact .inr (.inl ⟨p, rfl, ⟨us, hq _ w'.sub⟩, k _ H1 F' Sc Sm' ds q w' (yld_at (K := a.K) walk_tup hq il)⟩)
  | .scr ns, e =>
    cases e
    simp only [Is] at i1
    obtain ⟨p, rfl, hp⟩ := i1
    have hq : ∀ H, Sub F' H → SqL a.K H p (ns.map V.int) := fun H s => sub_l s hp
    exact .inl ⟨p, rfl, ⟨_, hq _ w'.sub⟩, k _ H1 F' Sc Sm' _ q w' (yld_at (K := a.K) walk_list hq (IsL.ints.mpr rfl))⟩
  | .str y, e =>
    cases e
    rw [i1.str]
    refine .inr (.inr ⟨y, rfl, k _ H1 F' Sc Sm' _ q w' ⟨fun _ => True, fun i H v H' => H' = H ∧ ∃ c, y.cps[i]? = some c ∧ v = .str ⟨#[c]⟩, by rw [List.length_map, Array.length_toList]; exact walk_str, fun _ _ => trivial, fun i H x H' hi hy => .inl ⟨hy.1, ?_⟩⟩⟩)
    obtain ⟨c, e1, rfl⟩ := hy.2
    refine ⟨.str ⟨#[c]⟩, ?_, by simp only [Is]⟩
    rw [List.getElem?_map, Array.getElem?_toList, e1]
    rfl
theorem yld_fn {J : It} {n : Nat} {f : Nat → Int} (w : Walk J n (fun _ => True) (YFn fun i => .int (f i))) : Yld a.toAn F J ((List.range n).map fun i => .int (f i)) := by
  refine ⟨fun _ => True, YFn fun i => .int (f i), by rw [List.length_map, List.length_range]; exact w, fun _ _ => trivial, fun i H x H' hi y => .inl ⟨y.1, .int (f i), ?_, by rw [y.2]; simp only [Is]⟩⟩
  rw [List.length_map, List.length_range] at hi
  rw [List.getElem?_map, List.getElem?_range hi]
  rfl
theorem di_rng1 (hg : Gl X "range") (hm : X.mg "range" = none) (hs : notStar A = true) (h : DV a X ρ [A] fun us => ∃ j, T.dats us = [.int j] ∧ (-(2 ^ 62) ≤ j ∧ j < 2 ^ 62) ∧ Ψ ((List.range j.toNat).map fun (i : Nat) => .int i)) : DI a X ρ tg (.Call (.Name "range" p) [A] [] pos) Ψ := fun σ H ts vs R ok k => by
  refine ⟨_, pi_range1 hg hm pa_W (star_of hs), ?_⟩
  show WA X [A] σ H fun vs H1 => ∃ j : Int, vs = [.int j] ∧ -(2 ^ 62) ≤ j ∧ j < 2 ^ 62 ∧ R (Itr 0 j.toNat) H1
  refine h σ H ts vs _ ok fun ws us H1 ⟨j, e, hj, q⟩ l ok1 => ?_
  obtain ⟨il, ok2⟩ := ok1.args l
  rw [e] at il
  obtain ⟨v, rfl, i1⟩ := one il
  rw [i1.int]
  obtain ⟨F, Sc, Sm, w⟩ := ok2
  refine ⟨j, rfl, hj.1, hj.2, k _ H1 F Sc Sm _ q w ?_⟩
  have := yld_fn (a := a) (F := F) (n := j.toNat) (J := Itr 0 j.toNat) (f := fun i => 0 + (i : Int)) walk_range
  simpa using this
theorem di_rng2 (hg : Gl X "range") (hm : X.mg "range" = none) (hs : notStar A = true) (hs2 : notStar B = true) (h : DV a X ρ [A, B] fun us => ∃ i j, T.dats us = [.int i, .int j] ∧ (-(2 ^ 62) ≤ i ∧ i < 2 ^ 62 ∧ -(2 ^ 62) ≤ j ∧ j < 2 ^ 62) ∧ Ψ ((List.range (j - i).toNat).map fun (k : Nat) => .int (i + k))) : DI a X ρ tg (.Call (.Name "range" p) [A, B] [] pos) Ψ := fun σ H ts vs R ok k => by
  refine ⟨_, pi_range2 hg hm pa_W (by rw [star_of hs, star_of hs2]; rfl) (star_of hs2), ?_⟩
  show WA X [A, B] σ H fun vs H1 => ∃ i j : Int, vs = [.int i, .int j] ∧ (-(2 ^ 62) ≤ i ∧ i < 2 ^ 62 ∧ -(2 ^ 62) ≤ j ∧ j < 2 ^ 62) ∧ R (Itr i (j - i).toNat) H1
  refine h σ H ts vs _ ok fun ws us H1 ⟨i, j, e, hj, q⟩ l ok1 => ?_
  obtain ⟨il, ok2⟩ := ok1.args l
  rw [e] at il
  obtain ⟨v, v', rfl, i1, i2⟩ := two il
  rw [i1.int, i2.int]
  obtain ⟨F, Sc, Sm, w⟩ := ok2
  exact ⟨i, j, rfl, hj, k _ H1 F Sc Sm _ q w (yld_fn (f := fun m => i + (m : Int)) walk_range)⟩
theorem di_rng3 (hg : Gl X "range") (hm : X.mg "range" = none) (hs : notStar A = true) (hs2 : notStar B = true) (hs3 : notStar C = true) (h : DV a X ρ [A, B, C] fun us => ∃ i j c n, T.dats us = [.int i, .int j, .int c] ∧ RgC i j c n ∧ Ψ ((List.range n).map fun (k : Nat) => .int (i + k * c))) : DI a X ρ tg (.Call (.Name "range" p) [A, B, C] [] pos) Ψ := fun σ H ts vs R ok k => by
  refine ⟨_, pi_range3 hg hm pa_W (star_of hs) (back_of (by simp [hs2, hs3])), ?_⟩
  show WA X [A, B, C] σ H fun vs H1 => ∃ (i j c : Int) (n : Nat), vs = [.int i, .int j, .int c] ∧ RgC i j c n ∧ R (Itc i c n) H1
  refine h σ H ts vs _ ok fun ws us H1 ⟨i, j, c, n, e, hj, q⟩ l ok1 => ?_
  obtain ⟨il, ok2⟩ := ok1.args l
  rw [e] at il
  simp only [IsL, Is] at il
  obtain ⟨_, _, rfl, rfl, _, _, rfl, rfl, _, _, rfl, rfl, rfl⟩ := il
  obtain ⟨F, Sc, Sm, w⟩ := ok2
  exact ⟨i, j, c, n, rfl, hj, k _ H1 F Sc Sm _ q w (yld_fn (f := fun m => i + (m : Int) * c) walk_rangeC)⟩
noncomputable def zipD : List D → List D → List D
  | x :: xs, y :: ys => .tup [x, y] :: zipD xs ys
  | _, _ => []
theorem zipD_length : ∀ xs ys : List D, (zipD xs ys).length = min xs.length ys.length
  | [], _ => by simp [zipD]
  | _ :: _, [] => by simp [zipD]
  | x :: xs, y :: ys => by simp only [zipD, List.length_cons, zipD_length xs ys]; omega
theorem zipD_get : ∀ (xs ys : List D) (i : Nat), i < min xs.length ys.length → ∃ x y, xs[i]? = some x ∧ ys[i]? = some y ∧ (zipD xs ys)[i]? = some (.tup [x, y])
  | [], _, i, h => by simp at h
  | _ :: _, [], i, h => by simp at h
  | x :: xs, y :: ys, 0, _ => ⟨x, y, rfl, rfl, rfl⟩
  | x :: xs, y :: ys, i + 1, h => by
    obtain ⟨u, v, e1, e2, e3⟩ := zipD_get xs ys i (by simp only [List.length_cons] at h; omega)
    exact ⟨u, v, by simpa using e1, by simpa using e2, by simpa [zipD] using e3⟩
theorem yld_zip {J : It} {xs ys : List V} {ds es : List D} {G : Hp → Prop} {n : Nat} (hn : n = min xs.length ys.length) (w : Walk J n G (YPair (fun i => xs[i]?) (fun i => ys[i]?))) (g : ∀ H, Sub F H → G H) (i1 : IsL a.toAn F ds xs) (i2 : IsL a.toAn F es ys) : Yld a.toAn F J (zipD ds es) := by
  have hl : (zipD ds es).length = n := by rw [zipD_length, hn, i1.length, i2.length]
  refine ⟨G, _, by rw [hl]; exact w, g, fun i H x H' hi y => .inr ?_⟩
  rw [zipD_length] at hi
  obtain ⟨q, u, v, rfl, hq, rfl, e1, e2⟩ := y
  obtain ⟨d, e, g1, g2, g3⟩ := zipD_get ds es i hi
  obtain ⟨u', f1, j1⟩ := i1.get g1
  obtain ⟨v', f2, j2⟩ := i2.get g2
  have e1 : xs[i]? = some u := e1
  have e2 : ys[i]? = some v := e2
  rw [e1] at f1
  rw [e2] at f2
  cases f1
  cases f2
  exact ⟨q, [u, v], [d, e], rfl, hq, rfl, by simp only [IsL]; exact ⟨u, [v], rfl, j1, v, [], rfl, j2, rfl⟩, g3⟩
theorem walk_zipT {K : PySem.W.Frag} {q b : Addr} {xs ys : List V} {n : Nat} (hn : n = min xs.length ys.length) : Walk (RZ.ItzT K q b) n (fun H => SqT K H q xs ∧ SqT K H b ys) (YPair (fun i => xs[i]?) (fun i => ys[i]?)) := by
  subst hn
  refine ⟨fun i _ hi g => ?_, fun _ g => ⟨xs, ys, g.1, g.2, by omega⟩, fun i H v H' _ g y => ?_⟩
  · have h1 : i < xs.length := by omega
    have h2 : i < ys.length := by omega
    exact ⟨xs, ys, xs[i], ys[i], g.1, g.2, by simp [h1], by simp [h2]⟩
  · obtain ⟨t, x, u, h1, h2, h3, h4, h5⟩ := y
    exact ⟨t, x, u, h1, h2, h3, h4 xs g.1, h5 ys g.2⟩
theorem walk_zipM {K : PySem.W.Frag} {q b : Addr} {xs ys : List V} {n : Nat} (hn : n = min xs.length ys.length) : Walk (ZM.It1 K q b) n (fun H => SqT K H q xs ∧ SqL K H b ys) (YPair (fun i => xs[i]?) (fun i => ys[i]?)) := by
  subst hn
  refine ⟨fun i _ hi g => ?_, fun _ g => ⟨xs, ys, g.1, g.2, by omega⟩, fun i H v H' _ g y => ?_⟩
  · have h1 : i < xs.length := by omega
    have h2 : i < ys.length := by omega
    exact ⟨xs, ys, xs[i], ys[i], g.1, g.2, by simp [h1], by simp [h2]⟩
  · obtain ⟨t, x, u, h1, h2, h3, h4, h5⟩ := y
    exact ⟨t, x, u, h1, h2, h3, h4 xs g.1, h5 ys g.2⟩
noncomputable def isTup : Expr → Bool
  | .Tuple _ _ _ => true
  | _ => false
theorem isTup_inv {e : Expr} (h : isTup e = true) : ∃ es k p, e = .Tuple es k p := by
  cases e with
  | Tuple es k p => exact ⟨es, k, p, rfl⟩
  | _ => exact nomatch (show false = true from h)
/-- two lists, or two tuples -/
noncomputable def zipW : List D → (List D → Prop) → Prop
  | [.lst xs, .lst ys], Ψ => Ψ (zipD xs ys)
  | [.tup xs, .tup ys], Ψ => Ψ (zipD xs ys)
  | [.tup xs, .lst ys], Ψ => Ψ (zipD xs ys)
  | _, _ => False
theorem di_zip (xo : XOk a X) (io : z = true → NoIo a) (hg : Gl X "zip") (hm : X.mg "zip" = none) (ht : isTup tg = true) (hs : notStar A = true) (hs2 : notStar B = true) (h : DV a X ρ [A, B] fun us => frozs z us fun ds => zipW ds Ψ) :
    DI a X ρ tg (.Call (.Name "zip" p) [A, B] [] pos) Ψ := fun σ H ts vs R ok k => by
  obtain ⟨elts, kk, tpos, rfl⟩ := isTup_inv ht
  refine ⟨_, ZM.pi_zipM hg hm pa_W (star_of hs) (back_of (by simp [hs2])), ?_⟩
  show WA X [A, B] σ H fun vs H1 => _
  refine h σ H ts vs _ ok fun ws us H1 q l ok1 => ?_
  obtain ⟨F0, Sc, Sm, w⟩ := ok1
  obtain ⟨F, Sm1, ds, s1, w1, il, q⟩ := w.frozs io l q
  rw [xo.K]
  match ds, q with
  | [.lst xs, .lst ys], q =>
    obtain ⟨v, v', rfl, j1, j2⟩ := two il
    obtain ⟨p1, us1, rfl, hp1, il1⟩ := j1.lstE
    obtain ⟨p2, us2, rfl, hp2, il2⟩ := j2.lstE
    have hq1 : ∀ H, Sub F H → SqL a.K H p1 us1 := fun H s => .inl (.inl (s _ _ hp1))
    have hq2 : ∀ H, Sub F H → SqL a.K H p2 us2 := fun H s => .inl (.inl (s _ _ hp2))
    exact ⟨p1, p2, us1, us2, rfl, .inl ⟨hq1 _ w1.sub, hq2 _ w1.sub, k _ H1 F Sc Sm1 _ q w1 (yld_zip rfl (walk_zip rfl) (fun H s => ⟨hq1 H s, hq2 H s⟩) il1 il2)⟩⟩
  | [.tup xs, .tup ys], q =>
    obtain ⟨v, v', rfl, j1, j2⟩ := two il
    obtain ⟨p1, us1, rfl, hp1, il1⟩ := j1.tupE
    obtain ⟨p2, us2, rfl, hp2, il2⟩ := j2.tupE
    have hq1 : ∀ H, Sub F H → SqT a.K H p1 us1 := fun H s => sub_t s hp1
    have hq2 : ∀ H, Sub F H → SqT a.K H p2 us2 := fun H s => sub_t s hp2
    exact ⟨p1, p2, us1, us2, rfl, .inr (.inl ⟨hq1 _ w1.sub, hq2 _ w1.sub, k _ H1 F Sc Sm1 _ q w1 (yld_zip rfl (walk_zipT rfl) (fun H s => ⟨hq1 H s, hq2 H s⟩) il1 il2)⟩)⟩
  | [.tup xs, .lst ys], q =>
    obtain ⟨v, v', rfl, j1, j2⟩ := two il
    obtain ⟨p1, us1, rfl, hp1, il1⟩ := j1.tupE
    obtain ⟨p2, us2, rfl, hp2, il2⟩ := j2.lstE
    have hq1 : ∀ H, Sub F H → SqT a.K H p1 us1 := fun H s => sub_t s hp1
    have hq2 : ∀ H, Sub F H → SqL a.K H p2 us2 := fun H s => .inl (.inl (s _ _ hp2))
    exact ⟨p1, p2, us1, us2, rfl, .inr (.inr ⟨hq1 _ w1.sub, hq2 _ w1.sub, k _ H1 F Sc Sm1 _ q w1 (yld_zip rfl (walk_zipM rfl) (fun H s => ⟨hq1 H s, hq2 H s⟩) il1 il2)⟩)⟩
noncomputable def enumFrom (i : Nat) : List D → List D
  | [] => []
  | d :: r => .tup [.int i, d] :: enumFrom (i + 1) r
theorem enumFrom_length : ∀ (ds : List D) (i : Nat), (enumFrom i ds).length = ds.length
  | [], _ => rfl
  | d :: r, i => by simp [enumFrom, enumFrom_length r]
theorem enumFrom_get : ∀ (ds : List D) (k i : Nat) (d : D), ds[i]? = some d → (enumFrom k ds)[i]? = some (.tup [.int ((k + i : Nat) : Int), d])
  | [], _, _, _, h => by simp at h
  | e :: r, k, 0, d, h => by simp at h; subst h; simp [enumFrom]
  | e :: r, k, i + 1, d, h => by
    simp only [List.getElem?_cons_succ] at h
    rw [enumFrom, List.getElem?_cons_succ, enumFrom_get r (k + 1) i d h]
    congr 5
    omega
/-- what enumerate goes over -/
noncomputable def enmOk : List D → List D → Prop
  | [.lst ys], xs => ys = xs
  | [.tup ys], xs => ys = xs
  | _, _ => False
theorem walk_enumT {K : PySem.W.Frag} {p : Addr} {xs : List V} : Walk (Itet K p) xs.length (fun H => SqT K H p xs) (YPair (fun i => some (.int (i : Nat))) (fun i => xs[i]?)) := by
  refine ⟨fun i _ hi q => ⟨xs, xs[i], q, List.getElem?_eq_getElem hi⟩, fun _ q => ⟨xs, q, rfl⟩, fun i H v H' _ q y => ?_⟩
  obtain ⟨T, x, a1, a2, a3, a4⟩ := y
  exact ⟨T, .int (i : Nat), x, a1, a2, a3, rfl, a4 xs q⟩
theorem di_enum (xo : XOk a X) (io : z = true → NoIo a) (hg : Gl X "enumerate") (hm : X.mg "enumerate" = none) (ht : isTup tg = true) (hs : notStar A = true) (h : DV a X ρ [A] fun us => frozs z us fun ds => ∃ xs, enmOk ds xs ∧ Ψ (enumFrom 0 xs)) :
    DI a X ρ tg (.Call (.Name "enumerate" p) [A] [] pos) Ψ := fun σ H ts vs R ok k => by
  obtain ⟨elts, kk, tpos, rfl⟩ := isTup_inv ht
  refine ⟨_, pi_enumA hg hm pa_W (star_of hs), ?_⟩
  show WA X [A] σ H fun vs H1 => _
  refine h σ H ts vs _ ok fun ws us H1 q l ok1 => ?_
  obtain ⟨F0, Sc, Sm, w⟩ := ok1
  obtain ⟨F, Sm1, ds, s1, w1, il, xs, eo, q⟩ := w.frozs io l q
  rw [xo.K]
  have fin : ∀ (us1 : List V) (J : It) (G : Hp → Prop), IsL a.toAn F xs us1 → (∀ H, Sub F H → G H) → Walk J us1.length G (YPair (fun i => some (.int (i : Nat))) (fun i => us1[i]?)) → Yld a.toAn F J (enumFrom 0 xs) := fun us1 J G il1 hG wk => by
    refine ⟨G, _, by rw [enumFrom_length, ← il1.length]; exact wk, hG, fun i H x H' hi y => .inr ?_⟩
    obtain ⟨r, u, v, rfl, hr, rfl, e1, e2⟩ := y
    cases e1
    rw [enumFrom_length] at hi
    obtain ⟨v', f1, i1⟩ := il1.get (List.getElem?_eq_getElem hi)
    have e2 : us1[i]? = some v := e2
    rw [e2] at f1
    cases f1
    refine ⟨r, _, [.int ((0 + i : Nat) : Int), xs[i]], rfl, hr, rfl, ?_, enumFrom_get xs 0 i _ (List.getElem?_eq_getElem hi)⟩
    simp only [IsL, Is]
    exact ⟨_, _, rfl, by rw [Nat.zero_add], _, _, rfl, i1, rfl⟩
  match ds, eo with
  | [.lst ys], eo =>
    obtain rfl : ys = xs := eo
    obtain ⟨v, rfl, j1⟩ := one il
    obtain ⟨p1, us1, rfl, hp1, il1⟩ := j1.lstE
    have hq1 : ∀ H, Sub F H → SqL a.K H p1 us1 := fun H s => .inl (.inl (s _ _ hp1))
    exact ⟨p1, us1, rfl, .inl ⟨hq1 _ w1.sub, k _ H1 F Sc Sm1 _ q w1 (fin us1 _ _ il1 hq1 walk_enum)⟩⟩
  | [.tup ys], eo =>
    obtain rfl : ys = xs := eo
    obtain ⟨v, rfl, j1⟩ := one il
    obtain ⟨p1, us1, rfl, hp1, il1⟩ := j1.tupE
    have hq1 : ∀ H, Sub F H → SqT a.K H p1 us1 := fun H s => sub_t s hp1
    exact ⟨p1, us1, rfl, .inr ⟨hq1 _ w1.sub, k _ H1 F Sc Sm1 _ q w1 (fin us1 _ _ il1 hq1 walk_enumT)⟩⟩
/-- range(j), range(i, j), range(i, j, c) -/
noncomputable def rngW : List D → (List D → Prop) → Prop
  | [.int j], Ψ => (-(2 ^ 62) ≤ j ∧ j < 2 ^ 62) ∧ Ψ ((List.range j.toNat).map fun (i : Nat) => .int i)
  | [.int i, .int j], Ψ => (-(2 ^ 62) ≤ i ∧ i < 2 ^ 62 ∧ -(2 ^ 62) ≤ j ∧ j < 2 ^ 62) ∧ Ψ ((List.range (j - i).toNat).map fun (k : Nat) => .int (i + k))
  | [.int i, .int j, .int c], Ψ => ∃ n, RgC i j c n ∧ Ψ ((List.range n).map fun (k : Nat) => .int (i + k * c))
  | _, _ => False
end
end DL
namespace DL
open PySem PySem.Spec PyProof.Rows L2
section
variable {a : An0} {X : Cx} {ρ : Env} {σ : L2.St} {ts : List T} {vs : List V} {H F : Hp} {Sc Sm : List Addr} {Φ : T → Prop} {pos p : Pos} {e A B C tg it elt : Expr} {es : List Expr} {Ψ : List D → Prop} {z : Bool}

/-- one place that is held alone is written -/
theorem SW.upd {D : Addr} {o : HO} {ρ' : Env} {σ' : L2.St} {ts' : List T} {vs' : List V} {Sc' Sm' : List Addr} (w : SW a ρ σ ts vs H F Sc Sm) (hD : D ∈ Sc ++ Sm) (hw : ∀ G ∈ a.W, hb a.toAn G D = none)
    (cells : OwC a.toAn F (upd H D o) ρ' σ' Sc') (tm : OwL a.toAn F (upd H D o) ts' vs' Sm') (nd : (Sc' ++ Sm').Nodup) (k : ∀ p ∈ Sc' ++ Sm', p ∈ Sc ++ Sm) (len : ρ'.length = σ'.length) :
    SW a ρ' σ' ts' vs' (upd H D o) F Sc' Sm' := by
  obtain ⟨f1, f2, f3⟩ := w.fr D hD
  obtain ⟨us, hl, ht⟩ : ∃ o, H D = some o ∧ ∀ q, o ≠ .ext q := by
    rcases List.mem_append.mp hD with z | z
    · exact OwC.isl w.cells D z
    · exact OwL.isl w.tmps D z
  refine ⟨fun p u q => ?_, ⟨w.gw.ff, fun p u hp e => ?_, w.gw.nn, fun p h => ?_⟩, w.bagM, w.bag.written (fun φ z => by rw [hl] at z; exact ht φ (Option.some.inj z)) f2, cells, tm, nd, fun p hp => w.fr p (k p hp), len, fun G hG p u e => ?_, w.wif⟩
  · rw [upd_ne (fun z => by rw [z, f1] at q; cases q)]
    exact w.sub p u q
  · rw [upd_ne (fun z => ?_)]
    · exact w.gw.hh p u hp e
    · subst z
      rcases f3 with y | y
      · exact hp y
      · rw [y] at e; cases e
  · unfold L2.upd
    split
    · simp
    · exact w.gw.th p h
  · have h1 := w.wit G hG p u e
    have ne : p ≠ D := fun z => by rw [z, hw G hG] at e; cases e
    unfold DL.hb at h1 ⊢
    split
    · rename_i y; rw [if_pos y] at h1; cases h1
    · rename_i y; rw [if_neg y] at h1; rw [upd_ne ne]; exact h1
/-- temporaries stay as they are where another place is written; what is only read was so ahead of it -/
theorem OwL.mix {a : An} {F F1 H1 H H' : Hp} (eb : Sub (hb a H1) (hb a H')) : ∀ {ts : List T} {vs : List V} {S1 S : List Addr}, OwL a F1 H1 ts vs S1 → OwL a F H ts vs S → (∀ p ∈ S, ∀ o, H p = some o → H' p = some o) → OwL a F H' ts vs S
  | [], _, _, _, _, h, _ => by simpa only [OwL] using h
  | t :: ts, vs, S1, S, h1, h, k => by
    simp only [OwL] at h1 h ⊢
    obtain ⟨v1, r1, Sa, Sb, e1, ha, hb', rfl⟩ := h1
    obtain ⟨v, r, Sc, Sd, e, hc, hd, rfl⟩ := h
    obtain ⟨rfl, rfl⟩ : v1 = v ∧ r1 = r := by
      rw [e] at e1
      cases e1
      exact ⟨rfl, rfl⟩
    refine ⟨_, _, Sc, Sd, e, ?_, OwL.mix eb hb' hd (fun p hp => k p (List.mem_append_right _ hp)), rfl⟩
    cases hn : t.nvw with
    | true => exact hc.mono' (Sub.refl F) (hc.nv hn) fun p hp => k p (List.mem_append_left _ hp)
    | false =>
      cases t with
      | vw d =>
        simp only [Ow] at ha hc ⊢
        exact ⟨hc.1, ha.2.mono eb⟩
      | leaf d => simp [T.nvw] at hn
      | lst us => simp [T.nvw] at hn
      | tup us => simp [T.nvw] at hn
      | reg R => simp [T.nvw] at hn
/-- an item is appended to a list that is being made -/
theorem SW.more {t : T} {acc : List T} {y : V} {D : Addr} {F1 H1 : Hp} {S1 : List Addr} (w : SW a ρ σ (t :: .lst acc :: ts) (y :: .ref D :: vs) H F Sc Sm) (n : t.nvw = true) (hw : ∀ G ∈ a.W, hb a.toAn G D = none)
    (hW : H1 ∈ a.W) (o1 : OwL a.toAn F1 H1 ts vs S1) : ∃ ws, H D = some (.lst ws) ∧ ws.length = acc.length ∧ ∃ Sm', SW a ρ σ (.lst (acc ++ [t]) :: ts) (.ref D :: vs) (L2.upd H D (.lst (ws ++ [y]))) F Sc Sm' := by
  obtain ⟨v', r, St, S2, e, ht, h2, e2⟩ := (show ∃ v' r S1 S2, y :: V.ref D :: vs = v' :: r ∧ Ow a.toAn F H t v' S1 ∧ OwL a.toAn F H (.lst acc :: ts) r S2 ∧ Sm = S1 ++ S2 by
    have := w.tmps; simpa only [OwL] using this)
  cases e
  obtain ⟨v', r, Sl, Sr, e, hl, hr, e3⟩ := (show ∃ v' r S1 S3, V.ref D :: vs = v' :: r ∧ Ow a.toAn F H (.lst acc) v' S1 ∧ OwL a.toAn F H ts r S3 ∧ S2 = S1 ++ S3 by
    simpa only [OwL] using h2)
  cases e
  subst e3
  subst e2
  simp only [Ow] at hl
  obtain ⟨nn, q, ws, Sa, eq, hq, ha, rfl⟩ := hl
  cases eq
  obtain ⟨n1, n2, n3⟩ := List.nodup_append.mp w.nd
  obtain ⟨m1, m2, m3⟩ := List.nodup_append.mp n2
  obtain ⟨l1, l2, l3⟩ := List.nodup_append.mp m2
  obtain ⟨k1, k2⟩ := List.nodup_cons.mp l1
  -- D stands apart from all the rest
  have dSc : D ∉ Sc := fun z => n3 D z D (List.mem_append_right _ (List.mem_append_left _ List.mem_cons_self)) rfl
  have dSt : D ∉ St := fun z => m3 D z D (List.mem_append_left _ List.mem_cons_self) rfl
  have dSr : D ∉ Sr := fun z => l3 D List.mem_cons_self D z rfl
  have keep : ∀ {S : List Addr}, D ∉ S → ∀ p ∈ S, ∀ o, H p = some o → L2.upd H D (.lst (ws ++ [y])) p = some o := fun {S} h p hp o e => by
    rw [upd_ne (fun z => h (by rw [← z]; exact hp))]
    exact e
  have mem : D ∈ Sc ++ (St ++ (D :: Sa ++ Sr)) := List.mem_append_right _ (List.mem_append_right _ (List.mem_append_left _ List.mem_cons_self))
  have wit : Sub (hb a.toAn H1) (hb a.toAn (L2.upd H D (.lst (ws ++ [y])))) := fun p u e => by
    have h1 := w.wit H1 hW p u e
    have ne : p ≠ D := fun z => by rw [z, hw H1 hW] at e; cases e
    unfold DL.hb at h1 ⊢
    split
    · rename_i z; rw [if_pos z] at h1; cases h1
    · rename_i z; rw [if_neg z] at h1; rw [upd_ne ne]; exact h1
  refine ⟨ws, hq, ha.length, D :: (Sa ++ St) ++ Sr, w.upd mem hw (w.cells.mono' (Sub.refl F) (keep dSc)) ?_ ?_ (fun p hp => ?_) w.len⟩
  · simp only [OwL, Ow]
    refine ⟨.ref D, vs, D :: (Sa ++ St), Sr, rfl, ⟨?_, D, ws ++ [y], Sa ++ St, rfl, upd_same, ?_, rfl⟩, OwL.mix wit o1 hr (keep dSr), rfl⟩
    · refine (ha.nvs (nvw_of nn) : T.nvs acc = true) |> fun z => ?_
      have : ∀ (us : List T), T.nvs us = true → T.nvs (us ++ [t]) = true := fun us => by
        induction us with
        | nil => intro _; simp [T.nvs, ht.nv n]
        | cons u us ih => intro h; simp only [T.nvs, Bool.and_eq_true, List.cons_append] at h ⊢; exact ⟨h.1, ih h.2⟩
      exact this acc z
    · refine OwL.join (ha.mono' (Sub.refl F) nn (keep k1)) ?_
      simp only [OwL]
      exact ⟨y, [], St, [], rfl, ht.mono' (Sub.refl F) (ht.nv n) (keep dSt), ⟨rfl, rfl⟩, by simp⟩
  · refine List.nodup_append.mpr ⟨n1, List.nodup_append.mpr ⟨?_, l2, fun p hp q hz => ?_⟩, fun p hp q hz => n3 p hp q ?_⟩
    · refine List.nodup_cons.mpr ⟨fun z => (List.mem_append.mp z).elim k1 dSt, List.nodup_append.mpr ⟨k2, m1, fun p hp q hq e => m3 q hq p (List.mem_append_left _ (List.mem_cons_of_mem _ hp)) e.symm⟩⟩
    · rcases List.mem_cons.mp hp with rfl | hp
      · exact fun z => dSr (z ▸ hz)
      · rcases List.mem_append.mp hp with z | z
        · exact l3 p (List.mem_cons_of_mem _ z) q hz
        · exact m3 p z q (List.mem_append_right _ hz)
    · rcases List.mem_append.mp hz with z | z
      · rcases List.mem_cons.mp z with rfl | z
        · exact List.mem_append_right _ (List.mem_append_left _ List.mem_cons_self)
        · rcases List.mem_append.mp z with y | y
          · exact List.mem_append_right _ (List.mem_append_left _ (List.mem_cons_of_mem _ y))
          · exact List.mem_append_left _ y
      · exact List.mem_append_right _ (List.mem_append_right _ z)
  · rcases List.mem_append.mp hp with z | z
    · exact List.mem_append_left _ z
    · refine List.mem_append_right _ ?_
      rcases List.mem_append.mp z with z | z
      · rcases List.mem_cons.mp z with rfl | z
        · exact List.mem_append_right _ (List.mem_append_left _ List.mem_cons_self)
        · rcases List.mem_append.mp z with y | y
          · exact List.mem_append_right _ (List.mem_append_left _ (List.mem_cons_of_mem _ y))
          · exact List.mem_append_left _ y
      · exact List.mem_append_right _ (List.mem_append_right _ z)
end
end DL
namespace DL
open PySem PySem.Spec PyProof.Rows L2

/-- a comprehension over plain items: the target, the test, the element -/
noncomputable def lcW (g : Tg) (wc : Env → (Bool → Prop) → Prop) (we : Env → (T → Prop) → Prop) (ρ : Env) : List D → List T → (List T → Prop) → Prop
  | [], acc, Φ => Φ acc
  | d :: r, acc, Φ => ∃ ρ', bindG g (.leaf d) ρ = some ρ' ∧ wc ρ' fun b => if b = true then we ρ' fun t => t.fin fun u => lcW g wc we ρ r (acc ++ [u]) Φ else lcW g wc we ρ r acc Φ
section
variable {a : An0} {X : Cx} {ρ : Env} {σ : L2.St} {ts : List T} {vs : List V} {H F : Hp} {Sc Sm : List Addr} {Φ : T → Prop} {pos p : Pos} {e A B C tg it elt : Expr} {es : List Expr} {Ψ : List D → Prop} {z : Bool}

theorem wipe_sub (σ : L2.St) (own : List Nat) : ∀ r : List Nat, (∀ v ∈ r, v ∈ own) → L2.wipe (L2.wipe σ r) own = L2.wipe σ own
  | [], _ => rfl
  | v :: r, h => by
    show L2.wipe ((L2.wipe σ r).set v none) own = _
    rw [wipe_set (h v List.mem_cons_self), wipe_sub σ own r fun u hu => h u (List.mem_cons_of_mem _ hu)]
theorem Env.wipes_put {i : Nat} {x : Option T} {own : List Nat} (h : i ∈ own) : (ρ.put i x).wipes own = ρ.wipes own := by
  have low : ∀ (ρ : Env) (i : Nat) (x : Option T) (own : List Nat), i ∉ own → (ρ.put i x).wipes own = (ρ.wipes own).put i x := fun ρ i x own => by
    induction own with
    | nil => intro _; rfl
    | cons v r ih =>
      intro h
      simp only [Env.wipes]
      rw [ih fun z => h (List.mem_cons_of_mem _ z)]
      have comm : ∀ (ρ : Env) (i j : Nat) (x y : Option T), i ≠ j → (ρ.put i x).put j y = (ρ.put j y).put i x := fun ρ => by
        induction ρ with
        | nil => intro i j x y _; rfl
        | cons u r ih => intro i j x y h; cases i <;> cases j <;> simp [Env.put] at h ⊢; exact ih _ _ x y h
      exact comm _ _ _ _ _ fun z => h (by rw [z]; exact List.mem_cons_self)
  have twice : ∀ (ρ : Env) (i : Nat) (x : Option T), (ρ.put i x).put i none = ρ.put i none := fun ρ => by
    induction ρ with
    | nil => intro i x; rfl
    | cons u r ih => intro i x; cases i <;> simp [Env.put, ih]
  induction own with
  | nil => cases h
  | cons v r ih =>
    simp only [Env.wipes]
    by_cases hr : i ∈ r
    · rw [ih hr]
    · rcases List.mem_cons.mp h with rfl | h
      · rw [low _ _ _ _ hr, twice]
      · exact absurd h hr
mutual
theorem bindG_wipes : ∀ {g : Tg} {t : T} {ρ ρ' : Env} {own : List Nat}, bindG g t ρ = some ρ' → (∀ i ∈ g.slots, i ∈ own) → ρ'.wipes own = ρ.wipes own
  | .nm i, t, ρ, ρ', own, h, k => by
    simp only [bindG] at h
    split at h
    · cases h; exact Env.wipes_put (k i (by simp [Tg.slots]))
    · cases h
  | .nil, t, ρ, ρ', own, h, k => by
    simp only [bindG] at h
    split at h
    · rename_i us _
      cases us with
      | nil => simp only [bindL, Option.some.injEq] at h; rw [h]
      | cons u us => simp [bindL] at h
    · cases h
  | .cons a b, t, ρ, ρ', own, h, k => by
    simp only [bindG] at h
    split at h
    · obtain ⟨ρ1, h1, h2⟩ := Option.bind_eq_some_iff.mp h
      rw [bindL_wipes h2 fun i hi => k i (by simp [Tg.slots, hi]), bindG_wipes h1 fun i hi => k i (by simp [Tg.slots, hi])]
    · cases h
theorem bindL_wipes : ∀ {g : Tg} {us : List T} {ρ ρ' : Env} {own : List Nat}, bindL g us ρ = some ρ' → (∀ i ∈ g.slots, i ∈ own) → ρ'.wipes own = ρ.wipes own
  | .nil, [], ρ, ρ', own, h, k => by simp only [bindL, Option.some.injEq] at h; rw [h]
  | .cons a b, u :: us, ρ, ρ', own, h, k => by
    simp only [bindL] at h
    obtain ⟨ρ1, h1, h2⟩ := Option.bind_eq_some_iff.mp h
    rw [bindL_wipes h2 fun i hi => k i (by simp [Tg.slots, hi]), bindG_wipes h1 fun i hi => k i (by simp [Tg.slots, hi])]
  | .nil, _ :: _, _, _, _, h, _ => by simp [bindL] at h
  | .cons _ _, [], _, _, _, h, _ => by simp [bindL] at h
  | .nm _, _, _, _, _, h, _ => by simp [bindL] at h
end
/-- the block of a comprehension, by its own context -/
noncomputable abbrev Blk (X : Cx) (scope : Scope) (s : Shared) (H : Hp) (C : Addr) (cl : List (Str × Addr)) (fp : List Addr) : Cx := X.blk s H scope (compEnvC scope cl C X.env) fp
theorem XOk.blk (xo : XOk a X) {scope : Scope} {s : Shared} {H : Hp} {C : Addr} {cl : List (Str × Addr)} {fp : List Addr} : XOk a (Blk X scope s H C cl fp) :=
  ⟨xo.K, xo.calm, xo.nd, xo.gu, xo.hd, xo.un, PassesOwn.never⟩
/-- what goes along as the walk goes on -/
noncomputable abbrev An0.on (a : An0) (H F : Hp) : An0 := { a with W := H :: a.W, V := F :: a.V }
theorem XOk.on {H F : Hp} (xo : XOk a X) : XOk (a.on H F) X := ⟨xo.K, xo.calm, xo.nd, xo.gu, xo.hd, xo.un, xo.po⟩
theorem FnAt.on {H F : Hp} {x : Str} {f : SpecF} (h : FnAt a X x f) : FnAt (a.on H F) X x f := ⟨h.ex⟩
theorem FnAt.blk {scope : Scope} {s : Shared} {H : Hp} {C : Addr} {cl : List (Str × Addr)} {fp : List Addr} {x : Str} {f : SpecF} (h : FnAt a X x f) : FnAt a (Blk X scope s H C cl fp) x f := ⟨h.ex⟩
/-- the names within a comprehension -/
noncomputable abbrev Ct.inn (c : Ct) (scope : Scope) : Ct := ⟨c.N, relS scope c.sc, scope⟩
theorem COk.blk {c : Ct} (co : COk c X) {scope : Scope} {s : Shared} {H : Hp} {C : Addr} {cl : List (Str × Addr)} {fp : List Addr} : COk (c.inn scope) (Blk X scope s H C cl fp) :=
  ⟨co.N, by show relS scope X.env.scope = _; rw [co.sc], fun x e => by show (scope.names.lookup x == some .cell) = true; rw [e]; rfl, fun x k hk e => lookup_relS_keep hk e⟩
theorem SW.on {F2 : Hp} (w : SW a ρ σ ts vs H F Sc Sm) (h : Sub F2 F) : SW (a.on H F2) ρ σ ts vs H F Sc Sm :=
  ⟨w.sub, w.gw, w.bagM, w.bag, w.cells, w.tmps, w.nd, w.fr, w.len, fun G hG => (List.mem_cons.mp hG).elim (fun e => by rw [e]; exact Sub.refl _) (w.wit G), fun G hG => (List.mem_cons.mp hG).elim (fun e => by rw [e]; exact h) (w.wif G)⟩
theorem SW.off {H2 F2 : Hp} (w : SW (a.on H2 F2) ρ σ ts vs H F Sc Sm) : SW a ρ σ ts vs H F Sc Sm :=
  ⟨w.sub, w.gw, w.bagM, w.bag, w.cells, w.tmps, w.nd, w.fr, w.len, fun G hG => w.wit G (List.mem_cons_of_mem _ hG), fun G hG => w.wif G (List.mem_cons_of_mem _ hG)⟩
/-- the block's readings, whichever block it is -/
noncomputable def gB (X : Cx) (scope : Scope) (tg : Expr) : TG := fun v σ H Q => ∀ s H2 C cl fp, WG (Blk X scope s H2 C cl fp) tg v σ H Q
noncomputable def tB' (X : Cx) (scope : Scope) (ifs : List Expr) : TT := fun σ H Q => ∀ s H2 C cl fp, ∃ t, PTs (Blk X scope s H2 C cl fp) ifs t ∧ t σ H Q
noncomputable def eB (X : Cx) (scope : Scope) (elt : Expr) : TE := fun σ H Q => ∀ s H2 C cl fp, WE (Blk X scope s H2 C cl fp) elt σ H Q
theorem gB_ok {scope : Scope} (s : Shared) (H2 : Hp) (C : Addr) (cl : List (Str × Addr)) (fp : List Addr) : PG (Blk X scope s H2 C cl fp) tg (gB X scope tg) :=
  ⟨fun pins s' σ H v u Q I r hw => (pg_W (X := Blk X scope s H2 C cl fp)).run pins s' σ H v u Q I r (hw s H2 C cl fp)⟩
theorem tB_ok {scope : Scope} {ifs : List Expr} (s : Shared) (H2 : Hp) (C : Addr) (cl : List (Str × Addr)) (fp : List Addr) : PTs (Blk X scope s H2 C cl fp) ifs (tB' X scope ifs) :=
  ⟨fun pins s' σ H Q I hw => let ⟨_, p, q⟩ := hw s H2 C cl fp; p.run pins s' σ H Q I q⟩
theorem eB_ok {scope : Scope} (s : Shared) (H2 : Hp) (C : Addr) (cl : List (Str × Addr)) (fp : List Addr) : PE (Blk X scope s H2 C cl fp) elt (eB X scope elt) :=
  ⟨fun pins s' σ H Q I hw => (pe_W (X := Blk X scope s H2 C cl fp)).run pins s' σ H Q I (hw s H2 C cl fp)⟩
theorem itset (ns : notSet it = true) {env : PySem.Env} (x : Value) : foldedSetIterable it env x = pure x := by
  cases it <;> first | rfl | simp [notSet] at ns
/-- where its test and its element are shown for every block -/
theorem lc_read {c : Ct} {scope : Scope} {own : List (Str × Nat)} {g : Tg} {ifs : List Expr} {wc : Env → (Bool → Prop) → Prop} {we : Env → (T → Prop) → Prop} (xo : XOk a X) (co : COk c X)
    (gk : okG (c.inn scope) g tg = true) (sl : ∀ i ∈ g.slots, i ∈ own.map (·.2)) (wp : ρ.wipes (own.map (·.2)) = ρ)
    (hc : ∀ H F s H2 C cl fp ρ' Ψ, wc ρ' Ψ → ∀ σ H' ts vs Q, SOk (a.on H F) ρ' σ ts vs H' → (∀ b H'', Ψ b → SOk (a.on H F) ρ' σ ts vs H'' → Q b H'') → ∃ t, PTs (Blk X scope s H2 C cl fp) ifs t ∧ t σ H' Q)
    (he : ∀ H F s H2 C cl fp ρ' Ψ, we ρ' Ψ → DE (a.on H F) (Blk X scope s H2 C cl fp) ρ' elt Ψ)
    (h : DI a X ρ tg it fun ds => ds.length ≤ 100000 ∧ lcW g wc we ρ ds [] fun us => Φ (.lst us)) {Q : VK}
    (ok : SOk a ρ σ ts vs H) (k : ∀ v t H', Φ t → SOk a ρ σ (t :: ts) (v :: vs) H' → Q v H') : tLc (WI X tg it) (gB X scope tg) (tB' X scope ifs) (eB X scope elt) (own.map (·.2)) σ H Q := by
  show WI X tg it σ H fun J H1 => ∀ D, H1 D = none → ∃ W : Nat → Nat → Hp → Prop, _
  refine h σ H ts vs _ ok fun J H1 F Sc Sm ds ⟨hz, q⟩ w y D hD => ?_
  obtain ⟨G, Y, wk, hG, hY⟩ := y
  -- the state at a turn
  have w0 := w.on (Sub.refl F)
  obtain ⟨Sm0, w1⟩ := SW.mkLst (us := []) (ws := []) (p := D) w0 rfl rfl hD
  have hW : ∀ G' ∈ (a.on H1 F).W, hb a.toAn G' D = none := fun G' hG' => by
    cases e : hb a.toAn G' D with
    | none => rfl
    | some o =>
      have := hb_sub _ _ D o (w0.wit G' hG' D o e)
      rw [hD] at this; cases this
  refine lc_it wk (g := gB X scope tg) (tt := tB' X scope ifs) (te := eB X scope elt) (vs := own.map (·.2)) (σ := σ) (Qd := fun H => Q (.ref D) H) (fun i H => ∃ F2 Sc2 Sm2 acc, SW (a.on H1 F) ρ σ (.lst acc :: ts) (.ref D :: vs) H F2 Sc2 Sm2 ∧ acc.length ≤ i ∧ lcW g wc we ρ (ds.drop i) acc fun us => Φ (.lst us))
    ⟨F, Sc, Sm0, [], w1, Nat.zero_le _, q⟩ (fun i H hi ⟨F2, Sc2, Sm2, acc, w2, _⟩ => hG H fun p o e => w2.sub p o (w2.wif F List.mem_cons_self p o e)) ?_ ?_
  · rintro i x H H' hi ⟨F2, Sc2, Sm2, acc, w2, la, q2⟩ hy
    rw [List.drop_eq_getElem_cons hi] at q2
    obtain ⟨ρ', hb', q3⟩ := q2
    have s2 : Sub F F2 := w2.wif F List.mem_cons_self
    -- the item
    have ok3 : SOk (a.on H1 F) ρ σ (.leaf ds[i] :: .lst acc :: ts) (x :: .ref D :: vs) H' := by
      rcases hY i H x H' hi hy with ⟨rfl, d, e1, i1⟩ | ⟨p, xs, es, rfl, hp, rfl, il, e1⟩
      · rw [List.getElem?_eq_getElem hi] at e1
        cases e1
        exact ⟨F2, Sc2, Sm2, w2.leaf (i1.mono s2)⟩
      · rw [List.getElem?_eq_getElem hi] at e1
        have e1 := Option.some.inj e1
        rw [e1]
        obtain ⟨_, hF, _⟩ := w2.fresh hp
        refine ⟨_, Sc2, Sm2, (w2.froze (o := .tup xs) hp).leaf ?_⟩
        simp only [Is]
        exact ⟨p, xs, rfl, .inl (.inl upd_same), il.mono (s2.trans (sub_new hF))⟩
    obtain ⟨F3, Sc3, Sm3, w3⟩ := ok3
    obtain ⟨Sc4, w4⟩ := w3.wipe (own.map (·.2))
    rw [wp] at w4
    intro s0 H0 C0 cl0 fp0
    refine dg (xo.on.blk) (co.blk (scope := scope)) gk rfl ⟨F3, Sc4, Sm3, w4⟩ hb' fun σ2 ok5 e5 => ⟨?_, fun s1 H1' C1 cl1 fp1 => ?_⟩
    · have := e5 (own.map (·.2)) sl
      rw [this, wipe_sub _ _ _ fun v h => h]
    · have back : ∀ {ts2 : List T} {vs2 : List V} {H2 : Hp}, SOk (a.on H1 F) ρ' σ2 ts2 vs2 H2 → SOk (a.on H1 F) ρ σ ts2 vs2 H2 := fun ⟨F6, Sc6, Sm6, w6⟩ => by
        obtain ⟨Sc7, w7⟩ := w6.wipe (own.map (·.2))
        rw [bindG_wipes hb' sl, wp, e5 (own.map (·.2)) sl, wipe_sub _ _ _ fun v h => h] at w7
        exact ⟨F6, Sc7, Sm6, w7.unwipe wp⟩
      refine hc H1 F s1 H1' C1 cl1 fp1 ρ' _ q3 σ2 H' _ _ _ ok5 fun b H3 hb3 ok6 => ?_
      cases b with
      | true =>
        rw [if_pos rfl] at hb3
        rw [if_pos rfl]
        intro s2' H2' C2 cl2 fp2
        refine he H1 F s2' H2' C2 cl2 fp2 ρ' _ hb3 σ2 H3 _ _ _ ok6 fun y t H4 ht ok7 => ?_
        refine SOk.fin ok7 ht fun u hu nu ok8 => ?_
        obtain ⟨F9, Sc9, Sm9, w9⟩ := back ok8
        obtain ⟨_, _, _, otm⟩ := (⟨F, Sc, Sm, w0.tmps⟩ : ∃ F Sc Sm, OwL a.toAn F H1 ts vs Sm)
        obtain ⟨ws, hD2, l2, Sm10, w10⟩ := w9.more nu hW List.mem_cons_self (H1 := H1) w0.tmps
        refine ⟨ws, hD2, ?_, F9, Sc9, Sm10, acc ++ [u], w10, by simp; omega, hu⟩
        rw [l2]
        exact smallLt (by omega)
      | false =>
        rw [if_neg (by decide)] at hb3
        rw [if_neg (by decide)]
        obtain ⟨F9, Sc9, Sm9, w9⟩ := back ok6
        exact ⟨F9, Sc9, Sm9, acc, w9, by omega, hb3⟩
  · rintro H ⟨F2, Sc2, Sm2, acc, w2, la, q2⟩
    rw [List.drop_length] at q2
    exact k _ _ H q2 ⟨F2, Sc2, Sm2, w2.off⟩
theorem de_lc {c : Ct} {scope : Scope} {own : List (Str × Nat)} {g : Tg} {ifs : List Expr} {wc : Env → (Bool → Prop) → Prop} {we : Env → (T → Prop) → Prop} (xo : XOk a X) (co : COk c X)
    (bk : blkC c.N c.sc scope own = true) (gk : okG (c.inn scope) g tg = true) (sl : ∀ i ∈ g.slots, i ∈ own.map (·.2)) (wp : ρ.wipes (own.map (·.2)) = ρ) (ns : notSet it = true)
    (hc : ∀ H F s H2 C cl fp ρ' Ψ, wc ρ' Ψ → ∀ σ H' ts vs Q, SOk (a.on H F) ρ' σ ts vs H' → (∀ b H'', Ψ b → SOk (a.on H F) ρ' σ ts vs H'' → Q b H'') → ∃ t, PTs (Blk X scope s H2 C cl fp) ifs t ∧ t σ H' Q)
    (he : ∀ H F s H2 C cl fp ρ' Ψ, we ρ' Ψ → DE (a.on H F) (Blk X scope s H2 C cl fp) ρ' elt Ψ)
    (h : DI a X ρ tg it fun ds => ds.length ≤ 100000 ∧ lcW g wc we ρ ds [] fun us => Φ (.lst us)) :
    DE a X ρ (.ListComp elt [⟨tg, it, ifs, 0⟩] scope pos) Φ := fun σ H ts vs Q ok k => by
  have bo : BlkOk X.N X.env.scope scope own := by
    rw [co.N, co.sc]
    exact blkOk_by bk
  exact ⟨_, pe_lc (own := own) xo.calm xo.nd pi_W bo gB_ok tB_ok eB_ok (itset ns), lc_read xo co gk sl wp hc he h ok k⟩
end
end DL
namespace DL
open PySem PySem.Spec PyProof.Rows L2

structure EnD where
  nx : Env → Prop
  rt : T → Env → Prop
  bk : Env → Prop := fun _ => False
  ct : Env → Prop := fun _ => False
noncomputable def Mt (a : An0) (K : EnD) (D : Ends) : Prop :=
  (∀ ρ σ H, K.nx ρ → SOk a ρ σ [] [] H → D.nx σ H) ∧ (∀ t v ρ σ H, K.rt t ρ → SOk a ρ σ [t] [v] H → D.rt v H) ∧
  (∀ ρ σ H, K.bk ρ → SOk a ρ σ [] [] H → D.bk σ H) ∧ ∀ ρ σ H, K.ct ρ → SOk a ρ σ [] [] H → D.ct σ H
noncomputable def DS (a : An0) (X : Cx) (ρ : Env) (st : Stmt) (K : EnD) : Prop := ∀ σ H D, SOk a ρ σ [] [] H → Mt a K D → WS X st D σ H
noncomputable def DB (a : An0) (X : Cx) (ρ : Env) (sts : List Stmt) (K : EnD) : Prop := ∀ σ H D, SOk a ρ σ [] [] H → Mt a K D → WB X sts D σ H
section
variable {a : An0} {X : Cx} {ρ : Env} {σ : L2.St} {ts : List T} {vs : List V} {H F : Hp} {Sc Sm : List Addr} {Φ : T → Prop} {pos p : Pos} {e A B C tg it elt : Expr} {es : List Expr} {Ψ : List D → Prop} {z : Bool} {st : Stmt} {rest body : List Stmt} {K : EnD}
theorem db_nil (h : K.nx ρ) : DB a X ρ [] K := fun σ H D ok m => ⟨_, pss_nil, m.1 ρ σ H h ok⟩
theorem db_cons (h : DS a X ρ st { K with nx := fun ρ' => DB a X ρ' rest K }) : DB a X ρ (st :: rest) K := fun σ H D ok m => by
  refine ⟨_, pss_cons ps_W pb_W, ?_⟩
  show WS X st { D with nx := WB X rest D } σ H
  exact h σ H _ ok ⟨fun ρ' σ' H' hk ok' => hk σ' H' D ok' m, m.2⟩
/-- a value that makes no block of its own -/
noncomputable def noComp : Expr → Bool
  | .ListComp _ _ _ _ => false
  | .SetComp _ _ _ _ => false
  | .DictComp _ _ _ _ _ => false
  | _ => true
theorem noswap {v : Expr} {t : Option Expr} {l : Nat} {env : PySem.Env} (h : noComp v = true) : swapsWith v t l env = pure false := by
  cases v <;> first | rfl | simp [noComp] at h
/-- not a tuple stored into a tuple -/
noncomputable def noPar : Expr → Expr → Bool
  | .Tuple _ _ _, .Tuple vs _ _ => vs.all (foldedForSure 8) || !(vs.length == 2 || vs.length == 3)
  | .List _ _, .Tuple _ _ _ => false
  | _, _ => true
theorem nopar {t v : Expr} {env : PySem.Env} (h : noPar t v = true) : swappedStores [t] v env = pure none := by
  cases t <;> first | rfl | skip
  · cases v <;> first | rfl | simp [noPar] at h
  · cases v <;> first | rfl | skip
    rename_i ts _ _ vs _ _
    simp only [noPar, Bool.or_eq_true] at h
    unfold swappedStores
    simp only [pure_bind]
    split
    · rfl
    · rename_i hn
      split
      · rfl
      · split
        · rfl
        · rcases h with h | h
          · rw [if_pos h]
          · exfalso
            apply hn
            simp only [Bool.not_eq_true', Bool.or_eq_false_iff, beq_eq_false_iff_ne, ne_eq] at h
            simp only [Bool.or_eq_true, Bool.not_eq_true', Bool.or_eq_false_iff, beq_eq_false_iff_ne, ne_eq, bne_iff_ne]
            by_cases e : vs.length = ts.length
            · rw [← e]; exact .inl (.inl h)
            · exact .inl (.inr e)
theorem asg_one {c : Ct} {env : PySem.Env} {g : Tg} (k : okG c g tg = true) : List.map (fun x => x.snd) (assignEach [tg] env) = [assign tg env] := asg_map k
theorem ds_ret (h : DE a X ρ e fun t => t.fin fun u => K.rt u ρ) : DS a X ρ (.Return (some e) pos) K := fun σ H D ok m => by
  refine ⟨_, ps_ret pe_W, ?_⟩
  show WE X e σ H D.rt
  exact h σ H [] [] _ ok fun v t H1 h1 ok1 => SOk.fin ok1 h1 fun u hk nu ok2 => m.2.1 u v ρ σ H1 hk ok2
theorem ds_expr (h1 : noComp e = true) (h : DE a X ρ e fun _ => K.nx ρ) : DS a X ρ (.Expr e pos) K := fun σ H D ok m => by
  refine ⟨_, ps_expr pe_W (noswap h1), ?_⟩
  show WE X e σ H fun _ H1 => D.nx σ H1
  exact h σ H [] [] _ ok fun v t H1 h1 ok1 => m.1 ρ σ H1 h1 ok1.pop1
theorem ds_if {s1 s2 : List Stmt} (h : DT a X ρ A fun b => if b = true then DB a X ρ s1 K else DB a X ρ s2 K) : DS a X ρ (.If A s1 s2 pos) K := fun σ H D ok m => by
  refine ⟨_, ps_if pt_W pb_W pb_W, ?_⟩
  show WT X A σ H fun b H1 => if b = true then WB X s1 D σ H1 else WB X s2 D σ H1
  refine h σ H [] [] _ ok fun b H1 hb ok1 => ?_
  cases b with
  | true =>
    rw [if_pos rfl] at hb ⊢
    exact hb σ H1 D ok1 m
  | false =>
    rw [if_neg (by decide)] at hb ⊢
    exact hb σ H1 D ok1 m

noncomputable def forW (g : Tg) (wb : Env → EnD → Prop) : List D → Env → EnD → Prop
  | [], ρ, K => K.nx ρ
  | d :: r, ρ, K => ∃ ρ', bindG g (.leaf d) ρ = some ρ' ∧ wb ρ' { nx := fun ρ2 => forW g wb r ρ2 K, ct := fun ρ2 => forW g wb r ρ2 K, bk := K.nx, rt := K.rt }
noncomputable abbrev An0.onV (a : An0) (F : Hp) : An0 := { a with V := F :: a.V }
theorem XOk.onV {F : Hp} (xo : XOk a X) : XOk (a.onV F) X := ⟨xo.K, xo.calm, xo.nd, xo.gu, xo.hd, xo.un, xo.po⟩
theorem SW.onV {F2 : Hp} (w : SW a ρ σ ts vs H F Sc Sm) (h : Sub F2 F) : SW (a.onV F2) ρ σ ts vs H F Sc Sm :=
  ⟨w.sub, w.gw, w.bagM, w.bag, w.cells, w.tmps, w.nd, w.fr, w.len, w.wit, fun G hG => (List.mem_cons.mp hG).elim (fun e => by rw [e]; exact h) (w.wif G)⟩
theorem SW.offV {F2 : Hp} (w : SW (a.onV F2) ρ σ ts vs H F Sc Sm) : SW a ρ σ ts vs H F Sc Sm :=
  ⟨w.sub, w.gw, w.bagM, w.bag, w.cells, w.tmps, w.nd, w.fr, w.len, w.wit, fun G hG => w.wif G (List.mem_cons_of_mem _ hG)⟩
theorem SOk.offV {F2 : Hp} : SOk (a.onV F2) ρ σ ts vs H → SOk a ρ σ ts vs H := fun ⟨F, Sc, Sm, w⟩ => ⟨F, Sc, Sm, w.offV⟩
theorem foldset (ns : notSet it = true) {env : PySem.Env} (x : Value) : foldedSetIterable it env x = pure x := by
  cases it <;> first | rfl | simp [notSet] at ns
theorem passes0 (xo : XOk a X) : PassesOwn (model X.prog X.w) X.A X.env X.xe := xo.po
theorem ds_for {c : Ct} {g : Tg} {wb : Env → EnD → Prop} (xo : XOk a X) (co : COk c X) (hg : okG c g tg = true) (ns : notSet it = true) (hb : ∀ F ρ' K', wb ρ' K' → DB (a.onV F) X ρ' body K')
    (h : DI a X ρ tg it fun ds => forW g wb ds ρ K) : DS a X ρ (.For tg it body [] pos) K := fun σ H D ok m => by
  refine ⟨_, ps_for (passes0 xo) xo.calm pi_W pg_W pb_W (foldset ns), ?_⟩
  show WI X tg it σ H fun J H1 => _
  refine h σ H [] [] _ ok fun J H1 F Sc Sm ds q w y => ?_
  obtain ⟨G, Y, wk, hG, hY⟩ := y
  refine for_it wk (g := WG X tg) (tb := WB X body) (D := D) (σ := σ) (H := H1) (fun i σ H => ∃ ρ2 F2 Sc2 Sm2, SW (a.onV F) ρ2 σ [] [] H F2 Sc2 Sm2 ∧ forW g wb (ds.drop i) ρ2 K)
    ⟨ρ, F, Sc, Sm, w.onV (Sub.refl F), q⟩ (fun i σ H hi ⟨ρ2, F2, Sc2, Sm2, w2, _⟩ => hG H fun p o e => w2.sub p o (w2.wif F List.mem_cons_self p o e)) ?_ ?_
  · rintro i x σ H H' hi ⟨ρ2, F2, Sc2, Sm2, w2, q2⟩ hy
    rw [List.drop_eq_getElem_cons hi] at q2
    obtain ⟨ρ', hb', q3⟩ := q2
    have s2 : Sub F F2 := w2.wif F List.mem_cons_self
    have ok3 : SOk (a.onV F) ρ2 σ [.leaf ds[i]] [x] H' := by
      rcases hY i H x H' hi hy with ⟨rfl, d, e1, i1⟩ | ⟨p, xs, es, rfl, hp, rfl, il, e1⟩
      · rw [List.getElem?_eq_getElem hi] at e1
        cases e1
        exact ⟨F2, Sc2, Sm2, w2.leaf (i1.mono s2)⟩
      · rw [List.getElem?_eq_getElem hi] at e1
        have e1 := Option.some.inj e1
        rw [e1]
        obtain ⟨_, hF, _⟩ := w2.fresh hp
        refine ⟨_, Sc2, Sm2, (w2.froze (o := .tup xs) hp).leaf ?_⟩
        simp only [Is]
        exact ⟨p, xs, rfl, .inl (.inl upd_same), il.mono (s2.trans (sub_new hF))⟩
    refine dg xo.onV co hg rfl ok3 hb' fun σ2 ok4 _ => ?_
    refine hb F ρ' _ q3 σ2 H' _ ok4 ⟨?_, ?_, ?_, ?_⟩
    · rintro ρ5 σ5 H5 hk ⟨F5, Sc5, Sm5, w5⟩
      exact ⟨ρ5, F5, Sc5, Sm5, w5, hk⟩
    · exact fun t v ρ5 σ5 H5 hk ok5 => m.2.1 t v ρ5 σ5 H5 hk ok5.offV
    · exact fun ρ5 σ5 H5 hk ok5 => m.1 ρ5 σ5 H5 hk ok5.offV
    · rintro ρ5 σ5 H5 hk ⟨F5, Sc5, Sm5, w5⟩
      exact ⟨ρ5, F5, Sc5, Sm5, w5, hk⟩
  · rintro σ H ⟨ρ2, F2, Sc2, Sm2, w2, q2⟩
    rw [List.drop_length] at q2
    exact m.1 ρ2 σ H q2 ⟨F2, Sc2, Sm2, w2.offV⟩
/-- a while by so many turns at most -/
noncomputable def whileW (wt : Env → (Bool → Prop) → Prop) (wb : Env → EnD → Prop) : Nat → Env → EnD → Prop
  | 0, _, _ => False
  | n + 1, ρ, K => wt ρ fun b => if b = true then wb ρ { nx := fun ρ2 => whileW wt wb n ρ2 K, ct := fun ρ2 => whileW wt wb n ρ2 K, bk := K.nx, rt := K.rt } else K.nx ρ
theorem OwC.focus {a : An} {F H : Hp} : ∀ {ρ : Env} {σ : L2.St} {S : List Addr} {i : Nat} {u : T}, OwC a F H ρ σ S → ρ.at i = some u → ∃ x Si Sr, σ[i]? = some (some x) ∧ Ow a F H u x Si ∧ S.Perm (Si ++ Sr) ∧
    ∀ F' H' u' Si', Sub F F' → (∀ p ∈ Sr, ∀ o, H p = some o → H' p = some o) → Ow a F' H' u' x Si' → u'.nv = true → ∃ S', OwC a F' H' (ρ.put i (some u')) σ S' ∧ S'.Perm (Si' ++ Sr)
  | [], _, _, _, _, _, h => by simp [Env.at] at h
  | none :: ρ, σ, S, 0, u, h, g => by simp [Env.at] at g
  | some t :: ρ, σ, S, 0, u, h, g => by
    simp only [OwC] at h
    simp only [Env.at, Option.some.injEq] at g
    subst g
    obtain ⟨v, S1, S2, ⟨e1, nv⟩, h1, h2, rfl⟩ := h
    refine ⟨v, S1, S2, ?_, h1, List.Perm.refl _, fun F' H' u' Si' sF k hu n => ⟨Si' ++ S2, ?_, List.Perm.refl _⟩⟩
    · cases σ with
      | nil => simp at e1
      | cons x r => simpa using e1
    · simp only [Env.put, OwC]
      exact ⟨v, Si', S2, ⟨e1, n⟩, hu, h2.mono' sF k, rfl⟩
  | none :: ρ, σ, S, i + 1, u, h, g => by
    simp only [OwC] at h
    simp only [Env.at] at g
    obtain ⟨x, Si, Sr, e1, h1, hp, go⟩ := OwC.focus h g
    refine ⟨x, Si, Sr, ?_, h1, hp, fun F' H' u' Si' sF k hu n => ?_⟩
    · cases σ with
      | nil => simp at e1
      | cons x r => simpa using e1
    · obtain ⟨S', h3, p3⟩ := go F' H' u' Si' sF k hu n
      exact ⟨S', by simpa only [Env.put, OwC] using h3, p3⟩
  | some t :: ρ, σ, S, i + 1, u, h, g => by
    simp only [OwC] at h
    simp only [Env.at] at g
    obtain ⟨v, S1, S2, e0, h0, h2, rfl⟩ := h
    obtain ⟨x, Si, Sr, e1, h1, hp, go⟩ := OwC.focus h2 g
    refine ⟨x, Si, S1 ++ Sr, ?_, h1, ?_, fun F' H' u' Si' sF k hu n => ?_⟩
    · cases σ with
      | nil => simp at e1
      | cons x r => simpa using e1
    · exact (List.Perm.append_left S1 hp).trans (by rw [← List.append_assoc, ← List.append_assoc]; exact List.Perm.append_right _ List.perm_append_comm)
    · obtain ⟨S', h3, p3⟩ := go F' H' u' Si' sF (fun p hp => k p (List.mem_append_right _ hp)) hu n
      refine ⟨S1 ++ S', ?_, (List.Perm.append_left S1 p3).trans (by rw [← List.append_assoc, ← List.append_assoc]; exact List.Perm.append_right _ List.perm_append_comm)⟩
      simp only [Env.put, OwC]
      exact ⟨v, S1, S', e0, h0.mono' sF e0.2 (fun p hp => k p (List.mem_append_left _ hp)), h3, rfl⟩
theorem SW.rewr {i : Nat} {us : List T} (w : SW a ρ σ ts vs H F Sc Sm) (hW : a.W = []) (e : ρ.at i = some (.lst us)) : ∃ l ws Sa, σ[i]? = some (some (.ref l)) ∧ H l = some (.lst ws) ∧ OwL a.toAn F H us ws Sa ∧ T.nvs us = true ∧ (Sa ++ Sm).Nodup ∧
    ∀ us' ws' Sb, OwL a.toAn F H us' ws' Sb → T.nvs us' = true → Sb.Nodup → (∀ p ∈ Sb, p ∈ Sa ++ Sm) → SOk a (ρ.put i (some (.lst us'))) σ [] [] (L2.upd H l (.lst ws')) := by
  obtain ⟨x, Si, Sr, e1, h1, hp, go⟩ := w.cells.focus e
  simp only [Ow] at h1
  obtain ⟨nn, l, ws, Sa, rfl, hl, ho, rfl⟩ := h1
  have nd : ((l :: Sa ++ Sr) ++ Sm).Nodup := ((List.Perm.append_right Sm hp).nodup_iff).mp w.nd
  have mem : ∀ p, p ∈ l :: Sa ++ Sr → p ∈ Sc := fun p h => hp.mem_iff.mpr h
  obtain ⟨n1, n2, n3⟩ := List.nodup_append.mp nd
  obtain ⟨m1, m2, m3⟩ := List.nodup_append.mp n1
  obtain ⟨k1, k2⟩ := List.nodup_cons.mp m1
  refine ⟨l, ws, Sa, e1, hl, ho, nn, List.nodup_append.mpr ⟨k2, n2, fun p hp q hq => n3 p (List.mem_append_left _ (List.mem_cons_of_mem _ hp)) q hq⟩, fun us' ws' Sb hb nb ndb sub => ?_⟩
  have lSb : l ∉ Sb := fun z => (List.mem_append.mp (sub l z)).elim k1 fun y => n3 l (List.mem_append_left _ List.mem_cons_self) l y rfl
  have lSr : l ∉ Sr := fun z => m3 l List.mem_cons_self l z rfl
  have keep : ∀ {S : List Addr}, l ∉ S → ∀ p ∈ S, ∀ o, H p = some o → L2.upd H l (.lst ws') p = some o := fun {S} h p hp o e => by
    rw [upd_ne (fun z => h (by rw [← z]; exact hp))]
    exact e
  obtain ⟨S', h3, p3⟩ := go F (L2.upd H l (.lst ws')) (.lst us') (l :: Sb) (Sub.refl F) (keep lSr) (by
    simp only [Ow]
    exact ⟨nb, l, ws', Sb, rfl, upd_same, hb.mono' (Sub.refl F) nb (keep lSb), rfl⟩) (by simpa only [T.nv] using nb)
  have dis : ∀ p ∈ Sb, p ∉ Sr := fun p hp hq => (List.mem_append.mp (sub p hp)).elim (fun y => m3 p (List.mem_cons_of_mem _ y) p hq rfl) fun y => n3 p (List.mem_append_right _ hq) p y rfl
  refine ⟨F, S', [], w.upd (Sm' := []) (mem l (List.mem_append_left _ List.mem_cons_self) |> List.mem_append_left _) (by rw [hW]; exact fun _ h => nomatch h) h3 (by simp [OwL]) ?_ (fun p hp' => ?_) (by rw [Env.put_length]; exact w.len)⟩
  · rw [List.append_nil]
    exact p3.nodup_iff.mpr (List.nodup_append.mpr ⟨List.nodup_cons.mpr ⟨lSb, ndb⟩, m2, fun p hp q hq e => by
      subst e
      rcases List.mem_cons.mp hp with rfl | hp
      · exact lSr hq
      · exact dis p hp hq⟩)
  · rw [List.append_nil] at hp'
    rcases List.mem_append.mp (p3.mem_iff.mp hp') with y | y
    · rcases List.mem_cons.mp y with rfl | y
      · exact List.mem_append_left _ (mem _ (List.mem_append_left _ List.mem_cons_self))
      · rcases List.mem_append.mp (sub p y) with y | y
        · exact List.mem_append_left _ (mem _ (List.mem_append_left _ (List.mem_cons_of_mem _ y)))
        · exact List.mem_append_right _ y
    · exact List.mem_append_left _ (mem _ (List.mem_append_right _ y))
end
end DL
namespace DL
open PySem PySem.Spec PyProof.Rows L2
section
variable {a : An0} {X : Cx} {ρ : Env} {σ : L2.St} {ts : List T} {vs : List V} {H F : Hp} {Sc Sm : List Addr} {Φ : T → Prop} {pos p : Pos} {e A B C tg it elt : Expr} {es : List Expr} {Ψ : List D → Prop} {z : Bool} {st : Stmt} {rest body : List Stmt} {K : EnD}

theorem pvar {i : Nat} {x : Str} {xp : Pos} (hN : X.N[i]? = some x) (hv : Vis X.env.scope x) (hd : (x == ("__debug__" : Str)) = false) (hc : (x == ("__classdict__" : Str)) = false) : PE X (.Name x xp) (tVar i) := pe_var hN hv hd hc
/-- the list in a slot, and one temporary more -/
theorem ds_append {i : Nat} {x : Str} {us : List T} {xp ap cp : Pos} (xo : XOk a X) (hW : a.W = []) (hN : X.N[i]? = some x) (hv : Vis X.env.scope x) (hd : (x == ("__debug__" : Str)) = false) (hc : (x == ("__classdict__" : Str)) = false)
    (hl : (ap.endLine == cp.line) = true) (ns : notStar e = true) (hat : ρ.at i = some (.lst us)) (hz : us.length ≤ 99999)
    (h : DE a X ρ e fun t => t.fin fun u => K.nx (ρ.put i (some (.lst (us ++ [u]))))) : DS a X ρ (.Expr (.Call (.Attribute (.Name x xp) "append" ap) [e] [] cp) pos) K := fun σ H D ok m => by
  refine ⟨_, ps_expr (pe_bm PySem.F.plainAttrs_list PySem.F.slot_list_append PySem.F.type_list_append mt_append (pvar hN hv hd hc) (pa_W (e := [e])) rfl ?_ hl (star_of ns) rfl) rfl, ?_⟩
  · rw [star_of ns]
    rfl
  show tVar i σ H fun x H1 => tyV X.K "list" x H1 ∧ WA X [e] σ H1 fun xs H2 => rAppend x xs H2 fun _ H3 => D.nx σ H3
  obtain ⟨F, Sc, Sm, w⟩ := ok
  obtain ⟨v, S1, e1, h1, _⟩ := w.cells.get hat
  simp only [Ow] at h1
  obtain ⟨_, l, ws0, _, rfl, hl0, _⟩ := h1
  refine ⟨_, e1, .inl ⟨rfl, _, .inl (.inl hl0)⟩, ?_⟩
  have da : DA a X ρ [e] fun us' => ∃ u, us' = [u] ∧ K.nx (ρ.put i (some (.lst (us ++ [u])))) := da_cons ns (fun σ H ts vs Q ok k => h σ H ts vs Q ok fun v t H' ht ok' => k v t H' (by
    cases t <;> (simp only [T.fin] at ht ⊢) <;> first | exact da_nil ⟨_, rfl, ht⟩ | exact ⟨ht.1, da_nil ⟨_, rfl, ht.2⟩⟩) ok')
  refine da σ H [] [] _ ⟨F, Sc, Sm, w⟩ fun ws us' H2 ⟨u, hu, hk⟩ nu l2 ok2 => ?_
  subst hu
  obtain ⟨y, rfl⟩ : ∃ y, ws = [y] := by
    match ws, l2 with
    | [y], _ => exact ⟨y, rfl⟩
  obtain ⟨F2, Sc2, Sm2, w2⟩ := ok2
  obtain ⟨l', ws, Sa, e2, hl2, ho, nn, nd, go⟩ := w2.rewr hW hat
  rw [e1] at e2
  cases e2
  refine ⟨l, ws, y, rfl, rfl, hl2, by rw [ho.length]; exact smallLt (by omega), ?_⟩
  have ht := w2.tmps
  have nvt : u.nv = true := by
    simp only [List.append_nil, List.all_cons, List.all_nil, Bool.and_true] at nu ht
    simp only [OwL] at ht
    obtain ⟨v', r', S3, S4, _, h3, _⟩ := ht
    exact h3.nv nu
  refine m.1 _ σ _ hk (go (us ++ [u]) (ws ++ [y]) (Sa ++ Sm2) (OwL.join ho (by simpa using ht)) ?_ nd fun p hp => hp)
  have : ∀ (us : List T), T.nvs us = true → T.nvs (us ++ [u]) = true := fun us => by
    induction us with
    | nil => intro _; simp [T.nvs, nvt]
    | cons u us ih => intro h; simp only [T.nvs, Bool.and_eq_true, List.cons_append] at h ⊢; exact ⟨h.1, ih h.2⟩
  exact this us nn
theorem OwL.set {a : An} {F H : Hp} {t : T} {v : V} {St : List Addr} (ht : Ow a F H t v St) : ∀ {us : List T} {ws : List V} {S : List Addr} {j : Nat}, OwL a F H us ws S → j < us.length → (S ++ St).Nodup → ∃ S', OwL a F H (us.set j t) (ws.set j v) S' ∧ S'.Nodup ∧ ∀ p ∈ S', p ∈ S ++ St
  | [], _, _, _, _, h, _ => by simp at h
  | u :: us, ws, S, 0, h, _, nd => by
    simp only [OwL] at h
    obtain ⟨x, r, S1, S2, rfl, h1, h2, rfl⟩ := h
    refine ⟨St ++ S2, ?_, ?_, fun p hp => ?_⟩
    · simp only [List.set_cons_zero, OwL]
      exact ⟨v, r, St, S2, rfl, ht, h2, rfl⟩
    · obtain ⟨n1, n2, n3⟩ := List.nodup_append.mp nd
      exact List.nodup_append.mpr ⟨n2, (List.nodup_append.mp n1).2.1, fun p hp q hq e => n3 q (List.mem_append_right _ hq) p hp e.symm⟩
    · rcases List.mem_append.mp hp with z | z
      · exact List.mem_append_right _ z
      · exact List.mem_append_left _ (List.mem_append_right _ z)
  | u :: us, ws, S, j + 1, h, l, nd => by
    simp only [OwL] at h
    obtain ⟨x, r, S1, S2, rfl, h1, h2, rfl⟩ := h
    obtain ⟨n1, n2, n3⟩ := List.nodup_append.mp nd
    obtain ⟨m1, m2, m3⟩ := List.nodup_append.mp n1
    obtain ⟨S', h3, n4, k⟩ := OwL.set ht (j := j) h2 (by simpa using l) (List.nodup_append.mpr ⟨m2, n2, fun p hp q hq => n3 p (List.mem_append_right _ hp) q hq⟩)
    refine ⟨S1 ++ S', ?_, List.nodup_append.mpr ⟨m1, n4, fun p hp q hq => ?_⟩, fun p hp => ?_⟩
    · simp only [List.set_cons_succ, OwL]
      exact ⟨x, _, S1, S', rfl, h1, h3, rfl⟩
    · rcases List.mem_append.mp (k q hq) with z | z
      · exact m3 p hp q z
      · exact n3 p (List.mem_append_left _ hp) q z
    · rcases List.mem_append.mp hp with z | z
      · exact List.mem_append_left _ (List.mem_append_left _ z)
      · rcases List.mem_append.mp (k p z) with y | y
        · exact List.mem_append_left _ (List.mem_append_right _ y)
        · exact List.mem_append_right _ y
theorem nvs_set {t : T} (n : t.nv = true) : ∀ {us : List T} (j : Nat), T.nvs us = true → T.nvs (us.set j t) = true
  | [], _, _ => rfl
  | u :: us, 0, h => by
    simp only [T.nvs, Bool.and_eq_true, List.set_cons_zero] at h ⊢
    exact ⟨n, h.2⟩
  | u :: us, j + 1, h => by
    simp only [T.nvs, Bool.and_eq_true, List.set_cons_succ] at h ⊢
    exact ⟨h.1, nvs_set n j h.2⟩
/-- the one temporary is stored into the list in slot i -/
theorem SW.store {i j : Nat} {us : List T} {u : T} {y : V} (w : SW a ρ σ [u] [y] H F Sc Sm) (hW : a.W = []) (nu : u.nvw = true) (hat : ρ.at i = some (.lst us)) (hj : j < us.length) :
    ∃ l ws, σ[i]? = some (some (.ref l)) ∧ H l = some (.lst ws) ∧ ws.length = us.length ∧ SOk a (ρ.put i (some (.lst (us.set j u)))) σ [] [] (L2.upd H l (.lst (ws.set j y))) := by
  obtain ⟨l, ws, Sa, e2, hl2, ho, nn, nd, go⟩ := w.rewr hW hat
  have ht := w.tmps
  simp only [OwL] at ht
  obtain ⟨v', r', S3, S4, e3, h3, ⟨rfl, rfl⟩, rfl⟩ := ht
  cases e3
  rw [List.append_nil] at nd go
  obtain ⟨S', h4, n4, k4⟩ := OwL.set h3 ho hj nd
  exact ⟨l, ws, e2, hl2, ho.length, go _ _ S' h4 (nvs_set (h3.nv nu) j nn) n4 k4⟩
theorem noswap1 {v t : Expr} {l : Nat} {env : PySem.Env} (h : noComp v = true) : swapsWithSole [t] v l env = pure false := noswap h
theorem asg_sub {o B : Expr} {sp : Pos} {env : PySem.Env} (hB : notSlice B = true) (v : Value) : assign (.Subscript o B sp) env v = (do
    let ov ← holding [v] (eval o env)
    let iv ← holding [v, ov] (eval B env)
    standAt sp
    holding [v, ov, iv] (setItem ov iv v)
    release [v, ov, iv] []) := by
  cases B with
  | Slice l u st p =>
    cases st with
    | none => simp [notSlice] at hB
    | some _ => rfl
  | _ => rfl
theorem ds_setix {i : Nat} {x : Str} {us : List T} {xp sp : Pos} (xo : XOk a X) (hW : a.W = []) (hN : X.N[i]? = some x) (hv : Vis X.env.scope x) (hd : (x == ("__debug__" : Str)) = false) (hc : (x == ("__classdict__" : Str)) = false)
    (h1 : noComp e = true) (hB : notSlice B = true) (hat : ρ.at i = some (.lst us)) (h : DE a X ρ e fun t => t.fin fun u => DE a X ρ B fun y => ∃ n j, y.dat = .int n ∧ ixN us.length n = some j ∧ K.nx (ρ.put i (some (.lst (us.set j u))))) :
    DS a X ρ (.Assign [.Subscript (.Name x xp) B sp] e pos) K := fun σ H D ok m => by
  refine ⟨_, ps_asg pe_W (pg_sub (pvar hN hv hd hc) pe_W set_list (ha := asg_sub hB)) (noswap1 h1) (by rfl) (by rfl), ?_⟩
  show WE X e σ H fun v H1 => tVar i σ H1 fun o H2 => WE X B σ H2 fun b H3 => rSetL o b v H3 fun H4 => D.nx σ H4
  refine h σ H [] [] _ ok fun y t H1 ht ok1 => SOk.fin ok1 ht fun u hu nu ok2 => ?_
  obtain ⟨F, Sc, Sm, w⟩ := ok2
  obtain ⟨v, S1, e1, h3, _⟩ := w.cells.get hat
  simp only [Ow] at h3
  obtain ⟨_, l, ws0, _, rfl, hl0, _⟩ := h3
  refine ⟨_, e1, ?_⟩
  refine hu σ H1 _ _ _ ⟨F, Sc, Sm, w⟩ fun b tb H3 ⟨n, j, hb, hj, hk⟩ ok3 => ?_
  have ib := ok3.top
  rw [hb] at ib
  obtain ⟨F2, Sc2, Sm2, w2⟩ := ok3.pop1
  obtain ⟨l', ws, e2, hl2, lw, so⟩ := w2.store (j := j) hW nu hat (ixN_seq hj).2.1
  rw [e1] at e2
  cases e2
  exact ⟨l, ws, n, j, rfl, ib.int, hl2, by rw [lw]; exact hj, m.1 _ σ _ hk so⟩
/-- reading ahead of a store -/
noncomputable def rGetL (K : PySem.W.Frag) : V → V → Hp → VK → Prop := rIxL K
theorem get_list : PGet X (rGetL X.K) := by
  intro pins s σ H o i ov iv Q I ro ri h
  obtain ⟨q, xs, k, v, rfl, rfl, hq, he, fin⟩ := h
  obtain rfl : ov = .ref q := ro
  obtain ⟨t, rfl⟩ := ri
  obtain ⟨its, r, pl, hz⟩ := I.list hq
  obtain ⟨j, h1, h2, h3, h4, h5⟩ := atI_get he
  obtain ⟨w, ew, rw'⟩ := r.get h2
  have hl := r.length
  have hn := line63
  have done : EP X pins σ Q w s := ⟨v, H, I, rw', fin⟩
  by_cases h0 : 0 ≤ k
  · have hj : k.toNat = j := Option.some.inj ((seqIndex_of h0 h5).symm.trans h1)
    exact wpAny_getItem_list pl.isList h0 (by omega) (by rw [hj]; simpa using ew) done
  · have hj : (k + (its.toArray.size : Int)).toNat = j := by
      rw [List.size_toArray, ← hl]
      exact Option.some.inj ((seqIndex_neg (by omega) h4).symm.trans h1)
    exact wpAny_getItem_list_neg pl.isList (by omega) (by rw [List.size_toArray] <;> omega) (by omega) (by rw [hj]; simpa using ew) done
inductive Aop where
  | add | sub
  deriving DecidableEq
noncomputable def Aop.op : Aop → Operator
  | .add => .Add
  | .sub => .Sub
noncomputable def augD : Aop → D → D → (D → Prop) → Prop
  | .add, .int i, .int j, Ψ => Ψ (.int (i + j))
  | .sub, .int i, .int j, Ψ => Ψ (.int (i - j))
  | .add, .str s, .str t, Ψ => s.length + t.length ≤ 100000 ∧ Ψ (.str (s ++ t))
  | _, _, _, _ => False
noncomputable def rAug : Aop → R2
  | .add => fun x y H Q => rI0 (fun i j => .int (i + j)) x y H Q ∨ ∃ i j, x = .str i ∧ y = .str j ∧ i.length + j.length ≤ sizeLine ∧ Q (.str (i ++ j)) H
  | .sub => rI0 fun i j => .int (i - j)
theorem ip_rAug : ∀ o : Aop, PIp X o.op (rAug o)
  | .add => fun pins s σ H x y v u Q I rx ry h => (OpR.or iop_add iop_add_str) pins s σ H x y v u Q I rx ry h
  | .sub => fun pins s σ H x y v u Q I rx ry h => iop_sub pins s σ H x y v u Q I rx ry h
theorem aug_ok {o : Aop} {F H : Hp} {dx dy : D} {x y : V} {Ψ : D → Prop} {Q : VK} (h1 : Is a.toAn F dx x) (h2 : Is a.toAn F dy y) (h : augD o dx dy Ψ) (k : ∀ d v, Ψ d → d.flat = true → Is a.toAn F d v → Q v H) : rAug o x y H Q := by
  cases o with
  | add =>
    match dx, dy, h with
    | .int i, .int j, h =>
      obtain rfl := h1.int
      obtain rfl := h2.int
      exact .inl ⟨i, j, rfl, rfl, k _ _ h rfl isI⟩
    | .str i, .str j, h =>
      obtain rfl := h1.str
      obtain rfl := h2.str
      exact .inr ⟨i, j, rfl, rfl, small h.1, k _ _ h.2 rfl isS⟩
  | sub =>
    match dx, dy, h with
    | .int i, .int j, h =>
      obtain rfl := h1.int
      obtain rfl := h2.int
      exact ⟨i, j, rfl, rfl, k _ _ h rfl isI⟩
theorem ds_aug {o : Aop} {i : Nat} {x : Str} {d : D} {xp : Pos} (xo : XOk a X) (hN : X.N[i]? = some x) (hl : L2.Loc X.env.scope x) (hf : X.fn x = true ∨ X.env.scope.names.lookup x = some .local) (hat : ρ.at i = some (.leaf d)) (hi : i < ρ.length)
    (h : DE a X ρ e fun y => augD o d y.dat fun r => K.nx (ρ.put i (some (.leaf r)))) : DS a X ρ (.AugAssign (.Name x xp) o.op e pos) K := fun σ H D ok m => by
  refine ⟨_, ps_aug xo.nd hN hl pe_W (ip_rAug o) hf, ?_⟩
  show ∃ x, σ[i]? = some (some x) ∧ WE X e σ H fun y H1 => rAug o x y H1 fun z H2 => D.nx (σ.set i (some z)) H2
  obtain ⟨F, Sc, Sm, w⟩ := ok
  obtain ⟨v, S1, e1, h1, _⟩ := w.cells.get hat
  refine ⟨v, e1, ?_⟩
  refine h σ H [] [] _ ⟨F, Sc, Sm, w⟩ fun y ty H1 hy ok1 => ?_
  have i2 := ok1.top
  obtain ⟨F2, Sc2, Sm2, w2⟩ := ok1.pop1
  obtain ⟨v', S2, e2, h2, _⟩ := w2.cells.get hat
  rw [e1] at e2
  cases e2
  simp only [Ow] at h2
  refine aug_ok (h2.2.mono w2.subb) i2 hy fun r z hr fr ir => ?_
  exact m.1 _ _ _ hr (SOk.put hi rfl ⟨F2, Sc2, Sm2, w2.leaf (ir.flat fr)⟩)
theorem atI_of {α : Type} {xs : List α} {n : Int} {j : Nat} {x : α} (h : ixN xs.length n = some j) (h2 : xs[j]? = some x) : L2.atI xs n = some x := by
  unfold L2.atI
  rw [h]
  exact h2
theorem ds_augix {o : Aop} {i : Nat} {x : Str} {us : List T} {xp sp : Pos} (xo : XOk a X) (hW : a.W = []) (hN : X.N[i]? = some x) (hv : Vis X.env.scope x) (hd : (x == ("__debug__" : Str)) = false) (hc : (x == ("__classdict__" : Str)) = false)
    (hB : notSlice B = true) (hat : ρ.at i = some (.lst us)) (h : DE a X ρ B fun y => ∃ n j d, y.dat = .int n ∧ ixN us.length n = some j ∧ us[j]? = some (.leaf d) ∧ DE a X ρ e fun y2 => augD o d y2.dat fun r => K.nx (ρ.put i (some (.lst (us.set j (.leaf r)))))) :
    DS a X ρ (.AugAssign (.Subscript (.Name x xp) B sp) o.op e pos) K := fun σ H D ok m => by
  refine ⟨_, ps_augS (pvar hN hv hd hc) pe_W get_list pe_W (ip_rAug o) set_list (fun ov iv new => ?_), ?_⟩
  · cases B with
    | Slice l u st p =>
      cases st with
      | none => simp [notSlice] at hB
      | some _ => rfl
    | _ => rfl
  show tVar i σ H fun o1 H1 => WE X B σ H1 fun b H2 => rGetL X.K o1 b H2 fun x1 H3 => WE X e σ H3 fun y H4 => rAug o x1 y H4 fun z1 H5 => rSetL o1 b z1 H5 fun H6 => D.nx σ H6
  obtain ⟨F, Sc, Sm, w⟩ := ok
  obtain ⟨v, S1, e1, h3, _⟩ := w.cells.get hat
  simp only [Ow] at h3
  obtain ⟨_, l, ws0, _, rfl, hl0, _⟩ := h3
  refine ⟨_, e1, ?_⟩
  refine h σ H [] [] _ ⟨F, Sc, Sm, w⟩ fun b tb H2 ⟨n, j, d, hb, hj, hd', hy⟩ ok2 => ?_
  have ib := ok2.top
  rw [hb] at ib
  rw [ib.int]
  obtain ⟨F2, Sc2, Sm2, w2⟩ := ok2.pop1
  obtain ⟨v2, S2, e2, h4, _⟩ := w2.cells.get hat
  rw [e1] at e2
  cases e2
  simp only [Ow] at h4
  obtain ⟨_, l', ws2, S3, el, hl2, ho2, _⟩ := h4
  cases el
  obtain ⟨x1, S4, e4, h5, _⟩ := ho2.get hd'
  refine ⟨l, ws2, n, x1, rfl, rfl, .inl (.inl hl2), atI_of (by rw [ho2.length]; exact hj) e4, ?_⟩
  refine hy σ H2 [] [] _ ⟨F2, Sc2, Sm2, w2⟩ fun y2 ty2 H4 hy2 ok4 => ?_
  have i2 := ok4.top
  obtain ⟨F5, Sc5, Sm5, w5⟩ := ok4.pop1
  simp only [Ow] at h5
  -- the item stays as it was where it is flat; otherwise the operator says no
  have fl : d.flat = true := by
    cases o with
    | add =>
      generalize ty2.dat = dy at hy2
      match d, dy, hy2 with
      | .int _, .int _, _ => rfl
      | .str _, .str _, _ => rfl
    | sub =>
      generalize ty2.dat = dy at hy2
      match d, dy, hy2 with
      | .int _, .int _, _ => rfl
  refine aug_ok (h5.2.flat fl) i2 hy2 fun r z1 hr fr ir => ?_
  obtain ⟨l', ws, e6, hl6, lw, so⟩ := SW.store (j := j) (w5.leaf (ir.flat fr)) hW rfl hat (ixN_seq hj).2.1
  rw [e1] at e6
  cases e6
  exact ⟨l, ws, n, j, rfl, rfl, hl6, by rw [lw]; exact hj, m.1 _ σ _ hr so⟩
end
end DL
namespace DL
open PySem PySem.Spec PyProof.Rows L2
section
variable {a : An0} {X : Cx} {ρ : Env} {σ : L2.St} {ts : List T} {vs : List V} {H F : Hp} {Sc Sm : List Addr} {Φ : T → Prop} {pos p : Pos} {e A B C tg it elt : Expr} {es : List Expr} {Ψ : List D → Prop} {z : Bool} {st : Stmt} {rest body : List Stmt} {K : EnD}

/-- the store of any value by the general road -/
theorem ds_asgG {c : Ct} {g : Tg} (xo : XOk a X) (co : COk c X) (hg : okG c g tg = true) (h1 : swapsWithSole [tg] e pos.line X.env = pure false) (h2 : swappedStores [tg] e X.env = pure none) (h : DE a X ρ e fun t => t.fin fun u => ∃ ρ', bindG g u ρ = some ρ' ∧ K.nx ρ') : DS a X ρ (.Assign [tg] e pos) K := fun σ H D ok m => by
  refine ⟨_, ps_asg pe_W pg_W h1 h2 (asg_one hg), ?_⟩
  show WE X e σ H fun x H1 => WG X tg x σ H1 D.nx
  refine h σ H [] [] _ ok fun v t H1 h1 ok1 => SOk.fin ok1 h1 fun u ⟨ρ', hb, hk⟩ nu ok2 => ?_
  obtain ⟨F, Sc, Sm, w⟩ := ok2
  obtain ⟨S, h3, _⟩ := w.cut
  exact dg xo co hg (h3.nv nu) ⟨F, Sc, Sm, w⟩ hb fun σ' ok3 _ => m.1 ρ' σ' H1 hk ok3
/-- a comprehension whose target is turned around with the store -/
noncomputable def swp (c : Ct) (y : Str) (py ps : Pos) (scope : Scope) : Bool :=
  (match c.sc.names.lookup y with | some .local => true | _ => false) && py.line == ps.line && !(scope.names.any fun (n, k) => n == y && (k == .local || k == .cell))
theorem swp_eq {c : Ct} {y : Str} {py ps : Pos} {scope : Scope} {gs : List Comprehension} {l : Nat} (co : COk c X) (hk : X.env.scope.kind = .function) : swapsWith (.ListComp elt gs scope ps) (some (.Name y py)) l X.env = pure (swp c y py ps scope) := by
  unfold swapsWith swp
  have hb : X.env.blockKind = .function := by unfold PySem.Env.blockKind; rw [hk]; rfl
  have hy : X.env.kindOf y = c.sc.names.lookup y := by show X.env.scope.names.lookup y = _; rw [co.sc]
  simp only [hb, hy, Expr.pos]
  cases hq : c.sc.names.lookup y with
  | none => simp
  | some k => cases k <;> first | (simp; done) | rfl
theorem ds_asgLc {c : Ct} {scope : Scope} {own : List (Str × Nat)} {g : Tg} {i : Nat} {y : Str} {py ps : Pos} {ifs : List Expr} {wc : Env → (Bool → Prop) → Prop} {we : Env → (T → Prop) → Prop} (xo : XOk a X) (co : COk c X) (hk : X.env.scope.kind = .function)
    (hN : nameIs c i y = true) (hl : c.loc y = true) (hi : i < ρ.length)
    (bk : blkC c.N c.sc scope own = true) (gk : okG (c.inn scope) g tg = true) (sl : ∀ i ∈ g.slots, i ∈ own.map (·.2)) (wp : ρ.wipes (own.map (·.2)) = ρ) (ns : notSet it = true)
    (hc : ∀ H F s H2 C cl fp ρ' Ψ, wc ρ' Ψ → ∀ σ H' ts vs Q, SOk (a.on H F) ρ' σ ts vs H' → (∀ b H'', Ψ b → SOk (a.on H F) ρ' σ ts vs H'' → Q b H'') → ∃ t, PTs (Blk X scope s H2 C cl fp) ifs t ∧ t σ H' Q)
    (he : ∀ H F s H2 C cl fp ρ' Ψ, we ρ' Ψ → DE (a.on H F) (Blk X scope s H2 C cl fp) ρ' elt Ψ)
    (h : DI a X ρ tg it fun ds => ds.length ≤ 100000 ∧ lcW g wc we ρ ds [] fun us => K.nx (ρ.put i (some (.lst us)))) :
    DS a X ρ (.Assign [.Name y py] (.ListComp elt [⟨tg, it, ifs, 0⟩] scope ps) pos) K := fun σ H D ok m => by
  have bo : BlkOk X.N X.env.scope scope own := by
    rw [co.N, co.sc]
    exact blkOk_by bk
  obtain ⟨l1, l2⟩ := Ct.loc_of co hl
  have fin : tLc (WI X tg it) (gB X scope tg) (tB' X scope ifs) (eB X scope elt) (own.map (·.2)) σ H fun x H1 => gName i x σ H1 D.nx := by
    refine lc_read (Φ := fun t => match t with
      | .lst us => K.nx (ρ.put i (some (.lst us)))
      | _ => False) xo co gk sl wp hc he h ok fun v t H' hk' ok' => ?_
    match t, hk', ok' with
    | .lst us, hk', ok' =>
      obtain ⟨F, Sc, Sm, w⟩ := ok'
      obtain ⟨S, h3, _⟩ := w.cut
      exact m.1 _ _ _ hk' (SOk.put hi (h3.nv rfl) ⟨F, Sc, Sm, w⟩)
  cases hs : swp c y py ps scope with
  | true =>
    have hloc : X.env.scope.names.lookup y = some .local := by
      rw [co.sc]
      unfold swp at hs
      simp only [Bool.and_eq_true] at hs
      have := hs.1.1
      split at this
      · assumption
      · cases this
    exact ⟨_, ps_setLc xo.calm xo.nd (nameIs_of co hN) hloc ((swp_eq co hk).trans (by rw [hs])) pi_W bo gB_ok tB_ok eB_ok (itset ns), fin⟩
  | false =>
    exact ⟨_, ps_set xo.nd (nameIs_of co hN) l1 (pe_lc (own := own) xo.calm xo.nd pi_W bo gB_ok tB_ok eB_ok (itset ns)) ((swp_eq co hk).trans (by rw [hs])) l2, fin⟩
/-- a, b = x, y stored from the stack -/
noncomputable def isStar : Expr → Bool
  | .Starred _ _ => true
  | _ => false
noncomputable def lcl (c : Ct) (x : Str) : Bool := match c.sc.names.lookup x with
  | some .local => true
  | _ => false
noncomputable def par2Ok (c : Ct) (x y : Str) (px py : Pos) (A B : Expr) : Bool :=
  lcl c x && lcl c y && py.line == px.line && !isStar A && !isStar B && !(x == y) && !([A, B].all (foldedForSure 8)) && !([A, B].all (constantsAlone 8))
theorem lcl_of {c : Ct} {x : Str} (co : COk c X) (h : lcl c x = true) : X.env.scope.names.lookup x = some .local := by
  rw [co.sc]
  unfold lcl at h
  split at h
  · assumption
  · cases h
theorem par2_eq {c : Ct} {x y : Str} {px py pt pt2 : Pos} {kt k2 : Nat} (co : COk c X) (hk : X.env.scope.kind = .function) (h : par2Ok c x y px py A B = true) :
    swappedStores [.Tuple [.Name x px, .Name y py] kt pt] (.Tuple [A, B] k2 pt2) X.env = pure (some [x, y]) := by
  unfold par2Ok at h
  simp only [Bool.and_eq_true, Bool.not_eq_true'] at h
  obtain ⟨⟨⟨⟨⟨⟨⟨h1, h2⟩, h3⟩, h4⟩, h5⟩, h6⟩, h7⟩, h8⟩ := h
  have hb : X.env.blockKind = .function := by unfold PySem.Env.blockKind; rw [hk]; rfl
  have hx : X.env.kindOf x = some .local := lcl_of co h1
  have hy : X.env.kindOf y = some .local := lcl_of co h2
  have e : ∀ e : Expr, (match e with | .Starred .. => true | _ => false) = isStar e := fun e => by cases e <;> rfl
  have hs : ([A, B].any fun | .Starred .. => true | _ => false) = false := by
    simp only [List.any_cons, List.any_nil, Bool.or_false]
    rw [e, e, h4, h5]
    rfl
  have ne : ¬ y = x := fun z => by rw [z] at h6; simp at h6
  have ed : ([x, y].eraseDups.length != [x, y].length) = false := by
    have : (y == x) = false := by simpa using ne
    simp [List.eraseDups_cons, this]
  unfold swappedStores
  simp only [hb, hx, hy, hs, h7, h8, Expr.pos, List.head?_cons, Option.map_some, Option.getD_some, List.filterMap_cons, List.filterMap_nil, List.length_cons, List.length_nil]
  simp [h3, ed]
  have len : [x, y].eraseDups.length = 2 := by simpa using ed
  rw [if_neg (fun z => z.elim (fun z => by have z2 : isStar A = true := z; rw [h4] at z2; cases z2) fun z => by have z2 : isStar B = true := z; rw [h5] at z2; cases z2), if_pos len]
theorem ds_par2 {c : Ct} {i j : Nat} {x y : Str} {px py pt pt2 : Pos} {kt k2 : Nat} (xo : XOk a X) (co : COk c X) (hk : X.env.scope.kind = .function) (hx : nameIs c i x = true) (hy : nameIs c j y = true) (hij : i ≠ j) (hp : par2Ok c x y px py A B = true)
    (hi : i < ρ.length) (hj : j < ρ.length) (h : DA a X ρ [A, B] fun us => ∃ u v, us = [u, v] ∧ K.nx ((ρ.put i (some u)).put j (some v))) :
    DS a X ρ (.Assign [.Tuple [.Name x px, .Name y py] kt pt] (.Tuple [A, B] k2 pt2) pos) K := fun σ H D ok m => by
  have hp' := hp
  unfold par2Ok at hp'
  simp only [Bool.and_eq_true] at hp'
  refine ⟨_, ps_par xo.calm xo.nd (nameIs_of co hx) (nameIs_of co hy) hij (lcl_of co hp'.1.1.1.1.1.1.1) (lcl_of co hp'.1.1.1.1.1.1.2) pa_W (par2_eq co hk hp), ?_⟩
  show WA X [A, B] σ H fun vs H1 => ∃ v w, vs = [v, w] ∧ D.nx ((σ.set i (some v)).set j (some w)) H1
  refine h σ H [] [] _ ok fun ws us H1 ⟨u, v, e, hk⟩ nu l ok1 => ?_
  subst e
  obtain ⟨y1, y2, rfl⟩ : ∃ y1 y2, ws = [y1, y2] := by
    match ws, l with
    | [y1, y2], _ => exact ⟨y1, y2, rfl⟩
  simp only [List.all_cons, List.all_nil, Bool.and_true, Bool.and_eq_true] at nu
  obtain ⟨F, Sc, Sm, w⟩ := ok1
  obtain ⟨S, h3, _⟩ := w.cut
  obtain ⟨Sc2, Sm2, w2⟩ := SW.put (ts := [v]) (vs := [y2]) w hi (h3.nv nu.1)
  obtain ⟨S2, h4, _⟩ := w2.cut
  exact ⟨y1, y2, rfl, m.1 _ _ _ hk (SOk.put (by rw [Env.put_length]; exact hj) (h4.nv nu.2) ⟨F, Sc2, Sm2, w2⟩)⟩
/-- not all the names stored are plain ones: no store from the stack -/
noncomputable def offStack (c : Ct) : Expr → Expr → Bool
  | .Tuple ts _ _, .Tuple _ _ _ => ts.any fun t => match t with
    | .Name x _ => !lcl c x
    | _ => true
  | _, _ => false
noncomputable def noPar2 (c : Ct) (t v : Expr) : Bool := noPar t v || offStack c t v
theorem filterMap_short {α β : Type} {f : α → Option β} : ∀ {xs : List α}, (∃ x ∈ xs, f x = none) → (xs.filterMap f).length < xs.length
  | [], h => by simp at h
  | x :: xs, h => by
    cases hf : f x with
    | none =>
      rw [List.filterMap_cons_none hf]
      exact Nat.lt_succ_of_le (List.length_filterMap_le _ _)
    | some y =>
      rw [List.filterMap_cons_some hf, List.length_cons, List.length_cons]
      refine Nat.succ_lt_succ (filterMap_short ?_)
      obtain ⟨z, hz, e⟩ := h
      rcases List.mem_cons.mp hz with rfl | hz
      · rw [hf] at e; cases e
      · exact ⟨z, hz, e⟩
theorem nopar2_aux {c : Ct} {ts vs : List Expr} {k1 k2 : Nat} {p1 p2 : Pos} (co : COk c X) (h : offStack c (.Tuple ts k1 p1) (.Tuple vs k2 p2) = true) : swappedStores [.Tuple ts k1 p1] (.Tuple vs k2 p2) X.env = pure none := by
  unfold offStack at h
  obtain ⟨x, hx, hl⟩ := List.any_eq_true.mp h
  unfold swappedStores
  simp only [pure_bind]
  split
  · rfl
  · split
    · rfl
    · rw [if_pos]
      have := filterMap_short (f := fun e => match e with
        | .Name id pos => if X.env.kindOf id == some .local && pos.line == (ts.head?.map (·.pos.line)).getD 0 then some id else none
        | _ => none) (xs := ts) ⟨x, hx, by
          cases x <;> try rfl
          rename_i y p
          have hy : X.env.kindOf y = c.sc.names.lookup y := by show X.env.scope.names.lookup y = _; rw [co.sc]
          simp only [hy]
          simp only [Bool.not_eq_true'] at hl
          unfold lcl at hl
          cases hq : c.sc.names.lookup y with
          | none => rfl
          | some k => cases k <;> first | rfl | (rw [hq] at hl; cases hl)⟩
      simp only [Bool.or_eq_true, bne_iff_ne, ne_eq]
      exact .inl (Nat.ne_of_lt this)
theorem nopar2 {c : Ct} {t v : Expr} (co : COk c X) (h : noPar2 c t v = true) : swappedStores [t] v X.env = pure none := by
  unfold noPar2 at h
  rcases (Bool.or_eq_true _ _).mp h with h | h
  · exact nopar h
  · cases t with
    | Tuple ts k1 p1 =>
      cases v with
      | Tuple vs k2 p2 => exact nopar2_aux co h
      | _ => exact nomatch (show false = true from h)
    | _ => exact nomatch (show false = true from h)
end
end DL
namespace DL
open PySem PySem.Spec PyProof.Rows L2

inductive Ty where
  | int | bool | str | tuple | list | dict
  deriving DecidableEq
noncomputable def Ty.nm : Ty → Str
  | .int => "int" | .bool => "bool" | .str => "str" | .tuple => "tuple" | .list => "list" | .dict => "dict"
noncomputable def Ty.id : Ty → String
  | .int => "int" | .bool => "bool" | .str => "str" | .tuple => "tuple" | .list => "list" | .dict => "dict"
noncomputable def D.isT : D → Ty → Option Bool
  | .non, _ => some false
  | .bl _, .int => some true
  | .bl _, .bool => some true
  | .bl _, _ => some false
  | .int _, .int => some true
  | .int _, _ => some false
  | .str _, .str => some true
  | .str _, _ => some false
  | .tup _, .tuple => some true
  | .tup _, _ => some false
  | .lst _, .list => some true
  | .lst _, _ => some false
  | .emp, .dict => some true
  | .emp, _ => some false
  | _, _ => none
theorem tyx_tup {K : PySem.W.Frag} {H : Hp} {p : Addr} {vs : List V} (h : SqT K H p vs) : TyX K H (.ref p) (.type "tuple") := by
  rcases h with (h | ⟨o, h⟩) | ⟨o, _, _, h1, h2, _⟩
  · exact .base (.tup h)
  · exact .fTuple h
  · exact .kTuple h1 h2
theorem kitN {K : PySem.W.Frag} : ∀ ty : Ty, PySem.W.kitOne K (.type "NoneType") (.type ty.id) = some false
  | .int | .bool | .str | .tuple | .list | .dict => kit_ty (by decide +kernel)
theorem isT_ok {a : An0} {F H : Hp} {d : D} {ty : Ty} {v : V} {b : Bool} (s : Sub F H) (i : Is a.toAn F d v) (h : d.isT ty = some b) : ∃ t, TyX a.K H v t ∧ PySem.W.kitOne a.K t (.type ty.id) = some b := by
  cases d with
  | non => rw [i.non]; cases h; exact ⟨_, .base .non, kitN ty⟩
  | bl k => rw [i.bl]; refine ⟨_, .base (.bl k), ?_⟩; cases ty <;> cases h <;> exact kit_ty (by decide +kernel)
  | int k => rw [i.int]; refine ⟨_, .base (.int k), ?_⟩; cases ty <;> cases h <;> exact kit_ty (by decide +kernel)
  | str k => rw [i.str]; refine ⟨_, .base (.str k), ?_⟩; cases ty <;> cases h <;> exact kit_ty (by decide +kernel)
  | tup ds =>
    simp only [Is] at i
    obtain ⟨p, vs, rfl, q, _⟩ := i
    refine ⟨_, tyx_tup (sub_t s q), ?_⟩
    cases ty <;> cases h <;> exact kit_ty (by decide +kernel)
  | lst ds =>
    simp only [Is] at i
    obtain ⟨p, vs, rfl, q, _⟩ := i
    refine ⟨_, .base (.lst (s _ _ q)), ?_⟩
    cases ty <;> cases h <;> exact kit_ty (by decide +kernel)
  | bag => cases ty <;> cases h
  | obj _ _ => cases ty <;> cases h
  | scr _ => cases ty <;> cases h
  | opq _ => cases ty <;> cases h
  | emp =>
    simp only [Is] at i
    obtain ⟨p, rfl, q⟩ := i
    refine ⟨_, .base (.dK (s _ _ q)), ?_⟩
    cases ty <;> cases h <;> exact kit_ty (by decide +kernel)
section
variable {a : An0} {X : Cx} {ρ : DL.Env} {Φ : T → Prop} {e A B : Expr} {p p1 p2 pos : Pos}
theorem de_isi {ty : Ty} (xo : XOk a X) (hg : Gl X "isinstance") (hm : X.mg "isinstance" = none) (hg2 : Gl X ty.nm) (hm2 : X.mg ty.nm = none) (h1 : notStar e = true)
    (h : DE a X ρ e fun t => ∃ b, t.dat.isT ty = some b ∧ Φ (.leaf (.bl b))) : DE a X ρ (.Call (.Name "isinstance" p) [e, .Name ty.nm p1] [] pos) Φ := fun σ H ts vs Q ok k => by
  have hv : bootBuiltins ty.nm = some (.type ty.id) := by cases ty <;> decide +kernel
  have hn : ty.nm ≠ "__name__" := by cases ty <;> decide
  have hd : (ty.nm == ("__debug__" : Str)) = false := by cases ty <;> decide
  refine ⟨_, pe_callB call_isi hg hm (by decide +kernel) (pa_cons pe_W (pa_cons (pe_bltn (v := .ty ty.id) hg2 hm2 hv rfl hn hd) pa_nil) (star_of h1)) (by decide) (by decide) (star_of h1) rfl, ?_⟩
  show WE X e σ H fun x H1 => rIsi X.K [x, .ty ty.id] H1 Q
  refine h σ H ts vs _ ok fun x t H1 ⟨b, e1, hb⟩ ok1 => ?_
  obtain ⟨u, tx, kt⟩ := isT_ok (hb_sub _ _) ok1.top e1
  rw [xo.K]
  exact ⟨x, .ty ty.id, u, .type ty.id, b, rfl, .ty _, tx, kt, k _ _ H1 hb ok1.pop1.bl⟩
noncomputable def rgI (a b : Int) : List Int := (List.range (b - a).toNat).map fun (k : Nat) => a + (k : Int)
noncomputable def rgT (a b : Int) : T := .lst ((rgI a b).map fun n => .leaf (.int n))
noncomputable def RgS (a b : Int) : Prop := -(2 ^ 61) ≤ a ∧ a ≤ 2 ^ 61 ∧ -(2 ^ 61) ≤ b ∧ b ≤ 2 ^ 61 ∧ b - a ≤ 100000
theorem RgS.ok {a b : Int} (h : RgS a b) : RgOk a b := by
  unfold RgS at h; unfold RgOk
  refine ⟨?_, ?_, ?_, ?_, ?_⟩ <;> omega
end
end DL
namespace DL
open PySem PySem.Spec PyProof.Rows L2

section
variable {X : Cx} {CX : CXT} {k : Nat} {f C p0 : Addr} {fd : FuncData} {ps : List Str} {sp : Sp} {E : XK} {x m : Str} {p pos apos : Pos} {e o : Expr} {es : List Expr} {ta : TE} {t : TA}
theorem pe_methG {pl : Sem Bool} (he : PE X o ta) (c : Cls X.K C) (hm : Meth X.K C m f) (F : FnG X.prog X.w X.K X.mg X.base CX k f fd ps sp) (gu : X.A.guards = some []) (hr : Room k X.A) (hb : Binds X.K fd ps []) (hx : Passes CX X E) (ha : PA X (e :: es) t)
    (hst : starEach (e :: es) X.env = (false, eval e X.env) :: starEach es X.env) (hpl : (backTo pos (starEach es X.env)).any (·.1) = false)
    (ht : eval (.Call (.Attribute o m apos) (e :: es) [] pos) X.env = (do let ov ← eval o X.env; standAt apos.atName; let (f, first) ← holding [ov] (getMethod ov m pl); callWith pos f first (backTo pos (starEach (e :: es) X.env)) (backToKw pos (keywordEach [] X.env)))) :
    PE X (.Call (.Attribute o m apos) (e :: es) [] pos) (tMeth C m sp [] E ta t) :=
  ⟨fun pins s σ H Q I h => PySem.W.methodCall_KW (pl := pl) (thn (he.run pins s σ H _ I h) fun u s1 ⟨x, H1, I1, rx, a, dx, fs, ex, ea, l, q⟩ => by
    subst ex
    cases (show u = Value.ref a from rx)
    exact getmeth_ok I1 ea c hm l (PySem.W.callWith_K (first := [.ref a]) (h₀ := X.base) I.ok.mod.kin hm.kp
      (thn (ha.run pos pins s1 σ H1 _ I1 q) fun us s2 ⟨vs, H2, I2, r, q2⟩ => ⟨I2.kIn, run_G (us := .ref a :: us) (vs := .ref a :: vs) F gu hr hb .nil hx I2 (.cons rfl r) q2⟩) hst hpl)) ht⟩
theorem pe_methG0 {pl : Sem Bool} (he : PE X o ta) (c : Cls X.K C) (hm : Meth X.K C m f) (F : FnG X.prog X.w X.K X.mg X.base CX k f fd ps sp) (gu : X.A.guards = some []) (hr : Room k X.A) (hb : Binds X.K fd ps []) (hx : Passes CX X E)
    (ht : eval (.Call (.Attribute o m apos) [] [] pos) X.env = (do let ov ← eval o X.env; standAt apos.atName; let (f, first) ← holding [ov] (getMethod ov m pl); callWith pos f first (backTo pos (starEach [] X.env)) (backToKw pos (keywordEach [] X.env)))) :
    PE X (.Call (.Attribute o m apos) [] [] pos) (tMeth C m sp [] E ta tNil) :=
  ⟨fun pins s σ H Q I h => PySem.W.methodCall_KW (pl := pl) (thn (he.run pins s σ H _ I h) fun u s1 ⟨x, H1, I1, rx, a, dx, fs, ex, ea, l, q⟩ => by
    subst ex
    cases (show u = Value.ref a from rx)
    exact getmeth_ok I1 ea c hm l (PySem.W.callWith_K0 (first := [.ref a]) I1.kIn hm.kp (run_G (us := [.ref a]) (vs := [.ref a]) F gu hr hb .nil hx I1 (.cons rfl .nil) q))) ht⟩
theorem run_makeG {pins : List (Addr × Obj)} {σ : L2.St} {H : Hp} {s : Shared} {Q : VK} {us : List Value} {vs : List V} (M : Mk X.K C f) (F : FnG X.prog X.w X.K X.mg X.base CX k f fd ps sp) (gu : X.A.guards = some []) (hr : Room (k + 1) X.A) (hb : Binds X.K fd ps [])
    (hx : Passes CX X E) (I : Inv X pins σ H s) (r : Vals vs us)
    (h : ∀ x dx, H x = none → H dx = none → dx ≠ x → sp (.ref x :: vs) (upd (upd H dx (.own x)) x (.ins C dx [])) (fun v H2 => v = .non ∧ Q (.ref x) H2) E) :
    wpAny (model X.prog X.w) X.A (call (.ref C) us) (EP X pins σ Q) X.xe s := by
  have I2 := Inv.made (C := C) I
  have hq := h _ _ (I.hok.fresh (Nat.le_succ s.heap.objs.size)) (I.hok.fresh (Nat.le_refl s.heap.objs.size)) (Nat.ne_of_lt (Nat.lt_succ_self _))
  have both : Vals (V.ref (s.heap.objs.size + 1) :: vs) (Value.ref (s.heap.objs.size + 1) :: us) := .cons rfl r
  have n : (Value.ref (s.heap.objs.size + 1) :: us ++ []).length = ps.length := by
    rw [List.append_nil, ← both.length]; exact F.len _ _ _ _ hq
  have bd := hb _ (Value.ref (s.heap.objs.size + 1) :: us) I2.kIn n
  rw [List.append_nil] at bd
  have go := F.run (X.A.under (.builtin "type.__call__" ⟨.ref C :: us, []⟩)) X.stack _ _ ⟨Value.ref (s.heap.objs.size + 1) :: us, []⟩ _ _ _ E gu (hr.make C us []) (I2.env0.make C us []) bd both hq
  refine wpAny_call (make_map (f := f) I.kIn M.makes M.init (beq_iff_eq.mp M.fn) (codeAny_mono go fun res s' hq' => ?_))
  match res, hq' with
  | .error er, hq' => exact hx pins σ _ _ er s' I2 hq'
  | .ok (.ret u), hq' =>
    obtain ⟨v, H', I3, rv, ev, q3⟩ := I2.after hq'
    subst ev
    exact ⟨rv, V.ref (s.heap.objs.size + 1), H', I3, rfl, q3⟩
  | .ok .next, hq' => exact False.elim hq'
  | .ok .brk, hq' => exact False.elim hq'
  | .ok .cont, hq' => exact False.elim hq'
theorem pe_makeG (M : Mk X.K C f) (F : FnG X.prog X.w X.K X.mg X.base CX k f fd ps sp) (gu : X.A.guards = some []) (hr : Room (k + 1) X.A) (hg : Gl X x) (hm : X.mg x = some (.ref C)) (hb : Binds X.K fd ps []) (hx : Passes CX X E)
    (ha : PA X (e :: es) t) (hdb : (x == ("__debug__" : Str)) = false) (he : starEach (e :: es) X.env = (false, eval e X.env) :: starEach es X.env) (hpl : (backTo pos (starEach es X.env)).any (·.1) = false) :
    PE X (.Call (.Name x p) (e :: es) [] pos) (tMake C sp [] E t) :=
  ⟨fun pins s σ H Q I h => wpAny_Call_Name_kw (ld_glob I hg hm (PySem.W.callWith_K (h₀ := X.base) I.ok.mod.kin M.kp
    (thn (ha.run pos pins s σ H _ I h) fun us s1 ⟨vs, H1, I1, r, q⟩ => ⟨I1.kIn, run_makeG M F gu hr hb hx I1 r fun x dx a b c => by have := q x dx a b c; rwa [List.append_nil] at this⟩) he hpl) hdb)⟩
end
end DL
namespace DL
open PySem PySem.Spec PyProof.Rows L2

/-- a constructor's promise: the new object x stands empty -/
noncomputable def spI (K : PySem.W.Frag) (cls : Nat → Option (Addr × List Str)) (c : Nat) (f : SpecF) : Sp := fun vs H Q _ =>
  ∃ (bg : Option Addr) (F H0 : Hp) (ds : List D) (x dx C : Addr) (ns : List Str) (ws : List V), vs = .ref x :: ws ∧ cls c = some (C, ns) ∧ H0 x = none ∧ H0 dx = none ∧ dx ≠ x ∧ H = upd (upd H0 dx (.own x)) x (.ins C dx []) ∧
    Sub F H0 ∧ BagOk ⟨K, bg, cls⟩ F H0 ∧ IsL ⟨K, bg, cls⟩ F ds ws ∧
    f ds fun t => ∀ F' H', Sub F' H' → Gw (An.hid ⟨K, bg, cls⟩) F H0 F' H' → BagOk ⟨K, bg, cls⟩ F' H' → Ow ⟨K, bg, cls⟩ F' H' t (.ref x) [] → Q .non H'
structure MtAt (a : An0) (X : Cx) (c : Nat) (m : Str) (f : SpecF) : Prop where
  ex : ∃ (C fa : Addr) (ns : List Str) (fd : FuncData) (k : Nat) (ps : List Str), a.cls c = some (C, ns) ∧ m ∉ ns ∧ Cls X.K C ∧ Meth X.K C m fa ∧ FnG X.prog X.w X.K X.mg X.base CX0 k fa fd ps (spD a.K a.cls f) ∧ Room k X.A ∧ Binds X.K fd ps []
structure PrAt (a : An0) (X : Cx) (c : Nat) (m : Str) (f : SpecF) : Prop where
  ex : ∃ (C fa p : Addr) (ns : List Str) (fd : FuncData) (k : Nat) (ps : List Str), a.cls c = some (C, ns) ∧ Cls X.K C ∧ PropOf X.K C m p fa ∧ FnG X.prog X.w X.K X.mg X.base CX0 k fa fd ps (spD a.K a.cls f) ∧ Room (k + 1) X.A ∧ Binds X.K fd ps []
structure NwAt (a : An0) (X : Cx) (x : Str) (f : SpecF) : Prop where
  ex : ∃ (C fa : Addr) (c : Nat) (ns : List Str) (fd : FuncData) (k : Nat) (ps : List Str), a.cls c = some (C, ns) ∧ Mk X.K C fa ∧ X.mg x = some (.ref C) ∧ FnG X.prog X.w X.K X.mg X.base CX0 k fa fd ps (spI a.K a.cls c f) ∧ Room (k + 1) X.A ∧ Binds X.K fd ps []
structure FdAt (a : An0) (X : Cx) (c i : Nat) (n : Str) : Prop where
  ex : ∃ (C : Addr) (ns : List Str), a.cls c = some (C, ns) ∧ ns[i]? = some n ∧ ns.Nodup ∧ Cls X.K C ∧ NoAttr X.K C n
theorem lookup_zip : ∀ {ns : List Str} {vs : List V} {i : Nat} {n : Str} {v : V}, ns.Nodup → ns[i]? = some n → vs[i]? = some v → (ns.zip vs).lookup n = some v
  | [], _, _, _, _, _, h, _ => by simp at h
  | _ :: _, [], _, _, _, _, _, h => by simp at h
  | m :: ns, u :: vs, 0, n, v, nd, h1, h2 => by
    simp only [List.getElem?_cons_zero, Option.some.injEq] at h1 h2
    subst h1 h2
    simp [List.lookup]
  | m :: ns, u :: vs, i + 1, n, v, nd, h1, h2 => by
    simp only [List.getElem?_cons_succ] at h1 h2
    obtain ⟨n1, n2⟩ := List.nodup_cons.mp nd
    have ne : n ≠ m := fun e => n1 (e ▸ List.mem_of_getElem? h1)
    rw [List.zip_cons_cons, List.lookup_cons]
    simp only [show (n == m) = false from by simpa using ne]
    exact lookup_zip n2 h1 h2
theorem lookup_zip_none : ∀ {ns : List Str} {vs : List V} {n : Str}, n ∉ ns → (ns.zip vs).lookup n = none
  | [], _, _, _ => rfl
  | _ :: _, [], _, _ => rfl
  | m :: ns, u :: vs, n, h => by
    rw [List.zip_cons_cons, List.lookup_cons]
    have ne : n ≠ m := fun e => h (e ▸ List.mem_cons_self)
    simp only [show (n == m) = false from by simpa using ne]
    exact lookup_zip_none fun z => h (List.mem_cons_of_mem _ z)
section
variable {a : An0} {X : Cx} {ρ : DL.Env} {σ : L2.St} {ts : List T} {vs : List V} {H F : Hp} {Sc Sm : List Addr} {Φ : T → Prop} {pos p apos : Pos} {e o : Expr} {es : List Expr} {z : Bool}
theorem SW.top1 {d : D} {v : V} (w : SW a ρ σ (.leaf d :: ts) (v :: vs) H F Sc Sm) : Is a.toAn F d v ∧ SW a ρ σ ts vs H F Sc Sm := by
  obtain ⟨v', r, S1, S2, e, h1, h2, e2⟩ := (show ∃ v' r S1 S2, v :: vs = v' :: r ∧ Ow a.toAn F H (.leaf d) v' S1 ∧ OwL a.toAn F H ts r S2 ∧ Sm = S1 ++ S2 by
    have := w.tmps; simpa only [OwL] using this)
  cases e
  simp only [Ow] at h1
  obtain ⟨rfl, h1⟩ := h1
  subst e2
  exact ⟨h1, w.sub, w.gw, w.bagM, w.bag, w.cells, h2, w.nd, w.fr, w.len, w.wit, w.wif⟩
theorem de_fld {c i : Nat} {n : Str} (fd : FdAt a X c i n) (hb : attributeBase e n X.env (eval e X.env) = eval e X.env) (h : DE a X ρ e fun t => ∃ fs d, t = .leaf (.obj c fs) ∧ fs[i]? = some d ∧ Φ (.leaf d)) : DE a X ρ (.Attribute e n pos) Φ := fun σ H ts vs Q ok k => by
  obtain ⟨C, ns, hc, hn, nd, cl, na⟩ := fd.ex
  refine ⟨_, pe_fld pe_W hb, ?_⟩
  show WE X e σ H fun x H1 => _
  refine h σ H ts vs _ ok fun x t H1 ⟨fs, d, e1, hd, q⟩ ok1 => ?_
  subst e1
  obtain ⟨F, Sc, Sm, w⟩ := ok1
  obtain ⟨is, w'⟩ := w.top1
  simp only [Is] at is
  obtain ⟨p, C', ns', dx, us, rfl, hc', l, hp, il⟩ := is
  rw [hc] at hc'
  cases hc'
  obtain ⟨v, hv, iv⟩ := il.get hd
  exact ⟨p, C, dx, _, v, rfl, w.sub _ _ hp, cl, na, lookup_zip nd hn hv, k v _ H1 q ⟨F, Sc, Sm, w'.leaf iv⟩⟩
theorem de_mth {c : Nat} {m : Str} {f : SpecF} {pl : Sem Bool} (xo : XOk a X) (io : z = true → NoIo a) (mt : MtAt a X c m f) (h1 : notStar e = true) (h2 : es.all notStar = true)
    (ht : eval (.Call (.Attribute o m apos) (e :: es) [] pos) X.env = (do let ov ← eval o X.env; standAt apos.atName; let (f, first) ← holding [ov] (getMethod ov m pl); callWith pos f first (backTo pos (starEach (e :: es) X.env)) (backToKw pos (keywordEach [] X.env))))
    (h : DE a X ρ o fun t => ∃ fs, t = .leaf (.obj c fs) ∧ DV a X ρ (e :: es) fun us => frozs z us fun ds => f (.obj c fs :: ds) Φ) (mono : ∀ ds (Φ Ψ : T → Prop), (∀ t, Φ t → Ψ t) → f ds Φ → f ds Ψ) : DE a X ρ (.Call (.Attribute o m apos) (e :: es) [] pos) Φ := fun σ H ts vs Q ok k => by
  obtain ⟨C, fa, ns, fd, n, ps, hc, hm, cl, me, F, hr, hb⟩ := mt.ex
  refine ⟨_, pe_methG pe_W cl me F xo.gu hr hb pass0 pa_W (star_of h1) (back_of h2) ht, ?_⟩
  show WE X o σ H fun x H1 => _
  refine h σ H ts vs _ ok fun x t H1 ⟨fs, e1, q⟩ ok1 => ?_
  subst e1
  obtain ⟨p, C', ns', dx, us, rfl, hc', l, hp, il⟩ := (show ∃ p C' ns' dx us, x = V.ref p ∧ a.cls c = some (C', ns') ∧ ns'.length = us.length ∧ H1 p = some (.ins C' dx (ns'.zip us)) ∧ True by
    obtain ⟨F0, Sc, Sm, w⟩ := ok1
    have is := w.top1.1
    simp only [Is] at is
    obtain ⟨p, C', ns', dx, us, e1, hc', l, hp, il⟩ := is
    exact ⟨p, C', ns', dx, us, e1, hc', l, w.sub _ _ hp, trivial⟩)
  rw [hc] at hc'
  cases hc'
  refine ⟨p, dx, _, rfl, hp, lookup_zip_none hm, ?_⟩
  show WA X (e :: es) σ H1 fun vs H2 => spD a.K a.cls f (.ref p :: (vs ++ [])) H2 Q _
  refine q σ H1 _ _ _ ok1 fun ws us2 H2 q2 l2 ok2 => ?_
  obtain ⟨F0, Sc, Sm, w⟩ := ok2
  obtain ⟨F1, Sm1, ds, s1, w1, il2, q3⟩ := w.frozs io l2 q2
  obtain ⟨is, w2⟩ := w1.top1
  rw [List.append_nil]
  refine ⟨a.bg, F1, .obj c fs :: ds, w2.sub, w2.bag, by simp only [IsL]; exact ⟨_, _, rfl, is, il2⟩, mono _ _ _ (fun t ht F' H' v S sub g bg ow nd fr => ?_) q3⟩
  exact k v t H' ht (w2.called sub g bg ow nd fr)
theorem de_mth0 {c : Nat} {m : Str} {f : SpecF} {pl : Sem Bool} (xo : XOk a X) (mt : MtAt a X c m f)
    (ht : eval (.Call (.Attribute o m apos) [] [] pos) X.env = (do let ov ← eval o X.env; standAt apos.atName; let (f, first) ← holding [ov] (getMethod ov m pl); callWith pos f first (backTo pos (starEach [] X.env)) (backToKw pos (keywordEach [] X.env))))
    (h : DE a X ρ o fun t => ∃ fs, t = .leaf (.obj c fs) ∧ f [.obj c fs] Φ) (mono : ∀ ds (Φ Ψ : T → Prop), (∀ t, Φ t → Ψ t) → f ds Φ → f ds Ψ) : DE a X ρ (.Call (.Attribute o m apos) [] [] pos) Φ := fun σ H ts vs Q ok k => by
  obtain ⟨C, fa, ns, fd, n, ps, hc, hm, cl, me, F, hr, hb⟩ := mt.ex
  refine ⟨_, pe_methG0 pe_W cl me F xo.gu hr hb pass0 ht, ?_⟩
  show WE X o σ H fun x H1 => _
  refine h σ H ts vs _ ok fun x t H1 ⟨fs, e1, q⟩ ok1 => ?_
  subst e1
  obtain ⟨F0, Sc, Sm, w⟩ := ok1
  obtain ⟨is, w2⟩ := w.top1
  have is0 := is
  simp only [Is] at is
  obtain ⟨p, C', ns', dx, us, rfl, hc', l, hp, il⟩ := is
  rw [hc] at hc'
  cases hc'
  refine ⟨p, dx, _, rfl, w.sub _ _ hp, lookup_zip_none hm, ?_⟩
  refine ⟨a.bg, F0, [.obj c fs], w2.sub, w2.bag, by simp only [IsL]; exact ⟨_, _, rfl, is0, rfl⟩, mono _ _ _ (fun t ht F' H' v S sub g bg ow nd fr => ?_) q⟩
  exact k v t H' ht (w2.called sub g bg ow nd fr)
theorem de_new {x : Str} {f : SpecF} (xo : XOk a X) (io : z = true → NoIo a) (nw : NwAt a X x f) (hg : Gl X x) (hd : (x == ("__debug__" : Str)) = false) (h1 : notStar e = true) (h2 : es.all notStar = true)
    (h : DV a X ρ (e :: es) fun us => frozs z us fun ds => f ds Φ) (mono : ∀ ds (Φ Ψ : T → Prop), (∀ t, Φ t → Ψ t) → f ds Φ → f ds Ψ) : DE a X ρ (.Call (.Name x p) (e :: es) [] pos) Φ := fun σ H ts vs Q ok k => by
  obtain ⟨C, fa, c, ns, fd, n, ps, hc, M, hm, F, hr, hb⟩ := nw.ex
  refine ⟨_, pe_makeG M F xo.gu hr hg hm hb pass0 pa_W hd (star_of h1) (back_of h2), ?_⟩
  show WA X (e :: es) σ H fun vs H1 => _
  refine h σ H ts vs _ ok fun ws us H1 q l ok1 => ?_
  obtain ⟨F0, Sc, Sm, w⟩ := ok1
  obtain ⟨F1, Sm1, ds, s1, w1, il, q⟩ := w.frozs io l q
  intro y dx n1 n2 ne
  rw [List.append_nil]
  refine ⟨a.bg, F1, H1, ds, y, dx, C, ns, ws, rfl, hc, n1, n2, ne, rfl, w1.sub, w1.bag, il, mono _ _ _ (fun t ht F' H' sub g bg ow => ?_) q⟩
  exact ⟨rfl, k _ t H' ht (w1.called sub g bg ow (by simp) (by simp))⟩
end
noncomputable def baseOk : Expr → Bool
  | .Call (.Name _ _) [] [] _ => false
  | _ => true
theorem attr_ok {o : Expr} {m : Str} {env : PySem.Env} {wh : Sem Value} (h : baseOk o = true) : attributeBase o m env wh = wh := by
  unfold attributeBase
  split
  · simp [baseOk] at h
  · rfl
theorem mform {pos : Pos} {es : List Expr} {env : PySem.Env} (h : (backTo pos (starEach es env)).any (·.1) = false) (n : es.length < 30) : methodCallForm (es.length + ([] : List Keyword).length) (backTo pos (starEach es env)) (backToKw pos (keywordEach [] env)) = true := by
  unfold methodCallForm
  rw [List.all_eq_not_any_not]
  simp only [Bool.not_not]
  rw [h]
  simp only [Bool.not_false, Bool.true_and, Bool.and_eq_true, decide_eq_true_eq]
  exact ⟨rfl, by rw [List.length_nil]; show es.length + 0 + 0 < 30; omega⟩
theorem ev_meth {o : Expr} {m : Str} {apos pos : Pos} {es : List Expr} {env : PySem.Env} (hb : baseOk o = true) (hl : (apos.endLine == pos.line) = true) (h : (backTo pos (starEach es env)).any (·.1) = false) (n : es.length < 30) :
    eval (.Call (.Attribute o m apos) es [] pos) env = (do let ov ← eval o env; standAt apos.atName; let (f, first) ← holding [ov] (getMethod ov m (do return (← importBound o env).getD true)); callWith pos f first (backTo pos (starEach es env)) (backToKw pos (keywordEach [] env))) := by
  have e1 : eval (.Call (.Attribute o m apos) es [] pos) env = (do let ov ← attributeBase o m env (eval o env); standAt apos.atName; methodCall o m apos pos env ov (es.length + ([] : List Keyword).length) (backTo pos (starEach es env)) (backToKw pos (keywordEach [] env))) := rfl
  have e2 : ∀ ov, methodCall o m apos pos env ov (es.length + ([] : List Keyword).length) (backTo pos (starEach es env)) (backToKw pos (keywordEach [] env)) = (do let (f, first) ← holding [ov] (getMethod ov m (do return (← importBound o env).getD true)); callWith pos f first (backTo pos (starEach es env)) (backToKw pos (keywordEach [] env))) := fun ov => by
    unfold methodCall
    rw [mform h n]
    unfold calleeOf methodCallPos
    rw [if_pos rfl, hl]
    rfl
  rw [e1, attr_ok hb]
  simp only [e2]
section
variable {a : An0} {X : Cx} {ρ : DL.Env} {Φ : T → Prop} {pos p apos : Pos} {e o : Expr} {es : List Expr} {z : Bool}
theorem de_mthO {c : Nat} {m : Str} {f : SpecF} (xo : XOk a X) (io : z = true → NoIo a) (mt : MtAt a X c m f) (h1 : notStar e = true) (h2 : es.all notStar = true) (hb : baseOk o = true) (hl : (apos.endLine == pos.line) = true) (n : (e :: es).length < 30)
    (h : DE a X ρ o fun t => ∃ fs, t = .leaf (.obj c fs) ∧ DV a X ρ (e :: es) fun us => frozs z us fun ds => f (.obj c fs :: ds) Φ) (mono : ∀ ds (Φ Ψ : T → Prop), (∀ t, Φ t → Ψ t) → f ds Φ → f ds Ψ) : DE a X ρ (.Call (.Attribute o m apos) (e :: es) [] pos) Φ :=
  de_mth xo io mt h1 h2 (ev_meth hb hl (back_of (by rw [List.all_cons, h1, h2]; rfl)) n) h mono
theorem de_mthO0 {c : Nat} {m : Str} {f : SpecF} (xo : XOk a X) (mt : MtAt a X c m f) (hb : baseOk o = true) (hl : (apos.endLine == pos.line) = true)
    (h : DE a X ρ o fun t => ∃ fs, t = .leaf (.obj c fs) ∧ f [.obj c fs] Φ) (mono : ∀ ds (Φ Ψ : T → Prop), (∀ t, Φ t → Ψ t) → f ds Φ → f ds Ψ) : DE a X ρ (.Call (.Attribute o m apos) [] [] pos) Φ :=
  de_mth0 xo mt (ev_meth hb hl (back_of (es := []) rfl) (by decide)) h mono
end
end DL
namespace DL
open PySem PySem.Spec PyProof.Rows L2

theorem op_eqO {X : Cx} {CX : CXT} {n : Nat} {C f : Addr} {fd : FuncData} {ps : List Str} {sp : Sp} {E : XK} (F : FnG X.prog X.w X.K X.mg X.base CX n f fd ps sp) (gu : X.A.guards = some []) (hs : PySem.W.findIn X.K (.ref C) "__eq__" = some (some (.ref f))) (hf : PySem.W.isFn X.K (.ref f) = true) (hb : Binds X.K fd ps []) (hr : Room n X.A) (hx : Passes CX X E) :
    OpR X (compareOp .Eq) fun x y H Q => ∃ a b dx dy fs gs, x = .ref a ∧ y = .ref b ∧ H a = some (.ins C dx fs) ∧ H b = some (.ins C dy gs) ∧ sp [.ref a, .ref b] H (fun v H' => (∃ k, v = .bl k) ∧ Q v H') E := by
  intro pins s σ H x y v u Q I rx ry hq
  obtain ⟨a, b, dx, dy, fs, gs, rfl, rfl, ha, hb2, hsp⟩ := hq
  cases rx
  cases ry
  obtain ⟨mA, J, _⟩ := ins_get I.hok ha
  obtain ⟨mB, J2, _⟩ := ins_get I.hok hb2
  obtain ⟨od, J, _⟩ := J.look
  obtain ⟨od2, J2, _⟩ := J2.look
  obtain ⟨m, hF⟩ := I.fr
  show wpAny (model X.prog X.w) X.A (richCompare .Eq (.ref a) (.ref b)) (EP X pins σ Q) X.xe s
  refine PySem.W.cmp_K (op := .Eq) (tb := .ref C) hr.units0 hF I.ok.mod.kin J J2.type (by simp [PySem.W.notFirst]) hs hf ?_
  refine wpAny_mono (run_G (us := [.ref a, .ref b]) (vs := [.ref a, .ref b]) F gu hr hb .nil hx I (.cons rfl (.cons rfl .nil)) hsp) (fun r s' h => ?_) fun _ _ e => e
  obtain ⟨z, H', I', rz, ⟨k, ez⟩, q⟩ := h
  subst ez
  have rz2 : r = .bool k := rz
  subst rz2
  exact ⟨.bl k, H', I', rfl, q⟩
section
variable {a : An0} {X : Cx} {ρ : DL.Env} {Φ : T → Prop} {Ψ : Bool → Prop} {pos p p1 : Pos} {e A B : Expr}
noncomputable def eqOq (a : An0) (X : Cx) (ρ : DL.Env) (cl : Nat) (f : SpecF) (A B : Expr) (Ψ : Bool → Prop) : Prop := DE a X ρ A fun t => DE a X ρ B fun u => ∃ fs gs, t = .leaf (.obj cl fs) ∧ u = .leaf (.obj cl gs) ∧ f [.obj cl fs, .obj cl gs] fun r => ∃ k, r = .leaf (.bl k) ∧ Ψ k
theorem obj_in {F H : Hp} {v : V} {cl : Nat} {C : Addr} {ns : List Str} {fs : List D} (s : Sub F H) (hc : a.cls cl = some (C, ns)) (h : Is a.toAn F (.obj cl fs) v) : ∃ p dx gs, v = .ref p ∧ H p = some (.ins C dx gs) := by
  simp only [Is] at h
  obtain ⟨p, C', ns', dx, us, rfl, hc', l, hp, il⟩ := h
  rw [hc] at hc'
  cases hc'
  exact ⟨p, dx, _, rfl, s _ _ hp⟩
theorem eqO_run {cl : Nat} {f : SpecF} {E : XK} {σ : L2.St} {H : Hp} {ts : List T} {vs : List V} {C fa : Addr} {ns : List Str} (mono : ∀ ds (Φ Ψ : T → Prop), (∀ t, Φ t → Ψ t) → f ds Φ → f ds Ψ) (hc : a.cls cl = some (C, ns)) {Q : VK} (h : eqOq a X ρ cl f A B Ψ) (ok : SOk a ρ σ ts vs H) (k : ∀ b H', Ψ b → SOk a ρ σ ts vs H' → Q (.bl b) H') :
    WE X A σ H fun x H1 => WE X B σ H1 fun y H2 => ∃ p q dx dy fs gs, x = .ref p ∧ y = .ref q ∧ H2 p = some (.ins C dx fs) ∧ H2 q = some (.ins C dy gs) ∧ spD a.K a.cls f [.ref p, .ref q] H2 (fun v H' => (∃ k, v = .bl k) ∧ Q v H') E := by
  refine h σ H ts vs _ ok fun x t H1 h1 ok1 => h1 σ H1 _ _ _ ok1 fun y u H2 ⟨fs, gs, e1, e2, q⟩ ok2 => ?_
  subst e1 e2
  obtain ⟨F, Sc, Sm, w⟩ := ok2
  obtain ⟨i2, w1⟩ := w.top1
  obtain ⟨i1, w2⟩ := w1.top1
  obtain ⟨p1, d1, g1, rfl, hp1⟩ := obj_in w.sub hc i1
  obtain ⟨p2, d2, g2, rfl, hp2⟩ := obj_in w.sub hc i2
  refine ⟨p1, p2, d1, d2, g1, g2, rfl, rfl, hp1, hp2, a.bg, F, _, w2.sub, w2.bag, by simp only [IsL]; exact ⟨_, _, rfl, i1, _, _, rfl, i2, rfl⟩, mono _ _ _ (fun t ht F' H' v S sub g bg ow nd fr => ?_) q⟩
  obtain ⟨b, rfl, hb⟩ := ht
  have ok3 := w2.called sub g bg ow nd fr
  simp only [Ow, Is] at ow
  obtain ⟨_, rfl⟩ := ow
  exact ⟨⟨b, rfl⟩, k b H' hb ok3.pop1⟩
theorem dt_eqO {cl : Nat} {f : SpecF} (xo : XOk a X) (mt : MtAt a X cl "__eq__" f) (mono : ∀ ds (Φ Ψ : T → Prop), (∀ t, Φ t → Ψ t) → f ds Φ → f ds Ψ) (hn : notSet B = true) (h : eqOq a X ρ cl f A B Ψ) : DT a X ρ (.Compare A [.Eq] [B] pos) Ψ := fun σ H ts vs Q ok k => by
  obtain ⟨C, fa, ns, fd, n, ps, hc, hm, c, me, F, hr, hb⟩ := mt.ex
  refine ⟨_, pt_cmpR (op_eqO F xo.gu me.at_ me.fn hb hr pass0) pe_W pe_W (behind_of hn), ?_⟩
  exact eqO_run (fa := fa) mono hc h ok fun b H' hb ok' => ⟨b, rfl, k b H' hb ok'⟩
/-- the class of that number has this name, and isinstance knows it -/
structure InAt (a : An0) (X : Cx) (cl : Nat) (x : Str) : Prop where
  ex : ∃ (C : Addr) (ns : List Str), a.cls cl = some (C, ns) ∧ X.mg x = some (.ref C) ∧ C8.InsC X.K C
theorem de_isC {cl : Nat} {x : Str} (xo : XOk a X) (it : InAt a X cl x) (hg : Gl X "isinstance") (hm : X.mg "isinstance" = none) (hg2 : Gl X x) (hd : (x == ("__debug__" : Str)) = false) (h1 : notStar e = true)
    (h : DE a X ρ e fun t => (∃ fs, t = .leaf (.obj cl fs)) ∧ Φ (.leaf (.bl true))) : DE a X ρ (.Call (.Name "isinstance" p) [e, .Name x p1] [] pos) Φ := fun σ H ts vs Q ok k => by
  obtain ⟨C, ns, hc, hm2, ic⟩ := it.ex
  refine ⟨_, pe_callB (C8.call_isC ic) hg hm (by decide +kernel) (pa_cons pe_W (pa_cons (pe_glob (v := .ref C) hg2 hm2 rfl hd) pa_nil) (star_of h1)) (by decide) (by decide) (star_of h1) rfl, ?_⟩
  show WE X e σ H fun y H1 => ∃ a dx fs, [y, .ref C] = [.ref a, .ref C] ∧ H1 a = some (.ins C dx fs) ∧ Q (.bl true) H1
  refine h σ H ts vs _ ok fun y t H1 ⟨⟨fs, e1⟩, q⟩ ok1 => ?_
  subst e1
  obtain ⟨F, Sc, Sm, w⟩ := ok1
  obtain ⟨i1, w1⟩ := w.top1
  obtain ⟨p1, d1, g1, rfl, hp1⟩ := obj_in w.sub hc i1
  exact ⟨p1, d1, g1, rfl, hp1, k _ _ H1 q (SOk.bl ⟨F, Sc, Sm, w1⟩)⟩
end
end DL
namespace DL
open PySem PySem.Spec PyProof.Rows L2
section
variable {a : An0} {X : Cx} {ρ : Env} {σ : L2.St} {ts : List T} {vs : List V} {H F : Hp} {Sc Sm : List Addr} {Φ : T → Prop} {pos p : Pos} {e A B C : Expr} {es : List Expr} {K : EnD}
theorem DE.imp {e : Expr} {Φ Ψ : T → Prop} (h : DE a X ρ e Φ) (i : ∀ t, Φ t → Ψ t) : DE a X ρ e Ψ := fun σ H ts vs Q ok k => h σ H ts vs Q ok fun v t H' q ok' => k v t H' (i t q) ok'
theorem OwL.focus {a : An} {F H : Hp} : ∀ {us : List T} {ws : List V} {S : List Addr} {j : Nat} {u : T}, OwL a F H us ws S → us[j]? = some u → ∃ x Si Sr, ws[j]? = some x ∧ Ow a F H u x Si ∧ S.Perm (Si ++ Sr) ∧
    ∀ H' u' Si', (∀ p ∈ Sr, ∀ o, H p = some o → H' p = some o) → Ow a F H' u' x Si' → T.nvs us = true → ∃ S', OwL a F H' (us.set j u') ws S' ∧ S'.Perm (Si' ++ Sr)
  | [], _, _, _, _, _, g => by simp at g
  | t :: ts, ws, S, 0, u, h, g => by
    simp only [OwL] at h
    obtain ⟨v, r, S1, S2, rfl, h1, h2, rfl⟩ := h
    simp only [List.getElem?_cons_zero, Option.some.injEq] at g
    subst g
    refine ⟨v, S1, S2, rfl, h1, List.Perm.refl _, fun H' u' Si' k hu n => ⟨Si' ++ S2, ?_, List.Perm.refl _⟩⟩
    simp only [T.nvs, Bool.and_eq_true] at n
    simp only [List.set_cons_zero, OwL]
    exact ⟨v, r, Si', S2, rfl, hu, h2.mono' (Sub.refl F) n.2 k, rfl⟩
  | t :: ts, ws, S, j + 1, u, h, g => by
    simp only [OwL] at h
    obtain ⟨v, r, S1, S2, rfl, h1, h2, rfl⟩ := h
    simp only [List.getElem?_cons_succ] at g
    obtain ⟨x, Si, Sr, e, h3, hp, go⟩ := OwL.focus h2 g
    refine ⟨x, Si, S1 ++ Sr, by simpa using e, h3, ?_, fun H' u' Si' k hu n => ?_⟩
    · exact (List.Perm.append_left S1 hp).trans (by rw [← List.append_assoc, ← List.append_assoc]; exact List.Perm.append_right _ List.perm_append_comm)
    · simp only [T.nvs, Bool.and_eq_true] at n
      obtain ⟨S', h4, p4⟩ := go H' u' Si' (fun p hp => k p (List.mem_append_right _ hp)) hu n.2
      refine ⟨S1 ++ S', ?_, (List.Perm.append_left S1 p4).trans (by rw [← List.append_assoc, ← List.append_assoc]; exact List.Perm.append_right _ List.perm_append_comm)⟩
      simp only [List.set_cons_succ, OwL]
      exact ⟨v, r, S1, S', rfl, h1.mono' (Sub.refl F) n.1 fun p hp => k p (List.mem_append_left _ hp), h4, rfl⟩
end
end DL
namespace SetL
open PySem PySem.Spec PyProof.Rows L2
section
variable {P : Program} {w : World} {A : Around} {E : Value → Shared → Prop} {s : Shared}
end
noncomputable def rSetL (K : PySem.W.Frag) (w : World) : List V → Hp → VK → Prop := fun vs H Q => ∃ (l : Addr) (ns : List Int), vs = [V.ref l] ∧ SqL K H l (ns.map V.int) ∧ ns.length ≤ 1000 ∧ ∀ p c, H p = none → c ≤ ns.length → Q (.ref p) (upd H p (SetO w p (fun j => decide (j ∈ ns)) c))
end SetL
namespace DL
open PySem PySem.Spec PyProof.Rows L2
section
variable {a : An0} {X : Cx} {ρ : Env} {Φ : T → Prop} {pos p p2 q : Pos} {A : Expr}
/-- sorted(set(xs)) -/
noncomputable def srtS (t : T) (Φ : T → Prop) : Prop := ∃ ns : List Int, t.dat = .lst (ns.map .int) ∧ ns.length < 64 ∧ ∀ ns' : List Int, ns'.Pairwise (· < ·) → (∀ k, k ∈ ns' ↔ k ∈ ns) → Φ (.lst (ns'.map fun n => .leaf (.int n)))
end
end DL
namespace DL
open PySem PySem.Spec PyProof.Rows L2
section
variable {a : An0} {X : Cx} {ρ : Env} {σ : L2.St} {ts : List T} {vs : List V} {H F : Hp} {Sc Sm : List Addr} {Φ : T → Prop} {pos p : Pos} {e A B C : Expr} {es : List Expr} {K : EnD}
noncomputable def par3Ok (c : Ct) (x y z : Str) (px py pz : Pos) (A B C : Expr) : Bool :=
  lcl c x && lcl c y && lcl c z && py.line == px.line && pz.line == px.line && !isStar A && !isStar B && !isStar C && !(x == y) && !(x == z) && !(y == z) && !([A, B, C].all (foldedForSure 8)) && !([A, B, C].all (constantsAlone 8))
theorem par3_eq {c : Ct} {x y z : Str} {px py pz pt pt2 : Pos} {kt k2 : Nat} (co : COk c X) (hk : X.env.scope.kind = .function) (h : par3Ok c x y z px py pz A B C = true) :
    swappedStores [.Tuple [.Name x px, .Name y py, .Name z pz] kt pt] (.Tuple [A, B, C] k2 pt2) X.env = pure (some [x, y, z]) := by
  unfold par3Ok at h
  simp only [Bool.and_eq_true, Bool.not_eq_true'] at h
  obtain ⟨⟨⟨⟨⟨⟨⟨⟨⟨⟨⟨⟨h1, h2⟩, h3⟩, h4⟩, h5⟩, h6⟩, h7⟩, h8⟩, h9⟩, h10⟩, h11⟩, h12⟩, h13⟩ := h
  have hb : X.env.blockKind = .function := by unfold PySem.Env.blockKind; rw [hk]; rfl
  have hx : X.env.kindOf x = some .local := lcl_of co h1
  have hy : X.env.kindOf y = some .local := lcl_of co h2
  have hz : X.env.kindOf z = some .local := lcl_of co h3
  have e : ∀ e : Expr, (match e with | .Starred .. => true | _ => false) = isStar e := fun e => by cases e <;> rfl
  have hs : ([A, B, C].any fun | .Starred .. => true | _ => false) = false := by
    simp only [List.any_cons, List.any_nil, Bool.or_false]
    rw [e, e, e, h6, h7, h8]
    rfl
  have n1 : (y == x) = false := by
    have : ¬ y = x := fun q => by rw [q] at h9; simp at h9
    simpa using this
  have n2 : (z == x) = false := by
    have : ¬ z = x := fun q => by rw [q] at h10; simp at h10
    simpa using this
  have n3 : (z == y) = false := by
    have : ¬ z = y := fun q => by rw [q] at h11; simp at h11
    simpa using this
  have len : [x, y, z].eraseDups.length = 3 := by simp [List.eraseDups_cons, n1, n2, n3]
  unfold swappedStores
  simp only [hb, hx, hy, hz, hs, h12, h13, Expr.pos, List.head?_cons, Option.map_some, Option.getD_some, List.filterMap_cons, List.filterMap_nil, List.length_cons, List.length_nil]
  simp [h4, h5]
  rw [if_neg (fun q => q.elim (fun q => by have q2 : isStar A = true := q; rw [h6] at q2; cases q2) fun q => q.elim (fun q => by have q2 : isStar B = true := q; rw [h7] at q2; cases q2) fun q => by have q2 : isStar C = true := q; rw [h8] at q2; cases q2), if_pos len]
theorem ds_par3 {c : Ct} {i j l : Nat} {x y z : Str} {px py pz pt pt2 : Pos} {kt k2 : Nat} (xo : XOk a X) (co : COk c X) (hk : X.env.scope.kind = .function) (hx : nameIs c i x = true) (hy : nameIs c j y = true) (hz : nameIs c l z = true) (hij : i ≠ j) (hil : i ≠ l) (hjl : j ≠ l) (hp : par3Ok c x y z px py pz A B C = true)
    (hi : i < ρ.length) (hj : j < ρ.length) (hl : l < ρ.length) (h : DA a X ρ [A, B, C] fun us => ∃ u v w, us = [u, v, w] ∧ K.nx (((ρ.put i (some u)).put j (some v)).put l (some w))) :
    DS a X ρ (.Assign [.Tuple [.Name x px, .Name y py, .Name z pz] kt pt] (.Tuple [A, B, C] k2 pt2) pos) K := fun σ H D ok m => by
  have hp' := hp
  unfold par3Ok at hp'
  simp only [Bool.and_eq_true] at hp'
  refine ⟨_, ps_par3 xo.calm xo.nd (nameIs_of co hx) (nameIs_of co hy) (nameIs_of co hz) hij hil hjl (lcl_of co hp'.1.1.1.1.1.1.1.1.1.1.1.1) (lcl_of co hp'.1.1.1.1.1.1.1.1.1.1.1.2) (lcl_of co hp'.1.1.1.1.1.1.1.1.1.1.2) pa_W (par3_eq co hk hp), ?_⟩
  show WA X [A, B, C] σ H fun vs H1 => ∃ u v w, vs = [u, v, w] ∧ D.nx (((σ.set i (some u)).set j (some v)).set l (some w)) H1
  refine h σ H [] [] _ ok fun ws us H1 ⟨u, v, w, e, hk⟩ nu ln ok1 => ?_
  subst e
  obtain ⟨y1, y2, y3, rfl⟩ : ∃ y1 y2 y3, ws = [y1, y2, y3] := by
    match ws, ln with
    | [y1, y2, y3], _ => exact ⟨y1, y2, y3, rfl⟩
  simp only [List.all_cons, List.all_nil, Bool.and_true, Bool.and_eq_true] at nu
  obtain ⟨F, Sc, Sm, w1⟩ := ok1
  obtain ⟨S, h3, _⟩ := w1.cut
  obtain ⟨Sc2, Sm2, w2⟩ := SW.put (ts := [v, w]) (vs := [y2, y3]) w1 hi (h3.nv nu.1)
  obtain ⟨S2, h4, _⟩ := w2.cut
  obtain ⟨Sc3, Sm3, w3⟩ := SW.put (ts := [w]) (vs := [y3]) w2 (by rw [Env.put_length]; exact hj) (h4.nv nu.2.1)
  obtain ⟨S3, h5, _⟩ := w3.cut
  exact ⟨y1, y2, y3, rfl, m.1 _ _ _ hk (SOk.put (by rw [Env.put_length, Env.put_length]; exact hl) (h5.nv nu.2.2) ⟨F, Sc3, Sm3, w3⟩)⟩
end
end DL
namespace DL
open PySem PySem.Spec PyProof.Rows L2

section
variable {X : Cx} {k : Nat} {f C : Addr} {fd : FuncData} {ps : List Str} {sp : Sp} {W : WX} {x : Str} {p pos : Pos} {e : Expr} {es : List Expr} {t : TA}
end
end DL
namespace DL
open PySem PySem.Spec PyProof.Rows L2

/-- a def's promise: from the arguments, what is wanted of the answer, and of an exception (the number of its class, its fields) -/
noncomputable abbrev SpecX := List D → (T → Prop) → (Nat → List D → Prop) → Prop
noncomputable def MonoX (f : SpecX) : Prop := ∀ ds (Φ Ψ : T → Prop) (E G : Nat → List D → Prop), (∀ t, Φ t → Ψ t) → (∀ c fs, E c fs → G c fs) → f ds Φ E → f ds Ψ G
/-- an exception of the class of number c, its fields as plain data without places -/
noncomputable def ExIs (cls : Nat → Option (Addr × List Str)) (c : Nat) (fs : List D) (cv : Value) (d : Option Addr) (H : Hp) : Prop :=
  ∃ C ns, cls c = some (C, ns) ∧ cv = .ref C ∧ fs.length = ns.length ∧ ((ns = [] ∧ d = none) ∨ ∃ dx kv, d = some dx ∧ H dx = some (.xd kv) ∧
    ∀ (i : Nat) n x, ns[i]? = some n → fs[i]? = some x → x.flat = true ∧ ∃ v, kv.lookup n = some v ∧ ∀ (a : An) F, Is a F x v)
/-- as the layer's promise -/
noncomputable def spDX (K : PySem.W.Frag) (cls : Nat → Option (Addr × List Str)) (f : SpecX) : Sp := fun vs H Q E =>
  ∃ (bg : Option Addr) (F : Hp) (ds : List D), Sub F H ∧ BagOk ⟨K, bg, cls⟩ F H ∧ IsL ⟨K, bg, cls⟩ F ds vs ∧
    f ds (fun t => ∀ F' H' v S, Sub F' H' → Gw (An.hid ⟨K, bg, cls⟩) F H F' H' → BagOk ⟨K, bg, cls⟩ F' H' → Ow ⟨K, bg, cls⟩ F' H' t v S → S.Nodup → (∀ p ∈ S, F' p = none ∧ ¬ An.hid ⟨K, bg, cls⟩ p ∧ H p = none) → Q v H')
      fun c fs => ∀ F' H' cv d, Sub F' H' → Gw (An.hid ⟨K, bg, cls⟩) F H F' H' → BagOk ⟨K, bg, cls⟩ F' H' → ExIs cls c fs cv d H' → E cv d H'
/-- what may be in the air here -/
noncomputable def Wx (a : An0) (ex : Nat → List D → Prop) : WX := fun cv d σ H => ∃ c fs ρ, ex c fs ∧ ExIs a.cls c fs cv d H ∧ SOk a ρ σ [] [] H
theorem Wx.mono {a : An0} {E G : Nat → List D → Prop} (h : ∀ c fs, E c fs → G c fs) {cv : Value} {d : Option Addr} {σ : L2.St} {H : Hp} : Wx a E cv d σ H → Wx a G cv d σ H := fun ⟨c, fs, ρ, e, r⟩ => ⟨c, fs, ρ, h c fs e, r⟩
section
variable {a : An0} {X : Cx} {ρ : Env} {σ : L2.St} {ts : List T} {vs : List V} {H F : Hp} {Sc Sm : List Addr} {Φ : T → Prop} {pos p : Pos} {e : Expr} {es : List Expr} {ex : Nat → List D → Prop}
/-- a class's __init__ that may raise -/
noncomputable def spIX (K : PySem.W.Frag) (cls : Nat → Option (Addr × List Str)) (c : Nat) (f : SpecX) : Sp := fun vs H Q E =>
  ∃ (bg : Option Addr) (F H0 : Hp) (ds : List D) (x dx C : Addr) (ns : List Str) (ws : List V), vs = .ref x :: ws ∧ cls c = some (C, ns) ∧ H0 x = none ∧ H0 dx = none ∧ dx ≠ x ∧ H = upd (upd H0 dx (.own x)) x (.ins C dx []) ∧
    Sub F H0 ∧ BagOk ⟨K, bg, cls⟩ F H0 ∧ IsL ⟨K, bg, cls⟩ F ds ws ∧
    f ds (fun t => ∀ F' H', Sub F' H' → Gw (An.hid ⟨K, bg, cls⟩) F H0 F' H' → BagOk ⟨K, bg, cls⟩ F' H' → Ow ⟨K, bg, cls⟩ F' H' t (.ref x) [] → Q .non H')
      fun cx fs => ∀ F' H' cv d, Sub F' H' → Gw (An.hid ⟨K, bg, cls⟩) F H0 F' H' → BagOk ⟨K, bg, cls⟩ F' H' → ExIs cls cx fs cv d H' → E cv d H'
structure FnAtX (a : An0) (X : Cx) (x : Str) (f : SpecX) : Prop where
  ex : (∃ (fa : Addr) (fd : FuncData) (k : Nat) (ps : List Str), FnG X.prog X.w X.K X.mg X.base (L2.CX X.prog X.w) k fa fd ps (spDX a.K a.cls f) ∧ Room k X.A ∧ X.mg x = some (.ref fa) ∧ PySem.W.keepIn X.K (.ref fa) = true ∧ Binds X.K fd ps []) ∨
    ∃ (C fa : Addr) (c : Nat) (ns : List Str) (fd : FuncData) (k : Nat) (ps : List Str), a.cls c = some (C, ns) ∧ Mk X.K C fa ∧ X.mg x = some (.ref C) ∧ FnG X.prog X.w X.K X.mg X.base (L2.CX X.prog X.w) k fa fd ps (spIX a.K a.cls c f) ∧ Room (k + 1) X.A ∧ Binds X.K fd ps []
/-- a def with keyword-only defaults that may raise: called without them (none), or with one of them named (some y) -/
noncomputable def FnAtK (a : An0) (X : Cx) (x : Str) (o : Option Str) (f : SpecX) : Prop :=
  ∃ (fa : Addr) (fd : FuncData) (k : Nat) (ps : List Str) (sp : Sp), FnG X.prog X.w X.K X.mg X.base (L2.CX X.prog X.w) k fa fd ps sp ∧ Room k X.A ∧ X.mg x = some (.ref fa) ∧ PySem.W.keepIn X.K (.ref fa) = true ∧
    match o with
    | none => ∃ (dvs : List V) (dss : List Value), Binds X.K fd ps dss ∧ Vals dvs dss ∧ ∀ vs H Q E, spDX a.K a.cls f vs H Q E → sp (vs ++ dvs) H Q E
    | some y => ∃ (g : List Value → List Value → List Value) (gV : List V → List V → List V), KBn X.K fd ps 1 [y] g gV ∧ ∀ v z H Q E, spDX a.K a.cls f [v, z] H Q E → sp (gV [v] [z]) H Q E
end
end DL
namespace DL
open PySem PySem.Spec PyProof.Rows L2

/-- what the base class says, so that its __init__ is ValueError's -/
structure BaseI (K : PySem.W.Frag) (CB : Addr) : Prop where
  sp : PySem.W.specialIn K (.ref CB) "__getattribute__" = some (some (.builtin "type.__getattribute__"))
  rd : PySem.W.readsIn K CB (.type "type") = true
  vi : PySem.W.findCls K (.ref CB) (.type "type") "__init__" = some (.val (.builtin "ValueError.__init__"))
section
variable {X : Cx} {e : Expr} {es : List Expr} {ta : TA} {p1 p2 pos : Pos}
end
/-- the promise of an exception's __init__ with one field f -/
noncomputable def spE1 (K : PySem.W.Frag) (f : Str) : Sp := fun vs H Q _ => ∃ (a C : Addr) (y : V), vs = [.ref a, y] ∧ OexC K C ∧ PySem.W.findIn K (.ref C) f = some none ∧ H a = some (exo a C none) ∧
  ∀ dx, H dx = none → dx ≠ a → Q .non (upd (upd H dx (exd dx [(f, y)])) a (exo a C (some dx)))
/-- the promise of an exception's __init__ without fields -/
noncomputable def spE0 (K : PySem.W.Frag) : Sp := fun vs H Q _ => ∃ (a C : Addr), vs = [.ref a] ∧ OexC K C ∧ H a = some (exo a C none) ∧ Q .non H
/-- what a class of exceptions with one field says, where raise C(x) stands -/
noncomputable def ExcS1 (cls : Nat → Option (Addr × List Str)) (X : Cx) (x : Str) (c : Nat) (f : Str) : Prop :=
  ∃ (C fI : Addr) (k : Nat) (fd : FuncData) (g : Str), cls c = some (C, [f]) ∧ OexC X.K C ∧ PySem.W.findIn X.K (.ref C) "__init__" = some (some (.ref fI)) ∧ PySem.W.typeIn X.K (.ref fI) = some (.type "function") ∧ PySem.W.findIn X.K (.ref C) f = some none ∧
    FnOk X.prog X.w X.K X.mg X.base CX0 k fI fd ["self", g] (spE1 X.K f) ∧ Room (k + 1) X.A ∧ Binds X.K fd ["self", g] [] ∧ X.mg x = some (.ref C)
/-- the same of a class without fields -/
noncomputable def ExcS0 (cls : Nat → Option (Addr × List Str)) (X : Cx) (x : Str) (c : Nat) : Prop :=
  ∃ (C fI : Addr) (k : Nat) (fd : FuncData), cls c = some (C, []) ∧ OexC X.K C ∧ PySem.W.findIn X.K (.ref C) "__init__" = some (some (.ref fI)) ∧ PySem.W.typeIn X.K (.ref fI) = some (.type "function") ∧
    FnOk X.prog X.w X.K X.mg X.base CX0 k fI fd ["self"] (spE0 X.K) ∧ Room (k + 1) X.A ∧ Binds X.K fd ["self"] [] ∧ X.mg x = some (.ref C)
structure ExcK (a : An0) (X : Cx) (x : Str) (c : Nat) (f : Str) : Prop where
  ex : ExcS1 a.cls X x c f
structure ExcK0 (a : An0) (X : Cx) (x : Str) (c : Nat) : Prop where
  ex : ExcS0 a.cls X x c
/-- a class with one field, or (f empty) without -/
structure ExcKK (a : An0) (X : Cx) (x : Str) (c : Nat) (f : Str) : Prop where
  ex : (f = "" ∧ ExcS0 a.cls X x c) ∨ (f ≠ "" ∧ ExcS1 a.cls X x c f)
section
variable {a : An0} {X : Cx} {ρ : Env} {pos p p2 : Pos} {e : Expr} {ex : Nat → List D → Prop} {K : EnD}
end
end DL
namespace DL
open PySem PySem.Spec PyProof.Rows L2

/-- what stands while the suite runs -/
structure Jx (a : An0) (ρ : Env) (σ : L2.St) (dx : Option Addr) (kv : List (Str × V)) (H : Hp) : Prop where
  ok : SOk a ρ σ [] [] H
  dd : ∀ d, dx = some d → H d = some (.xd kv)
theorem Jx.laid {a : An0} {ρ : Env} {σ : L2.St} {dx : Option Addr} {q : Addr} {kv : List (Str × V)} {H : Hp} {o : HO} (j : Jx a ρ σ dx kv H) (hq : H q = none) : Jx a ρ σ dx kv (upd H q o) := by
  obtain ⟨⟨F, Sc, Sm, w⟩, dd⟩ := j
  exact ⟨⟨F, Sc, Sm, w.laid hq⟩, fun d e => by
    have dd := dd d e
    rw [upd_ne (fun e => by rw [e, hq] at dd; cases dd)]; exact dd⟩
section
variable {a : An0} {ρ : Env} {σ : L2.St} {dx : Option Addr} {kv : List (Str × V)} {X : Cx} {A B : Expr} {es : List Expr} {b c : Bool} {pos p p1 p2 : Pos} {d : D}
end
structure ExcT (K : PySem.W.Frag) (C : Addr) : Prop where
  cl : (PySem.W.clsIn K C).isSome = true
  ga : PySem.W.findIn K (.ref C) "__getattribute__" = some (some (.builtin "BaseException.__getattribute__"))
  gg : PySem.W.findIn K (.ref C) "__getattr__" = some none
  sb : PySem.W.subIn K (.ref C) (.type "BaseException") = some true
  ha : PySem.W.findIn K (.ref C) "__class__" = some (some (.builtin "object.__class__"))
  hn : PySem.W.specialIn K (.builtin "object.__class__") "__get__" = some (some (.builtin "getset_descriptor.__get__"))
  tk : PySem.W.takesIn K (.builtin "object.__class__") = some true
  hm : PySem.W.mroIn K C (.type "object") = some true
  hd : PySem.W.hasDictIn K C = true
section
variable {a : An0} {ρ : Env} {σ : L2.St} {dx : Option Addr} {x0 C : Addr} {kv : List (Str × V)} {X : Cx} {oe : Obj} {pn : List (Addr × Obj)} {pos p p1 p2 : Pos} {d : D} {b : Bool}
/-- a name that is a class here: what it holds -/
structure NmV (X : Cx) (x : Str) (v : V) (u : Value) : Prop where
  rel : RelV v u
  uni : ∀ u', RelV v u' → u' = u
  gl : Gl X x
  nd : (x == ("__debug__" : Str)) = false
  at_ : X.mg x = some u ∨ (X.mg x = none ∧ bootBuiltins x = some u ∧ x ≠ "__name__")
/-- the caught exception, in its suite -/
structure Caught (X : Cx) (σ : L2.St) (C x0 : Addr) (dx : Option Addr) (oe : Obj) (i : Nat) (n : Str) : Prop where
  ext : ExcT X.K C
  zc : Zc (.ref C) dx oe
  fl : ∃ vs, oe.data = .fields vs
  at_ : X.N[i]? = some n
  vis : Vis X.env.scope n
  nd : (n == ("__debug__" : Str)) = false
  nc : (n == ("__classdict__" : Str)) = false
  sl : σ[i]? = some (some (.ref x0))
variable {i j : Nat} {n x : Str} {es : List Expr} {e1 e2 A : Expr} {d1 d2 : D} {st : Stmt} {s1 rest : List Stmt}
end
structure TryOk (X : Cx) : Prop where
  hs : X.stack = X.env :: X.outer
  hf : X.env.frame = some X.env.locals
section
variable {a : An0} {X : Cx} {ρ : Env} {K : EnD} {ex : Nat → List D → Prop} {i : Nat} {n x : Str} {cP : Value} {body suite : List Stmt} {b0 : Stmt} {np pos pos' : Pos}
end
end DL
namespace DL
open PySem PySem.Spec PyProof.Rows L2

inductive Ht where
  | isa (k : Nat) | isat (ks : List Nat) | not (t : Ht) | or (t u : Ht) | one (t : Ht)
inductive Hv where
  | str (s : Str) | int (n : Int) | fld (f : Str) | non
/-- what is returned: a pair, one value, one of two -/
inductive Hr where
  | pr (x y : Hv) | v1 (x : Hv) | ife (t : Ht) (a b : Hr)
inductive Hd where
  | ret (x y : Hv) | ite (t : Ht) (s r : Hd) | re (e : Hr)
noncomputable def Ht.ev (an : Nat → Bool) : Ht → Bool
  | .isa k => an k
  | .isat ks => ks.any an
  | .not t => !t.ev an
  | .or t u => t.ev an || u.ev an
  | .one t => t.ev an
/-- the field f of a record with the names ns -/
noncomputable def fldAt (f : Str) : List Str → List D → Option D
  | n :: ns, d :: ds => if n = f then some d else fldAt f ns ds
  | _, _ => none
noncomputable def Hv.ev (ns : List Str) (fs : List D) : Hv → Option D
  | .str s => some (.str s)
  | .int n => some (.int n)
  | .fld f => fldAt f ns fs
  | .non => some .non
noncomputable def Hr.ev (an : Nat → Bool) (ns : List Str) (fs : List D) : Hr → Option D
  | .pr x y => match x.ev ns fs, y.ev ns fs with
    | some d, some e => if d.flat && e.flat then some (.tup [d, e]) else none
    | _, _ => none
  | .v1 x => match x.ev ns fs with
    | some d => if d.flat then some d else none
    | none => none
  | .ife t a b => if t.ev an then a.ev an ns fs else b.ev an ns fs
noncomputable def Hd.ev (an : Nat → Bool) (ns : List Str) (fs : List D) : Hd → Option D
  | .ret x y => match x.ev ns fs, y.ev ns fs with
    | some d, some e => if d.flat && e.flat then some (.tup [d, e]) else none
    | _, _ => none
  | .ite t s r => if t.ev an then s.ev an ns fs else r.ev an ns fs
  | .re e => e.ev an ns fs
/-- they are written so: n the name of the caught one, xn the classes that are asked for -/
noncomputable def okNs (xn : List Str) : List Nat → List Expr → Bool
  | [], [] => true
  | k :: ks, .Name x _ :: es => decide (xn[k]? = some x) && okNs xn ks es
  | _, _ => false
mutual
noncomputable def okHt (n : Str) (xn : List Str) : Ht → Expr → Bool
  | .isa k, e => match e with | .Call (.Name f _) [.Name m _, .Name x _] [] _ => (f == ("isinstance" : Str)) && (m == n) && decide (xn[k]? = some x) | _ => false
  | .isat ks, e => match e with | .Call (.Name f _) [.Name m _, .Tuple es _ _] [] _ => (f == ("isinstance" : Str)) && (m == n) && okNs xn ks es && Nat.ble ks.length 1000 && !xn.isEmpty | _ => false
  | .not t, e => match e with | .UnaryOp .Not a _ => okHt n xn t a | _ => false
  | .or t u, e => match e with | .BoolOp .Or (a :: b :: es) _ => okHt n xn t a && okHw n xn u (b :: es) | _ => false
  | .one _, _ => false
noncomputable def okHw (n : Str) (xn : List Str) : Ht → List Expr → Bool
  | .or t u, es => match es with | a :: b :: es => okHt n xn t a && okHw n xn u (b :: es) | _ => false
  | .one t, es => match es with | [a] => okHt n xn t a | _ => false
  | .isa _, _ => false
  | .isat _, _ => false
  | .not _, _ => false
end
/-- what the names and the class say -/
structure HdOk (X : Cx) (xn : List Str) (C : Addr) (an : Nat → Bool) (ns : List Str) : Prop where
  gl : xn = [] ∨ Gl X "isinstance"
  mg : X.mg "isinstance" = none
  nm : ∀ (k : Nat) x, xn[k]? = some x → ∃ v u, NmV X x v u ∧ PySem.W.kitOne X.K (.ref C) u = some (an k)
  no : ∀ f ∈ ns, PySem.W.findIn X.K (.ref C) f = some none
section
variable {a : An0} {ρ : Env} {σ : L2.St} {dx : Option Addr} {x0 C : Addr} {kv : List (Str × V)} {X : Cx} {oe : Obj} {pn : List (Addr × Obj)} {i : Nat} {n : Str} {xn : List Str} {an : Nat → Bool} {ns : List Str} {fs : List D}
end
end DL
namespace DL
open PySem PySem.Spec PyProof.Rows L2

mutual
/-- the lists in it -/
noncomputable def D.lists : D → List (List D)
  | .tup ds => D.listss ds
  | .lst ds => ds :: D.listss ds
  | .obj _ fs => D.listss fs
  | .non => []
  | .bl _ => []
  | .int _ => []
  | .str _ => []
  | .bag => []
  | .scr _ => []
  | .opq _ => []
  | .emp => []
noncomputable def D.listss : List D → List (List D)
  | [] => []
  | d :: r => d.lists ++ D.listss r
end
mutual
/-- neither the bag nor the script is in it -/
noncomputable def D.clean : D → Bool
  | .tup ds => D.cleans ds
  | .lst ds => D.cleans ds
  | .obj _ fs => D.cleans fs
  | .non => true
  | .bl _ => true
  | .int _ => true
  | .str _ => true
  | .bag => false
  | .scr _ => false
  | .opq _ => false
  | .emp => false
noncomputable def D.cleans : List D → Bool
  | [] => true
  | d :: r => d.clean && D.cleans r
end
mutual
/-- .. nor an object -/
noncomputable def D.pure : D → Bool
  | .tup ds => D.pures ds
  | .lst ds => D.pures ds
  | .obj _ _ => false
  | .non => true
  | .bl _ => true
  | .int _ => true
  | .str _ => true
  | .bag => false
  | .scr _ => false
  | .opq _ => false
  | .emp => false
noncomputable def D.pures : List D → Bool
  | [] => true
  | d :: r => d.pure && D.pures r
end
/-- what is held by one place of F -/
noncomputable def uni (F G : Hp) : Hp := fun p => match F p with
  | some o => some o
  | none => G p
theorem uni_l {F G : Hp} : Sub F (uni F G) := fun p o h => by unfold uni; rw [h]
theorem uni_r {F G I : Hp} (h1 : Sub F I) (h2 : Sub G I) : Sub G (uni F G) := fun p o h => by
  unfold uni
  cases e : F p with
  | none => exact h
  | some o' =>
    have a := h1 p o' e
    rw [h2 p o h] at a
    exact a.symm
theorem uni_sub {F G I : Hp} (h1 : Sub F I) (h2 : Sub G I) : Sub (uni F G) I := fun p o h => by
  unfold uni at h
  cases e : F p with
  | none => rw [e] at h; exact h2 p o h
  | some o' => rw [e] at h; cases h; exact h1 p o e
noncomputable def one1 (p : Addr) (o : HO) : Hp := fun q => if q = p then some o else none
theorem one1_sub {p : Addr} {o : HO} {I : Hp} (h : I p = some o) : Sub (one1 p o) I := fun q u e => by
  unfold one1 at e
  split at e
  · rename_i z; rw [z]; cases e; exact h
  · cases e
/-- the part of the heap that data needs: its lists are lists of the data -/
noncomputable def LsOf (a : An) (G : Hp) (ls : List (List D)) : Prop := ∀ p vs, G p = some (.lst vs) → ∃ es ∈ ls, Is a G (.lst es) (.ref p)
theorem LsOf.uni {a : An} {F G I : Hp} {ls ms : List (List D)} (s1 : Sub F I) (s2 : Sub G I) (h1 : LsOf a F ls) (h2 : LsOf a G ms) : LsOf a (uni F G) (ls ++ ms) := fun p vs e => by
  unfold DL.uni at e
  cases z : F p with
  | some o =>
    rw [z] at e
    cases e
    obtain ⟨es, m, i⟩ := h1 p vs z
    exact ⟨es, List.mem_append_left _ m, i.mono uni_l⟩
  | none =>
    rw [z] at e
    obtain ⟨es, m, i⟩ := h2 p vs e
    exact ⟨es, List.mem_append_right _ m, i.mono (uni_r s1 s2)⟩
theorem LsOf.one {a : An} {p : Addr} {o : HO} (h : ∀ vs, o ≠ .lst vs) : LsOf a (one1 p o) [] := fun q vs e => by
  unfold one1 at e
  split at e
  · cases e; exact absurd rfl (h vs)
  · cases e
mutual
theorem Is.supp {a a' : An} (hK : a'.K = a.K) (hc : a'.cls = a.cls) {G : Hp} : ∀ {d : D} {v : V}, d.clean = true → Is a G d v → ∃ G0, Sub G0 G ∧ Is a' G0 d v ∧ LsOf a' G0 d.lists
  | .non, v, _, h => ⟨fun _ => none, (fun _ _ h => nomatch h), by simpa only [Is] using h, (fun _ _ h => nomatch h)⟩
  | .bl _, v, _, h => ⟨fun _ => none, (fun _ _ h => nomatch h), by simpa only [Is] using h, (fun _ _ h => nomatch h)⟩
  | .int _, v, _, h => ⟨fun _ => none, (fun _ _ h => nomatch h), by simpa only [Is] using h, (fun _ _ h => nomatch h)⟩
  | .str _, v, _, h => ⟨fun _ => none, (fun _ _ h => nomatch h), by simpa only [Is] using h, (fun _ _ h => nomatch h)⟩
  | .bag, v, c, _ => by simp [D.clean] at c
  | .scr _, v, c, _ => by simp [D.clean] at c
  | .opq _, v, c, _ => by simp [D.clean] at c
  | .emp, v, c, _ => by simp [D.clean] at c
  | .tup ds, v, c, h => by
    simp only [D.clean] at c
    simp only [Is] at h
    obtain ⟨p, vs, rfl, h1, h2⟩ := h
    obtain ⟨G1, s1, i1, l1⟩ := IsL.supp hK hc c h2
    simp only [D.lists]
    rcases h1 with (h1 | ⟨o, h1⟩) | h1
    · refine ⟨uni (one1 p (.tup vs)) G1, uni_sub (one1_sub h1) s1, ?_, by simpa using LsOf.uni (one1_sub h1) s1 (LsOf.one fun _ z => nomatch z) l1⟩
      simp only [Is]
      exact ⟨p, vs, rfl, .inl (.inl (uni_l p _ (if_pos rfl))), i1.mono (uni_r (one1_sub h1) s1)⟩
    · refine ⟨uni (one1 p (.frz o (.tup vs))) G1, uni_sub (one1_sub h1) s1, ?_, by simpa using LsOf.uni (one1_sub h1) s1 (LsOf.one fun _ z => nomatch z) l1⟩
      simp only [Is]
      exact ⟨p, vs, rfl, .inl (.inr ⟨o, uni_l p _ (if_pos rfl)⟩), i1.mono (uni_r (one1_sub h1) s1)⟩
    · refine ⟨G1, s1, ?_, l1⟩
      simp only [Is]
      exact ⟨p, vs, rfl, .inr (by rw [hK]; exact h1), i1⟩
  | .lst ds, v, c, h => by
    simp only [D.clean] at c
    simp only [Is] at h
    obtain ⟨p, vs, rfl, h1, h2⟩ := h
    obtain ⟨G1, s1, i1, l1⟩ := IsL.supp hK hc c h2
    have hs : Sub (uni (one1 p (.lst vs)) G1) G := uni_sub (one1_sub h1) s1
    have hi : Is a' (uni (one1 p (.lst vs)) G1) (.lst ds) (.ref p) := by
      simp only [Is]
      exact ⟨p, vs, rfl, uni_l p _ (if_pos rfl), i1.mono (uni_r (one1_sub h1) s1)⟩
    refine ⟨_, hs, hi, fun q us e => ?_⟩
    simp only [D.lists]
    unfold uni at e
    by_cases z : q = p
    · subst z
      exact ⟨ds, List.mem_cons_self, hi⟩
    · have : one1 p (.lst vs) q = none := if_neg z
      rw [this] at e
      obtain ⟨es, m, i⟩ := l1 q us e
      exact ⟨es, List.mem_cons_of_mem _ m, i.mono (uni_r (one1_sub h1) s1)⟩
  | .obj k fs, v, c, h => by
    simp only [D.clean] at c
    simp only [Is] at h
    obtain ⟨p, C, ns, dx, vs, rfl, e2, e3, h1, h2⟩ := h
    obtain ⟨G1, s1, i1, l1⟩ := IsL.supp hK hc c h2
    refine ⟨uni (one1 p (.ins C dx (ns.zip vs))) G1, uni_sub (one1_sub h1) s1, ?_, by simpa only [D.lists, List.nil_append] using LsOf.uni (one1_sub h1) s1 (LsOf.one fun _ z => nomatch z) l1⟩
    simp only [Is]
    exact ⟨p, C, ns, dx, vs, rfl, by rw [hc]; exact e2, e3, uni_l p _ (if_pos rfl), i1.mono (uni_r (one1_sub h1) s1)⟩
theorem IsL.supp {a a' : An} (hK : a'.K = a.K) (hc : a'.cls = a.cls) {G : Hp} : ∀ {ds : List D} {vs : List V}, D.cleans ds = true → IsL a G ds vs → ∃ G0, Sub G0 G ∧ IsL a' G0 ds vs ∧ LsOf a' G0 (D.listss ds)
  | [], vs, _, h => ⟨fun _ => none, (fun _ _ h => nomatch h), by simpa only [IsL] using h, (fun _ _ h => nomatch h)⟩
  | d :: ds, vs, c, h => by
    simp only [D.cleans, Bool.and_eq_true] at c
    simp only [IsL] at h
    obtain ⟨v, r, rfl, h1, h2⟩ := h
    obtain ⟨G1, s1, i1, l1⟩ := Is.supp hK hc c.1 h1
    obtain ⟨G2, s2, i2, l2⟩ := IsL.supp hK hc c.2 h2
    refine ⟨uni G1 G2, uni_sub s1 s2, ?_, by simpa only [D.listss] using LsOf.uni s1 s2 l1 l2⟩
    simp only [IsL]
    exact ⟨v, r, rfl, i1.mono uni_l, i2.mono (uni_r s1 s2)⟩
end
mutual
/-- they may be one and the same -/
noncomputable def D.cl : D → D → Bool
  | .lst ds, .lst es => D.cls ds es
  | .int i, .int j => i == j
  | .bl i, .bl j => i == j
  | .str i, .str j => i == j
  | .int _, .tup _ => false
  | .int _, .lst _ => false
  | .int _, .str _ => false
  | .int _, .non => false
  | .int _, .bl _ => false
  | .tup _, .int _ => false
  | .lst _, .int _ => false
  | .str _, .int _ => false
  | .non, .int _ => false
  | .bl _, .int _ => false
  | .str _, .tup _ => false
  | .tup _, .str _ => false
  | .int _, .obj _ _ => false
  | .obj _ _, .int _ => false
  | _, _ => true
noncomputable def D.cls : List D → List D → Bool
  | [], [] => true
  | d :: ds, e :: es => d.cl e && D.cls ds es
  | [], _ :: _ => false
  | _ :: _, [] => false
end
mutual
theorem D.cl_of {a b : An} {F G : Hp} (s : Sub F G) : ∀ {d e : D} {v : V}, Is a F d v → Is b G e v → d.cl e = true
  | .lst ds, e, v, h1, h2 => by
    cases e with
    | lst es =>
      simp only [Is] at h1 h2
      obtain ⟨p, vs, rfl, e1, i1⟩ := h1
      obtain ⟨q, us, e, e2, i2⟩ := h2
      cases e
      have := s _ _ e1
      rw [e2] at this
      cases this
      simp only [D.cl]
      exact D.cls_of s i1 i2
    | int i =>
      simp only [Is] at h1 h2
      obtain ⟨p, vs, rfl, _⟩ := h1
      cases h2
    | _ => rfl
  | .int i, e, v, h1, h2 => by
    simp only [Is] at h1
    subst h1
    cases e <;> simp only [Is] at h2 <;> first
      | rfl
      | (cases h2; done)
      | (cases h2; simp [D.cl]; done)
      | (obtain ⟨_, _, _, _, _, z, _⟩ := h2; cases z; done)
      | (obtain ⟨_, _, z, _⟩ := h2; cases z; done)
      | (obtain ⟨_, z, _⟩ := h2; cases z; done)
  | .str i, e, v, h1, h2 => by
    simp only [Is] at h1
    subst h1
    cases e <;> simp only [Is] at h2 <;> first
      | rfl
      | (cases h2; done)
      | (cases h2; simp [D.cl]; done)
      | (obtain ⟨_, _, _, _, _, z, _⟩ := h2; cases z; done)
      | (obtain ⟨_, _, z, _⟩ := h2; cases z; done)
      | (obtain ⟨_, z, _⟩ := h2; cases z; done)
  | .bl i, e, v, h1, h2 => by
    simp only [Is] at h1
    subst h1
    cases e <;> simp only [Is] at h2 <;> first
      | rfl
      | (cases h2; done)
      | (cases h2; simp [D.cl]; done)
  | .non, e, v, h1, h2 => by
    simp only [Is] at h1
    subst h1
    cases e <;> simp only [Is] at h2 <;> first
      | rfl
      | (cases h2; done)
  | .tup ds, e, v, h1, h2 => by
    simp only [Is] at h1
    obtain ⟨p, vs, rfl, _⟩ := h1
    cases e <;> simp only [Is] at h2 <;> first
      | rfl
      | (cases h2; done)
  | .obj k ds, e, v, h1, h2 => by
    simp only [Is] at h1
    obtain ⟨p, _, _, _, _, rfl, _⟩ := h1
    cases e <;> simp only [Is] at h2 <;> first
      | rfl
      | (cases h2; done)
  | .bag, e, v, h1, h2 => by cases e <;> rfl
  | .scr ns, e, v, h1, h2 => by cases e <;> rfl
  | .opq _, e, v, h1, h2 => by cases e <;> rfl
  | .emp, e, v, h1, h2 => by cases e <;> rfl
theorem D.cls_of {a b : An} {F G : Hp} (s : Sub F G) : ∀ {ds es : List D} {vs : List V}, IsL a F ds vs → IsL b G es vs → D.cls ds es = true
  | [], [], vs, _, _ => by simp [D.cls]
  | d :: ds, e :: es, vs, h1, h2 => by
    simp only [IsL] at h1 h2
    obtain ⟨v, r, rfl, i1, i2⟩ := h1
    obtain ⟨v', r', e', j1, j2⟩ := h2
    cases e'
    simp only [D.cls, Bool.and_eq_true]
    exact ⟨D.cl_of s i1 j1, D.cls_of s i2 j2⟩
  | [], e :: es, vs, h1, h2 => by
    simp only [IsL] at h1 h2
    obtain ⟨v', r', e', _⟩ := h2
    rw [h1] at e'; cases e'
  | d :: ds, [], vs, h1, h2 => by
    simp only [IsL] at h1 h2
    obtain ⟨v', r', e', _⟩ := h1
    rw [h2] at e'; cases e'
end

mutual
noncomputable def D.own : D → T
  | .lst ds => .lst (D.owns ds)
  | .tup ds => T.mk (D.owns ds)
  | .non => .leaf .non
  | .bl b => .leaf (.bl b)
  | .int i => .leaf (.int i)
  | .str s => .leaf (.str s)
  | .bag => .leaf .bag
  | .obj c fs => .leaf (.obj c fs)
  | .scr ns => .leaf (.scr ns)
  | .opq p => .leaf (.opq p)
  | .emp => .leaf .emp
noncomputable def D.owns : List D → List T
  | [] => []
  | d :: r => d.own :: D.owns r
end
mutual
theorem D.own_nv : ∀ d : D, d.own.nv = true
  | .lst ds => by simp only [D.own, T.nv]; exact D.owns_nv ds
  | .tup ds => by
    simp only [D.own]
    unfold T.mk
    split
    · rfl
    · simp only [T.nv]; exact D.owns_nv ds
  | .non => rfl
  | .bl _ => rfl
  | .int _ => rfl
  | .str _ => rfl
  | .bag => rfl
  | .obj _ _ => rfl
  | .scr _ => rfl
  | .opq _ => rfl
  | .emp => rfl
theorem D.owns_nv : ∀ ds : List D, T.nvs (D.owns ds) = true
  | [] => rfl
  | d :: r => by simp only [D.owns, T.nvs, Bool.and_eq_true]; exact ⟨D.own_nv d, D.owns_nv r⟩
end
theorem Ow.mkT {a : An} {F H : Hp} {us : List T} {v : V} {S : List Addr} (h : Ow a F H (.tup us) v S) : Ow a F H (T.mk us) v S := by
  unfold T.mk
  split
  · rename_i k
    simp only [Ow] at h ⊢
    obtain ⟨_, p, ws, rfl, q, h3⟩ := h
    obtain ⟨rfl, h4⟩ := OwL.plain k h3
    refine ⟨rfl, ?_⟩
    simp only [Is]
    exact ⟨p, ws, rfl, q, h4⟩
  · exact h
/-- the places of its lists -/
inductive At (a : An) (F : Hp) : List Addr → List (List D) → Prop where
  | nil : At a F [] []
  | cons {p : Addr} {ds : List D} {S : List Addr} {ls : List (List D)} : Is a F (.lst ds) (.ref p) → At a F S ls → At a F (p :: S) (ds :: ls)
theorem At.append {a : An} {F : Hp} {S S' : List Addr} {ls ls' : List (List D)} (h : At a F S ls) (h' : At a F S' ls') : At a F (S ++ S') (ls ++ ls') := by
  induction h with
  | nil => exact h'
  | cons i _ ih => exact .cons i ih
theorem At.mem {a : An} {F : Hp} {S : List Addr} {ls : List (List D)} (h : At a F S ls) : ∀ p ∈ S, ∃ ds ∈ ls, Is a F (.lst ds) (.ref p) := by
  induction h with
  | nil => intro p hp; cases hp
  | cons i _ ih =>
    intro q hq
    rcases List.mem_cons.mp hq with rfl | hq
    · exact ⟨_, List.mem_cons_self, i⟩
    · obtain ⟨ds, m, j⟩ := ih q hq
      exact ⟨ds, List.mem_cons_of_mem _ m, j⟩
theorem lst_ne {K : PySem.W.Frag} {F G : Hp} {p : Addr} {vs : List V} (e : ∀ p o, F p = some o → (∀ vs, o ≠ .lst vs) → G p = some o) (h : SqT K F p vs) : SqT K G p vs := by
  rcases h with (h | ⟨o, h⟩) | h
  · exact .inl (.inl (e p _ h fun _ z => nomatch z))
  · exact .inl (.inr ⟨o, e p _ h fun _ z => nomatch z⟩)
  · exact .inr h
mutual
theorem Is.own {a : An} {F : Hp} : ∀ {d : D} {v : V}, d.pure = true → Is a F d v → ∃ S, At a F S d.lists ∧
    ∀ G H, (∀ p o, F p = some o → (∀ vs, o ≠ .lst vs) → G p = some o) → Sub F H → Ow a G H d.own v S
  | .non, v, _, h => ⟨[], .nil, fun G H _ _ => Ow.leaf (by simpa only [Is] using h)⟩
  | .bl _, v, _, h => ⟨[], .nil, fun G H _ _ => Ow.leaf (by simpa only [Is] using h)⟩
  | .int _, v, _, h => ⟨[], .nil, fun G H _ _ => Ow.leaf (by simpa only [Is] using h)⟩
  | .str _, v, _, h => ⟨[], .nil, fun G H _ _ => Ow.leaf (by simpa only [Is] using h)⟩
  | .bag, v, c, _ => by simp [D.pure] at c
  | .obj _ _, v, c, _ => by simp [D.pure] at c
  | .scr _, v, c, _ => by simp [D.pure] at c
  | .opq _, v, c, _ => by simp [D.pure] at c
  | .emp, v, c, _ => by simp [D.pure] at c
  | .tup ds, v, c, h => by
    simp only [D.pure] at c
    simp only [Is] at h
    obtain ⟨p, vs, rfl, h1, h2⟩ := h
    obtain ⟨S, hS, go⟩ := IsL.own c h2
    refine ⟨S, by simpa only [D.lists] using hS, fun G H e s => ?_⟩
    simp only [D.own]
    refine Ow.mkT ?_
    simp only [Ow]
    exact ⟨D.owns_nv ds, p, vs, rfl, lst_ne e h1, go G H e s⟩
  | .lst ds, v, c, h => by
    have h0 := h
    simp only [D.pure] at c
    simp only [Is] at h
    obtain ⟨p, vs, rfl, h1, h2⟩ := h
    obtain ⟨S, hS, go⟩ := IsL.own c h2
    refine ⟨p :: S, by simpa only [D.lists] using At.cons h0 hS, fun G H e s => ?_⟩
    simp only [D.own, Ow]
    exact ⟨D.owns_nv ds, p, vs, S, rfl, s _ _ h1, go G H e s, rfl⟩
theorem IsL.own {a : An} {F : Hp} : ∀ {ds : List D} {vs : List V}, D.pures ds = true → IsL a F ds vs → ∃ S, At a F S (D.listss ds) ∧
    ∀ G H, (∀ p o, F p = some o → (∀ vs, o ≠ .lst vs) → G p = some o) → Sub F H → OwL a G H (D.owns ds) vs S
  | [], vs, _, h => ⟨[], .nil, fun G H _ _ => by simp only [IsL] at h; simp only [D.owns, OwL]; exact ⟨h, trivial⟩⟩
  | d :: ds, vs, c, h => by
    simp only [D.pures, Bool.and_eq_true] at c
    simp only [IsL] at h
    obtain ⟨v, r, rfl, h1, h2⟩ := h
    obtain ⟨S1, hS1, go1⟩ := Is.own c.1 h1
    obtain ⟨S2, hS2, go2⟩ := IsL.own c.2 h2
    refine ⟨S1 ++ S2, by simpa only [D.listss] using hS1.append hS2, fun G H e s => ?_⟩
    simp only [D.owns, OwL]
    exact ⟨v, r, S1, S2, rfl, go1 G H e s, go2 G H e s, rfl⟩
end
mutual
noncomputable def T.thaw : T → T
  | .leaf d => d.own
  | .lst ts => .lst (T.thaws ts)
  | .tup ts => T.mk (T.thaws ts)
  | .vw d => .vw d
  | .reg R => .reg R
noncomputable def T.thaws : List T → List T
  | [] => []
  | t :: r => t.thaw :: T.thaws r
end
mutual
noncomputable def T.lls : T → List (List D)
  | .leaf d => d.lists
  | .lst ts => T.llss ts
  | .tup ts => T.llss ts
  | .vw _ => []
  | .reg _ => []
noncomputable def T.llss : List T → List (List D)
  | [] => []
  | t :: r => t.lls ++ T.llss r
end
mutual
noncomputable def T.pure : T → Bool
  | .leaf d => d.pure
  | .lst ts => T.pures ts
  | .tup ts => T.pures ts
  | .vw _ => false
  | .reg _ => false
noncomputable def T.pures : List T → Bool
  | [] => true
  | t :: r => t.pure && T.pures r
end
mutual
theorem T.thaw_nv : ∀ t : T, t.pure = true → t.thaw.nv = true
  | .leaf d, _ => by simp only [T.thaw]; exact D.own_nv d
  | .lst ts, c => by simp only [T.pure] at c; simp only [T.thaw, T.nv]; exact T.thaws_nv ts c
  | .tup ts, c => by
    simp only [T.pure] at c
    simp only [T.thaw]
    unfold T.mk
    split
    · rfl
    · simp only [T.nv]; exact T.thaws_nv ts c
  | .vw d, c => by simp [T.pure] at c
  | .reg _, c => by simp [T.pure] at c
theorem T.thaws_nv : ∀ ts : List T, T.pures ts = true → T.nvs (T.thaws ts) = true
  | [], _ => rfl
  | t :: r, c => by
    simp only [T.pures, Bool.and_eq_true] at c
    simp only [T.thaws, T.nvs, Bool.and_eq_true]
    exact ⟨T.thaw_nv t c.1, T.thaws_nv r c.2⟩
end
mutual
theorem Ow.thaw {a : An} {F H : Hp} : ∀ {t : T} {v : V} {S : List Addr}, t.pure = true → Ow a F H t v S → ∃ S1, At a F S1 t.lls ∧
    ∀ G, (∀ p o, F p = some o → (∀ vs, o ≠ .lst vs) → G p = some o) → Sub F H → ∃ S', S'.Perm (S ++ S1) ∧ Ow a G H t.thaw v S'
  | .leaf d, v, S, c, h => by
    simp only [T.pure] at c
    simp only [Ow] at h
    obtain ⟨rfl, h⟩ := h
    obtain ⟨S1, hS, go⟩ := Is.own c h
    exact ⟨S1, by simpa only [T.lls] using hS, fun G e s => ⟨S1, List.Perm.refl _, by simpa only [T.thaw] using go G H e s⟩⟩
  | .vw d, v, S, c, h => by simp [T.pure] at c
  | .reg _, v, S, c, h => by simp [T.pure] at c
  | .lst ts, v, S, c, h => by
    simp only [T.pure] at c
    simp only [Ow] at h
    obtain ⟨_, p, vs, S', rfl, e2, h1, rfl⟩ := h
    obtain ⟨S1, hS, go⟩ := OwL.thaw c h1
    refine ⟨S1, by simpa only [T.lls] using hS, fun G e s => ?_⟩
    obtain ⟨S2, p2, o2⟩ := go G e s
    refine ⟨p :: S2, List.Perm.cons p p2, ?_⟩
    simp only [T.thaw, Ow]
    exact ⟨T.thaws_nv ts c, p, vs, S2, rfl, e2, o2, rfl⟩
  | .tup ts, v, S, c, h => by
    simp only [T.pure] at c
    simp only [Ow] at h
    obtain ⟨_, p, vs, rfl, e2, h1⟩ := h
    obtain ⟨S1, hS, go⟩ := OwL.thaw c h1
    refine ⟨S1, by simpa only [T.lls] using hS, fun G e s => ?_⟩
    obtain ⟨S2, p2, o2⟩ := go G e s
    refine ⟨S2, p2, ?_⟩
    simp only [T.thaw]
    refine Ow.mkT ?_
    simp only [Ow]
    exact ⟨T.thaws_nv ts c, p, vs, rfl, lst_ne e e2, o2⟩
theorem OwL.thaw {a : An} {F H : Hp} : ∀ {ts : List T} {vs : List V} {S : List Addr}, T.pures ts = true → OwL a F H ts vs S → ∃ S1, At a F S1 (T.llss ts) ∧
    ∀ G, (∀ p o, F p = some o → (∀ vs, o ≠ .lst vs) → G p = some o) → Sub F H → ∃ S', S'.Perm (S ++ S1) ∧ OwL a G H (T.thaws ts) vs S'
  | [], vs, S, _, h => by
    simp only [OwL] at h
    obtain ⟨rfl, rfl⟩ := h
    exact ⟨[], .nil, fun G _ _ => ⟨[], List.Perm.refl _, by simp [T.thaws, OwL]⟩⟩
  | t :: ts, vs, S, c, h => by
    simp only [T.pures, Bool.and_eq_true] at c
    simp only [OwL] at h
    obtain ⟨v, r, S1, S2, rfl, h1, h2, rfl⟩ := h
    obtain ⟨R1, hR1, go1⟩ := Ow.thaw c.1 h1
    obtain ⟨R2, hR2, go2⟩ := OwL.thaw c.2 h2
    refine ⟨R1 ++ R2, by simpa only [T.llss] using hR1.append hR2, fun G e s => ?_⟩
    obtain ⟨Q1, q1, o1⟩ := go1 G e s
    obtain ⟨Q2, q2, o2⟩ := go2 G e s
    refine ⟨Q1 ++ Q2, (q1.append q2).trans ?_, ?_⟩
    · have : (S1 ++ R1 ++ (S2 ++ R2)).Perm (S1 ++ S2 ++ (R1 ++ R2)) := by
        rw [List.append_assoc, List.append_assoc]
        refine List.Perm.append_left S1 ?_
        rw [← List.append_assoc, ← List.append_assoc]
        exact List.Perm.append_right R2 List.perm_append_comm
      exact this
    · simp only [T.thaws, OwL]
      exact ⟨v, r, Q1, Q2, rfl, o1, o2, rfl⟩
end
mutual
theorem Is.rebag {a a' : An} (hK : a'.K = a.K) {F : Hp} : ∀ {d : D} {v : V}, d.pure = true → Is a F d v → Is a' F d v
  | .non, v, _, h => by simpa only [Is] using h
  | .bl _, v, _, h => by simpa only [Is] using h
  | .int _, v, _, h => by simpa only [Is] using h
  | .str _, v, _, h => by simpa only [Is] using h
  | .bag, v, c, _ => by simp [D.pure] at c
  | .obj _ _, v, c, _ => by simp [D.pure] at c
  | .scr _, v, c, _ => by simp [D.pure] at c
  | .opq _, v, c, _ => by simp [D.pure] at c
  | .emp, v, c, _ => by simp [D.pure] at c
  | .tup ds, v, c, h => by
    simp only [D.pure] at c
    simp only [Is] at h ⊢
    obtain ⟨p, vs, e, h1, h2⟩ := h
    exact ⟨p, vs, e, by rw [hK]; exact h1, IsL.rebag hK c h2⟩
  | .lst ds, v, c, h => by
    simp only [D.pure] at c
    simp only [Is] at h ⊢
    obtain ⟨p, vs, e, h1, h2⟩ := h
    exact ⟨p, vs, e, h1, IsL.rebag hK c h2⟩
theorem IsL.rebag {a a' : An} (hK : a'.K = a.K) {F : Hp} : ∀ {ds : List D} {vs : List V}, D.pures ds = true → IsL a F ds vs → IsL a' F ds vs
  | [], vs, _, h => by simpa only [IsL] using h
  | d :: ds, vs, c, h => by
    simp only [D.pures, Bool.and_eq_true] at c
    simp only [IsL] at h ⊢
    obtain ⟨v, r, e, h1, h2⟩ := h
    exact ⟨v, r, e, Is.rebag hK c.1 h1, IsL.rebag hK c.2 h2⟩
end
mutual
theorem Ow.rebag {a a' : An} (hK : a'.K = a.K) {F H : Hp} : ∀ {t : T} {v : V} {S : List Addr}, t.pure = true → Ow a F H t v S → Ow a' F H t v S
  | .leaf d, v, S, c, h => by
    simp only [T.pure] at c
    simp only [Ow] at h ⊢
    exact ⟨h.1, Is.rebag hK c h.2⟩
  | .vw d, v, S, c, h => by simp [T.pure] at c
  | .reg _, v, S, c, h => by simp [T.pure] at c
  | .lst ts, v, S, c, h => by
    simp only [T.pure] at c
    simp only [Ow] at h ⊢
    obtain ⟨n, p, vs, S', e1, e2, h1, e3⟩ := h
    exact ⟨n, p, vs, S', e1, e2, OwL.rebag hK c h1, e3⟩
  | .tup ts, v, S, c, h => by
    simp only [T.pure] at c
    simp only [Ow] at h ⊢
    obtain ⟨n, p, vs, e1, e2, h1⟩ := h
    exact ⟨n, p, vs, e1, by rw [hK]; exact e2, OwL.rebag hK c h1⟩
theorem OwL.rebag {a a' : An} (hK : a'.K = a.K) {F H : Hp} : ∀ {ts : List T} {vs : List V} {S : List Addr}, T.pures ts = true → OwL a F H ts vs S → OwL a' F H ts vs S
  | [], vs, S, _, h => by simpa only [OwL] using h
  | t :: ts, vs, S, c, h => by
    simp only [T.pures, Bool.and_eq_true] at c
    simp only [OwL] at h ⊢
    obtain ⟨v, r, S1, S2, e, h1, h2, e2⟩ := h
    exact ⟨v, r, S1, S2, e, Ow.rebag hK c.1 h1, OwL.rebag hK c.2 h2, e2⟩
end
/-- an answer t to the arguments ds may be held alone -/
noncomputable def T.thawOk (ds : List D) (t : T) : Prop := t.pure = true ∧ t.lls.Pairwise (fun x y => D.cls x y = false) ∧ ∀ x ∈ t.lls, ∀ y ∈ D.listss ds, D.cls x y = false
/-- without the bag -/
theorem hid_none {a : An} {p : Addr} (h : An.hid ⟨a.K, none, a.cls⟩ p) : ∃ q, a.tb p q := by
  rcases h with h | h
  · cases h
  · exact h
theorem BagOk.nt {a : An} {F H : Hp} (w : BagOk a F H) {b : Addr} (e : a.bg = some b) : ¬ An.hid ⟨a.K, none, a.cls⟩ b := fun z => by
  obtain ⟨q, z⟩ := hid_none z
  obtain ⟨x, y, z', c, ns, e1, _⟩ := w.bag b e
  obtain ⟨ps, e2, _⟩ := w.tab b q z
  rw [e1] at e2; cases e2
section
variable {a : An0} {X : Cx} {ρ : Env} {σ : L2.St} {ts : List T} {vs : List V} {H F : Hp} {Sc Sm : List Addr} {Φ : T → Prop} {pos p : Pos} {e : Expr} {es : List Expr}
theorem none_sub {a : An} {G0 F : Hp} (s : Sub G0 F) (h : ∀ b, a.hid b → F b = none) : ∀ b, a.hid b → G0 b = none := fun b e => by
  cases z : G0 b with
  | none => rfl
  | some o =>
    have := h b e
    rw [s b o z] at this; cases this
theorem hb_none {a : An} {H : Hp} : ∀ b, a.hid b → hb a H b = none := fun b e => by unfold hb; rw [if_pos e]
theorem bag_none {a : An} {F G0 H : Hp} (w : BagOk a F H) (s : ∀ b, a.hid b → G0 b = none) : BagOk ⟨a.K, none, a.cls⟩ G0 H :=
  ⟨fun b e => s b (.inr (hid_none e)), (fun b e => nomatch e), fun p q e => w.tab p q e⟩
theorem flat_an {d : D} {v : V} (f : d.flat = true) {a b : An} {F G : Hp} (h : Is a F d v) : Is b G d v := by
  cases d <;> simp only [D.flat, Bool.false_eq_true] at f <;> simpa only [Is] using h
end
end DL
namespace DL
open PySem PySem.Spec PyProof.Rows L2

noncomputable def T.deep : T → List Nat → Option T
  | t, [] => some t
  | .lst us, j :: r => (us[j]?).bind fun u => u.deep r
  | .tup us, j :: r => (us[j]?).bind fun u => u.deep r
  | _, _ :: _ => none
termination_by _ r => r.length
noncomputable def T.dset : T → List Nat → T → T
  | _, [], u' => u'
  | .lst us, j :: r, u' => match us[j]? with
    | some u => .lst (us.set j (u.dset r u'))
    | none => .lst us
  | .tup us, j :: r, u' => match us[j]? with
    | some u => .tup (us.set j (u.dset r u'))
    | none => .tup us
  | t, _ :: _, _ => t
termination_by _ r _ => r.length
/-- how it is reached -/
noncomputable def Rch (K : PySem.W.Frag) (H : Hp) : T → V → List Nat → V → Prop
  | _, x, [], y => x = y
  | .lst us, x, j :: r, y => ∃ l ws u x', x = .ref l ∧ H l = some (.lst ws) ∧ us[j]? = some u ∧ ws[j]? = some x' ∧ Rch K H u x' r y
  | .tup us, x, j :: r, y => ∃ l ws u x', x = .ref l ∧ (SqT K H l ws ∧ ws.length = us.length) ∧ us[j]? = some u ∧ ws[j]? = some x' ∧ Rch K H u x' r y
  | _, _, _ :: _, _ => False
termination_by _ _ r _ => r.length
theorem nvs_get : ∀ {us : List T} {j : Nat} {u : T}, T.nvs us = true → us[j]? = some u → u.nv = true
  | [], _, _, _, h => by simp at h
  | t :: ts, 0, u, n, h => by
    simp only [T.nvs, Bool.and_eq_true] at n
    simp only [List.getElem?_cons_zero, Option.some.injEq] at h
    rw [← h]; exact n.1
  | t :: ts, j + 1, u, n, h => by
    simp only [T.nvs, Bool.and_eq_true] at n
    exact nvs_get n.2 (by simpa using h)
theorem Ow.deep {a : An} {F H : Hp} (sF : Sub F H) : ∀ {r : List Nat} {t u : T} {v : V} {S : List Addr}, Ow a F H t v S → t.nv = true → t.deep r = some u → ∃ x Si Sr, Rch a.K H t v r x ∧ Ow a F H u x Si ∧ S.Perm (Si ++ Sr) ∧
    ∀ H' u' Si', (∀ p ∈ Sr, ∀ o, H p = some o → H' p = some o) → Ow a F H' u' x Si' → u'.nv = true → ∃ S', Ow a F H' (t.dset r u') v S' ∧ S'.Perm (Si' ++ Sr) ∧ (t.dset r u').nv = true
  | [], t, u, v, S, h, n, e => by
    simp only [T.deep, Option.some.injEq] at e
    subst e
    exact ⟨v, S, [], by simp only [Rch], h, by simp, fun H' u' Si' _ hu n' => ⟨Si', by simpa only [T.dset] using hu, by simp, by simpa only [T.dset] using n'⟩⟩
  | j :: r, .lst us, u, v, S, h, n, e => by
    simp only [T.deep] at e
    simp only [T.nv] at n
    obtain ⟨u1, e1, e2⟩ := Option.bind_eq_some_iff.mp e
    simp only [Ow] at h
    obtain ⟨_, l, ws, S', rfl, hl, ho, rfl⟩ := h
    obtain ⟨x1, S1, S2, g1, h1, p1, go1⟩ := OwL.focus ho e1
    obtain ⟨x, Si, Sr, rd, hx, p2, go2⟩ := Ow.deep sF h1 (nvs_get n e1) e2
    refine ⟨x, Si, l :: (Sr ++ S2), by simp only [Rch]; exact ⟨l, ws, u1, x1, rfl, hl, e1, g1, rd⟩, hx, ?_, fun H' u' Si' k hu n' => ?_⟩
    · have : (l :: S').Perm (l :: (Si ++ (Sr ++ S2))) := List.Perm.cons l (p1.trans ((List.Perm.append_right S2 p2).trans (by rw [List.append_assoc])))
      exact this.trans List.perm_middle.symm
    · obtain ⟨Q1, o1, q1, n1⟩ := go2 H' u' Si' (fun p hp => k p (List.mem_cons_of_mem _ (List.mem_append_left _ hp))) hu n'
      obtain ⟨Q2, o2, q2⟩ := go1 H' (u1.dset r u') Q1 (fun p hp => k p (List.mem_cons_of_mem _ (List.mem_append_right _ hp))) o1 n
      have nn : T.nvs (us.set j (u1.dset r u')) = true := nvs_set n1 j n
      refine ⟨l :: Q2, ?_, ?_, ?_⟩
      · simp only [T.dset, e1, Ow]
        exact ⟨nn, l, ws, Q2, rfl, k l List.mem_cons_self _ hl, o2, rfl⟩
      · have : (l :: Q2).Perm (l :: (Si' ++ (Sr ++ S2))) := List.Perm.cons l (q2.trans ((List.Perm.append_right S2 q1).trans (by rw [List.append_assoc])))
        exact this.trans List.perm_middle.symm
      · simp only [T.dset, e1, T.nv]; exact nn
  | j :: r, .tup us, u, v, S, h, n, e => by
    simp only [T.deep] at e
    simp only [T.nv] at n
    obtain ⟨u1, e1, e2⟩ := Option.bind_eq_some_iff.mp e
    simp only [Ow] at h
    obtain ⟨_, l, ws, rfl, hl, ho⟩ := h
    obtain ⟨x1, S1, S2, g1, h1, p1, go1⟩ := OwL.focus ho e1
    obtain ⟨x, Si, Sr, rd, hx, p2, go2⟩ := Ow.deep sF h1 (nvs_get n e1) e2
    refine ⟨x, Si, Sr ++ S2, by simp only [Rch]; exact ⟨l, ws, u1, x1, rfl, ⟨sub_t sF hl, ho.length⟩, e1, g1, rd⟩, hx, p1.trans ((List.Perm.append_right S2 p2).trans (by rw [List.append_assoc])), fun H' u' Si' k hu n' => ?_⟩
    obtain ⟨Q1, o1, q1, n1⟩ := go2 H' u' Si' (fun p hp => k p (List.mem_append_left _ hp)) hu n'
    obtain ⟨Q2, o2, q2⟩ := go1 H' (u1.dset r u') Q1 (fun p hp => k p (List.mem_append_right _ hp)) o1 n
    have nn : T.nvs (us.set j (u1.dset r u')) = true := nvs_set n1 j n
    refine ⟨Q2, ?_, q2.trans ((List.Perm.append_right S2 q1).trans (by rw [List.append_assoc])), ?_⟩
    · simp only [T.dset, e1, Ow]
      exact ⟨nn, l, ws, rfl, hl, o2⟩
    · simp only [T.dset, e1, T.nv]; exact nn
  | _ :: _, .leaf _, _, _, _, _, _, e => by simp [T.deep] at e
  | _ :: _, .vw _, _, _, _, _, _, e => by simp [T.deep] at e
  | _ :: _, .reg _, _, _, _, _, _, e => by simp [T.deep] at e
section
variable {a : An0} {X : Cx} {ρ : Env} {σ : L2.St} {ts : List T} {vs : List V} {H F : Hp} {Sc Sm : List Addr} {Φ : T → Prop} {pos p : Pos} {e : Expr} {es : List Expr} {K : EnD}
/-- a list deep in a slot: it is lengthened by what has no places -/
theorem SW.deep {i : Nat} {r : List Nat} {t : T} {us : List T} (w : SW a ρ σ [] [] H F Sc Sm) (hW : a.W = []) (e : ρ.at i = some t) (eg : t.deep r = some (.lst us)) : ∃ x l ws, σ[i]? = some (some x) ∧ Rch a.K H t x r (.ref l) ∧ H l = some (.lst ws) ∧ ws.length = us.length ∧
    ∀ d z, Is a.toAn F d z → ∃ S', SW a (ρ.put i (some (t.dset r (.lst (us ++ [.leaf d]))))) σ [] [] (L2.upd H l (.lst (ws ++ [z]))) F S' [] := by
  obtain ⟨x, Si, Sr, e1, h1, hp, go⟩ := w.cells.focus e
  have tn : t.nv = true := by
    obtain ⟨_, _, _, _, _, n⟩ := w.cells.get e
    exact n
  obtain ⟨y, Sj, Sq, rd, h2, hp2, go2⟩ := Ow.deep w.sub h1 tn eg
  simp only [Ow] at h2
  obtain ⟨nn, l, ws, Sb, rfl, hl, ho, rfl⟩ := h2
  refine ⟨x, l, ws, e1, rd, hl, ho.length, fun d z hd => ?_⟩
  have nd : ((Si ++ Sr) ++ Sm).Nodup := ((List.Perm.append_right Sm hp).nodup_iff).mp w.nd
  have mem : ∀ p, p ∈ Si ++ Sr → p ∈ Sc := fun p h => hp.mem_iff.mpr h
  obtain ⟨n1, n2, n3⟩ := List.nodup_append.mp nd
  obtain ⟨m1, m2, m3⟩ := List.nodup_append.mp n1
  have k3 : (l :: Sb ++ Sq).Nodup := hp2.nodup_iff.mp m1
  obtain ⟨q1, q2, q3⟩ := List.nodup_append.mp k3
  obtain ⟨q4, q5⟩ := List.nodup_cons.mp q1
  have inSi : ∀ p, p ∈ l :: Sb ++ Sq → p ∈ Si := fun p h => hp2.mem_iff.mpr h
  have lSi : l ∈ Si := inSi l (List.mem_append_left _ List.mem_cons_self)
  have keep : ∀ {S : List Addr}, l ∉ S → ∀ p ∈ S, ∀ o, H p = some o → L2.upd H l (.lst (ws ++ [z])) p = some o := fun {S} h p hp o e => by
    rw [upd_ne (fun y => h (by rw [← y]; exact hp))]
    exact e
  have nv2 : T.nvs (us ++ [.leaf d]) = true := by
    have : ∀ (us : List T), T.nvs us = true → T.nvs (us ++ [.leaf d]) = true := fun us => by
      induction us with
      | nil => intro _; rfl
      | cons u us ih => intro h; simp only [T.nvs, Bool.and_eq_true, List.cons_append] at h ⊢; exact ⟨h.1, ih h.2⟩
    exact this us nn
  obtain ⟨S2, h4, p4, n4⟩ := go2 (L2.upd H l (.lst (ws ++ [z]))) (.lst (us ++ [.leaf d])) (l :: Sb) (keep fun y => q3 l List.mem_cons_self l y rfl) (by
    simp only [Ow]
    refine ⟨nv2, l, ws ++ [z], Sb, rfl, upd_same, ?_, rfl⟩
    have := OwL.join (ho.mono' (Sub.refl F) nn (keep q4)) (OwL.leafs (H := L2.upd H l (.lst (ws ++ [z]))) (ds := [d]) (vs := [z]) (by simp only [IsL]; exact ⟨z, [], rfl, hd, rfl⟩))
    simpa using this) (by simpa only [T.nv] using nv2)
  obtain ⟨S5, h5, p5⟩ := go F (L2.upd H l (.lst (ws ++ [z]))) _ S2 (Sub.refl F) (keep fun y => m3 l lSi l y rfl) h4 n4
  have pp : S5.Perm Sc := p5.trans ((List.Perm.append_right Sr (p4.trans hp2.symm)).trans hp.symm)
  refine ⟨S5, w.upd (Sm' := []) (List.mem_append_left _ (mem l (List.mem_append_left _ lSi))) (by rw [hW]; exact fun _ h => nomatch h) h5 (by simp [OwL]) ?_ (fun p hp' => ?_) (by rw [Env.put_length]; exact w.len)⟩
  · rw [List.append_nil]
    exact pp.nodup_iff.mpr (List.nodup_append.mp w.nd).1
  · rw [List.append_nil] at hp'
    exact List.mem_append_left _ (pp.mem_iff.mp hp')
/-- what has become of an element -/
noncomputable def T.spl (j : Nat) (d : D) : T → T
  | .tup us => match us[j]? with
    | some (.lst vs) => .tup (us.set j (.lst (vs ++ [.leaf d])))
    | _ => .tup us
  | t => t
noncomputable def T.splOk (n j : Nat) : T → Prop
  | .tup us => us.length = n ∧ ∃ vs, us[j]? = some (.lst vs) ∧ vs.length ≤ 99999
  | _ => False
theorem Env.at_lt : ∀ {ρ : Env} {i : Nat} {t : T}, ρ.at i = some t → i < ρ.length
  | [], _, _, h => by simp [Env.at] at h
  | _ :: _, 0, _, _ => by simp
  | z :: r, i + 1, t, h => by
    simp only [Env.at] at h
    have := Env.at_lt h
    simp; exact this
end
end DL
namespace DL
open PySem PySem.Spec PyProof.Rows L2

theorem OwL.rev {a : An} {F H : Hp} : ∀ {us : List T} {ws : List V} {S : List Addr}, OwL a F H us ws S → ∃ S', OwL a F H us.reverse ws.reverse S' ∧ S'.Perm S
  | [], ws, S, h => by
    simp only [OwL] at h
    exact ⟨[], by simp [OwL, h.1], by rw [h.2]⟩
  | u :: us, ws, S, h => by
    simp only [OwL] at h
    obtain ⟨v, r, S1, S2, rfl, h1, h2, rfl⟩ := h
    obtain ⟨S', h3, p⟩ := OwL.rev h2
    refine ⟨S' ++ S1, ?_, (List.Perm.append_right S1 p).trans List.perm_append_comm⟩
    rw [List.reverse_cons, List.reverse_cons]
    exact OwL.join h3 (by simp only [OwL]; exact ⟨v, [], S1, [], rfl, h1, ⟨rfl, rfl⟩, by simp⟩)
theorem nvs_all : ∀ {us : List T}, T.nvs us = true ↔ ∀ t ∈ us, t.nv = true
  | [] => by simp [T.nvs]
  | u :: us => by simp [T.nvs, nvs_all (us := us)]
theorem nvs_rev {us : List T} (h : T.nvs us = true) : T.nvs us.reverse = true := nvs_all.mpr fun t ht => nvs_all.mp h t (List.mem_reverse.mp ht)
section
variable {a : An0} {X : Cx} {ρ : Env} {σ : L2.St} {ts : List T} {vs : List V} {H F : Hp} {Sc Sm : List Addr} {Φ : T → Prop} {pos p : Pos} {e A B : Expr} {es : List Expr} {K : EnD}
theorem ds_reverse {i : Nat} {x : Str} {us : List T} {xp ap cp : Pos} (xo : XOk a X) (hW : a.W = []) (hN : X.N[i]? = some x) (hv : Vis X.env.scope x) (hd : (x == ("__debug__" : Str)) = false) (hc : (x == ("__classdict__" : Str)) = false)
    (hl : (ap.endLine == cp.line) = true) (hat : ρ.at i = some (.lst us))
    (h : K.nx (ρ.put i (some (.lst us.reverse)))) : DS a X ρ (.Expr (.Call (.Attribute (.Name x xp) "reverse" ap) [] [] cp) pos) K := fun σ H D ok m => by
  refine ⟨_, ps_expr (pe_bm0 PySem.F.plainAttrs_list PySem.F.slot_list_reverse PySem.F.type_list_reverse mt_reverse (pvar hN hv hd hc) rfl hl) rfl, ?_⟩
  show tVar i σ H fun x H1 => tyV X.K "list" x H1 ∧ rReverse x [] H1 fun _ H3 => D.nx σ H3
  obtain ⟨F, Sc, Sm, w⟩ := ok
  obtain ⟨l, ws, Sa, e1, hl2, ho, nn, nd, go⟩ := w.rewr hW hat
  refine ⟨_, e1, .inl ⟨rfl, _, .inl (.inl hl2)⟩, l, ws, rfl, rfl, hl2, ?_⟩
  obtain ⟨S', h3, p3⟩ := ho.rev
  exact m.1 _ σ _ h (go us.reverse ws.reverse S' h3 (nvs_rev nn) (p3.nodup_iff.mpr (List.nodup_append.mp nd).1) fun p hp => List.mem_append_left _ (p3.mem_iff.mp hp))
theorem atI_nat {α : Type} {xs : List α} {j : Nat} {x : α} (h : xs[j]? = some x) : L2.atI xs (j : Int) = some x := by
  have hj : j < xs.length := (List.getElem?_eq_some_iff.mp h).1
  have e : L2.ixN xs.length (j : Int) = some j := by
    unfold L2.ixN
    rw [if_pos (by omega), if_pos (by omega)]
    rfl
  unfold L2.atI
  rw [e]
  exact h
theorem OwC.take {a : An} {F H : Hp} : ∀ {ρ : Env} {σ : L2.St} {S : List Addr} {i : Nat} {u : T}, OwC a F H ρ σ S → ρ.at i = some u → ∃ x Si Sr, σ[i]? = some (some x) ∧ Ow a F H u x Si ∧ u.nv = true ∧ OwC a F H (ρ.put i none) σ Sr ∧ S.Perm (Si ++ Sr)
  | [], _, _, _, _, _, h => by simp [Env.at] at h
  | none :: ρ, σ, S, 0, u, h, g => by simp [Env.at] at g
  | some t :: ρ, σ, S, 0, u, h, g => by
    simp only [OwC] at h
    simp only [Env.at, Option.some.injEq] at g
    subst g
    obtain ⟨v, S1, S2, ⟨e1, nv⟩, h1, h2, rfl⟩ := h
    refine ⟨v, S1, S2, ?_, h1, nv, by simpa only [Env.put, OwC] using h2, List.Perm.refl _⟩
    cases σ with
    | nil => simp at e1
    | cons x r => simpa using e1
  | none :: ρ, σ, S, i + 1, u, h, g => by
    simp only [OwC] at h
    simp only [Env.at] at g
    obtain ⟨x, Si, Sr, e1, h1, n1, h2, hp⟩ := OwC.take h g
    refine ⟨x, Si, Sr, ?_, h1, n1, by simpa only [Env.put, OwC] using h2, hp⟩
    cases σ with
    | nil => simp at e1
    | cons x r => simpa using e1
  | some t :: ρ, σ, S, i + 1, u, h, g => by
    simp only [OwC] at h
    simp only [Env.at] at g
    obtain ⟨v, S1, S2, e0, h0, h2, rfl⟩ := h
    obtain ⟨x, Si, Sr, e1, h1, n1, h3, hp⟩ := OwC.take h2 g
    refine ⟨x, Si, S1 ++ Sr, ?_, h1, n1, ?_, ?_⟩
    · cases σ with
      | nil => simp at e1
      | cons x r => simpa using e1
    · simp only [Env.put, OwC]
      exact ⟨v, S1, Sr, e0, h0, h3, rfl⟩
    · exact (List.Perm.append_left S1 hp).trans (by rw [← List.append_assoc, ← List.append_assoc]; exact List.Perm.append_right _ List.perm_append_comm)
theorem SW.take {i : Nat} {t : T} (w : SW a ρ σ ts vs H F Sc Sm) (e : ρ.at i = some t) : ∃ x Sc' Sm', σ[i]? = some (some x) ∧ t.nv = true ∧ SW a (ρ.put i none) σ (t :: ts) (x :: vs) H F Sc' Sm' := by
  obtain ⟨x, Si, Sr, e1, h1, n1, h2, hp⟩ := w.cells.take e
  have pp : (Sr ++ (Si ++ Sm)).Perm (Sc ++ Sm) := by
    rw [← List.append_assoc]
    exact List.Perm.append_right Sm (List.perm_append_comm.trans hp.symm)
  refine ⟨x, Sr, Si ++ Sm, e1, n1, w.sub, w.gw, w.bagM, w.bag, h2, ?_, pp.nodup_iff.mpr w.nd, fun p h => w.fr p (pp.mem_iff.mp h), by rw [Env.put_length]; exact w.len, w.wit, w.wif⟩
  simp only [OwL]
  exact ⟨x, vs, Si, Sm, rfl, h1, w.tmps, rfl⟩
theorem ds_retm {i : Nat} {t : T} {x : Str} {xp : Pos} (hN : X.N[i]? = some x) (hv : Vis X.env.scope x) (hd : (x == ("__debug__" : Str)) = false) (hc : (x == ("__classdict__" : Str)) = false) (hat : ρ.at i = some t)
    (h : K.rt t (ρ.put i none)) : DS a X ρ (.Return (some (.Name x xp)) pos) K := fun σ H D ok m => by
  refine ⟨_, ps_ret (pvar hN hv hd hc), ?_⟩
  show tVar i σ H D.rt
  obtain ⟨F, Sc, Sm, w⟩ := ok
  obtain ⟨x, Sc', Sm', e1, _, w'⟩ := w.take hat
  exact ⟨x, e1, m.2.1 t x _ σ H h ⟨F, Sc', Sm', w'⟩⟩
end
end DL
namespace DL
open PySem PySem.Spec PyProof.Rows L2
/-- what may be read there -/
noncomputable def lenL : Env → Env
  | [] => []
  | some (.leaf d) :: r => (if d.clean = true then some (.leaf d) else none) :: lenL r
  | _ :: r => none :: lenL r
noncomputable def lentE (ρ : Env) (i : Nat) (d : D) (xs : List Nat) : Env := ((lenL ρ).put i (some (.leaf d))).wipes xs
theorem lenL_len : ∀ ρ : Env, (lenL ρ).length = ρ.length
  | [] => rfl
  | none :: r => by simp [lenL, lenL_len r]
  | some (.leaf d) :: r => by simp [lenL, lenL_len r]
  | some (.lst us) :: r => by simp [lenL, lenL_len r]
  | some (.tup us) :: r => by simp [lenL, lenL_len r]
  | some (.vw d) :: r => by simp [lenL, lenL_len r]
  | some (.reg _) :: r => by simp [lenL, lenL_len r]
theorem at_lt : ∀ {ρ : Env} {i : Nat} {t : T}, ρ.at i = some t → i < ρ.length
  | [], _, _, h => by simp [Env.at] at h
  | _ :: r, 0, _, _ => by simp
  | _ :: r, i + 1, t, h => by
    have := at_lt (ρ := r) (i := i) (t := t) (by simpa [Env.at] using h)
    simp; omega
mutual
/-- lists held alone, of flat things -/
noncomputable def T.fl : T → Bool
  | .leaf d => d.flat
  | .lst ts => T.fls ts
  | .tup _ => false
  | .vw _ => false
  | .reg _ => false
noncomputable def T.fls : List T → Bool
  | [] => true
  | t :: r => t.fl && T.fls r
end
mutual
theorem Ow.fl {a b : An} {F G H : Hp} : ∀ {t : T} {v : V} {S : List Addr}, t.fl = true → Ow a F H t v S → Ow b G H t v S
  | .leaf d, v, S, f, h => by
    simp only [Ow] at h ⊢
    exact ⟨h.1, flat_an (by simpa [T.fl] using f) h.2⟩
  | .lst ts, v, S, f, h => by
    simp only [Ow] at h ⊢
    obtain ⟨n, p, vs, S', e1, e2, e3, e4⟩ := h
    exact ⟨n, p, vs, S', e1, e2, OwL.fl (by simpa [T.fl] using f) e3, e4⟩
  | .tup ts, v, S, f, h => by simp [T.fl] at f
  | .vw d, v, S, f, h => by simp [T.fl] at f
  | .reg _, v, S, f, h => by simp [T.fl] at f
theorem OwL.fl {a b : An} {F G H : Hp} : ∀ {ts : List T} {vs : List V} {S : List Addr}, T.fls ts = true → OwL a F H ts vs S → OwL b G H ts vs S
  | [], vs, S, _, h => by simpa only [OwL] using h
  | t :: ts, vs, S, f, h => by
    simp only [T.fls, Bool.and_eq_true] at f
    simp only [OwL] at h ⊢
    obtain ⟨v, r, S1, S2, e1, e2, e3, e4⟩ := h
    exact ⟨v, r, S1, S2, e1, Ow.fl f.1 e2, OwL.fl f.2 e3, e4⟩
end
/-- the expression's data: no bag -/
noncomputable abbrev lA (a : An0) (F H : Hp) : An0 := { toAn := ⟨a.K, none, a.cls⟩, M := An.hid ⟨a.K, none, a.cls⟩, F0 := F, H0 := H, W := [], V := [] }
theorem is_clean {a : An} {F : Hp} {d : D} {v : V} (c : d.clean = true) (h : Is a F d v) : Is ⟨a.K, none, a.cls⟩ F d v := by
  obtain ⟨G0, s, i, _⟩ := Is.supp (a := a) (a' := ⟨a.K, none, a.cls⟩) rfl rfl c h
  exact i.mono s
theorem owc_len {a : An} {F F1 H : Hp} (sf : Sub F F1) : ∀ {ρ : Env} {σ : L2.St} {S : List Addr}, OwC a F H ρ σ S → OwC ⟨a.K, none, a.cls⟩ F1 H (lenL ρ) σ []
  | [], σ, S, h => by simp only [lenL, OwC]
  | none :: ρ, σ, S, h => by
    simp only [lenL, OwC] at h ⊢
    exact owc_len sf h
  | some t :: ρ, σ, S, h => by
    simp only [OwC] at h
    obtain ⟨v, S1, S2, e, h1, h2, _⟩ := h
    have r := owc_len sf h2
    cases t with
    | leaf d =>
      simp only [lenL]
      split
      · rename_i c
        simp only [OwC]
        simp only [Ow] at h1 ⊢
        exact ⟨v, [], [], e, ⟨rfl, (is_clean c h1.2).mono sf⟩, r, rfl⟩
      · simp only [OwC]; exact r
    | lst us => simp only [lenL, OwC]; exact r
    | tup us => simp only [lenL, OwC]; exact r
    | vw d => simp only [lenL, OwC]; exact r
    | reg R => simp only [lenL, OwC]; exact r
section
variable {a : An0} {X : Cx} {ρ : Env} {σ : L2.St} {ts : List T} {vs : List V} {H F : Hp} {Sc Sm : List Addr} {Φ : T → Prop} {i : Nat} {u : T} {e : Expr} {xs : List Nat}
theorem set_same : ∀ {σ : L2.St} {i : Nat} {v : V}, σ[i]? = some (some v) → σ.set i (some v) = σ
  | [], _, _, h => by simp at h
  | x :: r, 0, v, h => by simp at h; simp [h]
  | x :: r, i + 1, v, h => by simp at h; simp [set_same h]
theorem owc_none1 {a : An} {F H : Hp} : ∀ {ρ : Env} {σ : L2.St} (v : Nat), OwC a F H ρ σ [] → OwC a F H (ρ.put v none) σ []
  | [], σ, _, h => by simpa only [Env.put] using h
  | x :: ρ, σ, 0, h => by
    cases x with
    | none => simpa only [Env.put, OwC] using h
    | some t =>
      simp only [Env.put, OwC] at h ⊢
      obtain ⟨v, S1, S2, _, _, h2, e⟩ := h
      obtain ⟨rfl, rfl⟩ := List.append_eq_nil_iff.mp e.symm
      exact h2
  | x :: ρ, σ, v + 1, h => by
    cases x with
    | none =>
      simp only [Env.put, OwC] at h ⊢
      exact owc_none1 v h
    | some t =>
      simp only [Env.put, OwC] at h ⊢
      obtain ⟨y, S1, S2, e1, e2, h2, e⟩ := h
      obtain ⟨rfl, rfl⟩ := List.append_eq_nil_iff.mp e.symm
      exact ⟨y, [], [], e1, e2, owc_none1 v h2, rfl⟩
theorem owc_wipes {a : An} {F H : Hp} {ρ : Env} {σ : L2.St} (h : OwC a F H ρ σ []) : ∀ xs : List Nat, OwC a F H (ρ.wipes xs) σ []
  | [] => h
  | v :: xs => owc_none1 v (owc_wipes h xs)
theorem wipes_len (ρ : Env) : ∀ xs : List Nat, (ρ.wipes xs).length = ρ.length
  | [] => rfl
  | v :: xs => by rw [Env.wipes, Env.put_length, wipes_len ρ xs]
theorem SW.lend (w : SW a ρ σ ts vs H F Sc Sm) (hu : ρ.at i = some u) (cl : u.dat.clean = true) :
    ∃ F1, SOk (lA a F1 H) (lentE ρ i u.dat xs) σ [] [] H ∧ (∀ t v H', t.fl = true → SOk (lA a F1 H) (lentE ρ i u.dat xs) σ [t] [v] H' → SOk a ρ σ (t :: ts) (v :: vs) H') ∧ ∀ H', SOk (lA a F1 H) (lentE ρ i u.dat xs) σ [] [] H' → SOk a ρ σ ts vs H' := by
  obtain ⟨x, Si, ex, ho, hin, _⟩ := w.cells.get hu
  have nh : ∀ p ∈ Si, ¬ a.toAn.hid p := fun p hp => (w.fr p (List.mem_append_left _ (hin p hp))).2.1
  have isd := ho.is w.sub w.bag.no nh
  obtain ⟨G0, s0, i0, _⟩ := Is.supp (a := a.toAn) (a' := ⟨a.K, none, a.cls⟩) rfl rfl cl isd
  have s0H : Sub G0 H := s0.trans (hb_sub _ _)
  have F1H : Sub (uni F G0) H := fun p o h => by
    unfold uni at h
    cases q : F p with
    | none => rw [q] at h; exact s0H _ _ h
    | some o' => rw [q] at h; cases h; exact w.sub _ _ q
  have g1 : Sub G0 (uni F G0) := uni_r (w.sub) s0H
  have no1 : ∀ b, a.toAn.hid b → uni F G0 b = none := fun b hb' => by
    unfold uni
    rw [w.bag.no b hb']
    exact none_sub s0 hb_none b hb'
  have lt := at_lt hu
  have start : SOk (lA a (uni F G0) H) (lentE ρ i u.dat xs) σ [] [] H := by
    obtain ⟨S', c', _, p'⟩ := OwC.put (a := (lA a (uni F G0) H).toAn) (F := uni F G0) (H := H) (t := .leaf u.dat) (v := x) (St := []) (by simp only [Ow]; exact ⟨trivial, i0.mono g1⟩) rfl (owc_len (F1 := uni F G0) uni_l w.cells) (i := i) (by rw [lenL_len]; exact lt) (by rw [← w.len]; exact lt) List.nodup_nil List.nodup_nil (by simp)
    have : S' = [] := by
      cases S' with
      | nil => rfl
      | cons p r => rcases p' p List.mem_cons_self with z | z <;> cases z
    subst this
    rw [set_same ex] at c'
    have tabs : ∀ b, An.hid ⟨a.K, none, a.cls⟩ b → a.toAn.hid b := fun b h => .inr (hid_none h)
    refine ⟨uni F G0, [], [], F1H, Gw.refl _ _ _, fun b h => ⟨h, ?_⟩, bag_none w.bag no1, owc_wipes c' xs, by simp only [OwL]; exact ⟨trivial, trivial⟩, by simp, by simp, ?_, by simp, by simp⟩
    · exact w.bag.there (tabs b h)
    · unfold lentE
      rw [wipes_len, Env.put_length, lenL_len]
      exact w.len
  have back : ∀ {H' F'' : Hp} {Sc'' Sm'' : List Addr} {ts' : List T} {vs' : List V}, SW (lA a (uni F G0) H) (lentE ρ i u.dat xs) σ ts' vs' H' F'' Sc'' Sm'' → Sub F H' ∧ Gw a.toAn.hid F H F H' ∧ BagOk a.toAn F H' := fun {H' F'' Sc'' Sm'' ts' vs'} w2 => by
    have hh : ∀ p o, ¬ a.toAn.hid p → H p = some o → H' p = some o := fun p o n h => w2.gw.hh p o (fun z => n (.inr (hid_none z))) h
    refine ⟨fun p o h => hh p o (fun z => by rw [w.bag.no p z] at h; cases h) (w.sub p o h), ⟨Sub.refl _, hh, fun _ _ h => h, w2.gw.th⟩, w.bag.no, fun b eb => ?_, fun p q eb => w2.bag.tab p q eb⟩
    obtain ⟨x, y, z, c, ns, e1, h2, h3⟩ := w.bag.bag b eb
    exact ⟨x, y, z, c, ns, w2.gw.hh _ _ (fun z => w.bag.nt eb z) e1, h2, h3⟩
  refine ⟨uni F G0, start, fun t v H' fl ⟨F'', Sc'', Sm'', w2⟩ => ?_, fun H' ⟨F'', Sc'', Sm'', w2⟩ => ?_⟩
  · obtain ⟨b1, b2, b3⟩ := back w2
    obtain ⟨v', r, S1, S2, e1, h1, h2, e2⟩ := (show ∃ v' r S1 S2, [v] = v' :: r ∧ Ow (lA a (uni F G0) H).toAn F'' H' t v' S1 ∧ OwL (lA a (uni F G0) H).toAn F'' H' [] r S2 ∧ Sm'' = S1 ++ S2 by
      have := w2.tmps; simpa only [OwL] using this)
    simp only [OwL] at h2
    cases e1
    obtain ⟨_, rfl⟩ := h2
    rw [List.append_nil] at e2
    subst e2
    refine w.called b1 b2 b3 (Ow.fl fl h1) (List.nodup_append.mp w2.nd).2.1 fun p hp => ?_
    obtain ⟨f1, f2, f3⟩ := w2.fr p (List.mem_append_right _ hp)
    have hn : H p = none := f3.resolve_left fun z => f2 z
    refine ⟨?_, fun z => ?_, hn⟩
    · cases q : F p with
      | none => rfl
      | some o => rw [w.sub p o q] at hn; cases hn
    · exact absurd hn (w.bag.there z)
  · obtain ⟨b1, b2, b3⟩ := back w2
    have := w.called (t := .leaf .non) (v := .non) (S := []) b1 b2 b3 (by simp only [Ow, Is]; exact ⟨trivial, trivial⟩) (by simp) (by simp)
    exact this.pop1
theorem dt_lent {Ψ : Bool → Prop} (hu : ρ.at i = some u) (cl : u.dat.clean = true) (h : ∀ F1 H, DT (lA a F1 H) X (lentE ρ i u.dat xs) e Ψ) : DT a X ρ e Ψ := fun σ H ts vs Q ⟨F, Sc, Sm, w⟩ k => by
  obtain ⟨F1, o1, _, c2⟩ := w.lend hu cl
  exact h F1 H σ H [] [] Q o1 fun b H' hb ok' => k b H' hb (c2 H' ok')
theorem XOk.lent {F1 H : Hp} (xo : XOk a X) : XOk (lA a F1 H) X := ⟨xo.K, xo.calm, xo.nd, xo.gu, xo.hd, xo.un, xo.po⟩
variable {K : EnD} {pos ps : Pos} {tg it elt : Expr}
/-- an item of a list held alone that is frozen itself -/
theorem de_ixo {x : Str} {us : List T} {B : Expr} {p : Pos} (xo : XOk a X) (hN : X.N[i]? = some x) (hv : Vis X.env.scope x) (hd : (x == ("__debug__" : Str)) = false) (hc : (x == ("__classdict__" : Str)) = false) (hu : ρ.at i = some (.lst us)) (hB : notSlice B = true)
    (h : DE a X ρ B fun t => ∃ n d, t.dat = .int n ∧ L2.atI us n = some (.leaf d) ∧ Φ (.leaf d)) : DE a X ρ (.Subscript (.Name x p) B pos) Φ := fun σ H ts vs Q ok k => by
  obtain ⟨v, S1, e1, _, _⟩ := (show ∃ v S1, σ[i]? = some (some v) ∧ True ∧ True by
    obtain ⟨F0, Sc0, Sm0, w0⟩ := ok
    obtain ⟨v, S1, e1, _, _⟩ := w0.cells.get hu
    exact ⟨v, S1, e1, trivial, trivial⟩)
  refine ⟨_, pe_ix ix_seq (pe_var hN hv hd hc) pe_W (ix_plain hB), ?_⟩
  show ∃ v, σ[i]? = some (some v) ∧ WE X B σ H fun y H2 => rIx X.K v y H2 Q
  refine ⟨v, e1, h σ H ts vs _ ok fun y ty H2 ⟨n, d, en, ea, q⟩ ok2 => ?_⟩
  have i2 := ok2.top
  rw [en] at i2
  rw [i2.int, xo.K]
  obtain ⟨F, Sc, Sm, w⟩ := ok2.pop1
  obtain ⟨v', S2, e2, o2, _⟩ := w.cells.get hu
  rw [e1] at e2
  cases e2
  simp only [Ow] at o2
  obtain ⟨_, q1, ws, S', rfl, z, ol, _⟩ := o2
  obtain ⟨y2, S3, e3, i3, _, _⟩ := ol.atI ea
  simp only [Ow] at i3
  exact .inl ⟨q1, ws, n, y2, rfl, rfl, .inl (.inl z), e3, k y2 _ H2 q ⟨F, Sc, Sm, w.leaf i3.2⟩⟩
end
end DL
namespace DL
open PySem PySem.Spec PyProof.Rows L2
mutual
/-- its places -/
noncomputable def D.subs : D → List D
  | .tup ds => .tup ds :: D.subss ds
  | .lst ds => .lst ds :: D.subss ds
  | .obj c fs => .obj c fs :: D.subss fs
  | .non => []
  | .bl _ => []
  | .int _ => []
  | .str _ => []
  | .bag => []
  | .scr _ => []
  | .opq _ => []
  | .emp => []
noncomputable def D.subss : List D → List D
  | [] => []
  | d :: r => d.subs ++ D.subss r
end
/-- their places may be one and the same -/
noncomputable def D.clT : D → D → Bool
  | .tup ds, .tup es => D.cls ds es
  | .lst ds, .lst es => D.cls ds es
  | .obj _ _, .obj _ _ => true
  | _, _ => false
/-- the places that are lent -/
noncomputable def T.lents : List T → List D
  | [] => []
  | .leaf _ :: r => T.lents r
  | .lst ts :: r => (T.lst ts).dat.subs ++ T.lents r
  | .tup ts :: r => (T.tup ts).dat.subs ++ T.lents r
  | .vw d :: r => d.subs ++ T.lents r
  | .reg _ :: r => T.lents r
/-- it may be an answer to a call that borrows -/
noncomputable def D.okP (us : List T) (d : D) : Bool := d.flat || (d.pure && d.subs.all fun x => (T.lents us).all fun y => !(x.clT y))
noncomputable def AtP (a : An) (G : Hp) (p : Addr) : D → Prop
  | .tup ds => ∃ us, (G p = some (.tup us) ∨ ∃ o, G p = some (.frz o (.tup us))) ∧ IsL a G ds us
  | .lst ds => ∃ us, G p = some (.lst us) ∧ IsL a G ds us
  | .obj _ _ => ∃ C dx ns, G p = some (.ins C dx ns)
  | _ => False
theorem AtP.mono {a : An} {G G' : Hp} {p : Addr} (s : Sub G G') : ∀ {e : D}, AtP a G p e → AtP a G' p e
  | .tup ds, ⟨us, h, i⟩ => ⟨us, h.imp (fun h => s _ _ h) fun ⟨o, h⟩ => ⟨o, s _ _ h⟩, i.mono s⟩
  | .lst ds, ⟨us, h, i⟩ => ⟨us, s _ _ h, i.mono s⟩
  | .obj _ _, ⟨C, dx, ns, h⟩ => ⟨C, dx, ns, s _ _ h⟩
  | .non, h => h.elim
  | .bl _, h => h.elim
  | .int _, h => h.elim
  | .str _, h => h.elim
  | .bag, h => h.elim
  | .scr _, h => h.elim
  | .opq _, h => h.elim
  | .emp, h => h.elim
noncomputable def Cov (a : An) (G : Hp) (ls : List D) : Prop := ∀ p o, G p = some o → ∃ e ∈ ls, AtP a G p e
theorem Cov.uni {a : An} {F G I : Hp} {ls ms : List D} (s1 : Sub F I) (s2 : Sub G I) (h1 : Cov a F ls) (h2 : Cov a G ms) : Cov a (uni F G) (ls ++ ms) := fun p vs e => by
  unfold DL.uni at e
  cases z : F p with
  | some o =>
    obtain ⟨es, m, i⟩ := h1 p o z
    exact ⟨es, List.mem_append_left _ m, i.mono uni_l⟩
  | none =>
    rw [z] at e
    obtain ⟨es, m, i⟩ := h2 p vs e
    exact ⟨es, List.mem_append_right _ m, i.mono (uni_r s1 s2)⟩
theorem cov_none {a : An} : Cov a (fun _ => none) [] := fun _ _ h => nomatch h
theorem Cov.one {a : An} {p : Addr} {o : HO} {G I : Hp} {d : D} {ls : List D} (s1 : Sub (one1 p o) I) (s2 : Sub G I) (h : AtP a (DL.uni (one1 p o) G) p d) (h2 : Cov a G ls) : Cov a (DL.uni (one1 p o) G) (d :: ls) := fun q vs e => by
  by_cases z : q = p
  · subst z
    exact ⟨d, List.mem_cons_self, h⟩
  · have n : one1 p o q = none := if_neg z
    unfold DL.uni at e
    rw [n] at e
    obtain ⟨es, m, i⟩ := h2 q vs e
    exact ⟨es, List.mem_cons_of_mem _ m, i.mono (uni_r s1 s2)⟩
mutual
theorem Is.suppP {a a' : An} (hK : a'.K = a.K) (hc : a'.cls = a.cls) {G : Hp} : ∀ {d : D} {v : V}, d.clean = true → Is a G d v → ∃ G0, Sub G0 G ∧ Is a' G0 d v ∧ Cov a' G0 d.subs
  | .non, v, _, h => ⟨fun _ => none, (fun _ _ h => nomatch h), by simpa only [Is] using h, cov_none⟩
  | .bl _, v, _, h => ⟨fun _ => none, (fun _ _ h => nomatch h), by simpa only [Is] using h, cov_none⟩
  | .int _, v, _, h => ⟨fun _ => none, (fun _ _ h => nomatch h), by simpa only [Is] using h, cov_none⟩
  | .str _, v, _, h => ⟨fun _ => none, (fun _ _ h => nomatch h), by simpa only [Is] using h, cov_none⟩
  | .bag, v, c, _ => by simp [D.clean] at c
  | .scr _, v, c, _ => by simp [D.clean] at c
  | .opq _, v, c, _ => by simp [D.clean] at c
  | .emp, v, c, _ => by simp [D.clean] at c
  | .tup ds, v, c, h => by
    simp only [D.clean] at c
    simp only [Is] at h
    obtain ⟨p, vs, rfl, h1, h2⟩ := h
    obtain ⟨G1, s1, i1, l1⟩ := IsL.suppP hK hc c h2
    simp only [D.subs]
    rcases h1 with (h1 | ⟨o, h1⟩) | h1
    · have e0 : uni (one1 p (.tup vs)) G1 p = some (.tup vs) := uni_l p _ (if_pos rfl)
      have i2 := i1.mono (uni_r (one1_sub h1) s1)
      refine ⟨uni (one1 p (.tup vs)) G1, uni_sub (one1_sub h1) s1, ?_, Cov.one (one1_sub h1) s1 ⟨vs, .inl e0, i2⟩ l1⟩
      simp only [Is]
      exact ⟨p, vs, rfl, .inl (.inl e0), i2⟩
    · have e0 : uni (one1 p (.frz o (.tup vs))) G1 p = some (.frz o (.tup vs)) := uni_l p _ (if_pos rfl)
      have i2 := i1.mono (uni_r (one1_sub h1) s1)
      refine ⟨uni (one1 p (.frz o (.tup vs))) G1, uni_sub (one1_sub h1) s1, ?_, Cov.one (one1_sub h1) s1 ⟨vs, .inr ⟨o, e0⟩, i2⟩ l1⟩
      simp only [Is]
      exact ⟨p, vs, rfl, .inl (.inr ⟨o, e0⟩), i2⟩
    · refine ⟨G1, s1, ?_, fun q u e => ?_⟩
      · simp only [Is]
        exact ⟨p, vs, rfl, .inr (by rw [hK]; exact h1), i1⟩
      · obtain ⟨e', m, i⟩ := l1 q u e
        exact ⟨e', List.mem_cons_of_mem _ m, i⟩
  | .lst ds, v, c, h => by
    simp only [D.clean] at c
    simp only [Is] at h
    obtain ⟨p, vs, rfl, h1, h2⟩ := h
    obtain ⟨G1, s1, i1, l1⟩ := IsL.suppP hK hc c h2
    have e0 : uni (one1 p (.lst vs)) G1 p = some (.lst vs) := uni_l p _ (if_pos rfl)
    have i2 := i1.mono (uni_r (one1_sub h1) s1)
    refine ⟨uni (one1 p (.lst vs)) G1, uni_sub (one1_sub h1) s1, ?_, by simp only [D.subs]; exact Cov.one (one1_sub h1) s1 ⟨vs, e0, i2⟩ l1⟩
    simp only [Is]
    exact ⟨p, vs, rfl, e0, i2⟩
  | .obj k fs, v, c, h => by
    simp only [D.clean] at c
    simp only [Is] at h
    obtain ⟨p, C, ns, dx, vs, rfl, e2, e3, h1, h2⟩ := h
    obtain ⟨G1, s1, i1, l1⟩ := IsL.suppP hK hc c h2
    have e0 : uni (one1 p (.ins C dx (ns.zip vs))) G1 p = some (.ins C dx (ns.zip vs)) := uni_l p _ (if_pos rfl)
    have i2 := i1.mono (uni_r (one1_sub h1) s1)
    refine ⟨uni (one1 p (.ins C dx (ns.zip vs))) G1, uni_sub (one1_sub h1) s1, ?_, by simp only [D.subs]; exact Cov.one (one1_sub h1) s1 ⟨_, _, _, e0⟩ l1⟩
    simp only [Is]
    exact ⟨p, C, ns, dx, vs, rfl, by rw [hc]; exact e2, e3, e0, i2⟩
theorem IsL.suppP {a a' : An} (hK : a'.K = a.K) (hc : a'.cls = a.cls) {G : Hp} : ∀ {ds : List D} {vs : List V}, D.cleans ds = true → IsL a G ds vs → ∃ G0, Sub G0 G ∧ IsL a' G0 ds vs ∧ Cov a' G0 (D.subss ds)
  | [], vs, _, h => ⟨fun _ => none, (fun _ _ h => nomatch h), by simpa only [IsL] using h, cov_none⟩
  | d :: ds, vs, c, h => by
    simp only [D.cleans, Bool.and_eq_true] at c
    simp only [IsL] at h
    obtain ⟨v, r, rfl, h1, h2⟩ := h
    obtain ⟨G1, s1, i1, l1⟩ := Is.suppP hK hc c.1 h1
    obtain ⟨G2, s2, i2, l2⟩ := IsL.suppP hK hc c.2 h2
    refine ⟨uni G1 G2, uni_sub s1 s2, ?_, by simpa only [D.subss] using Cov.uni s1 s2 l1 l2⟩
    simp only [IsL]
    exact ⟨v, r, rfl, i1.mono uni_l, i2.mono (uni_r s1 s2)⟩
end
/-- what a call is handed: what is frozen, and what is lent -/
noncomputable def Cov2 (a : An) (F G : Hp) (ls : List D) : Prop := ∀ p o, G p = some o → F p = some o ∨ ∃ e ∈ ls, AtP a G p e
theorem args_suppP {a a' : An} (hK : a'.K = a.K) (hc : a'.cls = a.cls) {F H : Hp} (sf : Sub F H) (nb : ∀ b, a.hid b → F b = none) : ∀ {us : List T} {ws : List V} {S : List Addr}, D.cleans (T.dats us) = true → OwL a F H us ws S → (∀ p ∈ S, ¬ a.hid p) → ∃ G0, Sub G0 (hb a H) ∧ IsL a' G0 (T.dats us) ws ∧ Cov2 a' F G0 (T.lents us)
  | [], ws, S, _, h, _ => ⟨fun _ => none, (fun _ _ h => nomatch h), by
      simp only [OwL] at h
      simpa only [T.dats, IsL] using h.1, fun _ _ h => nomatch h⟩
  | t :: us, ws, S, c, h, nh => by
    simp only [T.dats, D.cleans, Bool.and_eq_true] at c
    simp only [OwL] at h
    obtain ⟨v, r, S1, S2, rfl, h1, h2, rfl⟩ := h
    obtain ⟨G2, s2, i2, l2⟩ := args_suppP hK hc sf nb c.2 h2 fun p hp => nh p (List.mem_append_right _ hp)
    have sfb : Sub F (hb a H) := fun p o q => by
      unfold hb
      split
      · rename_i z; rw [nb p z] at q; cases q
      · exact sf p o q
    have hv := Ow.is sf nb h1 fun p hp => nh p (List.mem_append_left _ hp)
    have key : ∀ (ls : List D) (G1 : Hp), Sub G1 (hb a H) → Is a' G1 t.dat v → Cov2 a' F G1 ls → ∃ G0, Sub G0 (hb a H) ∧ IsL a' G0 (T.dats (t :: us)) (v :: r) ∧ Cov2 a' F G0 (ls ++ T.lents us) := fun ls G1 s1 i1 l1 => by
      refine ⟨uni G1 G2, uni_sub s1 s2, ?_, fun p o e => ?_⟩
      · simp only [T.dats, IsL]
        exact ⟨v, r, rfl, i1.mono uni_l, i2.mono (uni_r s1 s2)⟩
      · unfold DL.uni at e
        cases z : G1 p with
        | some o1 =>
          rw [z] at e
          cases e
          rcases l1 p _ z with q | ⟨e, m, q⟩
          · exact .inl q
          · exact .inr ⟨e, List.mem_append_left _ m, q.mono uni_l⟩
        | none =>
          rw [z] at e
          rcases l2 p _ e with q | ⟨e, m, q⟩
          · exact .inl q
          · exact .inr ⟨e, List.mem_append_right _ m, q.mono (uni_r s1 s2)⟩
    cases t with
    | leaf d =>
      simp only [Ow] at h1
      simp only [T.dat] at c
      obtain ⟨G1, s1, i1, _⟩ := Is.suppP hK hc c.1 h1.2
      exact key [] G1 (s1.trans sfb) (by simpa only [T.dat] using i1) fun p o e => .inl (s1 p o e)
    | lst ts =>
      obtain ⟨G1, s1, i1, l1⟩ := Is.suppP hK hc c.1 hv
      exact key _ G1 s1 i1 fun p o e => .inr (l1 p o e)
    | tup ts =>
      obtain ⟨G1, s1, i1, l1⟩ := Is.suppP hK hc c.1 hv
      exact key _ G1 s1 i1 fun p o e => .inr (l1 p o e)
    | vw d =>
      obtain ⟨G1, s1, i1, l1⟩ := Is.suppP hK hc c.1 hv
      exact key _ G1 s1 i1 fun p o e => .inr (l1 p o e)
    | reg R => simp [T.dat, D.clean] at c
theorem clT_of {a b : An} {F G : Hp} {p : Addr} (s : Sub G F) : ∀ {x e : D}, AtP a F p x → AtP b G p e → x.clT e = true
  | .tup ds, .tup es, ⟨us, h, i⟩, ⟨ws, h', j⟩ => by
    have : us = ws := by
      rcases h with h | ⟨o, h⟩ <;> rcases h' with h' | ⟨o', h'⟩ <;> have := s _ _ h' <;> rw [h] at this <;> cases this <;> rfl
    subst this
    exact D.cls_of (Sub.refl F) i (j.mono s)
  | .lst ds, .lst es, ⟨us, h, i⟩, ⟨ws, h', j⟩ => by
    have := s _ _ h'
    rw [h] at this
    cases this
    exact D.cls_of (Sub.refl F) i (j.mono s)
  | .obj _ _, .obj _ _, _, _ => rfl
  | .tup ds, .lst es, ⟨us, h, i⟩, ⟨ws, h', j⟩ => by
    have := s _ _ h'
    rcases h with h | ⟨o, h⟩ <;> rw [h] at this <;> cases this
  | .tup ds, .obj _ _, ⟨us, h, i⟩, ⟨_, _, _, h'⟩ => by
    have := s _ _ h'
    rcases h with h | ⟨o, h⟩ <;> rw [h] at this <;> cases this
  | .lst ds, .tup es, ⟨us, h, i⟩, ⟨ws, h', j⟩ => by
    rcases h' with h' | ⟨o, h'⟩ <;> have := s _ _ h' <;> rw [h] at this <;> cases this
  | .lst ds, .obj _ _, ⟨us, h, i⟩, ⟨_, _, _, h'⟩ => by
    have := s _ _ h'
    rw [h] at this; cases this
  | .obj _ _, .tup es, ⟨_, _, _, h⟩, ⟨ws, h', j⟩ => by
    rcases h' with h' | ⟨o, h'⟩ <;> have := s _ _ h' <;> rw [h] at this <;> cases this
  | .obj _ _, .lst es, ⟨_, _, _, h⟩, ⟨ws, h', j⟩ => by
    have := s _ _ h'
    rw [h] at this; cases this
  | .non, _, h, _ => h.elim
  | .bl _, _, h, _ => h.elim
  | .int _, _, h, _ => h.elim
  | .str _, _, h, _ => h.elim
  | .bag, _, h, _ => h.elim
  | .scr _, _, h, _ => h.elim
  | .opq _, _, h, _ => h.elim
  | .emp, _, h, _ => h.elim
  | .tup _, .non, _, h => h.elim
  | .tup _, .bl _, _, h => h.elim
  | .tup _, .int _, _, h => h.elim
  | .tup _, .str _, _, h => h.elim
  | .tup _, .bag, _, h => h.elim
  | .tup _, .scr _, _, h => h.elim
  | .tup _, .opq _, _, h => h.elim
  | .tup _, .emp, _, h => h.elim
  | .lst _, .non, _, h => h.elim
  | .lst _, .bl _, _, h => h.elim
  | .lst _, .int _, _, h => h.elim
  | .lst _, .str _, _, h => h.elim
  | .lst _, .bag, _, h => h.elim
  | .lst _, .scr _, _, h => h.elim
  | .lst _, .opq _, _, h => h.elim
  | .lst _, .emp, _, h => h.elim
  | .obj _ _, .non, _, h => h.elim
  | .obj _ _, .bl _, _, h => h.elim
  | .obj _ _, .int _, _, h => h.elim
  | .obj _ _, .str _, _, h => h.elim
  | .obj _ _, .bag, _, h => h.elim
  | .obj _ _, .scr _, _, h => h.elim
  | .obj _ _, .opq _, _, h => h.elim
  | .obj _ _, .emp, _, h => h.elim
mutual
theorem Is.keepP {a b : An} (hK : a.K = b.K) {F G : Hp} {ls : List D} (cov : ∀ p o, F p = some o → G p = some o ∨ ∃ e ∈ ls, ∃ G0, Sub G0 F ∧ AtP b G0 p e) : ∀ {d : D} {v : V}, d.pure = true → (∀ x ∈ d.subs, ∀ y ∈ ls, x.clT y = false) → Is b F d v → Is a G d v
  | .non, v, _, _, h => by simpa only [Is] using h
  | .bl _, v, _, _, h => by simpa only [Is] using h
  | .int _, v, _, _, h => by simpa only [Is] using h
  | .str _, v, _, _, h => by simpa only [Is] using h
  | .bag, v, c, _, _ => by simp [D.pure] at c
  | .obj _ _, v, c, _, _ => by simp [D.pure] at c
  | .scr _, v, c, _, _ => by simp [D.pure] at c
  | .opq _, v, c, _, _ => by simp [D.pure] at c
  | .emp, v, c, _, _ => by simp [D.pure] at c
  | .tup ds, v, c, n, h => by
    simp only [D.pure] at c
    simp only [D.subs] at n
    simp only [Is] at h ⊢
    obtain ⟨p, vs, rfl, h1, h2⟩ := h
    refine ⟨p, vs, rfl, ?_, IsL.keepP hK cov c (fun x hx => n x (List.mem_cons_of_mem _ hx)) h2⟩
    rcases h1 with (h1 | ⟨o, h1⟩) | h1
    · rcases cov p _ h1 with q | ⟨e, m, G0, s, q⟩
      · exact .inl (.inl q)
      · have z := clT_of (x := .tup ds) (a := b) s ⟨vs, .inl h1, h2⟩ q
        rw [n _ List.mem_cons_self e m] at z
        cases z
    · rcases cov p _ h1 with q | ⟨e, m, G0, s, q⟩
      · exact .inl (.inr ⟨o, q⟩)
      · have z := clT_of (x := .tup ds) (a := b) s ⟨vs, .inr ⟨o, h1⟩, h2⟩ q
        rw [n _ List.mem_cons_self e m] at z
        cases z
    · exact .inr (by rw [hK]; exact h1)
  | .lst ds, v, c, n, h => by
    simp only [D.pure] at c
    simp only [D.subs] at n
    simp only [Is] at h ⊢
    obtain ⟨p, vs, rfl, h1, h2⟩ := h
    refine ⟨p, vs, rfl, ?_, IsL.keepP hK cov c (fun x hx => n x (List.mem_cons_of_mem _ hx)) h2⟩
    rcases cov p _ h1 with q | ⟨e, m, G0, s, q⟩
    · exact q
    · have z := clT_of (x := .lst ds) (a := b) s ⟨vs, h1, h2⟩ q
      rw [n _ List.mem_cons_self e m] at z
      cases z
theorem IsL.keepP {a b : An} (hK : a.K = b.K) {F G : Hp} {ls : List D} (cov : ∀ p o, F p = some o → G p = some o ∨ ∃ e ∈ ls, ∃ G0, Sub G0 F ∧ AtP b G0 p e) : ∀ {ds : List D} {vs : List V}, D.pures ds = true → (∀ x ∈ D.subss ds, ∀ y ∈ ls, x.clT y = false) → IsL b F ds vs → IsL a G ds vs
  | [], vs, _, _, h => by simpa only [IsL] using h
  | d :: ds, vs, c, n, h => by
    simp only [D.pures, Bool.and_eq_true] at c
    simp only [D.subss] at n
    simp only [IsL] at h ⊢
    obtain ⟨v, r, e, h1, h2⟩ := h
    exact ⟨v, r, e, Is.keepP hK cov c.1 (fun x hx => n x (List.mem_append_left _ hx)) h1, IsL.keepP hK cov c.2 (fun x hx => n x (List.mem_append_right _ hx)) h2⟩
end
section
variable {a : An0} {X : Cx} {ρ : Env} {σ : L2.St} {ts : List T} {vs : List V} {H F : Hp} {Sc Sm : List Addr} {Φ : T → Prop} {pos p : Pos} {e : Expr} {es : List Expr}
theorem SW.calledP {F' H' G0 : Hp} {d : D} {v : V} {ls : List D} (w : SW a ρ σ ts vs H F Sc Sm) (s0 : Sub G0 (hb a.toAn H)) (cov : Cov2 ⟨a.K, none, a.cls⟩ F G0 ls) (sub : Sub F' H') (g : Gw (An.hid ⟨a.K, none, a.cls⟩) G0 H F' H') (bgo : BagOk ⟨a.K, none, a.cls⟩ F' H') (i : Is ⟨a.K, none, a.cls⟩ F' d v) (pu : d.pure = true) (no : ∀ x ∈ d.subs, ∀ y ∈ ls, x.clT y = false) : SOk a ρ σ (.leaf d :: ts) (v :: vs) H' := by
  have hh : ∀ p o, ¬ a.toAn.hid p → H p = some o → H' p = some o := fun p o n h => g.hh p o (fun z => n (.inr (hid_none z))) h
  have sbb : Sub (hb a.toAn H) (hb a.toAn H') := fun p o h => by
    unfold hb at h ⊢
    split at h
    · cases h
    · rename_i z; rw [if_neg z]; exact hh p o z h
  have s1 : ∀ p o, G0 p = some o → H p = some o := fun p o h => hb_sub _ _ _ _ (s0 p o h)
  obtain ⟨G, hG⟩ : ∃ G : Hp, ∀ p, G p = match F p with | some o => some o | none => match H p with | some _ => none | none => F' p := ⟨_, fun _ => rfl⟩
  have sF : Sub F G := fun p o h => by rw [hG p, h]
  have newF : ∀ p, F p = none → H p ≠ none → G p = none := fun p h1 h2 => by
    rw [hG p, h1]
    cases q : H p with
    | none => exact absurd q h2
    | some o => rfl
  have newG : ∀ p, H p = none → G p = F' p := fun p h => by
    rw [hG p]
    cases q : F p with
    | some o =>
      have := w.sub p o q
      rw [h] at this; cases this
    | none => simp only [h]
  have sH : Sub G H' := fun p o h => by
    cases q : F p with
    | some o' =>
      have := sF p o' q
      rw [h] at this
      cases this
      exact hh p o (fun y => by rw [w.bag.no p y] at q; cases q) (w.sub p o q)
    | none =>
      cases y : H p with
      | some o' => rw [newF p q (by rw [y]; simp)] at h; cases h
      | none => rw [newG p y] at h; exact sub p o h
  have isG : Is a.toAn G d v := Is.keepP (a := a.toAn) (b := ⟨a.K, none, a.cls⟩) rfl (fun p o h => by
    cases y : H p with
    | none => exact .inl (by rw [newG p y]; exact h)
    | some o' =>
      cases q : G0 p with
      | none =>
        have := g.nn p (by rw [y]; simp) q
        rw [h] at this; cases this
      | some o2 =>
        have e2 := g.ff p o2 q
        rw [h] at e2
        cases e2
        rcases cov p _ q with z | ⟨e, m, z⟩
        · exact .inl (sF p _ z)
        · exact .inr ⟨e, m, G0, g.ff, z⟩) pu no i
  refine ⟨G, Sc, Sm, SW.leaf ⟨sH, ⟨w.gw.ff.trans sF, fun p o hp h => hh p o (fun z => hp (w.bagM p z).1) (w.gw.hh p o hp h), fun p h n => newF p (w.gw.nn p h n) (w.gw.th p h), fun p h => g.th p (w.gw.th p h)⟩, w.bagM, ⟨fun b e => newF b (w.bag.no b e) (w.bag.there e), fun b e => ?_, fun p q e => bgo.tab p q e⟩, w.cells.mono sF sbb fun p hp o h => hh p o (w.fr p (List.mem_append_left _ hp)).2.1 h, w.tmps.mono sF sbb fun p hp o h => hh p o (w.fr p (List.mem_append_right _ hp)).2.1 h, w.nd, fun p hp => ?_, w.len, fun I hI => (w.wit I hI).trans sbb, fun I hI => (w.wif I hI).trans sF⟩ isG⟩
  · obtain ⟨x, y, z, c, ns, e1, h2, h3⟩ := w.bag.bag b e
    exact ⟨x, y, z, c, ns, g.hh _ _ (w.bag.nt e) e1, sF _ _ h2, h3⟩
  · obtain ⟨f1, f2, f3⟩ := w.fr p hp
    refine ⟨newF p f1 ?_, f2, f3⟩
    rcases List.mem_append.mp hp with y | y
    · exact OwC.there w.cells p y
    · exact OwL.there w.tmps p y
/-- a call that borrows what is held alone, whose answer has new places at most -/
theorem de_callP {x : Str} {f : SpecF} (xo : XOk a X) (fn : FnAt a X x f) (hg : Gl X x) (hd : (x == ("__debug__" : Str)) = false) (h1 : notStar e = true) (h2 : es.all notStar = true)
    (h : DV a X ρ (e :: es) fun us => D.cleans (T.dats us) = true ∧ f (T.dats us) fun t => ∃ d, t = .leaf d ∧ d.okP us = true ∧ Φ (.leaf d)) (mono : ∀ ds (Φ Ψ : T → Prop), (∀ t, Φ t → Ψ t) → f ds Φ → f ds Ψ) : DE a X ρ (.Call (.Name x p) (e :: es) [] pos) Φ := fun σ H ts vs Q ok k => by
  obtain ⟨fa, fd, n, ps, Fn, hr, hm, hk, hb'⟩ := fn.ex
  refine ⟨_, pe_callG Fn xo.gu hr hg hm hk hb' .nil pass0 pa_W hd (star_of h1) (back_of h2), ?_⟩
  show WA X (e :: es) σ H fun vs H1 => spD a.K a.cls f (vs ++ []) H1 Q _
  refine h σ H ts vs _ ok fun ws us H1 ⟨cl, q⟩ l ok1 => ?_
  rw [List.append_nil]
  obtain ⟨F, Sc, Sm, w0⟩ := ok1
  obtain ⟨S1, S2, o1, o2, e3⟩ := OwL.split w0.tmps l
  obtain ⟨G0, s0, i0, c0⟩ := args_suppP (a := a.toAn) (a' := ⟨a.K, none, a.cls⟩) rfl rfl w0.sub w0.nobag cl o1 fun p hp => (w0.fr p (List.mem_append_right _ (by rw [e3]; exact List.mem_append_left _ hp))).2.1
  have w := w0.tmp (Sn := S2) o2 (by
    have nd := (List.nodup_append.mp w0.nd).2.1
    rw [e3] at nd
    exact (List.nodup_append.mp nd).2.1) fun p hp => by rw [e3]; exact List.mem_append_right _ hp
  refine ⟨none, G0, _, s0.trans (hb_sub _ _), bag_none w.bag (none_sub s0 hb_none), i0, mono _ _ _ (fun t ⟨d, ht, fl, hp⟩ F' H' v S sub g bg ow nd fr => ?_) q⟩
  subst ht
  simp only [Ow] at ow
  unfold D.okP at fl
  rw [Bool.or_eq_true] at fl
  rcases fl with fl | fl
  · have pu : d.pure = true := by cases d <;> simp only [D.flat, Bool.false_eq_true] at fl <;> rfl
    have no : d.subs = [] := by cases d <;> simp only [D.flat, Bool.false_eq_true] at fl <;> rfl
    exact k v _ H' hp (w.calledP s0 c0 sub g bg ow.2 pu (by rw [no]; intro x hx; cases hx))
  · rw [Bool.and_eq_true, List.all_eq_true] at fl
    exact k v _ H' hp (w.calledP s0 c0 sub g bg ow.2 fl.1 fun x hx y hy => by
      have := List.all_eq_true.mp (fl.2 x hx) y hy
      simpa using this)
end
end DL
namespace DL
open PySem PySem.Spec PyProof.Rows L2

inductive Uop where
  | rev
noncomputable def unT : Uop → T → (T → Prop) → Prop
  | .rev, t, Φ => ∃ us, t.its = some us ∧ Φ (.lst us.reverse)
inductive I where
  | nm (i : Nat) | ow (i : Nat) | gl (k : Nat)
  | int (n : Int) | str (s : Str) | bl (b : Bool) | non
  | nil | cons (e r : I)
  | tup (es : I) | lst (es : I)
  | bin (o : Bop) (x y : I) | neg (x : I) | not (x : I)
  | cmp (o : Cop) (x y : I) | chn (o o' : Cop) (x y z : I)
  | and (x r : I) | or (x r : I) | one (x : I) | val (x : I)
  | orv (x r : I) | srtS (x : I)
  | lent (i : Nat) (xs : List Nat) (x : I) | ixo (i : Nat) (y : I)
  | ife (t x y : I)
  | ix (x y : I) | sl (x lo hi : I) | nop | prt (x : I)
  | call (k : Nat) (es : I)
  | callX (k : Nat) (es : I)
  | callO (k : Nat) (es : I) | callB (k : Nat) (es : I) | un (o : Uop) (x : I)
  | blt (f : Blt) (es : I)
  | lc (own : List Nat) (g : Tg) (src cond elt : I)
  | eqO (k cl : Nat) (x y : I) | isC (cl : Nat) (x : I)
  | fld (cl i : Nat) (x : I) | mth (k cl : Nat) (x es : I) | mt0 (k cl : Nat) (x : I) | prp (k cl : Nat) (x : I) | new (k : Nat) (es : I)
  | isi (ty : Ty) (x : I) | lr1 (x : I) | lr2 (x y : I)
  | hk (k : Nat) (es : I)
  | sq (x : I) | rng (es : I) | zip (es : I) | enm (es : I)
noncomputable def I.isNil : I → Bool
  | .nil => true
  | _ => false
structure Sg where
  z : Bool
  fs : List SpecF
  gs : List D
  ms : List SpecF := []
  ps : List SpecF := []
  nw : List SpecF := []
  xs : List SpecX := []
  hs : List (Env → List T → (T → Prop) → Prop) := []
  sh : List (Env → List T → EnD → Prop) := []
  ht : List (Env → List T → (Bool → Prop) → Prop) := []
  ex : Nat → List D → Prop := fun _ _ => False
  xd : Nat → Bool := fun _ => false
  xf : Nat → List Str := fun _ => []
  xa : Nat → Nat → Bool := fun _ _ => false
mutual
/-- the value -/
noncomputable def w (S : Sg) : I → Env → (T → Prop) → Prop
  | .nm i, ρ, Φ => match ρ.at i with
    | some (.leaf d) => Φ (.leaf d)
    | _ => False
  | .ow i, ρ, Φ => match ρ.at i with
    | some t => Φ (.vw t.dat)
    | none => False
  | .gl k, _, Φ => ∃ d, S.gs[k]? = some d ∧ Φ (.leaf d)
  | .int n, _, Φ => Φ (.leaf (.int n))
  | .str s, _, Φ => Φ (.leaf (.str s))
  | .bl b, _, Φ => Φ (.leaf (.bl b))
  | .non, _, Φ => Φ (.leaf .non)
  | .tup es, ρ, Φ => wa S es ρ fun us => us.length ≤ 100000 ∧ Φ (T.mk us)
  | .lst es, ρ, Φ => wa S es ρ fun us => us.length ≤ 100000 ∧ Φ (.lst us)
  | .bin o x y, ρ, Φ => w S x ρ fun t => w S y ρ fun u => binT o t u Φ
  | .neg x, ρ, Φ => w S x ρ fun t => ∃ i, t.dat = .int i ∧ Φ (.leaf (.int (-i)))
  | .not x, ρ, Φ => w S x ρ fun t => ∃ b, t.dat = .bl b ∧ Φ (.leaf (.bl !b))
  | .cmp o x y, ρ, Φ => w S x ρ fun t => w S y ρ fun u => cmpD o t.dat u.dat fun b => Φ (.leaf (.bl b))
  | .chn o o' x y z, ρ, Φ => w S x ρ fun t => w S y ρ fun u => cmpD o t.dat u.dat fun b => if b = true then w S z ρ fun v => cmpD o' u.dat v.dat fun b => Φ (.leaf (.bl b)) else Φ (.leaf (.bl false))
  | .and x r, ρ, Φ => w S x ρ fun t => ∃ b, t.dat = .bl b ∧ if b = true then w S r ρ Φ else Φ (.leaf (.bl false))
  | .or x r, ρ, Φ => w S x ρ fun t => ∃ b, t.dat = .bl b ∧ if b = true then Φ (.leaf (.bl true)) else w S r ρ Φ
  | .one x, ρ, Φ => w S x ρ Φ
  | .orv x r, ρ, Φ => w S x ρ fun t => ∃ b, t.dat.truth = some b ∧ if b = true then Φ t else w S r ρ Φ
  | .srtS x, ρ, Φ => w S x ρ fun t => srtS t Φ
  | .ife t x y, ρ, Φ => wt S t ρ fun b => if b = true then w S x ρ Φ else w S y ρ Φ
  | .ix x y, ρ, Φ => w S x ρ fun t => w S y ρ fun u => ixT t u.dat Φ
  | .sl x lo hi, ρ, Φ => w S x ρ fun t => wo S lo ρ fun l => wo S hi ρ fun h => slT t l h Φ
  | .call k es, ρ, Φ => ∃ f, S.fs[k]? = some f ∧ wv S es ρ fun us => frozs S.z us fun ds => f ds Φ
  | .callX k es, ρ, Φ => ∃ f, S.xs[k]? = some f ∧ wv S es ρ fun us => frozs S.z us fun ds => f ds Φ S.ex
  | .callO k es, ρ, Φ => ∃ f, S.fs[k]? = some f ∧ wv S es ρ fun us => frozs S.z us fun ds => D.cleans ds = true ∧ f ds fun t => T.thawOk ds t ∧ Φ t.thaw
  | .callB k es, ρ, Φ => ∃ f, S.fs[k]? = some f ∧ wv S es ρ fun us => D.cleans (T.dats us) = true ∧ f (T.dats us) fun t => ∃ d, t = .leaf d ∧ d.okP us = true ∧ Φ (.leaf d)
  | .un o x, ρ, Φ => w S x ρ fun t => unT o t Φ
  | .blt f es, ρ, Φ => wv S es ρ fun us => bltT f us Φ
  | .lc own g src cond elt, ρ, Φ => ρ.wipes own = ρ ∧ wi S src ρ fun ds => ds.length ≤ 100000 ∧ lcW g (wc S cond) (w S elt) ρ ds [] fun us => Φ (.lst us)
  | .eqO k cl x y, ρ, Φ => ∃ f, S.ms[k]? = some f ∧ w S x ρ fun t => w S y ρ fun u => ∃ fs gs, t = .leaf (.obj cl fs) ∧ u = .leaf (.obj cl gs) ∧ f [.obj cl fs, .obj cl gs] fun r => ∃ b, r = .leaf (.bl b) ∧ Φ (.leaf (.bl b))
  | .isC cl x, ρ, Φ => w S x ρ fun t => (∃ fs, t = .leaf (.obj cl fs)) ∧ Φ (.leaf (.bl true))
  | .fld cl i x, ρ, Φ => w S x ρ fun t => ∃ fs d, t = .leaf (.obj cl fs) ∧ fs[i]? = some d ∧ Φ (.leaf d)
  | .mth k cl x es, ρ, Φ => ∃ f, S.ms[k]? = some f ∧ w S x ρ fun t => ∃ fs, t = .leaf (.obj cl fs) ∧ wv S es ρ fun us => frozs S.z us fun ds => f (.obj cl fs :: ds) Φ
  | .mt0 k cl x, ρ, Φ => ∃ f, S.ms[k]? = some f ∧ w S x ρ fun t => ∃ fs, t = .leaf (.obj cl fs) ∧ f [.obj cl fs] Φ
  | .prp k cl x, ρ, Φ => ∃ f, S.ps[k]? = some f ∧ w S x ρ fun t => ∃ fs, t = .leaf (.obj cl fs) ∧ f [.obj cl fs] Φ
  | .new k es, ρ, Φ => ∃ f, S.nw[k]? = some f ∧ wv S es ρ fun us => frozs S.z us fun ds => f ds Φ
  | .isi ty x, ρ, Φ => w S x ρ fun t => ∃ b, t.dat.isT ty = some b ∧ Φ (.leaf (.bl b))
  | .lr1 x, ρ, Φ => w S x ρ fun t => ∃ j, t.dat = .int j ∧ RgS 0 j ∧ Φ (rgT 0 j)
  | .lr2 x y, ρ, Φ => w S x ρ fun t => w S y ρ fun u => ∃ i j, t.dat = .int i ∧ u.dat = .int j ∧ RgS i j ∧ Φ (rgT i j)
  | .hk k es, ρ, Φ => ∃ f, S.hs[k]? = some f ∧ wv S es ρ fun us => f ρ us Φ
  | .lent i xs x, ρ, Φ => ∃ u, ρ.at i = some u ∧ u.dat.clean = true ∧ w S x (lentE ρ i u.dat xs) fun t => t.fl = true ∧ Φ t
  | .ixo i y, ρ, Φ => ∃ us, ρ.at i = some (.lst us) ∧ w S y ρ fun t => ∃ n d, t.dat = .int n ∧ L2.atI us n = some (.leaf d) ∧ Φ (.leaf d)
  | .val _, _, _ => False
  | .nil, _, _ => False
  | .cons _ _, _, _ => False
  | .nop, _, _ => False
  | .prt _, _, _ => False
  | .sq _, _, _ => False
  | .rng _, _, _ => False
  | .zip _, _, _ => False
  | .enm _, _, _ => False
/-- the test -/
noncomputable def wt (S : Sg) : I → Env → (Bool → Prop) → Prop
  | .not x, ρ, Ψ => wt S x ρ fun b => Ψ !b
  | .and x r, ρ, Ψ => wt S x ρ fun b => if b = true then wt S r ρ Ψ else Ψ false
  | .or x r, ρ, Ψ => wt S x ρ fun b => if b = true then Ψ true else wt S r ρ Ψ
  | .lent i xs x, ρ, Ψ => ∃ u, ρ.at i = some u ∧ u.dat.clean = true ∧ wt S x (lentE ρ i u.dat xs) Ψ
  | .one x, ρ, Ψ => wt S x ρ Ψ
  | .cmp o x y, ρ, Ψ => w S x ρ fun t => w S y ρ fun u => cmpD o t.dat u.dat Ψ
  | .chn o o' x y z, ρ, Ψ => w S x ρ fun t => w S y ρ fun u => cmpD o t.dat u.dat fun b => if b = true then w S z ρ fun v => cmpD o' u.dat v.dat Ψ else Ψ false
  | .val x, ρ, Ψ => w S x ρ fun t => tru t Ψ
  | .hk k es, ρ, Ψ => ∃ f, S.ht[k]? = some f ∧ wv S es ρ fun us => f ρ us Ψ
  | .eqO k cl x y, ρ, Ψ => ∃ f, S.ms[k]? = some f ∧ w S x ρ fun t => w S y ρ fun u => ∃ fs gs, t = .leaf (.obj cl fs) ∧ u = .leaf (.obj cl gs) ∧ f [.obj cl fs, .obj cl gs] fun r => ∃ b, r = .leaf (.bl b) ∧ Ψ b
  | _, _, _ => False
/-- a comprehension's test -/
noncomputable def wc (S : Sg) : I → Env → (Bool → Prop) → Prop
  | .nop, _, Ψ => Ψ true
  | .one x, ρ, Ψ => wt S x ρ Ψ
  | _, _, _ => False
/-- what is laid -/
noncomputable def wa (S : Sg) : I → Env → (List T → Prop) → Prop
  | .nil, _, Ψ => Ψ []
  | .cons e r, ρ, Ψ => w S e ρ fun t => t.fin fun u => wa S r ρ fun us => Ψ (u :: us)
  | _, _, _ => False
/-- what is handed in -/
noncomputable def wv (S : Sg) : I → Env → (List T → Prop) → Prop
  | .nil, _, Ψ => Ψ []
  | .cons e r, ρ, Ψ => w S e ρ fun t => wv S r ρ fun us => Ψ (t :: us)
  | _, _, _ => False
noncomputable def wo (S : Sg) : I → Env → (Option Int → Prop) → Prop
  | .nop, _, Ψ => Ψ none
  | .prt x, ρ, Ψ => w S x ρ fun t => ∃ i, t.dat = .int i ∧ Ψ (some i)
  | _, _, _ => False
/-- what is walked -/
noncomputable def wi (S : Sg) : I → Env → (List D → Prop) → Prop
  | .sq x, ρ, Ψ => w S x ρ fun t => t.froz S.z fun d => ∃ ds, d.items = some ds ∧ Ψ ds
  | .rng es, ρ, Ψ => wv S es ρ fun us => rngW (T.dats us) Ψ
  | .zip es, ρ, Ψ => wv S es ρ fun us => frozs S.z us fun ds => zipW ds Ψ
  | .enm es, ρ, Ψ => wv S es ρ fun us => frozs S.z us fun ds => ∃ xs, enmOk ds xs ∧ Ψ (enumFrom 0 xs)
  | _, _, _ => False
end
end DL
namespace DL
open PySem PySem.Spec PyProof.Rows L2

/-- the names of a def, the defs, constants and built-ins that it reads -/
structure Cn extends Ct where
  fn : List Str
  gl : List Str
  bs : List Str
  ms : List (Nat × Str) := []
  ps : List (Nat × Str) := []
  nw : List Str := []
  fd : List (Nat × Nat × Str) := []
  ic : List (Nat × Str) := []
  xs : List Str := []
  xk : List (Nat × Str × Option Str) := []
  rz : Bool := false
  xc : List (Nat × Str × Str) := []
  xt : Bool := false
  xp : Str := ""
  xn : List Str := []
  hp : List (Ct → Expr → Option (List Expr)) := []
  sp : List (Ct → Stmt → Option (List Expr)) := []
  tp : List (Ct → Expr → Option (List Expr)) := []
noncomputable abbrev Cn.inn (c : Cn) (scope : Scope) : Cn := { c with toCt := c.toCt.inn scope, xs := [], rz := false, xc := [], xt := false, hp := [], sp := [], tp := [] }
noncomputable def Cn.off (c : Cn) : Bool := c.xs.isEmpty && (!c.rz && (c.xc.isEmpty && (!c.xt && (c.hp.isEmpty && (c.sp.isEmpty && c.tp.isEmpty)))))
noncomputable def plainName (x : Str) : Bool := !(x == ("__debug__" : Str)) && !(x == ("__classdict__" : Str)) && !(x == ("__name__" : Str))
noncomputable def ownOf (c : Cn) (sl : List Nat) : List (Str × Nat) := sl.filterMap fun i => c.N[i]?.map fun x => (x, i)
noncomputable def isRange (x : Str) : Bool := x == ("range" : Str)
/-- the operand, where it is written so -/
noncomputable def Uop.pat (c : Cn) : Uop → Expr → Option Expr
  | .rev, e => match e with
    | .Subscript a (.Slice none none (some (.UnaryOp .USub (.Constant (.int n) _ _) _)) _) _ => if n = 1 then some a else none
    | _ => none
mutual
/-- the expression is written so -/
noncomputable def okE (c : Cn) : I → Expr → Bool
  | .nm i, e => match e with | .Name x _ => nameIs c.toCt i x && c.vis x && plainName x | _ => false
  | .ow i, e => match e with | .Name x _ => nameIs c.toCt i x && c.vis x && plainName x | _ => false
  | .gl k, e => match e with | .Name x _ => decide (c.gl[k]? = some x) && c.glo x && plainName x | _ => false
  | .int n, e => match e with | .Constant (.int m) _ _ => n == m | _ => false
  | .str n, e => match e with | .Constant (.str m) _ _ => n == m | _ => false
  | .bl n, e => match e with | .Constant (.bool m) _ _ => n == m | _ => false
  | .non, e => match e with | .Constant .none _ _ => true | _ => false
  | .tup es, e => match e with | .Tuple xs _ _ => okA c es xs | _ => false
  | .lst es, e => match e with | .List xs _ => okA c es xs | _ => false
  | .bin o x y, e => match e with | .BinOp a op b _ => decide (op = o.op) && okE c x a && okE c y b | _ => false
  | .neg x, e => match e with | .UnaryOp .USub a _ => okE c x a | _ => false
  | .not x, e => match e with | .UnaryOp .Not a _ => okE c x a | _ => false
  | .cmp o x y, e => match e with | .Compare a [op] [b] _ => decide (op = o.op) && notSet b && okE c x a && okE c y b | _ => false
  | .chn o o' x y z, e => match e with | .Compare a [op, op'] [b, d] _ => decide (op = o.op) && decide (op' = o'.op) && notSet d && okE c x a && okE c y b && okE c z d | _ => false
  | .and x r, e => match e with | .BoolOp .And (a :: b :: es) p => okE c x a && okE c r (.BoolOp .And (b :: es) p) | _ => false
  | .or x r, e => match e with | .BoolOp .Or (a :: b :: es) p => okE c x a && okE c r (.BoolOp .Or (b :: es) p) | _ => false
  | .one x, e => match e with | .BoolOp _ [a] _ => okE c x a | _ => false
  | .orv x r, e => false
  | .srtS x, e => false
  | .ife t x y, e => match e with | .IfExp d a b _ => okT c t d && okE c x a && okE c y b | _ => false
  | .ix x y, e => match e with | .Subscript a b _ => notSlice b && okE c x a && okE c y b | _ => false
  | .sl x lo hi, e => match e with | .Subscript a (.Slice l h none _) _ => okE c x a && okO c lo l && okO c hi h | _ => false
  | .call k es, e => match e with | .Call (.Name x _) (a :: as) [] _ => decide (c.fn[k]? = some x) && c.glo x && plainName x && (a :: as).all notStar && okA c es (a :: as) | _ => false
  | .callX k es, e => false
  | .callO k es, e => false
  | .callB k es, e => match e with | .Call (.Name x _) (a :: as) [] _ => decide (c.fn[k]? = some x) && c.glo x && plainName x && (a :: as).all notStar && okA c es (a :: as) | _ => false
  | .un o x, e => false
  | .blt f es, e => match e with | .Call (.Name x _) (a :: as) [] _ => decide (x = f.nm) && decide (x ∈ c.bs) && c.glo x && (a :: as).all notStar && okA c es (a :: as) | _ => false
  | .lc own g src cond elt, e => match e with
    | .ListComp el [⟨tg, it, ifs, 0⟩] scope _ => blkC c.N c.sc scope (ownOf c own) && decide ((ownOf c own).map (·.2) = own) && okG (c.inn scope).toCt g tg && g.slots.all (fun i => own.contains i) && notSet it && okI c src tg it && okC (c.inn scope) cond ifs && okE (c.inn scope) elt el
    | _ => false
  | .eqO k cl x y, e => false
  | .isC cl x, e => match e with
    | .Call (.Name f _) [a, .Name y _] [] _ => (f == ("isinstance" : Str)) && decide (f ∈ c.bs) && c.glo f && decide ((cl, y) ∈ c.ic) && plainName y && c.glo y && notStar a && okE c x a
    | _ => false
  | .fld cl i x, e => match e with
    | .Attribute o n _ => decide ((cl, i, n) ∈ c.fd) && baseOk o && okE c x o
    | _ => false
  | .mth k cl x es, e => match e with
    | .Call (.Attribute o m ap) (a :: as) [] pos => decide (c.ms[k]? = some (cl, m)) && baseOk o && (ap.endLine == pos.line) && Nat.blt (a :: as).length 30 && (a :: as).all notStar && okA c es (a :: as) && okE c x o
    | _ => false
  | .mt0 k cl x, e => match e with
    | .Call (.Attribute o m ap) [] [] pos => decide (c.ms[k]? = some (cl, m)) && baseOk o && (ap.endLine == pos.line) && okE c x o
    | _ => false
  | .prp k cl x, e => false
  | .new k es, e => match e with
    | .Call (.Name x _) (a :: as) [] _ => decide (c.nw[k]? = some x) && c.glo x && plainName x && (a :: as).all notStar && okA c es (a :: as)
    | _ => false
  | .isi ty x, e => match e with
    | .Call (.Name f _) [a, .Name y _] [] _ => (f == ("isinstance" : Str)) && decide (f ∈ c.bs) && c.glo f && decide (y = ty.nm) && decide (y ∈ c.bs) && c.glo y && notStar a && okE c x a
    | _ => false
  | .lr1 x, e => false
  | .lr2 x x', e => false
  | .hk k es, e => match c.hp[k]? with | some pat => (match pat c.toCt e with | some as => okA c es as | none => false) | none => false
  | .lent _ _ x, e => false
  | .ixo i y, e => match e with | .Subscript (.Name n _) b _ => nameIs c.toCt i n && c.vis n && plainName n && notSlice b && okE c y b | _ => false
  | .val _, _ => false
  | .nil, _ => false
  | .cons _ _, _ => false
  | .nop, _ => false
  | .prt _, _ => false
  | .sq _, _ => false
  | .rng _, _ => false
  | .zip _, _ => false
  | .enm _, _ => false
noncomputable def okT (c : Cn) : I → Expr → Bool
  | .not x, e => match e with | .UnaryOp .Not a _ => okT c x a | _ => false
  | .and x r, e => match e with | .BoolOp .And (a :: b :: es) _ => okT c x a && okW c r .And (b :: es) | _ => false
  | .or x r, e => match e with | .BoolOp .Or (a :: b :: es) _ => okT c x a && okW c r .Or (b :: es) | _ => false
  | .cmp o x y, e => match e with | .Compare a [op] [b] _ => decide (op = o.op) && notSet b && okE c x a && okE c y b | _ => false
  | .chn o o' x y z, e => match e with | .Compare a [op, op'] [b, d] _ => decide (op = o.op) && decide (op' = o'.op) && notSet d && okE c x a && okE c y b && okE c z d | _ => false
  | .lent _ _ x, e => c.off && (c.gl.isEmpty && okT c x e)
  | .val x, e => plainTest e && okE c x e
  | .hk k es, e => match c.tp[k]? with | some pat => (match pat c.toCt e with | some as => okA c es as | none => false) | none => false
  | .eqO k cl x y, e => match e with | .Compare a [.Eq] [b] _ => decide (c.ms[k]? = some (cl, ("__eq__" : Str))) && notSet b && okE c x a && okE c y b | _ => false
  | _, _ => false
noncomputable def okW (c : Cn) : I → PySem.BoolOp → List Expr → Bool
  | .and x r, op, es => match op, es with | .And, a :: b :: es => okT c x a && okW c r .And (b :: es) | _, _ => false
  | .or x r, op, es => match op, es with | .Or, a :: b :: es => okT c x a && okW c r .Or (b :: es) | _, _ => false
  | .one x, _, es => match es with | [a] => okT c x a | _ => false
  | _, _, _ => false
noncomputable def okC (c : Cn) : I → List Expr → Bool
  | .nop, es => match es with | [] => true | _ => false
  | .one x, es => match es with | [a] => okT c x a | _ => false
  | _, _ => false
noncomputable def okA (c : Cn) : I → List Expr → Bool
  | .nil, es => match es with | [] => true | _ => false
  | .cons e r, es => match es with | a :: as => notStar a && okE c e a && okA c r as | _ => false
  | _, _ => false
noncomputable def okO (c : Cn) : I → Option Expr → Bool
  | .nop, e => match e with | none => true | _ => false
  | .prt x, e => match e with | some a => okE c x a | _ => false
  | _, _ => false
noncomputable def okI (c : Cn) : I → Expr → Expr → Bool
  | .sq x, _, e => okE c x e
  | .rng es, _, e => match e with
    | .Call (.Name x _) as [] _ => isRange x && decide (x ∈ c.bs) && c.glo x && as.all notStar && okA c es as && (as.length == 1 || as.length == 2 || as.length == 3)
    | _ => false
  | .zip es, tg, e => match e with
    | .Call (.Name x _) [a, b] [] _ => (x == ("zip" : Str)) && decide (x ∈ c.bs) && c.glo x && isTup tg && [a, b].all notStar && okA c es [a, b]
    | _ => false
  | .enm es, tg, e => match e with
    | .Call (.Name x _) [a] [] _ => (x == ("enumerate" : Str)) && decide (x ∈ c.bs) && c.glo x && isTup tg && [a].all notStar && okA c es [a]
    | _ => false
  | _, _, _ => false
end
noncomputable def Mono (f : SpecF) : Prop := ∀ ds (Φ Ψ : T → Prop), (∀ t, Φ t → Ψ t) → f ds Φ → f ds Ψ
/-- operands, one after the other -/
noncomputable def DQ (a : An0) (X : Cx) (ρ : Env) : List Expr → (List T → Prop) → Prop
  | [], Ψ => Ψ []
  | e :: r, Ψ => DE a X ρ e fun t => DQ a X ρ r fun us => Ψ (t :: us)
/-- a form of its own: where it is written so, its operands' reading gives its own -/
noncomputable def HkAt (a : An0) (X : Cx) (ct : Ct) (pat : Ct → Expr → Option (List Expr)) (f : Env → List T → (T → Prop) → Prop) : Prop :=
  ∀ (b : An0) (pn : List (Addr × Obj)) (xe : Value → Shared → Prop), b.toAn = a.toAn → PassesOwn (model X.prog X.w) X.A X.env xe → ∀ e as, pat ct e = some as → ∀ ρ (Φ : T → Prop), DQ b (X.tr pn xe) ρ as (fun us => f ρ us Φ) → DE b (X.tr pn xe) ρ e Φ
/-- a test of its own form -/
noncomputable def HtAt (a : An0) (X : Cx) (ct : Ct) (pat : Ct → Expr → Option (List Expr)) (f : Env → List T → (Bool → Prop) → Prop) : Prop :=
  ∀ (b : An0) (pn : List (Addr × Obj)) (xe : Value → Shared → Prop), b.toAn = a.toAn → PassesOwn (model X.prog X.w) X.A X.env xe → ∀ e as, pat ct e = some as → ∀ ρ (Ψ : Bool → Prop), DQ b (X.tr pn xe) ρ as (fun us => f ρ us Ψ) → DT b (X.tr pn xe) ρ e Ψ
structure EnD.Le (K K' : EnD) : Prop where
  nx : ∀ ρ, K.nx ρ → K'.nx ρ
  rt : ∀ t ρ, K.rt t ρ → K'.rt t ρ
  bk : ∀ ρ, K.bk ρ → K'.bk ρ
  ct : ∀ ρ, K.ct ρ → K'.ct ρ
/-- a statement of its own form -/
noncomputable def ShAt (a : An0) (X : Cx) (ct : Ct) (pat : Ct → Stmt → Option (List Expr)) (f : Env → List T → EnD → Prop) : Prop :=
  (∀ ρ us (K K' : EnD), K.Le K' → f ρ us K → f ρ us K') ∧
  ∀ (b : An0) (pn : List (Addr × Obj)) (xe : Value → Shared → Prop), b.toAn = a.toAn → b.M = a.M → b.W = [] → PassesOwn (model X.prog X.w) X.A X.env xe → ∀ s as, pat ct s = some as → ∀ ρ (K : EnD), DQ b (X.tr pn xe) ρ as (fun us => f ρ us K) → DS b (X.tr pn xe) ρ s K
/-- what is said of exceptions here -/
structure XpOk (c : Cn) (S : Sg) (a : An0) (X : Cx) : Prop where
  xs : ∀ (k : Nat) x f, c.xs[k]? = some x → S.xs[k]? = some f → FnAtX a X x f ∧ MonoX f
  rz : c.rz = true → TryOk X ∧ Takes X (Wx a S.ex)
  xk : c.rz = true → ∀ q ∈ c.xk, ∀ f, S.xs[q.1]? = some f → FnAtK a X q.2.1 q.2.2 f ∧ MonoX f
  xc : ∀ q ∈ c.xc, ExcKK a X q.2.1 q.1 q.2.2
  xh : c.xt = true → ∃ cP, Names X c.xp cP ∧ ∀ cl, S.xd cl = true → ∃ C, a.cls cl = some (C, S.xf cl) ∧ PySem.W.exmOne X.K (.ref C) cP = some true ∧ ExcT X.K C ∧ HdOk X c.xn C (S.xa cl) (S.xf cl)
  hk : ∀ (k : Nat) pat f, c.hp[k]? = some pat → S.hs[k]? = some f → HkAt a X c.toCt pat f
  sh : ∀ (k : Nat) pat f, c.sp[k]? = some pat → S.sh[k]? = some f → ShAt a X c.toCt pat f
  ht : ∀ (k : Nat) pat f, c.tp[k]? = some pat → S.ht[k]? = some f → HtAt a X c.toCt pat f
theorem XpOk.off {c : Cn} {S : Sg} {a : An0} {X : Cx} (h : c.off = true) : XpOk c S a X := by
  simp only [Cn.off, Bool.and_eq_true, Bool.not_eq_true', List.isEmpty_iff] at h
  obtain ⟨h1, h2, h3, h4, h5, h6, h7⟩ := h
  exact ⟨fun k x f q => (by rw [h1] at q; simp at q), fun q => (by rw [h2] at q; cases q), fun q => (by rw [h2] at q; cases q), fun q hq => (by rw [h3] at hq; cases hq), fun q => (by rw [h4] at q; cases q), fun k pat f q => (by rw [h5] at q; simp at q), fun k pat f q => (by rw [h6] at q; simp at q), fun k pat f q => (by rw [h7] at q; simp at q)⟩
/-- all that a body needs -/
structure Good (c : Cn) (S : Sg) (a : An0) (X : Cx) : Prop where
  xo : XOk a X
  co : COk c.toCt X
  io : S.z = true → NoIo a
  hk : X.env.scope.kind = .function
  fns : ∀ (k : Nat) x f, c.fn[k]? = some x → S.fs[k]? = some f → FnAt a X x f ∧ Mono f
  gls : ∀ (k : Nat) x d, c.gl[k]? = some x → S.gs[k]? = some d → ∃ v u, X.mg x = some u ∧ RelV v u ∧ ∀ F, Is a.toAn F d v
  bs : ∀ x ∈ c.bs, X.mg x = none
  ms : ∀ (k : Nat) q f, c.ms[k]? = some q → S.ms[k]? = some f → MtAt a X q.1 q.2 f ∧ Mono f
  ps : ∀ (k : Nat) q f, c.ps[k]? = some q → S.ps[k]? = some f → PrAt a X q.1 q.2 f ∧ Mono f
  nw : ∀ (k : Nat) x f, c.nw[k]? = some x → S.nw[k]? = some f → NwAt a X x f ∧ Mono f
  fd : ∀ q ∈ c.fd, FdAt a X q.1 q.2.1 q.2.2
  ic : ∀ q ∈ c.ic, InAt a X q.1 q.2
  xp : XpOk c S a X
section
variable {c : Cn} {S : Sg} {a : An0} {X : Cx} {ρ : Env} {Φ : T → Prop}
theorem XpOk.to {b : An0} (ht : b.toAn = a.toAn) (hM : b.M = a.M) (hs : ∀ ρ σ ts vs H, SOk b ρ σ ts vs H → SOk a ρ σ ts vs H) (g : XpOk c S a X) : XpOk c S b X :=
  have hK : b.K = a.K := by rw [ht]
  have hc : b.cls = a.cls := by rw [ht]
  ⟨fun k x f h1 h2 => ⟨⟨by rw [hK, hc]; exact (g.xs k x f h1 h2).1.ex⟩, (g.xs k x f h1 h2).2⟩,
    fun h => ⟨(g.rz h).1, (g.rz h).2.imp fun cv d σ H ⟨c, fs, ρ, e, x, o⟩ => ⟨c, fs, ρ, e, by rw [← hc]; exact x, hs _ _ _ _ _ o⟩⟩,
    fun h q hq f hf => ⟨by unfold FnAtK; rw [hK, hc]; exact (g.xk h q hq f hf).1, (g.xk h q hq f hf).2⟩,
    fun q h => ⟨by rw [hc]; exact (g.xc q h).ex⟩, fun h => by rw [hc]; exact g.xh h, fun k pat f h1 h2 b2 pn xe e2 => g.hk k pat f h1 h2 b2 pn xe (e2.trans ht), fun k pat f h1 h2 => ⟨(g.sh k pat f h1 h2).1, fun b2 pn xe e2 eM => (g.sh k pat f h1 h2).2 b2 pn xe (e2.trans ht) (eM.trans hM)⟩, fun k pat f h1 h2 b2 pn xe e2 => g.ht k pat f h1 h2 b2 pn xe (e2.trans ht)⟩
theorem Good.lent {F1 H : Hp} (off : c.off = true) (gl : c.gl = []) (g : Good c S a X) : Good c S (lA a F1 H) X :=
  ⟨g.xo.lent, g.co, fun _ p hp => hp, g.hk, fun i x f h1 h2 => ⟨⟨(g.fns i x f h1 h2).1.ex⟩, (g.fns i x f h1 h2).2⟩, fun i x d h1 _ => by rw [gl] at h1; simp at h1, g.bs, fun i q f h1 h2 => ⟨⟨(g.ms i q f h1 h2).1.ex⟩, (g.ms i q f h1 h2).2⟩, fun i q f h1 h2 => ⟨⟨(g.ps i q f h1 h2).1.ex⟩, (g.ps i q f h1 h2).2⟩,
    fun i q f h1 h2 => ⟨⟨(g.nw i q f h1 h2).1.ex⟩, (g.nw i q f h1 h2).2⟩, fun q h => ⟨(g.fd q h).ex⟩, fun q h => ⟨(g.ic q h).ex⟩, .off off⟩
theorem Good.on {H F : Hp} (g : Good c S a X) : Good c S (a.on H F) X := ⟨g.xo.on, g.co, g.io, g.hk, fun k x f h1 h2 => ⟨(g.fns k x f h1 h2).1.on, (g.fns k x f h1 h2).2⟩, g.gls, g.bs, fun k q f h1 h2 => ⟨⟨(g.ms k q f h1 h2).1.ex⟩, (g.ms k q f h1 h2).2⟩, fun k q f h1 h2 => ⟨⟨(g.ps k q f h1 h2).1.ex⟩, (g.ps k q f h1 h2).2⟩, fun k q f h1 h2 => ⟨⟨(g.nw k q f h1 h2).1.ex⟩, (g.nw k q f h1 h2).2⟩, fun q h => ⟨(g.fd q h).ex⟩, fun q h => ⟨(g.ic q h).ex⟩, XpOk.to (a := a) (b := a.on H F) rfl rfl (fun _ _ _ _ _ ⟨F, Sc, Sm, w⟩ => ⟨F, Sc, Sm, w.off⟩) g.xp⟩
theorem Good.onV {F : Hp} (g : Good c S a X) : Good c S (a.onV F) X := ⟨g.xo.onV, g.co, g.io, g.hk, fun k x f h1 h2 => ⟨⟨(g.fns k x f h1 h2).1.ex⟩, (g.fns k x f h1 h2).2⟩, g.gls, g.bs, fun k q f h1 h2 => ⟨⟨(g.ms k q f h1 h2).1.ex⟩, (g.ms k q f h1 h2).2⟩, fun k q f h1 h2 => ⟨⟨(g.ps k q f h1 h2).1.ex⟩, (g.ps k q f h1 h2).2⟩, fun k q f h1 h2 => ⟨⟨(g.nw k q f h1 h2).1.ex⟩, (g.nw k q f h1 h2).2⟩, fun q h => ⟨(g.fd q h).ex⟩, fun q h => ⟨(g.ic q h).ex⟩, XpOk.to (a := a) (b := a.onV F) rfl rfl (fun _ _ _ _ _ o => o.offV) g.xp⟩
theorem Good.blk {scope : Scope} (sk : scope.kind = .function) {s : Shared} {H : Hp} {C : Addr} {cl : List (Str × Addr)} {fp : List Addr} (g : Good c S a X) : Good (c.inn scope) S a (Blk X scope s H C cl fp) :=
  ⟨g.xo.blk, g.co.blk, g.io, sk, fun k x f h1 h2 => ⟨(g.fns k x f h1 h2).1.blk, (g.fns k x f h1 h2).2⟩, g.gls, g.bs, fun k q f h1 h2 => ⟨⟨(g.ms k q f h1 h2).1.ex⟩, (g.ms k q f h1 h2).2⟩, fun k q f h1 h2 => ⟨⟨(g.ps k q f h1 h2).1.ex⟩, (g.ps k q f h1 h2).2⟩, fun k q f h1 h2 => ⟨⟨(g.nw k q f h1 h2).1.ex⟩, (g.nw k q f h1 h2).2⟩, fun q h => ⟨(g.fd q h).ex⟩, fun q h => ⟨(g.ic q h).ex⟩, .off rfl⟩
theorem plain_of {x : Str} (h : plainName x = true) : (x == ("__debug__" : Str)) = false ∧ (x == ("__classdict__" : Str)) = false ∧ x ≠ ("__name__" : Str) := by
  unfold plainName at h
  simp only [Bool.and_eq_true, Bool.not_eq_true'] at h
  exact ⟨h.1.1, h.1.2, fun e => by rw [e] at h; simp at h⟩
theorem blk_kind {N : List Str} {sc scope : Scope} {own : List (Str × Nat)} (h : blkC N sc scope own = true) : scope.kind = .function := (blkOk_by h).kind
end
end DL
namespace DL
open PySem PySem.Spec PyProof.Rows L2
section
variable {c : Cn} {S : Sg} {a : An0} {X : Cx} {ρ : Env}
theorem DE.mono {e : Expr} {Φ Ψ : T → Prop} (h : DE a X ρ e Φ) (i : ∀ t, Φ t → Ψ t) : DE a X ρ e Ψ := fun σ H ts vs Q ok k => h σ H ts vs Q ok fun v t H' q ok' => k v t H' (i t q) ok'
theorem DT.mono {e : Expr} {Φ Ψ : Bool → Prop} (h : DT a X ρ e Φ) (i : ∀ t, Φ t → Ψ t) : DT a X ρ e Ψ := fun σ H ts vs Q ok k => h σ H ts vs Q ok fun b H' q ok' => k b H' (i b q) ok'
theorem DA.mono {e : List Expr} {Φ Ψ : List T → Prop} (h : DA a X ρ e Φ) (i : ∀ t, Φ t → Ψ t) : DA a X ρ e Ψ := fun σ H ts vs Q ok k => h σ H ts vs Q ok fun ws us H' q n l ok' => k ws us H' (i us q) n l ok'
theorem DV.mono {e : List Expr} {Φ Ψ : List T → Prop} (h : DV a X ρ e Φ) (i : ∀ t, Φ t → Ψ t) : DV a X ρ e Ψ := fun σ H ts vs Q ok k => h σ H ts vs Q ok fun ws us H' q l ok' => k ws us H' (i us q) l ok'
theorem DO.mono {e : Option Expr} {Φ Ψ : Option Int → Prop} (h : DO a X ρ e Φ) (i : ∀ t, Φ t → Ψ t) : DO a X ρ e Ψ := fun σ H ts vs Q ok k => h σ H ts vs Q ok fun o H' q ok' => k o H' (i o q) ok'
theorem fin_mono {t : T} {Φ Ψ : T → Prop} (i : ∀ t, Φ t → Ψ t) (h : t.fin Φ) : t.fin Ψ := by
  cases t with
  | vw d => exact ⟨h.1, i _ h.2⟩
  | reg R => exact i _ h
  | leaf d => exact i _ h
  | lst us => exact i _ h
  | tup us => exact i _ h
theorem ite_mono {b : Bool} {p q p' q' : Prop} (h1 : p → p') (h2 : q → q') (h : if b = true then p else q) : if b = true then p' else q' := by
  cases b with
  | true => rw [if_pos rfl] at h ⊢; exact h1 h
  | false => rw [if_neg (by decide)] at h ⊢; exact h2 h
theorem cmp_mono {o : Cop} {x y : D} {Φ Ψ : Bool → Prop} (i : ∀ b, Φ b → Ψ b) (h : cmpD o x y Φ) : cmpD o x y Ψ := by
  have one : ∀ (o : Cop) (x y : D), cmpD o x y Φ → cmpD o x y Ψ := fun o x y h => by
    unfold cmpD at h ⊢
    split at h <;> first
      | exact i _ h
      | exact ⟨h.1, h.2.1, i _ h.2.2⟩
      | exact h.elim (fun ⟨s, t, e1, e2, q⟩ => .inl ⟨s, t, e1, e2, i _ q⟩) fun h => .inr ⟨h.1, h.2.1, i _ h.2.2⟩
      | (obtain ⟨c, e, q⟩ := h; exact ⟨c, e, i _ q⟩)
      | (obtain ⟨ns, ms, e1, e2, q⟩ := h; exact ⟨ns, ms, e1, e2, i _ q⟩)
      | exact h.elim
  exact one o x y h
noncomputable def DC (a : An0) (X : Cx) (ρ : Env) (es : List Expr) (Ψ : Bool → Prop) : Prop := ∀ σ H ts vs Q, SOk a ρ σ ts vs H → (∀ b H', Ψ b → SOk a ρ σ ts vs H' → Q b H') → ∃ t, PTs X es t ∧ t σ H Q
theorem rng1_of {us : List T} {Ψ : List D → Prop} (h : us.length = 1 ∧ rngW (T.dats us) Ψ) : ∃ j, T.dats us = [.int j] ∧ (-(2 ^ 62) ≤ j ∧ j < 2 ^ 62) ∧ Ψ ((List.range j.toNat).map fun (i : Nat) => .int i) := by
  obtain ⟨l, h⟩ := h
  match us, l with
  | [t], _ =>
    simp only [T.dats] at h ⊢
    cases e : t.dat <;> rw [e] at h <;> first | exact h.elim | exact ⟨_, rfl, h⟩
theorem rng2_of {us : List T} {Ψ : List D → Prop} (h : us.length = 2 ∧ rngW (T.dats us) Ψ) : ∃ i j, T.dats us = [.int i, .int j] ∧ (-(2 ^ 62) ≤ i ∧ i < 2 ^ 62 ∧ -(2 ^ 62) ≤ j ∧ j < 2 ^ 62) ∧ Ψ ((List.range (j - i).toNat).map fun (k : Nat) => .int (i + k)) := by
  obtain ⟨l, h⟩ := h
  match us, l with
  | [t, u], _ =>
    simp only [T.dats] at h ⊢
    cases e : t.dat <;> cases e2 : u.dat <;> rw [e, e2] at h <;> first | exact h.elim | exact ⟨_, _, rfl, h⟩
theorem rng3_x {x y z : D} {Ψ : List D → Prop} (h : rngW [x, y, z] Ψ) : ∃ i j c, x = .int i ∧ y = .int j ∧ z = .int c ∧ rngW [.int i, .int j, .int c] Ψ := by
  cases x with
  | int i =>
    cases y with
    | int j =>
      cases z with
      | int c => exact ⟨i, j, c, rfl, rfl, rfl, h⟩
      | _ => exact (show False from h).elim
    | _ => exact (show False from h).elim
  | _ => exact (show False from h).elim
theorem rng3_of {us : List T} {Ψ : List D → Prop} (h : us.length = 3 ∧ rngW (T.dats us) Ψ) : ∃ i j c n, T.dats us = [.int i, .int j, .int c] ∧ RgC i j c n ∧ Ψ ((List.range n).map fun (k : Nat) => .int (i + k * c)) := by
  obtain ⟨l, h⟩ := h
  match us, l with
  | [t, u, v], _ =>
    simp only [T.dats] at h ⊢
    obtain ⟨i, j, c, e1, e2, e3, h⟩ := rng3_x h
    rw [e1, e2, e3]
    exact h.elim fun n q => ⟨_, _, _, n, rfl, q⟩
theorem dc_nil {Ψ : Bool → Prop} (h : Ψ true) : DC a X ρ [] Ψ := fun σ H ts vs Q ok k => ⟨_, pts_nil, k _ _ h ok⟩
theorem dc_one {e : Expr} {Ψ : Bool → Prop} (h : DT a X ρ e Ψ) : DC a X ρ [e] Ψ := fun σ H ts vs Q ok k => ⟨_, pts_one pt_W, h σ H ts vs Q ok k⟩
theorem sE_isi {ty : Ty} {x : I} {c : Cn} {S : Sg} {a : An0} {X : Cx} {ρ : Env} {Φ : T → Prop} {e : Expr} (ih : ∀ {Φ e}, okE c x e = true → w S x ρ Φ → DE a X ρ e Φ) (g : Good c S a X) (k : okE c (.isi ty x) e = true) (h : w S (.isi ty x) ρ Φ) : DE a X ρ e Φ := by
    simp only [w] at h
    simp only [okE] at k
    split at k
    · simp only [Bool.and_eq_true, decide_eq_true_eq] at k
      obtain ⟨⟨⟨⟨⟨⟨⟨k1, k2⟩, k3⟩, k4⟩, k5⟩, k6⟩, k7⟩, k8⟩ := k
      have e1 := beq_iff_eq.mp k1
      subst e1 k4
      exact de_isi g.xo (Ct.glo_of g.co k3) (g.bs _ k2) (Ct.glo_of g.co k6) (g.bs _ k5) k7 (ih k8 h)
    · cases k
theorem sE_fld {cl i : Nat} {x : I} {c : Cn} {S : Sg} {a : An0} {X : Cx} {ρ : Env} {Φ : T → Prop} {e : Expr} (ih : ∀ {Φ e}, okE c x e = true → w S x ρ Φ → DE a X ρ e Φ) (g : Good c S a X) (k : okE c (.fld cl i x) e = true) (h : w S (.fld cl i x) ρ Φ) : DE a X ρ e Φ := by
    simp only [w] at h
    simp only [okE] at k
    split at k
    · simp only [Bool.and_eq_true, decide_eq_true_eq] at k
      exact de_fld (g.fd _ k.1.1) (attr_ok k.1.2) (ih k.2 h)
    · cases k
theorem sE_mth {n cl : Nat} {x es : I} {c : Cn} {S : Sg} {a : An0} {X : Cx} {ρ : Env} {Φ : T → Prop} {e : Expr} (ih : ∀ {Φ e}, okE c x e = true → w S x ρ Φ → DE a X ρ e Φ) (ih2 : ∀ {Φ e}, okA c es e = true → wv S es ρ Φ → DV a X ρ e Φ) (g : Good c S a X) (k : okE c (.mth n cl x es) e = true) (h : w S (.mth n cl x es) ρ Φ) : DE a X ρ e Φ := by
    simp only [w] at h
    simp only [okE] at k
    split at k
    · simp only [Bool.and_eq_true, decide_eq_true_eq, List.all_cons] at k
      obtain ⟨⟨⟨⟨⟨⟨k1, k2⟩, k3⟩, k4⟩, k5⟩, k6⟩, k7⟩ := k
      obtain ⟨f, hf, h⟩ := h
      obtain ⟨mt, mono⟩ := g.ms n _ f k1 hf
      exact de_mthO g.xo g.io mt k5.1 k5.2 k2 k3 (Nat.le_of_ble_eq_true k4) ((ih k7 h).mono fun t q => q.elim fun fs q => ⟨fs, q.1, ih2 k6 q.2⟩) mono
    · cases k
theorem sE_mt0 {n cl : Nat} {x : I} {c : Cn} {S : Sg} {a : An0} {X : Cx} {ρ : Env} {Φ : T → Prop} {e : Expr} (ih : ∀ {Φ e}, okE c x e = true → w S x ρ Φ → DE a X ρ e Φ) (g : Good c S a X) (k : okE c (.mt0 n cl x) e = true) (h : w S (.mt0 n cl x) ρ Φ) : DE a X ρ e Φ := by
    simp only [w] at h
    simp only [okE] at k
    split at k
    · simp only [Bool.and_eq_true, decide_eq_true_eq] at k
      obtain ⟨⟨⟨k1, k2⟩, k3⟩, k7⟩ := k
      obtain ⟨f, hf, h⟩ := h
      obtain ⟨mt, mono⟩ := g.ms n _ f k1 hf
      exact de_mthO0 g.xo mt k2 k3 (ih k7 h) mono
    · cases k
theorem sE_callB {n : Nat} {es : I} {c : Cn} {S : Sg} {a : An0} {X : Cx} {ρ : Env} {Φ : T → Prop} {e : Expr} (ih2 : ∀ {Φ e}, okA c es e = true → wv S es ρ Φ → DV a X ρ e Φ) (g : Good c S a X) (k : okE c (.callB n es) e = true) (h : w S (.callB n es) ρ Φ) : DE a X ρ e Φ := by
    simp only [w] at h
    simp only [okE] at k
    split at k
    · simp only [Bool.and_eq_true, decide_eq_true_eq, List.all_cons] at k
      obtain ⟨⟨⟨⟨k1, k2⟩, k3⟩, k4⟩, k5⟩ := k
      obtain ⟨f, hf, h⟩ := h
      obtain ⟨fn, mono⟩ := g.fns n _ f k1 hf
      exact de_callP g.xo fn (Ct.glo_of g.co k2) (plain_of k3).1 k4.1 k4.2 (ih2 k5 h) mono
    · cases k
theorem sE_new {n : Nat} {es : I} {c : Cn} {S : Sg} {a : An0} {X : Cx} {ρ : Env} {Φ : T → Prop} {e : Expr} (ih2 : ∀ {Φ e}, okA c es e = true → wv S es ρ Φ → DV a X ρ e Φ) (g : Good c S a X) (k : okE c (.new n es) e = true) (h : w S (.new n es) ρ Φ) : DE a X ρ e Φ := by
    simp only [w] at h
    simp only [okE] at k
    split at k
    · simp only [Bool.and_eq_true, decide_eq_true_eq, List.all_cons] at k
      obtain ⟨⟨⟨⟨k1, k2⟩, k3⟩, k4⟩, k5⟩ := k
      obtain ⟨f, hf, h⟩ := h
      obtain ⟨nw, mono⟩ := g.nw n _ f k1 hf
      exact de_new g.xo g.io nw (Ct.glo_of g.co k2) (plain_of k3).1 k4.1 k4.2 (ih2 k5 h) mono
    · cases k
theorem sT_eqO {n cl : Nat} {x y : I} {c : Cn} {S : Sg} {a : An0} {X : Cx} {ρ : Env} {Ψ : Bool → Prop} {e : Expr} (ih : ∀ {Φ e}, okE c x e = true → w S x ρ Φ → DE a X ρ e Φ) (ih2 : ∀ {Φ e}, okE c y e = true → w S y ρ Φ → DE a X ρ e Φ) (g : Good c S a X) (k : okT c (.eqO n cl x y) e = true) (h : wt S (.eqO n cl x y) ρ Ψ) : DT a X ρ e Ψ := by
    simp only [wt] at h
    simp only [okT] at k
    split at k
    · simp only [Bool.and_eq_true, decide_eq_true_eq] at k
      obtain ⟨⟨⟨k1, k2⟩, k3⟩, k4⟩ := k
      obtain ⟨f, hf, h⟩ := h
      obtain ⟨mt, mono⟩ := g.ms n _ f k1 hf
      exact dt_eqO g.xo mt mono k2 ((ih k3 h).mono fun t q => ih2 k4 q)
    · cases k
theorem sE_isC {cl : Nat} {x : I} {c : Cn} {S : Sg} {a : An0} {X : Cx} {ρ : Env} {Φ : T → Prop} {e : Expr} (ih : ∀ {Φ e}, okE c x e = true → w S x ρ Φ → DE a X ρ e Φ) (g : Good c S a X) (k : okE c (.isC cl x) e = true) (h : w S (.isC cl x) ρ Φ) : DE a X ρ e Φ := by
    simp only [w] at h
    simp only [okE] at k
    split at k
    · simp only [Bool.and_eq_true, decide_eq_true_eq] at k
      obtain ⟨⟨⟨⟨⟨⟨⟨k1, k2⟩, k3⟩, k4⟩, k5⟩, k6⟩, k7⟩, k8⟩ := k
      have e1 := beq_iff_eq.mp k1
      subst e1
      exact de_isC g.xo (g.ic _ k4) (Ct.glo_of g.co k3) (g.bs _ k2) (Ct.glo_of g.co k6) (plain_of k5).1 k7 (ih k8 h)
    · cases k
theorem sT_lent {i : Nat} {xs : List Nat} {x : I} {c : Cn} {S : Sg} {a : An0} {X : Cx} {ρ : Env} {Ψ : Bool → Prop} {e : Expr} (ih : ∀ {a : An0} {ρ : Env} {Ψ : Bool → Prop}, Good c S a X → okT c x e = true → wt S x ρ Ψ → DT a X ρ e Ψ) (g : Good c S a X) (k : okT c (.lent i xs x) e = true) (h : wt S (.lent i xs x) ρ Ψ) : DT a X ρ e Ψ := by
  simp only [okT, Bool.and_eq_true, List.isEmpty_iff] at k
  simp only [wt] at h
  obtain ⟨u, hu, cl, h⟩ := h
  exact dt_lent hu cl fun F1 H => ih (Good.lent k.1 k.2.1 g) k.2.2 h
theorem sE_hk {n : Nat} {es : I} {c : Cn} {S : Sg} {a : An0} {X : Cx} {ρ : Env} {Φ : T → Prop} {e : Expr} (ih : ∀ {Ψ as}, okA c es as = true → wv S es ρ Ψ → DQ a X ρ as Ψ) (g : Good c S a X) (k : okE c (.hk n es) e = true) (h : w S (.hk n es) ρ Φ) : DE a X ρ e Φ := by
  simp only [w] at h
  simp only [okE] at k
  obtain ⟨f, hf, h⟩ := h
  split at k
  · rename_i pat hp
    split at k
    · rename_i as ha
      exact g.xp.hk n pat f hp hf a X.pn X.xe rfl g.xo.po e as ha ρ Φ (ih k h)
    · cases k
  · cases k
theorem okE_val (c : Cn) (x : I) (e : Expr) : okE c (.val x) e = false := by simp only [okE]
theorem okE_nil (c : Cn) (e : Expr) : okE c (.nil) e = false := by simp only [okE]
theorem okE_cons (c : Cn) (x : I) (y : I) (e : Expr) : okE c (.cons x y) e = false := by simp only [okE]
theorem okE_nop (c : Cn) (e : Expr) : okE c (.nop) e = false := by simp only [okE]
theorem okE_prt (c : Cn) (x : I) (e : Expr) : okE c (.prt x) e = false := by simp only [okE]
theorem okE_sq (c : Cn) (x : I) (e : Expr) : okE c (.sq x) e = false := by simp only [okE]
theorem okE_rng (c : Cn) (x : I) (e : Expr) : okE c (.rng x) e = false := by simp only [okE]
theorem okE_enm (c : Cn) (x : I) (e : Expr) : okE c (.enm x) e = false := by simp only [okE]
mutual
theorem soundE : ∀ (i : I) {c : Cn} {S : Sg} {a : An0} {X : Cx} {ρ : Env} {Φ : T → Prop} {e : Expr}, Good c S a X → okE c i e = true → w S i ρ Φ → DE a X ρ e Φ
  | .nm i, c, S, a, X, ρ, Φ, e, g, k, h => by
    simp only [w] at h
    cases e <;> simp only [okE, Bool.false_eq_true] at k
    rename_i x p
    simp only [Bool.and_eq_true] at k
    obtain ⟨q1, q2, _⟩ := plain_of k.2
    split at h
    · exact de_nm (nameIs_of g.co k.1.1) (Ct.vis_of g.co k.1.2) q1 q2 (by assumption) h
    · exact h.elim
  | .ow i, c, S, a, X, ρ, Φ, e, g, k, h => by
    simp only [w] at h
    cases e <;> simp only [okE, Bool.false_eq_true] at k
    rename_i x p
    simp only [Bool.and_eq_true] at k
    obtain ⟨q1, q2, _⟩ := plain_of k.2
    split at h
    · exact de_ow (nameIs_of g.co k.1.1) (Ct.vis_of g.co k.1.2) q1 q2 (by assumption) h
    · exact h.elim
  | .gl i, c, S, a, X, ρ, Φ, e, g, k, h => by
    simp only [w] at h
    cases e <;> simp only [okE, Bool.false_eq_true] at k
    rename_i x p
    simp only [Bool.and_eq_true, decide_eq_true_eq] at k
    obtain ⟨q1, q2, _⟩ := plain_of k.2
    obtain ⟨d, e1, q⟩ := h
    obtain ⟨v, u, e2, r, is⟩ := g.gls i x d k.1.1 e1
    exact fun σ H ts vs Q ok kk => ⟨_, pe_glob (Ct.glo_of g.co k.1.2) e2 r q1, kk v _ H q (let ⟨F, Sc, Sm, w⟩ := ok; ⟨F, Sc, Sm, w.leaf (is F)⟩)⟩
  | .int n, c, S, a, X, ρ, Φ, e, g, k, h => by
    simp only [w] at h
    simp only [okE] at k
    split at k
    · rw [← beq_iff_eq.mp k]; exact de_int h
    · cases k
  | .str n, c, S, a, X, ρ, Φ, e, g, k, h => by
    simp only [w] at h
    simp only [okE] at k
    split at k
    · rw [← beq_iff_eq.mp k]; exact de_str h
    · cases k
  | .bl n, c, S, a, X, ρ, Φ, e, g, k, h => by
    simp only [w] at h
    simp only [okE] at k
    split at k
    · rw [← beq_iff_eq.mp k]; exact de_bl h
    · cases k
  | .non, c, S, a, X, ρ, Φ, e, g, k, h => by
    simp only [w] at h
    simp only [okE] at k
    split at k
    · exact de_non h
    · cases k
  | .tup es, c, S, a, X, ρ, Φ, e, g, k, h => by
    simp only [w] at h
    simp only [okE] at k
    split at k
    · exact de_tup (soundA es g k h)
    · cases k
  | .lst es, c, S, a, X, ρ, Φ, e, g, k, h => by
    simp only [w] at h
    simp only [okE] at k
    split at k
    · exact de_lst (soundA es g k h)
    · cases k
  | .bin o x y, c, S, a, X, ρ, Φ, e, g, k, h => by
    simp only [w] at h
    simp only [okE] at k
    split at k
    · simp only [Bool.and_eq_true, decide_eq_true_eq] at k
      rw [k.1.1]
      exact de_binT g.xo ((soundE x g k.1.2 h).mono fun t q => soundE y g k.2 q)
    · cases k
  | .neg x, c, S, a, X, ρ, Φ, e, g, k, h => by
    simp only [w] at h
    simp only [okE] at k
    split at k
    · exact de_neg (soundE x g k h)
    · cases k
  | .not x, c, S, a, X, ρ, Φ, e, g, k, h => by
    simp only [w] at h
    simp only [okE] at k
    split at k
    · exact de_not (soundE x g k h)
    · cases k
  | .cmp o x y, c, S, a, X, ρ, Φ, e, g, k, h => by
    simp only [w] at h
    simp only [okE] at k
    split at k
    · simp only [Bool.and_eq_true, decide_eq_true_eq] at k
      rw [k.1.1.1]
      exact de_cmp g.xo k.1.1.2 ((soundE x g k.1.2 h).mono fun t q => soundE y g k.2 q)
    · cases k
  | .chn o o' x y z, c, S, a, X, ρ, Φ, e, g, k, h => by
    simp only [w] at h
    simp only [okE] at k
    split at k
    · simp only [Bool.and_eq_true, decide_eq_true_eq] at k
      rw [k.1.1.1.1.1, k.1.1.1.1.2]
      refine de_chn g.xo k.1.1.1.2 ((soundE x g k.1.1.2 h).mono fun t q => (soundE y g k.1.2 q).mono fun u q => cmp_mono (fun b hb => ite_mono (fun q => soundE z g k.2 q) (fun q => q) hb) q)
    · cases k
  | .and x r, c, S, a, X, ρ, Φ, e, g, k, h => by
    simp only [w] at h
    simp only [okE] at k
    split at k
    · simp only [Bool.and_eq_true] at k
      exact de_and ((soundE x g k.1 h).mono fun t q => q.elim fun b q => ⟨b, q.1, ite_mono (fun q => soundE r g k.2 q) (fun q => q) q.2⟩)
    · cases k
  | .or x r, c, S, a, X, ρ, Φ, e, g, k, h => by
    simp only [w] at h
    simp only [okE] at k
    split at k
    · simp only [Bool.and_eq_true] at k
      exact de_or ((soundE x g k.1 h).mono fun t q => q.elim fun b q => ⟨b, q.1, ite_mono (fun q => q) (fun q => soundE r g k.2 q) q.2⟩)
    · cases k
  | .one x, c, S, a, X, ρ, Φ, e, g, k, h => by
    simp only [w] at h
    simp only [okE] at k
    split at k
    · exact de_one (soundE x g k h)
    · cases k
  | .ife t x y, c, S, a, X, ρ, Φ, e, g, k, h => by
    simp only [w] at h
    simp only [okE] at k
    split at k
    · simp only [Bool.and_eq_true] at k
      exact de_ife ((soundT t g k.1.1 h).mono fun b q => ite_mono (fun q => soundE x g k.1.2 q) (fun q => soundE y g k.2 q) q)
    · cases k
  | .ix x y, c, S, a, X, ρ, Φ, e, g, k, h => by
    simp only [w] at h
    simp only [okE] at k
    split at k
    · simp only [Bool.and_eq_true] at k
      exact de_ix g.xo k.1.1 ((soundE x g k.1.2 h).mono fun t q => soundE y g k.2 q)
    · cases k
  | .sl x lo hi, c, S, a, X, ρ, Φ, e, g, k, h => by
    simp only [w] at h
    simp only [okE] at k
    split at k
    · simp only [Bool.and_eq_true] at k
      exact de_sl g.xo ((soundE x g k.1.1 h).mono fun t q => (soundO lo g k.1.2 q).mono fun l q => soundO hi g k.2 q)
    · cases k
  | .eqO n cl x y, c, S, a, X, ρ, Φ, e, g, k, h => by simp [okE] at k
  | .isC cl x, c, S, a, X, ρ, Φ, e, g, k, h => sE_isC (fun k h => soundE x g k h) g k h
  | .orv x r, c, S, a, X, ρ, Φ, e, g, k, h => by simp [okE] at k
  | .srtS x, c, S, a, X, ρ, Φ, e, g, k, h => by simp [okE] at k
  | .fld cl i x, c, S, a, X, ρ, Φ, e, g, k, h => sE_fld (fun k h => soundE x g k h) g k h
  | .mth n cl x es, c, S, a, X, ρ, Φ, e, g, k, h => sE_mth (fun k h => soundE x g k h) (fun k h => (soundV es g k h).mono fun us q => q.2) g k h
  | .mt0 n cl x, c, S, a, X, ρ, Φ, e, g, k, h => sE_mt0 (fun k h => soundE x g k h) g k h
  | .prp n cl x, c, S, a, X, ρ, Φ, e, g, k, h => by simp [okE] at k
  | .callO n es, c, S, a, X, ρ, Φ, e, g, k, h => by simp [okE] at k
  | .callB n es, c, S, a, X, ρ, Φ, e, g, k, h => sE_callB (fun k h => (soundV es g k h).mono fun us q => q.2) g k h
  | .un o x, c, S, a, X, ρ, Φ, e, g, k, h => by simp [okE] at k
  | .callX n es, c, S, a, X, ρ, Φ, e, g, k, h => by simp [okE] at k
  | .new n es, c, S, a, X, ρ, Φ, e, g, k, h => sE_new (fun k h => (soundV es g k h).mono fun us q => q.2) g k h
  | .isi ty x, c, S, a, X, ρ, Φ, e, g, k, h => sE_isi (fun k h => soundE x g k h) g k h
  | .lr1 x, c, S, a, X, ρ, Φ, e, g, k, h => by simp [okE] at k
  | .lr2 x y, c, S, a, X, ρ, Φ, e, g, k, h => by simp [okE] at k
  | .call n es, c, S, a, X, ρ, Φ, e, g, k, h => by
    simp only [w] at h
    simp only [okE] at k
    split at k
    · simp only [Bool.and_eq_true, decide_eq_true_eq, List.all_cons] at k
      rename_i x _ ea as _
      obtain ⟨⟨⟨⟨k1, k2⟩, k3⟩, k4⟩, k5⟩ := k
      obtain ⟨f, hf, h⟩ := h
      obtain ⟨fn, mono⟩ := g.fns n x f k1 hf
      exact de_call g.xo g.io fn (Ct.glo_of g.co k2) (plain_of k3).1 k4.1 k4.2 ((soundV es g k5 h).mono fun us q => q.2) mono
    · cases k
  | .blt f es, c, S, a, X, ρ, Φ, e, g, k, h => by
    simp only [w] at h
    simp only [okE] at k
    split at k
    · simp only [Bool.and_eq_true, decide_eq_true_eq, List.all_cons] at k
      exact de_blt g.xo k.1.1.1.1 (Ct.glo_of g.co k.1.1.2) (g.bs _ k.1.1.1.2) k.1.2.1 k.1.2.2 ((soundV es g k.2 h).mono fun us q => q.2)
    · cases k
  | .lc own gt src cond elt, c, S, a, X, ρ, Φ, e, g, k, h => by
    simp only [w] at h
    simp only [okE] at k
    split at k
    · simp only [Bool.and_eq_true, decide_eq_true_eq, List.all_eq_true] at k
      obtain ⟨⟨⟨⟨⟨⟨⟨k1, k2⟩, k3⟩, k4⟩, k5⟩, k6⟩, k7⟩, k8⟩ := k
      have sk := blk_kind k1
      refine de_lc (wc := wc S cond) (we := w S elt) g.xo g.co k1 k3 (fun i hi => ?_) (by rw [k2]; exact h.1) k5 (fun H F s H2 C cl fp ρ' Ψ q => soundC cond (g.on.blk sk) k7 q) (fun H F s H2 C cl fp ρ' Ψ q => soundE elt (g.on.blk sk) k8 q) (soundI src g k6 h.2)
      rw [k2]
      have := k4 i hi
      simpa using this
    · cases k
  | .ixo i y, c, S, a, X, ρ, Φ, e, g, k, h => by
    simp only [w] at h
    simp only [okE] at k
    obtain ⟨us, hu, h⟩ := h
    split at k
    · simp only [Bool.and_eq_true] at k
      obtain ⟨⟨⟨⟨k1, k2⟩, k3⟩, k4⟩, k5⟩ := k
      exact de_ixo g.xo (nameIs_of g.co k1) (Ct.vis_of g.co k2) (plain_of k3).1 (plain_of k3).2.1 hu k4 (soundE y g k5 h)
    · cases k
  | .lent i xs x, c, S, a, X, ρ, Φ, e, g, k, h => by simp [okE] at k
  | .hk n es, c, S, a, X, ρ, Φ, e, g, k, h => sE_hk (fun k h => soundQ es g k h) g k h
  | .val x, c, S, a, X, ρ, Φ, e, g, k, h => by rw [okE_val] at k; cases k
  | .nil, c, S, a, X, ρ, Φ, e, g, k, h => by rw [okE_nil] at k; cases k
  | .cons x y, c, S, a, X, ρ, Φ, e, g, k, h => by rw [okE_cons] at k; cases k
  | .nop, c, S, a, X, ρ, Φ, e, g, k, h => by rw [okE_nop] at k; cases k
  | .prt x, c, S, a, X, ρ, Φ, e, g, k, h => by rw [okE_prt] at k; cases k
  | .sq x, c, S, a, X, ρ, Φ, e, g, k, h => by rw [okE_sq] at k; cases k
  | .rng x, c, S, a, X, ρ, Φ, e, g, k, h => by rw [okE_rng] at k; cases k
  | .zip x, c, S, a, X, ρ, Φ, e, g, k, h => by simp [okE] at k
  | .enm x, c, S, a, X, ρ, Φ, e, g, k, h => by rw [okE_enm] at k; cases k
theorem soundA : ∀ (i : I) {c : Cn} {S : Sg} {a : An0} {X : Cx} {ρ : Env} {Ψ : List T → Prop} {es : List Expr}, Good c S a X → okA c i es = true → wa S i ρ Ψ → DA a X ρ es Ψ
  | .nil, c, S, a, X, ρ, Ψ, es, g, k, h => by
    simp only [wa] at h
    simp only [okA] at k
    split at k
    · exact da_nil h
    · cases k
  | .cons e r, c, S, a, X, ρ, Ψ, es, g, k, h => by
    simp only [wa] at h
    simp only [okA] at k
    split at k
    · simp only [Bool.and_eq_true] at k
      exact da_cons k.1.1 ((soundE e g k.1.2 h).mono fun t q => fin_mono (fun u q => soundA r g k.2 q) q)
    · cases k
  | .nm _, c, S, a, X, ρ, Ψ, e, g, k, h
  | .ow _, c, S, a, X, ρ, Ψ, e, g, k, h
  | .gl _, c, S, a, X, ρ, Ψ, e, g, k, h
  | .int _, c, S, a, X, ρ, Ψ, e, g, k, h
  | .str _, c, S, a, X, ρ, Ψ, e, g, k, h
  | .bl _, c, S, a, X, ρ, Ψ, e, g, k, h
  | .non, c, S, a, X, ρ, Ψ, e, g, k, h
  | .tup _, c, S, a, X, ρ, Ψ, e, g, k, h
  | .lst _, c, S, a, X, ρ, Ψ, e, g, k, h
  | .bin _ _ _, c, S, a, X, ρ, Ψ, e, g, k, h
  | .neg _, c, S, a, X, ρ, Ψ, e, g, k, h
  | .not _, c, S, a, X, ρ, Ψ, e, g, k, h
  | .cmp _ _ _, c, S, a, X, ρ, Ψ, e, g, k, h
  | .chn _ _ _ _ _, c, S, a, X, ρ, Ψ, e, g, k, h
  | .and _ _, c, S, a, X, ρ, Ψ, e, g, k, h
  | .or _ _, c, S, a, X, ρ, Ψ, e, g, k, h
  | .one _, c, S, a, X, ρ, Ψ, e, g, k, h
  | .val _, c, S, a, X, ρ, Ψ, e, g, k, h
  | .ife _ _ _, c, S, a, X, ρ, Ψ, e, g, k, h
  | .ix _ _, c, S, a, X, ρ, Ψ, e, g, k, h
  | .sl _ _ _, c, S, a, X, ρ, Ψ, e, g, k, h
  | .nop, c, S, a, X, ρ, Ψ, e, g, k, h
  | .prt _, c, S, a, X, ρ, Ψ, e, g, k, h
  | .call _ _, c, S, a, X, ρ, Ψ, e, g, k, h
  | .callX _ _, c, S, a, X, ρ, Ψ, e, g, k, h
  | .callO _ _, c, S, a, X, ρ, Ψ, e, g, k, h
  | .callB _ _, c, S, a, X, ρ, Ψ, e, g, k, h
  | .lent _ _ _, c, S, a, X, ρ, Ψ, e, g, k, h
  | .ixo _ _, c, S, a, X, ρ, Ψ, e, g, k, h
  | .hk _ _, c, S, a, X, ρ, Ψ, e, g, k, h
  | .un _ _, c, S, a, X, ρ, Ψ, e, g, k, h
  | .eqO _ _ _ _, c, S, a, X, ρ, Ψ, e, g, k, h
  | .isC _ _, c, S, a, X, ρ, Ψ, e, g, k, h
  | .orv _ _, c, S, a, X, ρ, Ψ, e, g, k, h
  | .srtS _, c, S, a, X, ρ, Ψ, e, g, k, h
  | .fld _ _ _, c, S, a, X, ρ, Ψ, e, g, k, h
  | .mth _ _ _ _, c, S, a, X, ρ, Ψ, e, g, k, h
  | .mt0 _ _ _, c, S, a, X, ρ, Ψ, e, g, k, h
  | .prp _ _ _, c, S, a, X, ρ, Ψ, e, g, k, h
  | .new _ _, c, S, a, X, ρ, Ψ, e, g, k, h
  | .isi _ _, c, S, a, X, ρ, Ψ, e, g, k, h
  | .lr1 _, c, S, a, X, ρ, Ψ, e, g, k, h
  | .lr2 _ _, c, S, a, X, ρ, Ψ, e, g, k, h
  | .blt _ _, c, S, a, X, ρ, Ψ, e, g, k, h
  | .lc _ _ _ _ _, c, S, a, X, ρ, Ψ, e, g, k, h
  | .sq _, c, S, a, X, ρ, Ψ, e, g, k, h
  | .rng _, c, S, a, X, ρ, Ψ, e, g, k, h
  | .zip _, c, S, a, X, ρ, Ψ, e, g, k, h
  | .enm _, c, S, a, X, ρ, Ψ, e, g, k, h => by simp [okA] at k
theorem soundV : ∀ (i : I) {c : Cn} {S : Sg} {a : An0} {X : Cx} {ρ : Env} {Ψ : List T → Prop} {es : List Expr}, Good c S a X → okA c i es = true → wv S i ρ Ψ → DV a X ρ es fun us => us.length = es.length ∧ Ψ us
  | .nil, c, S, a, X, ρ, Ψ, es, g, k, h => by
    simp only [wv] at h
    simp only [okA] at k
    split at k
    · exact dv_nil ⟨rfl, h⟩
    · cases k
  | .cons e r, c, S, a, X, ρ, Ψ, es, g, k, h => by
    simp only [wv] at h
    simp only [okA] at k
    split at k
    · simp only [Bool.and_eq_true] at k
      exact dv_cons k.1.1 ((soundE e g k.1.2 h).mono fun t q => (soundV r g k.2 q).mono fun us q => ⟨by rw [List.length_cons, List.length_cons, q.1], q.2⟩)
    · cases k
  | .nm _, c, S, a, X, ρ, Ψ, e, g, k, h
  | .ow _, c, S, a, X, ρ, Ψ, e, g, k, h
  | .gl _, c, S, a, X, ρ, Ψ, e, g, k, h
  | .int _, c, S, a, X, ρ, Ψ, e, g, k, h
  | .str _, c, S, a, X, ρ, Ψ, e, g, k, h
  | .bl _, c, S, a, X, ρ, Ψ, e, g, k, h
  | .non, c, S, a, X, ρ, Ψ, e, g, k, h
  | .tup _, c, S, a, X, ρ, Ψ, e, g, k, h
  | .lst _, c, S, a, X, ρ, Ψ, e, g, k, h
  | .bin _ _ _, c, S, a, X, ρ, Ψ, e, g, k, h
  | .neg _, c, S, a, X, ρ, Ψ, e, g, k, h
  | .not _, c, S, a, X, ρ, Ψ, e, g, k, h
  | .cmp _ _ _, c, S, a, X, ρ, Ψ, e, g, k, h
  | .chn _ _ _ _ _, c, S, a, X, ρ, Ψ, e, g, k, h
  | .and _ _, c, S, a, X, ρ, Ψ, e, g, k, h
  | .or _ _, c, S, a, X, ρ, Ψ, e, g, k, h
  | .one _, c, S, a, X, ρ, Ψ, e, g, k, h
  | .val _, c, S, a, X, ρ, Ψ, e, g, k, h
  | .ife _ _ _, c, S, a, X, ρ, Ψ, e, g, k, h
  | .ix _ _, c, S, a, X, ρ, Ψ, e, g, k, h
  | .sl _ _ _, c, S, a, X, ρ, Ψ, e, g, k, h
  | .nop, c, S, a, X, ρ, Ψ, e, g, k, h
  | .prt _, c, S, a, X, ρ, Ψ, e, g, k, h
  | .call _ _, c, S, a, X, ρ, Ψ, e, g, k, h
  | .callX _ _, c, S, a, X, ρ, Ψ, e, g, k, h
  | .callO _ _, c, S, a, X, ρ, Ψ, e, g, k, h
  | .callB _ _, c, S, a, X, ρ, Ψ, e, g, k, h
  | .lent _ _ _, c, S, a, X, ρ, Ψ, e, g, k, h
  | .ixo _ _, c, S, a, X, ρ, Ψ, e, g, k, h
  | .hk _ _, c, S, a, X, ρ, Ψ, e, g, k, h
  | .un _ _, c, S, a, X, ρ, Ψ, e, g, k, h
  | .eqO _ _ _ _, c, S, a, X, ρ, Ψ, e, g, k, h
  | .isC _ _, c, S, a, X, ρ, Ψ, e, g, k, h
  | .orv _ _, c, S, a, X, ρ, Ψ, e, g, k, h
  | .srtS _, c, S, a, X, ρ, Ψ, e, g, k, h
  | .fld _ _ _, c, S, a, X, ρ, Ψ, e, g, k, h
  | .mth _ _ _ _, c, S, a, X, ρ, Ψ, e, g, k, h
  | .mt0 _ _ _, c, S, a, X, ρ, Ψ, e, g, k, h
  | .prp _ _ _, c, S, a, X, ρ, Ψ, e, g, k, h
  | .new _ _, c, S, a, X, ρ, Ψ, e, g, k, h
  | .isi _ _, c, S, a, X, ρ, Ψ, e, g, k, h
  | .lr1 _, c, S, a, X, ρ, Ψ, e, g, k, h
  | .lr2 _ _, c, S, a, X, ρ, Ψ, e, g, k, h
  | .blt _ _, c, S, a, X, ρ, Ψ, e, g, k, h
  | .lc _ _ _ _ _, c, S, a, X, ρ, Ψ, e, g, k, h
  | .sq _, c, S, a, X, ρ, Ψ, e, g, k, h
  | .rng _, c, S, a, X, ρ, Ψ, e, g, k, h
  | .zip _, c, S, a, X, ρ, Ψ, e, g, k, h
  | .enm _, c, S, a, X, ρ, Ψ, e, g, k, h => by simp [okA] at k
theorem soundQ : ∀ (i : I) {c : Cn} {S : Sg} {a : An0} {X : Cx} {ρ : Env} {Ψ : List T → Prop} {es : List Expr}, Good c S a X → okA c i es = true → wv S i ρ Ψ → DQ a X ρ es Ψ
  | .nil, c, S, a, X, ρ, Ψ, es, g, k, h => by
    simp only [wv] at h
    simp only [okA] at k
    split at k
    · exact h
    · cases k
  | .cons e r, c, S, a, X, ρ, Ψ, es, g, k, h => by
    simp only [wv] at h
    simp only [okA] at k
    split at k
    · simp only [Bool.and_eq_true] at k
      exact (soundE e g k.1.2 h).mono fun t q => soundQ r g k.2 q
    · cases k
  | .nm _, c, S, a, X, ρ, Ψ, e, g, k, h
  | .ow _, c, S, a, X, ρ, Ψ, e, g, k, h
  | .gl _, c, S, a, X, ρ, Ψ, e, g, k, h
  | .int _, c, S, a, X, ρ, Ψ, e, g, k, h
  | .str _, c, S, a, X, ρ, Ψ, e, g, k, h
  | .bl _, c, S, a, X, ρ, Ψ, e, g, k, h
  | .non, c, S, a, X, ρ, Ψ, e, g, k, h
  | .tup _, c, S, a, X, ρ, Ψ, e, g, k, h
  | .lst _, c, S, a, X, ρ, Ψ, e, g, k, h
  | .bin _ _ _, c, S, a, X, ρ, Ψ, e, g, k, h
  | .neg _, c, S, a, X, ρ, Ψ, e, g, k, h
  | .not _, c, S, a, X, ρ, Ψ, e, g, k, h
  | .cmp _ _ _, c, S, a, X, ρ, Ψ, e, g, k, h
  | .chn _ _ _ _ _, c, S, a, X, ρ, Ψ, e, g, k, h
  | .and _ _, c, S, a, X, ρ, Ψ, e, g, k, h
  | .or _ _, c, S, a, X, ρ, Ψ, e, g, k, h
  | .one _, c, S, a, X, ρ, Ψ, e, g, k, h
  | .val _, c, S, a, X, ρ, Ψ, e, g, k, h
  | .ife _ _ _, c, S, a, X, ρ, Ψ, e, g, k, h
  | .ix _ _, c, S, a, X, ρ, Ψ, e, g, k, h
  | .sl _ _ _, c, S, a, X, ρ, Ψ, e, g, k, h
  | .nop, c, S, a, X, ρ, Ψ, e, g, k, h
  | .prt _, c, S, a, X, ρ, Ψ, e, g, k, h
  | .call _ _, c, S, a, X, ρ, Ψ, e, g, k, h
  | .callX _ _, c, S, a, X, ρ, Ψ, e, g, k, h
  | .callO _ _, c, S, a, X, ρ, Ψ, e, g, k, h
  | .callB _ _, c, S, a, X, ρ, Ψ, e, g, k, h
  | .lent _ _ _, c, S, a, X, ρ, Ψ, e, g, k, h
  | .ixo _ _, c, S, a, X, ρ, Ψ, e, g, k, h
  | .hk _ _, c, S, a, X, ρ, Ψ, e, g, k, h
  | .un _ _, c, S, a, X, ρ, Ψ, e, g, k, h
  | .eqO _ _ _ _, c, S, a, X, ρ, Ψ, e, g, k, h
  | .isC _ _, c, S, a, X, ρ, Ψ, e, g, k, h
  | .orv _ _, c, S, a, X, ρ, Ψ, e, g, k, h
  | .srtS _, c, S, a, X, ρ, Ψ, e, g, k, h
  | .fld _ _ _, c, S, a, X, ρ, Ψ, e, g, k, h
  | .mth _ _ _ _, c, S, a, X, ρ, Ψ, e, g, k, h
  | .mt0 _ _ _, c, S, a, X, ρ, Ψ, e, g, k, h
  | .prp _ _ _, c, S, a, X, ρ, Ψ, e, g, k, h
  | .new _ _, c, S, a, X, ρ, Ψ, e, g, k, h
  | .isi _ _, c, S, a, X, ρ, Ψ, e, g, k, h
  | .lr1 _, c, S, a, X, ρ, Ψ, e, g, k, h
  | .lr2 _ _, c, S, a, X, ρ, Ψ, e, g, k, h
  | .blt _ _, c, S, a, X, ρ, Ψ, e, g, k, h
  | .lc _ _ _ _ _, c, S, a, X, ρ, Ψ, e, g, k, h
  | .sq _, c, S, a, X, ρ, Ψ, e, g, k, h
  | .rng _, c, S, a, X, ρ, Ψ, e, g, k, h
  | .zip _, c, S, a, X, ρ, Ψ, e, g, k, h
  | .enm _, c, S, a, X, ρ, Ψ, e, g, k, h => by simp [okA] at k
theorem soundO : ∀ (i : I) {c : Cn} {S : Sg} {a : An0} {X : Cx} {ρ : Env} {Ψ : Option Int → Prop} {e : Option Expr}, Good c S a X → okO c i e = true → wo S i ρ Ψ → DO a X ρ e Ψ
  | .nop, c, S, a, X, ρ, Ψ, e, g, k, h => by
    simp only [wo] at h
    simp only [okO] at k
    split at k
    · exact do_none h
    · cases k
  | .prt x, c, S, a, X, ρ, Ψ, e, g, k, h => by
    simp only [wo] at h
    simp only [okO] at k
    split at k
    · exact do_some (soundE x g k h)
    · cases k
  | .nm _, c, S, a, X, ρ, Ψ, e, g, k, h
  | .ow _, c, S, a, X, ρ, Ψ, e, g, k, h
  | .gl _, c, S, a, X, ρ, Ψ, e, g, k, h
  | .int _, c, S, a, X, ρ, Ψ, e, g, k, h
  | .str _, c, S, a, X, ρ, Ψ, e, g, k, h
  | .bl _, c, S, a, X, ρ, Ψ, e, g, k, h
  | .non, c, S, a, X, ρ, Ψ, e, g, k, h
  | .nil, c, S, a, X, ρ, Ψ, e, g, k, h
  | .cons _ _, c, S, a, X, ρ, Ψ, e, g, k, h
  | .tup _, c, S, a, X, ρ, Ψ, e, g, k, h
  | .lst _, c, S, a, X, ρ, Ψ, e, g, k, h
  | .bin _ _ _, c, S, a, X, ρ, Ψ, e, g, k, h
  | .neg _, c, S, a, X, ρ, Ψ, e, g, k, h
  | .not _, c, S, a, X, ρ, Ψ, e, g, k, h
  | .cmp _ _ _, c, S, a, X, ρ, Ψ, e, g, k, h
  | .chn _ _ _ _ _, c, S, a, X, ρ, Ψ, e, g, k, h
  | .and _ _, c, S, a, X, ρ, Ψ, e, g, k, h
  | .or _ _, c, S, a, X, ρ, Ψ, e, g, k, h
  | .one _, c, S, a, X, ρ, Ψ, e, g, k, h
  | .val _, c, S, a, X, ρ, Ψ, e, g, k, h
  | .ife _ _ _, c, S, a, X, ρ, Ψ, e, g, k, h
  | .ix _ _, c, S, a, X, ρ, Ψ, e, g, k, h
  | .sl _ _ _, c, S, a, X, ρ, Ψ, e, g, k, h
  | .call _ _, c, S, a, X, ρ, Ψ, e, g, k, h
  | .callX _ _, c, S, a, X, ρ, Ψ, e, g, k, h
  | .callO _ _, c, S, a, X, ρ, Ψ, e, g, k, h
  | .callB _ _, c, S, a, X, ρ, Ψ, e, g, k, h
  | .lent _ _ _, c, S, a, X, ρ, Ψ, e, g, k, h
  | .ixo _ _, c, S, a, X, ρ, Ψ, e, g, k, h
  | .hk _ _, c, S, a, X, ρ, Ψ, e, g, k, h
  | .un _ _, c, S, a, X, ρ, Ψ, e, g, k, h
  | .eqO _ _ _ _, c, S, a, X, ρ, Ψ, e, g, k, h
  | .isC _ _, c, S, a, X, ρ, Ψ, e, g, k, h
  | .orv _ _, c, S, a, X, ρ, Ψ, e, g, k, h
  | .srtS _, c, S, a, X, ρ, Ψ, e, g, k, h
  | .fld _ _ _, c, S, a, X, ρ, Ψ, e, g, k, h
  | .mth _ _ _ _, c, S, a, X, ρ, Ψ, e, g, k, h
  | .mt0 _ _ _, c, S, a, X, ρ, Ψ, e, g, k, h
  | .prp _ _ _, c, S, a, X, ρ, Ψ, e, g, k, h
  | .new _ _, c, S, a, X, ρ, Ψ, e, g, k, h
  | .isi _ _, c, S, a, X, ρ, Ψ, e, g, k, h
  | .lr1 _, c, S, a, X, ρ, Ψ, e, g, k, h
  | .lr2 _ _, c, S, a, X, ρ, Ψ, e, g, k, h
  | .blt _ _, c, S, a, X, ρ, Ψ, e, g, k, h
  | .lc _ _ _ _ _, c, S, a, X, ρ, Ψ, e, g, k, h
  | .sq _, c, S, a, X, ρ, Ψ, e, g, k, h
  | .rng _, c, S, a, X, ρ, Ψ, e, g, k, h
  | .zip _, c, S, a, X, ρ, Ψ, e, g, k, h
  | .enm _, c, S, a, X, ρ, Ψ, e, g, k, h => by simp [okO] at k
theorem soundC : ∀ (i : I) {c : Cn} {S : Sg} {a : An0} {X : Cx} {ρ : Env} {Ψ : Bool → Prop} {es : List Expr}, Good c S a X → okC c i es = true → wc S i ρ Ψ → DC a X ρ es Ψ
  | .nop, c, S, a, X, ρ, Ψ, es, g, k, h => by
    simp only [wc] at h
    simp only [okC] at k
    split at k
    · exact dc_nil h
    · cases k
  | .one x, c, S, a, X, ρ, Ψ, es, g, k, h => by
    simp only [wc] at h
    simp only [okC] at k
    split at k
    · exact dc_one (soundT x g k h)
    · cases k
  | .nm _, c, S, a, X, ρ, Ψ, e, g, k, h
  | .ow _, c, S, a, X, ρ, Ψ, e, g, k, h
  | .gl _, c, S, a, X, ρ, Ψ, e, g, k, h
  | .int _, c, S, a, X, ρ, Ψ, e, g, k, h
  | .str _, c, S, a, X, ρ, Ψ, e, g, k, h
  | .bl _, c, S, a, X, ρ, Ψ, e, g, k, h
  | .non, c, S, a, X, ρ, Ψ, e, g, k, h
  | .nil, c, S, a, X, ρ, Ψ, e, g, k, h
  | .cons _ _, c, S, a, X, ρ, Ψ, e, g, k, h
  | .tup _, c, S, a, X, ρ, Ψ, e, g, k, h
  | .lst _, c, S, a, X, ρ, Ψ, e, g, k, h
  | .bin _ _ _, c, S, a, X, ρ, Ψ, e, g, k, h
  | .neg _, c, S, a, X, ρ, Ψ, e, g, k, h
  | .not _, c, S, a, X, ρ, Ψ, e, g, k, h
  | .cmp _ _ _, c, S, a, X, ρ, Ψ, e, g, k, h
  | .chn _ _ _ _ _, c, S, a, X, ρ, Ψ, e, g, k, h
  | .and _ _, c, S, a, X, ρ, Ψ, e, g, k, h
  | .or _ _, c, S, a, X, ρ, Ψ, e, g, k, h
  | .val _, c, S, a, X, ρ, Ψ, e, g, k, h
  | .ife _ _ _, c, S, a, X, ρ, Ψ, e, g, k, h
  | .ix _ _, c, S, a, X, ρ, Ψ, e, g, k, h
  | .sl _ _ _, c, S, a, X, ρ, Ψ, e, g, k, h
  | .prt _, c, S, a, X, ρ, Ψ, e, g, k, h
  | .call _ _, c, S, a, X, ρ, Ψ, e, g, k, h
  | .callX _ _, c, S, a, X, ρ, Ψ, e, g, k, h
  | .callO _ _, c, S, a, X, ρ, Ψ, e, g, k, h
  | .callB _ _, c, S, a, X, ρ, Ψ, e, g, k, h
  | .lent _ _ _, c, S, a, X, ρ, Ψ, e, g, k, h
  | .ixo _ _, c, S, a, X, ρ, Ψ, e, g, k, h
  | .hk _ _, c, S, a, X, ρ, Ψ, e, g, k, h
  | .un _ _, c, S, a, X, ρ, Ψ, e, g, k, h
  | .eqO _ _ _ _, c, S, a, X, ρ, Ψ, e, g, k, h
  | .isC _ _, c, S, a, X, ρ, Ψ, e, g, k, h
  | .orv _ _, c, S, a, X, ρ, Ψ, e, g, k, h
  | .srtS _, c, S, a, X, ρ, Ψ, e, g, k, h
  | .fld _ _ _, c, S, a, X, ρ, Ψ, e, g, k, h
  | .mth _ _ _ _, c, S, a, X, ρ, Ψ, e, g, k, h
  | .mt0 _ _ _, c, S, a, X, ρ, Ψ, e, g, k, h
  | .prp _ _ _, c, S, a, X, ρ, Ψ, e, g, k, h
  | .new _ _, c, S, a, X, ρ, Ψ, e, g, k, h
  | .isi _ _, c, S, a, X, ρ, Ψ, e, g, k, h
  | .lr1 _, c, S, a, X, ρ, Ψ, e, g, k, h
  | .lr2 _ _, c, S, a, X, ρ, Ψ, e, g, k, h
  | .blt _ _, c, S, a, X, ρ, Ψ, e, g, k, h
  | .lc _ _ _ _ _, c, S, a, X, ρ, Ψ, e, g, k, h
  | .sq _, c, S, a, X, ρ, Ψ, e, g, k, h
  | .rng _, c, S, a, X, ρ, Ψ, e, g, k, h
  | .zip _, c, S, a, X, ρ, Ψ, e, g, k, h
  | .enm _, c, S, a, X, ρ, Ψ, e, g, k, h => by simp [okC] at k
theorem soundT : ∀ (i : I) {c : Cn} {S : Sg} {a : An0} {X : Cx} {ρ : Env} {Ψ : Bool → Prop} {e : Expr}, Good c S a X → okT c i e = true → wt S i ρ Ψ → DT a X ρ e Ψ
  | .not x, c, S, a, X, ρ, Ψ, e, g, k, h => by
    simp only [wt] at h
    simp only [okT] at k
    split at k
    · exact dt_not (soundT x g k h)
    · cases k
  | .and x r, c, S, a, X, ρ, Ψ, e, g, k, h => by
    simp only [wt] at h
    simp only [okT] at k
    split at k
    · simp only [Bool.and_eq_true] at k
      exact dt_bool (dw_and ((soundT x g k.1 h).mono fun b q => ite_mono (fun q => soundW r g k.2 q) (fun q => q) q))
    · cases k
  | .or x r, c, S, a, X, ρ, Ψ, e, g, k, h => by
    simp only [wt] at h
    simp only [okT] at k
    split at k
    · simp only [Bool.and_eq_true] at k
      exact dt_bool (dw_or ((soundT x g k.1 h).mono fun b q => ite_mono (fun q => q) (fun q => soundW r g k.2 q) q))
    · cases k
  | .cmp o x y, c, S, a, X, ρ, Ψ, e, g, k, h => by
    simp only [wt] at h
    simp only [okT] at k
    split at k
    · simp only [Bool.and_eq_true, decide_eq_true_eq] at k
      rw [k.1.1.1]
      exact dt_cmp g.xo k.1.1.2 ((soundE x g k.1.2 h).mono fun t q => soundE y g k.2 q)
    · cases k
  | .chn o o' x y z, c, S, a, X, ρ, Ψ, e, g, k, h => by
    simp only [wt] at h
    simp only [okT] at k
    split at k
    · simp only [Bool.and_eq_true, decide_eq_true_eq] at k
      rw [k.1.1.1.1.1, k.1.1.1.1.2]
      exact dt_chn g.xo k.1.1.1.2 ((soundE x g k.1.1.2 h).mono fun t q => (soundE y g k.1.2 q).mono fun u q => cmp_mono (fun b hb => ite_mono (fun q => soundE z g k.2 q) (fun q => q) hb) q)
    · cases k
  | .lent i xs x, c, S, a, X, ρ, Ψ, e, g, k, h => sT_lent (fun g k h => soundT x g k h) g k h
  | .eqO n cl x y, c, S, a, X, ρ, Ψ, e, g, k, h => sT_eqO (fun k h => soundE x g k h) (fun k h => soundE y g k h) g k h
  | .hk n es, c, S, a, X, ρ, Ψ, e, g, k, h => by
    simp only [wt] at h
    simp only [okT] at k
    obtain ⟨f, hf, h⟩ := h
    split at k
    · rename_i pat hp
      split at k
      · rename_i as ha
        exact g.xp.ht n pat f hp hf a X.pn X.xe rfl g.xo.po e as ha ρ Ψ (soundQ es g k h)
      · cases k
    · cases k
  | .val x, c, S, a, X, ρ, Ψ, e, g, k, h => by
    simp only [wt] at h
    simp only [okT, Bool.and_eq_true] at k
    exact dt_val g.xo k.1 (soundE x g k.2 h)
  | .nm _, c, S, a, X, ρ, Ψ, e, g, k, h
  | .ow _, c, S, a, X, ρ, Ψ, e, g, k, h
  | .gl _, c, S, a, X, ρ, Ψ, e, g, k, h
  | .int _, c, S, a, X, ρ, Ψ, e, g, k, h
  | .str _, c, S, a, X, ρ, Ψ, e, g, k, h
  | .bl _, c, S, a, X, ρ, Ψ, e, g, k, h
  | .non, c, S, a, X, ρ, Ψ, e, g, k, h
  | .nil, c, S, a, X, ρ, Ψ, e, g, k, h
  | .cons _ _, c, S, a, X, ρ, Ψ, e, g, k, h
  | .tup _, c, S, a, X, ρ, Ψ, e, g, k, h
  | .lst _, c, S, a, X, ρ, Ψ, e, g, k, h
  | .bin _ _ _, c, S, a, X, ρ, Ψ, e, g, k, h
  | .neg _, c, S, a, X, ρ, Ψ, e, g, k, h
  | .one _, c, S, a, X, ρ, Ψ, e, g, k, h
  | .ife _ _ _, c, S, a, X, ρ, Ψ, e, g, k, h
  | .ix _ _, c, S, a, X, ρ, Ψ, e, g, k, h
  | .sl _ _ _, c, S, a, X, ρ, Ψ, e, g, k, h
  | .nop, c, S, a, X, ρ, Ψ, e, g, k, h
  | .prt _, c, S, a, X, ρ, Ψ, e, g, k, h
  | .call _ _, c, S, a, X, ρ, Ψ, e, g, k, h
  | .callX _ _, c, S, a, X, ρ, Ψ, e, g, k, h
  | .callO _ _, c, S, a, X, ρ, Ψ, e, g, k, h
  | .callB _ _, c, S, a, X, ρ, Ψ, e, g, k, h
  | .ixo _ _, c, S, a, X, ρ, Ψ, e, g, k, h
  | .un _ _, c, S, a, X, ρ, Ψ, e, g, k, h
  | .isC _ _, c, S, a, X, ρ, Ψ, e, g, k, h
  | .orv _ _, c, S, a, X, ρ, Ψ, e, g, k, h
  | .srtS _, c, S, a, X, ρ, Ψ, e, g, k, h
  | .fld _ _ _, c, S, a, X, ρ, Ψ, e, g, k, h
  | .mth _ _ _ _, c, S, a, X, ρ, Ψ, e, g, k, h
  | .mt0 _ _ _, c, S, a, X, ρ, Ψ, e, g, k, h
  | .prp _ _ _, c, S, a, X, ρ, Ψ, e, g, k, h
  | .new _ _, c, S, a, X, ρ, Ψ, e, g, k, h
  | .isi _ _, c, S, a, X, ρ, Ψ, e, g, k, h
  | .lr1 _, c, S, a, X, ρ, Ψ, e, g, k, h
  | .lr2 _ _, c, S, a, X, ρ, Ψ, e, g, k, h
  | .blt _ _, c, S, a, X, ρ, Ψ, e, g, k, h
  | .lc _ _ _ _ _, c, S, a, X, ρ, Ψ, e, g, k, h
  | .sq _, c, S, a, X, ρ, Ψ, e, g, k, h
  | .rng _, c, S, a, X, ρ, Ψ, e, g, k, h
  | .zip _, c, S, a, X, ρ, Ψ, e, g, k, h
  | .enm _, c, S, a, X, ρ, Ψ, e, g, k, h => by simp [okT] at k
theorem soundW : ∀ (i : I) {c : Cn} {S : Sg} {a : An0} {X : Cx} {ρ : Env} {Ψ : Bool → Prop} {op : PySem.BoolOp} {es : List Expr}, Good c S a X → okW c i op es = true → wt S i ρ Ψ → DW a X ρ op es Ψ
  | .and x r, c, S, a, X, ρ, Ψ, op, es, g, k, h => by
    simp only [wt] at h
    simp only [okW] at k
    split at k
    · simp only [Bool.and_eq_true] at k
      exact dw_and ((soundT x g k.1 h).mono fun b q => ite_mono (fun q => soundW r g k.2 q) (fun q => q) q)
    · cases k
  | .or x r, c, S, a, X, ρ, Ψ, op, es, g, k, h => by
    simp only [wt] at h
    simp only [okW] at k
    split at k
    · simp only [Bool.and_eq_true] at k
      exact dw_or ((soundT x g k.1 h).mono fun b q => ite_mono (fun q => q) (fun q => soundW r g k.2 q) q)
    · cases k
  | .one x, c, S, a, X, ρ, Ψ, op, es, g, k, h => by
    simp only [wt] at h
    cases op <;> simp only [okW] at k <;> split at k
    · exact dw_and1 (soundT x g k h)
    · cases k
    · exact dw_or1 (soundT x g k h)
    · cases k
  | .nm _, c, S, a, X, ρ, Ψ, op, es, g, k, h
  | .ow _, c, S, a, X, ρ, Ψ, op, es, g, k, h
  | .gl _, c, S, a, X, ρ, Ψ, op, es, g, k, h
  | .int _, c, S, a, X, ρ, Ψ, op, es, g, k, h
  | .str _, c, S, a, X, ρ, Ψ, op, es, g, k, h
  | .bl _, c, S, a, X, ρ, Ψ, op, es, g, k, h
  | .non, c, S, a, X, ρ, Ψ, op, es, g, k, h
  | .nil, c, S, a, X, ρ, Ψ, op, es, g, k, h
  | .cons _ _, c, S, a, X, ρ, Ψ, op, es, g, k, h
  | .tup _, c, S, a, X, ρ, Ψ, op, es, g, k, h
  | .lst _, c, S, a, X, ρ, Ψ, op, es, g, k, h
  | .bin _ _ _, c, S, a, X, ρ, Ψ, op, es, g, k, h
  | .neg _, c, S, a, X, ρ, Ψ, op, es, g, k, h
  | .not _, c, S, a, X, ρ, Ψ, op, es, g, k, h
  | .cmp _ _ _, c, S, a, X, ρ, Ψ, op, es, g, k, h
  | .chn _ _ _ _ _, c, S, a, X, ρ, Ψ, op, es, g, k, h
  | .val _, c, S, a, X, ρ, Ψ, op, es, g, k, h
  | .ife _ _ _, c, S, a, X, ρ, Ψ, op, es, g, k, h
  | .ix _ _, c, S, a, X, ρ, Ψ, op, es, g, k, h
  | .sl _ _ _, c, S, a, X, ρ, Ψ, op, es, g, k, h
  | .nop, c, S, a, X, ρ, Ψ, op, es, g, k, h
  | .prt _, c, S, a, X, ρ, Ψ, op, es, g, k, h
  | .call _ _, c, S, a, X, ρ, Ψ, op, es, g, k, h
  | .callX _ _, c, S, a, X, ρ, Ψ, op, es, g, k, h
  | .callO _ _, c, S, a, X, ρ, Ψ, op, es, g, k, h
  | .callB _ _, c, S, a, X, ρ, Ψ, op, es, g, k, h
  | .lent _ _ _, c, S, a, X, ρ, Ψ, op, es, g, k, h
  | .ixo _ _, c, S, a, X, ρ, Ψ, op, es, g, k, h
  | .hk _ _, c, S, a, X, ρ, Ψ, op, es, g, k, h
  | .un _ _, c, S, a, X, ρ, Ψ, op, es, g, k, h
  | .eqO _ _ _ _, c, S, a, X, ρ, Ψ, op, es, g, k, h
  | .isC _ _, c, S, a, X, ρ, Ψ, op, es, g, k, h
  | .orv _ _, c, S, a, X, ρ, Ψ, op, es, g, k, h
  | .srtS _, c, S, a, X, ρ, Ψ, op, es, g, k, h
  | .fld _ _ _, c, S, a, X, ρ, Ψ, op, es, g, k, h
  | .mth _ _ _ _, c, S, a, X, ρ, Ψ, op, es, g, k, h
  | .mt0 _ _ _, c, S, a, X, ρ, Ψ, op, es, g, k, h
  | .prp _ _ _, c, S, a, X, ρ, Ψ, op, es, g, k, h
  | .new _ _, c, S, a, X, ρ, Ψ, op, es, g, k, h
  | .isi _ _, c, S, a, X, ρ, Ψ, op, es, g, k, h
  | .lr1 _, c, S, a, X, ρ, Ψ, op, es, g, k, h
  | .lr2 _ _, c, S, a, X, ρ, Ψ, op, es, g, k, h
  | .blt _ _, c, S, a, X, ρ, Ψ, op, es, g, k, h
  | .lc _ _ _ _ _, c, S, a, X, ρ, Ψ, op, es, g, k, h
  | .sq _, c, S, a, X, ρ, Ψ, op, es, g, k, h
  | .rng _, c, S, a, X, ρ, Ψ, op, es, g, k, h
  | .zip _, c, S, a, X, ρ, Ψ, op, es, g, k, h
  | .enm _, c, S, a, X, ρ, Ψ, op, es, g, k, h => by simp [okW] at k
theorem soundI : ∀ (i : I) {c : Cn} {S : Sg} {a : An0} {X : Cx} {ρ : Env} {Ψ : List D → Prop} {tg e : Expr}, Good c S a X → okI c i tg e = true → wi S i ρ Ψ → DI a X ρ tg e Ψ
  | .sq x, c, S, a, X, ρ, Ψ, tg, e, g, k, h => by
    simp only [wi] at h
    simp only [okI] at k
    exact di_any g.xo g.io (soundE x g k h)
  | .rng es, c, S, a, X, ρ, Ψ, tg, e, g, k, h => by
    simp only [wi] at h
    simp only [okI] at k
    split at k
    · simp only [Bool.and_eq_true, decide_eq_true_eq] at k
      obtain ⟨⟨⟨⟨⟨k1, k2⟩, k3⟩, k4⟩, k5⟩, k6⟩ := k
      rename_i x _ as _
      have ex := beq_iff_eq.mp k1
      subst ex
      have gl := Ct.glo_of g.co k3
      have mg := g.bs _ k2
      have dv := soundV es g k5 h
      rcases as with _ | ⟨a1, _ | ⟨a2, _ | ⟨a3, _ | ⟨a4, as⟩⟩⟩⟩
      · simp at k6
      · simp only [List.all_cons, List.all_nil, Bool.and_true] at k4
        exact di_rng1 gl mg k4 (dv.mono fun us q => rng1_of q)
      · simp only [List.all_cons, List.all_nil, Bool.and_true, Bool.and_eq_true] at k4
        exact di_rng2 gl mg k4.1 k4.2 (dv.mono fun us q => rng2_of q)
      · simp only [List.all_cons, List.all_nil, Bool.and_true, Bool.and_eq_true] at k4
        exact di_rng3 gl mg k4.1 k4.2.1 k4.2.2 (dv.mono fun us q => rng3_of q)
      · simp at k6
    · cases k
  | .zip es, c, S, a, X, ρ, Ψ, tg, e, g, k, h => by
    simp only [wi] at h
    simp only [okI] at k
    split at k
    · simp only [Bool.and_eq_true, decide_eq_true_eq, List.all_cons, List.all_nil, Bool.and_true] at k
      obtain ⟨⟨⟨⟨⟨k1, k2⟩, k3⟩, k4⟩, k5⟩, k6⟩ := k
      have ex := beq_iff_eq.mp k1
      subst ex
      exact di_zip g.xo g.io (Ct.glo_of g.co k3) (g.bs _ k2) k4 k5.1 k5.2 ((soundV es g k6 h).mono fun us q => q.2)
    · cases k
  | .enm es, c, S, a, X, ρ, Ψ, tg, e, g, k, h => by
    simp only [wi] at h
    simp only [okI] at k
    split at k
    · simp only [Bool.and_eq_true, decide_eq_true_eq, List.all_cons, List.all_nil, Bool.and_true] at k
      obtain ⟨⟨⟨⟨⟨k1, k2⟩, k3⟩, k4⟩, k5⟩, k6⟩ := k
      have ex := beq_iff_eq.mp k1
      subst ex
      exact di_enum g.xo g.io (Ct.glo_of g.co k3) (g.bs _ k2) k4 k5 ((soundV es g k6 h).mono fun us q => q.2)
    · cases k
  | .nm _, c, S, a, X, ρ, Ψ, tg, e, g, k, h
  | .ow _, c, S, a, X, ρ, Ψ, tg, e, g, k, h
  | .gl _, c, S, a, X, ρ, Ψ, tg, e, g, k, h
  | .int _, c, S, a, X, ρ, Ψ, tg, e, g, k, h
  | .str _, c, S, a, X, ρ, Ψ, tg, e, g, k, h
  | .bl _, c, S, a, X, ρ, Ψ, tg, e, g, k, h
  | .non, c, S, a, X, ρ, Ψ, tg, e, g, k, h
  | .nil, c, S, a, X, ρ, Ψ, tg, e, g, k, h
  | .cons _ _, c, S, a, X, ρ, Ψ, tg, e, g, k, h
  | .tup _, c, S, a, X, ρ, Ψ, tg, e, g, k, h
  | .lst _, c, S, a, X, ρ, Ψ, tg, e, g, k, h
  | .bin _ _ _, c, S, a, X, ρ, Ψ, tg, e, g, k, h
  | .neg _, c, S, a, X, ρ, Ψ, tg, e, g, k, h
  | .not _, c, S, a, X, ρ, Ψ, tg, e, g, k, h
  | .cmp _ _ _, c, S, a, X, ρ, Ψ, tg, e, g, k, h
  | .chn _ _ _ _ _, c, S, a, X, ρ, Ψ, tg, e, g, k, h
  | .and _ _, c, S, a, X, ρ, Ψ, tg, e, g, k, h
  | .or _ _, c, S, a, X, ρ, Ψ, tg, e, g, k, h
  | .one _, c, S, a, X, ρ, Ψ, tg, e, g, k, h
  | .val _, c, S, a, X, ρ, Ψ, tg, e, g, k, h
  | .ife _ _ _, c, S, a, X, ρ, Ψ, tg, e, g, k, h
  | .ix _ _, c, S, a, X, ρ, Ψ, tg, e, g, k, h
  | .sl _ _ _, c, S, a, X, ρ, Ψ, tg, e, g, k, h
  | .nop, c, S, a, X, ρ, Ψ, tg, e, g, k, h
  | .prt _, c, S, a, X, ρ, Ψ, tg, e, g, k, h
  | .call _ _, c, S, a, X, ρ, Ψ, tg, e, g, k, h
  | .callX _ _, c, S, a, X, ρ, Ψ, tg, e, g, k, h
  | .callO _ _, c, S, a, X, ρ, Ψ, tg, e, g, k, h
  | .callB _ _, c, S, a, X, ρ, Ψ, tg, e, g, k, h
  | .lent _ _ _, c, S, a, X, ρ, Ψ, tg, e, g, k, h
  | .ixo _ _, c, S, a, X, ρ, Ψ, tg, e, g, k, h
  | .hk _ _, c, S, a, X, ρ, Ψ, tg, e, g, k, h
  | .un _ _, c, S, a, X, ρ, Ψ, tg, e, g, k, h
  | .eqO _ _ _ _, c, S, a, X, ρ, Ψ, tg, e, g, k, h
  | .isC _ _, c, S, a, X, ρ, Ψ, tg, e, g, k, h
  | .orv _ _, c, S, a, X, ρ, Ψ, tg, e, g, k, h
  | .srtS _, c, S, a, X, ρ, Ψ, tg, e, g, k, h
  | .fld _ _ _, c, S, a, X, ρ, Ψ, tg, e, g, k, h
  | .mth _ _ _ _, c, S, a, X, ρ, Ψ, tg, e, g, k, h
  | .mt0 _ _ _, c, S, a, X, ρ, Ψ, tg, e, g, k, h
  | .prp _ _ _, c, S, a, X, ρ, Ψ, tg, e, g, k, h
  | .new _ _, c, S, a, X, ρ, Ψ, tg, e, g, k, h
  | .isi _ _, c, S, a, X, ρ, Ψ, tg, e, g, k, h
  | .lr1 _, c, S, a, X, ρ, Ψ, tg, e, g, k, h
  | .lr2 _ _, c, S, a, X, ρ, Ψ, tg, e, g, k, h
  | .blt _ _, c, S, a, X, ρ, Ψ, tg, e, g, k, h
  | .lc _ _ _ _ _, c, S, a, X, ρ, Ψ, tg, e, g, k, h => by simp [okI] at k
end
end
end DL
namespace DL
open PySem PySem.Spec PyProof.Rows L2
section
variable {a : An0} {X : Cx} {ρ : Env} {σ : L2.St} {ts : List T} {vs : List V} {H F : Hp} {Sc Sm : List Addr} {Φ : T → Prop} {pos p : Pos} {e A B C : Expr} {es : List Expr} {K : EnD}
theorem db_fgt {i : Nat} {sts : List Stmt} (h : DB a X (ρ.put i none) sts K) : DB a X ρ sts K := fun σ H D ok m => by
  obtain ⟨F, Sc, Sm, w⟩ := ok
  have e : ∃ x, σ.set i x = σ := by
    by_cases hi : i < σ.length
    · exact ⟨σ[i], List.set_getElem_self hi⟩
    · exact ⟨none, List.set_eq_of_length_le (by omega)⟩
  obtain ⟨x, e⟩ := e
  obtain ⟨Sc', w'⟩ := w.forget (x := x) i
  rw [e] at w'
  exact h σ H D ⟨F, Sc', Sm, w'⟩ m
end
end DL
namespace PySem
open PySem.Spec PySem.AutoSeq1
end PySem
namespace DL
open PySem PySem.Spec PyProof.Rows L2
section
variable {X : Cx}
end
section
variable {a : An0} {X : Cx} {ρ : Env} {σ : L2.St} {ts : List T} {vs : List V} {H F : Hp} {Sc Sm : List Addr} {Φ : T → Prop} {pos p : Pos} {e A B C : Expr} {es : List Expr} {K : EnD}
end
/-- what a list is made longer by: the items of a list, or of a tuple as data -/
noncomputable def T.itsU : T → Option (List T)
  | .leaf (.tup ds) => some (ds.map .leaf)
  | t => t.its
end DL
namespace DL
open PySem PySem.Spec PyProof.Rows L2

inductive B where
  | nil
  | asg (g : Tg) (e : I) (r : B)
  | asgLc (i : Nat) (own : List Nat) (g : Tg) (src cond elt : I) (r : B)
  | asgLcL (i j : Nat) (own : List Nat) (g : Tg) (src cond elt : I) (r : B)
  | par2 (i j : Nat) (x y : I) (r : B)
  | par3 (i j l : Nat) (x y z : I) (r : B)
  | aug (o : Aop) (i : Nat) (e : I) (r : B)
  | setix (i : Nat) (x e : I) (r : B)
  | augix (o : Aop) (i : Nat) (x e : I) (r : B)
  | app (i : Nat) (e : I) (r : B)
  | augix2 (o : Aop) (i : Nat) (x y e : I) (r : B)
  | ext (i : Nat) (e : I) (r : B)
  | ex (e : I) (r : B)
  | ret (e : I) (r : B)
  | retN (r : B)
  | ite (t : I) (x y r : B)
  | for_ (g : Tg) (src : I) (b r : B)
  | whl (t : I) (b r : B)
  | pass (r : B) | brk (r : B) | cont (r : B)
  | fz (i : Nat) (r : B)
  | fgt (i : Nat) (r : B)
  | unp2 (i j : Nat) (e : I) (r : B)
  | spl (i : Nat) (xs : List Nat) (j jj : Nat) (n : Int) (r : B) | spx (i j : Nat) (n : Int) (r : B) | rvs (i : Nat) (r : B) | retm (i : Nat) (r : B) | ret2m (e : I) (i : Nat) (r : B) | ins (i : Nat) (x e : I) (r : B)
  | dead
  | raise (cl : Nat) (f : Str) (x : I)
  | tryX (i : Nat) (b : B) (h : Hd) (r : B)
  | sh (k : Nat) (es : I) (r : B)
noncomputable def wb : Sg → B → Env → EnD → Prop
  | S, .nil, ρ, K => K.nx ρ
  | S, .asg g e r, ρ, K => w S e ρ fun t => t.fin fun u => ∃ ρ', bindG g u ρ = some ρ' ∧ wb S r ρ' K
  | S, .asgLc i own g src cond elt r, ρ, K => i < ρ.length ∧ ρ.wipes own = ρ ∧ wi S src ρ fun ds => ds.length ≤ 100000 ∧ lcW g (wc S cond) (w S elt) ρ ds [] fun us => wb S r (ρ.put i (some (.lst us))) K
  | S, .asgLcL i j own g src cond elt r, ρ, K => ∃ u, ρ.at j = some u ∧ u.dat.clean = true ∧ i < ρ.length ∧ wi S src (lentE ρ j u.dat own) fun ds => ds.length ≤ 100000 ∧ lcW g (wc S cond) (w S elt) (lentE ρ j u.dat own) ds [] fun us => T.fls us = true ∧ wb S r (ρ.put i (some (.lst us))) K
  | S, .par2 i j x y r, ρ, K => i ≠ j ∧ i < ρ.length ∧ j < ρ.length ∧ w S x ρ fun t => t.fin fun u => w S y ρ fun t' => t'.fin fun v => wb S r ((ρ.put i (some u)).put j (some v)) K
  | S, .par3 i j l x y z r, ρ, K => (i ≠ j ∧ i ≠ l ∧ j ≠ l) ∧ (i < ρ.length ∧ j < ρ.length ∧ l < ρ.length) ∧ w S x ρ fun t => t.fin fun u => w S y ρ fun t' => t'.fin fun v => w S z ρ fun t'' => t''.fin fun q => wb S r (((ρ.put i (some u)).put j (some v)).put l (some q)) K
  | S, .aug o i e r, ρ, K => ∃ d, ρ.at i = some (.leaf d) ∧ i < ρ.length ∧ w S e ρ fun y => augD o d y.dat fun z => wb S r (ρ.put i (some (.leaf z))) K
  | S, .setix i x e r, ρ, K => ∃ us, ρ.at i = some (.lst us) ∧ w S e ρ fun t => t.fin fun u => w S x ρ fun y => ∃ n j, y.dat = .int n ∧ ixN us.length n = some j ∧ wb S r (ρ.put i (some (.lst (us.set j u)))) K
  | S, .augix o i x e r, ρ, K => ∃ us, ρ.at i = some (.lst us) ∧ w S x ρ fun y => ∃ n j d, y.dat = .int n ∧ ixN us.length n = some j ∧ us[j]? = some (.leaf d) ∧ w S e ρ fun y2 => augD o d y2.dat fun z => wb S r (ρ.put i (some (.lst (us.set j (.leaf z))))) K
  | S, .app i e r, ρ, K => ∃ us, ρ.at i = some (.lst us) ∧ us.length ≤ 99999 ∧ w S e ρ fun t => t.fin fun u => wb S r (ρ.put i (some (.lst (us ++ [u])))) K
  | S, .augix2 o i x y e r, ρ, K => ∃ us, ρ.at i = some (.lst us) ∧ w S x ρ fun y1 => ∃ n1 j1 ws, y1.dat = .int n1 ∧ ixN us.length n1 = some j1 ∧ us[j1]? = some (.lst ws) ∧ w S y ρ fun y2 => ∃ n2 j2 d, y2.dat = .int n2 ∧ ixN ws.length n2 = some j2 ∧ ws[j2]? = some (.leaf d) ∧ w S e ρ fun y3 => augD o d y3.dat fun z => wb S r (ρ.put i (some (.lst (us.set j1 (.lst (ws.set j2 (.leaf z))))))) K
  | S, .sh k es r, ρ, K => ∃ f, S.sh[k]? = some f ∧ wv S es ρ fun us => f ρ us { K with nx := fun ρ' => wb S r ρ' K }
  | S, .ext i e r, ρ, K => ∃ us, ρ.at i = some (.lst us) ∧ w S e ρ fun t => ∃ us2, t.itsU = some us2 ∧ us.length + us2.length ≤ 100000 ∧ wb S r (ρ.put i (some (.lst (us ++ us2)))) K
  | S, .ex e r, ρ, K => w S e ρ fun _ => wb S r ρ K
  | S, .fgt i r, ρ, K => wb S r (ρ.put i none) K
  | S, .unp2 i j e r, ρ, K => w S e ρ fun t => ∃ u v, t.its = some [u, v] ∧ i < ρ.length ∧ j < ρ.length ∧ wb S r ((ρ.put i (some u)).put j (some v)) K
  | S, .spl i xs j jj n r, ρ, K => ∃ us, ρ.at i = some (.lst us) ∧ (xs.Nodup ∧ i ∉ xs ∧ xs[j]? = some jj ∧ jj < ρ.length ∧ ρ.wipes xs = ρ) ∧ (∀ t ∈ us, t.splOk xs.length j) ∧ wb S r (ρ.put i (some (.lst (us.map (T.spl j (.int n)))))) K
  | S, .spx i j n r, ρ, K => ∃ us vs, ρ.at i = some (.tup us) ∧ us[j]? = some (.lst vs) ∧ vs.length ≤ 99999 ∧ wb S r (ρ.put i (some (.tup (us.set j (.lst (vs ++ [.leaf (.int n)])))))) K
  | S, .retm i r, ρ, K => ∃ t, ρ.at i = some t ∧ K.rt t (ρ.put i none)
  | S, .ret2m e i r, ρ, K => ∃ t2, ρ.at i = some t2 ∧ w S e ρ fun t => t.fin fun u => K.rt (T.mk [u, t2]) (ρ.put i none)
  | S, .rvs i r, ρ, K => ∃ us, ρ.at i = some (.lst us) ∧ wb S r (ρ.put i (some (.lst us.reverse))) K
  | S, .ins i x e r, ρ, K => ∃ us, ρ.at i = some (.lst us) ∧ us.length ≤ 99999 ∧ w S x ρ fun t => ∃ n, t.dat = .int n ∧ 0 ≤ n ∧ n < 2 ^ 62 ∧ w S e ρ fun u => u.fin fun u => wb S r (ρ.put i (some (.lst (us.take n.toNat ++ [u] ++ us.drop n.toNat)))) K
  | S, .ret e r, ρ, K => w S e ρ fun t => t.fin fun u => K.rt u ρ
  | S, .retN r, ρ, K => K.rt (.leaf .non) ρ
  | S, .ite t x y r, ρ, K => wt S t ρ fun b => if b = true then wb S x ρ { K with nx := fun ρ' => wb S r ρ' K } else wb S y ρ { K with nx := fun ρ' => wb S r ρ' K }
  | S, .for_ g src b r, ρ, K => wi S src ρ fun ds => forW g (fun ρ K => wb S b ρ K) ds ρ { K with nx := fun ρ' => wb S r ρ' K }
  | S, .whl t b r, ρ, K => ∃ n, whileW (wt S t) (fun ρ K => wb S b ρ K) n ρ { K with nx := fun ρ' => wb S r ρ' K }
  | S, .pass r, ρ, K => wb S r ρ K
  | S, .brk r, ρ, K => K.bk ρ
  | S, .cont r, ρ, K => K.ct ρ
  | S, .dead, _, _ => False
  | S, .raise cl _ x, ρ, _ => (x.isNil = true ∧ S.ex cl []) ∨ w S x ρ fun t => ∃ d, t = .leaf d ∧ d.flat = true ∧ S.ex cl [d]
  | S, .tryX _ b h r, ρ, K => wb { S with ex := fun cl fs => S.xd cl = true ∧ ∃ d, h.ev (S.xa cl) (S.xf cl) fs = some d ∧ ∀ ρ', K.rt (.leaf d) ρ' } b ρ { K with nx := fun ρ' => wb S r ρ' K }
  | S, .fz i r, ρ, K => S.z = true ∧ ∃ u, ρ.at i = some u ∧ wb S r (ρ.put i (some (.leaf u.dat))) K
noncomputable def okB (c : Cn) : B → List Stmt → Bool
  | .nil, s => match s with | [] => true | _ => false
  | .asg g e r, s => match s with | .Assign [tg] v _ :: rest => okG c.toCt g tg && noComp v && noPar2 c.toCt tg v && okE c e v && okB c r rest | _ => false
  | .asgLc i own g src cond elt r, s => match s with
    | .Assign [.Name y _] (.ListComp el [⟨tg, it, ifs, 0⟩] scope _) _ :: rest => nameIs c.toCt i y && c.loc y && blkC c.N c.sc scope (ownOf c own) && decide ((ownOf c own).map (·.2) = own) && okG (c.inn scope).toCt g tg && g.slots.all (fun i => own.contains i) && notSet it && okI c src tg it && okC (c.inn scope) cond ifs && okE (c.inn scope) elt el && okB c r rest
    | _ => false
  | .asgLcL i _ own g src cond elt r, s => false
  | .par2 i j x y r, s => match s with
    | .Assign [.Tuple [.Name n px, .Name m py] _ _] (.Tuple [A, B] _ _) _ :: rest => nameIs c.toCt i n && nameIs c.toCt j m && par2Ok c.toCt n m px py A B && notStar A && notStar B && okE c x A && okE c y B && okB c r rest
    | _ => false
  | .par3 i j l x y z r, s => match s with
    | .Assign [.Tuple [.Name n px, .Name m py, .Name q pz] _ _] (.Tuple [A, B, C] _ _) _ :: rest => nameIs c.toCt i n && nameIs c.toCt j m && nameIs c.toCt l q && par3Ok c.toCt n m q px py pz A B C && notStar A && notStar B && notStar C && okE c x A && okE c y B && okE c z C && okB c r rest
    | _ => false
  | .aug o i e r, s => match s with
    | .AugAssign (.Name x _) op v _ :: rest => decide (op = o.op) && nameIs c.toCt i x && c.loc x && okE c e v && okB c r rest
    | _ => false
  | .setix i x e r, s => match s with
    | .Assign [.Subscript (.Name n _) k _] v _ :: rest => nameIs c.toCt i n && c.vis n && plainName n && noComp v && notSlice k && okE c e v && okE c x k && okB c r rest
    | _ => false
  | .augix o i x e r, s => match s with
    | .AugAssign (.Subscript (.Name n _) k _) op v _ :: rest => decide (op = o.op) && nameIs c.toCt i n && c.vis n && plainName n && notSlice k && okE c x k && okE c e v && okB c r rest
    | _ => false
  | .app i e r, s => match s with
    | .Expr (.Call (.Attribute (.Name n _) m ap) [v] [] cp) _ :: rest => (m == ("append" : Str)) && nameIs c.toCt i n && c.vis n && plainName n && (ap.endLine == cp.line) && notStar v && okE c e v && okB c r rest
    | _ => false
  | .augix2 o i x y e r, s => false
  | .ext i e r, s => false
  | .sh k es r, s => match s with
    | st :: rest => (match c.sp[k]? with | some pat => (match pat c.toCt st with | some as => okA c es as | none => false) | none => false) && okB c r rest
    | _ => false
  | .fgt i r, s => okB c r s
  | .unp2 i j e r, s => false
  | .spl i xs j jj n r, s => false
  | .spx i j n r, s => false
  | .retm i r, s => match s with | .Return (some (.Name x _)) _ :: _ => nameIs c.toCt i x && c.vis x && plainName x | _ => false
  | .ret2m e i r, s => false
  | .rvs i r, s => match s with
    | .Expr (.Call (.Attribute (.Name x _) m ap) [] [] cp) _ :: rest => (m == ("reverse" : Str)) && nameIs c.toCt i x && c.vis x && plainName x && (ap.endLine == cp.line) && okB c r rest
    | _ => false
  | .ins i q e r, s => false
  | .ex e r, s => match s with | .Expr v _ :: rest => noComp v && okE c e v && okB c r rest | _ => false
  | .ret e r, s => match s with | .Return (some v) _ :: _ => okE c e v | _ => false
  | .retN r, s => false
  | .ite t x y r, s => match s with | .If q s1 s2 _ :: rest => okT c t q && okB c x s1 && okB c y s2 && okB c r rest | _ => false
  | .for_ g src b r, s => match s with | .For tg it body [] _ :: rest => okG c.toCt g tg && notSet it && okI c src tg it && okB c b body && okB c r rest | _ => false
  | .whl t b r, s => false
  | .pass r, s => false
  | .brk r, s => false
  | .cont r, s => false
  | .dead, _ => true
  | .raise cl f x, s => false
  | .tryX i b h r, s => false
  | .fz i r, s => okB c r s
theorem DQ.mono {a : An0} {X : Cx} {ρ : Env} : ∀ {as : List Expr} {Ψ Ψ' : List T → Prop}, (∀ us, Ψ us → Ψ' us) → DQ a X ρ as Ψ → DQ a X ρ as Ψ'
  | [], _, _, i, h => i _ h
  | e :: r, _, _, i, h => DE.mono h fun t q => DQ.mono (fun us => i (t :: us)) q
section
variable {c : Cn} {S : Sg} {a : An0} {X : Cx} {ρ : Env} {K : EnD}
theorem da_two {x y : I} {A B : Expr} {Ψ : List T → Prop} (g : Good c S a X) (k1 : notStar A = true) (k2 : notStar B = true) (k3 : okE c x A = true) (k4 : okE c y B = true) (h : w S x ρ fun t => t.fin fun u => w S y ρ fun t' => t'.fin fun v => Ψ [u, v]) : DA a X ρ [A, B] Ψ :=
  da_cons k1 ((soundE x g k3 h).mono fun t q => fin_mono (fun u q => da_cons k2 ((soundE y g k4 q).mono fun t q => fin_mono (fun v q => da_nil q) q)) q)
theorem da_three {x y z : I} {A B C : Expr} {Ψ : List T → Prop} (g : Good c S a X) (k1 : notStar A = true) (k2 : notStar B = true) (k3 : notStar C = true) (k4 : okE c x A = true) (k5 : okE c y B = true) (k6 : okE c z C = true) (h : w S x ρ fun t => t.fin fun u => w S y ρ fun t' => t'.fin fun v => w S z ρ fun t'' => t''.fin fun q => Ψ [u, v, q]) : DA a X ρ [A, B, C] Ψ :=
  da_cons k1 ((soundE x g k4 h).mono fun t q => fin_mono (fun u q => da_cons k2 ((soundE y g k5 q).mono fun t q => fin_mono (fun v q => da_cons k3 ((soundE z g k6 q).mono fun t q => fin_mono (fun q' q => da_nil q) q)) q)) q)
theorem DI.mono {tg e : Expr} {Φ Ψ : List D → Prop} (h : DI a X ρ tg e Φ) (i : ∀ t, Φ t → Ψ t) : DI a X ρ tg e Ψ := fun σ H ts vs R ok k => h σ H ts vs R ok fun J H' F Sc Sm ds q => k J H' F Sc Sm ds (i ds q)
theorem DB.mono_nx {s : List Stmt} {P P' : Env → Prop} (h : DB a X ρ s { K with nx := P }) (i : ∀ ρ', P ρ' → P' ρ') : DB a X ρ s { K with nx := P' } := fun σ H D ok m => h σ H D ok ⟨fun ρ' σ' H' hk => m.1 ρ' σ' H' (i ρ' hk), m.2⟩
theorem DS.mono_nx {s : Stmt} {P P' : Env → Prop} (h : DS a X ρ s { K with nx := P }) (i : ∀ ρ', P ρ' → P' ρ') : DS a X ρ s { K with nx := P' } := fun σ H D ok m => h σ H D ok ⟨fun ρ' σ' H' hk => m.1 ρ' σ' H' (i ρ' hk), m.2⟩
theorem db_fz {i : Nat} {u : T} {sts : List Stmt} (io : NoIo a) (e : ρ.at i = some u) (h : DB a X (ρ.put i (some (.leaf u.dat))) sts K) : DB a X ρ sts K := fun σ H D ok m => by
  obtain ⟨F, Sc, Sm, w⟩ := ok
  obtain ⟨x, Si, Sr, e1, h1, hp, go⟩ := w.cells.focus e
  obtain ⟨v', S1, e2, h2, _, nv⟩ := w.cells.get e
  have nd : ((Si ++ Sr) ++ Sm).Nodup := ((List.Perm.append_right Sm hp).nodup_iff).mp w.nd
  have mem : ∀ p, p ∈ Si ++ Sr → p ∈ Sc := fun p h => hp.mem_iff.mpr h
  have fr1 : ∀ p ∈ Si, F p = none ∧ ¬ a.toAn.hid p ∧ a.H0 p = none := fun p hp2 => by
    obtain ⟨f1, f2, f3⟩ := w.fr p (List.mem_append_left _ (mem p (List.mem_append_left _ hp2)))
    exact ⟨f1, f2, f3.resolve_left fun z => f2 (io p z)⟩
  have sF : Sub F (fun p => if p ∈ Si then H p else F p) := fun p o q => by
    show (if p ∈ Si then H p else F p) = some o
    rw [if_neg fun z => by rw [(fr1 p z).1] at q; cases q]
    exact q
  have isx : Is a.toAn (fun p => if p ∈ Si then H p else F p) u.dat x := Ow.froz sF nv h1 fun p hp2 => if_pos hp2
  have nb : ∀ b, a.toAn.hid b → b ∉ Si := fun b eb z => (fr1 b z).2.1 eb
  obtain ⟨S', c', p'⟩ := go (fun p => if p ∈ Si then H p else F p) H (.leaf u.dat) [] sF (fun p _ o q => q) (by simp only [Ow]; exact ⟨trivial, isx⟩) rfl
  refine h σ H D ⟨fun p => if p ∈ Si then H p else F p, S', Sm, ?_⟩ m
  have mem' : ∀ p, p ∈ S' → p ∈ Sr := fun p h => by simpa using p'.mem_iff.mp h
  obtain ⟨n1, n2, n3⟩ := List.nodup_append.mp nd
  obtain ⟨n4, n5, n6⟩ := List.nodup_append.mp n1
  refine ⟨fun p o q => ?_, ⟨w.gw.ff.trans sF, w.gw.hh, fun p z n => ?_, w.gw.th⟩, w.bagM, w.bag.mono sF (Sub.refl H) fun b eb => (if_neg (nb b eb)).trans (w.bag.no b eb), c', w.tmps.mono sF (Sub.refl _) (fun p _ o q => q), ?_, fun p hp2 => ?_, ?_, w.wit, fun G hG => (w.wif G hG).trans sF⟩
  · by_cases z : p ∈ Si
    · rw [show (if p ∈ Si then H p else F p) = H p from if_pos z] at q; exact q
    · rw [show (if p ∈ Si then H p else F p) = F p from if_neg z] at q; exact w.sub p o q
  · show (if p ∈ Si then H p else F p) = none
    rw [if_neg fun y => z (fr1 p y).2.2]
    exact w.gw.nn p z n
  · refine List.nodup_append.mpr ⟨?_, n2, fun p h1 q h2 => n3 p (List.mem_append_right _ (mem' p h1)) q h2⟩
    exact p'.nodup_iff.mpr (by simpa using n5)
  · have hs : p ∉ Si := fun z => by
      rcases List.mem_append.mp hp2 with y | y
      · exact n6 p z p (mem' p y) rfl
      · exact n3 p (List.mem_append_left _ z) p y rfl
    obtain ⟨f1, f2, f3⟩ := w.fr p (by
      rcases List.mem_append.mp hp2 with y | y
      · exact List.mem_append_left _ (mem p (List.mem_append_right _ (mem' p y)))
      · exact List.mem_append_right _ y)
    exact ⟨(if_neg hs).trans f1, f2, f3⟩
  · rw [Env.put_length]; exact w.len
theorem augm {o : Aop} {x y : D} {Φ Ψ : D → Prop} (i : ∀ t, Φ t → Ψ t) (h : augD o x y Φ) : augD o x y Ψ := by
  unfold augD at h ⊢
  split at h <;> first
    | exact h.elim
    | exact ⟨h.1, i _ h.2⟩
    | exact i _ h
theorem Good.tr {c : Cn} {S : Sg} {a : An0} {X : Cx} {pn : List (Addr × Obj)} {xe : Value → Shared → Prop} {ex : Nat → List D → Prop} (g : Good c S a X) (tk : Takes (X.tr pn xe) (Wx a ex)) (po : PassesOwn (model X.prog X.w) X.A X.env xe) : Good c { S with ex := ex } a (X.tr pn xe) :=
  ⟨⟨g.xo.K, g.xo.calm, g.xo.nd, g.xo.gu, g.xo.hd, g.xo.un, po⟩, ⟨g.co.N, g.co.sc, g.co.fn, g.co.keep⟩, g.io, g.hk, fun k x f h1 h2 => ⟨⟨(g.fns k x f h1 h2).1.ex⟩, (g.fns k x f h1 h2).2⟩, g.gls, g.bs, fun k q f h1 h2 => ⟨⟨(g.ms k q f h1 h2).1.ex⟩, (g.ms k q f h1 h2).2⟩, fun k q f h1 h2 => ⟨⟨(g.ps k q f h1 h2).1.ex⟩, (g.ps k q f h1 h2).2⟩, fun k q f h1 h2 => ⟨⟨(g.nw k q f h1 h2).1.ex⟩, (g.nw k q f h1 h2).2⟩, fun q h => ⟨(g.fd q h).ex⟩, fun q h => ⟨(g.ic q h).ex⟩,
    ⟨fun k x f h1 h2 => ⟨⟨(g.xp.xs k x f h1 h2).1.ex⟩, (g.xp.xs k x f h1 h2).2⟩, fun h => ⟨⟨(g.xp.rz h).1.hs, (g.xp.rz h).1.hf⟩, tk⟩, fun h q hq f hf => ⟨(g.xp.xk h q hq f hf).1, (g.xp.xk h q hq f hf).2⟩, fun q h => ⟨(g.xp.xc q h).ex⟩, fun h =>
      let ⟨cP, hn, hc⟩ := g.xp.xh h
      ⟨cP, hn, fun cl e => let ⟨C, e1, e2, e3, ok⟩ := hc cl e
        ⟨C, e1, e2, e3, ⟨ok.gl, ok.mg, fun k x h => let ⟨v, u, hv, hk⟩ := ok.nm k x h; ⟨v, u, ⟨hv.rel, hv.uni, hv.gl, hv.nd, hv.at_⟩, hk⟩, ok.no⟩⟩⟩,
      fun k pat f h1 h2 b2 pn2 xe2 e2 => g.xp.hk k pat f h1 h2 b2 pn2 xe2 e2, fun k pat f h1 h2 => ⟨(g.xp.sh k pat f h1 h2).1, fun b2 pn2 xe2 e2 => (g.xp.sh k pat f h1 h2).2 b2 pn2 xe2 e2⟩, fun k pat f h1 h2 b2 pn2 xe2 e2 => g.xp.ht k pat f h1 h2 b2 pn2 xe2 e2⟩⟩
theorem soundB : ∀ (b : B) {c : Cn} {S : Sg} {a : An0} {X : Cx} {ρ : Env} {K : EnD} {s : List Stmt}, a.W = [] → Good c S a X → okB c b s = true → wb S b ρ K → DB a X ρ s K
  | .dead, c, S, a, X, ρ, K, s, hW, g, k, h => by
    simp only [wb] at h
  | .raise cl f x, c, S, a, X, ρ, K, s, hW, g, k, h => by simp [okB] at k
  | .tryX i b hd r, c, S, a, X, ρ, K, s, hW, g, k, h => by simp [okB] at k
  | .nil, c, S, a, X, ρ, K, s, hW, g, k, h => by
    simp only [okB] at k
    simp only [wb] at h
    split at k
    · exact db_nil h
    · cases k
  | .asg gt e r, c, S, a, X, ρ, K, s, hW, g, k, h => by
    simp only [okB] at k
    simp only [wb] at h
    split at k
    · simp only [Bool.and_eq_true] at k
      obtain ⟨⟨⟨⟨k1, k2⟩, k3⟩, k4⟩, k5⟩ := k
      exact db_cons (ds_asgG g.xo g.co k1 (noswap1 k2) (nopar2 g.co k3) ((soundE e g k4 h).mono fun t q => fin_mono (fun u q => q.elim fun ρ' q => ⟨ρ', q.1, soundB r hW g k5 q.2⟩) q))
    · cases k
  | .asgLc i own gt src cond elt r, c, S, a, X, ρ, K, s, hW, g, k, h => by
    simp only [okB] at k
    simp only [wb] at h
    split at k
    · simp only [Bool.and_eq_true, decide_eq_true_eq, List.all_eq_true] at k
      obtain ⟨⟨⟨⟨⟨⟨⟨⟨⟨⟨k1, k2⟩, k3⟩, k4⟩, k5⟩, k6⟩, k7⟩, k8⟩, k9⟩, k10⟩, k11⟩ := k
      have sk := blk_kind k3
      refine db_cons (DS.mono_nx (ds_asgLc (K := { K with nx := fun ρ' => wb S r ρ' K }) (wc := wc S cond) (we := w S elt) g.xo g.co g.hk k1 k2 h.1 k3 k5 (fun i hi => ?_) (by rw [k4]; exact h.2.1) k7 (fun H F s H2 C cl fp ρ' Ψ q => soundC cond (g.on.blk sk) k9 q) (fun H F s H2 C cl fp ρ' Ψ q => soundE elt (g.on.blk sk) k10 q) (soundI src g k8 h.2.2)) fun ρ' q => soundB r hW g k11 q)
      rw [k4]
      have := k6 i hi
      simpa using this
    · cases k
  | .asgLcL i j own gt src cond elt r, c, S, a, X, ρ, K, s, hW, g, k, h => by simp [okB] at k
  | .par2 i j x y r, c, S, a, X, ρ, K, s, hW, g, k, h => by
    simp only [okB] at k
    simp only [wb] at h
    split at k
    · simp only [Bool.and_eq_true] at k
      obtain ⟨⟨⟨⟨⟨⟨⟨k1, k2⟩, k3⟩, k4⟩, k5⟩, k6⟩, k7⟩, k8⟩ := k
      obtain ⟨h1, h2, h3, h4⟩ := h
      exact db_cons (ds_par2 g.xo g.co g.hk k1 k2 h1 k3 h2 h3 ((da_two (Ψ := fun us => match us with
        | [u, v] => wb S r ((ρ.put i (some u)).put j (some v)) K
        | _ => False) g k4 k5 k6 k7 h4).mono fun us q => by
          split at q
          · exact ⟨_, _, rfl, soundB r hW g k8 q⟩
          · exact q.elim))
    · cases k
  | .par3 i j l x y z r, c, S, a, X, ρ, K, s, hW, g, k, h => by
    simp only [okB] at k
    simp only [wb] at h
    split at k
    · simp only [Bool.and_eq_true] at k
      obtain ⟨⟨⟨⟨⟨⟨⟨⟨⟨⟨k1, k2⟩, k3⟩, k4⟩, k5⟩, k6⟩, k7⟩, k8⟩, k9⟩, k10⟩, k11⟩ := k
      obtain ⟨⟨h1, h2, h3⟩, ⟨h4, h5, h6⟩, h7⟩ := h
      exact db_cons (ds_par3 g.xo g.co g.hk k1 k2 k3 h1 h2 h3 k4 h4 h5 h6 ((da_three (Ψ := fun us => match us with
        | [u, v, q] => wb S r (((ρ.put i (some u)).put j (some v)).put l (some q)) K
        | _ => False) g k5 k6 k7 k8 k9 k10 h7).mono fun us q => by
          split at q
          · exact ⟨_, _, _, rfl, soundB r hW g k11 q⟩
          · exact q.elim))
    · cases k
  | .aug o i e r, c, S, a, X, ρ, K, s, hW, g, k, h => by
    simp only [okB] at k
    simp only [wb] at h
    split at k
    · simp only [Bool.and_eq_true, decide_eq_true_eq] at k
      obtain ⟨⟨⟨⟨k1, k2⟩, k3⟩, k4⟩, k5⟩ := k
      obtain ⟨d, h1, h2, h3⟩ := h
      obtain ⟨l1, l2⟩ := Ct.loc_of g.co k3
      rw [k1]
      exact db_cons (ds_aug g.xo (nameIs_of g.co k2) l1 l2 h1 h2 ((soundE e g k4 h3).mono fun y q => augm (fun z q => soundB r hW g k5 q) q))
    · cases k
  | .setix i x e r, c, S, a, X, ρ, K, s, hW, g, k, h => by
    simp only [okB] at k
    simp only [wb] at h
    split at k
    · simp only [Bool.and_eq_true] at k
      obtain ⟨⟨⟨⟨⟨⟨⟨k1, k2⟩, k3⟩, k4⟩, k5⟩, k6⟩, k7⟩, k8⟩ := k
      obtain ⟨us, h1, h2⟩ := h
      obtain ⟨q1, q2, _⟩ := plain_of k3
      exact db_cons (ds_setix g.xo hW (nameIs_of g.co k1) (Ct.vis_of g.co k2) q1 q2 k4 k5 h1 ((soundE e g k6 h2).mono fun t q => fin_mono (fun u q => (soundE x g k7 q).mono fun y q => q.elim fun n q => q.elim fun j q => ⟨n, j, q.1, q.2.1, soundB r hW g k8 q.2.2⟩) q))
    · cases k
  | .augix o i x e r, c, S, a, X, ρ, K, s, hW, g, k, h => by
    simp only [okB] at k
    simp only [wb] at h
    split at k
    · simp only [Bool.and_eq_true, decide_eq_true_eq] at k
      obtain ⟨⟨⟨⟨⟨⟨⟨k1, k2⟩, k3⟩, k4⟩, k5⟩, k6⟩, k7⟩, k8⟩ := k
      obtain ⟨us, h1, h2⟩ := h
      obtain ⟨q1, q2, _⟩ := plain_of k4
      rw [k1]
      exact db_cons (ds_augix g.xo hW (nameIs_of g.co k2) (Ct.vis_of g.co k3) q1 q2 k5 h1 ((soundE x g k6 h2).mono fun y q => q.elim fun n q => q.elim fun j q => q.elim fun d q => ⟨n, j, d, q.1, q.2.1, q.2.2.1, (soundE e g k7 q.2.2.2).mono fun y2 q => augm (fun z q => soundB r hW g k8 q) q⟩))
    · cases k
  | .app i e r, c, S, a, X, ρ, K, s, hW, g, k, h => by
    simp only [okB] at k
    simp only [wb] at h
    split at k
    · simp only [Bool.and_eq_true] at k
      obtain ⟨⟨⟨⟨⟨⟨⟨k1, k2⟩, k3⟩, k4⟩, k5⟩, k6⟩, k7⟩, k8⟩ := k
      obtain ⟨us, h1, h2, h3⟩ := h
      obtain ⟨q1, q2, _⟩ := plain_of k4
      have em := beq_iff_eq.mp k1
      subst em
      exact db_cons (ds_append g.xo hW (nameIs_of g.co k2) (Ct.vis_of g.co k3) q1 q2 k5 k6 h1 h2 ((soundE e g k7 h3).mono fun t q => fin_mono (fun u q => soundB r hW g k8 q) q))
    · cases k
  | .augix2 o i x y e r, c, S, a, X, ρ, K, s, hW, g, k, h => by simp [okB] at k
  | .ext i e r, c, S, a, X, ρ, K, s, hW, g, k, h => by simp [okB] at k
  | .sh n es r, c, S, a, X, ρ, K, s, hW, g, k, h => by
    simp only [okB] at k
    simp only [wb] at h
    split at k
    · rename_i st rest
      rw [Bool.and_eq_true] at k
      obtain ⟨k1, k2⟩ := k
      obtain ⟨f, hf, h⟩ := h
      split at k1
      · rename_i pat hp
        split at k1
        · rename_i as ha
          obtain ⟨mo, sd⟩ := g.xp.sh n pat f hp hf
          have q1 : DQ a X ρ as fun us => f ρ us { K with nx := fun ρ' => DB a X ρ' rest K } := DQ.mono (fun us q => mo ρ us { K with nx := fun ρ' => wb S r ρ' K } { K with nx := fun ρ' => DB a X ρ' rest K } ⟨fun ρ' q => soundB r hW g k2 q, fun _ _ q => q, fun _ q => q, fun _ q => q⟩ q) (soundQ es g k1 h)
          exact db_cons (sd a X.pn X.xe rfl rfl hW g.xo.po st as ha ρ _ q1)
        · cases k1
      · cases k1
    · cases k
  | .fgt i r, c, S, a, X, ρ, K, s, hW, g, k, h => by
    simp only [okB] at k
    simp only [wb] at h
    exact db_fgt (soundB r hW g k h)
  | .unp2 i j e r, c, S, a, X, ρ, K, s, hW, g, k, h => by simp [okB] at k
  | .spl i xs j jj n r, c, S, a, X, ρ, K, s, hW, g, k, h => by simp [okB] at k
  | .spx i j n r, c, S, a, X, ρ, K, s, hW, g, k, h => by simp [okB] at k
  | .retm i r, c, S, a, X, ρ, K, s, hW, g, k, h => by
    simp only [okB] at k
    simp only [wb] at h
    split at k
    · simp only [Bool.and_eq_true] at k
      obtain ⟨⟨k1, k2⟩, k3⟩ := k
      obtain ⟨t, h1, h2⟩ := h
      obtain ⟨q1, q2, _⟩ := plain_of k3
      exact db_cons (ds_retm (nameIs_of g.co k1) (Ct.vis_of g.co k2) q1 q2 h1 h2)
    · cases k
  | .ret2m e i r, c, S, a, X, ρ, K, s, hW, g, k, h => by simp [okB] at k
  | .rvs i r, c, S, a, X, ρ, K, s, hW, g, k, h => by
    simp only [okB] at k
    simp only [wb] at h
    split at k
    · simp only [Bool.and_eq_true] at k
      obtain ⟨⟨⟨⟨⟨k1, k2⟩, k3⟩, k4⟩, k5⟩, k6⟩ := k
      obtain ⟨us, h1, h2⟩ := h
      obtain ⟨q1, q2, _⟩ := plain_of k4
      have em := beq_iff_eq.mp k1
      subst em
      exact db_cons (ds_reverse g.xo hW (nameIs_of g.co k2) (Ct.vis_of g.co k3) q1 q2 k5 h1 (soundB r hW g k6 h2))
    · cases k
  | .ins i q e r, c, S, a, X, ρ, K, s, hW, g, k, h => by simp [okB] at k
  | .ex e r, c, S, a, X, ρ, K, s, hW, g, k, h => by
    simp only [okB] at k
    simp only [wb] at h
    split at k
    · simp only [Bool.and_eq_true] at k
      exact db_cons (ds_expr k.1.1 ((soundE e g k.1.2 h).mono fun t q => soundB r hW g k.2 q))
    · cases k
  | .ret e r, c, S, a, X, ρ, K, s, hW, g, k, h => by
    simp only [okB] at k
    simp only [wb] at h
    split at k
    · exact db_cons (ds_ret (soundE e g k h))
    · cases k
  | .retN r, c, S, a, X, ρ, K, s, hW, g, k, h => by simp [okB] at k
  | .ite t x y r, c, S, a, X, ρ, K, s, hW, g, k, h => by
    simp only [okB] at k
    simp only [wb] at h
    split at k
    · simp only [Bool.and_eq_true] at k
      obtain ⟨⟨⟨k1, k2⟩, k3⟩, k4⟩ := k
      exact db_cons (ds_if ((soundT t g k1 h).mono fun b q => ite_mono (fun q => (soundB x hW g k2 q).mono_nx fun ρ' q => soundB r hW g k4 q) (fun q => (soundB y hW g k3 q).mono_nx fun ρ' q => soundB r hW g k4 q) q))
    · cases k
  | .for_ gt src b r, c, S, a, X, ρ, K, s, hW, g, k, h => by
    simp only [okB] at k
    simp only [wb] at h
    split at k
    · simp only [Bool.and_eq_true] at k
      obtain ⟨⟨⟨⟨k1, k2⟩, k3⟩, k4⟩, k5⟩ := k
      exact db_cons (DS.mono_nx (ds_for (K := { K with nx := fun ρ' => wb S r ρ' K }) (wb := fun ρ K => wb S b ρ K) g.xo g.co k1 k2 (fun F ρ' K' q => soundB b (by exact hW) g.onV k4 q) (soundI src g k3 h)) fun ρ' q => soundB r hW g k5 q)
    · cases k
  | .whl t b r, c, S, a, X, ρ, K, s, hW, g, k, h => by simp [okB] at k
  | .pass r, c, S, a, X, ρ, K, s, hW, g, k, h => by simp [okB] at k
  | .brk r, c, S, a, X, ρ, K, s, hW, g, k, h => by simp [okB] at k
  | .cont r, c, S, a, X, ρ, K, s, hW, g, k, h => by simp [okB] at k
  | .fz i r, c, S, a, X, ρ, K, s, hW, g, k, h => by
    simp only [okB] at k
    simp only [wb] at h
    obtain ⟨hz, u, h1, h2⟩ := h
    exact db_fz (g.io hz) h1 (soundB r hW g k h2)
end
end DL
namespace DL
open PySem PySem.Spec PyProof.Rows L2

noncomputable def envS (N : List Str) (ts : List T) : Env := ts.map some ++ List.replicate (N.length - ts.length) none
theorem owc_none {a : An} {F H : Hp} : ∀ (n : Nat) (σ : L2.St), OwC a F H (List.replicate n none) σ []
  | 0, σ => by simp [OwC]
  | n + 1, σ => by
    rw [List.replicate_succ]
    simp only [OwC]
    exact owc_none n _
theorem owc_start {a : An} {F H : Hp} : ∀ {ds : List D} {vs : List V} {n : Nat}, IsL a F ds vs → OwC a F H ((ds.map T.leaf).map some ++ List.replicate n none) (vs.map some ++ List.replicate n none) []
  | [], vs, n, h => owc_none n _
  | d :: ds, vs, n, h => by
    simp only [IsL] at h
    obtain ⟨v, r, rfl, h1, h2⟩ := h
    simp only [List.map_cons, List.cons_append, OwC]
    exact ⟨v, [], [], ⟨rfl, rfl⟩, by simp only [Ow]; exact ⟨trivial, h1⟩, owc_start h2, rfl⟩
/-- a def that keeps its promise, under its name -/
structure FnB (P : Program) (w : World) (K : PySem.W.Frag) (mg : Str → Option Value) (base : Heap) (cls : Nat → Option (Addr × List Str)) (k : Nat) (x : Str) (f : SpecF) : Prop where
  ex : ∃ (fa : Addr) (fd : FuncData) (ps : List Str), FnG P w K mg base CX0 k fa fd ps (spD K cls f) ∧ mg x = some (.ref fa) ∧ PySem.W.keepIn K (.ref fa) = true ∧ Binds K fd ps []
  mo : Mono f
/-- what own classes promise, at level k -/
structure ObB (P : Program) (w : World) (K : PySem.W.Frag) (mg : Str → Option Value) (base : Heap) (cls : Nat → Option (Addr × List Str)) (k : Nat) (c : Cn) (S : Sg) : Prop where
  ms : ∀ (i : Nat) q f, c.ms[i]? = some q → S.ms[i]? = some f → (∃ (C fa : Addr) (ns : List Str) (fd : FuncData) (ps : List Str), cls q.1 = some (C, ns) ∧ q.2 ∉ ns ∧ Cls K C ∧ Meth K C q.2 fa ∧ FnG P w K mg base CX0 k fa fd ps (spD K cls f) ∧ Binds K fd ps []) ∧ Mono f
  ps : ∀ (i : Nat) q f, c.ps[i]? = some q → S.ps[i]? = some f → (∃ (C fa p : Addr) (ns : List Str) (fd : FuncData) (j : Nat) (ps : List Str), j + 1 ≤ k ∧ cls q.1 = some (C, ns) ∧ Cls K C ∧ PropOf K C q.2 p fa ∧ FnG P w K mg base CX0 j fa fd ps (spD K cls f) ∧ Binds K fd ps []) ∧ Mono f
  nw : ∀ (i : Nat) x f, c.nw[i]? = some x → S.nw[i]? = some f → (∃ (C fa : Addr) (cl : Nat) (ns : List Str) (fd : FuncData) (j : Nat) (ps : List Str), j + 1 ≤ k ∧ cls cl = some (C, ns) ∧ Mk K C fa ∧ mg x = some (.ref C) ∧ FnG P w K mg base CX0 j fa fd ps (spI K cls cl f) ∧ Binds K fd ps []) ∧ Mono f
  fd : ∀ q ∈ c.fd, ∃ (C : Addr) (ns : List Str), cls q.1 = some (C, ns) ∧ ns[q.2.1]? = some q.2.2 ∧ ns.Nodup ∧ Cls K C ∧ NoAttr K C q.2.2
  ic : ∀ q ∈ c.ic, ∃ (C : Addr) (ns : List Str), cls q.1 = some (C, ns) ∧ mg q.2 = some (.ref C) ∧ C8.InsC K C
theorem obNil {P : Program} {w : World} {K : PySem.W.Frag} {mg : Str → Option Value} {base : Heap} {cls : Nat → Option (Addr × List Str)} {k : Nat} {c : Cn} {S : Sg} (h1 : c.ms = []) (h2 : c.ps = []) (h3 : c.nw = []) (h4 : c.fd = []) (h5 : c.ic = []) : ObB P w K mg base cls k c S :=
  ⟨fun i q f h => by rw [h1] at h; simp at h, fun i q f h => by rw [h2] at h; simp at h, fun i q f h => by rw [h3] at h; simp at h, fun q h => by rw [h4] at h; simp at h, fun q h => by rw [h5] at h; simp at h⟩
section
variable {P : Program} {w : World} {K : PySem.W.Frag} {mg : Str → Option Value} {base : Heap} {cls : Nat → Option (Addr × List Str)} {k j : Nat} {x qual : Str} {f : SpecF} {st : Stmt} {fa : Addr} {fd : FuncData} {N ps : List Str} {c : Cn} {S : Sg} {b : B}
theorem FnB.mono (h : FnB P w K mg base cls j x f) (l : j ≤ k) : FnB P w K mg base cls k x f :=
  let ⟨fa, fd, ps, g, r⟩ := h.ex
  ⟨⟨fa, fd, ps, g.mono l, r⟩, h.mo⟩
theorem isl_length {a : An} {F : Hp} : ∀ {ds : List D} {vs : List V}, IsL a F ds vs → vs.length = ds.length
  | [], vs, h => by simp only [IsL] at h; rw [h]; rfl
  | d :: ds, vs, h => by
    simp only [IsL] at h
    obtain ⟨v, r, rfl, h1, h2⟩ := h
    simp [isl_length h2]
theorem goodB {a : An0} {cdv : Value} {A : Around} {outer : List PySem.Env} {s : Shared} {H : Hp} {E : XK} (sc : FnScope N ps (defScope st)) (hc : c.toCt = ⟨N, defScope st, defScope st⟩) (gu : A.guards = some []) (hr : Room k (A.deeper (envOfC qual (defScope st) s.heap.objs.size fa cdv)))
    (fns : ∀ (i : Nat) y f, c.fn[i]? = some y → S.fs[i]? = some f → FnB P w K mg base cls k y f)
    (gls : ∀ (i : Nat) y d, c.gl[i]? = some y → S.gs[i]? = some d → ∃ v u, mg y = some u ∧ RelV v u ∧ ∀ (a : An) F, a.K = K → Is a F d v)
    (bs : ∀ y ∈ c.bs, mg y = none) (ob : ObB P w K mg base cls k c S) (hK : a.K = K) (hcl : a.cls = cls) (xp : XpOk c S a (cxOf CX0 P w K mg base N qual (defScope st) fa cdv A outer s H E).nox) (io : S.z = true → NoIo a) : Good c S a (cxOf CX0 P w K mg base N qual (defScope st) fa cdv A outer s H E).nox := by
  refine ⟨⟨hK.symm, rfl, sc.nd, gu, hr.hd, ?_, PassesOwn.never⟩, ⟨by rw [hc]; rfl, by rw [hc]; rfl, fun _ _ => rfl, fun x k _ h => by rw [hc] at h ⊢; exact h⟩, io, sc.kind, fun i y f h1 h2 => ?_, fun i y d h1 h2 => ?_, bs, fun i q f h1 h2 => ?_, fun i q f h1 h2 => ?_, fun i q f h1 h2 => ?_, fun q h => ?_, fun q h => ?_, xp⟩
  · have := hr.un
    show (A.deeper _).units + 200 < cLine
    omega
  · obtain ⟨fa', fd', ps', g, m, kp, bd⟩ := (fns i y f h1 h2).ex
    exact ⟨⟨fa', fd', k, ps', by rw [hK, hcl]; exact g, hr, m, by exact kp, by exact bd⟩, (fns i y f h1 h2).mo⟩
  · obtain ⟨v, u, e1, r, q⟩ := gls i y d h1 h2
    exact ⟨v, u, e1, r, fun F => q a.toAn F hK⟩
  · obtain ⟨⟨C, fa', ns, fd', ps', e1, e2, cl, me, F, bd⟩, mo⟩ := ob.ms i q f h1 h2
    exact ⟨⟨C, fa', ns, fd', k, ps', by rw [hcl]; exact e1, e2, cl, me, by rw [hK, hcl]; exact F, hr, bd⟩, mo⟩
  · obtain ⟨⟨C, fa', p, ns, fd', j, ps', lj, e1, cl, me, F, bd⟩, mo⟩ := ob.ps i q f h1 h2
    exact ⟨⟨C, fa', p, ns, fd', j, ps', by rw [hcl]; exact e1, cl, me, by rw [hK, hcl]; exact F, hr.mono lj, bd⟩, mo⟩
  · obtain ⟨⟨C, fa', cl, ns, fd', j, ps', lj, e1, M, e2, F, bd⟩, mo⟩ := ob.nw i q f h1 h2
    exact ⟨⟨C, fa', cl, ns, fd', j, ps', by rw [hcl]; exact e1, M, e2, by rw [hK, hcl]; exact F, hr.mono lj, bd⟩, mo⟩
  · obtain ⟨C, ns, e1, e2, e3, cl, na⟩ := ob.fd q h
    exact ⟨C, ns, by rw [hcl]; exact e1, e2, e3, cl, na⟩
  · obtain ⟨C, ns, e1, e2, ic⟩ := ob.ic q h
    exact ⟨C, ns, by rw [hcl]; exact e1, e2, ic⟩
theorem fnDx (Fu : L2.Fun K x qual st fa fd) (sc : FnScope N ps (defScope st)) (hc : c.toCt = ⟨N, defScope st, defScope st⟩) (ck : okB c b (defBody st) = true)
    (fns : ∀ (i : Nat) y f, c.fn[i]? = some y → S.fs[i]? = some f → FnB P w K mg base cls k y f)
    (gls : ∀ (i : Nat) y d, c.gl[i]? = some y → S.gs[i]? = some d → ∃ v u, mg y = some u ∧ RelV v u ∧ ∀ (a : An) F, a.K = K → Is a F d v)
    (bs : ∀ y ∈ c.bs, mg y = none)
    (h : ∀ ds Φ, f ds Φ → ds.length = ps.length ∧ wb S b (envS N (ds.map .leaf)) { nx := fun _ => Φ (.leaf .non), rt := fun t _ => Φ t })
    (xp : ∀ (a : An0) (cdv : Value) (A : Around) (outer : List PySem.Env) (s : Shared) (H : Hp) (E : XK), a.K = K → a.cls = cls → (∃ (oc kV doc pm ct : Value) (od an : Option Addr) (osl : Array (Option Value)), K.lookup fa = some ⟨oc, od, .func (PySem.W.fnOf x qual (defArgs st) (defBody st) (defScope st) .none kV doc pm an cdv ct), osl⟩) → A.guards = some [] → Room k (A.deeper (envOfC qual (defScope st) s.heap.objs.size fa cdv)) → XpOk c S a (cxOf CX0 P w K mg base N qual (defScope st) fa cdv A outer s H E).nox)
    (ob : ObB P w K mg base cls k c S := by exact obNil rfl rfl rfl rfl rfl) :
    FnG P w K mg base CX0 (k + 1) fa fd ps (spD K cls f) := by
  obtain ⟨oc, od, kV, doc, pm, an, cdv, ct, osl, rfl, lk, hcd⟩ := Fu.ex
  refine fn_G lk hcd sc (fun vs H Q E hs => ?_) fun A outer s H vs Q E gu hr hs => ?_
  · obtain ⟨bg, F, ds, _, _, il, q⟩ := hs
    rw [isl_length il, (h _ _ q).1]
  obtain ⟨bg, F, ds, sub, bag, il, q⟩ := hs
  obtain ⟨l, q⟩ := h _ _ q
  have vl := isl_length il
  have X := goodB (a := ⟨⟨K, bg, cls⟩, An.hid ⟨K, bg, cls⟩, F, H, [], []⟩) (E := E) (H := H) (outer := outer) (cdv := cdv) (qual := qual) (fa := fa) sc hc gu hr fns gls bs ob rfl rfl (xp _ _ _ _ _ _ _ rfl rfl ⟨_, _, _, _, _, _, _, _, lk⟩ gu hr) fun _ p hp => hp
  have go := soundB b rfl X ck q
  refine ⟨_, (PSs.nox (pb_W (X := (cxOf CX0 P w K mg base N qual (defScope st) fa cdv A outer s H E).nox))), go (start N vs) H _ ⟨F, [], [], ⟨sub, Gw.refl _ _ _, fun b hb => ⟨hb, ?_⟩, bag, ?_, by simp only [OwL]; exact ⟨trivial, trivial⟩, by simp, by simp, ?_, by simp, by simp⟩⟩ ⟨fun ρ σ H' hq ok => ?_, fun t v ρ σ H' hq ok => ?_, fun _ _ _ hq => hq.elim, fun _ _ _ hq => hq.elim⟩⟩
  · exact bag.there hb
  · unfold envS L2.start
    rw [List.length_map, vl]
    exact owc_start il
  · unfold envS L2.start
    simp [vl]
  · obtain ⟨F', Sc, Sm, w⟩ := ok
    exact hq F' H' .non [] w.sub w.gw w.bag (by simp only [Ow, Is]; exact ⟨trivial, trivial⟩) (by simp) (by simp)
  · obtain ⟨F', Sc, Sm, w⟩ := ok
    obtain ⟨v', r, S1, S2, e, h1, h2, e2⟩ := (show ∃ v' r S1 S2, [v] = v' :: r ∧ Ow ⟨K, bg, cls⟩ F' H' t v' S1 ∧ OwL ⟨K, bg, cls⟩ F' H' [] r S2 ∧ Sm = S1 ++ S2 by
      have := w.tmps; simpa only [OwL] using this)
    simp only [OwL] at h2
    cases e
    obtain ⟨_, rfl⟩ := h2
    rw [List.append_nil] at e2
    subst e2
    refine hq F' H' v Sm w.sub w.gw w.bag h1 (List.nodup_append.mp w.nd).2.1 fun p hp => ?_
    obtain ⟨f1, f2, f3⟩ := w.fr p (List.mem_append_right _ hp)
    exact ⟨f1, f2, f3.resolve_left fun z => f2 z⟩
theorem fnD (Fu : L2.Fun K x qual st fa fd) (sc : FnScope N ps (defScope st)) (hc : c.toCt = ⟨N, defScope st, defScope st⟩) (ck : okB c b (defBody st) = true)
    (fns : ∀ (i : Nat) y f, c.fn[i]? = some y → S.fs[i]? = some f → FnB P w K mg base cls k y f)
    (gls : ∀ (i : Nat) y d, c.gl[i]? = some y → S.gs[i]? = some d → ∃ v u, mg y = some u ∧ RelV v u ∧ ∀ (a : An) F, a.K = K → Is a F d v)
    (bs : ∀ y ∈ c.bs, mg y = none)
    (h : ∀ ds Φ, f ds Φ → ds.length = ps.length ∧ wb S b (envS N (ds.map .leaf)) { nx := fun _ => Φ (.leaf .non), rt := fun t _ => Φ t }) (ob : ObB P w K mg base cls k c S := by exact obNil rfl rfl rfl rfl rfl) (nx : c.off = true := by rfl) :
    FnG P w K mg base CX0 (k + 1) fa fd ps (spD K cls f) := fnDx Fu sc hc ck fns gls bs h (fun _ _ _ _ _ _ _ _ _ _ _ _ => .off nx) ob
structure FnBX (P : Program) (w : World) (K : PySem.W.Frag) (mg : Str → Option Value) (base : Heap) (cls : Nat → Option (Addr × List Str)) (k : Nat) (x : Str) (f : SpecX) : Prop where
  ex : (∃ (fa : Addr) (fd : FuncData) (ps : List Str), FnG P w K mg base (L2.CX P w) k fa fd ps (spDX K cls f) ∧ mg x = some (.ref fa) ∧ PySem.W.keepIn K (.ref fa) = true ∧ Binds K fd ps []) ∨
    ∃ (C fa : Addr) (cl : Nat) (ns : List Str) (fd : FuncData) (j : Nat) (ps : List Str), j + 1 ≤ k ∧ cls cl = some (C, ns) ∧ Mk K C fa ∧ mg x = some (.ref C) ∧ FnG P w K mg base (L2.CX P w) j fa fd ps (spIX K cls cl f) ∧ Binds K fd ps []
  mo : MonoX f
theorem FnBX.mono {f : SpecX} (h : FnBX P w K mg base cls j x f) (l : j ≤ k) : FnBX P w K mg base cls k x f :=
  ⟨h.ex.imp (fun ⟨fa, fd, ps, g, r⟩ => ⟨fa, fd, ps, g.mono l, r⟩) (fun ⟨C, fa, cl, ns, fd, i, ps, z, r⟩ => ⟨C, fa, cl, ns, fd, i, ps, Nat.le_trans z l, r⟩), h.mo⟩
/-- a def with keyword-only defaults that may raise -/
structure FnBK (P : Program) (w : World) (K : PySem.W.Frag) (mg : Str → Option Value) (base : Heap) (cls : Nat → Option (Addr × List Str)) (k : Nat) (x : Str) (o : Option Str) (f : SpecX) : Prop where
  ex : ∃ (fa : Addr) (fd : FuncData) (ps : List Str) (sp : Sp), FnG P w K mg base (L2.CX P w) k fa fd ps sp ∧ mg x = some (.ref fa) ∧ PySem.W.keepIn K (.ref fa) = true ∧
    match o with
    | none => ∃ (dvs : List V) (dss : List Value), Binds K fd ps dss ∧ Vals dvs dss ∧ ∀ vs H Q E, spDX K cls f vs H Q E → sp (vs ++ dvs) H Q E
    | some y => ∃ (g : List Value → List Value → List Value) (gV : List V → List V → List V), KBn K fd ps 1 [y] g gV ∧ ∀ v z H Q E, spDX K cls f [v, z] H Q E → sp (gV [v] [z]) H Q E
  mo : MonoX f
theorem FnBK.mono {o : Option Str} {f : SpecX} (h : FnBK P w K mg base cls j x o f) (l : j ≤ k) : FnBK P w K mg base cls k x o f :=
  let ⟨fa, fd, ps, sp, g, r⟩ := h.ex
  ⟨⟨fa, fd, ps, sp, g.mono l, r⟩, h.mo⟩
/-- what is said of exceptions at level k -/
structure XbB (P : Program) (w : World) (K : PySem.W.Frag) (mg : Str → Option Value) (base : Heap) (cls : Nat → Option (Addr × List Str)) (k : Nat) (c : Cn) (S : Sg) : Prop where
  xs : ∀ (i : Nat) y f, c.xs[i]? = some y → S.xs[i]? = some f → FnBX P w K mg base cls k y f
  xc : ∀ q ∈ c.xc, (q.2.2 = "" ∧ ∃ (C fI : Addr) (j : Nat) (fd : FuncData), j + 1 ≤ k ∧ cls q.1 = some (C, []) ∧ OexC K C ∧ PySem.W.findIn K (.ref C) "__init__" = some (some (.ref fI)) ∧ PySem.W.typeIn K (.ref fI) = some (.type "function") ∧
      FnOk P w K mg base CX0 j fI fd ["self"] (spE0 K) ∧ Binds K fd ["self"] [] ∧ mg q.2.1 = some (.ref C)) ∨
    (q.2.2 ≠ "" ∧ ∃ (C fI : Addr) (j : Nat) (fd : FuncData) (g : Str), j + 1 ≤ k ∧ cls q.1 = some (C, [q.2.2]) ∧ OexC K C ∧ PySem.W.findIn K (.ref C) "__init__" = some (some (.ref fI)) ∧ PySem.W.typeIn K (.ref fI) = some (.type "function") ∧
      PySem.W.findIn K (.ref C) q.2.2 = some none ∧ FnOk P w K mg base CX0 j fI fd ["self", g] (spE1 K q.2.2) ∧ Binds K fd ["self", g] [] ∧ mg q.2.1 = some (.ref C))
  xh : c.xt = true → c.toCt.glo c.xp = true ∧ (c.xp == ("__debug__" : Str)) = false ∧ (c.xn = [] ∨ c.toCt.glo "isinstance" = true) ∧ mg "isinstance" = none ∧ ∃ cP, mg c.xp = some cP ∧ ∀ cl, S.xd cl = true → ∃ C, cls cl = some (C, S.xf cl) ∧ PySem.W.exmOne K (.ref C) cP = some true ∧ ExcT K C ∧
    (∀ (n : Nat) x, c.xn[n]? = some x → c.toCt.glo x = true ∧ (x == ("__debug__" : Str)) = false ∧ ∃ v u, RelV v u ∧ (∀ u', RelV v u' → u' = u) ∧ (mg x = some u ∨ (mg x = none ∧ bootBuiltins x = some u ∧ x ≠ "__name__")) ∧ PySem.W.kitOne K (.ref C) u = some (S.xa cl n)) ∧
    ∀ f ∈ S.xf cl, PySem.W.findIn K (.ref C) f = some none
  hp : (c.hp.isEmpty && (c.sp.isEmpty && c.tp.isEmpty)) = true
  xk : ∀ q ∈ c.xk, ∀ f, S.xs[q.1]? = some f → FnBK P w K mg base cls k q.2.1 q.2.2 f := by intro q h; cases h
end
end DL
namespace DL
open PySem PySem.Spec PyProof.Rows L2

section
variable {S : Sg} {ρ ρ' : Env} {Φ : T → Prop} {Ψ : Bool → Prop} {ΨL : List T → Prop} {ΨD : List D → Prop} {K : EnD} {i j k : Nat} {n m : Int} {d : D} {t u : T} {us : List T} {x y z e es c : I} {r b1 b2 : B} {g : Tg} {ds : List D} {own : List Nat}
theorem w_nm (h : ρ.at i = some (.leaf d)) (k : Φ (.leaf d)) : w S (.nm i) ρ Φ := by simp only [w]; rw [h]; exact k
theorem w_ow (h : ρ.at i = some t) (k : Φ (.vw t.dat)) : w S (.ow i) ρ Φ := by simp only [w]; rw [h]; exact k
theorem w_gl (h : S.gs[i]? = some d) (k : Φ (.leaf d)) : w S (.gl i) ρ Φ := by simp only [w]; exact ⟨d, h, k⟩
theorem w_int (k : Φ (.leaf (.int n))) : w S (.int n) ρ Φ := by simpa only [w] using k
theorem w_str {s : Str} (k : Φ (.leaf (.str s))) : w S (.str s) ρ Φ := by simpa only [w] using k
theorem w_bl {b : Bool} (k : Φ (.leaf (.bl b))) : w S (.bl b) ρ Φ := by simpa only [w] using k
theorem w_non (k : Φ (.leaf .non)) : w S .non ρ Φ := by simpa only [w] using k
theorem w_tup (k : wa S es ρ fun us => us.length ≤ 100000 ∧ Φ (T.mk us)) : w S (.tup es) ρ Φ := by simpa only [w] using k
theorem w_lst (k : wa S es ρ fun us => us.length ≤ 100000 ∧ Φ (.lst us)) : w S (.lst es) ρ Φ := by simpa only [w] using k
theorem w_bin {o : Bop} (k : w S x ρ fun t => w S y ρ fun u => binT o t u Φ) : w S (.bin o x y) ρ Φ := by simpa only [w] using k
theorem w_neg (k : w S x ρ fun t => ∃ i, t.dat = .int i ∧ Φ (.leaf (.int (-i)))) : w S (.neg x) ρ Φ := by simpa only [w] using k
theorem w_not (k : w S x ρ fun t => ∃ b, t.dat = .bl b ∧ Φ (.leaf (.bl !b))) : w S (.not x) ρ Φ := by simpa only [w] using k
theorem w_cmp {o : Cop} (k : w S x ρ fun t => w S y ρ fun u => cmpD o t.dat u.dat fun b => Φ (.leaf (.bl b))) : w S (.cmp o x y) ρ Φ := by simpa only [w] using k
theorem w_chn {o o' : Cop} (k : w S x ρ fun t => w S y ρ fun u => cmpD o t.dat u.dat fun b => if b = true then w S z ρ fun v => cmpD o' u.dat v.dat fun b => Φ (.leaf (.bl b)) else Φ (.leaf (.bl false))) : w S (.chn o o' x y z) ρ Φ := by simpa only [w] using k
theorem w_and (k : w S x ρ fun t => ∃ b, t.dat = .bl b ∧ if b = true then w S y ρ Φ else Φ (.leaf (.bl false))) : w S (.and x y) ρ Φ := by simpa only [w] using k
theorem w_or (k : w S x ρ fun t => ∃ b, t.dat = .bl b ∧ if b = true then Φ (.leaf (.bl true)) else w S y ρ Φ) : w S (.or x y) ρ Φ := by simpa only [w] using k
theorem w_orv (k : w S x ρ fun t => ∃ b, t.dat.truth = some b ∧ if b = true then Φ t else w S y ρ Φ) : w S (.orv x y) ρ Φ := by simpa only [w] using k
theorem w_srtS (k : w S x ρ fun t => srtS t Φ) : w S (.srtS x) ρ Φ := by simpa only [w] using k
theorem w_lent {u : T} (h : ρ.at i = some u) (cl : u.dat.clean = true) {xs : List Nat} (k : w S x (lentE ρ i u.dat xs) fun t => t.fl = true ∧ Φ t) : w S (.lent i xs x) ρ Φ := by simp only [w]; exact ⟨u, h, cl, k⟩
theorem w_ixo (h : ρ.at i = some (.lst us)) (k : w S y ρ fun t => ∃ n d, t.dat = .int n ∧ L2.atI us n = some (.leaf d) ∧ Φ (.leaf d)) : w S (.ixo i y) ρ Φ := by simp only [w]; exact ⟨us, h, k⟩
theorem wt_lent {u : T} (h : ρ.at i = some u) (cl : u.dat.clean = true) {xs : List Nat} (k : wt S x (lentE ρ i u.dat xs) Ψ) : wt S (.lent i xs x) ρ Ψ := by simp only [wt]; exact ⟨u, h, cl, k⟩
theorem w_one (k : w S x ρ Φ) : w S (.one x) ρ Φ := by simpa only [w] using k
theorem w_ife (k : wt S x ρ fun b => if b = true then w S y ρ Φ else w S z ρ Φ) : w S (.ife x y z) ρ Φ := by simpa only [w] using k
theorem w_ix (k : w S x ρ fun t => w S y ρ fun u => ixT t u.dat Φ) : w S (.ix x y) ρ Φ := by simpa only [w] using k
theorem w_sl (k : w S x ρ fun t => wo S y ρ fun l => wo S z ρ fun h => slT t l h Φ) : w S (.sl x y z) ρ Φ := by simpa only [w] using k
theorem w_callO {f : SpecF} (h : S.fs[i]? = some f) (k : wv S es ρ fun us => frozs S.z us fun ds => D.cleans ds = true ∧ f ds fun t => T.thawOk ds t ∧ Φ t.thaw) : w S (.callO i es) ρ Φ := by simp only [w]; exact ⟨f, h, k⟩
theorem w_callB {f : SpecF} (h : S.fs[i]? = some f) (k : wv S es ρ fun us => D.cleans (T.dats us) = true ∧ f (T.dats us) fun t => ∃ d, t = .leaf d ∧ d.okP us = true ∧ Φ (.leaf d)) : w S (.callB i es) ρ Φ := by simp only [w]; exact ⟨f, h, k⟩
theorem w_rev (k : w S x ρ fun t => ∃ us, t.its = some us ∧ Φ (.lst us.reverse)) : w S (.un .rev x) ρ Φ := by simp only [w]; exact k
theorem w_callX {f : SpecX} (h : S.xs[i]? = some f) (k : wv S es ρ fun us => frozs S.z us fun ds => f ds Φ S.ex) : w S (.callX i es) ρ Φ := by simp only [w]; exact ⟨f, h, k⟩
theorem w_call {f : SpecF} (h : S.fs[i]? = some f) (k : wv S es ρ fun us => frozs S.z us fun ds => f ds Φ) : w S (.call i es) ρ Φ := by simp only [w]; exact ⟨f, h, k⟩
theorem w_blt {f : Blt} (k : wv S es ρ fun us => bltT f us Φ) : w S (.blt f es) ρ Φ := by simpa only [w] using k
theorem w_lc (h : ρ.wipes own = ρ) (k : wi S x ρ fun ds => ds.length ≤ 100000 ∧ lcW g (wc S c) (w S e) ρ ds [] fun us => Φ (.lst us)) : w S (.lc own g x c e) ρ Φ := by simp only [w]; exact ⟨h, k⟩
theorem w_eqO {cl : Nat} {f : SpecF} (h : S.ms[i]? = some f) (k : w S x ρ fun t => w S y ρ fun u => ∃ fs gs, t = .leaf (.obj cl fs) ∧ u = .leaf (.obj cl gs) ∧ f [.obj cl fs, .obj cl gs] fun r => ∃ b, r = .leaf (.bl b) ∧ Φ (.leaf (.bl b))) : w S (.eqO i cl x y) ρ Φ := by simp only [w]; exact ⟨f, h, k⟩
theorem w_isC {cl : Nat} (k : w S x ρ fun t => (∃ fs, t = .leaf (.obj cl fs)) ∧ Φ (.leaf (.bl true))) : w S (.isC cl x) ρ Φ := by simpa only [w] using k
theorem w_fld {cl : Nat} (k : w S x ρ fun t => ∃ fs d, t = .leaf (.obj cl fs) ∧ fs[i]? = some d ∧ Φ (.leaf d)) : w S (.fld cl i x) ρ Φ := by simpa only [w] using k
theorem w_mth {cl : Nat} {f : SpecF} (h : S.ms[i]? = some f) (k : w S x ρ fun t => ∃ fs, t = .leaf (.obj cl fs) ∧ wv S es ρ fun us => frozs S.z us fun ds => f (.obj cl fs :: ds) Φ) : w S (.mth i cl x es) ρ Φ := by simp only [w]; exact ⟨f, h, k⟩
theorem w_mt0 {cl : Nat} {f : SpecF} (h : S.ms[i]? = some f) (k : w S x ρ fun t => ∃ fs, t = .leaf (.obj cl fs) ∧ f [.obj cl fs] Φ) : w S (.mt0 i cl x) ρ Φ := by simp only [w]; exact ⟨f, h, k⟩
theorem w_prp {cl : Nat} {f : SpecF} (h : S.ps[i]? = some f) (k : w S x ρ fun t => ∃ fs, t = .leaf (.obj cl fs) ∧ f [.obj cl fs] Φ) : w S (.prp i cl x) ρ Φ := by simp only [w]; exact ⟨f, h, k⟩
theorem w_new {f : SpecF} (h : S.nw[i]? = some f) (k : wv S es ρ fun us => frozs S.z us fun ds => f ds Φ) : w S (.new i es) ρ Φ := by simp only [w]; exact ⟨f, h, k⟩
theorem w_isi {ty : Ty} (k : w S x ρ fun t => ∃ b, t.dat.isT ty = some b ∧ Φ (.leaf (.bl b))) : w S (.isi ty x) ρ Φ := by simpa only [w] using k
theorem w_lr1 (k : w S x ρ fun t => ∃ j, t.dat = .int j ∧ RgS 0 j ∧ Φ (rgT 0 j)) : w S (.lr1 x) ρ Φ := by simpa only [w] using k
theorem w_lr2 (k : w S x ρ fun t => w S y ρ fun u => ∃ i j, t.dat = .int i ∧ u.dat = .int j ∧ RgS i j ∧ Φ (rgT i j)) : w S (.lr2 x y) ρ Φ := by simpa only [w] using k
theorem wa_nil (k : ΨL []) : wa S .nil ρ ΨL := by simpa only [wa] using k
theorem wa_cons (k : w S e ρ fun t => t.fin fun u => wa S x ρ fun us => ΨL (u :: us)) : wa S (.cons e x) ρ ΨL := by simpa only [wa] using k
theorem wv_nil (k : ΨL []) : wv S .nil ρ ΨL := by simpa only [wv] using k
theorem wv_cons (k : w S e ρ fun t => wv S x ρ fun us => ΨL (t :: us)) : wv S (.cons e x) ρ ΨL := by simpa only [wv] using k
theorem wo_nop {Ψ : Option Int → Prop} (k : Ψ none) : wo S .nop ρ Ψ := by simpa only [wo] using k
theorem wo_prt {Ψ : Option Int → Prop} (k : w S x ρ fun t => ∃ i, t.dat = .int i ∧ Ψ (some i)) : wo S (.prt x) ρ Ψ := by simpa only [wo] using k
theorem wt_not (k : wt S x ρ fun b => Ψ !b) : wt S (.not x) ρ Ψ := by simpa only [wt] using k
theorem wt_and (k : wt S x ρ fun b => if b = true then wt S y ρ Ψ else Ψ false) : wt S (.and x y) ρ Ψ := by simpa only [wt] using k
theorem wt_or (k : wt S x ρ fun b => if b = true then Ψ true else wt S y ρ Ψ) : wt S (.or x y) ρ Ψ := by simpa only [wt] using k
theorem wt_one (k : wt S x ρ Ψ) : wt S (.one x) ρ Ψ := by simpa only [wt] using k
theorem wt_cmp {o : Cop} (k : w S x ρ fun t => w S y ρ fun u => cmpD o t.dat u.dat Ψ) : wt S (.cmp o x y) ρ Ψ := by simpa only [wt] using k
theorem wt_chn {o o' : Cop} (k : w S x ρ fun t => w S y ρ fun u => cmpD o t.dat u.dat fun b => if b = true then w S z ρ fun v => cmpD o' u.dat v.dat Ψ else Ψ false) : wt S (.chn o o' x y z) ρ Ψ := by simpa only [wt] using k
theorem wt_val (k : w S x ρ fun t => tru t Ψ) : wt S (.val x) ρ Ψ := by simpa only [wt] using k
theorem wc_nop (k : Ψ true) : wc S .nop ρ Ψ := by simpa only [wc] using k
theorem wc_one (k : wt S x ρ Ψ) : wc S (.one x) ρ Ψ := by simpa only [wc] using k
theorem wi_sq (k : w S x ρ fun t => t.froz S.z fun d => ∃ ds, d.items = some ds ∧ ΨD ds) : wi S (.sq x) ρ ΨD := by simpa only [wi] using k
theorem wi_rng (k : wv S es ρ fun us => rngW (T.dats us) ΨD) : wi S (.rng es) ρ ΨD := by simpa only [wi] using k
theorem wi_zip (k : wv S es ρ fun us => frozs S.z us fun ds => zipW ds ΨD) : wi S (.zip es) ρ ΨD := by simpa only [wi] using k
theorem wi_enm (k : wv S es ρ fun us => frozs S.z us fun ds => ∃ xs, enmOk ds xs ∧ ΨD (enumFrom 0 xs)) : wi S (.enm es) ρ ΨD := by simpa only [wi] using k
theorem wb_nil (k : K.nx ρ) : wb S .nil ρ K := by simpa only [wb] using k
theorem wb_asg (k : w S e ρ fun t => t.fin fun u => ∃ ρ', bindG g u ρ = some ρ' ∧ wb S r ρ' K) : wb S (.asg g e r) ρ K := by simpa only [wb] using k
theorem wb_asgLc (h0 : Nat.blt i ρ.length = true) (h : ρ.wipes own = ρ) (k : wi S x ρ fun ds => ds.length ≤ 100000 ∧ lcW g (wc S c) (w S e) ρ ds [] fun us => wb S r (ρ.put i (some (.lst us))) K) : wb S (.asgLc i own g x c e r) ρ K := by simp only [wb]; exact ⟨Nat.le_of_ble_eq_true h0, h, k⟩
theorem wb_par2 (h0 : i ≠ j) (h1 : Nat.blt i ρ.length = true) (h2 : Nat.blt j ρ.length = true) (k : w S x ρ fun t => t.fin fun u => w S y ρ fun t' => t'.fin fun v => wb S r ((ρ.put i (some u)).put j (some v)) K) : wb S (.par2 i j x y r) ρ K := by simp only [wb]; exact ⟨h0, Nat.le_of_ble_eq_true h1, Nat.le_of_ble_eq_true h2, k⟩
theorem wb_aug {o : Aop} (h : ρ.at i = some (.leaf d)) (h1 : Nat.blt i ρ.length = true) (k : w S e ρ fun y => augD o d y.dat fun z => wb S r (ρ.put i (some (.leaf z))) K) : wb S (.aug o i e r) ρ K := by simp only [wb]; exact ⟨d, h, Nat.le_of_ble_eq_true h1, k⟩
theorem wb_setix (h : ρ.at i = some (.lst us)) (k : w S e ρ fun t => t.fin fun u => w S x ρ fun y => ∃ n j, y.dat = .int n ∧ ixN us.length n = some j ∧ wb S r (ρ.put i (some (.lst (us.set j u)))) K) : wb S (.setix i x e r) ρ K := by simp only [wb]; exact ⟨us, h, k⟩
theorem wb_augix {o : Aop} (h : ρ.at i = some (.lst us)) (k : w S x ρ fun y => ∃ n j d, y.dat = .int n ∧ ixN us.length n = some j ∧ us[j]? = some (.leaf d) ∧ w S e ρ fun y2 => augD o d y2.dat fun z => wb S r (ρ.put i (some (.lst (us.set j (.leaf z))))) K) : wb S (.augix o i x e r) ρ K := by simp only [wb]; exact ⟨us, h, k⟩
theorem wb_par3 {l : Nat} {z : I} (h0 : i ≠ j ∧ i ≠ l ∧ j ≠ l) (h1 : i < ρ.length ∧ j < ρ.length ∧ l < ρ.length) (k : w S x ρ fun t => t.fin fun u => w S y ρ fun t' => t'.fin fun v => w S z ρ fun t'' => t''.fin fun q => wb S r (((ρ.put i (some u)).put j (some v)).put l (some q)) K) : wb S (.par3 i j l x y z r) ρ K := by simp only [wb]; exact ⟨h0, h1, k⟩
theorem wb_ext (h : ρ.at i = some (.lst us)) (k : w S e ρ fun t => ∃ us2, t.itsU = some us2 ∧ us.length + us2.length ≤ 100000 ∧ wb S r (ρ.put i (some (.lst (us ++ us2)))) K) : wb S (.ext i e r) ρ K := by simp only [wb]; exact ⟨us, h, k⟩
theorem wb_augix2 {o : Aop} (h : ρ.at i = some (.lst us)) (k : w S x ρ fun y1 => ∃ n1 j1 ws, y1.dat = .int n1 ∧ ixN us.length n1 = some j1 ∧ us[j1]? = some (.lst ws) ∧ w S y ρ fun y2 => ∃ n2 j2 d, y2.dat = .int n2 ∧ ixN ws.length n2 = some j2 ∧ ws[j2]? = some (.leaf d) ∧ w S e ρ fun y3 => augD o d y3.dat fun z => wb S r (ρ.put i (some (.lst (us.set j1 (.lst (ws.set j2 (.leaf z))))))) K) : wb S (.augix2 o i x y e r) ρ K := by simp only [wb]; exact ⟨us, h, k⟩
theorem wb_raise {cl : Nat} {nm : Str} {x : I} (k : w S x ρ fun t => ∃ d, t = .leaf d ∧ d.flat = true ∧ S.ex cl [d]) : wb S (.raise cl nm x) ρ K := by simp only [wb]; exact .inr k
theorem wb_fgt (k : wb S r (ρ.put i none) K) : wb S (.fgt i r) ρ K := by simpa only [wb] using k
theorem wb_retm {t : T} (h : ρ.at i = some t) (k : K.rt t (ρ.put i none)) : wb S (.retm i r) ρ K := by simp only [wb]; exact ⟨t, h, k⟩
theorem wb_ret2m {t : T} (h : ρ.at i = some t) (k : w S e ρ fun u => u.fin fun u => K.rt (T.mk [u, t]) (ρ.put i none)) : wb S (.ret2m e i r) ρ K := by simp only [wb]; exact ⟨t, h, k⟩
theorem wb_spx {z : Int} {us vs : List T} (h : ρ.at i = some (.tup us)) (h2 : us[j]? = some (.lst vs)) (h3 : vs.length ≤ 99999) (k : wb S r (ρ.put i (some (.tup (us.set j (.lst (vs ++ [.leaf (.int z)])))))) K) : wb S (.spx i j z r) ρ K := by simp only [wb]; exact ⟨us, vs, h, h2, h3, k⟩
theorem wb_rvs {us : List T} (h : ρ.at i = some (.lst us)) (k : wb S r (ρ.put i (some (.lst us.reverse))) K) : wb S (.rvs i r) ρ K := by simp only [wb]; exact ⟨us, h, k⟩
theorem wb_unp2 (k : w S e ρ fun t => ∃ u v, t.its = some [u, v] ∧ i < ρ.length ∧ j < ρ.length ∧ wb S r ((ρ.put i (some u)).put j (some v)) K) : wb S (.unp2 i j e r) ρ K := by simpa only [wb] using k
theorem wb_app (h : ρ.at i = some (.lst us)) (h1 : us.length ≤ 99999) (k : w S e ρ fun t => t.fin fun u => wb S r (ρ.put i (some (.lst (us ++ [u])))) K) : wb S (.app i e r) ρ K := by simp only [wb]; exact ⟨us, h, h1, k⟩
theorem wb_ex (k : w S e ρ fun _ => wb S r ρ K) : wb S (.ex e r) ρ K := by simpa only [wb] using k
theorem wb_ret (k : w S e ρ fun t => t.fin fun u => K.rt u ρ) : wb S (.ret e r) ρ K := by simpa only [wb] using k
theorem wb_retN (k : K.rt (.leaf .non) ρ) : wb S (.retN r) ρ K := by simpa only [wb] using k
theorem wb_ite (k : wt S x ρ fun b => if b = true then wb S b1 ρ { K with nx := fun ρ' => wb S r ρ' K } else wb S b2 ρ { K with nx := fun ρ' => wb S r ρ' K }) : wb S (.ite x b1 b2 r) ρ K := by simpa only [wb] using k
theorem wb_for (k : wi S x ρ fun ds => forW g (fun ρ K => wb S b1 ρ K) ds ρ { K with nx := fun ρ' => wb S r ρ' K }) : wb S (.for_ g x b1 r) ρ K := by simpa only [wb] using k
theorem wb_pass (k : wb S r ρ K) : wb S (.pass r) ρ K := by simpa only [wb] using k
theorem wb_brk (k : K.bk ρ) : wb S (.brk r) ρ K := by simpa only [wb] using k
theorem wb_cont (k : K.ct ρ) : wb S (.cont r) ρ K := by simpa only [wb] using k
theorem wb_fz (h0 : S.z = true) (h : ρ.at i = some u) (k : wb S r (ρ.put i (some (.leaf u.dat))) K) : wb S (.fz i r) ρ K := by simp only [wb]; exact ⟨h0, u, h, k⟩
theorem fin_leaf (h : t = .leaf d) (k : Φ (.leaf d)) : t.fin Φ := by subst h; exact k
theorem fin_lst (h : t = .lst us) (k : Φ (.lst us)) : t.fin Φ := by subst h; exact k
theorem fin_tup (h : t = .tup us) (k : Φ (.tup us)) : t.fin Φ := by subst h; exact k
theorem ex_int {p : Int → Prop} (h : t.dat = .int n) (k : p n) : ∃ i, t.dat = .int i ∧ p i := ⟨n, h, k⟩
theorem ex_bl {p : Bool → Prop} {b : Bool} (h : t.dat = .bl b) (k : p b) : ∃ i, t.dat = .bl i ∧ p i := ⟨b, h, k⟩
theorem ite_dec {p : Prop} [dp : Decidable p] {A B : Prop} (h1 : p → A) (h2 : ¬p → B) : if decide p = true then A else B := by
  by_cases h : p
  · rw [if_pos (decide_eq_true h)]; exact h1 h
  · rw [if_neg (by simp [h])]; exact h2 h
theorem ite_ndec {p : Prop} [dp : Decidable p] {A B : Prop} (h1 : ¬p → A) (h2 : p → B) : if (!decide p) = true then A else B := by
  by_cases h : p
  · rw [if_neg (by simp [h])]; exact h2 h
  · rw [if_pos (by simp [h])]; exact h1 h
theorem ite_t {A B : Prop} (h : A) : if true = true then A else B := by rw [if_pos rfl]; exact h
theorem ite_f {A B : Prop} (h : B) : if false = true then A else B := by rw [if_neg (by decide)]; exact h
theorem fit_int (n : Int) : (D.int n).Fit := ⟨rfl, by simp [D.dep]⟩
theorem c_eq {d1 d2 : D} (h1 : d1 = .int n) (h2 : d2 = .int m) (k : Ψ (decide (n = m))) : cmpD .eq d1 d2 Ψ := by
  subst h1 h2
  simp only [cmpD, eqD_int]; exact .inr ⟨fit_int _, fit_int _, k⟩
theorem c_ne {d1 d2 : D} (h1 : d1 = .int n) (h2 : d2 = .int m) (k : Ψ (!decide (n = m))) : cmpD .ne d1 d2 Ψ := by
  subst h1 h2
  simp only [cmpD, eqD_int]; exact .inr ⟨fit_int _, fit_int _, k⟩
theorem c_eqs {d1 d2 : D} {s1 s2 : Str} (h1 : d1 = .str s1) (h2 : d2 = .str s2) (k : Ψ (decide (s1 = s2))) : cmpD .eq d1 d2 Ψ := by
  subst h1 h2
  exact .inl ⟨_, _, rfl, rfl, k⟩
theorem c_eqd {d1 d2 : D} (h1 : d1.Fit) (h2 : d2.Fit) (k : Ψ (eqD d1 d2)) : cmpD .eq d1 d2 Ψ := .inr ⟨h1, h2, k⟩
theorem c_ned {d1 d2 : D} (h1 : d1.Fit) (h2 : d2.Fit) (k : Ψ (!eqD d1 d2)) : cmpD .ne d1 d2 Ψ := .inr ⟨h1, h2, k⟩
theorem c_lt {d1 d2 : D} (h1 : d1 = .int n) (h2 : d2 = .int m) (k : Ψ (decide (n < m))) : cmpD .lt d1 d2 Ψ := by
  subst h1 h2
  simp only [cmpD]; exact k
theorem c_le {d1 d2 : D} (h1 : d1 = .int n) (h2 : d2 = .int m) (k : Ψ (decide (n ≤ m))) : cmpD .le d1 d2 Ψ := by
  subst h1 h2
  simp only [cmpD]; exact k
theorem c_gt {d1 d2 : D} (h1 : d1 = .int n) (h2 : d2 = .int m) (k : Ψ (decide (m < n))) : cmpD .gt d1 d2 Ψ := by
  subst h1 h2
  simp only [cmpD]; exact k
theorem c_ge {d1 d2 : D} (h1 : d1 = .int n) (h2 : d2 = .int m) (k : Ψ (decide (m ≤ n))) : cmpD .ge d1 d2 Ψ := by
  subst h1 h2
  simp only [cmpD]; exact k
theorem b_add (h1 : t.dat = .int n) (h2 : u.dat = .int m) (k : Φ (.leaf (.int (n + m)))) : binT .add t u Φ := by simp only [binT, h1, h2, binD]; exact k
theorem b_sub (h1 : t.dat = .int n) (h2 : u.dat = .int m) (k : Φ (.leaf (.int (n - m)))) : binT .sub t u Φ := by simp only [binT, h1, h2, binD]; exact k
theorem b_mul (h1 : t.dat = .int n) (h2 : u.dat = .int m) (h : MulOk n m) (k : Φ (.leaf (.int (n * m)))) : binT .mul t u Φ := by simp only [binT, h1, h2, binD]; exact ⟨h, k⟩
theorem b_mod (h1 : t.dat = .int n) (h2 : u.dat = .int m) (h : 0 < m) (k : Φ (.leaf (.int (n % m)))) : binT .mod t u Φ := by simp only [binT, h1, h2, binD]; exact ⟨h, k⟩
theorem small_log {j : Int} (h : 0 < j ∧ j < 10 ^ 100) : 0 < j ∧ j.natAbs.log2 < 9000 := by
  refine ⟨h.1, ?_⟩
  have : j.natAbs < 2 ^ 400 := by
    have h2 : (10 : Int) ^ 100 < 2 ^ 400 := by decide +kernel
    have h3 : j < 2 ^ 400 := Int.lt_trans h.2 h2
    omega
  by_cases z : j.natAbs = 0
  · rw [z]; decide
  · exact Nat.lt_of_lt_of_le ((Nat.log2_lt z).mpr this) (by decide)
theorem b_fdiv (h1 : t.dat = .int n) (h2 : u.dat = .int m) (h : 0 < m ∧ m < 10 ^ 100) (k : Φ (.leaf (.int (n / m)))) : binT .fdiv t u Φ := by simp only [binT, h1, h2, binD]; exact ⟨small_log h, k⟩
theorem b_pow (h1 : t.dat = .int n) (h2 : u.dat = .int m) (h : 0 ≤ m ∧ m ≤ 1000000 ∧ n.natAbs < 2 ^ 64) (k : Φ (.leaf (.int (n ^ m.toNat)))) : binT .pow t u Φ := by simp only [binT, h1, h2, binD]; exact ⟨h, k⟩
theorem mulL (h : -(2 ^ 64) < n ∧ n < 2 ^ 64) : MulOk n m := .inl h
theorem mulR (h : -(2 ^ 64) < m ∧ m < 2 ^ 64) : MulOk n m := .inr (.inl h)
theorem ix_lst {v : T} {d1 : D} (h1 : v = .lst us) (h2 : d1 = .int n) (h : atI us n = some t) (k : Φ t) : ixT v d1 Φ := by subst h1 h2; exact ⟨t, h, k⟩
theorem ix_tup {v : T} {d1 : D} (h1 : v = .tup us) (h2 : d1 = .int n) (h : atI us n = some t) (k : Φ t) : ixT v d1 Φ := by subst h1 h2; exact ⟨t, h, k⟩
theorem ix_ll {v : T} {d1 : D} (h1 : v = .leaf (.lst ds)) (h2 : d1 = .int n) (h : atI ds n = some d) (k : Φ (.leaf d)) : ixT v d1 Φ := by subst h1 h2; exact ⟨d, h, k⟩
theorem ix_lt {v : T} {d1 : D} (h1 : v = .leaf (.tup ds)) (h2 : d1 = .int n) (h : atI ds n = some d) (k : Φ (.leaf d)) : ixT v d1 Φ := by subst h1 h2; exact ⟨d, h, k⟩
theorem ix_vl {v : T} {d1 : D} (h1 : v = .vw (.lst ds)) (h2 : d1 = .int n) (h : atI ds n = some d) (k : Φ d.vwOf) : ixT v d1 Φ := by subst h1 h2; exact ⟨d, h, k⟩
theorem ix_vt {v : T} {d1 : D} (h1 : v = .vw (.tup ds)) (h2 : d1 = .int n) (h : atI ds n = some d) (k : Φ d.vwOf) : ixT v d1 Φ := by subst h1 h2; exact ⟨d, h, k⟩
theorem ix_vli {v : T} {d1 : D} (h1 : v = .vw (.lst ds)) (h2 : d1 = .int n) (h : atI ds n = some (.int m)) (k : Φ (.leaf (.int m))) : ixT v d1 Φ := ix_vl h1 h2 h k
theorem ix_vti {v : T} {d1 : D} (h1 : v = .vw (.tup ds)) (h2 : d1 = .int n) (h : atI ds n = some (.int m)) (k : Φ (.leaf (.int m))) : ixT v d1 Φ := ix_vt h1 h2 h k
theorem ix_vls {s : Str} {v : T} {d1 : D} (h1 : v = .vw (.lst ds)) (h2 : d1 = .int n) (h : atI ds n = some (.str s)) (k : Φ (.leaf (.str s))) : ixT v d1 Φ := ix_vl h1 h2 h k
theorem ix_vll {ds' : List D} {v : T} {d1 : D} (h1 : v = .vw (.lst ds)) (h2 : d1 = .int n) (h : atI ds n = some (.lst ds')) (k : Φ (.vw (.lst ds'))) : ixT v d1 Φ := ix_vl h1 h2 h k
theorem ix_vtl {ds' : List D} {v : T} {d1 : D} (h1 : v = .vw (.tup ds)) (h2 : d1 = .int n) (h : atI ds n = some (.lst ds')) (k : Φ (.vw (.lst ds'))) : ixT v d1 Φ := ix_vt h1 h2 h k
theorem ix_vlt {ds' : List D} {v : T} {d1 : D} (h1 : v = .vw (.lst ds)) (h2 : d1 = .int n) (h : atI ds n = some (.tup ds')) (k : Φ (.vw (.tup ds'))) : ixT v d1 Φ := ix_vl h1 h2 h k
theorem a_add {d1 d2 : D} {Ψ : D → Prop} (h1 : d1 = .int n) (h2 : d2 = .int m) (k : Ψ (.int (n + m))) : augD .add d1 d2 Ψ := by subst h1 h2; exact k
theorem a_sub {d1 d2 : D} {Ψ : D → Prop} (h1 : d1 = .int n) (h2 : d2 = .int m) (k : Ψ (.int (n - m))) : augD .sub d1 d2 Ψ := by subst h1 h2; exact k
theorem bind_nm {p : Env → Prop} (h : Nat.blt i ρ.length = true) (k : p (ρ.put i (some u))) : ∃ ρ', bindG (.nm i) u ρ = some ρ' ∧ p ρ' := ⟨_, by simp only [bindG]; exact if_pos (Nat.le_of_ble_eq_true h), k⟩
theorem set_to {p : Nat → Prop} (h : t.dat = .int n) (h2 : ixN i n = some j) (k : p j) : ∃ n j, t.dat = .int n ∧ ixN i n = some j ∧ p j := ⟨_, _, h, h2, k⟩
theorem aug_to {p : Nat → D → Prop} (h : t.dat = .int n) (h2 : ixN i n = some j) (h3 : us[j]? = some (.leaf d)) (k : p j d) : ∃ n j d, t.dat = .int n ∧ ixN i n = some j ∧ us[j]? = some (.leaf d) ∧ p j d := ⟨_, _, _, h, h2, h3, k⟩
theorem l_len (h : t.dat = .lst ds) (k : Φ (.leaf (.int ds.length))) : bltT .len [t] Φ := by simp only [bltT, T.dats, h, bltD]; exact k
theorem l_lent (h : t.dat = .tup ds) (k : Φ (.leaf (.int ds.length))) : bltT .len [t] Φ := by simp only [bltT, T.dats, h, bltD]; exact k
theorem l_abs (h : t.dat = .int n) (k : Φ (.leaf (.int (if n < 0 then -n else n)))) : bltT .abs [t] Φ := by simp only [bltT, T.dats, h, bltD]; exact k
theorem l_max2 (h : t.dat = .int n) (h2 : u.dat = .int m) (k : Φ (.leaf (.int (if m > n then m else n)))) : bltT .max [t, u] Φ := by simp only [bltT, T.dats, h, h2, bltD]; exact k
theorem l_min2 (h : t.dat = .int n) (h2 : u.dat = .int m) (k : Φ (.leaf (.int (if m < n then m else n)))) : bltT .min [t, u] Φ := by simp only [bltT, T.dats, h, h2, bltD]; exact k
theorem l_repr (h : t.dat = d) (h2 : d.Shw) (k : Φ (.leaf (.str (shown d)))) : bltT .repr [t] Φ := by simp only [bltT, T.dats, h, bltD]; exact ⟨h2, k⟩
theorem l_list (h : t.its = some us ∨ t.prt = some us) (k : Φ (.lst us)) : bltT .list [t] Φ := ⟨us, h, k⟩
theorem fz_nil {z : Bool} {Ψ : List D → Prop} (k : Ψ []) : frozs z [] Ψ := k
theorem fz_cons {z : Bool} {Ψ : List D → Prop} (k : t.froz z fun d => frozs z us fun ds => Ψ (d :: ds)) : frozs z (t :: us) Ψ := k
theorem fz_leaf {z : Bool} {Ψ : D → Prop} (h : t = .leaf d) (k : Ψ d) : t.froz z Ψ := by subst h; exact k
theorem fz_vw {z : Bool} {Ψ : D → Prop} (h0 : t = .vw d) (h : d.flat = true) (k : Ψ d) : t.froz z Ψ := by subst h0; exact ⟨h, k⟩
theorem fz_lst {z : Bool} {Ψ : D → Prop} (h0 : t = .lst us) (h : z = true) (k : Ψ (T.lst us).dat) : t.froz z Ψ := by subst h0; exact ⟨h, k⟩
theorem fz_tup {z : Bool} {Ψ : D → Prop} (h0 : t = .tup us) (h : z = true) (k : Ψ (T.tup us).dat) : t.froz z Ψ := by subst h0; exact ⟨h, k⟩
end
end DL
namespace DL
open PySem PySem.Spec PyProof.Rows L2

noncomputable def takeP2 : B := .ite (.cmp .gt (.ix (.ow 0) (.int 0)) (.int 0))
    (.asg (.nm 3) (.bin .mod (.ix (.ow 0) (.int 0)) (.nm 1))
    (.setix 0 (.int 0) (.bin .fdiv (.ix (.ow 0) (.int 0)) (.nm 1))
    (.ret (.nm 3) .nil))) .nil
  (.asg (.nm 4) (.bin .mod (.bin .mul (.bin .add (.ix (.ow 0) (.int 1)) (.int 1)) (.int 39373)) (.int 1000000007))
  (.asg (.nm 5) (.bin .mod (.bin .mul (.bin .mod (.bin .mul (.nm 4) (.nm 4)) (.int 998244353)) (.int 30011)) (.int 998244353))
  (.ite (.cmp .gt (.nm 1) (.int 1000000)) (.ret (.bin .mod (.bin .add (.bin .mul (.nm 5) (.int 1000000007)) (.nm 4)) (.nm 1)) .nil) .nil
  (.ret (.bin .mod (.bin .fdiv (.nm 5) (.int 7)) (.nm 1)) .nil))))
noncomputable def takeP1 : B := .augix .add 0 (.int 2) (.int 1)
    (.ite (.cmp .ge (.nm 2) (.int 1000000000000000000)) (.setix 0 (.int 0) (.nm 2) .nil) .nil
    (.setix 0 (.int 1) (.bin .mod (.bin .add (.bin .add (.bin .mul (.ix (.ow 0) (.int 1)) (.int 48271)) (.bin .mod (.nm 2) (.int 2147483647))) (.bin .mul (.int 7919) (.ix (.ow 0) (.int 2)))) (.int 2147483647)) .nil))
noncomputable abbrev takeB : B :=
  .ite (.cmp .eq (.ix (.ow 0) (.int 0)) (.int 0))
    (.asg (.nm 2) (.int 0)
    (.ite (.cmp .lt (.ix (.ow 0) (.int 2)) (.blt .len (.cons (.ix (.ow 0) (.int 3)) .nil)))
      (.asg (.nm 2) (.ix (.ix (.ow 0) (.int 3)) (.ix (.ow 0) (.int 2))) .nil) .nil takeP1)) .nil takeP2
noncomputable def bagT (x y z : Int) (ns : List Int) : T := .lst [.leaf (.int x), .leaf (.int y), .leaf (.int z), .leaf (.lst (ns.map .int))]
noncomputable def BagN (x y z : Int) (ns : List Int) : Prop := 0 ≤ x ∧ 0 ≤ y ∧ y < 2147483647 ∧ 0 ≤ z ∧ ∀ n ∈ ns, 0 ≤ n
theorem atI_ints {ns : List Int} {z : Int} (h0 : 0 ≤ z) (h : z < (ns.map D.int).length) : ∃ n, n ∈ ns ∧ atI (ns.map D.int) z = some (.int n) := by
  rw [List.length_map] at h
  refine ⟨ns[z.toNat]'(by omega), List.getElem_mem _, ?_⟩
  unfold L2.atI L2.ixN
  rw [if_pos h0, List.length_map, if_pos h]
  simp only [Option.bind_some, List.getElem?_map]
  rw [List.getElem?_eq_getElem (by omega)]
  rfl
theorem takeW {x y z m : Int} {ns : List Int} {S : Sg} (b : BagN x y z ns) (hm : 0 < m) (hm2 : m < 10 ^ 100) {K : EnD}
    (k : ∀ (v x' y' z' : Int) (ρ : Env), 0 ≤ v → v < m → BagN x' y' z' ns → ρ.at 0 = some (bagT x' y' z' ns) → K.rt (.leaf (.int v)) ρ) :
    wb S takeB [some (bagT x y z ns), some (.leaf (.int m)), none, none, none, none] K := by
  have part2 : ∀ (x y z : Int) (c : Option T), BagN x y z ns → wb S takeP2 [some (bagT x y z ns), some (.leaf (.int m)), c, none, none, none] K := fun x y z c b => by
    unfold takeP2
    repeat' first | ((with_reducible apply w_nm); exact rfl) | with_reducible refine w_int ?_ | ((with_reducible apply w_ow); exact rfl) | with_reducible refine w_ix ?_ | with_reducible refine w_bin ?_ | with_reducible refine w_cmp ?_ | ((with_reducible apply w_call); exact rfl) | with_reducible refine w_blt ?_ | ((with_reducible apply w_gl); exact rfl) | with_reducible refine w_str ?_ | with_reducible refine w_bl ?_ | with_reducible refine w_non ?_ | with_reducible refine w_neg ?_ | with_reducible refine w_tup ?_ | with_reducible refine w_lst ?_ | with_reducible refine w_not ?_ | with_reducible refine w_and ?_ | with_reducible refine w_or ?_ | with_reducible refine w_one ?_ | with_reducible refine w_ife ?_ | with_reducible refine w_sl ?_ | with_reducible refine w_chn ?_ | ((with_reducible apply w_lc); exact rfl) | with_reducible refine wa_cons ?_ | with_reducible refine wa_nil ?_ | with_reducible refine wv_cons ?_ | with_reducible refine wv_nil ?_ | with_reducible refine wo_nop ?_ | with_reducible refine wo_prt ?_ | with_reducible refine wt_cmp ?_ | with_reducible refine wt_not ?_ | with_reducible refine wt_and ?_ | with_reducible refine wt_or ?_ | with_reducible refine wt_one ?_ | with_reducible refine wt_chn ?_ | with_reducible refine wt_val ?_ | with_reducible refine wc_nop ?_ | with_reducible refine wc_one ?_ | with_reducible refine wi_sq ?_ | with_reducible refine wi_rng ?_ | with_reducible refine wi_zip ?_ | with_reducible refine wi_enm ?_ | with_reducible refine wb_asg ?_ | with_reducible refine wb_ite ?_ | with_reducible refine wb_ret ?_ | with_reducible refine wb_nil ?_ | with_reducible refine wb_for ?_ | ((with_reducible apply wb_asgLc); exact rfl; exact rfl) | ((with_reducible apply wb_setix); exact rfl) | ((with_reducible apply wb_augix); exact rfl) | ((with_reducible apply wb_aug); exact rfl; exact rfl) | with_reducible refine wb_ex ?_ | with_reducible refine wb_retN ?_ | with_reducible refine wb_pass ?_ | with_reducible refine wb_brk ?_ | with_reducible refine wb_cont ?_ | ((with_reducible apply wb_fz); exact rfl; exact rfl) | ((with_reducible apply fin_leaf); exact rfl) | ((with_reducible apply fin_lst); exact rfl) | ((with_reducible apply fin_tup); exact rfl) | ((with_reducible apply bind_nm); exact rfl) | ((with_reducible apply c_eq); exact rfl; exact rfl) | ((with_reducible apply c_ne); exact rfl; exact rfl) | ((with_reducible apply c_lt); exact rfl; exact rfl) | ((with_reducible apply c_le); exact rfl; exact rfl) | ((with_reducible apply c_gt); exact rfl; exact rfl) | ((with_reducible apply c_ge); exact rfl; exact rfl) | ((with_reducible apply b_add); exact rfl; exact rfl) | ((with_reducible apply b_sub); exact rfl; exact rfl) | ((with_reducible apply wb_par2); decide; exact rfl; exact rfl) | ((with_reducible apply wb_app); exact rfl; (simp; done)) | ((with_reducible apply wb_app); exact rfl) | ((with_reducible apply b_mul); exact rfl; exact rfl; exact mulR ⟨by decide, by decide⟩) | ((with_reducible apply b_mul); exact rfl; exact rfl; exact mulL ⟨by decide, by decide⟩) | ((with_reducible apply b_mul); exact rfl; exact rfl; exact mulL ⟨by omega, by omega⟩) | ((with_reducible apply b_mul); exact rfl; exact rfl; exact mulR ⟨by omega, by omega⟩) | ((with_reducible apply b_mul); exact rfl; exact rfl) | ((with_reducible apply b_mod); exact rfl; exact rfl; (first | decide | assumption | omega)) | ((with_reducible apply b_mod); exact rfl; exact rfl) | ((with_reducible apply b_fdiv); exact rfl; exact rfl; exact ⟨by decide, by decide⟩) | ((with_reducible apply b_fdiv); exact rfl; exact rfl; exact ⟨by assumption, by assumption⟩) | ((with_reducible apply b_fdiv); exact rfl; exact rfl) | ((with_reducible apply ix_vli); exact rfl; exact rfl; exact rfl) | ((with_reducible apply ix_vll); exact rfl; exact rfl; exact rfl) | ((with_reducible apply ix_lst); exact rfl; exact rfl; exact rfl) | ((with_reducible apply ix_ll); exact rfl; exact rfl; exact rfl) | ((with_reducible apply ix_lt); exact rfl; exact rfl; exact rfl) | ((with_reducible apply ix_tup); exact rfl; exact rfl; exact rfl) | ((with_reducible apply ix_vti); exact rfl; exact rfl; exact rfl) | ((with_reducible apply ix_vlt); exact rfl; exact rfl; exact rfl) | ((with_reducible apply ix_vtl); exact rfl; exact rfl; exact rfl) | ((with_reducible apply ix_vls); exact rfl; exact rfl; exact rfl) | ((with_reducible apply a_add); exact rfl; exact rfl) | ((with_reducible apply a_sub); exact rfl; exact rfl) | ((with_reducible apply l_len); exact rfl) | ((with_reducible apply l_lent); exact rfl) | ((with_reducible apply l_abs); exact rfl) | ((with_reducible apply l_max2); exact rfl; exact rfl) | ((with_reducible apply l_min2); exact rfl; exact rfl) | with_reducible refine fz_nil ?_ | with_reducible refine fz_cons ?_ | ((with_reducible apply fz_leaf); exact rfl) | ((with_reducible apply fz_lst); exact rfl; exact rfl) | ((with_reducible apply fz_tup); exact rfl; exact rfl) | ((with_reducible apply fz_vw); exact rfl; exact rfl) | ((with_reducible apply ex_int); exact rfl) | ((with_reducible apply ex_bl); exact rfl) | ((with_reducible apply set_to); exact rfl; exact rfl) | ((with_reducible apply aug_to); exact rfl; exact rfl; exact rfl) | with_reducible refine ite_dec (fun _ => ?_) (fun _ => ?_) | with_reducible refine ite_ndec (fun _ => ?_) (fun _ => ?_) | with_reducible refine ite_t ?_ | with_reducible refine ite_f ?_
    · exact k _ (x / m) y z _ (Int.emod_nonneg _ (by omega)) (Int.emod_lt_of_pos _ hm) ⟨Int.ediv_nonneg b.1 (by omega), b.2⟩ rfl
    · exact k _ x y z _ (Int.emod_nonneg _ (by omega)) (Int.emod_lt_of_pos _ hm) b rfl
    · exact k _ x y z _ (Int.emod_nonneg _ (by omega)) (Int.emod_lt_of_pos _ hm) b rfl
  have part1 : ∀ (c : Int), x = 0 → 0 ≤ c → wb S takeP1 [some (bagT x y z ns), some (.leaf (.int m)), some (.leaf (.int c)), none, none, none] { K with nx := fun ρ' => wb S takeP2 ρ' K } := fun c ex hc => by
    unfold takeP1
    have hz := b.2.2.2.1
    have l := b.2.2.2.2
    repeat' first | ((with_reducible apply w_nm); exact rfl) | with_reducible refine w_int ?_ | ((with_reducible apply w_ow); exact rfl) | with_reducible refine w_ix ?_ | with_reducible refine w_bin ?_ | with_reducible refine w_cmp ?_ | ((with_reducible apply w_call); exact rfl) | with_reducible refine w_blt ?_ | ((with_reducible apply w_gl); exact rfl) | with_reducible refine w_str ?_ | with_reducible refine w_bl ?_ | with_reducible refine w_non ?_ | with_reducible refine w_neg ?_ | with_reducible refine w_tup ?_ | with_reducible refine w_lst ?_ | with_reducible refine w_not ?_ | with_reducible refine w_and ?_ | with_reducible refine w_or ?_ | with_reducible refine w_one ?_ | with_reducible refine w_ife ?_ | with_reducible refine w_sl ?_ | with_reducible refine w_chn ?_ | ((with_reducible apply w_lc); exact rfl) | with_reducible refine wa_cons ?_ | with_reducible refine wa_nil ?_ | with_reducible refine wv_cons ?_ | with_reducible refine wv_nil ?_ | with_reducible refine wo_nop ?_ | with_reducible refine wo_prt ?_ | with_reducible refine wt_cmp ?_ | with_reducible refine wt_not ?_ | with_reducible refine wt_and ?_ | with_reducible refine wt_or ?_ | with_reducible refine wt_one ?_ | with_reducible refine wt_chn ?_ | with_reducible refine wt_val ?_ | with_reducible refine wc_nop ?_ | with_reducible refine wc_one ?_ | with_reducible refine wi_sq ?_ | with_reducible refine wi_rng ?_ | with_reducible refine wi_zip ?_ | with_reducible refine wi_enm ?_ | with_reducible refine wb_asg ?_ | with_reducible refine wb_ite ?_ | with_reducible refine wb_ret ?_ | with_reducible refine wb_nil ?_ | with_reducible refine wb_for ?_ | ((with_reducible apply wb_asgLc); exact rfl; exact rfl) | ((with_reducible apply wb_setix); exact rfl) | ((with_reducible apply wb_augix); exact rfl) | ((with_reducible apply wb_aug); exact rfl; exact rfl) | with_reducible refine wb_ex ?_ | with_reducible refine wb_retN ?_ | with_reducible refine wb_pass ?_ | with_reducible refine wb_brk ?_ | with_reducible refine wb_cont ?_ | ((with_reducible apply wb_fz); exact rfl; exact rfl) | ((with_reducible apply fin_leaf); exact rfl) | ((with_reducible apply fin_lst); exact rfl) | ((with_reducible apply fin_tup); exact rfl) | ((with_reducible apply bind_nm); exact rfl) | ((with_reducible apply c_eq); exact rfl; exact rfl) | ((with_reducible apply c_ne); exact rfl; exact rfl) | ((with_reducible apply c_lt); exact rfl; exact rfl) | ((with_reducible apply c_le); exact rfl; exact rfl) | ((with_reducible apply c_gt); exact rfl; exact rfl) | ((with_reducible apply c_ge); exact rfl; exact rfl) | ((with_reducible apply b_add); exact rfl; exact rfl) | ((with_reducible apply b_sub); exact rfl; exact rfl) | ((with_reducible apply wb_par2); decide; exact rfl; exact rfl) | ((with_reducible apply wb_app); exact rfl; (simp; done)) | ((with_reducible apply wb_app); exact rfl) | ((with_reducible apply b_mul); exact rfl; exact rfl; exact mulR ⟨by decide, by decide⟩) | ((with_reducible apply b_mul); exact rfl; exact rfl; exact mulL ⟨by decide, by decide⟩) | ((with_reducible apply b_mul); exact rfl; exact rfl; exact mulL ⟨by omega, by omega⟩) | ((with_reducible apply b_mul); exact rfl; exact rfl; exact mulR ⟨by omega, by omega⟩) | ((with_reducible apply b_mul); exact rfl; exact rfl) | ((with_reducible apply b_mod); exact rfl; exact rfl; (first | decide | assumption | omega)) | ((with_reducible apply b_mod); exact rfl; exact rfl) | ((with_reducible apply b_fdiv); exact rfl; exact rfl; exact ⟨by decide, by decide⟩) | ((with_reducible apply b_fdiv); exact rfl; exact rfl; exact ⟨by assumption, by assumption⟩) | ((with_reducible apply b_fdiv); exact rfl; exact rfl) | ((with_reducible apply ix_vli); exact rfl; exact rfl; exact rfl) | ((with_reducible apply ix_vll); exact rfl; exact rfl; exact rfl) | ((with_reducible apply ix_lst); exact rfl; exact rfl; exact rfl) | ((with_reducible apply ix_ll); exact rfl; exact rfl; exact rfl) | ((with_reducible apply ix_lt); exact rfl; exact rfl; exact rfl) | ((with_reducible apply ix_tup); exact rfl; exact rfl; exact rfl) | ((with_reducible apply ix_vti); exact rfl; exact rfl; exact rfl) | ((with_reducible apply ix_vlt); exact rfl; exact rfl; exact rfl) | ((with_reducible apply ix_vtl); exact rfl; exact rfl; exact rfl) | ((with_reducible apply ix_vls); exact rfl; exact rfl; exact rfl) | ((with_reducible apply a_add); exact rfl; exact rfl) | ((with_reducible apply a_sub); exact rfl; exact rfl) | ((with_reducible apply l_len); exact rfl) | ((with_reducible apply l_lent); exact rfl) | ((with_reducible apply l_abs); exact rfl) | ((with_reducible apply l_max2); exact rfl; exact rfl) | ((with_reducible apply l_min2); exact rfl; exact rfl) | with_reducible refine fz_nil ?_ | with_reducible refine fz_cons ?_ | ((with_reducible apply fz_leaf); exact rfl) | ((with_reducible apply fz_lst); exact rfl; exact rfl) | ((with_reducible apply fz_tup); exact rfl; exact rfl) | ((with_reducible apply fz_vw); exact rfl; exact rfl) | ((with_reducible apply ex_int); exact rfl) | ((with_reducible apply ex_bl); exact rfl) | ((with_reducible apply set_to); exact rfl; exact rfl) | ((with_reducible apply aug_to); exact rfl; exact rfl; exact rfl) | with_reducible refine ite_dec (fun _ => ?_) (fun _ => ?_) | with_reducible refine ite_ndec (fun _ => ?_) (fun _ => ?_) | with_reducible refine ite_t ?_ | with_reducible refine ite_f ?_
    · refine part2 c _ _ _ ⟨hc, ?_, ?_, by omega, l⟩
      · exact Int.emod_nonneg _ (by decide)
      · exact Int.emod_lt_of_pos _ (by decide)
    · refine part2 x _ _ _ ⟨b.1, ?_, ?_, by omega, l⟩
      · exact Int.emod_nonneg _ (by decide)
      · exact Int.emod_lt_of_pos _ (by decide)
  refine wb_ite ?_
  refine wt_cmp (w_ix (w_ow rfl (w_int (ix_vli rfl rfl rfl (w_int (c_eq rfl rfl (ite_dec (fun h => ?_) fun h => ?_)))))))
  · refine wb_asg (w_int (fin_leaf rfl (bind_nm rfl (wb_ite (wt_cmp (w_ix (w_ow rfl (w_int (ix_vli rfl rfl rfl (w_blt (wv_cons (w_ix (w_ow rfl (w_int (ix_vll rfl rfl rfl (wv_nil (l_len rfl (c_lt rfl rfl (ite_dec (fun h2 => ?_) fun h2 => ?_)))))))))))))))))))
    · obtain ⟨n, hn, hi⟩ := atI_ints b.2.2.2.1 h2
      refine wb_asg (w_ix (w_ix (w_ow rfl (w_int (ix_vll rfl rfl rfl (w_ix (w_ow rfl (w_int (ix_vli rfl rfl rfl (ix_vli rfl rfl hi (fin_leaf rfl (bind_nm rfl (wb_nil ?_)))))))))))))
      exact part1 n h (b.2.2.2.2 n hn)
    · refine wb_nil ?_
      exact part1 0 h (Int.le_refl 0)
  · refine wb_nil ?_
    exact part2 x y z none b
end DL
namespace DL
open PySem PySem.Spec PyProof.Rows L2

noncomputable def Pn (b : Addr) (σ : L2.St) : Prop := σ[0]? = some (some (.ref b))
noncomputable def Mtp (b : Addr) (a : An0) (K : EnD) (D : Ends) : Prop :=
  (∀ ρ σ H, K.nx ρ → SOk a ρ σ [] [] H → Pn b σ → D.nx σ H) ∧ ∀ t v ρ σ H, K.rt t ρ → SOk a ρ σ [t] [v] H → Pn b σ → D.rt v H
noncomputable def DSp (b : Addr) (a : An0) (X : Cx) (ρ : Env) (st : Stmt) (K : EnD) : Prop := ∀ σ H D, SOk a ρ σ [] [] H → Pn b σ → Mtp b a K D → WS X st D σ H
noncomputable def DBp (b : Addr) (a : An0) (X : Cx) (ρ : Env) (sts : List Stmt) (K : EnD) : Prop := ∀ σ H D, SOk a ρ σ [] [] H → Pn b σ → Mtp b a K D → WB X sts D σ H
noncomputable def B.pin : DL.B → Bool
  | .nil => true
  | .asg (.nm i) _ r => i != 0 && r.pin
  | .setix _ _ _ r => r.pin
  | .augix _ _ _ _ r => r.pin
  | .ret _ _ => true
  | .ite _ x y r => x.pin && y.pin && r.pin
  | _ => false
section
variable {a : An0} {X : Cx} {ρ : Env} {σ : L2.St} {ts : List T} {vs : List V} {H F : Hp} {Sc Sm : List Addr} {Φ : T → Prop} {pos p : Pos} {e A B C tg it elt : Expr} {es : List Expr} {Ψ : List D → Prop} {z : Bool} {st : Stmt} {rest body : List Stmt} {K : EnD} {q : Addr}
theorem pn_wipe {i : Nat} {σ' : L2.St} (h0 : i ≠ 0) (pn : Pn q σ) (h : L2.wipe σ' [i] = L2.wipe σ [i]) : Pn q σ' := by
  have e : (L2.wipe σ' [i])[0]? = (L2.wipe σ [i])[0]? := by rw [h]
  have r : ∀ s : L2.St, (L2.wipe s [i])[0]? = s[0]? := fun s => by
    show (s.set i none)[0]? = s[0]?
    rw [List.getElem?_set_ne h0]
  rw [r, r] at e
  exact e.trans pn
theorem db_nilp (h : K.nx ρ) : DBp q a X ρ [] K := fun σ H D ok pn m => ⟨_, pss_nil, m.1 ρ σ H h ok pn⟩
theorem db_consp (h : DSp q a X ρ st { K with nx := fun ρ' => DBp q a X ρ' rest K }) : DBp q a X ρ (st :: rest) K := fun σ H D ok pn m => by
  refine ⟨_, pss_cons ps_W pb_W, ?_⟩
  show WS X st { D with nx := WB X rest D } σ H
  exact h σ H _ ok pn ⟨fun ρ' σ' H' hk ok' pn' => hk σ' H' D ok' pn' m, m.2⟩
theorem ds_asgp {c : Ct} {i : Nat} (h0 : i ≠ 0) (xo : XOk a X) (co : COk c X) (hg : okG c (.nm i) tg = true) (h1 : noComp e = true) (h2 : noPar2 c tg e = true) (h : DE a X ρ e fun t => t.fin fun u => ∃ ρ', bindG (.nm i) u ρ = some ρ' ∧ K.nx ρ') : DSp q a X ρ (.Assign [tg] e pos) K := fun σ H D ok pn m => by
  refine ⟨_, ps_asg pe_W pg_W (noswap h1) (nopar2 co h2) (asg_one hg), ?_⟩
  show WE X e σ H fun x H1 => WG X tg x σ H1 D.nx
  refine h σ H [] [] _ ok fun v t H1 h1 ok1 => SOk.fin ok1 h1 fun u ⟨ρ', hb, hk⟩ nu ok2 => ?_
  obtain ⟨F, Sc, Sm, w⟩ := ok2
  obtain ⟨S, h3, _⟩ := w.cut
  exact dg xo co hg (h3.nv nu) ⟨F, Sc, Sm, w⟩ hb fun σ' ok3 wp => m.1 ρ' σ' H1 hk ok3 (pn_wipe h0 pn (wp [i] fun j hj => hj))
theorem ds_retp (h : DE a X ρ e fun t => t.fin fun u => K.rt u ρ) : DSp q a X ρ (.Return (some e) pos) K := fun σ H D ok pn m => by
  refine ⟨_, ps_ret pe_W, ?_⟩
  show WE X e σ H D.rt
  exact h σ H [] [] _ ok fun v t H1 h1 ok1 => SOk.fin ok1 h1 fun u hk nu ok2 => m.2 u v ρ σ H1 hk ok2 pn
theorem ds_ifp {s1 s2 : List Stmt} (h : DT a X ρ A fun b => if b = true then DBp q a X ρ s1 K else DBp q a X ρ s2 K) : DSp q a X ρ (.If A s1 s2 pos) K := fun σ H D ok pn m => by
  refine ⟨_, ps_if pt_W pb_W pb_W, ?_⟩
  show WT X A σ H fun b H1 => if b = true then WB X s1 D σ H1 else WB X s2 D σ H1
  refine h σ H [] [] _ ok fun b H1 hb ok1 => ?_
  cases b with
  | true =>
    rw [if_pos rfl] at hb ⊢
    exact hb σ H1 D ok1 pn m
  | false =>
    rw [if_neg (by decide)] at hb ⊢
    exact hb σ H1 D ok1 pn m

theorem ds_setixp {i : Nat} {x : Str} {us : List T} {xp sp : Pos} (xo : XOk a X) (hW : a.W = []) (hN : X.N[i]? = some x) (hv : Vis X.env.scope x) (hd : (x == ("__debug__" : Str)) = false) (hc : (x == ("__classdict__" : Str)) = false)
    (h1 : noComp e = true) (hB : notSlice B = true) (hat : ρ.at i = some (.lst us)) (h : DE a X ρ e fun t => t.fin fun u => DE a X ρ B fun y => ∃ n j, y.dat = .int n ∧ ixN us.length n = some j ∧ K.nx (ρ.put i (some (.lst (us.set j u))))) :
    DSp q a X ρ (.Assign [.Subscript (.Name x xp) B sp] e pos) K := fun σ H D ok pn m => by
  refine ⟨_, ps_asg pe_W (pg_sub (pvar hN hv hd hc) pe_W set_list (ha := asg_sub hB)) (noswap1 h1) (by rfl) (by rfl), ?_⟩
  show WE X e σ H fun v H1 => tVar i σ H1 fun o H2 => WE X B σ H2 fun b H3 => rSetL o b v H3 fun H4 => D.nx σ H4
  refine h σ H [] [] _ ok fun y t H1 ht ok1 => SOk.fin ok1 ht fun u hu nu ok2 => ?_
  obtain ⟨F, Sc, Sm, w⟩ := ok2
  obtain ⟨v, S1, e1, h3, _⟩ := w.cells.get hat
  simp only [Ow] at h3
  obtain ⟨_, l, ws0, _, rfl, hl0, _⟩ := h3
  refine ⟨_, e1, ?_⟩
  refine hu σ H1 _ _ _ ⟨F, Sc, Sm, w⟩ fun b tb H3 ⟨n, j, hb, hj, hk⟩ ok3 => ?_
  have ib := ok3.top
  rw [hb] at ib
  obtain ⟨F2, Sc2, Sm2, w2⟩ := ok3.pop1
  obtain ⟨l', ws, e2, hl2, lw, so⟩ := w2.store (j := j) hW nu hat (ixN_seq hj).2.1
  rw [e1] at e2
  cases e2
  exact ⟨l, ws, n, j, rfl, ib.int, hl2, by rw [lw]; exact hj, m.1 _ σ _ hk so pn⟩
theorem ds_augixp {o : Aop} {i : Nat} {x : Str} {us : List T} {xp sp : Pos} (xo : XOk a X) (hW : a.W = []) (hN : X.N[i]? = some x) (hv : Vis X.env.scope x) (hd : (x == ("__debug__" : Str)) = false) (hc : (x == ("__classdict__" : Str)) = false)
    (hB : notSlice B = true) (hat : ρ.at i = some (.lst us)) (h : DE a X ρ B fun y => ∃ n j d, y.dat = .int n ∧ ixN us.length n = some j ∧ us[j]? = some (.leaf d) ∧ DE a X ρ e fun y2 => augD o d y2.dat fun r => K.nx (ρ.put i (some (.lst (us.set j (.leaf r)))))) :
    DSp q a X ρ (.AugAssign (.Subscript (.Name x xp) B sp) o.op e pos) K := fun σ H D ok pn m => by
  refine ⟨_, ps_augS (pvar hN hv hd hc) pe_W get_list pe_W (ip_rAug o) set_list (fun ov iv new => ?_), ?_⟩
  · cases B with
    | Slice l u st p =>
      cases st with
      | none => simp [notSlice] at hB
      | some _ => rfl
    | _ => rfl
  show tVar i σ H fun o1 H1 => WE X B σ H1 fun b H2 => rGetL X.K o1 b H2 fun x1 H3 => WE X e σ H3 fun y H4 => rAug o x1 y H4 fun z1 H5 => rSetL o1 b z1 H5 fun H6 => D.nx σ H6
  obtain ⟨F, Sc, Sm, w⟩ := ok
  obtain ⟨v, S1, e1, h3, _⟩ := w.cells.get hat
  simp only [Ow] at h3
  obtain ⟨_, l, ws0, _, rfl, hl0, _⟩ := h3
  refine ⟨_, e1, ?_⟩
  refine h σ H [] [] _ ⟨F, Sc, Sm, w⟩ fun b tb H2 ⟨n, j, d, hb, hj, hd', hy⟩ ok2 => ?_
  have ib := ok2.top
  rw [hb] at ib
  rw [ib.int]
  obtain ⟨F2, Sc2, Sm2, w2⟩ := ok2.pop1
  obtain ⟨v2, S2, e2, h4, _⟩ := w2.cells.get hat
  rw [e1] at e2
  cases e2
  simp only [Ow] at h4
  obtain ⟨_, l', ws2, S3, el, hl2, ho2, _⟩ := h4
  cases el
  obtain ⟨x1, S4, e4, h5, _⟩ := ho2.get hd'
  refine ⟨l, ws2, n, x1, rfl, rfl, .inl (.inl hl2), atI_of (by rw [ho2.length]; exact hj) e4, ?_⟩
  refine hy σ H2 [] [] _ ⟨F2, Sc2, Sm2, w2⟩ fun y2 ty2 H4 hy2 ok4 => ?_
  have i2 := ok4.top
  obtain ⟨F5, Sc5, Sm5, w5⟩ := ok4.pop1
  simp only [Ow] at h5
  -- the item stays as it was where it is flat; otherwise the operator says no
  have fl : d.flat = true := by
    cases o with
    | add =>
      generalize ty2.dat = dy at hy2
      match d, dy, hy2 with
      | .int _, .int _, _ => rfl
      | .str _, .str _, _ => rfl
    | sub =>
      generalize ty2.dat = dy at hy2
      match d, dy, hy2 with
      | .int _, .int _, _ => rfl
  refine aug_ok (h5.2.flat fl) i2 hy2 fun r z1 hr fr ir => ?_
  obtain ⟨l', ws, e6, hl6, lw, so⟩ := SW.store (j := j) (w5.leaf (ir.flat fr)) hW rfl hat (ixN_seq hj).2.1
  rw [e1] at e6
  cases e6
  exact ⟨l, ws, n, j, rfl, rfl, hl6, by rw [lw]; exact hj, m.1 _ σ _ hr so pn⟩
theorem DBp.mono_nx {s : List Stmt} {P P' : Env → Prop} (h : DBp q a X ρ s { K with nx := P }) (i : ∀ ρ', P ρ' → P' ρ') : DBp q a X ρ s { K with nx := P' } := fun σ H D ok pn m => h σ H D ok pn ⟨fun ρ' σ' H' hk => m.1 ρ' σ' H' (i ρ' hk), m.2⟩
theorem soundBp : ∀ (b : DL.B) {c : Cn} {S : Sg} {a : An0} {X : Cx} {ρ : Env} {K : EnD} {s : List Stmt}, b.pin = true → a.W = [] → Good c S a X → okB c b s = true → wb S b ρ K → DBp q a X ρ s K
  | .nil, c, S, a, X, ρ, K, s, pn, hW, g, k, h => by
    simp only [okB] at k
    simp only [wb] at h
    split at k
    · exact db_nilp h
    · cases k
  | .asg (.nm i) e r, c, S, a, X, ρ, K, s, pn, hW, g, k, h => by
    simp only [B.pin, Bool.and_eq_true] at pn
    simp only [okB] at k
    simp only [wb] at h
    split at k
    · simp only [Bool.and_eq_true] at k
      obtain ⟨⟨⟨⟨k1, k2⟩, k3⟩, k4⟩, k5⟩ := k
      exact db_consp (ds_asgp (by simpa using pn.1) g.xo g.co k1 k2 k3 ((soundE e g k4 h).mono fun t q => fin_mono (fun u q => q.elim fun ρ' q => ⟨ρ', q.1, soundBp r pn.2 hW g k5 q.2⟩) q))
    · cases k
  | .setix i x e r, c, S, a, X, ρ, K, s, pn, hW, g, k, h => by
    simp only [B.pin] at pn
    simp only [okB] at k
    simp only [wb] at h
    split at k
    · simp only [Bool.and_eq_true] at k
      obtain ⟨⟨⟨⟨⟨⟨⟨k1, k2⟩, k3⟩, k4⟩, k5⟩, k6⟩, k7⟩, k8⟩ := k
      obtain ⟨us, h1, h2⟩ := h
      obtain ⟨q1, q2, _⟩ := plain_of k3
      exact db_consp (ds_setixp g.xo hW (nameIs_of g.co k1) (Ct.vis_of g.co k2) q1 q2 k4 k5 h1 ((soundE e g k6 h2).mono fun t q => fin_mono (fun u q => (soundE x g k7 q).mono fun y q => q.elim fun n q => q.elim fun j q => ⟨n, j, q.1, q.2.1, soundBp r pn hW g k8 q.2.2⟩) q))
    · cases k
  | .augix o i x e r, c, S, a, X, ρ, K, s, pn, hW, g, k, h => by
    simp only [B.pin] at pn
    simp only [okB] at k
    simp only [wb] at h
    split at k
    · simp only [Bool.and_eq_true, decide_eq_true_eq] at k
      obtain ⟨⟨⟨⟨⟨⟨⟨k1, k2⟩, k3⟩, k4⟩, k5⟩, k6⟩, k7⟩, k8⟩ := k
      obtain ⟨us, h1, h2⟩ := h
      obtain ⟨q1, q2, _⟩ := plain_of k4
      rw [k1]
      exact db_consp (ds_augixp g.xo hW (nameIs_of g.co k2) (Ct.vis_of g.co k3) q1 q2 k5 h1 ((soundE x g k6 h2).mono fun y q => q.elim fun n q => q.elim fun j q => q.elim fun d q => ⟨n, j, d, q.1, q.2.1, q.2.2.1, (soundE e g k7 q.2.2.2).mono fun y2 q => augm (fun z q => soundBp r pn hW g k8 q) q⟩))
    · cases k
  | .ret e r, c, S, a, X, ρ, K, s, pn, hW, g, k, h => by
    simp only [okB] at k
    simp only [wb] at h
    split at k
    · exact db_consp (ds_retp (soundE e g k h))
    · cases k
  | .ite t x y r, c, S, a, X, ρ, K, s, pn, hW, g, k, h => by
    simp only [B.pin, Bool.and_eq_true] at pn
    simp only [okB] at k
    simp only [wb] at h
    split at k
    · simp only [Bool.and_eq_true] at k
      obtain ⟨⟨⟨k1, k2⟩, k3⟩, k4⟩ := k
      exact db_consp (ds_ifp ((soundT t g k1 h).mono fun b q => ite_mono (fun q => (soundBp x pn.1.1 hW g k2 q).mono_nx fun ρ' q => soundBp r pn.2 hW g k4 q) (fun q => (soundBp y pn.1.2 hW g k3 q).mono_nx fun ρ' q => soundBp r pn.2 hW g k4 q) q))
    · cases k
  | .asg .nil _ _, c, S, a, X, ρ, K, s, pn, hW, g, k, h
  | .asg (.cons _ _) _ _, c, S, a, X, ρ, K, s, pn, hW, g, k, h
  | .asgLc _ _ _ _ _ _ _, c, S, a, X, ρ, K, s, pn, hW, g, k, h
  | .asgLcL _ _ _ _ _ _ _ _, c, S, a, X, ρ, K, s, pn, hW, g, k, h
  | .par2 _ _ _ _ _, c, S, a, X, ρ, K, s, pn, hW, g, k, h
  | .par3 _ _ _ _ _ _ _, c, S, a, X, ρ, K, s, pn, hW, g, k, h
  | .fgt _ _, c, S, a, X, ρ, K, s, pn, hW, g, k, h
  | .sh _ _ _, c, S, a, X, ρ, K, s, pn, hW, g, k, h
  | .unp2 _ _ _ _, c, S, a, X, ρ, K, s, pn, hW, g, k, h
  | .spl _ _ _ _ _ _, c, S, a, X, ρ, K, s, pn, hW, g, k, h
  | .spx _ _ _ _, c, S, a, X, ρ, K, s, pn, hW, g, k, h
  | .rvs _ _, c, S, a, X, ρ, K, s, pn, hW, g, k, h
  | .retm _ _, c, S, a, X, ρ, K, s, pn, hW, g, k, h
  | .ret2m _ _ _, c, S, a, X, ρ, K, s, pn, hW, g, k, h
  | .ins _ _ _ _, c, S, a, X, ρ, K, s, pn, hW, g, k, h
  | .aug _ _ _ _, c, S, a, X, ρ, K, s, pn, hW, g, k, h
  | .app _ _ _, c, S, a, X, ρ, K, s, pn, hW, g, k, h
  | .augix2 _ _ _ _ _ _, c, S, a, X, ρ, K, s, pn, hW, g, k, h
  | .ext _ _ _, c, S, a, X, ρ, K, s, pn, hW, g, k, h
  | .ex _ _, c, S, a, X, ρ, K, s, pn, hW, g, k, h
  | .retN _, c, S, a, X, ρ, K, s, pn, hW, g, k, h
  | .for_ _ _ _ _, c, S, a, X, ρ, K, s, pn, hW, g, k, h
  | .whl _ _ _, c, S, a, X, ρ, K, s, pn, hW, g, k, h
  | .pass _, c, S, a, X, ρ, K, s, pn, hW, g, k, h
  | .brk _, c, S, a, X, ρ, K, s, pn, hW, g, k, h
  | .dead, c, S, a, X, ρ, K, s, pn, hW, g, k, h
  | .raise _ _ _, c, S, a, X, ρ, K, s, pn, hW, g, k, h
  | .tryX _ _ _ _, c, S, a, X, ρ, K, s, pn, hW, g, k, h
  | .cont _, c, S, a, X, ρ, K, s, pn, hW, g, k, h
  | .fz _ _, c, S, a, X, ρ, K, s, pn, hW, g, k, h => by simp [B.pin] at pn
end
end DL
namespace DL
open PySem PySem.Spec PyProof.Rows L2

noncomputable def Rl (R : D → T → Prop) : List D → List T → Prop
  | [], us => us = []
  | d :: ds, us => ∃ t r, us = t :: r ∧ R d t ∧ Rl R ds r
theorem lcW_fil {g : Tg} {wc : Env → (Bool → Prop) → Prop} {we : Env → (T → Prop) → Prop} {ρ : Env} {Φ : List T → Prop} (p : D → Bool) (R : D → T → Prop) : ∀ {ds : List D} {acc : List T},
    (∀ d ∈ ds, ∀ (Ψ : T → Prop) (N : Prop), (p d = true → ∀ t, R d t → Ψ t) → (p d = false → N) → ∃ ρ', bindG g (.leaf d) ρ = some ρ' ∧ wc ρ' fun b => if b = true then we ρ' fun t => t.fin Ψ else N) →
    (∀ us, Rl R (ds.filter p) us → Φ (acc ++ us)) → lcW g wc we ρ ds acc Φ
  | [], acc, _, k => by simpa [lcW] using k [] (by simp [Rl])
  | d :: ds, acc, hs, k => by
    simp only [lcW]
    refine hs d List.mem_cons_self _ _ (fun hp t ht => ?_) fun hp => ?_
    · refine lcW_fil p R (fun d' hd' => hs d' (List.mem_cons_of_mem _ hd')) fun us hu => ?_
      rw [List.append_assoc]
      exact k (t :: us) (by rw [List.filter_cons_of_pos (by exact hp)]; exact ⟨t, us, rfl, ht, hu⟩)
    · refine lcW_fil p R (fun d' hd' => hs d' (List.mem_cons_of_mem _ hd')) fun us hu => ?_
      exact k us (by rw [List.filter_cons_of_neg (by simp [hp])]; exact hu)
theorem lcW_all {S : Sg} {g : Tg} {we : Env → (T → Prop) → Prop} {ρ : Env} {Φ : List T → Prop} (R : D → T → Prop) {ds : List D} {acc : List T}
    (hs : ∀ d ∈ ds, ∀ (Ψ : T → Prop), (∀ t, R d t → Ψ t) → ∃ ρ', bindG g (.leaf d) ρ = some ρ' ∧ we ρ' fun t => t.fin Ψ)
    (k : ∀ us, Rl R ds us → Φ (acc ++ us)) : lcW g (wc S .nop) we ρ ds acc Φ := by
  refine lcW_fil (fun _ => true) R (fun d hd Ψ N h1 h2 => ?_) fun us hu => k us (by rwa [List.filter_eq_self.mpr fun _ _ => rfl] at hu)
  obtain ⟨ρ', e, q⟩ := hs d hd Ψ (h1 rfl)
  exact ⟨ρ', e, wc_nop (by rw [if_pos rfl]; exact q)⟩
theorem rl_map {f : D → T} : ∀ {ds : List D} {us : List T}, Rl (fun d t => t = f d) ds us → us = ds.map f
  | [], us, h => h
  | d :: ds, us, ⟨t, r, e, h1, h2⟩ => by rw [e, h1, rl_map h2]; rfl
theorem lcW_map {S : Sg} {g : Tg} {we : Env → (T → Prop) → Prop} {ρ : Env} {Φ : List T → Prop} (f : D → T) {ds : List D}
    (hs : ∀ d ∈ ds, ∀ (Ψ : T → Prop), Ψ (f d) → ∃ ρ', bindG g (.leaf d) ρ = some ρ' ∧ we ρ' fun t => t.fin Ψ)
    (k : Φ (ds.map f)) : lcW g (wc S .nop) we ρ ds [] Φ :=
  lcW_all (fun d t => t = f d) (fun d hd Ψ h => hs d hd Ψ (h _ rfl)) fun us hu => by rw [rl_map hu]; exact k
theorem forW_inv {g : Tg} {wb : Env → EnD → Prop} {K : EnD} (J : List D → Env → Prop) : ∀ {ds : List D} {ρ : Env}, J ds ρ →
    (∀ d r ρ (K' : EnD), J (d :: r) ρ → (∀ ρ', J r ρ' → K'.nx ρ') → (∀ ρ', J r ρ' → K'.ct ρ') → (∀ ρ', K.nx ρ' → K'.bk ρ') → (∀ t ρ', K.rt t ρ' → K'.rt t ρ') → ∃ ρ', bindG g (.leaf d) ρ = some ρ' ∧ wb ρ' K') →
    (∀ ρ, J [] ρ → K.nx ρ) → forW g wb ds ρ K
  | [], ρ, h, _, k => k ρ h
  | d :: r, ρ, h, s, k => s d r ρ _ h (fun ρ' h' => forW_inv J h' s k) (fun ρ' h' => forW_inv J h' s k) (fun _ h => h) fun _ _ h => h
noncomputable def takeF : SpecF := fun ds Φ => ∃ m, ds = [.bag, .int m] ∧ (0 < m ∧ m < 10 ^ 100) ∧ ∀ v, 0 ≤ v → v < m → Φ (.leaf (.int v))
theorem takeF_mono : Mono takeF := fun ds Φ Ψ i ⟨m, e, b, h⟩ => ⟨m, e, b, fun v h1 h2 => i _ (h v h1 h2)⟩
noncomputable def bag0 (ms : List Int) : T := .lst [.leaf (.int 0), .leaf (.int 1234567891), .leaf (.int 0), .lst (ms.map fun n => .leaf (.int n))]
noncomputable def bagF : SpecF := fun ds Φ => ∃ ns, ds = [.scr ns] ∧ ns.length ≤ 63 ∧ ∀ ms : List Int, (∀ n ∈ ms, 0 ≤ n) → Φ (bag0 ms)
theorem bagF_mono : Mono bagF := fun ds Φ Ψ i ⟨m, e, b, h⟩ => ⟨m, e, b, fun v h1 => i _ (h v h1)⟩
noncomputable abbrev takeN : List Str := ["_law_bag_here", "_law_many", "_law_cell", "_law_value", "_law_first", "_law_second"]
noncomputable abbrev bagNm : List Str := ["_law_script", "_law_cell"]
noncomputable def bagB : B := .ret (.lst (.cons (.int 0) (.cons (.int 1234567891) (.cons (.int 0) (.cons (.lc [1] (.nm 1) (.sq (.sl (.nm 0) .nop (.prt (.int 63)))) .nop (.blt .abs (.cons (.nm 1) .nil))) .nil))))) .nil
theorem owc_none_inv {a : An} {F H : Hp} : ∀ {n : Nat} {σ : L2.St} {S : List Addr}, OwC a F H (List.replicate n none) σ S → S = []
  | 0, σ, S, h => by simpa [OwC] using h
  | n + 1, σ, S, h => by
    rw [List.replicate_succ] at h
    simp only [OwC] at h
    exact owc_none_inv h
section
variable {P : Program} {w : World} {K : PySem.W.Frag} {mg : Str → Option Value} {base : Heap} {cls : Nat → Option (Addr × List Str)} {k j : Nat} {x qual : Str} {f : SpecF} {st : Stmt} {fa : Addr} {fd : FuncData} {N ps : List Str} {c : Cn} {S : Sg} {b : B}
theorem cutL_length {α : Type} (xs : List α) (lo hi : Option Int) : (cutL xs lo hi).length ≤ xs.length := by
  unfold cutL
  rw [List.length_take, List.length_drop]
  omega
theorem bagW {S : Sg} {K : EnD} {ns : List Int} (hz : S.z = true) (h : ns.length ≤ 63) (k : ∀ (ms : List Int) ρ, (∀ n ∈ ms, 0 ≤ n) → K.rt (bag0 ms) ρ) : wb S bagB [some (.leaf (.scr ns)), none] K := by
  unfold bagB
  refine wb_ret (w_lst ?_)
  refine wa_cons (w_int (fin_leaf rfl ?_))
  refine wa_cons (w_int (fin_leaf rfl ?_))
  refine wa_cons (w_int (fin_leaf rfl ?_))
  refine wa_cons (w_lc rfl (wi_sq (w_sl (w_nm rfl (wo_nop (wo_prt (w_int (ex_int rfl ?_))))))))
  refine .inr (.inr (.inr ⟨ns, rfl, ?_⟩))
  have len : (cutL ns none (some 63)).length ≤ 63 := Nat.le_trans (cutL_length _ _ _) h
  refine ⟨hz, _, rfl, ?_⟩
  refine ⟨by simp [T.dats_eq]; omega, ?_⟩
  have ed : T.dats ((cutL ns none (some 63)).map fun n => .leaf (.int n)) = (cutL ns none (some 63)).map D.int := by
    rw [T.dats_eq, List.map_map]; rfl
  rw [ed]
  refine lcW_map (fun d => match d with
    | .int n => .leaf (.int (if n < 0 then -n else n))
    | _ => .leaf .non) (fun d hd Ψ hΨ => ?_) ?_
  · obtain ⟨n, _, rfl⟩ := List.mem_map.mp hd
    exact bind_nm rfl (w_blt (wv_cons (w_nm rfl (wv_nil (l_abs rfl (fin_leaf rfl hΨ))))))
  · rw [List.map_map]
    refine fin_lst rfl (wa_nil ⟨Nat.le_of_ble_eq_true rfl, fin_lst rfl ?_⟩)
    have e : (cutL ns none (some 63)).map ((fun d => match d with
    | D.int n => T.leaf (.int (if n < 0 then -n else n))
    | _ => .leaf .non) ∘ D.int) = ((cutL ns none (some 63)).map fun n => if n < 0 then -n else n).map fun n => .leaf (.int n) := by
      rw [List.map_map]; rfl
    rw [e]
    refine k _ _ fun n hn => ?_
    obtain ⟨m, _, rfl⟩ := List.mem_map.mp hn
    split <;> omega
theorem fnTake (Fu : L2.Fun K x qual st fa fd) (sc : FnScope takeN ["_law_bag_here", "_law_many"] (defScope st)) (ck : okB { toCt := ⟨takeN, defScope st, defScope st⟩, fn := [], gl := [], bs := ["len"] } takeB (defBody st) = true) (bs : mg "len" = none) :
    FnG P w K mg base CX0 (k + 1) fa fd ["_law_bag_here", "_law_many"] (spD K cls takeF) := by
  obtain ⟨oc, od, kV, doc, pm, an, cdv, ct, osl, rfl, lk, hcd⟩ := Fu.ex
  refine fn_G lk hcd sc (fun vs H Q E hs => ?_) fun A outer s H vs Q E gu hr hs => ?_
  · obtain ⟨bg, F, ds, _, _, il, m, rfl, _⟩ := hs
    rw [isl_length il]; rfl
  obtain ⟨bg, F, ds, sub, bag, il, m, rfl, hm, q⟩ := hs
  simp only [IsL, Is] at il
  obtain ⟨_, _, rfl, ⟨p, eb, rfl⟩, _, _, rfl, rfl, rfl⟩ := il
  have eb : bg = some p := eb
  subst eb
  have b1 := bag.no p (An.hid_bg rfl)
  obtain ⟨xx, yy, zz, cc, ns, b2, b3, b4⟩ := bag.bag p rfl
  have X := goodB (c := { toCt := ⟨takeN, defScope st, defScope st⟩, fn := [], gl := [], bs := ["len"] }) (S := { z := false, fs := [], gs := [] }) (P := P) (w := w) (mg := mg) (base := base) (cls := cls) (k := k) (a := ⟨⟨K, none, cls⟩, fun b => b = p ∨ An.hid ⟨K, none, cls⟩ b, F, H, [], []⟩) (E := E) (H := H) (outer := outer) (cdv := cdv) (qual := qual) (fa := fa) sc rfl gu hr (fun i y f h => by simp at h) (fun i y f h => by simp at h) (fun y hy => by simp at hy; rw [hy]; exact bs) (obNil rfl rfl rfl rfl rfl) rfl rfl (.off rfl) fun h => by cases h
  have go := soundBp (q := p) takeB rfl rfl X ck (takeW (K := { nx := fun _ => False, rt := fun t ρ => ∃ v x' y' z', t = .leaf (.int v) ∧ 0 ≤ v ∧ v < m ∧ BagN x' y' z' ns ∧ ρ.at 0 = some (bagT x' y' z' ns) }) b4 hm.1 hm.2 fun v x' y' z' ρ h1 h2 h3 h4 => ⟨v, x', y', z', rfl, h1, h2, h3, h4⟩)
  refine ⟨_, (PSs.nox (pb_W (X := (cxOf CX0 P w K mg base takeN qual (defScope st) fa cdv A outer s H E).nox))), go (L2.start takeN [.ref p, .int m]) H _ ⟨F, [p], [], ⟨sub, Gw.refl _ _ _, fun b hb => ⟨.inr hb, bag.there (.inr (hid_none (a := ⟨K, some p, cls⟩) hb))⟩, bag_none (a := ⟨K, some p, cls⟩) bag bag.no, ?_, by simp only [OwL]; exact ⟨trivial, trivial⟩, by simp, fun b hb => ?_, rfl, by simp, by simp⟩⟩ rfl ⟨fun ρ σ H' hq ok => hq.elim, fun t v ρ σ H' hq ok pn => ?_⟩⟩
  · have hc : Is ⟨K, none, cls⟩ F (.lst (ns.map .int)) (.ref cc) := by
      simp only [Is]
      exact ⟨cc, _, rfl, b3, IsL.ints.mpr rfl⟩
    have hl : OwL ⟨K, none, cls⟩ F H [.leaf (.int xx), .leaf (.int yy), .leaf (.int zz), .leaf (.lst (ns.map .int))] [.int xx, .int yy, .int zz, .ref cc] [] := by
      refine ⟨_, _, [], [], rfl, ⟨rfl, by simp only [Is]⟩, ⟨_, _, [], [], rfl, ⟨rfl, by simp only [Is]⟩, ⟨_, _, [], [], rfl, ⟨rfl, by simp only [Is]⟩, ⟨_, _, [], [], rfl, ⟨rfl, hc⟩, ⟨rfl, rfl⟩, rfl⟩, rfl⟩, rfl⟩, rfl⟩
    exact ⟨.ref p, [p], [], ⟨rfl, rfl⟩, ⟨rfl, p, _, [], rfl, b2, hl, rfl⟩, ⟨.int m, [], [], ⟨rfl, rfl⟩, ⟨rfl, by simp only [Is]⟩, rfl, rfl⟩, rfl⟩
  · obtain rfl : b = p := by simpa using hb
    exact ⟨b1, bag.nt rfl, .inl (.inl rfl)⟩
  · obtain ⟨v', x', y', z', rfl, h1, h2, h3, h4⟩ := hq
    obtain ⟨F', Sc, Sm, w'⟩ := ok
    have i1 := SOk.top ⟨F', Sc, Sm, w'⟩
    obtain ⟨v2, S1, e1, o1, ms, _⟩ := w'.cells.get h4
    rw [show σ[0]? = some (some (.ref p)) from pn] at e1
    cases e1
    simp only [T.dat, Is] at i1
    subst i1
    simp only [Ow, bagT, OwL] at o1
    obtain ⟨_, p', vs', S', e0, hp', ⟨_, _, _, _, rfl, ⟨_, q1⟩, ⟨_, _, _, _, rfl, ⟨_, q2⟩, ⟨_, _, _, _, rfl, ⟨_, q3⟩, ⟨_, _, _, _, rfl, ⟨_, q4⟩, ⟨rfl, _⟩, _⟩, _⟩, _⟩, _⟩, rfl⟩ := o1
    cases e0
    simp only [Is] at q1 q2 q3 q4
    subst q1 q2 q3
    obtain ⟨c', vs2, rfl, q5, q6⟩ := q4
    rw [IsL.ints.mp q6] at q5
    obtain ⟨f1, _, _⟩ := w'.fr p (List.mem_append_left _ (ms p List.mem_cons_self))
    refine q v' h1 h2 F' H' _ [] w'.sub ⟨w'.gw.ff, fun p2 o2 hp2 e2 => w'.gw.hh p2 o2 (fun z => hp2 (z.elim (fun e => .inl (by rw [e])) fun y => .inr (hid_none (a := ⟨K, some p, cls⟩) y))) e2, w'.gw.nn, w'.gw.th⟩ ⟨fun b hb => ?_, fun b hb => ?_, fun p' q' e => w'.bag.tab p' q' e⟩ (by simp only [Ow, Is]; exact ⟨trivial, trivial⟩) (by simp) (by simp)
    · rcases hb with hb | hb
      · cases hb; exact f1
      · exact w'.bag.no b (.inr hb)
    · cases hb
      exact ⟨x', y', z', c', ns, hp', q5, h3⟩
theorem fnBag (Fu : L2.Fun K x qual st fa fd) (sc : FnScope bagNm ["_law_script"] (defScope st)) (ck : okB { toCt := ⟨bagNm, defScope st, defScope st⟩, fn := [], gl := [], bs := ["abs"] } bagB (defBody st) = true) (bs : mg "abs" = none) :
    FnG P w K mg base CX0 (k + 1) fa fd ["_law_script"] (spD K cls bagF) :=
  fnD (c := { toCt := ⟨bagNm, defScope st, defScope st⟩, fn := [], gl := [], bs := ["abs"] }) (S := { z := true, fs := [], gs := [] }) Fu sc rfl ck (fun i y f h => by simp at h) (fun i y f h => by simp at h) (fun y hy => by simp at hy; rw [hy]; exact bs) fun ds Φ h => by
    obtain ⟨ns, rfl, l, q⟩ := h
    exact ⟨rfl, bagW rfl l fun ms ρ h => q ms h⟩
noncomputable def spLaw (K : PySem.W.Frag) : Sp := fun vs H Q _ => ∃ (a : Addr) (ns : List Int), vs = [.ref a] ∧ SqL K H a (ns.map V.int) ∧ ns.length ≤ 63 ∧ ∀ H', Q (.bl true) H'
theorem fnLawS {kb : Nat} {sp : Sp} (hsp : ∀ vs H Q E, sp vs H Q E → spLaw K vs H Q E ∧ ∀ p q, An.tb ⟨K, none, cls⟩ p q → LamX.TabS H p q) (Fu : L2.Fun K x qual st fa fd) (sc : FnScope N ["_law_script"] (defScope st)) (hN : 2 ≤ N.length) (hc : c.toCt = ⟨N, defScope st, defScope st⟩) (ck : okB c (.asg (.nm 1) (.call kb (.cons (.nm 0) .nil)) b) (defBody st) = true)
    (fns : ∀ (i : Nat) y f, c.fn[i]? = some y → S.fs[i]? = some f → FnB P w K mg base cls k y f)
    (gls : ∀ (i : Nat) y d, c.gl[i]? = some y → S.gs[i]? = some d → ∃ v u, mg y = some u ∧ RelV v u ∧ ∀ (a : An) F, a.K = K → Is a F d v)
    (bs : ∀ y ∈ c.bs, mg y = none) (hkb : S.fs[kb]? = some bagF)
    (h : ∀ ns : List Int, ns.length ≤ 63 → wb S b (some (.leaf (.scr ns)) :: some (.leaf .bag) :: List.replicate (N.length - 2) none) { nx := fun _ => False, rt := fun t _ => t = .leaf (.bl true) }) (ob : ObB P w K mg base cls k c S := by exact obNil rfl rfl rfl rfl rfl) (nx : c.off = true := by rfl) :
    FnG P w K mg base CX0 (k + 1) fa fd ["_law_script"] sp := by
  obtain ⟨oc, od, kV, doc, pm, an, cdv, ct, osl, rfl, lk, hcd⟩ := Fu.ex
  refine fn_G lk hcd sc (fun vs H Q E hs => ?_) fun A outer s H vs Q E gu hr hs => ?_
  · obtain ⟨⟨a, ns, rfl, _⟩, _⟩ := hsp _ _ _ _ hs; rfl
  obtain ⟨⟨a0, ns, rfl, hS, hl, q⟩, hT⟩ := hsp _ _ _ _ hs
  simp only [okB] at ck
  split at ck
  rotate_left
  · cases ck
  rename_i tg v pos rest heq
  rw [heq]
  simp only [Bool.and_eq_true] at ck
  obtain ⟨⟨⟨⟨k1, k2⟩, k3⟩, k4⟩, k5⟩ := ck
  have X := goodB (a := ⟨⟨K, none, cls⟩, An.hid ⟨K, none, cls⟩, hb ⟨K, none, cls⟩ H, H, [], []⟩) (E := E) (H := H) (outer := outer) (cdv := cdv) (qual := qual) (fa := fa) sc hc gu hr fns gls bs ob rfl rfl (.off nx) fun _ p hp => hp
  refine ⟨_, PSs.nox (pss_cons (ps_W (X := (cxOf CX0 P w K mg base N qual (defScope st) fa cdv A outer s H E).nox)) (pb_W (X := (cxOf CX0 P w K mg base N qual (defScope st) fa cdv A outer s H E).nox))), ?_⟩
  have rep : List.replicate (N.length - 1) (none : Option T) = none :: List.replicate (N.length - 2) none := by
    rw [show N.length - 1 = (N.length - 2) + 1 from by omega, List.replicate_succ]
  have hbH : ∀ p o, H p = some o → (∀ ps, o ≠ .tbl ps) → hb ⟨K, none, cls⟩ H p = some o := fun p o e n => by
    unfold hb
    rw [if_neg fun z => ?_]
    · exact e
    · obtain ⟨q, z⟩ := hid_none (a := ⟨K, none, cls⟩) z
      obtain ⟨ps, e1, _⟩ := hT p q z
      rw [e] at e1
      cases e1
      exact n ps rfl
  have sv : Is ⟨K, none, cls⟩ (hb ⟨K, none, cls⟩ H) (.scr ns) (.ref a0) := by
    simp only [Is]
    refine ⟨a0, rfl, ?_⟩
    rcases hS with (h | ⟨o, h⟩) | h
    · exact .inl (.inl (hbH _ _ h fun ps z => nomatch z))
    · exact .inl (.inr ⟨o, hbH _ _ h fun ps z => nomatch z⟩)
    · exact .inr h
  have lenS : ∀ r : List (Option T), r.length = N.length - 2 → (some (T.leaf (.scr ns)) :: none :: r).length = (L2.start N [V.ref a0]).length := fun r hr => by
    unfold L2.start; simp [hr]; omega
  have go := ds_asgG (K := { nx := fun ρ' => ∃ ms : List Int, (∀ n ∈ ms, 0 ≤ n) ∧ ρ' = some (.leaf (.scr ns)) :: some (bag0 ms) :: List.replicate (N.length - 2) none, rt := fun _ _ => False }) (ρ := some (.leaf (.scr ns)) :: none :: List.replicate (N.length - 2) none) (pos := pos) X.xo X.co k1 (noswap1 k2) (nopar2 X.co k3)
    (soundE (.call kb (.cons (.nm 0) .nil)) X k4 (w_call hkb (wv_cons (w_nm rfl (wv_nil (fz_cons (fz_leaf rfl (fz_nil ⟨ns, rfl, hl, fun ms hms => fin_lst rfl (bind_nm rfl ⟨ms, hms, rfl⟩)⟩))))))))
  refine go (L2.start N [.ref a0]) H _ ⟨hb ⟨K, none, cls⟩ H, [], [], ⟨hb_sub _ _, Gw.refl _ _ _, fun b hb' => ⟨hb', ?_⟩, ⟨hb_none, (fun b hb' => nomatch hb'), fun p q e => hT p q e⟩, ?_, by simp only [OwL]; exact ⟨trivial, trivial⟩, by simp, by simp, lenS _ (by simp), by simp, by simp⟩⟩ ⟨fun ρ σ H1 hq ok => ?_, fun _ _ _ _ _ hq => hq.elim, fun _ _ _ hq => hq.elim, fun _ _ _ hq => hq.elim⟩
  · obtain ⟨q', z⟩ := hid_none (a := ⟨K, none, cls⟩) hb'
    obtain ⟨ps, e1, _⟩ := hT b q' z
    show H b ≠ none
    rw [e1]; simp
  · unfold L2.start
    simp only [OwC]
    exact ⟨.ref a0, [], [], ⟨rfl, rfl⟩, by simp only [Ow]; exact ⟨trivial, sv⟩, owc_none _ _, rfl⟩
  · obtain ⟨ms, hms, rfl⟩ := hq
    obtain ⟨F, Sc, Sm, w1⟩ := ok
    have cells := w1.cells
    simp only [OwC, Ow, OwL, bag0] at cells
    obtain ⟨v0, _, _, ⟨e0, _⟩, ⟨rfl, i0⟩, ⟨v1, S1, S2, ⟨e1, _⟩, ⟨nn, p, vs', S', rfl, hp, ⟨_, _, _, _, rfl, ⟨rfl, q1⟩, ⟨_, _, _, _, rfl, ⟨rfl, q2⟩, ⟨_, _, _, _, rfl, ⟨rfl, q3⟩, ⟨_, _, S3, S4, rfl, ⟨_, cc, vs3, S5, rfl, hcc, o5, rfl⟩, ⟨rfl, rfl⟩, rfl⟩, rfl⟩, rfl⟩, rfl⟩, rfl⟩, o2, rfl⟩, rfl⟩ := cells
    have o2' := owc_none_inv o2
    subst o2'
    obtain ⟨e5, i5⟩ := OwL.plain (by simp [T.plain]) o5
    subst e5
    have ed : T.dats (ms.map fun n => .leaf (.int n)) = ms.map D.int := by
      rw [T.dats_eq, List.map_map]; rfl
    rw [ed] at i5
    have i6 := IsL.ints.mp i5
    subst i6
    have nd := w1.nd
    have pc : p ≠ cc := by
      have := (List.nodup_append.mp nd).1
      simp at this
      exact this
    obtain ⟨fp, _, _⟩ := w1.fr p (by simp)
    obtain ⟨fc, _, _⟩ := w1.fr cc (by simp)
    have sF : Sub F (fun q => if q = cc then H1 q else F q) := fun q o e => by
      show (if q = cc then H1 q else F q) = some o
      rw [if_neg fun z => by rw [z, fc] at e; cases e]
      exact e
    have bg2 : BagOk ⟨K, some p, cls⟩ (fun q => if q = cc then H1 q else F q) H1 := by
      refine ⟨fun b hb => ?_, fun b hb => ?_, fun p' q' e => w1.bag.tab p' q' e⟩
      · rcases hb with hb | hb
        · cases hb
          exact (if_neg pc).trans fp
        · refine (if_neg fun z => ?_).trans (w1.bag.no b (.inr hb))
          obtain ⟨q', hb⟩ := hb
          obtain ⟨ps, e1, _⟩ := w1.bag.tab b q' hb
          rw [z, hcc] at e1; cases e1
      · cases hb
        exact ⟨0, 1234567891, 0, cc, ms, by rw [hp]; simp only [Is] at q1 q2 q3; rw [q1, q2, q3], (if_pos rfl).trans hcc, by decide, by decide, by decide, by decide, hms⟩
    have X2 := goodB (a := ⟨⟨K, some p, cls⟩, An.hid ⟨K, some p, cls⟩, fun q => if q = cc then H1 q else F q, H1, [], []⟩) (E := E) (H := H) (outer := outer) (cdv := cdv) (qual := qual) (fa := fa) sc hc gu hr fns gls bs ob rfl rfl (.off nx) fun _ p hp => hp
    refine soundB b rfl X2 k5 (h ns hl) σ H1 _ ⟨fun q => if q = cc then H1 q else F q, [], [], ⟨fun q o e => ?_, Gw.refl _ _ _, fun b hb => ⟨hb, BagOk.there bg2 hb⟩, bg2, ?_, by simp only [OwL]; exact ⟨trivial, trivial⟩, by simp, by simp, w1.len, by simp, by simp⟩⟩ ⟨fun _ _ _ hq => hq.elim, fun t v ρ σ H2 hq ok => ?_, fun _ _ _ hq => hq.elim, fun _ _ _ hq => hq.elim⟩
    · have e : (if q = cc then H1 q else F q) = some o := e
      by_cases z : q = cc
      · rwa [if_pos z] at e
      · rw [if_neg z] at e
        exact w1.sub q o e
    · simp only [OwC, Ow]
      refine ⟨v0, [], [], ⟨e0, rfl⟩, ⟨rfl, ?_⟩, ⟨.ref p, [], [], ⟨e1, rfl⟩, ⟨rfl, ?_⟩, owc_none _ _, rfl⟩, rfl⟩
      · simp only [Is] at i0 ⊢
        obtain ⟨p0, e, h0⟩ := i0
        exact ⟨p0, e, sub_l sF h0⟩
      · simp only [Is]
        exact ⟨p, rfl, rfl⟩
    · subst hq
      obtain ⟨F2, Sc2, Sm2, w2⟩ := ok
      have i1 := SOk.top ⟨F2, Sc2, Sm2, w2⟩
      simp only [T.dat, Is] at i1
      rw [i1]
      exact q H2
theorem fnLaw {kb : Nat} (Fu : L2.Fun K x qual st fa fd) (sc : FnScope N ["_law_script"] (defScope st)) (hN : 2 ≤ N.length) (hc : c.toCt = ⟨N, defScope st, defScope st⟩) (ck : okB c (.asg (.nm 1) (.call kb (.cons (.nm 0) .nil)) b) (defBody st) = true)
    (fns : ∀ (i : Nat) y f, c.fn[i]? = some y → S.fs[i]? = some f → FnB P w K mg base cls k y f)
    (gls : ∀ (i : Nat) y d, c.gl[i]? = some y → S.gs[i]? = some d → ∃ v u, mg y = some u ∧ RelV v u ∧ ∀ (a : An) F, a.K = K → Is a F d v)
    (bs : ∀ y ∈ c.bs, mg y = none) (hkb : S.fs[kb]? = some bagF)
    (h : ∀ ns : List Int, ns.length ≤ 63 → wb S b (some (.leaf (.scr ns)) :: some (.leaf .bag) :: List.replicate (N.length - 2) none) { nx := fun _ => False, rt := fun t _ => t = .leaf (.bl true) }) (ob : ObB P w K mg base cls k c S := by exact obNil rfl rfl rfl rfl rfl) (nx : c.off = true := by rfl)
    (nt : ∀ i, cls (1000 + i) = none := by intro i; simp; try omega) :
    FnG P w K mg base CX0 (k + 1) fa fd ["_law_script"] (spLaw K) :=
  fnLawS (sp := spLaw K) (fun _ _ _ _ h => ⟨h, fun p q ⟨i, e⟩ => by rw [show (An.mk K none cls).cls (1000 + i) = none from nt i] at e; cases e⟩) Fu sc hN hc ck fns gls bs hkb h ob nx
theorem fns_nil {fs : List SpecF} : ∀ (i : Nat) y f, ([] : List Str)[i]? = some y → fs[i]? = some f → FnB P w K mg base cls k y f := fun i y f h => by simp at h
theorem fns_cons {x : Str} {g : SpecF} {ys : List Str} {fs : List SpecF} (h : FnB P w K mg base cls k x g) (r : ∀ (i : Nat) y f, ys[i]? = some y → fs[i]? = some f → FnB P w K mg base cls k y f) :
    ∀ (i : Nat) y f, (x :: ys)[i]? = some y → (g :: fs)[i]? = some f → FnB P w K mg base cls k y f
  | 0, y, f, h1, h2 => by
    simp only [List.getElem?_cons_zero, Option.some.injEq] at h1 h2
    rw [← h1, ← h2]; exact h
  | i + 1, y, f, h1, h2 => r i y f (by simpa using h1) (by simpa using h2)
theorem bs_nil : ∀ y ∈ ([] : List Str), mg y = none := fun y h => by simp at h
theorem bs_cons {x : Str} {ys : List Str} (h : mg x = none) (r : ∀ y ∈ ys, mg y = none) : ∀ y ∈ x :: ys, mg y = none := fun y hy => (List.mem_cons.mp hy).elim (fun e => by rw [e]; exact h) (r y)
theorem gls_nil {gs : List D} : ∀ (i : Nat) y d, ([] : List Str)[i]? = some y → gs[i]? = some d → ∃ v u, mg y = some u ∧ RelV v u ∧ ∀ (a : An) F, a.K = K → Is a F d v := fun i y d h => by simp at h
end
noncomputable def sameF : SpecF := fun ds Φ => ∃ d, ds = [d, d] ∧ d.Shw ∧ Φ (.leaf (.bl true))
theorem sameF_mono : Mono sameF := fun ds Φ Ψ i ⟨d, e, s, h⟩ => ⟨d, e, s, i _ h⟩
noncomputable def alikeB : B := .ret (.and (.cmp .eq (.nm 0) (.nm 1)) (.one (.cmp .eq (.blt .repr (.cons (.nm 0) .nil)) (.blt .repr (.cons (.nm 1) .nil))))) .nil
theorem sameW {S : Sg} {d : D} {Φ : T → Prop} {K : EnD} (s : d.Shw) (h : ∀ ρ, K.rt (.leaf (.bl true)) ρ) : wb S alikeB [some (.leaf d), some (.leaf d)] K := by
  unfold alikeB
  refine wb_ret (w_and (w_cmp (w_nm rfl (w_nm rfl (c_eqd s.1 s.1 (ex_bl rfl ?_))))))
  rw [show eqD (T.leaf d).dat (T.leaf d).dat = true from eqD_refl s.1.1]
  refine ite_t (w_one (w_cmp (w_blt (wv_cons (w_nm rfl (wv_nil (l_repr rfl s (w_blt (wv_cons (w_nm rfl (wv_nil (l_repr rfl s (c_eqs rfl rfl ?_)))))))))))))
  rw [decide_eq_true rfl]
  exact fin_leaf rfl (h _)
end DL
namespace DL
open PySem PySem.Spec PyProof.Rows L2

noncomputable def itup (xs : List Int) : D := .tup (xs.map .int)
section
variable {S : Sg} {ρ ρ' : Env} {Φ : T → Prop} {t u : T} {us xs ys : List T} {ds d1 d2 : List D} {ns : List Int}
theorem b_cat (h1 : t.dat = .lst d1) (h2 : u.dat = .lst d2) (e1 : t.its = some xs) (e2 : u.its = some ys) (l : xs.length + ys.length ≤ 100000) (k : Φ (.lst (xs ++ ys))) : binT .add t u Φ := by
  simp only [binT, h1, h2]
  exact ⟨xs, ys, e1, e2, l, k⟩
theorem bind_pair {p : Env → Prop} {i j : Nat} {v : T} (h : t.prt = some [u, v]) (hi : Nat.blt i ρ.length = true) (hj : Nat.blt j ρ.length = true) (k : p ((ρ.put i (some u)).put j (some v))) : ∃ ρ', bindG (.cons (.nm i) (.cons (.nm j) .nil)) t ρ = some ρ' ∧ p ρ' := by
  refine ⟨_, ?_, k⟩
  have hi := Nat.le_of_ble_eq_true hi
  have hj := Nat.le_of_ble_eq_true hj
  have l : j < (ρ.put i (some u)).length := by rw [Env.put_length]; exact hj
  simp only [bindG, h, bindL]
  rw [if_pos (show i < ρ.length from hi)]
  simp only [Option.bind_some]
  simp only [bindL, bindG]
  rw [if_pos l]
  simp only [Option.bind_some, bindL]
theorem and_len {us : List T} {p : Prop} (h : Nat.ble us.length 100000 = true) (k : p) : us.length ≤ 100000 ∧ p := ⟨Nat.le_of_ble_eq_true h, k⟩
theorem fin_mk (h : us.all T.plain = true) (k : Φ (.leaf (.tup (T.dats us)))) : (T.mk us).fin Φ := by
  unfold T.mk
  rw [if_pos h]
  exact k
end
theorem t_bl {t : T} {b : Bool} {Ψ : Bool → Prop} (h : t = .leaf (.bl b)) (k : Ψ b) : tru t Ψ := by subst h; exact ⟨b, rfl, k⟩
theorem ite_nt {A B : Prop} (h : B) : if (!true) = true then A else B := by rw [if_neg (by decide)]; exact h
theorem at_ints {xs : List Int} {k : Nat} (hk : k < xs.length) : atI (xs.map D.int) (k : Int) = some (.int xs[k]) := by
  unfold L2.atI L2.ixN
  rw [if_pos (by omega), List.length_map, if_pos (by omega)]
  simp [hk]
section
variable {S : Sg} {ρ ρ' : Env} {Φ : T → Prop} {Ψ : Bool → Prop} {t u v : T} {us xs ys : List T} {ds : List D} {x1 x2 : D} {b : Bool} {n m k : Int}
theorem c_inT (h2 : x2 = .tup ds) (h : (x1.flat && ds.all D.flat) = true) (e : memD x1 ds = b) (k : Ψ b) : cmpD .inn x1 x2 Ψ := by
  subst h2
  rw [Bool.and_eq_true] at h
  have r : x1.flat = true ∧ ds.all D.flat = true ∧ Ψ (memD x1 ds) := ⟨h.1, h.2, by rw [e]; exact k⟩
  cases x1 <;> exact r
theorem c_isN (e : x1.isNon = b) (k : Ψ b) : cmpD .isN x1 .non Ψ := by
  show Ψ x1.isNon
  rw [e]; exact k
theorem c_notN (e : (!x1.isNon) = b) (k : Ψ b) : cmpD .notN x1 .non Ψ := by
  show Ψ (!x1.isNon)
  rw [e]; exact k
theorem b_catU (h1 : t.dat = .tup ds) {es : List D} (h2 : u.dat = .tup es) (e1 : t.prt = some xs) (e2 : u.prt = some ys) (l : xs.length + ys.length ≤ 100000) (k : Φ (T.mk (xs ++ ys))) : binT .add t u Φ := by
  simp only [binT, h1, h2]
  exact ⟨xs, ys, e1, e2, l, k⟩
theorem l_max3 (h1 : t.dat = .int n) (h2 : u.dat = .int m) (h3 : v.dat = .int k) (q : Φ (.leaf (.int (if (if n < m then m else n) < k then k else if n < m then m else n)))) : bltT .max [t, u, v] Φ := by
  simp only [bltT, T.dats, h1, h2, h3, bltD]
  exact q
theorem l_intb (h1 : t.dat = .bl b) (q : Φ (.leaf (.int (if b then 1 else 0)))) : bltT .int [t] Φ := by
  simp only [bltT, T.dats, h1, bltD]
  exact q
theorem sl_prt {lo hi : Option Int} (h : t.prt = some us) (k : Φ (T.mk (cutL us lo hi))) : slT t lo hi Φ := .inr (.inl ⟨us, h, k⟩)
theorem sl_its {lo hi : Option Int} (h : t.its = some us) (k : Φ (.lst (cutL us lo hi))) : slT t lo hi Φ := .inl ⟨us, h, k⟩
end
end DL
namespace DL
open PySem PySem.Spec PyProof.Rows L2

noncomputable def putL : List Nat → List T → Env → Env
  | i :: is, u :: us, ρ => putL is us (ρ.put i (some u))
  | _, _, ρ => ρ
noncomputable def tgL : List Nat → Tg
  | [] => .nil
  | i :: is => .cons (.nm i) (tgL is)
theorem bindL_tg : ∀ (is : List Nat) (us : List T) (ρ : Env), is.length = us.length → (∀ i ∈ is, i < ρ.length) → bindL (tgL is) us ρ = some (putL is us ρ)
  | [], [], ρ, _, _ => by simp [tgL, bindL, putL]
  | i :: is, u :: us, ρ, l, h => by
    have h0 := h i List.mem_cons_self
    simp only [tgL, bindL, bindG, putL, if_pos h0, Option.bind_some]
    exact bindL_tg is us _ (by simpa using l) fun j hj => by rw [Env.put_length]; exact h j (List.mem_cons_of_mem _ hj)
  | [], _ :: _, _, l, _ => by simp at l
  | _ :: _, [], _, l, _ => by simp at l
theorem bind_tg {p : Env → Prop} {t : T} {ρ : Env} {is : List Nat} {us : List T} (h : t.prt = some us) (l : is.length = us.length) (hi : ∀ i ∈ is, i < ρ.length) (k : p (putL is us ρ)) : ∃ ρ', bindG (tgL is) t ρ = some ρ' ∧ p ρ' := by
  refine ⟨_, ?_, k⟩
  have e := bindL_tg is us ρ l hi
  cases is with
  | nil => cases us with
    | nil => simp only [tgL, bindG, h]; exact e
    | cons _ _ => simp at l
  | cons i is => cases us with
    | nil => simp at l
    | cons u us => simp only [tgL, bindL] at e; rw [← e]; simp only [tgL]; conv => { lhs; unfold bindG }; simp only [h]
section
variable {S : Sg} {ρ ρ' : Env} {Φ : T → Prop} {Ψ : Bool → Prop} {t u v : T} {us xs ys : List T} {ds es : List D} {x1 x2 : D} {b : Bool} {n m k : Int}
theorem bind_5 {p : Env → Prop} {a b c d e : T} {i j k l m : Nat} (h : t.prt = some [a, b, c, d, e]) (hi : [i, j, k, l, m].all (fun x => Nat.blt x ρ.length) = true) (q : p (putL [i, j, k, l, m] [a, b, c, d, e] ρ)) :
    ∃ ρ', bindG (.cons (.nm i) (.cons (.nm j) (.cons (.nm k) (.cons (.nm l) (.cons (.nm m) .nil))))) t ρ = some ρ' ∧ p ρ' :=
  bind_tg (is := [i, j, k, l, m]) h rfl (fun x hx => Nat.le_of_ble_eq_true (List.all_eq_true.mp hi x hx)) q
theorem ite_decT {p : Prop} [dp : Decidable p] {A B : Prop} (h : p) (k : A) : if decide p = true then A else B := by rw [if_pos (decide_eq_true h)]; exact k
theorem ite_decF {p : Prop} [dp : Decidable p] {A B : Prop} (h : ¬p) (k : B) : if decide p = true then A else B := by rw [if_neg (by simp [h])]; exact k
theorem ite_nf {A B : Prop} (h : A) : if (!false) = true then A else B := by rw [if_pos (by decide)]; exact h
theorem c_isT (h2 : x2 = .non) (e : x1.isNon = true) (k : Ψ true) : cmpD .isN x1 x2 Ψ := by subst h2; exact c_isN e k
theorem c_isF (h2 : x2 = .non) (e : x1.isNon = false) (k : Ψ false) : cmpD .isN x1 x2 Ψ := by subst h2; exact c_isN e k
theorem c_notT (h2 : x2 = .non) (e : x1.isNon = false) (k : Ψ true) : cmpD .notN x1 x2 Ψ := by subst h2; exact c_notN (by rw [e]; rfl) k
theorem c_notF (h2 : x2 = .non) (e : x1.isNon = true) (k : Ψ false) : cmpD .notN x1 x2 Ψ := by subst h2; exact c_notN (by rw [e]; rfl) k
theorem b_p18 (h1 : t.dat = .int 10) (h2 : u.dat = .int 18) (q : Φ (.leaf (.int (10 ^ 18)))) : binT .pow t u Φ := b_pow h1 h2 (by decide) q
theorem b_p9 (h1 : t.dat = .int 10) (h2 : u.dat = .int 9) (q : Φ (.leaf (.int (10 ^ 9)))) : binT .pow t u Φ := b_pow h1 h2 (by decide) q
theorem b_p38 (h1 : t.dat = .int 10) (h2 : u.dat = .int 38) (q : Φ (.leaf (.int (10 ^ 38)))) : binT .pow t u Φ := b_pow h1 h2 (by decide) q
theorem b_p17 (h1 : t.dat = .int 10) (h2 : u.dat = .int 17) (q : Φ (.leaf (.int (10 ^ 17)))) : binT .pow t u Φ := b_pow h1 h2 (by decide) q
theorem b_p40 (h1 : t.dat = .int 10) (h2 : u.dat = .int 40) (q : Φ (.leaf (.int (10 ^ 40)))) : binT .pow t u Φ := b_pow h1 h2 (by decide) q
theorem b_p39 (h1 : t.dat = .int 10) (h2 : u.dat = .int 39) (q : Φ (.leaf (.int (10 ^ 39)))) : binT .pow t u Φ := b_pow h1 h2 (by decide) q
theorem b_p21 (h1 : t.dat = .int 10) (h2 : u.dat = .int 21) (q : Φ (.leaf (.int (10 ^ 21)))) : binT .pow t u Φ := b_pow h1 h2 (by decide) q
theorem b_p20 (h1 : t.dat = .int 10) (h2 : u.dat = .int 20) (q : Φ (.leaf (.int (10 ^ 20)))) : binT .pow t u Φ := b_pow h1 h2 (by decide) q
theorem b_p6 (h1 : t.dat = .int 10) (h2 : u.dat = .int 6) (q : Φ (.leaf (.int (10 ^ 6)))) : binT .pow t u Φ := b_pow h1 h2 (by decide) q
theorem c_nes {d1 d2 : D} {s1 s2 : Str} (h1 : d1 = .str s1) (h2 : d2 = .str s2) (k : Ψ (!decide (s1 = s2))) : cmpD .ne d1 d2 Ψ := by
  subst h1 h2
  exact .inl ⟨_, _, rfl, rfl, k⟩
/-- alike data are equal -/
theorem c_nesame {d1 d2 : D} (h : d1 = d2) (h2 : d1.Fit) (k : Ψ false) : cmpD .ne d1 d2 Ψ := by
  subst h
  refine .inr ⟨h2, h2, ?_⟩
  rw [eqD_refl h2.1]; exact k
theorem ite_ndecT {p : Prop} [dp : Decidable p] {A B : Prop} (h : p) (k : B) : if (!decide p) = true then A else B := by rw [if_neg (by simp [h])]; exact k
theorem ex_isT {p : Bool → Prop} {d : D} {ty : Ty} {b : Bool} (h : d.isT ty = some b) (k : p b) : ∃ b, d.isT ty = some b ∧ p b := ⟨b, h, k⟩
theorem ex_rg1 {p : Int → Prop} (h : t.dat = .int n) (h2 : RgS 0 n) (k : p n) : ∃ j, t.dat = .int j ∧ RgS 0 j ∧ p j := ⟨n, h, h2, k⟩
theorem ex_rg2 {p : Int → Int → Prop} (h : t.dat = .int n) (h2 : u.dat = .int m) (h3 : RgS n m) (k : p n m) : ∃ i j, t.dat = .int i ∧ u.dat = .int j ∧ RgS i j ∧ p i j := ⟨n, m, h, h2, h3, k⟩
theorem l_intT (h1 : t.dat = .bl true) (q : Φ (.leaf (.int 1))) : bltT .int [t] Φ := l_intb h1 q
theorem l_intF (h1 : t.dat = .bl false) (q : Φ (.leaf (.int 0))) : bltT .int [t] Φ := l_intb h1 q
theorem l_intD {p : Prop} [dp : Decidable p] (h1 : t.dat = .bl (decide p)) (q1 : p → Φ (.leaf (.int 1))) (q2 : ¬p → Φ (.leaf (.int 0))) : bltT .int [t] Φ := by
  by_cases h : p
  · exact l_intT (by rw [h1, decide_eq_true h]) (q1 h)
  · exact l_intF (by rw [h1]; simp [h]) (q2 h)
theorem l_all {bs : List Bool} (h : t.dat = .lst ds) (e : D.toBls ds = some bs) (k : Φ (.leaf (.bl (bs.all id)))) : bltT .all [t] Φ := by
  simp only [bltT, T.dats, h, bltD]
  exact ⟨bs, e, k⟩
theorem l_lens {ns : List Int} (h : t = .leaf (itup ns)) (k : Φ (.leaf (.int ns.length))) : bltT .len [t] Φ := by
  subst h
  refine l_lent (ds := ns.map .int) rfl ?_
  rw [List.length_map]; exact k
theorem at_getD {ns : List Int} {k : Nat} (hk : k < ns.length) : atI (ns.map D.int) (k : Int) = some (.int (ns.getD k 0)) := by
  rw [at_ints hk]; simp [hk]
theorem tb_stop : memD (.str "stop") [.str "tie", .str "bar"] = false := by decide +kernel
theorem tb_wish : memD (.str "wish") [.str "tie", .str "bar"] = false := by decide +kernel
theorem tb_bar : memD (.str "bar") [.str "tie", .str "bar"] = true := by decide +kernel
theorem tb_tie : memD (.str "tie") [.str "tie", .str "bar"] = true := by decide +kernel
theorem wt_stop : memD (.str "stop") [.str "wish", .str "tie"] = false := by decide +kernel
theorem wt_wish : memD (.str "wish") [.str "wish", .str "tie"] = true := by decide +kernel
theorem wt_bar : memD (.str "bar") [.str "wish", .str "tie"] = false := by decide +kernel
theorem wt_tie : memD (.str "tie") [.str "wish", .str "tie"] = true := by decide +kernel
theorem cut_map {α β : Type} (f : α → β) (xs : List α) (lo hi : Option Int) : cutL (xs.map f) lo hi = (cutL xs lo hi).map f := by
  simp only [cutL, List.length_map, List.map_take, List.map_drop]
theorem mk_leafs (ds : List D) : T.mk (ds.map .leaf) = .leaf (.tup ds) := by
  unfold T.mk
  rw [if_pos (by simp [T.plain]), T.dats_eq, List.map_map]
  congr 2
  exact (List.map_congr_left fun _ _ => rfl).trans (List.map_id _)
theorem sl_lt {lo hi : Option Int} (h : t = .leaf (.tup ds)) (e : cutL ds lo hi = es) (k : Φ (.leaf (.tup es))) : slT t lo hi Φ := by
  subst h
  refine sl_prt rfl ?_
  rw [cut_map, e, mk_leafs]; exact k
theorem b_catL (h1 : t = .leaf (.tup ds)) (h2 : u = .leaf (.tup es)) (l : Nat.ble (ds.length + es.length) 100000 = true) (k : Φ (.leaf (.tup (ds ++ es)))) : binT .add t u Φ := by
  subst h1 h2
  refine b_catU rfl rfl rfl rfl (by simpa using Nat.le_of_ble_eq_true l) ?_
  rw [← List.map_append, mk_leafs]; exact k
end
end DL
namespace DL
open PySem PySem.Spec PyProof.Rows L2

noncomputable def okStores (c : Cn) : List (Str × I) → List Stmt → Bool
  | [], s => match s with | [] => true | _ => false
  | (n, e) :: fs, s => match s with
    | .Assign [.Attribute (.Name y _) m _] v _ :: rest => nameIs c.toCt 0 y && c.vis y && plainName y && decide (m = n) && noComp v && okE c e v && okStores c fs rest
    | _ => false
noncomputable def okInit (c : Cn) : List I → List (Str × I) → List Stmt → Bool
  | [], fs, s => okStores c fs s
  | t :: ts, fs, s => match s with
    | .If q _ [] _ :: rest => okT c t q && okInit c ts fs rest
    | _ => false
noncomputable def storesW (S : Sg) : List (Str × I) → DL.Env → (List D → Prop) → Prop
  | [], _, k => k []
  | (_, e) :: r, ρ, k => w S e ρ fun t => t.froz S.z fun d => storesW S r ρ fun ds => k (d :: ds)
noncomputable def initW (S : Sg) : List I → List (Str × I) → DL.Env → (List D → Prop) → Prop
  | [], fs, ρ, k => storesW S fs ρ k
  | t :: ts, fs, ρ, k => wt S t ρ fun b => b = false ∧ initW S ts fs ρ k
theorem putF_new {n : Str} {v : V} : ∀ {fs : List (Str × V)}, (∀ p ∈ fs, p.1 ≠ n) → putF n v fs = fs ++ [(n, v)]
  | [], _ => rfl
  | (m, u) :: r, h => by
    have h0 := h (m, u) List.mem_cons_self
    show (if m = n then _ else _) = _
    rw [if_neg h0, putF_new fun p hp => h p (List.mem_cons_of_mem _ hp)]
    rfl
theorem zip_snoc : ∀ {ns : List Str} {vs : List V} {n : Str} {v : V}, ns.length = vs.length → ns.zip vs ++ [(n, v)] = (ns ++ [n]).zip (vs ++ [v])
  | [], [], _, _, _ => rfl
  | [], _ :: _, _, _, h => by simp at h
  | _ :: _, [], _, _, h => by simp at h
  | m :: ns, u :: vs, n, v, h => by
    rw [List.zip_cons_cons, List.cons_append, zip_snoc (by simpa using h)]; rfl
section
variable {K : PySem.W.Frag} {bg : Option Addr} {cls : Nat → Option (Addr × List Str)} {F0 H0 : Hp} {X : Cx} {c : Cn} {S : Sg} {C x dx : Addr} {D : Ends}
noncomputable abbrev anI (K : PySem.W.Frag) (bg : Option Addr) (cls : Nat → Option (Addr × List Str)) (F0 Hc : Hp) : An0 := ⟨⟨K, bg, cls⟩, An.hid ⟨K, bg, cls⟩, F0, Hc, [], []⟩
/-- a field is stored: the state as before, the object longer -/
theorem sw_stored {Hc H F : Hp} {Sc Sm : List Addr} {ρ : DL.Env} {σ : L2.St} {o' : HO} {C0 dx0 : Addr} {fs0 : List (Str × V)} (w : SW (anI K bg cls F0 Hc) ρ σ [] [] H F Sc Sm) (hx : Hc x = some (.ins C0 dx0 fs0)) (f0 : F0 x = none) (nb : ¬ An.hid ⟨K, bg, cls⟩ x) : SW (anI K bg cls F0 (upd Hc x o')) ρ σ [] [] (upd H x o') F Sc Sm := by
  have fx : F x = none := w.gw.nn x (by show Hc x ≠ none; rw [hx]; simp) f0
  have ne : ∀ p ∈ Sc ++ Sm, p ≠ x := fun p hp e => by
    obtain ⟨_, f2, f3⟩ := w.fr p hp
    rcases f3 with f3 | f3
    · exact nb (e ▸ f3)
    · have f3 : Hc p = none := f3
      rw [e, hx] at f3; cases f3
  have keep : ∀ p, p ≠ x → ∀ u, H p = some u → upd H x o' p = some u := fun p n u e => by rw [upd_ne n]; exact e
  have hk : ∀ p, p ≠ x → upd Hc x o' p = Hc p := fun p n => upd_ne n
  refine ⟨fun p u e => keep p (fun z => by rw [z, fx] at e; cases e) u (w.sub p u e), ⟨w.gw.ff, fun p u hp e => ?_, fun p h1 h2 => ?_, fun p h => ?_⟩, fun b e => ⟨(w.bagM b e).1, ?_⟩, w.bag.written (fun φ z => by rw [w.gw.hh x _ nb hx] at z; cases z) nb, OwC.mono' (Sub.refl F) w.cells fun p hp => keep p (ne p (List.mem_append_left _ hp)), by have := w.tmps; simpa only [OwL] using this, w.nd, fun p hp => ?_, w.len, by simp, by simp⟩
  · by_cases z : p = x
    · have e : upd Hc x o' p = some u := e
      rw [z, upd_same] at e ⊢; exact e
    · have e : upd Hc x o' p = some u := e
      rw [hk p z] at e; exact keep p z u (w.gw.hh p u hp e)
  · by_cases z : p = x
    · rw [z]; exact fx
    · exact w.gw.nn p (by have h1 : upd Hc x o' p ≠ none := h1; rw [hk p z] at h1; exact h1) h2
  · by_cases z : p = x
    · rw [z, upd_same]; simp
    · have h : upd Hc x o' p ≠ none := h
      rw [hk p z] at h
      rw [upd_ne z]
      exact w.gw.th p h
  · have z : b ≠ x := fun z => nb (by rw [← z]; exact e)
    show upd Hc x o' b ≠ none
    rw [hk b z]; exact (w.bagM b e).2
  · obtain ⟨f1, f2, f3⟩ := w.fr p hp
    refine ⟨f1, f2, f3.imp id fun f3 => ?_⟩
    show upd Hc x o' p = none
    rw [hk p (ne p hp)]; exact f3
theorem stores_go (gd : ∀ Hc, Good c S (anI K bg cls F0 Hc) X) (cl : Cls K C) (f0 : F0 x = none) (nb : ¬ An.hid ⟨K, bg, cls⟩ x) {P : List DL.D → Prop} {ns : List Str} (nd : ns.Nodup) (na : ∀ n ∈ ns, NoAttr K C n) (small : ns.length < 1000)
    (fin : ∀ (ds : List DL.D) (Hc H F : Hp) (Sc Sm : List Addr) (ρ : DL.Env) (σ : L2.St) (vs : List V), P ds → SW (anI K bg cls F0 Hc) ρ σ [] [] H F Sc Sm → Hc x = some (.ins C dx (ns.zip vs)) → vs.length = ns.length → IsL ⟨K, bg, cls⟩ F ds vs → (∀ p, p ≠ x → Hc p = H0 p) → D.nx σ H) :
    ∀ (fs : List (Str × I)) (s : List Stmt) (nsd : List Str) (vsd : List V) (dd : List DL.D) (Hc H F : Hp) (Sc Sm : List Addr) (ρ : DL.Env) (σ : L2.St), okStores c fs s = true → ns = nsd ++ fs.map (·.1) → SW (anI K bg cls F0 Hc) ρ σ [] [] H F Sc Sm → Hc x = some (.ins C dx (nsd.zip vsd)) → vsd.length = nsd.length →
      IsL ⟨K, bg, cls⟩ F dd vsd → (∀ p, p ≠ x → Hc p = H0 p) → σ[0]? = some (some (.ref x)) → storesW S fs ρ (fun ds => P (dd ++ ds)) → WB X s D σ H
  | [], s, nsd, vsd, dd, Hc, H, F, Sc, Sm, ρ, σ, ok, en, w, hx, l, il, hk, pn, h => by
    simp only [okStores] at ok
    split at ok
    · simp only [List.map_nil, List.append_nil] at en
      subst en
      simp only [storesW, List.append_nil] at h
      exact ⟨_, pss_nil, fin dd Hc H F Sc Sm ρ σ vsd h w hx l il hk⟩
    · cases ok
  | (n, e) :: fs, s, nsd, vsd, dd, Hc, H, F, Sc, Sm, ρ, σ, ok, en, w, hx, l, il, hk, pn, h => by
    simp only [okStores] at ok
    split at ok
    · simp only [Bool.and_eq_true, decide_eq_true_eq] at ok
      obtain ⟨⟨⟨⟨⟨⟨k1, k2⟩, k3⟩, k4⟩, k5⟩, k6⟩, k7⟩ := ok
      have k4 := k4.symm
      subst k4
      obtain ⟨q1, q2, _⟩ := plain_of k3
      have g := gd Hc
      have KX : X.K = K := g.xo.K
      refine ⟨_, pss_cons (ps_fld (pvar (nameIs_of g.co k1) (Ct.vis_of g.co k2) q1 q2) pe_W (noswap k5)) pb_W, ?_⟩
      show WE X _ σ H fun y H1 => tVar 0 σ H1 fun z H2 => _
      simp only [storesW] at h
      refine soundE e (g.onV (F := F)) k6 h σ H [] [] _ ⟨F, Sc, Sm, w.onV (Sub.refl F)⟩ fun y t H1 ht ok1 => ?_
      obtain ⟨F1, Sc1, Sm1, w1⟩ := ok1
      have s1 : Sub F F1 := w1.wif F List.mem_cons_self
      obtain ⟨F2, Sm2, s2, w2, iy, h⟩ := w1.offV.froz1 g.io ht
      have s2' : Sub F F2 := s1.trans s2
      have inM : ¬ (anI K bg cls F0 Hc).M x := nb
      have hx1 : H1 x = some (.ins C dx (nsd.zip vsd)) := w2.gw.hh x _ inM hx
      have hn : n ∈ ns := by rw [en]; simp
      have fresh : n ∉ nsd := fun z => by
        rw [en] at nd
        exact (List.nodup_append.mp nd).2.2 n z n (by simp) rfl
      have pf : putF n y (nsd.zip vsd) = (nsd ++ [n]).zip (vsd ++ [y]) := by
        rw [putF_new fun q hq e => fresh (by rw [← e]; exact (List.of_mem_zip hq).1), zip_snoc l.symm]
      refine ⟨.ref x, pn, x, C, dx, _, rfl, hx1, by rw [KX]; exact cl, by rw [KX]; exact na n hn, ?_, ?_⟩
      · rw [List.length_zip]
        have : nsd.length ≤ ns.length := by rw [en, List.length_append]; omega
        omega
      · rw [pf]
        show WB X _ D σ _
        refine stores_go gd cl f0 nb nd na small fin fs _ (nsd ++ [n]) (vsd ++ [y]) (dd ++ [t.dat]) _ _ F2 Sc1 Sm2 ρ σ k7 (by rw [en]; simp) (sw_stored w2 hx f0 nb) upd_same (by simp [l]) ((il.mono s2').append (by simp only [IsL]; exact ⟨y, [], rfl, iy, rfl⟩)) (fun p hp => by rw [upd_ne hp]; exact hk p hp) pn ?_
        have e2 : ∀ ds, (dd ++ [t.dat]) ++ ds = dd ++ t.dat :: ds := fun ds => by simp
        simp only [e2]
        exact h
    · cases ok
theorem init_go (gd : ∀ Hc, Good c S (anI K bg cls F0 Hc) X) (cl : Cls K C) (f0 : F0 x = none) (nb : ¬ An.hid ⟨K, bg, cls⟩ x) {P : List DL.D → Prop} {fs : List (Str × I)} (nd : (fs.map (·.1)).Nodup) (na : ∀ n ∈ fs.map (·.1), NoAttr K C n) (small : fs.length < 1000) (hx : H0 x = some (.ins C dx []))
    (fin : ∀ (ds : List DL.D) (Hc H F : Hp) (Sc Sm : List Addr) (ρ : DL.Env) (σ : L2.St) (vs : List V), P ds → SW (anI K bg cls F0 Hc) ρ σ [] [] H F Sc Sm → Hc x = some (.ins C dx ((fs.map (·.1)).zip vs)) → vs.length = (fs.map (·.1)).length → IsL ⟨K, bg, cls⟩ F ds vs → (∀ p, p ≠ x → Hc p = H0 p) → D.nx σ H) :
    ∀ (ts : List I) (s : List Stmt) (H : Hp) (ρ : DL.Env) (σ : L2.St), okInit c ts fs s = true → SOk (anI K bg cls F0 H0) ρ σ [] [] H → σ[0]? = some (some (.ref x)) → initW S ts fs ρ P → WB X s D σ H
  | [], s, H, ρ, σ, ok, sk, pn, h => by
    obtain ⟨F, Sc, Sm, w⟩ := sk
    simp only [okInit] at ok
    simp only [initW] at h
    exact stores_go gd cl f0 nb nd na (by simpa using small) fin fs s [] [] [] H0 H F Sc Sm ρ σ ok (by simp) w hx rfl (by simp only [IsL]) (fun _ _ => rfl) pn (by simpa using h)
  | t :: ts, s, H, ρ, σ, ok, sk, pn, h => by
    simp only [okInit] at ok
    simp only [initW] at h
    split at ok
    · simp only [Bool.and_eq_true] at ok
      refine ⟨_, pss_cons (ps_if pt_W pb_W pb_W) pb_W, ?_⟩
      rename_i q s1 pos rest
      show WT X q σ H fun b H1 => if b = true then WB X s1 { D with nx := WB X rest D } σ H1 else WB X [] { D with nx := WB X rest D } σ H1
      refine soundT t (gd H0) ok.1 h σ H [] [] _ sk fun b H1 ⟨e, h⟩ ok1 => ?_
      subst e
      rw [if_neg (by decide)]
      exact ⟨_, pss_nil, init_go gd cl f0 nb nd na small hx fin ts rest H1 ρ σ ok.2 ok1 pn h⟩
    · cases ok
end
section
variable {P : Program} {w : World} {K : PySem.W.Frag} {mg : Str → Option Value} {base : Heap} {cls : Nat → Option (Addr × List Str)} {k : Nat} {x qual : Str} {f : SpecF} {st : Stmt} {fa : Addr} {fd : FuncData} {N ps : List Str} {c : Cn} {S : Sg} {ts : List I} {fs : List (Str × I)} {cl : Nat}
theorem fnInit (Fu : L2.Fun K x qual st fa fd) (sc : FnScope N ps (defScope st)) (hc : c.toCt = ⟨N, defScope st, defScope st⟩) (ck : okInit c ts fs (defBody st) = true)
    (fns : ∀ (i : Nat) y f, c.fn[i]? = some y → S.fs[i]? = some f → FnB P w K mg base cls k y f)
    (gls : ∀ (i : Nat) y d, c.gl[i]? = some y → S.gs[i]? = some d → ∃ v u, mg y = some u ∧ RelV v u ∧ ∀ (a : An) F, a.K = K → Is a F d v)
    (bs : ∀ y ∈ c.bs, mg y = none) (hcl : ∀ C ns, cls cl = some (C, ns) → Cls K C ∧ ns = fs.map (·.1) ∧ ∀ n ∈ ns, NoAttr K C n) (nd : (fs.map (·.1)).Nodup) (small : fs.length < 1000) (hN : ps.length ≤ N.length)
    (h : ∀ ds Φ, f ds Φ → ds.length + 1 = ps.length ∧ initW S ts fs (none :: ((ds.map T.leaf).map some ++ List.replicate (N.length - (ds.length + 1)) none)) fun ds' => Φ (.leaf (.obj cl ds')))
    (ob : ObB P w K mg base cls k c S := by exact obNil rfl rfl rfl rfl rfl) (nx : c.off = true := by rfl) :
    FnG P w K mg base CX0 (k + 1) fa fd ps (spI K cls cl f) := by
  obtain ⟨oc, od, kV, doc, pm, an, cdv, ct, osl, rfl, lk, hcd⟩ := Fu.ex
  refine fn_G lk hcd sc (fun vs H Q E hs => ?_) fun A outer s H vs Q E gu hr hs => ?_
  · obtain ⟨bg, F, H0, ds, x, dx, C, ns, ws, rfl, _, _, _, _, _, _, _, il, q⟩ := hs
    rw [List.length_cons, isl_length il, (h _ _ q).1]
  obtain ⟨bg, F, H0, ds, x, dx, C, ns, ws, rfl, hC, n1, n2, ne, rfl, sub, bag, il, q⟩ := hs
  obtain ⟨l, q⟩ := h _ _ q
  obtain ⟨hcl, rfl, na⟩ := hcl C ns hC
  have vl := isl_length il
  have fx : ∀ p, H0 p = none → F p = none := fun p e => by
    cases z : F p with
    | none => rfl
    | some o => rw [sub p o z] at e; cases e
  have nb : ∀ b, An.hid ⟨K, bg, cls⟩ b → H0 b ≠ none := fun b hb => bag.there hb
  have old : ∀ p o, H0 p = some o → upd (upd H0 dx (.own x)) x (.ins C dx []) p = some o := fun p o e => by
    rw [upd_ne (fun z => by rw [z, n1] at e; cases e), upd_ne (fun z => by rw [z, n2] at e; cases e)]; exact e
  have nbx : ¬ An.hid ⟨K, bg, cls⟩ x := fun e => nb x e n1
  have X := fun Hc => goodB (c := c) (S := S) (a := anI K bg cls F Hc) (E := E) (H := upd (upd H0 dx (.own x)) x (.ins C dx [])) (outer := outer) (cdv := cdv) (qual := qual) (fa := fa) sc hc gu hr fns gls bs ob rfl rfl (.off nx) fun _ p hp => hp
  refine ⟨_, (PSs.nox (pb_W (X := (cxOf CX0 P w K mg base N qual (defScope st) fa cdv A outer s (upd (upd H0 dx (.own x)) x (.ins C dx [])) E).nox))), ?_⟩
  refine init_go (dx := dx) (H0 := upd (upd H0 dx (.own x)) x (.ins C dx [])) X hcl (fx x n1) nbx nd na small upd_same (fun ds' Hc H' F' Sc Sm ρ σ us hP w2 hx2 lu il2 hk => ?_) ts _ _ (none :: ((ds.map T.leaf).map some ++ List.replicate (N.length - (ds.length + 1)) none)) (start N (.ref x :: ws)) ck ⟨F, [], [], ⟨fun p o e => old p o (sub p o e), Gw.refl _ _ _, fun b hb => ⟨hb, ?_⟩, bag.mono (Sub.refl F) old bag.no, ?_, by simp only [OwL]; exact ⟨trivial, trivial⟩, by simp, by simp, ?_, by simp, by simp⟩⟩ rfl q
  · have inM : ¬ (anI K bg cls F Hc).M x := nbx
    have hx3 : H' x = some (.ins C dx ((fs.map (·.1)).zip us)) := w2.gw.hh x _ inM hx2
    have fx2 : F' x = none := w2.gw.nn x (by show Hc x ≠ none; rw [hx2]; simp) (fx x n1)
    have s2 : Sub F' (fun p => if p = x then H' x else F' p) := fun p o e => by
      show (if p = x then H' x else F' p) = some o
      rw [if_neg fun z => by rw [z, fx2] at e; cases e]; exact e
    have oldc : ∀ p o, H0 p = some o → Hc p = some o := fun p o e => by
      have z : p ≠ x := fun z => by rw [z, n1] at e; cases e
      rw [hk p z]; exact old p o e
    refine hP (fun p => if p = x then H' x else F' p) H' (fun p o e => ?_) ⟨w2.gw.ff.trans s2, fun p o hp e => w2.gw.hh p o hp (oldc p o e), fun p h1 h2 => ?_, fun p h1 => ?_⟩ (w2.bag.mono s2 (Sub.refl H') fun b hb => ?_) ?_
    · by_cases z : p = x
      · have e : (if p = x then H' x else F' p) = some o := e
        rw [if_pos z] at e; rw [z]; exact e
      · have e : (if p = x then H' x else F' p) = some o := e
        rw [if_neg z] at e; exact w2.sub p o e
    · show (if p = x then H' x else F' p) = none
      have z : p ≠ x := fun z => by rw [z] at h1; exact h1 n1
      rw [if_neg z]
      refine w2.gw.nn p ?_ h2
      cases e : H0 p with
      | none => exact absurd e h1
      | some o => show Hc p ≠ none; rw [oldc p o e]; simp
    · cases e : H0 p with
      | none => exact absurd e h1
      | some o => exact w2.gw.th p (by show Hc p ≠ none; rw [oldc p o e]; simp)
    · have z : b ≠ x := fun z => nbx (by rw [← z]; exact hb)
      show (if b = x then H' x else F' b) = none
      rw [if_neg z]
      exact w2.bag.no b hb
    · simp only [Ow, Is]
      exact ⟨trivial, x, C, fs.map (·.1), dx, us, rfl, hC, lu.symm, by show (if x = x then H' x else F' x) = _; rw [if_pos rfl]; exact hx3, IsL.mono s2 il2⟩
  · show upd (upd H0 dx (.own x)) x (.ins C dx []) b ≠ none
    cases e : H0 b with
    | none => exact absurd e (nb b hb)
    | some o => rw [old b o e]; simp
  · show OwC _ _ _ (none :: _) (start N (.ref x :: ws)) []
    simp only [OwC]
    unfold L2.start
    rw [List.map_cons, List.cons_append, List.tail_cons, List.length_cons, vl]
    exact owc_start il
  · unfold L2.start
    simp [vl]
end
section
variable (P : Program) (w : World) (K : PySem.W.Frag) (mg : Str → Option Value) (base : Heap) (cls : Nat → Option (Addr × List Str)) (k : Nat)
noncomputable def MtP (q : Nat × Str) (f : SpecF) : Prop := (∃ (C fa : Addr) (ns : List Str) (fd : FuncData) (ps : List Str), cls q.1 = some (C, ns) ∧ q.2 ∉ ns ∧ Cls K C ∧ Meth K C q.2 fa ∧ FnG P w K mg base CX0 k fa fd ps (spD K cls f) ∧ Binds K fd ps []) ∧ Mono f
noncomputable def PrP (q : Nat × Str) (f : SpecF) : Prop := (∃ (C fa p : Addr) (ns : List Str) (fd : FuncData) (j : Nat) (ps : List Str), j + 1 ≤ k ∧ cls q.1 = some (C, ns) ∧ Cls K C ∧ PropOf K C q.2 p fa ∧ FnG P w K mg base CX0 j fa fd ps (spD K cls f) ∧ Binds K fd ps []) ∧ Mono f
noncomputable def NwP (x : Str) (f : SpecF) : Prop := (∃ (C fa : Addr) (cl : Nat) (ns : List Str) (fd : FuncData) (j : Nat) (ps : List Str), j + 1 ≤ k ∧ cls cl = some (C, ns) ∧ Mk K C fa ∧ mg x = some (.ref C) ∧ FnG P w K mg base CX0 j fa fd ps (spI K cls cl f) ∧ Binds K fd ps []) ∧ Mono f
end
section
variable {P : Program} {w : World} {K : PySem.W.Frag} {mg : Str → Option Value} {base : Heap} {cls : Nat → Option (Addr × List Str)} {k j : Nat}
theorem MtP.mono {q : Nat × Str} {f : SpecF} (h : MtP P w K mg base cls j q f) (l : j ≤ k) : MtP P w K mg base cls k q f := ⟨h.1.elim fun C ⟨fa, ns, fd, ps, a, b, c, d, e, g⟩ => ⟨C, fa, ns, fd, ps, a, b, c, d, e.mono l, g⟩, h.2⟩
theorem PrP.mono {q : Nat × Str} {f : SpecF} (h : PrP P w K mg base cls j q f) (l : j ≤ k) : PrP P w K mg base cls k q f := ⟨h.1.elim fun C ⟨fa, p, ns, fd, i, ps, z, r⟩ => ⟨C, fa, p, ns, fd, i, ps, Nat.le_trans z l, r⟩, h.2⟩
theorem NwP.mono {x : Str} {f : SpecF} (h : NwP P w K mg base cls j x f) (l : j ≤ k) : NwP P w K mg base cls k x f := ⟨h.1.elim fun C ⟨fa, cl, ns, fd, i, ps, z, r⟩ => ⟨C, fa, cl, ns, fd, i, ps, Nat.le_trans z l, r⟩, h.2⟩
theorem pl_nil {α β : Type} {R : α → β → Prop} {fs : List β} : ∀ (i : Nat) q f, ([] : List α)[i]? = some q → fs[i]? = some f → R q f := fun i q f h => by simp at h
theorem pl_cons {α β : Type} {R : α → β → Prop} {x : α} {g : β} {ys : List α} {fs : List β} (h : R x g) (r : ∀ (i : Nat) q f, ys[i]? = some q → fs[i]? = some f → R q f) : ∀ (i : Nat) q f, (x :: ys)[i]? = some q → (g :: fs)[i]? = some f → R q f
  | 0, q, f, h1, h2 => by
    simp only [List.getElem?_cons_zero, Option.some.injEq] at h1 h2
    subst h1 h2; exact h
  | i + 1, q, f, h1, h2 => r i q f (by simpa using h1) (by simpa using h2)
theorem obMk {c : Cn} {S : Sg} (m : ∀ (i : Nat) q f, c.ms[i]? = some q → S.ms[i]? = some f → MtP P w K mg base cls k q f) (p : ∀ (i : Nat) q f, c.ps[i]? = some q → S.ps[i]? = some f → PrP P w K mg base cls k q f)
    (n : ∀ (i : Nat) q f, c.nw[i]? = some q → S.nw[i]? = some f → NwP P w K mg base cls k q f) (f : ∀ q ∈ c.fd, ∃ (C : Addr) (ns : List Str), cls q.1 = some (C, ns) ∧ ns[q.2.1]? = some q.2.2 ∧ ns.Nodup ∧ Cls K C ∧ NoAttr K C q.2.2) (ic : ∀ q ∈ c.ic, ∃ (C : Addr) (ns : List Str), cls q.1 = some (C, ns) ∧ mg q.2 = some (.ref C) ∧ C8.InsC K C) : ObB P w K mg base cls k c S := ⟨m, p, n, f, ic⟩
end
section
variable {S : Sg} {ρ ρ' : DL.Env} {Φ : T → Prop} {Ψ : Bool → Prop} {t u v : T} {us xs ys : List T} {ds es : List D} {x1 x2 : D} {b : Bool} {n m : Int} {ns : List Int}
theorem l_lentK (k : Nat) (h : t.dat = .tup ds) (e : Nat.beq ds.length k = true) (q : Φ (.leaf (.int k))) : bltT .len [t] Φ := by
  refine l_lent h ?_
  rw [Nat.eq_of_beq_eq_true e]; exact q
theorem c_ninT (h2 : x2 = .tup ds) (h : (x1.flat && ds.all D.flat) = true) (e : memD x1 ds = b) (k : Ψ (!b)) : cmpD .nin x1 x2 Ψ := by
  subst h2
  rw [Bool.and_eq_true] at h
  exact ⟨h.1, h.2, by rw [e]; exact k⟩
theorem w4_stop : memD (.str "stop") [.str "wish", .str "tie", .str "stop", .str "bar"] = true := by decide +kernel
theorem w4_wish : memD (.str "wish") [.str "wish", .str "tie", .str "stop", .str "bar"] = true := by decide +kernel
theorem w4_bar : memD (.str "bar") [.str "wish", .str "tie", .str "stop", .str "bar"] = true := by decide +kernel
theorem w4_tie : memD (.str "tie") [.str "wish", .str "tie", .str "stop", .str "bar"] = true := by decide +kernel
theorem enm_cons {k : Nat} {d : D} {r ds : List D} (e : d :: r = enumFrom k ds) : ∃ x rest, ds = x :: rest ∧ d = .tup [.int k, x] ∧ r = enumFrom (k + 1) rest := by
  cases ds with
  | nil => simp [enumFrom] at e
  | cons x rest =>
    simp only [enumFrom, List.cons.injEq] at e
    exact ⟨x, rest, rfl, e.1, e.2⟩
end
end DL
namespace DL
open PySem PySem.Spec PyProof.Rows L2
section
variable {a : An0} {X : Cx} {ρ : Env} {σ : L2.St} {ts : List T} {vs : List V} {H F : Hp} {Sc Sm : List Addr} {Φ : T → Prop} {pos : Pos} {i : Nat}
end
end DL
namespace DL
open PySem PySem.Spec PyProof.Rows L2
/-- frozen arguments, what the lent lists hold; then the answer and what they hold -/
noncomputable abbrev SpecW := List D → List (List D) → (D → List (List D) → Prop) → Prop
noncomputable def AtL (a : An) (F H : Hp) : List Addr → List (List D) → Prop
  | [], Ls => Ls = []
  | p :: ps, Ls => ∃ L r, Ls = L :: r ∧ (∃ vs, H p = some (.lst vs) ∧ IsL a F L vs) ∧ AtL a F H ps r
noncomputable def hidW (a : An) (As : List Addr) (p : Addr) : Prop := a.hid p ∨ p ∈ As
noncomputable def spW (K : PySem.W.Frag) (cls : Nat → Option (Addr × List Str)) (f : SpecW) : Sp := fun vs H Q _ => ∃ (bg : Option Addr) (F : Hp) (ds : List D) (fvs : List V) (As : List Addr) (Ls : List (List D)), vs = fvs ++ As.map V.ref ∧ Sub F H ∧ BagOk ⟨K, bg, cls⟩ F H ∧ IsL ⟨K, bg, cls⟩ F ds fvs ∧
  As.Nodup ∧ (∀ p ∈ As, F p = none ∧ ¬ An.hid ⟨K, bg, cls⟩ p) ∧ AtL ⟨K, bg, cls⟩ F H As Ls ∧
  f ds Ls fun d Ls' => ∀ F' H' v, Sub F' H' → Gw (hidW ⟨K, bg, cls⟩ As) F H F' H' → BagOk ⟨K, bg, cls⟩ F' H' → Is ⟨K, bg, cls⟩ F' d v → AtL ⟨K, bg, cls⟩ F' H' As Ls' → Q v H'
section
variable {a : An} {F H : Hp}
theorem AtL.len : ∀ {As : List Addr} {Ls : List (List D)}, AtL a F H As Ls → Ls.length = As.length
  | [], Ls, h => by rw [show Ls = [] from h]; rfl
  | p :: As, Ls, ⟨L, r, e, _, h⟩ => by rw [e, List.length_cons, List.length_cons, AtL.len h]
end
section
variable {P : Program} {w : World} {K : PySem.W.Frag} {mg : Str → Option Value} {base : Heap} {cls : Nat → Option (Addr × List Str)} {k j : Nat} {x qual : Str} {f : SpecW} {st : Stmt} {fa : Addr} {fd : FuncData} {N ps : List Str} {c : Cn} {S : Sg} {b : B}
end
end DL
namespace DL
open PySem PySem.Spec PyProof.Rows L2
structure FnAtW (a : An0) (X : Cx) (x : Str) (f : SpecW) : Prop where
  ex : ∃ (fa : Addr) (fd : FuncData) (k : Nat) (ps : List Str), FnG X.prog X.w X.K X.mg X.base CX0 k fa fd ps (spW a.K a.cls f) ∧ Room k X.A ∧ X.mg x = some (.ref fa) ∧ PySem.W.keepIn X.K (.ref fa) = true ∧ Binds X.K fd ps []
noncomputable abbrev MonoW (f : SpecW) : Prop := ∀ ds Ls (Φ Ψ : D → List (List D) → Prop), (∀ d Ls', Φ d Ls' → Ψ d Ls') → f ds Ls Φ → f ds Ls Ψ
section
variable {a : An0} {X : Cx} {ρ : Env} {σ : L2.St} {ts : List T} {vs : List V} {H F : Hp} {Sc Sm : List Addr}
end
end DL
namespace DL
open PySem PySem.Spec PyProof.Rows L2
structure PReg where
  r : Reg
  pl : List Addr
  fix : ∀ {a F H v S}, r.P a F H v S → S = pl
noncomputable abbrev SpecR := List D → PReg → List D → (T → PReg → Prop) → Prop
noncomputable abbrev MonoR (f : SpecR) : Prop := ∀ ds1 R ds2 (Φ Ψ : T → PReg → Prop), (∀ d R', Φ d R' → Ψ d R') → f ds1 R ds2 Φ → f ds1 R ds2 Ψ
noncomputable def spR (K : PySem.W.Frag) (cls : Nat → Option (Addr × List Str)) (f : SpecR) : Sp := fun vs H Q _ => ∃ (bg : Option Addr) (F : Hp) (ds1 ds2 : List D) (vs1 vs2 : List V) (rv : V) (R : PReg), vs = vs1 ++ rv :: vs2 ∧ Sub F H ∧ BagOk ⟨K, bg, cls⟩ F H ∧ IsL ⟨K, bg, cls⟩ F ds1 vs1 ∧ IsL ⟨K, bg, cls⟩ F ds2 vs2 ∧
  R.r.P ⟨K, bg, cls⟩ F H rv R.pl ∧ R.pl.Nodup ∧ (∀ p ∈ R.pl, F p = none ∧ ¬ An.hid ⟨K, bg, cls⟩ p) ∧
  f ds1 R ds2 fun t R' => ∀ F' H' v S, Sub F' H' → Gw (hidW ⟨K, bg, cls⟩ R.pl) F H F' H' → BagOk ⟨K, bg, cls⟩ F' H' → Ow ⟨K, bg, cls⟩ F' H' t v S → R'.r.P ⟨K, bg, cls⟩ F' H' rv R'.pl → (R'.pl ++ S).Nodup →
    (∀ p ∈ S, F' p = none ∧ ¬ An.hid ⟨K, bg, cls⟩ p ∧ H p = none) → (∀ p ∈ R'.pl, F' p = none ∧ ¬ An.hid ⟨K, bg, cls⟩ p ∧ (p ∈ R.pl ∨ H p = none)) → (∀ p ∈ R.pl, p ∈ R'.pl) → Q v H'
section
variable {a : An} {F H : Hp}
end
section
variable {P : Program} {w : World} {K : PySem.W.Frag} {mg : Str → Option Value} {base : Heap} {cls : Nat → Option (Addr × List Str)} {k j : Nat} {x qual : Str} {f : SpecR} {st : Stmt} {fa : Addr} {fd : FuncData} {N ps : List Str} {c : Cn} {S : Sg} {b : B}
end
section
variable {a : An0} {X : Cx} {ρ : Env} {σ : L2.St} {ts : List T} {vs : List V} {H F : Hp} {Sc Sm : List Addr}
end
end DL
namespace DL
open PySem PySem.Spec PyProof.Rows L2
noncomputable def RdD (a : An) (F : Hp) (f : Int → Option D) (kvs : List (Key × V)) : Prop := ∀ k : Int, match f k with
  | none => valV kvs (.inl k) = none
  | some d => ∃ v, valV kvs (.inl k) = some v ∧ Is a F d v
theorem RdD.mono {a : An} {F G : Hp} {f : Int → Option D} {kvs : List (Key × V)} (s : Sub F G) (h : RdD a F f kvs) : RdD a G f kvs := fun k => by
  have := h k
  cases e : f k with
  | none => simp only [e] at this ⊢; exact this
  | some d =>
    simp only [e] at this ⊢
    obtain ⟨v, h1, h2⟩ := this
    exact ⟨v, h1, h2.mono s⟩
noncomputable def dctR (p : Addr) (n : Nat) (f : Int → Option D) : Reg where
  P a F H v S := v = .ref p ∧ S = [p] ∧ ∃ kvs, H p = some (.dK kvs) ∧ kvs.length ≤ n ∧ RdD a F f kvs
  mono := fun ⟨e1, e2, kvs, h, l, i⟩ s k => ⟨e1, e2, kvs, k p (by rw [e2]; exact List.mem_cons_self) _ h, l, i.mono s⟩
  adr := p
  ref := fun ⟨e, _⟩ => e
  there := fun ⟨_, e2, kvs, h, _⟩ q hq => by
    rw [e2] at hq
    obtain rfl := List.mem_singleton.mp hq
    exact ⟨_, h, fun _ z => nomatch z⟩
noncomputable def putD (f : Int → Option D) (k : Int) (d : D) : Int → Option D := fun j => if j = k then some d else f j
theorem RdD.put {a : An} {F : Hp} {f : Int → Option D} {kvs : List (Key × V)} {k : Int} {d : D} {v : V} (h : RdD a F f kvs) (i : Is a F d v) : RdD a F (putD f k d) (putK kvs (.inl k) v) := fun j => by
  unfold putD
  rw [valV_put]
  by_cases e : j = k
  · subst e
    simp only [if_true]
    exact ⟨v, rfl, i⟩
  · rw [if_neg e, if_neg (fun z => e (by cases z; rfl))]
    exact h j
section
variable {a : An0} {X : Cx} {ρ : Env} {σ : L2.St} {ts : List T} {vs : List V} {H F : Hp} {Sc Sm : List Addr} {Φ : T → Prop} {pos : Pos} {i : Nat}
/-- a place of a region is written -/
theorem SW.storeP {R : PReg} {p : Addr} {o' : HO} {R' : PReg} (w : SW a ρ σ ts vs H F Sc Sm) (hW : a.W = []) (e : ρ.at i = some (.reg R.r)) (hp : p ∈ R.pl) (hr : ∀ v, R.r.P a.toAn F H v R.pl → R'.r.P a.toAn F (L2.upd H p o') v R.pl) (ho : ∀ q, o' ≠ .ext q) :
    SOk a (ρ.put i (some (.reg R'.r))) σ [] [] (L2.upd H p o') := by
  obtain ⟨x, Si, Sr, e1, h1, pm, go⟩ := w.cells.focus e
  simp only [Ow] at h1
  obtain rfl := R.fix h1
  have nd : ((R.pl ++ Sr) ++ Sm).Nodup := ((List.Perm.append_right Sm pm).nodup_iff).mp w.nd
  have mem : ∀ q, q ∈ R.pl ++ Sr → q ∈ Sc := fun q h => pm.mem_iff.mpr h
  obtain ⟨n1, n2, n3⟩ := List.nodup_append.mp nd
  obtain ⟨m1, m2, m3⟩ := List.nodup_append.mp n1
  have lSr : p ∉ Sr := fun z => m3 p hp p z rfl
  have keep : ∀ q ∈ Sr, ∀ o, H q = some o → L2.upd H p o' q = some o := fun q hq o e => by
    rw [upd_ne (fun z => lSr (by rw [← z]; exact hq))]
    exact e
  obtain ⟨S', h3, p3⟩ := go F (L2.upd H p o') (.reg R'.r) R.pl (Sub.refl F) keep (by
    simp only [Ow]
    exact hr _ h1) rfl
  refine ⟨F, S', [], w.upd (Sm' := []) (List.mem_append_left _ (mem p (List.mem_append_left _ hp))) (by rw [hW]; exact fun _ h => nomatch h) h3 (by simp [OwL]) ?_ (fun q hq => ?_) (by rw [Env.put_length]; exact w.len)⟩
  · rw [List.append_nil]
    exact p3.nodup_iff.mpr n1
  · rw [List.append_nil] at hq
    exact List.mem_append_left _ (mem q (p3.mem_iff.mp hq))
noncomputable def getD (i : Nat) (ρ : Env) (us : List T) (Φ : T → Prop) : Prop := ∃ p n f t0 t k d, us = [t0, t] ∧ t0.dat = .opq p ∧ ρ.at i = some (.reg (dctR p n f)) ∧ t.dat = .int k ∧ f k = some d ∧ Φ (.leaf d)
theorem nosl_of {b : Expr} (h : notSlice b = true) : NoSl b := fun ov iv => ix_plain h ov iv
end
end DL
namespace DL
open PySem PySem.Spec PyProof.Rows L2
inductive FV where
  | dat (d : D) | own (q : Addr) (ds : List D)
noncomputable def FV.d : FV → D
  | .dat d => d
  | .own _ ds => .lst ds
noncomputable def FV.a : FV → List Addr
  | .dat _ => []
  | .own q _ => [q]
noncomputable def FV.t : FV → T
  | .dat d => .leaf d
  | .own _ ds => .vw (.lst ds)
noncomputable def fvA : List FV → List Addr
  | [] => []
  | f :: r => f.a ++ fvA r
noncomputable def FvL (a : An) (F H : Hp) : List FV → List V → Prop
  | [], vs => vs = []
  | .dat d :: r, vs => ∃ v r', vs = v :: r' ∧ Is a F d v ∧ FvL a F H r r'
  | .own q ds :: r, vs => ∃ r' ws, vs = .ref q :: r' ∧ H q = some (.lst ws) ∧ IsL a F ds ws ∧ FvL a F H r r'
section
variable {a : An} {F F' H H' G : Hp}
theorem FvL.mono (s : Sub F F') : ∀ {fs : List FV} {vs : List V}, FvL a F H fs vs → (∀ p ∈ fvA fs, ∀ o, H p = some o → H' p = some o) → FvL a F' H' fs vs
  | [], vs, h, _ => h
  | .dat d :: r, vs, ⟨v, r', e, i, h⟩, k => ⟨v, r', e, i.mono s, h.mono s fun p hp => k p (List.mem_append_right _ hp)⟩
  | .own q ds :: r, vs, ⟨r', ws, e, l, i, h⟩, k => ⟨r', ws, e, k q (List.mem_append_left _ List.mem_cons_self) _ l, i.mono s, h.mono s fun p hp => k p (List.mem_append_right _ hp)⟩
theorem FvL.len : ∀ {fs : List FV} {vs : List V}, FvL a F H fs vs → vs.length = fs.length
  | [], vs, h => by cases h; rfl
  | .dat d :: r, vs, ⟨v, r', e, i, h⟩ => by rw [e, List.length_cons, List.length_cons, h.len]
  | .own q ds :: r, vs, ⟨r', ws, e, l, i, h⟩ => by rw [e, List.length_cons, List.length_cons, h.len]
theorem FvL.there : ∀ {fs : List FV} {vs : List V}, FvL a F H fs vs → ∀ p ∈ fvA fs, ∃ ws, H p = some (.lst ws)
  | [], vs, h, p, hp => nomatch hp
  | .dat d :: r, vs, ⟨v, r', e, i, h⟩, p, hp => h.there p hp
  | .own q ds :: r, vs, ⟨r', ws, e, l, i, h⟩, p, hp => by
    rcases List.mem_append.mp hp with hp | hp
    · obtain rfl := List.mem_singleton.mp hp
      exact ⟨ws, l⟩
    · exact h.there p hp
theorem FvL.getD : ∀ {fs : List FV} {vs : List V} {k : Nat} {d : D}, FvL a F H fs vs → fs[k]? = some (.dat d) → ∃ v, vs[k]? = some v ∧ Is a F d v
  | .dat d0 :: r, vs, 0, d, ⟨v, r', e, i, h⟩, g => by cases g; exact ⟨v, by rw [e]; rfl, i⟩
  | .own q ds :: r, vs, 0, d, ⟨r', ws, e, l, i, h⟩, g => by cases g
  | .dat d0 :: r, vs, k + 1, d, ⟨v, r', e, i, h⟩, g => by rw [e]; exact h.getD (k := k) g
  | .own q ds :: r, vs, k + 1, d, ⟨r', ws, e, l, i, h⟩, g => by rw [e]; exact h.getD (k := k) g
theorem FvL.is (s : Sub F G) : ∀ {fs : List FV} {vs : List V}, FvL a F H fs vs → (∀ p ∈ fvA fs, G p = H p) → IsL a G (fs.map FV.d) vs
  | [], vs, h, _ => by cases h; simp only [List.map_nil, IsL]
  | .dat d :: r, vs, ⟨v, r', e, i, h⟩, k => by
    simp only [List.map_cons, IsL]
    exact ⟨v, r', e, i.mono s, h.is s fun p hp => k p (List.mem_append_right _ hp)⟩
  | .own q ds :: r, vs, ⟨r', ws, e, l, i, h⟩, k => by
    simp only [List.map_cons, IsL, FV.d, Is]
    exact ⟨.ref q, r', e, ⟨q, ws, rfl, (k q (List.mem_append_left _ List.mem_cons_self)).trans l, i.mono s⟩, h.is s fun p hp => k p (List.mem_append_right _ hp)⟩
end
/-- the object of class c at p, with its first fields -/
noncomputable def objR (c : Nat) (p dx : Addr) (fs : List FV) : Reg where
  P a F H v S := v = .ref p ∧ S = p :: fvA fs ∧ ∃ C ns vs, a.cls c = some (C, ns) ∧ fs.length ≤ ns.length ∧ H p = some (.ins C dx ((ns.take fs.length).zip vs)) ∧ FvL a F H fs vs
  mono := fun ⟨e1, e2, C, ns, vs, h1, h2, h3, h4⟩ s k => ⟨e1, e2, C, ns, vs, h1, h2, k p (by rw [e2]; exact List.mem_cons_self) _ h3, h4.mono s fun q hq => k q (by rw [e2]; exact List.mem_cons_of_mem _ hq)⟩
  adr := p
  ref := fun ⟨e, _⟩ => e
  there := fun ⟨_, e2, C, ns, vs, h1, h2, h3, h4⟩ q hq => by
    rw [e2] at hq
    rcases List.mem_cons.mp hq with rfl | hq
    · exact ⟨_, h3, fun _ z => nomatch z⟩
    · obtain ⟨ws, h⟩ := h4.there q hq
      exact ⟨_, h, fun _ z => nomatch z⟩
section
variable {a : An0} {X : Cx} {ρ : Env} {σ : L2.St} {ts : List T} {vs : List V} {H F : Hp} {Sc Sm : List Addr} {Φ : T → Prop} {pos : Pos} {i : Nat}
theorem SW.obj {c : Nat} {p dx : Addr} {fs : List FV} (w : SW a ρ σ ts vs H F Sc Sm) (e : ρ.at i = some (.reg (objR c p dx fs))) : ∃ C ns us, σ[i]? = some (some (.ref p)) ∧ a.cls c = some (C, ns) ∧ fs.length ≤ ns.length ∧ H p = some (.ins C dx ((ns.take fs.length).zip us)) ∧ FvL a.toAn F H fs us ∧ (p :: fvA fs).Nodup ∧ ∀ q ∈ p :: fvA fs, F q = none ∧ ¬ a.toAn.hid q := by
  obtain ⟨x, Si, Sr, e1, h1, pm, go⟩ := w.cells.focus e
  simp only [Ow] at h1
  obtain ⟨rfl, rfl, C, ns, us, h2, h3, h4, h5⟩ := h1
  have nd := (List.nodup_append.mp (pm.nodup_iff.mp (List.nodup_append.mp w.nd).1)).1
  refine ⟨C, ns, us, e1, h2, h3, h4, h5, nd, fun q hq => ?_⟩
  obtain ⟨f1, f2, _⟩ := w.fr q (List.mem_append_left _ (pm.mem_iff.mpr (List.mem_append_left _ hq)))
  exact ⟨f1, f2⟩
end
end DL
namespace DL
open PySem PySem.Spec PyProof.Rows L2
section
variable {a : An0} {X : Cx} {ρ : Env} {σ : L2.St} {ts : List T} {vs : List V} {H F : Hp} {Sc Sm : List Addr}
end
end DL
namespace DL
open PySem PySem.Spec PyProof.Rows L2
noncomputable def HkL (a : An0) (X : Cx) (ct : Ct) : List (Ct → Expr → Option (List Expr)) → List (Env → List T → (T → Prop) → Prop) → Prop
  | p :: ps, f :: fs => HkAt a X ct p f ∧ HkL a X ct ps fs
  | _, _ => True
noncomputable def ShL (a : An0) (X : Cx) (ct : Ct) : List (Ct → Stmt → Option (List Expr)) → List (Env → List T → EnD → Prop) → Prop
  | p :: ps, f :: fs => ShAt a X ct p f ∧ ShL a X ct ps fs
  | _, _ => True
noncomputable def HtL (a : An0) (X : Cx) (ct : Ct) : List (Ct → Expr → Option (List Expr)) → List (Env → List T → (Bool → Prop) → Prop) → Prop
  | p :: ps, f :: fs => HtAt a X ct p f ∧ HtL a X ct ps fs
  | _, _ => True
theorem HkL.get {a : An0} {X : Cx} {ct : Ct} : ∀ {ps fs}, HkL a X ct ps fs → ∀ (k : Nat) pat f, ps[k]? = some pat → fs[k]? = some f → HkAt a X ct pat f
  | [], _, _, k, _, _, h, _ => by simp at h
  | _ :: _, [], _, k, _, _, _, h => by simp at h
  | p :: ps, f :: fs, h, 0, _, _, e1, e2 => by cases e1; cases e2; exact h.1
  | p :: ps, f :: fs, h, k + 1, _, _, e1, e2 => HkL.get h.2 k _ _ e1 e2
theorem ShL.get {a : An0} {X : Cx} {ct : Ct} : ∀ {ps fs}, ShL a X ct ps fs → ∀ (k : Nat) pat f, ps[k]? = some pat → fs[k]? = some f → ShAt a X ct pat f
  | [], _, _, k, _, _, h, _ => by simp at h
  | _ :: _, [], _, k, _, _, _, h => by simp at h
  | p :: ps, f :: fs, h, 0, _, _, e1, e2 => by cases e1; cases e2; exact h.1
  | p :: ps, f :: fs, h, k + 1, _, _, e1, e2 => ShL.get h.2 k _ _ e1 e2
theorem HtL.get {a : An0} {X : Cx} {ct : Ct} : ∀ {ps fs}, HtL a X ct ps fs → ∀ (k : Nat) pat f, ps[k]? = some pat → fs[k]? = some f → HtAt a X ct pat f
  | [], _, _, k, _, _, h, _ => by simp at h
  | _ :: _, [], _, k, _, _, _, h => by simp at h
  | p :: ps, f :: fs, h, 0, _, _, e1, e2 => by cases e1; cases e2; exact h.1
  | p :: ps, f :: fs, h, k + 1, _, _, e1, e2 => HtL.get h.2 k _ _ e1 e2
theorem XpOk.hooks {c : Cn} {S : Sg} {a : An0} {X : Cx} (h1 : c.xs = []) (h2 : c.rz = false) (h3 : c.xc = []) (h4 : c.xt = false) (hk : HkL a X c.toCt c.hp S.hs) (sh : ShL a X c.toCt c.sp S.sh) (ht : HtL a X c.toCt c.tp S.ht) : XpOk c S a X :=
  ⟨fun k x f q => (by rw [h1] at q; simp at q), fun q => (by rw [h2] at q; cases q), fun q => (by rw [h2] at q; cases q), fun q hq => (by rw [h3] at hq; cases hq), fun q => (by rw [h4] at q; cases q), hk.get, sh.get, ht.get⟩
/-- a def that writes what it is lent, under its name -/
structure FnBW (P : Program) (w : World) (K : PySem.W.Frag) (mg : Str → Option Value) (base : Heap) (cls : Nat → Option (Addr × List Str)) (k : Nat) (x : Str) (f : SpecW) : Prop where
  ex : ∃ (fa : Addr) (fd : FuncData) (ps : List Str), FnG P w K mg base CX0 k fa fd ps (spW K cls f) ∧ mg x = some (.ref fa) ∧ PySem.W.keepIn K (.ref fa) = true ∧ Binds K fd ps []
  mo : MonoW f
theorem FnBW.at_ {a : An0} {X : Cx} {k : Nat} {x : Str} {f : SpecW} (h : FnBW X.prog X.w X.K X.mg X.base a.cls k x f) (hK : a.K = X.K) (hr : Room k X.A) : FnAtW a X x f := by
  obtain ⟨fa, fd, ps, g, m, kp, bd⟩ := h.ex
  exact ⟨⟨fa, fd, k, ps, by rw [hK]; exact g, hr, m, kp, bd⟩⟩
end DL
namespace DL
open PySem PySem.Spec PyProof.Rows L2
noncomputable abbrev Hps := List (Ct → Expr → Option (List Expr))
noncomputable abbrev Hss := List (Env → List T → (T → Prop) → Prop)
noncomputable def c0 (ct : Ct) (hp : Hps) : Cn := { toCt := ct, fn := [], gl := [], bs := [], hp := hp }
noncomputable def S0 (hs : Hss) : Sg := { z := false, fs := [], gs := [], hs := hs }
section
variable {a : An0} {X : Cx} {ρ : Env} {σ : L2.St} {ts : List T} {vs : List V} {H F : Hp} {Sc Sm : List Addr} {Φ : T → Prop} {pos : Pos} {i : Nat} {ct : Ct} {hp : Hps} {hs : Hss}
theorem HkL.to {b : An0} {pn : List (Addr × Obj)} {xe : Value → Shared → Prop} (hb : b.toAn = a.toAn) : ∀ {hp : Hps} {hs : Hss}, HkL a X ct hp hs → HkL b (X.tr pn xe) ct hp hs
  | [], _, _ => trivial
  | _ :: _, [], _ => trivial
  | p :: ps, f :: fs, ⟨h, r⟩ => ⟨fun b2 pn2 xe2 hb2 po2 => h b2 pn2 xe2 (hb2.trans hb) po2, HkL.to hb r⟩
theorem good0 (xo : XOk a X) (co : COk ct X) (kd : X.env.scope.kind = .function) (hk : HkL a X ct hp hs) : Good (c0 ct hp) (S0 hs) a X :=
  ⟨xo, co, fun h => (by cases h), kd, fun k x f h => (by simp [c0] at h), fun k x f h => (by simp [c0] at h), fun x h => (by simp [c0] at h), fun k x f h => (by simp [c0] at h), fun k x f h => (by simp [c0] at h), fun k x f h => (by simp [c0] at h), fun q h => (by simp [c0] at h), fun q h => (by simp [c0] at h), XpOk.hooks rfl rfl rfl rfl hk trivial trivial⟩
noncomputable def wE (S : Sg) (x : I) (ρ : Env) (Φ : T → Prop) : Prop := ∃ Ψ, w S x ρ Ψ ∧ ∀ t, Ψ t → Φ t
theorem wE_of {S : Sg} {x : I} {ρ : Env} {Φ : T → Prop} (h : w S x ρ Φ) : wE S x ρ Φ := ⟨Φ, h, fun _ z => z⟩
theorem wE.mono {S : Sg} {x : I} {ρ : Env} {Φ Ψ : T → Prop} (h : wE S x ρ Φ) (k : ∀ t, Φ t → Ψ t) : wE S x ρ Ψ :=
  let ⟨Ψ0, h1, h2⟩ := h
  ⟨Ψ0, h1, fun t z => k t (h2 t z)⟩
/-- what stands under one's own form: the name of the region, and what is needed of it -/
structure Inn (a : An0) (X : Cx) (ct : Ct) (hp : Hps) (hs : Hss) : Prop where
  xo : XOk a X
  co : COk ct X
  kd : X.env.scope.kind = .function
  hk : HkL a X ct hp hs
theorem Inn.at (g : Inn a X ct hp hs) {b : An0} {pn : List (Addr × Obj)} {xe : Value → Shared → Prop} (hb : b.toAn = a.toAn) (po : PassesOwn (model X.prog X.w) X.A X.env xe) : Good (c0 ct hp) (S0 hs) b (X.tr pn xe) :=
  good0 ⟨by rw [hb]; exact g.xo.K, g.xo.calm, g.xo.nd, g.xo.gu, g.xo.hd, g.xo.un, po⟩ ⟨g.co.N, g.co.sc, g.co.fn, g.co.keep⟩ g.kd (g.hk.to hb)
theorem Inn.run (g : Inn a X ct hp hs) {b : An0} {pn : List (Addr × Obj)} {xe : Value → Shared → Prop} (hb : b.toAn = a.toAn) (po : PassesOwn (model X.prog X.w) X.A X.env xe) {x : I} {e : Expr} (ok : okE (c0 ct hp) x e = true) (h : wE (S0 hs) x ρ Φ) : DE b (X.tr pn xe) ρ e Φ := by
  obtain ⟨Ψ, h1, h2⟩ := h
  exact fun σ H ts vs Q so k => soundE x (g.at hb po) ok h1 σ H ts vs Q so fun v t H' q so' => k v t H' (h2 t q) so'
end
end DL
namespace DL
open PySem PySem.Spec PyProof.Rows L2
structure MtAtR (a : An0) (X : Cx) (c : Nat) (m : Str) (f : SpecR) : Prop where
  ex : ∃ (C fa : Addr) (ns : List Str) (fd : FuncData) (k : Nat) (ps : List Str), a.cls c = some (C, ns) ∧ m ∉ ns ∧ Cls X.K C ∧ Meth X.K C m fa ∧ FnG X.prog X.w X.K X.mg X.base CX0 k fa fd ps (spR a.K a.cls f) ∧ Room k X.A ∧ Binds X.K fd ps []
section
variable {a : An0} {X : Cx} {ρ : Env} {σ : L2.St} {ts : List T} {vs : List V} {H F : Hp} {Sc Sm : List Addr} {Φ : T → Prop} {pos : Pos} {i : Nat} {ct : Ct} {hp : Hps} {hs : Hss}
end
end DL
namespace DL
open PySem PySem.Spec PyProof.Rows L2
section
variable {a : An0} {X : Cx} {ρ : Env} {σ : L2.St} {ts : List T} {vs : List V} {H F : Hp} {Sc Sm : List Addr} {Φ : T → Prop} {pos : Pos} {i j l : Nat} {ct : Ct} {hp : Hps} {hs : Hss}
end
end DL
namespace DL
open PySem PySem.Spec PyProof.Rows L2
section
variable {a : An0} {X : Cx} {ρ : Env} {σ : L2.St} {ts : List T} {vs : List V} {H F : Hp} {Sc Sm : List Addr} {Φ : T → Prop} {pos : Pos} {i j l : Nat} {ct : Ct} {hp : Hps} {hs : Hss}
theorem SW.mkReg {R : Reg} {p : Addr} {o : HO} (w : SW a ρ σ ts vs H F Sc Sm) (hp : H p = none) (hr : R.P a.toAn F (L2.upd H p o) (.ref p) [p]) : SW a ρ σ (.reg R :: ts) (.ref p :: vs) (L2.upd H p o) F Sc (p :: Sm) := by
  have w' := w.laid (o := o) hp
  obtain ⟨f1, f2, f3⟩ := w.fresh hp
  have old : ∀ q ∈ Sc ++ Sm, q ≠ p := fun q hq z => by
    subst z
    rcases List.mem_append.mp hq with y | y
    · exact OwC.there w.cells q y hp
    · exact OwL.there w.tmps q y hp
  refine ⟨w'.sub, w'.gw, w'.bagM, w'.bag, w'.cells, by simp only [OwL]; exact ⟨_, _, [p], Sm, rfl, by simp only [Ow]; exact hr, w'.tmps, rfl⟩, ?_, fun q hq => ?_, w'.len, w'.wit, w'.wif⟩
  · refine List.perm_middle.nodup_iff.mpr (List.nodup_cons.mpr ⟨fun z => old p z rfl, w.nd⟩)
  · rcases List.mem_cons.mp (List.perm_middle.mem_iff.mp hq) with rfl | hq
    · exact ⟨f2, f3, .inr f1⟩
    · exact w'.fr q hq
end
end DL
namespace DL
open PySem PySem.Spec PyProof.Rows L2
section
variable {a : An0} {X : Cx} {ρ : Env} {σ : L2.St} {ts : List T} {vs : List V} {H F : Hp} {Sc Sm : List Addr} {Φ : T → Prop} {pos : Pos} {i j l : Nat} {ct : Ct} {hp : Hps} {hs : Hss}
/-- a class of one's own: its __init__ is lent the new object -/
structure NwAtR (a : An0) (X : Cx) (c : Nat) (x : Str) (f : SpecR) : Prop where
  ex : ∃ (C fa : Addr) (ns : List Str) (fd : FuncData) (k : Nat) (ps : List Str), a.cls c = some (C, ns) ∧ Mk X.K C fa ∧ X.mg x = some (.ref C) ∧ FnG X.prog X.w X.K X.mg X.base CX0 k fa fd ps (spR a.K a.cls f) ∧ Room (k + 1) X.A ∧ Binds X.K fd ps []
end
end DL
namespace DL
open PySem PySem.Spec PyProof.Rows L2
section
variable {a : An0} {X : Cx} {ρ : Env} {σ : L2.St} {ts : List T} {vs : List V} {H F : Hp} {Sc Sm : List Addr} {Φ : T → Prop} {pos : Pos} {i : Nat} {ct : Ct}
theorem MtAt.to {b : An0} {Y : Cx} {c : Nat} {m : Str} {f : SpecF} (mt : MtAt a X c m f) (hb : b.toAn = a.toAn) (hY : Y.prog = X.prog ∧ Y.w = X.w ∧ Y.K = X.K ∧ Y.mg = X.mg ∧ Y.base = X.base) (hR : ∀ k, Room k X.A → Room k Y.A) : MtAt b Y c m f := by
  obtain ⟨C, fa, ns, fd, k, ps, h1, h2, h3, h4, h5, h6, h7⟩ := mt.ex
  obtain ⟨e1, e2, e3, e4, e5⟩ := hY
  exact ⟨⟨C, fa, ns, fd, k, ps, by rw [show b.cls = a.cls by rw [hb]]; exact h1, h2, by rw [e3]; exact h3, by rw [e3]; exact h4, by rw [e1, e2, e3, e4, e5, show b.K = a.K by rw [hb], show b.cls = a.cls by rw [hb]]; exact h5, hR k h6, by rw [e3]; exact h7⟩⟩
end
end DL
namespace DL
open PySem PySem.Spec PyProof.Rows L2
/-- where a hook stands -/
structure HX (P : Program) (w : World) (K : PySem.W.Frag) (mg : Str → Option Value) (base : Heap) (cls : Nat → Option (Addr × List Str)) (k : Nat) (ct : Ct) (a : An0) (X : Cx) : Prop where
  e : X.prog = P ∧ X.w = w ∧ X.K = K ∧ X.mg = mg ∧ X.base = base
  eK : a.K = K
  ec : a.cls = cls
  hr : Room k X.A
  xo : XOk a X
  co : COk ct X
  kd : X.env.scope.kind = .function
section
variable {P : Program} {w : World} {K : PySem.W.Frag} {mg : Str → Option Value} {base : Heap} {cls : Nat → Option (Addr × List Str)} {k j : Nat} {ct : Ct} {a : An0} {X : Cx}
theorem HX.inn (h : HX P w K mg base cls k ct a X) {hp : Hps} {hs : Hss} (hk : HkL a X ct hp hs) : Inn a X ct hp hs := ⟨h.xo, h.co, h.kd, hk⟩
structure FdP (K : PySem.W.Frag) (cls : Nat → Option (Addr × List Str)) (c i : Nat) (n : Str) : Prop where
  ex : ∃ (C : Addr) (ns : List Str), cls c = some (C, ns) ∧ ns[i]? = some n ∧ ns.Nodup ∧ Cls K C ∧ NoAttr K C n
theorem FdP.at_ {c i : Nat} {n : Str} (f : FdP K cls c i n) (h : HX P w K mg base cls k ct a X) : FdAt a X c i n := by
  obtain ⟨C, ns, h1, h2, h3, h4, h5⟩ := f.ex
  exact ⟨⟨C, ns, by rw [h.ec]; exact h1, h2, h3, by rw [h.e.2.2.1]; exact h4, by rw [h.e.2.2.1]; exact h5⟩⟩
theorem MtP.at_ {q : Nat × Str} {f : SpecF} (m : MtP P w K mg base cls k q f) (h : HX P w K mg base cls k ct a X) : MtAt a X q.1 q.2 f := by
  obtain ⟨C, fa, ns, fd, ps, h1, h2, h3, h4, h5, h6⟩ := m.1
  obtain ⟨e1, e2, e3, e4, e5⟩ := h.e
  exact ⟨⟨C, fa, ns, fd, k, ps, by rw [h.ec]; exact h1, h2, by rw [e3]; exact h3, by rw [e3]; exact h4, by rw [e1, e2, e3, e4, e5, h.eK, h.ec]; exact h5, h.hr, by rw [e3]; exact h6⟩⟩
theorem FnB.at_ {x : Str} {f : SpecF} (m : FnB P w K mg base cls k x f) (h : HX P w K mg base cls k ct a X) : FnAt a X x f := by
  obtain ⟨fa, fd, ps, g, e, kp, bd⟩ := m.ex
  obtain ⟨e1, e2, e3, e4, e5⟩ := h.e
  exact ⟨fa, fd, k, ps, by rw [e1, e2, e3, e4, e5, h.eK, h.ec]; exact g, h.hr, by rw [e4]; exact e, by rw [e3]; exact kp, by rw [e3]; exact bd⟩
structure MtPR (P : Program) (w : World) (K : PySem.W.Frag) (mg : Str → Option Value) (base : Heap) (cls : Nat → Option (Addr × List Str)) (k : Nat) (q : Nat × Str) (f : SpecR) : Prop where
  ex : ∃ (C fa : Addr) (ns : List Str) (fd : FuncData) (ps : List Str), cls q.1 = some (C, ns) ∧ q.2 ∉ ns ∧ Cls K C ∧ Meth K C q.2 fa ∧ FnG P w K mg base CX0 k fa fd ps (spR K cls f) ∧ Binds K fd ps []
  mo : MonoR f
theorem MtPR.mono {q : Nat × Str} {f : SpecR} (h : MtPR P w K mg base cls j q f) (l : j ≤ k) : MtPR P w K mg base cls k q f :=
  let ⟨C, fa, ns, fd, ps, h1, h2, h3, h4, h5, h6⟩ := h.ex
  ⟨⟨C, fa, ns, fd, ps, h1, h2, h3, h4, h5.mono l, h6⟩, h.mo⟩
theorem MtPR.at_ {q : Nat × Str} {f : SpecR} (m : MtPR P w K mg base cls k q f) (h : HX P w K mg base cls k ct a X) : MtAtR a X q.1 q.2 f := by
  obtain ⟨C, fa, ns, fd, ps, h1, h2, h3, h4, h5, h6⟩ := m.ex
  obtain ⟨e1, e2, e3, e4, e5⟩ := h.e
  exact ⟨⟨C, fa, ns, fd, k, ps, by rw [h.ec]; exact h1, h2, by rw [e3]; exact h3, by rw [e3]; exact h4, by rw [e1, e2, e3, e4, e5, h.eK, h.ec]; exact h5, h.hr, by rw [e3]; exact h6⟩⟩
structure NwPR (P : Program) (w : World) (K : PySem.W.Frag) (mg : Str → Option Value) (base : Heap) (cls : Nat → Option (Addr × List Str)) (k : Nat) (c : Nat) (x : Str) (f : SpecR) : Prop where
  ex : ∃ (C fa : Addr) (ns : List Str) (fd : FuncData) (j : Nat) (ps : List Str), j + 1 ≤ k ∧ cls c = some (C, ns) ∧ Mk K C fa ∧ mg x = some (.ref C) ∧ FnG P w K mg base CX0 j fa fd ps (spR K cls f) ∧ Binds K fd ps []
  mo : MonoR f
theorem NwPR.mono {c : Nat} {x : Str} {f : SpecR} (h : NwPR P w K mg base cls j c x f) (l : j ≤ k) : NwPR P w K mg base cls k c x f :=
  let ⟨C, fa, ns, fd, i, ps, h0, h1, h2, h3, h4, h5⟩ := h.ex
  ⟨⟨C, fa, ns, fd, i, ps, Nat.le_trans h0 l, h1, h2, h3, h4, h5⟩, h.mo⟩
theorem NwPR.at_ {c : Nat} {x : Str} {f : SpecR} (m : NwPR P w K mg base cls k c x f) (h : HX P w K mg base cls k ct a X) : NwAtR a X c x f := by
  obtain ⟨C, fa, ns, fd, j, ps, h0, h1, h2, h3, h4, h5⟩ := m.ex
  obtain ⟨e1, e2, e3, e4, e5⟩ := h.e
  exact ⟨⟨C, fa, ns, fd, j, ps, by rw [h.ec]; exact h1, by rw [e3]; exact h2, by rw [e4]; exact h3, by rw [e1, e2, e3, e4, e5, h.eK, h.ec]; exact h4, h.hr.mono h0, by rw [e3]; exact h5⟩⟩
end
section
variable {P : Program} {w : World} {K : PySem.W.Frag} {mg : Str → Option Value} {base : Heap} {cls : Nat → Option (Addr × List Str)} {k j : Nat} {x qual : Str} {st : Stmt} {fa : Addr} {fd : FuncData} {N ps : List Str} {c : Cn} {S : Sg} {b : B}
theorem fnDH {f : SpecF} (Fu : L2.Fun K x qual st fa fd) (sc : FnScope N ps (defScope st)) (hc : c.toCt = ⟨N, defScope st, defScope st⟩) (ck : okB c b (defBody st) = true)
    (fns : ∀ (i : Nat) y f, c.fn[i]? = some y → S.fs[i]? = some f → FnB P w K mg base cls k y f)
    (gls : ∀ (i : Nat) y d, c.gl[i]? = some y → S.gs[i]? = some d → ∃ v u, mg y = some u ∧ RelV v u ∧ ∀ (a : An) F, a.K = K → Is a F d v)
    (bs : ∀ y ∈ c.bs, mg y = none)
    (h : ∀ ds Φ, f ds Φ → ds.length = ps.length ∧ wb S b (envS N (ds.map .leaf)) { nx := fun _ => Φ (.leaf .non), rt := fun t _ => Φ t })
    (hk : ∀ (a : An0) (X : Cx), HX P w K mg base cls k c.toCt a X → HkL a X c.toCt c.hp S.hs ∧ ShL a X c.toCt c.sp S.sh ∧ HtL a X c.toCt c.tp S.ht)
    (ob : ObB P w K mg base cls k c S := by exact obNil rfl rfl rfl rfl rfl)
    (h1 : c.xs = [] := by rfl) (h2 : c.rz = false := by rfl) (h3 : c.xc = [] := by rfl) (h4 : c.xt = false := by rfl) :
    FnG P w K mg base CX0 (k + 1) fa fd ps (spD K cls f) := by
  refine fnDx Fu sc hc ck fns gls bs h (fun a cdv A outer s H E aK ac lk gu hr => ?_) ob
  have hun := hr.un
  have xo : XOk a (cxOf CX0 P w K mg base N qual (defScope st) fa cdv A outer s H E).nox := ⟨aK.symm, rfl, sc.nd, gu, hr.hd, by
    show (A.deeper _).units + 200 < cLine
    omega, PassesOwn.never⟩
  have co : COk c.toCt (cxOf CX0 P w K mg base N qual (defScope st) fa cdv A outer s H E).nox := ⟨by rw [hc]; rfl, by rw [hc]; rfl, fun _ _ => rfl, fun x k _ h => by rw [hc] at h ⊢; exact h⟩
  obtain ⟨q1, q2, q3⟩ := hk a _ ⟨⟨rfl, rfl, rfl, rfl, rfl⟩, aK, ac, hr, xo, co, sc.kind⟩
  exact XpOk.hooks h1 h2 h3 h4 q1 q2 q3
end
end DL
namespace DL
open PySem PySem.Spec PyProof.Rows L2

theorem IsL.set {a : An} {F : Hp} {d : D} {y : V} : ∀ {ds : List D} {vs : List V} {j : Nat}, IsL a F ds vs → Is a F d y → IsL a F (ds.set j d) (vs.set j y)
  | [], vs, j, h, _ => by simp only [IsL] at h; subst h; simp [IsL]
  | x :: ds, vs, 0, h, i => by
    simp only [IsL] at h
    obtain ⟨v, r, rfl, h1, h2⟩ := h
    simp only [List.set_cons_zero, IsL]
    exact ⟨y, r, rfl, i, h2⟩
  | x :: ds, vs, j + 1, h, i => by
    simp only [IsL] at h
    obtain ⟨v, r, rfl, h1, h2⟩ := h
    simp only [List.set_cons_succ, IsL]
    exact ⟨v, _, rfl, h1, IsL.set h2 i⟩
section
variable {K : PySem.W.Frag} {bg : Option Addr} {cls : Nat → Option (Addr × List Str)} {F0 H0 : Hp} {X : Cx} {c : Cn} {S : Sg} {C x dx : Addr} {D : Ends}
end
section
variable {P : Program} {w : World} {K : PySem.W.Frag} {mg : Str → Option Value} {base : Heap} {cls : Nat → Option (Addr × List Str)} {k : Nat} {x qual : Str} {f : SpecF} {st : Stmt} {fa : Addr} {fd : FuncData} {N ps : List Str} {c : Cn} {S : Sg} {fs : List (Str × I)} {cl : Nat} {dvs : List V}
end

section
variable {X : Cx} {CX : CXT} {k : Nat} {f C p0 : Addr} {fd : FuncData} {ps : List Str} {sp : Sp} {E : XK} {x m : Str} {p pos apos : Pos} {e o : Expr} {es : List Expr} {ta : TE} {t : TA} {dvs : List V} {dss : List Value}
end
structure NwAtD (a : An0) (X : Cx) (x : Str) (f : SpecF) : Prop where
  ex : ∃ (C fa : Addr) (c : Nat) (ns : List Str) (fd : FuncData) (k : Nat) (ps : List Str) (dss : List Value), a.cls c = some (C, ns) ∧ Mk X.K C fa ∧ X.mg x = some (.ref C) ∧ FnG X.prog X.w X.K X.mg X.base CX0 k fa fd ps (spI a.K a.cls c f) ∧ Room (k + 1) X.A ∧ Binds X.K fd ps dss ∧ Vals [.non] dss
section
variable {a : An0} {X : Cx} {ρ : DL.Env} {Φ : T → Prop} {ct : Ct}
end
section
variable {P : Program} {w : World} {K : PySem.W.Frag} {mg : Str → Option Value} {base : Heap} {cls : Nat → Option (Addr × List Str)} {k j : Nat} {ct : Ct} {a : An0} {X : Cx}
/-- a class whose last parameter may be left out -/
noncomputable def NwPD (P : Program) (w : World) (K : PySem.W.Frag) (mg : Str → Option Value) (base : Heap) (cls : Nat → Option (Addr × List Str)) (k : Nat) (x : Str) (f : SpecF) : Prop := (∃ (C fa : Addr) (cl : Nat) (ns : List Str) (fd : FuncData) (j : Nat) (ps : List Str) (dss : List Value), j + 1 ≤ k ∧ cls cl = some (C, ns) ∧ Mk K C fa ∧ mg x = some (.ref C) ∧ FnG P w K mg base CX0 j fa fd ps (spI K cls cl f) ∧ Binds K fd ps dss ∧ Vals [.non] dss) ∧ Mono f
theorem NwPD.mono {x : Str} {f : SpecF} (h : NwPD P w K mg base cls j x f) (l : j ≤ k) : NwPD P w K mg base cls k x f := by
  obtain ⟨⟨C, fa, cl, ns, fd, i, ps, dss, q, r⟩, m⟩ := h
  exact ⟨⟨C, fa, cl, ns, fd, i, ps, dss, Nat.le_trans q l, r⟩, m⟩
theorem NwPD.at_ {x : Str} {f : SpecF} (m : NwPD P w K mg base cls k x f) (h : HX P w K mg base cls k ct a X) : NwAtD a X x f := by
  obtain ⟨⟨C, fa, cl, ns, fd, i, ps, dss, q, r1, r2, r3, r4, r5, r6⟩, _⟩ := m
  obtain ⟨e1, e2, e3, e4, e5⟩ := h.e
  refine ⟨⟨C, fa, cl, ns, fd, i, ps, dss, by rw [h.ec]; exact r1, by rw [e3]; exact r2, by rw [e4]; exact r3, ?_, Room.mono h.hr q, by rw [e3]; exact r5, r6⟩⟩
  rw [e1, e2, e3, e4, e5, h.eK, h.ec]
  exact r4
end
end DL
namespace DL
open PySem PySem.Spec PyProof.Rows L2

noncomputable def nmOk (ct : Ct) (i : Nat) (x : Str) : Bool := nameIs ct i x && (ct.vis x && plainName x)
section
variable {a : An0} {X : Cx} {ρ : Env} {σ : L2.St} {ts : List T} {vs : List V} {H F : Hp} {Sc Sm : List Addr} {Φ : T → Prop} {pos : Pos} {i : Nat} {ct : Ct}
theorem SW.leafAt {d : D} (w : SW a ρ σ ts vs H F Sc Sm) (e : ρ.at i = some (.leaf d)) : ∃ v, σ[i]? = some (some v) ∧ Is a.toAn F d v := by
  obtain ⟨v, S1, e1, h1, _⟩ := w.cells.get e
  simp only [Ow] at h1
  exact ⟨v, e1, h1.2⟩
theorem SW.intAt {n : Int} (w : SW a ρ σ ts vs H F Sc Sm) (e : ρ.at i = some (.leaf (.int n))) : σ[i]? = some (some (.int n)) := by
  obtain ⟨v, e1, h1⟩ := w.leafAt e
  simp only [Is] at h1
  rw [e1, h1]
end
end DL
namespace DL
open PySem PySem.Spec PyProof.Rows L2

noncomputable def c2 (ct : Ct) (fn bs : List Str) : Cn := { toCt := ct, fn := fn, gl := [], bs := bs }
noncomputable def S2 (fs : List SpecF) : Sg := { z := false, fs := fs, gs := [] }
/-- what stands under one's own form: defs and built-ins -/
structure Inn2 (a : An0) (X : Cx) (ct : Ct) (fn bs : List Str) (fs : List SpecF) : Prop where
  xo : XOk a X
  co : COk ct X
  kd : X.env.scope.kind = .function
  fns : ∀ (k : Nat) x f, fn[k]? = some x → fs[k]? = some f → FnAt a X x f ∧ Mono f
  bs : ∀ x ∈ bs, X.mg x = none
theorem Inn2.at {a : An0} {X : Cx} {ct : Ct} {fn bs : List Str} {fs : List SpecF} (g : Inn2 a X ct fn bs fs) {b : An0} {pn : List (Addr × Obj)} {xe : Value → Shared → Prop} (hb : b.toAn = a.toAn) (po : PassesOwn (model X.prog X.w) X.A X.env xe) : Good (c2 ct fn bs) (S2 fs) b (X.tr pn xe) :=
  have hK : b.K = a.K := by rw [hb]
  have hc : b.cls = a.cls := by rw [hb]
  ⟨⟨by rw [hb]; exact g.xo.K, g.xo.calm, g.xo.nd, g.xo.gu, g.xo.hd, g.xo.un, po⟩, ⟨g.co.N, g.co.sc, g.co.fn, g.co.keep⟩, fun h => (by cases h), g.kd,
    fun k x f h1 h2 => ⟨⟨by rw [hK, hc]; exact (g.fns k x f h1 h2).1.ex⟩, (g.fns k x f h1 h2).2⟩,
    fun k x f h => (by simp [c2] at h), g.bs, fun k x f h => (by simp [c2] at h), fun k x f h => (by simp [c2] at h), fun k x f h => (by simp [c2] at h), fun q h => (by simp [c2] at h), fun q h => (by simp [c2] at h), .off rfl⟩
theorem Inn2.run {a : An0} {X : Cx} {ct : Ct} {fn bs : List Str} {fs : List SpecF} {ρ : Env} {Φ : T → Prop} (g : Inn2 a X ct fn bs fs) {b : An0} {pn : List (Addr × Obj)} {xe : Value → Shared → Prop} (hb : b.toAn = a.toAn) (po : PassesOwn (model X.prog X.w) X.A X.env xe) {x : I} {e : Expr} (ok : okE (c2 ct fn bs) x e = true) (h : wE (S2 fs) x ρ Φ) : DE b (X.tr pn xe) ρ e Φ := by
  obtain ⟨Ψ, h1, h2⟩ := h
  exact fun σ H ts vs Q so k => soundE x (g.at hb po) ok h1 σ H ts vs Q so fun v t H' q so' => k v t H' (h2 t q) so'
theorem Env.at_other {y : Option T} : ∀ {ρ : Env} {i j : Nat}, i ≠ j → (ρ.put j y).at i = ρ.at i
  | [], i, j, h => by cases j <;> rfl
  | x :: ρ, 0, 0, h => absurd rfl h
  | x :: ρ, i + 1, 0, h => rfl
  | x :: ρ, 0, j + 1, h => rfl
  | x :: ρ, i + 1, j + 1, h => Env.at_other (ρ := ρ) (i := i) (j := j) fun e => h (by rw [e])
section
variable {a : An0} {X : Cx} {ρ : Env} {σ : L2.St} {ts : List T} {vs : List V} {H F : Hp} {Sc Sm : List Addr} {Φ : T → Prop} {pos : Pos} {i j : Nat} {ct : Ct}
end
end DL
namespace DL
open PySem PySem.Spec PyProof.Rows L2
noncomputable def RdK (a : An) (F : Hp) (f : Key → Option D) (kvs : List (Key × V)) : Prop := ∀ k : Key, match f k with
  | none => valV kvs k = none
  | some d => ∃ v, valV kvs k = some v ∧ Is a F d v
theorem RdK.mono {a : An} {F G : Hp} {f : Key → Option D} {kvs : List (Key × V)} (s : Sub F G) (h : RdK a F f kvs) : RdK a G f kvs := fun k => by
  have := h k
  cases e : f k with
  | none => simp only [e] at this ⊢; exact this
  | some d =>
    simp only [e] at this ⊢
    obtain ⟨v, h1, h2⟩ := this
    exact ⟨v, h1, h2.mono s⟩
section
variable {a : An0} {X : Cx} {ρ : Env} {σ : L2.St} {ts : List T} {vs : List V} {H F : Hp} {Sc Sm : List Addr} {Φ : T → Prop} {i : Nat} {ct : Ct}
end
end DL
namespace DL
open PySem PySem.Spec PyProof.Rows L2
noncomputable def prD (q : Int × D) : D := .tup [.int q.1, q.2]
section
variable {a : An0} {X : Cx} {F H : Hp}
end
end DL
namespace DL
open PySem PySem.Spec PyProof.Rows L2
noncomputable abbrev KvT := List (List Int × Int)
noncomputable def tk (k : List Int) : List Key := k.map Sum.inl
theorem tk_inj {a b : List Int} (h : tk a = tk b) : a = b := by
  unfold tk at h
  exact (List.map_inj_right (fun _ _ e => Sum.inl.inj e)).mp h
theorem tk_kV (k : List Int) : (tk k).map kV = k.map V.int := by
  unfold tk
  rw [List.map_map]
  rfl
noncomputable def entK (q : List Int × Int) : List Key × V := (tk q.1, V.int q.2)
noncomputable def kvO (kv : KvT) : List (List Key × V) := kv.map entK
noncomputable def valI : KvT → List Int → Option Int
  | [], _ => none
  | q :: r, k => if q.1 = k then some q.2 else valI r k
noncomputable def hasI (kv : KvT) (k : List Int) : Bool := kv.any fun q => decide (q.1 = k)
noncomputable def putI (kv : KvT) (k : List Int) (v : Int) : KvT := if hasI kv k = true then kv.map (fun q => if q.1 = k then (q.1, v) else q) else kv ++ [(k, v)]
theorem valV_kvO : ∀ (kv : KvT) (k : List Int), valV (kvO kv) (tk k) = (valI kv k).map V.int
  | [], k => rfl
  | q :: r, k => by
    show valV (entK q :: kvO r) (tk k) = (valI (q :: r) k).map V.int
    unfold valI
    by_cases e : q.1 = k
    · rw [if_pos e, valV_pos (by unfold entK; rw [e])]; rfl
    · rw [if_neg e, valV_neg (fun z => e (tk_inj z)), valV_kvO r k]
theorem kvO_any : ∀ (kv : KvT) (k : List Int), ((kvO kv).any fun p => decide (p.1 = tk k)) = hasI kv k
  | [], k => rfl
  | q :: r, k => by
    show (decide (tk q.1 = tk k) || (kvO r).any _) = (decide (q.1 = k) || hasI r k)
    rw [kvO_any r k]
    congr 1
    by_cases e : q.1 = k
    · rw [e, decide_eq_true rfl, decide_eq_true rfl]
    · rw [decide_eq_false (fun z => e (tk_inj z)), decide_eq_false e]
theorem kvO_put (kv : KvT) (k : List Int) (v : Int) : putK (kvO kv) (tk k) (.int v) = kvO (putI kv k v) := by
  unfold putK putI
  rw [kvO_any]
  split
  · unfold kvO
    rw [List.map_map, List.map_map]
    refine List.map_congr_left fun q _ => ?_
    show (if (entK q).1 = tk k then ((entK q).1, V.int v) else entK q) = entK (if q.1 = k then (q.1, v) else q)
    by_cases e : q.1 = k
    · rw [if_pos e, if_pos (by unfold entK; rw [e])]; rfl
    · rw [if_neg e]
      exact if_neg fun z => e (tk_inj z)
  · unfold kvO
    rw [List.map_append]
    rfl
theorem hasI_iff (kv : KvT) (k : List Int) : hasI kv k = true ↔ k ∈ kv.map (·.1) := by
  unfold hasI
  rw [List.any_eq_true]
  constructor
  · rintro ⟨q, h1, h2⟩
    exact List.mem_map.mpr ⟨q, h1, of_decide_eq_true h2⟩
  · intro h
    obtain ⟨q, h1, h2⟩ := List.mem_map.mp h
    exact ⟨q, h1, decide_eq_true h2⟩
theorem putI_fst (kv : KvT) (k : List Int) (v : Int) : (putI kv k v).map (·.1) = if hasI kv k = true then kv.map (·.1) else kv.map (·.1) ++ [k] := by
  unfold putI
  split
  · rw [List.map_map]
    refine List.map_congr_left fun q _ => ?_
    show (if q.1 = k then (q.1, v) else q).1 = q.1
    split <;> rfl
  · rw [List.map_append]; rfl
theorem putI_nodup (kv : KvT) (k : List Int) (v : Int) (h : (kv.map (·.1)).Nodup) : ((putI kv k v).map (·.1)).Nodup := by
  rw [putI_fst]
  split
  · exact h
  · rename_i z
    refine List.nodup_append.mpr ⟨h, by simp, fun a ha b hb e => ?_⟩
    rw [List.mem_singleton.mp hb] at e
    rw [e] at ha
    exact z ((hasI_iff kv k).mpr ha)
theorem putI_le (kv : KvT) (k : List Int) (v : Int) : (putI kv k v).length ≤ kv.length + 1 := by
  unfold putI
  split <;> simp
theorem valI_map (k : List Int) (v : Int) (j : List Int) : ∀ kv : KvT, valI (kv.map fun q => if q.1 = k then (q.1, v) else q) j = if j = k then (if hasI kv k = true then some v else none) else valI kv j
  | [] => by simp [valI, hasI]
  | q :: r => by
    have ih := valI_map k v j r
    rw [List.map_cons]
    unfold valI
    have hh : hasI (q :: r) k = (decide (q.1 = k) || hasI r k) := rfl
    by_cases e : q.1 = k
    · rw [if_pos e, hh, decide_eq_true e, Bool.true_or, if_pos rfl]
      show (if q.1 = j then some v else _) = _
      by_cases z : j = k
      · rw [if_pos z, if_pos (by rw [e, z])]
      · rw [if_neg z, if_neg (fun y => z (by rw [← y, e])), ih, if_neg z, if_neg (fun y => z (by rw [← y, e]))]
    · rw [if_neg e, hh, decide_eq_false e, Bool.false_or, ih]
      by_cases z : j = k
      · rw [if_pos z, if_pos z, if_neg (fun y => e (by rw [y, z]))]
      · rw [if_neg z, if_neg z]
theorem valI_app (k : List Int) (v : Int) (j : List Int) : ∀ kv : KvT, hasI kv k = false → valI (kv ++ [(k, v)]) j = if j = k then some v else valI kv j
  | [], _ => by
    unfold valI
    by_cases z : j = k
    · rw [List.nil_append, if_pos z]
      exact if_pos z.symm
    · rw [List.nil_append, if_neg z]
      exact if_neg fun e => z e.symm
  | q :: r, h => by
    have hh : hasI (q :: r) k = (decide (q.1 = k) || hasI r k) := rfl
    rw [hh, Bool.or_eq_false_iff] at h
    have ih := valI_app k v j r h.2
    rw [List.cons_append]
    unfold valI
    rw [ih]
    by_cases z : j = k
    · rw [if_pos z, if_pos z, if_neg (fun y => of_decide_eq_false h.1 (by rw [y, z]))]
    · rw [if_neg z, if_neg z]
theorem valI_put (kv : KvT) (k : List Int) (v : Int) (j : List Int) : valI (putI kv k v) j = if j = k then some v else valI kv j := by
  unfold putI
  split
  · rename_i h
    rw [valI_map, h, if_pos rfl]
  · rename_i h
    exact valI_app k v j kv (by simpa using h)
theorem valI_some {kv : KvT} {k : List Int} : (valI kv k).isSome = true ↔ k ∈ kv.map (·.1) := by
  induction kv with
  | nil => simp [valI]
  | cons q r ih =>
    unfold valI
    rw [List.map_cons, List.mem_cons]
    by_cases e : q.1 = k
    · rw [if_pos e]
      exact ⟨fun _ => .inl e.symm, fun _ => rfl⟩
    · rw [if_neg e, ih]
      exact ⟨.inr, fun z => z.elim (fun y => absurd y.symm e) id⟩
noncomputable def dtR (p : Addr) (kv : KvT) : Reg where
  P a F H v S := v = .ref p ∧ S = [p] ∧ H p = some (.dT (kvO kv))
  mono := fun ⟨e1, e2, h⟩ _ k => ⟨e1, e2, k p (by rw [e2]; exact List.mem_cons_self) _ h⟩
  adr := p
  ref := fun ⟨e, _⟩ => e
  there := fun ⟨_, e2, h⟩ q hq => by
    rw [e2] at hq
    obtain rfl := List.mem_singleton.mp hq
    exact ⟨_, h, fun _ z => nomatch z⟩
noncomputable def dtP (p : Addr) (kv : KvT) : PReg := ⟨dtR p kv, [p], fun h => h.2.1⟩
/-- {} -/
noncomputable def newTPat (_ : Ct) : Expr → Option (List Expr)
  | .Dict [] [] _ => some []
  | _ => none
noncomputable def newTV (_ : Env) (us : List T) (Φ : T → Prop) : Prop := us = [] ∧ ∀ p, Φ (.reg (dtR p []))
theorem hk_newT {a : An0} {X : Cx} {ct : Ct} : HkAt a X ct newTPat newTV := by
  intro b pn xe hb po e as hp ρ Φ h
  unfold newTPat at hp
  split at hp
  · cases hp
    intro σ H ts vs Q ok kk
    obtain ⟨F, Sc, Sm, w⟩ := ok
    exact ⟨_, pe_dnewT, fun p hp => kk _ _ _ (h.2 p) ⟨F, Sc, p :: Sm, SW.mkReg w hp ⟨rfl, rfl, upd_same⟩⟩⟩
  · cases hp
section
variable {a : An0} {X : Cx} {ρ : Env} {σ : L2.St} {ts : List T} {vs : List V} {H F : Hp} {Sc Sm : List Addr} {Φ : T → Prop} {pos : Pos} {i : Nat} {ct : Ct}
theorem SW.dtt {p : Addr} {kv : KvT} (w : SW a ρ σ ts vs H F Sc Sm) (e : ρ.at i = some (.reg (dtR p kv))) : σ[i]? = some (some (.ref p)) ∧ H p = some (.dT (kvO kv)) := by
  obtain ⟨v, S1, e1, h, _⟩ := w.cells.get e
  simp only [Ow] at h
  obtain ⟨rfl, _, h1⟩ := h
  exact ⟨e1, h1⟩
inductive KeyF where
  | tri (i j k : Nat)
  | cat (i j : Nat)
noncomputable def nmAt (ct : Ct) (i : Nat) : Expr → Bool
  | .Name x _ => nmOk ct i x
  | _ => false
theorem nmAt_inv {e : Expr} (h : nmAt ct i e = true) : ∃ x p, e = .Name x p ∧ nmOk ct i x = true := by
  cases e with
  | Name x p => exact ⟨x, p, rfl, h⟩
  | _ => exact nomatch (show false = true from h)
noncomputable def tupAt (ct : Ct) : List Nat → Expr → Bool
  | is, .Tuple es _ _ => es.length == is.length && (es.zip is).all fun q => nmAt ct q.2 q.1
  | _, _ => false
noncomputable def KeyF.ok (ct : Ct) : KeyF → Expr → Bool
  | .tri i j k, e => tupAt ct [i, j, k] e
  | .cat i j, .BinOp e .Add f _ => nmAt ct i e && tupAt ct [j] f
  | _, _ => false
theorem tupAt_inv {is : List Nat} {e : Expr} (h : tupAt ct is e = true) : ∃ es k p, e = .Tuple es k p ∧ (es.length == is.length && (es.zip is).all fun q => nmAt ct q.2 q.1) = true := by
  cases e with
  | Tuple es k p => exact ⟨es, k, p, rfl, h⟩
  | _ => exact nomatch (show false = true from h)
theorem KeyF.cat_inv {j : Nat} {e : Expr} (h : (KeyF.cat i j).ok ct e = true) : ∃ ea f p, e = .BinOp ea .Add f p ∧ (nmAt ct i ea && tupAt ct [j] f) = true := by
  cases e with
  | BinOp ea op f p =>
    cases op with
    | Add => exact ⟨ea, f, p, rfl, h⟩
    | _ => exact nomatch (show false = true from h)
  | _ => exact nomatch (show false = true from h)
noncomputable def KeyF.rd (ρ : Env) : KeyF → List Int → Prop
  | .tri i j k, ks => ∃ x y z, ks = [x, y, z] ∧ ρ.at i = some (.leaf (.int x)) ∧ ρ.at j = some (.leaf (.int y)) ∧ ρ.at k = some (.leaf (.int z))
  | .cat i j, ks => ∃ xs z, ks = xs ++ [z] ∧ xs ≠ [] ∧ xs.length ≤ 1000 ∧ ρ.at i = some (.leaf (.tup (xs.map .int))) ∧ ρ.at j = some (.leaf (.int z))
theorem pe_nm (co : COk ct X) {x : Str} {p : Pos} {pn : List (Addr × Obj)} {xe : Value → Shared → Prop} (h : nmOk ct i x = true) : PE (X.tr pn xe) (.Name x p) (tVar i) := by
  unfold nmOk at h
  simp only [Bool.and_eq_true] at h
  obtain ⟨x4, x5, _⟩ := plain_of h.2.2
  exact pe_var (X := X.tr pn xe) (nameIs_of (X := X) co h.1) (Ct.vis_of (X := X) co h.2.1) x4 x5
theorem key_at (xo : XOk a X) (co : COk ct X) {kf : KeyF} {ks : List Int} {e : Expr} {pn : List (Addr × Obj)} {xe : Value → Shared → Prop} (ho : kf.ok ct e = true) (hr : kf.rd ρ ks) (hK : a.toAn.K = X.K) :
    ∃ t, PE (X.tr pn xe) e t ∧ ∀ σ H ts vs (Q : VK), SOk a ρ σ ts vs H → (∀ p H', SOk a ρ σ ts vs H' → H' p = some (.tup (ks.map V.int)) → Q (.ref p) H') → t σ H Q := by
  cases kf with
  | tri i j k =>
    obtain ⟨x, y, z, rfl, e1, e2, e3⟩ := hr
    obtain ⟨es, tk0, tp0, rfl, hh⟩ := tupAt_inv (show tupAt ct [i, j, k] e = true from ho)
    · rw [Bool.and_eq_true] at hh
      obtain ⟨h1, h2⟩ := hh
      match es, h1, h2 with
      | [ea, eb, ec], _, h2 =>
        simp only [List.zip_cons_cons, List.zip_nil_right, List.all_cons, List.all_nil, Bool.and_true, Bool.and_eq_true] at h2
        obtain ⟨g1, g2, g3⟩ := h2
        obtain ⟨xa, pa, rfl, o1⟩ := nmAt_inv g1
        obtain ⟨xb, pb, rfl, o2⟩ := nmAt_inv g2
        obtain ⟨xc, pc, rfl, o3⟩ := nmAt_inv g3
        refine ⟨_, pe_tup (pa_cons (pe_nm co o1) (pa_cons (pe_nm co o2) (pa_cons (pe_nm co o3) pa_nil))), fun σ H ts vs Q ok k => ?_⟩
        obtain ⟨F, Sc, Sm, w⟩ := ok
        have a1 := w.intAt e1
        have a2 := w.intAt e2
        have a3 := w.intAt e3
        refine ⟨_, a1, _, a2, _, a3, by rw [sizeLine_eq]; show 3 ≤ _; omega, fun p hp => k p _ ⟨F, Sc, Sm, w.laid hp⟩ upd_same⟩
      | [], h1, _ => simp at h1
      | [_], h1, _ => simp at h1
      | [_, _], h1, _ => simp at h1
      | _ :: _ :: _ :: _ :: _, h1, _ => simp at h1
  | cat i j =>
    obtain ⟨xs, z, rfl, ne, lx, e1, e2⟩ := hr
    obtain ⟨ea, f, bp, rfl, hh⟩ := KeyF.cat_inv ho
    · · rw [Bool.and_eq_true] at hh
        obtain ⟨g1, g2⟩ := hh
        obtain ⟨xa, pa, rfl, o1⟩ := nmAt_inv g1
        obtain ⟨es, tk0, tp0, rfl, g3⟩ := tupAt_inv g2
        rw [Bool.and_eq_true] at g3
        obtain ⟨h1, h2⟩ := g3
        match es, h1, h2 with
        | [eb], _, h2 =>
          simp only [List.zip_cons_cons, List.zip_nil_right, List.all_cons, List.all_nil, Bool.and_true] at h2
          obtain ⟨xb, pb, rfl, o2⟩ := nmAt_inv h2
          refine ⟨_, pe_op (op_catT (X := X.tr pn xe)) (pe_nm co o1) (pe_tup (pa_cons (pe_nm co o2) pa_nil)), fun σ H ts vs Q ok k => ?_⟩
          obtain ⟨F, Sc, Sm, w⟩ := ok
          obtain ⟨v1, a1, i1⟩ := w.leafAt e1
          have a2 := w.intAt e2
          simp only [Is] at i1
          obtain ⟨q, ws, rfl, sq, il⟩ := i1
          obtain rfl := IsL.ints.mp il
          refine ⟨_, a1, _, a2, by rw [sizeLine_eq]; show 1 ≤ _; omega, fun p hp => ?_⟩
          have w1 := w.laid (o := .tup [.int z]) hp
          have s1 := sub_new (o := HO.tup [.int z]) hp
          refine ⟨q, p, xs.map V.int, [.int z], rfl, rfl, ?_, .inl (.inl upd_same), by simpa using ne, by rw [sizeLine_eq]; simp; omega, fun h => by simp at h, fun _ p2 hp2 => ?_⟩
          · have := sub_t (w.sub.trans s1) sq
            rw [hK] at this
            exact this
          · refine k p2 _ ⟨F, Sc, Sm, w1.laid hp2⟩ ?_
            rw [upd_same, List.map_append]
            rfl
        | [], h1, _ => simp at h1
        | _ :: _ :: _, h1, _ => simp at h1
end
end DL
namespace DL
open PySem PySem.Spec PyProof.Rows L2
section
variable {a : An0} {X : Cx} {ρ : Env} {σ : L2.St} {ts : List T} {vs : List V} {H F : Hp} {Sc Sm : List Addr} {Φ : T → Prop} {pos : Pos} {i : Nat} {ct : Ct}
noncomputable def accPat (i : Nat) (kf : KeyF) (fn bs : List Str) (xI : I) (ct : Ct) : Stmt → Option (List Expr)
  | .Assign [.Subscript (.Name n _) k1 _] (.BinOp (.Call (.Attribute (.Name m _) g ap) [k2, .Constant (.int z) _ _] [] cp) .Add e _) _ =>
    if nmOk ct i n && (nmOk ct i m && ((g == ("get" : Str)) && ((z == 0) && ((ap.endLine == cp.line) && (kf.ok ct k1 && (kf.ok ct k2 && (notStar k2 && (notSlice k1 && okE (c2 ct fn bs) xI e)))))))) then some [] else none
  | _ => none
noncomputable def accR (i : Nat) (kf : KeyF) (fs : List SpecF) (xI : I) (ρ : Env) (us : List T) (K : EnD) : Prop := ∃ p kv ks, ρ.at i = some (.reg (dtR p kv)) ∧ kf.rd ρ ks ∧ kv.length ≤ 9000 ∧
  wE (S2 fs) xI ρ fun t => ∃ f, t.dat = .int f ∧ K.nx (ρ.put i (some (.reg (dtR p (putI kv ks ((valI kv ks).getD 0 + f))))))
theorem dgetT_val {kv : KvT} {ks : List Int} : ((valV (kvO kv) (tk ks)).getD (V.int 0)) = .int ((valI kv ks).getD 0) := by
  rw [valV_kvO]
  cases valI kv ks <;> rfl
theorem sh_acc {kf : KeyF} {fn bs : List Str} {fs : List SpecF} {xI : I} (g : Inn2 a X ct fn bs fs) : ShAt a X ct (accPat i kf fn bs xI) (accR i kf fs xI) := by
  refine ⟨fun ρ us K K' l ⟨p, kv, ks, e1, e2, e3, h⟩ => ⟨p, kv, ks, e1, e2, e3, h.mono fun t ⟨f, e4, q⟩ => ⟨f, e4, l.nx _ q⟩⟩, fun b pn xe hb hM hW po s as hp ρ K h => ?_⟩
  unfold accPat at hp
  split at hp
  · rename_i n np k1 sp m mp gt ap k2 z zk zp cp e bp pos
    split at hp
    · rename_i hc
      simp only [Bool.and_eq_true, beq_iff_eq] at hc
      obtain ⟨c1, c2, c3, c4, c5, c6, c7, c8, c9, c10⟩ := hc
      cases hp
      subst c3 c4
      obtain ⟨p, kv, ks, e1, e2, e3, h⟩ := h
      intro σ H D ok mm
      have hK : b.toAn.K = X.K := by rw [hb]; exact g.xo.K.symm
      obtain ⟨t1, p1, k1'⟩ := key_at (a := b) (ρ := ρ) (pn := pn) (xe := xe) ⟨by rw [hb]; exact g.xo.K, g.xo.calm, g.xo.nd, g.xo.gu, g.xo.hd, g.xo.un, g.xo.po⟩ g.co c6 e2 hK
      obtain ⟨t2, p2, k2'⟩ := key_at (a := b) (ρ := ρ) (pn := pn) (xe := xe) ⟨by rw [hb]; exact g.xo.K, g.xo.calm, g.xo.nd, g.xo.gu, g.xo.hd, g.xo.un, g.xo.po⟩ g.co c7 e2 hK
      have hu : (X.tr pn xe).A.units + 1 < cLine := by have := g.xo.un; show X.A.units + 1 < cLine; omega
      have st : starEach [k2, .Constant (.int 0) zk zp] (X.tr pn xe).env = [(false, eval k2 (X.tr pn xe).env), (false, eval (.Constant (.int 0) zk zp) (X.tr pn xe).env)] := by
        rw [star_of c8, star_of rfl]; rfl
      refine ⟨_, ps_dput hu (pe_nm g.co c1) p1 (pe_add (pe_dget2 (X := X.tr pn xe) hu (pe_nm g.co c2) p2 pe_int ⟨attr_ok rfl, by rw [st]; rfl, by rw [beq_iff_eq]; exact c5, by rw [st]; rfl⟩) pe_W) (noswap rfl), ?_⟩
      have ok0 := ok
      obtain ⟨F, Sc, Sm, w⟩ := ok
      obtain ⟨s1, s2⟩ := w.dtt e1
      show tDGet2 (tVar i) t2 (tC (.int 0)) σ H fun x H1 => WE (X.tr pn xe) e σ H1 fun y H2 => ∃ u v, x = .int u ∧ y = .int v ∧ tVar i σ H2 fun o H3 => t1 σ H3 fun y' H4 => ∃ d H5, o = .ref d ∧ DPut H4 d y' (.int (u + v)) H5 ∧ D.nx σ H5
      refine ⟨_, s1, p, rfl, .inr ⟨_, .inl s2⟩, ?_⟩
      refine k2' σ H [] [] _ ok0 fun q H1 ok1 hq => ?_
      have ok1' := ok1
      obtain ⟨F1, Sc1, Sm1, w1⟩ := ok1
      obtain ⟨r1, r2⟩ := w1.dtt e1
      refine ⟨valV (kvO kv) (tk ks), DGet.t r2 (by rw [tk_kV]; exact hq), ?_⟩
      rw [dgetT_val]
      have dd := g.run (b := b) (pn := pn) (xe := xe) hb po c10 h
      refine dd σ H1 [] [] _ ok1' fun v t H2 ⟨f, et, hn⟩ ok2 => ?_
      have iv := ok2.top
      rw [et] at iv
      refine ⟨_, f, rfl, iv.int, ?_⟩
      have ok3 := ok2.pop1
      have ok3' := ok3
      obtain ⟨F2, Sc2, Sm2, w2⟩ := ok3
      obtain ⟨u1, u2⟩ := w2.dtt e1
      refine ⟨_, u1, ?_⟩
      refine k1' σ H2 [] [] _ ok3' fun q2 H3 ok4 hq2 => ?_
      obtain ⟨F3, Sc3, Sm3, w3⟩ := ok4
      obtain ⟨v1, v2⟩ := w3.dtt e1
      refine ⟨p, _, rfl, DPut.t v2 (by rw [tk_kV]; exact hq2) (by unfold kvO; rw [List.length_map, sizeLine_eq]; omega), ?_⟩
      rw [kvO_put]
      have w4 : SW b ρ σ [] [] H3 F3 Sc3 Sm3 := w3
      exact mm.1 _ σ _ hn (w4.storeP (R := dtP p kv) (R' := dtP p (putI kv ks ((valI kv ks).getD 0 + f))) (p := p) hW e1 List.mem_cons_self (fun v5 ⟨z1, z2, z3⟩ => ⟨z1, z2, upd_same⟩) fun _ z => nomatch z)
    · cases hp
  · cases hp
end
noncomputable def encT (q : List Int × Addr) : PyData := .tuple (q.1.map .int)
noncomputable def srtK (kv : KvT) : List (List Int) := (kv.map (·.1)).mergeSort fun x y => decide (x ≤ y)
theorem dataLe_tups {β : Type} (x : β → List Int) : PySem.W.dataLe false (fun b => .tuple ((x b).map .int)) = fun p q => decide (x p ≤ x q) := by
  funext p q
  show (!PySem.W.dataLt (.tuple ((x q).map .int)) (.tuple ((x p).map .int))) = _
  rw [PySem.W.dataLt_tuple]
  show (!PySem.W.rowLt ((x q).map .int) ((x p).map .int)) = _
  rw [PySem.W.dataLt_ints]
  by_cases h : x q < x p
  · have h' : ¬ x p ≤ x q := fun r => List.not_lt.mpr r h
    simp [h, h']
  · have h' : x p ≤ x q := List.not_lt.mp h
    simp [h, h']
theorem keys_of : ∀ {kv : KvT} {bs : List Addr} {H : Hp}, IsKeys H (kvO kv) bs → (kv.map (·.1)).length = bs.length ∧ ∀ q ∈ (kv.map (·.1)).zip bs, H q.2 = some (.tup (q.1.map V.int))
  | [], [], H, _ => ⟨rfl, fun q h => by simp at h⟩
  | q :: r, b :: bs, H, h => by
    cases h with
    | cons h1 h2 =>
      obtain ⟨e1, e2⟩ := keys_of (kv := r) h2
      refine ⟨by simpa using e1, fun z hz => ?_⟩
      rw [List.map_cons, List.zip_cons_cons] at hz
      rcases List.mem_cons.mp hz with rfl | hz
      · rw [← tk_kV]; exact h1
      · exact e2 z hz
  | [], _ :: _, H, h => by cases h
  | _ :: _, [], H, h => by cases h
theorem reads_ints {h : Heap} : ∀ {xs : List Int} {its : List Value}, Vals (xs.map V.int) its → ReadsAll h its (xs.map PyData.int) []
  | [], its, r => by cases r; exact .nil
  | x :: xs, its, r => by
    cases r with
    | cons r t =>
      obtain ⟨tg, rfl⟩ := r
      exact .cons (.int _ _) (reads_ints t)
noncomputable def rSortDT : List V → Hp → VK → Prop := fun vs H Q => ∃ (d : Addr) (kv : KvT), vs = [.ref d] ∧ H d = some (.dT (kvO kv)) ∧ kv.length ≤ 9000 ∧ (∀ q ∈ kv, q.1 ≠ []) ∧
  ∀ (p : Addr) (bs : List (List Int × Addr)), H p = none → bs.map (·.1) = srtK kv → (∀ q ∈ bs, H q.2 = some (.tup (q.1.map V.int))) → Q (.ref p) (upd H p (.lst (bs.map fun q => V.ref q.2)))
theorem zip_fst {α β : Type} : ∀ (as : List α) (bs : List β), as.length = bs.length → (as.zip bs).map (·.1) = as
  | [], _, _ => by simp
  | a :: as, [], h => by simp at h
  | a :: as, b :: bs, h => by
    rw [List.zip_cons_cons, List.map_cons, zip_fst as bs (by simpa using h)]
theorem zip_snd {α β : Type} : ∀ (as : List α) (bs : List β), as.length = bs.length → (as.zip bs).map (·.2) = bs
  | [], [], _ => by simp
  | [], b :: bs, h => by simp at h
  | a :: as, [], h => by simp at h
  | a :: as, b :: bs, h => by
    rw [List.zip_cons_cons, List.map_cons, zip_snd as bs (by simpa using h)]
theorem each_self {α β : Type} {R : β → α → Prop} (f : α → β) : ∀ as : List α, (∀ a ∈ as, R (f a) a) → PySem.W.EachIs R (as.map f) as
  | [], _ => .nil
  | a :: as, h => .cons (h a List.mem_cons_self) (each_self f as fun b hb => h b (List.mem_cons_of_mem _ hb))
theorem each_eq {α β : Type} (f : α → β) : ∀ {us : List β} {as : List α}, PySem.W.EachIs (fun u a => u = f a) us as → us = as.map f
  | _, _, .nil => rfl
  | _, _, .cons h t => by rw [List.map_cons, ← h, each_eq f t]
theorem cr_sortedDT {X : Cx} (hc : X.calm = true) (xu : X.A.units + 200 < cLine) : CallR X (.builtin "sorted") rSortDT := by
  intro pins s σ H xs us Q I r h
  obtain ⟨d, kv, rfl, hd, hz, hne, q⟩ := h
  obtain ⟨u, rfl, rx⟩ := r.one
  cases rx
  obtain ⟨z, hs, ks, pr, o, es, ep, ho, hx, hdt, he, hn⟩ := (show ObjOk X.prog X.w H s.heap d (.dT (kvO kv)) from I.hok d _ hd)
  have l1 : es.size = ks.length := size_of_entries he
  have l2 : (kvO kv).length = ks.length := Paired.length pr
  have l3 : (kvO kv).length = kv.length := by unfold kvO; rw [List.length_map]
  refine Calls.call_function_entry PyProof.Rows.kind_sorted PyProof.Rows.plain_sorted PyProof.Rows.entry_sorted (PyProof.Rows.args_sorted1 _) ?_
  unfold Builtin.«sorted»
  refine wpAny_bind (m := checkCount "sorted" 1 1 _) (wpAny_pure ?_)
  refine wpAny_bind (PySem.W.kdu_collect (A := X.A.in1) (kdl_raw hs hx hdt) (I.ok.hd hc) ho (by rw [sizeLine_eq]; omega) fun h' tk acc hk it => ?_)
  have ea : acc.toList = ks.map fun x => Value.ref x.2.1 := by
    have hl : acc.toList.length = ks.length := by rw [Array.length_toList, it.1]; exact l1
    apply List.ext_getElem?
    intro j
    rw [List.getElem?_map]
    cases hj : acc.toList[j]? with
    | none =>
      have h1 := List.getElem?_eq_none_iff.mp hj
      rw [List.getElem?_eq_none (by omega)]
      all_goals rfl
    | some v =>
      obtain ⟨en, hen, hv⟩ := it.2 j v (by rw [← Array.getElem?_toList]; exact hj)
      have qe := entry_at he j
      rw [hen] at qe
      cases hb : ks[j]? with
      | none =>
        rw [hb] at qe
        exact nomatch (show some en = none from qe)
      | some b =>
        rw [hb] at qe
        have e2 : en = entryOfKey (tupleKind (mixKind X.prog X.w)) b := Option.some.inj qe
        rw [hv, e2]
        all_goals rfl
  obtain ⟨kl, km⟩ := keys_of (isKeys_of pr)
  generalize eb : ((kv.map (·.1)).zip (ks.map fun x => x.2.1)) = bs at km
  have f1 : bs.map (·.1) = kv.map (·.1) := by rw [← eb]; exact zip_fst _ _ kl
  have f2 : bs.map (·.2) = ks.map fun x => x.2.1 := by rw [← eb]; exact zip_snd _ _ kl
  have ea2 : acc.toList = bs.map fun q => Value.ref q.2 := by
    rw [ea]
    have e1 : (bs.map fun q => Value.ref q.2) = (bs.map (·.2)).map Value.ref := by rw [List.map_map]; rfl
    rw [e1, f2, List.map_map]
    rfl
  have lb : bs.length = kv.length := by
    have := congrArg List.length f1
    simpa using this
  have I1 : Inv X pins σ H { s with heap := h', toks := tk } := I.kept hk
  refine wpAny_bind (wpAny_newList ?_ (by rw [ea2, List.length_map, lb, sizeLine_eq]; omega))
  have hoL : (h'.push (seqObj "list" acc.toList.toArray 0)).get? h'.objs.size = some (seqObj "list" acc.toList.toArray 0) := Heap.get?_push_size _ rfl
  show wpAny _ _ _ _ _ { s with heap := h'.push (seqObj "list" acc.toList.toArray 0), toks := tk }
  have er : PySem.W.EachIs (fun v b => ∃ as, Reads (h'.push (seqObj "list" acc.toList.toArray 0)) v (encT b) as ∧ h'.objs.size ∉ as) acc.toList bs := by
    rw [ea2]
    refine each_self _ _ fun b hb => ?_
    obtain ⟨_, its, rv, ob, g1, g2, n, g3⟩ := (show ObjOk X.prog X.w H h' b.2 (.tup (b.1.map V.int)) from I1.hok _ _ (km b hb))
    refine ⟨[], ?_, by simp⟩
    exact .tuple (Heap.get?_push_of_some _ g1) g2 g3 (reads_ints rv)
  refine wpAny_bind (wpAny_holding (PySem.W.list_sort_data (s := { s with heap := h'.push (seqObj "list" acc.toList.toArray 0), toks := tk }) (R := fun u b => u = Value.ref b.2) (enc := encT) (bs := bs) hoL (by rw [ea2]; exact each_self _ _ fun _ _ => rfl) er
    (PySem.W.AllAlike.of fun b b' => by unfold encT; simp only [PySem.W.alike]; exact PySem.W.alike_ints _ _) (.inl fun d hd => ?_) (by rw [lb, sizeLine_eq]; omega) (fun b hb => ?_) fun out lo eo => ?_))
  · obtain ⟨b, hb, rfl⟩ := List.mem_map.mp hd
    have : b.1 ∈ bs.map (·.1) := List.mem_map.mpr ⟨b, hb, rfl⟩
    rw [f1] at this
    obtain ⟨q, hq, e⟩ := List.mem_map.mp this
    have ne := hne q hq
    rw [e] at ne
    cases e3 : b.1 with
    | nil => exact absurd e3 ne
    | cons x r => exact ⟨.int x, r.map .int, by unfold encT; rw [e3]; rfl⟩
  · have e1 : (encT b).depth ≤ 1 := by
      unfold encT
      simp only [PyData.depth, PySem.W.depth_ints]
      omega
    have e2 : X.A.in1.units ≤ X.A.units + 64 := by show X.A.units + 1 ≤ _; omega
    omega
  obtain ⟨e', he'⟩ := PyProof.Rows.sortedHeap_at (vs := acc.toList) (out := out.toArray) hoL
  have eo2 := each_eq (fun b : List Int × Addr => Value.ref b.2) eo
  have pm := List.mergeSort_perm bs (PySem.W.dataLe false encT)
  generalize es2 : bs.mergeSort (PySem.W.dataLe false encT) = sb at eo2 pm
  have hm1 : sb.map (·.1) = srtK kv := by
    unfold srtK
    rw [← f1, ← es2]
    unfold encT
    rw [dataLe_tups]
    exact List.map_mergeSort (fun _ _ _ _ => rfl)
  have hm2 : ∀ q ∈ sb, H q.2 = some (.tup (q.1.map V.int)) := fun q hq => km q (pm.mem_iff.mp hq)
  have hlen : (sb.map fun q => V.ref q.2).length ≤ sizeLine := by
    rw [List.length_map, pm.length_eq, lb, sizeLine_eq]
    omega
  refine wpAny_pure ⟨_, rfl, .ref h'.objs.size, upd H h'.objs.size (.lst (sb.map fun q => V.ref q.2)), I1.laid (t' := tk) (fun b u e => ?_) (Nat.le_refl _)
    (show ObjOk X.prog X.w _ _ _ (.lst (sb.map fun q => V.ref q.2)) from ⟨hlen, out, e', ?_, he'⟩), rfl, q _ sb (I1.hok.fresh (Nat.le_refl _)) hm1 hm2⟩
  · have hb : b < h'.objs.size := Heap.lt_size e
    rw [PyProof.Rows.sortedHeap_old (Nat.ne_of_lt hb) (by rw [size_push']; exact Nat.lt_succ_of_lt hb)]
    exact Heap.get?_push_of_some _ e
  · rw [eo2]
    have e1 : (sb.map fun q => V.ref q.2) = (sb.map (·.2)).map V.ref := by rw [List.map_map]; rfl
    have e2 : (sb.map fun q => Value.ref q.2) = (sb.map (·.2)).map Value.ref := by rw [List.map_map]; rfl
    rw [e1, e2]
    exact vals_refs _
end DL
namespace DL
open PySem PySem.Spec PyProof.Rows L2
section
variable {a : An0} {X : Cx} {ρ : Env} {σ : L2.St} {ts : List T} {vs : List V} {H F : Hp} {Sc Sm : List Addr} {Φ : T → Prop} {pos : Pos} {i j : Nat} {ct : Ct}
theorem Env.at_putL {y : Option T} : ∀ {ρ : Env} {i : Nat}, i < ρ.length → (ρ.put i y).at i = y
  | [], i, h => by simp at h
  | x :: ρ, 0, h => rfl
  | x :: ρ, i + 1, h => Env.at_putL (ρ := ρ) (i := i) (by simpa using h)
theorem nhT (w : SW a ρ σ ts vs H F Sc Sm) {q : Addr} {xs : List V} (z : a.toAn.hid q) (e : H q = some (.tup xs)) : False := by
  rcases z with z | ⟨n, z⟩
  · obtain ⟨_, _, _, _, _, e1, _⟩ := w.bag.bag q z
    rw [e] at e1; cases e1
  · obtain ⟨_, e1, _⟩ := w.bag.tab q n z
    rw [e] at e1; cases e1
noncomputable def kinkPat (i j : Nat) (ct : Ct) : Expr → Option (List Expr)
  | .ListComp (.BinOp (.Name k1 _) .Add (.Tuple [.Subscript (.Name d1 _) (.Name k2 _) _] _ _) _) [⟨.Name k3 _, .Call (.Name f _) [.Name d2 _] [] _, [], 0⟩] scope _ =>
    if blkC ct.N ct.sc scope (ownOf (c2 ct [] []) [j]) && (decide ((ownOf (c2 ct [] []) [j]).map (·.2) = [j]) && (okG (ct.inn scope) (.nm j) (.Name k3 ⟨0, 0, 0, 0⟩) && ((f == ("sorted" : Str)) && (ct.glo "sorted" && (nmOk ct i d2 && (nmOk (ct.inn scope) i d1 && (nmOk (ct.inn scope) j k1 && (nmOk (ct.inn scope) j k2 && !(i == j))))))))) then some [] else none
  | _ => none
noncomputable def kinkD (kv : KvT) (k : List Int) : D := .tup ((k ++ [(valI kv k).getD 0]).map .int)
noncomputable def kinkV (i j : Nat) (ρ : Env) (us : List T) (Φ : T → Prop) : Prop := us = [] ∧ j < ρ.length ∧ ∃ p kv, ρ.at i = some (.reg (dtR p kv)) ∧ kv.length ≤ 9000 ∧ (∀ q ∈ kv, q.1 ≠ [] ∧ q.1.length ≤ 1000) ∧ ρ.wipes [j] = ρ ∧ Φ (.lst ((srtK kv).map fun k => .leaf (kinkD kv k)))
theorem pe_nmB (co : COk ct X) {x : Str} {p : Pos} (h : nmOk ct i x = true) : PE X (.Name x p) (tVar i) := by
  unfold nmOk at h
  simp only [Bool.and_eq_true] at h
  obtain ⟨x4, x5, _⟩ := plain_of h.2.2
  exact pe_var (nameIs_of co h.1) (Ct.vis_of co h.2.1) x4 x5
theorem okG_pos {c : Ct} {x : Str} {p q : Pos} (h : okG c (.nm j) (.Name x p) = true) : okG c (.nm j) (.Name x q) = true := h
theorem hk_kink (xo : XOk a X) (co : COk ct X) (hm : X.mg "sorted" = none) : HkAt a X ct (kinkPat i j) (kinkV i j) := by
  intro b pn xe hb0 po e as hp ρ Φ h
  unfold kinkPat at hp
  split at hp
  · rename_i k1 k1p d1 d1p k2 k2p sp tq tp bp k3 k3p f fp d2 d2p cp scope lp
    split at hp
    · rename_i hc
      simp only [Bool.and_eq_true, decide_eq_true_eq] at hc
      obtain ⟨c1, c2', c3, c4, c5, c6, c7, c8, c9, c10⟩ := hc
      have c4 := beq_iff_eq.mp c4
      subst c4
      have ij : i ≠ j := by simpa using c10
      cases hp
      obtain ⟨-, jl, p, kv, e1, hl, hne, wp, hΦ⟩ := h
      intro σ H ts vs Q ok kk
      have co' : COk ct (X.tr pn xe) := ⟨co.N, co.sc, co.fn, co.keep⟩
      have xo' : XOk b (X.tr pn xe) := ⟨by rw [hb0]; exact xo.K, xo.calm, xo.nd, xo.gu, xo.hd, xo.un, po⟩
      have bo : BlkOk (X.tr pn xe).N (X.tr pn xe).env.scope scope (ownOf (c2 ct [] []) [j]) := by
        rw [co'.N, co'.sc]
        exact blkOk_by c1
      have xu : (X.tr pn xe).A.units + 200 < cLine := xo'.un
      refine ⟨_, pe_lc (own := ownOf (c2 ct [] []) [j]) xo'.calm xo'.nd (pi_list (pe_callB (cr_sortedDT xo'.calm xu) (Ct.glo_of co' c5) hm (by decide +kernel) (pa_cons (pe_nmB co' c6) pa_nil) (by decide) (by decide) rfl rfl)) bo gB_ok tB_ok eB_ok (fun _ => rfl), ?_⟩
      rw [c2']
      have ok0 := ok
      obtain ⟨F, Sc, Sm, w⟩ := ok
      obtain ⟨s1, s2⟩ := w.dtt e1
      unfold tLc iList tCB tCons tNil tVar rSortDT
      refine ⟨_, s1, p, kv, rfl, s2, hl, fun q hq => (hne q hq).1, fun l bs hln hk hbs => ⟨l, rfl, ⟨_, .inl (.inl upd_same)⟩, fun D hD => ?_⟩⟩
      have w1 := w.laid (o := .lst (bs.map fun q => V.ref q.2)) hln
      have nhl : ¬ b.toAn.hid l := (w.fresh hln).2.2
      have hll : upd H l (.lst (bs.map fun q => V.ref q.2)) l = some (.lst (bs.map fun q => V.ref q.2)) := upd_same
      have hbs1 : ∀ q ∈ bs, upd H l (.lst (bs.map fun q => V.ref q.2)) q.2 = some (.tup (q.1.map V.int)) := fun q hq => sub_new (o := HO.lst (bs.map fun q => V.ref q.2)) hln _ _ (hbs q hq)
      generalize upd H l (.lst (bs.map fun q => V.ref q.2)) = H1 at w1 hll hbs1 hD ⊢
      have w0 := w1.on (Sub.refl F)
      obtain ⟨Sm0, w2⟩ := SW.mkLst (us := []) (ws := []) (p := D) w0 rfl rfl hD
      have hW : ∀ G' ∈ (b.on H1 F).W, hb b.toAn G' D = none := fun G' hG' => by
        cases e : hb b.toAn G' D with
        | none => rfl
        | some o =>
          have := hb_sub _ _ D o (w0.wit G' hG' D o e)
          rw [hD] at this; cases this
      have vis1 : hb b.toAn H1 l = some (.lst (bs.map fun q => V.ref q.2)) := by
        unfold hb
        rw [if_neg nhl]
        exact hll
      have vis2 : ∀ q ∈ bs, hb b.toAn H1 q.2 = some (.tup (q.1.map V.int)) := fun q hq => by
        unfold hb
        rw [if_neg fun z => ?_]
        · exact hbs1 q hq
        · exact nhT w1 z (hbs1 q hq)
      have len : (bs.map fun q => V.ref q.2).length = bs.length := by rw [List.length_map]
      have wk := walk_list (K := (X.tr pn xe).K) (a := l) (xs := bs.map fun q => V.ref q.2)
      rw [len] at wk
      refine lc_it wk (g := gB (X.tr pn xe) scope _) (tt := tB' (X.tr pn xe) scope []) (te := eB (X.tr pn xe) scope _) (vs := [j]) (σ := σ) (Qd := fun H => Q (.ref D) H) (fun t H => ∃ F2 Sc2 Sm2, SW (b.on H1 F) ρ σ (.lst ((bs.take t).map fun q => .leaf (kinkD kv q.1)) :: ts) (.ref D :: vs) H F2 Sc2 Sm2)
        ⟨F, Sc, Sm0, by simpa using w2⟩ (fun t H _ ⟨F2, Sc2, Sm2, w3⟩ => .inl (.inl (hb_sub _ _ _ _ (w3.wit H1 List.mem_cons_self _ _ vis1)))) ?_ ?_
      · rintro t x H2 H3 ht ⟨F2, Sc2, Sm2, w3⟩ ⟨rfl, hx⟩
        rw [List.getElem?_map, List.getElem?_eq_getElem ht] at hx
        obtain rfl := (Option.some.inj hx).symm
        have w4 : SW (b.on H1 F) ρ σ (.leaf (.opq bs[t].2) :: .lst ((bs.take t).map fun q => .leaf (kinkD kv q.1)) :: ts) (.ref bs[t].2 :: .ref D :: vs) H3 F2 Sc2 Sm2 := w3.leaf (by simp only [Is])
        obtain ⟨Sc4, w5⟩ := w4.wipe [j]
        rw [wp] at w5
        intro s0 H0 C0 cl0 fp0
        refine dg (c := ct.inn scope) (g := .nm j) (ρ' := ρ.put j (some (.leaf (.opq bs[t].2)))) (xo'.on.blk) (co'.blk (scope := scope)) (okG_pos c3) rfl ⟨F2, Sc4, Sm2, w5⟩ (by simp only [bindG]; rw [if_pos jl]) fun σ2 ok5 e5 => ⟨?_, fun s1' H1' C1 cl1 fp1 => ?_⟩
        · have := e5 [j] (fun i hi => hi)
          rw [this, wipe_sub _ _ _ fun v h => h]
        · refine ⟨_, pts_nil, ?_⟩
          unfold tYes
          dsimp only
          rw [if_pos rfl]
          intro s2' H2' C2 cl2 fp2
          have coB := co'.blk (scope := scope) (s := s2') (H := H2') (C := C2) (cl := cl2) (fp := fp2)
          have hu : (Blk (X.tr pn xe) scope s2' H2' C2 cl2 fp2).A.units + 1 < cLine := by show X.A.units + 1 < cLine; have := xo.un; omega
          refine ⟨_, pe_op (op_catT (X := Blk (X.tr pn xe) scope s2' H2' C2 cl2 fp2)) (pe_nmB coB c8) (pe_tup (pa_cons (pe_dget hu (pe_nmB coB c7) (pe_nmB coB c9) (nosl_of (b := .Name k2 k2p) rfl)) pa_nil)), ?_⟩
          obtain ⟨F6, Sc6, Sm6, w6⟩ := ok5
          have a1 : σ2[j]? = some (some (.ref bs[t].2)) := by
            obtain ⟨v, z1, z2⟩ := w6.leafAt (d := .opq bs[t].2) (show (ρ.put j (some (.leaf (.opq bs[t].2)))).at j = some (.leaf (.opq bs[t].2)) from Env.at_putL jl)
            simp only [Is] at z2
            rw [z1, z2]
          have e1' : (ρ.put j (some (.leaf (.opq bs[t].2)))).at i = some (.reg (dtR p kv)) := by rw [Env.at_other ij]; exact e1
          obtain ⟨a2, a3⟩ := w6.dtt e1'
          have hkey : H3 bs[t].2 = some (.tup (bs[t].1.map V.int)) := hb_sub _ _ _ _ (w6.wit H1 List.mem_cons_self _ _ (vis2 _ (List.getElem_mem ht)))
          have hmem : bs[t].1 ∈ kv.map (·.1) := by
            have h1 : bs[t].1 ∈ bs.map (·.1) := List.mem_map.mpr ⟨_, List.getElem_mem ht, rfl⟩
            rw [hk] at h1
            exact (List.mergeSort_perm _ _).mem_iff.mp h1
          obtain ⟨q0, hq0, eq0⟩ := List.mem_map.mp hmem
          have hne1 := hne q0 hq0
          rw [eq0] at hne1
          obtain ⟨n, hn⟩ := Option.isSome_iff_exists.mp (valI_some.mpr hmem)
          show tVar j σ2 H3 fun x H4 => tTup (tCons (tDGet (tVar i) (tVar j)) tNil) σ2 H4 fun y H5 => rCatT (X.tr pn xe).K x y H5 _
          refine ⟨_, a1, _, a2, _, a1, p, .int n, rfl, ?_, by rw [sizeLine_eq]; show 1 ≤ _; omega, fun q hq => ?_⟩
          · have := DGet.t (k := tk bs[t].1) a3 (by rw [tk_kV]; exact hkey)
            rw [valV_kvO, hn] at this
            exact this
          · have w7 := w3.laid (o := .tup [.int n]) hq
            have s7 := sub_new (o := HO.tup [.int n]) hq
            refine ⟨_, q, bs[t].1.map V.int, [.int n], rfl, rfl, .inl (.inl (s7 _ _ hkey)), .inl (.inl upd_same), by simpa using hne1.1, by rw [sizeLine_eq]; simp; omega, fun z => by simp at z, fun _ p2 hp2 => ?_⟩
            have w8 := (w7.froze (o := .tup (bs[t].1.map V.int ++ [.int n])) hp2).leaf (d := kinkD kv bs[t].1) (v := .ref p2) (by
              unfold kinkD
              simp only [Is]
              refine ⟨p2, _, rfl, .inl (.inl upd_same), ?_⟩
              rw [hn, Option.getD_some]
              refine IsL.ints.mpr ?_
              rw [List.map_append]
              rfl)
            obtain ⟨ws, hD2, l2, Sm10, w10⟩ := w8.more rfl hW List.mem_cons_self (H1 := H1) w0.tmps
            refine ⟨ws, hD2, ?_, L2.upd F2 p2 (.tup (bs[t].1.map V.int ++ [.int n])), Sc2, Sm10, ?_⟩
            · rw [l2, List.length_map, List.length_take, sizeLine_eq]
              have : bs.length = kv.length := by
                have := congrArg List.length hk
                unfold srtK at this
                rw [List.length_map, List.length_mergeSort, List.length_map] at this
                exact this
              omega
            · rw [List.take_succ, List.getElem?_eq_getElem ht, Option.toList_some, List.map_append]
              exact w10
      · rintro H2 ⟨F2, Sc2, Sm2, w3⟩
        rw [List.take_length] at w3
        refine kk _ _ H2 hΦ ⟨F2, Sc2, Sm2, ?_⟩
        have w4 := w3.off
        rw [← hk, List.map_map]
        exact w4
    · cases hp
  · cases hp
end
end DL
namespace DL
open PySem PySem.Spec PyProof.Rows L2
theorem w_hk {S : Sg} {k : Nat} {es : I} {ρ : DL.Env} {Φ : T → Prop} {f : DL.Env → List T → (T → Prop) → Prop} (h : S.hs[k]? = some f) (q : wv S es ρ fun us => f ρ us Φ) : w S (.hk k es) ρ Φ := by simp only [w]; exact ⟨f, h, q⟩
theorem wb_sh0 {S : Sg} {k : Nat} {es : I} {r : DL.B} {ρ : DL.Env} {K : EnD} {f : DL.Env → List T → EnD → Prop} (h : S.sh[k]? = some f) (q : wv S es ρ fun us => f ρ us { K with nx := fun ρ' => wb S r ρ' K }) : wb S (.sh k es r) ρ K := by
  simp only [wb]; exact ⟨f, h, q⟩
theorem bind_3 {p : DL.Env → Prop} {ρ : DL.Env} {t a b c : T} {i j k : Nat} (h : t.prt = some [a, b, c]) (hi : [i, j, k].all (fun x => Nat.blt x ρ.length) = true) (q : p (putL [i, j, k] [a, b, c] ρ)) :
    ∃ ρ', bindG (.cons (.nm i) (.cons (.nm j) (.cons (.nm k) .nil))) t ρ = some ρ' ∧ p ρ' :=
  bind_tg (is := [i, j, k]) h rfl (fun x hx => Nat.le_of_ble_eq_true (List.all_eq_true.mp hi x hx)) q
theorem forW_rng {g : Tg} {wb : DL.Env → EnD → Prop} {K : EnD} (J : Nat → DL.Env → Prop) {n : Nat} {ρ : DL.Env} (h0 : J 0 ρ)
    (step : ∀ j ρ (K' : EnD), j < n → J j ρ → (∀ ρ', J (j + 1) ρ' → K'.nx ρ') → (∀ ρ', J (j + 1) ρ' → K'.ct ρ') → (∀ ρ', K.nx ρ' → K'.bk ρ') → (∀ t ρ', K.rt t ρ' → K'.rt t ρ') → ∃ ρ', DL.bindG g (.leaf (.int (j : Int))) ρ = some ρ' ∧ wb ρ' K')
    (fin : ∀ ρ, J n ρ → K.nx ρ) : forW g wb ((List.range n).map fun (i : Nat) => DL.D.int i) ρ K := by
  refine forW_inv (fun ds ρ => ∃ j, j ≤ n ∧ ds = (List.range' j (n - j)).map (fun (i : Nat) => DL.D.int i) ∧ J j ρ) ⟨0, Nat.zero_le _, by rw [List.range_eq_range', Nat.sub_zero], h0⟩ (fun d r ρ K' ⟨j, hj, e, h⟩ k1 k2 k3 k4 => ?_) fun ρ ⟨j, hj, e, h⟩ => ?_
  · cases q : n - j with
    | zero => rw [q] at e; simp at e
    | succ m =>
      rw [q, List.range'_succ, List.map_cons] at e
      obtain ⟨rfl, rfl⟩ := List.cons.inj e
      have hm : n - (j + 1) = m := by omega
      exact step j ρ K' (by omega) h (fun ρ' h' => k1 ρ' ⟨j + 1, by omega, by rw [hm], h'⟩) (fun ρ' h' => k2 ρ' ⟨j + 1, by omega, by rw [hm], h'⟩) k3 k4
  · have : n - j = 0 := by
      cases q : n - j with
      | zero => rfl
      | succ m => rw [q, List.range'_succ] at e; simp at e
    exact fin ρ (by rwa [show j = n by omega] at h)
end DL
namespace DL
open PySem PySem.Spec PyProof.Rows L2
noncomputable def GlP (K : PySem.W.Frag) (mg : Str → Option Value) (y : Str) (d : D) : Prop := ∃ v u, mg y = some u ∧ RelV v u ∧ ∀ (a : An) F, a.K = K → Is a F d v
theorem gl_int {K : PySem.W.Frag} {mg : Str → Option Value} {y : Str} {n : Int} {u : Value} (h : mg y = some u) (r : RelV (.int n) u) : GlP K mg y (.int n) := ⟨.int n, u, h, r, fun a F _ => by simp only [Is]⟩
theorem isl_strs {a : An} {F : Hp} : ∀ xs : List Str, IsL a F (xs.map .str) (xs.map .str)
  | [] => by simp only [List.map_nil, IsL]
  | x :: xs => by simp only [List.map_cons, IsL]; exact ⟨_, _, rfl, by simp only [Is], isl_strs xs⟩
theorem gl_strs {K : PySem.W.Frag} {mg : Str → Option Value} {y : Str} {xs : List Str} {p : Addr} {oc : Value} {od : Option Addr} {its : Array Value} {n : Nat} {sl : Array (Option Value)} (h : mg y = some (.ref p)) (l : K.lookup p = some ⟨oc, od, .seq its n, sl⟩) (t : oc = .type "tuple") (z : its.size ≤ sizeLine) (v : Vals (xs.map V.str) its.toList) :
    GlP K mg y (.tup (xs.map .str)) := ⟨.ref p, .ref p, h, rfl, fun a F e => by
  simp only [Is]
  subst e
  exact ⟨p, xs.map .str, rfl, .inr ⟨_, its, n, l, t, rfl, z, v⟩, isl_strs xs⟩⟩
theorem al_nil {α : Type} {R : α → Prop} : ∀ y ∈ ([] : List α), R y := fun y h => by simp at h
theorem al_cons {α : Type} {R : α → Prop} {x : α} {ys : List α} (h : R x) (r : ∀ y ∈ ys, R y) : ∀ y ∈ x :: ys, R y := fun y hy => (List.mem_cons.mp hy).elim (fun e => by rw [e]; exact h) (r y)
end DL
namespace DL
open PySem PySem.Spec PyProof.Rows L2

section
variable {P : Program} {w : World} {K : PySem.W.Frag} {mg : Str → Option Value} {base : Heap} {cls : Nat → Option (Addr × List Str)} {k : Nat} {c : Cn} {S : Sg} {C D : Addr} {b : Bool} {x : Str}
theorem FnBX.m {j : Nat} {f : SpecX} (h : FnBX P w K mg base cls j x f) (l : j ≤ k) : FnBX P w K mg base cls k x f := h.mono l
end
end DL
namespace DL
open PySem PySem.Spec PyProof.Rows L2
section
variable {P : Program} {w : World} {K : PySem.W.Frag} {mg : Str → Option Value} {base : Heap} {cls : Nat → Option (Addr × List Str)} {k j : Nat} {x qual : Str} {f : SpecF} {st : Stmt} {fa : Addr} {fd : FuncData} {N ps : List Str} {c : Cn} {S : Sg} {b : B}
end
end DL
namespace DL
open PySem PySem.Spec PyProof.Rows L2
theorem wb_par3b {S : Sg} {ρ : DL.Env} {i j l : Nat} {x y z : I} {r : DL.B} {K : EnD} (h0 : i ≠ j ∧ i ≠ l ∧ j ≠ l) (h1 : Nat.blt i ρ.length = true) (h2 : Nat.blt j ρ.length = true) (h3 : Nat.blt l ρ.length = true)
    (k : w S x ρ fun t => t.fin fun u => w S y ρ fun t' => t'.fin fun v => w S z ρ fun t'' => t''.fin fun q => wb S r (((ρ.put i (some u)).put j (some v)).put l (some q)) K) : wb S (.par3 i j l x y z r) ρ K :=
  wb_par3 h0 ⟨Nat.le_of_ble_eq_true h1, Nat.le_of_ble_eq_true h2, Nat.le_of_ble_eq_true h3⟩ k
end DL
local macro_rules | `(tactic| trace_state) => `(tactic| repeat' first | (with_reducible show DL.w _ _ _ _; first | specialize DL.w_nm decl_name% ?_ | specialize DL.w_ix ?_ | specialize DL.w_int ?_ | specialize DL.w_bin ?_ | specialize DL.w_cmp ?_ | specialize DL.w_call decl_name% ?_ | specialize DL.w_callX decl_name% ?_ | specialize DL.w_callO decl_name% ?_ | specialize DL.w_callB decl_name% ?_ | specialize DL.w_rev ?_ | specialize DL.w_hk decl_name% ?_ | specialize DL.w_lent decl_name% decl_name% ?_ | specialize DL.w_ixo decl_name% ?_ | specialize DL.w_blt ?_ | specialize DL.w_ow decl_name% ?_ | specialize DL.w_tup ?_ | specialize DL.w_lst ?_ | specialize DL.w_str ?_ | specialize DL.w_neg ?_ | specialize DL.w_ife ?_ | specialize DL.w_sl ?_ | specialize DL.w_and ?_ | specialize DL.w_one ?_ | specialize DL.w_or ?_ | specialize DL.w_orv ?_ | specialize DL.w_srtS ?_ | specialize DL.w_not ?_ | specialize DL.w_bl ?_ | specialize DL.w_non ?_ | specialize DL.w_gl decl_name% ?_ | specialize DL.w_chn ?_ | specialize DL.w_lc decl_name% ?_ | specialize DL.w_fld ?_ | specialize DL.w_mth decl_name% ?_ | specialize DL.w_mt0 decl_name% ?_ | specialize DL.w_prp decl_name% ?_ | specialize DL.w_new decl_name% ?_ | specialize DL.w_isi ?_ | specialize DL.w_eqO decl_name% ?_ | specialize DL.w_isC ?_ | specialize DL.w_lr1 ?_ | specialize DL.w_lr2 ?_) | (with_reducible show DL.wa _ _ _ _; first | specialize DL.wa_cons ?_ | specialize DL.wa_nil ?_) | (with_reducible show DL.wv _ _ _ _; first | specialize DL.wv_cons ?_ | specialize DL.wv_nil ?_) | (with_reducible show DL.T.fin _ _; first | specialize DL.fin_leaf decl_name% ?_ | specialize DL.fin_mk decl_name% ?_ | specialize DL.fin_lst decl_name% ?_ | specialize DL.fin_tup decl_name% ?_) | (with_reducible show And _ _; first | specialize DL.and_len decl_name% ?_) | (with_reducible show DL.frozs _ _ _; first | specialize DL.fz_nil ?_ | specialize DL.fz_cons ?_) | (with_reducible show DL.T.froz _ _ _; first | specialize DL.fz_leaf decl_name% ?_ | specialize DL.fz_lst decl_name% decl_name% ?_ | specialize DL.fz_tup decl_name% decl_name% ?_ | specialize DL.fz_vw decl_name% decl_name% ?_) | (with_reducible show DL.ixT _ _ _; first | specialize DL.ix_lt decl_name% decl_name% (by with_unfolding_all exact DL.at_getD (by assumption)) ?_ | specialize DL.ix_lt decl_name% decl_name% decl_name% ?_ | specialize DL.ix_lst decl_name% decl_name% decl_name% ?_ | specialize DL.ix_ll decl_name% decl_name% decl_name% ?_ | specialize DL.ix_vli decl_name% decl_name% decl_name% ?_ | specialize DL.ix_vll decl_name% decl_name% decl_name% ?_ | specialize DL.ix_tup decl_name% decl_name% decl_name% ?_ | specialize DL.ix_vti decl_name% decl_name% decl_name% ?_ | specialize DL.ix_vlt decl_name% decl_name% decl_name% ?_ | specialize DL.ix_vtl decl_name% decl_name% decl_name% ?_ | specialize DL.ix_vls decl_name% decl_name% decl_name% ?_) | (with_reducible show DL.binT _ _ _ _; first | specialize DL.b_add decl_name% decl_name% ?_ | specialize DL.b_sub decl_name% decl_name% ?_ | specialize DL.b_mul decl_name% decl_name% (by with_unfolding_all exact DL.mulR ⟨by decide, by decide⟩) ?_ | specialize DL.b_mul decl_name% decl_name% (by with_unfolding_all exact DL.mulL ⟨by decide, by decide⟩) ?_ | specialize DL.b_mul decl_name% decl_name% (by with_unfolding_all exact DL.mulL ⟨by omega, by omega⟩) ?_ | specialize DL.b_mul decl_name% decl_name% (by with_unfolding_all exact DL.mulR ⟨by omega, by omega⟩) ?_ | specialize DL.b_mul decl_name% decl_name% ?_ ?_ | specialize DL.b_p18 decl_name% decl_name% ?_ | specialize DL.b_p9 decl_name% decl_name% ?_ | specialize DL.b_p38 decl_name% decl_name% ?_ | specialize DL.b_p17 decl_name% decl_name% ?_ | specialize DL.b_p40 decl_name% decl_name% ?_ | specialize DL.b_p39 decl_name% decl_name% ?_ | specialize DL.b_p21 decl_name% decl_name% ?_ | specialize DL.b_p20 decl_name% decl_name% ?_ | specialize DL.b_p6 decl_name% decl_name% ?_ | specialize DL.b_pow decl_name% decl_name% (by with_unfolding_all decide) ?_ | specialize DL.b_mod decl_name% decl_name% (by with_unfolding_all (first | decide | assumption | omega)) ?_ | specialize DL.b_mod decl_name% decl_name% ?_ ?_ | specialize DL.b_fdiv decl_name% decl_name% (by with_unfolding_all exact ⟨by decide, by decide⟩) ?_ | specialize DL.b_fdiv decl_name% decl_name% (by with_unfolding_all exact ⟨by assumption, by assumption⟩) ?_ | specialize DL.b_fdiv decl_name% decl_name% ?_ ?_ | specialize DL.b_catL decl_name% decl_name% decl_name% ?_) | (with_reducible show DL.cmpD _ _ _ _; first | specialize DL.c_eq decl_name% decl_name% ?_ | specialize DL.c_ne decl_name% decl_name% ?_ | specialize DL.c_lt decl_name% decl_name% ?_ | specialize DL.c_le decl_name% decl_name% ?_ | specialize DL.c_gt decl_name% decl_name% ?_ | specialize DL.c_ge decl_name% decl_name% ?_ | specialize DL.c_nes decl_name% decl_name% ?_ | specialize DL.c_eqs decl_name% decl_name% ?_ | specialize DL.c_inT decl_name% decl_name% (by with_unfolding_all (first | exact DL.tb_stop | exact DL.tb_wish | exact DL.tb_bar | exact DL.tb_tie | exact DL.wt_stop | exact DL.wt_wish | exact DL.wt_bar | exact DL.wt_tie)) ?_ | specialize DL.c_ninT decl_name% decl_name% (by with_unfolding_all (first | exact DL.w4_stop | exact DL.w4_wish | exact DL.w4_bar | exact DL.w4_tie)) ?_ | specialize DL.c_isT decl_name% decl_name% ?_ | specialize DL.c_isF decl_name% decl_name% ?_ | specialize DL.c_notT decl_name% decl_name% ?_ | specialize DL.c_notF decl_name% decl_name% ?_) | (with_reducible show DL.wt _ _ _ _; first | specialize DL.wt_cmp ?_ | specialize DL.wt_not ?_ | specialize DL.wt_val ?_ | specialize DL.wt_and ?_ | specialize DL.wt_or ?_ | specialize DL.wt_one ?_ | specialize DL.wt_chn ?_ | specialize DL.wt_lent decl_name% decl_name% ?_) | (with_reducible show @ite _ _ _ _ _; first | specialize DL.ite_t ?_ | specialize DL.ite_f ?_ | specialize DL.ite_nt ?_ | specialize DL.ite_nf ?_ | specialize DL.ite_decT (by decide) ?_ | specialize DL.ite_decF (by decide) ?_ | specialize DL.ite_dec (fun _ => ?_) (fun _ => ?_) | specialize DL.ite_ndecT decl_name% ?_ | specialize DL.ite_ndec (fun _ => ?_) (fun _ => ?_)) | (with_reducible show DL.wb _ _ _ _; first | specialize DL.wb_asg ?_ | specialize DL.wb_raise ?_ | specialize DL.wb_ite ?_ | specialize DL.wb_ret ?_ | specialize DL.wb_nil ?_ | specialize DL.wb_for ?_ | specialize DL.wb_asgLc decl_name% decl_name% ?_ | specialize DL.wb_setix decl_name% ?_ | specialize DL.wb_augix decl_name% ?_ | specialize DL.wb_aug decl_name% decl_name% ?_ | specialize DL.wb_fgt ?_ | specialize DL.wb_unp2 ?_ | specialize DL.wb_ext decl_name% ?_ | specialize DL.wb_augix2 decl_name% ?_ | specialize DL.wb_retm decl_name% ?_ | specialize DL.wb_ret2m decl_name% ?_ | specialize DL.wb_rvs decl_name% ?_ | specialize DL.wb_spx decl_name% decl_name% ?_ | specialize DL.wb_ex ?_ | specialize DL.wb_fz decl_name% decl_name% ?_ | specialize DL.wb_pass ?_ | specialize DL.wb_brk ?_ | specialize DL.wb_cont ?_ | specialize DL.wb_retN ?_ | specialize DL.wb_par3b (by with_unfolding_all decide) decl_name% decl_name% decl_name% ?_ | specialize DL.wb_par2 (by with_unfolding_all decide) decl_name% decl_name% ?_ | specialize DL.wb_app decl_name% (by with_unfolding_all (simp; done)) ?_ | specialize DL.wb_app decl_name% ?_ ?_) | (with_reducible show Exists _; first | specialize DL.bind_nm decl_name% ?_ | specialize DL.bind_pair decl_name% decl_name% decl_name% ?_ | specialize DL.bind_5 decl_name% decl_name% ?_ | specialize DL.ex_int decl_name% ?_ | specialize DL.ex_bl decl_name% ?_ | specialize DL.ex_isT decl_name% ?_ | specialize DL.set_to decl_name% decl_name% ?_ | specialize DL.aug_to decl_name% decl_name% decl_name% ?_ | specialize DL.ex_rg1 decl_name% (by with_unfolding_all (unfold DL.RgS; omega)) ?_ | specialize DL.ex_rg2 decl_name% decl_name% (by with_unfolding_all (unfold DL.RgS; omega)) ?_) | (with_reducible show DL.bltT _ _ _; first | specialize DL.l_lens decl_name% ?_ | specialize DL.l_len decl_name% ?_ | specialize DL.l_lentK 4 decl_name% decl_name% ?_ | specialize DL.l_lentK 5 decl_name% decl_name% ?_ | specialize DL.l_lentK 6 decl_name% decl_name% ?_ | specialize DL.l_lent decl_name% ?_ | specialize DL.l_abs decl_name% ?_ | specialize DL.l_max2 decl_name% decl_name% ?_ | specialize DL.l_min2 decl_name% decl_name% ?_ | specialize DL.l_max3 decl_name% decl_name% decl_name% ?_ | specialize DL.l_intT decl_name% ?_ | specialize DL.l_intF decl_name% ?_ | specialize DL.l_intD decl_name% (fun _ => ?_) (fun _ => ?_)) | (with_reducible show DL.slT _ _ _ _; first | specialize DL.sl_lt decl_name% decl_name% ?_) | (with_reducible show DL.tru _ _; first | specialize DL.t_bl decl_name% ?_) | (with_reducible show DL.augD _ _ _ _; first | specialize DL.a_add decl_name% decl_name% ?_ | specialize DL.a_sub decl_name% decl_name% ?_) | (with_reducible show DL.wo _ _ _ _; first | specialize DL.wo_nop ?_ | specialize DL.wo_prt ?_) | (with_reducible show DL.wi _ _ _ _; first | specialize DL.wi_rng ?_ | specialize DL.wi_sq ?_ | specialize DL.wi_zip ?_ | specialize DL.wi_enm ?_) | (with_reducible show DL.wc _ _ _ _; first | specialize DL.wc_nop ?_ | specialize DL.wc_one ?_))
namespace KT
open PySem PySem.Spec PyProof.Rows L2 DL
section
open PySem PySem.Spec PyProof.Rows L2 DL
inductive Tm where
  | stop (d : Nat) (l h : Int) | wish (d : Nat) (l h f : Int) | bar (d o : Nat) (l h : Int) | tie (d o : Nat) (l h f : Int)
noncomputable def Tm.D : Tm → DL.D
  | .stop d l h => .tup [.str "stop", .int d, .int l, .int h]
  | .wish d l h f => .tup [.str "wish", .int d, .int l, .int h, .int f]
  | .bar d o l h => .tup [.str "bar", .int d, .int o, .int l, .int h]
  | .tie d o l h f => .tup [.str "tie", .int d, .int o, .int l, .int h, .int f]
noncomputable def Tm.low : Tm → Int
  | .stop _ l _ => l | .wish _ l _ _ => l | .bar _ _ l _ => l | .tie _ _ l _ _ => l
noncomputable def Tm.high : Tm → Int
  | .stop _ _ h => h | .wish _ _ h _ => h | .bar _ _ _ h => h | .tie _ _ _ h _ => h
noncomputable def Tm.ends : Tm → Int → Int → Tm
  | .stop d _ _, l, h => .stop d l h
  | .wish d _ _ f, l, h => .wish d l h f
  | .bar d o _ _, l, h => .bar d o l h
  | .tie d o _ _ f, l, h => .tie d o l h f
noncomputable def Tm.dial : Tm → Nat
  | .stop d _ _ => d | .wish d _ _ _ => d | .bar d _ _ _ => d | .tie d _ _ _ _ => d
/-- the other dial, the force: None for what isn't there -/
noncomputable def Tm.oth : Tm → DL.D
  | .stop .. => .non | .wish .. => .non | .bar _ o _ _ => .int o | .tie _ o _ _ _ => .int o
noncomputable def Tm.frc : Tm → DL.D
  | .stop .. => .non | .wish _ _ _ f => .int f | .bar .. => .non | .tie _ _ _ _ f => .int f
noncomputable def Tm.pulls : Tm → Bool
  | .stop .. => false | .wish .. => true | .bar .. => false | .tie .. => true
noncomputable def Tm.force : Tm → Int
  | .stop .. => 0 | .wish _ _ _ f => f | .bar .. => 0 | .tie _ _ _ _ f => f
/-- its dials are dials of a standing of this length -/
noncomputable def Tm.In (n : Nat) : Tm → Prop
  | .stop d _ _ => d < n | .wish d _ _ _ => d < n | .bar d o _ _ => d < n ∧ o < n | .tie d o _ _ _ => d < n ∧ o < n
noncomputable def Tm.Ok (n : Nat) (m : Int) (t : Tm) : Prop := t.In n ∧ (-(10 ^ 18) ≤ t.low ∧ t.low ≤ t.high ∧ t.high ≤ 10 ^ 18) ∧ match t with
  | .stop .. => True
  | .wish _ _ _ f => 1 ≤ f ∧ f ≤ m
  | .bar d o _ _ => d ≠ o
  | .tie d o _ _ f => d ≠ o ∧ 1 ≤ f ∧ f ≤ m
/-- a row of settings -/
noncomputable def Row (n : Nat) (b : Int) (xs : List Int) : Prop := xs.length = n ∧ ∀ x ∈ xs, -b ≤ x ∧ x ≤ b
theorem Row.get {n : Nat} {b : Int} {xs : List Int} (h : Row n b xs) {k : Nat} (hk : k < n) : -b ≤ xs.getD k 0 ∧ xs.getD k 0 ≤ b := by
  have h1 : k < xs.length := by rw [h.1]; exact hk
  have h2 : xs.getD k 0 = xs[k] := by simp [h1]
  rw [h2]
  exact h.2 _ (List.getElem_mem h1)
theorem other_ok {d n v : Int} (h1 : 0 ≤ d) (h2 : d < n) (h3 : 0 ≤ v) (h4 : v < n - 1) : 0 ≤ (d + 1 + v) % n ∧ (d + 1 + v) % n < n ∧ (d + 1 + v) % n ≠ d := by
  refine ⟨Int.emod_nonneg _ (by omega), Int.emod_lt_of_pos _ (by omega), ?_⟩
  by_cases h : d + 1 + v < n
  · rw [Int.emod_eq_of_lt (by omega) h]; omega
  · have e : d + 1 + v = (d + 1 + v - n) + n * 1 := by omega
    rw [e, Int.add_mul_emod_self_left, Int.emod_eq_of_lt (by omega) (by omega)]; omega
end
section
open PySem PySem.Spec PyProof.Rows L2 DL
noncomputable abbrev n_other_of : List Str := ["term"]
noncomputable def b_other_of : DL.B := (.ret (.ife (.cmp .inn (.ix (.nm 0) (.int 0)) (.tup (.cons (.str "tie") (.cons (.str "bar") .nil)))) (.ix (.nm 0) (.int 2)) .non) .nil)
noncomputable abbrev n_ends_of : List Str := ["term", "begin"]
noncomputable def b_ends_of : DL.B := (.asg (.nm 1) (.ife (.cmp .inn (.ix (.nm 0) (.int 0)) (.tup (.cons (.str "tie") (.cons (.str "bar") .nil)))) (.int 3) (.int 2)) (.ret (.tup (.cons (.ix (.nm 0) (.nm 1)) (.cons (.ix (.nm 0) (.bin .add (.nm 1) (.int 1))) .nil))) .nil))
noncomputable abbrev n_law_parts : List Str := ["_law_term_here", "_law_begin", "_law_other"]
noncomputable def b_law_parts : DL.B := (.asg (.nm 1) (.bin .add (.int 2) (.blt .int (.cons (.cmp .inn (.ix (.nm 0) (.int 0)) (.tup (.cons (.str "tie") (.cons (.str "bar") .nil)))) .nil))) (.asg (.nm 2) (.ife (.cmp .eq (.nm 1) (.int 3)) (.ix (.nm 0) (.int 2)) .non) (.ret (.tup (.cons (.ix (.nm 0) (.int 1)) (.cons (.nm 2) (.cons (.ix (.nm 0) (.nm 1)) (.cons (.ix (.nm 0) (.bin .add (.nm 1) (.int 1))) (.cons (.ife (.cmp .inn (.ix (.nm 0) (.int 0)) (.tup (.cons (.str "wish") (.cons (.str "tie") .nil)))) (.ix (.nm 0) (.neg (.int 1))) .non) .nil)))))) .nil)))
noncomputable abbrev n_law_number : List Str := ["_law_bag_here", "_law_scale"]
noncomputable def b_law_number : DL.B := (.ret (.bin .sub (.call 0 (.cons (.nm 0) (.cons (.bin .add (.bin .mul (.int 2) (.nm 1)) (.int 1)) .nil))) (.nm 1)) .nil)
end
section
open PySem PySem.Spec PyProof.Rows L2 DL
noncomputable abbrev WOk (S : Sg) (n : List Str) (b : DL.B) (F : SpecF) (k : Nat) : Prop := ∀ ds Φ, F ds Φ → ds.length = k ∧ wb S b (envS n (ds.map .leaf)) { nx := fun _ => Φ (.leaf .non), rt := fun t _ => Φ t }
noncomputable def fnF {α : Type} (g : α → List DL.D) (p : α → Prop) (r : α → DL.D) : SpecF := fun ds Φ => ∃ x, ds = g x ∧ p x ∧ Φ (.leaf (r x))
theorem fnM {α : Type} (g : α → List DL.D) (p : α → Prop) (r : α → DL.D) : Mono (fnF g p r) := fun ds Φ Ψ i ⟨x, e, h, k⟩ => ⟨x, e, h, i _ k⟩
noncomputable def F_other_of : SpecF := fnF (fun t : Tm => [t.D]) (fun _ => True) (fun t => t.oth)
theorem M_other_of : Mono F_other_of := fnM _ _ _
noncomputable def S_other_of : Sg := { z := true, fs := [], gs := [] }
theorem W_other_of : WOk S_other_of n_other_of b_other_of F_other_of 1 := by
  rintro ds Φ ⟨t, rfl, -, k⟩
  refine ⟨rfl, ?_⟩
  unfold b_other_of
  rcases t with ⟨d, l, h⟩ | ⟨d, l, h, f⟩ | ⟨d, o, l, h⟩ | ⟨d, o, l, h, f⟩
  · trace_state; exact k
  · trace_state; exact k
  · trace_state; exact k
  · trace_state; exact k
noncomputable def F_ends_of : SpecF := fnF (fun t : Tm => [t.D]) (fun _ => True) (fun t => .tup [.int t.low, .int t.high])
theorem M_ends_of : Mono F_ends_of := fnM _ _ _
noncomputable def S_ends_of : Sg := { z := true, fs := [], gs := [] }
theorem W_ends_of : WOk S_ends_of n_ends_of b_ends_of F_ends_of 1 := by
  rintro ds Φ ⟨t, rfl, -, k⟩
  refine ⟨rfl, ?_⟩
  unfold b_ends_of
  rcases t with ⟨d, l, h⟩ | ⟨d, l, h, f⟩ | ⟨d, o, l, h⟩ | ⟨d, o, l, h, f⟩
  · trace_state; exact k
  · trace_state; exact k
  · trace_state; exact k
  · trace_state; exact k
noncomputable def F_law_parts : SpecF := fnF (fun t : Tm => [t.D]) (fun _ => True) (fun t => .tup [.int t.dial, t.oth, .int t.low, .int t.high, t.frc])
theorem M_law_parts : Mono F_law_parts := fnM _ _ _
noncomputable def S_law_parts : Sg := { z := true, fs := [], gs := [] }
theorem W_law_parts : WOk S_law_parts n_law_parts b_law_parts F_law_parts 1 := by
  rintro ds Φ ⟨t, rfl, -, k⟩
  refine ⟨rfl, ?_⟩
  unfold b_law_parts
  rcases t with ⟨d, l, h⟩ | ⟨d, l, h, f⟩ | ⟨d, o, l, h⟩ | ⟨d, o, l, h, f⟩
  · trace_state; exact k
  · trace_state; exact k
  · trace_state; exact k
  · trace_state; exact k
end
section
open PySem PySem.Spec PyProof.Rows L2 DL
noncomputable def tl : DL.B → DL.B
  | .asg _ _ r => r
  | .asgLc _ _ _ _ _ _ r => r
  | .par2 _ _ _ _ r => r
  | .ite _ _ _ r => r
  | .fz _ r => r
  | .for_ _ _ _ r => r
  | .aug _ _ _ r => r
  | .setix _ _ _ r => r
  | .app _ _ r => r
  | b => b
noncomputable def F_law_number : SpecF := fun ds Φ => ∃ n, ds = [.bag, .int n] ∧ 0 ≤ n ∧ n ≤ 10 ^ 40 ∧ ∀ v, -n ≤ v → v ≤ n → Φ (.leaf (.int v))
theorem M_law_number : Mono F_law_number := fun ds Φ Ψ i ⟨n, e, h1, h2, k⟩ => ⟨n, e, h1, h2, fun v a b => i _ (k v a b)⟩
noncomputable def S_law_number : Sg := { z := true, fs := [takeF], gs := [] }
theorem W_law_number : WOk S_law_number n_law_number b_law_number F_law_number 2 := by
  rintro ds Φ ⟨n, rfl, h1, h2, k⟩
  refine ⟨rfl, ?_⟩
  unfold b_law_number
  trace_state
  refine ⟨_, rfl, ⟨by omega, ?_⟩, fun v a b => ?_⟩
  · have : (2 : Int) * 10 ^ 40 + 1 < 10 ^ 100 := by decide +kernel
    omega
  trace_state
  exact k _ (by omega) (by omega)
end
section
open PySem PySem.Spec PyProof.Rows L2 DL
noncomputable def F_law_alike : SpecF := sameF
theorem M_law_alike : Mono F_law_alike := sameF_mono
noncomputable def S_law_alike : Sg := { z := true, fs := [], gs := [] }
noncomputable abbrev n_law_alike : List Str := ["_law_found", "_law_due"]
noncomputable def b_law_alike : DL.B := (.ret (.and (.cmp .eq (.nm 0) (.nm 1)) (.one (.cmp .eq (.blt .repr (.cons (.nm 0) .nil)) (.blt .repr (.cons (.nm 1) .nil))))) .nil)
theorem W_law_alike : WOk S_law_alike n_law_alike b_law_alike F_law_alike 2 := by
  rintro ds Φ ⟨d, rfl, s, k⟩
  exact ⟨rfl, sameW (Φ := Φ) (K := { nx := fun _ => Φ (.leaf .non), rt := fun t _ => Φ t }) s fun _ => k⟩
theorem so_stop : PyData.strOk "stop" = true := by decide +kernel
theorem so_wish : PyData.strOk "wish" = true := by decide +kernel
theorem so_bar : PyData.strOk "bar" = true := by decide +kernel
theorem so_tie : PyData.strOk "tie" = true := by decide +kernel
theorem Tm.In.mono {t : Tm} {n m : Nat} (h : t.In n) (l : n ≤ m) : t.In m := by
  rcases t with ⟨d, l, h⟩ | ⟨d, l, h, f⟩ | ⟨d, o, l, h⟩ | ⟨d, o, l, h, f⟩ <;> simp only [Tm.In] at h ⊢ <;> omega
theorem Tm.Ok.ends {t : Tm} {n : Nat} {m : Int} (h : t.Ok n m) {a b : Int} (h1 : -(10 ^ 18) ≤ a) (h2 : a ≤ b) (h3 : b ≤ 10 ^ 18) : (t.ends a b).Ok n m := by
  rcases t with ⟨d, l, h⟩ | ⟨d, l, h, f⟩ | ⟨d, o, l, h⟩ | ⟨d, o, l, h, f⟩
  · exact ⟨h.1, ⟨h1, h2, h3⟩, h.2.2⟩
  · exact ⟨h.1, ⟨h1, h2, h3⟩, h.2.2⟩
  · exact ⟨h.1, ⟨h1, h2, h3⟩, h.2.2⟩
  · exact ⟨h.1, ⟨h1, h2, h3⟩, h.2.2⟩
end
section
open PySem PySem.Spec PyProof.Rows L2 DL
noncomputable abbrev n_is_pulling : List Str := ["term"]
noncomputable def b_is_pulling : DL.B := (.ret (.cmp .inn (.ix (.nm 0) (.int 0)) (.tup (.cons (.str "wish") (.cons (.str "tie") .nil)))) .nil)
noncomputable abbrev n_force_of : List Str := ["term"]
noncomputable def b_force_of : DL.B := (.ret (.ix (.nm 0) (.neg (.int 1))) .nil)
noncomputable def F_is_pulling : SpecF := fnF (fun t : Tm => [t.D]) (fun _ => True) (fun t => .bl t.pulls)
theorem M_is_pulling : Mono F_is_pulling := fnM _ _ _
noncomputable def S_is_pulling : Sg := { z := true, fs := [], gs := [] }
theorem W_is_pulling : WOk S_is_pulling n_is_pulling b_is_pulling F_is_pulling 1 := by
  rintro ds Φ ⟨t, rfl, -, k⟩
  refine ⟨rfl, ?_⟩
  unfold b_is_pulling
  rcases t with ⟨d, l, h⟩ | ⟨d, l, h, f⟩ | ⟨d, o, l, h⟩ | ⟨d, o, l, h, f⟩
  · trace_state; exact k
  · trace_state; exact k
  · trace_state; exact k
  · trace_state; exact k
noncomputable def F_force_of : SpecF := fnF (fun t : Tm => [t.D]) (fun t => t.pulls = true) (fun t => .int t.force)
theorem M_force_of : Mono F_force_of := fnM _ _ _
noncomputable def S_force_of : Sg := { z := true, fs := [], gs := [] }
theorem W_force_of : WOk S_force_of n_force_of b_force_of F_force_of 1 := by
  rintro ds Φ ⟨t, rfl, hp, k⟩
  refine ⟨rfl, ?_⟩
  unfold b_force_of
  rcases t with ⟨d, l, h⟩ | ⟨d, l, h, f⟩ | ⟨d, o, l, h⟩ | ⟨d, o, l, h, f⟩
  · cases hp
  · trace_state; exact k
  · cases hp
  · trace_state; exact k
noncomputable def FitP (pl : Bool) (l h f x p : Int) : Prop := if pl = true then (if x < l then p = f else if h < x then p = -f else (x = h → -f ≤ p) ∧ (x ≠ h → 0 ≤ p) ∧ (x = l → p ≤ f) ∧ (x ≠ l → p ≤ 0)) else ((x ≠ h → 0 ≤ p) ∧ (x ≠ l → p ≤ 0))
noncomputable def Tm.Fit (t : Tm) (x p : Int) : Prop := FitP t.pulls t.low t.high t.force x p
end
section
open PySem PySem.Spec PyProof.Rows L2 DL
noncomputable abbrev n_is_integer : List Str := ["thing"]
noncomputable def b_is_integer : DL.B := (.ret (.and (.isi .int (.nm 0)) (.one (.not (.isi .bool (.nm 0))))) .nil)
noncomputable abbrev n_is_between : List Str := ["thing", "low", "high"]
noncomputable def b_is_between : DL.B := (.ret (.and (.call 0 (.cons (.nm 0) .nil)) (.one (.chn .le .le (.nm 1) (.nm 0) (.nm 2)))) .nil)
noncomputable abbrev n_is_value : List Str := ["thing"]
noncomputable def b_is_value : DL.B := (.ret (.call 0 (.cons (.nm 0) (.cons (.neg (.gl 0)) (.cons (.gl 0) .nil)))) .nil)
noncomputable abbrev n_is_force : List Str := ["thing"]
noncomputable def b_is_force : DL.B := (.ret (.call 0 (.cons (.nm 0) (.cons (.int 1) (.cons (.gl 0) .nil)))) .nil)
noncomputable abbrev n_is_term : List Str := ["thing", "size", "dials", "pulling", "low", "high", "dial"]
noncomputable def b_is_term : DL.B := (.ite (.or (.not (.val (.isi .tuple (.nm 0)))) (.or (.cmp .lt (.blt .len (.cons (.nm 0) .nil)) (.int 4)) (.or (.not (.val (.isi .str (.ix (.nm 0) (.int 0))))) (.one (.cmp .nin (.ix (.nm 0) (.int 0)) (.gl 0)))))) (.ret (.bl false) .nil) .nil (.par2 2 3 (.bin .add (.int 1) (.blt .int (.cons (.cmp .inn (.ix (.nm 0) (.int 0)) (.tup (.cons (.str "tie") (.cons (.str "bar") .nil)))) .nil))) (.cmp .inn (.ix (.nm 0) (.int 0)) (.tup (.cons (.str "wish") (.cons (.str "tie") .nil)))) (.ite (.cmp .ne (.blt .len (.cons (.nm 0) .nil)) (.bin .add (.bin .add (.int 3) (.nm 2)) (.blt .int (.cons (.nm 3) .nil)))) (.ret (.bl false) .nil) .nil (.ite (.not (.val (.blt .all (.cons (.lc [6] (.nm 6) (.sq (.sl (.nm 0) (.prt (.int 1)) (.prt (.bin .add (.int 1) (.nm 2))))) .nop (.call 0 (.cons (.nm 6) (.cons (.int 0) (.cons (.bin .sub (.nm 1) (.int 1)) .nil))))) .nil)))) (.ret (.bl false) .nil) .nil (.ite (.and (.cmp .eq (.nm 2) (.int 2)) (.one (.cmp .eq (.ix (.nm 0) (.int 1)) (.ix (.nm 0) (.int 2))))) (.ret (.bl false) .nil) .nil (.asg (.cons (.nm 4) (.cons (.nm 5) .nil)) (.sl (.nm 0) (.prt (.bin .add (.int 1) (.nm 2))) (.prt (.bin .add (.int 3) (.nm 2)))) (.ite (.or (.not (.val (.call 1 (.cons (.nm 4) .nil)))) (.or (.not (.val (.call 1 (.cons (.nm 5) .nil)))) (.one (.cmp .gt (.nm 4) (.nm 5))))) (.ret (.bl false) .nil) .nil (.ret (.or (.not (.nm 3)) (.one (.call 2 (.cons (.ix (.nm 0) (.neg (.int 1))) .nil)))) .nil))))))))
noncomputable abbrev n_Board_init_ : List Str := ["self", "size", "terms", "term"]
noncomputable def ts_Board_init_ : List I := [(.not (.val (.call 0 (.cons (.nm 1) (.cons (.int 1) (.cons (.gl 0) .nil)))))), (.or (.not (.val (.isi .list (.nm 2)))) (.or (.cmp .gt (.blt .len (.cons (.nm 2) .nil)) (.gl 1)) (.one (.not (.val (.blt .all (.cons (.lc [3] (.nm 3) (.sq (.nm 2)) .nop (.call 1 (.cons (.nm 3) (.cons (.nm 1) .nil)))) .nil)))))))]
noncomputable def fs_Board_init_ : List (Str × I) := [("dial_count", (.nm 1)), ("term_list", (.blt .list (.cons (.nm 2) .nil)))]
theorem l_allT {Φ : T → Prop} {t : T} {ds : List DL.D} {bs : List Bool} (h : t.dat = .lst ds) (e : D.toBls ds = some bs) (e2 : bs.all id = true) (k : Φ (.leaf (.bl true))) : bltT .all [t] Φ := by
  refine l_all h e ?_
  rw [e2]; exact k
noncomputable def F_is_integer : SpecF := fnF (fun a : Int => [.int a]) (fun _ => True) (fun _ => .bl true)
theorem M_is_integer : Mono F_is_integer := fnM _ _ _
noncomputable def S_is_integer : Sg := { z := true, fs := [], gs := [] }
theorem W_is_integer : WOk S_is_integer n_is_integer b_is_integer F_is_integer 1 := by
  rintro ds Φ ⟨a, rfl, -, k⟩
  refine ⟨rfl, ?_⟩
  unfold b_is_integer
  trace_state
  exact k
noncomputable def F_is_between : SpecF := fnF (fun x : Int × Int × Int => [.int x.1, .int x.2.1, .int x.2.2]) (fun _ => True) (fun x => .bl (decide (x.2.1 ≤ x.1 ∧ x.1 ≤ x.2.2)))
theorem M_is_between : Mono F_is_between := fnM _ _ _
noncomputable def S_is_between : Sg := { z := true, fs := [F_is_integer], gs := [] }
theorem W_is_between : WOk S_is_between n_is_between b_is_between F_is_between 3 := by
  rintro ds Φ ⟨⟨a, l, h⟩, rfl, -, k⟩
  refine ⟨rfl, ?_⟩
  unfold b_is_between
  trace_state
  refine ⟨a, rfl, trivial, ?_⟩
  trace_state
  · rename_i c
    have e : decide (l ≤ a ∧ a ≤ h) = decide (a ≤ h) := by simp [show l ≤ a from c]
    simp only [e] at k
    exact k
  · rename_i c
    have e : decide (l ≤ a ∧ a ≤ h) = false := by simp only [decide_eq_false_iff_not]; exact fun z => c z.1
    simp only [e] at k
    exact k
noncomputable def F_is_value : SpecF := fnF (fun a : Int => [.int a]) (fun _ => True) (fun a => .bl (decide (-(10 ^ 18) ≤ a ∧ a ≤ 10 ^ 18)))
theorem M_is_value : Mono F_is_value := fnM _ _ _
noncomputable def S_is_value : Sg := { z := true, fs := [F_is_between], gs := [.int (10 ^ 18)] }
theorem W_is_value : WOk S_is_value n_is_value b_is_value F_is_value 1 := by
  rintro ds Φ ⟨a, rfl, -, k⟩
  refine ⟨rfl, ?_⟩
  unfold b_is_value
  trace_state
  refine ⟨(a, -(10 ^ 18), 10 ^ 18), rfl, trivial, ?_⟩
  trace_state
  exact k
noncomputable def F_is_force : SpecF := fnF (fun a : Int => [.int a]) (fun _ => True) (fun a => .bl (decide (1 ≤ a ∧ a ≤ 30)))
theorem M_is_force : Mono F_is_force := fnM _ _ _
noncomputable def S_is_force : Sg := { z := true, fs := [F_is_between], gs := [.int 30] }
theorem W_is_force : WOk S_is_force n_is_force b_is_force F_is_force 1 := by
  rintro ds Φ ⟨a, rfl, -, k⟩
  refine ⟨rfl, ?_⟩
  unfold b_is_force
  trace_state
  refine ⟨(a, 1, 30), rfl, trivial, ?_⟩
  trace_state
  exact k
noncomputable def words4 : DL.D := .tup [.str "wish", .str "tie", .str "stop", .str "bar"]
noncomputable def F_is_term : SpecF := fnF (fun x : Tm × Nat => [x.1.D, .int x.2]) (fun x => x.1.Ok x.2 30) (fun _ => .bl true)
theorem M_is_term : Mono F_is_term := fnM _ _ _
noncomputable def S_is_term : Sg := { z := true, fs := [F_is_between, F_is_value, F_is_force], gs := [words4] }
theorem W_is_term : WOk S_is_term n_is_term b_is_term F_is_term 2 := by
  rintro ds Φ ⟨⟨t, n⟩, rfl, ok, k⟩
  refine ⟨rfl, ?_⟩
  have ok : t.Ok n 30 := ok
  have hb := ok.2.1
  unfold b_is_term
  rcases t with ⟨d, l, h⟩ | ⟨d, l, h, f⟩ | ⟨d, o, l, h⟩ | ⟨d, o, l, h, f⟩
  · have hb : -(10 ^ 18) ≤ l ∧ l ≤ h ∧ h ≤ 10 ^ 18 := hb
    have hv : (-(10 ^ 18) ≤ l ∧ l ≤ 10 ^ 18) ∧ -(10 ^ 18) ≤ h ∧ h ≤ 10 ^ 18 := ⟨⟨hb.1, by omega⟩, by omega, hb.2.2⟩
    have hd : d < n := ok.1
    trace_state
    refine ⟨_, rfl, Nat.le_of_ble_eq_true rfl, lcW_map (fun _ => .leaf (.bl true)) (fun x hx Ψ hΨ => ?_) ?_⟩
    · have hx : x ∈ [DL.D.int d] := hx
      have hx : ∃ j : Nat, x = .int j ∧ j < n := by
        simp only [List.mem_cons, List.not_mem_nil, or_false] at hx
        exact ⟨d, hx, hd⟩
      obtain ⟨j, rfl, hj⟩ := hx
      trace_state
      refine ⟨(j, 0, n - 1), rfl, trivial, ?_⟩
      simp only [decide_eq_true (show (0 : Int) ≤ j ∧ (j : Int) ≤ n - 1 from ⟨by omega, by omega⟩)]
      trace_state
      exact hΨ
    trace_state
    refine l_allT (bs := [true]) rfl rfl rfl ?_
    trace_state
    refine ⟨l, rfl, trivial, ?_⟩
    simp only [decide_eq_true (show -(10 ^ 18) ≤ l ∧ l ≤ 10 ^ 18 from hv.1)]
    trace_state
    refine ⟨h, rfl, trivial, ?_⟩
    simp only [decide_eq_true (show -(10 ^ 18) ≤ h ∧ h ≤ 10 ^ 18 from hv.2)]
    trace_state
    · exfalso; have := hb.2.1; omega
    · exact k
  · have hb : -(10 ^ 18) ≤ l ∧ l ≤ h ∧ h ≤ 10 ^ 18 := hb
    have hv : (-(10 ^ 18) ≤ l ∧ l ≤ 10 ^ 18) ∧ -(10 ^ 18) ≤ h ∧ h ≤ 10 ^ 18 := ⟨⟨hb.1, by omega⟩, by omega, hb.2.2⟩
    have hd : d < n := ok.1
    have hf : 1 ≤ f ∧ f ≤ 30 := ok.2.2
    trace_state
    refine ⟨_, rfl, Nat.le_of_ble_eq_true rfl, lcW_map (fun _ => .leaf (.bl true)) (fun x hx Ψ hΨ => ?_) ?_⟩
    · have hx : x ∈ [DL.D.int d] := hx
      have hx : ∃ j : Nat, x = .int j ∧ j < n := by
        simp only [List.mem_cons, List.not_mem_nil, or_false] at hx
        exact ⟨d, hx, hd⟩
      obtain ⟨j, rfl, hj⟩ := hx
      trace_state
      refine ⟨(j, 0, n - 1), rfl, trivial, ?_⟩
      simp only [decide_eq_true (show (0 : Int) ≤ j ∧ (j : Int) ≤ n - 1 from ⟨by omega, by omega⟩)]
      trace_state
      exact hΨ
    trace_state
    refine l_allT (bs := [true]) rfl rfl rfl ?_
    trace_state
    refine ⟨l, rfl, trivial, ?_⟩
    simp only [decide_eq_true (show -(10 ^ 18) ≤ l ∧ l ≤ 10 ^ 18 from hv.1)]
    trace_state
    refine ⟨h, rfl, trivial, ?_⟩
    simp only [decide_eq_true (show -(10 ^ 18) ≤ h ∧ h ≤ 10 ^ 18 from hv.2)]
    trace_state
    · exfalso; have := hb.2.1; omega
    · refine ⟨f, rfl, trivial, ?_⟩
      simp only [decide_eq_true hf]
      trace_state
      exact k
  · have hb : -(10 ^ 18) ≤ l ∧ l ≤ h ∧ h ≤ 10 ^ 18 := hb
    have hv : (-(10 ^ 18) ≤ l ∧ l ≤ 10 ^ 18) ∧ -(10 ^ 18) ≤ h ∧ h ≤ 10 ^ 18 := ⟨⟨hb.1, by omega⟩, by omega, hb.2.2⟩
    have hd : d < n := ok.1.1
    have ho : o < n := ok.1.2
    have hne : d ≠ o := ok.2.2
    trace_state
    refine ⟨_, rfl, Nat.le_of_ble_eq_true rfl, lcW_map (fun _ => .leaf (.bl true)) (fun x hx Ψ hΨ => ?_) ?_⟩
    · have hx : x ∈ [DL.D.int d, .int o] := hx
      have hx : ∃ j : Nat, x = .int j ∧ j < n := by
        simp only [List.mem_cons, List.not_mem_nil, or_false] at hx
        rcases hx with rfl | rfl
        · exact ⟨d, rfl, hd⟩
        · exact ⟨o, rfl, ho⟩
      obtain ⟨j, rfl, hj⟩ := hx
      trace_state
      refine ⟨(j, 0, n - 1), rfl, trivial, ?_⟩
      simp only [decide_eq_true (show (0 : Int) ≤ j ∧ (j : Int) ≤ n - 1 from ⟨by omega, by omega⟩)]
      trace_state
      exact hΨ
    trace_state
    refine l_allT (bs := [true, true]) rfl rfl rfl ?_
    trace_state
    · exfalso; omega
    trace_state
    refine ⟨l, rfl, trivial, ?_⟩
    simp only [decide_eq_true (show -(10 ^ 18) ≤ l ∧ l ≤ 10 ^ 18 from hv.1)]
    trace_state
    refine ⟨h, rfl, trivial, ?_⟩
    simp only [decide_eq_true (show -(10 ^ 18) ≤ h ∧ h ≤ 10 ^ 18 from hv.2)]
    trace_state
    · exfalso; have := hb.2.1; omega
    · exact k
  · have hb : -(10 ^ 18) ≤ l ∧ l ≤ h ∧ h ≤ 10 ^ 18 := hb
    have hv : (-(10 ^ 18) ≤ l ∧ l ≤ 10 ^ 18) ∧ -(10 ^ 18) ≤ h ∧ h ≤ 10 ^ 18 := ⟨⟨hb.1, by omega⟩, by omega, hb.2.2⟩
    have hd : d < n := ok.1.1
    have ho : o < n := ok.1.2
    have hne : d ≠ o := ok.2.2.1
    have hf : 1 ≤ f ∧ f ≤ 30 := ok.2.2.2
    trace_state
    refine ⟨_, rfl, Nat.le_of_ble_eq_true rfl, lcW_map (fun _ => .leaf (.bl true)) (fun x hx Ψ hΨ => ?_) ?_⟩
    · have hx : x ∈ [DL.D.int d, .int o] := hx
      have hx : ∃ j : Nat, x = .int j ∧ j < n := by
        simp only [List.mem_cons, List.not_mem_nil, or_false] at hx
        rcases hx with rfl | rfl
        · exact ⟨d, rfl, hd⟩
        · exact ⟨o, rfl, ho⟩
      obtain ⟨j, rfl, hj⟩ := hx
      trace_state
      refine ⟨(j, 0, n - 1), rfl, trivial, ?_⟩
      simp only [decide_eq_true (show (0 : Int) ≤ j ∧ (j : Int) ≤ n - 1 from ⟨by omega, by omega⟩)]
      trace_state
      exact hΨ
    trace_state
    refine l_allT (bs := [true, true]) rfl rfl rfl ?_
    trace_state
    · exfalso; omega
    trace_state
    refine ⟨l, rfl, trivial, ?_⟩
    simp only [decide_eq_true (show -(10 ^ 18) ≤ l ∧ l ≤ 10 ^ 18 from hv.1)]
    trace_state
    refine ⟨h, rfl, trivial, ?_⟩
    simp only [decide_eq_true (show -(10 ^ 18) ≤ h ∧ h ≤ 10 ^ 18 from hv.2)]
    trace_state
    · exfalso; have := hb.2.1; omega
    · refine ⟨f, rfl, trivial, ?_⟩
      simp only [decide_eq_true hf]
      trace_state
      exact k
end
section
open PySem PySem.Spec PyProof.Rows L2 DL
noncomputable def termsD (ts : List Tm) : DL.D := .lst (ts.map Tm.D)
noncomputable def boardD (n : Nat) (ts : List Tm) : DL.D := .obj 0 [.int n, termsD ts]
noncomputable def TsOk (n : Nat) (ts : List Tm) : Prop := ∀ t ∈ ts, t.Ok n 30
noncomputable def F_Board_init_ : SpecF := fnF (fun x : Nat × List Tm => [.int x.1, termsD x.2]) (fun x => (1 ≤ x.1 ∧ x.1 ≤ 8) ∧ x.2.length ≤ 24 ∧ TsOk x.1 x.2) (fun x => boardD x.1 x.2)
theorem M_Board_init_ : Mono F_Board_init_ := fnM _ _ _
noncomputable def S_Board_init_ : Sg := { z := true, fs := [F_is_between, F_is_term], gs := [.int 8, .int 24] }
theorem W_Board_init_ : ∀ ds Φ, F_Board_init_ ds Φ → ds.length + 1 = 3 ∧ initW S_Board_init_ ts_Board_init_ fs_Board_init_ (none :: ((ds.map T.leaf).map some ++ List.replicate (n_Board_init_.length - (ds.length + 1)) none)) fun ds' => Φ (.leaf (.obj 0 ds')) := by
  rintro ds Φ ⟨⟨n, ts⟩, rfl, ⟨⟨h1, h2⟩, h3, h4⟩, k⟩
  have h3 : ts.length ≤ 24 := h3
  refine ⟨rfl, ?_⟩
  unfold ts_Board_init_ fs_Board_init_
  simp only [initW, storesW]
  trace_state
  refine ⟨(n, 1, 8), rfl, trivial, ?_⟩
  simp only [decide_eq_true (show (1 : Int) ≤ n ∧ (n : Int) ≤ 8 from ⟨by omega, by omega⟩)]
  refine t_bl rfl ⟨rfl, ?_⟩
  trace_state
  · exfalso; rename_i c; simp at c; omega
  refine ⟨_, rfl, by simp; omega, lcW_map (fun _ => .leaf (.bl true)) (fun x hx Ψ hΨ => ?_) ?_⟩
  · obtain ⟨t, ht, rfl⟩ := List.mem_map.mp hx
    trace_state
    refine ⟨(t, n), rfl, h4 t ht, ?_⟩
    trace_state
    exact hΨ
  trace_state
  refine l_allT (bs := ts.map fun _ => true) (ds := ts.map fun _ => .bl true) ?_ ?_ ?_ ?_
  · simp [T.dat, T.dats_eq]
  · rw [← toBls_map (ts.map fun _ => true), List.map_map]; rfl
  · simp
  refine t_bl rfl ⟨rfl, ?_⟩
  trace_state
  refine ⟨_, .inl rfl, rfl, ?_⟩
  simp only [T.dat, dats_leaf]
  exact k
end
section
open PySem PySem.Spec PyProof.Rows L2 DL
end
section
open PySem PySem.Spec PyProof.Rows L2 DL
theorem Tm.Ok.mono {t : Tm} {n : Nat} {m k : Int} (h : t.Ok n m) (l : m ≤ k) : t.Ok n k := by
  cases t with
  | stop a b c => exact ⟨h.1, h.2.1, trivial⟩
  | wish a b c f => exact ⟨h.1, h.2.1, h.2.2.1, Int.le_trans h.2.2.2 l⟩
  | bar a o b c => exact ⟨h.1, h.2.1, h.2.2⟩
  | tie a o b c f => exact ⟨h.1, h.2.1, h.2.2.1, h.2.2.2.1, Int.le_trans h.2.2.2.2 l⟩
end
section
open PySem PySem.Spec PyProof.Rows L2 DL
noncomputable abbrev n_Board_terms : List Str := ["self"]
noncomputable def b_Board_terms : DL.B := (.ret (.blt .list (.cons (.fld 0 1 (.nm 0)) .nil)) .nil)
theorem its_terms (ts : List Tm) : (T.leaf (termsD ts)).its = some (ts.map fun t => .leaf t.D) := by
  show some ((ts.map Tm.D).map T.leaf) = _
  rw [List.map_map]; rfl
theorem dat_terms (ts : List Tm) : (T.lst (ts.map fun t => T.leaf t.D)).dat = termsD ts := by
  simp [T.dat, T.dats_eq, termsD]
noncomputable def F_Board_terms : SpecF := fun ds Φ => ∃ (n : Nat) (ts : List Tm), ds = [boardD n ts] ∧ Φ (.lst (ts.map fun t => .leaf t.D))
theorem M_Board_terms : Mono F_Board_terms := fun ds Φ Ψ i ⟨n, ts, e, k⟩ => ⟨n, ts, e, i _ k⟩
noncomputable def S_Board_terms : Sg := { z := true, fs := [], gs := [] }
theorem W_Board_terms : WOk S_Board_terms n_Board_terms b_Board_terms F_Board_terms 1 := by
  rintro ds Φ ⟨n, ts, rfl, k⟩
  refine ⟨rfl, ?_⟩
  unfold b_Board_terms
  trace_state
  refine ⟨_, _, rfl, rfl, ?_⟩
  trace_state
  refine l_list (.inl (its_terms ts)) ?_
  trace_state
  exact k
theorem Tm.lay (t : Tm) : t.D.lay = true := by
  rcases t with ⟨d, l, h⟩ | ⟨d, l, h, f⟩ | ⟨d, o, l, h⟩ | ⟨d, o, l, h, f⟩ <;> simp only [Tm.D, D.lay, D.lays, so_stop, so_wish, so_bar, so_tie, Bool.and_self, Bool.and_true]
theorem Tm.dep (t : Tm) : t.D.dep ≤ 1 := by cases t <;> exact Nat.le_of_ble_eq_true rfl
theorem Tm.wt (t : Tm) : t.D.wt ≤ 20 := by cases t <;> exact Nat.le_of_ble_eq_true rfl
theorem terms_deps : ∀ ts : List Tm, D.deps (ts.map Tm.D) ≤ 1
  | [] => by simp [D.deps]
  | t :: r => by
    simp only [List.map_cons, D.deps]
    exact Nat.max_le.mpr ⟨t.dep, terms_deps r⟩
theorem terms_fit (ts : List Tm) : (termsD ts).Fit := by
  refine ⟨?_, ?_⟩
  · show D.lays (ts.map Tm.D) = true
    rw [D.lays_eq, List.all_eq_true]
    intro x hx
    obtain ⟨t, _, rfl⟩ := List.mem_map.mp hx
    exact t.lay
  · show D.deps (ts.map Tm.D) + 1 ≤ 60
    have := terms_deps ts
    omega
end
section
open PySem PySem.Spec PyProof.Rows L2 DL
noncomputable def stay (n : Nat) (grp : List Nat) : List Nat := (List.range n).filter fun o => decide (o ∉ grp)
noncomputable def gg (n : Nat) (f : Nat → Int) (g : Nat → Nat → Int) (grp : List Nat) : Int := (grp.map fun d => f d - ((stay n grp).map (g d)).sum).sum
end
section
open PySem PySem.Spec PyProof.Rows L2 DL

noncomputable def evT : Tm → List (List Int × Int)
  | .wish d l h f => [([(d : Int), -1, l], f), ([(d : Int), -1, h], f)]
  | .tie d o l h f => if d < o then [([(d : Int), o, l], f), ([(d : Int), o, h], f)] else [([(o : Int), d, -h], f), ([(o : Int), d, -l], f)]
  | _ => []
noncomputable def evL (ts : List Tm) : List (List Int × Int) := ts.flatMap evT
noncomputable def addK (kv : KvT) (e : List Int × Int) : KvT := putI kv e.1 ((valI kv e.1).getD 0 + e.2)
noncomputable def tabK (ts : List Tm) : KvT := (evL ts).foldl addK []
noncomputable def sumK (es : List (List Int × Int)) (k : List Int) : Int := (es.map fun e => if e.1 = k then e.2 else 0).sum
theorem sumK_cons (e : List Int × Int) (r : List (List Int × Int)) (k : List Int) : sumK (e :: r) k = (if e.1 = k then e.2 else 0) + sumK r k := rfl
theorem sumK_app (a b : List (List Int × Int)) (k : List Int) : sumK (a ++ b) k = sumK a k + sumK b k := by
  unfold sumK
  rw [List.map_append, List.sum_append]
theorem valI_fold (k : List Int) : ∀ (es : List (List Int × Int)) (kv : KvT), valI (es.foldl addK kv) k = if k ∈ es.map (·.1) then some ((valI kv k).getD 0 + sumK es k) else valI kv k
  | [], kv => by simp
  | e :: r, kv => by
    rw [List.foldl_cons, valI_fold k r, List.map_cons, sumK_cons]
    have h1 : valI (addK kv e) k = if k = e.1 then some ((valI kv e.1).getD 0 + e.2) else valI kv k := valI_put _ _ _ _
    rw [h1]
    by_cases c : k = e.1
    · subst c
      rw [if_pos rfl, if_pos rfl, if_pos (List.mem_cons_self)]
      by_cases m : e.1 ∈ r.map (·.1)
      · rw [if_pos m, Option.getD_some, Int.add_assoc]
      · rw [if_neg m]
        have z : sumK r e.1 = 0 := by
          unfold sumK
          have : (r.map fun x => if x.1 = e.1 then x.2 else 0) = r.map fun _ => (0 : Int) := List.map_congr_left fun x hx => if_neg fun z => m (List.mem_map.mpr ⟨x, hx, z⟩)
          rw [this]
          clear this m h1
          induction r with
          | nil => rfl
          | cons _ _ ih => rw [List.map_cons, List.sum_cons, ih]; rfl
        rw [z, Int.add_zero]
    · rw [if_neg c, if_neg (show ¬ e.1 = k from fun z => c z.symm), Int.zero_add]
      by_cases m : k ∈ r.map (·.1)
      · rw [if_pos m, if_pos (List.mem_cons_of_mem _ m)]
      · rw [if_neg m, if_neg fun z => (List.mem_cons.mp z).elim c m]
theorem keys_fold {k : List Int} (es : List (List Int × Int)) (kv : KvT) : k ∈ (es.foldl addK kv).map (·.1) ↔ k ∈ es.map (·.1) ∨ k ∈ kv.map (·.1) := by
  rw [← valI_some, valI_fold]
  by_cases m : k ∈ es.map (·.1)
  · rw [if_pos m]; simp [m]
  · rw [if_neg m, valI_some]; exact ⟨.inr, fun h => h.resolve_left m⟩
theorem nodup_fold : ∀ (es : List (List Int × Int)) (kv : KvT), (kv.map (·.1)).Nodup → ((es.foldl addK kv).map (·.1)).Nodup
  | [], kv, h => h
  | e :: r, kv, h => by
    rw [List.foldl_cons]
    exact nodup_fold r _ (putI_nodup _ _ _ h)
theorem len_fold : ∀ (es : List (List Int × Int)) (kv : KvT), (es.foldl addK kv).length ≤ kv.length + es.length
  | [], kv => by simp
  | e :: r, kv => by
    rw [List.foldl_cons]
    have h1 := len_fold r (addK kv e)
    have h2 := putI_le kv e.1 ((valI kv e.1).getD 0 + e.2)
    have h3 : (addK kv e).length = (putI kv e.1 ((valI kv e.1).getD 0 + e.2)).length := rfl
    rw [List.length_cons]
    omega
theorem ev_tie {d o : Nat} {l h f : Int} : evT (.tie d o l h f) = if d < o then [([(d : Int), o, l], f), ([(d : Int), o, h], f)] else [([(o : Int), d, -h], f), ([(o : Int), d, -l], f)] := rfl
theorem ev_wish {d : Nat} {l h f : Int} : evT (.wish d l h f) = [([(d : Int), -1, l], f), ([(d : Int), -1, h], f)] := rfl
theorem evT_len (t : Tm) : (evT t).length ≤ 2 := by
  cases t with
  | tie d o l h f =>
    show (if d < o then _ else _ : List (List Int × Int)).length ≤ 2
    split <;> exact Nat.le_refl _
  | wish d l h f => exact Nat.le_refl _
  | stop d l h => exact Nat.zero_le _
  | bar d o l h => exact Nat.zero_le _
theorem evL_len : ∀ ts : List Tm, (evL ts).length ≤ 2 * ts.length
  | [] => by simp [evL]
  | t :: r => by
    have h1 := evL_len r
    have h2 := evT_len t
    unfold evL at *
    rw [List.flatMap_cons, List.length_append, List.length_cons]
    omega
theorem tab_len (ts : List Tm) : (tabK ts).length ≤ 2 * ts.length := by
  have h1 := len_fold (evL ts) []
  have h2 := evL_len ts
  unfold tabK
  rw [List.length_nil] at h1
  omega
theorem evT_key {t : Tm} {e : List Int × Int} (h : e ∈ evT t) : e.1.length = 3 := by
  cases t with
  | tie d o l h' f =>
    rw [ev_tie] at h
    split at h
    · rcases List.mem_cons.mp h with rfl | h
      · rfl
      · rw [List.mem_singleton.mp h]; rfl
    · rcases List.mem_cons.mp h with rfl | h
      · rfl
      · rw [List.mem_singleton.mp h]; rfl
  | wish d l h' f =>
    rw [ev_wish] at h
    rcases List.mem_cons.mp h with rfl | h
    · rfl
    · rw [List.mem_singleton.mp h]; rfl
  | stop d l h' => simp [evT] at h
  | bar d o l h' => simp [evT] at h
theorem tab_key {ts : List Tm} {k : List Int} (h : k ∈ (tabK ts).map (·.1)) : k.length = 3 := by
  unfold tabK at h
  rcases (keys_fold _ _).mp h with h | h
  · obtain ⟨e, he, rfl⟩ := List.mem_map.mp h
    obtain ⟨t, _, ht⟩ := List.mem_flatMap.mp he
    exact evT_key ht
  · simp at h
theorem tab_keys (ts : List Tm) : ∀ q ∈ tabK ts, q.1 ≠ [] ∧ q.1.length ≤ 1000 := fun q hq => by
  have := tab_key (List.mem_map.mpr ⟨q, hq, rfl⟩)
  refine ⟨fun z => ?_, by omega⟩
  rw [z] at this
  simp at this
noncomputable def kinksD (ts : List Tm) : List DL.D := (srtK (tabK ts)).map (kinkD (tabK ts))
theorem srtK_perm {a b : KvT} (p : (a.map (·.1)).Perm (b.map (·.1))) : srtK a = srtK b := by
  unfold srtK
  have tr : ∀ a b c : List Int, decide (a ≤ b) = true → decide (b ≤ c) = true → decide (a ≤ c) = true := fun a b c h1 h2 => decide_eq_true (List.le_trans (of_decide_eq_true h1) (of_decide_eq_true h2))
  have tt : ∀ a b : List Int, (decide (a ≤ b) || decide (b ≤ a)) = true := fun a b => by
    rcases List.le_total a b with h | h
    · rw [decide_eq_true h]; rfl
    · rw [decide_eq_true h, Bool.or_true]
  refine List.Perm.eq_of_pairwise (le := fun a b => decide (a ≤ b) = true) (fun a b _ _ h1 h2 => List.le_antisymm (of_decide_eq_true h1) (of_decide_eq_true h2)) (List.pairwise_mergeSort tr tt _) (List.pairwise_mergeSort tr tt _) ?_
  exact (List.mergeSort_perm _ _).trans (p.trans (List.mergeSort_perm _ _).symm)
noncomputable def Free (ts : List Tm) : Prop := ∀ t ∈ ts, t.pulls = true ∧ 1 ≤ t.force
theorem ev_pos {ts : List Tm} (h : Free ts) : ∀ e ∈ evL ts, 1 ≤ e.2 := fun e he => by
  obtain ⟨t, ht, h1⟩ := List.mem_flatMap.mp he
  have h2 := (h t ht).2
  cases t with
  | tie d o l h' f =>
    rw [ev_tie] at h1
    split at h1
    · rcases List.mem_cons.mp h1 with rfl | h1
      · exact h2
      · rw [List.mem_singleton.mp h1]; exact h2
    · rcases List.mem_cons.mp h1 with rfl | h1
      · exact h2
      · rw [List.mem_singleton.mp h1]; exact h2
  | wish d l h' f =>
    rw [ev_wish] at h1
    rcases List.mem_cons.mp h1 with rfl | h1
    · exact h2
    · rw [List.mem_singleton.mp h1]; exact h2
  | stop d l h' => simp [evT] at h1
  | bar d o l h' => simp [evT] at h1
theorem sumK_nn {k : List Int} : ∀ es : List (List Int × Int), (∀ e ∈ es, 1 ≤ e.2) → 0 ≤ sumK es k ∧ (k ∈ es.map (·.1) ↔ 0 < sumK es k)
  | [], _ => by simp [sumK]
  | e :: r, h => by
    obtain ⟨h1, h2⟩ := sumK_nn (k := k) r fun x hx => h x (List.mem_cons_of_mem _ hx)
    have h3 := h e List.mem_cons_self
    rw [sumK_cons, List.map_cons, List.mem_cons, h2]
    by_cases c : e.1 = k
    · rw [if_pos c]
      exact ⟨by omega, fun _ => by omega, fun _ => .inl c.symm⟩
    · rw [if_neg c]
      exact ⟨by omega, fun z => z.elim (fun y => absurd y.symm c) (fun y => by omega), fun y => .inr (by omega)⟩
theorem tab_val {ts : List Tm} (h : Free ts) (k : List Int) : (valI (tabK ts) k).getD 0 = sumK (evL ts) k := by
  unfold tabK
  rw [valI_fold]
  by_cases m : k ∈ (evL ts).map (·.1)
  · rw [if_pos m]; simp [valI]
  · rw [if_neg m]
    obtain ⟨h1, h2⟩ := sumK_nn (k := k) _ (ev_pos h)
    have : ¬ 0 < sumK (evL ts) k := fun z => m (h2.mpr z)
    simp only [valI, Option.getD_none]
    omega
theorem tab_mem {ts : List Tm} (h : Free ts) (k : List Int) : k ∈ (tabK ts).map (·.1) ↔ 0 < sumK (evL ts) k := by
  unfold tabK
  rw [keys_fold, ← (sumK_nn (k := k) _ (ev_pos h)).2]
  simp
/-- boards whose weights are the same have the same list -/
theorem kinks_same {ts us : List Tm} (h1 : Free ts) (h2 : Free us) (h : ∀ k, sumK (evL ts) k = sumK (evL us) k) : kinksD ts = kinksD us := by
  have p : ((tabK ts).map (·.1)).Perm ((tabK us).map (·.1)) := by
    refine (List.perm_ext_iff_of_nodup (nodup_fold (evL ts) [] List.nodup_nil) (nodup_fold (evL us) [] List.nodup_nil)).mpr fun k => ?_
    have a := tab_mem h1 k
    have b := tab_mem h2 k
    unfold tabK at a b
    rw [a, b, h k]
  unfold kinksD
  rw [srtK_perm p]
  refine List.map_congr_left fun k _ => ?_
  unfold kinkD
  rw [tab_val h1, tab_val h2, h k]

end
section
open PySem PySem.Spec PyProof.Rows L2 DL
noncomputable abbrev n_need_free : List Str := ["board", "at", "term"]
noncomputable def b_need_free : DL.B := (.for_ (.cons (.nm 1) (.cons (.nm 2) .nil)) (.enm (.cons (.mt0 0 0 (.nm 0)) .nil)) (.ite (.not (.val (.call 0 (.cons (.nm 2) .nil)))) .dead .nil .nil) .nil)
noncomputable abbrev n_places_of : List Str := ["term", "dial", "other", "ends"]
noncomputable def b_places_of : DL.B := (.par3 1 2 3 (.ix (.nm 0) (.int 1)) (.call 0 (.cons (.nm 0) .nil)) (.call 1 (.cons (.nm 0) .nil)) (.ite (.cmp .isN (.nm 2) .non) (.ret (.tup (.cons (.nm 1) (.cons (.neg (.int 1)) (.cons (.nm 3) .nil)))) .nil) .nil (.ite (.cmp .lt (.nm 1) (.nm 2)) (.ret (.tup (.cons (.nm 1) (.cons (.nm 2) (.cons (.nm 3) .nil)))) .nil) .nil (.ret (.tup (.cons (.nm 2) (.cons (.nm 1) (.cons (.tup (.cons (.neg (.ix (.nm 3) (.int 1))) (.cons (.neg (.ix (.nm 3) (.int 0))) .nil))) .nil)))) .nil))))
noncomputable abbrev n_weights_of : List Str := ["board", "found", "term", "end", "dial", "other", "ends"]
noncomputable def b_weights_of : DL.B := (.ex (.call 0 (.cons (.nm 0) .nil)) (.asg (.nm 1) (.hk 0 .nil) (.for_ (.nm 2) (.sq (.mt0 0 0 (.nm 0))) (.asg (.cons (.nm 4) (.cons (.nm 5) (.cons (.nm 6) .nil))) (.call 1 (.cons (.nm 2) .nil)) (.for_ (.nm 3) (.sq (.nm 6)) (.sh 0 .nil .nil) .nil)) (.retm 1 .nil))))
noncomputable abbrev n_kinks : List Str := ["board", "found", "key"]
noncomputable def b_kinks : DL.B := (.asg (.nm 1) (.call 0 (.cons (.nm 0) .nil)) (.ret (.hk 0 .nil) .nil))
noncomputable abbrev n_law_free_terms : List Str := ["_law_bag_here", "_law_size", "_law_scale", "_law_many", "_law_found", "_law_turn", "_law_middles", "_law_mixed", "_law_middle", "_law_most", "_law_low", "_law_force", "_law_high", "_law_dial"]
noncomputable def b_law_free_terms : DL.B := (.par2 6 7 (.lst (.cons (.int 0) (.cons (.bin .pow (.int 10) (.int 9)) (.cons (.neg (.bin .pow (.int 10) (.int 17))) (.cons (.bin .sub (.bin .pow (.int 10) (.int 18)) (.int 27)) .nil))))) (.call 0 (.cons (.nm 0) (.cons (.int 2) .nil))) (.fz 6 (.par2 8 9 (.ix (.lst (.cons (.int 0) (.cons (.int 0) (.cons (.bin .pow (.int 10) (.int 9)) (.cons (.neg (.bin .pow (.int 10) (.int 17))) .nil))))) (.call 0 (.cons (.nm 0) (.cons (.int 4) .nil)))) (.ix (.lst (.cons (.int 1) (.cons (.int 3) (.cons (.int 30) .nil)))) (.call 0 (.cons (.nm 0) (.cons (.int 3) .nil)))) (.asg (.nm 4) (.lst .nil) (.for_ (.nm 5) (.rng (.cons (.call 0 (.cons (.nm 0) (.cons (.bin .add (.nm 3) (.int 1)) .nil))) .nil)) (.asg (.nm 8) (.ix (.lst (.cons (.nm 8) (.cons (.ix (.nm 6) (.call 0 (.cons (.nm 0) (.cons (.int 4) .nil)))) .nil))) (.nm 7)) (.par2 10 11 (.bin .add (.nm 8) (.call 1 (.cons (.nm 0) (.cons (.nm 2) .nil)))) (.bin .add (.int 1) (.call 0 (.cons (.nm 0) (.cons (.nm 9) .nil)))) (.par2 12 13 (.bin .add (.nm 10) (.ix (.lst (.cons (.int 0) (.cons (.call 0 (.cons (.nm 0) (.cons (.nm 2) .nil))) (.cons (.bin .mul (.int 2) (.nm 2)) .nil)))) (.call 0 (.cons (.nm 0) (.cons (.int 3) .nil))))) (.call 0 (.cons (.nm 0) (.cons (.nm 1) .nil))) (.ite (.or (.cmp .eq (.nm 1) (.int 1)) (.one (.cmp .eq (.call 0 (.cons (.nm 0) (.cons (.int 2) .nil))) (.int 0)))) (.app 4 (.tup (.cons (.str "wish") (.cons (.nm 13) (.cons (.nm 10) (.cons (.nm 12) (.cons (.nm 11) .nil)))))) .nil) (.app 4 (.tup (.cons (.str "tie") (.cons (.nm 13) (.cons (.bin .mod (.bin .add (.bin .add (.nm 13) (.int 1)) (.call 0 (.cons (.nm 0) (.cons (.bin .sub (.nm 1) (.int 1)) .nil)))) (.nm 1)) (.cons (.nm 10) (.cons (.nm 12) (.cons (.nm 11) .nil))))))) .nil) .nil)))) (.fz 4 (.ret (.nm 4) .nil)))))))
noncomputable abbrev n_law_kinks : List Str := ["_law_terms", "_law_found", "_law_term", "_law_end", "_law_dial", "_law_other", "_law_low", "_law_high", "_law_force", "_law_key", "_law_ends"]
noncomputable def b_law_kinks : DL.B := (.asg (.nm 1) (.hk 0 .nil) (.for_ (.nm 2) (.sq (.nm 0)) (.asg (.cons (.nm 4) (.cons (.nm 5) (.cons (.nm 6) (.cons (.nm 7) (.cons (.nm 8) .nil))))) (.call 0 (.cons (.nm 2) .nil)) (.par2 9 10 (.tup (.cons (.nm 4) (.cons (.neg (.int 1)) .nil))) (.tup (.cons (.nm 6) (.cons (.nm 7) .nil))) (.ite (.cmp .notN (.nm 5) .non) (.par2 9 10 (.tup (.cons (.blt .min (.cons (.nm 4) (.cons (.nm 5) .nil))) (.cons (.blt .max (.cons (.nm 4) (.cons (.nm 5) .nil))) .nil))) (.ix (.lst (.cons (.tup (.cons (.nm 6) (.cons (.nm 7) .nil))) (.cons (.tup (.cons (.neg (.nm 7)) (.cons (.neg (.nm 6)) .nil))) .nil))) (.blt .int (.cons (.cmp .gt (.nm 4) (.nm 5)) .nil))) .nil) .nil (.for_ (.nm 3) (.sq (.nm 10)) (.sh 0 .nil .nil) .nil)))) (.fgt 9 (.ret (.hk 1 .nil) .nil))))
noncomputable abbrev n_law_split : List Str := ["_law_bag_here", "_law_terms", "_law_found", "_law_term", "_law_at", "_law_turn", "_law_parts_here", "_law_part", "_law_dial", "_law_other", "_law_low", "_law_high", "_law_force", "_law_first", "_law_one"]
noncomputable def b_law_split : DL.B := (.asg (.nm 2) (.lst .nil) (.for_ (.nm 3) (.sq (.nm 1)) (.asg (.cons (.nm 8) (.cons (.nm 9) (.cons (.nm 10) (.cons (.nm 11) (.cons (.nm 12) .nil))))) (.call 0 (.cons (.nm 3) .nil)) (.asg (.nm 6) (.lst (.cons (.nm 12) .nil)) (.fz 6 (.ite (.and (.cmp .gt (.nm 12) (.int 1)) (.one (.cmp .eq (.call 1 (.cons (.nm 0) (.cons (.int 2) .nil))) (.int 0)))) (.asg (.nm 13) (.bin .add (.int 1) (.call 1 (.cons (.nm 0) (.cons (.bin .sub (.nm 12) (.int 1)) .nil)))) (.asg (.nm 6) (.lst (.cons (.nm 13) (.cons (.bin .sub (.nm 12) (.nm 13)) .nil))) (.fz 6 .nil))) .nil (.for_ (.nm 7) (.sq (.nm 6)) (.ite (.cmp .isN (.nm 9) .non) (.app 2 (.tup (.cons (.str "wish") (.cons (.nm 8) (.cons (.nm 10) (.cons (.nm 11) (.cons (.nm 7) .nil)))))) .nil) (.ite (.cmp .eq (.call 1 (.cons (.nm 0) (.cons (.int 2) .nil))) (.int 0)) (.app 2 (.tup (.cons (.str "tie") (.cons (.nm 9) (.cons (.nm 8) (.cons (.neg (.nm 11)) (.cons (.neg (.nm 10)) (.cons (.nm 7) .nil))))))) .nil) (.app 2 (.tup (.cons (.str "tie") (.cons (.nm 8) (.cons (.nm 9) (.cons (.nm 10) (.cons (.nm 11) (.cons (.nm 7) .nil))))))) .nil) .nil) .nil) .nil))))) (.for_ (.nm 4) (.rng (.cons (.bin .sub (.blt .len (.cons (.ow 2) .nil)) (.int 1)) .nil)) (.par2 14 9 (.call 0 (.cons (.ixo 2 (.nm 4)) .nil)) (.call 0 (.cons (.ixo 2 (.bin .add (.nm 4) (.int 1))) .nil)) (.ite (.and (.cmp .eq (.sl (.nm 14) .nop (.prt (.int 2))) (.sl (.nm 9) .nop (.prt (.int 2)))) (.and (.cmp .eq (.ix (.nm 14) (.int 4)) (.ix (.nm 9) (.int 4))) (.and (.cmp .le (.ix (.nm 14) (.int 2)) (.ix (.nm 9) (.int 3))) (.one (.cmp .le (.ix (.nm 9) (.int 2)) (.ix (.nm 14) (.int 3))))))) (.setix 2 (.nm 4) (.bin .add (.sl (.ixo 2 (.nm 4)) .nop (.prt (.neg (.int 3)))) (.tup (.cons (.ix (.nm 14) (.int 2)) (.cons (.ix (.nm 9) (.int 3)) (.cons (.ix (.nm 14) (.int 4)) .nil))))) (.setix 2 (.bin .add (.nm 4) (.int 1)) (.bin .add (.sl (.ixo 2 (.bin .add (.nm 4) (.int 1))) .nop (.prt (.neg (.int 3)))) (.tup (.cons (.ix (.nm 9) (.int 2)) (.cons (.ix (.nm 14) (.int 3)) (.cons (.ix (.nm 14) (.int 4)) .nil))))) .nil)) .nil .nil)) (.fz 2 (.asg (.nm 5) (.call 1 (.cons (.nm 0) (.cons (.bin .add (.blt .len (.cons (.nm 2) .nil)) (.int 1)) .nil))) (.ret (.bin .add (.sl (.nm 2) (.prt (.nm 5)) .nop) (.sl (.nm 2) .nop (.prt (.nm 5)))) .nil))))))
noncomputable def F_need_free : SpecF := fun ds Φ => ∃ (n : Nat) (ts : List Tm), ds = [boardD n ts] ∧ (∀ t ∈ ts, t.pulls = true) ∧ Φ (.leaf .non)
theorem M_need_free : Mono F_need_free := fun ds Φ Ψ i ⟨n, ts, e, h, k⟩ => ⟨n, ts, e, h, i _ k⟩
noncomputable def S_need_free : Sg := { z := true, fs := [F_is_pulling], gs := [], ms := [F_Board_terms] }
theorem W_need_free : WOk S_need_free n_need_free b_need_free F_need_free 1 := by
  rintro ds Φ ⟨n, ts, rfl, hp, k⟩
  refine ⟨rfl, ?_⟩
  unfold b_need_free
  trace_state
  refine ⟨_, rfl, n, ts, rfl, ?_⟩
  trace_state
  refine ⟨_, rfl, ?_⟩
  rw [show T.dats (ts.map fun t => T.leaf t.D) = ts.map Tm.D by rw [T.dats_eq, List.map_map]; rfl]
  refine forW_inv (fun ds ρ => ∃ (j : Nat) (rest : List Tm) (c1 c2 : Option T), ds = enumFrom j (rest.map Tm.D) ∧ (∀ t ∈ rest, t.pulls = true) ∧ ρ = [some (.leaf (boardD n ts)), c1, c2]) ⟨0, ts, _, _, rfl, hp, rfl⟩ (fun d r ρ K1 g1 k1 _ _ kr1 => ?_) fun ρ h => ?_
  · obtain ⟨j, rest, c1, c2, e, hr, rfl⟩ := g1
    obtain ⟨x, rest', er, rfl, e2⟩ := enm_cons e
    cases rest with
    | nil => simp at er
    | cons t rest =>
      simp only [List.map_cons, List.cons.injEq] at er
      obtain ⟨rfl, rfl⟩ := er
      have ht := hr t List.mem_cons_self
      trace_state
      refine ⟨t, rfl, trivial, ?_⟩
      simp only [ht]
      trace_state
      exact k1 _ ⟨j + 1, rest, _, _, e2, fun u hu => hr u (List.mem_cons_of_mem _ hu), rfl⟩
  · obtain ⟨j, rest, c1, c2, e, hr, rfl⟩ := h
    trace_state
    exact k
/-- where a term's ends are looked for -/
noncomputable def plcT : Tm → Int × Int × Int × Int
  | .wish d l h _ => (d, -1, l, h)
  | .tie d o l h _ => if d < o then (d, o, l, h) else (o, d, -h, -l)
  | .stop d l h => (d, -1, l, h)
  | .bar d o l h => if d < o then (d, o, l, h) else (o, d, -h, -l)
theorem ev_plc {t : Tm} (h : t.pulls = true) : evT t = [([(plcT t).1, (plcT t).2.1, (plcT t).2.2.1], t.force), ([(plcT t).1, (plcT t).2.1, (plcT t).2.2.2], t.force)] := by
  cases t with
  | wish d l h f => rfl
  | tie d o l h f =>
    rw [ev_tie]
    unfold plcT
    by_cases c : d < o
    · rw [if_pos c]; simp only [if_pos c]; rfl
    · rw [if_neg c]; simp only [if_neg c]; rfl
  | stop d l h' => simp [Tm.pulls] at h
  | bar d o l h' => simp [Tm.pulls] at h
noncomputable def F_places_of : SpecF := fnF (fun t : Tm => [t.D]) (fun _ => True) (fun t => .tup [.int (plcT t).1, .int (plcT t).2.1, .tup [.int (plcT t).2.2.1, .int (plcT t).2.2.2]])
theorem M_places_of : Mono F_places_of := fnM _ _ _
noncomputable def S_places_of : Sg := { z := true, fs := [F_other_of, F_ends_of], gs := [] }
theorem W_places_of : WOk S_places_of n_places_of b_places_of F_places_of 1 := by
  rintro ds Φ ⟨t, rfl, -, k⟩
  refine ⟨rfl, ?_⟩
  unfold b_places_of
  have k : Φ (.leaf (.tup [.int (plcT t).1, .int (plcT t).2.1, .tup [.int (plcT t).2.2.1, .int (plcT t).2.2.2]])) := k
  cases t with
  | wish d l h f =>
    trace_state
    refine ⟨.wish d l h f, rfl, trivial, ?_⟩
    trace_state
    refine ⟨.wish d l h f, rfl, trivial, ?_⟩
    trace_state
    exact k
  | stop d l h =>
    trace_state
    refine ⟨.stop d l h, rfl, trivial, ?_⟩
    trace_state
    refine ⟨.stop d l h, rfl, trivial, ?_⟩
    trace_state
    exact k
  | tie d o l h f =>
    trace_state
    refine ⟨.tie d o l h f, rfl, trivial, ?_⟩
    trace_state
    refine ⟨.tie d o l h f, rfl, trivial, ?_⟩
    trace_state
    · rename_i c
      have c : d < o := by simpa using c
      unfold plcT at k
      simp only [if_pos c] at k
      exact k
    · rename_i c
      have c : ¬ d < o := by simpa using c
      unfold plcT at k
      simp only [if_neg c] at k
      exact k
  | bar d o l h =>
    trace_state
    refine ⟨.bar d o l h, rfl, trivial, ?_⟩
    trace_state
    refine ⟨.bar d o l h, rfl, trivial, ?_⟩
    trace_state
    · rename_i c
      have c : d < o := by simpa using c
      unfold plcT at k
      simp only [if_pos c] at k
      exact k
    · rename_i c
      have c : ¬ d < o := by simpa using c
      unfold plcT at k
      simp only [if_neg c] at k
      exact k
noncomputable def F_weights_of : SpecF := fun ds Φ => ∃ (n : Nat) (ts : List Tm), ds = [boardD n ts] ∧ (ts.length ≤ 1000 ∧ ∀ t ∈ ts, t.pulls = true) ∧ ∀ p, Φ (.reg (dtR p (tabK ts)))
theorem M_weights_of : Mono F_weights_of := fun ds Φ Ψ i ⟨n, ts, e, h, k⟩ => ⟨n, ts, e, h, fun p => i _ (k p)⟩
noncomputable def S_weights_of : Sg := { z := true, fs := [F_need_free, F_places_of], gs := [], ms := [F_Board_terms], hs := [newTV], sh := [accR 1 (.tri 4 5 3) [F_force_of] (.call 0 (.cons (.nm 2) .nil))] }
noncomputable abbrev EWt (n : Nat) (ts : List Tm) (p : Addr) (kv : KvT) (c2 c3 c4 c5 c6 : Option T) : DL.Env := [some (.leaf (boardD n ts)), some (.reg (dtR p kv)), c2, c3, c4, c5, c6]
theorem addK_le (kv : KvT) (e : List Int × Int) : (addK kv e).length ≤ kv.length + 1 := putI_le _ _ _
theorem W_weights_of : WOk S_weights_of n_weights_of b_weights_of F_weights_of 1 := by
  rintro ds Φ ⟨n, ts, rfl, ⟨hl, hp⟩, k⟩
  refine ⟨rfl, ?_⟩
  unfold b_weights_of
  trace_state
  refine ⟨n, ts, rfl, hp, ?_⟩
  trace_state
  refine ⟨rfl, fun p => ?_⟩
  refine (show T.fin (.reg _) _ from (?_ : ∃ ρ', _ ∧ _))
  refine bind_nm rfl ?_
  trace_state
  refine ⟨_, rfl, n, ts, rfl, ?_⟩
  trace_state
  refine ⟨_, rfl, ?_⟩
  refine forW_inv (fun ds ρ => ∃ (rest : List Tm) (kv : KvT) (c2 c3 c4 c5 c6 : Option T), ds = rest.map Tm.D ∧ (∀ t ∈ rest, t.pulls = true) ∧ (kv.length + 2 * rest.length ≤ 2000 ∧ tabK ts = (evL rest).foldl addK kv) ∧ ρ = EWt n ts p kv c2 c3 c4 c5 c6) ⟨ts, [], _, _, _, _, _, by rw [T.dats_eq, List.map_map]; rfl, hp, ⟨by simp; omega, rfl⟩, rfl⟩ (fun d r ρ K1 g1 k1 _ _ kr1 => ?_) fun ρ h => ?_
  · obtain ⟨rest, kv, c2, c3, c4, c5, c6, e, hr, ⟨h1, h2⟩, rfl⟩ := g1
    cases rest with
    | nil => simp at e
    | cons t rest =>
      simp only [List.map_cons, List.cons.injEq] at e
      obtain ⟨rfl, rfl⟩ := e
      have ht := hr t List.mem_cons_self
      have ev := ev_plc ht
      have h2 : tabK ts = (evL rest).foldl addK (addK (addK kv ([(plcT t).1, (plcT t).2.1, (plcT t).2.2.1], t.force)) ([(plcT t).1, (plcT t).2.1, (plcT t).2.2.2], t.force)) := by
        rw [h2]
        unfold evL
        rw [List.flatMap_cons, ev]
        rfl
      trace_state
      refine ⟨t, rfl, trivial, ?_⟩
      simp only []
      generalize plcT t = q at *
      obtain ⟨a, b, l, h⟩ := q
      have acc : ∀ (z : Int) (kv : KvT) c2 K', kv.length ≤ 9000 → K'.nx (EWt n ts p (addK kv ([a, b, z], t.force)) (some (.leaf t.D)) (some (.leaf (.int z))) (some (.leaf (.int a))) (some (.leaf (.int b))) c2) →
          wb S_weights_of (.sh 0 .nil .nil) (EWt n ts p kv (some (.leaf t.D)) (some (.leaf (.int z))) (some (.leaf (.int a))) (some (.leaf (.int b))) c2) K' := fun z kv c2 K' hz kx => by
        refine wb_sh0 (f := accR 1 (.tri 4 5 3) [F_force_of] (.call 0 (.cons (.nm 2) .nil))) rfl (wv_nil ?_)
        refine ⟨p, kv, [a, b, z], rfl, ⟨a, b, z, rfl, rfl, rfl, rfl⟩, hz, wE_of ?_⟩
        trace_state
        refine ⟨t, rfl, ht, t.force, rfl, ?_⟩
        trace_state
        exact kx
      generalize DL.B.sh 0 .nil .nil = sq at *
      refine bind_3 rfl rfl ?_
      trace_state
      refine ⟨_, rfl, ?_⟩
      refine (show forW _ _ (_ :: _) _ _ from (?_ : ∃ ρ', _ ∧ _))
      refine bind_nm rfl ?_
      refine acc l kv _ _ (by simp at h1; omega) ?_
      refine (show forW _ _ (_ :: _) _ _ from (?_ : ∃ ρ', _ ∧ _))
      refine bind_nm rfl ?_
      have ll := addK_le kv ([a, b, l], t.force)
      refine acc h _ _ _ (by simp only [List.length_cons] at h1; omega) ?_
      have ll2 := addK_le (addK kv ([a, b, l], t.force)) ([a, b, h], t.force)
      refine k1 _ ⟨rest, _, _, _, _, _, _, rfl, fun u hu => hr u (List.mem_cons_of_mem _ hu), ⟨?_, h2⟩, rfl⟩
      simp only [List.length_cons] at h1
      show (addK (addK kv ([a, b, l], t.force)) ([a, b, h], t.force)).length + _ ≤ _
      omega
  · obtain ⟨rest, kv, c2, c3, c4, c5, c6, e, hr, ⟨h1, h2⟩, rfl⟩ := h
    have e : rest = [] := by simpa using e.symm
    subst e
    trace_state
    have h2 : tabK ts = kv := h2
    have k := k p
    rw [h2] at k
    exact k

noncomputable def F_kinks : SpecF := fun ds Φ => ∃ (n : Nat) (ts : List Tm), ds = [boardD n ts] ∧ (ts.length ≤ 1000 ∧ ∀ t ∈ ts, t.pulls = true) ∧ Φ (.lst ((kinksD ts).map .leaf))
theorem M_kinks : Mono F_kinks := fun ds Φ Ψ i ⟨n, ts, e, h, k⟩ => ⟨n, ts, e, h, i _ k⟩
noncomputable def S_kinks : Sg := { z := true, fs := [F_weights_of], gs := [], hs := [kinkV 1 2] }
theorem W_kinks : WOk S_kinks n_kinks b_kinks F_kinks 1 := by
  rintro ds Φ ⟨n, ts, rfl, ⟨hl, hp⟩, k⟩
  refine ⟨rfl, ?_⟩
  unfold b_kinks
  trace_state
  refine ⟨n, ts, rfl, ⟨hl, hp⟩, fun p => ?_⟩
  refine (show T.fin (.reg _) _ from (?_ : ∃ ρ', _ ∧ _))
  refine bind_nm rfl ?_
  trace_state
  have h1 := tab_len ts
  refine ⟨rfl, Nat.le_of_ble_eq_true rfl, p, tabK ts, rfl, by omega, tab_keys ts, rfl, ?_⟩
  trace_state
  have e : ((kinksD ts).map T.leaf) = (srtK (tabK ts)).map fun k => .leaf (kinkD (tabK ts) k) := by
    unfold kinksD
    rw [List.map_map]
    rfl
  rw [e] at k
  exact k
noncomputable def FrOk (n : Nat) (ts : List Tm) : Prop := ∀ t ∈ ts, t.Ok n 30 ∧ t.pulls = true
theorem FrOk.free {n : Nat} {ts : List Tm} (h : FrOk n ts) : Free ts := fun t ht => by
  obtain ⟨h1, h2⟩ := h t ht
  refine ⟨h2, ?_⟩
  cases t with
  | wish d l h f => exact h1.2.2.1
  | tie d o l h f => exact h1.2.2.2.1
  | stop d l h' => simp [Tm.pulls] at h2
  | bar d o l h' => simp [Tm.pulls] at h2
noncomputable def F_law_kinks : SpecF := fun ds Φ => ∃ (n : Nat) (ts : List Tm), ds = [termsD ts] ∧ (ts.length ≤ 1000 ∧ FrOk n ts) ∧ Φ (.lst ((kinksD ts).map .leaf))
theorem M_law_kinks : Mono F_law_kinks := fun ds Φ Ψ i ⟨n, ts, e, h, k⟩ => ⟨n, ts, e, h, i _ k⟩
noncomputable def S_law_kinks : Sg := { z := true, fs := [F_law_parts], gs := [], hs := [newTV, kinkV 1 9], sh := [accR 1 (.cat 9 3) [] (.nm 8)] }
noncomputable abbrev ELk (ts : List Tm) (p : Addr) (kv : KvT) (c2 c3 c4 c5 c6 c7 c8 c9 c10 : Option T) : DL.Env := [some (.leaf (termsD ts)), some (.reg (dtR p kv)), c2, c3, c4, c5, c6, c7, c8, c9, c10]
section
variable {ts : List Tm} {p : Addr} {kv : KvT} {c2 c3 c4 c5 c6 c7 c8 c9 c10 : Option T} {K : EnD} {a b z f l h : Int}
theorem Lk_acc (hz : kv.length ≤ 9000) (k : K.nx (ELk ts p (addK kv ([a, b, z], f)) c2 (some (.leaf (.int z))) c4 c5 c6 c7 (some (.leaf (.int f))) (some (.leaf (.tup [.int a, .int b]))) c10)) :
    wb S_law_kinks (.sh 0 .nil .nil) (ELk ts p kv c2 (some (.leaf (.int z))) c4 c5 c6 c7 (some (.leaf (.int f))) (some (.leaf (.tup [.int a, .int b]))) c10) K := by
  refine wb_sh0 (f := accR 1 (.cat 9 3) [] (.nm 8)) rfl (wv_nil ?_)
  refine ⟨p, kv, [a, b, z], rfl, ⟨[a, b], z, rfl, by simp, by simp, rfl, rfl⟩, hz, wE_of ?_⟩
  trace_state
  exact k
theorem Lk_two (hz : kv.length ≤ 8000) (k : ∀ c3, K.nx (ELk ts p (addK (addK kv ([a, b, l], f)) ([a, b, h], f)) c2 c3 c4 c5 c6 c7 (some (.leaf (.int f))) (some (.leaf (.tup [.int a, .int b]))) (some (.leaf (.tup [.int l, .int h]))))) :
    wb S_law_kinks (.for_ (.nm 3) (.sq (.nm 10)) (.sh 0 .nil .nil) .nil) (ELk ts p kv c2 c3 c4 c5 c6 c7 (some (.leaf (.int f))) (some (.leaf (.tup [.int a, .int b]))) (some (.leaf (.tup [.int l, .int h])))) K := by
  have acc := fun z kv K => Lk_acc (ts := ts) (p := p) (kv := kv) (c2 := c2) (c4 := c4) (c5 := c5) (c6 := c6) (c7 := c7) (c10 := some (.leaf (.tup [.int l, .int h]))) (K := K) (a := a) (b := b) (z := z) (f := f)
  generalize DL.B.sh 0 .nil .nil = sq at *
  trace_state
  refine ⟨_, rfl, ?_⟩
  refine (show forW _ _ (_ :: _) _ _ from (?_ : ∃ ρ', _ ∧ _))
  refine bind_nm rfl ?_
  refine acc l kv _ (by omega) ?_
  refine (show forW _ _ (_ :: _) _ _ from (?_ : ∃ ρ', _ ∧ _))
  refine bind_nm rfl ?_
  have ll := addK_le kv ([a, b, l], f)
  refine acc h _ _ (by omega) ?_
  show wb _ _ _ _
  trace_state
  exact k _
end
theorem W_law_kinks : WOk S_law_kinks n_law_kinks b_law_kinks F_law_kinks 1 := by
  rintro ds Φ ⟨n, ts, rfl, ⟨hl, hp⟩, k⟩
  refine ⟨rfl, ?_⟩
  have two := fun p kv c2 c3 c4 c5 c6 c7 K a b f l h => Lk_two (ts := ts) (p := p) (kv := kv) (c2 := c2) (c3 := c3) (c4 := c4) (c5 := c5) (c6 := c6) (c7 := c7) (K := K) (a := a) (b := b) (f := f) (l := l) (h := h)
  unfold b_law_kinks
  generalize DL.B.for_ (.nm 3) _ _ _ = q3 at *
  trace_state
  refine ⟨rfl, fun p => ?_⟩
  refine (show T.fin (.reg _) _ from (?_ : ∃ ρ', _ ∧ _))
  refine bind_nm rfl ?_
  trace_state
  refine ⟨_, rfl, ?_⟩
  refine forW_inv (fun ds ρ => ∃ (rest : List Tm) (kv : KvT) (c2 c3 c4 c5 c6 c7 c8 c9 c10 : Option T), ds = rest.map Tm.D ∧ FrOk n rest ∧ (kv.length + 2 * rest.length ≤ 2000 ∧ tabK ts = (evL rest).foldl addK kv) ∧ ρ = ELk ts p kv c2 c3 c4 c5 c6 c7 c8 c9 c10) ⟨ts, [], _, _, _, _, _, _, _, _, _, rfl, hp, ⟨by simp; omega, rfl⟩, rfl⟩ (fun d r ρ K1 g1 k1 _ _ kr1 => ?_) fun ρ h => ?_
  · obtain ⟨rest, kv, c2, c3, c4, c5, c6, c7, c8, c9, c10, e, hr, ⟨h1, h2⟩, rfl⟩ := g1
    cases rest with
    | nil => simp at e
    | cons t rest =>
      simp only [List.map_cons, List.cons.injEq] at e
      obtain ⟨rfl, rfl⟩ := e
      obtain ⟨hok, ht⟩ := hr t List.mem_cons_self
      have hr' : FrOk n rest := fun u hu => hr u (List.mem_cons_of_mem _ hu)
      simp only [List.length_cons] at h1
      have fin : ∀ a b l h c3 c4 c5 c6 c7 c8 c9 c10 c2, evT t = [([a, b, l], t.force), ([a, b, h], t.force)] → K1.nx (ELk ts p (addK (addK kv ([a, b, l], t.force)) ([a, b, h], t.force)) c2 c3 c4 c5 c6 c7 c8 c9 c10) := fun a b l h c3 c4 c5 c6 c7 c8 c9 c10 c2 ev => by
        refine k1 _ ⟨rest, _, c2, c3, c4, c5, c6, c7, c8, c9, c10, rfl, hr', ⟨?_, ?_⟩, rfl⟩
        · have e1 := addK_le kv ([a, b, l], t.force)
          have e2 := addK_le (addK kv ([a, b, l], t.force)) ([a, b, h], t.force)
          omega
        · rw [h2]
          unfold evL
          rw [List.flatMap_cons, ev]
          rfl
      trace_state
      refine ⟨t, rfl, trivial, ?_⟩
      cases t with
      | wish d l h f =>
        trace_state
        exact two _ _ _ _ _ _ _ _ _ _ _ _ _ _ (by omega) fun c3 => fin _ _ _ _ _ _ _ _ _ _ _ _ _ rfl
      | tie d o l h f =>
        have ne : d ≠ o := hok.2.2.1
        trace_state
        · rename_i c
          have c : (o : Int) < d := c
          have c' : o < d := by omega
          have e1 : (if (o : Int) < ((Tm.tie d o l h f).dial : Int) then (o : Int) else ((Tm.tie d o l h f).dial : Int)) = o := if_pos c
          have e2 : (if (o : Int) > ((Tm.tie d o l h f).dial : Int) then (o : Int) else ((Tm.tie d o l h f).dial : Int)) = d := if_neg (show ¬ (d : Int) < o by omega)
          rw [e1, e2]
          exact two _ _ _ _ _ _ _ _ _ _ _ _ _ _ (by omega) fun c3 => fin _ _ _ _ _ _ _ _ _ _ _ _ _ (by rw [ev_tie, if_neg (by omega)]; rfl)
        · rename_i c
          have c : ¬ (o : Int) < d := c
          have e1 : (if (o : Int) < ((Tm.tie d o l h f).dial : Int) then (o : Int) else ((Tm.tie d o l h f).dial : Int)) = d := if_neg c
          have e2 : (if (o : Int) > ((Tm.tie d o l h f).dial : Int) then (o : Int) else ((Tm.tie d o l h f).dial : Int)) = o := if_pos (show (d : Int) < o by omega)
          rw [e1, e2]
          exact two _ _ _ _ _ _ _ _ _ _ _ _ _ _ (by omega) fun c3 => fin _ _ _ _ _ _ _ _ _ _ _ _ _ (by rw [ev_tie, if_pos (by omega)]; rfl)
      | stop d l h' => simp [Tm.pulls] at ht
      | bar d o l h' => simp [Tm.pulls] at ht
  · obtain ⟨rest, kv, c2, c3, c4, c5, c6, c7, c8, c9, c10, e, hr, ⟨h1, h2⟩, rfl⟩ := h
    have e : rest = [] := by simpa using e.symm
    subst e
    have h2 : tabK ts = kv := h2
    have ll := tab_len ts
    have lk := tab_keys ts
    rw [h2] at ll lk
    trace_state
    refine ⟨rfl, Nat.le_of_ble_eq_true rfl, p, kv, rfl, by omega, lk, rfl, ?_⟩
    trace_state
    have e : ((kinksD ts).map T.leaf) = (srtK (tabK ts)).map fun k => .leaf (kinkD (tabK ts) k) := by
      unfold kinksD
      rw [List.map_map]
      rfl
    rw [e, h2] at k
    exact k
end
section
open PySem PySem.Spec PyProof.Rows L2 DL
noncomputable def q_ft3 : DL.B := (.ite (.or (.cmp .eq (.nm 1) (.int 1)) (.one (.cmp .eq (.call 0 (.cons (.nm 0) (.cons (.int 2) .nil))) (.int 0)))) (.app 4 (.tup (.cons (.str "wish") (.cons (.nm 13) (.cons (.nm 10) (.cons (.nm 12) (.cons (.nm 11) .nil)))))) .nil) (.app 4 (.tup (.cons (.str "tie") (.cons (.nm 13) (.cons (.bin .mod (.bin .add (.bin .add (.nm 13) (.int 1)) (.call 0 (.cons (.nm 0) (.cons (.bin .sub (.nm 1) (.int 1)) .nil)))) (.nm 1)) (.cons (.nm 10) (.cons (.nm 12) (.cons (.nm 11) .nil))))))) .nil) .nil)
noncomputable def q_ft2 : DL.B := (.par2 10 11 (.bin .add (.nm 8) (.call 1 (.cons (.nm 0) (.cons (.nm 2) .nil)))) (.bin .add (.int 1) (.call 0 (.cons (.nm 0) (.cons (.nm 9) .nil)))) (.par2 12 13 (.bin .add (.nm 10) (.ix (.lst (.cons (.int 0) (.cons (.call 0 (.cons (.nm 0) (.cons (.nm 2) .nil))) (.cons (.bin .mul (.int 2) (.nm 2)) .nil)))) (.call 0 (.cons (.nm 0) (.cons (.int 3) .nil))))) (.call 0 (.cons (.nm 0) (.cons (.nm 1) .nil))) q_ft3))
noncomputable def q_ft1 : DL.B := (.asg (.nm 4) (.lst .nil) (.for_ (.nm 5) (.rng (.cons (.call 0 (.cons (.nm 0) (.cons (.bin .add (.nm 3) (.int 1)) .nil))) .nil)) (.asg (.nm 8) (.ix (.lst (.cons (.nm 8) (.cons (.ix (.nm 6) (.call 0 (.cons (.nm 0) (.cons (.int 4) .nil)))) .nil))) (.nm 7)) q_ft2) (.fz 4 (.ret (.nm 4) .nil))))
theorem ft_eq : b_law_free_terms = (.par2 6 7 (.lst (.cons (.int 0) (.cons (.bin .pow (.int 10) (.int 9)) (.cons (.neg (.bin .pow (.int 10) (.int 17))) (.cons (.bin .sub (.bin .pow (.int 10) (.int 18)) (.int 27)) .nil))))) (.call 0 (.cons (.nm 0) (.cons (.int 2) .nil))) (.fz 6 (.par2 8 9 (.ix (.lst (.cons (.int 0) (.cons (.int 0) (.cons (.bin .pow (.int 10) (.int 9)) (.cons (.neg (.bin .pow (.int 10) (.int 17))) .nil))))) (.call 0 (.cons (.nm 0) (.cons (.int 4) .nil)))) (.ix (.lst (.cons (.int 1) (.cons (.int 3) (.cons (.int 30) .nil)))) (.call 0 (.cons (.nm 0) (.cons (.int 3) .nil)))) q_ft1))) := rfl
noncomputable def MidOk (c : Int) : Prop := c = 0 ∨ c = 10 ^ 9 ∨ c = -(10 ^ 17) ∨ c = 10 ^ 18 - 27
noncomputable def F_law_free_terms : SpecF := fun ds Φ => ∃ (n : Nat) (s m : Int), ds = [.bag, .int n, .int s, .int m] ∧ ((1 ≤ n ∧ n ≤ 8) ∧ (1 ≤ s ∧ s ≤ 6) ∧ 0 ≤ m ∧ m ≤ 100) ∧ ∀ ts : List Tm, FrOk n ts → (ts.length : Int) ≤ m → Φ (.leaf (termsD ts))
theorem M_law_free_terms : Mono F_law_free_terms := fun ds Φ Ψ i ⟨n, s, m, e, h, k⟩ => ⟨n, s, m, e, h, fun ts a b => i _ (k ts a b)⟩
noncomputable def S_law_free_terms : Sg := { z := true, fs := [takeF, F_law_number], gs := [] }
noncomputable def midsD : DL.D := .lst [.int 0, .int (10 ^ 9), .int (-(10 ^ 17)), .int (10 ^ 18 - 27)]
noncomputable abbrev EFt (n : Nat) (s m : Int) (ts : List Tm) (x : Int) (c : Int) (f : Int) (c5 c10 c11 c12 c13 : Option T) : DL.Env :=
  [some (.leaf .bag), some (.leaf (.int n)), some (.leaf (.int s)), some (.leaf (.int m)), some (.lst (ts.map fun t => .leaf t.D)), c5, some (.leaf midsD), some (.leaf (.int x)), some (.leaf (.int c)), some (.leaf (.int f)), c10, c11, c12, c13]
section
variable {n : Nat} {s m x c f : Int} {ts : List Tm} {K : EnD} {c5 c10 c11 c12 c13 : Option T}
theorem snocD (ts : List Tm) (u : Tm) : (ts.map fun t => T.leaf t.D) ++ [T.leaf u.D] = (ts ++ [u]).map fun t => T.leaf t.D := by rw [List.map_append]; rfl
theorem Ft_3 (hn : 1 ≤ n ∧ n ≤ 8) (hl : ts.length ≤ 200) {d : Nat} (hd : d < n) {l h g : Int} (hlh : -(10 ^ 18) ≤ l ∧ l ≤ h ∧ h ≤ 10 ^ 18) (hg : 1 ≤ g ∧ g ≤ 30)
    (k : ∀ u : Tm, u.Ok n 30 → u.pulls = true → K.nx (EFt n s m (ts ++ [u]) x c f c5 (some (.leaf (.int l))) (some (.leaf (.int g))) (some (.leaf (.int h))) (some (.leaf (.int d))))) :
    wb S_law_free_terms q_ft3 (EFt n s m ts x c f c5 (some (.leaf (.int l))) (some (.leaf (.int g))) (some (.leaf (.int h))) (some (.leaf (.int d)))) K := by
  have kw := k (.wish d l h g) ⟨hd, hlh, hg⟩ rfl
  have kt := fun o (ho : o < n) (ne : d ≠ o) => k (.tie d o l h g) ⟨⟨hd, ho⟩, hlh, ne, hg⟩ rfl
  have fin : ∀ u : Tm, K.nx (EFt n s m (ts ++ [u]) x c f c5 (some (.leaf (.int l))) (some (.leaf (.int g))) (some (.leaf (.int h))) (some (.leaf (.int d)))) →
      K.nx ((EFt n s m ts x c f c5 (some (.leaf (.int l))) (some (.leaf (.int g))) (some (.leaf (.int h))) (some (.leaf (.int d)))).put 4 (some (.lst ((ts.map fun t => T.leaf t.D) ++ [T.leaf u.D])))) := fun u h => by
    rw [snocD]
    exact h
  have ln : (ts.map fun t => T.leaf t.D).length ≤ 99999 := by rw [List.length_map]; omega
  unfold q_ft3
  generalize hq1 : DL.B.app 4 (.tup (.cons (.str "wish") _)) .nil = q1
  generalize hq2 : DL.B.app 4 (.tup (.cons (.str "tie") _)) .nil = q2
  have w1 : wb S_law_free_terms q1 (EFt n s m ts x c f c5 (some (.leaf (.int l))) (some (.leaf (.int g))) (some (.leaf (.int h))) (some (.leaf (.int d)))) K := by
    rw [← hq1]
    refine wb_app rfl ln ?_
    trace_state
    exact fin (.wish d l h g) kw
  trace_state
  · exact w1
  · refine ⟨_, rfl, ⟨by decide, by decide +kernel⟩, fun v v0 v1 => ?_⟩
    trace_state
    · exact w1
    · rename_i c1 c2
      have n2 : 1 < n := by
        have c1 : ¬ (n : Int) = 1 := by simpa using c1
        omega
      rw [← hq2]
      refine wb_app rfl ln ?_
      trace_state
      refine ⟨_, rfl, ⟨by omega, by omega⟩, fun z z0 z1 => ?_⟩
      trace_state
      obtain ⟨o1, o2, o3⟩ := other_ok (d := d) (n := n) (v := z) (by omega) (by omega) z0 z1
      obtain ⟨o, ho⟩ := Int.eq_ofNat_of_zero_le o1
      rw [ho] at o2 o3 ⊢
      exact fin (.tie d o l h g) (kt o (by omega) fun e => o3 (by rw [e]))
theorem Ft_2 (hn : 1 ≤ n ∧ n ≤ 8) (hs : 1 ≤ s ∧ s ≤ 6) (hl : ts.length ≤ 200) (hc : MidOk c) (hf : 1 ≤ f ∧ f ≤ 30)
    (k : ∀ (u : Tm) c10 c11 c12 c13, u.Ok n 30 → u.pulls = true → K.nx (EFt n s m (ts ++ [u]) x c f c5 c10 c11 c12 c13)) :
    wb S_law_free_terms q_ft2 (EFt n s m ts x c f c5 c10 c11 c12 c13) K := by
  have w3 := fun d hd l h g a b => Ft_3 (n := n) (s := s) (m := m) (x := x) (c := c) (f := f) (ts := ts) (K := K) (c5 := c5) hn hl (d := d) hd (l := l) (h := h) (g := g) a b fun u h1 h2 => k u _ _ _ _ h1 h2
  have cb : -(10 ^ 17) ≤ c ∧ c ≤ 10 ^ 18 - 27 := by
    unfold MidOk at hc
    omega
  unfold q_ft2
  generalize q_ft3 = q at *
  trace_state
  refine ⟨s, rfl, by omega, by omega, fun v v0 v1 => ?_⟩
  trace_state
  refine ⟨f, rfl, ⟨by omega, by omega⟩, fun g g0 g1 => ?_⟩
  trace_state
  refine ⟨s, rfl, ⟨by omega, by omega⟩, fun y y0 y1 => ?_⟩
  trace_state
  refine ⟨_, rfl, ⟨by decide, by decide +kernel⟩, fun i i0 i1 => ?_⟩
  have hi : i = 0 ∨ i = 1 ∨ i = 2 := by omega
  rcases hi with rfl | rfl | rfl
  all_goals
    refine ix_lst rfl rfl rfl ?_
    trace_state
    refine ⟨n, rfl, ⟨by omega, by omega⟩, fun d0 d1 d2 => ?_⟩
    obtain ⟨d, rfl⟩ := Int.eq_ofNat_of_zero_le d1
    trace_state
    exact w3 d (by omega) _ _ _ ⟨by omega, by omega, by omega⟩ ⟨by omega, by omega⟩
theorem Ft_1 (hn : 1 ≤ n ∧ n ≤ 8) (hs : 1 ≤ s ∧ s ≤ 6) (hm : 0 ≤ m ∧ m ≤ 100) (hx : x = 0 ∨ x = 1) (hc : MidOk c) (hf : 1 ≤ f ∧ f ≤ 30) {c4 : Option T} (hK : ∀ ts : List Tm, FrOk n ts → (ts.length : Int) ≤ m → ∀ ρ, K.rt (.leaf (termsD ts)) ρ) :
    wb S_law_free_terms q_ft1 [some (.leaf .bag), some (.leaf (.int n)), some (.leaf (.int s)), some (.leaf (.int m)), c4, c5, some (.leaf midsD), some (.leaf (.int x)), some (.leaf (.int c)), some (.leaf (.int f)), c10, c11, c12, c13] K := by
  have w2 := fun ts c c5 c10 c11 c12 c13 K hl hc => Ft_2 (n := n) (s := s) (m := m) (x := x) (c := c) (f := f) (ts := ts) (K := K) (c5 := c5) (c10 := c10) (c11 := c11) (c12 := c12) (c13 := c13) hn hs hl hc hf
  unfold q_ft1
  generalize q_ft2 = q at *
  trace_state
  refine ⟨_, rfl, ⟨by omega, by omega⟩, fun v v0 v1 => ?_⟩
  trace_state
  refine ⟨⟨by omega, by omega⟩, ?_⟩
  obtain ⟨w, rfl⟩ := Int.eq_ofNat_of_zero_le v0
  simp only [Int.toNat_natCast]
  refine forW_rng (fun j ρ => ∃ (ts : List Tm) (c : Int) (c5 c10 c11 c12 c13 : Option T), (FrOk n ts ∧ ts.length = j ∧ MidOk c) ∧ ρ = EFt n s m ts x c f c5 c10 c11 c12 c13) ⟨[], c, _, _, _, _, _, ⟨fun _ h => (by simp at h), rfl, hc⟩, rfl⟩ (fun j ρ K' hj ⟨ts, c, c5, c10, c11, c12, c13, ⟨h1, h2, h3⟩, e⟩ k1 _ _ kr => ?_) fun ρ ⟨ts, c, c5, c10, c11, c12, c13, ⟨h1, h2, h3⟩, e⟩ => ?_
  · subst e
    refine bind_nm rfl ?_
    have go : ∀ c', MidOk c' → wb S_law_free_terms q (EFt n s m ts x c' f (some (.leaf (.int j))) c10 c11 c12 c13) K' := fun c' hc' => w2 ts c' _ _ _ _ _ K' (by omega) hc' fun u c10 c11 c12 c13 a b => k1 _ ⟨ts ++ [u], c', _, _, _, _, _, ⟨fun t ht => (List.mem_append.mp ht).elim (h1 t) fun z => by rw [List.mem_singleton.mp z]; exact ⟨a, b⟩, by simp [h2], hc'⟩, rfl⟩
    trace_state
    refine ⟨_, rfl, ⟨by decide, by decide +kernel⟩, fun i i0 i1 => ?_⟩
    have hi : i = 0 ∨ i = 1 ∨ i = 2 ∨ i = 3 := by omega
    have sel : ∀ c2, MidOk c2 → ∀ {Ψ : T → Prop}, (∀ c', MidOk c' → Ψ (.leaf (.int c'))) → ixT (.lst [.leaf (.int c), .leaf (.int c2)]) (.int x) Ψ := fun c2 h2 Ψ g => by
      rcases hx with rfl | rfl
      · exact ix_lst rfl rfl rfl (g _ h3)
      · exact ix_lst rfl rfl rfl (g _ h2)
    have sm : ∀ {Ψ : T → Prop}, (∀ c', MidOk c' → Ψ (.leaf (.int c'))) → ixT (.leaf midsD) (.int i) Ψ := fun {Ψ} g => by
      rcases hi with rfl | rfl | rfl | rfl
      · exact ix_ll rfl rfl rfl (g _ (.inl rfl))
      · exact ix_ll rfl rfl rfl (g _ (.inr (.inl rfl)))
      · exact ix_ll rfl rfl rfl (g _ (.inr (.inr (.inl rfl))))
      · exact ix_ll rfl rfl rfl (g _ (.inr (.inr (.inr rfl))))
    refine sm fun c2 h2 => ?_
    trace_state
    refine sel c2 h2 fun c' h' => ?_
    trace_state
    exact go c' h'
  · subst e
    trace_state
    rw [dat_terms]
    exact hK ts h1 (by omega) _
end
theorem W_law_free_terms : WOk S_law_free_terms n_law_free_terms b_law_free_terms F_law_free_terms 4 := by
  rintro ds Φ ⟨n, s, m, rfl, ⟨hn, hs, hm⟩, k⟩
  refine ⟨rfl, ?_⟩
  have w1 := fun x c f c4 c5 c10 c11 c12 c13 hx hc hf => Ft_1 (n := n) (s := s) (m := m) (x := x) (c := c) (f := f) (K := { nx := fun _ => Φ (.leaf .non), rt := fun t _ => Φ t }) (c4 := c4) (c5 := c5) (c10 := c10) (c11 := c11) (c12 := c12) (c13 := c13) hn hs hm hx hc hf fun ts a b _ => k ts a b
  rw [ft_eq]
  generalize q_ft1 = q at *
  trace_state
  refine ⟨_, rfl, ⟨by decide, by decide +kernel⟩, fun x x0 x1 => ?_⟩
  trace_state
  refine ⟨_, rfl, ⟨by decide, by decide +kernel⟩, fun i i0 i1 => ?_⟩
  have hi : i = 0 ∨ i = 1 ∨ i = 2 ∨ i = 3 := by omega
  have sm : ∀ {Ψ : T → Prop}, (∀ c', MidOk c' → Ψ (.leaf (.int c'))) → ixT (.lst [.leaf (.int 0), .leaf (.int 0), .leaf (.int (10 ^ 9)), .leaf (.int (-10 ^ 17))]) (.int i) Ψ := fun {Ψ} g => by
    rcases hi with rfl | rfl | rfl | rfl
    · exact ix_lst rfl rfl rfl (g _ (.inl rfl))
    · exact ix_lst rfl rfl rfl (g _ (.inl rfl))
    · exact ix_lst rfl rfl rfl (g _ (.inr (.inl rfl)))
    · exact ix_lst rfl rfl rfl (g _ (.inr (.inr (.inl rfl))))
  refine sm fun c hc => ?_
  trace_state
  refine ⟨_, rfl, ⟨by decide, by decide +kernel⟩, fun z z0 z1 => ?_⟩
  have hz : z = 0 ∨ z = 1 ∨ z = 2 := by omega
  have sz : ∀ {Ψ : T → Prop}, (∀ f, 1 ≤ f ∧ f ≤ 30 → Ψ (.leaf (.int f))) → ixT (.lst [.leaf (.int 1), .leaf (.int 3), .leaf (.int 30)]) (.int z) Ψ := fun {Ψ} g => by
    rcases hz with rfl | rfl | rfl
    · exact ix_lst rfl rfl rfl (g _ ⟨by decide, by decide⟩)
    · exact ix_lst rfl rfl rfl (g _ ⟨by decide, by decide⟩)
    · exact ix_lst rfl rfl rfl (g _ ⟨by decide, by decide⟩)
  refine sz fun f hf => ?_
  trace_state
  exact w1 x c f none none none none none none (by omega) hc hf
end
section
open PySem PySem.Spec PyProof.Rows L2 DL
noncomputable def q_sp3 : DL.B := (.ite (.cmp .isN (.nm 9) .non) (.app 2 (.tup (.cons (.str "wish") (.cons (.nm 8) (.cons (.nm 10) (.cons (.nm 11) (.cons (.nm 7) .nil)))))) .nil) (.ite (.cmp .eq (.call 1 (.cons (.nm 0) (.cons (.int 2) .nil))) (.int 0)) (.app 2 (.tup (.cons (.str "tie") (.cons (.nm 9) (.cons (.nm 8) (.cons (.neg (.nm 11)) (.cons (.neg (.nm 10)) (.cons (.nm 7) .nil))))))) .nil) (.app 2 (.tup (.cons (.str "tie") (.cons (.nm 8) (.cons (.nm 9) (.cons (.nm 10) (.cons (.nm 11) (.cons (.nm 7) .nil))))))) .nil) .nil) .nil)
noncomputable def q_sp2 : DL.B := (.for_ (.nm 7) (.sq (.nm 6)) q_sp3 .nil)
noncomputable def q_sp1 : DL.B := (.asg (.cons (.nm 8) (.cons (.nm 9) (.cons (.nm 10) (.cons (.nm 11) (.cons (.nm 12) .nil))))) (.call 0 (.cons (.nm 3) .nil)) (.asg (.nm 6) (.lst (.cons (.nm 12) .nil)) (.fz 6 (.ite (.and (.cmp .gt (.nm 12) (.int 1)) (.one (.cmp .eq (.call 1 (.cons (.nm 0) (.cons (.int 2) .nil))) (.int 0)))) (.asg (.nm 13) (.bin .add (.int 1) (.call 1 (.cons (.nm 0) (.cons (.bin .sub (.nm 12) (.int 1)) .nil)))) (.asg (.nm 6) (.lst (.cons (.nm 13) (.cons (.bin .sub (.nm 12) (.nm 13)) .nil))) (.fz 6 .nil))) .nil q_sp2))))
noncomputable def q_sp6 : DL.B := (.setix 2 (.nm 4) (.bin .add (.sl (.ixo 2 (.nm 4)) .nop (.prt (.neg (.int 3)))) (.tup (.cons (.ix (.nm 14) (.int 2)) (.cons (.ix (.nm 9) (.int 3)) (.cons (.ix (.nm 14) (.int 4)) .nil))))) (.setix 2 (.bin .add (.nm 4) (.int 1)) (.bin .add (.sl (.ixo 2 (.bin .add (.nm 4) (.int 1))) .nop (.prt (.neg (.int 3)))) (.tup (.cons (.ix (.nm 9) (.int 2)) (.cons (.ix (.nm 14) (.int 3)) (.cons (.ix (.nm 14) (.int 4)) .nil))))) .nil))
noncomputable def q_sp5 : DL.B := (.par2 14 9 (.call 0 (.cons (.ixo 2 (.nm 4)) .nil)) (.call 0 (.cons (.ixo 2 (.bin .add (.nm 4) (.int 1))) .nil)) (.ite (.and (.cmp .eq (.sl (.nm 14) .nop (.prt (.int 2))) (.sl (.nm 9) .nop (.prt (.int 2)))) (.and (.cmp .eq (.ix (.nm 14) (.int 4)) (.ix (.nm 9) (.int 4))) (.and (.cmp .le (.ix (.nm 14) (.int 2)) (.ix (.nm 9) (.int 3))) (.one (.cmp .le (.ix (.nm 9) (.int 2)) (.ix (.nm 14) (.int 3))))))) q_sp6 .nil .nil))
noncomputable def q_sp4 : DL.B := (.for_ (.nm 4) (.rng (.cons (.bin .sub (.blt .len (.cons (.ow 2) .nil)) (.int 1)) .nil)) q_sp5 (.fz 2 (.asg (.nm 5) (.call 1 (.cons (.nm 0) (.cons (.bin .add (.blt .len (.cons (.nm 2) .nil)) (.int 1)) .nil))) (.ret (.bin .add (.sl (.nm 2) (.prt (.nm 5)) .nop) (.sl (.nm 2) .nop (.prt (.nm 5)))) .nil))))
theorem sp_eq : b_law_split = (.asg (.nm 2) (.lst .nil) (.for_ (.nm 3) (.sq (.nm 1)) q_sp1 q_sp4)) := rfl
theorem ev_sum {t : Tm} (h : t.pulls = true) (k : List Int) : sumK (evT t) k = (if [(plcT t).1, (plcT t).2.1, (plcT t).2.2.1] = k then t.force else 0) + (if [(plcT t).1, (plcT t).2.1, (plcT t).2.2.2] = k then t.force else 0) := by
  rw [ev_plc h, sumK_cons, sumK_cons]
  show _ + (_ + (0 : Int)) = _
  rw [Int.add_zero]
/-- how many ends stand there -/
noncomputable def cnt (q : Int × Int × Int × Int) (k : List Int) : Int := (if [q.1, q.2.1, q.2.2.1] = k then 1 else 0) + (if [q.1, q.2.1, q.2.2.2] = k then 1 else 0)
theorem ev_cnt {t : Tm} (h : t.pulls = true) (k : List Int) : sumK (evT t) k = cnt (plcT t) k * t.force := by
  rw [ev_sum h]
  unfold cnt
  split <;> split <;> simp <;> omega
theorem evL_app (a b : List Tm) (k : List Int) : sumK (evL (a ++ b)) k = sumK (evL a) k + sumK (evL b) k := by
  unfold evL
  rw [List.flatMap_append, sumK_app]
theorem evL_one (t : Tm) (k : List Int) : sumK (evL [t]) k = sumK (evT t) k := by
  unfold evL
  rw [List.flatMap_cons, List.flatMap_nil, List.append_nil]
theorem evL_cons (t : Tm) (r : List Tm) (k : List Int) : sumK (evL (t :: r)) k = sumK (evT t) k + sumK (evL r) k := by
  rw [← evL_one t k, ← evL_app]
  rfl
theorem evL_set (k : List Int) (u : Tm) : ∀ (us : List Tm) (i : Nat) (t : Tm), us[i]? = some t → sumK (evL (us.set i u)) k = sumK (evL us) k - sumK (evT t) k + sumK (evT u) k
  | [], i, t, h => by simp at h
  | x :: us, 0, t, h => by
    simp only [List.getElem?_cons_zero, Option.some.injEq] at h
    subst h
    rw [List.set_cons_zero, evL_cons, evL_cons]
    omega
  | x :: us, i + 1, t, h => by
    rw [List.getElem?_cons_succ] at h
    have ih := evL_set k u us i t h
    rw [List.set_cons_succ, evL_cons, evL_cons, ih]
    omega
theorem plc_turn {d o : Nat} (ne : d ≠ o) (l h f g : Int) : plcT (.tie o d (-h) (-l) g) = plcT (.tie d o l h f) := by
  unfold plcT
  by_cases c : d < o
  · simp only [if_pos c, if_neg (show ¬ o < d by omega), Int.neg_neg]
  · simp only [if_neg c, if_pos (show o < d by omega)]
/-- the high ends of two terms alike are exchanged -/
theorem ends_swap {t u : Tm} (ht : t.pulls = true) (hu : u.pulls = true) (hd : t.dial = u.dial) (ho : t.oth = u.oth) (hf : t.force = u.force) (k : List Int) :
    sumK (evT (t.ends t.low u.high)) k + sumK (evT (u.ends u.low t.high)) k = sumK (evT t) k + sumK (evT u) k := by
  cases t with
  | stop d l h => simp [Tm.pulls] at ht
  | bar d o l h => simp [Tm.pulls] at ht
  | wish d l h f =>
    cases u with
    | stop d l h => simp [Tm.pulls] at hu
    | bar d o l h => simp [Tm.pulls] at hu
    | tie d2 o2 l2 h2 f2 => simp [Tm.oth] at ho
    | wish d2 l2 h2 f2 =>
      have e1 : d = d2 := hd
      have e2 : f = f2 := hf
      clear hd hf ho
      subst e1 e2
      show sumK (evT (.wish d l h2 f)) k + sumK (evT (.wish d l2 h f)) k = _
      simp only [ev_wish, sumK_cons]
      omega
  | tie d o l h f =>
    cases u with
    | stop d l h => simp [Tm.pulls] at hu
    | bar d o l h => simp [Tm.pulls] at hu
    | wish d2 l2 h2 f2 => simp [Tm.oth] at ho
    | tie d2 o2 l2 h2 f2 =>
      have e1 : d = d2 := hd
      have e2 : f = f2 := hf
      have e3 : o = o2 := by
        have : (o : Int) = o2 := by simpa [Tm.oth] using ho
        omega
      clear hd hf ho
      subst e1 e2 e3
      show sumK (evT (.tie d o l h2 f)) k + sumK (evT (.tie d o l2 h f)) k = _
      simp only [ev_tie]
      split <;> simp only [sumK_cons] <;> omega
noncomputable def F_law_split : SpecF := fun ds Φ => ∃ (n : Nat) (ts : List Tm), ds = [.bag, termsD ts] ∧ (ts.length ≤ 100 ∧ FrOk n ts) ∧ ∀ us : List Tm, FrOk n us → (∀ k, sumK (evL us) k = sumK (evL ts) k) → us.length ≤ 200 → Φ (.lst (us.map fun t => .leaf t.D))
theorem M_law_split : Mono F_law_split := fun ds Φ Ψ i ⟨n, ts, e, h, k⟩ => ⟨n, ts, e, h, fun us a b c => i _ (k us a b c)⟩
noncomputable def S_law_split : Sg := { z := true, fs := [F_law_parts, takeF], gs := [] }
noncomputable abbrev ESp (ts us : List Tm) (c3 c4 c5 c6 c7 c8 c9 c10 c11 c12 c13 c14 : Option T) : DL.Env :=
  [some (.leaf .bag), some (.leaf (termsD ts)), some (.lst (us.map fun t => .leaf t.D)), c3, c4, c5, c6, c7, c8, c9, c10, c11, c12, c13, c14]
section
variable {n : Nat} {ts us : List Tm} {K : EnD} {c3 c4 c5 c6 c7 c8 c9 c10 c11 c12 c13 c14 : Option T}
theorem Sp_3 (hl : us.length ≤ 300) {t : Tm} (ok : t.Ok n 30) (hp : t.pulls = true) {p : Int} (p1 : 1 ≤ p ∧ p ≤ 30)
    (k : ∀ u : Tm, u.Ok n 30 → u.pulls = true → plcT u = plcT t → u.force = p → K.nx (ESp ts (us ++ [u]) c3 c4 c5 c6 (some (.leaf (.int p))) (some (.leaf (.int t.dial))) (some (.leaf t.oth)) (some (.leaf (.int t.low))) (some (.leaf (.int t.high))) c12 c13 c14)) :
    wb S_law_split q_sp3 (ESp ts us c3 c4 c5 c6 (some (.leaf (.int p))) (some (.leaf (.int t.dial))) (some (.leaf t.oth)) (some (.leaf (.int t.low))) (some (.leaf (.int t.high))) c12 c13 c14) K := by
  have fin : ∀ u : Tm, K.nx (ESp ts (us ++ [u]) c3 c4 c5 c6 (some (.leaf (.int p))) (some (.leaf (.int t.dial))) (some (.leaf t.oth)) (some (.leaf (.int t.low))) (some (.leaf (.int t.high))) c12 c13 c14) →
      K.nx ((ESp ts us c3 c4 c5 c6 (some (.leaf (.int p))) (some (.leaf (.int t.dial))) (some (.leaf t.oth)) (some (.leaf (.int t.low))) (some (.leaf (.int t.high))) c12 c13 c14).put 2 (some (.lst ((us.map fun t => T.leaf t.D) ++ [T.leaf u.D])))) := fun u h => by
    rw [snocD]
    exact h
  have ln : (us.map fun t => T.leaf t.D).length ≤ 99999 := by rw [List.length_map]; omega
  unfold q_sp3
  cases t with
  | stop d l h => simp [Tm.pulls] at hp
  | bar d o l h => simp [Tm.pulls] at hp
  | wish d l h f =>
    have k := fin _ (k (.wish d l h p) ⟨ok.1, ok.2.1, p1⟩ rfl rfl rfl)
    generalize hq1 : DL.B.app 2 (.tup (.cons (.str "wish") _)) .nil = q1
    trace_state
    rw [← hq1]
    refine wb_app rfl ln ?_
    trace_state
    exact k
  | tie d o l h f =>
    have ne : d ≠ o := ok.2.2.1
    have k1 := fin _ (k (.tie d o l h p) ⟨ok.1, ok.2.1, ne, p1⟩ rfl rfl rfl)
    have ob : -(10 ^ 18) ≤ l ∧ l ≤ h ∧ h ≤ 10 ^ 18 := ok.2.1
    have k2 := fin _ (k (.tie o d (-h) (-l) p) ⟨⟨ok.1.2, ok.1.1⟩, (show -(10 ^ 18) ≤ -h ∧ -h ≤ -l ∧ -l ≤ 10 ^ 18 by omega), fun e => ne e.symm, p1⟩ rfl (plc_turn ne _ _ _ _) rfl)
    generalize hq1 : DL.B.app 2 (.tup (.cons (.str "tie") (.cons (.nm 9) _))) .nil = q1
    generalize hq2 : DL.B.app 2 (.tup (.cons (.str "tie") (.cons (.nm 8) _))) .nil = q2
    trace_state
    refine ⟨_, rfl, ⟨by decide, by decide +kernel⟩, fun v v0 v1 => ?_⟩
    trace_state
    · rw [← hq1]
      refine wb_app rfl ln ?_
      trace_state
      exact k2
    · rw [← hq2]
      refine wb_app rfl ln ?_
      trace_state
      exact k1
theorem Sp_2 {ps : List Int} (hl : us.length + ps.length ≤ 300) (hps : ∀ p ∈ ps, 1 ≤ p ∧ p ≤ 30) (hu : FrOk n us) {t : Tm} (ok : t.Ok n 30) (hp : t.pulls = true)
    (k : ∀ (us' : List Tm) c7, FrOk n us' → us'.length = us.length + ps.length → (∀ k, sumK (evL us') k = sumK (evL us) k + cnt (plcT t) k * ps.sum) → K.nx (ESp ts us' c3 c4 c5 (some (.leaf (.lst (ps.map .int)))) c7 (some (.leaf (.int t.dial))) (some (.leaf t.oth)) (some (.leaf (.int t.low))) (some (.leaf (.int t.high))) c12 c13 c14)) :
    wb S_law_split q_sp2 (ESp ts us c3 c4 c5 (some (.leaf (.lst (ps.map .int)))) c7 (some (.leaf (.int t.dial))) (some (.leaf t.oth)) (some (.leaf (.int t.low))) (some (.leaf (.int t.high))) c12 c13 c14) K := by
  have w3 := fun us p K hl h1 => Sp_3 (n := n) (ts := ts) (us := us) (K := K) (c3 := c3) (c4 := c4) (c5 := c5) (c6 := some (.leaf (.lst (ps.map .int)))) (c12 := c12) (c13 := c13) (c14 := c14) hl ok hp (p := p) h1
  unfold q_sp2
  generalize q_sp3 = q at *
  trace_state
  refine ⟨_, rfl, ?_⟩
  refine forW_inv (fun ds ρ => ∃ (rest : List Int) (us' : List Tm) (c7 : Option T), ds = rest.map .int ∧ (∀ p ∈ rest, 1 ≤ p ∧ p ≤ 30) ∧ (FrOk n us' ∧ us'.length + rest.length = us.length + ps.length ∧ ∀ k, sumK (evL us') k + cnt (plcT t) k * rest.sum = sumK (evL us) k + cnt (plcT t) k * ps.sum) ∧
    ρ = ESp ts us' c3 c4 c5 (some (.leaf (.lst (ps.map .int)))) c7 (some (.leaf (.int t.dial))) (some (.leaf t.oth)) (some (.leaf (.int t.low))) (some (.leaf (.int t.high))) c12 c13 c14) ⟨ps, us, _, rfl, hps, ⟨hu, rfl, fun _ => rfl⟩, rfl⟩ (fun d r ρ K1 g1 k1 _ _ kr1 => ?_) fun ρ h => ?_
  · obtain ⟨rest, us', c7, e, hr, ⟨h1, h2, h3⟩, rfl⟩ := g1
    cases rest with
    | nil => simp at e
    | cons p rest =>
      simp only [List.map_cons, List.cons.injEq] at e
      obtain ⟨rfl, rfl⟩ := e
      simp only [List.length_cons] at h2
      refine bind_nm rfl ?_
      refine w3 us' p K1 (by omega) (hr p List.mem_cons_self) fun u a b c e => k1 _ ⟨rest, us' ++ [u], _, rfl, fun q hq => hr q (List.mem_cons_of_mem _ hq), ⟨fun v hv => (List.mem_append.mp hv).elim (h1 v) fun z => by rw [List.mem_singleton.mp z]; exact ⟨a, b⟩, by simp only [List.length_append, List.length_singleton]; omega, fun j => ?_⟩, rfl⟩
      rw [evL_app, evL_one, ev_cnt b, c, e, ← h3 j, List.sum_cons, Int.mul_add]
      omega
  · obtain ⟨rest, us', c7, e, hr, ⟨h1, h2, h3⟩, rfl⟩ := h
    have e : rest = [] := by simpa using e.symm
    subst e
    refine k us' _ h1 (by simpa using h2) fun j => ?_
    rw [← h3 j]
    simp
theorem Sp_1 (hl : us.length ≤ 250) (hu : FrOk n us) {t : Tm} (ok : t.Ok n 30) (hp : t.pulls = true)
    (k : ∀ (us' : List Tm) c6 c7 c8 c9 c10 c11 c12 c13, FrOk n us' → us'.length ≤ us.length + 2 → (∀ k, sumK (evL us') k = sumK (evL us) k + sumK (evT t) k) → K.nx (ESp ts us' (some (.leaf t.D)) c4 c5 c6 c7 c8 c9 c10 c11 c12 c13 c14)) :
    wb S_law_split q_sp1 (ESp ts us (some (.leaf t.D)) c4 c5 c6 c7 c8 c9 c10 c11 c12 c13 c14) K := by
  have w2 := fun ps c13 (h1 : ps.length ≤ 2) h2 (h3 : ps.sum = t.force) => Sp_2 (n := n) (ts := ts) (us := us) (K := K) (c3 := some (.leaf t.D)) (c4 := c4) (c5 := c5) (c7 := c7) (c12 := some (.leaf (.int t.force))) (c13 := c13) (c14 := c14) (ps := ps) (by omega) h2 hu ok hp fun us' c7 a b c => k us' _ _ _ _ _ _ _ _ a (by omega) fun j => by
    rw [c j, h3, ev_cnt hp]
  have hf : 1 ≤ t.force ∧ t.force ≤ 30 := by
    cases t with
    | wish d l h f => exact ok.2.2
    | tie d o l h f => exact ok.2.2.2
    | stop d l h => simp [Tm.pulls] at hp
    | bar d o l h => simp [Tm.pulls] at hp
  have e12 : t.frc = .int t.force := by
    cases t with
    | wish d l h f => rfl
    | tie d o l h f => rfl
    | stop d l h => simp [Tm.pulls] at hp
    | bar d o l h => simp [Tm.pulls] at hp
  unfold q_sp1
  generalize q_sp2 = q at *
  trace_state
  refine ⟨t, rfl, trivial, ?_⟩
  simp only [e12]
  have w2a := w2 [t.force] c13 (by simp) (fun p hp => by rw [List.mem_singleton.mp hp]; exact hf) (by simp)
  trace_state
  · rename_i c
    have c : t.force > 1 := by simpa using c
    refine ⟨_, rfl, ⟨by decide, by decide +kernel⟩, fun v v0 v1 => ?_⟩
    trace_state
    · refine ⟨_, rfl, ⟨by omega, by omega⟩, fun z z0 z1 => ?_⟩
      trace_state
      exact w2 [1 + z, t.force - (1 + z)] _ (by simp) (fun p hp => by
        rcases List.mem_cons.mp hp with rfl | hp
        · omega
        · rw [List.mem_singleton.mp hp]; omega) (by simp; omega)
    · exact w2a
  · exact w2a
noncomputable abbrev prD (t : Tm) : DL.D := .tup [.int t.dial, t.oth, .int t.low, .int t.high, t.frc]
/-- the term without its ends and its force -/
noncomputable def hdD : Tm → List DL.D
  | .wish d _ _ _ => [.str "wish", .int d]
  | .tie d o _ _ _ => [.str "tie", .int d, .int o]
  | .stop d _ _ => [.str "stop"]
  | .bar d _ _ _ => [.str "bar", .int d]
theorem cut3 {t : Tm} (hp : t.pulls = true) : ∃ ds, t.D = .tup ds ∧ cutL ds none (some (-3)) = hdD t ∧ ∀ l h f, .tup (hdD t ++ [.int l, .int h, .int f]) = (match t with | .wish d _ _ _ => Tm.wish d l h f | .tie d o _ _ _ => Tm.tie d o l h f | u => u).D := by
  cases t with
  | wish d l h f => exact ⟨_, rfl, rfl, fun _ _ _ => rfl⟩
  | tie d o l h f => exact ⟨_, rfl, rfl, fun _ _ _ => rfl⟩
  | stop d l h => simp [Tm.pulls] at hp
  | bar d o l h => simp [Tm.pulls] at hp
theorem cut_ends {t : Tm} (hp : t.pulls = true) (l h : Int) : .tup (hdD t ++ [.int l, .int h, t.frc]) = (t.ends l h).D := by
  cases t with
  | wish d l h f => rfl
  | tie d o l h f => rfl
  | stop d l h => simp [Tm.pulls] at hp
  | bar d o l h => simp [Tm.pulls] at hp
theorem ixN_ok {n d : Nat} (h : d < n) : ixN n (d : Int) = some d := by
  unfold L2.ixN
  rw [if_pos (by omega), if_pos (by omega)]
  rfl
theorem set_map (us : List Tm) (j : Nat) (u : Tm) : (us.map fun t => T.leaf t.D).set j (.leaf u.D) = (us.set j u).map fun t => T.leaf t.D := by
  rw [List.map_set]
theorem Sp_6 (hl : us.length ≤ 300) {j : Nat} {t u : Tm} (h1 : us[j]? = some t) (h2 : us[j + 1]? = some u) (pt : t.pulls = true) (pu : u.pulls = true) (hf : t.frc = u.frc)
    (k : K.nx (ESp ts ((us.set j (t.ends t.low u.high)).set (j + 1) (u.ends u.low t.high)) c3 (some (.leaf (.int j))) c5 c6 c7 c8 (some (.leaf (prD u))) c10 c11 c12 c13 (some (.leaf (prD t))))) :
    wb S_law_split q_sp6 (ESp ts us c3 (some (.leaf (.int j))) c5 c6 c7 c8 (some (.leaf (prD u))) c10 c11 c12 c13 (some (.leaf (prD t)))) K := by
  have j2 : j + 1 < us.length := by
    rcases Nat.lt_or_ge (j + 1) us.length with h | h
    · exact h
    · rw [List.getElem?_eq_none h] at h2; cases h2
  obtain ⟨dt, et, ct, _⟩ := cut3 pt
  obtain ⟨du, eu, cu, _⟩ := cut3 pu
  have a1 : atI (us.map fun t => T.leaf t.D) (j : Int) = some (.leaf (.tup dt)) := by
    rw [← et]
    exact DL.atI_nat (by rw [List.getElem?_map, h1]; rfl)
  have a2 : ∀ x, atI ((us.set j x).map fun t => T.leaf t.D) ((j : Int) + 1) = some (.leaf (.tup du)) := fun x => by
    rw [← eu]
    exact DL.atI_nat (j := j + 1) (by rw [List.getElem?_map, List.getElem?_set_ne (by omega), h2]; rfl)
  unfold q_sp6
  trace_state
  have hb : ∀ t : Tm, Nat.ble ((hdD t).length + 3) 100000 = true := fun t => by cases t <;> rfl
  refine ⟨_, _, rfl, a1, ?_⟩
  trace_state
  rw [ct]
  refine b_catL rfl (es := [.int t.low, .int u.high, t.frc]) rfl (hb t) ?_
  rw [cut_ends pt]
  trace_state
  refine ⟨j, j, rfl, ixN_ok (by rw [List.length_map]; omega), ?_⟩
  rw [set_map]
  refine wb_setix rfl ?_
  trace_state
  refine ⟨_, _, rfl, a2 _, ?_⟩
  trace_state
  rw [cu]
  refine b_catL rfl (es := [.int u.low, .int t.high, t.frc]) rfl (hb u) ?_
  rw [hf, cut_ends pu]
  trace_state
  refine ⟨j + 1, j + 1, rfl, ixN_ok (d := j + 1) (by rw [List.length_map, List.length_set]; omega), ?_⟩
  rw [set_map]
  trace_state
  exact k
theorem fit_do (t : Tm) : (DL.D.tup [.int t.dial, t.oth]).Fit := by
  cases t <;> exact ⟨rfl, by simp [D.dep, D.deps, Tm.oth]⟩
theorem eq_do {t u : Tm} (pt : t.pulls = true) (pu : u.pulls = true) (e : eqD (.tup [.int t.dial, t.oth]) (.tup [.int u.dial, u.oth]) = true) : t.dial = u.dial ∧ t.oth = u.oth := by
  cases t <;> cases u <;> simp [eqD, D.py, D.pys, PyData.eqv, PyData.eqvAll, Tm.oth, Tm.dial, Tm.pulls] at e pt pu ⊢ <;> first | exact e | omega
/-- what is kept -/
structure Kept (n : Nat) (ts us : List Tm) : Prop where
  ok : FrOk n us
  sum : ∀ k, sumK (evL us) k = sumK (evL ts) k
theorem Kept.swap (h : Kept n ts us) {j : Nat} {t u : Tm} (h1 : us[j]? = some t) (h2 : us[j + 1]? = some u) (hd : t.dial = u.dial) (ho : t.oth = u.oth) (hf : t.force = u.force) (l1 : t.low ≤ u.high) (l2 : u.low ≤ t.high) :
    Kept n ts ((us.set j (t.ends t.low u.high)).set (j + 1) (u.ends u.low t.high)) := by
  have j2 : j + 1 < us.length := by
    rcases Nat.lt_or_ge (j + 1) us.length with h | h
    · exact h
    · rw [List.getElem?_eq_none h] at h2; cases h2
  obtain ⟨ot, pt⟩ := h.ok t (List.mem_of_getElem? h1)
  obtain ⟨ou, pu⟩ := h.ok u (List.mem_of_getElem? h2)
  have e1 : (t.ends t.low u.high).Ok n 30 ∧ (t.ends t.low u.high).pulls = true := ⟨ot.ends ot.2.1.1 l1 ou.2.1.2.2, by cases t <;> first | rfl | simp [Tm.pulls] at pt⟩
  have e2 : (u.ends u.low t.high).Ok n 30 ∧ (u.ends u.low t.high).pulls = true := ⟨ou.ends ou.2.1.1 l2 ot.2.1.2.2, by cases u <;> first | rfl | simp [Tm.pulls] at pu⟩
  refine ⟨fun v hv => ?_, fun k => ?_⟩
  · rcases List.mem_or_eq_of_mem_set hv with hv | rfl
    · rcases List.mem_or_eq_of_mem_set hv with hv | rfl
      · exact h.ok v hv
      · exact e1
    · exact e2
  · rw [evL_set k _ _ (j + 1) u (by rw [List.getElem?_set_ne (by omega)]; exact h2), evL_set k _ _ j t h1, ← h.sum k]
    have := ends_swap pt pu hd ho hf k
    omega
theorem Sp_5 (hl : us.length ≤ 300) (h : Kept n ts us) {j : Nat} (hj : j + 1 < us.length)
    (k : ∀ us' c9 c14, Kept n ts us' → us'.length = us.length → K.nx (ESp ts us' c3 (some (.leaf (.int j))) c5 c6 c7 c8 c9 c10 c11 c12 c13 c14)) :
    wb S_law_split q_sp5 (ESp ts us c3 (some (.leaf (.int j))) c5 c6 c7 c8 c9 c10 c11 c12 c13 c14) K := by
  obtain ⟨t, h1⟩ : ∃ t, us[j]? = some t := ⟨_, List.getElem?_eq_getElem (by omega)⟩
  obtain ⟨u, h2⟩ : ∃ u, us[j + 1]? = some u := ⟨_, List.getElem?_eq_getElem hj⟩
  have pt := (h.ok t (List.mem_of_getElem? h1)).2
  have pu := (h.ok u (List.mem_of_getElem? h2)).2
  have w6 := fun (hf : t.frc = u.frc) => Sp_6 (ts := ts) (us := us) (K := K) (c3 := c3) (c5 := c5) (c6 := c6) (c7 := c7) (c8 := c8) (c10 := c10) (c11 := c11) (c12 := c12) (c13 := c13) hl h1 h2 pt pu hf
  have a1 : atI (us.map fun t => T.leaf t.D) (j : Int) = some (.leaf t.D) := DL.atI_nat (by rw [List.getElem?_map, h1]; rfl)
  have a2 : atI (us.map fun t => T.leaf t.D) ((j : Int) + 1) = some (.leaf u.D) := DL.atI_nat (j := j + 1) (by rw [List.getElem?_map, h2]; rfl)
  have sw := fun hd ho hf l1 l2 => h.swap h1 h2 hd ho hf l1 l2
  have no := fun c9 c14 => k us c9 c14 h rfl
  have yes := fun us' c9 c14 => k us' c9 c14
  have ft : t.frc = .int t.force := by cases t <;> first | rfl | simp [Tm.pulls] at pt
  have fu : u.frc = .int u.force := by cases u <;> first | rfl | simp [Tm.pulls] at pu
  unfold q_sp5
  generalize q_sp6 = q at *
  trace_state
  refine ⟨_, _, rfl, a1, t, rfl, trivial, ?_⟩
  trace_state
  refine ⟨_, _, rfl, a2, u, rfl, trivial, ?_⟩
  show wb _ _ (ESp ts us c3 (some (.leaf (.int j))) c5 c6 c7 c8 (some (.leaf (prD u))) c10 c11 c12 c13 (some (.leaf (prD t)))) K
  trace_state
  refine c_eqd (fit_do t) (fit_do u) ?_
  show if eqD (.tup [.int t.dial, t.oth]) (.tup [.int u.dial, u.oth]) = true then _ else _
  cases e : eqD (.tup [.int t.dial, t.oth]) (.tup [.int u.dial, u.oth]) with
  | false =>
    trace_state
    exact no _ _
  | true =>
    obtain ⟨hd, ho⟩ := eq_do pt pu e
    trace_state
    refine c_eq ft fu ?_
    by_cases hf : t.force = u.force
    · rw [decide_eq_true hf]
      trace_state
      · rename_i l1 l2
        exact w6 (by rw [ft, fu, hf]) (yes _ _ _ (sw hd ho hf l1 l2) (by rw [List.length_set, List.length_set]))
      · exact no _ _
      · exact no _ _
    · rw [decide_eq_false hf]
      trace_state
      exact no _ _
theorem cut_dr {α : Type} {xs : List α} {w : Nat} (h : w ≤ xs.length) : cutL xs (some (w : Int)) none = xs.drop w := by
  unfold cutL
  rw [HT.sIx_nat, HT.sIx_none, Nat.min_eq_left h]
  exact List.take_of_length_le (by rw [List.length_drop]; omega)
theorem cut_tk {α : Type} {xs : List α} {w : Nat} (h : w ≤ xs.length) : cutL xs none (some (w : Int)) = xs.take w := by
  unfold cutL
  rw [HT.sIx_nat, HT.sIx_none, Nat.min_eq_left h, Nat.sub_zero, List.drop_zero]
theorem Sp_4 (hl : us.length ≤ 200) (h : Kept n ts us) (hK : ∀ us : List Tm, FrOk n us → (∀ k, sumK (evL us) k = sumK (evL ts) k) → us.length ≤ 200 → ∀ ρ, K.rt (.lst (us.map fun t => .leaf t.D)) ρ) :
    wb S_law_split q_sp4 (ESp ts us c3 c4 c5 c6 c7 c8 c9 c10 c11 c12 c13 c14) K := by
  have w5 := fun us j c9 c14 K hl h hj => Sp_5 (n := n) (ts := ts) (us := us) (K := K) (c3 := c3) (c5 := c5) (c6 := c6) (c7 := c7) (c8 := c8) (c9 := c9) (c10 := c10) (c11 := c11) (c12 := c12) (c13 := c13) (c14 := c14) hl h (j := j) hj
  unfold q_sp4
  generalize q_sp5 = q at *
  trace_state
  refine ⟨⟨by rw [T.dats_eq, List.length_map, List.length_map]; omega, by rw [T.dats_eq, List.length_map, List.length_map]; omega⟩, ?_⟩
  rw [T.dats_eq, List.length_map, List.length_map]
  refine forW_rng (fun j ρ => ∃ (us' : List Tm) (c4 c9 c14 : Option T), (Kept n ts us' ∧ us'.length = us.length) ∧ ρ = ESp ts us' c3 c4 c5 c6 c7 c8 c9 c10 c11 c12 c13 c14) ⟨us, _, _, _, ⟨h, rfl⟩, rfl⟩ (fun j ρ K' hj ⟨us', c4, c9, c14, ⟨h1, h2⟩, e⟩ k1 _ _ kr => ?_) fun ρ ⟨us', c4, c9, c14, ⟨h1, h2⟩, e⟩ => ?_
  · subst e
    refine bind_nm rfl ?_
    exact w5 us' j _ _ K' (by omega) h1 (by omega) fun us2 c9 c14 a b => k1 _ ⟨us2, _, _, _, ⟨a, by omega⟩, rfl⟩
  · subst e
    trace_state
    rw [dat_terms]
    rw [T.dats_eq, List.length_map, List.length_map]
    refine ⟨_, rfl, ⟨by omega, by omega⟩, fun v v0 v1 => ?_⟩
    obtain ⟨w, rfl⟩ := Int.eq_ofNat_of_zero_le v0
    trace_state
    have hw : w ≤ us'.length := by omega
    have e1 : ((us'.map Tm.D).map T.leaf) = us'.map fun t => T.leaf t.D := by rw [List.map_map]; rfl
    refine sl_its (us := us'.map fun t => T.leaf t.D) (by rw [← e1]; rfl) ?_
    rw [cutL_map, cut_dr hw]
    trace_state
    refine sl_its (us := us'.map fun t => T.leaf t.D) (by rw [← e1]; rfl) ?_
    rw [cutL_map, cut_tk hw]
    refine b_cat rfl rfl rfl rfl (by rw [List.length_map, List.length_map, List.length_drop, List.length_take]; omega) ?_
    rw [← List.map_append]
    trace_state
    refine hK (us'.drop w ++ us'.take w) (fun t ht => h1.ok t ?_) (fun j => ?_) (by rw [List.length_append, List.length_drop, List.length_take]; omega) _
    · rcases List.mem_append.mp ht with z | z
      · exact List.mem_of_mem_drop z
      · exact List.mem_of_mem_take z
    · rw [evL_app, ← h1.sum j, Int.add_comm, ← evL_app, List.take_append_drop]
end
theorem W_law_split : WOk S_law_split n_law_split b_law_split F_law_split 2 := by
  rintro ds Φ ⟨n, ts, rfl, ⟨hl, ok⟩, k⟩
  refine ⟨rfl, ?_⟩
  have w4 := fun us c3 c4 c5 c6 c7 c8 c9 c10 c11 c12 c13 c14 hl h => Sp_4 (n := n) (ts := ts) (us := us) (K := { nx := fun _ => Φ (.leaf .non), rt := fun t _ => Φ t }) (c3 := c3) (c4 := c4) (c5 := c5) (c6 := c6) (c7 := c7) (c8 := c8) (c9 := c9) (c10 := c10) (c11 := c11) (c12 := c12) (c13 := c13) (c14 := c14) hl h fun us a b c _ => k us a b c
  have w1 := fun us t c4 c5 c6 c7 c8 c9 c10 c11 c12 c13 c14 K hl h1 h2 h3 => Sp_1 (n := n) (ts := ts) (us := us) (K := K) (c4 := c4) (c5 := c5) (c6 := c6) (c7 := c7) (c8 := c8) (c9 := c9) (c10 := c10) (c11 := c11) (c12 := c12) (c13 := c13) (c14 := c14) hl h1 (t := t) h2 h3
  rw [sp_eq]
  generalize q_sp4 = q4 at *
  generalize q_sp1 = q1 at *
  trace_state
  refine ⟨_, rfl, ?_⟩
  refine forW_inv (fun ds ρ => ∃ (rest us : List Tm) (c3 c4 c5 c6 c7 c8 c9 c10 c11 c12 c13 c14 : Option T), ds = rest.map Tm.D ∧ FrOk n rest ∧ (FrOk n us ∧ us.length + 2 * rest.length ≤ 200 ∧ ∀ k, sumK (evL us) k + sumK (evL rest) k = sumK (evL ts) k) ∧ ρ = ESp ts us c3 c4 c5 c6 c7 c8 c9 c10 c11 c12 c13 c14)
    ⟨ts, [], _, _, _, _, _, _, _, _, _, _, _, _, rfl, ok, ⟨fun _ h => (by simp at h), by simp; omega, fun k => by simp [evL, sumK]⟩, rfl⟩ (fun d r ρ K1 g1 k1 _ _ kr1 => ?_) fun ρ h => ?_
  · obtain ⟨rest, us, c3, c4, c5, c6, c7, c8, c9, c10, c11, c12, c13, c14, e, hr, ⟨h1, h2, h3⟩, rfl⟩ := g1
    cases rest with
    | nil => simp at e
    | cons t rest =>
      simp only [List.map_cons, List.cons.injEq] at e
      obtain ⟨rfl, rfl⟩ := e
      obtain ⟨o1, p1⟩ := hr t List.mem_cons_self
      simp only [List.length_cons] at h2
      refine bind_nm rfl ?_
      refine w1 us t _ _ _ _ _ _ _ _ _ _ _ K1 (by omega) h1 o1 p1 fun us' c6 c7 c8 c9 c10 c11 c12 c13 a b c => k1 _ ⟨rest, us', _, _, _, _, _, _, _, _, _, _, _, _, rfl, fun u hu => hr u (List.mem_cons_of_mem _ hu), ⟨a, by omega, fun j => ?_⟩, rfl⟩
      rw [c j, ← h3 j, evL_cons]
      omega
  · obtain ⟨rest, us, c3, c4, c5, c6, c7, c8, c9, c10, c11, c12, c13, c14, e, hr, ⟨h1, h2, h3⟩, rfl⟩ := h
    have e : rest = [] := by simpa using e.symm
    subst e
    exact w4 us _ _ _ _ _ _ _ _ _ _ _ _ (by simpa using h2) ⟨h1, fun k => by
      have := h3 k
      simp only [evL, List.flatMap_nil] at this ⊢
      simpa [sumK] using this⟩
end
section
open PySem PySem.Spec PyProof.Rows L2 DL
noncomputable def topS (i : Nat) : Stmt := PySem.Challenge.pw_mostpulled_k80_kinks_by_their_definition.main.body.getD i (.Pass ⟨0, 0, 0, 0⟩)
noncomputable abbrev s_is_pulling : Stmt := topS 6
noncomputable abbrev s_other_of : Stmt := topS 7
noncomputable abbrev s_ends_of : Stmt := topS 8
noncomputable abbrev s_force_of : Stmt := topS 9
noncomputable abbrev s_need_free : Stmt := topS 11
noncomputable abbrev s_places_of : Stmt := topS 12
noncomputable abbrev s_weights_of : Stmt := topS 13
noncomputable abbrev s_kinks : Stmt := topS 14
noncomputable abbrev s_is_integer : Stmt := topS 19
noncomputable abbrev s_is_between : Stmt := topS 20
noncomputable abbrev s_is_value : Stmt := topS 21
noncomputable abbrev s_is_force : Stmt := topS 22
noncomputable abbrev s_is_term : Stmt := topS 23
noncomputable abbrev s_law_bag : Stmt := topS 29
noncomputable abbrev s_law_take : Stmt := topS 30
noncomputable abbrev s_law_alike : Stmt := topS 31
noncomputable abbrev s_law_parts : Stmt := topS 32
noncomputable abbrev s_law_number : Stmt := topS 33
noncomputable abbrev s_law_free_terms : Stmt := topS 34
noncomputable abbrev s_law_kinks : Stmt := topS 35
noncomputable abbrev s_law_split : Stmt := topS 36
noncomputable abbrev s_law : Stmt := topS 37
noncomputable abbrev s_Board_init_ : Stmt := inClass (topS 27) 0
noncomputable abbrev s_Board_terms : Stmt := inClass (topS 27) 3
noncomputable def c_is_pulling : Cn := { toCt := ⟨n_is_pulling, defScope s_is_pulling, defScope s_is_pulling⟩, fn := [], gl := [], bs := [] }
theorem sc_is_pulling : FnScope n_is_pulling ["term"] (defScope s_is_pulling) := ⟨rfl, rfl, rfl, by decide +kernel, rfl, by decide +kernel, by decide +kernel⟩
theorem ck_is_pulling : okB c_is_pulling b_is_pulling (defBody s_is_pulling) = true := by decide +kernel
noncomputable def c_other_of : Cn := { toCt := ⟨n_other_of, defScope s_other_of, defScope s_other_of⟩, fn := [], gl := [], bs := [] }
theorem sc_other_of : FnScope n_other_of ["term"] (defScope s_other_of) := ⟨rfl, rfl, rfl, by decide +kernel, rfl, by decide +kernel, by decide +kernel⟩
theorem ck_other_of : okB c_other_of b_other_of (defBody s_other_of) = true := by decide +kernel
noncomputable def c_ends_of : Cn := { toCt := ⟨n_ends_of, defScope s_ends_of, defScope s_ends_of⟩, fn := [], gl := [], bs := [] }
theorem sc_ends_of : FnScope n_ends_of ["term"] (defScope s_ends_of) := ⟨rfl, rfl, rfl, by decide +kernel, rfl, by decide +kernel, by decide +kernel⟩
theorem ck_ends_of : okB c_ends_of b_ends_of (defBody s_ends_of) = true := by decide +kernel
noncomputable def c_force_of : Cn := { toCt := ⟨n_force_of, defScope s_force_of, defScope s_force_of⟩, fn := [], gl := [], bs := [] }
theorem sc_force_of : FnScope n_force_of ["term"] (defScope s_force_of) := ⟨rfl, rfl, rfl, by decide +kernel, rfl, by decide +kernel, by decide +kernel⟩
theorem ck_force_of : okB c_force_of b_force_of (defBody s_force_of) = true := by decide +kernel
noncomputable def c_need_free : Cn := { toCt := ⟨n_need_free, defScope s_need_free, defScope s_need_free⟩, fn := ["is_pulling"], gl := [], bs := ["enumerate"], ms := [(0, "terms")] }
theorem sc_need_free : FnScope n_need_free ["board"] (defScope s_need_free) := ⟨rfl, rfl, rfl, by decide +kernel, rfl, by decide +kernel, by decide +kernel⟩
theorem ck_need_free : okB c_need_free b_need_free (defBody s_need_free) = true := by decide +kernel
noncomputable def c_places_of : Cn := { toCt := ⟨n_places_of, defScope s_places_of, defScope s_places_of⟩, fn := ["other_of", "ends_of"], gl := [], bs := [] }
theorem sc_places_of : FnScope n_places_of ["term"] (defScope s_places_of) := ⟨rfl, rfl, rfl, by decide +kernel, rfl, by decide +kernel, by decide +kernel⟩
theorem ck_places_of : okB c_places_of b_places_of (defBody s_places_of) = true := by decide +kernel
noncomputable def c_weights_of : Cn := { toCt := ⟨n_weights_of, defScope s_weights_of, defScope s_weights_of⟩, fn := ["need_free", "places_of"], gl := [], bs := [], ms := [(0, "terms")], hp := [newTPat], sp := [accPat 1 (.tri 4 5 3) ["force_of"] [] (.call 0 (.cons (.nm 2) .nil))] }
theorem sc_weights_of : FnScope n_weights_of ["board"] (defScope s_weights_of) := ⟨rfl, rfl, rfl, by decide +kernel, rfl, by decide +kernel, by decide +kernel⟩
theorem ck_weights_of : okB c_weights_of b_weights_of (defBody s_weights_of) = true := by decide +kernel
noncomputable def c_kinks : Cn := { toCt := ⟨n_kinks, defScope s_kinks, defScope s_kinks⟩, fn := ["weights_of"], gl := [], bs := ["sorted"], hp := [kinkPat 1 2] }
theorem sc_kinks : FnScope n_kinks ["board"] (defScope s_kinks) := ⟨rfl, rfl, rfl, by decide +kernel, rfl, by decide +kernel, by decide +kernel⟩
theorem ck_kinks : okB c_kinks b_kinks (defBody s_kinks) = true := by decide +kernel
noncomputable def c_is_integer : Cn := { toCt := ⟨n_is_integer, defScope s_is_integer, defScope s_is_integer⟩, fn := [], gl := [], bs := ["isinstance", "bool", "int"] }
theorem sc_is_integer : FnScope n_is_integer ["thing"] (defScope s_is_integer) := ⟨rfl, rfl, rfl, by decide +kernel, rfl, by decide +kernel, by decide +kernel⟩
theorem ck_is_integer : okB c_is_integer b_is_integer (defBody s_is_integer) = true := by decide +kernel
noncomputable def c_is_between : Cn := { toCt := ⟨n_is_between, defScope s_is_between, defScope s_is_between⟩, fn := ["is_integer"], gl := [], bs := [] }
theorem sc_is_between : FnScope n_is_between ["thing", "low", "high"] (defScope s_is_between) := ⟨rfl, rfl, rfl, by decide +kernel, rfl, by decide +kernel, by decide +kernel⟩
theorem ck_is_between : okB c_is_between b_is_between (defBody s_is_between) = true := by decide +kernel
noncomputable def c_is_value : Cn := { toCt := ⟨n_is_value, defScope s_is_value, defScope s_is_value⟩, fn := ["is_between"], gl := ["FARTHEST"], bs := [] }
theorem sc_is_value : FnScope n_is_value ["thing"] (defScope s_is_value) := ⟨rfl, rfl, rfl, by decide +kernel, rfl, by decide +kernel, by decide +kernel⟩
theorem ck_is_value : okB c_is_value b_is_value (defBody s_is_value) = true := by decide +kernel
noncomputable def c_is_force : Cn := { toCt := ⟨n_is_force, defScope s_is_force, defScope s_is_force⟩, fn := ["is_between"], gl := ["MOST_FORCE"], bs := [] }
theorem sc_is_force : FnScope n_is_force ["thing"] (defScope s_is_force) := ⟨rfl, rfl, rfl, by decide +kernel, rfl, by decide +kernel, by decide +kernel⟩
theorem ck_is_force : okB c_is_force b_is_force (defBody s_is_force) = true := by decide +kernel
noncomputable def c_is_term : Cn := { toCt := ⟨n_is_term, defScope s_is_term, defScope s_is_term⟩, fn := ["is_between", "is_value", "is_force"], gl := ["WORDS"], bs := ["isinstance", "str", "len", "tuple", "int", "all"] }
theorem sc_is_term : FnScope n_is_term ["thing", "size"] (defScope s_is_term) := ⟨rfl, rfl, rfl, by decide +kernel, rfl, by decide +kernel, by decide +kernel⟩
theorem ck_is_term : okB c_is_term b_is_term (defBody s_is_term) = true := by decide +kernel
noncomputable def c_law_alike : Cn := { toCt := ⟨n_law_alike, defScope s_law_alike, defScope s_law_alike⟩, fn := [], gl := [], bs := ["repr"] }
theorem sc_law_alike : FnScope n_law_alike ["_law_found", "_law_due"] (defScope s_law_alike) := ⟨rfl, rfl, rfl, by decide +kernel, rfl, by decide +kernel, by decide +kernel⟩
theorem ck_law_alike : okB c_law_alike b_law_alike (defBody s_law_alike) = true := by decide +kernel
noncomputable abbrev m_law_parts : List Str := ["_law_term", "_law_begin", "_law_other"]
noncomputable def c_law_parts : Cn := { toCt := ⟨m_law_parts, defScope s_law_parts, defScope s_law_parts⟩, fn := [], gl := [], bs := ["int"] }
theorem sc_law_parts : FnScope m_law_parts ["_law_term"] (defScope s_law_parts) := ⟨rfl, rfl, rfl, by decide +kernel, rfl, by decide +kernel, by decide +kernel⟩
theorem ck_law_parts : okB c_law_parts b_law_parts (defBody s_law_parts) = true := by decide +kernel
noncomputable def c_law_number : Cn := { toCt := ⟨n_law_number, defScope s_law_number, defScope s_law_number⟩, fn := ["_law_take"], gl := [], bs := [] }
theorem sc_law_number : FnScope n_law_number ["_law_bag_here", "_law_scale"] (defScope s_law_number) := ⟨rfl, rfl, rfl, by decide +kernel, rfl, by decide +kernel, by decide +kernel⟩
theorem ck_law_number : okB c_law_number b_law_number (defBody s_law_number) = true := by decide +kernel
noncomputable def c_law_free_terms : Cn := { toCt := ⟨n_law_free_terms, defScope s_law_free_terms, defScope s_law_free_terms⟩, fn := ["_law_take", "_law_number"], gl := [], bs := ["range"] }
theorem sc_law_free_terms : FnScope n_law_free_terms ["_law_bag_here", "_law_size", "_law_scale", "_law_many"] (defScope s_law_free_terms) := ⟨rfl, rfl, rfl, by decide +kernel, rfl, by decide +kernel, by decide +kernel⟩
theorem ck_law_free_terms : okB c_law_free_terms b_law_free_terms (defBody s_law_free_terms) = true := by decide +kernel
noncomputable def c_law_kinks : Cn := { toCt := ⟨n_law_kinks, defScope s_law_kinks, defScope s_law_kinks⟩, fn := ["_law_parts"], gl := [], bs := ["max", "min", "int", "sorted"], hp := [newTPat, kinkPat 1 9], sp := [accPat 1 (.cat 9 3) [] [] (.nm 8)] }
theorem sc_law_kinks : FnScope n_law_kinks ["_law_terms"] (defScope s_law_kinks) := ⟨rfl, rfl, rfl, by decide +kernel, rfl, by decide +kernel, by decide +kernel⟩
theorem ck_law_kinks : okB c_law_kinks b_law_kinks (defBody s_law_kinks) = true := by decide +kernel
noncomputable def c_law_split : Cn := { toCt := ⟨n_law_split, defScope s_law_split, defScope s_law_split⟩, fn := ["_law_parts", "_law_take"], gl := [], bs := ["range", "len"] }
theorem sc_law_split : FnScope n_law_split ["_law_bag_here", "_law_terms"] (defScope s_law_split) := ⟨rfl, rfl, rfl, by decide +kernel, rfl, by decide +kernel, by decide +kernel⟩
theorem ck_law_split : okB c_law_split b_law_split (defBody s_law_split) = true := by decide +kernel
noncomputable abbrev n_law : List Str := ["_law_script", "_law_bag_here", "_law_k", "_law_size", "_law_terms", "_law_again", "_law_split_here", "_law_board", "_law_due", "_law_found"]
noncomputable def c_law : Cn := { toCt := ⟨n_law, defScope s_law, defScope s_law⟩, fn := ["_law_bag", "_law_take", "_law_free_terms", "_law_kinks", "kinks", "_law_alike", "_law_split"], gl := [], bs := ["range", "len"], ms := [(0, "terms")], nw := ["Board"] }
noncomputable def b_law_1 : DL.B := (.asg (.nm 9) (.call 4 (.cons (.nm 7) .nil)) (.ite (.or (.not (.val (.callB 5 (.cons (.ow 9) (.cons (.nm 8) .nil))))) (.one (.cmp .ne (.mt0 0 0 (.nm 7)) (.nm 4)))) (.ret (.bl false) .nil) .nil (.app 9 .non (.rvs 9 (.fz 9 .nil)))))
noncomputable def b_law_2 : DL.B := (.asg (.nm 6) (.call 6 (.cons (.nm 1) (.cons (.nm 4) .nil))) (.fz 6 (.ite (.and (.cmp .le (.blt .len (.cons (.nm 6) .nil)) (.int 24)) (.one (.cmp .ne (.call 4 (.cons (.new 0 (.cons (.nm 3) (.cons (.nm 6) .nil))) .nil)) (.nm 8)))) (.ret (.bl false) .nil) .nil .nil)))
noncomputable def b_law_3 : DL.B := (.asg (.nm 3) (.bin .add (.int 1) (.call 1 (.cons (.nm 1) (.cons (.int 8) .nil)))) (.asg (.nm 4) (.call 2 (.cons (.nm 1) (.cons (.nm 3) (.cons (.ix (.lst (.cons (.int 2) (.cons (.int 6) .nil))) (.call 1 (.cons (.nm 1) (.cons (.int 2) .nil)))) (.cons (.int 24) .nil))))) (.par2 7 8 (.new 0 (.cons (.nm 3) (.cons (.nm 4) .nil))) (.call 3 (.cons (.nm 4) .nil)) (.fz 8 (.for_ (.nm 5) (.rng (.cons (.int 2) .nil)) b_law_1 b_law_2)))))
noncomputable def b_law : DL.B := (.asg (.nm 1) (.call 0 (.cons (.nm 0) .nil)) (.for_ (.nm 2) (.rng (.cons (.int 5) .nil)) b_law_3 (.ret (.bl true) .nil)))
theorem sc_law : FnScope n_law ["_law_script"] (defScope s_law) := ⟨rfl, rfl, rfl, by decide +kernel, rfl, by decide +kernel, by decide +kernel⟩
theorem ck_law : okB c_law b_law (defBody s_law) = true := by decide +kernel
noncomputable def c_Board_init_ : Cn := { toCt := ⟨n_Board_init_, defScope s_Board_init_, defScope s_Board_init_⟩, fn := ["is_between", "is_term"], gl := ["MOST_DIALS", "MOST_TERMS"], bs := ["all", "len", "isinstance", "list"] }
theorem sc_Board_init_ : FnScope n_Board_init_ ["self", "size", "terms"] (defScope s_Board_init_) := ⟨rfl, rfl, rfl, by decide +kernel, rfl, by decide +kernel, by decide +kernel⟩
theorem ck_Board_init_ : okInit c_Board_init_ ts_Board_init_ fs_Board_init_ (defBody s_Board_init_) = true := by decide +kernel
noncomputable def c_Board_terms : Cn := { toCt := ⟨n_Board_terms, defScope s_Board_terms, defScope s_Board_terms⟩, fn := [], gl := [], bs := ["list"], fd := [(0, 1, "term_list")] }
theorem sc_Board_terms : FnScope n_Board_terms ["self"] (defScope s_Board_terms) := ⟨rfl, rfl, rfl, by decide +kernel, rfl, by decide +kernel, by decide +kernel⟩
theorem ck_Board_terms : okB c_Board_terms b_Board_terms (defBody s_Board_terms) = true := by decide +kernel
theorem sc_law_take : FnScope takeN ["_law_bag_here", "_law_many"] (defScope s_law_take) := ⟨rfl, rfl, rfl, by decide +kernel, rfl, by decide +kernel, by decide +kernel⟩
theorem sc_law_bag : FnScope bagNm ["_law_script"] (defScope s_law_bag) := ⟨rfl, rfl, rfl, by decide +kernel, rfl, by decide +kernel, by decide +kernel⟩
theorem ck_law_take : okB { toCt := ⟨takeN, defScope s_law_take, defScope s_law_take⟩, fn := [], gl := [], bs := ["len"] } takeB (defBody s_law_take) = true := by decide +kernel
theorem ck_law_bag : okB { toCt := ⟨bagNm, defScope s_law_bag, defScope s_law_bag⟩, fn := [], gl := [], bs := ["abs"] } bagB (defBody s_law_bag) = true := by decide +kernel
end
section
open PySem PySem.Spec PyProof.Rows L2 DL
theorem ev_bound {n : Nat} {ts : List Tm} (h : FrOk n ts) (hn : n ≤ 1000) : ∀ e ∈ evL ts, (∀ x ∈ e.1, -(10 ^ 18) ≤ x ∧ x ≤ 10 ^ 18) ∧ 1 ≤ e.2 ∧ e.2 ≤ 30 := fun e he => by
  obtain ⟨t, ht, h1⟩ := List.mem_flatMap.mp he
  obtain ⟨ok, hp⟩ := h t ht
  rw [ev_plc hp] at h1
  have hf : 1 ≤ t.force ∧ t.force ≤ 30 := by
    cases t with
    | wish d l h f => exact ok.2.2
    | tie d o l h f => exact ok.2.2.2
    | stop d l h => simp [Tm.pulls] at hp
    | bar d o l h => simp [Tm.pulls] at hp
  have hq : (-(10 ^ 18) ≤ (plcT t).1 ∧ (plcT t).1 ≤ 10 ^ 18) ∧ (-(10 ^ 18) ≤ (plcT t).2.1 ∧ (plcT t).2.1 ≤ 10 ^ 18) ∧ (-(10 ^ 18) ≤ (plcT t).2.2.1 ∧ (plcT t).2.2.1 ≤ 10 ^ 18) ∧ (-(10 ^ 18) ≤ (plcT t).2.2.2 ∧ (plcT t).2.2.2 ≤ 10 ^ 18) := by
    have hb : -(10 ^ 18) ≤ t.low ∧ t.low ≤ t.high ∧ t.high ≤ 10 ^ 18 := ok.2.1
    cases t with
    | stop d l h => simp [Tm.pulls] at hp
    | bar d o l h => simp [Tm.pulls] at hp
    | wish d l h f =>
      have hd : d < n := ok.1
      have hb : -(10 ^ 18) ≤ l ∧ l ≤ h ∧ h ≤ 10 ^ 18 := hb
      show (_ ≤ (d : Int) ∧ (d : Int) ≤ _) ∧ (_ ≤ (-1 : Int) ∧ (-1 : Int) ≤ _) ∧ (_ ≤ l ∧ l ≤ _) ∧ (_ ≤ h ∧ h ≤ _)
      omega
    | tie d o l h f =>
      have hd : d < n ∧ o < n := ok.1
      have hb : -(10 ^ 18) ≤ l ∧ l ≤ h ∧ h ≤ 10 ^ 18 := hb
      unfold plcT
      by_cases c : d < o
      · simp only [if_pos c]; omega
      · simp only [if_neg c]; omega
  generalize plcT t = q at *
  obtain ⟨a, b, c, d⟩ := q
  have go : ∀ z, (-(10 ^ 18) ≤ z ∧ z ≤ 10 ^ 18) → ∀ x ∈ [a, b, z], -(10 ^ 18) ≤ x ∧ x ≤ 10 ^ 18 := fun z hz x hx => by
    simp only [List.mem_cons, List.not_mem_nil, or_false] at hx
    rcases hx with rfl | rfl | rfl
    · exact hq.1
    · exact hq.2.1
    · exact hz
  rcases List.mem_cons.mp h1 with rfl | h1
  · exact ⟨go _ hq.2.2.1, hf⟩
  · rw [List.mem_singleton.mp h1]
    exact ⟨go _ hq.2.2.2, hf⟩
theorem sumK_le {k : List Int} : ∀ es : List (List Int × Int), (∀ e ∈ es, 1 ≤ e.2 ∧ e.2 ≤ 30) → 0 ≤ sumK es k ∧ sumK es k ≤ 30 * es.length
  | [], _ => by simp [sumK]
  | e :: r, h => by
    have h1 := sumK_le (k := k) r fun x hx => h x (List.mem_cons_of_mem _ hx)
    have h2 := h e List.mem_cons_self
    rw [sumK_cons, List.length_cons]
    split <;> omega
theorem kinks_mem {ts : List Tm} {d : DL.D} (h : d ∈ kinksD ts) : ∃ k, k ∈ (tabK ts).map (·.1) ∧ d = kinkD (tabK ts) k := by
  unfold kinksD at h
  obtain ⟨k, hk, rfl⟩ := List.mem_map.mp h
  exact ⟨k, (List.mergeSort_perm _ _).mem_iff.mp hk, rfl⟩
theorem lays_ints (xs : List Int) : D.lays (xs.map D.int) = true := by rw [D.lays_eq]; exact List.all_eq_true.mpr fun d hd => by obtain ⟨x, _, rfl⟩ := List.mem_map.mp hd; rfl
theorem deps_ints (xs : List Int) : D.deps (xs.map D.int) ≤ 0 := D.deps_le fun d hd => by obtain ⟨x, _, rfl⟩ := List.mem_map.mp hd; simp [D.dep]
theorem wts_ints (xs : List Int) : D.wts (xs.map D.int) ≤ xs.length := by
  have := D.wts_le (n := 0) (ds := xs.map D.int) fun d hd => by
    obtain ⟨x, _, rfl⟩ := List.mem_map.mp hd
    exact Nat.le_refl _
  rw [List.length_map] at this
  omega
theorem cleans_all : ∀ ds : List DL.D, D.cleans ds = ds.all D.clean
  | [] => rfl
  | d :: r => by
    show (d.clean && D.cleans r) = (d.clean && r.all D.clean)
    rw [cleans_all r]
theorem kinks_clean (ts : List Tm) : (DL.D.lst (kinksD ts)).clean = true := by
  show D.cleans (kinksD ts) = true
  rw [cleans_all, List.all_eq_true]
  intro x hx
  obtain ⟨k, _, rfl⟩ := kinks_mem hx
  show D.cleans ((k ++ [(valI (tabK ts) k).getD 0]).map D.int) = true
  rw [cleans_all, List.all_eq_true]
  intro y hy
  obtain ⟨z, _, rfl⟩ := List.mem_map.mp hy
  rfl
theorem kinks_fit (ts : List Tm) : (DL.D.lst (kinksD ts)).Fit := by
  refine ⟨?_, ?_⟩
  · show D.lays (kinksD ts) = true
    rw [D.lays_eq, List.all_eq_true]
    intro x hx
    obtain ⟨k, _, rfl⟩ := kinks_mem hx
    exact lays_ints _
  · show D.deps (kinksD ts) + 1 ≤ 60
    have : D.deps (kinksD ts) ≤ 1 := D.deps_le fun d hd => by
      obtain ⟨k, _, rfl⟩ := kinks_mem hd
      have := deps_ints (k ++ [(valI (tabK ts) k).getD 0])
      show D.deps _ + 1 ≤ 1
      omega
    omega
theorem kinks_shw {n : Nat} {ts : List Tm} (h : FrOk n ts) (hn : n ≤ 1000) (hl : ts.length ≤ 1000) : (DL.D.lst (kinksD ts)).Shw := by
  refine ⟨kinks_fit ts, ?_, ?_⟩
  · show D.sms (kinksD ts) = true
    rw [D.sms_eq, List.all_eq_true]
    intro x hx
    obtain ⟨k, hk, rfl⟩ := kinks_mem hx
    show D.sms ((k ++ [(valI (tabK ts) k).getD 0]).map D.int) = true
    rw [D.sms_eq, List.all_eq_true]
    intro y hy
    obtain ⟨z, hz, rfl⟩ := List.mem_map.mp hy
    have hb : -(10 ^ 18) ≤ z ∧ z ≤ 10 ^ 18 := by
      rcases List.mem_append.mp hz with hz | hz
      · unfold tabK at hk
        rcases (keys_fold _ _).mp hk with hk | hk
        · obtain ⟨e, he, rfl⟩ := List.mem_map.mp hk
          exact (ev_bound h hn e he).1 z hz
        · simp at hk
      · rw [List.mem_singleton.mp hz, tab_val h.free]
        have h1 := sumK_le (k := k) (evL ts) fun e he => (ev_bound h hn e he).2
        have h2 := evL_len ts
        omega
    show decide (z.natAbs < 10 ^ 250) = true
    refine decide_eq_true (Nat.lt_of_le_of_lt (show z.natAbs ≤ 10 ^ 18 by omega) (by decide +kernel))
  · show D.wts (kinksD ts) ≤ 50000
    have h1 := D.wts_le (n := 4) (ds := kinksD ts) fun d hd => by
      obtain ⟨k, hk, rfl⟩ := kinks_mem hd
      have h3 := tab_key hk
      have h2 := wts_ints (k ++ [(valI (tabK ts) k).getD 0])
      rw [List.length_append, h3] at h2
      exact h2
    have h2 := tab_len ts
    have h3 : (kinksD ts).length = (tabK ts).length := by
      unfold kinksD srtK
      rw [List.length_map, List.length_mergeSort, List.length_map]
    omega
theorem c_nesame {d1 d2 : DL.D} {Ψ : Bool → Prop} (h : d1 = d2) (f : d1.Fit) (k : Ψ false) : cmpD .ne d1 d2 Ψ := by
  subst h
  refine c_ned f f ?_
  rw [eqD_refl f.1]
  exact k
noncomputable def S_law : Sg := { z := true, fs := [bagF, takeF, F_law_free_terms, F_law_kinks, F_kinks, F_law_alike, F_law_split], gs := [], ms := [F_Board_terms], nw := [F_Board_init_] }
theorem FrOk.ts {n : Nat} {ts : List Tm} (h : FrOk n ts) : TsOk n ts := fun t ht => (h t ht).1
noncomputable abbrev EL (ns : List Int) (n : Nat) (ts : List Tm) (c2 c5 c6 c9 : Option T) : DL.Env :=
  [some (.leaf (.scr ns)), some (.leaf .bag), c2, some (.leaf (.int n)), some (.leaf (termsD ts)), c5, c6, some (.leaf (boardD n ts)), some (.leaf (.lst (kinksD ts))), c9]
section
variable {ns : List Int} {n : Nat} {ts : List Tm} {K : EnD} {c2 c5 c6 c9 : Option T}
theorem W_1 (hn : 1 ≤ n ∧ n ≤ 8) (hl : ts.length ≤ 24) (h : FrOk n ts) (k : ∀ c9, K.nx (EL ns n ts c2 c5 c6 c9)) : wb S_law b_law_1 (EL ns n ts c2 c5 c6 c9) K := by
  have ln : ((kinksD ts).map T.leaf).length ≤ 99999 := by
    have h2 := tab_len ts
    have h3 : (kinksD ts).length = (tabK ts).length := by
      unfold kinksD srtK
      rw [List.length_map, List.length_mergeSort, List.length_map]
    rw [List.length_map]
    omega
  unfold b_law_1
  generalize hq : DL.B.app 9 _ _ = q
  trace_state
  refine ⟨n, ts, rfl, ⟨by omega, fun t ht => (h t ht).2⟩, ?_⟩
  trace_state
  rw [show T.dats [T.vw (T.lst (List.map T.leaf (kinksD ts))).dat, T.leaf (D.lst (kinksD ts))] = [.lst (kinksD ts), .lst (kinksD ts)] by
    show [DL.D.lst (T.dats (List.map T.leaf (kinksD ts))), _] = _
    rw [T.dats_eq, List.map_map]
    rw [show (List.map (T.dat ∘ T.leaf) (kinksD ts)) = kinksD ts from List.map_id _]
    rfl]
  refine ⟨?_, .lst (kinksD ts), rfl, kinks_shw h (by omega) (by omega), _, rfl, rfl, ?_⟩
  · show ((DL.D.lst (kinksD ts)).clean && ((DL.D.lst (kinksD ts)).clean && true)) = true
    rw [kinks_clean]; rfl
  trace_state
  refine ⟨_, rfl, n, ts, rfl, ?_⟩
  trace_state
  rw [dat_terms]
  refine c_nesame rfl (terms_fit ts) ?_
  trace_state
  rw [← hq]
  refine wb_app rfl ln ?_
  trace_state
  exact k _
theorem W_2 (hn : 1 ≤ n ∧ n ≤ 8) (hl : ts.length ≤ 24) (h : FrOk n ts) (k : ∀ c6, K.nx (EL ns n ts c2 c5 c6 c9)) : wb S_law b_law_2 (EL ns n ts c2 c5 c6 c9) K := by
  unfold b_law_2
  trace_state
  refine ⟨n, ts, rfl, ⟨by omega, h⟩, fun us h1 h2 h3 => ?_⟩
  trace_state
  rw [dat_terms]
  have e := kinks_same h1.free h.free h2
  have kd : (T.lst ((kinksD us).map T.leaf)).dat = .lst (kinksD ts) := by
    rw [T.dat, T.dats_eq, List.map_map, ← e]
    exact congrArg DL.D.lst (List.map_id _)
  have dl : T.dats (us.map fun t => T.leaf t.D) = us.map Tm.D := by rw [T.dats_eq, List.map_map]; rfl
  · rename_i c
    have hu : us.length ≤ 24 := by
      rw [dl, List.length_map] at c
      omega
    refine ⟨(n, us), rfl, ⟨hn, hu, h1.ts⟩, ?_⟩
    trace_state
    refine ⟨n, us, rfl, ⟨by omega, fun t ht => (h1 t ht).2⟩, ?_⟩
    trace_state
    rw [kd]
    refine c_nesame rfl (kinks_fit ts) ?_
    trace_state
    exact k _
  · exact k _
theorem W_3 (k : ∀ n ts c5 c6 c9, K.nx (EL ns n ts c2 c5 c6 c9)) {c3 c4 c7 c8 : Option T} : wb S_law b_law_3 [some (.leaf (.scr ns)), some (.leaf .bag), c2, c3, c4, c5, c6, c7, c8, c9] K := by
  have w1 := fun n ts c2 c5 c6 c9 K hn hl h => W_1 (ns := ns) (n := n) (ts := ts) (K := K) (c2 := c2) (c5 := c5) (c6 := c6) (c9 := c9) hn hl h
  have w2 := fun n ts c2 c5 c6 c9 K hn hl h => W_2 (ns := ns) (n := n) (ts := ts) (K := K) (c2 := c2) (c5 := c5) (c6 := c6) (c9 := c9) hn hl h
  unfold b_law_3
  generalize b_law_1 = q1 at *
  generalize b_law_2 = q2 at *
  trace_state
  refine ⟨_, rfl, ⟨by decide, by decide +kernel⟩, fun v v0 v1 => ?_⟩
  obtain ⟨n', rfl⟩ := Int.eq_ofNat_of_zero_le v0
  obtain ⟨n, hn⟩ : ∃ n : Nat, (1 : Int) + n' = n := ⟨1 + n', by omega⟩
  have hn8 : 1 ≤ n ∧ n ≤ 8 := by omega
  trace_state
  rw [hn]
  refine ⟨_, rfl, ⟨by decide, by decide +kernel⟩, fun z z0 z1 => ?_⟩
  have sz : ∀ {Ψ : T → Prop}, (∀ s, 1 ≤ s ∧ s ≤ 6 → Ψ (.leaf (.int s))) → ixT (.lst [.leaf (.int 2), .leaf (.int 6)]) (.int z) Ψ := fun {Ψ} g => by
    have hz : z = 0 ∨ z = 1 := by omega
    rcases hz with rfl | rfl
    · exact ix_lst rfl rfl rfl (g _ ⟨by decide, by decide⟩)
    · exact ix_lst rfl rfl rfl (g _ ⟨by decide, by decide⟩)
  refine sz fun s hs => ?_
  trace_state
  refine ⟨n, s, 24, rfl, ⟨hn8, hs, by decide, by decide⟩, fun ts h hl => ?_⟩
  have hl : ts.length ≤ 24 := by omega
  trace_state
  refine ⟨(n, ts), rfl, ⟨hn8, hl, h.ts⟩, ?_⟩
  trace_state
  refine ⟨n, ts, rfl, ⟨by omega, h⟩, ?_⟩
  trace_state
  rw [show (T.lst ((kinksD ts).map T.leaf)).dat = .lst (kinksD ts) by
    rw [T.dat, T.dats_eq, List.map_map]
    exact congrArg DL.D.lst (List.map_id _)]
  refine ⟨⟨by decide, by decide⟩, ?_⟩
  refine forW_rng (n := 2) (fun j ρ => ∃ (c5 c6 c9 : Option T), ρ = EL ns n ts c2 c5 c6 c9) ⟨_, _, _, rfl⟩ (fun j ρ K' hj ⟨c5, c6, c9, e⟩ k1 _ _ kr => ?_) fun ρ ⟨c5, c6, c9, e⟩ => ?_
  · subst e
    refine bind_nm rfl ?_
    exact w1 n ts _ _ _ _ K' hn8 hl h fun c9 => k1 _ ⟨_, _, _, rfl⟩
  · subst e
    exact w2 n ts _ _ _ _ K hn8 hl h fun c6 => k _ _ _ _ _
end
theorem W_law : ∀ ns : List Int, ns.length ≤ 63 → wb S_law (tl b_law) (some (.leaf (.scr ns)) :: some (.leaf .bag) :: List.replicate (n_law.length - 2) none) { nx := fun _ => False, rt := fun t _ => t = .leaf (.bl true) } := by
  intro ns hl
  have w3 := fun c2 c3 c4 c5 c6 c7 c8 c9 K k => W_3 (ns := ns) (K := K) (c2 := c2) (c3 := c3) (c4 := c4) (c5 := c5) (c6 := c6) (c7 := c7) (c8 := c8) (c9 := c9) k
  unfold b_law
  simp only [tl]
  generalize b_law_3 = q at *
  trace_state
  refine ⟨⟨by decide, by decide⟩, ?_⟩
  refine forW_rng (n := 5) (fun j ρ => ∃ (c2 c3 c4 c5 c6 c7 c8 c9 : Option T), ρ = [some (.leaf (.scr ns)), some (.leaf .bag), c2, c3, c4, c5, c6, c7, c8, c9]) ⟨_, _, _, _, _, _, _, _, rfl⟩ (fun j ρ K' hj ⟨c2, c3, c4, c5, c6, c7, c8, c9, e⟩ k1 _ _ kr => ?_) fun ρ ⟨c2, c3, c4, c5, c6, c7, c8, c9, e⟩ => ?_
  · subst e
    refine bind_nm rfl ?_
    exact w3 _ _ _ _ _ _ _ _ K' fun n ts c5 c6 c9 => k1 _ ⟨_, _, _, _, _, _, _, _, rfl⟩
  · subst e
    trace_state
    rfl
end
end KT
namespace KT
open PySem PySem.Spec PyProof.Rows L2 DL
noncomputable abbrev clsO (C : Addr) : Nat → Option (Addr × List Str) := fun n => if n = 0 then some (C, ["dial_count", "term_list"]) else none
theorem usn1 {P : List Value → Prop} (h : ∀ a0, P [a0]) : ∀ us : List Value, us.length = 1 → P us
  | [a0], _ => h a0
theorem usn2 {P : List Value → Prop} (h : ∀ a0 a1, P [a0, a1]) : ∀ us : List Value, us.length = 2 → P us
  | [a0, a1], _ => h a0 a1
theorem usn3 {P : List Value → Prop} (h : ∀ a0 a1 a2, P [a0, a1, a2]) : ∀ us : List Value, us.length = 3 → P us
  | [a0, a1, a2], _ => h a0 a1 a2
theorem usn4 {P : List Value → Prop} (h : ∀ a0 a1 a2 a3, P [a0, a1, a2, a3]) : ∀ us : List Value, us.length = 4 → P us
  | [a0, a1, a2, a3], _ => h a0 a1 a2 a3
theorem all_mk {l : PySem.W.OpenLaw} {w : World} {K : PySem.W.Frag} {h : Heap} {mg : Str → Option Value} {fa : Addr} (X : K.In h) (G : h.Ns mainGlobals mg) (hfa : mg "law" = some (.ref fa))
    {oc1 kV1 dc1 pm1 cd1 ct1 : Value} {od1 an1 : Option Addr} {sl1 : Array (Option Value)} {f1 : Addr}
    {oc2 kV2 dc2 pm2 cd2 ct2 : Value} {od2 an2 : Option Addr} {sl2 : Array (Option Value)} {f2 : Addr}
    {oc3 kV3 dc3 pm3 cd3 ct3 : Value} {od3 an3 : Option Addr} {sl3 : Array (Option Value)} {f3 : Addr}
    {oc4 kV4 dc4 pm4 cd4 ct4 : Value} {od4 an4 : Option Addr} {sl4 : Array (Option Value)} {f4 : Addr}
    {oc5 kV5 dc5 pm5 cd5 ct5 : Value} {od5 an5 : Option Addr} {sl5 : Array (Option Value)} {f5 : Addr}
    {oc6 kV6 dc6 pm6 cd6 ct6 : Value} {od6 an6 : Option Addr} {sl6 : Array (Option Value)} {f6 : Addr}
    {oc7 kV7 dc7 pm7 cd7 ct7 : Value} {od7 an7 : Option Addr} {sl7 : Array (Option Value)} {f7 : Addr}
    {oc8 kV8 dc8 pm8 cd8 ct8 : Value} {od8 an8 : Option Addr} {sl8 : Array (Option Value)} {f8 : Addr}
    {oc9 kV9 dc9 pm9 cd9 ct9 : Value} {od9 an9 : Option Addr} {sl9 : Array (Option Value)} {f9 : Addr}
    {oc10 kV10 dc10 pm10 cd10 ct10 : Value} {od10 an10 : Option Addr} {sl10 : Array (Option Value)} {f10 : Addr}
    {oc11 kV11 dc11 pm11 cd11 ct11 : Value} {od11 an11 : Option Addr} {sl11 : Array (Option Value)} {f11 : Addr}
    {oc12 kV12 dc12 pm12 cd12 ct12 : Value} {od12 an12 : Option Addr} {sl12 : Array (Option Value)} {f12 : Addr}
    {oc13 kV13 dc13 pm13 cd13 ct13 : Value} {od13 an13 : Option Addr} {sl13 : Array (Option Value)} {f13 : Addr}
    {oc14 kV14 dc14 pm14 cd14 ct14 : Value} {od14 an14 : Option Addr} {sl14 : Array (Option Value)} {f14 : Addr}
    {oc15 kV15 dc15 pm15 cd15 ct15 : Value} {od15 an15 : Option Addr} {sl15 : Array (Option Value)} {f15 : Addr}
    {oc16 kV16 dc16 pm16 cd16 ct16 : Value} {od16 an16 : Option Addr} {sl16 : Array (Option Value)} {f16 : Addr}
    {oc17 kV17 dc17 pm17 cd17 ct17 : Value} {od17 an17 : Option Addr} {sl17 : Array (Option Value)} {f17 : Addr}
    {oc18 kV18 dc18 pm18 cd18 ct18 : Value} {od18 an18 : Option Addr} {sl18 : Array (Option Value)} {f18 : Addr}
    {oc19 kV19 dc19 pm19 cd19 ct19 : Value} {od19 an19 : Option Addr} {sl19 : Array (Option Value)} {f19 : Addr}
    {oc20 kV20 dc20 pm20 cd20 ct20 : Value} {od20 an20 : Option Addr} {sl20 : Array (Option Value)} {f20 : Addr}
    {oc21 kV21 dc21 pm21 cd21 ct21 : Value} {od21 an21 : Option Addr} {sl21 : Array (Option Value)} {f21 : Addr}
    {oc22 kV22 dc22 pm22 cd22 ct22 : Value} {od22 an22 : Option Addr} {sl22 : Array (Option Value)} {f22 : Addr}
    {oc23 kV23 dc23 pm23 cd23 ct23 : Value} {od23 an23 : Option Addr} {sl23 : Array (Option Value)} {f23 : Addr}
    {oc24 kV24 dc24 pm24 cd24 ct24 : Value} {od24 an24 : Option Addr} {sl24 : Array (Option Value)} {f24 : Addr}
    {C0 : Addr} (aC : PySem.W.nsIn K mainGlobals "Board" = some (some (.ref C0)))
    (a1 : PySem.W.nsIn K mainGlobals "is_pulling" = some (some (.ref f1)))
    (l1 : K.lookup f1 = some ⟨oc1, od1, .func (PySem.W.fnOf "is_pulling" "is_pulling" (defArgs s_is_pulling) (defBody s_is_pulling) (defScope s_is_pulling) .none kV1 dc1 pm1 an1 cd1 ct1), sl1⟩) (c1 : PySem.W.codeIn K cd1 "is_pulling" = true) (k1 : PySem.W.keepIn K (.ref f1) = true)
    (a2 : PySem.W.nsIn K mainGlobals "other_of" = some (some (.ref f2)))
    (l2 : K.lookup f2 = some ⟨oc2, od2, .func (PySem.W.fnOf "other_of" "other_of" (defArgs s_other_of) (defBody s_other_of) (defScope s_other_of) .none kV2 dc2 pm2 an2 cd2 ct2), sl2⟩) (c2 : PySem.W.codeIn K cd2 "other_of" = true) (k2 : PySem.W.keepIn K (.ref f2) = true)
    (a3 : PySem.W.nsIn K mainGlobals "ends_of" = some (some (.ref f3)))
    (l3 : K.lookup f3 = some ⟨oc3, od3, .func (PySem.W.fnOf "ends_of" "ends_of" (defArgs s_ends_of) (defBody s_ends_of) (defScope s_ends_of) .none kV3 dc3 pm3 an3 cd3 ct3), sl3⟩) (c3 : PySem.W.codeIn K cd3 "ends_of" = true) (k3 : PySem.W.keepIn K (.ref f3) = true)
    (a4 : PySem.W.nsIn K mainGlobals "force_of" = some (some (.ref f4)))
    (l4 : K.lookup f4 = some ⟨oc4, od4, .func (PySem.W.fnOf "force_of" "force_of" (defArgs s_force_of) (defBody s_force_of) (defScope s_force_of) .none kV4 dc4 pm4 an4 cd4 ct4), sl4⟩) (c4 : PySem.W.codeIn K cd4 "force_of" = true) (k4 : PySem.W.keepIn K (.ref f4) = true)
    (a5 : PySem.W.nsIn K mainGlobals "need_free" = some (some (.ref f5)))
    (l5 : K.lookup f5 = some ⟨oc5, od5, .func (PySem.W.fnOf "need_free" "need_free" (defArgs s_need_free) (defBody s_need_free) (defScope s_need_free) .none kV5 dc5 pm5 an5 cd5 ct5), sl5⟩) (c5 : PySem.W.codeIn K cd5 "need_free" = true) (k5 : PySem.W.keepIn K (.ref f5) = true)
    (a6 : PySem.W.nsIn K mainGlobals "places_of" = some (some (.ref f6)))
    (l6 : K.lookup f6 = some ⟨oc6, od6, .func (PySem.W.fnOf "places_of" "places_of" (defArgs s_places_of) (defBody s_places_of) (defScope s_places_of) .none kV6 dc6 pm6 an6 cd6 ct6), sl6⟩) (c6 : PySem.W.codeIn K cd6 "places_of" = true) (k6 : PySem.W.keepIn K (.ref f6) = true)
    (a7 : PySem.W.nsIn K mainGlobals "weights_of" = some (some (.ref f7)))
    (l7 : K.lookup f7 = some ⟨oc7, od7, .func (PySem.W.fnOf "weights_of" "weights_of" (defArgs s_weights_of) (defBody s_weights_of) (defScope s_weights_of) .none kV7 dc7 pm7 an7 cd7 ct7), sl7⟩) (c7 : PySem.W.codeIn K cd7 "weights_of" = true) (k7 : PySem.W.keepIn K (.ref f7) = true)
    (a8 : PySem.W.nsIn K mainGlobals "kinks" = some (some (.ref f8)))
    (l8 : K.lookup f8 = some ⟨oc8, od8, .func (PySem.W.fnOf "kinks" "kinks" (defArgs s_kinks) (defBody s_kinks) (defScope s_kinks) .none kV8 dc8 pm8 an8 cd8 ct8), sl8⟩) (c8 : PySem.W.codeIn K cd8 "kinks" = true) (k8 : PySem.W.keepIn K (.ref f8) = true)
    (a9 : PySem.W.nsIn K mainGlobals "is_integer" = some (some (.ref f9)))
    (l9 : K.lookup f9 = some ⟨oc9, od9, .func (PySem.W.fnOf "is_integer" "is_integer" (defArgs s_is_integer) (defBody s_is_integer) (defScope s_is_integer) .none kV9 dc9 pm9 an9 cd9 ct9), sl9⟩) (c9 : PySem.W.codeIn K cd9 "is_integer" = true) (k9 : PySem.W.keepIn K (.ref f9) = true)
    (a10 : PySem.W.nsIn K mainGlobals "is_between" = some (some (.ref f10)))
    (l10 : K.lookup f10 = some ⟨oc10, od10, .func (PySem.W.fnOf "is_between" "is_between" (defArgs s_is_between) (defBody s_is_between) (defScope s_is_between) .none kV10 dc10 pm10 an10 cd10 ct10), sl10⟩) (c10 : PySem.W.codeIn K cd10 "is_between" = true) (k10 : PySem.W.keepIn K (.ref f10) = true)
    (a11 : PySem.W.nsIn K mainGlobals "is_value" = some (some (.ref f11)))
    (l11 : K.lookup f11 = some ⟨oc11, od11, .func (PySem.W.fnOf "is_value" "is_value" (defArgs s_is_value) (defBody s_is_value) (defScope s_is_value) .none kV11 dc11 pm11 an11 cd11 ct11), sl11⟩) (c11 : PySem.W.codeIn K cd11 "is_value" = true) (k11 : PySem.W.keepIn K (.ref f11) = true)
    (a12 : PySem.W.nsIn K mainGlobals "is_force" = some (some (.ref f12)))
    (l12 : K.lookup f12 = some ⟨oc12, od12, .func (PySem.W.fnOf "is_force" "is_force" (defArgs s_is_force) (defBody s_is_force) (defScope s_is_force) .none kV12 dc12 pm12 an12 cd12 ct12), sl12⟩) (c12 : PySem.W.codeIn K cd12 "is_force" = true) (k12 : PySem.W.keepIn K (.ref f12) = true)
    (a13 : PySem.W.nsIn K mainGlobals "is_term" = some (some (.ref f13)))
    (l13 : K.lookup f13 = some ⟨oc13, od13, .func (PySem.W.fnOf "is_term" "is_term" (defArgs s_is_term) (defBody s_is_term) (defScope s_is_term) .none kV13 dc13 pm13 an13 cd13 ct13), sl13⟩) (c13 : PySem.W.codeIn K cd13 "is_term" = true) (k13 : PySem.W.keepIn K (.ref f13) = true)
    (a14 : PySem.W.nsIn K mainGlobals "_law_bag" = some (some (.ref f14)))
    (l14 : K.lookup f14 = some ⟨oc14, od14, .func (PySem.W.fnOf "_law_bag" "_law_bag" (defArgs s_law_bag) (defBody s_law_bag) (defScope s_law_bag) .none kV14 dc14 pm14 an14 cd14 ct14), sl14⟩) (c14 : PySem.W.codeIn K cd14 "_law_bag" = true) (k14 : PySem.W.keepIn K (.ref f14) = true)
    (a15 : PySem.W.nsIn K mainGlobals "_law_take" = some (some (.ref f15)))
    (l15 : K.lookup f15 = some ⟨oc15, od15, .func (PySem.W.fnOf "_law_take" "_law_take" (defArgs s_law_take) (defBody s_law_take) (defScope s_law_take) .none kV15 dc15 pm15 an15 cd15 ct15), sl15⟩) (c15 : PySem.W.codeIn K cd15 "_law_take" = true) (k15 : PySem.W.keepIn K (.ref f15) = true)
    (a16 : PySem.W.nsIn K mainGlobals "_law_alike" = some (some (.ref f16)))
    (l16 : K.lookup f16 = some ⟨oc16, od16, .func (PySem.W.fnOf "_law_alike" "_law_alike" (defArgs s_law_alike) (defBody s_law_alike) (defScope s_law_alike) .none kV16 dc16 pm16 an16 cd16 ct16), sl16⟩) (c16 : PySem.W.codeIn K cd16 "_law_alike" = true) (k16 : PySem.W.keepIn K (.ref f16) = true)
    (a17 : PySem.W.nsIn K mainGlobals "_law_parts" = some (some (.ref f17)))
    (l17 : K.lookup f17 = some ⟨oc17, od17, .func (PySem.W.fnOf "_law_parts" "_law_parts" (defArgs s_law_parts) (defBody s_law_parts) (defScope s_law_parts) .none kV17 dc17 pm17 an17 cd17 ct17), sl17⟩) (c17 : PySem.W.codeIn K cd17 "_law_parts" = true) (k17 : PySem.W.keepIn K (.ref f17) = true)
    (a18 : PySem.W.nsIn K mainGlobals "_law_number" = some (some (.ref f18)))
    (l18 : K.lookup f18 = some ⟨oc18, od18, .func (PySem.W.fnOf "_law_number" "_law_number" (defArgs s_law_number) (defBody s_law_number) (defScope s_law_number) .none kV18 dc18 pm18 an18 cd18 ct18), sl18⟩) (c18 : PySem.W.codeIn K cd18 "_law_number" = true) (k18 : PySem.W.keepIn K (.ref f18) = true)
    (a19 : PySem.W.nsIn K mainGlobals "_law_free_terms" = some (some (.ref f19)))
    (l19 : K.lookup f19 = some ⟨oc19, od19, .func (PySem.W.fnOf "_law_free_terms" "_law_free_terms" (defArgs s_law_free_terms) (defBody s_law_free_terms) (defScope s_law_free_terms) .none kV19 dc19 pm19 an19 cd19 ct19), sl19⟩) (c19 : PySem.W.codeIn K cd19 "_law_free_terms" = true) (k19 : PySem.W.keepIn K (.ref f19) = true)
    (a20 : PySem.W.nsIn K mainGlobals "_law_kinks" = some (some (.ref f20)))
    (l20 : K.lookup f20 = some ⟨oc20, od20, .func (PySem.W.fnOf "_law_kinks" "_law_kinks" (defArgs s_law_kinks) (defBody s_law_kinks) (defScope s_law_kinks) .none kV20 dc20 pm20 an20 cd20 ct20), sl20⟩) (c20 : PySem.W.codeIn K cd20 "_law_kinks" = true) (k20 : PySem.W.keepIn K (.ref f20) = true)
    (a21 : PySem.W.nsIn K mainGlobals "_law_split" = some (some (.ref f21)))
    (l21 : K.lookup f21 = some ⟨oc21, od21, .func (PySem.W.fnOf "_law_split" "_law_split" (defArgs s_law_split) (defBody s_law_split) (defScope s_law_split) .none kV21 dc21 pm21 an21 cd21 ct21), sl21⟩) (c21 : PySem.W.codeIn K cd21 "_law_split" = true) (k21 : PySem.W.keepIn K (.ref f21) = true)
    (a22 : PySem.W.nsIn K mainGlobals "law" = some (some (.ref f22)))
    (l22 : K.lookup f22 = some ⟨oc22, od22, .func (PySem.W.fnOf "law" "law" (defArgs s_law) (defBody s_law) (defScope s_law) .none kV22 dc22 pm22 an22 cd22 ct22), sl22⟩) (c22 : PySem.W.codeIn K cd22 "law" = true) (k22 : PySem.W.keepIn K (.ref f22) = true)
    (a23 : PySem.W.findIn K (.ref C0) "__init__" = some (some (.ref f23))) (i23 : PySem.W.isFn K (.ref f23) = true)
    (l23 : K.lookup f23 = some ⟨oc23, od23, .func (PySem.W.fnOf "__init__" "Board.__init__" (defArgs s_Board_init_) (defBody s_Board_init_) (defScope s_Board_init_) .none kV23 dc23 pm23 an23 cd23 ct23), sl23⟩) (c23 : PySem.W.codeIn K cd23 "Board.__init__" = true) (k23 : PySem.W.keepIn K (.ref f23) = true)
    (a24 : PySem.W.findIn K (.ref C0) "terms" = some (some (.ref f24))) (i24 : PySem.W.isFn K (.ref f24) = true)
    (l24 : K.lookup f24 = some ⟨oc24, od24, .func (PySem.W.fnOf "terms" "Board.terms" (defArgs s_Board_terms) (defBody s_Board_terms) (defScope s_Board_terms) .none kV24 dc24 pm24 an24 cd24 ct24), sl24⟩) (c24 : PySem.W.codeIn K cd24 "Board.terms" = true) (k24 : PySem.W.keepIn K (.ref f24) = true)
    (pg : PySem.W.plainGet K C0 Str.empty = true) (hd : PySem.W.hasDictIn K C0 = true) (po : PySem.W.plainOver K C0 = true) (sa : PySem.W.findIn K (.ref C0) "__setattr__" = some (some (.builtin "object.__setattr__"))) (mk : PySem.W.makesIn K C0 = true) (kc : PySem.W.keepIn K (.ref C0) = true)
    (nf0 : PySem.W.findIn K (.ref C0) "dial_count" = some none)
    (nf1 : PySem.W.findIn K (.ref C0) "term_list" = some none)
    {u_FARTHEST : Value} (g_FARTHEST : PySem.W.nsIn K mainGlobals "FARTHEST" = some (some u_FARTHEST)) (r_FARTHEST : RelV (V.int 1000000000000000000) u_FARTHEST)
    {u_MOST_FORCE : Value} (g_MOST_FORCE : PySem.W.nsIn K mainGlobals "MOST_FORCE" = some (some u_MOST_FORCE)) (r_MOST_FORCE : RelV (V.int 30) u_MOST_FORCE)
    {p_WORDS : Addr} {oc_WORDS : Value} {od_WORDS : Option Addr} {it_WORDS : Array Value} {n_WORDS : Nat} {sl_WORDS : Array (Option Value)} (g_WORDS : PySem.W.nsIn K mainGlobals "WORDS" = some (some (.ref p_WORDS))) (l_WORDS : K.lookup p_WORDS = some ⟨oc_WORDS, od_WORDS, .seq it_WORDS n_WORDS, sl_WORDS⟩) (t_WORDS : oc_WORDS = .type "tuple") (z_WORDS : it_WORDS.size ≤ sizeLine) (v_WORDS : Vals ((["wish", "tie", "stop", "bar"] : List Str).map V.str) it_WORDS.toList)
    {u_MOST_DIALS : Value} (g_MOST_DIALS : PySem.W.nsIn K mainGlobals "MOST_DIALS" = some (some u_MOST_DIALS)) (r_MOST_DIALS : RelV (V.int 8) u_MOST_DIALS)
    {u_MOST_TERMS : Value} (g_MOST_TERMS : PySem.W.nsIn K mainGlobals "MOST_TERMS" = some (some u_MOST_TERMS)) (r_MOST_TERMS : RelV (V.int 24) u_MOST_TERMS)
    (z_len : PySem.W.nsIn K mainGlobals "len" = some none)
    (z_abs : PySem.W.nsIn K mainGlobals "abs" = some none)
    (z_enumerate : PySem.W.nsIn K mainGlobals "enumerate" = some none)
    (z_sorted : PySem.W.nsIn K mainGlobals "sorted" = some none)
    (z_isinstance : PySem.W.nsIn K mainGlobals "isinstance" = some none)
    (z_bool : PySem.W.nsIn K mainGlobals "bool" = some none)
    (z_int : PySem.W.nsIn K mainGlobals "int" = some none)
    (z_str : PySem.W.nsIn K mainGlobals "str" = some none)
    (z_tuple : PySem.W.nsIn K mainGlobals "tuple" = some none)
    (z_all : PySem.W.nsIn K mainGlobals "all" = some none)
    (z_repr : PySem.W.nsIn K mainGlobals "repr" = some none)
    (z_range : PySem.W.nsIn K mainGlobals "range" = some none)
    (z_max : PySem.W.nsIn K mainGlobals "max" = some none)
    (z_min : PySem.W.nsIn K mainGlobals "min" = some none)
    (z_list : PySem.W.nsIn K mainGlobals "list" = some none) :
    ∃ fd : FuncData, (∀ (s : Shared) (v : Value), BindsTo s fd ⟨[v], []⟩ [("_law_script", v)]) ∧ ∀ base : Heap, K.In base → base.Ns mainGlobals mg → FnG l.prog w K mg base L2.CX0 7 fa fd ["_law_script"] (spLaw K) := by
  have e := hfa.symm.trans (PySem.W.mg_of X G a22)
  cases e
  have F1 := L2.fun_mk (st := s_is_pulling) l1 c1 k1
  have F2 := L2.fun_mk (st := s_other_of) l2 c2 k2
  have F3 := L2.fun_mk (st := s_ends_of) l3 c3 k3
  have F4 := L2.fun_mk (st := s_force_of) l4 c4 k4
  have F5 := L2.fun_mk (st := s_need_free) l5 c5 k5
  have F6 := L2.fun_mk (st := s_places_of) l6 c6 k6
  have F7 := L2.fun_mk (st := s_weights_of) l7 c7 k7
  have F8 := L2.fun_mk (st := s_kinks) l8 c8 k8
  have F9 := L2.fun_mk (st := s_is_integer) l9 c9 k9
  have F10 := L2.fun_mk (st := s_is_between) l10 c10 k10
  have F11 := L2.fun_mk (st := s_is_value) l11 c11 k11
  have F12 := L2.fun_mk (st := s_is_force) l12 c12 k12
  have F13 := L2.fun_mk (st := s_is_term) l13 c13 k13
  have F14 := L2.fun_mk (st := s_law_bag) l14 c14 k14
  have F15 := L2.fun_mk (st := s_law_take) l15 c15 k15
  have F16 := L2.fun_mk (st := s_law_alike) l16 c16 k16
  have F17 := L2.fun_mk (st := s_law_parts) l17 c17 k17
  have F18 := L2.fun_mk (st := s_law_number) l18 c18 k18
  have F19 := L2.fun_mk (st := s_law_free_terms) l19 c19 k19
  have F20 := L2.fun_mk (st := s_law_kinks) l20 c20 k20
  have F21 := L2.fun_mk (st := s_law_split) l21 c21 k21
  have F22 := L2.fun_mk (st := s_law) l22 c22 k22
  have F23 := L2.fun_mk (st := s_Board_init_) l23 c23 k23
  have F24 := L2.fun_mk (st := s_Board_terms) l24 c24 k24
  refine ⟨PySem.W.fnOf "law" "law" (defArgs s_law) (defBody s_law) (defScope s_law) .none kV22 dc22 pm22 an22 cd22 ct22, fun s v => .of_eq rfl, fun base _ _ => ?_⟩
  have y_len := PySem.W.mg_none_of X G z_len
  have y_abs := PySem.W.mg_none_of X G z_abs
  have y_enumerate := PySem.W.mg_none_of X G z_enumerate
  have y_sorted := PySem.W.mg_none_of X G z_sorted
  have y_isinstance := PySem.W.mg_none_of X G z_isinstance
  have y_bool := PySem.W.mg_none_of X G z_bool
  have y_int := PySem.W.mg_none_of X G z_int
  have y_str := PySem.W.mg_none_of X G z_str
  have y_tuple := PySem.W.mg_none_of X G z_tuple
  have y_all := PySem.W.mg_none_of X G z_all
  have y_repr := PySem.W.mg_none_of X G z_repr
  have y_range := PySem.W.mg_none_of X G z_range
  have y_max := PySem.W.mg_none_of X G z_max
  have y_min := PySem.W.mg_none_of X G z_min
  have y_list := PySem.W.mg_none_of X G z_list
  have cl0 : Cls K C0 := ⟨pg, hd, po, sa⟩
  have G_FARTHEST : GlP K mg "FARTHEST" (.int 1000000000000000000) := gl_int (PySem.W.mg_of X G g_FARTHEST) r_FARTHEST
  have G_MOST_FORCE : GlP K mg "MOST_FORCE" (.int 30) := gl_int (PySem.W.mg_of X G g_MOST_FORCE) r_MOST_FORCE
  have G_WORDS := gl_strs (xs := ["wish", "tie", "stop", "bar"]) (PySem.W.mg_of X G g_WORDS) l_WORDS t_WORDS z_WORDS v_WORDS
  have G_MOST_DIALS : GlP K mg "MOST_DIALS" (.int 8) := gl_int (PySem.W.mg_of X G g_MOST_DIALS) r_MOST_DIALS
  have G_MOST_TERMS : GlP K mg "MOST_TERMS" (.int 24) := gl_int (PySem.W.mg_of X G g_MOST_TERMS) r_MOST_TERMS
  have B_is_pulling : FnB l.prog w K mg base (clsO C0) 1 "is_pulling" F_is_pulling := ⟨⟨f1, _, ["term"], fnD (c := c_is_pulling) (S := S_is_pulling) F1 sc_is_pulling rfl ck_is_pulling fns_nil gls_nil bs_nil W_is_pulling, PySem.W.mg_of X G a1, k1, F1.binds (ps := ["term"]) fun _ _ _ _ _ _ => usn1 fun _ => rfl⟩, M_is_pulling⟩
  have B_other_of : FnB l.prog w K mg base (clsO C0) 1 "other_of" F_other_of := ⟨⟨f2, _, ["term"], fnD (c := c_other_of) (S := S_other_of) F2 sc_other_of rfl ck_other_of fns_nil gls_nil bs_nil W_other_of, PySem.W.mg_of X G a2, k2, F2.binds (ps := ["term"]) fun _ _ _ _ _ _ => usn1 fun _ => rfl⟩, M_other_of⟩
  have B_ends_of : FnB l.prog w K mg base (clsO C0) 1 "ends_of" F_ends_of := ⟨⟨f3, _, ["term"], fnD (c := c_ends_of) (S := S_ends_of) F3 sc_ends_of rfl ck_ends_of fns_nil gls_nil bs_nil W_ends_of, PySem.W.mg_of X G a3, k3, F3.binds (ps := ["term"]) fun _ _ _ _ _ _ => usn1 fun _ => rfl⟩, M_ends_of⟩
  have B_force_of : FnB l.prog w K mg base (clsO C0) 1 "force_of" F_force_of := ⟨⟨f4, _, ["term"], fnD (c := c_force_of) (S := S_force_of) F4 sc_force_of rfl ck_force_of fns_nil gls_nil bs_nil W_force_of, PySem.W.mg_of X G a4, k4, F4.binds (ps := ["term"]) fun _ _ _ _ _ _ => usn1 fun _ => rfl⟩, M_force_of⟩
  have B_is_integer : FnB l.prog w K mg base (clsO C0) 1 "is_integer" F_is_integer := ⟨⟨f9, _, ["thing"], fnD (c := c_is_integer) (S := S_is_integer) F9 sc_is_integer rfl ck_is_integer fns_nil gls_nil (bs_cons y_isinstance (bs_cons y_bool (bs_cons y_int bs_nil))) W_is_integer, PySem.W.mg_of X G a9, k9, F9.binds (ps := ["thing"]) fun _ _ _ _ _ _ => usn1 fun _ => rfl⟩, M_is_integer⟩
  have B_law_bag : FnB l.prog w K mg base (clsO C0) 1 "_law_bag" bagF := ⟨⟨f14, _, ["_law_script"], fnBag F14 sc_law_bag ck_law_bag y_abs, PySem.W.mg_of X G a14, k14, F14.binds (ps := ["_law_script"]) fun _ _ _ _ _ _ => usn1 fun _ => rfl⟩, bagF_mono⟩
  have B_law_take : FnB l.prog w K mg base (clsO C0) 1 "_law_take" takeF := ⟨⟨f15, _, ["_law_bag_here", "_law_many"], fnTake F15 sc_law_take ck_law_take y_len, PySem.W.mg_of X G a15, k15, F15.binds (ps := ["_law_bag_here", "_law_many"]) fun _ _ _ _ _ _ => usn2 fun _ _ => rfl⟩, takeF_mono⟩
  have B_law_alike : FnB l.prog w K mg base (clsO C0) 1 "_law_alike" F_law_alike := ⟨⟨f16, _, ["_law_found", "_law_due"], fnD (c := c_law_alike) (S := S_law_alike) F16 sc_law_alike rfl ck_law_alike fns_nil gls_nil (bs_cons y_repr bs_nil) W_law_alike, PySem.W.mg_of X G a16, k16, F16.binds (ps := ["_law_found", "_law_due"]) fun _ _ _ _ _ _ => usn2 fun _ _ => rfl⟩, M_law_alike⟩
  have B_law_parts : FnB l.prog w K mg base (clsO C0) 1 "_law_parts" F_law_parts := ⟨⟨f17, _, ["_law_term"], fnD (c := c_law_parts) (S := S_law_parts) F17 sc_law_parts rfl ck_law_parts fns_nil gls_nil (bs_cons y_int bs_nil) W_law_parts, PySem.W.mg_of X G a17, k17, F17.binds (ps := ["_law_term"]) fun _ _ _ _ _ _ => usn1 fun _ => rfl⟩, M_law_parts⟩
  have B_Board_terms : MtP l.prog w K mg base (clsO C0) 1 (0, "terms") F_Board_terms := ⟨⟨C0, f24, ["dial_count", "term_list"], _, ["self"], rfl, by decide +kernel, cl0, ⟨a24, i24, k24⟩, fnD (c := c_Board_terms) (S := S_Board_terms) F24 sc_Board_terms rfl ck_Board_terms fns_nil gls_nil (bs_cons y_list bs_nil) W_Board_terms (obMk pl_nil pl_nil pl_nil (al_cons ⟨C0, ["dial_count", "term_list"], rfl, rfl, by decide +kernel, cl0, nf1⟩ al_nil) al_nil), F24.binds (ps := ["self"]) fun _ _ _ _ _ _ => usn1 fun _ => rfl⟩, M_Board_terms⟩
  have B_need_free : FnB l.prog w K mg base (clsO C0) 2 "need_free" F_need_free := ⟨⟨f5, _, ["board"], fnD (c := c_need_free) (S := S_need_free) F5 sc_need_free rfl ck_need_free (fns_cons (B_is_pulling.mono (by decide)) fns_nil) gls_nil (bs_cons y_enumerate bs_nil) W_need_free (obMk (pl_cons (B_Board_terms.mono (by decide)) pl_nil) pl_nil pl_nil al_nil al_nil), PySem.W.mg_of X G a5, k5, F5.binds (ps := ["board"]) fun _ _ _ _ _ _ => usn1 fun _ => rfl⟩, M_need_free⟩
  have B_places_of : FnB l.prog w K mg base (clsO C0) 2 "places_of" F_places_of := ⟨⟨f6, _, ["term"], fnD (c := c_places_of) (S := S_places_of) F6 sc_places_of rfl ck_places_of (fns_cons (B_other_of.mono (by decide)) (fns_cons (B_ends_of.mono (by decide)) fns_nil)) gls_nil bs_nil W_places_of, PySem.W.mg_of X G a6, k6, F6.binds (ps := ["term"]) fun _ _ _ _ _ _ => usn1 fun _ => rfl⟩, M_places_of⟩
  have B_is_between : FnB l.prog w K mg base (clsO C0) 2 "is_between" F_is_between := ⟨⟨f10, _, ["thing", "low", "high"], fnD (c := c_is_between) (S := S_is_between) F10 sc_is_between rfl ck_is_between (fns_cons (B_is_integer.mono (by decide)) fns_nil) gls_nil bs_nil W_is_between, PySem.W.mg_of X G a10, k10, F10.binds (ps := ["thing", "low", "high"]) fun _ _ _ _ _ _ => usn3 fun _ _ _ => rfl⟩, M_is_between⟩
  have B_law_number : FnB l.prog w K mg base (clsO C0) 2 "_law_number" F_law_number := ⟨⟨f18, _, ["_law_bag_here", "_law_scale"], fnD (c := c_law_number) (S := S_law_number) F18 sc_law_number rfl ck_law_number (fns_cons (B_law_take.mono (by decide)) fns_nil) gls_nil bs_nil W_law_number, PySem.W.mg_of X G a18, k18, F18.binds (ps := ["_law_bag_here", "_law_scale"]) fun _ _ _ _ _ _ => usn2 fun _ _ => rfl⟩, M_law_number⟩
  have B_law_kinks : FnB l.prog w K mg base (clsO C0) 2 "_law_kinks" F_law_kinks := ⟨⟨f20, _, ["_law_terms"], fnDH (c := c_law_kinks) (S := S_law_kinks) F20 sc_law_kinks rfl ck_law_kinks (fns_cons (B_law_parts.mono (by decide)) fns_nil) gls_nil (bs_cons y_max (bs_cons y_min (bs_cons y_int (bs_cons y_sorted bs_nil)))) W_law_kinks (fun a X h => ⟨⟨hk_newT, hk_kink h.xo h.co (by rw [h.e.2.2.2.1]; exact y_sorted), trivial⟩, ⟨sh_acc ⟨h.xo, h.co, h.kd, (fun k x f h1 _ => by simp at h1), fun x hx => by rw [h.e.2.2.2.1]; exact (bs_nil) x hx⟩, trivial⟩, trivial⟩), PySem.W.mg_of X G a20, k20, F20.binds (ps := ["_law_terms"]) fun _ _ _ _ _ _ => usn1 fun _ => rfl⟩, M_law_kinks⟩
  have B_law_split : FnB l.prog w K mg base (clsO C0) 2 "_law_split" F_law_split := ⟨⟨f21, _, ["_law_bag_here", "_law_terms"], fnD (c := c_law_split) (S := S_law_split) F21 sc_law_split rfl ck_law_split (fns_cons (B_law_parts.mono (by decide)) (fns_cons (B_law_take.mono (by decide)) fns_nil)) gls_nil (bs_cons y_range (bs_cons y_len bs_nil)) W_law_split, PySem.W.mg_of X G a21, k21, F21.binds (ps := ["_law_bag_here", "_law_terms"]) fun _ _ _ _ _ _ => usn2 fun _ _ => rfl⟩, M_law_split⟩
  have B_weights_of : FnB l.prog w K mg base (clsO C0) 3 "weights_of" F_weights_of := ⟨⟨f7, _, ["board"], fnDH (c := c_weights_of) (S := S_weights_of) F7 sc_weights_of rfl ck_weights_of (fns_cons (B_need_free.mono (by decide)) (fns_cons (B_places_of.mono (by decide)) fns_nil)) gls_nil bs_nil W_weights_of (fun a X h => ⟨⟨hk_newT, trivial⟩, ⟨sh_acc ⟨h.xo, h.co, h.kd, (fun k x f h1 h2 => by cases k with | zero => (cases h1; cases h2; exact ⟨(B_force_of.mono (by decide)).at_ h, B_force_of.mo⟩) | succ k => (simp at h1)), fun x hx => by rw [h.e.2.2.2.1]; exact (bs_nil) x hx⟩, trivial⟩, trivial⟩) (obMk (pl_cons (B_Board_terms.mono (by decide)) pl_nil) pl_nil pl_nil al_nil al_nil), PySem.W.mg_of X G a7, k7, F7.binds (ps := ["board"]) fun _ _ _ _ _ _ => usn1 fun _ => rfl⟩, M_weights_of⟩
  have B_is_value : FnB l.prog w K mg base (clsO C0) 3 "is_value" F_is_value := ⟨⟨f11, _, ["thing"], fnD (c := c_is_value) (S := S_is_value) F11 sc_is_value rfl ck_is_value (fns_cons (B_is_between.mono (by decide)) fns_nil) (pl_cons G_FARTHEST pl_nil) bs_nil W_is_value, PySem.W.mg_of X G a11, k11, F11.binds (ps := ["thing"]) fun _ _ _ _ _ _ => usn1 fun _ => rfl⟩, M_is_value⟩
  have B_is_force : FnB l.prog w K mg base (clsO C0) 3 "is_force" F_is_force := ⟨⟨f12, _, ["thing"], fnD (c := c_is_force) (S := S_is_force) F12 sc_is_force rfl ck_is_force (fns_cons (B_is_between.mono (by decide)) fns_nil) (pl_cons G_MOST_FORCE pl_nil) bs_nil W_is_force, PySem.W.mg_of X G a12, k12, F12.binds (ps := ["thing"]) fun _ _ _ _ _ _ => usn1 fun _ => rfl⟩, M_is_force⟩
  have B_law_free_terms : FnB l.prog w K mg base (clsO C0) 3 "_law_free_terms" F_law_free_terms := ⟨⟨f19, _, ["_law_bag_here", "_law_size", "_law_scale", "_law_many"], fnD (c := c_law_free_terms) (S := S_law_free_terms) F19 sc_law_free_terms rfl ck_law_free_terms (fns_cons (B_law_take.mono (by decide)) (fns_cons (B_law_number.mono (by decide)) fns_nil)) gls_nil (bs_cons y_range bs_nil) W_law_free_terms, PySem.W.mg_of X G a19, k19, F19.binds (ps := ["_law_bag_here", "_law_size", "_law_scale", "_law_many"]) fun _ _ _ _ _ _ => usn4 fun _ _ _ _ => rfl⟩, M_law_free_terms⟩
  have B_kinks : FnB l.prog w K mg base (clsO C0) 4 "kinks" F_kinks := ⟨⟨f8, _, ["board"], fnDH (c := c_kinks) (S := S_kinks) F8 sc_kinks rfl ck_kinks (fns_cons (B_weights_of.mono (by decide)) fns_nil) gls_nil (bs_cons y_sorted bs_nil) W_kinks (fun a X h => ⟨⟨hk_kink h.xo h.co (by rw [h.e.2.2.2.1]; exact y_sorted), trivial⟩, trivial, trivial⟩), PySem.W.mg_of X G a8, k8, F8.binds (ps := ["board"]) fun _ _ _ _ _ _ => usn1 fun _ => rfl⟩, M_kinks⟩
  have B_is_term : FnB l.prog w K mg base (clsO C0) 4 "is_term" F_is_term := ⟨⟨f13, _, ["thing", "size"], fnD (c := c_is_term) (S := S_is_term) F13 sc_is_term rfl ck_is_term (fns_cons (B_is_between.mono (by decide)) (fns_cons (B_is_value.mono (by decide)) (fns_cons (B_is_force.mono (by decide)) fns_nil))) (pl_cons G_WORDS pl_nil) (bs_cons y_isinstance (bs_cons y_str (bs_cons y_len (bs_cons y_tuple (bs_cons y_int (bs_cons y_all bs_nil)))))) W_is_term, PySem.W.mg_of X G a13, k13, F13.binds (ps := ["thing", "size"]) fun _ _ _ _ _ _ => usn2 fun _ _ => rfl⟩, M_is_term⟩
  have B_Board_init_ : NwP l.prog w K mg base (clsO C0) 6 "Board" F_Board_init_ := ⟨⟨C0, f23, 0, ["dial_count", "term_list"], _, 5, ["self", "size", "terms"], Nat.le_refl _, rfl, ⟨mk, a23, i23, kc⟩, PySem.W.mg_of X G aC, fnInit (c := c_Board_init_) (S := S_Board_init_) F23 sc_Board_init_ rfl ck_Board_init_ (fns_cons (B_is_between.mono (by decide)) (fns_cons (B_is_term.mono (by decide)) fns_nil)) (pl_cons G_MOST_DIALS (pl_cons G_MOST_TERMS pl_nil)) (bs_cons y_all (bs_cons y_len (bs_cons y_isinstance (bs_cons y_list bs_nil)))) (fun C1 ns1 e1 => by cases e1; exact ⟨cl0, rfl, (al_cons nf0 (al_cons nf1 al_nil))⟩) (by show (["dial_count", "term_list"] : List Str).Nodup; decide +kernel) (by show 2 < 1000; decide) (by decide) W_Board_init_, F23.binds (ps := ["self", "size", "terms"]) fun _ _ _ _ _ _ => usn3 fun _ _ _ => rfl⟩, M_Board_init_⟩
  exact fnLaw (c := c_law) (S := S_law) (cls := (clsO C0)) (kb := 0) F22 sc_law (by decide) rfl ck_law (fns_cons (B_law_bag.mono (by decide)) (fns_cons (B_law_take.mono (by decide)) (fns_cons (B_law_free_terms.mono (by decide)) (fns_cons (B_law_kinks.mono (by decide)) (fns_cons (B_kinks.mono (by decide)) (fns_cons (B_law_alike.mono (by decide)) (fns_cons (B_law_split.mono (by decide)) fns_nil))))))) gls_nil (bs_cons y_range (bs_cons y_len bs_nil)) rfl W_law (obMk (pl_cons (B_Board_terms.mono (by decide)) pl_nil) pl_nil (pl_cons (B_Board_init_.mono (by decide)) pl_nil) al_nil al_nil)
end KT
open PySem PySem.W PyProof.Rows
set_option maxHeartbeats 0 in
theorem PySem.Challenge.cw_mostpulled_k80_kinks_by_their_definition_holds : PySem.Challenge.rw_mostpulled_k80_kinks_by_their_definition.Holds := by
  refine headS ?_
  k_fill
  refine DL.walk_G (l := PySem.Challenge.rw_mostpulled_k80_kinks_by_their_definition) (n := 63) (k := 7) (x := "_law_script") (CX := fun _ => L2.CX0) (sp := fun w => DL.spLaw _) rfl (by decide) rfl ⟨rfl, by decide, by decide⟩ (fun w h Y => PySem.W.kIn_of Y) ?F (fun _ _ a ns hl _ hS => ⟨a, ns, rfl, hS, hl, fun _ => rfl⟩) (fun _ _ _ _ _ h => h)
  case F =>
    intro w mg fa h KX G hmg
    refine' KT.all_mk KX G hmg ?aC ?a1 ?l1 ?c1 ?k1 ?a2 ?l2 ?c2 ?k2 ?a3 ?l3 ?c3 ?k3 ?a4 ?l4 ?c4 ?k4 ?a5 ?l5 ?c5 ?k5 ?a6 ?l6 ?c6 ?k6 ?a7 ?l7 ?c7 ?k7 ?a8 ?l8 ?c8 ?k8 ?a9 ?l9 ?c9 ?k9 ?a10 ?l10 ?c10 ?k10 ?a11 ?l11 ?c11 ?k11 ?a12 ?l12 ?c12 ?k12 ?a13 ?l13 ?c13 ?k13 ?a14 ?l14 ?c14 ?k14 ?a15 ?l15 ?c15 ?k15 ?a16 ?l16 ?c16 ?k16 ?a17 ?l17 ?c17 ?k17 ?a18 ?l18 ?c18 ?k18 ?a19 ?l19 ?c19 ?k19 ?a20 ?l20 ?c20 ?k20 ?a21 ?l21 ?c21 ?k21 ?a22 ?l22 ?c22 ?k22 ?a23 ?i23 ?l23 ?c23 ?k23 ?a24 ?i24 ?l24 ?c24 ?k24 ?pg ?hd ?po ?sa ?mk ?kc ?nf0 ?nf1 ?g_FARTHEST ?r_FARTHEST ?g_MOST_FORCE ?r_MOST_FORCE ?g_WORDS ?l_WORDS ?t_WORDS ?z_WORDS ?v_WORDS ?g_MOST_DIALS ?r_MOST_DIALS ?g_MOST_TERMS ?r_MOST_TERMS ?z_len ?z_abs ?z_enumerate ?z_sorted ?z_isinstance ?z_bool ?z_int ?z_str ?z_tuple ?z_all ?z_repr ?z_range ?z_max ?z_min ?z_list
    (case aC => k_is); (case a1 => k_is); (case l1 => k_is); (case c1 => k_is); (case k1 => k_is); (case a2 => k_is); (case l2 => k_is); (case c2 => k_is); (case k2 => k_is); (case a3 => k_is); (case l3 => k_is); (case c3 => k_is); (case k3 => k_is); (case a4 => k_is); (case l4 => k_is); (case c4 => k_is); (case k4 => k_is); (case a5 => k_is); (case l5 => k_is); (case c5 => k_is); (case k5 => k_is); (case a6 => k_is); (case l6 => k_is); (case c6 => k_is); (case k6 => k_is); (case a7 => k_is); (case l7 => k_is); (case c7 => k_is); (case k7 => k_is); (case a8 => k_is); (case l8 => k_is); (case c8 => k_is); (case k8 => k_is); (case a9 => k_is); (case l9 => k_is); (case c9 => k_is); (case k9 => k_is); (case a10 => k_is); (case l10 => k_is); (case c10 => k_is); (case k10 => k_is); (case a11 => k_is); (case l11 => k_is); (case c11 => k_is); (case k11 => k_is); (case a12 => k_is); (case l12 => k_is); (case c12 => k_is); (case k12 => k_is); (case a13 => k_is); (case l13 => k_is); (case c13 => k_is); (case k13 => k_is); (case a14 => k_is); (case l14 => k_is); (case c14 => k_is); (case k14 => k_is); (case a15 => k_is); (case l15 => k_is); (case c15 => k_is); (case k15 => k_is); (case a16 => k_is); (case l16 => k_is); (case c16 => k_is); (case k16 => k_is); (case a17 => k_is); (case l17 => k_is); (case c17 => k_is); (case k17 => k_is); (case a18 => k_is); (case l18 => k_is); (case c18 => k_is); (case k18 => k_is); (case a19 => k_is); (case l19 => k_is); (case c19 => k_is); (case k19 => k_is); (case a20 => k_is); (case l20 => k_is); (case c20 => k_is); (case k20 => k_is); (case a21 => k_is); (case l21 => k_is); (case c21 => k_is); (case k21 => k_is); (case a22 => k_is); (case l22 => k_is); (case c22 => k_is); (case k22 => k_is); (case a23 => k_is); (case i23 => k_is); (case l23 => k_is); (case c23 => k_is); (case k23 => k_is); (case a24 => k_is); (case i24 => k_is); (case l24 => k_is); (case c24 => k_is); (case k24 => k_is); (case pg => k_is); (case hd => k_is); (case po => k_is); (case sa => k_is); (case mk => k_is); (case kc => k_is); (case nf0 => k_is); (case nf1 => k_is); (case g_FARTHEST => k_is); (case g_MOST_FORCE => k_is); (case g_WORDS => k_is); (case l_WORDS => k_is); (case g_MOST_DIALS => k_is); (case g_MOST_TERMS => k_is); (case z_len => k_is); (case z_abs => k_is); (case z_enumerate => k_is); (case z_sorted => k_is); (case z_isinstance => k_is); (case z_bool => k_is); (case z_int => k_is); (case z_str => k_is); (case z_tuple => k_is); (case z_all => k_is); (case z_repr => k_is); (case z_range => k_is); (case z_max => k_is); (case z_min => k_is); (case z_list => k_is)
    (case r_FARTHEST => exact ⟨_, rfl⟩); (case r_MOST_FORCE => exact ⟨_, rfl⟩); (case t_WORDS => rfl); (case z_WORDS => decide); (case v_WORDS => exact .cons ⟨_, rfl⟩ (.cons ⟨_, rfl⟩ (.cons ⟨_, rfl⟩ (.cons ⟨_, rfl⟩ (.nil))))); (case r_MOST_DIALS => exact ⟨_, rfl⟩); (case r_MOST_TERMS => exact ⟨_, rfl⟩)

