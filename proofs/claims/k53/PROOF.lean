import PyProof.Rows.All
import Wide.All
import OpenK.AllK
import Wide.FinOn
import PySem.Challenge.RW_landways_k53_wishes_and_their_things
import HandS.Base
import HandS.Call
import HandS.List
import HandS.Comp
import HandS.Iter
import HandS.Ends
import HandS.Exc
import HandS.ExcOwn
import HandS.ExcInit
import HandS.Words
import HandS.WordsList
import HandS.WordsExc
import HandS.CallSlots
import HandS.Defaults
import HandS.Lambda
import HandS.Deep
import HandS.TupAny
import HandS.TupMul
import HandS.Style
import HandS.Wide
import HandS.WideMore
import HandS.IsInst
import HandS.SortInts
import HandS.Conv
import HandS.Flow
import HandS.SortRule
import KE.GoesEnum
import KE.KSuper
import KE.KExcSuper
import HandS.OwnEq
import PyProof.InstNe
import HandS.ExcField
import HandS.MakeKw
import HandS.MakeKwOnly
import HandS.HeadHook2
import HandS.HeadHook4
import HandS.HeadEnd
import HandS.EndTab
import HandS.Head0
import HandS.Head1
import HandS.Head2
import HandS.HeadWalk
import HandS.NestedK
import KE.KStateDown
set_option Elab.async false
set_option linter.all false
set_option maxRecDepth 100000
set_option maxHeartbeats 0
namespace TL
open PySem PySem.Spec PyProof.Rows L2

/-! ### trees -/
inductive T where
  | non | bl (b : Bool) | int (i : Int) | str (s : Str)
  | tup (xs : List T) | lst (xs : List T) | ins (C : Str) (fs : List (Str × T)) | rng (lo hi : Int) | hand | scr (ns : List Int)
  deriving Inhabited
/-- what a slot holds: a frozen tree; an own flat list; an own list, an own tuple of such -/
inductive OT where
  | v (t : T) | f (xs : List T) | l (xs : List OT) | p (xs : List OT) | o (C : Str) (fs : List (Str × T))
  deriving Inhabited
mutual
def OT.fz : OT → T
  | .v t => t
  | .f xs => .lst xs
  | .l xs => .lst (OT.fzs xs)
  | .p xs => .tup (OT.fzs xs)
  | .o C fs => .ins C fs
def OT.fzs : List OT → List T
  | [] => []
  | x :: xs => OT.fz x :: OT.fzs xs
end
theorem OT.fzs_eq : ∀ xs : List OT, OT.fzs xs = xs.map OT.fz
  | [] => rfl
  | x :: xs => by rw [OT.fzs, OT.fzs_eq xs]; rfl

/-- the hand's state: the cells, the place, the rest, the total -/
structure HS where
  cells : List Int
  place : Int
  rest : Int
  total : Int
abbrev Hd := Option HS
/-- where the hand lies: its list, the list of its cells; the tables of code objects -/
structure HA where
  hd : Option (Addr × Addr)
  tabs : List (Addr × Str)
structure Gd where
  K : PySem.W.Frag
  ca : Str → Addr
  tabs : List (Addr × Str)

section
variable (G : Gd) (ha : HA)
mutual
def Rep (F : Hp) : T → V → Prop
  | .non, u => u = .non
  | .bl b, u => u = .bl b
  | .int i, u => u = .int i
  | .str s, u => u = .str s
  | .tup xs, u => ∃ a us, u = .ref a ∧ SqT G.K F a us ∧ Reps F xs us
  | .lst xs, u => ∃ a us, u = .ref a ∧ F a = some (.lst us) ∧ Reps F xs us
  | .ins C fs, u => ∃ a dx us, u = .ref a ∧ F a = some (.ins (G.ca C) dx us) ∧ RepF F fs us
  | .rng lo hi, u => ∃ a, u = .ref a ∧ F a = some (.rng lo hi)
  | .hand, u => ∃ p, ha.hd = some p ∧ u = .ref p.1
  | .scr ns, u => ∃ a, u = .ref a ∧ SqL G.K F a (ns.map V.int)
def Reps (F : Hp) : List T → List V → Prop
  | [], us => us = []
  | x :: xs, us => ∃ u r, us = u :: r ∧ Rep F x u ∧ Reps F xs r
def RepF (F : Hp) : List (Str × T) → List (Str × V) → Prop
  | [], us => us = []
  | (n, x) :: xs, us => ∃ u r, us = (n, u) :: r ∧ Rep F x u ∧ RepF F xs r
end
mutual
def RepO (F H : Hp) : OT → V → List Addr → Prop
  | .v t, u, fp => fp = [] ∧ Rep G ha F t u
  | .f xs, u, fp => ∃ a us, u = .ref a ∧ H a = some (.lst us) ∧ fp = [a] ∧ Reps G ha F xs us
  | .l xs, u, fp => ∃ a us q, u = .ref a ∧ H a = some (.lst us) ∧ fp = a :: q ∧ RepOs F H xs us q
  | .p xs, u, fp => ∃ a us q, u = .ref a ∧ H a = some (.tup us) ∧ fp = a :: q ∧ RepOs F H xs us q
  | .o C fs, u, fp => ∃ a dx us, u = .ref a ∧ H a = some (.ins (G.ca C) dx us) ∧ fp = [a] ∧ RepF G ha F fs us
def RepOs (F H : Hp) : List OT → List V → List Addr → Prop
  | [], us, fp => us = [] ∧ fp = []
  | x :: xs, us, fp => ∃ u r p q, us = u :: r ∧ fp = p ++ q ∧ RepO F H x u p ∧ RepOs F H xs r q
end
end

section
variable {G : Gd} {ha : HA}
theorem sqT_mono {K : PySem.W.Frag} {F F' : Hp} {a : Addr} {us : List V} (s : Same F F') (h : SqT K F a us) : SqT K F' a us := by
  rcases h with (h | ⟨o, h⟩) | h
  · exact .inl (.inl (s _ _ h))
  · exact .inl (.inr ⟨o, s _ _ h⟩)
  · exact .inr h
theorem sqL_mono {K : PySem.W.Frag} {F F' : Hp} {a : Addr} {us : List V} (s : Same F F') (h : SqL K F a us) : SqL K F' a us := s.seq h
mutual
theorem Rep.mono {F F' : Hp} (s : Same F F') : ∀ (t : T) (u : V), Rep G ha F t u → Rep G ha F' t u
  | .non, u, h => by simpa only [Rep] using h
  | .bl b, u, h => by simpa only [Rep] using h
  | .int i, u, h => by simpa only [Rep] using h
  | .str z, u, h => by simpa only [Rep] using h
  | .tup xs, u, h => by
    simp only [Rep] at h ⊢
    obtain ⟨a, us, e, q, r⟩ := h
    exact ⟨a, us, e, sqT_mono s q, Reps.mono s xs us r⟩
  | .lst xs, u, h => by
    simp only [Rep] at h ⊢
    obtain ⟨a, us, e, q, r⟩ := h
    exact ⟨a, us, e, s _ _ q, Reps.mono s xs us r⟩
  | .ins C fs, u, h => by
    simp only [Rep] at h ⊢
    obtain ⟨a, dx, us, e, q, r⟩ := h
    exact ⟨a, dx, us, e, s _ _ q, RepF.mono s fs us r⟩
  | .rng lo hi, u, h => by
    simp only [Rep] at h ⊢
    obtain ⟨a, e, q⟩ := h
    exact ⟨a, e, s _ _ q⟩
  | .hand, u, h => by simpa only [Rep] using h
  | .scr ns, u, h => by
    simp only [Rep] at h ⊢
    obtain ⟨a, e, q⟩ := h
    exact ⟨a, e, sqL_mono s q⟩
theorem Reps.mono {F F' : Hp} (s : Same F F') : ∀ (ts : List T) (us : List V), Reps G ha F ts us → Reps G ha F' ts us
  | [], us, h => by simpa only [Reps] using h
  | x :: xs, us, h => by
    simp only [Reps] at h ⊢
    obtain ⟨u, r, e, q, k⟩ := h
    exact ⟨u, r, e, Rep.mono s x u q, Reps.mono s xs r k⟩
theorem RepF.mono {F F' : Hp} (s : Same F F') : ∀ (ts : List (Str × T)) (us : List (Str × V)), RepF G ha F ts us → RepF G ha F' ts us
  | [], us, h => by simpa only [RepF] using h
  | (n, x) :: xs, us, h => by
    simp only [RepF] at h ⊢
    obtain ⟨u, r, e, q, k⟩ := h
    exact ⟨u, r, e, Rep.mono s x u q, RepF.mono s xs r k⟩
end
mutual
theorem RepO.mono {F F' H H' : Hp} (s : Same F F') : ∀ (t : OT) (u : V) (fp : List Addr), (∀ a ∈ fp, ∀ o, H a = some o → H' a = some o) → RepO G ha F H t u fp → RepO G ha F' H' t u fp
  | .v t, u, fp, k, h => by
    simp only [RepO] at h ⊢
    exact ⟨h.1, Rep.mono s t u h.2⟩
  | .f xs, u, fp, k, h => by
    simp only [RepO] at h ⊢
    obtain ⟨a, us, e, q, p, r⟩ := h
    exact ⟨a, us, e, k a (by rw [p]; exact List.mem_cons_self) _ q, p, Reps.mono s xs us r⟩
  | .l xs, u, fp, k, h => by
    simp only [RepO] at h ⊢
    obtain ⟨a, us, q, e, z, p, r⟩ := h
    subst p
    exact ⟨a, us, q, e, k a List.mem_cons_self _ z, rfl, RepOs.mono s xs us q (fun b hb => k b (List.mem_cons_of_mem _ hb)) r⟩
  | .p xs, u, fp, k, h => by
    simp only [RepO] at h ⊢
    obtain ⟨a, us, q, e, z, p, r⟩ := h
    subst p
    exact ⟨a, us, q, e, k a List.mem_cons_self _ z, rfl, RepOs.mono s xs us q (fun b hb => k b (List.mem_cons_of_mem _ hb)) r⟩
  | .o C fs, u, fp, k, h => by
    simp only [RepO] at h ⊢
    obtain ⟨a, dx, us, e, q, p, r⟩ := h
    exact ⟨a, dx, us, e, k a (by rw [p]; exact List.mem_cons_self) _ q, p, RepF.mono s fs us r⟩
theorem RepOs.mono {F F' H H' : Hp} (s : Same F F') : ∀ (ts : List OT) (us : List V) (fp : List Addr), (∀ a ∈ fp, ∀ o, H a = some o → H' a = some o) → RepOs G ha F H ts us fp → RepOs G ha F' H' ts us fp
  | [], us, fp, k, h => by simpa only [RepOs] using h
  | x :: xs, us, fp, k, h => by
    simp only [RepOs] at h ⊢
    obtain ⟨u, r, p, q, e, z, h1, h2⟩ := h
    subst z
    exact ⟨u, r, p, q, e, rfl, RepO.mono s x u p (fun a m => k a (List.mem_append_left _ m)) h1, RepOs.mono s xs r q (fun a m => k a (List.mem_append_right _ m)) h2⟩
end
/-- borrowed: a list may be an own one, its items are frozen -/
def RepB (G : Gd) (ha : HA) (F H : Hp) (t : T) (u : V) : Prop := match t with
  | .lst xs => ∃ a us, u = .ref a ∧ H a = some (.lst us) ∧ Reps G ha F xs us
  | .ins C fs => ∃ a dx us, u = .ref a ∧ H a = some (.ins (G.ca C) dx us) ∧ RepF G ha F fs us
  | t => Rep G ha F t u
theorem Rep.b {F H : Hp} {t : T} {u : V} (s : Same F H) (h : Rep G ha F t u) : RepB G ha F H t u := by
  cases t with
  | lst xs =>
    simp only [Rep] at h
    obtain ⟨a, us, e, q, r⟩ := h
    exact ⟨a, us, e, s _ _ q, r⟩
  | ins C fs =>
    simp only [Rep] at h
    obtain ⟨a, dx, us, e, q, r⟩ := h
    exact ⟨a, dx, us, e, s _ _ q, r⟩
  | _ => exact h
/-! freezing -/
def frz (F H : Hp) (fp : List Addr) : Hp := fun a => if a ∈ fp then H a else F a
theorem frz_same {F H : Hp} {fp : List Addr} (n : ∀ a ∈ fp, F a = none) : Same F (frz F H fp) := fun a o e => by
  unfold frz
  by_cases h : a ∈ fp
  · rw [n a h] at e; cases e
  · rw [if_neg h]; exact e
theorem frz_sub {F H : Hp} {fp : List Addr} (s : Same F H) : Same (frz F H fp) H := fun a o e => by
  unfold frz at e
  by_cases h : a ∈ fp
  · rw [if_pos h] at e; exact e
  · rw [if_neg h] at e; exact s a o e
theorem frz_nt {F H : Hp} {fp : List Addr} (g : ∀ a ps, F a ≠ some (.tbl ps)) (nt : ∀ a ∈ fp, ∀ ps, H a ≠ some (.tbl ps)) : ∀ a ps, frz F H fp a ≠ some (.tbl ps) := fun a ps => by
  unfold frz
  by_cases h : a ∈ fp
  · rw [if_pos h]; exact nt a h ps
  · rw [if_neg h]; exact g a ps
theorem frz_mono {F H : Hp} {p q : List Addr} (h : ∀ a ∈ p, a ∈ q) (n : ∀ a ∈ q, F a = none) : Same (frz F H p) (frz F H q) := fun a o e => by
  unfold frz at *
  by_cases hp : a ∈ p
  · rw [if_pos hp] at e; rw [if_pos (h a hp)]; exact e
  · rw [if_neg hp] at e
    by_cases hq : a ∈ q
    · rw [n a hq] at e; cases e
    · rw [if_neg hq]; exact e
mutual
theorem RepO.fz {F H : Hp} : ∀ (t : OT) (u : V) (fp : List Addr), (∀ a ∈ fp, F a = none) → RepO G ha F H t u fp → Rep G ha (frz F H fp) t.fz u
  | .v t, u, fp, n, h => by
    simp only [RepO] at h
    obtain ⟨e, h⟩ := h
    subst e
    simp only [OT.fz]
    exact Rep.mono (frz_same n) t u h
  | .f xs, u, fp, n, h => by
    simp only [RepO] at h
    obtain ⟨a, us, e, q, p, r⟩ := h
    subst p
    simp only [OT.fz, Rep]
    exact ⟨a, us, e, (by unfold frz; rw [if_pos List.mem_cons_self]; exact q), Reps.mono (frz_same n) xs us r⟩
  | .l xs, u, fp, n, h => by
    simp only [RepO] at h
    obtain ⟨a, us, q, e, z, p, r⟩ := h
    subst p
    simp only [OT.fz, Rep]
    exact ⟨a, us, e, (by unfold frz; rw [if_pos List.mem_cons_self]; exact z), Reps.mono (frz_mono (fun b hb => List.mem_cons_of_mem _ hb) n) _ us (RepOs.fz xs us q (fun b hb => n b (List.mem_cons_of_mem _ hb)) r)⟩
  | .p xs, u, fp, n, h => by
    simp only [RepO] at h
    obtain ⟨a, us, q, e, z, p, r⟩ := h
    subst p
    simp only [OT.fz, Rep]
    exact ⟨a, us, e, .of (by unfold frz; rw [if_pos List.mem_cons_self]; exact z), Reps.mono (frz_mono (fun b hb => List.mem_cons_of_mem _ hb) n) _ us (RepOs.fz xs us q (fun b hb => n b (List.mem_cons_of_mem _ hb)) r)⟩
  | .o C fs, u, fp, n, h => by
    simp only [RepO] at h
    obtain ⟨a, dx, us, e, q, p, r⟩ := h
    subst p
    simp only [OT.fz, Rep]
    exact ⟨a, dx, us, e, (by unfold frz; rw [if_pos List.mem_cons_self]; exact q), RepF.mono (frz_same n) fs us r⟩
theorem RepOs.fz {F H : Hp} : ∀ (ts : List OT) (us : List V) (fp : List Addr), (∀ a ∈ fp, F a = none) → RepOs G ha F H ts us fp → Reps G ha (frz F H fp) (OT.fzs ts) us
  | [], us, fp, n, h => by
    simp only [RepOs] at h
    simp only [OT.fzs, Reps]
    exact h.1
  | x :: xs, us, fp, n, h => by
    simp only [RepOs] at h
    obtain ⟨u, r, p, q, e, z, h1, h2⟩ := h
    subst z
    simp only [OT.fzs, Reps]
    exact ⟨u, r, e, Rep.mono (frz_mono (fun a m => List.mem_append_left _ m) n) _ u (RepO.fz x u p (fun a m => n a (List.mem_append_left _ m)) h1),
      Reps.mono (frz_mono (fun a m => List.mem_append_right _ m) n) _ r (RepOs.fz xs r q (fun a m => n a (List.mem_append_right _ m)) h2)⟩
end
end

/-! what is owned is no table -/
mutual
theorem RepO.nt {G : Gd} {ha : HA} {F H : Hp} : ∀ (t : OT) (u : V) (fp : List Addr), RepO G ha F H t u fp → ∀ a ∈ fp, ∀ ps, H a ≠ some (.tbl ps)
  | .v t, u, fp, h, a, m, ps => by
    simp only [RepO] at h
    rw [h.1] at m
    cases m
  | .f xs, u, fp, h, a, m, ps => by
    simp only [RepO] at h
    obtain ⟨b, us, e, q, p, r⟩ := h
    rw [p] at m
    obtain rfl : a = b := by simpa using m
    rw [q]
    exact fun z => by cases z
  | .l xs, u, fp, h, a, m, ps => by
    simp only [RepO] at h
    obtain ⟨b, us, q, e, z, p, r⟩ := h
    rw [p] at m
    rcases List.mem_cons.mp m with rfl | m
    · rw [z]; exact fun z => by cases z
    · exact RepOs.nt xs us q r a m ps
  | .p xs, u, fp, h, a, m, ps => by
    simp only [RepO] at h
    obtain ⟨b, us, q, e, z, p, r⟩ := h
    rw [p] at m
    rcases List.mem_cons.mp m with rfl | m
    · rw [z]; exact fun z => by cases z
    · exact RepOs.nt xs us q r a m ps
  | .o C fs, u, fp, h, a, m, ps => by
    simp only [RepO] at h
    obtain ⟨b, dx, us, e, q, p, r⟩ := h
    rw [p] at m
    obtain rfl : a = b := by simpa using m
    rw [q]
    exact fun z => by cases z
theorem RepOs.nt {G : Gd} {ha : HA} {F H : Hp} : ∀ (ts : List OT) (us : List V) (fp : List Addr), RepOs G ha F H ts us fp → ∀ a ∈ fp, ∀ ps, H a ≠ some (.tbl ps)
  | [], us, fp, h, a, m, ps => by
    simp only [RepOs] at h
    rw [h.2] at m
    cases m
  | x :: xs, us, fp, h, a, m, ps => by
    simp only [RepOs] at h
    obtain ⟨u, r, p, q, e, z, h1, h2⟩ := h
    rw [z] at m
    rcases List.mem_append.mp m with m | m
    · exact RepO.nt x u p h1 a m ps
    · exact RepOs.nt xs r q h2 a m ps
end
/-! ### a def's entry, the frame -/
structure Ent where
  H0 : Hp
  F0 : Hp
  ha : HA
  own0 : List Addr
  slf0 : List Addr
def HandC (H F : Hp) : Option (Addr × Addr) → Hd → Prop
  | none, none => True
  | some (h, c), some s => F h = none ∧ F c = some (.lst (s.cells.map V.int)) ∧ h ≠ c ∧ H h = some (.lst [.ref c, .int s.place, .int s.rest, .int s.total]) ∧ H c = some (.lst (s.cells.map V.int))
  | _, _ => False
structure HandAt (H F : Hp) (ha : HA) (hd : Hd) : Prop where
  c : HandC H F ha.hd hd
  t : LamX.Tabs ha.tabs H
  f : ∀ p ∈ ha.tabs, F p.1 = none
  g : ∀ a ps, F a ≠ some (.tbl ps)
/-- a is no object of the hand's, no table -/
def NoH (ha : HA) (a : Addr) : Prop := (∀ p, ha.hd = some p → a ≠ p.1 ∧ a ≠ p.2) ∧ ∀ p ∈ ha.tabs, a ≠ p.1
/-- a is not what a draw or the making of a lambda changes -/
def Kp (ha : HA) (a : Addr) : Prop := (∀ p, ha.hd = some p → a ≠ p.1) ∧ ∀ p ∈ ha.tabs, a ≠ p.1
theorem NoH.kp {ha : HA} {a : Addr} (n : NoH ha a) : Kp ha a := ⟨fun p e => (n.1 p e).1, n.2⟩
abbrev Slots := List (Option OT)
structure SR (G : Gd) (En : Ent) (σ : L2.St) (H F : Hp) (S : Slots) (fps : Nat → List Addr) (hd : Hd) : Prop where
  len : S.length = σ.length
  slot : ∀ (i : Nat) (ot : OT), S[i]? = some (some ot) → ∃ v, σ[i]? = some (some v) ∧ RepO G En.ha F H ot v (fps i)
  nd : ∀ i, (fps i).Nodup
  dj : ∀ i j a, i ≠ j → a ∈ fps i → a ∉ fps j
  own : ∀ i a, a ∈ fps i → F a = none ∧ H a ≠ none ∧ NoH En.ha a ∧ (En.H0 a = none ∨ a ∈ En.own0)
  sub : Same F H
  sub0 : Same En.F0 F
  fnew : ∀ a, F a ≠ none → En.F0 a ≠ none ∨ En.H0 a = none ∨ a ∈ En.own0
  kp : ∀ a o, En.H0 a = some o → a ∉ En.own0 → Kp En.ha a → H a = some o
  hand : HandAt H F En.ha hd
  slf : ∀ (i : Nat) (C : Str) (fs : List (Str × T)), S[i]? = some (some (.o C fs)) → fps i = En.slf0
  tbE : En.ha.tabs = G.tabs
def OT.isO : OT → Bool
  | .o _ _ => true
  | _ => false
def upF (fps : Nat → List Addr) (i : Nat) (fp : List Addr) : Nat → List Addr := fun j => if j = i then fp else fps j
theorem upF_same {fps : Nat → List Addr} {i : Nat} {fp : List Addr} : upF fps i fp i = fp := if_pos rfl
theorem upF_ne {fps : Nat → List Addr} {i j : Nat} {fp : List Addr} (h : j ≠ i) : upF fps i fp j = fps j := if_neg h

/-- how a step of evaluation changes the two heaps: the frozen part grows by new objects, all else but the hand stands -/
structure Grow (ha : HA) (H F H' F' : Hp) (hd' : Hd) : Prop where
  sF : Same F F'
  sub : Same F' H'
  new : ∀ a, F' a ≠ none → F a ≠ none ∨ H a = none
  keep : ∀ a o, H a = some o → Kp ha a → H' a = some o
  hand : HandAt H' F' ha hd'
theorem HandAt.at1 {H F : Hp} {ha : HA} {hd : Hd} (h : HandAt H F ha hd) {p : Addr × Addr} (e : ha.hd = some p) : H p.1 ≠ none ∧ H p.2 ≠ none := by
  have h := h.c
  rw [e] at h
  cases hd with
  | none => exact h.elim
  | some s =>
    obtain ⟨_, _, _, h1, h2⟩ := h
    rw [h1, h2]
    simp
theorem HandAt.there {H F : Hp} {ha : HA} {hd : Hd} (h : HandAt H F ha hd) {a : Addr} (n : ¬ Kp ha a) : H a ≠ none := fun e => n ⟨fun p ep z => by
  have := (h.at1 ep).1
  rw [← z] at this
  exact this e, fun p hp z => by
  obtain ⟨ps, h1, _⟩ := h.t p hp
  rw [← z, e] at h1
  cases h1⟩
/-- what is new is no object of the hand's -/
theorem HandAt.noH {H F : Hp} {ha : HA} {hd : Hd} (h : HandAt H F ha hd) {a : Addr} (n : H a = none) : NoH ha a := ⟨fun p e => ⟨fun z => (h.at1 e).1 (by rw [← z]; exact n), fun z => (h.at1 e).2 (by rw [← z]; exact n)⟩, fun p hp z => by
  obtain ⟨ps, h1, _⟩ := h.t p hp
  rw [← z, n] at h1
  cases h1⟩
/-- everything is kept -/
theorem HandAt.mono {H F H' F' : Hp} {ha : HA} {hd : Hd} (h : HandAt H F ha hd) (sF : Same F F') (nt : ∀ a ps, F' a = some (.tbl ps) → F a = some (.tbl ps)) (k : ∀ a o, H a = some o → H' a = some o) (n : ∀ a, F' a ≠ none → F a ≠ none ∨ H a = none) : HandAt H' F' ha hd := by
  have nF : ∀ a, F a = none → H a ≠ none → F' a = none := fun a e1 e2 => by
    cases e : F' a with
    | none => rfl
    | some o =>
      rcases n a (by rw [e]; simp) with z | z
      · exact absurd e1 z
      · exact absurd z e2
  refine ⟨?_, h.t.ext k, fun p hp => nF _ (h.f p hp) ?_, fun a ps e => h.g a ps (nt a ps e)⟩
  · have hc := h.c
    cases e : ha.hd with
    | none => rw [e] at hc; cases hd <;> exact hc
    | some p =>
      obtain ⟨a, c⟩ := p
      have q := h.at1 e
      rw [e] at hc
      cases hd with
      | none => exact hc.elim
      | some s =>
        obtain ⟨h1, h2, h3, h4, h5⟩ := hc
        exact ⟨nF _ h1 q.1, sF _ _ h2, h3, k _ _ h4, k _ _ h5⟩
  · obtain ⟨ps, h1, _⟩ := h.t p hp
    rw [h1]; simp
/-- an own object is changed -/
theorem HandAt.put {H F : Hp} {ha : HA} {hd : Hd} {x : Addr} {o : HO} (h : HandAt H F ha hd) (n : NoH ha x) (hx : ∀ c q, H x ≠ some (LamX.CodeO c q)) : HandAt (upd H x o) F ha hd := by
  refine ⟨?_, fun p hp => ?_, h.f, h.g⟩
  · have hc := h.c
    cases e : ha.hd with
    | none => rw [e] at hc; cases hd <;> exact hc
    | some p =>
      have m := n.1 p e
      obtain ⟨a, c⟩ := p
      rw [e] at hc
      cases hd with
      | none => exact hc.elim
      | some s =>
        obtain ⟨h1, h2, h3, h4, h5⟩ := hc
        exact ⟨h1, h2, h3, by rw [upd_ne (Ne.symm m.1)]; exact h4, by rw [upd_ne (Ne.symm m.2)]; exact h5⟩
  · obtain ⟨ps, h1, h2, h3⟩ := h.t p hp
    refine ⟨ps, by rw [upd_ne (Ne.symm (n.2 p hp))]; exact h1, h2, fun pos cv e => ?_⟩
    obtain ⟨c, e1, e2⟩ := h3 pos cv e
    exact ⟨c, e1, by rw [upd_ne (fun z => hx c p.2 (by rw [← z]; exact e2))]; exact e2⟩
theorem HandAt.frz {H F : Hp} {ha : HA} {hd : Hd} {fp : List Addr} (h : HandAt H F ha hd) (n : ∀ a ∈ fp, NoH ha a) (nt : ∀ a ∈ fp, ∀ ps, H a ≠ some (.tbl ps)) : HandAt H (TL.frz F H fp) ha hd := by
  have nF : ∀ a, F a = none → a ∉ fp → TL.frz F H fp a = none := fun a e m => by unfold TL.frz; rw [if_neg m]; exact e
  refine ⟨?_, h.t, fun p hp => nF _ (h.f p hp) fun m => (n p.1 m).2 p hp rfl, fun a ps => ?_⟩
  rotate_left
  · exact TL.frz_nt h.g nt a ps
  have hc := h.c
  cases e : ha.hd with
  | none => rw [e] at hc; cases hd <;> exact hc
  | some p =>
    obtain ⟨a, c⟩ := p
    rw [e] at hc
    cases hd with
    | none => exact hc.elim
    | some s =>
      obtain ⟨h1, h2, h3, h4, h5⟩ := hc
      exact ⟨nF _ h1 fun m => ((n a m).1 _ e).1 rfl, by unfold TL.frz; rw [if_neg fun m => ((n c m).1 _ e).2 rfl]; exact h2, h3, h4, h5⟩
section
variable {G : Gd} {En : Ent} {σ : L2.St} {H F H' F' : Hp} {S : Slots} {fps : Nat → List Addr} {hd hd' : Hd}
theorem Grow.refl (s : Same F H) {ha : HA} (h : HandAt H F ha hd) : Grow ha H F H F hd := ⟨Same.refl _, s, fun _ q => .inl q, fun _ _ q _ => q, h⟩
theorem Grow.trans {H1 F1 H2 F2 : Hp} {ha : HA} {hd1 hd2 : Hd} (a : Grow ha H F H1 F1 hd1) (b : Grow ha H1 F1 H2 F2 hd2) : Grow ha H F H2 F2 hd2 where
  sF := a.sF.trans b.sF
  sub := b.sub
  new := fun x q => by
    rcases b.new x q with z | z
    · exact a.new x z
    · cases e : H x with
      | none => exact .inr rfl
      | some o =>
        by_cases hp : Kp ha x
        · rw [a.keep x o e hp] at z; cases z
        · exact absurd z (a.hand.there hp)
  keep := fun x o e hp => b.keep x o (a.keep x o e hp) hp
  hand := b.hand
/-- a new object, frozen -/
theorem Grow.laid {ha : HA} {p : Addr} {o : HO} (s : Same F H) (h : HandAt H F ha hd) (hp : H p = none) (no : ∀ ps, o ≠ .tbl ps := by intro ps z; cases z) : Grow ha H F (upd H p o) (upd F p o) hd where
  sF := fun a u e => by rw [upd_ne (fun z => by rw [z] at e; rw [s _ _ e] at hp; cases hp)]; exact e
  sub := fun a u e => by
    by_cases c : a = p
    · subst c; rw [upd_same] at e ⊢; exact e
    · rw [upd_ne c] at e ⊢; exact s a u e
  new := fun a q => by
    by_cases c : a = p
    · subst c; exact .inr hp
    · rw [upd_ne c] at q; exact .inl q
  keep := fun a u e _ => by rw [upd_ne (fun z => by rw [z, hp] at e; cases e)]; exact e
  hand := h.mono (fun a u e => by rw [upd_ne (fun z => by rw [z] at e; rw [s _ _ e] at hp; cases hp)]; exact e) (fun a ps e => by
    by_cases c : a = p
    · rw [c, upd_same] at e; exact absurd (Option.some.inj e) (no ps)
    · rw [upd_ne c] at e; exact e) (fun a u e => by rw [upd_ne (fun z => by rw [z, hp] at e; cases e)]; exact e) fun a q => by
    by_cases c : a = p
    · subst c; exact .inr hp
    · rw [upd_ne c] at q; exact .inl q
theorem SR.back (R : SR G En σ H F S fps hd) {a : Addr} (e : H a = none) : En.H0 a = none ∨ a ∈ En.own0 := by
  cases e0 : En.H0 a with
  | none => exact .inl rfl
  | some o =>
    by_cases ho : a ∈ En.own0
    · exact .inr ho
    by_cases hp : Kp En.ha a
    · rw [R.kp a o e0 ho hp] at e; cases e
    · exact absurd e (R.hand.there hp)
/-- the central step: the slots stand -/
theorem SR.grow (R : SR G En σ H F S fps hd) (g : Grow En.ha H F H' F' hd') : SR G En σ H' F' S fps hd' where
  len := R.len
  slot := fun i ot e => by
    obtain ⟨v, h1, h3⟩ := R.slot i ot e
    refine ⟨v, h1, RepO.mono g.sF ot v _ (fun a m o q => g.keep a o q (R.own i a m).2.2.1.kp) h3⟩
  nd := R.nd
  dj := R.dj
  own := fun i a m => by
    obtain ⟨h1, h2, h3, h4⟩ := R.own i a m
    refine ⟨?_, ?_, h3, h4⟩
    · cases e : F' a with
      | none => rfl
      | some o =>
        rcases g.new a (by rw [e]; simp) with q | q
        · exact absurd h1 q
        · exact absurd q h2
    · cases e : H a with
      | none => exact absurd e h2
      | some o =>
        rw [g.keep a o e h3.kp]
        simp
  sub := g.sub
  sub0 := R.sub0.trans g.sF
  fnew := fun a q => by
    rcases g.new a q with z | z
    · exact R.fnew a z
    · cases e : En.H0 a with
      | none => exact .inr (.inl rfl)
      | some o =>
        by_cases ho : a ∈ En.own0
        · exact .inr (.inr ho)
        by_cases hp : Kp En.ha a
        · have y := R.kp a o e ho hp
          rw [y] at z
          cases z
        · exact absurd z (R.hand.there hp)
  kp := fun a o e h1 h2 => g.keep a o (R.kp a o e h1 h2) h2
  hand := g.hand
  slf := R.slf
  tbE := R.tbE
/-- a slot is frozen -/
theorem SR.frz (R : SR G En σ H F S fps hd) {i : Nat} {ot : OT} (e : S[i]? = some (some ot)) :
    ∃ F', Same F F' ∧ SR G En σ H F' (S.set i (some (.v ot.fz))) (upF fps i []) hd ∧ ∃ v, σ[i]? = some (some v) ∧ Rep G En.ha F' ot.fz v := by
  obtain ⟨v, h1, h3⟩ := R.slot i ot e
  have n : ∀ a ∈ fps i, F a = none := fun a m => (R.own i a m).1
  have r := RepO.fz ot v _ n h3
  have sF : Same F (TL.frz F H (fps i)) := frz_same n
  refine ⟨TL.frz F H (fps i), sF, ⟨by rw [List.length_set]; exact R.len, fun j o' e' => ?_, fun j => ?_, fun j k a hjk m => ?_, fun j a m => ?_, frz_sub R.sub, R.sub0.trans sF, fun a q => ?_, R.kp, HandAt.frz R.hand (fun a m => (R.own i a m).2.2.1) (RepO.nt ot v _ h3), fun j C fs e' => ?_, R.tbE⟩, v, h1, r⟩
  · by_cases c : j = i
    · subst c
      have hi : j < S.length := by
        rcases List.getElem?_eq_some_iff.mp e with ⟨q, _⟩
        exact q
      rw [List.getElem?_set_self hi] at e'
      cases e'
      exact ⟨v, h1, by rw [upF_same]; simp only [RepO]; exact ⟨trivial, r⟩⟩
    · rw [List.getElem?_set_ne (Ne.symm c)] at e'
      obtain ⟨v', g1, g3⟩ := R.slot j o' e'
      exact ⟨v', g1, by rw [upF_ne c]; exact RepO.mono sF o' v' _ (fun _ _ _ q => q) g3⟩
  · by_cases c : j = i
    · rw [c, upF_same]; exact List.nodup_nil
    · rw [upF_ne c]; exact R.nd j
  · by_cases c : j = i
    · rw [c, upF_same] at m; cases m
    · rw [upF_ne c] at m
      by_cases d : k = i
      · rw [d, upF_same]; simp
      · rw [upF_ne d]; exact R.dj j k a hjk m
  · by_cases c : j = i
    · rw [c, upF_same] at m; cases m
    · rw [upF_ne c] at m
      obtain ⟨g1, g2, g3, g4⟩ := R.own j a m
      exact ⟨by unfold TL.frz; rw [if_neg (R.dj j i a c m)]; exact g1, g2, g3, g4⟩
  · unfold TL.frz at q
    by_cases c : a ∈ fps i
    · rcases (R.own i a c).2.2.2 with z | z
      · exact .inr (.inl z)
      · exact .inr (.inr z)
    · rw [if_neg c] at q
      exact R.fnew a q
  · by_cases c : j = i
    · subst c
      have hi : j < S.length := by
        rcases List.getElem?_eq_some_iff.mp e with ⟨q, _⟩
        exact q
      rw [List.getElem?_set_self hi] at e'
      cases e'
    · rw [List.getElem?_set_ne (Ne.symm c)] at e'
      rw [upF_ne c]; exact R.slf j C fs e'
/-- a slot is set to an own thing -/
theorem SR.put (R : SR G En σ H F S fps hd) {i : Nat} {ot : OT} {v : V} {fp : List Addr} (hO : ot.isO = false) (hi : i < σ.length) (r : RepO G En.ha F H ot v fp) (nd : fp.Nodup)
    (dj : ∀ j a, j ≠ i → a ∈ fp → a ∉ fps j) (ow : ∀ a ∈ fp, F a = none ∧ H a ≠ none ∧ NoH En.ha a ∧ (En.H0 a = none ∨ a ∈ En.own0)) : SR G En (σ.set i (some v)) H F (S.set i (some ot)) (upF fps i fp) hd where
  len := by rw [List.length_set, List.length_set]; exact R.len
  slot := fun j o' e' => by
    by_cases c : j = i
    · subst c
      rw [List.getElem?_set_self (by rw [R.len]; exact hi)] at e'
      cases e'
      exact ⟨v, List.getElem?_set_self hi, by rw [upF_same]; exact r⟩
    · rw [List.getElem?_set_ne (Ne.symm c)] at e'
      obtain ⟨v', g1, g3⟩ := R.slot j o' e'
      exact ⟨v', by rw [List.getElem?_set_ne (Ne.symm c)]; exact g1, by rw [upF_ne c]; exact g3⟩
  nd := fun j => by
    by_cases c : j = i
    · rw [c, upF_same]; exact nd
    · rw [upF_ne c]; exact R.nd j
  dj := fun j k a hjk m => by
    by_cases c : j = i
    · rw [c, upF_same] at m
      have d : k ≠ i := fun z => hjk (c.trans z.symm)
      rw [upF_ne d]; exact dj k a d m
    · rw [upF_ne c] at m
      by_cases d : k = i
      · rw [d, upF_same]; exact fun m2 => dj j a c m2 m
      · rw [upF_ne d]; exact R.dj j k a hjk m
  own := fun j a m => by
    by_cases c : j = i
    · rw [c, upF_same] at m; exact ow a m
    · rw [upF_ne c] at m; exact R.own j a m
  sub := R.sub
  sub0 := R.sub0
  fnew := R.fnew
  kp := R.kp
  hand := R.hand
  tbE := R.tbE
  slf := fun j C fs e' => by
    by_cases c : j = i
    · subst c
      rw [List.getElem?_set_self (by rw [R.len]; exact hi)] at e'
      cases e'
      cases hO
    · rw [List.getElem?_set_ne (Ne.symm c)] at e'
      rw [upF_ne c]; exact R.slf j C fs e'
/-- a slot is forgotten -/
theorem SR.drop (R : SR G En σ H F S fps hd) (i : Nat) : SR G En σ H F (S.set i none) (upF fps i []) hd where
  len := by rw [List.length_set]; exact R.len
  slot := fun j o' e' => by
    by_cases c : j = i
    · subst c
      by_cases hi : j < S.length
      · rw [List.getElem?_set_self hi] at e'; cases e'
      · rw [List.getElem?_eq_none (by simpa using hi)] at e'; cases e'
    · rw [List.getElem?_set_ne (Ne.symm c)] at e'
      rw [upF_ne c]; exact R.slot j o' e'
  nd := fun j => by
    by_cases c : j = i
    · rw [c, upF_same]; exact List.nodup_nil
    · rw [upF_ne c]; exact R.nd j
  dj := fun j k a hjk m => by
    by_cases c : j = i
    · rw [c, upF_same] at m; cases m
    · rw [upF_ne c] at m
      by_cases d : k = i
      · rw [d, upF_same]; simp
      · rw [upF_ne d]; exact R.dj j k a hjk m
  own := fun j a m => by
    by_cases c : j = i
    · rw [c, upF_same] at m; cases m
    · rw [upF_ne c] at m; exact R.own j a m
  sub := R.sub
  sub0 := R.sub0
  fnew := R.fnew
  kp := R.kp
  hand := R.hand
  tbE := R.tbE
  slf := fun j C fs e' => by
    by_cases c : j = i
    · subst c
      by_cases hi : j < S.length
      · rw [List.getElem?_set_self hi] at e'; cases e'
      · rw [List.getElem?_eq_none (by simpa using hi)] at e'; cases e'
    · rw [List.getElem?_set_ne (Ne.symm c)] at e'
      rw [upF_ne c]; exact R.slf j C fs e'
end
end TL
namespace TL
open PySem PySem.Spec PyProof.Rows L2

inductive Out (α : Type) where
  | ok (a : α)
  | ex (C : Str) (fs : List (Str × T))
abbrev Res (α : Type) := Option (Out α × Slots × Hd)
abbrev M (α : Type) := Slots → Hd → Res α
namespace M
def ret {α : Type} (a : α) : M α := fun S hd => some (.ok a, S, hd)
def bind {α β : Type} (m : M α) (k : α → M β) : M β := fun S hd => match m S hd with
  | none => none
  | some (.ok a, S', hd') => k a S' hd'
  | some (.ex C fs, S', hd') => some (.ex C fs, S', hd')
def lift {α : Type} (o : Option α) : M α := fun S hd => match o with
  | none => none
  | some a => some (.ok a, S, hd)
def map {α β : Type} (f : α → β) (m : M α) : M β := M.bind m fun a => M.ret (f a)
def stuck {α : Type} : M α := fun _ _ => none
end M

/-- an exception of the class C, its fields -/
def ExAt (G : Gd) (ha : HA) (F H : Hp) (fs : List (Str × T)) (d : Option Addr) : Prop := ∃ a us, d = some a ∧ H a = some (.xd us) ∧ F a = none ∧ RepF G ha F fs us

/-- how a result of evaluation is told in V's: footprints of the slots, frozen heap, heap, the result, its telling -/
abbrev RR (α β : Type) := (Nat → List Addr) → Hp → Hp → α → β → Prop

section
variable (G : Gd) (En : Ent) (W : WX)
def Post {α β : Type} (R : RR α β) (σ : L2.St) (F : Hp) (r : Res α) (Q : β → Hp → Prop) : Prop := match r with
  | none => False
  | some (.ok a, S', hd') => ∀ b H' F' fps', SR G En σ H' F' S' fps' hd' → Same F F' → R fps' F' H' a b → Q b H'
  | some (.ex C fs, S', hd') => ∀ d H' F' fps', SR G En σ H' F' S' fps' hd' → Same F F' → ExAt G En.ha F' H' fs d → W (.ref (G.ca C)) d σ H'
def tQ {α β : Type} (R : RR α β) (m : M α) : L2.St → Hp → (β → Hp → Prop) → Prop := fun σ H Q => ∃ F S fps hd, SR G En σ H F S fps hd ∧ Post G En W R σ F (m S hd) Q
end
/-- the reading of an evaluation: the entry is chosen by who asks -/
def tP (G : Gd) (W : WX) {α β : Type} (R : Ent → RR α β) (m : M α) : L2.St → Hp → (β → Hp → Prop) → Prop := fun σ H Q => ∃ En, tQ G En W (R En) m σ H Q
section
variable {G : Gd} {En : Ent} {W : WX} {σ : L2.St} {H F : Hp}
theorem Post.mono {α β : Type} {R : RR α β} {F F' : Hp} {r : Res α} {Q Q' : β → Hp → Prop} (s : Same F F') (h : Post G En W R σ F r Q) (q : ∀ b H, Q b H → Q' b H) : Post G En W R σ F' r Q' := by
  rcases r with _ | ⟨o, S, hd⟩
  · exact h
  · cases o with
    | ok a => exact fun b H' F2 fps' sr e rr => q _ _ (h b H' F2 fps' sr (s.trans e) rr)
    | ex C fs => exact fun d H' F2 fps' sr e rr => h d H' F2 fps' sr (s.trans e) rr
theorem tQ.mono {α β : Type} {R : RR α β} {m : M α} {Q Q' : β → Hp → Prop} (h : tQ G En W R m σ H Q) (q : ∀ b H, Q b H → Q' b H) : tQ G En W R m σ H Q' := by
  obtain ⟨F, S, fps, hd, sr, p⟩ := h
  exact ⟨F, S, fps, hd, sr, p.mono (Same.refl _) q⟩
/-- what stands between the parts of an evaluation -/
def Mid {α β γ δ : Type} (G : Gd) (En : Ent) (W : WX) (σ : L2.St) (R1 : RR α β) (R2 : RR γ δ) (F0 : Hp) (k : α → M γ) (Q : δ → Hp → Prop) (b : β) (H1 : Hp) : Prop :=
  ∃ a F1 S1 fps1 hd1, SR G En σ H1 F1 S1 fps1 hd1 ∧ Same F0 F1 ∧ R1 fps1 F1 H1 a b ∧ Post G En W R2 σ F1 (k a S1 hd1) Q
theorem Post.bind {α β γ δ : Type} {R1 : RR α β} {R2 : RR γ δ} {m : M α} {k : α → M γ} {S : Slots} {hd : Hd} {Q : δ → Hp → Prop} (h : Post G En W R2 σ F (M.bind m k S hd) Q) :
    Post G En W R1 σ F (m S hd) (Mid G En W σ R1 R2 F k Q) := by
  unfold M.bind at h
  rcases e : m S hd with _ | ⟨o, S1, hd1⟩
  · rw [e] at h; exact h
  · rw [e] at h
    cases o with
    | ok a => exact fun b H' F' fps' sr s rr => ⟨a, F', S1, fps', hd1, sr, s, rr, h.mono s fun _ _ q => q⟩
    | ex C fs => exact h
theorem tP.mono {α β : Type} {R : Ent → RR α β} {m : M α} {Q Q' : β → Hp → Prop} (h : tP G W R m σ H Q) (q : ∀ b H, Q b H → Q' b H) : tP G W R m σ H Q' := h.imp fun _ h => h.mono q
theorem tQ.bind {α β γ δ : Type} {R1 : RR α β} {R2 : RR γ δ} {m : M α} {k : α → M γ} {Q : δ → Hp → Prop} (h : tQ G En W R2 (M.bind m k) σ H Q) :
    ∃ F0, tQ G En W R1 m σ H (Mid G En W σ R1 R2 F0 k Q) := by
  obtain ⟨F, S, fps, hd, sr, p⟩ := h
  exact ⟨F, F, S, fps, hd, sr, p.bind⟩
/-- a value that is told -/
theorem Post.ok {α β : Type} {R : RR α β} {a : α} {S : Slots} {hd : Hd} {Q : β → Hp → Prop} {b : β} {H' F' : Hp} {fps' : Nat → List Addr} (h : Post G En W R σ F (some (.ok a, S, hd)) Q) (sr : SR G En σ H' F' S fps' hd) (s : Same F F') (r : R fps' F' H' a b) : Q b H' := h b H' F' fps' sr s r
/-- a lifted operation -/
theorem Post.lift {α β : Type} {R : RR α β} {o : Option α} {S : Slots} {hd : Hd} {Q : β → Hp → Prop} (h : Post G En W R σ F (M.lift o S hd) Q) : ∃ a, o = some a ∧ Post G En W R σ F (some (.ok a, S, hd)) Q := by
  cases o with
  | none => exact h.elim
  | some a => exact ⟨a, rfl, h⟩
end

/-! ### judgements -/
/-- a frozen tree; an own thing; a truth; frozen trees; a tree that is only borrowed (own or frozen) -/
def RE (G : Gd) (En : Ent) : RR T V := fun _ F _ t v => Rep G En.ha F t v
def RO (G : Gd) (En : Ent) : RR OT V := fun fps F H ot v => ∃ fp, RepO G En.ha F H ot v fp ∧ fp.Nodup ∧ (∀ j a, a ∈ fp → a ∉ fps j) ∧ ∀ a ∈ fp, F a = none ∧ H a ≠ none ∧ NoH En.ha a ∧ (En.H0 a = none ∨ a ∈ En.own0)
def RT (_ : Ent) : RR Bool Bool := fun _ _ _ a b => b = a
def RL (G : Gd) (En : Ent) : RR (List T) (List V) := fun _ F _ ts vs => Reps G En.ha F ts vs
def RB (G : Gd) (En : Ent) : RR T V := fun _ F H t v => RepB G En.ha F H t v
section
variable (G : Gd) (X : Cx) (W : WX)
structure Cxt : Prop where
  hK : X.K = G.K
  calm : X.calm = true
  nd : X.N.Nodup
  tk : Takes X W
def JE (e : Expr) (m : M T) : Prop := PE X e (tP G W (RE G) m)
def JO (e : Expr) (m : M OT) : Prop := PE X e (tP G W (RO G) m)
def JT (e : Expr) (m : M Bool) : Prop := PT X e (tP G W RT m)
def JW (e : Expr) (m : M Bool) : Prop := PW X e (tP G W RT m)
def JB (e : Expr) (m : M T) : Prop := PE X e (tP G W (RB G) m)
def JL (es : List Expr) (m : M (List T)) : Prop := PA X es (tP G W (RL G) m)
end
section
variable {G : Gd} {X : Cx} {W : WX}
theorem PE.imp {e : Expr} {t t' : TE} (h : PE X e t) (k : ∀ σ H Q, t' σ H Q → t σ H Q) : PE X e t' := ⟨fun pins s σ H Q I q => h.run pins s σ H Q I (k σ H Q q)⟩
theorem PT.imp {e : Expr} {t t' : TT} (h : PT X e t) (k : ∀ σ H Q, t' σ H Q → t σ H Q) : PT X e t' := ⟨fun pins s σ H Q I q => h.run pins s σ H Q I (k σ H Q q)⟩
theorem PW.imp {e : Expr} {t t' : TT} (h : PW X e t) (k : ∀ σ H Q, t' σ H Q → t σ H Q) : PW X e t' := ⟨fun wh pins s σ H Q I q => h.run wh pins s σ H Q I (k σ H Q q)⟩
theorem PA.imp {es : List Expr} {t t' : TA} (h : PA X es t) (k : ∀ σ H Q, t' σ H Q → t σ H Q) : PA X es t' := ⟨fun pos pins s σ H Q I q => h.run pos pins s σ H Q I (k σ H Q q)⟩
theorem PS.imp {st : Stmt} {t t' : TS} (h : PS X st t) (k : ∀ D σ H, t' D σ H → t D σ H) : PS X st t' := ⟨fun pins s σ H D I q => h.run pins s σ H D I (k D σ H q)⟩
theorem PSs.imp {st : List Stmt} {t t' : TS} (h : PSs X st t) (k : ∀ D σ H, t' D σ H → t D σ H) : PSs X st t' := ⟨fun pins s σ H D I q => h.run pins s σ H D I (k D σ H q)⟩

/-- own things may be frozen on the way -/
theorem JO.je {e : Expr} {m : M OT} (h : JO G X W e m) : JE G X W e (M.map OT.fz m) := PE.imp h fun σ H Q q => by
  obtain ⟨En, q⟩ := q
  obtain ⟨F0, q⟩ := q.bind (R1 := RO G En)
  refine ⟨En, q.mono fun v H1 ⟨ot, F1, S1, fps1, hd1, sr, s, ⟨fp, r, nd, dj, ow⟩, p⟩ => ?_⟩
  have n : ∀ a ∈ fp, F1 a = none := fun a m => (ow a m).1
  have sF := frz_same (F := F1) (H := H1) n
  refine Post.ok p (F' := TL.frz F1 H1 fp) (fps' := fps1) ?_ sF (RepO.fz ot v fp n r)
  exact { len := sr.len, slot := fun i o e => by
            obtain ⟨v', h1, h2⟩ := sr.slot i o e
            exact ⟨v', h1, RepO.mono sF o v' _ (fun _ _ _ q => q) h2⟩,
          nd := sr.nd, dj := sr.dj, own := fun i a m => by
            obtain ⟨g1, g2, g3, g4⟩ := sr.own i a m
            exact ⟨by unfold TL.frz; rw [if_neg fun c => dj i a c m]; exact g1, g2, g3, g4⟩,
          sub := frz_sub sr.sub, sub0 := sr.sub0.trans sF, fnew := fun a q => by
            unfold TL.frz at q
            by_cases c : a ∈ fp
            · rcases (ow a c).2.2.2 with z | z
              · exact .inr (.inl z)
              · exact .inr (.inr z)
            · rw [if_neg c] at q
              exact sr.fnew a q,
          kp := sr.kp, hand := HandAt.frz sr.hand (fun a m => (ow a m).2.2.1) (RepO.nt ot v fp r), slf := sr.slf, tbE := sr.tbE }
theorem RO.ofE {En : Ent} {fps : Nat → List Addr} {F H : Hp} {t : T} {v : V} (h : Rep G En.ha F t v) : RO G En fps F H (.v t) v := ⟨[], by simp only [RepO]; exact ⟨trivial, h⟩, List.nodup_nil, fun _ _ m => absurd m List.not_mem_nil, fun _ m => absurd m List.not_mem_nil⟩
theorem JE.jo {e : Expr} {m : M T} (h : JE G X W e m) : JO G X W e (M.map OT.v m) := PE.imp h fun σ H Q q => by
  obtain ⟨En, q⟩ := q
  obtain ⟨F0, q⟩ := q.bind (R1 := RE G En)
  exact ⟨En, q.mono fun v H1 ⟨t, F1, S1, fps1, hd1, sr, s, r, p⟩ => p.ok sr (Same.refl _) (RO.ofE r)⟩

/-! ### names, constants -/
def nmV (i : Nat) : M T := fun S hd => match S[i]? with
  | some (some ot) => some (.ok ot.fz, S.set i (some (.v ot.fz)), hd)
  | _ => none
/-- a local name: what it holds is frozen -/
theorem je_nm {i : Nat} {x : Str} {pos : Pos} (h : PE X (.Name x pos) (tVar i)) : JE G X W (.Name x pos) (nmV i) := PE.imp h fun σ H Q q => by
  obtain ⟨En, F, S, fps, hd, sr, p⟩ := q
  unfold nmV at p
  cases e : S[i]? with
  | none => rw [e] at p; exact p.elim
  | some o =>
    cases o with
    | none => rw [e] at p; exact p.elim
    | some ot =>
      rw [e] at p
      obtain ⟨F', s, sr', v, hv, r⟩ := sr.frz e
      exact ⟨v, hv, p.ok sr' s r⟩
/-- a local name as an own thing: it is moved out of the slot (what is frozen stays) -/
def nmO (i : Nat) : M OT := fun S hd => match S[i]? with
  | some (some (.v t)) => some (.ok (.v t), S, hd)
  | some (some ot) => some (.ok ot, S.set i none, hd)
  | _ => none
theorem jo_nm {i : Nat} {x : Str} {pos : Pos} (h : PE X (.Name x pos) (tVar i)) : JO G X W (.Name x pos) (nmO i) := PE.imp h fun σ H Q q => by
  obtain ⟨En, F, S, fps, hd, sr, p⟩ := q
  unfold nmO at p
  split at p
  · rename_i t e
    obtain ⟨v, hv, r⟩ := sr.slot i _ e
    simp only [RepO] at r
    exact ⟨v, hv, p.ok sr (Same.refl _) ⟨[], by simp only [RepO]; exact ⟨trivial, r.2⟩, List.nodup_nil, fun _ _ m => absurd m List.not_mem_nil, fun _ m => absurd m List.not_mem_nil⟩⟩
  · rename_i ot _ e
    obtain ⟨v, hv, r⟩ := sr.slot i ot e
    refine ⟨v, hv, p.ok (sr.drop i) (Same.refl _) ⟨fps i, r, sr.nd i, fun j a m => ?_, fun a m => sr.own i a m⟩⟩
    by_cases c : j = i
    · rw [c, upF_same]; simp
    · rw [upF_ne c]; exact sr.dj i j a (Ne.symm c) m
  · exact p.elim
theorem je_cst {e : Expr} {v : V} {t : T} (h : PE X e (tC v)) (r : ∀ ha F, Rep G ha F t v) : JE G X W e (M.ret t) := PE.imp h fun σ H Q q => by
  obtain ⟨En, F, S, fps, hd, sr, p⟩ := q
  exact p.ok sr (Same.refl _) (r En.ha F)
theorem je_int {i : Int} {j : Nat} {pos : Pos} : JE G X W (.Constant (.int i) j pos) (M.ret (.int i)) := je_cst pe_int fun _ F => by simp only [Rep]
theorem je_bl {b : Bool} {j : Nat} {pos : Pos} : JE G X W (.Constant (.bool b) j pos) (M.ret (.bl b)) := je_cst pe_bl fun _ F => by simp only [Rep]
theorem je_non {j : Nat} {pos : Pos} : JE G X W (.Constant .none j pos) (M.ret .non) := je_cst pe_non fun _ F => by simp only [Rep]
theorem je_str {s : Str} {j : Nat} {pos : Pos} : JE G X W (.Constant (.str s) j pos) (M.ret (.str s)) := je_cst pe_str fun _ F => by simp only [Rep]

/-! ### argument lists, displays -/
def mCons (m : M T) (r : M (List T)) : M (List T) := M.bind m fun x => M.bind r fun xs => M.ret (x :: xs)
theorem jl_nil : JL G X W [] (M.ret []) := PA.imp pa_nil fun σ H Q q => by
  obtain ⟨En, F, S, fps, hd, sr, p⟩ := q
  exact p.ok sr (Same.refl _) (by simp only [RL, Reps])
theorem jl_cons {e : Expr} {es : List Expr} {m : M T} {r : M (List T)} (ha : JE G X W e m) (hr : JL G X W es r) (hs : starEach (e :: es) X.env = (false, eval e X.env) :: starEach es X.env) : JL G X W (e :: es) (mCons m r) :=
  PA.imp (pa_cons ha hr hs) fun σ H Q q => by
    obtain ⟨En, q⟩ := q
    obtain ⟨F0, q⟩ := q.bind (R1 := RE G En)
    refine ⟨En, q.mono fun v H1 ⟨t, F1, S1, fps1, hd1, sr, s, rt, p⟩ => ?_⟩
    refine ⟨En, F1, S1, fps1, hd1, sr, (Post.bind (R1 := RL G En) p).mono (Same.refl _) fun vs H2 ⟨ts, F2, S2, fps2, hd2, sr2, s2, r2, p2⟩ => ?_⟩
    refine p2.ok sr2 (Same.refl _) ?_
    simp only [RL, Reps]
    exact ⟨v, vs, rfl, Rep.mono s2 t v rt, r2⟩
theorem Reps.length {ha : HA} {F : Hp} : ∀ {ts : List T} {vs : List V}, Reps G ha F ts vs → ts.length = vs.length
  | [], vs, h => by simp only [Reps] at h; rw [h]; rfl
  | t :: ts, vs, h => by
    simp only [Reps] at h
    obtain ⟨u, r, e, _, k⟩ := h
    rw [e, List.length_cons, List.length_cons, Reps.length k]
def mTup (m : M (List T)) : M T := M.bind m fun ts => M.lift (if ts.length ≤ 1000 then some (.tup ts) else none)
theorem je_tup {es : List Expr} {x1 : Nat} {pos : Pos} {m : M (List T)} (h : JL G X W es m) : JE G X W (.Tuple es x1 pos) (mTup m) :=
  PE.imp (pe_tup h) fun σ H Q q => by
    obtain ⟨En, q⟩ := q
    obtain ⟨F0, q⟩ := q.bind (R1 := RL G En)
    refine ⟨En, q.mono fun vs H1 ⟨ts, F1, S1, fps1, hd1, sr, s, r, p⟩ => ?_⟩
    obtain ⟨t, e, p⟩ := p.lift
    have hlen := Reps.length r
    split at e
    · cases e
      refine ⟨by rw [sizeLine_eq]; omega, fun a hp => ?_⟩
      have g := Grow.laid (o := .tup vs) sr.sub sr.hand hp
      refine p.ok (sr.grow g) g.sF ?_
      simp only [RE, Rep]
      exact ⟨a, vs, rfl, .of upd_same, Reps.mono g.sF _ vs r⟩
    · cases e
/-- a fresh own list -/
theorem RO.fresh {En : Ent} {fps : Nat → List Addr} {σ : L2.St} {H F : Hp} {S : Slots} {hd : Hd} {xs : List T} {vs : List V} {a : Addr} (sr : SR G En σ H F S fps hd) (hp : H a = none) (r : Reps G En.ha F xs vs) :
    SR G En σ (upd H a (.lst vs)) F S fps hd ∧ RO G En fps F (upd H a (.lst vs)) (.f xs) (.ref a) := by
  have k : ∀ b o, H b = some o → upd H a (.lst vs) b = some o := fun b o e => by rw [upd_ne (fun z => by rw [z, hp] at e; cases e)]; exact e
  have fa : F a = none := by
    cases e : F a with
    | none => rfl
    | some o => rw [sr.sub a o e] at hp; cases hp
  refine ⟨{ len := sr.len, slot := fun i o e => by
              obtain ⟨v', h1, h2⟩ := sr.slot i o e
              exact ⟨v', h1, RepO.mono (Same.refl _) o v' _ (fun b _ o q => k b o q) h2⟩,
            nd := sr.nd, dj := sr.dj, own := fun i b m => by
              obtain ⟨g1, g2, g3, g4⟩ := sr.own i b m
              refine ⟨g1, ?_, g3, g4⟩
              cases e : H b with
              | none => exact absurd e g2
              | some o => rw [k b o e]; simp,
            sub := fun b o e => k b o (sr.sub b o e), sub0 := sr.sub0, fnew := sr.fnew, kp := fun b o e h1 h2 => k b o (sr.kp b o e h1 h2),
            hand := sr.hand.mono (Same.refl _) (fun _ _ e => e) k fun _ q => .inl q, slf := sr.slf, tbE := sr.tbE }, [a], ?_, by simp, ?_, ?_⟩
  · simp only [RepO]
    exact ⟨a, vs, rfl, upd_same, rfl, r⟩
  · intro j b m1 m2
    obtain rfl : b = a := by simpa using m1
    exact (sr.own j b m2).2.1 hp
  · intro b m1
    obtain rfl : b = a := by simpa using m1
    exact ⟨fa, by rw [upd_same]; simp, sr.hand.noH hp, sr.back hp⟩
def mLst (m : M (List T)) : M OT := M.bind m fun ts => M.lift (if ts.length ≤ 1000 then some (.f ts) else none)
theorem jo_lst {es : List Expr} {pos : Pos} {m : M (List T)} (h : JL G X W es m) : JO G X W (.List es pos) (mLst m) :=
  PE.imp (pe_lst h) fun σ H Q q => by
    obtain ⟨En, q⟩ := q
    obtain ⟨F0, q⟩ := q.bind (R1 := RL G En)
    refine ⟨En, q.mono fun vs H1 ⟨ts, F1, S1, fps1, hd1, sr, s, r, p⟩ => ?_⟩
    obtain ⟨t, e, p⟩ := p.lift
    have hlen := Reps.length r
    split at e
    · cases e
      refine ⟨by rw [sizeLine_eq]; omega, fun a hp => ?_⟩
      obtain ⟨sr', ro⟩ := RO.fresh sr hp r
      exact p.ok sr' (Same.refl _) ro
    · cases e

/-! ### tests -/
/-- a value that is a bool, as a test -/
def toB : T → Option Bool
  | .bl b => some b
  | _ => none
def mTest (m : M T) : M Bool := M.bind m fun t => M.lift (toB t)
theorem jt_val {e : Expr} {m : M T} (h : JE G X W e m) (he : ∀ whole, isTrue e X.env whole = (do let v ← whole; standAt e.pos; holding [v] (truthy v))) : JT G X W e (mTest m) :=
  PT.imp (pt_val h he) fun σ H Q q => by
    obtain ⟨En, q⟩ := q
    obtain ⟨F0, q⟩ := q.bind (R1 := RE G En)
    refine ⟨En, q.mono fun v H1 ⟨t, F1, S1, fps1, hd1, sr, s, rt, p⟩ => ?_⟩
    obtain ⟨u, e, p⟩ := p.lift
    cases t <;> simp only [toB] at e <;> try cases e
    simp only [RE, Rep] at rt
    exact ⟨_, rt, p.ok sr (Same.refl _) rfl⟩
def mNot (m : M Bool) : M Bool := M.map not m
theorem jt_not {a : Expr} {m : M Bool} {pos : Pos} (h : JT G X W a m) : JT G X W (.UnaryOp .Not a pos) (mNot m) := PT.imp (pt_not h) fun σ H Q q => by
  obtain ⟨En, q⟩ := q
  obtain ⟨F0, q⟩ := q.bind (R1 := RT En)
  exact ⟨En, q.mono fun b H1 ⟨c, F1, S1, fps1, hd1, sr, s, rt, p⟩ => by
    cases rt
    exact p.ok sr (Same.refl _) rfl⟩
def mIf {α : Type} (c : M Bool) (a b : M α) : M α := M.bind c fun x => if x = true then a else b
def mAnd (a b : M Bool) : M Bool := mIf a b (M.ret false)
def mOr (a b : M Bool) : M Bool := mIf a (M.ret true) b
theorem mIf_step {c : M Bool} {α β : Type} {R : Ent → RR α β} {a b : M α} {σ : L2.St} {H : Hp} {Q : β → Hp → Prop} (q : tP G W R (mIf c a b) σ H Q) :
    tP G W RT c σ H fun x H1 => if x = true then tP G W R a σ H1 Q else tP G W R b σ H1 Q := by
  obtain ⟨En, q⟩ := q
  obtain ⟨F0, q⟩ := q.bind (R1 := RT En)
  refine ⟨En, q.mono fun x H1 ⟨y, F1, S1, fps1, hd1, sr, s, rt, p⟩ => ?_⟩
  have e : x = y := rt
  subst e
  cases x with
  | true => exact ⟨En, F1, S1, fps1, hd1, sr, p⟩
  | false => exact ⟨En, F1, S1, fps1, hd1, sr, p⟩
theorem mRet_step {α β : Type} {R : Ent → RR α β} {a : α} {b : β} {σ : L2.St} {H : Hp} {Q : β → Hp → Prop} (q : tP G W R (M.ret a) σ H Q) (r : ∀ En fps F H, R En fps F H a b) : Q b H := by
  obtain ⟨En, F, S, fps, hd, sr, p⟩ := q
  exact p.ok sr (Same.refl _) (r _ _ _ _)
theorem jw_and {a b : Expr} {rest : List Expr} {pos : Pos} {ma mb : M Bool} (ha : JT G X W a ma) (hb : JW G X W (.BoolOp .And (b :: rest) pos) mb) : JW G X W (.BoolOp .And (a :: b :: rest) pos) (mAnd ma mb) :=
  PW.imp (pw_and ha hb) fun σ H Q q => (mIf_step q).mono fun x H1 z => by
    cases x with
    | true => exact z
    | false => exact mRet_step z fun _ _ _ _ => rfl
theorem jw_and1 {a : Expr} {pos : Pos} {ma : M Bool} (ha : JT G X W a ma) : JW G X W (.BoolOp .And [a] pos) ma := pw_and1 ha
theorem jw_or {a b : Expr} {rest : List Expr} {pos : Pos} {ma mb : M Bool} (ha : JT G X W a ma) (hb : JW G X W (.BoolOp .Or (b :: rest) pos) mb) : JW G X W (.BoolOp .Or (a :: b :: rest) pos) (mOr ma mb) :=
  PW.imp (pw_or ha hb) fun σ H Q q => (mIf_step q).mono fun x H1 z => by
    cases x with
    | true => exact mRet_step z fun _ _ _ _ => rfl
    | false => exact z
theorem jw_or1 {a : Expr} {pos : Pos} {ma : M Bool} (ha : JT G X W a ma) : JW G X W (.BoolOp .Or [a] pos) ma := pw_or1 ha
theorem jw_t {e : Expr} {m : M Bool} (h : JW G X W e m) : JT G X W e m := PW.pt h
theorem je_if {c a b : Expr} {pos : Pos} {mc : M Bool} {ma mb : M T} (hc : JT G X W c mc) (ha : JE G X W a ma) (hb : JE G X W b mb) : JE G X W (.IfExp c a b pos) (mIf mc ma mb) :=
  PE.imp (pe_ifExp hc ha hb) fun σ H Q q => mIf_step q
theorem jo_if {c a b : Expr} {pos : Pos} {mc : M Bool} {ma mb : M OT} (hc : JT G X W c mc) (ha : JO G X W a ma) (hb : JO G X W b mb) : JO G X W (.IfExp c a b pos) (mIf mc ma mb) :=
  PE.imp (pe_ifExp hc ha hb) fun σ H Q q => mIf_step q
end
end TL
namespace TL
open PySem PySem.Spec PyProof.Rows L2
section
variable {G : Gd} {X : Cx} {W : WX}
theorem JE.jb {e : Expr} {m : M T} (h : JE G X W e m) : JB G X W e m := PE.imp h fun σ H Q q => by
  obtain ⟨En, F, S, fps, hd, sr, p⟩ := q
  refine ⟨En, F, S, fps, hd, sr, ?_⟩
  rcases e : m S hd with _ | ⟨o, S1, hd1⟩ <;> rw [e] at p
  · exact p
  · cases o with
    | ok a => exact fun b H' F' fps' sr' s r => p b H' F' fps' sr' s (Rep.b sr'.sub r)
    | ex C fs => exact p
/-- a name looked at, its slot left as it is -/
def peek (i : Nat) : M T := fun S hd => match S[i]? with
  | some (some (.v t)) => some (.ok t, S, hd)
  | some (some (.f xs)) => some (.ok (.lst xs), S, hd)
  | some (some (.o C fs)) => some (.ok (.ins C fs), S, hd)
  | _ => none
theorem peek_ok {En : Ent} {i : Nat} {σ : L2.St} {H F : Hp} {S : Slots} {fps : Nat → List Addr} {hd : Hd} {β : Type} {R : RR T β} {Q : β → Hp → Prop} (sr : SR G En σ H F S fps hd) (p : Post G En W R σ F (peek i S hd) Q) :
    ∃ t v, σ[i]? = some (some v) ∧ RepB G En.ha F H t v ∧ peek i S hd = some (.ok t, S, hd) := by
  unfold peek at p ⊢
  split at p
  · rename_i t e
    obtain ⟨v, hv, r⟩ := sr.slot i _ e
    simp only [RepO] at r
    exact ⟨t, v, hv, Rep.b sr.sub r.2, rfl⟩
  · rename_i xs e
    obtain ⟨v, hv, r⟩ := sr.slot i _ e
    simp only [RepO] at r
    obtain ⟨a, us, e1, e2, _, r⟩ := r
    exact ⟨.lst xs, v, hv, ⟨a, us, e1, e2, r⟩, rfl⟩
  · rename_i C fs e
    obtain ⟨v, hv, r⟩ := sr.slot i _ e
    simp only [RepO] at r
    obtain ⟨a, dx, us, e1, e2, _, r⟩ := r
    exact ⟨.ins C fs, v, hv, ⟨a, dx, us, e1, e2, r⟩, rfl⟩
  · exact p.elim
theorem jb_nm {i : Nat} {x : Str} {pos : Pos} (h : PE X (.Name x pos) (tVar i)) : JB G X W (.Name x pos) (peek i) := PE.imp h fun σ H Q q => by
  obtain ⟨En, F, S, fps, hd, sr, p⟩ := q
  obtain ⟨t, v, hv, r, e⟩ := peek_ok sr p
  rw [e] at p
  exact ⟨v, hv, p.ok sr (Same.refl _) r⟩
/-- a name is looked at, the rest follows -/
theorem peek_step {En : Ent} {i : Nat} {α β : Type} {R : RR α β} {k : T → M α} {σ : L2.St} {H F : Hp} {S : Slots} {fps : Nat → List Addr} {hd : Hd} {Q : β → Hp → Prop} (sr : SR G En σ H F S fps hd) (p : Post G En W R σ F (M.bind (peek i) k S hd) Q) :
    ∃ t v, σ[i]? = some (some v) ∧ RepB G En.ha F H t v ∧ Post G En W R σ F (k t S hd) Q := by
  obtain ⟨t, v, hv, rt, e⟩ := peek_ok (R := RB G En) sr (Post.bind p)
  unfold M.bind at p
  rw [e] at p
  exact ⟨t, v, hv, rt, p⟩

/-! ### operations by values -/
/-- what an operation hands on: something that stands or is new and frozen; a new list -/
structure Conts (G : Gd) (ha : HA) (H F : Hp) (hd : Hd) (Q : VK) (ot : OT) : Prop where
  fz : ∀ t v H' F', ot = .v t → Grow ha H F H' F' hd → Rep G ha F' t v → Q v H'
  nw : ∀ xs vs p, ot = .f xs → H p = none → Reps G ha F xs vs → Q (.ref p) (upd H p (.lst vs))
def OpS (G : Gd) (op : T → T → Option OT) (r : R2) : Prop := ∀ (ha : HA) (t1 t2 : T) (t : OT) (H F : Hp) (v1 v2 : V) (hd : Hd) (Q : VK), op t1 t2 = some t → Same F H → HandAt H F ha hd → RepB G ha F H t1 v1 → RepB G ha F H t2 v2 → Conts G ha H F hd Q t → r v1 v2 H Q
def UnS (G : Gd) (op : T → Option OT) (r : V → Hp → VK → Prop) : Prop := ∀ (ha : HA) (t1 : T) (t : OT) (H F : Hp) (v1 : V) (hd : Hd) (Q : VK), op t1 = some t → Same F H → HandAt H F ha hd → RepB G ha F H t1 v1 → Conts G ha H F hd Q t → r v1 H Q
/-- a call's, by its arguments' trees (frozen) -/
def CaS (G : Gd) (op : List T → Option OT) (r : List V → Hp → VK → Prop) : Prop := ∀ (ha : HA) (ts : List T) (t : OT) (H F : Hp) (vs : List V) (hd : Hd) (Q : VK), op ts = some t → Same F H → HandAt H F ha hd → Reps G ha F ts vs → Conts G ha H F hd Q t → r vs H Q
/-- a test's -/
def OpSB (G : Gd) (op : T → T → Option Bool) (r : R2) : Prop := ∀ (ha : HA) (t1 t2 : T) (b : Bool) (H F : Hp) (v1 v2 : V) (Q : VK), op t1 t2 = some b → Same F H → RepB G ha F H t1 v1 → RepB G ha F H t2 v2 → Q (.bl b) H → r v1 v2 H Q
theorem Conts.of {En : Ent} {σ : L2.St} {H F : Hp} {S : Slots} {fps : Nat → List Addr} {hd : Hd} {Q : VK} {ot : OT} (sr : SR G En σ H F S fps hd) (p : Post G En W (RO G En) σ F (some (.ok ot, S, hd)) Q) : Conts G En.ha H F hd Q ot where
  fz := fun t v H' F' e g r => by
    subst e
    exact p.ok (sr.grow g) g.sF (RO.ofE r)
  nw := fun xs vs a e hp r => by
    subst e
    obtain ⟨sr', ro⟩ := RO.fresh sr hp r
    exact p.ok sr' (Same.refl _) ro
def mOp (op : T → T → Option OT) (a b : M T) : M OT := M.bind a fun x => M.bind b fun y => M.lift (op x y)
/-- the left side a name: read again behind the right side -/
def mOpN (op : T → T → Option OT) (i : Nat) (b : M T) : M OT := M.bind (peek i) fun _ => M.bind b fun y => M.bind (peek i) fun x => M.lift (op x y)
theorem OpS.step {op : T → T → Option OT} {r : R2} (sp : OpS G op r) {ma mb : M T} {σ : L2.St} {H : Hp} {Q : VK} (q : tP G W (RO G) (mOp op ma mb) σ H Q) :
    tP G W (RE G) ma σ H fun x H1 => tP G W (RB G) mb σ H1 fun y H2 => r x y H2 Q := by
  obtain ⟨En, q⟩ := q
  obtain ⟨F0, q⟩ := q.bind (R1 := RE G En)
  refine ⟨En, q.mono fun v H1 ⟨t, F1, S1, fps1, hd1, sr, s, rt, p⟩ => ?_⟩
  refine ⟨En, F1, S1, fps1, hd1, sr, (Post.bind (R1 := RB G En) p).mono (Same.refl _) fun v2 H2 ⟨t2, F2, S2, fps2, hd2, sr2, s2, r2, p2⟩ => ?_⟩
  obtain ⟨u, e, p2⟩ := p2.lift
  exact sp En.ha t t2 u H2 F2 v v2 hd2 Q e sr2.sub sr2.hand (Rep.b sr2.sub (Rep.mono s2 t v rt)) r2 (Conts.of sr2 p2)
theorem OpS.stepN {op : T → T → Option OT} {r : R2} (sp : OpS G op r) {i : Nat} {mb : M T} {σ : L2.St} {H : Hp} {Q : VK} (q : tP G W (RO G) (mOpN op i mb) σ H Q) :
    tVar i σ H fun x H1 => tP G W (RB G) mb σ H1 fun y H2 => r x y H2 Q := by
  obtain ⟨En, F, S, fps, hd, sr, p⟩ := q
  obtain ⟨_, v, hv, _, p⟩ := peek_step sr p
  refine ⟨v, hv, En, F, S, fps, hd, sr, (Post.bind (R1 := RB G En) p).mono (Same.refl _) fun v2 H2 ⟨t2, F2, S2, fps2, hd2, sr2, s2, r2, p⟩ => ?_⟩
  obtain ⟨t, v', hv', rt, p⟩ := peek_step sr2 p
  rw [hv] at hv'
  cases hv'
  obtain ⟨u, e2, p⟩ := p.lift
  exact sp En.ha t t2 u H2 F2 v v2 hd2 Q e2 sr2.sub sr2.hand rt r2 (Conts.of sr2 p)
def mUn (op : T → Option OT) (a : M T) : M OT := M.bind a fun x => M.lift (op x)
theorem UnS.step {op : T → Option OT} {r : V → Hp → VK → Prop} (sp : UnS G op r) {ma : M T} {σ : L2.St} {H : Hp} {Q : VK} (q : tP G W (RO G) (mUn op ma) σ H Q) : tP G W (RB G) ma σ H fun x H1 => r x H1 Q := by
  obtain ⟨En, q⟩ := q
  obtain ⟨F0, q⟩ := q.bind (R1 := RB G En)
  refine ⟨En, q.mono fun v H1 ⟨t, F1, S1, fps1, hd1, sr, s, rt, p⟩ => ?_⟩
  obtain ⟨u, e, p⟩ := p.lift
  exact sp En.ha t u H1 F1 v hd1 Q e sr.sub sr.hand rt (Conts.of sr p)
def mCa (op : List T → Option OT) (a : M (List T)) : M OT := M.bind a fun x => M.lift (op x)
theorem CaS.step {op : List T → Option OT} {r : List V → Hp → VK → Prop} (sp : CaS G op r) {ma : M (List T)} {σ : L2.St} {H : Hp} {Q : VK} (q : tP G W (RO G) (mCa op ma) σ H Q) : tP G W (RL G) ma σ H fun x H1 => r x H1 Q := by
  obtain ⟨En, q⟩ := q
  obtain ⟨F0, q⟩ := q.bind (R1 := RL G En)
  refine ⟨En, q.mono fun v H1 ⟨t, F1, S1, fps1, hd1, sr, s, rt, p⟩ => ?_⟩
  obtain ⟨u, e, p⟩ := p.lift
  exact sp En.ha t u H1 F1 v hd1 Q e sr.sub sr.hand rt (Conts.of sr p)
section
variable {a b : Expr} {x : Str} {pos np : Pos} {ma mb : M T} {i : Nat}
theorem jo_bin {op : Operator} {f : T → T → Option OT} {r : R2} (ho : OpR X (binaryOp op) r) (sp : OpS G f r) (ha : JE G X W a ma) (hb : JB G X W b mb) : JO G X W (.BinOp a op b pos) (mOp f ma mb) := PE.imp (pe_op ho ha hb) fun σ H Q q => sp.step q
theorem jo_binN {op : Operator} {f : T → T → Option OT} {r : R2} (ho : OpR X (binaryOp op) r) (sp : OpS G f r) (ha : PE X (.Name x np) (tVar i)) (hb : JB G X W b mb) : JO G X W (.BinOp (.Name x np) op b pos) (mOpN f i mb) := PE.imp (pe_op ho ha hb) fun σ H Q q => sp.stepN q
theorem jo_un {op : UnaryOp} {f : T → Option OT} {r : V → Hp → VK → Prop} (ho : UnR X (unaryOp op) r) (sp : UnS G f r) (ha : JB G X W a ma) : JO G X W (.UnaryOp op a pos) (mUn f ma) := PE.imp (pe_un ho ha) fun σ H Q q => sp.step q
theorem jo_ix {f : T → T → Option OT} {r : R2} (ho : IxR X r) (hs : PlainIx b) (sp : OpS G f r) (ha : JE G X W a ma) (hb : JB G X W b mb) : JO G X W (.Subscript a b pos) (mOp f ma mb) := PE.imp (pe_ix ho ha hb hs) fun σ H Q q => sp.step q
theorem jo_ixN {f : T → T → Option OT} {r : R2} (ho : IxR X r) (hs : PlainIx b) (sp : OpS G f r) (ha : PE X (.Name x np) (tVar i)) (hb : JB G X W b mb) : JO G X W (.Subscript (.Name x np) b pos) (mOpN f i mb) := PE.imp (pe_ix ho ha hb hs) fun σ H Q q => sp.stepN q
end
/-! tests -/
def mCmp (op : T → T → Option Bool) (a b : M T) : M Bool := M.bind a fun x => M.bind b fun y => M.lift (op x y)
def mCmpN (op : T → T → Option Bool) (i : Nat) (b : M T) : M Bool := M.bind (peek i) fun _ => M.bind b fun y => M.bind (peek i) fun x => M.lift (op x y)
theorem OpSB.step {op : T → T → Option Bool} {r : R2} (sp : OpSB G op r) {ma mb : M T} {σ : L2.St} {H : Hp} {Q : Bool → Hp → Prop} (q : tP G W RT (mCmp op ma mb) σ H Q) :
    tP G W (RE G) ma σ H fun x H1 => tP G W (RB G) mb σ H1 fun y H2 => r x y H2 fun z H3 => ∃ k, z = .bl k ∧ Q k H3 := by
  obtain ⟨En, q⟩ := q
  obtain ⟨F0, q⟩ := q.bind (R1 := RE G En)
  refine ⟨En, q.mono fun v H1 ⟨t, F1, S1, fps1, hd1, sr, s, rt, p⟩ => ?_⟩
  refine ⟨En, F1, S1, fps1, hd1, sr, (Post.bind (R1 := RB G En) p).mono (Same.refl _) fun v2 H2 ⟨t2, F2, S2, fps2, hd2, sr2, s2, r2, p2⟩ => ?_⟩
  obtain ⟨u, e, p2⟩ := p2.lift
  exact sp En.ha t t2 u H2 F2 v v2 _ e sr2.sub (Rep.b sr2.sub (Rep.mono s2 t v rt)) r2 ⟨u, rfl, p2.ok sr2 (Same.refl _) rfl⟩
theorem OpSB.stepN {op : T → T → Option Bool} {r : R2} (sp : OpSB G op r) {i : Nat} {mb : M T} {σ : L2.St} {H : Hp} {Q : Bool → Hp → Prop} (q : tP G W RT (mCmpN op i mb) σ H Q) :
    tVar i σ H fun x H1 => tP G W (RB G) mb σ H1 fun y H2 => r x y H2 fun z H3 => ∃ k, z = .bl k ∧ Q k H3 := by
  obtain ⟨En, F, S, fps, hd, sr, p⟩ := q
  obtain ⟨_, v, hv, _, p⟩ := peek_step sr p
  refine ⟨v, hv, En, F, S, fps, hd, sr, (Post.bind (R1 := RB G En) p).mono (Same.refl _) fun v2 H2 ⟨t2, F2, S2, fps2, hd2, sr2, s2, r2, p⟩ => ?_⟩
  obtain ⟨t, v', hv', rt, p⟩ := peek_step sr2 p
  rw [hv] at hv'
  cases hv'
  obtain ⟨u, e2, p⟩ := p.lift
  exact sp En.ha t t2 u H2 F2 v v2 _ e2 sr2.sub rt r2 ⟨u, rfl, p.ok sr2 (Same.refl _) rfl⟩
section
variable {a b : Expr} {x : Str} {pos np : Pos} {ma mb : M T} {i : Nat} {op : CmpOp} {f : T → T → Option Bool} {r : R2}
theorem jt_cmp (ho : OpR X (compareOp op) r) (sp : OpSB G f r) (ha : JE G X W a ma) (hb : JB G X W b mb) (hm : behindInMarks op b = false) : JT G X W (.Compare a [op] [b] pos) (mCmp f ma mb) := PT.imp (pt_cmpR ho ha hb hm) fun σ H Q q => sp.step q
theorem jt_cmpN (ho : OpR X (compareOp op) r) (sp : OpSB G f r) (ha : PE X (.Name x np) (tVar i)) (hb : JB G X W b mb) (hm : behindInMarks op b = false) : JT G X W (.Compare (.Name x np) [op] [b] pos) (mCmpN f i mb) := PT.imp (pt_cmpR ho ha hb hm) fun σ H Q q => sp.stepN q
/-- a truth as a tree -/
theorem RT_E {m : M Bool} {σ : L2.St} {H : Hp} {Q : VK} (q : tP G W (RE G) (M.map T.bl m) σ H Q) : tP G W RT m σ H fun k H1 => Q (.bl k) H1 := by
  obtain ⟨En, q⟩ := q
  obtain ⟨F0, q⟩ := q.bind (R1 := RT En)
  exact ⟨En, q.mono fun b H1 ⟨c, F1, S1, fps1, hd1, sr, s, rt, p⟩ => by
    cases rt
    exact p.ok sr (Same.refl _) (by simp only [RE, Rep])⟩
def Mono2 (r : R2) : Prop := ∀ x y H Q Q', (∀ v H', Q v H' → Q' v H') → r x y H Q → r x y H Q'
theorem je_cmp (ho : OpR X (compareOp op) r) (sp : OpSB G f r) (mono : Mono2 r) (ha : JE G X W a ma) (hb : JB G X W b mb) (hm : behindInMarks op b = false) :
    JE G X W (.Compare a [op] [b] pos) (M.map T.bl (mCmp f ma mb)) := PE.imp (pe_cmpR ho ha hb hm) fun σ H Q q =>
  (sp.step (RT_E q)).mono fun v H1 z => z.mono fun v2 H2 z => mono _ _ _ _ _ (fun w H3 ⟨k, e, y⟩ => by rw [e]; exact y) z
theorem je_cmpN (ho : OpR X (compareOp op) r) (sp : OpSB G f r) (mono : Mono2 r) (ha : PE X (.Name x np) (tVar i)) (hb : JB G X W b mb) (hm : behindInMarks op b = false) :
    JE G X W (.Compare (.Name x np) [op] [b] pos) (M.map T.bl (mCmpN f i mb)) := PE.imp (pe_cmpR ho ha hb hm) fun σ H Q q => by
  obtain ⟨v, hv, z⟩ := sp.stepN (RT_E q)
  exact ⟨v, hv, z.mono fun v2 H2 z => mono _ _ _ _ _ (fun w H3 ⟨k, e, y⟩ => by rw [e]; exact y) z⟩
end
end
end TL
namespace TL
open PySem PySem.Spec PyProof.Rows L2

/-! ### data: equality, in -/
mutual
def toD : T → Option PyData
  | .non => some .none
  | .bl b => some (.bool b)
  | .int i => some (.int i)
  | .str s => if PyData.strOk s = true then some (.str s) else none
  | .tup xs => (toDs xs).map .tuple
  | .lst xs => (toDs xs).map .list
  | .ins _ _ => none
  | .rng _ _ => none
  | .hand => none
  | .scr _ => none
def toDs : List T → Option (List PyData)
  | [] => some []
  | x :: xs => match toD x, toDs xs with
    | some d, some ds => some (d :: ds)
    | _, _ => none
end
section
variable {G : Gd} {ha : HA} {H F : Hp}
mutual
theorem Rep.dp : ∀ (t : T) (v : V) (d : PyData), toD t = some d → Rep G ha F t v → Same F H → Dp G.K H v d
  | .non, v, d, e, h, s => by simp only [toD] at e; cases e; simp only [Rep] at h; subst h; exact .non
  | .bl b, v, d, e, h, s => by simp only [toD] at e; cases e; simp only [Rep] at h; subst h; exact .bl b
  | .int i, v, d, e, h, s => by simp only [toD] at e; cases e; simp only [Rep] at h; subst h; exact .int i
  | .str z, v, d, e, h, s => by
    simp only [toD] at e
    split at e
    · cases e; simp only [Rep] at h; subst h; exact .str z
    · cases e
  | .tup xs, v, d, e, h, s => by
    simp only [toD, Option.map_eq_some_iff] at e
    obtain ⟨ds, e, rfl⟩ := e
    simp only [Rep] at h
    obtain ⟨a, us, rfl, q, r⟩ := h
    exact .tup (sqT_mono s q) (Reps.dp xs us ds e r s)
  | .lst xs, v, d, e, h, s => by
    simp only [toD, Option.map_eq_some_iff] at e
    obtain ⟨ds, e, rfl⟩ := e
    simp only [Rep] at h
    obtain ⟨a, us, rfl, q, r⟩ := h
    exact .lst (.of (s _ _ q)) (Reps.dp xs us ds e r s)
  | .ins _ _, v, d, e, h, s => by simp only [toD] at e; cases e
  | .rng _ _, v, d, e, h, s => by simp only [toD] at e; cases e
  | .hand, v, d, e, h, s => by simp only [toD] at e; cases e
  | .scr _, v, d, e, h, s => by simp only [toD] at e; cases e
theorem Reps.dp : ∀ (ts : List T) (vs : List V) (ds : List PyData), toDs ts = some ds → Reps G ha F ts vs → Same F H → DpAll G.K H vs ds
  | [], vs, ds, e, h, s => by simp only [toDs] at e; cases e; simp only [Reps] at h; subst h; exact .nil
  | t :: ts, vs, ds, e, h, s => by
    simp only [toDs] at e
    split at e
    · rename_i d ds' e1 e2
      cases e
      simp only [Reps] at h
      obtain ⟨u, r, rfl, h1, h2⟩ := h
      exact .cons (Rep.dp t u d e1 h1 s) (Reps.dp ts r ds' e2 h2 s)
    · cases e
end
theorem RepB.dp {t : T} {v : V} {d : PyData} (e : toD t = some d) (h : RepB G ha F H t v) (s : Same F H) : Dp G.K H v d := by
  cases t with
  | lst xs =>
    simp only [toD, Option.map_eq_some_iff] at e
    obtain ⟨ds, e, rfl⟩ := e
    obtain ⟨a, us, rfl, q, r⟩ := h
    exact .lst (.of q) (Reps.dp xs us ds e r s)
  | ins C fs => simp only [toD] at e; cases e
  | _ => exact Rep.dp (G := G) (ha := ha) (F := F) _ v d e h s
end
mutual
theorem toD_lay : ∀ (t : T) (d : PyData), toD t = some d → d.canLay0 = true
  | .non, d, e => by simp only [toD] at e; cases e; simp only [PyData.canLay0]
  | .bl b, d, e => by simp only [toD] at e; cases e; simp only [PyData.canLay0]
  | .int i, d, e => by simp only [toD] at e; cases e; simp only [PyData.canLay0]
  | .str z, d, e => by
    simp only [toD] at e
    split at e
    · rename_i h
      cases e
      simp only [PyData.canLay0]
      exact h
    · cases e
  | .tup xs, d, e => by
    simp only [toD, Option.map_eq_some_iff] at e
    obtain ⟨ds, e, rfl⟩ := e
    simp only [PyData.canLay0]
    exact toDs_lay xs ds e
  | .lst xs, d, e => by
    simp only [toD, Option.map_eq_some_iff] at e
    obtain ⟨ds, e, rfl⟩ := e
    simp only [PyData.canLay0]
    exact toDs_lay xs ds e
  | .ins _ _, d, e => by simp only [toD] at e; cases e
  | .rng _ _, d, e => by simp only [toD] at e; cases e
  | .hand, d, e => by simp only [toD] at e; cases e
  | .scr _, d, e => by simp only [toD] at e; cases e
theorem toDs_lay : ∀ (ts : List T) (ds : List PyData), toDs ts = some ds → PyData.canLayAll0 ds = true
  | [], ds, e => by simp only [toDs] at e; cases e; simp only [PyData.canLayAll0]
  | t :: ts, ds, e => by
    simp only [toDs] at e
    split at e
    · rename_i d ds' e1 e2
      cases e
      simp only [PyData.canLayAll0, Bool.and_eq_true]
      exact ⟨toD_lay t d e1, toDs_lay ts ds' e2⟩
    · cases e
end
/-- the data of a tree, not too deep -/
def toDk (t : T) : Option PyData := match toD t with
  | some d => if d.depth ≤ 64 then some d else none
  | none => none
theorem toDk_ok {t : T} {d : PyData} (e : toDk t = some d) : toD t = some d ∧ SeqAt.shaped d = true := by
  unfold toDk at e
  split at e
  · rename_i d' h
    split at e
    · rename_i hd
      cases e
      refine ⟨h, ?_⟩
      unfold SeqAt.shaped
      rw [toD_lay t d h, decide_eq_true hd]
      rfl
    · cases e
  · cases e
def eqT (a b : T) : Option Bool := match toDk a, toDk b with
  | some d, some e => some (PyData.eqv d e)
  | _, _ => none
def neT (a b : T) : Option Bool := (eqT a b).map not
/-- x in xs: the items are asked first -/
def inT (x c : T) : Option Bool := match toDk x, toDk c with
  | some d, some (.list ds) => some (ds.any fun z => PyData.eqv z d)
  | some d, some (.tuple ds) => some (ds.any fun z => PyData.eqv z d)
  | _, _ => none
def notInT (x c : T) : Option Bool := (inT x c).map not
section
variable {G : Gd} {X : Cx}
theorem sp_eq : OpSB G eqT (rEqD G.K) := fun ha t1 t2 b H F v1 v2 Q e s r1 r2 q => by
  unfold eqT at e
  split at e
  · rename_i d1 d2 e1 e2
    cases e
    obtain ⟨e1, s1⟩ := toDk_ok e1
    obtain ⟨e2, s2⟩ := toDk_ok e2
    exact ⟨d1, d2, RepB.dp e1 r1 s, RepB.dp e2 r2 s, s1, s2, q⟩
  · cases e
theorem sp_ne : OpSB G neT (rNeD G.K) := fun ha t1 t2 b H F v1 v2 Q e s r1 r2 q => by
  unfold neT eqT at e
  split at e
  · rename_i d1 d2 e1 e2
    cases e
    obtain ⟨e1, s1⟩ := toDk_ok e1
    obtain ⟨e2, s2⟩ := toDk_ok e2
    exact ⟨d1, d2, RepB.dp e1 r1 s, RepB.dp e2 r2 s, s1, s2, q⟩
  · cases e
def rInTD (K : PySem.W.Frag) : R2 := fun x y H Q => ∃ d ds, Dp K H x d ∧ Dp K H y (.tuple ds) ∧ SeqAt.shaped d = true ∧ SeqAt.shaped (.tuple ds) = true ∧ Q (.bl (ds.any fun z => PyData.eqv z d)) H
def rNotInTD (K : PySem.W.Frag) : R2 := fun x y H Q => ∃ d ds, Dp K H x d ∧ Dp K H y (.tuple ds) ∧ SeqAt.shaped d = true ∧ SeqAt.shaped (.tuple ds) = true ∧ Q (.bl (!ds.any fun z => PyData.eqv z d)) H
def rInA (K : PySem.W.Frag) : R2 := fun x y H Q => rInD K x y H Q ∨ rInTD K x y H Q
def rNotInA (K : PySem.W.Frag) : R2 := fun x y H Q => rNotInD K x y H Q ∨ rNotInTD K x y H Q
theorem op_inA (hu : X.A.units + 65 < cLine) : OpR X (compareOp .In) (rInA X.K) := (op_inD hu).or fun pins s σ H x y v u Q I rx ry h => by
  obtain ⟨d, ds, hd, he, sd, se, q⟩ := h
  obtain ⟨as, r1⟩ := Dp.reads I d x v hd rx
  obtain ⟨bs, r2⟩ := Dp.reads I (.tuple ds) y u he ry
  exact SeqAt.in_tuple_reads r2 r1 (SeqAt.canLay_of_shaped se) (SeqAt.canLay_of_shaped sd) (room_in_shaped sd hu) ⟨.bl _, H, I, rfl, q⟩
theorem op_notInA (hu : X.A.units + 65 < cLine) : OpR X (compareOp .NotIn) (rNotInA X.K) := (op_notInD hu).or fun pins s σ H x y v u Q I rx ry h => by
  obtain ⟨d, ds, hd, he, sd, se, q⟩ := h
  obtain ⟨as, r1⟩ := Dp.reads I d x v hd rx
  obtain ⟨bs, r2⟩ := Dp.reads I (.tuple ds) y u he ry
  exact SeqAt.notIn_tuple_reads r2 r1 (SeqAt.canLay_of_shaped se) (SeqAt.canLay_of_shaped sd) (room_in_shaped sd hu) ⟨.bl _, H, I, rfl, q⟩
theorem sp_in : OpSB G inT (rInA G.K) := fun ha t1 t2 b H F v1 v2 Q e s r1 r2 q => by
  unfold inT at e
  split at e
  · rename_i d ds e1 e2
    cases e
    obtain ⟨e1, s1⟩ := toDk_ok e1
    obtain ⟨e2, s2⟩ := toDk_ok e2
    exact .inl ⟨d, ds, RepB.dp e1 r1 s, RepB.dp e2 r2 s, s1, s2, q⟩
  · rename_i d ds e1 e2
    cases e
    obtain ⟨e1, s1⟩ := toDk_ok e1
    obtain ⟨e2, s2⟩ := toDk_ok e2
    exact .inr ⟨d, ds, RepB.dp e1 r1 s, RepB.dp e2 r2 s, s1, s2, q⟩
  · cases e
theorem sp_notIn : OpSB G notInT (rNotInA G.K) := fun ha t1 t2 b H F v1 v2 Q e s r1 r2 q => by
  unfold notInT inT at e
  split at e
  · rename_i d ds e1 e2
    cases e
    obtain ⟨e1, s1⟩ := toDk_ok e1
    obtain ⟨e2, s2⟩ := toDk_ok e2
    exact .inl ⟨d, ds, RepB.dp e1 r1 s, RepB.dp e2 r2 s, s1, s2, q⟩
  · rename_i d ds e1 e2
    cases e
    obtain ⟨e1, s1⟩ := toDk_ok e1
    obtain ⟨e2, s2⟩ := toDk_ok e2
    exact .inr ⟨d, ds, RepB.dp e1 r1 s, RepB.dp e2 r2 s, s1, s2, q⟩
  · cases e
/-! is None -/
def isNonB : T → Bool
  | .non => true
  | _ => false
def isNoneT (a b : T) : Option Bool := match b with
  | .non => some (isNonB a)
  | _ => none
def isNotNoneT (a b : T) : Option Bool := (isNoneT a b).map not
theorem RepB.non {ha : HA} {H F : Hp} {v : V} (h : RepB G ha F H .non v) : v = .non := by
  have h : Rep G ha F .non v := h
  simpa only [Rep] using h
theorem isNon_eq {ha : HA} {H F : Hp} {t : T} {v : V} (h : RepB G ha F H t v) : decide (v = .non) = isNonB t := by
  cases t with
  | lst xs =>
    obtain ⟨a, us, rfl, _, _⟩ := h
    exact decide_eq_false (fun z => by cases z)
  | non =>
    have e := RepB.non h
    subst e
    exact decide_eq_true rfl
  | bl b => have h : Rep G ha F (.bl b) v := h; simp only [Rep] at h; subst h; exact decide_eq_false (fun z => by cases z)
  | int b => have h : Rep G ha F (.int b) v := h; simp only [Rep] at h; subst h; exact decide_eq_false (fun z => by cases z)
  | str b => have h : Rep G ha F (.str b) v := h; simp only [Rep] at h; subst h; exact decide_eq_false (fun z => by cases z)
  | tup b => have h : Rep G ha F (.tup b) v := h; simp only [Rep] at h; obtain ⟨a, us, rfl, _⟩ := h; exact decide_eq_false (fun z => by cases z)
  | ins C fs => obtain ⟨a, dx, us, rfl, _⟩ := h; exact decide_eq_false (fun z => by cases z)
  | rng lo hi => have h : Rep G ha F (.rng lo hi) v := h; simp only [Rep] at h; obtain ⟨a, rfl, _⟩ := h; exact decide_eq_false (fun z => by cases z)
  | hand => have h : Rep G ha F .hand v := h; simp only [Rep] at h; obtain ⟨p, _, rfl⟩ := h; exact decide_eq_false (fun z => by cases z)
  | scr ns => have h : Rep G ha F (.scr ns) v := h; simp only [Rep] at h; obtain ⟨a, rfl, _⟩ := h; exact decide_eq_false (fun z => by cases z)
theorem sp_isNone : OpSB G isNoneT (fun x y H Q => y = .non ∧ Q (.bl (decide (x = .non))) H) := fun ha t1 t2 b H F v1 v2 Q e s r1 r2 q => by
  unfold isNoneT at e
  split at e
  · cases e
    exact ⟨RepB.non r2, by rw [isNon_eq r1]; exact q⟩
  · cases e
theorem sp_isNotNone : OpSB G isNotNoneT (fun x y H Q => y = .non ∧ Q (.bl (!decide (x = .non))) H) := fun ha t1 t2 b H F v1 v2 Q e s r1 r2 q => by
  unfold isNotNoneT isNoneT at e
  split at e
  · cases e
    exact ⟨RepB.non r2, by rw [isNon_eq r1]; exact q⟩
  · cases e
/-! numbers -/
theorem RepB.int {ha : HA} {H F : Hp} {i : Int} {v : V} (h : RepB G ha F H (.int i) v) : v = .int i := by
  have h : Rep G ha F (.int i) v := h
  simpa only [Rep] using h
theorem RepB.str {ha : HA} {H F : Hp} {i : Str} {v : V} (h : RepB G ha F H (.str i) v) : v = .str i := by
  have h : Rep G ha F (.str i) v := h
  simpa only [Rep] using h
theorem RepB.bl {ha : HA} {H F : Hp} {i : Bool} {v : V} (h : RepB G ha F H (.bl i) v) : v = .bl i := by
  have h : Rep G ha F (.bl i) v := h
  simpa only [Rep] using h
theorem RepB.tup {ha : HA} {H F : Hp} {xs : List T} {v : V} (h : RepB G ha F H (.tup xs) v) : ∃ a us, v = .ref a ∧ SqT G.K F a us ∧ Reps G ha F xs us := by
  have h : Rep G ha F (.tup xs) v := h
  simpa only [Rep] using h
def intB (f : Int → Int → Bool) (a b : T) : Option Bool := match a, b with
  | .int i, .int j => some (f i j)
  | _, _ => none
theorem sp_intB (f : Int → Int → Bool) : OpSB G (intB f) (rI0 fun i j => .bl (f i j)) := fun ha t1 t2 b H F v1 v2 Q e s r1 r2 q => by
  unfold intB at e
  split at e
  · cases e
    exact ⟨_, _, RepB.int r1, RepB.int r2, q⟩
  · cases e
/-- a value that is no new object -/
theorem Conts.here {ha : HA} {H F : Hp} {hd : Hd} {Q : VK} {t : T} {v : V} (c : Conts G ha H F hd Q (.v t)) (s : Same F H) (h : HandAt H F ha hd) (r : Rep G ha F t v) : Q v H := c.fz t v H F rfl (Grow.refl s h) r
/-- a new frozen object -/
theorem Conts.laid {ha : HA} {H F : Hp} {hd : Hd} {Q : VK} {t : T} {p : Addr} {o : HO} (c : Conts G ha H F hd Q (.v t)) (s : Same F H) (h : HandAt H F ha hd) (hp : H p = none) (r : Same F (upd F p o) → Rep G ha (upd F p o) t (.ref p)) (no : ∀ ps, o ≠ .tbl ps := by intro ps z; cases z) : Q (.ref p) (upd H p o) :=
  c.fz t _ _ _ rfl (Grow.laid s h hp no) (r (Grow.laid (o := o) s h hp no).sF)
def intI (C : Int → Int → Bool) (f : Int → Int → Int) (a b : T) : Option OT := match a, b with
  | .int i, .int j => if C i j = true then some (.v (.int (f i j))) else none
  | _, _ => none
theorem sp_intI {C : Int → Int → Bool} {C' : Int → Int → Prop} {f : Int → Int → Int} (hc : ∀ i j, C i j = true → C' i j) : OpS G (intI C f) (rI C' fun i j => .int (f i j)) := fun ha t1 t2 t H F v1 v2 hd Q e s h r1 r2 c => by
  unfold intI at e
  split at e
  · split at e
    · rename_i i j hC
      cases e
      exact ⟨_, _, RepB.int r1, RepB.int r2, hc _ _ hC, c.here s h (by simp only [Rep])⟩
    · cases e
  · cases e
end
end TL
namespace TL
open PySem PySem.Spec PyProof.Rows L2

inductive Fl where
  | next | brk | cont
  | ret (ot : OT)
  | ex (C : Str) (fs : List (Str × T))
abbrev Stm := Slots → Hd → Option (Fl × Slots × Hd)
section
variable (G : Gd) (W : WX)
def PostS (En : Ent) (F : Hp) (r : Option (Fl × Slots × Hd)) (D : Ends) : Prop := match r with
  | none => False
  | some (.next, S', hd') => ∀ σ' H' F' fps', SR G En σ' H' F' S' fps' hd' → Same F F' → D.nx σ' H'
  | some (.brk, S', hd') => ∀ σ' H' F' fps', SR G En σ' H' F' S' fps' hd' → Same F F' → D.bk σ' H'
  | some (.cont, S', hd') => ∀ σ' H' F' fps', SR G En σ' H' F' S' fps' hd' → Same F F' → D.ct σ' H'
  | some (.ret ot, S', hd') => ∀ v σ' H' F' fps', SR G En σ' H' F' S' fps' hd' → Same F F' → RO G En fps' F' H' ot v → D.rt v H'
  | some (.ex C fs, S', hd') => ∀ d σ' H' F' fps', SR G En σ' H' F' S' fps' hd' → Same F F' → ExAt G En.ha F' H' fs d → W (.ref (G.ca C)) d σ' H'
def tQS (En : Ent) (m : Stm) : TS := fun D σ H => ∃ F S fps hd, SR G En σ H F S fps hd ∧ PostS G W En F (m S hd) D
def tS (m : Stm) : TS := fun D σ H => ∃ En, tQS G W En m D σ H
end
def JS (G : Gd) (X : Cx) (W : WX) (st : Stmt) (m : Stm) : Prop := PS X st (tS G W m)
def JSs (G : Gd) (X : Cx) (W : WX) (st : List Stmt) (m : Stm) : Prop := PSs X st (tS G W m)
section
variable {G : Gd} {X : Cx} {W : WX}
theorem PostS.mono {En : Ent} {F F' : Hp} {r : Option (Fl × Slots × Hd)} {D : Ends} (s : Same F F') (h : PostS G W En F r D) : PostS G W En F' r D := by
  rcases r with _ | ⟨f, S, hd⟩
  · exact h
  · cases f with
    | next => exact fun σ' H' F2 fps' sr e => h σ' H' F2 fps' sr (s.trans e)
    | brk => exact fun σ' H' F2 fps' sr e => h σ' H' F2 fps' sr (s.trans e)
    | cont => exact fun σ' H' F2 fps' sr e => h σ' H' F2 fps' sr (s.trans e)
    | ret ot => exact fun v σ' H' F2 fps' sr e => h v σ' H' F2 fps' sr (s.trans e)
    | ex C fs => exact fun d σ' H' F2 fps' sr e => h d σ' H' F2 fps' sr (s.trans e)

/-! ### blocks -/
def sNext : Stm := fun S hd => some (.next, S, hd)
def sSeq (a b : Stm) : Stm := fun S hd => match a S hd with
  | some (.next, S', hd') => b S' hd'
  | r => r
theorem jss_nil : JSs G X W [] sNext := PSs.imp pss_nil fun D σ H q => by
  obtain ⟨En, F, S, fps, hd, sr, p⟩ := q
  exact p σ H F fps sr (Same.refl _)
theorem jss_cons {st : Stmt} {rest : List Stmt} {a b : Stm} (h1 : JS G X W st a) (h2 : JSs G X W rest b) : JSs G X W (st :: rest) (sSeq a b) := PSs.imp (pss_cons h1 h2) fun D σ H q => by
  obtain ⟨En, F, S, fps, hd, sr, p⟩ := q
  refine ⟨En, F, S, fps, hd, sr, ?_⟩
  unfold sSeq at p
  rcases e : a S hd with _ | ⟨f, S1, hd1⟩ <;> rw [e] at p
  · exact p
  · cases f with
    | next => exact fun σ' H' F' fps' sr' s => ⟨En, F', S1, fps', hd1, sr', PostS.mono s p⟩
    | brk => exact p
    | cont => exact p
    | ret ot => exact p
    | ex C fs => exact p
theorem js_pass {pos : Pos} : JS G X W (.Pass pos) sNext := PS.imp ps_pass fun D σ H q => by
  obtain ⟨En, F, S, fps, hd, sr, p⟩ := q
  exact p σ H F fps sr (Same.refl _)
def sCont : Stm := fun S hd => some (.cont, S, hd)
theorem js_continue {pos : Pos} : JS G X W (.Continue pos) sCont := PS.imp ps_continue fun D σ H q => by
  obtain ⟨En, F, S, fps, hd, sr, p⟩ := q
  exact p σ H F fps sr (Same.refl _)
/-- an evaluation, then what is done with it -/
def sBind {α : Type} (m : M α) (k : α → Stm) : Stm := fun S hd => match m S hd with
  | none => none
  | some (.ok a, S', hd') => k a S' hd'
  | some (.ex C fs, S', hd') => some (.ex C fs, S', hd')
theorem sBind_step {En : Ent} {α β : Type} {R : RR α β} {m : M α} {k : α → Stm} {D : Ends} {σ : L2.St} {H : Hp} (q : tQS G W En (sBind m k) D σ H) :
    ∃ F0, tQ G En W R m σ H fun b H1 => ∃ a F1 S1 fps1 hd1, SR G En σ H1 F1 S1 fps1 hd1 ∧ Same F0 F1 ∧ R fps1 F1 H1 a b ∧ PostS G W En F1 (k a S1 hd1) D := by
  obtain ⟨F, S, fps, hd, sr, p⟩ := q
  refine ⟨F, F, S, fps, hd, sr, ?_⟩
  unfold sBind at p
  rcases e : m S hd with _ | ⟨o, S1, hd1⟩ <;> rw [e] at p
  · exact p
  · cases o with
    | ok a => exact fun b H' F' fps' sr' s r => ⟨a, F', S1, fps', hd1, sr', s, r, p.mono s⟩
    | ex C fs => exact fun d H' F' fps' sr' s r => p d σ H' F' fps' sr' s r
def sDrop {α : Type} (m : M α) : Stm := sBind m fun _ => sNext
theorem js_expr {e : Expr} {m : M T} {pos : Pos} (h : JE G X W e m) (hs : swapsWith e none pos.line X.env = pure false) : JS G X W (.Expr e pos) (sDrop m) := PS.imp (ps_expr h hs) fun D σ H q => by
  obtain ⟨En, q⟩ := q
  obtain ⟨F0, q⟩ := sBind_step (R := RE G En) q
  exact ⟨En, q.mono fun v H1 ⟨t, F1, S1, fps1, hd1, sr, s, r, p⟩ => p σ H1 F1 fps1 sr (Same.refl _)⟩
def sRet (m : M OT) : Stm := sBind m fun ot S hd => some (.ret ot, S, hd)
theorem js_ret {e : Expr} {m : M OT} {pos : Pos} (h : JO G X W e m) : JS G X W (.Return (some e) pos) (sRet m) := PS.imp (ps_ret h) fun D σ H q => by
  obtain ⟨En, q⟩ := q
  obtain ⟨F0, q⟩ := sBind_step (R := RO G En) q
  exact ⟨En, q.mono fun v H1 ⟨t, F1, S1, fps1, hd1, sr, s, r, p⟩ => p v σ H1 F1 fps1 sr (Same.refl _) r⟩
def sRetN : Stm := fun S hd => some (.ret (.v .non), S, hd)
theorem js_retN {pos : Pos} : JS G X W (.Return none pos) sRetN := PS.imp ps_retN fun D σ H q => by
  obtain ⟨En, F, S, fps, hd, sr, p⟩ := q
  exact p .non σ H F fps sr (Same.refl _) (RO.ofE (by simp only [Rep]))
def sIf (c : M Bool) (a b : Stm) : Stm := sBind c fun x => if x = true then a else b
theorem js_if {c : Expr} {a b : List Stmt} {mc : M Bool} {ma mb : Stm} {pos : Pos} (hc : JT G X W c mc) (ha : JSs G X W a ma) (hb : JSs G X W b mb) : JS G X W (.If c a b pos) (sIf mc ma mb) := PS.imp (ps_if hc ha hb) fun D σ H q => by
  obtain ⟨En, q⟩ := q
  obtain ⟨F0, q⟩ := sBind_step (R := RT En) q
  refine ⟨En, q.mono fun x H1 ⟨y, F1, S1, fps1, hd1, sr, s, r, p⟩ => ?_⟩
  have e : x = y := r
  subst e
  cases x with
  | true => exact ⟨En, F1, S1, fps1, hd1, sr, p⟩
  | false => exact ⟨En, F1, S1, fps1, hd1, sr, p⟩

/-! ### stores into slots -/
def setS (i : Nat) (ot : OT) (S : Slots) : Option Slots := if i < S.length ∧ ot.isO = false then some (S.set i (some ot)) else none
theorem SR.set {En : Ent} {σ : L2.St} {H F : Hp} {S S' : Slots} {fps : Nat → List Addr} {hd : Hd} {i : Nat} {ot : OT} {v : V} (sr : SR G En σ H F S fps hd) (e : setS i ot S = some S') (r : RO G En fps F H ot v) : ∃ fps', SR G En (σ.set i (some v)) H F S' fps' hd := by
  unfold setS at e
  split at e
  · rename_i hi
    cases e
    obtain ⟨fp, r, nd, dj, ow⟩ := r
    exact ⟨_, sr.put hi.2 (by rw [← sr.len]; exact hi.1) r nd (fun j a _ m => dj j a m) ow⟩
  · cases e
def sPut (i : Nat) (m : M OT) : Stm := sBind m fun ot S hd => match setS i ot S with
  | some S' => some (.next, S', hd)
  | none => none
theorem js_asg {i : Nat} {x : Str} {e : Expr} {m : M OT} {p' pos : Pos} (h : ∀ te, PE X e te → PS X (.Assign [.Name x p'] e pos) (tAsg te (gName i))) (he : JO G X W e m) : JS G X W (.Assign [.Name x p'] e pos) (sPut i m) := PS.imp (h _ he) fun D σ H q => by
  obtain ⟨En, q⟩ := q
  obtain ⟨F0, q⟩ := sBind_step (R := RO G En) q
  refine ⟨En, q.mono fun v H1 ⟨ot, F1, S1, fps1, hd1, sr, s, r, p⟩ => ?_⟩
  split at p
  · rename_i S' e
    obtain ⟨fps', sr'⟩ := sr.set e r
    exact p _ H1 F1 fps' sr' (Same.refl _)
  · exact p.elim

/-! ### targets of loops and of unpacking -/
/-- a target: the tree is stored into slots -/
abbrev Tgt := T → Slots → Option Slots
/-- all slots but vs stand -/
def Sto (vs : List Nat) (σ σ' : L2.St) : Prop := σ'.length = σ.length ∧ ∀ i, i ∉ vs → σ'[i]? = σ[i]?
theorem Sto.refl (σ : L2.St) : Sto [] σ σ := ⟨rfl, fun _ _ => rfl⟩
theorem Sto.trans {vs ws : List Nat} {a b c : L2.St} (h : Sto vs a b) (k : Sto ws b c) : Sto (vs ++ ws) a c := ⟨k.1.trans h.1, fun i n => (k.2 i fun m => n (List.mem_append_right _ m)).trans (h.2 i fun m => n (List.mem_append_left _ m))⟩
def tG (G : Gd) (g : Tgt) (vs : List Nat) : TG := fun v σ H Q => ∃ En t F S fps hd S', SR G En σ H F S fps hd ∧ Rep G En.ha F t v ∧ g t S = some S' ∧ ∀ σ' fps', SR G En σ' H F S' fps' hd → Sto vs σ σ' → Q σ' H
def JG (G : Gd) (X : Cx) (tg : Expr) (g : Tgt) (vs : List Nat) : Prop := PG X tg (tG G g vs)
theorem PG.imp {tg : Expr} {t t' : TG} (h : PG X tg t) (k : ∀ v σ H Q, t' v σ H Q → t v σ H Q) : PG X tg t' := ⟨fun pins s σ H v u Q I r q => h.run pins s σ H v u Q I r (k v σ H Q q)⟩
def gNm (i : Nat) : Tgt := fun t S => setS i (.v t) S
theorem jg_name {i : Nat} {x : Str} {pos : Pos} (h : PG X (.Name x pos) (gName i)) : JG G X (.Name x pos) (gNm i) [i] := PG.imp h fun v σ H Q q => by
  obtain ⟨En, t, F, S, fps, hd, S', sr, r, e, k⟩ := q
  obtain ⟨fps', sr'⟩ := sr.set e (RO.ofE r)
  exact k _ fps' sr' ⟨List.length_set, fun j n => List.getElem?_set_ne (fun z => n (by rw [z]; exact List.mem_cons_self))⟩
abbrev Tgts := List T → Slots → Option Slots
def tGs (G : Gd) (g : Tgts) (is : List Nat) : TGs := fun vs σ H Q => ∃ En ts F S fps hd S', SR G En σ H F S fps hd ∧ Reps G En.ha F ts vs ∧ g ts S = some S' ∧ ∀ σ' fps', SR G En σ' H F S' fps' hd → Sto is σ σ' → Q σ' H
def JGs (G : Gd) (X : Cx) (tgs : List Expr) (g : Tgts) (is : List Nat) : Prop := PGs X tgs (tGs G g is)
theorem PGs.imp {tg : List Expr} {t t' : TGs} (h : PGs X tg t) (k : ∀ v σ H Q, t' v σ H Q → t v σ H Q) : PGs X tg t' := ⟨fun pins s σ H v u Q I r q => h.run pins s σ H v u Q I r (k v σ H Q q)⟩
def gsNil : Tgts := fun ts S => match ts with
  | [] => some S
  | _ => none
def gsCons (g : Tgt) (k : Tgts) : Tgts := fun ts S => match ts with
  | t :: ts => (g t S).bind (k ts)
  | [] => none
theorem jgs_nil : JGs G X [] gsNil [] := PGs.imp pgs_nil fun vs σ H Q q => by
  obtain ⟨En, ts, F, S, fps, hd, S', sr, r, e, k⟩ := q
  unfold gsNil at e
  split at e
  · cases e
    simp only [Reps] at r
    exact ⟨r, k σ fps sr (Sto.refl σ)⟩
  · cases e
theorem jgs_cons {e : Expr} {es : List Expr} {g : Tgt} {k : Tgts} {is js : List Nat} (h1 : JG G X e g is) (h2 : JGs G X es k js) (hs : (assignEach (e :: es) X.env).map (·.2) = assign e X.env :: (assignEach es X.env).map (·.2)) : JGs G X (e :: es) (gsCons g k) (is ++ js) := PGs.imp (pgs_cons h1 h2 hs) fun vs σ H Q q => by
  obtain ⟨En, ts, F, S, fps, hd, S', sr, r, e, z⟩ := q
  unfold gsCons at e
  split at e
  · rename_i t ts
    simp only [Reps] at r
    obtain ⟨u, rr, rfl, r1, r2⟩ := r
    cases e1 : g t S with
    | none => rw [e1] at e; cases e
    | some S1 =>
      rw [e1] at e
      exact ⟨u, rr, rfl, En, t, F, S, fps, hd, S1, sr, r1, e1, fun σ' fps' sr' st => ⟨En, ts, F, S1, fps', hd, S', sr', r2, e, fun σ2 fps2 sr2 st2 => z σ2 fps2 sr2 (st.trans st2)⟩⟩
  · cases e
def gTp (k : Tgts) (n : Nat) : Tgt := fun t S => match t with
  | .tup xs => if xs.length = n then k xs S else none
  | _ => none
theorem jg_tup {es : List Expr} {j n : Nat} {k : Tgts} {is : List Nat} {pos : Pos} (hK : X.K = G.K) (hc : X.calm = true) (h : JGs G X es k is) (hn : (assignEach es X.env).length = n) (hst : (assignEach es X.env).findIdx? (·.1) = none) : JG G X (.Tuple es j pos) (gTp k n) is := PG.imp (pg_tup hc h hn hst) fun v σ H Q q => by
  obtain ⟨En, t, F, S, fps, hd, S', sr, r, e, z⟩ := q
  unfold gTp at e
  split at e
  · rename_i xs
    split at e
    · rename_i hl
      simp only [Rep] at r
      obtain ⟨a, us, rfl, q, r⟩ := r
      exact ⟨a, us, rfl, by rw [hK]; exact sqT_mono sr.sub q, by rw [← Reps.length r]; exact hl, En, xs, F, S, fps, hd, S', sr, r, e, z⟩
    · cases e
  · cases e
/-- (a, b) = value -/
def sUnp (g : Tgt) (m : M T) : Stm := sBind m fun t S hd => match g t S with
  | some S' => some (.next, S', hd)
  | none => none
theorem js_unp {tg e : Expr} {g : Tgt} {m : M T} {is : List Nat} {pos : Pos} (he : JE G X W e m) (hg : JG G X tg g is) (hs : swapsWithSole [tg] e pos.line X.env = pure false) (hw : swappedStores [tg] e X.env = pure none) (h1 : (assignEach [tg] X.env).map (·.2) = [assign tg X.env]) :
    JS G X W (.Assign [tg] e pos) (sUnp g m) := PS.imp (ps_asg he hg hs hw h1) fun D σ H q => by
  obtain ⟨En, q⟩ := q
  obtain ⟨F0, q⟩ := sBind_step (R := RE G En) q
  refine ⟨En, q.mono fun v H1 ⟨t, F1, S1, fps1, hd1, sr, s, r, p⟩ => ?_⟩
  split at p
  · rename_i S' e
    exact ⟨En, t, F1, S1, fps1, hd1, S', sr, r, e, fun σ' fps' sr' _ => p σ' H1 F1 fps' sr' (Same.refl _)⟩
  · exact p.elim

/-! ### what is walked -/
/-- the iterator yields just these items -/
def ItOk (G : Gd) (ha : HA) (F0 : Hp) (J : It) (items : List T) : Prop := ∀ H F hd, Same F0 F → Same F H → HandAt H F ha hd → ∀ i,
  (items.length ≤ i → J.stop i H) ∧ ∀ t, items[i]? = some t → J.go i H ∧ ∀ x H', J.yld i H x H' → ∃ F', Grow ha H F H' F' hd ∧ Rep G ha F' t x
def RI (G : Gd) (En : Ent) : RR (List T) It := fun _ F _ items J => ItOk G En.ha F J items
def tI (G : Gd) (W : WX) (m : M (List T)) : TI := fun σ H R => tP G W (RI G) m σ H R
def JI (G : Gd) (X : Cx) (W : WX) (tg e : Expr) (m : M (List T)) : Prop := PI X tg e (tI G W m)
theorem PI.imp {tg e : Expr} {t t' : TI} (h : PI X tg e t) (k : ∀ σ H R, t' σ H R → t σ H R) : PI X tg e t' := ⟨fun pins s σ H R I q => h.run pins s σ H R I (k σ H R q)⟩
theorem Reps.get {ha : HA} {F : Hp} : ∀ {ts : List T} {vs : List V} {i : Nat} {t : T}, Reps G ha F ts vs → ts[i]? = some t → ∃ v, vs[i]? = some v ∧ Rep G ha F t v
  | [], _, _, _, _, e => by simp at e
  | t :: ts, vs, 0, t', h, e => by
    simp only [Reps] at h
    obtain ⟨u, r, rfl, h1, _⟩ := h
    simp at e
    subst e
    exact ⟨u, rfl, h1⟩
  | t :: ts, vs, i + 1, t', h, e => by
    simp only [Reps] at h
    obtain ⟨u, r, rfl, _, h2⟩ := h
    obtain ⟨v, e1, e2⟩ := Reps.get (i := i) (t := t') h2 (by simpa using e)
    exact ⟨v, by simpa using e1, e2⟩
/-- a list or a tuple, frozen -/
def itemsOf : T → Option (List T)
  | .lst xs => some xs
  | .tup xs => some xs
  | .scr ns => some (ns.map T.int)
  | _ => none
def iSq (K : PySem.W.Frag) (tl : TE) : TI := fun σ H R => tl σ H fun x H1 => ∃ a, x = .ref a ∧ (((∃ xs, SqL K H1 a xs) ∧ R (Itl K a) H1) ∨ ((∃ xs, SqT K H1 a xs) ∧ R (Itt K a) H1))
theorem pi_sq {tg l : Expr} {tl : TE} (hl : PE X l tl) : PI X tg l (iSq X.K tl) := by
  refine ⟨fun pins s σ H R I h => ?_⟩
  refine thn (hl.run pins s σ H _ I h) fun v s1 ⟨x, H1, I1, r1, q1⟩ => ?_
  obtain ⟨a, e, q⟩ := q1
  subst e
  cases r1
  rcases q with ⟨⟨xs, hq⟩, q⟩ | ⟨⟨xs, hq⟩, q⟩
  · obtain ⟨its, rv, p, hz⟩ := I1.list hq
    refine wpAny_pyIter_list p.isList ?_
    refine ⟨s1.heap.objs.size, [s1.heap.objs.size], _, _, H1, rfl, I1.kept (t' := s1.toks) fun b o e => Heap.get?_push_of_some _ e, turn_list a _, ⟨_, Heap.get?_push_size _ rfl, rfl, rfl⟩, fun b hb => ?_, q⟩
    have e : b = s1.heap.objs.size := by simpa using hb
    subst e
    exact I1.fpOk (Nat.le_refl _) (I1.hok.fresh (Nat.le_refl _))
  · obtain ⟨its, rv, p, hz⟩ := I1.tuple hq
    refine wpAny_pyIter_tuple (show s1.heap.IsTuple a its.toArray from p) ?_
    refine ⟨s1.heap.objs.size, [s1.heap.objs.size], _, _, H1, rfl, I1.kept (t' := s1.toks) fun b o e => Heap.get?_push_of_some _ e, turn_tuple a _, ⟨_, Heap.get?_push_size _ rfl, rfl, rfl⟩, fun b hb => ?_, q⟩
    have e : b = s1.heap.objs.size := by simpa using hb
    subst e
    exact I1.fpOk (Nat.le_refl _) (I1.hok.fresh (Nat.le_refl _))
theorem itOk_list {ha : HA} {F0 : Hp} {K : PySem.W.Frag} {a : Addr} {ts : List T} {us : List V} (h : SqL K F0 a us) (r : Reps G ha F0 ts us) : ItOk G ha F0 (Itl K a) ts := fun H F hd s1 s2 hh i => by
  have hq : SqL K H a us := sqL_mono (s1.trans s2) h
  refine ⟨fun hi => ⟨us, hq, by rw [← Reps.length r]; exact hi⟩, fun t e => ?_⟩
  obtain ⟨v, ev, rv⟩ := Reps.get r e
  exact ⟨⟨us, v, hq, ev⟩, fun x H' y => by
    obtain ⟨e1, e2⟩ := y
    subst e1
    have := e2 us hq
    rw [ev] at this
    cases this
    exact ⟨F, Grow.refl s2 hh, Rep.mono s1 t v rv⟩⟩
theorem itOk_tup {ha : HA} {F0 : Hp} {K : PySem.W.Frag} {a : Addr} {ts : List T} {us : List V} (h : SqT K F0 a us) (r : Reps G ha F0 ts us) : ItOk G ha F0 (Itt K a) ts := fun H F hd s1 s2 hh i => by
  have hq : SqT K H a us := sqT_mono (s1.trans s2) h
  refine ⟨fun hi => ⟨us, hq, by rw [← Reps.length r]; exact hi⟩, fun t e => ?_⟩
  obtain ⟨v, ev, rv⟩ := Reps.get r e
  exact ⟨⟨us, v, hq, ev⟩, fun x H' y => by
    obtain ⟨e1, e2⟩ := y
    subst e1
    have := e2 us hq
    rw [ev] at this
    cases this
    exact ⟨F, Grow.refl s2 hh, Rep.mono s1 t v rv⟩⟩
theorem ints_reps {ha : HA} {F : Hp} : ∀ (zs : List Int), Reps G ha F (zs.map T.int) (zs.map V.int)
  | [] => by simp only [List.map_nil, Reps]
  | z :: zs => by
    simp only [List.map_cons, Reps, Rep]
    exact ⟨.int z, zs.map V.int, rfl, rfl, ints_reps zs⟩
def mItems (m : M T) : M (List T) := M.bind m fun t => M.lift (itemsOf t)
theorem ji_sq {tg e : Expr} {m : M T} (hK : X.K = G.K) (h : JE G X W e m) : JI G X W tg e (mItems m) := PI.imp (pi_sq h) fun σ H R q => by
  obtain ⟨En, q⟩ := q
  obtain ⟨F0, q⟩ := q.bind (R1 := RE G En)
  refine ⟨En, q.mono fun v H1 ⟨t, F1, S1, fps1, hd1, sr, s, r, p⟩ => ?_⟩
  obtain ⟨ts, e, p⟩ := p.lift
  cases t <;> simp only [itemsOf] at e <;> cases e
  · simp only [RE, Rep] at r
    obtain ⟨a, us, rfl, q, r⟩ := r
    exact ⟨a, rfl, .inr ⟨⟨us, by rw [hK]; exact sqT_mono sr.sub q⟩, p.ok sr (Same.refl _) (itOk_tup (by rw [hK]; exact q) r)⟩⟩
  · simp only [RE, Rep] at r
    obtain ⟨a, us, rfl, q, r⟩ := r
    exact ⟨a, rfl, .inl ⟨⟨us, .of (sr.sub _ _ q)⟩, p.ok sr (Same.refl _) (itOk_list (.of q) r)⟩⟩
  · simp only [RE, Rep] at r
    obtain ⟨a, rfl, q⟩ := r
    exact ⟨a, rfl, .inl ⟨⟨_, by rw [hK]; exact sqL_mono sr.sub q⟩, p.ok sr (Same.refl _) (itOk_list (by rw [hK]; exact q) (ints_reps _))⟩⟩
/-! range -/
def rngL (lo hi : Int) : List T := (List.range (hi - lo).toNat).map fun (k : Nat) => T.int (lo + k)
theorem itOk_rng {ha : HA} {F0 : Hp} {lo hi : Int} : ItOk G ha F0 (Itr lo (hi - lo).toNat) (rngL lo hi) := fun H F hd s1 s2 hh i => by
  refine ⟨fun hl => ?_, fun t e => ?_⟩
  · simp only [rngL, List.length_map, List.length_range] at hl
    exact hl
  · simp only [rngL, List.getElem?_map, Option.map_eq_some_iff] at e
    obtain ⟨k, e, rfl⟩ := e
    obtain ⟨hk, ek⟩ := List.getElem?_eq_some_iff.mp e
    rw [List.length_range] at hk
    rw [List.getElem_range] at ek
    subst ek
    exact ⟨hk, fun x H' y => by
      obtain ⟨e1, e2⟩ := y
      subst e1 e2
      exact ⟨F, Grow.refl s2 hh, by simp only [Rep]⟩⟩
def rngOk (i : Int) : Bool := decide (-1000000000 ≤ i ∧ i ≤ 1000000000)
def rng1 : List T → Option (List T)
  | [.int j] => if rngOk j = true then some (rngL 0 j) else none
  | _ => none
def rng2 : List T → Option (List T)
  | [.int i, .int j] => if rngOk i = true ∧ rngOk j = true then some (rngL i j) else none
  | _ => none
def mRng (f : List T → Option (List T)) (m : M (List T)) : M (List T) := M.bind m fun ts => M.lift (f ts)
theorem Reps.one {ha : HA} {F : Hp} {t : T} {vs : List V} (h : Reps G ha F [t] vs) : ∃ v, vs = [v] ∧ Rep G ha F t v := by
  simp only [Reps] at h
  obtain ⟨u, r, rfl, h1, h2⟩ := h
  exact ⟨u, by rw [h2], h1⟩
theorem Reps.two {ha : HA} {F : Hp} {t t' : T} {vs : List V} (h : Reps G ha F [t, t'] vs) : ∃ v v', vs = [v, v'] ∧ Rep G ha F t v ∧ Rep G ha F t' v' := by
  simp only [Reps] at h
  obtain ⟨u, r, rfl, h1, u2, r2, rfl, h2, h3⟩ := h
  exact ⟨u, u2, by rw [h3], h1, h2⟩
theorem ji_rng1 {tg a : Expr} {m : M (List T)} {p pos : Pos} (hg : Gl X "range") (hm : X.mg "range" = none) (ha : JL G X W [a] m) (hs : starEach [a] X.env = [(false, eval a X.env)]) : JI G X W tg (.Call (.Name "range" p) [a] [] pos) (mRng rng1 m) := PI.imp (pi_range1 hg hm ha hs) fun σ H R q => by
  obtain ⟨En, q⟩ := q
  obtain ⟨F0, q⟩ := q.bind (R1 := RL G En)
  refine ⟨En, q.mono fun vs H1 ⟨ts, F1, S1, fps1, hd1, sr, s, r, p⟩ => ?_⟩
  obtain ⟨items, e, p⟩ := p.lift
  unfold rng1 at e
  split at e
  · rename_i j
    split at e
    · rename_i hj
      cases e
      obtain ⟨v, rfl, rv⟩ := Reps.one r
      simp only [Rep] at rv
      subst rv
      have hj' := of_decide_eq_true hj
      refine ⟨j, rfl, by omega, by omega, ?_⟩
      have e0 : j.toNat = (j - 0).toNat := by omega
      rw [e0]
      exact p.ok sr (Same.refl _) itOk_rng
    · cases e
  · cases e
theorem ji_rng2 {tg a b : Expr} {m : M (List T)} {p pos : Pos} (hg : Gl X "range") (hm : X.mg "range" = none) (ha : JL G X W [a, b] m) (hs : starEach [a, b] X.env = [(false, eval a X.env), (false, eval b X.env)]) (hs2 : starEach [b] X.env = [(false, eval b X.env)]) :
    JI G X W tg (.Call (.Name "range" p) [a, b] [] pos) (mRng rng2 m) := PI.imp (pi_range2 hg hm ha hs hs2) fun σ H R q => by
  obtain ⟨En, q⟩ := q
  obtain ⟨F0, q⟩ := q.bind (R1 := RL G En)
  refine ⟨En, q.mono fun vs H1 ⟨ts, F1, S1, fps1, hd1, sr, s, r, p⟩ => ?_⟩
  obtain ⟨items, e, p⟩ := p.lift
  unfold rng2 at e
  split at e
  · rename_i i j
    split at e
    · rename_i hj
      cases e
      obtain ⟨v, v', rfl, rv, rv'⟩ := Reps.two r
      simp only [Rep] at rv rv'
      subst rv rv'
      have h1 := of_decide_eq_true hj.1
      have h2 := of_decide_eq_true hj.2
      exact ⟨i, j, rfl, ⟨by omega, by omega, by omega, by omega⟩, p.ok sr (Same.refl _) itOk_rng⟩
    · cases e
  · cases e

/-! ### for -/
def forL (g : Tgt) (body : Stm) : List T → Stm
  | [], S, hd => some (.next, S, hd)
  | x :: xs, S, hd => match g x S with
    | none => none
    | some S1 => match body S1 hd with
      | some (.next, S2, hd2) => forL g body xs S2 hd2
      | some (.cont, S2, hd2) => forL g body xs S2 hd2
      | some (.brk, S2, hd2) => some (.next, S2, hd2)
      | r => r
def sFor (m : M (List T)) (g : Tgt) (body : Stm) : Stm := sBind m fun items => forL g body items
theorem js_for {tg iter : Expr} {body : List Stmt} {mi : M (List T)} {g : Tgt} {mb : Stm} {is : List Nat} {pos : Pos} (hp : PassesOwn (model X.prog X.w) X.A X.env X.xe) (hc : X.calm = true) (hi : JI G X W tg iter mi) (hg : JG G X tg g is) (hb : JSs G X W body mb)
    (hs : ∀ x, foldedSetIterable iter X.env x = pure x) : JS G X W (.For tg iter body [] pos) (sFor mi g mb) := PS.imp (ps_for hp hc hi hg hb hs) fun D σ H q => by
  obtain ⟨En, q⟩ := q
  obtain ⟨F0, q⟩ := sBind_step (R := RI G En) q
  refine ⟨En, q.mono fun J H1 ⟨items, F1, S1, fps1, hd1, sr, s, ok, p⟩ => ?_⟩
  refine ⟨fun i m σ H => m = items.length - i ∧ i ≤ items.length ∧ ∃ F S fps hd, SR G En σ H F S fps hd ∧ Same F1 F ∧ PostS G W En F (forL g mb (items.drop i) S hd) D, ⟨items.length, rfl, Nat.zero_le _, F1, S1, fps1, hd1, sr, Same.refl _, by rw [List.drop_zero]; exact p⟩, ?_⟩
  rintro i m σ H ⟨rfl, hi, F, S, fps, hd, sr, s, p⟩
  obtain ⟨st, go⟩ := ok H F hd s sr.sub sr.hand i
  by_cases hlt : i < items.length
  · refine .inr ⟨(go items[i] (List.getElem?_eq_getElem hlt)).1, fun σ' H' => ∃ F S fps hd, SR G En σ' H' F S fps hd ∧ Same F1 F ∧ PostS G W En F (forL g mb (items.drop (i + 1)) S hd) D,
      fun σ' H' n => ⟨items.length - (i + 1), by omega, rfl, hlt, n⟩, fun x H' y => ?_⟩
    obtain ⟨F', gr, rx⟩ := (go items[i] (List.getElem?_eq_getElem hlt)).2 x H' y
    have sr' := sr.grow gr
    rw [List.drop_eq_getElem_cons hlt] at p
    unfold forL at p
    cases eg : g items[i] S with
    | none => rw [eg] at p; exact p.elim
    | some S2 =>
      rw [eg] at p
      refine ⟨En, items[i], F', S, fps, hd, S2, sr', rx, eg, fun σ2 fps2 sr2 _ => ⟨En, F', S2, fps2, hd, sr2, ?_⟩⟩
      have sF := s.trans gr.sF
      have p := p.mono gr.sF
      dsimp only at p
      rcases e : mb S2 hd with _ | ⟨f, S3, hd3⟩ <;> rw [e] at p
      · exact p
      · cases f with
        | next => exact fun σ' H' F2 fps' sr' s' => ⟨F2, S3, fps', hd3, sr', sF.trans s', p.mono s'⟩
        | cont => exact fun σ' H' F2 fps' sr' s' => ⟨F2, S3, fps', hd3, sr', sF.trans s', p.mono s'⟩
        | brk => exact p
        | ret ot => exact p
        | ex C fs => exact p
  · have e : i = items.length := by omega
    subst e
    rw [List.drop_length] at p
    exact .inl ⟨st (Nat.le_refl _), p σ H F fps sr (Same.refl _)⟩
end
end TL
namespace TL
open PySem PySem.Spec PyProof.Rows L2

/-! ### a def's meaning, its promise -/
abbrev Fn := List T → Hd → Option (Out OT × Hd)
/-- an __init__'s: the fields ahead, the arguments; the fields behind -/
abbrev Ini := List (Str × T) → List T → Hd → Option (Out Unit × List (Str × T) × Hd)
def FreshO (G : Gd) (ha : HA) (H H' F' : Hp) (ot : OT) (v : V) : Prop := ∃ fp, RepO G ha F' H' ot v fp ∧ fp.Nodup ∧ ∀ a ∈ fp, F' a = none ∧ H' a ≠ none ∧ NoH ha a ∧ H a = none
def PostF (G : Gd) (ha : HA) (H F0 : Hp) (r : Option (Out OT × Hd)) (Q : VK) (E : XK) : Prop := match r with
  | none => False
  | some (.ok ot, hd') => ∀ v H' F', Grow ha H F0 H' F' hd' → FreshO G ha H H' F' ot v → Q v H'
  | some (.ex C fs, hd') => ∀ d H' F', Grow ha H F0 H' F' hd' → ExAt G ha F' H' fs d → E (.ref (G.ca C)) d H'
def SpT (G : Gd) (n : Nat) (F : Fn) : Sp := fun vs H Q E => vs.length = n ∧ ∃ F0 ha ts hd, ha.tabs = G.tabs ∧ Same F0 H ∧ HandAt H F0 ha hd ∧ Reps G ha F0 ts vs ∧ PostF G ha H F0 (F ts hd) Q E
/-- all but x stands -/
structure GrowX (x : Addr) (ha : HA) (H F H' F' : Hp) (hd' : Hd) : Prop where
  sF : Same F F'
  sub : Same F' H'
  new : ∀ a, F' a ≠ none → F a ≠ none ∨ H a = none
  keep : ∀ a o, H a = some o → a ≠ x → Kp ha a → H' a = some o
  hand : HandAt H' F' ha hd'
def PostI (G : Gd) (C : Str) (x : Addr) (ha : HA) (H F0 : Hp) (r : Option (Out Unit × List (Str × T) × Hd)) (Q : VK) (E : XK) : Prop := match r with
  | none => False
  | some (.ok _, fs', hd') => ∀ H' F' dx us, GrowX x ha H F0 H' F' hd' → F' x = none → H' x = some (.ins (G.ca C) dx us) → RepF G ha F' fs' us → Q .non H'
  | some (.ex C1 e, fs', hd') => ∀ d H' F' dx us, GrowX x ha H F0 H' F' hd' → F' x = none → H' x = some (.ins (G.ca C) dx us) → RepF G ha F' fs' us → ExAt G ha F' H' e d → E (.ref (G.ca C1)) d H'
/-- an __init__, of an instance of the class C -/
def SpI (G : Gd) (C : Str) (n : Nat) (F : Ini) : Sp := fun vs H Q E => vs.length = n + 1 ∧ ∃ F0 ha ts hd x dx us fs rest, vs = .ref x :: rest ∧ H x = some (.ins (G.ca C) dx us) ∧ F0 x = none ∧ NoH ha x ∧ RepF G ha F0 fs us ∧
  ha.tabs = G.tabs ∧ Same F0 H ∧ HandAt H F0 ha hd ∧ Reps G ha F0 ts rest ∧ PostI G C x ha H F0 (F fs ts hd) Q E

/-- the slots at the entry -/
def slots0 (n : Nat) (ts : List T) : Slots := ts.map (fun t => some (OT.v t)) ++ List.replicate (n - ts.length) none
def runS (n : Nat) (m : Stm) : Fn := fun ts hd => match m (slots0 n ts) hd with
  | some (.next, _, hd') => some (.ok (.v .non), hd')
  | some (.ret ot, _, hd') => some (.ok ot, hd')
  | some (.ex C fs, _, hd') => some (.ex C fs, hd')
  | _ => none
def slotsI (n : Nat) (C : Str) (fs : List (Str × T)) (ts : List T) : Slots := some (OT.o C fs) :: slots0 (n - 1) ts
def runI (n : Nat) (C : Str) (m : Stm) : Ini := fun fs ts hd => match m (slotsI n C fs ts) hd with
  | some (.next, S', hd') => match S' with
    | some (.o C' fs') :: _ => if C' = C then some (.ok (), fs', hd') else none
    | _ => none
  | some (.ex C1 e, S', hd') => match S' with
    | some (.o C' fs') :: _ => if C' = C then some (.ex C1 e, fs', hd') else none
    | _ => none
  | _ => none

section
variable {G : Gd}
theorem slots0_get {n : Nat} {ts : List T} {vs : List V} {ha : HA} {F H : Hp} {i : Nat} {ot : OT} (r : Reps G ha F ts vs) (hn : vs.length ≤ n) (e : (slots0 n ts)[i]? = some (some ot)) :
    ∃ v, (vs.map some ++ List.replicate (n - vs.length) none)[i]? = some (some v) ∧ RepO G ha F H ot v [] := by
  have hl := Reps.length r
  unfold slots0 at e
  by_cases hi : i < ts.length
  · rw [List.getElem?_append_left (by simpa using hi), List.getElem?_map] at e
    cases et : ts[i]? with
    | none => rw [et] at e; cases e
    | some t =>
      rw [et] at e
      cases e
      obtain ⟨v, ev, rv⟩ := Reps.get r et
      refine ⟨v, ?_, by simp only [RepO]; exact ⟨trivial, rv⟩⟩
      rw [List.getElem?_append_left (by rw [List.length_map, ← hl]; exact hi), List.getElem?_map, ev]
      rfl
  · rw [List.getElem?_append_right (by simpa using hi), List.getElem?_replicate] at e
    split at e <;> cases e
theorem slots0_len {n : Nat} {ts : List T} : (slots0 n ts).length = ts.length + (n - ts.length) := by
  unfold slots0
  rw [List.length_append, List.length_map, List.length_replicate]
/-- the frame at the entry -/
theorem SR.start {H F0 : Hp} {ha : HA} {hd : Hd} {ts : List T} {vs : List V} {N : List Str} (tb : ha.tabs = G.tabs) (s : Same F0 H) (h : HandAt H F0 ha hd) (r : Reps G ha F0 ts vs) (hn : vs.length ≤ N.length) :
    SR G ⟨H, F0, ha, [], []⟩ (L2.start N vs) H F0 (slots0 N.length ts) (fun _ => []) hd where
  len := by
    rw [slots0_len]
    unfold L2.start
    rw [List.length_append, List.length_map, List.length_replicate, Reps.length r]
  slot := fun i ot e => slots0_get r hn e
  nd := fun _ => List.nodup_nil
  dj := fun _ _ _ _ m => absurd m List.not_mem_nil
  own := fun _ _ m => absurd m List.not_mem_nil
  sub := s
  sub0 := Same.refl _
  fnew := fun a q => .inl q
  kp := fun a o e _ _ => e
  hand := h
  tbE := tb
  slf := fun _ _ _ _ => rfl
/-- the frame at an __init__'s entry -/
theorem SR.startI {H F0 : Hp} {ha : HA} {hd : Hd} {ts : List T} {vs : List V} {N : List Str} {C : Str} {x dx : Addr} {us : List (Str × V)} {fs : List (Str × T)} (tb : ha.tabs = G.tabs) (s : Same F0 H) (h : HandAt H F0 ha hd) (r : Reps G ha F0 ts vs) (hn : vs.length + 1 ≤ N.length)
    (hx : H x = some (.ins (G.ca C) dx us)) (fx : F0 x = none) (nx : NoH ha x) (rf : RepF G ha F0 fs us) :
    SR G ⟨H, F0, ha, [x], [x]⟩ (L2.start N (.ref x :: vs)) H F0 (slotsI N.length C fs ts) (fun i => if i = 0 then [x] else []) hd where
  len := by
    unfold slotsI L2.start
    rw [List.length_cons, slots0_len, List.length_append, List.length_map, List.length_replicate, List.length_cons, Reps.length r]
    omega
  slot := fun i ot e => by
    unfold slotsI at e
    cases i with
    | zero =>
      cases e
      refine ⟨.ref x, rfl, ?_⟩
      rw [if_pos rfl]
      simp only [RepO]
      exact ⟨x, dx, us, rfl, hx, rfl, rf⟩
    | succ j =>
      rw [if_neg (Nat.succ_ne_zero j)]
      obtain ⟨v, ev, rv⟩ := slots0_get (H := H) r (n := N.length - 1) (by omega) (by simpa using e)
      refine ⟨v, ?_, rv⟩
      unfold L2.start
      rw [List.map_cons, List.cons_append, List.getElem?_cons_succ, List.length_cons, ← ev]
      congr 3
      omega
  nd := fun i => by
    by_cases c : i = 0
    · rw [if_pos c]; simp
    · rw [if_neg c]; exact List.nodup_nil
  dj := fun i j a hij m => by
    by_cases c : i = 0
    · rw [if_neg (show ¬ j = 0 from fun z => hij (c.trans z.symm))]; simp
    · rw [if_neg c] at m; cases m
  own := fun i a m => by
    by_cases c : i = 0
    · rw [if_pos c] at m
      obtain rfl : a = x := by simpa using m
      exact ⟨fx, by rw [hx]; simp, nx, .inr (by simp)⟩
    · rw [if_neg c] at m; cases m
  sub := s
  sub0 := Same.refl _
  fnew := fun a q => .inl q
  kp := fun a o e _ _ => e
  hand := h
  tbE := tb
  slf := fun i C fs e => by
    cases i with
    | zero => rfl
    | succ j =>
      exfalso
      unfold slotsI slots0 at e
      rw [List.getElem?_cons_succ] at e
      by_cases hi : j < ts.length
      · rw [List.getElem?_append_left (by simpa using hi), List.getElem?_map] at e
        cases et : ts[j]? with
        | none => rw [et] at e; cases e
        | some t => rw [et] at e; cases e
      · rw [List.getElem?_append_right (by simpa using hi), List.getElem?_replicate] at e
        split at e <;> cases e
/-- behind the body -/
theorem SR.grown {En : Ent} {σ : L2.St} {H F : Hp} {S : Slots} {fps : Nat → List Addr} {hd : Hd} (sr : SR G En σ H F S fps hd) (e0 : En.own0 = []) : Grow En.ha En.H0 En.F0 H F hd where
  sF := sr.sub0
  sub := sr.sub
  new := fun a q => by
    rcases sr.fnew a q with z | z | z
    · exact .inl z
    · exact .inr z
    · rw [e0] at z; cases z
  keep := fun a o e h => sr.kp a o e (by rw [e0]; simp) h
  hand := sr.hand
theorem SR.grownX {En : Ent} {σ : L2.St} {H F : Hp} {S : Slots} {fps : Nat → List Addr} {hd : Hd} {x : Addr} (sr : SR G En σ H F S fps hd) (e0 : En.own0 = [x]) (hx : En.F0 x = none) (fx : F x = none) : GrowX x En.ha En.H0 En.F0 H F hd where
  sF := sr.sub0
  sub := sr.sub
  new := fun a q => by
    rcases sr.fnew a q with z | z | z
    · exact .inl z
    · exact .inr z
    · rw [e0] at z
      obtain rfl : a = x := by simpa using z
      exact absurd fx q
  keep := fun a o e hn h => sr.kp a o e (by rw [e0]; simpa using hn) h
  hand := sr.hand
/-- THE RULE for a def -/
theorem fn_tl {P : Program} {w : World} {mg : Str → Option Value} {base : Heap} {x qual : Str} {params : Arguments} {body : List Stmt} {scope : Scope} {dvs : List V} {kws : List (Str × V)} {f : Addr} {fd : FuncData} {N ps : List Str} {k : Nat} {m : Stm}
    (F : FunD G.K x qual params body scope dvs kws f fd) (S : FnScope N ps scope)
    (hb : ∀ (cdv : Value) (A : Around) (outer : List Env) (s : Shared) (H : Hp) (E : XK), Room k (A.deeper (envOfC qual scope s.heap.objs.size f cdv)) →
      JSs G (cxOf (L2.CX P w) P w G.K mg base N qual scope f cdv A outer s H E) (fun cls d _ H => E cls d H) body m) :
    FnOk P w G.K mg base (L2.CX P w) (k + 1) f fd ps (SpT G ps.length (runS N.length m)) := by
  have hpl : ps.length ≤ N.length := by have := congrArg List.length S.pre; rw [List.length_take] at this; omega
  refine F.ok S (fun vs H Q E h => h.1) fun cdv A outer s H vs Q E hr h => ⟨_, hb cdv A outer s H E hr, ?_⟩
  obtain ⟨hl, F0, ha, ts, hd, tb, s0, hh, r, p⟩ := h
  have sr := SR.start (N := N) tb s0 hh r (by omega)
  refine ⟨⟨H, F0, ha, [], []⟩, F0, slots0 N.length ts, _, hd, sr, ?_⟩
  unfold runS at p
  rcases e : m (slots0 N.length ts) hd with _ | ⟨fl, S1, hd1⟩ <;> rw [e] at p
  · exact p.elim
  · cases fl with
    | next => exact fun σ' H' F' fps' sr' s' => p .non H' F' (sr'.grown rfl) ⟨[], by simp only [RepO, Rep]; exact ⟨trivial, trivial⟩, List.nodup_nil, fun _ m => absurd m List.not_mem_nil⟩
    | brk => exact p.elim
    | cont => exact p.elim
    | ret ot => exact fun v σ' H' F' fps' sr' s' ⟨fp, ro, nd, dj, ow⟩ => p v H' F' (sr'.grown rfl) ⟨fp, ro, nd, fun a m => by
        obtain ⟨g1, g2, g3, g4⟩ := ow a m
        refine ⟨g1, g2, g3, ?_⟩
        rcases g4 with z | z
        · exact z
        · cases z⟩
    | ex C fs => exact fun d σ' H' F' fps' sr' s' x => p d H' F' (sr'.grown rfl) x
/-- THE RULE for an __init__ -/
theorem ini_tl {P : Program} {w : World} {mg : Str → Option Value} {base : Heap} {x qual : Str} {params : Arguments} {body : List Stmt} {scope : Scope} {dvs : List V} {kws : List (Str × V)} {f : Addr} {fd : FuncData} {N ps : List Str} {k n : Nat} {C : Str} {m : Stm}
    (F : FunD G.K x qual params body scope dvs kws f fd) (S : FnScope N ps scope) (hn : ps.length = n + 1)
    (hb : ∀ (cdv : Value) (A : Around) (outer : List Env) (s : Shared) (H : Hp) (E : XK), Room k (A.deeper (envOfC qual scope s.heap.objs.size f cdv)) →
      JSs G (cxOf (L2.CX P w) P w G.K mg base N qual scope f cdv A outer s H E) (fun cls d _ H => E cls d H) body m) :
    FnOk P w G.K mg base (L2.CX P w) (k + 1) f fd ps (SpI G C n (runI N.length C m)) := by
  have hpl : ps.length ≤ N.length := by have := congrArg List.length S.pre; rw [List.length_take] at this; omega
  refine F.ok S (fun vs H Q E h => by rw [hn]; exact h.1) fun cdv A outer s H vs Q E hr h => ⟨_, hb cdv A outer s H E hr, ?_⟩
  obtain ⟨hl, F0, ha, ts, hd, x, dx, us, fs, rest, rfl, hx, fx, nx, rf, tb, s0, hh, r, p⟩ := h
  rw [List.length_cons] at hl
  have sr := SR.startI (N := N) (C := C) tb s0 hh r (by omega) hx fx nx rf
  refine ⟨⟨H, F0, ha, [x], [x]⟩, F0, slotsI N.length C fs ts, _, hd, sr, ?_⟩
  unfold runI at p
  rcases e : m (slotsI N.length C fs ts) hd with _ | ⟨fl, S1, hd1⟩ <;> rw [e] at p
  · exact p.elim
  · cases fl with
    | next =>
      intro σ' H' F' fps' sr' s'
      dsimp only at p
      split at p
      · rename_i C' fs' rest'
        split at p
        · rename_i eC
          subst eC
          have e1 := sr'.slf 0 _ _ rfl
          obtain ⟨v, hv, ro⟩ := sr'.slot 0 _ rfl
          simp only [RepO] at ro
          obtain ⟨a, dx', us', rfl, ha', e2, rf'⟩ := ro
          rw [e1] at e2
          obtain rfl : x = a := by injection e2
          have fx' : F' x = none := (sr'.own 0 x (by rw [e1]; exact List.mem_cons_self)).1
          exact p H' F' dx' us' (sr'.grownX rfl fx fx') fx' ha' rf'
        · exact p.elim
      · exact p.elim
    | brk => exact p.elim
    | cont => exact p.elim
    | ret ot => exact p.elim
    | ex C' fs' =>
      intro d σ' H' F' fps' sr' s' xx
      dsimp only at p
      split at p
      · rename_i C2 fs2 rest2
        split at p
        · rename_i eC
          subst eC
          have e1 := sr'.slf 0 _ _ rfl
          obtain ⟨v, hv, ro⟩ := sr'.slot 0 _ rfl
          simp only [RepO] at ro
          obtain ⟨a, dx', us', rfl, ha', e2, rf'⟩ := ro
          rw [e1] at e2
          obtain rfl : x = a := by injection e2
          have fx' : F' x = none := (sr'.own 0 x (by rw [e1]; exact List.mem_cons_self)).1
          exact p d H' F' dx' us' (sr'.grownX rfl fx fx') fx' ha' rf' xx
        · exact p.elim
      · exact p.elim
end
end TL
namespace TL
open PySem PySem.Spec PyProof.Rows L2

/-! ### what may be called, by values -/
def CalV (X : Cx) (W : WX) (u : Value) (sp : Sp) : Prop := ∀ (pins : List (Addr × Obj)) (s : Shared) (σ : L2.St) (H : Hp) (us : List Value) (vs : List V) (Q : VK), Inv X pins σ H s → Vals vs us → sp vs H Q (WE W σ) →
  wpAny (model X.prog X.w) X.A (call u us) (EP X pins σ Q) X.xe s
def CalK (X : Cx) (W : WX) (u : Value) (n : Nat) (ks : List Str) (sp : Sp) : Prop := ∀ (pins : List (Addr × Obj)) (s : Shared) (σ : L2.St) (H : Hp) (us ws : List Value) (vs zs : List V) (Q : VK), Inv X pins σ H s → Vals vs us → Vals zs ws →
  vs.length = n → zs.length = ks.length → sp (vs ++ zs) H Q (WE W σ) → wpAny (model X.prog X.w) X.A (call u us (ks.zip ws)) (EP X pins σ Q) X.xe s
/-- a def's, by its meaning at what is written and the defaults -/
def dflF (F : Fn) (dts : List T) : Fn := fun ts hd => F (ts ++ dts) hd
section
variable {G : Gd} {X : Cx} {W : WX}
theorem Reps.append {ha : HA} {F : Hp} : ∀ {ts us : List T} {vs ws : List V}, Reps G ha F ts vs → Reps G ha F us ws → Reps G ha F (ts ++ us) (vs ++ ws)
  | [], us, vs, ws, h, k => by
    simp only [Reps] at h
    subst h
    exact k
  | t :: ts, us, vs, ws, h, k => by
    simp only [Reps] at h
    obtain ⟨u, r, rfl, h1, h2⟩ := h
    simp only [List.cons_append, Reps]
    exact ⟨u, r ++ ws, rfl, h1, Reps.append h2 k⟩
/-- fixed trees (a def's defaults) -/
def Fix (G : Gd) (dts : List T) (dvs : List V) : Prop := ∀ ha F, Reps G ha F dts dvs
theorem SpT.dfl {F : Fn} {n : Nat} {dts : List T} {dvs : List V} {vs : List V} {H : Hp} {Q : VK} {E : XK} (fx : Fix G dts dvs) (h : SpT G n (dflF F dts) vs H Q E) : SpT G (n + dvs.length) F (vs ++ dvs) H Q E := by
  obtain ⟨hl, F0, ha, ts, hd, tb, s, hh, r, p⟩ := h
  exact ⟨by rw [List.length_append, hl], F0, ha, ts ++ dts, hd, tb, s, hh, r.append (fx ha F0), p⟩
theorem calV_def {k : Nat} {f : Addr} {fd : FuncData} {ps : List Str} {F : Fn} {n : Nat} {ds : List Value} {dvs : List V} {dts : List T} (hf : FnOk X.prog X.w X.K X.mg X.base (L2.CX X.prog X.w) k f fd ps (SpT G ps.length F)) (hr : Room k X.A) (hb : Binds X.K fd ps ds)
    (hd : Vals dvs ds) (fx : Fix G dts dvs) (hn : n + dvs.length = ps.length) (tk : Takes X W) : CalV X W (.ref f) (SpT G n (dflF F dts)) := fun pins s σ H us vs Q I r h =>
  run_fnSD (E := WE W) hf hr hb hd (passAt tk σ) I r (by rw [← hn]; exact SpT.dfl fx h)
/-- of an instance that is made -/
def mkFn (C : Str) (F : Ini) : Fn := fun ts hd => match F [] ts hd with
  | none => none
  | some (.ok _, fs, hd') => some (.ok (.v (.ins C fs)), hd')
  | some (.ex C' e, _, hd') => some (.ex C' e, hd')
/-- the promise of a new instance's __init__, from that of the call of the class -/
theorem SpI.made {C : Str} {F : Ini} {n : Nat} {vs : List V} {H : Hp} {Q : VK} {E : XK} (h : SpT G n (mkFn C F) vs H Q E) (x dx : Addr) (hx : H x = none) (hdx : H dx = none) (ne : dx ≠ x) :
    SpI G C n F (.ref x :: vs) (upd (upd H dx (.own x)) x (.ins (G.ca C) dx [])) (fun v H2 => v = .non ∧ Q (.ref x) H2) E := by
  obtain ⟨hl, F0, ha, ts, hd, tb, s, hh, r, p⟩ := h
  have fx : ∀ {a : Addr}, H a = none → F0 a = none := fun {a} e => by
    cases q : F0 a with
    | none => rfl
    | some o => rw [s a o q] at e; cases e
  have k : ∀ a o, H a = some o → upd (upd H dx (.own x)) x (.ins (G.ca C) dx []) a = some o := fun a o e => by
    rw [upd_ne (fun z => by rw [z, hx] at e; cases e), upd_ne (fun z => by rw [z, hdx] at e; cases e)]; exact e
  have bk : ∀ a, upd (upd H dx (.own x)) x (.ins (G.ca C) dx []) a = none → H a = none := fun a e => by
    cases q : H a with
    | none => rfl
    | some o => rw [k a o q] at e; cases e
  refine ⟨by rw [List.length_cons, hl], F0, ha, ts, hd, x, dx, [], [], vs, rfl, upd_same, fx hx, hh.noH hx, by simp only [RepF], tb, fun a o e => k a o (s a o e), hh.mono (Same.refl _) (fun _ _ e => e) k fun _ q => .inl q, r, ?_⟩
  unfold mkFn at p
  rcases e : F [] ts hd with _ | ⟨o, fs, hd'⟩ <;> rw [e] at p
  · exact p
  · have g : ∀ {H' F'}, GrowX x ha (upd (upd H dx (.own x)) x (.ins (G.ca C) dx [])) F0 H' F' hd' → Grow ha H F0 H' F' hd' := fun {H' F'} g =>
      ⟨g.sF, g.sub, fun a q => (g.new a q).imp id (bk a), fun a o e kp => g.keep a o (k a o e) (fun z => by rw [z, hx] at e; cases e) kp, g.hand⟩
    cases o with
    | ok _ =>
      refine fun H' F' dx' us gx fx' hx' rf => ⟨rfl, ?_⟩
      have n : ∀ a ∈ [x], F' a = none := fun a m => by
        obtain rfl : a = x := by simpa using m
        exact fx'
      have sF := frz_same (F := F') (H := H') n
      refine p (.ref x) H' (frz F' H' [x]) ?_ ⟨[], ?_, List.nodup_nil, fun _ m => absurd m List.not_mem_nil⟩
      · exact ⟨gx.sF.trans sF, frz_sub gx.sub, fun a q => by
          unfold frz at q
          by_cases c : a ∈ [x]
          · obtain rfl : a = x := by simpa using c
            exact .inr hx
          · rw [if_neg c] at q
            exact (g gx).new a q, (g gx).keep, gx.hand.frz (fun a m => by
            obtain rfl : a = x := by simpa using m
            exact hh.noH hx) (fun a m ps => by
            obtain rfl : a = x := by simpa using m
            rw [hx']
            exact fun z => by cases z)⟩
      · simp only [RepO, Rep]
        exact ⟨trivial, x, dx', us, rfl, by unfold frz; rw [if_pos (by simp)]; exact hx', RepF.mono sF fs us rf⟩
    | ex C' e => exact fun d H' F' dx' us gx fx' hx' rf xx => p d H' F' (g gx) xx
theorem run_makeS {k : Nat} {f C : Addr} {fd : FuncData} {ps : List Str} {sp : Sp} {E : L2.St → XK} {pins : List (Addr × Obj)} {σ : L2.St} {H : Hp} {s : Shared} {Q : VK} {us ds : List Value} {vs dvs : List V} (M : Mk X.K C f)
    (F : FnOk X.prog X.w X.K X.mg X.base (L2.CX X.prog X.w) k f fd ps sp) (hr : Room (k + 1) X.A) (hb : Binds X.K fd ps ds) (hd : Vals dvs ds) (hx : PassesAt (L2.CX X.prog X.w) X σ (E σ)) (I : Inv X pins σ H s) (r : Vals vs us)
    (h : ∀ x dx, H x = none → H dx = none → dx ≠ x → sp (.ref x :: (vs ++ dvs)) (upd (upd H dx (.own x)) x (.ins C dx [])) (fun v H2 => v = .non ∧ Q (.ref x) H2) (E σ)) :
    wpAny (model X.prog X.w) X.A (call (.ref C) us) (EP X pins σ Q) X.xe s := by
  have hq := h (s.heap.objs.size + 1) s.heap.objs.size (I.hok.fresh (Nat.le_succ _)) (I.hok.fresh (Nat.le_refl _)) (Nat.ne_of_lt (Nat.lt_succ_self _))
  have I2 := Inv.made (C := C) I
  have r2 : Vals (V.ref (s.heap.objs.size + 1) :: (vs ++ dvs)) (Value.ref (s.heap.objs.size + 1) :: (us ++ ds)) := .cons rfl (r.append hd)
  have hl : (Value.ref (s.heap.objs.size + 1) :: us ++ ds).length = ps.length := by
    have e := r2.length
    rw [F.len _ _ _ _ hq] at e
    exact e.symm
  refine wpAny_call (make_map (f := f) I.kIn M.makes M.init (beq_iff_eq.mp M.fn) (codeAny_mono (F.run _ X.stack _ _ ⟨Value.ref (s.heap.objs.size + 1) :: us, []⟩ (Value.ref (s.heap.objs.size + 1) :: (us ++ ds)) _ _ (E σ) (hr.make C us [])
    (I2.env0.make C us []) (hb _ (Value.ref (s.heap.objs.size + 1) :: us) I2.kIn hl) r2 hq) fun r s' hq' => ?_))
  cases r with
  | error e => exact hx pins _ _ e s' I2 hq'
  | ok fl =>
    cases fl with
    | ret u =>
      obtain ⟨v, H', I3, rv, ev, q3⟩ := I2.after hq'
      subst ev
      exact ⟨rv, ⟨V.ref (s.heap.objs.size + 1), H', I3, rfl, q3⟩⟩
    | next => exact False.elim hq'
    | brk => exact False.elim hq'
    | cont => exact False.elim hq'
def dflI (F : Ini) (dts : List T) : Ini := fun fs ts hd => F fs (ts ++ dts) hd
theorem SpI.dfl {C : Str} {F : Ini} {n : Nat} {dts : List T} {dvs : List V} {vs : List V} {H : Hp} {Q : VK} {E : XK} (fx : Fix G dts dvs) (h : SpI G C n (dflI F dts) vs H Q E) : SpI G C (n + dvs.length) F (vs ++ dvs) H Q E := by
  obtain ⟨hl, F0, ha, ts, hd, x, dx, us, fs, rest, rfl, hx, f0, nx, rf, tb, s, hh, r, p⟩ := h
  exact ⟨by rw [List.length_append, hl]; omega, F0, ha, ts ++ dts, hd, x, dx, us, fs, rest ++ dvs, rfl, hx, f0, nx, rf, tb, s, hh, r.append (fx ha F0), p⟩
theorem calV_make {k n m : Nat} {C : Str} {f : Addr} {fd : FuncData} {ps : List Str} {F : Ini} {ds : List Value} {dvs : List V} {dts : List T} (M : Mk X.K (G.ca C) f) (hf : FnOk X.prog X.w X.K X.mg X.base (L2.CX X.prog X.w) k f fd ps (SpI G C m F)) (hr : Room (k + 1) X.A)
    (hb : Binds X.K fd ps ds) (hd : Vals dvs ds) (fx : Fix G dts dvs) (hn : n + dvs.length = m) (tk : Takes X W) : CalV X W (.ref (G.ca C)) (SpT G n (mkFn C (dflI F dts))) := fun pins s σ H us vs Q I r h =>
  run_makeS (E := WE W) M hf hr hb hd (passAt tk σ) I r fun x dx hx hdx ne => by
    have := SpI.dfl fx (SpI.made h x dx hx hdx ne)
    rw [hn] at this
    exact this

/-! ### a call's reading -/
def mApp (n : Nat) (F : Fn) (ts : List T) : M OT := fun S hd => if ts.length = n then match F ts hd with
  | none => none
  | some (.ok ot, hd') => some (.ok ot, S, hd')
  | some (.ex C fs, hd') => some (.ex C fs, S, hd')
  else none
def mCall (n : Nat) (F : Fn) (m : M (List T)) : M OT := M.bind m (mApp n F)
theorem app_ok {En : Ent} {σ : L2.St} {H F0 : Hp} {S : Slots} {fps : Nat → List Addr} {hd : Hd} {n : Nat} {F : Fn} {ts : List T} {vs : List V} {Q : VK} (sr : SR G En σ H F0 S fps hd) (r : Reps G En.ha F0 ts vs) (p : Post G En W (RO G En) σ F0 (mApp n F ts S hd) Q) :
    SpT G n F vs H Q (WE W σ) := by
  unfold mApp at p
  split at p
  · rename_i hn
    refine ⟨by rw [← Reps.length r]; exact hn, F0, En.ha, ts, hd, sr.tbE, sr.sub, sr.hand, r, ?_⟩
    rcases e : F ts hd with _ | ⟨o, hd'⟩ <;> rw [e] at p
    · exact p.elim
    · cases o with
      | ok ot => exact fun v H' F' g ⟨fp, ro, nd, ow⟩ => p v H' F' fps (sr.grow g) g.sF ⟨fp, ro, nd, fun j a m mj => (sr.own j a mj).2.1 (ow a m).2.2.2, fun a m => ⟨(ow a m).1, (ow a m).2.1, (ow a m).2.2.1, sr.back (ow a m).2.2.2⟩⟩
      | ex C fs => exact fun d H' F' g x => p d H' F' fps (sr.grow g) g.sF x
  · exact p.elim
theorem call_step {n : Nat} {F : Fn} {m : M (List T)} {σ : L2.St} {H : Hp} {Q : VK} (q : tP G W (RO G) (mCall n F m) σ H Q) : tP G W (RL G) m σ H fun vs H1 => SpT G n F vs H1 Q (WE W σ) := by
  obtain ⟨En, q⟩ := q
  obtain ⟨F0, q⟩ := q.bind (R1 := RL G En)
  exact ⟨En, q.mono fun vs H1 ⟨ts, F1, S1, fps1, hd1, sr, s, r, p⟩ => app_ok sr r p⟩
section
variable {x : Str} {p pos apos : Pos} {f : Addr} {n : Nat} {F : Fn} {e : Expr} {es : List Expr} {m : M (List T)}
theorem jo_call (hg : Gl X x) (hm : X.mg x = some (.ref f)) (hk : PySem.W.keepIn X.K (.ref f) = true) (hc : CalV X W (.ref f) (SpT G n F)) (ha : JL G X W (e :: es) m) (hdb : (x == ("__debug__" : Str)) = false)
    (he : starEach (e :: es) X.env = (false, eval e X.env) :: starEach es X.env) (hpl : (backTo pos (starEach es X.env)).any (·.1) = false) : JO G X W (.Call (.Name x p) (e :: es) [] pos) (mCall n F m) := ⟨fun pins s σ H Q I h => by
  refine wpAny_Call_Name_kw (ld_glob I hg hm ?_ hdb)
  refine PySem.W.callWith_K (h₀ := X.base) I.ok.mod.kin hk (thn (ha.run pos pins s σ H _ I (call_step h)) fun us s1 ⟨vs, H1, I1, r, q⟩ => ⟨I1.kIn, ?_⟩) he hpl
  exact hc pins s1 σ H1 us vs Q I1 r q⟩
theorem jo_call0 (hg : Gl X x) (hm : X.mg x = some (.ref f)) (hk : PySem.W.keepIn X.K (.ref f) = true) (hc : CalV X W (.ref f) (SpT G n F)) (hdb : (x == ("__debug__" : Str)) = false) : JO G X W (.Call (.Name x p) [] [] pos) (mCall n F (M.ret [])) := ⟨fun pins s σ H Q I h => by
  refine wpAny_Call_Name_kw (ld_glob I hg hm ?_ hdb)
  obtain ⟨En, F0, S, fps, hd, sr, q⟩ := h
  exact PySem.W.callWith_K0 I.kIn hk (hc pins s σ H [] [] Q I .nil (app_ok (ts := []) sr (by simp only [Reps]) q))⟩
/-! with keywords -/
def JK (G : Gd) (X : Cx) (W : WX) (kws : List Keyword) (m : M (List T)) : Prop := PK X kws (tP G W (RL G) m)
theorem PK.imp {kws : List Keyword} {t t' : TA} (h : PK X kws t) (k : ∀ σ H Q, t' σ H Q → t σ H Q) : PK X kws t' := ⟨fun pos pins s σ H Q I q => h.run pos pins s σ H Q I (k σ H Q q)⟩
theorem jk_nil : JK G X W [] (M.ret []) := PK.imp pk_nil fun σ H Q q => by
  obtain ⟨En, F, S, fps, hd, sr, p⟩ := q
  exact p.ok sr (Same.refl _) (by simp only [RL, Reps])
theorem jk_cons {e : Expr} {kws : List Keyword} {nm : Option Str} {kpos : Pos} {m : M T} {r : M (List T)} (ha : JE G X W e m) (hr : JK G X W kws r) : JK G X W (⟨nm, e, kpos⟩ :: kws) (mCons m r) := PK.imp (pk_cons ha hr) fun σ H Q q => by
  obtain ⟨En, q⟩ := q
  obtain ⟨F0, q⟩ := q.bind (R1 := RE G En)
  refine ⟨En, q.mono fun v H1 ⟨t, F1, S1, fps1, hd1, sr, s, rt, p⟩ => ?_⟩
  refine ⟨En, F1, S1, fps1, hd1, sr, (Post.bind (R1 := RL G En) p).mono (Same.refl _) fun vs H2 ⟨ts, F2, S2, fps2, hd2, sr2, s2, r2, p2⟩ => ?_⟩
  refine p2.ok sr2 (Same.refl _) ?_
  simp only [RL, Reps]
  exact ⟨v, vs, rfl, Rep.mono s2 t v rt, r2⟩
/-- n written values, then the keywords' -/
def mCallK (n j : Nat) (F : Fn) (m mk : M (List T)) : M OT := M.bind m fun ts => M.bind mk fun us => if ts.length = n ∧ us.length = j then mApp (n + j) F (ts ++ us) else M.stuck
theorem callK_step {n j : Nat} {F : Fn} {m mk : M (List T)} {σ : L2.St} {H : Hp} {Q : VK} (q : tP G W (RO G) (mCallK n j F m mk) σ H Q) : tP G W (RL G) m σ H fun vs H1 => tP G W (RL G) mk σ H1 fun zs H2 => vs.length = n ∧ zs.length = j ∧ SpT G (n + j) F (vs ++ zs) H2 Q (WE W σ) := by
  obtain ⟨En, q⟩ := q
  obtain ⟨F0, q⟩ := q.bind (R1 := RL G En)
  refine ⟨En, q.mono fun vs H1 ⟨ts, F1, S1, fps1, hd1, sr, s, r, p⟩ => ?_⟩
  refine ⟨En, F1, S1, fps1, hd1, sr, (Post.bind (R1 := RL G En) p).mono (Same.refl _) fun zs H2 ⟨us, F2, S2, fps2, hd2, sr2, s2, r2, p2⟩ => ?_⟩
  dsimp only at p2
  split at p2
  · rename_i hl
    exact ⟨by rw [← Reps.length r]; exact hl.1, by rw [← Reps.length r2]; exact hl.2, app_ok sr2 ((Reps.mono s2 ts vs r).append r2) p2⟩
  · exact p2.elim
theorem jo_callK {ks : List Str} {kws : List Keyword} {mk : M (List T)} (hg : Gl X x) (hm : X.mg x = some (.ref f)) (hk : PySem.W.keepIn X.K (.ref f) = true) (hc : CalK X W (.ref f) n ks (SpT G (n + ks.length) F)) (ha : JL G X W (e :: es) m) (hkw : JK G X W kws mk)
    (hall : (backToKw pos (keywordEach kws X.env)).all (·.1.isSome) = true) (hks : (backToKw pos (keywordEach kws X.env)).filterMap (·.1) = ks) (hdb : (x == ("__debug__" : Str)) = false)
    (he : starEach (e :: es) X.env = (false, eval e X.env) :: starEach es X.env) (hpl : ((backTo pos (starEach (e :: es) X.env)).any (·.1) || (backToKw pos (keywordEach kws X.env)).any (·.1.isNone)) = false) :
    JO G X W (.Call (.Name x p) (e :: es) kws pos) (mCallK n ks.length F m mk) := ⟨fun pins s σ H Q I h => by
  refine wpAny_Call_Name_kw (ld_glob I hg hm ?_ hdb)
  refine PySem.W.callWith_KW (h₀ := X.base) I.ok.mod.kin hk hall (thn (ha.run pos pins s σ H _ I (callK_step h)) fun us s1 ⟨vs, H1, I1, r, q⟩ => ?_) hpl he
  refine thn (hkw.run pos pins s1 σ H1 _ I1 q) fun ws s2 ⟨zs, H2, I2, rz, l1, l2, q2⟩ => ⟨I2.kIn, ?_⟩
  rw [hks]
  exact hc pins s2 σ H2 us ws vs zs Q I2 r rz l1 l2 q2⟩
end

/-! ### instances: fields, methods -/
theorem RepF.lookup {ha : HA} {F : Hp} {f : Str} : ∀ {fs : List (Str × T)} {us : List (Str × V)}, RepF G ha F fs us → (∀ t, fs.lookup f = some t → ∃ v, us.lookup f = some v ∧ Rep G ha F t v) ∧ (fs.lookup f = none → us.lookup f = none)
  | [], us, h => by
    simp only [RepF] at h
    subst h
    exact ⟨fun t e => (by cases e), fun _ => rfl⟩
  | (n, x) :: fs, us, h => by
    simp only [RepF] at h
    obtain ⟨u, r, rfl, h1, h2⟩ := h
    obtain ⟨i1, i2⟩ := RepF.lookup (f := f) h2
    simp only [List.lookup_cons]
    cases f == n with
    | true => exact ⟨fun t e => (by cases e; exact ⟨u, rfl, h1⟩), fun e => (by cases e)⟩
    | false => exact ⟨i1, i2⟩
/-- the class C has the field f as a plain one -/
def FldOk (G : Gd) (ok : Str → Bool) (f : Str) : Prop := ∀ C, ok C = true → Cls G.K (G.ca C) ∧ NoAttr G.K (G.ca C) f
def fldT (ok : Str → Bool) (f : Str) : T → Option T
  | .ins C fs => if ok C = true then fs.lookup f else none
  | _ => none
def mFld (ok : Str → Bool) (f : Str) (m : M T) : M T := M.bind m fun t => M.lift (fldT ok f t)
theorem je_fld {e : Expr} {f : Str} {pos : Pos} {m : M T} {ok : Str → Bool} (hK : X.K = G.K) (hok : FldOk G ok f) (h : JB G X W e m) (hb : attributeBase e f X.env (eval e X.env) = eval e X.env) : JE G X W (.Attribute e f pos) (mFld ok f m) :=
  PE.imp (pe_fld h hb) fun σ H Q q => by
    obtain ⟨En, q⟩ := q
    obtain ⟨F0, q⟩ := q.bind (R1 := RB G En)
    refine ⟨En, q.mono fun v H1 ⟨t, F1, S1, fps1, hd1, sr, s, rt, p⟩ => ?_⟩
    obtain ⟨u, e, p1⟩ := p.lift
    cases t <;> simp only [fldT] at e <;> try cases e
    rename_i C fs
    split at e
    · rename_i hC
      obtain ⟨a, dx, us, rfl, ha, rf⟩ := rt
      obtain ⟨w, e1, r1⟩ := (RepF.lookup rf).1 u e
      obtain ⟨c, na⟩ := hok C hC
      rw [hK]
      exact ⟨a, G.ca C, dx, us, w, rfl, ha, c, na, e1, p1.ok sr (Same.refl _) r1⟩
    · cases e
/-- o.m(..) by the class of o -/
def MtOk (G : Gd) (X : Cx) (W : WX) (mt : Str → Option (Nat × Fn)) (nm : Str) : Prop := ∀ C n F, mt C = some (n, F) → Cls G.K (G.ca C) ∧ ∃ f, Meth G.K (G.ca C) nm f ∧ CalV X W (.ref f) (SpT G (n + 1) F)
def mMeth (mt : Str → Option (Nat × Fn)) (nm : Str) (mo : M T) (m : M (List T)) : M OT := M.bind mo fun t => match t with
  | .ins C fs => match mt C with
    | some (n, F) => if fs.lookup nm = none then M.bind m fun ts => mApp (n + 1) F (.ins C fs :: ts) else M.stuck
    | none => M.stuck
  | _ => M.stuck
theorem meth_step {mt : Str → Option (Nat × Fn)} {nm : Str} {mo : M T} {m : M (List T)} {σ : L2.St} {H : Hp} {Q : VK} (hok : MtOk G X W mt nm) (q : tP G W (RO G) (mMeth mt nm mo m) σ H Q) : tP G W (RE G) mo σ H fun x H1 => ∃ a C dx us f sp, x = .ref a ∧ H1 a = some (.ins C dx us) ∧
    Cls G.K C ∧ Meth G.K C nm f ∧ us.lookup nm = none ∧ CalV X W (.ref f) sp ∧ tP G W (RL G) m σ H1 fun vs H2 => sp (x :: vs) H2 Q (WE W σ) := by
  obtain ⟨En, q⟩ := q
  obtain ⟨F0, q⟩ := q.bind (R1 := RE G En)
  refine ⟨En, q.mono fun v H1 ⟨t, F1, S1, fps1, hd1, sr, s, rt, p⟩ => ?_⟩
  cases t <;> try exact p.elim
  rename_i C fs
  dsimp only at p
  rcases eF : mt C with _ | ⟨n, F⟩
  · rw [eF] at p
    exact p.elim
  · rw [eF] at p
    dsimp only at p
    split at p
    · rename_i hl
      have rt0 : Rep G En.ha F1 (.ins C fs) v := rt
      simp only [RE, Rep] at rt
      obtain ⟨a, dx, us, rfl, ha, rf⟩ := rt
      obtain ⟨c, f, hm, hc⟩ := hok C n F eF
      refine ⟨a, G.ca C, dx, us, f, _, rfl, sr.sub _ _ ha, c, hm, (RepF.lookup rf).2 hl, hc, En, F1, S1, fps1, hd1, sr, (Post.bind (R1 := RL G En) p).mono (Same.refl _) fun vs H2 ⟨ts, F2, S2, fps2, hd2, sr2, s2, r2, p2⟩ => ?_⟩
      exact app_ok sr2 (by simp only [Reps]; exact ⟨.ref a, vs, rfl, Rep.mono s2 _ _ rt0, r2⟩) p2
    · exact p.elim
section
variable {o e : Expr} {es : List Expr} {nm : Str} {apos pos : Pos} {mt : Str → Option (Nat × Fn)} {mo : M T} {m : M (List T)}
theorem jo_meth {pl : Sem Bool} (hK : X.K = G.K) (hok : MtOk G X W mt nm) (ho : JE G X W o mo) (ha : JL G X W (e :: es) m) (hst : starEach (e :: es) X.env = (false, eval e X.env) :: starEach es X.env) (hpl : (backTo pos (starEach es X.env)).any (·.1) = false)
    (ht : eval (.Call (.Attribute o nm apos) (e :: es) [] pos) X.env = (do
      let ov ← eval o X.env
      standAt apos.atName
      let (f, first) ← holding [ov] (getMethod ov nm pl)
      callWith pos f first (backTo pos (starEach (e :: es) X.env)) (backToKw pos (keywordEach [] X.env)))) : JO G X W (.Call (.Attribute o nm apos) (e :: es) [] pos) (mMeth mt nm mo m) := ⟨fun pins s σ H Q I h => by
  refine PySem.W.methodCall_KW (pl := pl) (thn (ho.run pins s σ H _ I (meth_step hok h)) fun u s1 ⟨x, H1, I1, rx, a, C, dx, fs, f, sp, ex, ea, c, hm, l, hc, q⟩ => ?_) ht
  subst ex
  obtain rfl : u = Value.ref a := rx
  rw [← hK] at c hm
  refine getmeth_ok I1 ea c hm l ?_
  refine PySem.W.callWith_K (first := [.ref a]) (h₀ := X.base) I.ok.mod.kin hm.kp (thn (ha.run pos pins s1 σ H1 _ I1 q) fun us s2 ⟨vs, H2, I2, r, q2⟩ => ⟨I2.kIn, ?_⟩) hst hpl
  exact hc pins s2 σ H2 (.ref a :: us) (.ref a :: vs) Q I2 (.cons rfl r) q2⟩
theorem jo_meth0 {pl : Sem Bool} (hK : X.K = G.K) (hok : MtOk G X W mt nm) (ho : JE G X W o mo)
    (ht : eval (.Call (.Attribute o nm apos) [] [] pos) X.env = (do
      let ov ← eval o X.env
      standAt apos.atName
      let (f, first) ← holding [ov] (getMethod ov nm pl)
      callWith pos f first (backTo pos (starEach [] X.env)) (backToKw pos (keywordEach [] X.env)))) : JO G X W (.Call (.Attribute o nm apos) [] [] pos) (mMeth mt nm mo (M.ret [])) := ⟨fun pins s σ H Q I h => by
  refine PySem.W.methodCall_KW (pl := pl) (thn (ho.run pins s σ H _ I (meth_step hok h)) fun u s1 ⟨x, H1, I1, rx, a, C, dx, fs, f, sp, ex, ea, c, hm, l, hc, q⟩ => ?_) ht
  subst ex
  obtain rfl : u = Value.ref a := rx
  rw [← hK] at c hm
  refine getmeth_ok I1 ea c hm l ?_
  refine PySem.W.callWith_K0 (first := [.ref a]) I1.kIn hm.kp (hc pins s1 σ H1 [.ref a] [.ref a] Q I1 (.cons rfl .nil) ?_)
  obtain ⟨En, F0, S, fps, hd, sr, q⟩ := q
  exact q.ok sr (Same.refl _) (by simp only [RL, Reps])⟩
end

/-! ### self.f = e in an __init__ -/
def putT (f : Str) (t : T) : List (Str × T) → List (Str × T)
  | [] => [(f, t)]
  | p :: r => if p.1 = f then (f, t) :: r else p :: putT f t r
end
end TL
namespace TL
open PySem PySem.Spec PyProof.Rows L2
section
variable {G : Gd} {X : Cx} {W : WX} {En : Ent} {σ : L2.St} {H F : Hp} {S : Slots} {fps : Nat → List Addr} {hd : Hd}
/-! ### an own object is changed -/
theorem SR.mut (R : SR G En σ H F S fps hd) {i : Nat} {ot ot' : OT} {a : Addr} {o : HO} {v : V} (e : S[i]? = some (some ot)) (ef : fps i = [a]) (hv : σ[i]? = some (some v)) (hx : ∀ c q, H a ≠ some (LamX.CodeO c q))
    (ro : RepO G En.ha F (upd H a o) ot' v [a]) (hO : ∀ C fs, ot' = .o C fs → ∃ C' fs', ot = .o C' fs') : SR G En σ (upd H a o) F (S.set i (some ot')) fps hd := by
  have am : a ∈ fps i := by rw [ef]; exact List.mem_cons_self
  obtain ⟨fa, na, nh, w⟩ := R.own i a am
  have hi : i < S.length := by
    rcases List.getElem?_eq_some_iff.mp e with ⟨q, _⟩
    exact q
  have k : ∀ b o', b ≠ a → H b = some o' → upd H a o b = some o' := fun b o' n q => by rw [upd_ne n]; exact q
  exact {
    len := by rw [List.length_set]; exact R.len
    slot := fun j o' e' => by
      by_cases c : j = i
      · subst c
        rw [List.getElem?_set_self hi] at e'
        cases e'
        exact ⟨v, hv, by rw [ef]; exact ro⟩
      · rw [List.getElem?_set_ne (Ne.symm c)] at e'
        obtain ⟨v', g1, g3⟩ := R.slot j o' e'
        exact ⟨v', g1, RepO.mono (Same.refl _) o' v' _ (fun b m o q => k b o (fun z => R.dj j i b c m (by rw [z]; exact am)) q) g3⟩
    nd := R.nd
    dj := R.dj
    own := fun j b m => by
      obtain ⟨g1, g2, g3, g4⟩ := R.own j b m
      refine ⟨g1, ?_, g3, g4⟩
      by_cases c : b = a
      · rw [c, upd_same]; simp
      · rw [upd_ne c]; exact g2
    sub := fun b o' q => k b o' (fun z => by rw [z, fa] at q; cases q) (R.sub b o' q)
    sub0 := R.sub0
    fnew := R.fnew
    kp := fun b o' q h1 h2 => k b o' (fun z => by
      rcases w with w | w
      · rw [z, w] at q; cases q
      · exact h1 (by rw [z]; exact w)) (R.kp b o' q h1 h2)
    hand := R.hand.put nh hx
    slf := fun j C fs e' => by
      by_cases c : j = i
      · subst c
        rw [List.getElem?_set_self hi] at e'
        cases e'
        obtain ⟨C', fs', z⟩ := hO _ _ rfl
        subst z
        exact R.slf j _ _ e
      · rw [List.getElem?_set_ne (Ne.symm c)] at e'
        exact R.slf j C fs e'
    tbE := R.tbE }
theorem code_lst {c : Addr} {q : Str} {xs : List V} : some (HO.lst xs) ≠ some (LamX.CodeO c q) := fun z => by
  unfold LamX.CodeO at z
  cases z
theorem code_ins {c C dx : Addr} {q : Str} {fs : List (Str × V)} : some (HO.ins C dx fs) ≠ some (LamX.CodeO c q) := fun z => by
  unfold LamX.CodeO at z
  cases z
/-- an own flat list in the slot i -/
theorem SR.own_f (R : SR G En σ H F S fps hd) {i : Nat} {xs : List T} (e : S[i]? = some (some (.f xs))) : ∃ a us, σ[i]? = some (some (.ref a)) ∧ H a = some (.lst us) ∧ fps i = [a] ∧ Reps G En.ha F xs us ∧ F a = none := by
  obtain ⟨v, hv, r⟩ := R.slot i _ e
  simp only [RepO] at r
  obtain ⟨a, us, rfl, ha, ef, r⟩ := r
  exact ⟨a, us, hv, ha, ef, r, (R.own i a (by rw [ef]; exact List.mem_cons_self)).1⟩

/-! ### methods that change a list -/
abbrev MOp := List T → List T → Option (T × List T)
def MutS (G : Gd) (op : MOp) (r : V → List V → Hp → VK → Prop) : Prop := ∀ (ha : HA) (xs args : List T) (t : T) (xs' : List T) (H F : Hp) (a : Addr) (us vs : List V) (Q : VK), op xs args = some (t, xs') → Same F H → H a = some (.lst us) → F a = none →
  Reps G ha F xs us → Reps G ha F args vs → (∀ us' v, Reps G ha F xs' us' → Rep G ha F t v → Q v (upd H a (.lst us'))) → r (.ref a) vs H Q
def mMut (i : Nat) (op : MOp) (m : M (List T)) : M T := fun S hd => match S[i]? with
  | some (some (.f _)) => M.bind m (fun args S2 hd2 => match S2[i]? with
    | some (some (.f xs)) => match op xs args with
      | some (t, xs') => some (.ok t, S2.set i (some (.f xs')), hd2)
      | none => none
    | _ => none) S hd
  | _ => none
theorem mut_step {i : Nat} {op : MOp} {m : M (List T)} {r : V → List V → Hp → VK → Prop} {Q : VK} (sp : MutS G op r) (q : tP G W (RE G) (mMut i op m) σ H Q) :
    ∃ a, σ[i]? = some (some (.ref a)) ∧ (∃ us, SqL X.K H a us) ∧ tP G W (RL G) m σ H fun vs H2 => r (.ref a) vs H2 Q := by
  obtain ⟨En, F, S, fps, hd, sr, p⟩ := q
  unfold mMut at p
  split at p
  · rename_i xs0 e0
    obtain ⟨a, us0, hv, ha, _, _, _⟩ := sr.own_f e0
    refine ⟨a, hv, ⟨us0, .of ha⟩, En, F, S, fps, hd, sr, (Post.bind (R1 := RL G En) p).mono (Same.refl _) fun vs H2 ⟨args, F2, S2, fps2, hd2, sr2, s2, r2, p⟩ => ?_⟩
    dsimp only at p
    split at p
    · rename_i xs e1
      obtain ⟨a', us, hv', ha', ef, rx, fa⟩ := sr2.own_f e1
      rw [hv] at hv'
      cases hv'
      split at p
      · rename_i t xs' e2
        refine sp En.ha xs args t xs' H2 F2 a us vs Q e2 sr2.sub ha' fa rx r2 fun us' v r3 r4 => ?_
        have sr3 := sr2.mut (ot' := .f xs') (o := .lst us') e1 ef hv (fun c q => by rw [ha']; exact code_lst) (by simp only [RepO]; exact ⟨a, us', rfl, upd_same, rfl, r3⟩) (fun C fs z => by cases z)
        exact p v _ F2 fps2 sr3 (Same.refl _) r4
      · exact p.elim
    · exact p.elim
  · exact p.elim
section
variable {i : Nat} {op : MOp} {m : M (List T)} {r : V → List V → Hp → VK → Prop} {x name : Str} {np apos cpos : Pos} {id : String} {e : Expr} {es : List Expr}
theorem je_mut (slot : Slot "list" name id) (hty : typeOf (.builtin id) = pure (.type "method_descriptor")) (hm : MtR X id r) (sp : MutS G op r) (ho : PE X (.Name x np) (tVar i)) (ha : JL G X W (e :: es) m)
    (hbase : attributeBase (.Name x np) name X.env (eval (.Name x np) X.env) = eval (.Name x np) X.env)
    (hfew : ((backTo cpos (starEach (e :: es) X.env)).all (fun x => !x.1) && (backToKw cpos (keywordEach [] X.env)).all (fun x => x.1.isSome)
      && decide ((e :: es).length + ([] : List Keyword).length + (if ([] : List Keyword).isEmpty then 0 else 1) < 30)) = true)
    (hline : (apos.endLine == cpos.line) = true) (hs : starEach (e :: es) X.env = (false, eval e X.env) :: starEach es X.env) (hplain : (backTo cpos (starEach es X.env)).any (·.1) = false) :
    JE G X W (.Call (.Attribute (.Name x np) name apos) (e :: es) [] cpos) (mMut i op m) := PE.imp (pe_bm PySem.F.plainAttrs_list slot hty hm ho ha hbase hfew hline hs hplain) fun σ H Q q => by
  obtain ⟨a, hv, hl, q⟩ := mut_step (X := X) sp q
  exact ⟨.ref a, hv, .inl ⟨rfl, hl⟩, q⟩
theorem je_mut0 (slot : Slot "list" name id) (hty : typeOf (.builtin id) = pure (.type "method_descriptor")) (hm : MtR X id r) (sp : MutS G op r) (ho : PE X (.Name x np) (tVar i))
    (hbase : attributeBase (.Name x np) name X.env (eval (.Name x np) X.env) = eval (.Name x np) X.env) (hline : (apos.endLine == cpos.line) = true) :
    JE G X W (.Call (.Attribute (.Name x np) name apos) [] [] cpos) (mMut i op (M.ret [])) := PE.imp (pe_bm0 PySem.F.plainAttrs_list slot hty hm ho hbase hline) fun σ H Q q => by
  obtain ⟨a, hv, hl, En, F, S, fps, hd, sr, q⟩ := mut_step (X := X) sp q
  exact ⟨.ref a, hv, .inl ⟨rfl, hl⟩, q.ok sr (Same.refl _) (by simp only [RL, Reps])⟩
end
def opAppend : MOp := fun xs args => match args with
  | [t] => if xs.length < 10000 then some (.non, xs ++ [t]) else none
  | _ => none
theorem Reps.snoc {ha : HA} {F : Hp} {ts : List T} {vs : List V} {t : T} {v : V} (h : Reps G ha F ts vs) (r : Rep G ha F t v) : Reps G ha F (ts ++ [t]) (vs ++ [v]) := h.append (by simp only [Reps]; exact ⟨v, [], rfl, r, rfl⟩)
theorem sp_append : MutS G opAppend rAppend := fun ha xs args t xs' H F a us vs Q e s hH fa rx ra k => by
  unfold opAppend at e
  split at e
  · rename_i y
    split at e
    · rename_i hl
      cases e
      obtain ⟨w, rfl, rw'⟩ := Reps.one ra
      exact ⟨a, us, w, rfl, rfl, hH, by rw [← Reps.length rx, sizeLine_eq]; omega, k _ _ (rx.snoc rw') (by simp only [Rep])⟩
    · cases e
  · cases e
def opExtend : MOp := fun xs args => match args with
  | [.lst zs] => if xs.length + zs.length < 10000 then some (.non, xs ++ zs) else none
  | _ => none
theorem sp_extend : MutS G opExtend rExtend := fun ha xs args t xs' H F a us vs Q e s hH fa rx ra k => by
  unfold opExtend at e
  split at e
  · rename_i zs
    split at e
    · rename_i hl
      cases e
      obtain ⟨w, rfl, rw'⟩ := Reps.one ra
      simp only [Rep] at rw'
      obtain ⟨b, ws, rfl, hb, rz⟩ := rw'
      exact ⟨a, b, us, ws, rfl, rfl, hH, s _ _ hb, by rw [← Reps.length rx, ← Reps.length rz, sizeLine_eq]; omega, k _ _ (rx.append rz) (by simp only [Rep])⟩
    · cases e
  · cases e
theorem Reps.eraseIdx {ha : HA} {F : Hp} : ∀ {ts : List T} {vs : List V} (k : Nat), Reps G ha F ts vs → Reps G ha F (ts.eraseIdx k) (vs.eraseIdx k)
  | [], vs, k, h => by simp only [Reps] at h; subst h; simp only [List.eraseIdx_nil, Reps]
  | t :: ts, vs, 0, h => by
    simp only [Reps] at h
    obtain ⟨u, r, rfl, h1, h2⟩ := h
    exact h2
  | t :: ts, vs, k + 1, h => by
    simp only [Reps] at h
    obtain ⟨u, r, rfl, h1, h2⟩ := h
    simp only [List.eraseIdx_cons_succ, Reps]
    exact ⟨u, _, rfl, h1, Reps.eraseIdx k h2⟩
def opPopAt : MOp := fun xs args => match args with
  | [.int i] => if 0 ≤ i ∧ i < 10000 then match xs[i.toNat]? with
    | some t => some (t, xs.eraseIdx i.toNat)
    | none => none
    else none
  | _ => none
theorem sp_popAt : MutS G opPopAt rPopAt := fun ha xs args t xs' H F a us vs Q e s hH fa rx ra k => by
  unfold opPopAt at e
  split at e
  · rename_i i
    split at e
    · rename_i hi
      split at e
      · rename_i t0 ht
        cases e
        obtain ⟨w, rfl, rw'⟩ := Reps.one ra
        simp only [Rep] at rw'
        subst rw'
        obtain ⟨v, hv, rv⟩ := Reps.get rx ht
        have hlt : i.toNat < us.length := by
          rcases List.getElem?_eq_some_iff.mp hv with ⟨q, _⟩
          exact q
        refine ⟨a, us, i, i.toNat, v, rfl, rfl, hH, by omega, by omega, ?_, hv, k _ _ (Reps.eraseIdx _ rx) rv⟩
        unfold seqIndex?
        have h1 : ¬ i < 0 := by omega
        have h2 : (0 : Int) ≤ i := hi.1
        have h3 : i < (us.length : Int) := by omega
        simp [h1, h2, h3]
      · cases e
    · cases e
  · cases e

/-! ### xs[k] = e -/
def setT (xs : List T) (k v : T) : Option (List T) := match k with
  | .int i => match ixN xs.length i with
    | some j => some (xs.set j v)
    | none => none
  | _ => none
def sSub (i : Nat) (mk mv : M T) : Stm := sBind mv fun v S hd => match S[i]? with
  | some (some (.f _)) => sBind mk (fun k S2 hd2 => match S2[i]? with
    | some (some (.f xs)) => match setT xs k v with
      | some xs' => some (.next, S2.set i (some (.f xs')), hd2)
      | none => none
    | _ => none) S hd
  | _ => none
theorem Reps.set {ha : HA} {F : Hp} {t : T} {v : V} (r : Rep G ha F t v) : ∀ {ts : List T} {vs : List V} (k : Nat), Reps G ha F ts vs → Reps G ha F (ts.set k t) (vs.set k v)
  | [], vs, k, h => by simp only [Reps] at h; subst h; simp only [List.set_nil, Reps]
  | t0 :: ts, vs, 0, h => by
    simp only [Reps] at h
    obtain ⟨u, q, rfl, h1, h2⟩ := h
    simp only [List.set_cons_zero, Reps]
    exact ⟨v, q, rfl, r, h2⟩
  | t0 :: ts, vs, k + 1, h => by
    simp only [Reps] at h
    obtain ⟨u, q, rfl, h1, h2⟩ := h
    simp only [List.set_cons_succ, Reps]
    exact ⟨u, _, rfl, h1, Reps.set r k h2⟩
theorem PostS.bind {α β : Type} {R : RR α β} {m : M α} {k : α → Stm} {D : Ends} (p : PostS G W En F (sBind m k S hd) D) :
    Post G En W R σ F (m S hd) fun b H1 => ∃ a F1 S1 fps1 hd1, SR G En σ H1 F1 S1 fps1 hd1 ∧ Same F F1 ∧ R fps1 F1 H1 a b ∧ PostS G W En F1 (k a S1 hd1) D := by
  unfold sBind at p
  rcases e : m S hd with _ | ⟨o, S1, hd1⟩ <;> rw [e] at p
  · exact p
  · cases o with
    | ok a => exact fun b H' F' fps' sr' s r => ⟨a, F', S1, fps', hd1, sr', s, r, p.mono s⟩
    | ex C fs => exact fun d H' F' fps' sr' s r => p d σ H' F' fps' sr' s r
theorem js_sub {i : Nat} {x : Str} {np sp pos : Pos} {ix e : Expr} {mk mv : M T} (ho : PE X (.Name x np) (tVar i)) (hk : JE G X W ix mk) (hv : JE G X W e mv)
    (ha : ∀ v, assign (.Subscript (.Name x np) ix sp) X.env v = (do
      let ov ← holding [v] (eval (.Name x np) X.env)
      let iv ← holding [v, ov] (eval ix X.env)
      standAt sp
      holding [v, ov, iv] (setItem ov iv v)
      release [v, ov, iv] []))
    (hs : swapsWithSole [.Subscript (.Name x np) ix sp] e pos.line X.env = pure false) (hw : swappedStores [.Subscript (.Name x np) ix sp] e X.env = pure none) (h1 : (assignEach [.Subscript (.Name x np) ix sp] X.env).map (·.2) = [assign (.Subscript (.Name x np) ix sp) X.env]) :
    JS G X W (.Assign [.Subscript (.Name x np) ix sp] e pos) (sSub i mk mv) := PS.imp (ps_asg hv (pg_sub ho hk set_list ha) hs hw h1) fun D σ H q => by
  obtain ⟨En, q⟩ := q
  obtain ⟨F0, q⟩ := sBind_step (R := RE G En) q
  refine ⟨En, q.mono fun v H1 ⟨t, F1, S1, fps1, hd1, sr, s, r, p⟩ => ?_⟩
  split at p
  · rename_i xs0 e0
    obtain ⟨a, us0, hv, ha, _, _, _⟩ := sr.own_f e0
    refine ⟨.ref a, hv, En, F1, S1, fps1, hd1, sr, (PostS.bind (R := RE G En) p).mono (Same.refl _) fun w H2 ⟨k, F2, S2, fps2, hd2, sr2, s2, r2, p⟩ => ?_⟩
    split at p
    · rename_i xs e1
      obtain ⟨a', us, hv', ha', ef, rx, fa⟩ := sr2.own_f e1
      rw [hv] at hv'
      cases hv'
      split at p
      · rename_i xs' e2
        unfold setT at e2
        split at e2
        · rename_i i0
          split at e2
          · rename_i j ej
            cases e2
            simp only [RE, Rep] at r2
            refine ⟨a, us, i0, j, rfl, r2, ha', by rw [← Reps.length rx]; exact ej, ?_⟩
            have sr3 := sr2.mut (ot' := .f (xs.set j t)) (o := .lst (us.set j v)) e1 ef hv (fun c q => by rw [ha']; exact code_lst) (by simp only [RepO]; exact ⟨a, _, rfl, upd_same, rfl, Reps.set (Rep.mono s2 t v r) j rx⟩) (fun C fs z => by cases z)
            exact p σ _ F2 fps2 sr3 (Same.refl _)
          · cases e2
        · cases e2
      · exact p.elim
    · exact p.elim
  · exact p.elim

/-! ### self.f = e in an __init__ -/
theorem RepF.put {ha : HA} {F : Hp} {f : Str} {t : T} {v : V} (r : Rep G ha F t v) : ∀ {fs : List (Str × T)} {us : List (Str × V)}, RepF G ha F fs us → RepF G ha F (putT f t fs) (putF f v us)
  | [], us, h => by
    simp only [RepF] at h
    subst h
    simp only [putT, putF, RepF]
    exact ⟨v, [], rfl, r, rfl⟩
  | (n, x) :: fs, us, h => by
    simp only [RepF] at h
    obtain ⟨u, q, rfl, h1, h2⟩ := h
    simp only [putT, putF]
    by_cases c : n = f
    · rw [if_pos c, if_pos c, c]
      simp only [RepF]
      exact ⟨v, q, rfl, r, h2⟩
    · rw [if_neg c, if_neg c]
      simp only [RepF]
      exact ⟨u, _, rfl, h1, RepF.put r h2⟩
theorem RepF.length {ha : HA} {F : Hp} : ∀ {fs : List (Str × T)} {us : List (Str × V)}, RepF G ha F fs us → fs.length = us.length
  | [], us, h => by simp only [RepF] at h; rw [h]; rfl
  | (n, x) :: fs, us, h => by
    simp only [RepF] at h
    obtain ⟨u, q, rfl, h1, h2⟩ := h
    rw [List.length_cons, List.length_cons, RepF.length h2]
def sFldI (ok : Str → Bool) (i : Nat) (f : Str) (m : M T) : Stm := sBind m fun t S hd => match S[i]? with
  | some (some (.o C fs)) => if ok C = true ∧ fs.length < 1000 then some (.next, S.set i (some (.o C (putT f t fs))), hd) else none
  | _ => none
theorem js_fldI {ok : Str → Bool} {i : Nat} {x f : Str} {np p' pos : Pos} {e : Expr} {m : M T} (hK : X.K = G.K) (hok : FldOk G ok f) (ho : PE X (.Name x np) (tVar i)) (he : JE G X W e m)
    (hs : swapsWith e (some (.Attribute (.Name x np) f p')) pos.line X.env = pure false) : JS G X W (.Assign [.Attribute (.Name x np) f p'] e pos) (sFldI ok i f m) := PS.imp (ps_fld ho he hs) fun D σ H q => by
  obtain ⟨En, q⟩ := q
  obtain ⟨F0, q⟩ := sBind_step (R := RE G En) q
  refine ⟨En, q.mono fun v H1 ⟨t, F1, S1, fps1, hd1, sr, s, r, p⟩ => ?_⟩
  split at p
  · rename_i C fs e0
    split at p
    · rename_i hC
      obtain ⟨w, hv, ro⟩ := sr.slot i _ e0
      simp only [RepO] at ro
      obtain ⟨a, dx, us, rfl, ha, ef, rf⟩ := ro
      obtain ⟨c, na⟩ := hok C hC.1
      rw [hK]
      refine ⟨.ref a, hv, a, G.ca C, dx, us, rfl, ha, c, na, by rw [← RepF.length rf]; exact hC.2, ?_⟩
      have sr3 := sr.mut (ot' := .o C (putT f t fs)) (o := .ins (G.ca C) dx (putF f v us)) e0 ef hv (fun c q => by rw [ha]; exact code_ins) (by simp only [RepO]; exact ⟨a, dx, _, rfl, upd_same, rfl, RepF.put r rf⟩) (fun C fs z => by cases z; exact ⟨_, _, rfl⟩)
      exact p _ _ F1 fps1 sr3 (Same.refl _)
    · exact p.elim
  · exact p.elim
end
end TL
namespace TL
open PySem PySem.Spec PyProof.Rows L2
section
variable {G : Gd} {X : Cx} {W : WX}
theorem RepB.lst {ha : HA} {H F : Hp} {xs : List T} {v : V} (h : RepB G ha F H (.lst xs) v) : ∃ a us, v = .ref a ∧ H a = some (.lst us) ∧ Reps G ha F xs us := h
theorem Conts.here' {ha : HA} {H F : Hp} {hd : Hd} {Q : VK} {t : T} {v : V} (c : Conts G ha H F hd Q (.v t)) (s : Same F H) (h : HandAt H F ha hd) (r : Rep G ha F t v) : Q v H := c.here s h r
/-- a new tuple, a new list -/
theorem Conts.tup {ha : HA} {H F : Hp} {hd : Hd} {Q : VK} {ts : List T} {vs : List V} {p : Addr} (c : Conts G ha H F hd Q (.v (.tup ts))) (s : Same F H) (h : HandAt H F ha hd) (hp : H p = none) (r : Reps G ha F ts vs) : Q (.ref p) (upd H p (.tup vs)) :=
  c.laid s h hp fun sF => by
    simp only [Rep]
    exact ⟨p, vs, rfl, .of upd_same, Reps.mono sF _ _ r⟩
/-! ### + -/
def addT (a b : T) : Option OT := match a, b with
  | .int i, .int j => some (.v (.int (i + j)))
  | .str i, .str j => if i.length + j.length ≤ 1000000 then some (.v (.str (i ++ j))) else none
  | .tup xs, .tup ys => if xs.length + ys.length ≤ 100000 then some (.v (.tup (xs ++ ys))) else none
  | .lst xs, .lst ys => if xs.length + ys.length ≤ 100000 then some (.f (xs ++ ys)) else none
  | _, _ => none
def rAddA (K : PySem.W.Frag) : R2 := fun x y H Q => rI0 (fun i j => .int (i + j)) x y H Q ∨ (∃ i j, x = .str i ∧ y = .str j ∧ i.length + j.length ≤ sizeLine ∧ Q (.str (i ++ j)) H) ∨ rCatA K x y H Q ∨ rCat x y H Q
theorem op_addA : OpR X (binaryOp .Add) (rAddA X.K) := op_add.or (op_add_str.or (op_catA.or op_cat))
theorem sp_add : OpS G addT (rAddA G.K) := fun ha t1 t2 t H F v1 v2 hd Q e s h r1 r2 c => by
  unfold addT at e
  split at e
  · cases e
    exact .inl ⟨_, _, RepB.int r1, RepB.int r2, c.here s h (by simp only [Rep])⟩
  · split at e
    · rename_i hl
      cases e
      exact .inr (.inl ⟨_, _, RepB.str r1, RepB.str r2, by rw [sizeLine_eq]; omega, c.here s h (by simp only [Rep])⟩)
    · cases e
  · rename_i xs ys
    split at e
    · rename_i hl
      cases e
      obtain ⟨a, us, rfl, q1, rx⟩ := RepB.tup r1
      obtain ⟨b, ws, rfl, q2, ry⟩ := RepB.tup r2
      have l1 := Reps.length rx
      have l2 := Reps.length ry
      refine .inr (.inr (.inl ⟨a, b, us, ws, rfl, rfl, sqT_mono s q1, sqT_mono s q2, by rw [sizeLine_eq]; omega, fun e => ?_, fun e1 e2 => ?_, fun e1 e2 p hp => ?_⟩))
      · subst e
        have : xs = [] := List.eq_nil_of_length_eq_zero l1
        subst this
        exact c.here s h (by simp only [Rep, List.nil_append]; exact ⟨b, ws, rfl, q2, ry⟩)
      · subst e2
        have : ys = [] := List.eq_nil_of_length_eq_zero l2
        subst this
        exact c.here s h (by simp only [Rep, List.append_nil]; exact ⟨a, us, rfl, q1, rx⟩)
      · exact c.tup s h hp (rx.append ry)
    · cases e
  · split at e
    · rename_i hl
      cases e
      obtain ⟨a, us, rfl, q1, rx⟩ := RepB.lst r1
      obtain ⟨b, ws, rfl, q2, ry⟩ := RepB.lst r2
      have l1 := Reps.length rx
      have l2 := Reps.length ry
      exact .inr (.inr (.inr ⟨a, b, us, ws, rfl, rfl, q1, q2, by rw [sizeLine_eq]; omega, fun p hp => c.nw _ _ p rfl hp (rx.append ry)⟩))
    · cases e
  · cases e
/-! ### - * // % ** -/
def subT : T → T → Option OT := intI (fun _ _ => true) fun i j => i - j
theorem sp_sub : OpS G subT (rI0 fun i j => .int (i - j)) := fun ha t1 t2 t H F v1 v2 hd Q e s h r1 r2 c => by
  unfold subT intI at e
  split at e
  · rw [if_pos rfl] at e
    cases e
    exact ⟨_, _, RepB.int r1, RepB.int r2, c.here s h (by simp only [Rep])⟩
  · cases e
theorem Reps.rep {ha : HA} {F : Hp} {ts : List T} {vs : List V} (h : Reps G ha F ts vs) : ∀ k : Nat, Reps G ha F (List.replicate k ts).flatten (List.replicate k vs).flatten
  | 0 => by simp only [List.replicate_zero, List.flatten_nil, Reps]
  | k + 1 => by
    rw [List.replicate_succ, List.replicate_succ, List.flatten_cons, List.flatten_cons]
    exact h.append (Reps.rep h k)
/-- two numbers whose bits together are few enough -/
def MulFew (i j : Int) : Prop := i.natAbs.log2 + j.natAbs.log2 < 100000000
theorem MulFew.fits {i j : Int} (few : MulFew i j) : IntMulOk i j := fun both => by
  have one : ∀ z : Int, Builtin.Int.intBits z ≤ 1 + z.natAbs.log2 := fun z => by
    unfold Builtin.Int.intBits
    split <;> omega
  have li := one i
  have lj := one j
  have lim : bitsLine = 134217728 := by decide
  have far := (Bool.and_eq_true_iff.mp both).2
  unfold MulFew at few
  unfold Builtin.Int.intTooBig at far
  have far := of_decide_eq_true far
  rw [lim] at far
  omega
theorem op_mulF : OpR X (binaryOp .Mult) (rI MulFew fun i j => .int (i * j)) := opI fun _ _ _ _ _ _ _ few q => mul_int q few.fits
def mulT (a b : T) : Option OT := match a, b with
  | .int i, .int j => if i.natAbs.log2 + j.natAbs.log2 < 100000000 then some (.v (.int (i * j))) else none
  | .lst xs, .int j => if -1000 ≤ j ∧ j ≤ 1000 ∧ xs.length ≤ 1000 then some (.f (List.replicate j.toNat xs).flatten) else none
  | _, _ => none
def rMulA : R2 := fun x y H Q => rI MulFew (fun i j => .int (i * j)) x y H Q ∨ rRep x y H Q
theorem op_mulA : OpR X (binaryOp .Mult) rMulA := op_mulF.or op_rep
theorem sp_mul : OpS G mulT rMulA := fun ha t1 t2 t H F v1 v2 hd Q e s h r1 r2 c => by
  unfold mulT at e
  split at e
  · split at e
    · rename_i hl
      cases e
      exact .inl ⟨_, _, RepB.int r1, RepB.int r2, hl, c.here s h (by simp only [Rep])⟩
    · cases e
  · split at e
    · rename_i xs j hl
      cases e
      obtain ⟨a, us, rfl, q1, rx⟩ := RepB.lst r1
      have l1 := Reps.length rx
      refine .inr ⟨a, j, us, rfl, RepB.int r2, q1, by omega, by omega, ?_, fun p hp => c.nw _ _ p rfl hp (rx.rep _)⟩
      have h1 : us.length ≤ 1000 := by omega
      have h2 : j.toNat ≤ 1000 := by omega
      have := Nat.mul_le_mul h1 h2
      rw [sizeLine_eq]
      omega
    · cases e
  · cases e
def divOk (_ j : Int) : Bool := decide (0 < j ∧ j.natAbs.log2 < 9000)
def fdivT : T → T → Option OT := intI divOk fun i j => i / j
theorem sp_fdiv : OpS G fdivT (rI CDivW fun i j => .int (i / j)) := sp_intI fun i j h => by
  have := of_decide_eq_true h
  exact this
def modT : T → T → Option OT := intI (fun _ j => decide (0 < j)) fun i j => i % j
theorem sp_mod : OpS G modT (rI (fun _ j => 0 < j) fun i j => .int (i % j)) := sp_intI fun i j h => of_decide_eq_true h
def powOk (i j : Int) : Bool := decide (0 ≤ j ∧ j ≤ 1000000 ∧ i.natAbs < 2 ^ 64)
def powT : T → T → Option OT := intI powOk fun i j => i ^ j.toNat
theorem sp_pow : OpS G powT (rI CPow fun i j => .int (i ^ j.toNat)) := sp_intI fun i j h => by
  have := of_decide_eq_true h
  exact this
def negT : T → Option OT
  | .int i => some (.v (.int (-i)))
  | _ => none
theorem sp_neg : UnS G negT (rU fun i => .int (-i)) := fun ha t1 t H F v1 hd Q e s h r1 c => by
  unfold negT at e
  split at e
  · cases e
    exact ⟨_, RepB.int r1, c.here s h (by simp only [Rep])⟩
  · cases e
/-! ### a[i] -/
def ixT (a b : T) : Option OT := match a, b with
  | .lst xs, .int i => (atI xs i).map OT.v
  | .tup xs, .int i => (atI xs i).map OT.v
  | .str z, .int i => if z.length ≤ 100000 then (atI z.cps.toList i).map fun c => .v (.str ⟨#[c]⟩) else none
  | _, _ => none
def rIxA (K : PySem.W.Frag) : R2 := fun x y H Q => rIxL K x y H Q ∨ rIxT K x y H Q ∨ rIxS x y H Q
theorem ix_A : IxR X (fun x y H Q => rIxL X.K x y H Q ∨ (fun x y H Q => rIxT X.K x y H Q ∨ rIxS x y H Q) x y H Q) := ix_list.or (ix_tup.or ix_str)
theorem Reps.at {ha : HA} {F : Hp} {ts : List T} {vs : List V} {i : Int} {t : T} (r : Reps G ha F ts vs) (e : atI ts i = some t) : ∃ v, atI vs i = some v ∧ Rep G ha F t v := by
  unfold atI at e ⊢
  rw [← Reps.length r]
  cases q : ixN ts.length i with
  | none => rw [q] at e; cases e
  | some j =>
    rw [q] at e
    obtain ⟨v, ev, rv⟩ := Reps.get r (i := j) (t := t) e
    exact ⟨v, ev, rv⟩
theorem sp_ix : OpS G ixT (fun x y H Q => rIxL G.K x y H Q ∨ (fun x y H Q => rIxT G.K x y H Q ∨ rIxS x y H Q) x y H Q) := fun ha t1 t2 t H F v1 v2 hd Q e s h r1 r2 c => by
  unfold ixT at e
  split at e
  · rw [Option.map_eq_some_iff] at e
    obtain ⟨u, e, rfl⟩ := e
    obtain ⟨a, us, rfl, q1, rx⟩ := RepB.lst r1
    obtain ⟨v, ev, rv⟩ := rx.at e
    exact .inl ⟨a, us, _, v, rfl, RepB.int r2, .of q1, ev, c.here s h rv⟩
  · rw [Option.map_eq_some_iff] at e
    obtain ⟨u, e, rfl⟩ := e
    obtain ⟨a, us, rfl, q1, rx⟩ := RepB.tup r1
    obtain ⟨v, ev, rv⟩ := rx.at e
    exact .inr (.inl ⟨a, us, _, v, rfl, RepB.int r2, sqT_mono s q1, ev, c.here s h rv⟩)
  · split at e
    · rename_i z i hz
      rw [Option.map_eq_some_iff] at e
      obtain ⟨u, e, rfl⟩ := e
      exact .inr (.inr ⟨z, i, u, RepB.str r1, RepB.int r2, by rw [sizeLine_eq]; omega, e, c.here s h (by simp only [Rep])⟩)
    · cases e
  · cases e
/-! ### built-in functions -/
def lenT : T → Option OT
  | .lst xs => some (.v (.int xs.length))
  | .tup xs => some (.v (.int xs.length))
  | .str z => if z.length ≤ 1000000 then some (.v (.int z.length)) else none
  | _ => none
theorem sp_len : UnS G lenT (fun v H Q => ∃ x n, [v] = [x] ∧ LenV G.K x H n ∧ Q (.int n) H) := fun ha t1 t H F v hd Q e s h r c => by
  unfold lenT at e
  split at e
  · cases e
    obtain ⟨a, us, rfl, q, rx⟩ := RepB.lst r
    exact ⟨_, us.length, rfl, .inl ⟨us, .of q, rfl⟩, c.here s h (by simp only [Rep]; rw [Reps.length rx])⟩
  · cases e
    obtain ⟨a, us, rfl, q, rx⟩ := RepB.tup r
    exact ⟨_, us.length, rfl, .inr ⟨us, sqT_mono s q, rfl⟩, c.here s h (by simp only [Rep]; rw [Reps.length rx])⟩
  · split at e
    · rename_i z hz
      cases e
      have := RepB.str r
      subst this
      exact ⟨_, z.length, rfl, ⟨by rw [sizeLine_eq]; omega, rfl⟩, c.here s h (by simp only [Rep])⟩
    · cases e
  · cases e
def intT : T → Option OT
  | .int i => some (.v (.int i))
  | .bl k => some (.v (.int (if k then 1 else 0)))
  | _ => none
theorem sp_int1 : UnS G intT (fun v H Q => (∃ i, [v] = [.int i] ∧ Q (.int i) H) ∨ ∃ k, [v] = [.bl k] ∧ Q (.int (if k then 1 else 0)) H) := fun ha t1 t H F v hd Q e s h r c => by
  unfold intT at e
  split at e
  · cases e
    have := RepB.int r
    subst this
    exact .inl ⟨_, rfl, c.here s h (by simp only [Rep])⟩
  · cases e
    have := RepB.bl r
    subst this
    exact .inr ⟨_, rfl, c.here s h (by simp only [Rep])⟩
  · cases e
def absT : T → Option OT
  | .int i => some (.v (.int (if i < 0 then -i else i)))
  | _ => none
theorem sp_abs : UnS G absT (fun v H Q => ∃ i, [v] = [.int i] ∧ Q (.int (if i < 0 then -i else i)) H) := fun ha t1 t H F v hd Q e s h r c => by
  unfold absT at e
  split at e
  · cases e
    have := RepB.int r
    subst this
    exact ⟨_, rfl, c.here s h (by simp only [Rep])⟩
  · cases e
def minT (a b : T) : Option OT := match a, b with
  | .int i, .int j => some (.v (.int (if j < i then j else i)))
  | _, _ => none
def maxT (a b : T) : Option OT := match a, b with
  | .int i, .int j => some (.v (.int (if j > i then j else i)))
  | _, _ => none
theorem sp_min : OpS G minT (fun x y H Q => ∃ i j, [x, y] = [.int i, .int j] ∧ Q (.int (if j < i then j else i)) H) := fun ha t1 t2 t H F v1 v2 hd Q e s h r1 r2 c => by
  unfold minT at e
  split at e
  · cases e
    have e1 := RepB.int r1
    have e2 := RepB.int r2
    subst e1 e2
    exact ⟨_, _, rfl, c.here s h (by simp only [Rep])⟩
  · cases e
theorem sp_max : OpS G maxT (fun x y H Q => ∃ i j, [x, y] = [.int i, .int j] ∧ Q (.int (if j > i then j else i)) H) := fun ha t1 t2 t H F v1 v2 hd Q e s h r1 r2 c => by
  unfold maxT at e
  split at e
  · cases e
    have e1 := RepB.int r1
    have e2 := RepB.int r2
    subst e1 e2
    exact ⟨_, _, rfl, c.here s h (by simp only [Rep])⟩
  · cases e
/-- tuple(x), list(x) of lists and tuples -/
def tupleT : T → Option OT
  | .lst xs => some (.v (.tup xs))
  | .tup xs => some (.v (.tup xs))
  | _ => none
theorem sp_tuple : UnS G tupleT (fun v H Q => ∃ p ys, [v] = [.ref p] ∧ ((SqL G.K H p ys ∧ ∀ l, H l = none → Q (.ref l) (upd H l (.tup ys))) ∨ (SqT G.K H p ys ∧ Q (.ref p) H))) := fun ha t1 t H F v hd Q e s h r c => by
  unfold tupleT at e
  split at e
  · cases e
    obtain ⟨a, us, rfl, q, rx⟩ := RepB.lst r
    exact ⟨a, us, rfl, .inl ⟨.of q, fun l hl => c.tup s h hl rx⟩⟩
  · cases e
    obtain ⟨a, us, rfl, q, rx⟩ := RepB.tup r
    exact ⟨a, us, rfl, .inr ⟨sqT_mono s q, c.here s h (by simp only [Rep]; exact ⟨a, us, rfl, q, rx⟩)⟩⟩
  · cases e
def listT : T → Option OT
  | .lst xs => some (.f xs)
  | .tup xs => some (.f xs)
  | _ => none
theorem sp_list : UnS G listT (fun v H Q => ∃ p ys, [v] = [.ref p] ∧ (SqL G.K H p ys ∨ SqT G.K H p ys) ∧ ∀ l, H l = none → Q (.ref l) (upd H l (.lst ys))) := fun ha t1 t H F v hd Q e s h r c => by
  unfold listT at e
  split at e
  · cases e
    obtain ⟨a, us, rfl, q, rx⟩ := RepB.lst r
    exact ⟨a, us, rfl, .inl (.of q), fun l hl => c.nw _ _ l rfl hl rx⟩
  · cases e
    obtain ⟨a, us, rfl, q, rx⟩ := RepB.tup r
    exact ⟨a, us, rfl, .inr (sqT_mono s q), fun l hl => c.nw _ _ l rfl hl rx⟩
  · cases e
/-! calls of built-in functions and types -/
section
variable {a b : Expr} {x : Str} {id : String} {p pos : Pos} {ma mb : M T} {r : List V → Hp → VK → Prop}
theorem jo_blt1 {f : T → Option OT} (hc : CallR X (.builtin id) r) (hg : Gl X x) (hm : X.mg x = none) (hv : bootBuiltins x = some (.builtin id)) (hn : x ≠ "__name__") (hdb : (x == ("__debug__" : Str)) = false) (sp : UnS G f (fun v => r [v])) (ha : JB G X W a ma)
    (hs : starEach [a] X.env = (false, eval a X.env) :: starEach [] X.env) (hpl : (backTo pos (starEach [] X.env)).any (·.1) = false) : JO G X W (.Call (.Name x p) [a] [] pos) (mUn f ma) :=
  PE.imp (pe_callB hc hg hm hv (pa_cons ha pa_nil hs) hn hdb hs hpl) fun σ H Q q => sp.step q
theorem jo_ty1 {f : T → Option OT} (hc : CallR X (.type id) r) (hg : Gl X x) (hm : X.mg x = none) (hv : bootBuiltins x = some (.type id)) (hn : x ≠ "__name__") (hdb : (x == ("__debug__" : Str)) = false) (sp : UnS G f (fun v => r [v])) (ha : JB G X W a ma)
    (hs : starEach [a] X.env = (false, eval a X.env) :: starEach [] X.env) (hpl : (backTo pos (starEach [] X.env)).any (·.1) = false) : JO G X W (.Call (.Name x p) [a] [] pos) (mUn f ma) :=
  PE.imp (pe_callTy hc hg hm hv (pa_cons ha pa_nil hs) hn hdb hs hpl) fun σ H Q q => sp.step q
theorem jo_blt2 {f : T → T → Option OT} (hc : CallR X (.builtin id) r) (hg : Gl X x) (hm : X.mg x = none) (hv : bootBuiltins x = some (.builtin id)) (hn : x ≠ "__name__") (hdb : (x == ("__debug__" : Str)) = false) (sp : OpS G f (fun v u => r [v, u])) (ha : JE G X W a ma) (hb : JB G X W b mb)
    (hs : starEach [a, b] X.env = (false, eval a X.env) :: starEach [b] X.env) (hs2 : starEach [b] X.env = (false, eval b X.env) :: starEach [] X.env) (hpl : (backTo pos (starEach [b] X.env)).any (·.1) = false) : JO G X W (.Call (.Name x p) [a, b] [] pos) (mOp f ma mb) :=
  PE.imp (pe_callB hc hg hm hv (pa_cons ha (pa_cons hb pa_nil hs2) hs) hn hdb hs hpl) fun σ H Q q => sp.step q
end
end
end TL
namespace TL
open PySem PySem.Spec PyProof.Rows L2 Srt SrtO
/-! ### sorted of a tuple -/
section
variable {prog : Program} {w : World} {A : Around} {E : Value → Shared → Prop} {s : Shared}
theorem collect_tuple {l : Addr} {vs : List Value} {Q : List Value → Shared → Prop} (hl : IsTup s.heap l vs.toArray)
    (h : Q vs { s with heap := (s.heap.push (seqObj "list" #[] 0)).update s.heap.objs.size (Obj.mapSeq (· ++ vs.toArray)) }) (hsz : vs.length ≤ sizeLine) :
    wpAny (model prog w) A (collect (.ref l)) Q E s := by
  obtain ⟨o, ho, hc, n, hd⟩ := id hl
  unfold collect
  refine wpAny_bind (wpAny_runValue (codeAny_builtin entry_proto_collect' ?_))
  show wpAny _ _ (do again (.builtin "list.__iadd__" ⟨[← newList [], .ref l], []⟩)) _ _ s
  refine wpAny_bind (wpAny_newList (wpAny_pure ⟨Code.quiet_builtin _ (by decide +kernel), codeAny_builtin entry_list_iadd' ?_⟩))
  show wpAny _ _ (Builtin.List.listExtendWith (.ref s.heap.objs.size) (.ref l) (.ref s.heap.objs.size)) _ _ { s with heap := s.heap.push (seqObj "list" #[] 0) }
  unfold Builtin.List.listExtendWith
  have ho' : (s.heap.push (seqObj "list" #[] 0)).get? l = some o := Heap.get?_push_of_some _ ho
  refine wpAny_bind (wpAny_typeOf (T := "tuple") ⟨o, ho', hc⟩ ?_)
  have ht : (Value.type "tuple" == Value.type "tuple") = true := by rfl
  rw [if_pos (by rw [ht]; simp)]
  refine wpAny_bind (listItems_at ho' hd ?_)
  refine wpAny_bind (listItems_at (xs := #[]) (n := 0) (Heap.get?_push_size _ rfl) rfl ?_)
  rw [if_neg (by simp)]
  refine wpAny_bind (listUpdate_at (xs := #[]) (n := 0) (Heap.get?_push_size _ rfl) rfl ?_ (Nat.zero_le _) (by show (#[] ++ vs.toArray).size ≤ sizeLine + 1; simp only [Array.size_append, List.size_toArray, List.length_nil]; omega))
  refine wpAny_pure ?_
  show wpAny (model prog w) A (do
      let o ← load s.heap.objs.size
      match o.data with
      | .seq xs _ => pure xs.toList
      | _ => unsupported "internal:collect") Q E { s with heap := (s.heap.push (seqObj "list" #[] 0)).update s.heap.objs.size (Obj.mapSeq (· ++ vs.toArray)) }
  refine wpAny_bind (wpAny_load (get?_update_seq (Heap.get?_push_size _ rfl) _) ?_)
  show wpAny _ _ (pure ((#[] : Array Value) ++ vs.toArray).toList) Q E _
  rw [show ((#[] : Array Value) ++ vs.toArray).toList = vs by simp]
  exact wpAny_pure h
theorem collect_any {l : Addr} {vs : List Value} {Q : List Value → Shared → Prop} (hl : s.heap.IsList l vs.toArray ∨ IsTup s.heap l vs.toArray)
    (h : Q vs { s with heap := (s.heap.push (seqObj "list" #[] 0)).update s.heap.objs.size (Obj.mapSeq (· ++ vs.toArray)) }) (hsz : vs.length ≤ sizeLine) :
    wpAny (model prog w) A (collect (.ref l)) Q E s := by
  rcases hl with hl | hl
  · exact collect_list hl h hsz
  · exact collect_tuple hl h hsz
theorem sorted_ordA {l : Addr} {vs : List Value} {ltv : Value → Value → Bool} {Q : Value → Shared → Prop} (O : Swo ltv) (hl : s.heap.IsList l vs.toArray ∨ IsTup s.heap l vs.toArray) (hz : vs.length ≤ sizeLine)
    (hS : 2 ≤ vs.length → ∀ (h₁ : Heap) (a : Addr), h₁.get? a = some (seqObj "list" vs.toArray 0) → (∀ b o, s.heap.get? b = some o → b ≠ a ∧ h₁.get? b = some o) → SortableO prog w A.in1.in1 { s with heap := h₁ } a vs ltv)
    (h : ∀ out : List Value, Srtd ltv out → Stb ltv out vs → Q (.ref (s.heap.objs.size + 1)) { s with heap := sortedAll s.heap vs out.toArray }) :
    wpAny (model prog w) A (call (.builtin "sorted") [.ref l]) Q E s := by
  refine Calls.call_function_entry kind_sorted plain_sorted entry_sorted (args_sorted1 _) ?_
  unfold Builtin.«sorted»
  refine wpAny_bind (m := checkCount "sorted" 1 1 _) (wpAny_pure ?_)
  refine wpAny_bind (collect_any hl ?_ hz)
  refine wpAny_bind (wpAny_newList ?_ hz)
  have hsz : ((s.heap.push (seqObj "list" #[] 0)).update s.heap.objs.size (Obj.mapSeq (· ++ vs.toArray))).objs.size = s.heap.objs.size + 1 := by
    rw [Heap.size_update, size_push']
  have hoL : (((s.heap.push (seqObj "list" #[] 0)).update s.heap.objs.size (Obj.mapSeq (· ++ vs.toArray))).push (seqObj "list" vs.toArray 0)).get? (s.heap.objs.size + 1) = some (seqObj "list" vs.toArray 0) := by
    rw [← hsz]; exact Heap.get?_push_size _ rfl
  have keep : ∀ b o, s.heap.get? b = some o → b ≠ s.heap.objs.size + 1 ∧ (((s.heap.push (seqObj "list" #[] 0)).update s.heap.objs.size (Obj.mapSeq (· ++ vs.toArray))).push (seqObj "list" vs.toArray 0)).get? b = some o := fun b o q => by
    have hlt : b < s.heap.objs.size := Heap.lt_size q
    refine ⟨Nat.ne_of_lt (Nat.lt_succ_of_lt hlt), Heap.get?_push_of_some _ ?_⟩
    rw [Heap.get?_update_ne _ _ _ _ (Nat.ne_of_lt hlt)]
    exact Heap.get?_push_of_some _ q
  show wpAny _ _ _ _ _ { s with heap := ((s.heap.push (seqObj "list" #[] 0)).update s.heap.objs.size (Obj.mapSeq (· ++ vs.toArray))).push (seqObj "list" vs.toArray 0) }
  rw [hsz]
  refine wpAny_bind (wpAny_holding (wpAny_call_entry slot_list_sort ⟨_, hoL, rfl⟩ entry_list_sort (list_sort_ord O hoL hz (fun h2 => hS h2 _ _ hoL keep) fun out hs hb => ⟨_, rfl, ?_⟩) (args_list_sort _)))
  exact wpAny_pure ⟨_, rfl, h out hs hb⟩
theorem sorted_pairsA {l : Addr} {vs : List Value} {k : Value → Int × Int} {Q : Value → Shared → Prop} (hl : s.heap.IsList l vs.toArray ∨ IsTup s.heap l vs.toArray) (hz : vs.length ≤ sizeLine) (hp : ∀ v ∈ vs, IsPair s.heap v (k v).1 (k v).2)
    (h : ∀ (h' : Heap) (d : Addr) (out : List Value), Srtd (fun v u => lexB (k v) (k u)) out → Stb (fun v u => lexB (k v) (k u)) out vs → (∀ b o, s.heap.get? b = some o → h'.get? b = some o) → s.heap.objs.size ≤ d → (∃ n, h'.get? d = some (seqObj "list" out.toArray n)) → Q (.ref d) { s with heap := h' }) :
    wpAny (model prog w) A (call (.builtin "sorted") [.ref l]) Q E s := by
  refine sorted_ordA (swo_lex k) hl hz (fun h2 h₁ a ha kk => ?_) fun out hs hb => ?_
  · refine pairs_sortableO (s := { s with heap := h₁ }) (by omega) (fun v hm => (hp v hm).keeps fun b o e _ => (kk b o e).2) fun o e => ?_
    have e' : some o = some (seqObj "list" vs.toArray 0) := e.symm.trans ha
    cases e'
    intro c
    exact absurd (Value.type.inj c) (by decide)
  · exact h _ _ out hs hb (fun b o e => sortedAll_old e) (Nat.le_succ _) (sortedAll_at s.heap vs out.toArray)
end
def rSortedIA (K : PySem.W.Frag) : V → Hp → VK → Prop := fun v H Q => ∃ (a : Addr) (ns : List Int), v = V.ref a ∧ (SqL K H a (ns.map V.int) ∨ SqT K H a (ns.map V.int)) ∧
  ∀ (ns' : List Int) (p : Addr), ns'.Perm ns → ns'.Pairwise (· ≤ ·) → H p = none → Q (.ref p) (upd H p (.lst (ns'.map V.int)))
def rSortedPA (K : PySem.W.Frag) : V → Hp → VK → Prop := fun v H Q => ∃ (a : Addr) (xs : List V) (ps : List (Int × Int)), v = V.ref a ∧ (SqL K H a xs ∨ SqT K H a xs) ∧ Paired (fun x p => ∃ t, x = V.ref t ∧ SqT K H t [.int p.1, .int p.2]) xs ps ∧
  ∀ (k : V → Int × Int) (ys : List V) (p : Addr), xs.map k = ps → Srtd (ltP k) ys → ys.Perm xs → H p = none → Q (.ref p) (upd H p (.lst ys))
def rSortA (K : PySem.W.Frag) : List V → Hp → VK → Prop := fun vs H Q => ∃ v, vs = [v] ∧ (rSortedIA K v H Q ∨ rSortedPA K v H Q)
section
variable {X : Cx}
theorem Inv.seqA {pins : List (Addr × Obj)} {σ : L2.St} {H : Hp} {s : Shared} {a : Addr} {xs : List V} (I : Inv X pins σ H s) (h : SqL X.K H a xs ∨ SqT X.K H a xs) : ∃ its : List Value, Vals xs its ∧ (s.heap.IsList a its.toArray ∨ IsTup s.heap a its.toArray) ∧ xs.length ≤ sizeLine := by
  rcases h with h | h
  · obtain ⟨its, r, p, z⟩ := I.list h
    exact ⟨its, r, .inl p.isList, z⟩
  · obtain ⟨its, r, p, z⟩ := I.tuple h
    exact ⟨its, r, .inr p, z⟩
open Classical in
noncomputable def keyOf (h : Heap) (v : Value) : Int × Int := if e : ∃ p : Int × Int, IsPair h v p.1 p.2 then e.choose else (0, 0)
theorem isPair_inj {h : Heap} {v : Value} {x y x' y' : Int} (h1 : IsPair h v x y) (h2 : IsPair h v x' y') : x = x' ∧ y = y' := by
  obtain ⟨a, o, t, u, n, e, ho, hc, hd⟩ := h1
  obtain ⟨a', o', t', u', n', e', ho', hc', hd'⟩ := h2
  rw [e] at e'
  cases e'
  rw [ho] at ho'
  cases ho'
  rw [hd] at hd'
  cases hd'
  exact ⟨rfl, rfl⟩
theorem keyOf_eq {h : Heap} {v : Value} {p : Int × Int} (e : IsPair h v p.1 p.2) : keyOf h v = p := by
  unfold keyOf
  have q : ∃ p : Int × Int, IsPair h v p.1 p.2 := ⟨p, e⟩
  rw [dif_pos q]
  obtain ⟨h1, h2⟩ := isPair_inj q.choose_spec e
  exact Prod.ext h1 h2
theorem paired_mem {α β : Type} {R : α → β → Prop} : ∀ {l : List α} {m : List β}, Paired R l m → ∀ x ∈ l, ∃ y, R x y
  | _, _, .nil, x, h => absurd h List.not_mem_nil
  | _, _, .cons r t, x, h => by
    rcases List.mem_cons.mp h with e | h
    · rw [e]; exact ⟨_, r⟩
    · exact paired_mem t x h
theorem paired_key {h : Heap} : ∀ {xs : List V} {ps : List (Int × Int)}, Paired (fun x p => ∃ t, x = V.ref t ∧ IsPair h (.ref t) p.1 p.2) xs ps → xs.map (fun x => match x with | .ref t => keyOf h (.ref t) | _ => (0, 0)) = ps
  | _, _, .nil => rfl
  | _, _, .cons ⟨t, e, q⟩ r => by
    subst e
    rw [List.map_cons, paired_key r]
    show keyOf h (.ref t) :: _ = _
    rw [keyOf_eq q]
theorem cr_sortA : CallR X (.builtin "sorted") (rSortA X.K) := by
  intro pins s σ H vs us Q I r h
  obtain ⟨v0, rfl, h | h⟩ := h
  · obtain ⟨a, ns, rfl, hs, q⟩ := h
    obtain ⟨its, rv, hl, hz⟩ := Inv.seqA I hs
    rw [Vals.ref1 r]
    have hi := rv.ints
    refine sorted_ordA SrtO.swo_int hl (by rw [← rv.length]; exact hz) (fun h2 h₁ a' _ _ => SrtO.ints_sortable hi h2) fun out h1 h2 => ?_
    obtain ⟨k1, k2, k3⟩ := SrtO.ints_out hi h1 h2
    obtain ⟨ep, he'⟩ := PyProof.Rows.sortedAll_at s.heap its out.toArray
    have hlen : ((out.map SrtO.iv).map V.int).length ≤ sizeLine := by
      rw [List.length_map, k2.length_eq]
      rw [List.length_map] at hz
      exact hz
    exact ⟨.ref _, upd H (s.heap.objs.size + 1) (.lst ((out.map SrtO.iv).map V.int)), I.laid (t' := s.toks) (fun _ _ => PyProof.Rows.sortedAll_old) (Nat.le_succ _) ⟨hlen, out, ep, vals_of_ints k1, he'⟩, rfl, q _ _ k2 k3 (I.hok.fresh (Nat.le_succ _))⟩
  · obtain ⟨a, xs, ps, rfl, hs, hx, q⟩ := h
    obtain ⟨its, rv, hl, hz⟩ := Inv.seqA I hs
    rw [Vals.ref1 r]
    have hx' : Paired (fun x p => ∃ t, x = V.ref t ∧ IsPair s.heap (.ref t) p.1 p.2) xs ps := Paired.mapP hx fun x p ⟨t, e, ht⟩ => by
      obtain ⟨its2, r2, ⟨o, ho, hc, n, hd⟩, _⟩ := I.tuple ht
      obtain ⟨u1, u2, rfl, ri, rj⟩ := vals2 r2
      obtain ⟨t1, rfl⟩ := ri
      obtain ⟨t2, rfl⟩ := rj
      exact ⟨t, e, t, o, t1, t2, n, rfl, ho, hc, hd⟩
    obtain ⟨e1, e2⟩ := refs_back rv fun x m => by
      obtain ⟨p, t, e, _⟩ := paired_mem hx x m
      exact ⟨t, e⟩
    refine sorted_pairsA (k := keyOf s.heap) hl (by rw [← rv.length]; exact hz) (fun v hv => ?_) fun h' d out h1 h2 kp hd hn => ?_
    · obtain ⟨t, rfl⟩ := e2 v hv
      have hm : V.ref t ∈ xs := by rw [e1]; exact List.mem_map.mpr ⟨_, hv, rfl⟩
      obtain ⟨p, t', e, ht⟩ := paired_mem hx' _ hm
      cases e
      rw [keyOf_eq ht]
      exact ht
    · have h3 : ∀ u ∈ out, ∃ a, u = Value.ref a := fun u hu => e2 u (h2.perm.mem_iff.mp hu)
      obtain ⟨n, hn⟩ := hn
      have hb : (out.map backV).Perm xs := by
        rw [e1]
        exact h2.perm.map backV
      refine ⟨.ref d, upd H d (.lst (out.map backV)), I.laid (t' := s.toks) kp hd ⟨?_, out, n, vals_back h3, hn⟩, rfl, q (fun x => match x with | .ref t => keyOf s.heap (.ref t) | _ => (0, 0)) _ d (paired_key hx') ?_ hb (I.hok.fresh hd)⟩
      · rw [hb.length_eq]
        exact hz
      · refine List.pairwise_map.mpr (List.Pairwise.imp_of_mem (fun {x y} hx hy hxy => ?_) h1)
        obtain ⟨t, rfl⟩ := h3 x hx
        obtain ⟨t', rfl⟩ := h3 y hy
        exact hxy
end
/-! trees -/
def intsOf : List T → Option (List Int)
  | [] => some []
  | .int i :: xs => (intsOf xs).map (i :: ·)
  | _ => none
def pairsOfT : List T → Option (List (Int × Int))
  | [] => some []
  | .tup [.int i, .int j] :: xs => (pairsOfT xs).map ((i, j) :: ·)
  | _ => none
def leI (a b : Int) : Bool := decide (a ≤ b)
def leP (p q : Int × Int) : Bool := !lexB q p
def sortI (ns : List Int) : List Int := ns.mergeSort leI
def sortP (ps : List (Int × Int)) : List (Int × Int) := ps.mergeSort leP
def pairT (p : Int × Int) : T := .tup [.int p.1, .int p.2]
def sortT (t : T) : Option OT := match itemsOf t with
  | some xs => match intsOf xs with
    | some ns => some (.f ((sortI ns).map T.int))
    | none => (pairsOfT xs).map fun ps => .f ((sortP ps).map pairT)
  | none => none
section
variable {G : Gd}
theorem intsOf_reps {ha : HA} {F : Hp} : ∀ {xs : List T} {us : List V} {ns : List Int}, intsOf xs = some ns → Reps G ha F xs us → us = ns.map V.int
  | [], us, ns, e, r => by simp only [intsOf] at e; cases e; simp only [Reps] at r; subst r; rfl
  | t :: xs, us, ns, e, r => by
    cases t <;> simp only [intsOf] at e <;> try cases e
    rw [Option.map_eq_some_iff] at e
    obtain ⟨ms, e, rfl⟩ := e
    simp only [Reps, Rep] at r
    obtain ⟨u, q, rfl, rfl, r⟩ := r
    rw [List.map_cons, intsOf_reps e r]
theorem reps_ints {ha : HA} {F : Hp} : ∀ ns : List Int, Reps G ha F (ns.map T.int) (ns.map V.int)
  | [] => by simp only [List.map_nil, Reps]
  | n :: ns => by simp only [List.map_cons, Reps, Rep]; exact ⟨_, _, rfl, rfl, reps_ints ns⟩
theorem pairsOfT_reps {ha : HA} {F : Hp} : ∀ {xs : List T} {us : List V} {ps : List (Int × Int)}, pairsOfT xs = some ps → Reps G ha F xs us → Paired (fun x p => ∃ t, x = V.ref t ∧ SqT G.K F t [.int p.1, .int p.2]) us ps
  | [], us, ps, e, r => by simp only [pairsOfT] at e; cases e; simp only [Reps] at r; subst r; exact .nil
  | t :: xs, us, ps, e, r => by
    unfold pairsOfT at e
    split at e
    · rename_i e0; cases e0
    · rename_i i j ys e0
      cases e0
      rw [Option.map_eq_some_iff] at e
      obtain ⟨ms, e, rfl⟩ := e
      simp only [Reps, Rep] at r
      obtain ⟨u, q, rfl, ⟨a, ws, rfl, hq, u1, r1, rfl, rfl, u2, r2, rfl, rfl, rfl⟩, r⟩ := r
      exact .cons ⟨a, rfl, hq⟩ (pairsOfT_reps e r)
    · cases e
theorem paired_rep {ha : HA} {F : Hp} {k : V → Int × Int} : ∀ {us : List V} {ps : List (Int × Int)}, Paired (fun x p => ∃ t, x = V.ref t ∧ SqT G.K F t [.int p.1, .int p.2]) us ps → us.map k = ps → ∀ u ∈ us, Rep G ha F (pairT (k u)) u
  | _, _, .nil, _, u, h => absurd h List.not_mem_nil
  | _, _, .cons ⟨t, e, q⟩ r, hk, u, h => by
    rw [List.map_cons, List.cons.injEq] at hk
    rcases List.mem_cons.mp h with z | h
    · subst z
      subst e
      rw [hk.1]
      simp only [pairT, Rep, Reps]
      exact ⟨t, _, rfl, q, _, _, rfl, rfl, _, _, rfl, rfl, rfl⟩
    · exact paired_rep r hk.2 u h
theorem reps_of {ha : HA} {F : Hp} {f : V → T} : ∀ {us : List V}, (∀ u ∈ us, Rep G ha F (f u) u) → Reps G ha F (us.map f) us
  | [], _ => by simp only [List.map_nil, Reps]
  | u :: us, h => by
    simp only [List.map_cons, Reps]
    exact ⟨u, us, rfl, h u List.mem_cons_self, reps_of fun v hv => h v (List.mem_cons_of_mem _ hv)⟩
theorem sortI_uniq {ns ns' : List Int} (p : ns'.Perm ns) (h : ns'.Pairwise (· ≤ ·)) : ns' = sortI ns := by
  refine List.Perm.eq_of_pairwise (le := (· ≤ ·)) (fun a b _ _ h1 h2 => Int.le_antisymm h1 h2) h ?_ (p.trans (List.mergeSort_perm ns leI).symm)
  have := List.pairwise_mergeSort (le := leI) (fun a b c h1 h2 => by unfold leI at *; simp only [decide_eq_true_eq] at *; omega) (fun a b => by unfold leI; simp only [Bool.or_eq_true, decide_eq_true_eq]; omega) ns
  exact this.imp fun {a b} h => by unfold leI at h; simpa using h
theorem lex_le {p q : Int × Int} : leP p q = true ↔ (p.1 < q.1 ∨ (p.1 = q.1 ∧ p.2 ≤ q.2)) := by
  unfold leP
  rw [Bool.not_eq_true', lexB_no]
  omega
theorem sortP_uniq {ps qs : List (Int × Int)} (p : qs.Perm ps) (h : qs.Pairwise fun a b => leP a b = true) : qs = sortP ps := by
  refine List.Perm.eq_of_pairwise (le := fun a b => leP a b = true) (fun a b _ _ h1 h2 => ?_) h ?_ (p.trans (List.mergeSort_perm ps leP).symm)
  · rw [lex_le] at h1 h2
    refine Prod.ext ?_ ?_ <;> omega
  · exact List.pairwise_mergeSort (le := leP) (fun a b c h1 h2 => by rw [lex_le] at *; omega) (fun a b => by rw [Bool.or_eq_true, lex_le, lex_le]; omega) ps
theorem sp_sort : UnS G sortT (fun v => rSortA G.K [v]) := fun ha t1 t H F v hd Q e s h r c => by
  unfold sortT at e
  split at e
  · rename_i xs ex
    have hsq : ∃ a us, v = .ref a ∧ (SqL G.K H a us ∨ SqT G.K H a us) ∧ Reps G ha F xs us := by
      cases t1 <;> simp only [itemsOf] at ex <;> cases ex
      · obtain ⟨a, us, rfl, q, rx⟩ := RepB.tup r
        exact ⟨a, us, rfl, .inr (sqT_mono s q), rx⟩
      · obtain ⟨a, us, rfl, q, rx⟩ := RepB.lst r
        exact ⟨a, us, rfl, .inl (.of q), rx⟩
      · have r : Rep G ha F (.scr _) v := r
        simp only [Rep] at r
        obtain ⟨a, rfl, q⟩ := r
        exact ⟨a, _, rfl, .inl (sqL_mono s q), ints_reps _⟩
    obtain ⟨a, us, rfl, hq, rx⟩ := hsq
    split at e
    · rename_i ns en
      cases e
      have := intsOf_reps en rx
      subst this
      refine ⟨_, rfl, .inl ⟨a, ns, rfl, hq, fun ns' p hp hs hn => ?_⟩⟩
      exact c.nw _ _ p (by rw [sortI_uniq hp hs]) hn (reps_ints ns')
    · rw [Option.map_eq_some_iff] at e
      obtain ⟨ps, ep, rfl⟩ := e
      have pp := pairsOfT_reps ep rx
      refine ⟨_, rfl, .inr ⟨a, us, ps, rfl, hq, Paired.mapP pp fun x p ⟨t, e, q⟩ => ⟨t, e, sqT_mono s q⟩, fun k ys p hk hs hp hn => ?_⟩⟩
      have e1 : ys.map k = sortP ps := sortP_uniq (by rw [← hk]; exact hp.map k) (List.pairwise_map.mpr (hs.imp fun {x y} hxy => by unfold leP; rw [Bool.not_eq_true']; exact hxy))
      have := c.nw ((ys.map k).map pairT) ys p (by rw [e1]) hn (by rw [List.map_map]; exact reps_of fun u hu => paired_rep pp hk u (hp.mem_iff.mp hu))
      exact this
  · cases e
end
end TL
namespace TL
open PySem PySem.Spec PyProof.Rows L2
/-! ### a new entry for a part of a body -/
def Ent.at (En : Ent) (H F : Hp) (fps : Nat → List Addr) (n : Nat) : Ent := ⟨H, F, En.ha, (List.range n).flatMap fps, En.slf0⟩
def trim (fps : Nat → List Addr) (n : Nat) : Nat → List Addr := fun i => if i < n then fps i else []
section
variable {G : Gd} {X : Cx} {W : WX} {En : Ent} {σ σ' : L2.St} {H F H' F' : Hp} {S S' : Slots} {fps fps' : Nat → List Addr} {hd hd' : Hd}
theorem SR.rebase (R : SR G En σ H F S fps hd) : SR G (En.at H F fps S.length) σ H F S (trim fps S.length) hd where
  len := R.len
  slot := fun i ot e => by
    have hi : i < S.length := by
      rcases List.getElem?_eq_some_iff.mp e with ⟨q, _⟩
      exact q
    unfold trim
    rw [if_pos hi]
    exact R.slot i ot e
  nd := fun i => by
    unfold trim
    split
    · exact R.nd i
    · exact List.nodup_nil
  dj := fun i j a hij m => by
    unfold trim at *
    split at m
    · split
      · exact R.dj i j a hij m
      · simp
    · cases m
  own := fun i a m => by
    unfold trim at m
    split at m
    · rename_i hi
      obtain ⟨g1, g2, g3, _⟩ := R.own i a m
      exact ⟨g1, g2, g3, .inr (List.mem_flatMap.mpr ⟨i, List.mem_range.mpr hi, m⟩)⟩
    · cases m
  sub := R.sub
  sub0 := Same.refl _
  fnew := fun a q => .inl q
  kp := fun a o e _ _ => e
  hand := R.hand
  slf := fun i C fs e => by
    have hi : i < S.length := by
      rcases List.getElem?_eq_some_iff.mp e with ⟨q, _⟩
      exact q
    unfold trim
    rw [if_pos hi]
    exact R.slf i C fs e
  tbE := R.tbE
theorem SR.unbase {n : Nat} (R : SR G En σ H F S fps hd) (R' : SR G (En.at H F fps n) σ' H' F' S' fps' hd') : SR G En σ' H' F' S' fps' hd' where
  len := R'.len
  slot := R'.slot
  nd := R'.nd
  dj := R'.dj
  own := fun i a m => by
    obtain ⟨g1, g2, g3, g4⟩ := R'.own i a m
    refine ⟨g1, g2, g3, ?_⟩
    rcases g4 with z | z
    · exact R.back z
    · obtain ⟨j, _, mj⟩ := List.mem_flatMap.mp z
      exact (R.own j a mj).2.2.2
  sub := R'.sub
  sub0 := R.sub0.trans R'.sub0
  fnew := fun a q => by
    rcases R'.fnew a q with z | z | z
    · exact R.fnew a z
    · rcases R.back z with y | y
      · exact .inr (.inl y)
      · exact .inr (.inr y)
    · obtain ⟨j, _, mj⟩ := List.mem_flatMap.mp z
      rcases (R.own j a mj).2.2.2 with y | y
      · exact .inr (.inl y)
      · exact .inr (.inr y)
  kp := fun a o e h1 h2 => R'.kp a o (R.kp a o e h1 h2) (fun z => by
    obtain ⟨j, _, mj⟩ := List.mem_flatMap.mp z
    rcases (R.own j a mj).2.2.2 with y | y
    · rw [y] at e; cases e
    · exact h1 y) h2
  hand := R'.hand
  slf := R'.slf
  tbE := R'.tbE
/-- a list that is no slot's -/
structure Side (En : Ent) (H F : Hp) (fps : Nat → List Addr) (D : Addr) (us : List V) : Prop where
  at_ : H D = some (.lst us)
  f : F D = none
  n : NoH En.ha D
  d : ∀ j, D ∉ fps j
  w : En.H0 D = none ∨ D ∈ En.own0
theorem Side.rebase {D : Addr} {us : List V} {n : Nat} (R : SR G En σ H F S fps hd) (d : Side En H F fps D us) (R' : SR G (En.at H F fps n) σ' H' F' S' fps' hd') : Side En H' F' fps' D us where
  at_ := R'.kp D _ d.at_ (fun z => by
    obtain ⟨j, _, mj⟩ := List.mem_flatMap.mp z
    exact d.d j mj) d.n.kp
  f := by
    cases e : F' D with
    | none => rfl
    | some o =>
      rcases R'.fnew D (by rw [e]; simp) with z | z | z
      · exact absurd d.f z
      · have z : H D = none := z
        rw [d.at_] at z; cases z
      · obtain ⟨j, _, mj⟩ := List.mem_flatMap.mp z
        exact absurd mj (d.d j)
  n := d.n
  d := fun j m => by
    rcases (R'.own j D m).2.2.2 with z | z
    · have z : H D = none := z
      rw [d.at_] at z; cases z
    · obtain ⟨j, _, mj⟩ := List.mem_flatMap.mp z
      exact d.d j mj
  w := d.w
theorem Side.grow {D : Addr} {us : List V} (R : SR G En σ H F S fps hd) (d : Side En H F fps D us) (g : Grow En.ha H F H' F' hd') : Side En H' F' fps D us where
  at_ := g.keep D _ d.at_ d.n.kp
  f := by
    cases e : F' D with
    | none => rfl
    | some o =>
      rcases g.new D (by rw [e]; simp) with z | z
      · exact absurd d.f z
      · rw [d.at_] at z; cases z
  n := d.n
  d := d.d
  w := d.w
/-- it is written -/
theorem SR.side {D : Addr} {us ws : List V} (R : SR G En σ H F S fps hd) (d : Side En H F fps D us) : SR G En σ (upd H D (.lst ws)) F S fps hd ∧ Side En (upd H D (.lst ws)) F fps D ws := by
  have k : ∀ b o', b ≠ D → H b = some o' → upd H D (.lst ws) b = some o' := fun b o' n q => by rw [upd_ne n]; exact q
  refine ⟨{
    len := R.len
    slot := fun i ot e => by
      obtain ⟨v, g1, g3⟩ := R.slot i ot e
      exact ⟨v, g1, RepO.mono (Same.refl _) ot v _ (fun b m o q => k b o (fun z => d.d i (by rw [← z]; exact m)) q) g3⟩
    nd := R.nd
    dj := R.dj
    own := fun j b m => by
      obtain ⟨g1, g2, g3, g4⟩ := R.own j b m
      refine ⟨g1, ?_, g3, g4⟩
      rw [upd_ne (fun z => d.d j (by rw [← z]; exact m))]
      exact g2
    sub := fun b o' q => k b o' (fun z => by rw [z, d.f] at q; cases q) (R.sub b o' q)
    sub0 := R.sub0
    fnew := R.fnew
    kp := fun b o' q h1 h2 => k b o' (fun z => by
      rcases d.w with w | w
      · rw [z, w] at q; cases q
      · exact h1 (by rw [z]; exact w)) (R.kp b o' q h1 h2)
    hand := R.hand.put d.n (fun c q => by rw [d.at_]; exact code_lst)
    slf := R.slf
    tbE := R.tbE }, ⟨upd_same, d.f, d.n, d.d, d.w⟩⟩
/-- a new list -/
theorem SR.newSide {D : Addr} {us : List V} (R : SR G En σ H F S fps hd) (e : H D = none) : SR G En σ (upd H D (.lst us)) F S fps hd ∧ Side En (upd H D (.lst us)) F fps D us := by
  obtain ⟨sr', fp, ro, _⟩ := RO.fresh (xs := []) (vs := []) R e (by simp only [Reps])
  have d0 : Side En (upd H D (.lst [])) F fps D [] := ⟨upd_same, (by
    cases q : F D with
    | none => rfl
    | some o => rw [R.sub D o q] at e; cases e), R.hand.noH e, fun j m => (R.own j D m).2.1 e, R.back e⟩
  have := sr'.side (ws := us) d0
  rw [upd_upd] at this
  exact this
theorem Side.ro {D : Addr} {us : List V} {ts : List T} (d : Side En H F fps D us) (r : Reps G En.ha F ts us) : RO G En fps F H (.f ts) (.ref D) :=
  ⟨[D], by simp only [RepO]; exact ⟨D, us, rfl, d.at_, rfl, r⟩, by simp, fun j a m => by
    obtain rfl : a = D := by simpa using m
    exact d.d j, fun a m => by
    obtain rfl : a = D := by simpa using m
    exact ⟨d.f, by rw [d.at_]; simp, d.n, d.w⟩⟩

/-! ### the block's own names -/
def wipeS (S : Slots) : List Nat → Slots
  | [] => S
  | v :: vs => (wipeS S vs).set v none
theorem wipeS_length (S : Slots) : ∀ vs : List Nat, (wipeS S vs).length = S.length
  | [] => rfl
  | v :: vs => by unfold wipeS; rw [List.length_set, wipeS_length S vs]
theorem wipeS_some {S : Slots} {i : Nat} {x : OT} : ∀ {vs : List Nat}, (wipeS S vs)[i]? = some (some x) → S[i]? = some (some x) ∧ i ∉ vs
  | [], h => ⟨h, by simp⟩
  | v :: vs, h => by
    unfold wipeS at h
    by_cases hi : v = i
    · subst hi
      by_cases hv : v < (wipeS S vs).length
      · rw [List.getElem?_set_self hv] at h; cases h
      · rw [List.getElem?_eq_none (by simpa using hv)] at h; cases h
    · rw [List.getElem?_set_ne hi] at h
      obtain ⟨h1, h2⟩ := wipeS_some h
      exact ⟨h1, by simp only [List.mem_cons, not_or]; exact ⟨fun e => hi e.symm, h2⟩⟩
theorem wipe_out {σ : L2.St} {i : Nat} : ∀ {vs : List Nat}, i ∉ vs → (wipe σ vs)[i]? = σ[i]?
  | [], _ => rfl
  | v :: vs, h => by
    unfold wipe
    simp only [List.mem_cons, not_or] at h
    rw [List.getElem?_set_ne (fun e => h.1 e.symm), wipe_out h.2]
theorem wipe_in {σ : L2.St} {i : Nat} (hl : i < σ.length) : ∀ {vs : List Nat}, i ∈ vs → (wipe σ vs)[i]? = some none
  | [], h => absurd h List.not_mem_nil
  | v :: vs, h => by
    unfold wipe
    by_cases c : v = i
    · subst c
      rw [List.getElem?_set_self (by rw [wipe_length]; exact hl)]
    · rw [List.getElem?_set_ne c]
      rcases List.mem_cons.mp h with z | z
      · exact absurd z.symm c
      · exact wipe_in hl z
theorem Sto.wipe {is vs : List Nat} {a b : L2.St} (h : Sto is (wipe a vs) b) (hs : ∀ i ∈ is, i ∈ vs) : wipe b vs = wipe a vs := by
  have hl : b.length = a.length := by rw [h.1, wipe_length]
  refine List.ext_getElem? fun i => ?_
  by_cases m : i ∈ vs
  · by_cases hi : i < a.length
    · rw [wipe_in hi m, wipe_in (by rw [hl]; exact hi) m]
    · rw [List.getElem?_eq_none (by rw [wipe_length]; omega), List.getElem?_eq_none (by rw [wipe_length]; omega)]
  · rw [wipe_out m, h.2 i fun z => m (hs i z)]
/-- the names are forgotten: any slots will do that agree elsewhere -/
theorem SR.wipe {vs : List Nat} (R : SR G En σ H F S fps hd) (e : wipe σ vs = wipe σ' vs) : SR G En σ' H F (wipeS S vs) fps hd where
  len := by
    have := congrArg List.length e
    rw [wipe_length, wipe_length] at this
    rw [wipeS_length, R.len, this]
  slot := fun i ot h => by
    obtain ⟨h1, h2⟩ := wipeS_some h
    obtain ⟨v, g1, g2⟩ := R.slot i ot h1
    refine ⟨v, ?_, g2⟩
    rw [← wipe_out h2, ← e, wipe_out h2]
    exact g1
  nd := R.nd
  dj := R.dj
  own := R.own
  sub := R.sub
  sub0 := R.sub0
  fnew := R.fnew
  kp := R.kp
  hand := R.hand
  slf := fun i C fs h => R.slf i C fs (wipeS_some h).1
  tbE := R.tbE
theorem wipe_wipe (σ : L2.St) (vs : List Nat) : wipe (wipe σ vs) vs = wipe σ vs := by
  refine List.ext_getElem? fun i => ?_
  by_cases m : i ∈ vs
  · by_cases hi : i < σ.length
    · rw [wipe_in hi m, wipe_in (by rw [wipe_length]; exact hi) m]
    · rw [List.getElem?_eq_none (by rw [wipe_length, wipe_length]; omega), List.getElem?_eq_none (by rw [wipe_length]; omega)]
  · rw [wipe_out m]

theorem wipeS_out {S : Slots} {i : Nat} : ∀ {vs : List Nat}, i ∉ vs → (wipeS S vs)[i]? = S[i]?
  | [], _ => rfl
  | v :: vs, h => by
    unfold wipeS
    simp only [List.mem_cons, not_or] at h
    rw [List.getElem?_set_ne (fun e => h.1 e.symm), wipeS_out h.2]
theorem wipeS_in {S : Slots} {i : Nat} (hl : i < S.length) : ∀ {vs : List Nat}, i ∈ vs → (wipeS S vs)[i]? = some none
  | [], h => absurd h List.not_mem_nil
  | v :: vs, h => by
    unfold wipeS
    by_cases c : v = i
    · subst c
      rw [List.getElem?_set_self (by rw [wipeS_length]; exact hl)]
    · rw [List.getElem?_set_ne c]
      rcases List.mem_cons.mp h with z | z
      · exact absurd z.symm c
      · exact wipeS_in hl z
theorem wipeS_wipeS (S : Slots) (vs : List Nat) : wipeS (wipeS S vs) vs = wipeS S vs := by
  refine List.ext_getElem? fun i => ?_
  by_cases m : i ∈ vs
  · by_cases hi : i < S.length
    · rw [wipeS_in hi m, wipeS_in (by rw [wipeS_length]; exact hi) m]
    · rw [List.getElem?_eq_none (by rw [wipeS_length, wipeS_length]; omega), List.getElem?_eq_none (by rw [wipeS_length]; omega)]
  · rw [wipeS_out m]

/-! ### [elt for target in items if test] -/
def lcL (vs : List Nat) (g : Tgt) (c : M Bool) (e : M T) : List T → List T → Slots → Hd → Option (List T × Slots × Hd)
  | [], acc, S, hd => some (acc, S, hd)
  | x :: xs, acc, S, hd => match g x S with
    | none => none
    | some S1 => match c S1 hd with
      | some (.ok true, S2, hd2) => match e S2 hd2 with
        | some (.ok t, S3, hd3) => if acc.length < 10000 then lcL vs g c e xs (acc ++ [t]) (wipeS S3 vs) hd3 else none
        | _ => none
      | some (.ok false, S2, hd2) => lcL vs g c e xs acc (wipeS S2 vs) hd2
      | _ => none
def lcR : Option (List T × Slots × Hd) → Res OT
  | some (acc, S', hd') => some (.ok (.f acc), S', hd')
  | none => none
def mLc (vs : List Nat) (mi : M (List T)) (g : Tgt) (c : M Bool) (e : M T) : M OT := M.bind mi fun items S hd => lcR (lcL vs g c e items [] (wipeS S vs) hd)
/-- the wish of a block: nothing is raised -/
def W0 : WX := fun _ _ _ _ => False
/-- what stands between the turns -/
structure LcAt (G : Gd) (En : Ent) (W : WX) (σ : L2.St) (vs : List Nat) (F1 : Hp) (D : Addr) (k : List T → Slots → Hd → Res OT) (Q : VK) (H F : Hp) (S : Slots) (fps : Nat → List Addr) (hd : Hd) (acc : List T) (us : List V) : Prop where
  sr : SR G En σ H F S fps hd
  hw : wipeS S vs = S
  d : Side En H F fps D us
  ra : Reps G En.ha F acc us
  s : Same F1 F
  p : Post G En W (RO G En) σ F (k acc S hd) Q
theorem lc_step {vs is : List Nat} {mi : M (List T)} {g : Tgt} {c : M Bool} {e : M T} {Q : VK} (his : ∀ i ∈ is, i ∈ vs) (q : tP G W (RO G) (mLc vs mi g c e) σ H Q) :
    tLc (tI G W mi) (tG G g is) (tP G W0 RT c) (tP G W0 (RE G) e) vs σ H Q := by
  obtain ⟨En, q⟩ := q
  obtain ⟨F0, q⟩ := q.bind (R1 := RI G En)
  refine ⟨En, q.mono fun J H1 ⟨items, F1, S1, fps1, hd1, sr, s, ok, p⟩ => fun D hD => ?_⟩
  obtain ⟨sr0, d0⟩ := (sr.wipe (vs := vs) (σ' := σ) rfl).newSide (us := []) hD
  refine ⟨fun i m H => m = items.length - i ∧ i ≤ items.length ∧ ∃ F S fps hd acc us, LcAt G En W σ vs F1 D (fun acc S hd => lcR (lcL vs g c e (items.drop i) acc S hd)) Q H F S fps hd acc us,
    ⟨items.length, rfl, Nat.zero_le _, F1, wipeS S1 vs, fps1, hd1, [], [], sr0, wipeS_wipeS S1 vs, d0, by simp only [Reps], Same.refl _, by rw [List.drop_zero]; exact p⟩, ?_⟩
  rintro i m H ⟨rfl, hi, F, S, fps, hd, acc, us, sr, hw, d, ra, s, p⟩
  obtain ⟨st, go⟩ := ok H F hd s sr.sub sr.hand i
  by_cases hlt : i < items.length
  · refine .inr ⟨(go items[i] (List.getElem?_eq_getElem hlt)).1, fun H' => ∃ F S fps hd acc us, LcAt G En W σ vs F1 D (fun acc S hd => lcR (lcL vs g c e (items.drop (i + 1)) acc S hd)) Q H' F S fps hd acc us,
      fun H' n => ⟨items.length - (i + 1), by omega, rfl, hlt, n⟩, fun x H' y => ?_⟩
    obtain ⟨F', gr, rx⟩ := (go items[i] (List.getElem?_eq_getElem hlt)).2 x H' y
    have sr1 := sr.grow gr
    have d1 := d.grow sr gr
    have ra1 := Reps.mono gr.sF _ _ ra
    have s1 := s.trans gr.sF
    have p1 := Post.mono gr.sF p fun _ _ q => q
    rw [List.drop_eq_getElem_cons hlt] at p1
    unfold lcL at p1
    cases eg : g items[i] S with
    | none => rw [eg] at p1; exact p1.elim
    | some S2 =>
      rw [eg] at p1
      dsimp only at p1
      have srW : SR G En (wipe σ vs) H' F' S fps hd := by
        have := sr1.wipe (vs := vs) (σ' := wipe σ vs) (wipe_wipe σ vs).symm
        rw [hw] at this
        exact this
      refine ⟨En.at H' F' fps S.length, items[i], F', S, _, hd, S2, srW.rebase, rx, eg, fun σ2 fps2 sr2 sto => ⟨sto.wipe his, ?_⟩⟩
      have ew : wipe σ2 vs = wipe σ vs := sto.wipe his
      refine ⟨En.at H' F' fps S.length, F', S2, fps2, hd, sr2, ?_⟩
      rcases ec : c S2 hd with _ | ⟨oc, S3, hd3⟩ <;> rw [ec] at p1
      · exact p1.elim
      · cases oc with
        | ex C fs => exact p1.elim
        | ok b =>
          intro b' H3 F3 fps3 sr3 s3 eb
          obtain rfl : b' = b := eb
          cases b' with
          | false =>
            rw [if_neg Bool.false_ne_true]
            exact ⟨F3, wipeS S3 vs, fps3, hd3, acc, us, (srW.unbase sr3).wipe ew, wipeS_wipeS S3 vs, d1.rebase srW sr3, Reps.mono s3 _ _ ra1, s1.trans s3, Post.mono s3 p1 fun _ _ q => q⟩
          | true =>
            rw [if_pos rfl]
            refine ⟨En.at H' F' fps S.length, F3, S3, fps3, hd3, sr3, ?_⟩
            dsimp only at p1
            rcases ee : e S3 hd3 with _ | ⟨oe, S4, hd4⟩ <;> rw [ee] at p1
            · exact p1.elim
            · cases oe with
              | ex C fs => exact p1.elim
              | ok t =>
                intro y H4 F4 fps4 sr4 s4 ry
                dsimp only at p1
                split at p1
                · rename_i hl
                  have d4 := d1.rebase srW sr4
                  obtain ⟨sr5, d5⟩ := ((srW.unbase sr4).wipe ew).side (ws := us ++ [y]) d4
                  have ra4 := Reps.mono (s3.trans s4) _ _ ra1
                  refine ⟨us, d4.at_, by rw [← Reps.length ra1, sizeLine_eq]; omega, F4, wipeS S4 vs, fps4, hd4, acc ++ [t], us ++ [y], sr5, wipeS_wipeS S4 vs, d5, ra4.snoc ry, s1.trans (s3.trans s4), Post.mono (s3.trans s4) p1 fun _ _ q => q⟩
                · exact p1.elim
  · have e : i = items.length := by omega
    subst e
    rw [List.drop_length] at p
    exact .inl ⟨st (Nat.le_refl _), p _ H F fps sr (Same.refl _) (d.ro ra)⟩
end
end TL
namespace TL
open PySem PySem.Spec PyProof.Rows L2
section
variable {G : Gd} {X : Cx} {W : WX} {En : Ent} {σ σ' : L2.St} {H F H' F' : Hp} {S S' : Slots} {fps fps' : Nat → List Addr} {hd hd' : Hd}
/-! ### an own thing beside the slots -/
def ROf (G : Gd) (En : Ent) (fps : Nat → List Addr) (F H : Hp) (ot : OT) (v : V) (fp : List Addr) : Prop := RepO G En.ha F H ot v fp ∧ fp.Nodup ∧ (∀ j a, a ∈ fp → a ∉ fps j) ∧ ∀ a ∈ fp, F a = none ∧ H a ≠ none ∧ NoH En.ha a ∧ (En.H0 a = none ∨ a ∈ En.own0)
theorem ROf.keep {n : Nat} {ot : OT} {v : V} {fp : List Addr} (R : SR G En σ H F S fps hd) (r : ROf G En fps F H ot v fp) (R' : SR G (En.at H F fps n) σ' H' F' S' fps' hd') : ROf G En fps' F' H' ot v fp := by
  obtain ⟨ro, nd, dj, ow⟩ := r
  have nz : ∀ a ∈ fp, a ∉ (List.range n).flatMap fps := fun a m z => by
    obtain ⟨j, _, mj⟩ := List.mem_flatMap.mp z
    exact dj j a m mj
  have kk : ∀ a ∈ fp, ∀ o, H a = some o → H' a = some o := fun a m o e => R'.kp a o e (nz a m) (ow a m).2.2.1.kp
  refine ⟨RepO.mono R'.sub0 ot v fp kk ro, nd, fun j a m mj => ?_, fun a m => ?_⟩
  · rcases (R'.own j a mj).2.2.2 with z | z
    · exact (ow a m).2.1 z
    · exact nz a m z
  · obtain ⟨g1, g2, g3, g4⟩ := ow a m
    refine ⟨?_, ?_, g3, g4⟩
    · cases e : F' a with
      | none => rfl
      | some o =>
        rcases R'.fnew a (by rw [e]; simp) with z | z | z
        · exact absurd g1 z
        · exact absurd z g2
        · exact absurd z (nz a m)
    · cases e : H a with
      | none => exact absurd e g2
      | some o => rw [kk a m o e]; simp
/-- a, b = e, f -/
def sPar (i j : Nat) (ma mb : M OT) : Stm := sBind ma fun a => sBind mb fun b S hd => match setS i a S with
  | some S1 => match setS j b S1 with
    | some S2 => some (.next, S2, hd)
    | none => none
  | none => none
theorem js_par {i j : Nat} {x y : Str} {a b : Expr} {ma mb : M OT} {px py pt pos : Pos} {kt k2 : Nat} {pt2 : Pos} (ha : JO G X W a ma) (hb : JO G X W b mb) (hps : ∀ ta, PA X [a, b] ta → PS X (.Assign [.Tuple [.Name x px, .Name y py] kt pt] (.Tuple [a, b] k2 pt2) pos) (tPar i j ta))
    (hs : starEach [a, b] X.env = (false, eval a X.env) :: starEach [b] X.env) (hs2 : starEach [b] X.env = (false, eval b X.env) :: starEach [] X.env) :
    JS G X W (.Assign [.Tuple [.Name x px, .Name y py] kt pt] (.Tuple [a, b] k2 pt2) pos) (sPar i j ma mb) := PS.imp (hps _ (pa_cons ha (pa_cons hb pa_nil hs2) hs)) fun D σ H q => by
  obtain ⟨En, F, S, fps, hd, sr, p⟩ := q
  refine ⟨En, F, S, fps, hd, sr, (PostS.bind (R := RO G En) p).mono (Same.refl _) fun v H1 ⟨ot, F1, S1, fps1, hd1, sr1, s1, r1, p⟩ => ?_⟩
  refine ⟨En.at H1 F1 fps1 S1.length, F1, S1, _, hd1, sr1.rebase, ?_⟩
  unfold sBind at p
  rcases e : mb S1 hd1 with _ | ⟨o, S2, hd2⟩ <;> rw [e] at p
  · exact p
  · cases o with
    | ex C fs => exact fun d H' F' fps' sr' s r => p d σ H' F' fps' (sr1.unbase sr') s r
    | ok b =>
      intro w H2 F2 fps2 sr2 s2 r2
      obtain ⟨fp, r1⟩ := r1
      have q1 := ROf.keep sr1 r1 sr2
      have sr2u := sr1.unbase sr2
      dsimp only at p
      split at p
      · rename_i S3 e3
        split at p
        · rename_i S4 e4
          obtain ⟨fps3, sr3⟩ : ∃ fps3, SR G En (σ.set i (some v)) H2 F2 S3 fps3 hd2 ∧ RO G En fps3 F2 H2 b w := by
            unfold setS at e3
            split at e3
            · rename_i hi
              cases e3
              obtain ⟨ro, nd, dj, ow⟩ := q1
              refine ⟨_, sr2u.put hi.2 (by rw [← sr2u.len]; exact hi.1) ro nd (fun j a _ m => dj j a m) ow, ?_⟩
              obtain ⟨fq, ro2, nd2, dj2, ow2⟩ := r2
              have w2 : ∀ a ∈ fq, H1 a = none ∨ ∃ j, a ∈ fps1 j := fun a m => by
                rcases (ow2 a m).2.2.2 with z | z
                · exact .inl z
                · obtain ⟨j, _, mj⟩ := List.mem_flatMap.mp z
                  exact .inr ⟨j, mj⟩
              refine ⟨fq, ro2, nd2, fun k a m => ?_, fun a m => ?_⟩
              · by_cases c : k = i
                · rw [c, upF_same]
                  intro mf
                  rcases w2 a m with z | ⟨j, z⟩
                  · exact (r1.2.2.2 a mf).2.1 z
                  · exact r1.2.2.1 j a mf z
                · rw [upF_ne c]; exact dj2 k a m
              · obtain ⟨g1, g2, g3, _⟩ := ow2 a m
                refine ⟨g1, g2, g3, ?_⟩
                rcases w2 a m with z | ⟨j, z⟩
                · exact sr1.back z
                · exact (sr1.own j a z).2.2.2
            · cases e3
          obtain ⟨sr3, r3⟩ := sr3
          obtain ⟨fps4, sr4⟩ := sr3.set e4 r3
          exact ⟨v, w, rfl, p _ H2 F2 fps4 sr4 s2⟩
        · exact p.elim
      · exact p.elim

/-! ### values of tests -/
def mAndV (a b : M T) : M T := M.bind a fun x => match x with
  | .bl true => b
  | .bl false => M.ret (.bl false)
  | _ => M.stuck
def mOrV (a b : M T) : M T := M.bind a fun x => match x with
  | .bl true => M.ret (.bl true)
  | .bl false => b
  | _ => M.stuck
section
variable {a b c : Expr} {rest : List Expr} {pos : Pos} {ma mb mc : M T}
theorem je_and1 {op : BoolOp} (h : JE G X W a ma) : JE G X W (.BoolOp op [a] pos) ma := pe_one h
theorem je_and (ha : JE G X W a ma) (hb : JE G X W (.BoolOp .And (b :: rest) pos) mb) : JE G X W (.BoolOp .And (a :: b :: rest) pos) (mAndV ma mb) := PE.imp (pe_and ha hb) fun σ H Q q => by
  obtain ⟨En, q⟩ := q
  obtain ⟨F0, q⟩ := q.bind (R1 := RE G En)
  refine ⟨En, q.mono fun v H1 ⟨t, F1, S1, fps1, hd1, sr, s, r, p⟩ => ?_⟩
  cases t <;> try exact p.elim
  rename_i k
  simp only [RE, Rep] at r
  refine ⟨k, r, ?_⟩
  cases k with
  | true => exact ⟨En, F1, S1, fps1, hd1, sr, p⟩
  | false => exact Post.ok p sr (Same.refl _) (by simp only [RE, Rep])
theorem je_or (ha : JE G X W a ma) (hb : JE G X W (.BoolOp .Or (b :: rest) pos) mb) : JE G X W (.BoolOp .Or (a :: b :: rest) pos) (mOrV ma mb) := PE.imp (pe_or ha hb) fun σ H Q q => by
  obtain ⟨En, q⟩ := q
  obtain ⟨F0, q⟩ := q.bind (R1 := RE G En)
  refine ⟨En, q.mono fun v H1 ⟨t, F1, S1, fps1, hd1, sr, s, r, p⟩ => ?_⟩
  cases t <;> try exact p.elim
  rename_i k
  simp only [RE, Rep] at r
  refine ⟨k, r, ?_⟩
  cases k with
  | true => exact Post.ok p sr (Same.refl _) (by simp only [RE, Rep])
  | false => exact ⟨En, F1, S1, fps1, hd1, sr, p⟩
def notT : T → Option T
  | .bl k => some (.bl (!k))
  | _ => none
def mNotV (a : M T) : M T := M.bind a fun x => M.lift (notT x)
theorem je_not (ha : JE G X W a ma) : JE G X W (.UnaryOp .Not a pos) (mNotV ma) := PE.imp (pe_not ha) fun σ H Q q => by
  obtain ⟨En, q⟩ := q
  obtain ⟨F0, q⟩ := q.bind (R1 := RE G En)
  refine ⟨En, q.mono fun v H1 ⟨t, F1, S1, fps1, hd1, sr, s, r, p⟩ => ?_⟩
  obtain ⟨u, e, p1⟩ := p.lift
  cases t <;> simp only [notT] at e <;> try cases e
  simp only [RE, Rep] at r
  exact ⟨_, r, p1.ok sr (Same.refl _) (by simp only [RE, Rep])⟩
/-- a op b op' c -/
def mChain (f f' : T → T → Option Bool) (a b c : M T) : M Bool := M.bind a fun x => M.bind b fun y => match f x y with
  | some true => M.bind c fun z => M.lift (f' y z)
  | some false => M.ret false
  | none => M.stuck
theorem chain_step {f f' : T → T → Option Bool} {r r' : R2} {Q : Bool → Hp → Prop} (sp : OpSB G f r) (sp' : OpSB G f' r') (q : tP G W RT (mChain f f' ma mb mc) σ H Q) :
    tChain r r' (tP G W (RE G) ma) (tP G W (RE G) mb) (tP G W (RB G) mc) σ H fun z H1 => ∃ k, z = .bl k ∧ Q k H1 := by
  obtain ⟨En, q⟩ := q
  obtain ⟨F0, q⟩ := q.bind (R1 := RE G En)
  refine ⟨En, q.mono fun v H1 ⟨t, F1, S1, fps1, hd1, sr, s, rt, p⟩ => ?_⟩
  refine ⟨En, F1, S1, fps1, hd1, sr, (Post.bind (R1 := RE G En) p).mono (Same.refl _) fun v2 H2 ⟨t2, F2, S2, fps2, hd2, sr2, s2, r2, p2⟩ => ?_⟩
  dsimp only at p2
  rcases e : f t t2 with _ | k
  · rw [e] at p2
    exact p2.elim
  · rw [e] at p2
    refine sp En.ha t t2 k H2 F2 v v2 _ e sr2.sub (Rep.b sr2.sub (Rep.mono s2 t v rt)) (Rep.b sr2.sub r2) ⟨k, rfl, ?_⟩
    cases k with
    | false => exact ⟨false, rfl, Post.ok p2 sr2 (Same.refl _) rfl⟩
    | true =>
      refine ⟨En, F2, S2, fps2, hd2, sr2, (Post.bind (R1 := RB G En) p2).mono (Same.refl _) fun v3 H3 ⟨t3, F3, S3, fps3, hd3, sr3, s3, r3, p3⟩ => ?_⟩
      obtain ⟨u, e3, p3⟩ := p3.lift
      exact sp' En.ha t2 t3 u H3 F3 v2 v3 _ e3 sr3.sub (Rep.b sr3.sub (Rep.mono s3 t2 v2 r2)) r3 ⟨u, rfl, p3.ok sr3 (Same.refl _) rfl⟩
theorem jt_chain {op op' : CmpOp} {f f' : T → T → Option Bool} {r r' : R2} (ho : OpR X (compareOp op) r) (ho' : OpR X (compareOp op') r') (sp : OpSB G f r) (sp' : OpSB G f' r') (ha : JE G X W a ma) (hb : JE G X W b mb) (hc : JB G X W c mc) (hm : lastMarks [op, op'] [b, c] = false) :
    JT G X W (.Compare a [op, op'] [b, c] pos) (mChain f f' ma mb mc) := PT.imp (pt_chain ho ho' ha hb hc hm) fun σ H Q q => chain_step sp sp' q
theorem je_chain {op op' : CmpOp} {f f' : T → T → Option Bool} {r r' : R2} (ho : OpR X (compareOp op) r) (ho' : OpR X (compareOp op') r') (sp : OpSB G f r) (sp' : OpSB G f' r') (mo : Mono2 r) (mo' : Mono2 r') (ha : JE G X W a ma) (hb : JE G X W b mb) (hc : JB G X W c mc) (hm : lastMarks [op, op'] [b, c] = false) :
    JE G X W (.Compare a [op, op'] [b, c] pos) (M.map T.bl (mChain f f' ma mb mc)) := PE.imp (pe_chain ho ho' ha hb hc hm) fun σ H Q q => by
  have := chain_step sp sp' (RT_E q)
  refine tP.mono this fun x H1 z => tP.mono z fun y H2 z => mo _ _ _ _ _ (fun w H3 ⟨k, e, z⟩ => ⟨k, e, ?_⟩) z
  cases k with
  | true =>
    rw [if_pos rfl] at z ⊢
    exact tP.mono z fun w' H4 z => mo' _ _ _ _ _ (fun w H5 ⟨k, e, z⟩ => by rw [e]; exact z) z
  | false =>
    rw [if_neg Bool.false_ne_true] at z ⊢
    obtain ⟨k, e, z⟩ := z
    rw [e]
    exact z
end
end
end TL
namespace TL
open PySem PySem.Spec PyProof.Rows L2 PySem.AutoSeq1
/-! ### enumerate(tuple) -/
set_option maxHeartbeats 8000000 in
theorem meets_enumerate_newT (l : Addr) (items : Array Value) (n : Nat) (dct : Option Addr) (sl : Array (Option Value)) :
    Meets (Builtin.«enumerate.__new__» ⟨[.type "enumerate", .ref l], []⟩) (fun _ R s => s.heap.get? l = some { cls := .type "tuple", dict := dct, data := .seq items n, slots := sl } ∧
      R (.ok (.ret (.ref (s.heap.push { cls := .type "tuple_iterator", data := .fields #[.ref l, .int 0 0] }).objs.size)))
        { s with heap := (s.heap.push { cls := .type "tuple_iterator", data := .fields #[.ref l, .int 0 0] }).push { cls := .type "enumerate", data := .fields #[.none, .bool false, .ref s.heap.objs.size, rawInt 0, .none, .none] } }) :=
  .of_wp fun prog w A R s h => by
    obtain ⟨hp, g, d, tk, os⟩ := s; obtain ⟨hl, h⟩ := h
    have hsub := sub_enumerate
    have hL : Heap.IsTuple (Shared.heap ⟨hp, g, d, tk, os⟩) l items := ⟨_, hl, rfl, n, rfl⟩
    wp_walk using wpAny_loadPart' hl
    refine wpAny_stack_any fun st => wpAny_pure ?_
    split
    · rename_i c _ _ _ _ _
      cases (c == Value.type "enumerate")
      · wp_walk using wpAny_loadPart' hl, wpAny_pyIter_tuple hL
        exact ⟨_, rfl, h⟩
      · wp_walk using wpAny_loadPart' hl, wpAny_pyIter_tuple hL
        exact ⟨_, rfl, h⟩
    · wp_walk using wpAny_loadPart' hl, wpAny_pyIter_tuple hL
      exact ⟨_, rfl, h⟩
section
variable {prog : Program} {w : World} {A : Around} {E : Value → Shared → Prop} {s : Shared}
theorem call_enumerate_tuple {l : Addr} {items : Array Value} {Q : Value → Shared → Prop} (hL : s.heap.IsTuple l items)
    (h : ∀ h', IsEnum h' (s.heap.objs.size + 1) s.heap.objs.size 0 .none → h'.IsTupleIter s.heap.objs.size l 0 → h'.objs.size = s.heap.objs.size + 2 →
      (∀ b o, s.heap.get? b = some o → h'.get? b = some o) → Q (.ref (s.heap.objs.size + 1)) { s with heap := h' }) :
    wpAny (model prog w) A (call (.type "enumerate") [.ref l]) Q E s := by
  obtain ⟨⟨c, dct, dt, sl⟩, hl, hc, n, hd⟩ := hL
  replace hc : c = .type "tuple" := hc
  replace hd : dt = .seq items n := hd
  subst hc hd
  refine callType_new F.called_enumerate (by decide) (F.typeCall_enumerate_1 _) (F.newCall_enumerate_1 _) (fun obj => F.args_object_init_2 obj _) F.entry_enumerate_new
    (meets_enumerate_newT l items n dct sl) ⟨hl, ?_⟩
  have hz : (s.heap.push { cls := .type "tuple_iterator", data := .fields #[.ref l, .int 0 0] }).objs.size = s.heap.objs.size + 1 := Heap.size_push ..
  show _ ∧ _
  rw [hz]
  have he : IsEnum ((s.heap.push { cls := .type "tuple_iterator", data := .fields #[.ref l, .int 0 0] }).push
      { cls := .type "enumerate", data := .fields #[.none, .bool false, .ref s.heap.objs.size, rawInt 0, .none, .none] }) (s.heap.objs.size + 1) s.heap.objs.size 0 .none := by
    have := Heap.get?_push_size (s.heap.push { cls := .type "tuple_iterator", data := .fields #[.ref l, .int 0 0] })
      (o := { cls := .type "enumerate", data := .fields #[.none, .bool false, .ref s.heap.objs.size, rawInt 0, .none, .none] }) rfl
    rw [hz] at this; exact this
  refine ⟨⟨_, he, rfl⟩, h _ he ⟨_, Heap.get?_push_of_some _ (Heap.get?_push_size _ rfl), rfl, rfl⟩ (by rw [Heap.size_push, hz]) fun b o x => Heap.get?_push_of_some _ (Heap.get?_push_of_some _ x)⟩
theorem next_enum_endT {e it l : Addr} {i : Nat} {items : Array Value} {c : Int} {old : Value} {Q : Option Value → Shared → Prop} (hh : A.handled = none)
    (he : IsEnum s.heap e it c old) (hit : s.heap.IsTupleIter it l i) (hl : s.heap.IsTuple l items) (hx : items[i]? = none)
    (hQ : ∀ h', Heap.ExtBut it s.heap h' → Q none { s with heap := h' }) : wpAny (model prog w) A (pyNext (.ref e)) Q E s := by
  have hTy : s.TypeIs (.ref e) "enumerate" := ⟨_, he, rfl⟩
  unfold pyNext
  refine wpAny_bind (wpAny_attempt (wpAny_callSpecial?_slot (name := Str.ofString "__next__") hTy F.slot_enumerate_next
    (wpAny_call_entry F.slot_enumerate_next hTy F.entry_enumerate_next ?_ (F.args_enumerate_next_1 _))))
  show wpAny _ _ (field (.ref e) 2 >>= _) _ _ _
  refine wpAny_bind (wpAny_field he rfl (x := .ref it) rfl ?_)
  refine wpAny_bind (wpAny_nextOf_tuple_end hh hit hl hx fun h' x he' hx' => ?_)
  obtain ⟨o, ho, hc⟩ := hx'
  refine wpAny_bind (wpAny_isInstance (T := "StopIteration") (b := true) ⟨o, ho, hc⟩ isSubtype_stop ?_)
  exact wpAny_pure (hQ _ he')
end
def IteT (K : PySem.W.Frag) (a : Addr) : It :=
  ⟨fun i H => ∃ (xs : List V) (x : V), SqT K H a xs ∧ xs[i]? = some x, fun i H v H' => ∃ T x, v = .ref T ∧ H T = none ∧ H' = upd H T (.tup [.int (i : Nat), x]) ∧ ∀ xs, SqT K H a xs → xs[i]? = some x, fun i H => ∃ xs : List V, SqT K H a xs ∧ xs.length ≤ i⟩
theorem turn_enumT {P : Program} {w : World} {K : PySem.W.Frag} {elts : List Expr} {kk : Nat} {tpos : Pos} (a e it : Addr) :
    Turn P w K (.Tuple elts kk tpos) (IteT K a) [e, it] e (fun i h => (∃ old, IsEnum h e it ((i : Nat) : Int) old) ∧ h.IsTupleIter it a i ∧ e ≠ it) where
  mem := by simp
  obj := fun i h st b hb => by
    obtain ⟨⟨old, he⟩, ⟨o, ho, hc, hd⟩, _⟩ := st
    have e' : b = e ∨ b = it := by simpa using hb
    rcases e' with z | z
    · rw [z]; exact ⟨_, he, fun v q => nomatch q⟩
    · rw [z]; exact ⟨o, ho, fun v q => by rw [hd] at q; cases q⟩
  keep := fun i h h' st k => let ⟨⟨old, he⟩, hi, hne⟩ := st; ⟨⟨old, k e (by simp) _ he⟩, hi.at fun o q => k it (by simp) o q, hne⟩
  item := by
    intro X hP hw hK hc i pins s σ H E I hf st hg
    subst hP hw hK
    obtain ⟨⟨old, he⟩, hit, hne⟩ := st
    obtain ⟨xs, x, hq, hx⟩ := hg
    obtain ⟨its, rv, p, hz⟩ := I.tuple hq
    obtain ⟨u, hu, ru⟩ := rv.get hx
    have hel : e < s.heap.objs.size := Heap.lt_size he
    have hil : it < s.heap.objs.size := by obtain ⟨_, q, _⟩ := hit; exact Heap.lt_size q
    have hat : a ≠ it := fun z => by
      obtain ⟨o, ho, hc, hd⟩ := hit
      obtain ⟨o', ho', hc', n', hd'⟩ := p
      rw [z, ho] at ho'
      cases ho'
      rw [hd] at hd'
      cases hd'
    have hae : e ≠ a := fun z => by
      obtain ⟨o', ho', hc', n', hd'⟩ := p
      rw [← z, show s.heap.get? e = _ from he] at ho'
      cases ho'
      cases hd'
    have hlt : i < its.toArray.size := by
      rcases List.getElem?_eq_some_iff.mp hu with ⟨q, _⟩
      simpa using q
    have D := Draws.tuple (prog := X.prog) (w := X.w) (A := X.A.in1) (show X.A.in1.handled = none from I.ok.hd hc) it a hat its.toArray
    refine PySem.wpAny_pyNext_enum_itemC (c := ((i : Nat) : Int)) D he ⟨hit, p⟩ hlt hne (by simp only [List.mem_cons, List.not_mem_nil, or_false, not_or]; exact ⟨hne, hae⟩) fun y h' tk hP ho hit' hT hsz hk => ?_
    have hy : y = u := by
      have : its[i]? = some y := by simpa using hP
      rw [hu] at this
      exact (Option.some.inj this).symm
    subst hy
    refine ⟨_, rfl, wpAny_letOwnedTupleGo_enum (s := { s with heap := h', toks := tk + 1 }) ho fun h'' he' sb => ?_⟩
    have hT2 : h''.get? s.heap.objs.size = some { cls := .type "tuple", data := .seq #[.int i tk, y] } := (sb.2 _ (Nat.ne_of_gt hel)).trans hT
    have new : ObjOk X.prog X.w (upd H s.heap.objs.size (.tup [.int (i : Nat), x])) h'' s.heap.objs.size (.tup [.int (i : Nat), x]) :=
      ⟨by show 2 ≤ sizeLine; decide, [.int i tk, y], .cons ⟨_, rfl⟩ (.cons ru .nil), ⟨_, hT2, rfl, _, rfl⟩⟩
    have I1 : Inv X pins σ (upd H s.heap.objs.size (.tup [.int (i : Nat), x])) { s with heap := h'', toks := tk + 1 } :=
      I.turnedNew (ch := [e, it]) (fun b ob hb q => (sb.2 b (fun z => hb (by simp [z]))).trans (hk b ob (fun z => hb (by simp [z])) (fun z => hb (by simp [z])) q)) hf (Nat.le_refl _) new
    refine ⟨.ref s.heap.objs.size, _, I1, rfl, ⟨_, x, rfl, I.hok.fresh (Nat.le_refl _), rfl, fun ys hy => by rw [I.tuple_inj hy hq]; exact hx⟩, ⟨⟨y, ?_⟩, hit'.1.at fun o q => (sb.2 it (Ne.symm hne)).trans q, hne⟩, fun b hb => ?_⟩
    · have e1 : ((i + 1 : Nat) : Int) = (i : Int) + 1 := by omega
      rw [e1]; exact he'
    · have hb' : b < s.heap.objs.size := by
        have e' : b = e ∨ b = it := by simpa using hb
        rcases e' with z | z
        · rw [z]; exact hel
        · rw [z]; exact hil
      rw [upd_ne (Nat.ne_of_lt hb')]
      exact (hf b hb).1
  done := by
    intro X hP hw hK hc i pins s σ H E I hf st hg
    subst hP hw hK
    obtain ⟨⟨old, he⟩, hit, hne⟩ := st
    obtain ⟨xs, hq, hx⟩ := hg
    obtain ⟨its, rv, p, hz⟩ := I.tuple hq
    obtain ⟨f0, f1, f2, f3, f4, f5⟩ := hf it (by simp)
    have hl := rv.length
    exact next_enum_endT (I.ok.hd hc) he hit p (by simp; omega) fun h' eb => ⟨rfl, I.turned (t' := s.toks) (fun b o hb q => eb b o hb q) f0 f1 f3 f4 f5⟩
  self := fun A i s Q E st h => let ⟨⟨_, he⟩, _⟩ := st; wpAny_pyIter_enum he h
def iEnumA (K : PySem.W.Frag) (ta : TE) : TI := fun σ H R => ta σ H fun v H1 => ∃ a xs, [v] = [.ref a] ∧ ((SqL K H1 a xs ∧ R (Ite K a) H1) ∨ (SqT K H1 a xs ∧ R (IteT K a) H1))
theorem pi_enumA {X : Cx} {e : Expr} {ta : TE} {p pos tpos : Pos} {elts : List Expr} {kk : Nat} (hg : Gl X "enumerate") (hm : X.mg "enumerate" = none) (ha : PE X e ta) (hs : starEach [e] X.env = [(false, eval e X.env)]) :
    PI X (.Tuple elts kk tpos) (.Call (.Name "enumerate" p) [e] [] pos) (iEnumA X.K ta) := by
  refine ⟨fun pins s σ H R I h => ?_⟩
  have hpa : PA X [e] (tCons ta tNil) := pa_cons ha pa_nil hs
  refine Call_ (ld_blt I hg hm boot_enumerate (PyProof.Rows.callWith_type1 (thn (hpa.run pos pins s σ H (fun vs H1 => ∃ a xs, vs = [.ref a] ∧ ((SqL X.K H1 a xs ∧ R (Ite X.K a) H1) ∨ (SqT X.K H1 a xs ∧ R (IteT X.K a) H1))) I h) fun us s1 ⟨vs, H1, I1, r1, q1⟩ => ?_) hs rfl))
  obtain ⟨a, xs, ex, q⟩ := q1
  subst ex
  cases r1 with
  | cons r rr =>
    cases rr
    cases r
    have fin : ∀ b, b ∈ [s1.heap.objs.size + 1, s1.heap.objs.size] → FpOk X pins H1 b := fun b hb => by
      have e' : b = s1.heap.objs.size + 1 ∨ b = s1.heap.objs.size := by simpa using hb
      have hle : s1.heap.objs.size ≤ b := by
        rcases e' with z | z
        · rw [z]; exact Nat.le_add_right _ _
        · rw [z]; exact Nat.le_refl _
      exact I1.fpOk hle (I1.hok.fresh hle)
    rcases q with ⟨hq, q⟩ | ⟨hq, q⟩
    · obtain ⟨its, rv, p', hz⟩ := I1.list hq
      refine call_enumerate_list p'.isList fun h' he hit hsz hk => wpAny_pyIter_enum he ?_
      have I2 : Inv X pins σ H1 { s1 with heap := h' } := I1.kept (t' := s1.toks) hk
      exact ⟨s1.heap.objs.size + 1, [s1.heap.objs.size + 1, s1.heap.objs.size], _, _, H1, rfl, I2, turn_enum a (s1.heap.objs.size + 1) s1.heap.objs.size, ⟨⟨.none, he⟩, hit, Nat.succ_ne_self _⟩, fin, q⟩
    · obtain ⟨its, rv, p', hz⟩ := I1.tuple hq
      refine call_enumerate_tuple p' fun h' he hit hsz hk => wpAny_pyIter_enum he ?_
      have I2 : Inv X pins σ H1 { s1 with heap := h' } := I1.kept (t' := s1.toks) hk
      exact ⟨s1.heap.objs.size + 1, [s1.heap.objs.size + 1, s1.heap.objs.size], _, _, H1, rfl, I2, turn_enumT a (s1.heap.objs.size + 1) s1.heap.objs.size, ⟨⟨.none, he⟩, hit, Nat.succ_ne_self _⟩, fin, q⟩
section
variable {G : Gd} {X : Cx} {W : WX} {En : Ent} {σ : L2.St} {H F : Hp} {S : Slots} {fps : Nat → List Addr} {hd : Hd}
/-! trees -/
def enumFrom (k : Nat) : List T → List T
  | [] => []
  | x :: xs => .tup [.int (k : Nat), x] :: enumFrom (k + 1) xs
theorem enumFrom_get : ∀ {xs : List T} {k i : Nat}, (enumFrom k xs)[i]? = (xs[i]?).map fun x => T.tup [.int ((k + i : Nat) : Int), x]
  | [], k, i => by simp [enumFrom]
  | x :: xs, k, 0 => by simp [enumFrom]
  | x :: xs, k, i + 1 => by
    simp only [enumFrom, List.getElem?_cons_succ]
    rw [enumFrom_get]
    have e : k + 1 + i = k + (i + 1) := by omega
    rw [e]
theorem enumFrom_len : ∀ {xs : List T} {k : Nat}, (enumFrom k xs).length = xs.length
  | [], k => rfl
  | x :: xs, k => by simp only [enumFrom, List.length_cons, enumFrom_len]
theorem enum_rep {ha : HA} {F' : Hp} {i : Nat} {t : T} {x : V} {p : Addr} (sF : Same F F') (e : F' p = some (.tup [.int (i : Nat), x])) (r : Rep G ha F t x) : Rep G ha F' (.tup [.int ((i : Nat) : Int), t]) (.ref p) := by
  simp only [Rep, Reps]
  exact ⟨p, _, rfl, .of e, _, _, rfl, rfl, _, _, rfl, Rep.mono sF t x r, rfl⟩
theorem itOk_enum {ha : HA} {F0 : Hp} {K : PySem.W.Frag} {a : Addr} {ts : List T} {us : List V} (h : SqL K F0 a us) (r : Reps G ha F0 ts us) : ItOk G ha F0 (Ite K a) (enumFrom 0 ts) := fun H F hd s1 s2 hh i => by
  have hq : SqL K H a us := sqL_mono (s1.trans s2) h
  refine ⟨fun hi => ⟨us, hq, by rw [← Reps.length r, ← enumFrom_len (xs := ts) (k := 0)]; exact hi⟩, fun t e => ?_⟩
  rw [enumFrom_get, Option.map_eq_some_iff] at e
  obtain ⟨t0, e, rfl⟩ := e
  obtain ⟨v, ev, rv⟩ := Reps.get r e
  refine ⟨⟨us, v, hq, ev⟩, fun x H' y => ?_⟩
  obtain ⟨T, x', rfl, hT, rfl, e2⟩ := y
  have := e2 us hq
  rw [ev] at this
  cases this
  rw [Nat.zero_add]
  have g := Grow.laid (o := .tup [.int (i : Nat), v]) s2 hh hT
  exact ⟨_, g, enum_rep g.sF upd_same (Rep.mono s1 t0 v rv)⟩
theorem itOk_enumT {ha : HA} {F0 : Hp} {K : PySem.W.Frag} {a : Addr} {ts : List T} {us : List V} (h : SqT K F0 a us) (r : Reps G ha F0 ts us) : ItOk G ha F0 (IteT K a) (enumFrom 0 ts) := fun H F hd s1 s2 hh i => by
  have hq : SqT K H a us := sqT_mono (s1.trans s2) h
  refine ⟨fun hi => ⟨us, hq, by rw [← Reps.length r, ← enumFrom_len (xs := ts) (k := 0)]; exact hi⟩, fun t e => ?_⟩
  rw [enumFrom_get, Option.map_eq_some_iff] at e
  obtain ⟨t0, e, rfl⟩ := e
  obtain ⟨v, ev, rv⟩ := Reps.get r e
  refine ⟨⟨us, v, hq, ev⟩, fun x H' y => ?_⟩
  obtain ⟨T, x', rfl, hT, rfl, e2⟩ := y
  have := e2 us hq
  rw [ev] at this
  cases this
  rw [Nat.zero_add]
  have g := Grow.laid (o := .tup [.int (i : Nat), v]) s2 hh hT
  exact ⟨_, g, enum_rep g.sF upd_same (Rep.mono s1 t0 v rv)⟩
def enumT (t : T) : Option (List T) := (itemsOf t).map (enumFrom 0)
def mEnum (m : M T) : M (List T) := M.bind m fun t => M.lift (enumT t)
theorem ji_enum {e : Expr} {m : M T} {p pos tpos : Pos} {elts : List Expr} {kk : Nat} (hK : X.K = G.K) (hg : Gl X "enumerate") (hm : X.mg "enumerate" = none) (h : JE G X W e m) (hs : starEach [e] X.env = [(false, eval e X.env)]) :
    JI G X W (.Tuple elts kk tpos) (.Call (.Name "enumerate" p) [e] [] pos) (mEnum m) := PI.imp (pi_enumA hg hm h hs) fun σ H R q => by
  obtain ⟨En, q⟩ := q
  obtain ⟨F0, q⟩ := q.bind (R1 := RE G En)
  refine ⟨En, q.mono fun v H1 ⟨t, F1, S1, fps1, hd1, sr, s, r, p⟩ => ?_⟩
  obtain ⟨ts, e, p⟩ := p.lift
  unfold enumT at e
  rw [Option.map_eq_some_iff] at e
  obtain ⟨us, e, rfl⟩ := e
  cases t <;> simp only [itemsOf] at e <;> cases e
  · simp only [RE, Rep] at r
    obtain ⟨a, us, rfl, q, r⟩ := r
    exact ⟨a, us, rfl, .inr ⟨by rw [hK]; exact sqT_mono sr.sub q, p.ok sr (Same.refl _) (itOk_enumT (by rw [hK]; exact q) r)⟩⟩
  · simp only [RE, Rep] at r
    obtain ⟨a, us, rfl, q, r⟩ := r
    exact ⟨a, us, rfl, .inl ⟨.of (sr.sub _ _ q), p.ok sr (Same.refl _) (itOk_enum (.of q) r)⟩⟩
  · simp only [RE, Rep] at r
    obtain ⟨a, rfl, q⟩ := r
    exact ⟨a, _, rfl, .inl ⟨by rw [hK]; exact sqL_mono sr.sub q, p.ok sr (Same.refl _) (itOk_enum (by rw [hK]; exact q) (ints_reps _))⟩⟩
end
end TL
namespace TL
open PySem PySem.Spec PyProof.Rows L2
section
variable {G : Gd} {X : Cx} {W : WX} {En : Ent} {σ : L2.St} {H F : Hp} {S : Slots} {fps : Nat → List Addr} {hd : Hd}
/-! ### slices -/
def ROI : RR (Option Int) (Option Int) := fun _ _ _ a b => b = a
def JPart (G : Gd) (X : Cx) (W : WX) (e : Option Expr) (m : M (Option Int)) : Prop := PO X e (tP G W (fun _ => ROI) m)
theorem PO.imp {e : Option Expr} {t t' : TO} (h : PO X e t) (k : ∀ σ H Q, t' σ H Q → t σ H Q) : PO X e t' := ⟨fun pins s σ H Q I q => h.run pins s σ H Q I (k σ H Q q)⟩
theorem jpart_none : JPart G X W none (M.ret none) := PO.imp po_none fun σ H Q q => by
  obtain ⟨En, F, S, fps, hd, sr, p⟩ := q
  exact p.ok sr (Same.refl _) rfl
def intO : T → Option (Option Int)
  | .int i => some (some i)
  | _ => none
def mPart (m : M T) : M (Option Int) := M.bind m fun t => M.lift (intO t)
theorem jpart_some {e : Expr} {m : M T} (h : JE G X W e m) : JPart G X W (some e) (mPart m) := PO.imp (po_some h) fun σ H Q q => by
  obtain ⟨En, q⟩ := q
  obtain ⟨F0, q⟩ := q.bind (R1 := RE G En)
  refine ⟨En, q.mono fun v H1 ⟨t, F1, S1, fps1, hd1, sr, s, r, p⟩ => ?_⟩
  obtain ⟨u, e, p1⟩ := p.lift
  cases t <;> simp only [intO] at e <;> try cases e
  simp only [RE, Rep] at r
  exact ⟨_, r, p1.ok sr (Same.refl _) rfl⟩
def cutT (xs : List T) (lo hi : Option Int) : List T := (xs.drop (HT.sIx xs.length 0 lo)).take (HT.sIx xs.length xs.length hi - HT.sIx xs.length 0 lo)
theorem Reps.drop {ha : HA} {F : Hp} : ∀ {ts : List T} {vs : List V} (k : Nat), Reps G ha F ts vs → Reps G ha F (ts.drop k) (vs.drop k)
  | _, _, 0, h => h
  | [], vs, k + 1, h => by simp only [Reps] at h; subst h; simp only [List.drop_nil, Reps]
  | t :: ts, vs, k + 1, h => by
    simp only [Reps] at h
    obtain ⟨u, r, rfl, h1, h2⟩ := h
    exact Reps.drop k h2
theorem Reps.take {ha : HA} {F : Hp} : ∀ {ts : List T} {vs : List V} (k : Nat), Reps G ha F ts vs → Reps G ha F (ts.take k) (vs.take k)
  | _, _, 0, h => by simp only [List.take_zero, Reps]
  | [], vs, k + 1, h => by simp only [Reps] at h; subst h; simp only [List.take_nil, Reps]
  | t :: ts, vs, k + 1, h => by
    simp only [Reps] at h
    obtain ⟨u, r, rfl, h1, h2⟩ := h
    simp only [List.take_succ_cons, Reps]
    exact ⟨u, _, rfl, h1, Reps.take k h2⟩
theorem Reps.cut {ha : HA} {F : Hp} {ts : List T} {vs : List V} {lo hi : Option Int} (h : Reps G ha F ts vs) : Reps G ha F (cutT ts lo hi) (cutV vs lo hi) := by
  unfold cutT cutV
  rw [Reps.length h]
  exact (h.drop _).take _
def sliceT (lo hi : Option Int) : T → Option OT
  | .lst xs => some (.f (cutT xs lo hi))
  | .tup xs => some (.v (.tup (cutT xs lo hi)))
  | .str z => if z.length ≤ 100000 then some (.v (.str (cutS z lo hi))) else none
  | _ => none
def rSlA3 (K : PySem.W.Frag) : V → Option Int → Option Int → Hp → VK → Prop := fun x lo hi H Q => rSlL K x lo hi H Q ∨ (fun x lo hi H Q => rSlA K x lo hi H Q ∨ rSlS x lo hi H Q) x lo hi H Q
theorem sl_A3 : SlR X (rSlA3 X.K) := sl_list.or (sl_tupA.or sl_str)
def mSl (mo : M T) (ml mh : M (Option Int)) : M OT := M.bind mo fun x => M.bind ml fun l => M.bind mh fun h => M.lift (sliceT l h x)
theorem cut_all {xs : List T} {us : List V} {lo hi : Option Int} (hl : xs.length = us.length) (h : HT.sIx us.length 0 lo = 0 ∧ HT.sIx us.length us.length hi = us.length) : cutT xs lo hi = xs := by
  unfold cutT
  rw [hl, h.1, h.2, List.drop_zero, Nat.sub_zero, ← hl, List.take_length]
theorem jo_sl {e : Expr} {lo hi : Option Expr} {p2 pos : Pos} {mo : M T} {ml mh : M (Option Int)} (hK : X.K = G.K) (ho : JE G X W e mo) (hl : JPart G X W lo ml) (hh : JPart G X W hi mh) : JO G X W (.Subscript e (.Slice lo hi none p2) pos) (mSl mo ml mh) :=
  PE.imp (pe_slice sl_A3 ho hl hh) fun σ H Q q => by
    obtain ⟨En, q⟩ := q
    obtain ⟨F0, q⟩ := q.bind (R1 := RE G En)
    refine ⟨En, q.mono fun v H1 ⟨t, F1, S1, fps1, hd1, sr, s, r, p⟩ => ?_⟩
    refine ⟨En, F1, S1, fps1, hd1, sr, (Post.bind (R1 := ROI) p).mono (Same.refl _) fun l H2 ⟨l', F2, S2, fps2, hd2, sr2, s2, e2, p2⟩ => ?_⟩
    obtain rfl : l = l' := e2
    refine ⟨En, F2, S2, fps2, hd2, sr2, (Post.bind (R1 := ROI) p2).mono (Same.refl _) fun h H3 ⟨h', F3, S3, fps3, hd3, sr3, s3, e3, p3⟩ => ?_⟩
    obtain rfl : h = h' := e3
    obtain ⟨ot, e, p3⟩ := p3.lift
    have c := Conts.of sr3 p3
    have r3 := Rep.mono (s2.trans s3) t v r
    rw [hK]
    unfold sliceT at e
    split at e
    · cases e
      simp only [Rep] at r3
      obtain ⟨a, us, rfl, ha, rx⟩ := r3
      exact .inl ⟨a, us, rfl, .of (sr3.sub _ _ ha), fun p hp => c.nw _ _ p rfl hp rx.cut⟩
    · rename_i xs
      cases e
      simp only [Rep] at r3
      obtain ⟨a, us, rfl, ha, rx⟩ := r3
      refine .inr (.inl ⟨a, us, rfl, sqT_mono sr3.sub ha, fun hw => ?_, fun hw p hp => c.tup sr3.sub sr3.hand hp rx.cut⟩)
      refine c.here sr3.sub sr3.hand ?_
      rw [cut_all (Reps.length rx) hw]
      simp only [Rep]
      exact ⟨a, us, rfl, ha, rx⟩
    · split at e
      · rename_i hz
        cases e
        simp only [Rep] at r3
        subst r3
        exact .inr (.inr ⟨_, rfl, by rw [sizeLine_eq]; omega, c.here sr3.sub sr3.hand (by simp only [Rep])⟩)
      · cases e
    · cases e
/-- xs[::-1] -/
theorem Reps.reverse {ha : HA} {F : Hp} : ∀ {ts : List T} {vs : List V}, Reps G ha F ts vs → Reps G ha F ts.reverse vs.reverse
  | [], vs, h => by simp only [Reps] at h; subst h; simp only [List.reverse_nil, Reps]
  | t :: ts, vs, h => by
    simp only [Reps] at h
    obtain ⟨u, r, rfl, h1, h2⟩ := h
    rw [List.reverse_cons, List.reverse_cons]
    exact (Reps.reverse h2).snoc h1
def revT : T → Option OT
  | .lst xs => some (.f xs.reverse)
  | _ => none
theorem jo_rev {e : Expr} {k : Nat} {p1 p2 p3 pos : Pos} {m : M T} (hK : X.K = G.K) (h : JB G X W e m) : JO G X W (.Subscript e (.Slice none none (some (.UnaryOp .USub (.Constant (.int 1) k p1) p2)) p3) pos) (mUn revT m) :=
  PE.imp (pe_revL h) fun σ H Q q => by
    have sp : UnS G revT (fun x H1 Q => ∃ a xs, x = .ref a ∧ SqL G.K H1 a xs ∧ ∀ p, H1 p = none → Q (.ref p) (upd H1 p (.lst xs.reverse))) := fun ha t1 t H F v hd Q e s h r c => by
      unfold revT at e
      split at e
      · cases e
        obtain ⟨a, us, rfl, q, rx⟩ := RepB.lst r
        exact ⟨a, us, rfl, .of q, fun p hp => c.nw _ _ p rfl hp rx.reverse⟩
      · cases e
    have := sp.step q
    rw [← hK] at this
    exact this

/-! ### ranges -/
/-- range(a), range(a, b) as values -/
theorem cr_range1 : CallR X (.type "range") (fun vs H Q => ∃ i, vs = [V.int i] ∧ ∀ p, H p = none → Q (.ref p) (upd H p (.rng 0 i))) := by
  intro pins s σ H vs us Q I r h
  obtain ⟨i, rfl, q⟩ := h
  obtain ⟨u1, rfl, ri⟩ := vals1 r
  obtain ⟨t, rfl⟩ := ri
  refine call_range_1 ⟨.ref s.heap.objs.size, upd H s.heap.objs.size (.rng 0 i), I.laid (t' := s.toks + 2) (fun b o e => Heap.get?_push_of_some _ e) (Nat.le_refl _) ?_, rfl, q _ (I.hok.fresh (Nat.le_refl _))⟩
  exact ⟨_, _, _, Heap.get?_push_size _ rfl⟩
def rng1T : T → Option OT
  | .int i => some (.v (.rng 0 i))
  | _ => none
theorem sp_rng1 : UnS G rng1T (fun v H Q => ∃ i, [v] = [V.int i] ∧ ∀ p, H p = none → Q (.ref p) (upd H p (.rng 0 i))) := fun ha t1 t H F v hd Q e s h r c => by
  unfold rng1T at e
  split at e
  · cases e
    have := RepB.int r
    subst this
    exact ⟨_, rfl, fun p hp => c.laid s h hp fun sF => by simp only [Rep]; exact ⟨p, rfl, upd_same⟩⟩
  · cases e
def iRg (tl : TE) : TI := fun σ H R => tl σ H fun x H1 => ∃ a lo hi, x = .ref a ∧ H1 a = some (.rng lo hi) ∧ RgOk lo hi ∧ R (Itr lo (hi - lo).toNat) H1
theorem pi_rg {tg l : Expr} {tl : TE} (hl : PE X l tl) : PI X tg l (iRg tl) := by
  refine ⟨fun pins s σ H R I h => ?_⟩
  refine thn (hl.run pins s σ H _ I h) fun v s1 ⟨x, H1, I1, r1, q1⟩ => ?_
  obtain ⟨a, lo, hi, e, ha, ok, q⟩ := q1
  subst e
  cases r1
  obtain ⟨t, u, w', ho⟩ := I1.hok a _ ha
  obtain ⟨b1, b2, b3, b4, b5⟩ := ok
  refine wpAny_pyIter_range (a := lo) (b := hi) (c := 1) (t := t) (u := u) (v := w') ho (small_one b1 b2 b3 b4) ?_
  refine ⟨s1.heap.objs.size, [s1.heap.objs.size], _, _, H1, rfl, I1.kept (t' := _) fun b o e => Heap.get?_push_of_some _ e, turn_range _ lo (hi - lo).toNat, ?_, fun b hb => ?_, q⟩
  · have e1 : lo + ((0 : Nat) : Int) * 1 = lo := by simp
    have e2 : (((hi - lo).toNat : Nat) : Int) - ((0 : Nat) : Int) = Builtin.Range.rangeSize lo hi 1 := by rw [rangeSize_one]; split <;> omega
    show IsRangeIter _ _ (lo + ((0 : Nat) : Int) * 1) ((((hi - lo).toNat : Nat) : Int) - ((0 : Nat) : Int)) 1
    rw [e1, e2]
    exact Heap.get?_push_size _ rfl
  · have e : b = s1.heap.objs.size := by simpa using hb
    subst e
    exact I1.fpOk (Nat.le_refl _) (I1.hok.fresh (Nat.le_refl _))
/-- what is walked: a list, a tuple, a range -/
def rgOkB (lo hi : Int) : Bool := decide (-(2 ^ 62) ≤ lo ∧ lo < 2 ^ 62 ∧ -(2 ^ 62) ≤ hi ∧ hi < 2 ^ 62 ∧ (hi - lo).toNat ≤ 2 ^ 24)
theorem rgOk_of {lo hi : Int} (h : rgOkB lo hi = true) : RgOk lo hi := by
  unfold rgOkB at h
  have q := of_decide_eq_true h
  exact q
def itemsA : T → Option (List T)
  | .lst xs => some xs
  | .tup xs => some xs
  | .scr ns => some (ns.map T.int)
  | .rng lo hi => if rgOkB lo hi = true then some (rngL lo hi) else none
  | _ => none
def iAny (K : PySem.W.Frag) (tl : TE) : TI := fun σ H R => tl σ H fun x H1 => ∃ a, x = .ref a ∧ (((∃ xs, SqL K H1 a xs) ∧ R (Itl K a) H1) ∨ ((∃ xs, SqT K H1 a xs) ∧ R (Itt K a) H1) ∨ ∃ lo hi, H1 a = some (.rng lo hi) ∧ RgOk lo hi ∧ R (Itr lo (hi - lo).toNat) H1)
theorem pi_any {tg l : Expr} {tl : TE} (hl : PE X l tl) : PI X tg l (iAny X.K tl) := by
  refine ⟨fun pins s σ H R I h => ?_⟩
  refine thn (hl.run pins s σ H _ I h) fun v s1 ⟨x, H1, I1, r1, q1⟩ => ?_
  obtain ⟨a, e, q⟩ := q1
  subst e
  cases r1
  rcases q with ⟨⟨xs, hq⟩, q⟩ | ⟨⟨xs, hq⟩, q⟩ | ⟨lo, hi, ha, ok, q⟩
  · obtain ⟨its, rv, p, hz⟩ := I1.list hq
    refine wpAny_pyIter_list p.isList ?_
    refine ⟨s1.heap.objs.size, [s1.heap.objs.size], _, _, H1, rfl, I1.kept (t' := s1.toks) fun b o e => Heap.get?_push_of_some _ e, turn_list a _, ⟨_, Heap.get?_push_size _ rfl, rfl, rfl⟩, fun b hb => ?_, q⟩
    have e : b = s1.heap.objs.size := by simpa using hb
    subst e
    exact I1.fpOk (Nat.le_refl _) (I1.hok.fresh (Nat.le_refl _))
  · obtain ⟨its, rv, p, hz⟩ := I1.tuple hq
    refine wpAny_pyIter_tuple (show s1.heap.IsTuple a its.toArray from p) ?_
    refine ⟨s1.heap.objs.size, [s1.heap.objs.size], _, _, H1, rfl, I1.kept (t' := s1.toks) fun b o e => Heap.get?_push_of_some _ e, turn_tuple a _, ⟨_, Heap.get?_push_size _ rfl, rfl, rfl⟩, fun b hb => ?_, q⟩
    have e : b = s1.heap.objs.size := by simpa using hb
    subst e
    exact I1.fpOk (Nat.le_refl _) (I1.hok.fresh (Nat.le_refl _))
  · obtain ⟨t, u, w', ho⟩ := I1.hok a _ ha
    obtain ⟨b1, b2, b3, b4, b5⟩ := ok
    refine wpAny_pyIter_range (a := lo) (b := hi) (c := 1) (t := t) (u := u) (v := w') ho (small_one b1 b2 b3 b4) ?_
    refine ⟨s1.heap.objs.size, [s1.heap.objs.size], _, _, H1, rfl, I1.kept (t' := _) fun b o e => Heap.get?_push_of_some _ e, turn_range _ lo (hi - lo).toNat, ?_, fun b hb => ?_, q⟩
    · have e1 : lo + ((0 : Nat) : Int) * 1 = lo := by simp
      have e2 : (((hi - lo).toNat : Nat) : Int) - ((0 : Nat) : Int) = Builtin.Range.rangeSize lo hi 1 := by rw [rangeSize_one]; split <;> omega
      show IsRangeIter _ _ (lo + ((0 : Nat) : Int) * 1) ((((hi - lo).toNat : Nat) : Int) - ((0 : Nat) : Int)) 1
      rw [e1, e2]
      exact Heap.get?_push_size _ rfl
    · have e : b = s1.heap.objs.size := by simpa using hb
      subst e
      exact I1.fpOk (Nat.le_refl _) (I1.hok.fresh (Nat.le_refl _))
def mItemsA (m : M T) : M (List T) := M.bind m fun t => M.lift (itemsA t)
theorem ji_any {tg e : Expr} {m : M T} (hK : X.K = G.K) (h : JE G X W e m) : JI G X W tg e (mItemsA m) := PI.imp (pi_any h) fun σ H R q => by
  obtain ⟨En, q⟩ := q
  obtain ⟨F0, q⟩ := q.bind (R1 := RE G En)
  refine ⟨En, q.mono fun v H1 ⟨t, F1, S1, fps1, hd1, sr, s, r, p⟩ => ?_⟩
  obtain ⟨ts, e, p⟩ := p.lift
  cases t <;> simp only [itemsA] at e <;> try cases e
  · simp only [RE, Rep] at r
    obtain ⟨a, us, rfl, q, r⟩ := r
    exact ⟨a, rfl, .inr (.inl ⟨⟨us, by rw [hK]; exact sqT_mono sr.sub q⟩, p.ok sr (Same.refl _) (itOk_tup (by rw [hK]; exact q) r)⟩)⟩
  · simp only [RE, Rep] at r
    obtain ⟨a, us, rfl, q, r⟩ := r
    exact ⟨a, rfl, .inl ⟨⟨us, .of (sr.sub _ _ q)⟩, p.ok sr (Same.refl _) (itOk_list (.of q) r)⟩⟩
  · split at e
    · rename_i lo hi ho
      cases e
      simp only [RE, Rep] at r
      obtain ⟨a, rfl, q⟩ := r
      exact ⟨a, rfl, .inr (.inr ⟨lo, hi, sr.sub _ _ q, rgOk_of ho, p.ok sr (Same.refl _) itOk_rng⟩)⟩
    · cases e
  · simp only [RE, Rep] at r
    obtain ⟨a, rfl, q⟩ := r
    exact ⟨a, rfl, .inl ⟨⟨_, by rw [hK]; exact sqL_mono sr.sub q⟩, p.ok sr (Same.refl _) (itOk_list (by rw [hK]; exact q) (ints_reps _))⟩⟩
/-! list(range(..)), tuple(range(..)) -/
def RRg : RR (List T) (Int × Int) := fun _ _ _ ts p => ts = rngL p.1 p.2 ∧ rgOkB p.1 p.2 = true
def rg1 : List T → Option (List T)
  | [.int j] => if rgOkB 0 j = true then some (rngL 0 j) else none
  | _ => none
theorem rngL_reps {ha : HA} {F : Hp} (lo hi : Int) : Reps G ha F (rngL lo hi) (rgV lo hi) := by
  unfold rngL rgV
  generalize List.range (hi - lo).toNat = l
  induction l with
  | nil => simp only [List.map_nil, Reps]
  | cons k l ih => simp only [List.map_cons, Reps, Rep]; exact ⟨_, _, rfl, rfl, ih⟩
def listRg (f : OT → OT) (t : T) : Option OT := match t with
  | .int j => if rgOkB 0 j = true then some (f (.f (rngL 0 j))) else none
  | _ => none
theorem jo_listRg {a : Expr} {m : M T} {p pr pos rpos : Pos} (hc : X.calm = true) (hg : Gl X "list") (hm : X.mg "list" = none) (hgr : Gl X "range") (hmr : X.mg "range" = none) (h : JB G X W a m) (na : starEach [a] X.env = (false, eval a X.env) :: starEach [] X.env)
    (na2 : starEach [.Call (.Name "range" pr) [a] [] rpos] X.env = (false, eval (.Call (.Name "range" pr) [a] [] rpos) X.env) :: starEach [] X.env) :
    JO G X W (.Call (.Name "list" p) [.Call (.Name "range" pr) [a] [] rpos] [] pos) (mUn (listRg id) m) := PE.imp (pe_listRg hc hg hm (prg_1 hgr hmr h na) na2) fun σ H Q q => by
  have sp : UnS G (listRg id) (fun x H1 Q => ∃ n, x = .int n ∧ RgOk 0 n ∧ ∀ q, H1 q = none → Q (.ref q) (upd H1 q (.lst (rgV 0 n)))) := fun ha t1 t H F v hd Q e s h r c => by
    unfold listRg at e
    split at e
    · split at e
      · rename_i j ho
        cases e
        exact ⟨_, RepB.int r, rgOk_of ho, fun p hp => c.nw _ _ p rfl hp (rngL_reps 0 _)⟩
      · cases e
    · cases e
  exact sp.step q
end
end TL
namespace TL
open PySem PySem.Spec PyProof.Rows L2
/-! ### isinstance -/
inductive TyN where
  | b (n : String) | c (C : Str)
  deriving DecidableEq, Inhabited
def tyN : T → Option TyN
  | .non => some (.b "NoneType")
  | .bl _ => some (.b "bool")
  | .int _ => some (.b "int")
  | .str _ => some (.b "str")
  | .tup _ => some (.b "tuple")
  | .lst _ => some (.b "list")
  | .ins C _ => some (.c C)
  | _ => none
def tyVal (G : Gd) : TyN → Value
  | .b n => .type n
  | .c C => .ref (G.ca C)
def clVal (G : Gd) : TyN → V
  | .b n => .ty n
  | .c C => .ref (G.ca C)
section
variable {G : Gd} {X : Cx} {W : WX}
theorem clVal_ok (c : TyN) : ClsV (clVal G c) (tyVal G c) := by
  cases c with
  | b n => exact .ty n
  | c C => exact .own _
/-- what isinstance asks of an own class -/
structure InsC (G : Gd) (C : Str) : Prop where
  cl : Cls G.K (G.ca C)
  ha : PySem.W.findIn G.K (.ref (G.ca C)) "__class__" = some (some (.builtin "object.__class__"))
  hn : PySem.W.specialIn G.K (.builtin "object.__class__") "__get__" = some (some (.builtin "getset_descriptor.__get__"))
  htk : PySem.W.takesIn G.K (.builtin "object.__class__") = some true
  hm : PySem.W.mroIn G.K (G.ca C) (.type "object") = some true
/-- the table of answers: which own classes it knows, which class is below which -/
structure Isi where
  cl : Str → Bool
  is : TyN → TyN → Option Bool
structure IsiOk (G : Gd) (I : Isi) : Prop where
  cl : ∀ C, I.cl C = true → InsC G C
  is : ∀ a b r, I.is a b = some r → PySem.W.kitOne G.K (tyVal G a) (tyVal G b) = some r
def clOk (I : Isi) : TyN → Bool
  | .b _ => true
  | .c C => I.cl C
theorem RepB.ty {I : Isi} (ok : IsiOk G I) {ha : HA} {H F : Hp} {t : T} {v : V} {a : TyN} (s : Same F H) (r : RepB G ha F H t v) (e : tyN t = some a) (hc : clOk I a = true) : TyX G.K H v (tyVal G a) := by
  cases t <;> simp only [tyN] at e <;> try cases e
  · have := RepB.non r; subst this; exact .base .non
  · have := RepB.bl r; subst this; exact .base (.bl _)
  · have := RepB.int r; subst this; exact .base (.int _)
  · have := RepB.str r; subst this; exact .base (.str _)
  · obtain ⟨x, us, rfl, q, _⟩ := RepB.tup r
    rcases sqT_mono s q with (q | ⟨o, q⟩) | ⟨o, its, n, h1, h2, _⟩
    · exact .base (.tup q)
    · exact .fTuple q
    · exact .kTuple h1 h2
  · obtain ⟨x, us, rfl, q, _⟩ := RepB.lst r
    exact .base (.lst q)
  · rename_i C fs
    obtain ⟨x, dx, us, rfl, q, _⟩ := r
    have k := ok.cl C hc
    exact .base (.ins q k.cl k.ha k.hn k.htk k.hm)
def isiT (I : Isi) (c : TyN) (t : T) : Option Bool := match tyN t with
  | some a => if clOk I a = true then I.is a c else none
  | none => none
def isiAny (I : Isi) : List TyN → T → Option Bool
  | [], t => some false
  | c :: cs, t => match isiT I c t with
    | some true => some true
    | some false => isiAny I cs t
    | none => none
def mIsi (I : Isi) (c : TyN) (m : M T) : M Bool := M.bind m fun t => M.lift (isiT I c t)
def mIsis (I : Isi) (cs : List TyN) (m : M T) : M Bool := M.bind m fun t => M.lift (isiAny I cs t)
/-- a class by its name -/
def JC (G : Gd) (X : Cx) (e : Expr) (c : TyN) : Prop := PE X e (tC (clVal G c))
section
variable {a : Expr} {cn : Expr} {c : TyN} {p pos : Pos} {m : M T} {I : Isi}
theorem isi_val {Q : Bool → Hp → Prop} (ok : IsiOk G I) {σ : L2.St} {H : Hp} (q : tP G W RT (mIsi I c m) σ H Q) : tP G W (RB G) m σ H fun v H1 => rIsi G.K [v, clVal G c] H1 fun x H2 => ∃ k, x = .bl k ∧ Q k H2 := by
  obtain ⟨En, q⟩ := q
  obtain ⟨F0, q⟩ := q.bind (R1 := RB G En)
  refine ⟨En, q.mono fun v H1 ⟨t, F1, S1, fps1, hd1, sr, s, r, p⟩ => ?_⟩
  obtain ⟨k, e, p1⟩ := p.lift
  unfold isiT at e
  split at e
  · rename_i ty ety
    split at e
    · rename_i hc
      exact ⟨v, clVal G c, _, _, k, rfl, clVal_ok c, RepB.ty ok sr.sub r ety hc, ok.is _ _ _ e, k, rfl, p1.ok sr (Same.refl _) rfl⟩
    · cases e
  · cases e
theorem je_isi (hK : X.K = G.K) (ok : IsiOk G I) (hg : Gl X "isinstance") (hm : X.mg "isinstance" = none) (hv : bootBuiltins "isinstance" = some (.builtin "isinstance")) (ha : JB G X W a m) (hc : JC G X cn c)
    (hs : starEach [a, cn] X.env = (false, eval a X.env) :: starEach [cn] X.env) (hs2 : starEach [cn] X.env = (false, eval cn X.env) :: starEach [] X.env) (hpl : (backTo pos (starEach [cn] X.env)).any (·.1) = false) :
    JE G X W (.Call (.Name "isinstance" p) [a, cn] [] pos) (M.map T.bl (mIsi I c m)) := PE.imp (pe_callB call_isi hg hm hv (pa_cons ha (pa_cons hc pa_nil hs2) hs) (by decide) (by decide) hs hpl) fun σ H Q q => by
  have := isi_val ok (RT_E q)
  rw [← hK] at this
  exact this.mono fun v H1 ⟨x, cc, t, u, b, e, h1, h2, h3, k, e2, z⟩ => ⟨x, cc, t, u, b, e, h1, h2, h3, by rw [e2]; exact z⟩
theorem pa_csts : ∀ {es : List Expr} {cs : List TyN}, (∀ e ∈ es, ∀ rest : List Expr, starEach (e :: rest) X.env = (false, eval e X.env) :: starEach rest X.env) → Paired (fun e c => JC G X e c) es cs → PA X es (fun _ H Q => Q (cs.map (clVal G)) H)
  | [], _, _, .nil => pa_nil
  | e :: es, _, hs, .cons h t => pa_cons h (pa_csts (fun e' m => hs e' (List.mem_cons_of_mem _ m)) t) (hs e List.mem_cons_self es)
theorem paired_cls : ∀ cs : List TyN, Paired ClsV (cs.map (clVal G)) (cs.map (tyVal G))
  | [] => .nil
  | c :: cs => .cons (clVal_ok c) (paired_cls cs)
theorem isiAny_ok (ok : IsiOk G I) {t : T} {a : TyN} (et : tyN t = some a) : ∀ {cs : List TyN} {b : Bool}, isiAny I cs t = some b → PySem.W.kitAny G.K (tyVal G a) (cs.map (tyVal G)) = some b
  | [], b, e => by simp only [isiAny] at e; cases e; exact kitAny_nil
  | c :: cs, b, e => by
    unfold isiAny at e
    have hh : ∀ r, isiT I c t = some r → PySem.W.kitOne G.K (tyVal G a) (tyVal G c) = some r := fun r q => by
      unfold isiT at q
      rw [et] at q
      dsimp only at q
      split at q
      · exact ok.is _ _ _ q
      · cases q
    split at e
    · rename_i q
      cases e
      exact kitAny_cons (hh _ q) (fun z => by cases z) fun _ => rfl
    · rename_i q
      exact kitAny_cons (hh _ q) (fun _ => isiAny_ok ok et e) fun z => by cases z
    · cases e
theorem isiAny_ty {t : T} {c : TyN} {cs : List TyN} {b : Bool} (e : isiAny I (c :: cs) t = some b) : ∃ a, tyN t = some a ∧ clOk I a = true := by
  unfold isiAny at e
  cases q : isiT I c t with
  | none => rw [q] at e; cases e
  | some r =>
    unfold isiT at q
    split at q
    · rename_i a ea
      split at q
      · rename_i hc
        exact ⟨a, ea, hc⟩
      · cases q
    · cases q
theorem je_isis {cns : List Expr} {cs : List TyN} {tk : Nat} {tp : Pos} (hK : X.K = G.K) (ok : IsiOk G I) (hg : Gl X "isinstance") (hm : X.mg "isinstance" = none) (hv : bootBuiltins "isinstance" = some (.builtin "isinstance")) (ha : JB G X W a m) (hc : Paired (fun e c => JC G X e c) cns (c :: cs)) (hl : cs.length ≤ 100)
    (hsn : ∀ e ∈ cns, ∀ rest : List Expr, starEach (e :: rest) X.env = (false, eval e X.env) :: starEach rest X.env)
    (hs : starEach [a, .Tuple cns tk tp] X.env = (false, eval a X.env) :: starEach [.Tuple cns tk tp] X.env) (hs2 : starEach [.Tuple cns tk tp] X.env = (false, eval (.Tuple cns tk tp) X.env) :: starEach [] X.env) (hpl : (backTo pos (starEach [.Tuple cns tk tp] X.env)).any (·.1) = false) :
    JE G X W (.Call (.Name "isinstance" p) [a, .Tuple cns tk tp] [] pos) (M.map T.bl (mIsis I (c :: cs) m)) := PE.imp (pe_callB call_isiT hg hm hv (pa_cons ha (pa_cons (pe_tup (pa_csts hsn hc)) pa_nil hs2) hs) (by decide) (by decide) hs hpl) fun σ H Q q => by
  obtain ⟨En, q⟩ := RT_E q
  obtain ⟨F0, q⟩ := q.bind (R1 := RB G En)
  refine ⟨En, q.mono fun v H1 ⟨t, F1, S1, fps1, hd1, sr, s, r, p⟩ => ?_⟩
  obtain ⟨k, e, p1⟩ := p.lift
  obtain ⟨ty, ety, hcl⟩ := isiAny_ty e
  refine ⟨by rw [List.length_map, List.length_cons, sizeLine_eq]; omega, fun b hb => ?_⟩
  have g := Grow.laid (o := .tup ((c :: cs).map (clVal G))) sr.sub sr.hand hb
  have srg := sr.grow g
  have rg : RepB G En.ha (upd F1 b (.tup ((c :: cs).map (clVal G)))) (upd H1 b (.tup ((c :: cs).map (clVal G)))) t v := by
    cases t with
    | lst xs =>
      obtain ⟨x, us, rfl, q, rx⟩ := RepB.lst r
      exact ⟨x, us, rfl, by rw [upd_ne (fun z => by rw [z, hb] at q; cases q)]; exact q, Reps.mono g.sF _ _ rx⟩
    | ins C fs =>
      obtain ⟨x, dx, us, rfl, q, rx⟩ := r
      exact ⟨x, dx, us, rfl, by rw [upd_ne (fun z => by rw [z, hb] at q; cases q)]; exact q, RepF.mono g.sF _ _ rx⟩
    | _ => exact Rep.mono g.sF _ _ r
  rw [hK]
  exact ⟨v, b, _, _, _, k, rfl, upd_same, paired_cls _, RepB.ty ok srg.sub rg ety hcl, isiAny_ok ok ety e, p1.ok srg g.sF rfl⟩
end
end
end TL
namespace TL
open PySem PySem.Spec PyProof.Rows L2
/-! ### a def's frame with a closure of one cell -/
theorem cellsFrom_app : ∀ (names : List (Str × NameKind)) (n : Nat) (acc : List (Str × Addr)), cellsFrom n names acc = cellsFrom n names [] ++ acc
  | [], _, _ => rfl
  | (name, kind) :: r, n, acc => by
    unfold cellsFrom
    split
    · rw [cellsFrom_app r (n + 1) ((name, n) :: acc), cellsFrom_app r (n + 1) [(name, n)], List.append_assoc]
      rfl
    · exact cellsFrom_app r n acc
section
variable {M : Model} {A : Around} {E : Value → Shared → Prop} {s₀ s : Shared} {m cm : Str → Option Value} {env : Env} {cs : List (Str × Addr)}
theorem stLX {n : Str} {v : Value} {Q : Unit → Shared → Prop} (x : InCallC s₀ env.locals m cs cm s) (hk : env.scope.kind = .function) (hl : env.kindOf n = some .local)
    (h : ∀ s', InCallC s₀ env.locals (fun y => if y = n then some v else m y) cs cm s' → Q () s') : wpAny M A (storeName env n v) Q E s := by
  refine wpAny_storeName_local hl x.toInCall.ns (fun h' hn' hs' => h _ ⟨⟨?_, hn', fun b o e => ?_, x.toInCall.fresh⟩, fun k c hc => ?_, x.apart, x.above⟩) (by rw [hk]; rfl)
  · obtain ⟨h₁, tk, rfl⟩ := x.toInCall.same
    exact ⟨h', _, rfl⟩
  · exact hs'.extBut b o (Nat.ne_of_lt (Nat.lt_of_lt_of_le (Heap.lt_size e) x.toInCall.fresh)) (x.toInCall.keep b o e)
  · exact (x.cell k c hc).sameBut hs' (Nat.ne_of_gt (x.above k c (PySem.mem_of_lookup hc)))
theorem stCX {n : Str} {c : Addr} {v : Value} {Q : Unit → Shared → Prop} (x : InCallC s₀ env.locals m cs cm s) (hk : env.scope.kind = .function) (hl : env.kindOf n = some .cell)
    (hc : cs.lookup n = some c) (he : env.cells.lookup n = some c)
    (h : ∀ s', InCallC s₀ env.locals m cs (fun y => if y = n then some v else cm y) s' → Q () s') : wpAny M A (storeName env n v) Q E s := by
  have hLc := x.above n c (PySem.mem_of_lookup hc)
  refine wpAny_storeName_cell hk hl he (x.cell n c hc) fun h' hc' hs' => h _ ⟨⟨?_, x.toInCall.ns.sameBut hs' (Nat.ne_of_lt hLc), fun b o e => ?_, x.toInCall.fresh⟩, fun k c' hk' => ?_, x.apart, x.above⟩
  · obtain ⟨h₁, tk, rfl⟩ := x.toInCall.same
    exact ⟨h', _, rfl⟩
  · exact hs'.extBut b o (Nat.ne_of_lt (Nat.lt_trans (Nat.lt_of_lt_of_le (Heap.lt_size e) x.toInCall.fresh) hLc)) (x.toInCall.keep b o e)
  · by_cases hkn : k = n
    · subst hkn
      rw [hc] at hk'; cases hk'
      simpa using hc'
    · rw [if_neg hkn]
      exact (x.cell k c' hk').sameBut hs' fun e => hkn (name_of_addr x.apart (PySem.mem_of_lookup hk') (e ▸ PySem.mem_of_lookup hc))
theorem bindParamsX (f : Str × Value → PUnit → Sem (ForInStep PUnit)) (hf : ∀ n v u, f (n, v) u = (do storeName env n v; pure (.yield ⟨⟩))) (hk : env.scope.kind = .function) (he : ∀ n c, cs.lookup n = some c → env.cells.lookup n = some c) :
    ∀ (binds : List (Str × Value)) (m cm : Str → Option Value) (s : Shared) (Q : PUnit → Shared → Prop), InCallC s₀ env.locals m cs cm s →
      (∀ x ∈ binds, env.kindOf x.1 = some .local ∨ (env.kindOf x.1 = some .cell ∧ (cs.lookup x.1).isSome = true)) →
      (∀ s', InCallC s₀ env.locals (bindL env.kindOf binds m) cs (bindC env.kindOf binds cm) s' → Q ⟨⟩ s') → wpAny M A (forIn binds ⟨⟩ f) Q E s
  | [], m, cm, s, Q, x, _, h => by rw [List.forIn_nil]; exact wpAny_pure (h s x)
  | (n, v) :: r, m, cm, s, Q, x, hkind, h => by
    rw [List.forIn_cons, hf]
    have hr : ∀ y ∈ r, env.kindOf y.1 = some .local ∨ (env.kindOf y.1 = some .cell ∧ (cs.lookup y.1).isSome = true) := fun y hy => hkind y (List.mem_cons_of_mem _ hy)
    rcases hkind (n, v) List.mem_cons_self with hl | ⟨hl, hc⟩
    · refine wpAny_bind (wpAny_bind (stLX x hk hl fun s' x' => wpAny_pure (bindParamsX f hf hk he r _ _ s' Q x' hr fun s'' x'' => h s'' ?_)))
      unfold bindL bindC; rw [if_pos hl, if_pos hl]; exact x''
    · obtain ⟨c, hc⟩ := Option.isSome_iff_exists.mp hc
      have hnl : ¬ env.kindOf n = some .local := by rw [hl]; decide
      refine wpAny_bind (wpAny_bind (stCX x hk hl hc (he n c hc) fun s' x' => wpAny_pure (bindParamsX f hf hk he r _ _ s' Q x' hr fun s'' x'' => h s'' ?_)))
      unfold bindL bindC; rw [if_neg hnl, if_neg hnl]; exact x''
end
section
variable {M : Model} {A : Around} {E : Value → Shared → Prop} {s : Shared}
theorem newFunctionEnv_cl {scope : Scope} {globals : Addr} {binds : List (Str × Value)} {qual : Str} {func : Option Addr} {code : Value} {builtins : Addr} {cl : List (Str × Addr)} {Q : Env → Shared → Prop}
    (hk : scope.kind = .function)
    (hkind : ∀ x ∈ binds, scope.names.lookup x.1 = some .local ∨ (scope.names.lookup x.1 = some .cell ∧ ((cellsFrom (s.heap.objs.size + 1) scope.names []).lookup x.1).isSome = true))
    (hQ : ∀ env, env = newEnv scope s.heap.objs.size globals (cellsFrom (s.heap.objs.size + 1) scope.names [] ++ cl) qual func code none builtins →
      ∀ s', InCallC s env.locals (bindL env.kindOf binds fun _ => none) (cellsFrom (s.heap.objs.size + 1) scope.names []) (bindC env.kindOf binds fun _ => none) s' → Q env s') :
    wpAny M A (newFunctionEnv scope globals cl binds qual func code none builtins) Q E s := by
  simp only [newFunctionEnv, Option.isSome_none, Bool.false_eq_true, if_false]
  refine wpAny_bind (wpAny_alloc ?_)
  refine wpAny_bind (wpAny_layCells _ (fun name kind cells => by cases hkc : kind == NameKind.cell <;> simp [hkc]) _ _ _ _ ?_)
  have ok := cellsFrom_ok scope.names (s.heap.push { cls := .type "frame", data := .dict #[] }) (s.heap.objs.size + 1) [] ⟨fun _ _ hm => (nomatch hm), List.Pairwise.nil⟩ (by rw [Heap.size_push]; exact Nat.le_refl _)
  rw [Heap.size_push] at ok
  rw [show ({ s with heap := s.heap.push { cls := .type "frame", data := .dict #[] } } : Shared).heap.objs.size = s.heap.objs.size + 1 from Heap.size_push ..]
  rw [cellsFrom_app scope.names _ cl]
  refine wpAny_bind (bindParamsX (s₀ := s) (cs := cellsFrom (s.heap.objs.size + 1) scope.names []) (env := newEnv scope s.heap.objs.size globals (cellsFrom (s.heap.objs.size + 1) scope.names [] ++ cl) qual func code none builtins)
    _ (fun _ _ _ => rfl) hk (fun n c e => ?_) binds (fun _ => none) (fun _ => none) _ _
    ⟨⟨⟨_, _, rfl⟩, (Heap.Ns.new s.heap (.type "frame")).keeps (pushCells_keeps _ _), fun b o e => pushCells_keeps _ _ b o (Heap.get?_push_of_some _ e), Nat.le_refl _⟩,
      fun n c hc => (ok.empty n c (PySem.mem_of_lookup hc)).1, ok.apart, fun n c hm => (ok.empty n c hm).2⟩
    hkind fun s' x => wpAny_pure (hQ _ rfl s' x))
  show (cellsFrom (s.heap.objs.size + 1) scope.names [] ++ cl).lookup n = some c
  rw [List.lookup_append, e]
  rfl
end
/-! ### a method that names its class -/
structure FnScopeX (N P : List Str) (sc : Scope) : Prop where
  kind : sc.kind = .function
  co : sc.isCoroutine = false
  gen : sc.isGenerator = false
  nd : N.Nodup
  pre : N.take P.length = P
  par : ∀ x ∈ P, sc.names.lookup x = some .local ∨ sc.names.lookup x = some .cell
  free : ∀ y, sc.names.lookup y = some .free → y = ("__class__" : Str)
def envCl (qual : Str) (scope : Scope) (L a : Addr) (cd : Value) (cc : Addr) : Env := PySem.W.envX qual scope L a cd (cellsFrom (L + 1) scope.names [] ++ [(("__class__" : Str), cc)])
def cxOfX (P : Program) (w : World) (K : PySem.W.Frag) (mg : Str → Option Value) (base : Heap) (N : List Str) (qual : Str) (scope : Scope) (f : Addr) (cd : Value) (cc : Addr) (A : Around) (outer : List Env) (s : Shared) (H : Hp) (E : XK) : Cx where
  prog := P
  w := w
  K := K
  mg := mg
  base := base
  A := A.deeper (envCl qual scope s.heap.objs.size f cd cc)
  N := N
  s_0 := s
  H_0 := H
  env := envCl qual scope s.heap.objs.size f cd cc
  outer := outer
  stack := envCl qual scope s.heap.objs.size f cd cc :: outer
  ex := []
  calm := true
  fn := fun y => decide (y ≠ ("__class__" : Str))
  pn := []
  xe := fun e s' => wpAny (model P w) (A.deeper (envCl qual scope s.heap.objs.size f cd cc)) (leaving (envCl qual scope s.heap.objs.size f cd cc) e) (fun _ s'' => L2.CX P w outer H s E e s'') (fun e' s'' => L2.CX P w outer H s E e' s'') s'
/-- the cell of the class: written part -/
structure ClsCell (K : PySem.W.Frag) (cc D : Addr) : Prop where
  at_ : ∃ cl cld csl, K.lookup cc = some ⟨cl, cld, .cell (some (.ref D)), csl⟩
theorem inv_startX {P : Program} {w : World} {K : PySem.W.Frag} {mg : Str → Option Value} {base : Heap} {N ps : List Str} {qual : Str} {scope : Scope} {f cc D : Addr} {cd : Value} {A : Around} {outer : List Env} {s s1 : Shared} {H : Hp} {E : XK} {us : List Value} {vs : List V}
    (S : FnScopeX N ps scope) (C : ClsCell K cc D) (hd : A.handled = none) (e0 : Env0 P w K mg base A outer s H) (hl : vs.length = ps.length) (r : Vals vs us)
    (x : InCallC s s.heap.objs.size (bindL (envCl qual scope s.heap.objs.size f cd cc).kindOf (ps.zip us) fun _ => none) (cellsFrom (s.heap.objs.size + 1) scope.names []) (bindC (envCl qual scope s.heap.objs.size f cd cc).kindOf (ps.zip us) fun _ => none) s1) :
    Inv (cxOfX P w K mg base N qual scope f cd cc A outer s H E) [] (L2.start N vs) H s1 := by
  have hpl : ps.length ≤ N.length := by have := congrArg List.length S.pre; rw [List.length_take] at this; omega
  obtain ⟨h1, tk, rfl, hk⟩ := x.done
  have noA : ∀ b : Addr, b ∉ (cxOfX P w K mg base N qual scope f cd cc A outer s H E).ex := fun b z => absurd (show b ∈ ([] : List Addr) from z) (by simp)
  obtain ⟨cl, cld, csl, hcc⟩ := C.at_
  have hb := e0.mod.kin _ _ hcc
  obtain ⟨hs, hH⟩ := e0.bs _ _ hb
  have clt : cc < s.heap.objs.size := Heap.lt_size hs
  have split : ∀ {y c}, (cellsFrom (s.heap.objs.size + 1) scope.names [] ++ [(("__class__" : Str), cc)]).lookup y = some c → (cellsFrom (s.heap.objs.size + 1) scope.names []).lookup y = some c ∨ (y = "__class__" ∧ c = cc) := fun {y c} e => by
    rw [List.lookup_append] at e
    cases q : (cellsFrom (s.heap.objs.size + 1) scope.names []).lookup y with
    | some c' => rw [q] at e; exact .inl e
    | none =>
      rw [q] at e
      have e : List.lookup y [(("__class__" : Str), cc)] = some c := e
      rw [List.lookup_cons] at e
      cases hb : y == ("__class__" : Str) with
      | true => rw [hb] at e; cases e; exact .inr ⟨beq_iff_eq.mp hb, rfl⟩
      | false => rw [hb] at e; cases e
  refine ⟨⟨e0.mod, S.kind, rfl, rfl, Nat.le_refl _, fun y z c h1 h2 => ?_, fun y hy => ?_, fun y c hf h => ?_, fun _ => hd, Around.frames_deeper e0.frames, .inr ⟨rfl, rfl⟩, fun b z => absurd z (noA b), e0.bs, e0.bsz, fun b _ _ => noA b, fun b z => absurd z (noA b), e0.funs, e0.frf⟩,
    rfl, e0.bare, Un.kept hk, ⟨_, x.toInCall.ns, fun i y v h1 h2 h3 => ?_⟩, fun y c h => ?_, e0.hok.fresh (Nat.le_refl _), fun y c h => ?_, fun p hp => absurd (show p ∈ ([] : List (Addr × Obj)) from hp) (by simp), e0.hok.kept hk, ?_⟩
  · rcases split h1 with h1 | ⟨h1, h1'⟩ <;> rcases split h2 with h2 | ⟨h2, h2'⟩
    · exact name_of_addr x.apart (PySem.mem_of_lookup h1) (PySem.mem_of_lookup h2)
    · have := x.above y c (PySem.mem_of_lookup h1)
      rw [h2'] at this
      exact absurd clt (Nat.lt_asymm this)
    · have := x.above z c (PySem.mem_of_lookup h2)
      rw [h1'] at this
      exact absurd clt (Nat.lt_asymm this)
    · rw [h1, h2]
  · have hy : scope.names.lookup y = some .cell ∨ scope.names.lookup y = some .free := hy
    show ∃ c, (cellsFrom (s.heap.objs.size + 1) scope.names [] ++ [(("__class__" : Str), cc)]).lookup y = some c
    rw [List.lookup_append]
    rcases hy with hy | hy
    · obtain ⟨c, e⟩ := cell_has (n := s.heap.objs.size + 1) hy
      exact ⟨c, by rw [e]; rfl⟩
    · rw [S.free y hy]
      cases (cellsFrom (s.heap.objs.size + 1) scope.names []).lookup ("__class__" : Str) with
      | some c => exact ⟨c, rfl⟩
      | none => exact ⟨cc, by simp⟩
  · rcases split h with h | ⟨h, _⟩
    · exact Nat.le_of_lt (x.above y c (PySem.mem_of_lookup h))
    · exact absurd h (of_decide_eq_true hf)
  · have hi : i < vs.length := by
      unfold L2.start at h2
      by_cases hi : i < vs.length
      · exact hi
      · rw [List.getElem?_append_right (by simpa using hi)] at h2
        rw [List.getElem?_replicate] at h2
        split at h2 <;> cases h2
    have ha : vs[i]? = some v := by
      unfold L2.start at h2
      rw [List.getElem?_append_left (by simpa using hi), List.getElem?_map] at h2
      cases e : vs[i]? with
      | none => rw [e] at h2; cases h2
      | some a => rw [e] at h2; cases h2; rfl
    obtain ⟨u, hu, rv⟩ := r.get ha
    have hp : ps[i]? = some y := by
      rw [← S.pre, List.getElem?_take_of_lt (by omega)]; exact h1
    have ndP : ps.Nodup := by rw [← S.pre]; exact S.nd.sublist (List.take_sublist _ _)
    refine ⟨u, rv, ?_⟩
    rcases S.par y (List.mem_of_getElem? hp) with k | k
    · exact .inl ⟨k, bindL_get ndP hp hu k⟩
    · obtain ⟨c, e⟩ := cell_has (n := s.heap.objs.size + 1) k
      refine .inr ⟨.inl k, c, ?_, ?_⟩
      · show (cellsFrom (s.heap.objs.size + 1) scope.names [] ++ [(("__class__" : Str), cc)]).lookup y = some c
        rw [List.lookup_append, e]
        rfl
      · have q := x.cell y c e
        rw [bindC_get ndP hp hu (by show scope.names.lookup y ≠ _; rw [k]; decide)] at q
        exact q
  · rcases split h with h | ⟨_, h⟩
    · exact ⟨_, x.cell y c h⟩
    · exact ⟨_, _, by rw [h]; exact hk _ _ hs, rfl⟩
  · rcases split h with h | ⟨_, h⟩
    · exact e0.hok.fresh (Nat.le_of_lt (x.above y c (PySem.mem_of_lookup h)))
    · rw [h]; exact hH
  · unfold L2.start
    show _ = N.length
    rw [List.length_append, List.length_map, List.length_replicate]
    omega
/-! ### statements where the def's code is known -/
def PSsA (X : Cx) (body : List Stmt) (st : List Stmt) (t : TS) : Prop := ∀ (pins : List (Addr × Obj)) (s : Shared) (σ : L2.St) (H : Hp) (D : Ends), Inv X pins σ H s → t D σ H →
  PySem.wpAt (model X.prog X.w) X.A (.func body X.env) (execs st X.env) (SP X pins D) X.xe s
def PSA (X : Cx) (body : List Stmt) (st : Stmt) (t : TS) : Prop := ∀ (pins : List (Addr × Obj)) (s : Shared) (σ : L2.St) (H : Hp) (D : Ends), Inv X pins σ H s → t D σ H →
  PySem.wpAt (model X.prog X.w) X.A (.func body X.env) (exec st X.env) (SP X pins D) X.xe s
section
variable {X : Cx} {body rest : List Stmt} {st : Stmt} {t u : TS}
theorem PSs.at (h : PSs X rest t) : PSsA X body rest t := fun pins s σ H D I q => PySem.wpAt_of_wpAny (h.run pins s σ H D I q)
theorem PS.at (h : PS X st t) : PSA X body st t := fun pins s σ H D I q => PySem.wpAt_of_wpAny (h.run pins s σ H D I q)
theorem pssA_cons (h1 : PSA X body st t) (h2 : PSsA X body rest u) : PSsA X body (st :: rest) (tSeq t u) := fun pins s σ H D I h => by
  refine PySem.ks_wpAt_execs_cons (PySem.wpAt_mono (h1 pins s σ H { D with nx := u D } I h) (fun f s1 q => ?_) fun _ _ z => z)
  cases f with
  | next =>
    obtain ⟨σ', H', I', q⟩ := q
    exact h2 pins s1 σ' H' D I' q
  | ret v => exact q
  | brk => exact q
  | cont => exact q
end
/-- THE RULE: a method with the cell of its class -/
theorem fn_ofX {P : Program} {w : World} {K : PySem.W.Frag} {mg : Str → Option Value} {base : Heap} {k : Nat} {f cc D : Addr} {name qual : Str} {params : Arguments} {body : List Stmt} {scope : Scope} {dV kV doc pm cdv ct oc : Value} {an od : Option Addr}
    {osl : Array (Option Value)} {N ps : List Str} {sp : Sp} (lk : K.lookup f = some ⟨oc, od, .func (PySem.W.fnX name qual params body scope [(("__class__" : Str), cc)] dV kV doc pm an cdv ct), osl⟩) (hcd : PySem.W.codeIn K cdv qual = true) (S : FnScopeX N ps scope) (C : ClsCell K cc D)
    (len : ∀ vs H Q E, sp vs H Q E → vs.length = ps.length)
    (hbody : ∀ (A : Around) (outer : List Env) (s : Shared) (H : Hp) (vs : List V) (Q : VK) (E : XK), Room k (A.deeper (envCl qual scope s.heap.objs.size f cdv cc)) → sp vs H Q E →
      ∃ t, PSsA (cxOfX P w K mg base N qual scope f cdv cc A outer s H E) body body t ∧ t { nx := fun _ H' => Q .non H', rt := Q } (L2.start N vs) H) :
    FnOk P w K mg base (L2.CX P w) (k + 1) f (PySem.W.fnX name qual params body scope [(("__class__" : Str), cc)] dV kV doc pm an cdv ct) ps sp := by
  refine ⟨len, fun A outer s H args us vs Q E hr e0 hb r hsp => ?_⟩
  have hl := len _ _ _ _ hsp
  have KX : K.In s.heap := e0.mod.kin.keeps fun b o e => (e0.bs b o e).1
  have lim : s.heap.NoLimit := e0.mod.nolimit.keeps fun b o e => (e0.bs b o e).1
  have hkind : ∀ y ∈ ps.zip us, scope.names.lookup y.1 = some .local ∨ (scope.names.lookup y.1 = some .cell ∧ ((cellsFrom (s.heap.objs.size + 1) scope.names []).lookup y.1).isSome = true) := fun ⟨n, v⟩ hy => by
    rcases S.par n (List.of_mem_zip hy).1 with q | q
    · exact .inl q
    · exact .inr ⟨q, PySem.W.cellsFrom_some _ _ _ (.inl q)⟩
  refine codeAny_call_function hr.depth (KX _ _ lk) rfl S.co S.gen rfl (PySem.W.codeRec_of KX hcd) (hb _ _ _ _ ?_)
  refine newFunctionEnv_cl S.kind hkind fun env he s1 x => ?_
  subst he
  refine ⟨lim.keeps x.toInCall.keep, PySem.ks_codeAny_funcAt ?_⟩
  obtain ⟨t, ht, hq⟩ := hbody A outer s H vs Q E (hr.deeper _) hsp
  have I : Inv (cxOfX P w K mg base N qual scope f cdv cc A outer s H E) [] (L2.start N vs) H s1 := inv_startX S C hr.hd e0 hl r x
  refine PySem.wpAt_mono (ht [] s1 (L2.start N vs) H _ I hq) (fun fl s' hs => ?_) fun e s' hs => hs
  have fin : ∀ {σ' : L2.St} {H' : Hp} {v : V} {u : Value}, Inv (cxOfX P w K mg base N qual scope f cdv cc A outer s H E) [] σ' H' s' → RelV v u → Q v H' → CE outer P w H s Q u s' :=
    fun {σ' H' v u} J rv q => ⟨v, H', J.os, J.bare, J.base, J.hok, rv, q⟩
  cases fl with
  | ret u =>
    obtain ⟨v, σ', H', J, rv, q⟩ := hs
    exact fin J rv q
  | next =>
    obtain ⟨σ', H', J, q⟩ := hs
    exact fin (v := V.non) (u := Value.none) J rfl q
  | brk =>
    obtain ⟨_, _, _, q⟩ := hs
    exact False.elim q
  | cont =>
    obtain ⟨_, _, _, q⟩ := hs
    exact False.elim q
end TL
namespace TL
open PySem PySem.Spec PyProof.Rows L2
/-- what super() asks of the written part and of the context -/
structure SupZ (X : Cx) (f cc D cda : Addr) (x0 : Str) : Prop where
  hf : ∃ (oc : Value) (od : Option Addr) (fd : FuncData) (osl : Array (Option Value)) (ar : Arg), X.K.lookup f = some ⟨oc, od, .func fd, osl⟩ ∧ (fd.params.posonlyargs ++ fd.params.args).head? = some ar ∧ ar.arg = x0
  hfu : X.env.func = some f
  hco : X.env.code = .ref cda
  hcd : ∃ (ccl : Value) (cdd : Option Addr) (vs : Array Value) (ccs : Array (Option Value)) (file : Str) (tf : Tok), X.K.lookup cda = some ⟨ccl, cdd, .fields vs, ccs⟩ ∧ vs[2]? = some (.str file tf) ∧ ((X.prog.main.file : Str) == file) = true
  cell : ClsCell X.K cc D
  hcc : X.env.cells.lookup ("__class__" : Str) = some cc
  hD : (PySem.W.clsIn X.K D).isSome = true
  mgs : X.mg "super" = none
  htop : (X.prog.main.scope.names.lookup ("super" : Str)).isSome = false
  hks : X.env.scope.names.lookup ("super" : Str) = some .globalImplicit
  hkc : X.env.scope.names.lookup ("__class__" : Str) = some .free
  hN : X.N[0]? = some x0
  hv : Vis X.env.scope x0
  hdc : (x0 == ("__classdict__" : Str)) = false
  boot : bootBuiltins "super" = some (.type "super")
section
variable {X : Cx} {f cc D cda x C : Addr} {x0 : Str} {body : List Stmt} {pins : List (Addr × Obj)} {σ : L2.St} {H : Hp} {s : Shared}
theorem ldN {Q : Value → Shared → Prop} {E : Value → Shared → Prop} {i : Nat} {y : Str} {v : V} (I : Inv X pins σ H s) (hN : X.N[i]? = some y) (h0 : σ[i]? = some (some v)) (hv : Vis X.env.scope y) (hcd : (y == ("__classdict__" : Str)) = false) (h : ∀ u, RelV v u → Q u s) :
    wpAny (model X.prog X.w) X.A (loadName X.env y) Q E s := by
  obtain ⟨m, hn, hl⟩ := I.loc
  obtain ⟨u, r, l⟩ := hl i y v hN h0 hv
  rcases l with ⟨hk, hm⟩ | ⟨hk, c, hc, hcell⟩
  · exact wpAny_loadName_local I.ok.kind hk hn hm (h u r)
  · rcases hk with hk | hk
    · exact wpAny_loadName_cell I.ok.kind hk hc hcell (h u r)
    · exact wpAny_loadName_free I.ok.kind hk hc hcell (h u r) hcd
theorem sup_base {p0 p1 : Pos} {attr : Str} {whole : Sem Value} {Q : Value → Shared → Prop} (Z : SupZ X f cc D cda x0) (I : Inv X pins σ H s) (hat : (attr == ("__class__" : Str)) = false) (h0 : σ[0]? = some (some (.ref x)))
    (ho : ∃ ox, s.heap.get? x = some ox ∧ ox.cls = .ref C ∧ ∀ c, ox.data ≠ .cls c) (hsub : PySem.W.mroIn X.K C (.ref D) = some true)
    (h : ∀ h', Inv X pins σ H { s with heap := h' } → h'.get? s.heap.objs.size = some (PySem.W.ks_superObj D x C) → (∀ b o, s.heap.get? b = some o → h'.get? b = some o) → Q (.ref s.heap.objs.size) { s with heap := h' }) :
    PySem.wpAt (model X.prog X.w) X.A (.func body X.env) (attributeBase (.Call (.Name "super" p0) [] [] p1) attr X.env whole) Q X.xe s := by
  obtain ⟨oc, od, fd, osl, ar, hf, hp, ha⟩ := Z.hf
  obtain ⟨ccl, cdd, vs, ccs, file, tf, hcd, hvs, hfile⟩ := Z.hcd
  obtain ⟨cl, cld, csl, hcell⟩ := Z.cell.at_
  have X0 : X.K.In s.heap := I.kIn
  obtain ⟨cdD, hcD⟩ := Option.isSome_iff_exists.mp Z.hD
  obtain ⟨oD, hD1, hD2⟩ : ∃ oD, s.heap.get? D = some oD ∧ oD.data = .cls cdD := by
    unfold PySem.W.clsIn at hcD
    split at hcD
    · rename_i c d cd' sl ho
      cases hcD
      exact ⟨_, X0 _ _ ho, rfl⟩
    · cases hcD
  obtain ⟨ox, hx, hxc, hnc⟩ := ho
  obtain ⟨mb, hb1, hb2⟩ := I.mod.blt
  refine PySem.ks_wpAt_super_base (env := X.env) Z.hks Z.hkc hat Z.hfu (X0 _ _ hf) rfl hp Z.hco (X0 _ _ hcd) rfl hvs hfile Z.htop ?_
  refine PySem.W.ks_loadName_global I.ok.kind Z.hks (Calls.loadGlobal_builtin (env := X.env) (by rw [I.ok.glob]; exact I.mod.glob.keeps I.bk) Z.mgs (by rw [I.ok.blt]; exact hb1.keeps I.bk) ((hb2 _ (by decide)).trans Z.boot) ⟨rfl, ?_⟩)
  refine wpAny_loadName_free I.ok.kind Z.hkc Z.hcc ⟨_, X0 _ _ hcell, rfl⟩ ?_
  rw [ha]
  refine ldN I Z.hN h0 Z.hv Z.hdc fun u ru => ?_
  obtain rfl : u = Value.ref x := ru
  obtain ⟨hp, g, d, t, os⟩ := s
  refine PySem.ks_wpAny_isType_cls hD1 hD2 ⟨rfl, ?_⟩
  refine PySem.ks_wpAny_call_super hD1 hD2 hx hxc hnc (PySem.W.looks_mroIn X0 hsub) (fun h' e k => ?_)
  exact h h' (I.kept (t' := t) k) e k

/-- what a super().m of an own class finds -/
structure SupM (K : PySem.W.Frag) (C D f2 : Addr) (nm : Str) : Prop where
  sub : PySem.W.mroIn K C (.ref D) = some true
  find : PySem.W.ks_superIn K C D nm = some (some (.ref f2))
  ty : PySem.W.typeIn K (.ref f2) = some (.type "function")
  fn : PySem.W.fnIn K f2 = true
  st : PySem.W.nsIn K PySem.cStatics "thirdparty.any" = some none
theorem ne_cls {cd : ClassData} {ox : Obj} (X0 : X.K.In s.heap) (hc : PySem.W.clsIn X.K C = some cd) (hx : s.heap.get? x = some ox) (hnc : ∀ c, ox.data ≠ .cls c) : x ≠ C := by
  rintro rfl
  unfold PySem.W.clsIn at hc
  split at hc
  · rename_i c d cd' sl ho
    have e := X0 _ _ ho
    rw [hx] at e
    cases e
    exact hnc _ rfl
  · cases hc
theorem sup_meth {so f2 : Addr} {nm : Str} {pl : Sem Bool} {Q : Value × List Value → Shared → Prop} {E : Value → Shared → Prop} (I : Inv X pins σ H s) (M : SupM X.K C D f2 nm) (hso : s.heap.get? so = some (PySem.W.ks_superObj D x C))
    (ho : ∃ ox, s.heap.get? x = some ox ∧ ox.cls = .ref C ∧ ∀ c, ox.data ≠ .cls c) (hn : (nm == ("__class__" : Str)) = false)
    (h : Inv X ((s.heap.objs.size, PySem.W.methodObj (.ref f2) (.ref x)) :: pins) σ H { s with heap := s.heap.push { cls := .type "method", data := .fields #[.ref f2, .ref x] }, toks := s.toks + 1 } → Q (.ref s.heap.objs.size, []) { s with heap := s.heap.push { cls := .type "method", data := .fields #[.ref f2, .ref x] }, toks := s.toks + 1 }) :
    wpAny (model X.prog X.w) X.A (getMethod (.ref so) nm pl) Q E s := by
  have X0 : X.K.In s.heap := I.kIn
  have hm := M.find
  obtain ⟨ox, hx, hxc, hnc⟩ := ho
  cases hc : PySem.W.clsIn X.K C with
  | none => unfold PySem.W.ks_superIn at hm; rw [hc] at hm; cases hm
  | some cd =>
    unfold PySem.W.ks_superIn at hm
    rw [hc] at hm
    obtain ⟨of, hof, hofc⟩ : ∃ of, s.heap.get? f2 = some of ∧ of.cls = .type "function" := by
      have ht' : (X.K.lookup f2).map (·.cls) = some (.type "function") := M.ty
      cases z : X.K.lookup f2 with
      | none => rw [z] at ht'; cases ht'
      | some of => rw [z] at ht'; exact ⟨of, X0 _ _ z, Option.some.inj ht'⟩
    have I2 : Inv X pins σ H { s with heap := s.heap.push { cls := .type "method", data := .fields #[.ref f2, .ref x] }, toks := s.toks + 1 } := I.kept fun b o e => Heap.get?_push_of_some _ e
    obtain ⟨hp, g, d, t, os⟩ := s
    refine PySem.ks_wpAny_getMethod_super hso (PySem.W.looks_opaque X0 M.st) (l₀ := cd.mro) ?_ rfl X0 hm hof hofc (ne_cls X0 hc hx hnc) hn ?_
    · exact fun A Q E s k q => wpAny_bind ((PySem.W.looks_clsIn X0 hc) A _ E s k (wpAny_pure q))
    · refine h ⟨I2.ok, I2.os, I2.bare, I2.base, I2.loc, I2.cell, I2.free, I2.freeC, fun p hp => ?_, I2.hok, I2.len⟩
      rcases List.mem_append.mp hp with z | z
      · exact I2.pin p (List.mem_append_left _ z)
      · rcases List.mem_cons.mp z with z | z
        · subst z
          refine ⟨Heap.get?_push_size _ rfl, I.hok.fresh (Nat.le_refl _), fun z => ?_, I.nofs (Nat.le_refl _), fun v z => by cases z⟩
          have := I.lt
          rw [← z] at this
          exact Nat.lt_irrefl _ this
        · exact I2.pin p (List.mem_append_right _ z)
theorem Inv.unpin {p : Addr × Obj} (I : Inv X (p :: pins) σ H s) : Inv X pins σ H s := ⟨I.ok, I.os, I.bare, I.base, I.loc, I.cell, I.free, I.freeC, fun q hq => I.pin q (by
  rcases List.mem_append.mp hq with z | z
  · exact List.mem_append_left _ z
  · exact List.mem_append_right _ (List.mem_cons_of_mem _ z)), I.hok, I.len⟩
theorem Inv.pin1 {p : Addr × Obj} (I : Inv X (p :: pins) σ H s) : s.heap.get? p.1 = some p.2 := (I.pin p (List.mem_append_right _ List.mem_cons_self)).1
/-- f may be called, by its code -/
def CalC (X : Cx) (W : WX) (f : Addr) (sp : Sp) : Prop := ∀ (pins : List (Addr × Obj)) (s : Shared) (σ : L2.St) (H : Hp) (us : List Value) (vs : List V) (Q : VK), Inv X pins σ H s → Vals vs us → sp vs H Q (WE W σ) →
  codeAny (model X.prog X.w) X.A (.call (.ref f) ⟨us, []⟩) (fun r s' => match r with | .ok (.ret v) => EP X pins σ Q v s' | .ok _ => False | .error e => X.xe e s') s
theorem calC_def {W : WX} {k : Nat} {f : Addr} {fd : FuncData} {ps : List Str} {sp : Sp} {ds : List Value} {dvs : List V} (hf : FnOk X.prog X.w X.K X.mg X.base (L2.CX X.prog X.w) k f fd ps sp) (hr : Room k X.A) (hb : Binds X.K fd ps ds)
    (hd : Vals dvs ds) (tk : Takes X W) : CalC X W f (fun vs H Q E => sp (vs ++ dvs) H Q E) := fun pins s σ H us vs Q I r h => by
  have r2 : Vals (vs ++ dvs) (us ++ ds) := r.append hd
  have hl : (us ++ ds).length = ps.length := by rw [← r2.length]; exact hf.len _ _ _ _ h
  refine codeAny_mono (hf.run X.A X.stack s H ⟨us, []⟩ (us ++ ds) (vs ++ dvs) Q (WE W σ) hr I.env0 (hb s us I.kIn hl) r2 h) fun r s' hq => ?_
  cases r with
  | error e => exact passAt tk σ pins H s e s' I hq
  | ok fl =>
    cases fl with
    | ret u => exact I.after hq
    | next => exact False.elim hq
    | brk => exact False.elim hq
    | cont => exact False.elim hq
/-- super().m(e, ..) as a statement -/
theorem sup_stmt {W : WX} {nm : Str} {p0 p1 apos pos pos' : Pos} {e : Expr} {es : List Expr} {t : TA} (Z : SupZ X f cc D cda x0) (hn : (nm == ("__class__" : Str)) = false) (ha : PA X (e :: es) t)
    (he : starEach (e :: es) X.env = (false, eval e X.env) :: starEach es X.env) (hpl : (backTo pos (starEach es X.env)).any (·.1) = false)
    (hev : ∃ pl : Sem Bool, eval (.Call (.Attribute (.Call (.Name "super" p0) [] [] p1) nm apos) (e :: es) [] pos) X.env = (do
      let ov ← attributeBase (.Call (.Name "super" p0) [] [] p1) nm X.env (eval (.Call (.Name "super" p0) [] [] p1) X.env)
      standAt apos.atName
      let (f, first) ← holding [ov] (getMethod ov nm pl)
      callWith pos f first (backTo pos (starEach (e :: es) X.env)) []))
    (hsw : swapsWith (.Call (.Attribute (.Call (.Name "super" p0) [] [] p1) nm apos) (e :: es) [] pos) none pos'.line X.env = pure false) :
    PSA X body (.Expr (.Call (.Attribute (.Call (.Name "super" p0) [] [] p1) nm apos) (e :: es) [] pos) pos') (fun D' σ H => ∃ x C f2 dx us sp, σ[0]? = some (some (.ref x)) ∧ H x = some (.ins C dx us) ∧ SupM X.K C D f2 nm ∧ CalC X W f2 sp ∧
      t σ H fun vs H1 => sp (.ref x :: vs) H1 (fun _ H2 => D'.nx σ H2) (WE W σ)) := by
  intro pins s σ H D' I h
  obtain ⟨x, C, f2, dx, us, sp, h0, hx, M, hc, ht⟩ := h
  obtain ⟨pl, hev⟩ := hev
  have ox : ∀ {s' : Shared} {pins' : List (Addr × Obj)}, Inv X pins' σ H s' → ∃ o, s'.heap.get? x = some o ∧ o.cls = .ref C ∧ ∀ c, o.data ≠ .cls c := fun {s' pins'} I' => by
    obtain ⟨_, _, _, e, _⟩ := I'.hok x _ hx
    exact ⟨_, e, rfl, fun c z => by cases z⟩
  refine PySem.ks_wpAt_Expr_any ?_ I.quiet hsw
  refine PySem.ks_wpAt_MethodCall (pl := pl) ?_ hev
  refine sup_base Z I hn h0 (ox I) M.sub fun h1 I1 hso k1 => ?_
  refine sup_meth I1 M hso (ox I1) hn fun I2 => ?_
  refine PySem.W.callWith_of (P := PySem.W.MethP X.K _ f2 (.ref x)) ?_ (PySem.W.keeps_M M.fn) ?_
  · rw [he]
    show ((false || (backTo pos (starEach es X.env)).any (·.1)) || false) = false
    rw [hpl]
    rfl
  · have hA := ha.run pos _ _ σ H _ I2 ht
    rw [he] at hA ⊢
    refine Calls.evalArgs_plain ?_
    refine thn hA fun us2 s3 ⟨vs, H1, I3, r, q⟩ => ?_
    have hq := TL.Inv.pin1 I3
    refine ⟨⟨hq, I3.kIn⟩, wpAny_call (PySem.ks_codeAny_call_bound (x := .ref x) hq (codeAny_mono (hc pins s3 σ H1 (.ref x :: us2) (.ref x :: vs) (fun _ H2 => D'.nx σ H2) (TL.Inv.unpin I3) (.cons rfl r) q) fun r s' hr => ?_))⟩
    cases r with
    | error er => exact hr
    | ok fl =>
      cases fl with
      | ret u =>
        obtain ⟨v, H2, I4, rv, q4⟩ := hr
        exact ⟨σ, H2, I4, q4⟩
      | next => exact False.elim hr
      | brk => exact False.elim hr
      | cont => exact False.elim hr
end
end TL
namespace TL
open PySem PySem.Spec PyProof.Rows L2
section
variable {G : Gd} {X : Cx} {W : WX} {En : Ent} {σ : L2.St} {H F H' F' : Hp} {S : Slots} {fps : Nat → List Addr} {hd hd' : Hd}
theorem SR.growX (R : SR G En σ H F S fps hd) {i : Nat} {C : Str} {fs fs' : List (Str × T)} {x dx : Addr} {us : List (Str × V)} (e : S[i]? = some (some (.o C fs))) (ef : fps i = [x]) (hv : σ[i]? = some (some (.ref x))) (g : GrowX x En.ha H F H' F' hd') (fx : F' x = none)
    (hx : H' x = some (.ins (G.ca C) dx us)) (rf : RepF G En.ha F' fs' us) : SR G En σ H' F' (S.set i (some (.o C fs'))) fps hd' := by
  have hi : i < S.length := by
    rcases List.getElem?_eq_some_iff.mp e with ⟨q, _⟩
    exact q
  have xm : x ∈ fps i := by rw [ef]; exact List.mem_cons_self
  have ow := R.own i x xm
  exact {
    len := by rw [List.length_set]; exact R.len
    slot := fun j o' e' => by
      by_cases c : j = i
      · subst c
        rw [List.getElem?_set_self hi] at e'
        cases e'
        exact ⟨_, hv, by rw [ef]; simp only [RepO]; exact ⟨x, dx, us, rfl, hx, rfl, rf⟩⟩
      · rw [List.getElem?_set_ne (Ne.symm c)] at e'
        obtain ⟨v', g1, g3⟩ := R.slot j o' e'
        exact ⟨v', g1, RepO.mono g.sF o' v' _ (fun b m o q => g.keep b o q (fun z => R.dj j i b c m (by rw [z]; exact xm)) (R.own j b m).2.2.1.kp) g3⟩
    nd := R.nd
    dj := R.dj
    own := fun j b m => by
      obtain ⟨g1, g2, g3, g4⟩ := R.own j b m
      by_cases c : b = x
      · subst c
        exact ⟨fx, by rw [hx]; simp, g3, g4⟩
      · refine ⟨?_, ?_, g3, g4⟩
        · cases q : F' b with
          | none => rfl
          | some o =>
            rcases g.new b (by rw [q]; simp) with z | z
            · exact absurd g1 z
            · exact absurd z g2
        · cases q : H b with
          | none => exact absurd q g2
          | some o => rw [g.keep b o q c g3.kp]; simp
    sub := g.sub
    sub0 := R.sub0.trans g.sF
    fnew := fun a q => by
      rcases g.new a q with z | z
      · exact R.fnew a z
      · rcases R.back z with y | y
        · exact .inr (.inl y)
        · exact .inr (.inr y)
    kp := fun b o q h1 h2 => g.keep b o (R.kp b o q h1 h2) (fun z => by
      rcases ow.2.2.2 with w | w
      · rw [z, w] at q; cases q
      · exact h1 (by rw [z]; exact w)) h2
    hand := g.hand
    slf := fun j C1 fs1 e' => by
      by_cases c : j = i
      · subst c
        exact R.slf j _ _ e
      · rw [List.getElem?_set_ne (Ne.symm c)] at e'
        exact R.slf j C1 fs1 e'
    tbE := R.tbE }
/-! ### statements of a body whose code is known -/
def JSA (G : Gd) (X : Cx) (W : WX) (body : List Stmt) (st : Stmt) (m : Stm) : Prop := PSA X body st (tS G W m)
def JSsA (G : Gd) (X : Cx) (W : WX) (body st : List Stmt) (m : Stm) : Prop := PSsA X body st (tS G W m)
theorem PSsA.imp {body st : List Stmt} {t t' : TS} (h : PSsA X body st t) (k : ∀ D σ H, t' D σ H → t D σ H) : PSsA X body st t' := fun pins s σ H D I q => h pins s σ H D I (k D σ H q)
theorem PSA.imp {body : List Stmt} {st : Stmt} {t t' : TS} (h : PSA X body st t) (k : ∀ D σ H, t' D σ H → t D σ H) : PSA X body st t' := fun pins s σ H D I q => h pins s σ H D I (k D σ H q)
theorem JS.at {body : List Stmt} {st : Stmt} {m : Stm} (h : JS G X W st m) : JSA G X W body st m := PS.at h
theorem JSs.at {body st : List Stmt} {m : Stm} (h : JSs G X W st m) : JSsA G X W body st m := PSs.at h
theorem jssA_cons {body : List Stmt} {st : Stmt} {rest : List Stmt} {a b : Stm} (h1 : JSA G X W body st a) (h2 : JSsA G X W body rest b) : JSsA G X W body (st :: rest) (sSeq a b) := PSsA.imp (pssA_cons h1 h2) fun D σ H q => by
  obtain ⟨En, F, S, fps, hd, sr, p⟩ := q
  refine ⟨En, F, S, fps, hd, sr, ?_⟩
  unfold sSeq at p
  rcases e : a S hd with _ | ⟨f, S1, hd1⟩ <;> rw [e] at p
  · exact p
  · cases f with
    | next => exact fun σ' H' F' fps' sr' s => ⟨En, F', S1, fps', hd1, sr', PostS.mono s p⟩
    | brk => exact p
    | cont => exact p
    | ret ot => exact p
    | ex C fs => exact p
/-- what super().__init__ of an instance of the class C does -/
def SupOk (G : Gd) (X : Cx) (W : WX) (D : Addr) (nm : Str) (sf : Str → Option (Nat × Ini)) : Prop := ∀ C n F, sf C = some (n, F) → ∃ f2, SupM X.K (G.ca C) D f2 nm ∧ CalC X W f2 (SpI G C n F)
def sSup (sf : Str → Option (Nat × Ini)) (m : M (List T)) : Stm := fun S hd => match (S[(0 : Nat)]? : Option (Option OT)) with
  | some (some (.o C _)) => match sf C with
    | some (n, F) => sBind m (fun ts S hd => match (S[(0 : Nat)]? : Option (Option OT)) with
      | some (some (.o C1 fs)) => if C1 = C ∧ ts.length = n then match F fs ts hd with
          | some (.ok _, fs', hd') => some (.next, S.set 0 (some (.o C fs')), hd')
          | some (.ex C2 e, fs', hd') => some (.ex C2 e, S.set 0 (some (.o C fs')), hd')
          | none => none
        else none
      | _ => none) S hd
    | none => none
  | _ => none
theorem jsa_super {f cc D cda : Addr} {x0 : Str} {body : List Stmt} {nm : Str} {p0 p1 apos pos pos' : Pos} {e : Expr} {es : List Expr} {m : M (List T)} {sf : Str → Option (Nat × Ini)} (Z : SupZ X f cc D cda x0) (hn : (nm == ("__class__" : Str)) = false) (hok : SupOk G X W D nm sf) (ha : JL G X W (e :: es) m)
    (he : starEach (e :: es) X.env = (false, eval e X.env) :: starEach es X.env) (hpl : (backTo pos (starEach es X.env)).any (·.1) = false)
    (hev : ∃ pl : Sem Bool, eval (.Call (.Attribute (.Call (.Name "super" p0) [] [] p1) nm apos) (e :: es) [] pos) X.env = (do
      let ov ← attributeBase (.Call (.Name "super" p0) [] [] p1) nm X.env (eval (.Call (.Name "super" p0) [] [] p1) X.env)
      standAt apos.atName
      let (f, first) ← holding [ov] (getMethod ov nm pl)
      callWith pos f first (backTo pos (starEach (e :: es) X.env)) []))
    (hsw : swapsWith (.Call (.Attribute (.Call (.Name "super" p0) [] [] p1) nm apos) (e :: es) [] pos) none pos'.line X.env = pure false) :
    JSA G X W body (.Expr (.Call (.Attribute (.Call (.Name "super" p0) [] [] p1) nm apos) (e :: es) [] pos) pos') (sSup sf m) := PSA.imp (sup_stmt Z hn ha he hpl hev hsw) fun D' σ H q => by
  obtain ⟨En, F, S, fps, hd, sr, p⟩ := q
  unfold sSup at p
  split at p
  · rename_i C fs0 e0
    split at p
    · rename_i n F0 eF
      obtain ⟨v, hv, ro⟩ := sr.slot 0 _ e0
      simp only [RepO] at ro
      obtain ⟨x, dx, us, rfl, hx, ef, rf⟩ := ro
      obtain ⟨f2, M, hc⟩ := hok C n F0 eF
      refine ⟨x, G.ca C, f2, dx, us, _, hv, hx, M, hc, En, F, S, fps, hd, sr, (PostS.bind (R := RL G En) p).mono (Same.refl _) fun vs H1 ⟨ts, F1, S1, fps1, hd1, sr1, s1, r1, p⟩ => ?_⟩
      split at p
      · rename_i C1 fs e1
        split at p
        · rename_i hC
          obtain ⟨rfl, hl⟩ := hC
          obtain ⟨v1, hv1, ro1⟩ := sr1.slot 0 _ e1
          simp only [RepO] at ro1
          obtain ⟨x1, dx1, us1, rfl, hx1, ef1, rf1⟩ := ro1
          rw [hv] at hv1
          cases hv1
          have ow := sr1.own 0 x (by rw [ef1]; exact List.mem_cons_self)
          refine ⟨by rw [List.length_cons, ← Reps.length r1, hl], F1, En.ha, ts, hd1, x, dx1, us1, fs, vs, rfl, hx1, ow.1, ow.2.2.1, rf1, sr1.tbE, sr1.sub, sr1.hand, r1, ?_⟩
          rcases eR : F0 fs ts hd1 with _ | ⟨o, fs', hd'⟩ <;> rw [eR] at p
          · exact p.elim
          · cases o with
            | ok _ => exact fun H' F' dx' us' gx fx hx' rf' => p σ H' F' fps1 (sr1.growX e1 ef1 hv gx fx hx' rf') gx.sF
            | ex C2 ee => exact fun d H' F' dx' us' gx fx hx' rf' xx => p d σ H' F' fps1 (sr1.growX e1 ef1 hv gx fx hx' rf') gx.sF xx
        · exact p.elim
      · exact p.elim
    · exact p.elim
  · exact p.elim
/-- THE RULE for an __init__ that names its class -/
theorem ini_tlX {P : Program} {w : World} {mg : Str → Option Value} {base : Heap} {name qual : Str} {params : Arguments} {body : List Stmt} {scope : Scope} {dV kV doc pm cdv ct oc : Value} {an od : Option Addr} {osl : Array (Option Value)} {f cc D : Addr} {N ps : List Str} {k n : Nat} {C : Str} {m : Stm}
    (lk : G.K.lookup f = some ⟨oc, od, .func (PySem.W.fnX name qual params body scope [(("__class__" : Str), cc)] dV kV doc pm an cdv ct), osl⟩) (hcd : PySem.W.codeIn G.K cdv qual = true) (S : FnScopeX N ps scope) (CC : ClsCell G.K cc D) (hn : ps.length = n + 1)
    (hb : ∀ (A : Around) (outer : List Env) (s : Shared) (H : Hp) (E : XK), Room k (A.deeper (envCl qual scope s.heap.objs.size f cdv cc)) →
      JSsA G (cxOfX P w G.K mg base N qual scope f cdv cc A outer s H E) (fun cls d _ H => E cls d H) body body m) :
    FnOk P w G.K mg base (L2.CX P w) (k + 1) f (PySem.W.fnX name qual params body scope [(("__class__" : Str), cc)] dV kV doc pm an cdv ct) ps (SpI G C n (runI N.length C m)) := by
  have hpl : ps.length ≤ N.length := by have := congrArg List.length S.pre; rw [List.length_take] at this; omega
  refine fn_ofX lk hcd S CC (fun vs H Q E h => by rw [hn]; exact h.1) fun A outer s H vs Q E hr h => ⟨_, hb A outer s H E hr, ?_⟩
  obtain ⟨hl, F0, ha, ts, hd, x, dx, us, fs, rest, rfl, hx, fx, nx, rf, tb, s0, hh, r, p⟩ := h
  rw [List.length_cons] at hl
  have sr := SR.startI (N := N) (C := C) tb s0 hh r (by omega) hx fx nx rf
  refine ⟨⟨H, F0, ha, [x], [x]⟩, F0, slotsI N.length C fs ts, _, hd, sr, ?_⟩
  unfold runI at p
  rcases e : m (slotsI N.length C fs ts) hd with _ | ⟨fl, S1, hd1⟩ <;> rw [e] at p
  · exact p.elim
  · cases fl with
    | next =>
      intro σ' H' F' fps' sr' s'
      dsimp only at p
      split at p
      · rename_i C' fs' rest'
        split at p
        · rename_i eC
          subst eC
          have e1 := sr'.slf 0 _ _ rfl
          obtain ⟨v, hv, ro⟩ := sr'.slot 0 _ rfl
          simp only [RepO] at ro
          obtain ⟨a, dx', us', rfl, ha', e2, rf'⟩ := ro
          rw [e1] at e2
          obtain rfl : x = a := by injection e2
          have fx' : F' x = none := (sr'.own 0 x (by rw [e1]; exact List.mem_cons_self)).1
          exact p H' F' dx' us' (sr'.grownX rfl fx fx') fx' ha' rf'
        · exact p.elim
      · exact p.elim
    | brk => exact p.elim
    | cont => exact p.elim
    | ret ot => exact p.elim
    | ex C' fs' =>
      intro d σ' H' F' fps' sr' s' xx
      dsimp only at p
      split at p
      · rename_i C2 fs2 rest2
        split at p
        · rename_i eC
          subst eC
          have e1 := sr'.slf 0 _ _ rfl
          obtain ⟨v, hv, ro⟩ := sr'.slot 0 _ rfl
          simp only [RepO] at ro
          obtain ⟨a, dx', us', rfl, ha', e2, rf'⟩ := ro
          rw [e1] at e2
          obtain rfl : x = a := by injection e2
          have fx' : F' x = none := (sr'.own 0 x (by rw [e1]; exact List.mem_cons_self)).1
          exact p d H' F' dx' us' (sr'.grownX rfl fx fx') fx' ha' rf' xx
        · exact p.elim
      · exact p.elim
end
end TL
namespace TL
open PySem PySem.Spec PyProof.Rows L2
/-! ### an own exception's __init__: super().__init__(..), then self.f = p -/
structure SupE (K : PySem.W.Frag) (C D : Addr) : Prop where
  ox : OexC K C
  sub : PySem.W.mroIn K C (.ref D) = some true
  find : PySem.W.ks_superIn K C D "__init__" = some (some (.builtin "ValueError.__init__"))
  isa : PySem.W.subIn K (.ref C) (.type "ValueError") = some true
  st : PySem.W.nsIn K PySem.cStatics "thirdparty.any" = some none
section
variable {X : Cx} {f cc D cda x C : Addr} {x0 : Str} {body : List Stmt} {pins : List (Addr × Obj)} {σ : L2.St} {H : Hp} {s : Shared}
theorem call_wrap {u : Addr} {rest : List Value} {Q : Value → Shared → Prop} {E : Value → Shared → Prop} {A : Around} (T : OexC X.K C) (I : Inv X pins σ H s) (e : H x = some (exo x C none)) (hu : s.heap.get? u = some (PySem.W.kxs_mw "ValueError.__init__" x)) (hz : rest.length ≤ sizeLine)
    (h : ∀ s', Inv X pins σ H s' → Q .none s') : wpAny (model X.prog X.w) A (call (.ref u) rest) Q E s := by
  obtain ⟨nm, q, N, bs, bm, sn, sub, ab, col, dd, k0, k1, k2, k3, k5, hC, hbm⟩ := T.cls
  obtain ⟨t1, ho⟩ := exo_at I.hok e
  have FB := F.excBase_ValueError
  have hCs := I.kIn _ _ hC
  obtain ⟨hh, g, d, tk, os⟩ := s
  refine wpAny_call (codeAny_of_tree ?_)
  show wpAny _ A.in1 (callAny (.ref u) ⟨rest, []⟩) _ _ _
  simp only [callAny]
  refine wpAny_bind (wpAny_load hu ?_)
  simp only [PySem.W.kxs_mw, show (Value.type "method-wrapper" == Value.type "method" || Value.type "method-wrapper" == Value.type "builtin_function_or_method" || Value.type "method-wrapper" == Value.type "method-wrapper") = true by decide, if_true]
  refine PySem.W.KFB.if_so (by decide) ?_
  refine wpAny_bind (PySem.W.check_bound_init FB.toExcCallFacts hCs ho rfl ?_)
  refine wpAny_bind (wpAny_pure (wpAny_pure ?_))
  refine ⟨plainId_quiet FB.init.plain _, codeAny_builtin FB.initEntry ?_⟩
  refine PySem.W.exc_init_tree (cls := .ref C) (t0 := t1) (dv := none) (c2 := .none) (c3 := .none) (b4 := .bool false) ho hz fun h' k hx _ => ?_
  have J := I.write (t' := tk) (x := x) (e := x) (o := exo x C none) (by rw [e]; exact True.intro) (.inl rfl) k ⟨_, hx⟩ (exo_ok hx)
  have eu : upd H x (exo x C none) = H := by
    funext b
    by_cases hb : b = x
    · rw [hb, upd_same, e]
    · rw [upd_ne hb]
  rw [eu] at J
  exact h _ J
theorem exo_obj (I : Inv X pins σ H s) (e : H x = some (exo x C none)) : ∃ o, s.heap.get? x = some o ∧ o.cls = .ref C ∧ ∀ c, o.data ≠ .cls c := by
  obtain ⟨t1, ho⟩ := exo_at I.hok e
  exact ⟨_, ho, rfl, fun c z => by cases z⟩
theorem sup_mw {so : Addr} {pl : Sem Bool} {Q : Value × List Value → Shared → Prop} {E : Value → Shared → Prop} (I : Inv X pins σ H s) (M : SupE X.K C D) (e : H x = some (exo x C none)) (hso : s.heap.get? so = some (PySem.W.ks_superObj D x C))
    (h : Inv X ((s.heap.objs.size, PySem.W.kxs_mw "ValueError.__init__" x) :: pins) σ H { s with heap := s.heap.push (PySem.W.kxs_mw "ValueError.__init__" x), toks := s.toks + 1 } → Q (.ref s.heap.objs.size, []) { s with heap := s.heap.push (PySem.W.kxs_mw "ValueError.__init__" x), toks := s.toks + 1 }) :
    wpAny (model X.prog X.w) X.A (getMethod (.ref so) "__init__" pl) Q E s := by
  have X0 : X.K.In s.heap := I.kIn
  have hm := M.find
  obtain ⟨ox, hx, hxc, hnc⟩ := exo_obj I e
  cases hc : PySem.W.clsIn X.K C with
  | none => unfold PySem.W.ks_superIn at hm; rw [hc] at hm; cases hm
  | some cd =>
    unfold PySem.W.ks_superIn at hm
    rw [hc] at hm
    have LT : PySem.W.Looks (model X.prog X.w) s.heap (typeOf (.ref x)) (.ref C) := fun A Q E s k q => wpAny_typeOf_ref (k _ _ hx) (by rw [hxc]; exact q)
    have LI : PySem.W.Looks (model X.prog X.w) s.heap (isInstance (.ref x) (.type "ValueError")) true := LT.andThen (PySem.W.looks_subIn X0 M.isa)
    have I2 : Inv X pins σ H { s with heap := s.heap.push (PySem.W.kxs_mw "ValueError.__init__" x), toks := s.toks + 1 } := I.kept fun b o e => Heap.get?_push_of_some _ e
    obtain ⟨hp, g, d, t, os⟩ := s
    refine PySem.W.kxs_getMethod PySem.W.kxs_ValueError hso (PySem.W.looks_opaque X0 M.st) (l₀ := cd.mro) ?_ rfl X0 hm LI (ne_cls X0 hc hx hnc) (by decide) ?_
    · exact fun A Q E s k q => wpAny_bind ((PySem.W.looks_clsIn X0 hc) A _ E s k (wpAny_pure q))
    · refine h ⟨I2.ok, I2.os, I2.bare, I2.base, I2.loc, I2.cell, I2.free, I2.freeC, fun p hp => ?_, I2.hok, I2.len⟩
      rcases List.mem_append.mp hp with z | z
      · exact I2.pin p (List.mem_append_left _ z)
      · rcases List.mem_cons.mp z with z | z
        · subst z
          refine ⟨Heap.get?_push_size _ rfl, I.hok.fresh (Nat.le_refl _), fun z => ?_, I.nofs (Nat.le_refl _), fun v z => by cases z⟩
          have := I.lt
          rw [← z] at this
          exact Nat.lt_irrefl _ this
        · exact I2.pin p (List.mem_append_right _ z)
/-- super().__init__(e, ..) of an own exception -/
theorem supE_stmt {p0 p1 apos pos pos' : Pos} {e : Expr} {es : List Expr} {t : TA} (Z : SupZ X f cc D cda x0) (ha : PA X (e :: es) t)
    (he : starEach (e :: es) X.env = (false, eval e X.env) :: starEach es X.env) (hpl : (backTo pos (starEach es X.env)).any (·.1) = false)
    (hev : ∃ pl : Sem Bool, eval (.Call (.Attribute (.Call (.Name "super" p0) [] [] p1) "__init__" apos) (e :: es) [] pos) X.env = (do
      let ov ← attributeBase (.Call (.Name "super" p0) [] [] p1) "__init__" X.env (eval (.Call (.Name "super" p0) [] [] p1) X.env)
      standAt apos.atName
      let (f, first) ← holding [ov] (getMethod ov "__init__" pl)
      callWith pos f first (backTo pos (starEach (e :: es) X.env)) []))
    (hsw : swapsWith (.Call (.Attribute (.Call (.Name "super" p0) [] [] p1) "__init__" apos) (e :: es) [] pos) none pos'.line X.env = pure false) :
    PSA X body (.Expr (.Call (.Attribute (.Call (.Name "super" p0) [] [] p1) "__init__" apos) (e :: es) [] pos) pos') (fun D' σ H => ∃ x C, σ[0]? = some (some (.ref x)) ∧ H x = some (exo x C none) ∧ SupE X.K C D ∧
      t σ H fun vs H1 => H1 x = some (exo x C none) ∧ vs.length ≤ 1000 ∧ D'.nx σ H1) := by
  intro pins s σ H D' I h
  obtain ⟨x, C, h0, hx, M, ht⟩ := h
  obtain ⟨pl, hev⟩ := hev
  refine PySem.ks_wpAt_Expr_any ?_ I.quiet hsw
  refine PySem.ks_wpAt_MethodCall (pl := pl) ?_ hev
  refine sup_base Z I (by decide) h0 (exo_obj I hx) M.sub fun h1 I1 hso k1 => ?_
  refine sup_mw I1 M hx hso fun I2 => ?_
  refine PySem.W.kxs_callWith (i := "ValueError.__init__") (x := x) ?_ ?_
  · rw [he]
    show (false || (backTo pos (starEach es X.env)).any (·.1)) = false
    rw [hpl]
    rfl
  · have hA := ha.run pos _ _ σ H _ I2 ht
    rw [he] at hA ⊢
    refine Calls.evalArgs_plain ?_
    refine thn hA fun us2 s3 ⟨vs, H1, I3, r, hx1, hl, q⟩ => ?_
    have hq := TL.Inv.pin1 I3
    refine ⟨hq, call_wrap M.ox I3 hx1 hq (by show ([] ++ us2).length ≤ _; rw [List.nil_append, ← Paired.length r, sizeLine_eq]; omega) fun s' J => ?_⟩
    exact ⟨σ, H1, TL.Inv.unpin J, q⟩
end
end TL
namespace TL
open PySem PySem.Spec PyProof.Rows L2
section
variable {G : Gd} {X : Cx} {W : WX} {En : Ent} {σ : L2.St} {H F : Hp} {S : Slots} {fps : Nat → List Addr} {hd : Hd}
/-- a new object that is no slot's -/
theorem SR.newObj (sr : SR G En σ H F S fps hd) {a : Addr} (o : HO) (hp : H a = none) : SR G En σ (upd H a o) F S fps hd := by
  have k : ∀ b u, H b = some u → upd H a o b = some u := fun b u e => by rw [upd_ne (fun z => by rw [z, hp] at e; cases e)]; exact e
  exact { len := sr.len, slot := fun i o e => by
            obtain ⟨v', h1, h2⟩ := sr.slot i o e
            exact ⟨v', h1, RepO.mono (Same.refl _) o v' _ (fun b _ o q => k b o q) h2⟩,
          nd := sr.nd, dj := sr.dj, own := fun i b m => by
            obtain ⟨g1, g2, g3, g4⟩ := sr.own i b m
            refine ⟨g1, ?_, g3, g4⟩
            cases e : H b with
            | none => exact absurd e g2
            | some o => rw [k b o e]; simp,
          sub := fun b o e => k b o (sr.sub b o e), sub0 := sr.sub0, fnew := sr.fnew, kp := fun b o e h1 h2 => k b o (sr.kp b o e h1 h2),
          hand := sr.hand.mono (Same.refl _) (fun _ _ e => e) k fun _ q => .inl q, slf := sr.slf, tbE := sr.tbE }
/-! ### an exception's fields -/
/-- which field takes which argument, in the order of the stores -/
abbrev ExF := List (Str × Nat)
def fieldsV : ExF → List V → List (Str × V) → Option (List (Str × V))
  | [], _, acc => some acc
  | (f, i) :: r, vs, acc => match vs[i]? with
    | some v => fieldsV r vs ((f, v) :: acc)
    | none => none
def fieldsT : ExF → List T → List (Str × T) → Option (List (Str × T))
  | [], _, acc => some acc
  | (f, i) :: r, ts, acc => match ts[i]? with
    | some t => fieldsT r ts ((f, t) :: acc)
    | none => none
theorem fields_rep {ha : HA} {F : Hp} {ts : List T} {vs : List V} (r : Reps G ha F ts vs) : ∀ {st : ExF} {acc : List (Str × T)} {accV : List (Str × V)} {fs : List (Str × T)}, fieldsT st ts acc = some fs → RepF G ha F acc accV → ∃ us, fieldsV st vs accV = some us ∧ RepF G ha F fs us
  | [], acc, accV, fs, e, ra => by simp only [fieldsT] at e; cases e; exact ⟨accV, rfl, ra⟩
  | (f, i) :: st, acc, accV, fs, e, ra => by
    unfold fieldsT at e
    split at e
    · rename_i t et
      obtain ⟨v, ev, rv⟩ := Reps.get r et
      obtain ⟨us, h1, h2⟩ := fields_rep r (st := st) (accV := (f, v) :: accV) e (by simp only [RepF]; exact ⟨v, accV, rfl, rv, ra⟩)
      exact ⟨us, by unfold fieldsV; rw [ev]; exact h1, h2⟩
    · cases e
/-- an exception's __init__ -/
def SpE (C : Addr) (n : Nat) (st : ExF) : Sp := fun vs H Q _ => vs.length = n + 1 ∧ n ≤ 500 ∧ ∃ a rest us, vs = .ref a :: rest ∧ H a = some (exo a C none) ∧ fieldsV st rest [] = some us ∧ ∀ dx, H dx = none → dx ≠ a → Q .non (upd (upd H dx (exd dx us)) a (exo a C (some dx)))
/-- what can be raised: C(e, ..) -/
structure RaiseV (X : Cx) (W : WX) (x : Str) (C : Addr) (n : Nat) (st : ExF) : Prop where
  go : ∀ (e : Expr) (es : List Expr) (p pos : Pos) (ta : TA), PA X (e :: es) ta → starEach (e :: es) X.env = (false, eval e X.env) :: starEach es X.env → (backTo pos (starEach es X.env)).any (·.1) = false → PMk X (.Call (.Name x p) (e :: es) [] pos) (tMkO C (SpE C n st) [] ta)
theorem raiseV {W : WX} {k : Nat} {C fI : Addr} {x : Str} {n : Nat} {st : ExF} {fd : FuncData} {ps : List Str} (T : OexC X.K C) (iC : PySem.W.findIn X.K (.ref C) "__init__" = some (some (.ref fI))) (tI : PySem.W.typeIn X.K (.ref fI) = some (.type "function"))
    (F1 : FnOk X.prog X.w X.K X.mg X.base (L2.CX X.prog X.w) k fI fd ps (SpE C n st)) (hr : Room (k + 1) X.A) (hb : Binds X.K fd ps []) (hg : Gl X x) (hm : X.mg x = some (.ref C)) (hdb : (x == ("__debug__" : Str)) = false) : RaiseV X W x C n st :=
  ⟨fun e es p pos ta ha he hpl => pmk_oex T iC tI F1 hr hb .nil passL hg hm ha hdb he hpl⟩
def sRaise (C : Str) (n : Nat) (st : ExF) (m : M (List T)) : Stm := sBind m fun ts S hd => if ts.length = n ∧ n ≤ 500 then match fieldsT st ts [] with
  | some fs => some (.ex C fs, S, hd)
  | none => none
  else none
theorem js_raise {C x : Str} {n : Nat} {st : ExF} {e : Expr} {es : List Expr} {m : M (List T)} {p pos pos' : Pos} (hc : X.calm = true) (tk : Takes X W) (R : RaiseV X W x (G.ca C) n st) (ha : JL G X W (e :: es) m)
    (he : starEach (e :: es) X.env = (false, eval e X.env) :: starEach es X.env) (hpl : (backTo pos (starEach es X.env)).any (·.1) = false) :
    JS G X W (.Raise (some (.Call (.Name x p) (e :: es) [] pos)) none pos') (sRaise C n st m) := PS.imp (ps_raise hc tk (R.go e es p pos _ ha he hpl)) fun D σ H q => by
  obtain ⟨En, q⟩ := q
  obtain ⟨F0, q⟩ := sBind_step (R := RL G En) q
  refine ⟨En, q.mono fun vs H1 ⟨ts, F1, S1, fps1, hd1, sr, s, r, p⟩ => ?_⟩
  split at p
  · rename_i hl
    split at p
    · rename_i fs ef
      have hlen := Reps.length r
      obtain ⟨us, e1, e2⟩ := fields_rep r (accV := []) ef (by simp only [RepF])
      refine ⟨by rw [← hlen]; omega, fun a ha => ⟨by rw [List.length_cons, List.append_nil, ← hlen, hl.1], hl.2, a, vs ++ [], us, rfl, upd_same, by rw [List.append_nil]; exact e1, fun dx hdx ne => ⟨rfl, dx, us, upd_same, ?_, ?_, ?_⟩⟩⟩
      · rw [upd_ne ne, upd_same]
      · rw [upd_ne ne] at hdx; exact hdx
      · rw [upd_ne ne] at hdx
        have eq : upd (del (upd (upd (upd H1 a (exo a (G.ca C) none)) dx (exd dx us)) a (exo a (G.ca C) (some dx))) a) dx (.xd us) = upd H1 dx (.xd us) := by
          funext b
          by_cases hb : b = dx
          · rw [hb, upd_same, upd_same]
          · rw [upd_ne hb, upd_ne hb]
            by_cases hba : b = a
            · rw [hba, del_same, ha]
            · rw [del_ne hba, upd_ne hba, upd_ne hb, upd_ne hba]
        rw [eq]
        refine p (some dx) σ _ F1 fps1 (sr.newObj (.xd us) hdx) (Same.refl _) ⟨dx, us, rfl, upd_same, ?_, e2⟩
        cases e : F1 dx with
        | none => rfl
        | some o => rw [sr.sub dx o e] at hdx; cases hdx
    · exact p.elim
  · exact p.elim
/-! ### the __init__ of an own exception keeps its promise -/
inductive ArgE where
  | cst (s : Str) | par (i : Nat)
  deriving DecidableEq, Inhabited
def argV (σ : L2.St) : ArgE → Option V
  | .cst s => some (.str s)
  | .par i => match σ[i]? with
    | some (some v) => some v
    | _ => none
def argsV (σ : L2.St) : List ArgE → Option (List V)
  | [] => some []
  | a :: as => match argV σ a, argsV σ as with
    | some v, some vs => some (v :: vs)
    | _, _ => none
def tArg (a : ArgE) : TE := fun σ H Q => ∃ v, argV σ a = some v ∧ Q v H
def tArgs (as : List ArgE) : TA := fun σ H Q => ∃ vs, argsV σ as = some vs ∧ Q vs H
theorem PA.imp' {es : List Expr} {t t' : TA} (h : PA X es t) (k : ∀ σ H Q, t' σ H Q → t σ H Q) : PA X es t' := PA.imp h k
theorem pa_args : ∀ {es : List Expr} {as : List ArgE}, (∀ e ∈ es, ∀ rest : List Expr, starEach (e :: rest) X.env = (false, eval e X.env) :: starEach rest X.env) → Paired (fun e a => PE X e (tArg a)) es as → PA X es (tArgs as)
  | [], _, _, .nil => PA.imp pa_nil fun σ H Q ⟨vs, e, q⟩ => by
    simp only [argsV] at e
    cases e
    exact q
  | e :: es, a :: as, hs, .cons h t => PA.imp (pa_cons h (pa_args (fun e' m => hs e' (List.mem_cons_of_mem _ m)) t) (hs e List.mem_cons_self es)) fun σ H Q ⟨vs, ev, q⟩ => by
    unfold argsV at ev
    split at ev
    · rename_i v vs' e1 e2
      cases ev
      exact ⟨v, e1, vs', e2, q⟩
    · cases ev
theorem pe_argc {s : Str} {j : Nat} {pos : Pos} : PE X (.Constant (.str s) j pos) (tArg (.cst s)) := PE.imp pe_str fun σ H Q ⟨v, e, q⟩ => by
  simp only [argV] at e
  cases e
  exact q
theorem pe_argp {i : Nat} {x : Str} {pos : Pos} (h : PE X (.Name x pos) (tVar i)) : PE X (.Name x pos) (tArg (.par i)) := PE.imp h fun σ H Q ⟨v, e, q⟩ => by
  simp only [argV] at e
  split at e
  · rename_i w ew
    cases e
    exact ⟨_, ew, q⟩
  · cases e
/-- self.f = p, .. -/
inductive StoresOk (X : Cx) (C : Addr) : List Stmt → ExF → Prop where
  | nil : StoresOk X C [] []
  | cons {st : Stmt} {rest : List Stmt} {f : Str} {i : Nat} {r : ExF} (h : PS X st (tOst X.K f (tVar 0) (tVar (i + 1)))) (hf : PySem.W.findIn X.K (.ref C) f = some none) (t : StoresOk X C rest r) : StoresOk X C (st :: rest) ((f, i) :: r)
theorem upd_comm {H : Hp} {a b : Addr} {o u : HO} (h : a ≠ b) : upd (upd H a o) b u = upd (upd H b u) a o := by
  funext c
  by_cases h1 : c = b
  · rw [h1, upd_same, upd_ne (Ne.symm h), upd_same]
  · rw [upd_ne h1]
    by_cases h2 : c = a
    · rw [h2, upd_same, upd_same]
    · rw [upd_ne h2, upd_ne h2, upd_ne h1]
def storesT (K : PySem.W.Frag) : ExF → TS
  | [] => tNext
  | (f, i) :: r => tSeq (tOst K f (tVar 0) (tVar (i + 1))) (storesT K r)
theorem StoresOk.ps {C : Addr} : ∀ {ss : List Stmt} {st : ExF}, StoresOk X C ss st → PSs X ss (storesT X.K st)
  | _, _, .nil => pss_nil
  | _, _, .cons h _ t => pss_cons h (StoresOk.ps t)
theorem stores_go {C a dx : Addr} {H0 : Hp} (T : OexC X.K C) (ne : dx ≠ a) {σ : L2.St} (h0 : σ[0]? = some (some (.ref a))) {vs : List V} (hv : ∀ (i : Nat) (v : V), vs[i]? = some v → σ[i + 1]? = some (some v)) : ∀ {ss : List Stmt} {st : ExF} (k : StoresOk X C ss st) {acc us : List (Str × V)}, fieldsV st vs acc = some us → acc.length + st.length ≤ 900 →
    ∀ D : Ends, D.nx σ (upd (upd H0 dx (exd dx us)) a (exo a C (some dx))) → storesT X.K st D σ (upd (upd H0 dx (exd dx acc)) a (exo a C (some dx)))
  | [], _, .nil, acc, us, e, hl => fun D q => by simp only [fieldsV] at e; cases e; exact q
  | s :: ss, (f, i) :: st, .cons h hf t, acc, us, e, hl => by
    unfold fieldsV at e
    rw [List.length_cons] at hl
    split at e
    · rename_i v ev
      have hq := stores_go (H0 := H0) T ne h0 hv t (acc := (f, v) :: acc) e (by rw [List.length_cons]; omega)
      refine fun D q => ?_
      refine ⟨v, hv i v ev, .ref a, h0, a, C, rfl, T, hf, .inr ⟨dx, acc, upd_same, by rw [upd_ne ne, upd_same], by omega, ?_⟩⟩
      rw [upd_comm (Ne.symm ne), upd_upd]
      exact hq D q
    · cases e
theorem exc_tl {P : Program} {w : World} {K : PySem.W.Frag} {mg : Str → Option Value} {base : Heap} {name qual : Str} {params : Arguments} {body : List Stmt} {scope : Scope} {dV kV doc pm cdv ct oc : Value} {an od : Option Addr} {osl : Array (Option Value)} {f cc C : Addr} {N ps : List Str} {k n : Nat} {as : List ArgE} {f0 : Str} {i0 : Nat} {st : ExF} {s0 s1 : Stmt} {ss : List Stmt}
    (lk : K.lookup f = some ⟨oc, od, .func (PySem.W.fnX name qual params body scope [(("__class__" : Str), cc)] dV kV doc pm an cdv ct), osl⟩) (hcd : PySem.W.codeIn K cdv qual = true) (S : FnScopeX N ps scope) (CC : ClsCell K cc C) (M : SupE K C C) (hn : ps.length = n + 1) (hbo : body = s0 :: s1 :: ss) (hst : st.length ≤ 800) (has : ∀ vs : List V, vs.length = n + 1 → ∃ ws, argsV (L2.start N vs) as = some ws ∧ ws.length ≤ 1000)
    (hb : ∀ (A : Around) (outer : List Env) (s : Shared) (H : Hp) (E : XK), Room k (A.deeper (envCl qual scope s.heap.objs.size f cdv cc)) →
      PSA (cxOfX P w K mg base N qual scope f cdv cc A outer s H E) body s0 (fun D' σ H => ∃ x C', σ[0]? = some (some (.ref x)) ∧ H x = some (exo x C' none) ∧ SupE K C' C ∧ tArgs as σ H fun vs H1 => H1 x = some (exo x C' none) ∧ vs.length ≤ 1000 ∧ D'.nx σ H1) ∧
      StoresOk (cxOfX P w K mg base N qual scope f cdv cc A outer s H E) C (s1 :: ss) ((f0, i0) :: st)) :
    FnOk P w K mg base (L2.CX P w) (k + 1) f (PySem.W.fnX name qual params body scope [(("__class__" : Str), cc)] dV kV doc pm an cdv ct) ps (SpE C n ((f0, i0) :: st)) := by
  have hpl : ps.length ≤ N.length := by have := congrArg List.length S.pre; rw [List.length_take] at this; omega
  refine fn_ofX lk hcd S CC (fun vs H Q E h => by rw [hn]; exact h.1) fun A outer s H vs Q E hr h => ?_
  obtain ⟨hl, hn5, a, rest, us, rfl, ha, eu, q⟩ := h
  obtain ⟨h1, h2⟩ := hb A outer s H E hr
  obtain ⟨ws, ews, lws⟩ := has (.ref a :: rest) hl
  cases h2 with
  | cons hp hf t =>
    have hσ0 : (L2.start N (.ref a :: rest))[0]? = some (some (.ref a)) := rfl
    have hσ : ∀ (i : Nat) (v : V), rest[i]? = some v → (L2.start N (.ref a :: rest))[i + 1]? = some (some v) := fun i v e => by
      unfold L2.start
      rw [List.map_cons, List.cons_append, List.getElem?_cons_succ, List.getElem?_append_left, List.getElem?_map, e]
      · rfl
      · rcases List.getElem?_eq_some_iff.mp e with ⟨z, _⟩
        rw [List.length_map]; exact z
    unfold fieldsV at eu
    split at eu
    · rename_i v ev
      subst hbo
      refine ⟨_, pssA_cons h1 (PSs.at (pss_cons hp t.ps)), ?_⟩
      refine ⟨a, C, hσ0, ha, M, ws, ews, ha, lws, ?_⟩
      refine ⟨v, hσ i0 v ev, .ref a, hσ0, a, C, rfl, M.ox, hf, .inl ⟨ha, fun dx hdx ne => ?_⟩⟩
      exact stores_go M.ox ne hσ0 hσ t (acc := [(f0, v)]) eu (by rw [List.length_singleton]; omega) _ (q dx hdx ne)
    · cases eu
end
end TL
namespace TL
open PySem PySem.Spec PyProof.Rows L2
/-! ### == by an own __eq__ -/
def E00 : XK := fun _ _ _ => False
def CalW (X : Cx) (k : Nat) (f : Addr) (sp : Sp) : Prop := ∀ (A : Around), A.frames = X.A.frames → Room k A → ∀ (E' : Value → Shared → Prop) (pins : List (Addr × Obj)) (s : Shared) (σ : L2.St) (H : Hp) (us : List Value) (vs : List V) (Q : VK), Inv X pins σ H s → Vals vs us → sp vs H Q E00 →
  wpAny (model X.prog X.w) A (call (.ref f) us) (EP X pins σ Q) E' s
section
variable {G : Gd} {X : Cx} {W : WX} {pins : List (Addr × Obj)} {σ : L2.St} {H : Hp} {s : Shared}
theorem calW_def {k : Nat} {f : Addr} {fd : FuncData} {ps : List Str} {sp : Sp} (hf : FnOk X.prog X.w X.K X.mg X.base (L2.CX X.prog X.w) k f fd ps sp) (hb : Binds X.K fd ps []) : CalW X k f sp := fun A fr hr E' pins s σ H us vs Q I r h => by
  have hl : us.length = ps.length := by rw [← r.length]; exact hf.len _ _ _ _ h
  have b := hb s us I.kIn (by rw [List.append_nil]; exact hl)
  rw [List.append_nil] at b
  have e := I.env0
  have e0 : Env0 X.prog X.w X.K X.mg X.base A X.stack s H := ⟨by rw [fr]; exact e.frames, e.mod, e.bs, e.bsz, e.funs, e.frf, e.hok, e.bare⟩
  refine wpAny_call (codeAny_mono (hf.run A X.stack s H ⟨us, []⟩ us vs Q E00 hr e0 b r h) fun r s' hq => ?_)
  cases r with
  | error e =>
    obtain ⟨_, _, _, _, _, _, _, _, _, _, _, _, z⟩ := hq
    exact z.elim
  | ok fl =>
    cases fl with
    | ret u => exact I.after hq
    | next => exact False.elim hq
    | brk => exact False.elim hq
    | cont => exact False.elim hq
theorem looks_ty {M : Model} {y : V} {u t : Value} (I : Inv X pins σ H s) (r : RelV y u) (ty : TyX X.K H y t) : PySem.W.Looks M s.heap (typeOf u) t := by
  have ref : ∀ {a : Addr} {o : Obj}, s.heap.get? a = some o → o.cls = t → PySem.W.Looks M s.heap (typeOf (.ref a)) t := fun {a o} e c A Q E s k q => wpAny_typeOf_ref (k _ _ e) (by rw [c]; exact q)
  cases ty with
  | base b =>
    cases b with
    | non => cases (show u = Value.none from r); exact PySem.W.Looks.of_pure rfl
    | bl y => cases (show u = Value.bool y from r); exact PySem.W.Looks.of_pure rfl
    | int i => obtain ⟨t, q⟩ := (show ∃ t, u = Value.int i t from r); cases q; exact PySem.W.Looks.of_pure rfl
    | str y => obtain ⟨t, q⟩ := (show ∃ t, u = Value.str y t from r); cases q; exact PySem.W.Looks.of_pure rfl
    | flt y => obtain ⟨t, q⟩ := (show ∃ t, u = Value.float y t from r); cases q; exact PySem.W.Looks.of_pure rfl
    | @lst a xs ea =>
      cases (show u = Value.ref a from r)
      obtain ⟨_, _, n, _, h1⟩ := (show ObjOk X.prog X.w H s.heap a (.lst xs) from I.hok a _ ea)
      exact ref h1 rfl
    | @frz a ob xs ea =>
      cases (show u = Value.ref a from r)
      obtain ⟨_, _, _, n, _, h1⟩ := (show ObjOk X.prog X.w H s.heap a (.frz ob (.lst xs)) from I.hok a _ ea)
      exact ref h1 rfl
    | @tup a xs ea =>
      cases (show u = Value.ref a from r)
      obtain ⟨_, _, _, o, h1, h2, _⟩ := (show ObjOk X.prog X.w H s.heap a (.tup xs) from I.hok a _ ea)
      exact ref h1 h2
    | @dK a kvs ea =>
      cases (show u = Value.ref a from r)
      obtain ⟨_, _, vs, _, o, es, ep, h1, h2, _⟩ := (show ObjOk X.prog X.w H s.heap a (.dK kvs) from I.hok a _ ea)
      exact ref h1 h2.1
    | @dT a kvs ea =>
      cases (show u = Value.ref a from r)
      obtain ⟨_, _, xs, _, o, es, ep, h1, h2, _⟩ := (show ObjOk X.prog X.w H s.heap a (.dT kvs) from I.hok a _ ea)
      exact ref h1 h2.1
    | @ins a C dx fs ea cl ha hn htk hm =>
      cases (show u = Value.ref a from r)
      obtain ⟨_, _, _, e, _⟩ := (show ObjOk X.prog X.w H s.heap a (.ins C dx fs) from I.hok a _ ea)
      exact ref e rfl
  | byt y => obtain ⟨t, q⟩ := (show ∃ t, u = Value.bytes y t from r); cases q; exact PySem.W.Looks.of_pure rfl
  | @set a S n ea =>
    cases (show u = Value.ref a from r)
    obtain ⟨o, _, _, _, e, ex, _⟩ := I.hok a _ ea
    exact ref e ex.1
  | @kList a o e c => cases (show u = Value.ref a from r); exact ref (I.kIn a o e) c
  | @kTuple a o e c => cases (show u = Value.ref a from r); exact ref (I.kIn a o e) c
  | @kDict a o e c => cases (show u = Value.ref a from r); exact ref (I.kIn a o e) c
  | @fTuple a ob xs ea =>
    cases (show u = Value.ref a from r)
    obtain ⟨_, _, _, _, o, h1, h2, _⟩ := (show ObjOk X.prog X.w H s.heap a (.frz ob (.tup xs)) from I.hok a _ ea)
    exact ref h1 h2
  | @fDict a ob kvs ea =>
    cases (show u = Value.ref a from r)
    obtain ⟨_, _, _, vs, _, o, es, ep, h1, h2, _⟩ := (show ObjOk X.prog X.w H s.heap a (.frz ob (.dK kvs)) from I.hok a _ ea)
    exact ref h1 h2.1
theorem cmp_first {a : Addr} {b C D f : Addr} {oa ob : Obj} {da db : Option Obj} {A : Around} {E : Value → Shared → Prop} {Q : Value → Shared → Prop} (hu : A.units < cLine) (X0 : X.K.In s.heap) (I : PySem.W.InstAt s.heap a oa C da) (J : PySem.W.InstAt s.heap b ob D db) (ne : D ≠ C) (hsub : PySem.W.subIn X.K (.ref D) (.ref C) = some true)
    (hs : PySem.W.findIn X.K (.ref D) "__eq__" = some (some (.ref f))) (hf : PySem.W.isFn X.K (.ref f) = true)
    (h : wpAny (model X.prog X.w) A (call (.ref f) [.ref b, .ref a]) (PySem.W.CmpBack Q) E s) : wpAny (model X.prog X.w) A (richCompare .Eq (.ref a) (.ref b)) Q E s := by
  have one : wpAny (model X.prog X.w) A (tryCompare (.ref b) "__eq__" (.ref a)) (fun r s' => ∃ v, r = some v ∧ Q v s') E s := by
    unfold tryCompare
    refine wpAny_bind (PySem.W.ifBound_K X0 J hs hf (wpAny_mono h (fun v s' hv => ?_) fun _ _ e => e))
    cases v <;> first | exact hv.elim | exact wpAny_pure ⟨_, rfl, hv⟩
  unfold richCompare
  simp only [oneThing_ref]
  refine wpAny_holding (wpAny_bind (wpAny_cRoomFor hu ?_))
  refine wpAny_bind (I.type.here (wpAny_bind (J.type.here ?_)))
  have q : (Value.ref C != Value.ref D) = true := by simp [Ne.symm ne]
  rw [if_pos q]
  refine wpAny_bind ((PySem.W.looks_subIn X0 hsub).here ?_)
  rw [if_pos rfl]
  refine wpAny_bind (wpAny_mono one (fun r s' z => ?_) fun _ _ e => e)
  obtain ⟨v, rfl, hq⟩ := z
  first
    | exact wpAny_pure hq
    | (dsimp only; repeat (first | exact hq | exact wpAny_pure hq | wp_step))
/-- what == of instances asks -/
structure EqC (K : PySem.W.Frag) (C f : Addr) : Prop where
  find : PySem.W.findIn K (.ref C) "__eq__" = some (some (.ref f))
  fn : PySem.W.isFn K (.ref f) = true
def rEqI (G : Gd) (X : Cx) (k : Nat) : R2 := fun x y H Q => (∃ a C dx us f t F0, x = .ref a ∧ H a = some (.ins C dx us) ∧ TyX X.K H y t ∧ PySem.W.notFirst X.K C t = true ∧ EqC X.K C f ∧ CalW X k f (SpT G 2 F0) ∧ SpT G 2 F0 [x, y] H (fun v H' => ∃ b, v = .bl b ∧ Q (.bl b) H') E00) ∨
  ∃ a b C D dx dy us ws f F0, x = .ref a ∧ y = .ref b ∧ H a = some (.ins C dx us) ∧ H b = some (.ins D dy ws) ∧ D ≠ C ∧ PySem.W.subIn X.K (.ref D) (.ref C) = some true ∧ EqC X.K D f ∧ CalW X k f (SpT G 2 F0) ∧ SpT G 2 F0 [y, x] H (fun v H' => ∃ b, v = .bl b ∧ Q (.bl b) H') E00
theorem inst_at {a C dx : Addr} {us : List (Str × V)} (I : Inv X pins σ H s) (e : H a = some (.ins C dx us)) : ∃ od, PySem.W.InstAt s.heap a (PySem.W.instObj C dx) C (some od) := by
  obtain ⟨mA, O, _, _, _, _⟩ := ins_get I.hok e
  obtain ⟨od, J, _⟩ := O.look
  exact ⟨od, J⟩
theorem rich_eqI {k : Nat} {A : Around} {E : Value → Shared → Prop} {x y : V} {u v : Value} {Q : VK} (fr : A.frames = X.A.frames) (hr : Room k A) (I : Inv X pins σ H s) (rx : RelV x u) (ry : RelV y v) (h : rEqI G X k x y H Q) :
    wpAny (model X.prog X.w) A (richCompare .Eq u v) (EP X pins σ Q) E s := by
  rcases h with ⟨a, C, dx, us, f, t, sp, rfl, ha, ty, nf, ec, hc, hs⟩ | ⟨a, b, C, D, dx, dy, us, ws, f, sp, rfl, rfl, ha, hb, ne, hsub, ec, hc, hs⟩
  · obtain rfl : u = Value.ref a := rx
    obtain ⟨od, J⟩ := inst_at I ha
    obtain ⟨m, hF⟩ := I.fr
    refine PySem.W.cmp_K (op := .Eq) (tb := t) hr.units0 hF I.ok.mod.kin J (looks_ty I ry ty) nf ec.find ec.fn ?_
    refine wpAny_mono (hc A fr hr E pins s σ H [.ref a, v] [.ref a, y] _ I (.cons rfl (.cons ry .nil)) hs) (fun w s' z => ?_) fun _ _ z => z
    obtain ⟨z, H', I', rz, b, rfl, q⟩ := z
    cases rz
    exact ⟨.bl b, H', I', rfl, q⟩
  · obtain rfl : u = Value.ref a := rx
    obtain rfl : v = Value.ref b := ry
    obtain ⟨od, J⟩ := inst_at I ha
    obtain ⟨od', J'⟩ := inst_at I hb
    refine cmp_first hr.units0 I.kIn J J' ne hsub ec.find ec.fn ?_
    refine wpAny_mono (hc A fr hr E pins s σ H [.ref b, .ref a] [.ref b, .ref a] _ I (.cons rfl (.cons rfl .nil)) hs) (fun w s' z => ?_) fun _ _ z => z
    obtain ⟨z, H', I', rz, b, rfl, q⟩ := z
    cases rz
    exact ⟨.bl b, H', I', rfl, q⟩
theorem op_eqI {k : Nat} (hr : Room k X.A) : OpR X (compareOp .Eq) (rEqI G X k) := fun pins s σ H x y v u Q I rx ry h => rich_eqI rfl hr I rx ry h
theorem SpT.mono {n : Nat} {F : Fn} {vs : List V} {H : Hp} {Q Q' : VK} {E : XK} (k : ∀ v H, Q v H → Q' v H) (h : SpT G n F vs H Q E) : SpT G n F vs H Q' E := by
  obtain ⟨h1, F0, ha', ts, hd', h2, h3, h4, h5, h6⟩ := h
  refine ⟨h1, F0, ha', ts, hd', h2, h3, h4, h5, ?_⟩
  unfold PostF at h6 ⊢
  split <;> rename_i e <;> rw [e] at h6
  · exact h6
  · exact fun v H' F' g fo => k _ _ (h6 v H' F' g fo)
  · exact h6
theorem mono_eqI {k : Nat} : Mono2 (rEqI G X k) := fun x y H Q Q' m h => by
  rcases h with ⟨a, C, dx, us, f, t, sp, h1, ha, ty, nf, ec, hc, hs⟩ | ⟨a, b, C, D, dx, dy, us, ws, f, sp, h1, h2, ha, hb, ne, hsub, ec, hc, hs⟩
  · exact .inl ⟨a, C, dx, us, f, t, sp, h1, ha, ty, nf, ec, hc, hs.mono fun v H ⟨b, e, q⟩ => ⟨b, e, m _ _ q⟩⟩
  · exact .inr ⟨a, b, C, D, dx, dy, us, ws, f, sp, h1, h2, ha, hb, ne, hsub, ec, hc, hs.mono fun v H ⟨b, e, q⟩ => ⟨b, e, m _ _ q⟩⟩
end
end TL
namespace TL
open PySem PySem.Spec PyProof.Rows L2
theorem slot_one : Slot "object" "__ne__" "object.__ne__" :=
  Slot.of (T := "object") (name := "__ne__") (owner := "object") (n := "__ne__") (by rw [typeLookup_type, builtinLookup_eq_fast]; kernel_rfl) (by decide +kernel) (by decide +kernel) (by decide +kernel)
    (by first | exact .inl (by decide +kernel) | exact .inr (by decide +kernel)) (by rw [isSubtype_type]; kernel_rfl)
structure NeC (K : PySem.W.Frag) (C f : Addr) : Prop where
  eq : EqC K C f
  find : PySem.W.findIn K (.ref C) "__ne__" = some (some (.builtin "object.__ne__"))
  hm : PySem.W.mroIn K C (.type "object") = some true
section
variable {G : Gd} {X : Cx} {W : WX} {pins : List (Addr × Obj)} {σ : L2.St} {H : Hp} {s : Shared}
theorem obj_ne {a : Addr} {C f : Addr} {oa : Obj} {da : Option Obj} {A : Around} {E : Value → Shared → Prop} {v : Value} {Q : Fin → Shared → Prop} (hu : A.units < cLine) (X0 : X.K.In s.heap) (I : PySem.W.InstAt s.heap a oa C da) (ec : EqC X.K C f)
    (h : wpAny (model X.prog X.w) A (call (.ref f) [.ref a, v]) (fun w s' => ∃ b, w = .bool b ∧ Q (.done (.ret (.bool (!b)))) s') E s) : wpAny (model X.prog X.w) A (Builtin.«object.__ne__» ⟨[.ref a, v], []⟩) Q E s := by
  unfold Builtin.«object.__ne__»
  refine wpAny_bind (wpAny_of_eq (a := ((Value.ref a : Value), [v])) (by first | rfl | (simp only [slotArgs]; rfl)) ?_)
  dsimp only
  refine wpAny_bind (wpAny_cRoomFor hu ?_)
  refine wpAny_bind (PySem.W.ifBound_K X0 I ec.find ec.fn (wpAny_mono h (fun w s' hr => ?_) fun _ _ e => e))
  obtain ⟨b, rfl, hq⟩ := hr
  dsimp only
  exact wpAny_bind (wpAny_truthy_bool (wpAny_pure hq))
theorem rich_neI {a : Addr} {C f : Addr} {oa : Obj} {da : Option Obj} {A : Around} {E : Value → Shared → Prop} {v tb : Value} {Q : Value → Shared → Prop} (hu : A.units + 1 < cLine) (X0 : X.K.In s.heap) (I : PySem.W.InstAt s.heap a oa C da) (nc : NeC X.K C f) (hb : PySem.W.Looks (model X.prog X.w) s.heap (typeOf v) tb) (hn : PySem.W.notFirst X.K C tb = true)
    (h : wpAny (model X.prog X.w) A.in1 (call (.ref f) [.ref a, v]) (fun w s' => ∃ b, w = .bool b ∧ Q (.bool (!b)) s') E s) : wpAny (model X.prog X.w) A (richCompare .NotEq (.ref a) v) Q E s := by
  have sub : PySem.W.Looks (model X.prog X.w) s.heap (isInstance (.ref a) (.type "object")) true := I.type.andThen (PySem.W.looks_mroIn X0 nc.hm)
  have one : wpAny (model X.prog X.w) A (tryCompare (.ref a) "__ne__" v) (fun r s' => ∃ w, r = some w ∧ Q w s') E s := by
    have callb : wpAny (model X.prog X.w) A (call (.builtin "object.__ne__") [.ref a, v]) (fun w s' => ∃ b, w = .bool b ∧ Q (.bool b) s') E s := by
      refine wpAny_call (codeAny_call_builtin slot_one.plain F.cmpEntry_ne (@PySem.W.check_slot (model X.prog X.w) _ _ s "object.__ne__" "object" "__ne__" (.ref a) [v] [] _ F.cmpKind_ne F.cmpSplit_ne sub (F.cmpArgs_ne (.ref a) v) ?_))
      refine obj_ne (A := A.in1) (Nat.lt_of_le_of_lt (by show A.units + 1 ≤ A.units + 1; exact Nat.le_refl _) hu) X0 I nc.eq (wpAny_mono h (fun w s' hr => ?_) fun _ _ e => e)
      obtain ⟨b, rfl, hq⟩ := hr
      exact ⟨b, rfl, !b, rfl, hq⟩
    unfold tryCompare
    refine wpAny_bind ?_
    simp only [callSpecialIfBound?, bindSpecialIfBound?]
    refine wpAny_holding (wpAny_bind (wpAny_bind (wpAny_bind (I.type.here ((PySem.W.looks_findIn X0 nc.find).here ?_)))))
    simp only [slot_one.bind]
    refine wpAny_bind (wpAny_askSetting (wpAny_ite ?_))
    have fin : wpAny (model X.prog X.w) A (call (.builtin "object.__ne__") ([.ref a] ++ [v]) >>= fun v => pure (some v)) (fun r s' => wpAny (model X.prog X.w) A (match r with
      | some .notImplemented | none => pure none
      | some v => pure (some v)) (fun r s' => ∃ w, r = some w ∧ Q w s') E s') E s :=
      wpAny_bind (wpAny_mono callb (fun w s' hr => by
        obtain ⟨b, rfl, hq⟩ := hr
        exact wpAny_pure (wpAny_pure ⟨_, rfl, hq⟩)) fun _ _ h' => h')
    split
    · exact wpAny_bind (wpAny_pure (wpAny_pure fin))
    · exact wpAny_tryCatch (wpAny_bind (wpAny_pure (wpAny_pure fin)))
  unfold richCompare
  simp only [oneThing_ref]
  refine wpAny_holding (wpAny_bind (wpAny_cRoomFor (Nat.lt_of_succ_lt hu) ?_))
  refine wpAny_bind (I.type.here (wpAny_bind (hb.here ?_)))
  split
  · rename_i q
    have e : PySem.W.subIn X.K tb (.ref C) = some false := by
      rcases Bool.or_eq_true_iff.mp hn with e | e
      · rw [beq_iff_eq.mp e] at q; simp at q
      · exact beq_iff_eq.mp e
    refine wpAny_bind ((PySem.W.looks_subIn X0 e).here ?_)
    simp only [Bool.false_eq_true, if_false]
    refine wpAny_bind (wpAny_mono one (fun r s' z => ?_) fun _ _ e => e)
    obtain ⟨v, rfl, hq⟩ := z
    exact wpAny_pure hq
  · refine wpAny_bind (wpAny_pure ?_)
    simp only [Bool.false_eq_true, if_false]
    refine wpAny_bind (wpAny_mono one (fun r s' z => ?_) fun _ _ e => e)
    obtain ⟨v, rfl, hq⟩ := z
    exact wpAny_pure hq
def rNeI (G : Gd) (X : Cx) (k : Nat) : R2 := fun x y H Q => ∃ a C dx us f t F0, x = .ref a ∧ H a = some (.ins C dx us) ∧ TyX X.K H y t ∧ PySem.W.notFirst X.K C t = true ∧ NeC X.K C f ∧ CalW X k f (SpT G 2 F0) ∧ SpT G 2 F0 [x, y] H (fun v H' => ∃ b, v = .bl b ∧ Q (.bl (!b)) H') E00
theorem op_neI {k : Nat} (hr : Room (k + 1) X.A) : OpR X (compareOp .NotEq) (rNeI G X k) := fun pins s σ H x y u v Q I rx ry h => by
  obtain ⟨a, C, dx, us, f, t, sp, rfl, ha, ty, nf, nc, hc, hs⟩ := h
  obtain rfl : u = Value.ref a := rx
  obtain ⟨od, J⟩ := inst_at I ha
  refine rich_neI (by have := hr.un; omega) I.kIn J nc (looks_ty I ry ty) nf ?_
  refine wpAny_mono (hc X.A.in1 rfl hr.in1 X.xe pins s σ H [.ref a, v] [.ref a, y] _ I (.cons rfl (.cons ry .nil)) hs) (fun w s' z => ?_) fun _ _ z => z
  obtain ⟨z, H', I', rz, b, rfl, q⟩ := z
  cases rz
  exact ⟨b, rfl, .bl (!b), H', I', rfl, q⟩
/-! ### trees -/
/-- own __eq__ by class; which right side goes ahead; which doesn't -/
structure EqTab where
  eqs : Str → Option Fn
  first : Str → Str → Bool
  nf : Str → TyN → Bool
structure EqOk (G : Gd) (X : Cx) (k : Nat) (I : Isi) (B : EqTab) : Prop where
  eqs : ∀ C F, B.eqs C = some F → ∃ f, NeC G.K (G.ca C) f ∧ CalW X k f (SpT G 2 F)
  first : ∀ C D, B.first C D = true → G.ca D ≠ G.ca C ∧ PySem.W.subIn G.K (.ref (G.ca D)) (.ref (G.ca C)) = some true
  nf : ∀ C t, B.nf C t = true → clOk I t = true ∧ PySem.W.notFirst G.K (G.ca C) (tyVal G t) = true
def isIns : T → Bool
  | .ins _ _ => true
  | _ => false
/-- the right side goes ahead -/
def eqFirst (B : EqTab) (x y : T) : Bool := match x, y with
  | .ins C _, .ins D _ => B.first C D
  | _, _ => false
def eqFn (B : EqTab) : T → Option Fn
  | .ins C _ => B.eqs C
  | _ => none
def eqNf (B : EqTab) (x y : T) : Bool := match x, tyN y with
  | .ins C _, some t => B.nf C t
  | _, _ => false
def boolOf : Option (Out OT × Hd) → Option (Bool × Hd)
  | some (.ok (.v (.bl b)), hd) => some (b, hd)
  | _ => none
def eqApp (neg : Bool) (F : Option Fn) (x y : T) (S : Slots) (hd : Hd) : Res Bool := match F with
  | some F => match boolOf (F [x, y] hd) with
    | some (b, hd') => some (.ok (if neg then !b else b), S, hd')
    | none => none
  | none => none
def eqM (B : EqTab) (neg : Bool) (x y : T) : M Bool := fun S hd =>
  if isIns x = true then
    if eqFirst B x y = true then (if neg = true then none else eqApp neg (eqFn B y) y x S hd)
    else if eqNf B x y = true then eqApp neg (eqFn B x) x y S hd else none
  else M.lift (if neg = true then neT x y else eqT x y) S hd
def mEq (B : EqTab) (neg : Bool) (a b : M T) : M Bool := M.bind a fun x => M.bind b fun y => eqM B neg x y
theorem boolOf_some {r : Option (Out OT × Hd)} {b : Bool} {hd : Hd} (e : boolOf r = some (b, hd)) : r = some (.ok (.v (.bl b)), hd) := by
  unfold boolOf at e
  split at e
  · cases e; rfl
  · cases e
section
variable {En : Ent} {F : Hp} {S : Slots} {fps : Nat → List Addr} {hd : Hd}
theorem eqApp_sp {neg : Bool} {F0 : Option Fn} {x y : T} {vx vy : V} {Q : Bool → Hp → Prop} (sr : SR G En σ H F S fps hd) (rx : Rep G En.ha F x vx) (ry : Rep G En.ha F y vy) (p : Post G En W (RT En) σ F (eqApp neg F0 x y S hd) Q) :
    ∃ F1, F0 = some F1 ∧ SpT G 2 F1 [vx, vy] H (fun v H' => ∃ b, v = .bl b ∧ Q (if neg then !b else b) H') E00 := by
  unfold eqApp at p
  split at p
  · rename_i F1
    split at p
    · rename_i b hd' e
      refine ⟨F1, rfl, rfl, F, En.ha, [x, y], hd, sr.tbE, sr.sub, sr.hand, by simp only [Reps]; exact ⟨vx, [vy], rfl, rx, vy, [], rfl, ry, rfl⟩, ?_⟩
      rw [boolOf_some e]
      rintro v H' F' g ⟨fp, ro, _⟩
      simp only [RepO, Rep] at ro
      exact ⟨b, ro.2, p _ H' F' fps (sr.grow g) g.sF rfl⟩
    · exact p.elim
  · exact p.elim
def rEqA (G : Gd) (X : Cx) (k : Nat) : R2 := fun x y H Q => rEqD X.K x y H Q ∨ rEqI G X k x y H Q
def rNeA (G : Gd) (X : Cx) (k : Nat) : R2 := fun x y H Q => rNeD X.K x y H Q ∨ rNeI G X k x y H Q
theorem eq_sp {k : Nat} {I : Isi} {B : EqTab} {x y : T} {vx vy : V} {Q : Bool → Hp → Prop} (hK : X.K = G.K) (ok : IsiOk G I) (eo : EqOk G X k I B) (sr : SR G En σ H F S fps hd) (rx : Rep G En.ha F x vx) (ry : Rep G En.ha F y vy) (p : Post G En W (RT En) σ F (eqM B false x y S hd) Q) :
    rEqA G X k vx vy H fun v H' => ∃ b, v = .bl b ∧ Q b H' := by
  unfold eqM at p
  split at p
  · rename_i hx
    cases x <;> try cases hx
    rename_i C fs
    have rx0 := rx
    simp only [Rep] at rx
    obtain ⟨a, dx, us, rfl, ha, rf⟩ := rx
    split at p
    · rename_i hf
      cases y <;> simp only [eqFirst] at hf <;> try cases hf
      rename_i D gs
      rw [if_neg Bool.false_ne_true] at p
      obtain ⟨F1, eF, sp⟩ := eqApp_sp sr ry rx0 p
      obtain ⟨f, nc, hc⟩ := eo.eqs D F1 eF
      obtain ⟨ne, hsub⟩ := eo.first C D hf
      simp only [Rep] at ry
      obtain ⟨b, dy, ws, rfl, hb, rg⟩ := ry
      refine .inr (.inr ⟨a, b, G.ca C, G.ca D, dx, dy, us, ws, f, _, rfl, rfl, sr.sub _ _ ha, sr.sub _ _ hb, ne, by rw [hK]; exact hsub, by rw [hK]; exact nc.eq, hc, ?_⟩)
      obtain ⟨h1, F0, ha', ts, hd', h2, h3, h4, h5, h6⟩ := sp
      refine ⟨h1, F0, ha', ts, hd', h2, h3, h4, h5, ?_⟩
      unfold PostF at h6 ⊢
      split <;> rename_i e <;> rw [e] at h6
      · exact h6
      · exact fun v H' F' g fo => by
          obtain ⟨b, e, q⟩ := h6 v H' F' g fo
          exact ⟨b, e, b, rfl, q⟩
      · exact h6
    · split at p
      · rename_i hn
        unfold eqNf at hn
        split at hn
        · rename_i C' fs' t e1 e2
          cases e1
          obtain ⟨F1, eF, sp⟩ := eqApp_sp sr rx0 ry p
          obtain ⟨f, nc, hc⟩ := eo.eqs C F1 eF
          obtain ⟨hcl, hnf⟩ := eo.nf C t hn
          refine .inr (.inl ⟨a, G.ca C, dx, us, f, _, _, rfl, sr.sub _ _ ha, by rw [hK]; exact RepB.ty ok sr.sub (Rep.b sr.sub ry) e2 hcl, by rw [hK]; exact hnf, by rw [hK]; exact nc.eq, hc, ?_⟩)
          obtain ⟨h1, F0, ha', ts, hd', h2, h3, h4, h5, h6⟩ := sp
          refine ⟨h1, F0, ha', ts, hd', h2, h3, h4, h5, ?_⟩
          unfold PostF at h6 ⊢
          split <;> rename_i e <;> rw [e] at h6
          · exact h6
          · exact fun v H' F' g fo => by
              obtain ⟨b, e, q⟩ := h6 v H' F' g fo
              exact ⟨b, e, b, rfl, q⟩
          · exact h6
        · cases hn
      · exact p.elim
  · rw [if_neg Bool.false_ne_true] at p
    obtain ⟨b, e, p⟩ := p.lift
    refine .inl ?_
    rw [show X.K = G.K from hK]
    exact (sp_eq En.ha x y b H F vx vy _ e sr.sub (Rep.b sr.sub rx) (Rep.b sr.sub ry) ⟨b, rfl, p.ok sr (Same.refl _) rfl⟩)
theorem ne_sp {k : Nat} {I : Isi} {B : EqTab} {x y : T} {vx vy : V} {Q : Bool → Hp → Prop} (hK : X.K = G.K) (ok : IsiOk G I) (eo : EqOk G X k I B) (sr : SR G En σ H F S fps hd) (rx : Rep G En.ha F x vx) (ry : Rep G En.ha F y vy) (p : Post G En W (RT En) σ F (eqM B true x y S hd) Q) :
    rNeA G X k vx vy H fun v H' => ∃ b, v = .bl b ∧ Q b H' := by
  unfold eqM at p
  split at p
  · rename_i hx
    cases x <;> try cases hx
    rename_i C fs
    have rx0 := rx
    simp only [Rep] at rx
    obtain ⟨a, dx, us, rfl, ha, rf⟩ := rx
    split at p
    · rw [if_pos rfl] at p
      exact p.elim
    · split at p
      · rename_i hn
        unfold eqNf at hn
        split at hn
        · rename_i C' fs' t e1 e2
          cases e1
          obtain ⟨F1, eF, sp⟩ := eqApp_sp sr rx0 ry p
          obtain ⟨f, nc, hc⟩ := eo.eqs C F1 eF
          obtain ⟨hcl, hnf⟩ := eo.nf C t hn
          refine .inr ⟨a, G.ca C, dx, us, f, _, _, rfl, sr.sub _ _ ha, by rw [hK]; exact RepB.ty ok sr.sub (Rep.b sr.sub ry) e2 hcl, by rw [hK]; exact hnf, by rw [hK]; exact nc, hc, ?_⟩
          obtain ⟨h1, F0, ha', ts, hd', h2, h3, h4, h5, h6⟩ := sp
          refine ⟨h1, F0, ha', ts, hd', h2, h3, h4, h5, ?_⟩
          unfold PostF at h6 ⊢
          split <;> rename_i e <;> rw [e] at h6
          · exact h6
          · exact fun v H' F' g fo => by
              obtain ⟨b, e, q⟩ := h6 v H' F' g fo
              exact ⟨b, e, !b, rfl, q⟩
          · exact h6
        · cases hn
      · exact p.elim
  · rw [if_pos rfl] at p
    obtain ⟨b, e, p⟩ := p.lift
    refine .inl ?_
    rw [show X.K = G.K from hK]
    exact (sp_ne En.ha x y b H F vx vy _ e sr.sub (Rep.b sr.sub rx) (Rep.b sr.sub ry) ⟨b, rfl, p.ok sr (Same.refl _) rfl⟩)
end
theorem mono_neI {k : Nat} : Mono2 (rNeI G X k) := fun x y H Q Q' m h => by
  obtain ⟨a, C, dx, us, f, t, sp, h1, ha, ty, nf, ec, hc, hs⟩ := h
  exact ⟨a, C, dx, us, f, t, sp, h1, ha, ty, nf, ec, hc, hs.mono fun v H ⟨b, e, q⟩ => ⟨b, e, m _ _ q⟩⟩
theorem mono_eqA {k : Nat} : Mono2 (rEqA G X k) := fun x y H Q Q' m h => by
  rcases h with ⟨d, ds, h1, h2, h3, h4, q⟩ | h
  · exact .inl ⟨d, ds, h1, h2, h3, h4, m _ _ q⟩
  · exact .inr (mono_eqI x y H Q Q' m h)
theorem mono_neA {k : Nat} : Mono2 (rNeA G X k) := fun x y H Q Q' m h => by
  rcases h with ⟨d, ds, h1, h2, h3, h4, q⟩ | h
  · exact .inl ⟨d, ds, h1, h2, h3, h4, m _ _ q⟩
  · exact .inr (mono_neI x y H Q Q' m h)
section
variable {a b : Expr} {pos : Pos} {ma mb : M T} {k : Nat} {I : Isi} {B : EqTab}
theorem eq_step {neg : Bool} {Q : Bool → Hp → Prop} (hK : X.K = G.K) (ok : IsiOk G I) (eo : EqOk G X k I B) (q : tP G W RT (mEq B neg ma mb) σ H Q) :
    tP G W (RE G) ma σ H fun x H1 => tP G W (RE G) mb σ H1 fun y H2 => (if neg = true then rNeA G X k else rEqA G X k) x y H2 fun v H' => ∃ b, v = .bl b ∧ Q b H' := by
  obtain ⟨En, q⟩ := q
  obtain ⟨F0, q⟩ := q.bind (R1 := RE G En)
  refine ⟨En, q.mono fun v H1 ⟨t, F1, S1, fps1, hd1, sr, s, rt, p⟩ => ?_⟩
  refine ⟨En, F1, S1, fps1, hd1, sr, (Post.bind (R1 := RE G En) p).mono (Same.refl _) fun v2 H2 ⟨t2, F2, S2, fps2, hd2, sr2, s2, r2, p2⟩ => ?_⟩
  cases neg with
  | true => exact ne_sp hK ok eo sr2 (Rep.mono s2 t v rt) r2 p2
  | false => exact eq_sp hK ok eo sr2 (Rep.mono s2 t v rt) r2 p2
theorem jt_eqA (hK : X.K = G.K) (hr : Room (k + 5) X.A) (ok : IsiOk G I) (eo : EqOk G X k I B) (ha : JE G X W a ma) (hb : JE G X W b mb) : JT G X W (.Compare a [.Eq] [b] pos) (mEq B false ma mb) := by
  have hu : X.A.units + 64 < cLine := by have := hr.un; omega
  have ho : OpR X (compareOp .Eq) (rEqA G X k) := (op_eqD hu).or (op_eqI (hr.mono (by omega)))
  exact PT.imp (pt_cmpR ho ha hb (nomark b)) fun σ H Q q => eq_step hK ok eo q
theorem jt_neA (hK : X.K = G.K) (hr : Room (k + 5) X.A) (ok : IsiOk G I) (eo : EqOk G X k I B) (ha : JE G X W a ma) (hb : JE G X W b mb) : JT G X W (.Compare a [.NotEq] [b] pos) (mEq B true ma mb) := by
  have hu : X.A.units + 64 < cLine := by have := hr.un; omega
  have ho : OpR X (compareOp .NotEq) (rNeA G X k) := (op_neD hu).or (op_neI (hr.mono (by omega)))
  exact PT.imp (pt_cmpR ho ha hb (nomark b)) fun σ H Q q => eq_step hK ok eo q
theorem je_eqA (hK : X.K = G.K) (hr : Room (k + 5) X.A) (ok : IsiOk G I) (eo : EqOk G X k I B) (ha : JE G X W a ma) (hb : JE G X W b mb) : JE G X W (.Compare a [.Eq] [b] pos) (M.map T.bl (mEq B false ma mb)) := by
  have hu : X.A.units + 64 < cLine := by have := hr.un; omega
  have ho : OpR X (compareOp .Eq) (rEqA G X k) := (op_eqD hu).or (op_eqI (hr.mono (by omega)))
  exact PE.imp (pe_cmpR ho ha hb (nomark b)) fun σ H Q q => tP.mono (eq_step (neg := false) hK ok eo (RT_E q)) fun v H1 z => tP.mono z fun v2 H2 z => mono_eqA _ _ _ _ _ (fun w H3 ⟨b, e, q⟩ => by rw [e]; exact q) z
theorem je_neA (hK : X.K = G.K) (hr : Room (k + 5) X.A) (ok : IsiOk G I) (eo : EqOk G X k I B) (ha : JE G X W a ma) (hb : JE G X W b mb) : JE G X W (.Compare a [.NotEq] [b] pos) (M.map T.bl (mEq B true ma mb)) := by
  have hu : X.A.units + 64 < cLine := by have := hr.un; omega
  have ho : OpR X (compareOp .NotEq) (rNeA G X k) := (op_neD hu).or (op_neI (hr.mono (by omega)))
  exact PE.imp (pe_cmpR ho ha hb (nomark b)) fun σ H Q q => tP.mono (eq_step (neg := true) hK ok eo (RT_E q)) fun v H1 z => tP.mono z fun v2 H2 z => mono_neA _ _ _ _ _ (fun w H3 ⟨b, e, q⟩ => by rw [e]; exact q) z
end
end
end TL
namespace TL
open PySem PySem.Spec PyProof.Rows L2
/-! ### syntax -/
def noStar : Expr → Bool
  | .Starred _ _ => false
  | _ => true
section
variable {env : Env} {e : Expr} {es : List Expr} {pos : Pos}
theorem star_cons (h : noStar e = true) : ∀ es, starEach (e :: es) env = (false, eval e env) :: starEach es env := fun es => by
  cases e <;> first | rfl | cases h
theorem star_any : ∀ {es : List Expr}, es.all noStar = true → (backTo pos (starEach es env)).any (·.1) = false
  | [], _ => rfl
  | e :: es, h => by
    rw [List.all_cons, Bool.and_eq_true] at h
    rw [star_cons h.1 es]
    show (false || (backTo pos (starEach es env)).any (·.1)) = false
    rw [star_any h.2]
    rfl
theorem star_all : ∀ {es : List Expr}, es.all noStar = true → (backTo pos (starEach es env)).all (fun x => !x.1) = true
  | [], _ => rfl
  | e :: es, h => by
    rw [List.all_cons, Bool.and_eq_true] at h
    rw [star_cons h.1 es]
    show (true && (backTo pos (starEach es env)).all (fun x => !x.1)) = true
    rw [star_all h.2]
    rfl
theorem assign_cons (h : noStar e = true) : ∀ es, assignEach (e :: es) env = (false, assign e env) :: assignEach es env := fun es => by
  cases e <;> first | rfl | cases h
/-- no super() -/
def noSup : Expr → Bool
  | .Call (.Name id _) [] [] _ => id != "super"
  | _ => true
theorem base_of (h : noSup e = true) (f : Str) : attributeBase e f env (eval e env) = eval e env := by
  unfold attributeBase
  split
  · rename_i id p pos
    have h : (id != "super") = true := h
    rw [h]
    rfl
  · rfl
def isSl : Expr → Bool
  | .Slice _ _ _ _ => true
  | _ => false
theorem plain_ix (h : isSl e = false) : PlainIx e := fun o i => by
  cases e <;> first | rfl | cases h
def isComp : Expr → Bool
  | .ListComp _ _ _ _ => true
  | .SetComp _ _ _ _ => true
  | .DictComp _ _ _ _ _ => true
  | _ => false
theorem swaps_no {tg : Option Expr} {line : Nat} (h : isComp e = false) : swapsWith e tg line env = pure false := by
  cases e <;> first | rfl | cases h
def isSet : Expr → Bool
  | .Set _ _ _ => true
  | _ => false
theorem folded_no (h : isSet e = false) : ∀ x, foldedSetIterable e env x = pure x := fun x => by
  cases e <;> first | rfl | cases h
theorem marks_no {op : CmpOp} (h : isSet e = false) : behindInMarks op e = false := by
  cases e <;> first | rfl | cases h
/-- tested by its value -/
def tPlain : Expr → Bool
  | .UnaryOp .Not _ _ => false
  | .BoolOp _ _ _ => false
  | .IfExp _ _ _ _ => false
  | .Compare _ _ _ _ => false
  | _ => true
theorem true_plain (h : tPlain e = true) : ∀ whole, isTrue e env whole = (do let v ← whole; standAt e.pos; holding [v] (truthy v)) := fun whole => by
  cases e with
  | UnaryOp op x p => cases op <;> first | rfl | cases h
  | _ => first | rfl | cases h
theorem eval_meth {o : Expr} {nm : Str} {apos pos : Pos} (h : noSup o = true) (hs : es.all noStar = true) (hl : es.length < 30) (hline : (apos.endLine == pos.line) = true) : ∃ pl : Sem Bool, eval (.Call (.Attribute o nm apos) es [] pos) env = (do
      let ov ← eval o env
      standAt apos.atName
      let (f, first) ← holding [ov] (getMethod ov nm pl)
      callWith pos f first (backTo pos (starEach es env)) (backToKw pos (keywordEach [] env))) := by
  refine ⟨do return (← importBound o env).getD true, ?_⟩
  have hf : methodCallForm (es.length + ([] : List Keyword).length) (backTo pos (starEach es env)) (backToKw pos (keywordEach [] env)) = true := by
    unfold methodCallForm
    rw [star_all hs]
    show (true && true && decide (es.length + 0 + 0 < 30)) = true
    simp [hl]
  have e0 : eval (.Call (.Attribute o nm apos) es [] pos) env = (do
      let ov ← attributeBase o nm env (eval o env)
      standAt apos.atName
      methodCall o nm apos pos env ov (es.length + ([] : List Keyword).length) (backTo pos (starEach es env)) (backToKw pos (keywordEach [] env))) := by
    cases es <;> rfl
  rw [e0, base_of h nm]
  unfold methodCall
  rw [hf]
  unfold calleeOf methodCallPos
  simp only [Bool.not_true, Bool.false_or, hline, if_true, pure_bind]
end
end TL
namespace TL
open PySem PySem.Spec PyProof.Rows L2
section
variable {G : Gd} {X : Cx} {W : WX} {En : Ent} {σ : L2.St} {H F : Hp} {S : Slots} {fps : Nat → List Addr} {hd : Hd}
/-! ### the hand is read, is written -/
def ixH (hd : Hd) (a b : T) : Option OT := match a, b, hd with
  | .hand, .int k, some s => if k = 0 then some (.v (.lst (s.cells.map T.int))) else if k = 1 then some (.v (.int s.place)) else if k = 2 then some (.v (.int s.rest)) else if k = 3 then some (.v (.int s.total)) else none
  | a, b, _ => ixT a b
def M.withH {α : Type} (f : Hd → M α) : M α := fun S hd => f hd S hd
def mOpH (op : Hd → T → T → Option OT) (i : Nat) (b : M T) : M OT := M.bind (peek i) fun _ => M.bind b fun y => M.bind (peek i) fun x => M.withH fun hd => M.lift (op hd x y)
theorem hand_at {ha : HA} {v : V} (h : HandAt H F ha hd) (r : RepB G ha F H .hand v) : ∃ a c s, ha.hd = some (a, c) ∧ v = .ref a ∧ hd = some s ∧ F a = none ∧ F c = some (.lst (s.cells.map V.int)) ∧ a ≠ c ∧ H a = some (.lst [.ref c, .int s.place, .int s.rest, .int s.total]) ∧ H c = some (.lst (s.cells.map V.int)) := by
  have r : Rep G ha F .hand v := r
  simp only [Rep] at r
  obtain ⟨⟨a, c⟩, e, rfl⟩ := r
  have hc := h.c
  rw [e] at hc
  cases hd with
  | none => exact hc.elim
  | some s =>
    obtain ⟨h1, h2, h3, h4, h5⟩ := hc
    exact ⟨a, c, s, e, rfl, rfl, h1, h2, h3, h4, h5⟩
abbrev rIxH (K : PySem.W.Frag) : R2 := fun x y H Q => rIxL K x y H Q ∨ (fun x y H Q => rIxT K x y H Q ∨ rIxS x y H Q) x y H Q
theorem sp_ixH {ha : HA} {t1 t2 : T} {t : OT} {v1 v2 : V} {Q : VK} (e : ixH hd t1 t2 = some t) (s : Same F H) (h : HandAt H F ha hd) (r1 : RepB G ha F H t1 v1) (r2 : RepB G ha F H t2 v2) (c : Conts G ha H F hd Q t) : rIxH G.K v1 v2 H Q := by
  unfold ixH at e
  split at e
  · rename_i k st
    obtain ⟨a, cc, s', _, rfl, e', h1, h2, h3, h4, h5⟩ := hand_at (G := G) h r1
    cases e'
    have r2 := RepB.int r2
    subst r2
    split at e
    · rename_i hk
      cases e
      subst hk
      refine .inl ⟨a, _, _, .ref cc, rfl, rfl, .of h4, rfl, c.here s h ?_⟩
      simp only [Rep]
      exact ⟨cc, _, rfl, h2, reps_ints _⟩
    · split at e
      · rename_i hk
        cases e
        subst hk
        exact .inl ⟨a, _, _, .int st.place, rfl, rfl, .of h4, rfl, c.here s h (by simp only [Rep])⟩
      · split at e
        · rename_i hk
          cases e
          subst hk
          exact .inl ⟨a, _, _, .int st.rest, rfl, rfl, .of h4, rfl, c.here s h (by simp only [Rep])⟩
        · split at e
          · rename_i hk
            cases e
            subst hk
            exact .inl ⟨a, _, _, .int st.total, rfl, rfl, .of h4, rfl, c.here s h (by simp only [Rep])⟩
          · cases e
  · exact sp_ix ha t1 t2 t H F v1 v2 hd Q e s h r1 r2 c
theorem stepH {i : Nat} {mb : M T} {Q : VK} (q : tP G W (RO G) (mOpH ixH i mb) σ H Q) :
    tVar i σ H fun x H1 => tP G W (RB G) mb σ H1 fun y H2 => rIxH G.K x y H2 Q := by
  obtain ⟨En, F, S, fps, hd, sr, p⟩ := q
  obtain ⟨_, v, hv, _, p⟩ := peek_step sr p
  refine ⟨v, hv, En, F, S, fps, hd, sr, (Post.bind (R1 := RB G En) p).mono (Same.refl _) fun v2 H2 ⟨t2, F2, S2, fps2, hd2, sr2, s2, r2, p⟩ => ?_⟩
  obtain ⟨t, v', hv', rt, p⟩ := peek_step sr2 p
  rw [hv] at hv'
  cases hv'
  have p : Post G En W (RO G En) σ F2 ((M.lift (ixH hd2 t t2) : M OT) S2 hd2) Q := p
  obtain ⟨u, e2, p⟩ := p.lift
  exact sp_ixH e2 sr2.sub sr2.hand rt r2 (Conts.of sr2 p)
theorem jo_ixH {x : Str} {np pos : Pos} {b : Expr} {mb : M T} {i : Nat} (hK : X.K = G.K) (hs : PlainIx b) (ha : PE X (.Name x np) (tVar i)) (hb : JB G X W b mb) : JO G X W (.Subscript (.Name x np) b pos) (mOpH ixH i mb) := PE.imp (pe_ix ix_A ha hb hs) fun σ H Q q => by
  have q := stepH q
  rw [← hK] at q
  exact q
def setH (s : HS) (k : Int) (v : T) : Option HS := match v with
  | .int z => if k = 1 then some { s with place := z } else if k = 2 then some { s with rest := z } else if k = 3 then some { s with total := z } else none
  | _ => none
theorem SR.handset {s s' : HS} {a c : Addr} (R : SR G En σ H F S fps (some s)) (e : En.ha.hd = some (a, c)) (ec : s'.cells = s.cells) : SR G En σ (upd H a (.lst [.ref c, .int s'.place, .int s'.rest, .int s'.total])) F S fps (some s') := by
  have hc := R.hand.c
  rw [e] at hc
  obtain ⟨h1, h2, h3, h4, h5⟩ := hc
  have nKp : ∀ b, Kp En.ha b → b ≠ a := fun b k => k.1 _ e
  exact {
    len := R.len
    slot := fun j o' e' => by
      obtain ⟨v', g1, g3⟩ := R.slot j o' e'
      exact ⟨v', g1, RepO.mono (Same.refl _) o' v' _ (fun b m o q => by rw [upd_ne (nKp b (R.own j b m).2.2.1.kp)]; exact q) g3⟩
    nd := R.nd
    dj := R.dj
    own := fun j b m => by
      obtain ⟨g1, g2, g3, g4⟩ := R.own j b m
      exact ⟨g1, by rw [upd_ne (nKp b g3.kp)]; exact g2, g3, g4⟩
    sub := fun b o' q => by
      rw [upd_ne (fun z => by rw [z, h1] at q; cases q)]
      exact R.sub b o' q
    sub0 := R.sub0
    fnew := R.fnew
    kp := fun b o' q k1 k2 => by
      rw [upd_ne (nKp b k2)]
      exact R.kp b o' q k1 k2
    hand := by
      have hn : ∀ p ∈ En.ha.tabs, p.1 ≠ a := fun p hp z => by
        obtain ⟨ps, t1, _⟩ := R.hand.t p hp
        rw [z, h4] at t1
        cases t1
      refine ⟨?_, fun p hp => ?_, R.hand.f, R.hand.g⟩
      · rw [e]
        exact ⟨h1, by rw [ec]; exact h2, h3, upd_same, by rw [upd_ne (Ne.symm h3), ec]; exact h5⟩
      · obtain ⟨ps, t1, t2, t3⟩ := R.hand.t p hp
        refine ⟨ps, by rw [upd_ne (hn p hp)]; exact t1, t2, fun pos cv z => ?_⟩
        obtain ⟨c', e1, e2⟩ := t3 pos cv z
        exact ⟨c', e1, by rw [upd_ne (fun z => code_lst (by rw [← z, e2] at h4; exact h4.symm))]; exact e2⟩
    slf := R.slf
    tbE := R.tbE }
/-- xs[k] = e, the hand's too -/
def sSubH (i : Nat) (mk mv : M T) : Stm := sBind mv fun v S hd => match S[i]? with
  | some (some (.f _)) => sBind mk (fun k S2 hd2 => match S2[i]? with
    | some (some (.f xs)) => match setT xs k v with
      | some xs' => some (.next, S2.set i (some (.f xs')), hd2)
      | none => none
    | _ => none) S hd
  | some (some (.v .hand)) => sBind mk (fun k S2 hd2 => match S2[i]?, k, hd2 with
    | some (some (.v .hand)), .int k0, some s => match setH s k0 v with
      | some s' => some (.next, S2, some s')
      | none => none
    | _, _, _ => none) S hd
  | _ => none
theorem js_subH {i : Nat} {x : Str} {np sp pos : Pos} {ix e : Expr} {mk mv : M T} (ho : PE X (.Name x np) (tVar i)) (hk : JE G X W ix mk) (hv : JE G X W e mv)
    (ha : ∀ v, assign (.Subscript (.Name x np) ix sp) X.env v = (do
      let ov ← holding [v] (eval (.Name x np) X.env)
      let iv ← holding [v, ov] (eval ix X.env)
      standAt sp
      holding [v, ov, iv] (setItem ov iv v)
      release [v, ov, iv] []))
    (hs : swapsWithSole [.Subscript (.Name x np) ix sp] e pos.line X.env = pure false) (hw : swappedStores [.Subscript (.Name x np) ix sp] e X.env = pure none) (h1 : (assignEach [.Subscript (.Name x np) ix sp] X.env).map (·.2) = [assign (.Subscript (.Name x np) ix sp) X.env]) :
    JS G X W (.Assign [.Subscript (.Name x np) ix sp] e pos) (sSubH i mk mv) := PS.imp (ps_asg hv (pg_sub ho hk set_list ha) hs hw h1) fun D σ H q => by
  obtain ⟨En, q⟩ := q
  obtain ⟨F0, q⟩ := sBind_step (R := RE G En) q
  refine ⟨En, q.mono fun v H1 ⟨t, F1, S1, fps1, hd1, sr, s, r, p⟩ => ?_⟩
  split at p
  · rename_i xs0 e0
    obtain ⟨a, us0, hv, ha, _, _, _⟩ := sr.own_f e0
    refine ⟨.ref a, hv, En, F1, S1, fps1, hd1, sr, (PostS.bind (R := RE G En) p).mono (Same.refl _) fun w H2 ⟨k, F2, S2, fps2, hd2, sr2, s2, r2, p⟩ => ?_⟩
    split at p
    · rename_i xs e1
      obtain ⟨a', us, hv', ha', ef, rx, fa⟩ := sr2.own_f e1
      rw [hv] at hv'
      cases hv'
      split at p
      · rename_i xs' e2
        unfold setT at e2
        split at e2
        · rename_i i0
          split at e2
          · rename_i j ej
            cases e2
            simp only [RE, Rep] at r2
            refine ⟨a, us, i0, j, rfl, r2, ha', by rw [← Reps.length rx]; exact ej, ?_⟩
            have sr3 := sr2.mut (ot' := .f (xs.set j t)) (o := .lst (us.set j v)) e1 ef hv (fun c q => by rw [ha']; exact code_lst) (by simp only [RepO]; exact ⟨a, _, rfl, upd_same, rfl, Reps.set (Rep.mono s2 t v r) j rx⟩) (fun C fs z => by cases z)
            exact p σ _ F2 fps2 sr3 (Same.refl _)
          · cases e2
        · cases e2
      · exact p.elim
    · exact p.elim
  · rename_i e0
    obtain ⟨v0, hv, r0⟩ := sr.slot i _ e0
    refine ⟨v0, hv, En, F1, S1, fps1, hd1, sr, (PostS.bind (R := RE G En) p).mono (Same.refl _) fun w H2 ⟨k, F2, S2, fps2, hd2, sr2, s2, r2, p⟩ => ?_⟩
    split at p
    · rename_i _ k0 st e1
      split at p
      · rename_i s' e2
        obtain ⟨v1, hv1, r1⟩ := sr2.slot i _ e1
        rw [hv] at hv1
        cases hv1
        simp only [RepO] at r1
        obtain ⟨a, c, st', ea, rfl, es, g1, g2, g3, g4, g5⟩ := hand_at (G := G) (v := v0) sr2.hand r1.2
        cases es
        simp only [RE, Rep] at r2
        unfold setH at e2
        split at e2
        · rename_i z _
          simp only [RE, Rep] at r
          subst r
          have fin : ∀ (j : Nat) (s' : HS), ixN 4 k0 = some j → s'.cells = st.cells → ([V.ref c, .int st.place, .int st.rest, .int st.total] : List V).set j (.int z) = [V.ref c, .int s'.place, .int s'.rest, .int s'.total] → PostS G W En F2 (some (.next, S2, some s')) D → rSetL (.ref a) w (.int z) H2 fun H3 => D.nx σ H3 := fun j s' ej ec el p =>
            ⟨a, _, k0, j, rfl, r2, g4, ej, by rw [el]; exact p σ _ F2 fps2 (sr2.handset ea ec) (Same.refl _)⟩
          split at e2
          · rename_i hk; subst hk; cases e2; exact fin 1 { st with place := z } rfl rfl rfl p
          · split at e2
            · rename_i hk; subst hk; cases e2; exact fin 2 { st with rest := z } rfl rfl rfl p
            · split at e2
              · rename_i hk; subst hk; cases e2; exact fin 3 { st with total := z } rfl rfl rfl p
              · cases e2
        · cases e2
      · exact p.elim
    · exact p.elim
  · exact p.elim
end
end TL
namespace TL
open PySem PySem.Spec PyProof.Rows L2 LamX
/-! ### a lambda handed to a def: all but the maker's own table stands -/
def ExtP (P : Addr) (H H' : Hp) : Prop := ∀ b o, b ≠ P → H b = some o → H' b = some o
section
variable {X : Cx} {pins : List (Addr × Obj)} {σ : L2.St} {H : Hp} {s : Shared}
theorem lam_make3 {T : List (Addr × Str)} {c P : Addr} {params : Arguments} {body : Expr} {scope : Scope} {pos : Pos} {E : Value → Shared → Prop} {Q : Value → Shared → Prop} (I : Inv X pins σ H s) (TB : TabB X.base X.mg c P) (hcode : X.env.code = .ref c)
    (hm : (P, X.env.qual ++ "<lambda>") ∈ T) (hu : ∀ p ∈ T, p.1 = P → p.2 = X.env.qual ++ "<lambda>") (hT : Tabs T H) (hdef : defaultsOf params X.env = ([], [])) (hfree : ∀ y ∈ scope.names, y.2 = .free → ∃ c, X.env.cells.lookup y.1 = some c)
    (h : ∀ (f c' : Addr) (pm ctv : Value) (H1 : Hp) (s' : Shared), Inv X pins σ H1 s' → ExtP P H H1 → Tabs T H1 →
      s'.heap.get? f = some (PySem.W.kla_obj "<lambda>" (X.env.qual ++ "<lambda>") params body scope (cloFrom X.env.cells scope.names []) pm c' ctv) → H1 f = none → f ∉ frs X.stack → H1 c' = some (CodeO c' (X.env.qual ++ "<lambda>")) → Q (.ref f) s') :
    wpAny (model X.prog X.w) X.A (eval (.Lambda params body scope pos) X.env) Q E s := by
  obtain ⟨ps, hP, ht, ha⟩ := hT _ hm
  refine PySem.W.kla_eval hdef ?_
  have hP' : s.heap.get? P = some { cls := .none, data := .fields ps } := I.hok P _ hP
  have nofr : ∀ f, s.heap.objs.size ≤ f → f ∉ frs X.stack := fun f hf z => by
    rcases List.mem_cons.mp (I.stkSub _ z) with e | e
    · exact Nat.lt_irrefl _ (Nat.lt_of_lt_of_le (e ▸ I.lt) hf)
    · exact I.nofs hf e
  rcases hc : codeAmong pos ps.toList with _ | cv
  · refine PySem.W.kla_makeFunction (mg := X.mg) (c := c) (P := P) (ps := ps) (closure_ok hfree) I.ok.glob (I.mod.glob.keeps I.bk) hcode (TB.code.keeps I.bk) hP' ht hc TB.gP (TB.bm.keeps I.bk) fun c' ctv h' tk hx hge hlt hrec htb => ?_
    obtain ⟨_, oc, vs, t, e2, hoc, hd, hv⟩ := hrec
    cases e2
    have hsz : s.heap.objs.size ≤ h'.objs.size := Nat.le_trans hge (Nat.le_of_lt hlt)
    have nC : H c' = none := I.hok.fresh hge
    have hE : ExtP P H (upd (upd H P (.tbl (ps ++ #[rawInt pos.line, rawInt pos.col, .ref c']))) c' (CodeO c' (X.env.qual ++ "<lambda>"))) := fun b o n e => by
      rw [upd_ne (ne_of_none e nC), upd_ne n]
      exact e
    have cP : ∀ {b : Addr} {q : Str}, H b = some (CodeO b q) → b ≠ P := fun {b q} e z => codeO_ne ps (Option.some.inj ((z ▸ e).symm.trans hP))
    refine h h'.objs.size c' ((X.mg "__name__").getD .none) ctv _ _ (inv_table (t' := tk) (more := #[rawInt pos.line, rawInt pos.col, .ref c']) I hP (fun b o hb e => Heap.get?_push_of_some _ (hx b o hb e)) (Heap.get?_push_of_some _ htb) hge ⟨oc, vs, t, Heap.get?_push_of_some _ hoc, hd, hv⟩) hE (fun p hp => ?_) (Heap.get?_push_size _ rfl) ?_ (nofr _ hsz) upd_same
    · by_cases hb : p.1 = P
      · rw [hu p hp hb, hb]
        refine ⟨_, by rw [upd_ne (ne_of_none hP nC), upd_same], ?_, fun p' cv hcv => ?_⟩
        · rw [Array.toList_append]
          exact PySem.TriplesOk_snoc _ _ _ _ ht
        · rw [Array.toList_append] at hcv
          rcases among_app _ ht hcv with z | z
          · obtain ⟨c0, e1, e2⟩ := ha p' cv z
            exact ⟨c0, e1, hE _ _ (cP e2) e2⟩
          · exact ⟨c', z, upd_same⟩
      · obtain ⟨ps', a1, a2, a3⟩ := hT p hp
        refine ⟨ps', hE _ _ hb a1, a2, fun p' cv hcv => ?_⟩
        obtain ⟨c0, e1, e2⟩ := a3 p' cv hcv
        exact ⟨c0, e1, hE _ _ (cP e2) e2⟩
    · rw [upd_ne (Nat.ne_of_gt hlt), upd_ne (Nat.ne_of_gt (Nat.lt_of_lt_of_le (Heap.lt_size hP') hsz))]
      exact I.hok.fresh hsz
  · obtain ⟨c', rfl, hco⟩ := ha pos cv hc
    refine PySem.W.kla_makeFunctionHit (mg := X.mg) (c := c) (P := P) (ps := ps) (closure_ok hfree) I.ok.glob (I.mod.glob.keeps I.bk) hcode (TB.code.keeps I.bk) hP' ht hc (TB.bm.keeps I.bk) fun ctv h' tk hx hsz => ?_
    exact h h'.objs.size c' ((X.mg "__name__").getD .none) ctv H _ (I.kept (t' := tk) fun b o e => Heap.get?_push_of_some _ (hx b o e)) (fun _ _ _ e => e) hT (Heap.get?_push_size _ rfl) (I.hok.fresh hsz) (nofr _ hsz) hco
/-- x(lambda: body) -/
def tLam3 (T : List (Addr × Str)) (P : Addr) (TT : (XK → Hp → VK → Prop) → Hp → VK → Prop) (t : XK → TE) : TE := fun σ H Q => Tabs T H ∧ ∀ H1, ExtP P H H1 → Tabs T H1 → TT (fun E H' Q' => t E σ H' Q') H1 Q
theorem pe_lamcall3 {T : List (Addr × Str)} {TT : (XK → Hp → VK → Prop) → Hp → VK → Prop} {x a : Str} {g c P : Addr} {k : Nat} {pg : Arguments} {bg : List Stmt} {sg : Scope} {dV kV doc pm cdv ct oc : Value} {an od : Option Addr} {osl : Array (Option Value)} {Ng : List Str}
    {params : Arguments} {body : Expr} {scope : Scope} {t : XK → TE} {p lpos pos : Pos} (hg : Gl X x) (hm : X.mg x = some (.ref g)) (hk : PySem.W.keepIn X.K (.ref g) = true)
    (lk : X.K.lookup g = some ⟨oc, od, .func (PySem.W.fnOf x x pg bg sg dV kV doc pm an cdv ct), osl⟩) (hcg : PySem.W.codeIn X.K cdv x = true) (hb : L2.Binds X.K (PySem.W.fnOf x x pg bg sg dV kV doc pm an cdv ct) [a] []) (Sg : FnScope Ng [a] sg) (hNg : Ng[0]? = some a) (hva : Vis sg a)
    (hG : GivesTo X Ng x sg g cdv bg a (X.env.qual ++ "<lambda>") TT)
    (TB : TabB X.base X.mg c P) (hcode : X.env.code = .ref c) (hmT : (P, X.env.qual ++ "<lambda>") ∈ T) (hu : ∀ p ∈ T, p.1 = P → p.2 = X.env.qual ++ "<lambda>") (hr : Room (k + 2) X.A) (L : LamS X.env.scope scope) (hdef : defaultsOf params X.env = ([], []))
    (hbind : ∀ (q : Str) (cl : List (Str × Addr)) (pm cv ctv : Value), bindArgs (PySem.W.kla_fn "<lambda>" q params body scope cl pm cv ctv) ⟨[], []⟩ = pure [])
    (hbody : ∀ (A : Around) (outer : List Env) (s : Shared) (H : Hp) (E : XK) (f c' : Addr), Room k (A.deeper (lamEnv X scope s.heap.objs.size f c')) → PE (lamCx X A outer s H E scope f c') body (t E))
    (hdb : (x == ("__debug__" : Str)) = false) (hd : (a == ("__debug__" : Str)) = false) (hcd : (a == ("__classdict__" : Str)) = false) :
    PE X (.Call (.Name x p) [.Lambda params body scope lpos] [] pos) (tLam3 T P TT t) := by
  refine ⟨fun pins s σ H Q I h => ?_⟩
  obtain ⟨hT, h⟩ := h
  refine wpAny_Call_Name_kw (ld_glob I hg hm ?_ hdb)
  refine PySem.W.callWith_K (h₀ := X.base) I.ok.mod.kin hk ?_ (by rfl) (by rfl)
  show wpAny _ _ (spliced ((false, eval (.Lambda params body scope lpos) X.env) :: backTo pos (starEach [] X.env))) _ _ s
  refine Calls.spliced_cons (lam_make3 I TB hcode hmT hu hT hdef (L.has I.ok) fun f c' pm' ctv H1 s' I1 eN T1 hf hfn hfr hco => ?_)
  refine Calls.spliced_nil ⟨I1.kIn, ?_⟩
  refine wpAny_call (codeAny_mono (run_ofS (CX := C8.CX0) (N := Ng) (ps := [a]) (us := [.ref f]) (vs := [.ref f]) (Q := Q) (E := C8.E0) lk hcg Sg hr I1.env0 (hb s' [.ref f] I1.kIn rfl) (.cons rfl .nil) rfl fun hr' => ?_) fun r s2 hq => ?_)
  · obtain ⟨t', ht', hq'⟩ := hG f c' s' H1 Q (fun E H' Q' => t E σ H' Q') (fun W pn xe E p1 p2 tk hW => pe_act (i := 0) I1 L hf hfn hfr (hbind _ _ _ _ _) tk hW hr' (fun A outer s H hr2 => hbody A outer s H E f c' hr2) hNg hva hd hcd) hco (h H1 eN T1)
    exact ⟨t', ht'.nox, hq'⟩
  · cases r with
    | error e => exact (show False from hq).elim
    | ok fl =>
      cases fl with
      | ret u => exact I1.after hq
      | next => exact False.elim hq
      | brk => exact False.elim hq
      | cont => exact False.elim hq
/-! ### try: a() / except C as n: return n.f / return None -/
theorem takes_len {W : WX} (tk : Takes X W) : Takes X (fun cls d σ H => σ.length = X.N.length → W cls d σ H) := fun u s' ⟨a, B, sI, pins, σ, H, cls, d, e, I, nb, up, sky, na, os, ag, w⟩ =>
  tk u s' ⟨a, B, sI, pins, σ, H, cls, d, e, I, nb, up, sky, na, os, ag, w I.len⟩
def TTref (K : PySem.W.Frag) (CS : Addr) (f : Str) : (XK → Hp → VK → Prop) → Hp → VK → Prop := fun tl H Q =>
  tl (fun cls d H' => PySem.W.exmOne K cls (.ref CS) = some true ∧ cls = .ref CS ∧ ∃ (dd : Addr) (fs : List (Str × V)) (v : V), d = some dd ∧ H' dd = some (.xd fs) ∧ fs.lookup f = some v ∧ Q v H') H fun _ H' => Q .non H'
theorem ref_gives {Ng : List Str} {x a C n f q : Str} {sg : Scope} {g CS : Addr} {cdg : Value} {i j : Nat} {p1 p2 p3 p4 p5 p6 p7 p8 p9 p10 p11 : Pos} (hge : sg.names.lookup C = some .globalImplicit) (hme : X.mg C = some (.ref CS)) (hde : (C == ("__debug__" : Str)) = false)
    (h0 : ∀ u : Addr, (L2.start Ng [V.ref u])[0]? = some (some (V.ref u))) (hNd : Ng.Nodup) (hi : Ng[i]? = some n) (hln : sg.names.lookup n = some .local) (hnd : (n == ("__debug__" : Str)) = false) (hnc : (n == ("__classdict__" : Str)) = false) (T : XfC X.K CS) (hno : PySem.W.findIn X.K (.ref CS) f = some none) :
    GivesTo X Ng x sg g cdg [.Try [.Expr (.Call (.Name a p1) [] [] p2) p3] [.ExceptHandler (some (.Name C p4)) (some n) [.Return (some (.Attribute (.Name n p5) f p6)) p7] p8] [] [] p9, .Return (some (.Constant .none j p10)) p11] a q (TTref X.K CS f) := by
  intro u c' s H Q tl act hc h
  have hgl : Gl (cxOf C8.CX0 X.prog X.w X.K X.mg X.base Ng x sg g cdg X.A X.stack s H C8.E0).nox C := hge
  have hil : i < Ng.length := (List.getElem?_eq_some_iff.mp hi).1
  refine ⟨_, pss_cons (ps_try_as (X := (cxOf C8.CX0 X.prog X.w X.K X.mg X.base Ng x sg g cdg X.A X.stack s H C8.E0).nox) (c := .ref CS) (i := i)
      (tb := fun W D σ H => ∃ Ech : XK, (∀ cls d σ' H', σ'.length = Ng.length → Ech cls d H' → W cls d σ' H') ∧ σ[0]? = some (some (.ref u)) ∧ H c' = some (CodeO c' q) ∧ tl Ech H fun _ H' => D.nx σ H')
      rfl rfl hNd hi hln ⟨hgl, hde, .inl hme⟩ LamX.takes0 (fun W pn xe tk _ => ?_) (fun a oe cls d pn hz hf => pss_one (ps_ret (pe_xf T hno hz hf (pe_var hi (.inl hln) hnd hnc))))) (pss_one (ps_ret pe_non)), ?_⟩
  · refine ⟨fun pins s' σ H' D I h' => ?_⟩
    obtain ⟨Ech, hW, h1, h2, h3⟩ := h'
    have hp := act _ pn xe Ech p1 p2 (takes_len tk) fun cls d σ' H' e l => hW cls d σ' H' l e
    have hq := pss_one (ps_expr (pos := p3) hp rfl)
    exact hq.run pins s' σ H' D I ⟨h1, h2, h3⟩
  · refine ⟨_, fun cls d σ' H' l ⟨e1, ec, dd, fs, v, e2, e3, e4, hQ⟩ => ⟨true, e1, fun _ b hb => ?_, fun z => by cases z⟩, h0 u, hc, h⟩
    exact ⟨.ref b, List.getElem?_set_self (by rw [l]; exact hil), rfl, ec, dd, fs, v, e2, e3, e4, hQ⟩
/-! ### in trees -/
theorem SR.tab {G : Gd} {En : Ent} {σ : L2.St} {H H1 F : Hp} {S : Slots} {fps : Nat → List Addr} {hd : Hd} {P : Addr} {q : Str} (R : SR G En σ H F S fps hd) (hP : (P, q) ∈ En.ha.tabs) (e : ExtP P H H1) (t : Tabs En.ha.tabs H1) : SR G En σ H1 F S fps hd := by
  have fP : F P = none := R.hand.f _ hP
  have nP : ∀ b, Kp En.ha b → b ≠ P := fun b k => k.2 _ hP
  obtain ⟨ps, tP, _⟩ := R.hand.t _ hP
  exact {
    len := R.len
    slot := fun j o' e' => by
      obtain ⟨v', g1, g3⟩ := R.slot j o' e'
      exact ⟨v', g1, RepO.mono (Same.refl _) o' v' _ (fun b m o z => e b o (nP b (R.own j b m).2.2.1.kp) z) g3⟩
    nd := R.nd
    dj := R.dj
    own := fun j b m => by
      obtain ⟨g1, g2, g3, g4⟩ := R.own j b m
      refine ⟨g1, ?_, g3, g4⟩
      cases z : H b with
      | none => exact absurd z g2
      | some o => rw [e b o (nP b g3.kp) z]; simp
    sub := fun b o z => e b o (fun y => by rw [y, fP] at z; cases z) (R.sub b o z)
    sub0 := R.sub0
    fnew := R.fnew
    kp := fun b o z k1 k2 => e b o (nP b k2) (R.kp b o z k1 k2)
    hand := by
      refine ⟨?_, t, R.hand.f, R.hand.g⟩
      have hc := R.hand.c
      cases eh : En.ha.hd with
      | none => rw [eh] at hc; cases hd <;> exact hc
      | some p =>
        obtain ⟨a, c⟩ := p
        rw [eh] at hc
        cases hd with
        | none => exact hc.elim
        | some s =>
          obtain ⟨h1, h2, h3, h4, h5⟩ := hc
          exact ⟨h1, h2, h3, e _ _ (fun z => by rw [z] at h4; rw [show H P = _ from tP] at h4; cases h4) h4, e _ _ (fun z => by rw [z] at h5; rw [show H P = _ from tP] at h5; cases h5) h5⟩
    slf := R.slf
    tbE := R.tbE }
/-- refused: the field of the exception; None -/
def mLam (C f : Str) (m : M OT) : M OT := fun S hd => match m S hd with
  | none => none
  | some (.ok _, S', hd') => some (.ok (.v .non), S', hd')
  | some (.ex D fs, S', hd') => if D = C then match fs.lookup f with
      | some t => some (.ok (.v t), S', hd')
      | none => none
    else none
theorem RepF.look {G : Gd} {ha : HA} {F : Hp} {f : Str} {t : T} : ∀ {fs : List (Str × T)} {us : List (Str × V)}, RepF G ha F fs us → fs.lookup f = some t → ∃ v, us.lookup f = some v ∧ Rep G ha F t v
  | [], us, r, e => by cases e
  | (n, x) :: fs, us, r, e => by
    simp only [RepF] at r
    obtain ⟨u, rr, rfl, h1, h2⟩ := r
    rw [List.lookup_cons] at e ⊢
    cases hb : f == n with
    | true =>
      rw [hb] at e
      cases e
      exact ⟨u, rfl, h1⟩
    | false =>
      rw [hb] at e
      exact RepF.look h2 e
theorem lam_step {G : Gd} {W : WX} {K : PySem.W.Frag} {P : Addr} {q C f : Str} {m : M OT} {σ : L2.St} {H : Hp} {Q : VK} (hP : (P, q) ∈ G.tabs) (hex : PySem.W.exmOne K (.ref (G.ca C)) (.ref (G.ca C)) = some true) (h : tP G W (RO G) (mLam C f m) σ H Q) :
    tLam3 G.tabs P (TTref K (G.ca C) f) (fun E => tP G (fun cls d _ H => E cls d H) (RO G) m) σ H Q := by
  obtain ⟨En, F, S, fps, hd, sr, p⟩ := h
  have tb := sr.tbE
  refine ⟨by rw [← tb]; exact sr.hand.t, fun H1 e1 t1 => ⟨En, F, S, fps, hd, sr.tab (q := q) (by rw [tb]; exact hP) e1 (by rw [tb]; exact t1), ?_⟩⟩
  unfold mLam at p
  rcases e : m S hd with _ | ⟨o, S', hd'⟩ <;> rw [e] at p
  · exact p
  · cases o with
    | ok ot => exact fun v H' F' fps' sr' s r => p .non H' F' fps' sr' s (RO.ofE (by simp only [Rep]))
    | ex D fs =>
      dsimp only at p
      split at p
      · rename_i hD
        subst hD
        split at p
        · rename_i t et
          intro d H' F' fps' sr' s ⟨a, us, ed, ha, fa, rf⟩
          obtain ⟨v, ev, rv⟩ := rf.look et
          exact ⟨hex, rfl, a, us, v, ed, ha, ev, p v H' F' fps' sr' s (RO.ofE rv)⟩
        · exact p.elim
      · exact p.elim
end
end TL
namespace TL
open PySem PySem.Spec PyProof.Rows L2
section
variable {G : Gd} {X : Cx} {W : WX} {σ : L2.St} {H : Hp}
/-! ### [elt for .. in .. if .. for .. in .. if ..] -/
def lcO (vs vs1 : List Nat) (g : Tgt) (c : M Bool) (mi1 : M (List T)) (g1 : Tgt) (c1 : M Bool) (e : M T) : List T → List T → Slots → Hd → Option (List T × Slots × Hd)
  | [], acc, S, hd => some (acc, S, hd)
  | x :: xs, acc, S, hd => match g x S with
    | none => none
    | some S1 => match c S1 hd with
      | some (.ok true, S2, hd2) => match mi1 S2 hd2 with
        | some (.ok items1, S3, hd3) => match lcL vs1 g1 c1 e items1 acc (wipeS S3 vs1) hd3 with
          | some (acc', S4, hd4) => lcO vs vs1 g c mi1 g1 c1 e xs acc' (wipeS S4 vs) hd4
          | none => none
        | _ => none
      | some (.ok false, S2, hd2) => lcO vs vs1 g c mi1 g1 c1 e xs acc (wipeS S2 vs) hd2
      | _ => none
def mLc2 (vs vs1 : List Nat) (mi : M (List T)) (g : Tgt) (c : M Bool) (mi1 : M (List T)) (g1 : Tgt) (c1 : M Bool) (e : M T) : M OT := M.bind mi fun items S hd => lcR (lcO vs vs1 g c mi1 g1 c1 e items [] (wipeS S vs) hd)
theorem wipe_sub {a : L2.St} {vs vs1 : List Nat} (h : ∀ i ∈ vs1, i ∈ vs) : wipe (wipe a vs1) vs = wipe a vs := by
  refine List.ext_getElem? fun i => ?_
  by_cases m : i ∈ vs
  · by_cases hi : i < a.length
    · rw [wipe_in (by rw [wipe_length]; exact hi) m, wipe_in hi m]
    · rw [List.getElem?_eq_none (by rw [wipe_length, wipe_length]; omega), List.getElem?_eq_none (by rw [wipe_length]; omega)]
  · rw [wipe_out m, wipe_out m, wipe_out fun z => m (h i z)]
/-- what stands between the inner turns -/
structure InAt (G : Gd) (En : Ent) (σ : L2.St) (vs : List Nat) (F1 : Hp) (D : Addr) (k : List T → Slots → Hd → Hp → Prop) (H F : Hp) (S : Slots) (fps : Nat → List Addr) (hd : Hd) (acc : List T) (us : List V) : Prop where
  sr : SR G En σ H F S fps hd
  hw : wipeS S vs = S
  d : Side En H F fps D us
  ra : Reps G En.ha F acc us
  s : Same F1 F
  p : k acc S hd F
theorem lc_step2 {vs vs1 is is1 : List Nat} {mi mi1 : M (List T)} {g g1 : Tgt} {c c1 : M Bool} {e : M T} {Q : VK} (his : ∀ i ∈ is, i ∈ vs) (his1 : ∀ i ∈ is1, i ∈ vs1) (hv : ∀ i ∈ vs1, i ∈ vs) (q : tP G W (RO G) (mLc2 vs vs1 mi g c mi1 g1 c1 e) σ H Q) :
    tLc2 (tI G W mi) (tG G g is) (tP G W0 RT c) (tI G W0 mi1) (tG G g1 is1) (tP G W0 RT c1) (tP G W0 (RE G) e) vs vs1 σ H Q := by
  obtain ⟨En, q⟩ := q
  obtain ⟨F0, q⟩ := q.bind (R1 := RI G En)
  refine ⟨En, q.mono fun J H1 ⟨items, F1, S1, fps1, hd1, sr, s, ok, p⟩ => fun D hD => ?_⟩
  obtain ⟨sr0, d0⟩ := (sr.wipe (vs := vs) (σ' := σ) rfl).newSide (us := []) hD
  refine ⟨fun i m H => m = items.length - i ∧ i ≤ items.length ∧ ∃ F S fps hd acc us, LcAt G En W σ vs F1 D (fun acc S hd => lcR (lcO vs vs1 g c mi1 g1 c1 e (items.drop i) acc S hd)) Q H F S fps hd acc us,
    ⟨items.length, rfl, Nat.zero_le _, F1, wipeS S1 vs, fps1, hd1, [], [], sr0, wipeS_wipeS S1 vs, d0, by simp only [Reps], Same.refl _, by rw [List.drop_zero]; exact p⟩, ?_⟩
  rintro i m H ⟨rfl, hi, F, S, fps, hd, acc, us, sr, hw, d, ra, s, p⟩
  obtain ⟨st, go⟩ := ok H F hd s sr.sub sr.hand i
  by_cases hlt : i < items.length
  · refine .inr ⟨(go items[i] (List.getElem?_eq_getElem hlt)).1, fun H' => ∃ F S fps hd acc us, LcAt G En W σ vs F1 D (fun acc S hd => lcR (lcO vs vs1 g c mi1 g1 c1 e (items.drop (i + 1)) acc S hd)) Q H' F S fps hd acc us,
      fun H' n => ⟨items.length - (i + 1), by omega, rfl, hlt, n⟩, fun x H' y => ?_⟩
    obtain ⟨F', gr, rx⟩ := (go items[i] (List.getElem?_eq_getElem hlt)).2 x H' y
    have sr1 := sr.grow gr
    have d1 := d.grow sr gr
    have ra1 := Reps.mono gr.sF _ _ ra
    have s1 := s.trans gr.sF
    have p1 := Post.mono gr.sF p fun _ _ q => q
    rw [List.drop_eq_getElem_cons hlt] at p1
    unfold lcO at p1
    cases eg : g items[i] S with
    | none => rw [eg] at p1; exact p1.elim
    | some S2 =>
      rw [eg] at p1
      dsimp only at p1
      have srW : SR G En (wipe σ vs) H' F' S fps hd := by
        have := sr1.wipe (vs := vs) (σ' := wipe σ vs) (wipe_wipe σ vs).symm
        rw [hw] at this
        exact this
      refine ⟨En.at H' F' fps S.length, items[i], F', S, _, hd, S2, srW.rebase, rx, eg, fun σ2 fps2 sr2 sto => ⟨sto.wipe his, ?_⟩⟩
      have ew : wipe σ2 vs = wipe σ vs := sto.wipe his
      refine ⟨En.at H' F' fps S.length, F', S2, fps2, hd, sr2, ?_⟩
      rcases ec : c S2 hd with _ | ⟨oc, S3, hd3⟩ <;> rw [ec] at p1
      · exact p1.elim
      · cases oc with
        | ex C fs => exact p1.elim
        | ok b =>
          intro b' H3 F3 fps3 sr3 s3 eb
          obtain rfl : b' = b := eb
          cases b' with
          | false =>
            rw [if_neg Bool.false_ne_true]
            exact ⟨F3, wipeS S3 vs, fps3, hd3, acc, us, (srW.unbase sr3).wipe ew, wipeS_wipeS S3 vs, d1.rebase srW sr3, Reps.mono s3 _ _ ra1, s1.trans s3, Post.mono s3 p1 fun _ _ q => q⟩
          | true =>
            rw [if_pos rfl]
            refine ⟨En.at H' F' fps S.length, F3, S3, fps3, hd3, sr3, ?_⟩
            dsimp only at p1
            rcases em : mi1 S3 hd3 with _ | ⟨om, S4, hd4⟩ <;> rw [em] at p1
            · exact p1.elim
            · cases om with
              | ex C fs => exact p1.elim
              | ok items1 =>
                intro J1 H4 F4 fps4 sr4 s4 ok1
                dsimp only at p1
                have sU := srW.unbase sr4
                have d4 := d1.rebase srW sr4
                have ra4 := Reps.mono (s3.trans s4) _ _ ra1
                have p4 := Post.mono (s3.trans s4) p1 fun _ _ q => q
                have srI : SR G En (wipe σ2 vs1) H4 F4 (wipeS S4 vs1) fps4 hd4 := sU.wipe (vs := vs1) (σ' := wipe σ2 vs1) (wipe_wipe σ2 vs1).symm
                let K : List T → List T → Slots → Hd → Hp → Prop := fun l acc S hd F => Post G En W (RO G En) σ F (match lcL vs1 g1 c1 e l acc S hd with
                  | some (acc', S', hd') => lcR (lcO vs vs1 g c mi1 g1 c1 e (items.drop (i + 1)) acc' (wipeS S' vs) hd')
                  | none => none) Q
                have p4' : K items1 acc (wipeS S4 vs1) hd4 F4 := by
                  show Post _ _ _ _ _ _ _ _
                  cases el : lcL vs1 g1 c1 e items1 acc (wipeS S4 vs1) hd4 with
                  | none => rw [el] at p4; exact p4
                  | some z => rw [el] at p4; exact p4
                refine ⟨fun j k H => k = items1.length - j ∧ j ≤ items1.length ∧ ∃ F S fps hd acc us, InAt G En (wipe σ2 vs1) vs1 F4 D (K (items1.drop j)) H F S fps hd acc us, ⟨items1.length, rfl, Nat.zero_le _, F4, wipeS S4 vs1, fps4, hd4, acc, us, srI, wipeS_wipeS S4 vs1, d4, ra4, Same.refl _, by rw [List.drop_zero]; exact p4'⟩, ?_⟩
                rintro j k H5 ⟨rfl, hj, F5, S5, fps5, hd5, acc5, us5, sr5, hw5, d5, ra5, s5, p5⟩
                obtain ⟨st1, go1⟩ := ok1 H5 F5 hd5 s5 sr5.sub sr5.hand j
                by_cases hjt : j < items1.length
                · refine .inr ⟨(go1 items1[j] (List.getElem?_eq_getElem hjt)).1, fun H' => ∃ F S fps hd acc us, InAt G En (wipe σ2 vs1) vs1 F4 D (K (items1.drop (j + 1))) H' F S fps hd acc us, fun H' n => ⟨items1.length - (j + 1), by omega, rfl, hjt, n⟩, fun x1 H6 y1 => ?_⟩
                  obtain ⟨F6, gr6, rx6⟩ := (go1 items1[j] (List.getElem?_eq_getElem hjt)).2 x1 H6 y1
                  have sr6 := sr5.grow gr6
                  have d6 := d5.grow sr5 gr6
                  have ra6 := Reps.mono gr6.sF _ _ ra5
                  have p6 : K (items1.drop j) acc5 S5 hd5 F6 := Post.mono gr6.sF p5 fun _ _ q => q
                  have p6 : Post G En W (RO G En) σ F6 (match lcL vs1 g1 c1 e (items1.drop j) acc5 S5 hd5 with
                    | some (acc', S', hd') => lcR (lcO vs vs1 g c mi1 g1 c1 e (items.drop (i + 1)) acc' (wipeS S' vs) hd')
                    | none => none) Q := p6
                  rw [List.drop_eq_getElem_cons hjt] at p6
                  unfold lcL at p6
                  cases eg1 : g1 items1[j] S5 with
                  | none => rw [eg1] at p6; exact p6.elim
                  | some S7 =>
                    rw [eg1] at p6
                    dsimp only at p6
                    refine ⟨En.at H6 F6 fps5 S5.length, items1[j], F6, S5, _, hd5, S7, sr6.rebase, rx6, eg1, fun σ3 fps7 sr7 sto1 => ⟨sto1.wipe his1, ?_⟩⟩
                    have ew1 : wipe σ3 vs1 = wipe (wipe σ2 vs1) vs1 := (sto1.wipe his1).trans (wipe_wipe σ2 vs1).symm
                    refine ⟨En.at H6 F6 fps5 S5.length, F6, S7, fps7, hd5, sr7, ?_⟩
                    rcases ec1 : c1 S7 hd5 with _ | ⟨oc1, S8, hd8⟩ <;> rw [ec1] at p6
                    · exact p6.elim
                    · cases oc1 with
                      | ex C fs => exact p6.elim
                      | ok b1 =>
                        intro b1' H8 F8 fps8 sr8 s8 eb1
                        obtain rfl : b1' = b1 := eb1
                        cases b1' with
                        | false =>
                          rw [if_neg Bool.false_ne_true]
                          exact ⟨F8, wipeS S8 vs1, fps8, hd8, acc5, us5, (sr6.unbase sr8).wipe ew1, wipeS_wipeS S8 vs1, d6.rebase sr6 sr8, Reps.mono s8 _ _ ra6, s5.trans (gr6.sF.trans s8), Post.mono s8 p6 fun _ _ q => q⟩
                        | true =>
                          rw [if_pos rfl]
                          refine ⟨En.at H6 F6 fps5 S5.length, F8, S8, fps8, hd8, sr8, ?_⟩
                          dsimp only at p6
                          rcases ee : e S8 hd8 with _ | ⟨oe, S9, hd9⟩ <;> rw [ee] at p6
                          · exact p6.elim
                          · cases oe with
                            | ex C fs => exact p6.elim
                            | ok t =>
                              intro y H9 F9 fps9 sr9 s9 ry
                              dsimp only at p6
                              by_cases hl : acc5.length < 10000
                              · rw [if_pos hl] at p6
                                have d9 := d6.rebase sr6 sr9
                                obtain ⟨sr10, d10⟩ := ((sr6.unbase sr9).wipe ew1).side (ws := us5 ++ [y]) d9
                                have ra9 := Reps.mono (s8.trans s9) _ _ ra6
                                exact ⟨us5, d9.at_, by rw [← Reps.length ra6, sizeLine_eq]; omega, F9, wipeS S9 vs1, fps9, hd9, acc5 ++ [t], us5 ++ [y], sr10, wipeS_wipeS S9 vs1, d10, ra9.snoc ry, s5.trans (gr6.sF.trans (s8.trans s9)), Post.mono (s8.trans s9) p6 fun _ _ q => q⟩
                              · rw [if_neg hl] at p6
                                exact p6.elim
                · have ej : j = items1.length := by omega
                  subst ej
                  rw [List.drop_length] at p5
                  refine .inl ⟨st1 (Nat.le_refl _), F5, wipeS S5 vs, fps5, hd5, acc5, us5, sr5.wipe ((wipe_sub hv).trans ew), wipeS_wipeS S5 vs, d5, ra5, s1.trans (s3.trans (s4.trans s5)), p5⟩
  · have e : i = items.length := by omega
    subst e
    rw [List.drop_length] at p
    exact .inl ⟨st (Nat.le_refl _), p _ H F fps sr (Same.refl _) (d.ro ra)⟩
end
end TL
namespace TL
open PySem PySem.Spec PyProof.Rows L2
/-! ### the table -/
structure Tab where
  cst : Str → Option T
  fns : Str → Nat → Option Fn
  fnk : Str → List Str → Nat → Option Fn
  met : Str → Nat → Str → Option Fn
  fld : Str → Str → Bool
  isi : Isi
  eqt : EqTab
  exc : Str → Option (Nat × ExF)
  cls : Str → Option TyN
  bl : Str → Bool
  lam : Str → Option (Str × Str)
/-- x tells the field f of the exception C -/
def LamOk (G : Gd) (X : Cx) (x C f : Str) : Prop := ∃ (a : Str) (g : Addr) (pg : Arguments) (bg : List Stmt) (sg : Scope) (dV kV doc pm cdv ct oc : Value) (an od : Option Addr) (osl : Array (Option Value)) (Ng : List Str),
  X.mg x = some (.ref g) ∧ PySem.W.keepIn X.K (.ref g) = true ∧ X.K.lookup g = some ⟨oc, od, .func (PySem.W.fnOf x x pg bg sg dV kV doc pm an cdv ct), osl⟩ ∧ PySem.W.codeIn X.K cdv x = true ∧ L2.Binds X.K (PySem.W.fnOf x x pg bg sg dV kV doc pm an cdv ct) [a] [] ∧ FnScope Ng [a] sg ∧
  Ng[0]? = some a ∧ Vis sg a ∧ (∀ q, LamX.GivesTo X Ng x sg g cdv bg a q (TTref X.K (G.ca C) f)) ∧ (a == ("__debug__" : Str)) = false ∧ (a == ("__classdict__" : Str)) = false ∧ PySem.W.exmOne X.K (.ref (G.ca C)) (.ref (G.ca C)) = some true
/-- the context makes lambdas -/
structure LamAt (G : Gd) (X : Cx) (c P : Addr) : Prop where
  code : X.env.code = .ref c
  tb : LamX.TabB X.base X.mg c P
  mem : (P, X.env.qual ++ "<lambda>") ∈ G.tabs
  uni : ∀ p ∈ G.tabs, p.1 = P → p.2 = X.env.qual ++ "<lambda>"
def LamCtx (G : Gd) (X : Cx) (k : Nat) (on : Bool) : Prop := on = true → Room (k + 7) X.A ∧ ∃ c P, LamAt G X c P
theorem LamCtx.off {G : Gd} {X : Cx} {k : Nat} : LamCtx G X k false := fun z => by cases z
structure TabOk (G : Gd) (X : Cx) (W : WX) (k : Nat) (B : Tab) : Prop where
  cst : ∀ x t, B.cst x = some t → ∃ u v, X.mg x = some u ∧ RelV v u ∧ ∀ ha F, Rep G ha F t v
  fns : ∀ x n F, B.fns x n = some F → ∃ f, X.mg x = some (.ref f) ∧ PySem.W.keepIn X.K (.ref f) = true ∧ CalV X W (.ref f) (SpT G n F)
  fnk : ∀ x ks n F, B.fnk x ks n = some F → ∃ f, X.mg x = some (.ref f) ∧ PySem.W.keepIn X.K (.ref f) = true ∧ CalK X W (.ref f) n ks (SpT G (n + ks.length) F)
  met : ∀ nm n, MtOk G X W (fun C => (B.met nm n C).map fun F => (n, F)) nm
  fld : ∀ f, FldOk G (B.fld f) f
  isi : IsiOk G B.isi
  eqt : EqOk G X k B.isi B.eqt
  exc : ∀ C n st, B.exc C = some (n, st) → Gl X C → (C == ("__debug__" : Str)) = false → RaiseV X W C (G.ca C) n st
  cls : ∀ x c, B.cls x = some c → ∃ u, RelV (clVal G c) u ∧ (X.mg x = some u ∨ (X.mg x = none ∧ bootBuiltins x = some u ∧ x ≠ "__name__"))
  bl : ∀ x, B.bl x = true → X.mg x = none
  lam : ∀ x C f, B.lam x = some (C, f) → LamOk G X x C f
/-- the names of a block -/
abbrev Nms := List (Str × NameKind)
structure Fit (G : Gd) (X : Cx) (k : Nat) (N : List Str) (nm : Nms) : Prop where
  hK : X.K = G.K
  calm : X.calm = true
  nd : X.N.Nodup
  hN : X.N = N
  hnm : X.env.scope.names = nm
  room : Room (k + 5) X.A
  kd : X.env.scope.kind = .function
/-- the names that may be written -/
structure WFit (X : Cx) (wr : Nms) : Prop where
  loc : ∀ x, wr.lookup x = some .local → X.env.scope.names.lookup x = some .local
  cel : ∀ x, wr.lookup x = some .cell → X.env.scope.names.lookup x = some .cell ∧ X.fn x = true
def okName (x : Str) : Bool := !(x == ("__debug__" : Str)) && !(x == ("__classdict__" : Str)) && !(x == ("__name__" : Str))
def visB (nm : Nms) (x : Str) : Bool := match nm.lookup x with
  | some .local => true
  | some .cell => true
  | some .free => true
  | _ => false
def locB (nm : Nms) (x : Str) : Bool := match nm.lookup x with
  | some .local => true
  | some .cell => true
  | _ => false
def glB (nm : Nms) (x : Str) : Bool := match nm.lookup x with
  | some .globalImplicit => okName x
  | _ => false
def ixOf (N : List Str) (x : Str) : Option Nat := N.findIdx? (· == x)
def slotOf (N : List Str) (nm : Nms) (x : Str) : Option Nat := if okName x = true ∧ visB nm x = true then ixOf N x else none
section
variable {G : Gd} {X : Cx} {W : WX} {k : Nat} {N : List Str} {nm : Nms}
theorem ixOf_get {N : List Str} {x : Str} {i : Nat} (h : ixOf N x = some i) : N[i]? = some x := by
  unfold ixOf at h
  rw [List.findIdx?_eq_some_iff_getElem] at h
  obtain ⟨hi, e, _⟩ := h
  rw [List.getElem?_eq_getElem hi, eq_of_beq e]
theorem okName_d {x : Str} (h : okName x = true) : (x == ("__debug__" : Str)) = false ∧ (x == ("__classdict__" : Str)) = false ∧ x ≠ "__name__" := by
  unfold okName at h
  simp only [Bool.and_eq_true, Bool.not_eq_true'] at h
  exact ⟨h.1.1, h.1.2, fun z => by rw [z] at h; simp at h⟩
theorem visB_ok {nm : Nms} {x : Str} {sc : Scope} (hs : sc.names = nm) (h : visB nm x = true) : Vis sc x := by
  unfold visB at h
  unfold Vis
  rw [hs]
  split at h
  · rename_i e; exact .inl e
  · rename_i e; exact .inr (.inl e)
  · rename_i e; exact .inr (.inr e)
  · cases h
theorem glB_ok (ft : Fit G X k N nm) {x : Str} (h : glB nm x = true) : Gl X x ∧ okName x = true := by
  unfold glB at h
  split at h
  · rename_i e
    refine ⟨?_, h⟩
    show X.env.scope.names.lookup x = _
    rw [ft.hnm]; exact e
  · cases h
theorem slot_var (ft : Fit G X k N nm) {x : Str} {i : Nat} {pos : Pos} (h : slotOf N nm x = some i) : PE X (.Name x pos) (tVar i) := by
  unfold slotOf at h
  split at h
  · rename_i hc
    obtain ⟨h1, h2, _⟩ := okName_d hc.1
    exact pe_var (by rw [ft.hN]; exact ixOf_get h) (visB_ok ft.hnm hc.2) h1 h2
  · cases h
/-- a slot that may be written -/
def locOf (N : List Str) (nm : Nms) (x : Str) : Option Nat := if okName x = true ∧ locB nm x = true then ixOf N x else none
theorem loc_gl {wr : Nms} (ft : Fit G X k N nm) (wf : WFit X wr) {x : Str} {i : Nat} (h : locOf N wr x = some i) : X.N[i]? = some x ∧ L2.Loc X.env.scope x ∧ (X.fn x = true ∨ X.env.scope.names.lookup x = some .local) := by
  unfold locOf at h
  split at h
  · rename_i hc
    refine ⟨by rw [ft.hN]; exact ixOf_get h, ?_⟩
    have hl := hc.2
    unfold locB at hl
    split at hl
    · rename_i e
      exact ⟨.inl (wf.loc x e), .inr (wf.loc x e)⟩
    · rename_i e
      obtain ⟨h1, h2⟩ := wf.cel x e
      exact ⟨.inr h1, .inl h2⟩
    · cases hl
  · cases h
/-! ### what an expression evaluates to -/
structure EvR where
  o : M OT
  e : M T
  t : M Bool
  b : M T
def EvR.ofO (m : M OT) : EvR := ⟨m, M.map OT.fz m, mTest (M.map OT.fz m), M.map OT.fz m⟩
def EvR.ofE (m : M T) : EvR := ⟨M.map OT.v m, m, mTest m, m⟩
def EvR.ofT (e : M T) (t : M Bool) : EvR := ⟨M.map OT.v e, e, t, e⟩
def EvR.stuck : EvR := ⟨M.stuck, M.stuck, M.stuck, M.stuck⟩
structure RS (G : Gd) (X : Cx) (W : WX) (ex : Expr) (r : EvR) : Prop where
  o : JO G X W ex r.o
  e : JE G X W ex r.e
  t : JT G X W ex r.t
  b : JB G X W ex r.b
theorem stuck_of {α β : Type} {R : Ent → RR α β} {σ : L2.St} {H : Hp} {Q : β → Hp → Prop} (h : tP G W R (M.stuck : M α) σ H Q) : False := by
  obtain ⟨En, F, S, fps, hd, sr, p⟩ := h
  exact p
theorem RS.stuck {e : Expr} : RS G X W e EvR.stuck := ⟨⟨fun _ _ _ _ _ _ h => (stuck_of h).elim⟩, ⟨fun _ _ _ _ _ _ h => (stuck_of h).elim⟩, ⟨fun _ _ _ _ _ _ h => (stuck_of h).elim⟩, ⟨fun _ _ _ _ _ _ h => (stuck_of h).elim⟩⟩
theorem RS.ofO {e : Expr} {m : M OT} (h : JO G X W e m) (hp : tPlain e = true) : RS G X W e (EvR.ofO m) := ⟨h, h.je, jt_val h.je (true_plain hp), h.je.jb⟩
theorem RS.ofE {e : Expr} {m : M T} (h : JE G X W e m) (hp : tPlain e = true) : RS G X W e (EvR.ofE m) := ⟨h.jo, h, jt_val h (true_plain hp), h.jb⟩
theorem RS.ofT {e : Expr} {m : M T} {t : M Bool} (h : JE G X W e m) (ht : JT G X W e t) : RS G X W e (EvR.ofT m t) := ⟨h.jo, h, ht, h.jb⟩
theorem jt_stuck {e : Expr} : JT G X W e M.stuck := ⟨fun _ _ _ _ _ _ h => (stuck_of h).elim⟩
/-! operators -/
def binT : Operator → Option (T → T → Option OT)
  | .Add => some addT
  | .Sub => some subT
  | .Mult => some mulT
  | .FloorDiv => some fdivT
  | .Mod => some modT
  | .Pow => some powT
  | _ => none
theorem binT_ok (hK : X.K = G.K) {op : Operator} {f : T → T → Option OT} (h : binT op = some f) : ∃ r, OpR X (binaryOp op) r ∧ OpS G f r := by
  cases op <;> simp only [binT] at h <;> cases h
  · exact ⟨_, op_addA, by rw [hK]; exact sp_add⟩
  · exact ⟨_, op_sub, sp_sub⟩
  · exact ⟨_, op_mulA, sp_mul⟩
  · exact ⟨_, op_mod, sp_mod⟩
  · exact ⟨_, op_pow, sp_pow⟩
  · exact ⟨_, op_fdivW, sp_fdiv⟩
def ltB (i j : Int) : Bool := decide (i < j)
def leB (i j : Int) : Bool := decide (i ≤ j)
def gtB (i j : Int) : Bool := decide (j < i)
def geB (i j : Int) : Bool := decide (j ≤ i)
/-- comparisons but == and != -/
def cmpT : CmpOp → Option (T → T → Option Bool)
  | .Lt => some (intB ltB)
  | .LtE => some (intB leB)
  | .Gt => some (intB gtB)
  | .GtE => some (intB geB)
  | .In => some inT
  | .NotIn => some notInT
  | .Is => some isNoneT
  | .IsNot => some isNotNoneT
  | _ => none
theorem mono_rI0 {g : Int → Int → V} : Mono2 (rI0 g) := fun x y H Q Q' k ⟨i, j, h1, h2, q⟩ => ⟨i, j, h1, h2, k _ _ q⟩
theorem cmpT_ok (hK : X.K = G.K) (hu : X.A.units + 65 < cLine) {op : CmpOp} {f : T → T → Option Bool} (h : cmpT op = some f) : ∃ r, OpR X (compareOp op) r ∧ OpSB G f r ∧ Mono2 r := by
  cases op <;> simp only [cmpT] at h <;> cases h
  · exact ⟨_, op_lt, sp_intB ltB, mono_rI0⟩
  · exact ⟨_, op_le, sp_intB leB, mono_rI0⟩
  · exact ⟨_, op_gt, sp_intB gtB, mono_rI0⟩
  · exact ⟨_, op_ge, sp_intB geB, mono_rI0⟩
  · exact ⟨_, op_isN, sp_isNone, fun x y H Q Q' k ⟨h1, q⟩ => ⟨h1, k _ _ q⟩⟩
  · exact ⟨_, op_notN, sp_isNotNone, fun x y H Q Q' k ⟨h1, q⟩ => ⟨h1, k _ _ q⟩⟩
  · refine ⟨_, op_inA hu, by rw [hK]; exact sp_in, fun x y H Q Q' k h => ?_⟩
    rcases h with ⟨d, ds, h1, h2, h3, h4, q⟩ | ⟨d, ds, h1, h2, h3, h4, q⟩
    · exact .inl ⟨d, ds, h1, h2, h3, h4, k _ _ q⟩
    · exact .inr ⟨d, ds, h1, h2, h3, h4, k _ _ q⟩
  · refine ⟨_, op_notInA hu, by rw [hK]; exact sp_notIn, fun x y H Q Q' k h => ?_⟩
    rcases h with ⟨d, ds, h1, h2, h3, h4, q⟩ | ⟨d, ds, h1, h2, h3, h4, q⟩
    · exact .inl ⟨d, ds, h1, h2, h3, h4, k _ _ q⟩
    · exact .inr ⟨d, ds, h1, h2, h3, h4, k _ _ q⟩
end
end TL
namespace TL
open PySem PySem.Spec PyProof.Rows L2
def evL (rs : List EvR) : M (List T) := rs.foldr (fun r m => mCons r.e m) (M.ret [])
def evV (op : BoolOp) : List EvR → M T
  | [] => M.stuck
  | [r] => r.e
  | r :: rs => match op with
    | .And => mAndV r.e (evV op rs)
    | .Or => mOrV r.e (evV op rs)
def evW (op : BoolOp) : List EvR → M Bool
  | [] => M.stuck
  | [r] => r.t
  | r :: rs => match op with
    | .And => mAnd r.t (evW op rs)
    | .Or => mOr r.t (evW op rs)
def nmSlot (N : List Str) (nm : Nms) : Expr → Option Nat
  | .Name y _ => slotOf N nm y
  | _ => none
def blt1 (f : Str) : Option (T → Option OT) :=
  if f == "len" then some lenT else if f == "int" then some intT else if f == "abs" then some absT else if f == "sorted" then some sortT
  else if f == "tuple" then some tupleT else if f == "list" then some listT else if f == "range" then some rng1T else none
def blt2 (f : Str) : Option (T → T → Option OT) := if f == "min" then some minT else if f == "max" then some maxT else none
def mutOf (f : Str) : Option MOp := if f == "append" then some opAppend else if f == "extend" then some opExtend else if f == "pop" then some opPopAt else none
/-- a target: names, one tuple of names -/
def tgt1 (N : List Str) (nm : Nms) : Expr → Option Nat
  | .Name x _ => locOf N nm x
  | _ => none
def tgts (N : List Str) (nm : Nms) : List Expr → Option (Tgts × List Nat)
  | [] => some (gsNil, [])
  | e :: es => match tgt1 N nm e, tgts N nm es with
    | some i, some (k, js) => some (gsCons (gNm i) k, [i] ++ js)
    | _, _ => none
def tgtOf (N : List Str) (nm : Nms) : Expr → Option (Tgt × List Nat)
  | .Name x _ => (locOf N nm x).map fun i => (gNm i, [i])
  | .Tuple es _ _ => (tgts N nm es).map fun p => (gTp p.1 es.length, p.2)
  | _ => none
def isTup : Expr → Bool
  | .Tuple _ _ _ => true
  | _ => false
/-- the names of a block as its body sees them -/
def relab (nm sn : Nms) : Nms := sn.map fun p => if (p.2 == .free && nm.lookup p.1 == some .cell) then (p.1, .cell) else p
def ownOf (N : List Str) (scope : Scope) : List (Str × Nat) := scope.names.filterMap fun y => match y.2 with
  | .local => (ixOf N y.1).map fun i => (y.1, i)
  | .cell => (ixOf N y.1).map fun i => (y.1, i)
  | _ => none
def blkB (N : List Str) (nm : Nms) (scope : Scope) : Bool :=
  decide (scope.kind = .function) && scope.names.all (fun y => decide (scope.names.lookup y.1 = some y.2)) && (ownOf N scope).all (fun p => decide (N[p.2]? = some p.1)) &&
  scope.names.all (fun y => !decide (y.2 = .free) || decide (nm.lookup y.1 = some .cell) || decide (nm.lookup y.1 = some .free)) &&
  scope.names.all (fun y => !(decide (y.2 = .local) || decide (y.2 = .cell)) || ((ownOf N scope).map (·.1)).contains y.1 || !N.contains y.1)
def clsOf (B : Tab) (nm : Nms) : Expr → Option TyN
  | .Name x _ => if glB nm x = true then B.cls x else none
  | _ => none
def clsAll (B : Tab) (nm : Nms) : List Expr → Option (List TyN)
  | [] => some []
  | e :: es => match clsOf B nm e, clsAll B nm es with
    | some c, some cs => some (c :: cs)
    | _, _ => none
/-- len(..), f(..) -/
def callN (B : Tab) (nm : Nms) (x : Str) (es : List Expr) (rs : List EvR) : EvR :=
  if glB nm x = true ∧ es.all noStar = true then
    match B.fns x es.length with
    | some F => EvR.ofO (mCall es.length F (evL rs))
    | none => if B.bl x = true then (match rs with
      | [a] => (match blt1 x with
        | some f => EvR.ofO (mUn f a.b)
        | none => .stuck)
      | [a, b] => (match blt2 x with
        | some f => EvR.ofO (mOp f a.e b.b)
        | none => .stuck)
      | _ => .stuck) else .stuck
  else .stuck
def isiN (B : Tab) (nm : Nms) (es : List Expr) (r : EvR) : EvR := if glB nm "isinstance" = true ∧ es.all noStar = true ∧ B.bl "isinstance" = true then (match es with
  | [_, .Tuple cs _ _] => (match clsAll B nm cs with
    | some (c :: cs') => if cs'.length ≤ 100 ∧ cs.all noStar = true then EvR.ofE (M.map T.bl (mIsis B.isi (c :: cs') r.b)) else .stuck
    | _ => .stuck)
  | [_, c] => (match clsOf B nm c with
    | some c => EvR.ofE (M.map T.bl (mIsi B.isi c r.b))
    | none => .stuck)
  | _ => .stuck) else .stuck
def kwNames (kws : List Keyword) : List Str := kws.filterMap fun k => k.arg
def callK (B : Tab) (nm : Nms) (x : Str) (es : List Expr) (kws : List Keyword) (rs ks : List EvR) : EvR :=
  if glB nm x = true ∧ es.all noStar = true ∧ kws.all (fun k => k.arg.isSome) = true ∧ es ≠ [] then
    match B.fnk x (kwNames kws) es.length with
    | some F => EvR.ofO (mCallK es.length (kwNames kws).length F (evL rs) (evL ks))
    | none => .stuck
  else .stuck
def methN (B : Tab) (m : Str) (apos pos : Pos) (o : Expr) (es : List Expr) (ro : EvR) (rs : List EvR) : EvR :=
  if noSup o = true ∧ es.all noStar = true ∧ es.length < 30 ∧ (apos.endLine == pos.line) = true then EvR.ofO (mMeth (fun C => (B.met m es.length C).map fun F => (es.length, F)) m ro.e (evL rs)) else .stuck
def mutN (op : MOp) (i : Nat) (apos pos : Pos) (es : List Expr) (rs : List EvR) : EvR :=
  if es.all noStar = true ∧ es.length < 29 ∧ (apos.endLine == pos.line) = true ∧ es ≠ [] then EvR.ofE (mMut i op (evL rs)) else .stuck
def argsOf : Expr → List Expr
  | .Call (.Name _ _) es [] _ => es
  | _ => []
def lamB (nm : Nms) (scope : Scope) : Bool :=
  decide (scope.kind = .function) && !scope.isCoroutine && !scope.isGenerator && scope.names.all fun y => !decide (y.2 = .local) && !decide (y.2 = .cell) && (!decide (y.2 = .free) || decide (nm.lookup y.1 = some .cell) || decide (nm.lookup y.1 = some .free))
def noArgs : Arguments → Bool
  | ⟨[], [], none, [], [], none, []⟩ => true
  | _ => false
def ev (B : Tab) (N : List Str) : Nat → Bool → Nms → Expr → EvR
  | 0, _, _, _ => .stuck
  | n + 1, on, nm, x => match x with
    | .Constant c _ _ => (match c with
      | .int i => EvR.ofE (M.ret (.int i))
      | .bool b => EvR.ofE (M.ret (.bl b))
      | .none => EvR.ofE (M.ret .non)
      | .str s => EvR.ofE (M.ret (.str s))
      | _ => .stuck)
    | .Name y _ => (match slotOf N nm y with
      | some i => ⟨nmO i, nmV i, mTest (nmV i), peek i⟩
      | none => if glB nm y = true then (match B.cst y with
        | some t => EvR.ofE (M.ret t)
        | none => .stuck) else .stuck)
    | .BinOp a op b _ => (match binT op with
      | some f => (match nmSlot N nm a with
        | some i => EvR.ofO (mOpN f i (ev B N n on nm b).b)
        | none => EvR.ofO (mOp f (ev B N n on nm a).e (ev B N n on nm b).b))
      | none => .stuck)
    | .UnaryOp op a _ => (match op with
      | .Not => EvR.ofT (mNotV (ev B N n on nm a).e) (mNot (ev B N n on nm a).t)
      | .USub => EvR.ofO (mUn negT (ev B N n on nm a).b)
      | _ => .stuck)
    | .BoolOp op es _ => EvR.ofT (evV op (es.map (ev B N n on nm))) (evW op (es.map (ev B N n on nm)))
    | .Compare a [op] [b] _ => (match op with
      | .Eq => EvR.ofT (M.map T.bl (mEq B.eqt false (ev B N n on nm a).e (ev B N n on nm b).e)) (mEq B.eqt false (ev B N n on nm a).e (ev B N n on nm b).e)
      | .NotEq => EvR.ofT (M.map T.bl (mEq B.eqt true (ev B N n on nm a).e (ev B N n on nm b).e)) (mEq B.eqt true (ev B N n on nm a).e (ev B N n on nm b).e)
      | op => (match cmpT op with
        | some f => if isSet b = true then .stuck else (match nmSlot N nm a with
          | some i => EvR.ofT (M.map T.bl (mCmpN f i (ev B N n on nm b).b)) (mCmpN f i (ev B N n on nm b).b)
          | none => EvR.ofT (M.map T.bl (mCmp f (ev B N n on nm a).e (ev B N n on nm b).b)) (mCmp f (ev B N n on nm a).e (ev B N n on nm b).b))
        | none => .stuck))
    | .Compare a [op, op'] [b, c] _ => (match cmpT op, cmpT op' with
      | some f, some f' => if isSet c = true then .stuck else EvR.ofT (M.map T.bl (mChain f f' (ev B N n on nm a).e (ev B N n on nm b).e (ev B N n on nm c).b)) (mChain f f' (ev B N n on nm a).e (ev B N n on nm b).e (ev B N n on nm c).b)
      | _, _ => .stuck)
    | .IfExp c a b _ => ⟨mIf (ev B N n on nm c).t (ev B N n on nm a).o (ev B N n on nm b).o, mIf (ev B N n on nm c).t (ev B N n on nm a).e (ev B N n on nm b).e, M.stuck, mIf (ev B N n on nm c).t (ev B N n on nm a).e (ev B N n on nm b).e⟩
    | .Tuple es _ _ => if es.all noStar = true then EvR.ofE (mTup (evL (es.map (ev B N n on nm)))) else .stuck
    | .List es _ => if es.all noStar = true then EvR.ofO (mLst (evL (es.map (ev B N n on nm)))) else .stuck
    | .Attribute a f _ => if noSup a = true then EvR.ofE (mFld (B.fld f) f (ev B N n on nm a).b) else .stuck
    | .Subscript a (.Slice none none (some (.UnaryOp .USub (.Constant (.int 1) _ _) _)) _) _ => EvR.ofO (mUn revT (ev B N n on nm a).b)
    | .Subscript a (.Slice lo hi none _) _ => EvR.ofO (mSl (ev B N n on nm a).e (match lo with
        | none => M.ret none
        | some l => mPart (ev B N n on nm l).e) (match hi with
        | none => M.ret none
        | some l => mPart (ev B N n on nm l).e))
    | .Subscript a i _ => if isSl i = true then .stuck else (match nmSlot N nm a with
      | some j => EvR.ofO (mOpH ixH j (ev B N n on nm i).b)
      | none => EvR.ofO (mOp ixT (ev B N n on nm a).e (ev B N n on nm i).b))
    | .Call f es kws pos => (match f with
      | .Name x _ => (match kws with
        | [] => if x == "isinstance" then (match es with
            | a :: _ => isiN B nm es (ev B N n on nm a)
            | [] => .stuck)
          else if x == "list" then (match es with
            | [.Call (.Name y _) [a] [] _] => if glB nm x = true ∧ glB nm y = true ∧ (y == "range") = true ∧ B.bl x = true ∧ B.bl y = true ∧ noStar a = true then EvR.ofO (mUn (listRg id) (ev B N n on nm a).b) else callN B nm x es (es.map (ev B N n on nm))
            | _ => callN B nm x es (es.map (ev B N n on nm)))
          else (match es with
            | [.Lambda ar body scope _] => if on = true ∧ glB nm x = true ∧ noArgs ar = true ∧ lamB nm scope = true then (match B.lam x with
              | some (C, f) => EvR.ofO (mLam C f (ev B N n false scope.names body).o)
              | none => .stuck) else .stuck
            | es => callN B nm x es (es.map (ev B N n on nm)))
        | kws => callK B nm x es kws (es.map (ev B N n on nm)) (kws.map fun k => ev B N n on nm k.value))
      | .Attribute o m apos => (match kws with
        | [] => (match nmSlot N nm o, mutOf m with
          | some i, some op => mutN op i apos pos es (es.map (ev B N n on nm))
          | _, _ => methN B m apos pos o es (ev B N n on nm o) (es.map (ev B N n on nm)))
        | _ => .stuck)
      | _ => .stuck)
    | .ListComp elt [⟨tg, iter, ifs, 0⟩] scope _ => if blkB N nm scope = true ∧ isSet iter = false then (match tgtOf N scope.names tg with
      | some (g, is) => if is.all (fun i => ((ownOf N scope).map (·.2)).contains i) = true then EvR.ofO (mLc ((ownOf N scope).map (·.2))
          (itemsR B nm tg iter (ev B N n on nm iter) ((argsOf iter).map (ev B N n on nm)))
          g (match ifs with
            | [] => M.ret true
            | [c] => (ev B N n false (relab nm scope.names) c).t
            | _ => M.stuck) (ev B N n false (relab nm scope.names) elt).e) else .stuck
      | none => .stuck) else .stuck
    | .ListComp elt [⟨tg, iter, ifs, 0⟩, ⟨tg1, iter1, ifs1, 0⟩] scope _ => if blkB N nm scope = true ∧ isSet iter = false ∧ isSet iter1 = false then (match tgtOf N scope.names tg, tgtOf N scope.names tg1 with
      | some (g, is), some (g1, is1) => if is.all (fun i => ((ownOf N scope).map (·.2)).contains i) = true ∧ is1.all (fun i => ((ownOf N scope).map (·.2)).contains i) = true then EvR.ofO (mLc2 ((ownOf N scope).map (·.2)) is1
          (itemsR B nm tg iter (ev B N n on nm iter) ((argsOf iter).map (ev B N n on nm)))
          g (match ifs with
            | [] => M.ret true
            | [c] => (ev B N n false (relab nm scope.names) c).t
            | _ => M.stuck)
          (itemsR B (relab nm scope.names) tg1 iter1 (ev B N n false (relab nm scope.names) iter1) ((argsOf iter1).map (ev B N n false (relab nm scope.names))))
          g1 (match ifs1 with
            | [] => M.ret true
            | [c] => (ev B N n false (relab nm scope.names) c).t
            | _ => M.stuck) (ev B N n false (relab nm scope.names) elt).e) else .stuck
      | _, _ => .stuck) else .stuck
    | _ => .stuck
where
  itemsR (B : Tab) (nm : Nms) (tg iter : Expr) (r : EvR) (rs : List EvR) : M (List T) := match iter with
    | .Call (.Name x _) es [] _ => if (x == "range") = true ∧ glB nm x = true ∧ B.bl x = true ∧ es.all noStar = true ∧ es.length = 1 then mRng rng1 (evL rs)
      else if (x == "range") = true ∧ glB nm x = true ∧ B.bl x = true ∧ es.all noStar = true ∧ es.length = 2 then mRng rng2 (evL rs)
      else if (x == "enumerate") = true ∧ glB nm x = true ∧ B.bl x = true ∧ es.all noStar = true ∧ es.length = 1 ∧ isTup tg = true then (match rs with
        | [a] => mEnum a.e
        | _ => M.stuck)
      else mItemsA r.e
    | _ => mItemsA r.e
end TL
namespace TL
open PySem PySem.Spec PyProof.Rows L2
section
variable {G : Gd} {X : Cx} {W : WX} {k : Nat} {N : List Str} {nm : Nms} {B : Tab}
theorem jl_of {f : Expr → EvR} : ∀ {es : List Expr}, es.all noStar = true → (∀ e ∈ es, RS G X W e (f e)) → JL G X W es (evL (es.map f))
  | [], _, _ => jl_nil
  | e :: es, h, r => by
    rw [List.all_cons, Bool.and_eq_true] at h
    exact jl_cons (r e List.mem_cons_self).e (jl_of h.2 fun x m => r x (List.mem_cons_of_mem _ m)) (star_cons h.1 es)
theorem jk_of {f : Expr → EvR} : ∀ {ks : List Keyword}, (∀ c ∈ ks, RS G X W c.value (f c.value)) → JK G X W ks (evL (ks.map fun c => f c.value))
  | [], _ => jk_nil
  | ⟨a, v, p⟩ :: ks, r => jk_cons (r ⟨a, v, p⟩ List.mem_cons_self).e (jk_of fun x m => r x (List.mem_cons_of_mem _ m))
theorem je_stuck {e : Expr} : JE G X W e M.stuck := ⟨fun _ _ _ _ _ _ h => (stuck_of h).elim⟩
theorem evV_ok {f : Expr → EvR} {op : BoolOp} {pos : Pos} : ∀ {es : List Expr}, (∀ e ∈ es, RS G X W e (f e)) → JE G X W (.BoolOp op es pos) (evV op (es.map f))
  | [], _ => je_stuck
  | [e], r => je_and1 (r e List.mem_cons_self).e
  | e :: e' :: es, r => by
    have h2 := evV_ok (op := op) (pos := pos) (es := e' :: es) fun x m => r x (List.mem_cons_of_mem _ m)
    cases op with
    | And => exact je_and (r e List.mem_cons_self).e h2
    | Or => exact je_or (r e List.mem_cons_self).e h2
theorem jw_stuck {e : Expr} : JW G X W e M.stuck := ⟨fun _ _ _ _ _ _ _ h => (stuck_of h).elim⟩
theorem evW_ok {f : Expr → EvR} {op : BoolOp} {pos : Pos} : ∀ {es : List Expr}, (∀ e ∈ es, RS G X W e (f e)) → JW G X W (.BoolOp op es pos) (evW op (es.map f))
  | [], _ => jw_stuck
  | [e], r => by
    cases op with
    | And => exact jw_and1 (r e List.mem_cons_self).t
    | Or => exact jw_or1 (r e List.mem_cons_self).t
  | e :: e' :: es, r => by
    have h2 := evW_ok (op := op) (pos := pos) (es := e' :: es) fun x m => r x (List.mem_cons_of_mem _ m)
    cases op with
    | And => exact jw_and (r e List.mem_cons_self).t h2
    | Or => exact jw_or (r e List.mem_cons_self).t h2
theorem nmSlot_ok {a : Expr} {i : Nat} (h : nmSlot N nm a = some i) : ∃ y p, a = .Name y p ∧ slotOf N nm y = some i := by
  cases a <;> simp only [nmSlot] at h <;> try cases h
  exact ⟨_, _, rfl, h⟩
theorem gl_name (ft : Fit G X k N nm) {x : Str} (h : glB nm x = true) : Gl X x ∧ (x == ("__debug__" : Str)) = false ∧ x ≠ "__name__" := by
  obtain ⟨h1, h2⟩ := glB_ok ft h
  obtain ⟨h3, _, h5⟩ := okName_d h2
  exact ⟨h1, h3, h5⟩
theorem blt1_ok (ft : Fit G X k N nm) {x : Str} {g : T → Option OT} {p pos : Pos} {a : Expr} {m : M T} (hx : glB nm x = true) (hm : X.mg x = none) (hg : blt1 x = some g) (ha : JB G X W a m) (hs : noStar a = true) : JO G X W (.Call (.Name x p) [a] [] pos) (mUn g m) := by
  obtain ⟨h1, h2, h3⟩ := gl_name ft hx
  have hK := ft.hK
  have s1 := star_cons (env := X.env) hs []
  have s2 : (backTo pos (starEach [] X.env)).any (·.1) = false := rfl
  unfold blt1 at hg
  split at hg
  · rename_i e; cases hg; have e := eq_of_beq e; subst e
    exact jo_blt1 call_len h1 hm (by kernel_rfl) h3 h2 (by rw [hK]; exact sp_len) ha s1 s2
  · split at hg
    · rename_i e; cases hg; have e := eq_of_beq e; subst e
      exact jo_ty1 call_int1 h1 hm (by kernel_rfl) h3 h2 sp_int1 ha s1 s2
    · split at hg
      · rename_i e; cases hg; have e := eq_of_beq e; subst e
        exact jo_blt1 call_abs h1 hm (by kernel_rfl) h3 h2 sp_abs ha s1 s2
      · split at hg
        · rename_i e; cases hg; have e := eq_of_beq e; subst e
          exact jo_blt1 cr_sortA h1 hm (by kernel_rfl) h3 h2 (by rw [hK]; exact sp_sort) ha s1 s2
        · split at hg
          · rename_i e; cases hg; have e := eq_of_beq e; subst e
            exact jo_ty1 call_tuple_of h1 hm (by kernel_rfl) h3 h2 (by rw [hK]; exact sp_tuple) ha s1 s2
          · split at hg
            · rename_i e; cases hg; have e := eq_of_beq e; subst e
              exact jo_ty1 call_list_of h1 hm (by kernel_rfl) h3 h2 (by rw [hK]; exact sp_list) ha s1 s2
            · split at hg
              · rename_i e; cases hg; have e := eq_of_beq e; subst e
                exact jo_ty1 cr_range1 h1 hm (by kernel_rfl) h3 h2 sp_rng1 ha s1 s2
              · cases hg
theorem blt2_ok (ft : Fit G X k N nm) {x : Str} {g : T → T → Option OT} {p pos : Pos} {a b : Expr} {ma mb : M T} (hx : glB nm x = true) (hm : X.mg x = none) (hg : blt2 x = some g) (ha : JE G X W a ma) (hb : JB G X W b mb) (hs : noStar a = true) (hs2 : noStar b = true) : JO G X W (.Call (.Name x p) [a, b] [] pos) (mOp g ma mb) := by
  obtain ⟨h1, h2, h3⟩ := gl_name ft hx
  have s1 := star_cons (env := X.env) hs [b]
  have s2 := star_cons (env := X.env) hs2 []
  have s3 : (backTo pos (starEach [b] X.env)).any (·.1) = false := star_any (by rw [List.all_cons, hs2]; rfl)
  unfold blt2 at hg
  split at hg
  · rename_i e; cases hg; have e := eq_of_beq e; subst e
    exact jo_blt2 (call_min2 ft.calm) h1 hm (by kernel_rfl) h3 h2 sp_min ha hb s1 s2 s3
  · split at hg
    · rename_i e; cases hg; have e := eq_of_beq e; subst e
      exact jo_blt2 (call_max2 ft.calm) h1 hm (by kernel_rfl) h3 h2 sp_max ha hb s1 s2 s3
    · cases hg
theorem callN_ok (ft : Fit G X k N nm) (hB : TabOk G X W k B) {x : Str} {p pos : Pos} {es : List Expr} {f : Expr → EvR} (r : ∀ e ∈ es, RS G X W e (f e)) : RS G X W (.Call (.Name x p) es [] pos) (callN B nm x es (es.map f)) := by
  unfold callN
  split
  · rename_i hc
    obtain ⟨hx, hs⟩ := hc
    obtain ⟨h1, h2, h3⟩ := gl_name ft hx
    split
    · rename_i F eF
      obtain ⟨g, hm, hk, hc⟩ := hB.fns _ _ _ eF
      cases es with
      | nil => exact RS.ofO (jo_call0 h1 hm hk hc h2) rfl
      | cons e es =>
        have hs' := hs
        rw [List.all_cons, Bool.and_eq_true] at hs
        exact RS.ofO (jo_call h1 hm hk hc (jl_of hs' r) h2 (star_cons hs.1 es) (star_any hs.2)) rfl
    · split
      · rename_i hb
        have hm := hB.bl x hb
        match es, hs, r with
        | [], _, _ => exact RS.stuck
        | [a], hs, r =>
          simp only [List.map_cons, List.map_nil]
          split
          · rename_i g hg
            exact RS.ofO (blt1_ok ft hx hm hg (r a List.mem_cons_self).b (by simpa using hs)) rfl
          · exact RS.stuck
        | [a, b], hs, r =>
          simp only [List.map_cons, List.map_nil]
          split
          · rename_i g hg
            have hs : noStar a = true ∧ noStar b = true := by simpa using hs
            exact RS.ofO (blt2_ok ft hx hm hg (r a List.mem_cons_self).e (r b (by simp)).b hs.1 hs.2) rfl
          · exact RS.stuck
        | _ :: _ :: _ :: _, _, _ => exact RS.stuck
      · exact RS.stuck
  · exact RS.stuck
theorem clsOf_ok (ft : Fit G X k N nm) (hB : TabOk G X W k B) {e : Expr} {c : TyN} (h : clsOf B nm e = some c) : JC G X e c := by
  cases e <;> simp only [clsOf] at h <;> try cases h
  split at h
  · rename_i x p hx
    obtain ⟨h1, h2, h3⟩ := gl_name ft hx
    obtain ⟨u, r, hm | ⟨hm, hv, hn⟩⟩ := hB.cls _ _ h
    · exact pe_glob h1 hm r h2
    · exact pe_bltn h1 hm hv r hn h2
  · cases h
theorem clsAll_ok (ft : Fit G X k N nm) (hB : TabOk G X W k B) : ∀ {es : List Expr} {cs : List TyN}, clsAll B nm es = some cs → Paired (fun e c => JC G X e c) es cs
  | [], cs, h => by simp only [clsAll] at h; cases h; exact .nil
  | e :: es, cs, h => by
    unfold clsAll at h
    split at h
    · rename_i c cs' e1 e2
      cases h
      exact .cons (clsOf_ok ft hB e1) (clsAll_ok ft hB e2)
    · cases h
theorem isiN_ok (ft : Fit G X k N nm) (hB : TabOk G X W k B) {p pos : Pos} {a : Expr} {es : List Expr} {ra : EvR} (r : RS G X W a ra) : RS G X W (.Call (.Name "isinstance" p) (a :: es) [] pos) (isiN B nm (a :: es) ra) := by
  unfold isiN
  split
  · rename_i hc
    obtain ⟨hx, hs, hb⟩ := hc
    obtain ⟨h1, h2, h3⟩ := gl_name ft hx
    have hm := hB.bl _ hb
    split
    · rename_i x a' cs q q' e
      cases e
      split
      · rename_i c cs' e2
        split
        · rename_i hl
          have hs : noStar a = true ∧ True := by simpa [noStar] using hs
          refine RS.ofE (je_isis ft.hK hB.isi h1 hm (by kernel_rfl) r.b (clsAll_ok ft hB e2) hl.1 (fun e me rest => star_cons (List.all_eq_true.mp hl.2 e me) rest) (star_cons hs.1 _) (star_cons rfl []) rfl) rfl
        · exact RS.stuck
      · exact RS.stuck
    · rename_i x a' c _ e
      cases e
      split
      · rename_i c' e2
        have hs : noStar a = true ∧ noStar c = true := by simpa using hs
        exact RS.ofE (je_isi ft.hK hB.isi h1 hm (by kernel_rfl) r.b (clsOf_ok ft hB e2) (star_cons hs.1 _) (star_cons hs.2 []) (star_any (by simp [hs.2]))) rfl
      · exact RS.stuck
    · exact RS.stuck
  · exact RS.stuck
/-! keywords, methods -/
theorem kw_all {env : Env} {pos : Pos} : ∀ {kws : List Keyword}, kws.all (fun k => k.arg.isSome) = true → (backToKw pos (keywordEach kws env)).all (·.1.isSome) = true ∧ (backToKw pos (keywordEach kws env)).any (·.1.isNone) = false ∧ (backToKw pos (keywordEach kws env)).filterMap (·.1) = kwNames kws
  | [], _ => ⟨rfl, rfl, rfl⟩
  | ⟨a, v, p⟩ :: kws, h => by
    rw [List.all_cons, Bool.and_eq_true] at h
    obtain ⟨h1, h2, h3⟩ := kw_all (env := env) (pos := pos) h.2
    cases a with
    | none => cases h.1
    | some x =>
      refine ⟨?_, ?_, ?_⟩
      · show (true && (backToKw pos (keywordEach kws env)).all (·.1.isSome)) = true
        rw [h1]; rfl
      · show (false || (backToKw pos (keywordEach kws env)).any (·.1.isNone)) = false
        rw [h2]; rfl
      · show x :: (backToKw pos (keywordEach kws env)).filterMap (·.1) = x :: kwNames kws
        rw [h3]
theorem callK_ok (ft : Fit G X k N nm) (hB : TabOk G X W k B) {x : Str} {p pos : Pos} {es : List Expr} {kws : List Keyword} {f : Expr → EvR} (r : ∀ e ∈ es, RS G X W e (f e)) (rk : ∀ c ∈ kws, RS G X W c.value (f c.value)) :
    RS G X W (.Call (.Name x p) es kws pos) (callK B nm x es kws (es.map f) (kws.map fun c => f c.value)) := by
  unfold callK
  split
  · rename_i hc
    obtain ⟨hx, hs, hk, hne⟩ := hc
    obtain ⟨h1, h2, h3⟩ := gl_name ft hx
    split
    · rename_i F eF
      obtain ⟨g, hm, hkp, hc⟩ := hB.fnk _ _ _ _ eF
      obtain ⟨k1, k2, k3⟩ := kw_all (env := X.env) (pos := pos) hk
      cases es with
      | nil => exact absurd rfl hne
      | cons e es =>
        have hs' := hs
        rw [List.all_cons, Bool.and_eq_true] at hs
        exact RS.ofO (jo_callK h1 hm hkp hc (jl_of hs' r) (jk_of rk) k1 k3 h2 (star_cons hs.1 es) (by rw [star_any hs', k2]; rfl)) rfl
    · exact RS.stuck
  · exact RS.stuck
theorem methN_ok (ft : Fit G X k N nm) (hB : TabOk G X W k B) {m : Str} {o : Expr} {apos pos : Pos} {es : List Expr} {f : Expr → EvR} {ro : EvR} (h : RS G X W o ro) (r : ∀ e ∈ es, RS G X W e (f e)) : RS G X W (.Call (.Attribute o m apos) es [] pos) (methN B m apos pos o es ro (es.map f)) := by
  unfold methN
  split
  · rename_i hc
    obtain ⟨h1, h2, h3, h4⟩ := hc
    obtain ⟨pl, he⟩ := eval_meth (env := X.env) h1 h2 h3 h4 (nm := m)
    cases es with
    | nil => exact RS.ofO (jo_meth0 ft.hK (hB.met m 0) h.e he) rfl
    | cons e es =>
      have h2' := h2
      rw [List.all_cons, Bool.and_eq_true] at h2
      exact RS.ofO (jo_meth ft.hK (hB.met m _) h.e (jl_of h2' r) (star_cons h2.1 es) (star_any h2.2) he) rfl
  · exact RS.stuck
theorem mutN_ok (ft : Fit G X k N nm) {m x : Str} {np apos pos : Pos} {i : Nat} {op : MOp} {es : List Expr} {f : Expr → EvR} (hi : slotOf N nm x = some i) (ho : mutOf m = some op) (r : ∀ e ∈ es, RS G X W e (f e)) : RS G X W (.Call (.Attribute (.Name x np) m apos) es [] pos) (mutN op i apos pos es (es.map f)) := by
  unfold mutN
  split
  · rename_i hc
    obtain ⟨h2, h3, h4, h5⟩ := hc
    cases es with
    | nil => exact absurd rfl h5
    | cons e es =>
      have h2' := h2
      rw [List.all_cons, Bool.and_eq_true] at h2
      have hv := slot_var ft (pos := np) hi
      have s1 := star_cons (env := X.env) h2.1 es
      have s2 := star_any (env := X.env) (pos := pos) h2.2
      have sf : ((backTo pos (starEach (e :: es) X.env)).all (fun x => !x.1) && (backToKw pos (keywordEach [] X.env)).all (fun x => x.1.isSome)
          && decide ((e :: es).length + ([] : List Keyword).length + (if ([] : List Keyword).isEmpty then 0 else 1) < 30)) = true := by
        rw [star_all h2']
        show (true && true && decide ((e :: es).length + 0 + 0 < 30)) = true
        simp only [Bool.true_and, decide_eq_true_eq]
        omega
      have hl := jl_of h2' r
      unfold mutOf at ho
      split at ho
      · rename_i z; cases ho; have z := eq_of_beq z; subst z
        exact RS.ofE (je_mut PySem.F.slot_list_append PySem.F.type_list_append mt_append sp_append hv hl (base_of rfl _) sf h4 s1 s2) rfl
      · split at ho
        · rename_i z; cases ho; have z := eq_of_beq z; subst z
          exact RS.ofE (je_mut PySem.F.slot_list_extend PySem.F.type_list_extend mt_extend sp_extend hv hl (base_of rfl _) sf h4 s1 s2) rfl
        · split at ho
          · rename_i z; cases ho; have z := eq_of_beq z; subst z
            exact RS.ofE (je_mut PySem.F.slot_list_pop PySem.F.type_list_pop mt_popAt sp_popAt hv hl (base_of rfl _) sf h4 s1 s2) rfl
          · cases ho
  · exact RS.stuck
/-! what is walked -/
theorem itemsR_ok (ft : Fit G X k N nm) (hB : TabOk G X W k B) {tg iter : Expr} {f : Expr → EvR} {r : EvR} (h : RS G X W iter r) (rs : ∀ x p es pos, iter = .Call (.Name x p) es [] pos → ∀ e ∈ es, RS G X W e (f e)) :
    JI G X W tg iter (ev.itemsR B nm tg iter r ((argsOf iter).map f)) := by
  unfold ev.itemsR
  split
  · rename_i x p es pos
    have rs2 := rs x p es pos rfl
    rw [show argsOf (.Call (.Name x p) es [] pos) = es from rfl]
    split
    · rename_i hc
      obtain ⟨hx, hg, hb, hs, hl⟩ := hc
      have hx := eq_of_beq hx
      subst hx
      obtain ⟨h1, h2, h3⟩ := gl_name ft hg
      match es, hl, hs, rs2 with
      | [a], _, hs, rs2 =>
        have ha : noStar a = true := by simpa using hs
        exact ji_rng1 h1 (hB.bl _ hb) (jl_of hs rs2) (star_cons ha [])
    · split
      · rename_i hc
        obtain ⟨hx, hg, hb, hs, hl⟩ := hc
        have hx := eq_of_beq hx
        subst hx
        obtain ⟨h1, h2, h3⟩ := gl_name ft hg
        match es, hl, hs, rs2 with
        | [a, b], _, hs, rs2 =>
          have ha : noStar a = true ∧ noStar b = true := by simpa using hs
          refine ji_rng2 h1 (hB.bl _ hb) (jl_of hs rs2) ?_ (star_cons ha.2 [])
          rw [star_cons ha.1 [b], star_cons ha.2 []]
          rfl
      · split
        · rename_i hc
          obtain ⟨hx, hg, hb, hs, hl, ht⟩ := hc
          have hx := eq_of_beq hx
          subst hx
          obtain ⟨h1, h2, h3⟩ := gl_name ft hg
          match es, hl, hs, rs2 with
          | [a], _, hs, rs2 =>
            have ha : noStar a = true := by simpa using hs
            cases tg <;> try cases ht
            exact ji_enum ft.hK h1 (hB.bl _ hb) (rs2 a List.mem_cons_self).e (star_cons ha [])
        · exact ji_any ft.hK h.e
  · exact ji_any ft.hK h.e
/-! targets -/
theorem tgt1_ok {wr : Nms} (ft : Fit G X k N nm) (wf : WFit X wr) {e : Expr} {i : Nat} (h : tgt1 N wr e = some i) : JG G X e (gNm i) [i] ∧ noStar e = true := by
  cases e <;> simp only [tgt1] at h <;> try cases h
  obtain ⟨h1, h2, h3⟩ := loc_gl ft wf h
  exact ⟨jg_name (pg_name ft.nd h1 h2 h3), rfl⟩
theorem tgts_ok {wr : Nms} (ft : Fit G X k N nm) (wf : WFit X wr) : ∀ {es : List Expr} {g : Tgts} {is : List Nat}, tgts N wr es = some (g, is) → JGs G X es g is ∧ es.all noStar = true
  | [], g, is, h => by simp only [tgts] at h; cases h; exact ⟨jgs_nil, rfl⟩
  | e :: es, g, is, h => by
    unfold tgts at h
    split at h
    · rename_i i g' js e1 e2
      cases h
      obtain ⟨h1, n1⟩ := tgt1_ok ft wf e1
      obtain ⟨h2, n2⟩ := tgts_ok ft wf e2
      refine ⟨jgs_cons h1 h2 ?_, by rw [List.all_cons, n1, n2]; rfl⟩
      rw [assign_cons n1 es]
      rfl
    · cases h
theorem assign_len {env : Env} : ∀ {es : List Expr}, es.all noStar = true → (assignEach es env).length = es.length ∧ (assignEach es env).findIdx? (·.1) = none
  | [], _ => ⟨rfl, rfl⟩
  | e :: es, h => by
    rw [List.all_cons, Bool.and_eq_true] at h
    obtain ⟨h1, h2⟩ := assign_len (env := env) h.2
    rw [assign_cons h.1 es]
    refine ⟨by rw [List.length_cons, List.length_cons, h1], ?_⟩
    rw [List.findIdx?_cons]
    simp [h2]
theorem tgtOf_ok {wr : Nms} (ft : Fit G X k N nm) (wf : WFit X wr) {e : Expr} {g : Tgt} {is : List Nat} (h : tgtOf N wr e = some (g, is)) : JG G X e g is ∧ noStar e = true := by
  cases e <;> simp only [tgtOf] at h <;> try cases h
  · rw [Option.map_eq_some_iff] at h
    obtain ⟨i, h, e⟩ := h
    cases e
    obtain ⟨h1, h2, h3⟩ := loc_gl ft wf h
    exact ⟨jg_name (pg_name ft.nd h1 h2 h3), rfl⟩
  · rw [Option.map_eq_some_iff] at h
    obtain ⟨⟨g', js⟩, h, e⟩ := h
    cases e
    obtain ⟨h1, n1⟩ := tgts_ok ft wf h
    obtain ⟨a1, a2⟩ := assign_len (env := X.env) n1
    exact ⟨jg_tup ft.hK ft.calm h1 a1 a2, rfl⟩
/-! blocks -/
theorem blk_ok {scope sc : Scope} (hs : sc.names = nm) (h : blkB N nm scope = true) : BlkOk N sc scope (ownOf N scope) := by
  unfold blkB at h
  simp only [Bool.and_eq_true, List.all_eq_true, decide_eq_true_eq, Bool.or_eq_true, Bool.not_eq_true', decide_eq_false_iff_not, Bool.or_eq_false_iff] at h
  obtain ⟨⟨⟨⟨h1, h2⟩, h3⟩, h4⟩, h5⟩ := h
  refine ⟨h1, h2, h3, fun y hy e => ?_, fun y hy e => ?_⟩
  · rw [hs]
    rcases h4 y hy with (z | z) | z
    · exact absurd e z
    · exact .inl z
    · exact .inr z
  · rcases h5 y hy with (z | z) | z
    · rcases e with e | e
      · exact absurd e z.1
      · exact absurd e z.2
    · exact .inl (by simpa using z)
    · exact .inr (by simpa using z)
theorem lookup_relab {nm : Nms} : ∀ (sn : Nms) (x : Str) (kd : NameKind), kd = .local ∨ kd = .cell → sn.lookup x = some kd → (relab nm sn).lookup x = some kd
  | [], x, kd, _, h => by cases h
  | (n, k) :: r, x, kd, hk, h => by
    unfold relab
    rw [List.map_cons]
    rw [List.lookup_cons] at h ⊢
    have e1 : (if (k == .free && nm.lookup n == some .cell) = true then (n, NameKind.cell) else (n, k)).1 = n := by split <;> rfl
    dsimp only
    rw [e1]
    cases hb : x == n with
    | true =>
      rw [hb] at h
      cases h
      rcases hk with rfl | rfl <;> rfl
    | false =>
      rw [hb] at h
      exact lookup_relab r x kd hk h
theorem relabel_names {scope : Scope} {env : Env} (hk : env.scope.kind = .function) : (relabel scope env).names = relab env.scope.names scope.names := by
  unfold relabel relab
  have : (env.scope.kind == .function) = true := by rw [hk]; rfl
  simp only [this, Bool.and_true]
  rfl
theorem fit_blk (ft : Fit G X k N nm) {s : Shared} {H : Hp} {scope : Scope} {C : Addr} {cl : List (Str × Addr)} {fp : List Addr} (hs : scope.kind = .function) : Fit G (X.blk s H scope (compEnvC scope cl C X.env) fp) k N (relab nm scope.names) :=
  ⟨ft.hK, ft.calm, ft.nd, ft.hN, (by show (relabel scope X.env).names = _; rw [relabel_names ft.kd, ft.hnm]), ft.room, hs⟩
theorem wfit_blk (ft : Fit G X k N nm) {s : Shared} {H : Hp} {scope : Scope} {C : Addr} {cl : List (Str × Addr)} {fp : List Addr} : WFit (X.blk s H scope (compEnvC scope cl C X.env) fp) scope.names where
  loc := fun x e => by
    show (relabel scope X.env).names.lookup x = _
    rw [relabel_names ft.kd]
    exact lookup_relab _ x _ (.inl rfl) e
  cel := fun x e => ⟨by
    show (relabel scope X.env).names.lookup x = _
    rw [relabel_names ft.kd]
    exact lookup_relab _ x _ (.inr rfl) e, by
    show (scope.names.lookup x == some .cell) = true
    rw [e]
    rfl⟩
def TabAll (G : Gd) (P : Program) (w : World) (mg : Str → Option Value) (base : Heap) (k : Nat) (B : Tab) : Prop := ∀ (X : Cx) (W : WX), X.prog = P → X.w = w → X.K = G.K → X.mg = mg → X.base = base → Room (k + 5) X.A → Takes X W → TabOk G X W k B
structure SameP (P : Program) (w : World) (mg : Str → Option Value) (base : Heap) (X : Cx) : Prop where
  p : X.prog = P
  w : X.w = w
  m : X.mg = mg
  b : X.base = base
end
end TL
namespace TL
open PySem PySem.Spec PyProof.Rows L2
section
variable {G : Gd} {P : Program} {w : World} {mg : Str → Option Value} {base : Heap} {k : Nat} {N : List Str} {B : Tab}
theorem jt_true {G : Gd} {X : Cx} {W : WX} : PTs X [] (tP G W RT (M.ret true)) := ⟨fun pins s σ H Q I h => by
  obtain ⟨En, F, S, fps, hd, sr, p⟩ := h
  exact pts_nil.run pins s σ H Q I (p.ok sr (Same.refl _) rfl)⟩
theorem takesW0 {X : Cx} : Takes X W0 := fun _ _ x => by
  obtain ⟨_, _, _, _, _, _, _, _, _, _, _, _, _, _, _, _, z⟩ := x
  exact z.elim
theorem jo_lc {X : Cx} {W : WX} {nm : Nms} {elt tg iter : Expr} {ifs : List Expr} {scope : Scope} {own : List (Str × Nat)} {pos : Pos} {mi : M (List T)} {g : Tgt} {is : List Nat} {c : M Bool} {e : M T} (hc : X.calm = true) (hN : X.N.Nodup) (hi : JI G X W tg iter mi) (ok : BlkOk X.N X.env.scope scope own)
    (hg : ∀ (s : Shared) (H : Hp) (C : Addr) (cl : List (Str × Addr)) (fp : List Addr), JG G (X.blk s H scope (compEnvC scope cl C X.env) fp) tg g is) (ht : ∀ (s : Shared) (H : Hp) (C : Addr) (cl : List (Str × Addr)) (fp : List Addr), PTs (X.blk s H scope (compEnvC scope cl C X.env) fp) ifs (tP G W0 RT c))
    (he : ∀ (s : Shared) (H : Hp) (C : Addr) (cl : List (Str × Addr)) (fp : List Addr), JE G (X.blk s H scope (compEnvC scope cl C X.env) fp) W0 elt e) (his : ∀ i ∈ is, i ∈ own.map (·.2)) (hs : ∀ x, foldedSetIterable iter X.env x = pure x) :
    JO G X W (.ListComp elt [⟨tg, iter, ifs, 0⟩] scope pos) (mLc (own.map (·.2)) mi g c e) := PE.imp (pe_lc hc hN hi ok hg ht he hs) fun σ H Q q => lc_step his q
theorem part_ok {X : Cx} {W : WX} {f : Expr → EvR} (h : ∀ e, RS G X W e (f e)) (lo : Option Expr) : JPart G X W lo (match lo with
    | none => M.ret none
    | some l => mPart (f l).e) := by
  cases lo with
  | none => exact jpart_none
  | some l => exact jpart_some (h l).e
theorem fit_lam {X : Cx} {nm : Nms} (ft : Fit G X k N nm) {A : Around} {outer : List Env} {s : Shared} {H : Hp} {E : XK} {scope : Scope} {f c' : Addr} (hs : scope.kind = .function) (hr : Room (k + 5) (A.deeper (LamX.lamEnv X scope s.heap.objs.size f c'))) : Fit G (LamX.lamCx X A outer s H E scope f c') k N scope.names :=
  ⟨ft.hK, rfl, ft.nd, ft.hN, rfl, hr, hs⟩
theorem lamS_of {nm : Nms} {scope sc : Scope} (hs : sc.names = nm) (h : lamB nm scope = true) : LamX.LamS sc scope := by
  refine LamX.lamS_by ?_
  unfold LamX.lamSB
  rw [hs]
  exact h
theorem noArgs_eq {ar : Arguments} (h : noArgs ar = true) : ar = ⟨[], [], none, [], [], none, []⟩ := by
  unfold noArgs at h
  split at h
  · rfl
  · cases h
theorem ev_ok (hA : TabAll G P w mg base k B) : ∀ (n : Nat) (on : Bool) (nm : Nms) (X : Cx) (W : WX) (e : Expr), Fit G X k N nm → SameP P w mg base X → Takes X W → LamCtx G X k on → RS G X W e (ev B N n on nm e)
  | 0, _, _, _, _, _, _, _, _, _ => RS.stuck
  | n + 1, on, nm, X, W, e, ft, sp, tk, hl => by
    have hB := hA X W sp.p sp.w ft.hK sp.m sp.b ft.room tk
    have ih : ∀ e, RS G X W e (ev B N n on nm e) := fun e => ev_ok hA n on nm X W e ft sp tk hl
    have hu : X.A.units + 65 < cLine := by have := ft.room.un; omega
    have hK := ft.hK
    unfold ev
    split
    · -- Constant
      split
      · exact RS.ofE je_int rfl
      · exact RS.ofE je_bl rfl
      · exact RS.ofE je_non rfl
      · exact RS.ofE je_str rfl
      · exact RS.stuck
    · -- Name
      rename_i y p
      split
      · rename_i i hi
        have hv := slot_var ft (pos := p) hi
        exact ⟨jo_nm hv, je_nm hv, jt_val (je_nm hv) (true_plain rfl), jb_nm hv⟩
      · split
        · rename_i hg
          split
          · rename_i t ht
            obtain ⟨u, v, h1, h2, h3⟩ := hB.cst y t ht
            obtain ⟨g1, g2, g3⟩ := gl_name ft hg
            exact RS.ofE (je_cst (pe_glob g1 h1 h2 g2) h3) rfl
          · exact RS.stuck
        · exact RS.stuck
    · -- BinOp
      split
      · rename_i f hf
        obtain ⟨r, ho, sp'⟩ := binT_ok hK hf
        split
        · rename_i i hi
          obtain ⟨y, p, rfl, hs⟩ := nmSlot_ok hi
          exact RS.ofO (jo_binN ho sp' (slot_var ft hs) (ih _).b) rfl
        · exact RS.ofO (jo_bin ho sp' (ih _).e (ih _).b) rfl
      · exact RS.stuck
    · -- UnaryOp
      split
      · exact RS.ofT (je_not (ih _).e) (jt_not (ih _).t)
      · exact RS.ofO (jo_un un_neg sp_neg (ih _).b) rfl
      · exact RS.stuck
    · -- BoolOp
      exact RS.ofT (evV_ok fun e _ => ih e) (jw_t (evW_ok fun e _ => ih e))
    · -- Compare 1
      split
      · exact RS.ofT (je_eqA hK ft.room hB.isi hB.eqt (ih _).e (ih _).e) (jt_eqA hK ft.room hB.isi hB.eqt (ih _).e (ih _).e)
      · exact RS.ofT (je_neA hK ft.room hB.isi hB.eqt (ih _).e (ih _).e) (jt_neA hK ft.room hB.isi hB.eqt (ih _).e (ih _).e)
      · split
        · rename_i f hf
          obtain ⟨r, ho, sp', mo⟩ := cmpT_ok hK hu hf
          split
          · exact RS.stuck
          · rename_i hset
            have hb' := Bool.eq_false_iff.mpr hset
            split
            · rename_i i hi
              obtain ⟨y, p, rfl, hs⟩ := nmSlot_ok hi
              exact RS.ofT (je_cmpN ho sp' mo (slot_var ft hs) (ih _).b (marks_no hb')) (jt_cmpN ho sp' (slot_var ft hs) (ih _).b (marks_no hb'))
            · exact RS.ofT (je_cmp ho sp' mo (ih _).e (ih _).b (marks_no hb')) (jt_cmp ho sp' (ih _).e (ih _).b (marks_no hb'))
        · exact RS.stuck
    · -- Compare 2
      split
      · rename_i f f' hf hf'
        obtain ⟨r, ho, sp', mo⟩ := cmpT_ok hK hu hf
        obtain ⟨r', ho', sp'', mo'⟩ := cmpT_ok hK hu hf'
        split
        · exact RS.stuck
        · rename_i hset
          have hb' := Bool.eq_false_iff.mpr hset
          exact RS.ofT (je_chain ho ho' sp' sp'' mo mo' (ih _).e (ih _).e (ih _).b (marks_no hb')) (jt_chain ho ho' sp' sp'' (ih _).e (ih _).e (ih _).b (marks_no hb'))
      · exact RS.stuck
    · -- IfExp
      exact ⟨jo_if (ih _).t (ih _).o (ih _).o, je_if (ih _).t (ih _).e (ih _).e, jt_stuck, (je_if (ih _).t (ih _).e (ih _).e).jb⟩
    · -- Tuple
      split
      · rename_i hs
        exact RS.ofE (je_tup (jl_of hs fun e _ => ih e)) rfl
      · exact RS.stuck
    · -- List
      split
      · rename_i hs
        exact RS.ofO (jo_lst (jl_of hs fun e _ => ih e)) rfl
      · exact RS.stuck
    · -- Attribute
      split
      · rename_i hs
        exact RS.ofE (je_fld hK (hB.fld _) (ih _).b (base_of hs _)) rfl
      · exact RS.stuck
    · exact RS.ofO (jo_rev hK (ih _).b) rfl
    · exact RS.ofO (jo_sl hK (ih _).e (part_ok ih _) (part_ok ih _)) rfl
    · -- Subscript
      split
      · exact RS.stuck
      · rename_i hsl
        have hp := plain_ix (by simpa using hsl)
        split
        · rename_i j hj
          obtain ⟨y, p, rfl, hs⟩ := nmSlot_ok hj
          exact RS.ofO (jo_ixH hK hp (slot_var ft hs) (ih _).b) rfl
        · exact RS.ofO (jo_ix ix_A hp (by rw [hK]; exact sp_ix) (ih _).e (ih _).b) rfl
    · -- Call
      split
      · split
        · split
          · rename_i hx
            have hx := eq_of_beq hx
            subst hx
            split
            · exact isiN_ok ft hB (ih _)
            · exact RS.stuck
          · split
            · rename_i hx
              have hx := eq_of_beq hx
              subst hx
              split
              · split
                · rename_i hc
                  obtain ⟨h1, h2, h3, h4, h5, h6⟩ := hc
                  have h3 := eq_of_beq h3
                  subst h3
                  exact RS.ofO (jo_listRg ft.calm (gl_name ft h1).1 (hB.bl _ h4) (gl_name ft h2).1 (hB.bl _ h5) (ih _).b (star_cons h6 []) (star_cons rfl [])) rfl
                · exact callN_ok ft hB fun e _ => ih e
              · exact callN_ok ft hB fun e _ => ih e
            · split
              · rename_i x p _ _ _ _ _ _ ar body scope lpos
                split
                · rename_i hc
                  obtain ⟨hon, hg, har, hlb⟩ := hc
                  split
                  · rename_i C f hlam
                    obtain ⟨h1, h2, h3⟩ := gl_name ft hg
                    obtain ⟨hr, c, P', LA⟩ := hl hon
                    obtain ⟨a, g, pg, bg, sg, dV, kV, doc, pm, cdv, ct, oc, an, od, osl, Ng, q1, q2, q3, q4, q5, q6, q7, q8, q9, q10, q11, q12⟩ := hB.lam _ _ _ hlam
                    have har := noArgs_eq har
                    subst har
                    have hk : scope.kind = .function := (lamS_of (sc := X.env.scope) ft.hnm hlb).kind
                    refine RS.ofO (PE.imp (pe_lamcall3 (T := G.tabs) (k := k + 5) (t := fun E => tP G (fun cls d _ H => E cls d H) (RO G) (ev B N n false scope.names body).o) h1 q1 q2 q3 q4 q5 q6 q7 q8 (q9 _) LA.tb LA.code LA.mem LA.uni hr (lamS_of ft.hnm hlb) rfl (fun _ _ _ _ _ => rfl)
                      (fun A outer s H E f c' hr => (ev_ok hA n false scope.names _ (fun cls d _ H => E cls d H) body (fit_lam ft hk hr) ⟨sp.p, sp.w, sp.m, sp.b⟩ (takes_of rfl rfl rfl rfl) LamCtx.off).o) h2 q10 q11) fun σ H Q q => lam_step LA.mem q12 q) rfl
                  · exact RS.stuck
                · exact RS.stuck
              · exact callN_ok ft hB fun e _ => ih e
        · exact callK_ok ft hB (fun e _ => ih e) fun c _ => ih c.value
      · split
        · split
          · rename_i hi ho
            obtain ⟨y, p, rfl, hs⟩ := nmSlot_ok hi
            exact mutN_ok ft hs ho fun e _ => ih e
          · exact methN_ok ft hB (ih _) fun e _ => ih e
        · exact RS.stuck
      · exact RS.stuck
    · -- ListComp
      rename_i elt tg iter ifs scope pos
      split
      · rename_i hb
        split
        · rename_i g is htg
          split
          · rename_i his
            have hk : scope.kind = .function := by
              have h := hb.1
              unfold blkB at h
              simp only [Bool.and_eq_true, decide_eq_true_eq] at h
              exact h.1.1.1.1
            have ih2 : ∀ e s H C cl fp, RS G (X.blk s H scope (compEnvC scope cl C X.env) fp) W0 e (ev B N n false (relab nm scope.names) e) := fun e s H C cl fp => ev_ok hA n false _ _ W0 e (fit_blk ft hk) ⟨sp.p, sp.w, sp.m, sp.b⟩ takesW0 LamCtx.off
            have hown := blk_ok (sc := X.env.scope) ft.hnm hb.1
            rw [← ft.hN] at hown
            have hit := itemsR_ok (tg := tg) ft hB (ih iter) fun x p es pos _ e _ => ih e
            refine RS.ofO (jo_lc (nm := nm) ft.calm ft.nd hit ?_ (fun s H C cl fp => (tgtOf_ok (fit_blk ft hk) (wfit_blk ft) htg).1) (fun s H C cl fp => ?_) (fun s H C cl fp => (ih2 elt s H C cl fp).e) (fun i m => by simpa using List.all_eq_true.mp his i m) (folded_no hb.2)) rfl
            · rw [ft.hN] at hown ⊢; exact hown
            · split
              · exact jt_true
              · exact pts_one (ih2 _ s H C cl fp).t
              · exact ⟨fun _ _ _ _ _ _ h => (stuck_of h).elim⟩
          · exact RS.stuck
        · exact RS.stuck
      · exact RS.stuck
    · -- ListComp 2
      rename_i elt tg iter ifs tg1 iter1 ifs1 scope pos
      split
      · rename_i hb
        split
        · rename_i g is g1 is1 htg htg1
          split
          · rename_i his
            have hk : scope.kind = .function := by
              have h := hb.1
              unfold blkB at h
              simp only [Bool.and_eq_true, decide_eq_true_eq] at h
              exact h.1.1.1.1
            have ih2 : ∀ e s H C cl fp, RS G (X.blk s H scope (compEnvC scope cl C X.env) fp) W0 e (ev B N n false (relab nm scope.names) e) := fun e s H C cl fp => ev_ok hA n false _ _ W0 e (fit_blk ft hk) ⟨sp.p, sp.w, sp.m, sp.b⟩ takesW0 LamCtx.off
            have hown := blk_ok (sc := X.env.scope) ft.hnm hb.1
            rw [← ft.hN] at hown
            have hit := itemsR_ok (tg := tg) ft hB (ih iter) fun x p es pos _ e _ => ih e
            have hv : ∀ i ∈ is1, i ∈ (ownOf N scope).map (·.2) := fun i m => by simpa using List.all_eq_true.mp his.2 i m
            have hifs : ∀ (l : List Expr) s H C cl fp, PTs (X.blk s H scope (compEnvC scope cl C X.env) fp) l (tP G W0 RT (match l with
              | [] => M.ret true
              | [c] => (ev B N n false (relab nm scope.names) c).t
              | _ => M.stuck)) := fun l s H C cl fp => by
              split
              · exact jt_true
              · exact pts_one (ih2 _ s H C cl fp).t
              · exact ⟨fun _ _ _ _ _ _ h => (stuck_of h).elim⟩
            refine RS.ofO (PE.imp (pe_lc2 (own := ownOf N scope) (vs1 := is1) ft.calm ft.nd hit (by rw [ft.hN] at hown ⊢; exact hown) hv (fun s H C cl fp => (tgtOf_ok (fit_blk ft hk) (wfit_blk ft) htg).1) (fun s H C cl fp => hifs ifs s H C cl fp)
              (fun s H C cl fp => itemsR_ok (tg := tg1) (k := k) (fit_blk ft hk) (hA _ W0 sp.p sp.w ft.hK sp.m sp.b ft.room takesW0) (ih2 iter1 s H C cl fp) fun x p es pos _ e _ => ih2 e s H C cl fp) (fun s H C cl fp => (tgtOf_ok (fit_blk ft hk) (wfit_blk ft) htg1).1) (fun s H C cl fp => hifs ifs1 s H C cl fp) (fun s H C cl fp => (ih2 elt s H C cl fp).e) (folded_no hb.2.1) (fun env x => folded_no hb.2.2 x)) fun σ H Q q => lc_step2 (fun i m => by simpa using List.all_eq_true.mp his.1 i m) (fun i m => m) hv q) rfl
          · exact RS.stuck
        · exact RS.stuck
      · exact RS.stuck
    · exact RS.stuck
end
end TL
namespace TL
open PySem PySem.Spec PyProof.Rows L2
/-! ### which statements swap -/
def swB (nm : Nms) (x : Str) (px : Pos) (scope : Scope) (p : Pos) : Bool := nm.lookup x == some .local && px.line == p.line && !(scope.names.any fun (n, k) => n == x && (k == .local || k == .cell))
def parB (nm : Nms) (x y : Str) (px py : Pos) (a b : Expr) : Bool := nm.lookup x == some .local && nm.lookup y == some .local && py.line == px.line && x != y && noStar a && noStar b && !([a, b].all (foldedForSure 8)) && !([a, b].all (constantsAlone 8))
def isTupL : Expr → Bool
  | .Tuple _ _ _ => true
  | .List _ _ => true
  | _ => false
def isTgS : Expr → Bool
  | .Subscript _ _ _ => true
  | .Attribute _ _ _ => true
  | .Name _ _ => true
  | _ => false
/-- plain stores -/
def noSwap (tg e : Expr) : Bool := match e with
  | .Tuple vs _ _ => vs.all noStar && vs.all (foldedForSure 8)
  | _ => true
section
variable {G : Gd} {X : Cx} {W : WX} {k : Nat} {N : List Str} {nm : Nms}
theorem kind_b (ft : Fit G X k N nm) : X.env.blockKind = .function := by
  unfold Env.blockKind
  rw [ft.kd]
  rfl
theorem kind_of (ft : Fit G X k N nm) (x : Str) : X.env.kindOf x = nm.lookup x := by
  unfold Env.kindOf
  rw [ft.hnm]
theorem swaps_lc (ft : Fit G X k N nm) {elt : Expr} {gs : List Comprehension} {scope : Scope} {p px : Pos} {x : Str} {line : Nat} : swapsWith (.ListComp elt gs scope p) (some (.Name x px)) line X.env = pure (swB nm x px scope p) := by
  have e : swapsWith (.ListComp elt gs scope p) (some (.Name x px)) line X.env = pure (X.env.blockKind == .function && X.env.kindOf x == some .local && px.line == p.line && !(scope.names.any fun (n, k) => n == x && (k == .local || k == .cell))) := rfl
  rw [e, kind_b ft, kind_of ft]
  rfl
theorem noStar_any {vs : List Expr} (h : vs.all noStar = true) : (vs.any fun | .Starred .. => true | _ => false) = false := by
  rw [List.any_eq_false]
  intro x hx
  have := List.all_eq_true.mp h x hx
  cases x <;> simp_all [noStar]
theorem swap_par (ft : Fit G X k N nm) {x y : Str} {px py pt pt2 : Pos} {kt k2 : Nat} {a b : Expr} (h : parB nm x y px py a b = true) : swappedStores [.Tuple [.Name x px, .Name y py] kt pt] (.Tuple [a, b] k2 pt2) X.env = pure (some [x, y]) := by
  unfold parB at h
  simp only [Bool.and_eq_true, Bool.not_eq_true', bne_iff_ne, ne_eq, beq_iff_eq] at h
  obtain ⟨⟨⟨⟨⟨⟨⟨h1, h2⟩, h3⟩, h4⟩, h5⟩, h6⟩, h7⟩, h8⟩ := h
  have hv : ([a, b].any fun | .Starred .. => true | _ => false) = false := by
    exact noStar_any (by simp [h5, h6])
  unfold swappedStores
  dsimp only
  rw [kind_b ft]
  refine (if_neg (fun z => Bool.noConfusion (show false = true from z))).trans ?_
  refine (if_neg (fun z => ?_)).trans ?_
  · have z : ([a, b].any fun | .Starred .. => true | _ => false) = true := z
    rw [hv] at z
    cases z
  · have e3 : (([Expr.Name x px, Expr.Name y py].head?.map (·.pos.line)).getD 0) = px.line := rfl
    have hyx : (y == x) = false := by simpa using fun z => h4 z.symm
    have hxy : (x == y) = false := by simpa using h4
    simp only [e3, List.filterMap_cons, List.filterMap_nil, kind_of ft, h1, h2, h3, h7, h8]
    simp [List.eraseDups_cons, hyx, hxy, List.filter]
theorem swap_no1 {ts : List Expr} {kt : Nat} {pt : Pos} {e : Expr} (h : noSwap (.Tuple ts kt pt) e = true) : swappedStores [.Tuple ts kt pt] e X.env = pure none := by
  cases e with
  | Tuple vs k2 p2 =>
    have h : (vs.all noStar && vs.all (foldedForSure 8)) = true := h
    rw [Bool.and_eq_true] at h
    have hv : (vs.any fun | .Starred .. => true | _ => false) = false := noStar_any h.1
    unfold swappedStores
    dsimp only
    split
    · rfl
    · split
      · rfl
      · split
        · rfl
        · exact if_pos h.2
  | _ => rfl
theorem swap_no2 {o i : Expr} {p : Pos} {e : Expr} : swappedStores [.Subscript o i p] e X.env = pure none := by
  cases e <;> rfl
theorem sub_asg {o i : Expr} {p : Pos} (h : isSl i = false) : ∀ v, assign (.Subscript o i p) X.env v = (do
      let ov ← holding [v] (eval o X.env)
      let iv ← holding [v, ov] (eval i X.env)
      standAt p
      holding [v, ov, iv] (setItem ov iv v)
      release [v, ov, iv] []) := fun v => by
  cases i <;> first | rfl | cases h
theorem swaps_att {o : Expr} {f : Str} {p : Pos} {line : Nat} {e : Expr} : swapsWith e (some (.Attribute o f p)) line X.env = pure false := by
  cases e <;> rfl
end
end TL
namespace TL
open PySem PySem.Spec PyProof.Rows L2
def sStk : Stm := fun _ _ => none
def evBlk (f : Stmt → Stm) (l : List Stmt) : Stm := l.foldr (fun st m => sSeq (f st) m) sNext
def isLc1 : Expr → Bool
  | .ListComp _ [⟨_, _, _, 0⟩] _ _ => true
  | _ => false
def evS (B : Tab) (N : List Str) (on : Bool) : Nat → Nms → Stmt → Stm
  | 0, _, _ => sStk
  | n + 1, nm, st => match st with
    | .Pass _ => sNext
    | .Continue _ => sCont
    | .Expr e _ => if isComp e = true then sStk else sDrop (ev B N n on nm e).e
    | .Return (some e) _ => sRet (ev B N n on nm e).o
    | .Return none _ => sRetN
    | .If c a b _ => sIf (ev B N n on nm c).t (evBlk (evS B N on n nm) a) (evBlk (evS B N on n nm) b)
    | .For tg iter body [] _ => if isSet iter = true then sStk else (match tgtOf N nm tg with
      | some (g, _) => sFor (ev.itemsR B nm tg iter (ev B N n on nm iter) ((argsOf iter).map (ev B N n on nm))) g (evBlk (evS B N on n nm) body)
      | none => sStk)
    | .Assign [.Name x _] e _ => (match locOf N nm x with
      | some i => if isComp e = true ∧ isLc1 e = false then sStk else sPut i (ev B N n on nm e).o
      | none => sStk)
    | .Assign [.Tuple ts kt pt] e _ => (match ts, e with
      | [.Name x px, .Name y py], .Tuple [a, b] _ _ => if parB nm x y px py a b = true then (match locOf N nm x, locOf N nm y with
          | some i, some j => if i = j then sStk else sPar i j (ev B N n on nm a).o (ev B N n on nm b).o
          | _, _ => sStk) else sStk
      | ts, e => if noSwap (.Tuple ts kt pt) e = true ∧ isComp e = false then (match tgtOf N nm (.Tuple ts kt pt) with
          | some (g, _) => sUnp g (ev B N n on nm e).e
          | none => sStk) else sStk)
    | .Assign [.Subscript o i _] e _ => (match nmSlot N nm o with
      | some j => if isSl i = true ∨ isComp e = true then sStk else sSubH j (ev B N n on nm i).e (ev B N n on nm e).e
      | none => sStk)
    | .Assign [.Attribute o f _] e _ => (match nmSlot N nm o with
      | some j => sFldI (B.fld f) j f (ev B N n on nm e).e
      | none => sStk)
    | .Raise (some (.Call (.Name C _) es [] _)) none _ => if glB nm C = true ∧ es.all noStar = true ∧ es ≠ [] then (match B.exc C with
      | some (c, s) => sRaise C c s (evL (es.map (ev B N n on nm)))
      | none => sStk) else sStk
    | _ => sStk
section
variable {G : Gd} {P : Program} {w : World} {mg : Str → Option Value} {base : Heap} {k : Nat} {N : List Str} {B : Tab} {on : Bool}
theorem js_stk {X : Cx} {W : WX} {st : Stmt} : JS G X W st sStk := ⟨fun _ _ _ _ _ _ h => by
  obtain ⟨En, F, S, fps, hd, sr, p⟩ := h
  exact p.elim⟩
theorem jss_of {X : Cx} {W : WX} {f : Stmt → Stm} : ∀ {l : List Stmt}, (∀ st ∈ l, JS G X W st (f st)) → JSs G X W l (evBlk f l)
  | [], _ => jss_nil
  | st :: l, h => jss_cons (h st List.mem_cons_self) (jss_of fun x m => h x (List.mem_cons_of_mem _ m))
theorem jo_sstuck {X : Cx} {W : WX} {i : Nat} {st : Stmt} : JS G X W st (sPut i M.stuck) := ⟨fun _ _ _ _ _ _ h => by
  obtain ⟨En, F, S, fps, hd, sr, p⟩ := h
  exact p.elim⟩
theorem js_asgQ {X : Cx} {W : WX} {i : Nat} {x : Str} {e : Expr} {m : M OT} {p' pos : Pos} {te : TE} (h : PS X (.Assign [.Name x p'] e pos) (tAsg te (gName i))) (he : ∀ σ H Q, tP G W (RO G) m σ H Q → te σ H Q) : JS G X W (.Assign [.Name x p'] e pos) (sPut i m) := PS.imp h fun D σ H q => by
  obtain ⟨En, q⟩ := q
  obtain ⟨F0, q⟩ := sBind_step (R := RO G En) q
  refine he _ _ _ ⟨En, q.mono fun v H1 ⟨ot, F1, S1, fps1, hd1, sr, s, r, p⟩ => ?_⟩
  split at p
  · rename_i S' e
    obtain ⟨fps', sr'⟩ := sr.set e r
    exact p _ H1 F1 fps' sr' (Same.refl _)
  · exact p.elim
/-- name = [..] -/
theorem js_lc (hA : TabAll G P w mg base k B) {n : Nat} {nm : Nms} {X : Cx} {W : WX} (ft : Fit G X k N nm) (wf : WFit X nm) (sp : SameP P w mg base X) (tk : Takes X W) (hl : LamCtx G X k on) {i : Nat} {x : Str} {px pos : Pos} {e : Expr} (hi : locOf N nm x = some i) (hc : isLc1 e = true) : JS G X W (.Assign [.Name x px] e pos) (sPut i (ev B N n on nm e).o) := by
  obtain ⟨h1, h2, h3⟩ := loc_gl ft wf hi
  unfold isLc1 at hc
  split at hc
  · rename_i elt tg iter ifs scope p
    cases hsw : swB nm x px scope p with
    | false => exact js_asg (fun te he => ps_set ft.nd h1 h2 he (by rw [swaps_lc ft, hsw]) h3) (ev_ok hA n on nm X W _ ft sp tk hl).o
    | true =>
      have hyl : X.env.scope.names.lookup x = some .local := by
        unfold swB at hsw
        simp only [Bool.and_eq_true, beq_iff_eq] at hsw
        rw [ft.hnm]
        exact hsw.1.1
      cases n with
      | zero => exact jo_sstuck
      | succ n =>
        have hB := hA X W sp.p sp.w ft.hK sp.m sp.b ft.room tk
        have ih : ∀ e, RS G X W e (ev B N n on nm e) := fun e => ev_ok hA n on nm X W e ft sp tk hl
        have e0 : ev B N (n + 1) on nm (.ListComp elt [⟨tg, iter, ifs, 0⟩] scope p) = (if blkB N nm scope = true ∧ isSet iter = false then (match tgtOf N scope.names tg with
          | some (g, is) => if is.all (fun i => ((ownOf N scope).map (·.2)).contains i) = true then EvR.ofO (mLc ((ownOf N scope).map (·.2))
              (ev.itemsR B nm tg iter (ev B N n on nm iter) ((argsOf iter).map (ev B N n on nm)))
              g (match ifs with
                | [] => M.ret true
                | [c] => (ev B N n false (relab nm scope.names) c).t
                | _ => M.stuck) (ev B N n false (relab nm scope.names) elt).e) else .stuck
          | none => .stuck) else .stuck) := by rfl
        rw [e0]
        split
        · rename_i hb
          split
          · rename_i g is htg
            split
            · rename_i his
              have hk : scope.kind = .function := by
                have h := hb.1
                unfold blkB at h
                simp only [Bool.and_eq_true, decide_eq_true_eq] at h
                exact h.1.1.1.1
              have ih2 : ∀ e s H C cl fp, RS G (X.blk s H scope (compEnvC scope cl C X.env) fp) W0 e (ev B N n false (relab nm scope.names) e) := fun e s H C cl fp => ev_ok hA n false _ _ W0 e (fit_blk ft hk) ⟨sp.p, sp.w, sp.m, sp.b⟩ takesW0 LamCtx.off
              have hown := blk_ok (sc := X.env.scope) ft.hnm hb.1
              rw [← ft.hN] at hown
              have hit := itemsR_ok (tg := tg) ft hB (ih iter) fun x p es pos _ e _ => ih e
              refine js_asgQ (ps_setLc ft.calm ft.nd h1 hyl (by rw [swaps_lc ft, hsw]) hit (own := ownOf N scope) (by rw [ft.hN] at hown ⊢; exact hown) (fun s H C cl fp => (tgtOf_ok (fit_blk ft hk) (wfit_blk ft) htg).1) (fun s H C cl fp => ?_) (fun s H C cl fp => (ih2 elt s H C cl fp).e) (folded_no hb.2)) fun σ H Q q => lc_step (fun i m => by simpa using List.all_eq_true.mp his i m) q
              split
              · exact jt_true
              · exact pts_one (ih2 _ s H C cl fp).t
              · exact ⟨fun _ _ _ _ _ _ h => (stuck_of h).elim⟩
            · exact jo_sstuck
          · exact jo_sstuck
        · exact jo_sstuck
  · cases hc
theorem swaps_sole {t e : Expr} {l : Nat} {env : Env} (h : isComp e = false) : swapsWithSole [t] e l env = pure false := by
  cases e <;> first | rfl | cases h
theorem locOf_ix {nm : Nms} {x : Str} {i : Nat} (h : locOf N nm x = some i) : N[i]? = some x := by
  unfold locOf at h
  split at h
  · exact ixOf_get h
  · cases h
theorem evS_ok (hA : TabAll G P w mg base k B) {nm : Nms} {X : Cx} {W : WX} (ft : Fit G X k N nm) (wf : WFit X nm) (sp : SameP P w mg base X) (tk : Takes X W) (hp : PassesOwn (model X.prog X.w) X.A X.env X.xe) (hl : LamCtx G X k on) : ∀ (n : Nat) (st : Stmt), JS G X W st (evS B N on n nm st)
  | 0, _ => js_stk
  | n + 1, st => by
    have hB := hA X W sp.p sp.w ft.hK sp.m sp.b ft.room tk
    have ih : ∀ e, RS G X W e (ev B N n on nm e) := fun e => ev_ok hA n on nm X W e ft sp tk hl
    have ihS : ∀ l, JSs G X W l (evBlk (evS B N on n nm) l) := fun l => jss_of fun st _ => evS_ok hA ft wf sp tk hp hl n st
    unfold evS
    split
    · exact js_pass
    · exact js_continue
    · split
      · exact js_stk
      · rename_i hc
        exact js_expr (ih _).e (swaps_no (Bool.eq_false_iff.mpr hc))
    · exact js_ret (ih _).o
    · exact js_retN
    · exact js_if (ih _).t (ihS _) (ihS _)
    · rename_i tg iter body _
      split
      · exact js_stk
      · rename_i hs
        split
        · rename_i g is htg
          exact js_for hp ft.calm (itemsR_ok (tg := tg) ft hB (ih iter) fun x p es pos _ e _ => ih e) (tgtOf_ok ft wf htg).1 (ihS body) (folded_no (Bool.eq_false_iff.mpr hs))
        · exact js_stk
    · split
      · rename_i i hi
        split
        · exact js_stk
        · rename_i hc
          rename_i x px e pos _
          obtain ⟨h1, h2, h3⟩ := loc_gl ft wf hi
          cases hlc : isLc1 e with
          | true => exact js_lc hA ft wf sp tk hl hi hlc
          | false =>
            have hc : isComp e = false := by
              cases q : isComp e with
              | false => rfl
              | true => exact absurd ⟨q, hlc⟩ hc
            exact js_asg (fun te he => ps_set ft.nd h1 h2 he (swaps_no hc) h3) (ih e).o
      · exact js_stk
    · split
      · split
        · rename_i hpar
          split
          · rename_i i j hi hj
            split
            · exact js_stk
            · rename_i hij
              have hpar' := hpar
              unfold parB at hpar'
              simp only [Bool.and_eq_true, Bool.not_eq_true', beq_iff_eq] at hpar'
              obtain ⟨⟨⟨⟨⟨⟨⟨q1, q2⟩, q3⟩, q4⟩, q5⟩, q6⟩, q7⟩, q8⟩ := hpar'
              obtain ⟨a1, a2, a3⟩ := loc_gl ft wf hi
              obtain ⟨b1, b2, b3⟩ := loc_gl ft wf hj
              exact js_par (ih _).o (ih _).o (fun ta pa => ps_par ft.calm ft.nd a1 b1 hij (by rw [ft.hnm]; exact q1) (by rw [ft.hnm]; exact q2) pa (swap_par ft hpar)) (star_cons q5 _) (star_cons q6 _)
          · exact js_stk
        · exact js_stk
      · split
        · rename_i hc
          split
          · rename_i g is htg
            obtain ⟨t1, t2⟩ := tgtOf_ok ft wf htg
            exact js_unp (ih _).e t1 (swaps_sole hc.2) (swap_no1 hc.1) (by rw [assign_cons t2 []]; rfl)
          · exact js_stk
        · exact js_stk
    · split
      · rename_i j hj
        obtain ⟨y, p, rfl, hs⟩ := nmSlot_ok hj
        split
        · exact js_stk
        · rename_i hc
          have h1 : isSl _ = false := Bool.eq_false_iff.mpr fun z => hc (.inl z)
          have h2 : isComp _ = false := Bool.eq_false_iff.mpr fun z => hc (.inr z)
          exact js_subH (slot_var ft hs) (ih _).e (ih _).e (sub_asg h1) (swaps_sole h2) swap_no2 rfl
      · exact js_stk
    · split
      · rename_i j hj
        obtain ⟨y, p, rfl, hs⟩ := nmSlot_ok hj
        exact js_fldI ft.hK (hB.fld _) (slot_var ft hs) (ih _).e swaps_att
      · exact js_stk
    · split
      · rename_i hc
        obtain ⟨hg, hs, hne⟩ := hc
        obtain ⟨g1, g2, g3⟩ := gl_name ft hg
        split
        · rename_i c st' hx
          rename_i C p es pos pos' _
          cases es with
          | nil => exact absurd rfl hne
          | cons e es =>
            have hs' := hs
            rw [List.all_cons, Bool.and_eq_true] at hs'
            exact js_raise ft.calm tk (hB.exc _ _ _ hx g1 g2) (jl_of hs fun e _ => ih e) (star_cons hs'.1 es) (star_any hs'.2)
        · exact js_stk
      · exact js_stk
    · exact js_stk
end
end TL
namespace TL
open PySem PySem.Spec PyProof.Rows L2
/-! ### where a parameter's value comes from -/
inductive Src where
  | p (i : Nat)
  | k (i : Nat)
  | d (i : Nat)
  | m (i : Nat)
def Src.get {α : Type} (vs ds mz zs : List α) : Src → Option α
  | .p i => vs[i]?
  | .k i => zs[i]?
  | .d i => ds[i]?
  | .m i => mz[i]?
def srcL {α : Type} (src : List Src) (vs ds mz zs : List α) : List α := src.filterMap (Src.get vs ds mz zs)
def Src.up : Src → Src
  | .p i => .p (i + 1)
  | s => s
theorem srcL_up {α : Type} (src : List Src) (v : α) (vs ds mz zs : List α) : srcL (.p 0 :: src.map Src.up) (v :: vs) ds mz zs = v :: srcL src vs ds mz zs := by
  unfold srcL
  rw [List.filterMap_cons]
  show v :: _ = _
  rw [List.filterMap_map]
  congr 1
  have e : (Src.get (v :: vs) ds mz zs ∘ Src.up) = Src.get vs ds mz zs := funext fun s => by
    cases s <;> rfl
  rw [e]
theorem valsGet2 : ∀ {vs : List V} {us : List Value}, Vals vs us → ∀ i : Nat, (vs[i]? = none ∧ us[i]? = none) ∨ ∃ v u, vs[i]? = some v ∧ us[i]? = some u ∧ RelV v u
  | _, _, .nil, i => .inl ⟨by simp, by simp⟩
  | _, _, .cons r q, 0 => .inr ⟨_, _, rfl, rfl, r⟩
  | _, _, .cons r q, i + 1 => by simpa using valsGet2 q i
theorem srcL_rel {src : List Src} {vs ds mz zs : List V} {us its mv ws : List Value} (h1 : Vals vs us) (h2 : Vals ds its) (h3 : Vals mz mv) (h4 : Vals zs ws) : Vals (srcL src vs ds mz zs) (srcL src us its mv ws) := by
  induction src with
  | nil => exact .nil
  | cons s src ih =>
    have key : (Src.get vs ds mz zs s = none ∧ Src.get us its mv ws s = none) ∨ ∃ v u, Src.get vs ds mz zs s = some v ∧ Src.get us its mv ws s = some u ∧ RelV v u := by
      cases s with
      | p i => exact valsGet2 h1 i
      | k i => exact valsGet2 h4 i
      | d i => exact valsGet2 h2 i
      | m i => exact valsGet2 h3 i
    unfold srcL
    rw [List.filterMap_cons, List.filterMap_cons]
    rcases key with ⟨e1, e2⟩ | ⟨v, u, e1, e2, r⟩
    · rw [e1, e2]; exact ih
    · rw [e1, e2]; exact .cons r ih
theorem Reps.get2 {G : Gd} {ha : HA} {F : Hp} : ∀ {ts : List T} {vs : List V}, Reps G ha F ts vs → ∀ i : Nat, (ts[i]? = none ∧ vs[i]? = none) ∨ ∃ t v, ts[i]? = some t ∧ vs[i]? = some v ∧ Rep G ha F t v
  | [], vs, h, i => by
    simp only [Reps] at h
    subst h
    exact .inl ⟨by simp, by simp⟩
  | t :: ts, vs, h, 0 => by
    simp only [Reps] at h
    obtain ⟨u, r, rfl, h1, _⟩ := h
    exact .inr ⟨_, _, rfl, rfl, h1⟩
  | t :: ts, vs, h, i + 1 => by
    simp only [Reps] at h
    obtain ⟨u, r, rfl, _, h2⟩ := h
    simpa using Reps.get2 h2 i
theorem srcL_reps {G : Gd} {ha : HA} {F : Hp} {src : List Src} {ts dt mt us : List T} {vs ds mz zs : List V} (h1 : Reps G ha F ts vs) (h2 : Reps G ha F dt ds) (h3 : Reps G ha F mt mz) (h4 : Reps G ha F us zs) : Reps G ha F (srcL src ts dt mt us) (srcL src vs ds mz zs) := by
  induction src with
  | nil => simp only [srcL, List.filterMap_nil, Reps]
  | cons s src ih =>
    have key : (Src.get ts dt mt us s = none ∧ Src.get vs ds mz zs s = none) ∨ ∃ t v, Src.get ts dt mt us s = some t ∧ Src.get vs ds mz zs s = some v ∧ Rep G ha F t v := by
      cases s with
      | p i => exact Reps.get2 h1 i
      | k i => exact Reps.get2 h4 i
      | d i => exact Reps.get2 h2 i
      | m i => exact Reps.get2 h3 i
    unfold srcL
    rw [List.filterMap_cons, List.filterMap_cons]
    rcases key with ⟨e1, e2⟩ | ⟨t, v, e1, e2, r⟩
    · rw [e1, e2]; exact ih
    · rw [e1, e2]
      simp only [Reps]
      exact ⟨v, _, rfl, r, ih⟩
/-- a def's call: the tree of each parameter -/
def srcF (n : Nat) (src : List Src) (dts mts : List T) (F : Fn) : Fn := fun ts hd => F (srcL src (ts.take n) dts mts (ts.drop n)) hd
def srcI (n : Nat) (src : List Src) (dts mts : List T) (F : Ini) : Ini := fun fs ts hd => F fs (srcL src (ts.take n) dts mts (ts.drop n)) hd
/-- what a call of this shape binds -/
def ShpOk (K : PySem.W.Frag) (fd : FuncData) (ps : List Str) (n : Nat) (ks : List Str) (src : List Src) (dvs mvs : List V) : Prop := ∃ its mv : List Value, KBn K fd ps n ks (fun us ws => srcL src us its mv ws) (fun vs zs => srcL src vs dvs mvs zs)
section
variable {K : PySem.W.Frag} {x qual : Str} {params : Arguments} {body : List Stmt} {scope : Scope} {dvs : List V} {kws : List (Str × V)} {f : Addr} {fd : FuncData} {ps : List Str} {n : Nat} {ks : List Str} {src : List Src}
/-- no defaults are taken -/
theorem shp_a (F : FunD K x qual params body scope [] kws f fd)
    (h : ∀ (kV doc pm : Value) (an : Option Addr) (cdv ct : Value) (us ws : List Value), us.length = n → ws.length = ks.length → bindArgs (PySem.W.fnOf x qual params body scope .none kV doc pm an cdv ct) ⟨us, ks.zip ws⟩ = pure (ps.zip (srcL src us [] [] ws))) : ShpOk K fd ps n ks src [] [] := by
  obtain ⟨oc, od, dV, kV, doc, pm, an, cdv, ct, osl, rfl, lk, hcd, hD, hK⟩ := F.ex
  rcases hD with ⟨_, rfl⟩ | ⟨e, _⟩
  · exact ⟨[], [], ⟨fun s us ws _ l1 l2 => .of_eq (h kV doc pm an cdv ct us ws l1 l2), fun r1 r2 => srcL_rel r1 .nil .nil r2⟩⟩
  · exact absurd rfl e
/-- positional defaults alone -/
theorem shp_d (F : FunD K x qual params body scope dvs kws f fd) (hd : dvs ≠ [])
    (h : ∀ (T : Addr) (kV doc pm : Value) (an : Option Addr) (cdv ct : Value) (us its ws : List Value), us.length = n → its.length = dvs.length → ws.length = ks.length →
      ∃ k, bindArgs (PySem.W.fnOf x qual params body scope (.ref T) kV doc pm an cdv ct) ⟨us, ks.zip ws⟩ = seqItems? (.ref T) >>= k ∧ k (some its.toArray) = pure (ps.zip (srcL src us its [] ws))) : ShpOk K fd ps n ks src dvs [] := by
  obtain ⟨its, h⟩ := F.kbindsD (ps := ps) n ks (fun us its ws => srcL src us its [] ws) hd (fun r1 r2 r3 => srcL_rel r1 r2 .nil r3) h
  exact ⟨its, [], h⟩
/-- keyword-only defaults alone -/
theorem shp_m (F : FunD K x qual params body scope [] kws f fd) (ms : List (Str × V)) (hk : kws ≠ []) (hms : ∀ q ∈ ms, q ∈ kws)
    (h : ∀ (D : Addr) (doc pm : Value) (an : Option Addr) (cdv ct : Value) (us mv ws : List Value), us.length = n → mv.length = ms.length → ws.length = ks.length →
      KwChain D ((ms.map (·.1)).zip mv) (bindArgs (PySem.W.fnOf x qual params body scope .none (.ref D) doc pm an cdv ct) ⟨us, ks.zip ws⟩) (ps.zip (srcL src us [] mv ws))) : ShpOk K fd ps n ks src [] (ms.map (·.2)) := by
  obtain ⟨mv, h⟩ := F.kbinds0 (ps := ps) n ks ms (fun us mv ws => srcL src us [] mv ws) hk hms (fun r1 r2 r3 => srcL_rel r1 .nil r2 r3) h
  exact ⟨[], mv, h⟩
/-- both -/
theorem shp_dm (F : FunD K x qual params body scope dvs kws f fd) (ms : List (Str × V)) (hd : dvs ≠ []) (hk : kws ≠ []) (hms : ∀ q ∈ ms, q ∈ kws)
    (h : ∀ (T D : Addr) (doc pm : Value) (an : Option Addr) (cdv ct : Value) (us its mv ws : List Value), us.length = n → its.length = dvs.length → mv.length = ms.length → ws.length = ks.length →
      ∃ k, bindArgs (PySem.W.fnOf x qual params body scope (.ref T) (.ref D) doc pm an cdv ct) ⟨us, ks.zip ws⟩ = seqItems? (.ref T) >>= k ∧ KwChain D ((ms.map (·.1)).zip mv) (k (some its.toArray)) (ps.zip (srcL src us its mv ws))) : ShpOk K fd ps n ks src dvs (ms.map (·.2)) := by
  obtain ⟨its, mv, h⟩ := F.kbinds (ps := ps) n ks ms (fun us its mv ws => srcL src us its mv ws) hd hk hms (fun r1 r2 r3 r4 => srcL_rel r1 r2 r3 r4) h
  exact ⟨its, mv, h⟩
end
section
variable {G : Gd} {X : Cx} {W : WX}
theorem run_fnNS {k n : Nat} {f : Addr} {fd : FuncData} {ps ks : List Str} {sp : Sp} {E : L2.St → XK} {g : List Value → List Value → List Value} {gV : List V → List V → List V} {pins : List (Addr × Obj)} {σ : L2.St} {H : Hp} {s : Shared} {Q : VK} {us ws : List Value} {vs zs : List V}
    (F : FnOk X.prog X.w X.K X.mg X.base (L2.CX X.prog X.w) k f fd ps sp) (hr : Room k X.A) (hb : KBn X.K fd ps n ks g gV) (hx : PassesAt (L2.CX X.prog X.w) X σ (E σ))
    (I : Inv X pins σ H s) (r : Vals vs us) (rz : Vals zs ws) (l1 : vs.length = n) (l2 : zs.length = ks.length) (h : sp (gV vs zs) H Q (E σ)) : wpAny (model X.prog X.w) X.A (call (.ref f) us (ks.zip ws)) (EP X pins σ Q) X.xe s := by
  have r2 := hb.rel r rz
  refine wpAny_call (codeAny_mono (F.run X.A X.stack s H ⟨us, ks.zip ws⟩ (g us ws) (gV vs zs) Q (E σ) hr I.env0 (hb.to s us ws I.kIn (r.length.symm.trans l1) (rz.length.symm.trans l2)) r2 h) fun r s' hq => ?_)
  cases r with
  | error e => exact hx pins H s e s' I hq
  | ok fl =>
    cases fl with
    | ret u => exact I.after hq
    | next => exact False.elim hq
    | brk => exact False.elim hq
    | cont => exact False.elim hq
theorem run_makeNS {k n : Nat} {f C : Addr} {fd : FuncData} {ps ks : List Str} {sp : Sp} {E : L2.St → XK} {g : List Value → List Value → List Value} {gV : List V → List V → List V} {pins : List (Addr × Obj)} {σ : L2.St} {H : Hp} {s : Shared} {Q : VK} {us ws : List Value} {vs zs : List V}
    (M : Mk X.K C f) (F : FnOk X.prog X.w X.K X.mg X.base (L2.CX X.prog X.w) k f fd ps sp) (hr : Room (k + 1) X.A) (hb : KBn X.K fd ps (n + 1) ks g gV)
    (hx : PassesAt (L2.CX X.prog X.w) X σ (E σ)) (I : Inv X pins σ H s) (r : Vals vs us) (rz : Vals zs ws) (l1 : vs.length = n) (l2 : zs.length = ks.length)
    (h : ∀ x dx, H x = none → H dx = none → dx ≠ x → sp (gV (.ref x :: vs) zs) (upd (upd H dx (.own x)) x (.ins C dx [])) (fun v H2 => v = .non ∧ Q (.ref x) H2) (E σ)) :
    wpAny (model X.prog X.w) X.A (call (.ref C) us (ks.zip ws)) (EP X pins σ Q) X.xe s := by
  have hq := h (s.heap.objs.size + 1) s.heap.objs.size (I.hok.fresh (Nat.le_succ _)) (I.hok.fresh (Nat.le_refl _)) (Nat.ne_of_lt (Nat.lt_succ_self _))
  have I2 := Inv.made (C := C) I
  have r1 : Vals (V.ref (s.heap.objs.size + 1) :: vs) (Value.ref (s.heap.objs.size + 1) :: us) := .cons rfl r
  have r2 := hb.rel r1 rz
  have e1 : (Value.ref (s.heap.objs.size + 1) :: us).length = n + 1 := r1.length.symm.trans (congrArg Nat.succ l1)
  have e2 : ws.length = ks.length := rz.length.symm.trans l2
  refine wpAny_call (make_map (f := f) I.kIn M.makes M.init (beq_iff_eq.mp M.fn) (codeAny_mono (F.run _ X.stack _ _ ⟨Value.ref (s.heap.objs.size + 1) :: us, ks.zip ws⟩ (g (Value.ref (s.heap.objs.size + 1) :: us) ws) _ _ (E σ) (hr.make C us (ks.zip ws))
    (I2.env0.make C us (ks.zip ws)) (hb.to _ (Value.ref (s.heap.objs.size + 1) :: us) ws I2.kIn e1 e2) r2 hq) fun r s' hq' => ?_))
  cases r with
  | error e => exact hx pins _ _ e s' I2 hq'
  | ok fl =>
    cases fl with
    | ret u =>
      obtain ⟨v, H', I3, rv, ev, q3⟩ := I2.after hq'
      subst ev
      exact ⟨rv, ⟨V.ref (s.heap.objs.size + 1), H', I3, rfl, q3⟩⟩
    | next => exact False.elim hq'
    | brk => exact False.elim hq'
    | cont => exact False.elim hq'
theorem Reps.split {ha : HA} {F : Hp} : ∀ {ts : List T} {vs zs : List V}, Reps G ha F ts (vs ++ zs) → Reps G ha F (ts.take vs.length) vs ∧ Reps G ha F (ts.drop vs.length) zs
  | ts, [], zs, h => by simpa [Reps] using h
  | [], v :: vs, zs, h => by simp only [Reps] at h; cases h
  | t :: ts, v :: vs, zs, h => by
    rw [List.cons_append] at h
    simp only [Reps] at h
    obtain ⟨u, r, e, h1, h2⟩ := h
    cases e
    obtain ⟨a, b⟩ := Reps.split h2
    simp only [List.length_cons, List.take_succ_cons, List.drop_succ_cons, Reps]
    exact ⟨⟨v, vs, rfl, h1, a⟩, b⟩
theorem SpT.src {F : Fn} {n m : Nat} {src : List Src} {dts mts : List T} {dvs mvs vs zs : List V} {H : Hp} {Q : VK} {E : XK} (f1 : Fix G dts dvs) (f2 : Fix G mts mvs) (hl : vs.length = n) (hm : (srcL src vs dvs mvs zs).length = m)
    (h : SpT G (n + zs.length) (srcF n src dts mts F) (vs ++ zs) H Q E) : SpT G m F (srcL src vs dvs mvs zs) H Q E := by
  obtain ⟨_, F0, ha, ts, hd, tb, s, hh, r, p⟩ := h
  obtain ⟨a, b⟩ := Reps.split r
  rw [hl] at a b
  exact ⟨hm, F0, ha, _, hd, tb, s, hh, srcL_reps a (f1 ha F0) (f2 ha F0) b, p⟩
theorem SpI.src {C : Str} {F : Ini} {n m : Nat} {src : List Src} {dts mts : List T} {dvs mvs vs zs : List V} {x : V} {H : Hp} {Q : VK} {E : XK} (f1 : Fix G dts dvs) (f2 : Fix G mts mvs) (hl : vs.length = n) (hm : (srcL src vs dvs mvs zs).length = m)
    (h : SpI G C (n + zs.length) (srcI n src dts mts F) (x :: (vs ++ zs)) H Q E) : SpI G C m F (x :: srcL src vs dvs mvs zs) H Q E := by
  obtain ⟨_, F0, ha, ts, hd, y, dx, us, fs, rest, e, hx, f0, nx, rf, tb, s, hh, r, p⟩ := h
  cases e
  obtain ⟨a, b⟩ := Reps.split r
  rw [hl] at a b
  exact ⟨by rw [List.length_cons, hm], F0, ha, _, hd, y, dx, us, fs, _, rfl, hx, f0, nx, rf, tb, s, hh, srcL_reps a (f1 ha F0) (f2 ha F0) b, p⟩
/-- all parameters are given -/
def SrcLen (src : List Src) (n k d m : Nat) : Bool := src.all fun
  | .p i => decide (i < n)
  | .k i => decide (i < k)
  | .d i => decide (i < d)
  | .m i => decide (i < m)
theorem srcL_len {α : Type} {src : List Src} {vs ds mz zs : List α} (h : SrcLen src vs.length zs.length ds.length mz.length = true) : (srcL src vs ds mz zs).length = src.length := by
  induction src with
  | nil => rfl
  | cons s src ih =>
    unfold SrcLen at h
    rw [List.all_cons, Bool.and_eq_true] at h
    have e : ∃ a, Src.get vs ds mz zs s = some a := by
      cases s with
      | p i => exact ⟨_, List.getElem?_eq_getElem (of_decide_eq_true h.1)⟩
      | k i => exact ⟨_, List.getElem?_eq_getElem (of_decide_eq_true h.1)⟩
      | d i => exact ⟨_, List.getElem?_eq_getElem (of_decide_eq_true h.1)⟩
      | m i => exact ⟨_, List.getElem?_eq_getElem (of_decide_eq_true h.1)⟩
    obtain ⟨a, e⟩ := e
    unfold srcL
    rw [List.filterMap_cons, e]
    show _ + 1 = _ + 1
    congr 1
    exact ih h.2
theorem calK_def {k n : Nat} {f : Addr} {fd : FuncData} {ps ks : List Str} {F : Fn} {src : List Src} {dvs mvs : List V} {dts mts : List T} (hf : FnOk X.prog X.w X.K X.mg X.base (L2.CX X.prog X.w) k f fd ps (SpT G ps.length F)) (hr : Room k X.A)
    (hb : ShpOk X.K fd ps n ks src dvs mvs) (f1 : Fix G dts dvs) (f2 : Fix G mts mvs) (hs : SrcLen src n ks.length dvs.length mvs.length = true) (hl : src.length = ps.length) (tk : Takes X W) : CalK X W (.ref f) n ks (SpT G (n + ks.length) (srcF n src dts mts F)) := fun pins s σ H us ws vs zs Q I r rz l1 l2 h => by
  obtain ⟨its, mv, hb⟩ := hb
  exact run_fnNS (E := WE W) hf hr hb (passAt tk σ) I r rz l1 l2 (SpT.src f1 f2 l1 (by rw [srcL_len (by rw [l1, l2]; exact hs), hl]) (by rw [l2]; exact h))
theorem calK_make {k n m : Nat} {C : Str} {f : Addr} {fd : FuncData} {ps ks : List Str} {F : Ini} {src : List Src} {dvs mvs : List V} {dts mts : List T} (M : Mk X.K (G.ca C) f) (hf : FnOk X.prog X.w X.K X.mg X.base (L2.CX X.prog X.w) k f fd ps (SpI G C m F)) (hr : Room (k + 1) X.A)
    (hb : ShpOk X.K fd ps (n + 1) ks (.p 0 :: src.map Src.up) dvs mvs) (f1 : Fix G dts dvs) (f2 : Fix G mts mvs) (hs : SrcLen src n ks.length dvs.length mvs.length = true) (hl : src.length = m) (tk : Takes X W) : CalK X W (.ref (G.ca C)) n ks (SpT G (n + ks.length) (mkFn C (srcI n src dts mts F))) := fun pins s σ H us ws vs zs Q I r rz l1 l2 h => by
  obtain ⟨its, mv, hb⟩ := hb
  refine run_makeNS (E := WE W) M hf hr hb (passAt tk σ) I r rz l1 l2 fun x dx hx hdx ne => ?_
  rw [srcL_up]
  have q := SpI.made h x dx hx hdx ne
  exact SpI.src f1 f2 l1 (by rw [srcL_len (by rw [l1, l2]; exact hs), hl]) (by rw [l2]; exact q)
theorem CalK.val {u : Value} {n : Nat} {F : Fn} (h : CalK X W u n [] (SpT G (n + 0) F)) : CalV X W u (SpT G n F) := fun pins s σ H us vs Q I r q => h pins s σ H us [] vs [] Q I r .nil q.1 rfl (by rw [List.append_nil]; exact q)
end
end TL
namespace TL
open PySem PySem.Spec PyProof.Rows L2
/-! ### a def's text -/
structure Cod where
  N : List Str
  ps : List Str
  body : List Stmt
  scope : Scope
  on : Bool := false
abbrev FU : Nat := 60
def runC (B : Tab) (c : Cod) : Fn := runS c.N.length (evBlk (evS B c.N c.on FU c.scope.names) c.body)
def iniC (B : Tab) (C : Str) (c : Cod) : Ini := runI c.N.length C (evBlk (evS B c.N false FU c.scope.names) c.body)
abbrev SupT : Type := Str → Str → Option (Nat × Ini)
/-- super().__init__(e, ..) -/
def evSX (B : Tab) (sf : Str → Option (Nat × Ini)) (N : List Str) (nm : Nms) : Stmt → Stm
  | .Expr (.Call (.Attribute (.Call (.Name sn p0) [] [] p1) m apos) (e :: es) [] pos) pos' => if (sn == "super") = true ∧ (m == "__init__") = true then
      (if noStar e = true ∧ es.all noStar = true ∧ es.length < 29 ∧ (apos.endLine == pos.line) = true then sSup sf (evL ((e :: es).map (ev B N FU false nm))) else sStk)
    else evS B N false FU nm (.Expr (.Call (.Attribute (.Call (.Name sn p0) [] [] p1) m apos) (e :: es) [] pos) pos')
  | st => evS B N false FU nm st
def iniX (B : Tab) (sf : Str → Option (Nat × Ini)) (C : Str) (c : Cod) : Ini := runI c.N.length C (evBlk (evSX B sf c.N c.scope.names) c.body)
section
variable {G : Gd} {P : Program} {w : World} {mg : Str → Option Value} {base : Heap} {k : Nat} {B : Tab}
variable {x qual : Str} {params : Arguments} {dvs : List V} {kws : List (Str × V)} {f : Addr} {fd : FuncData} {c : Cod}
theorem fit_cx {cdv : Value} {A : Around} {outer : List Env} {s : Shared} {H : Hp} {E : XK} {N ps : List Str} {scope : Scope} (S : FnScope N ps scope) (hr : Room (k + 5) (A.deeper (envOfC qual scope s.heap.objs.size f cdv))) :
    Fit G (cxOf (L2.CX P w) P w G.K mg base N qual scope f cdv A outer s H E) k N scope.names := ⟨rfl, rfl, S.nd, rfl, rfl, hr, S.kind⟩
theorem wfit_cx {cdv : Value} {A : Around} {outer : List Env} {s : Shared} {H : Hp} {E : XK} {N : List Str} {scope : Scope} :
    WFit (cxOf (L2.CX P w) P w G.K mg base N qual scope f cdv A outer s H E) scope.names := ⟨fun _ e => e, fun _ e => ⟨e, rfl⟩⟩
theorem jss_cx (hA : TabAll G P w mg base k B) {on : Bool} {N ps : List Str} {scope : Scope} (S : FnScope N ps scope) (body : List Stmt) (cdv : Value) (A : Around) (outer : List Env) (s : Shared) (H : Hp) (E : XK) (hr : Room (k + 5) (A.deeper (envOfC qual scope s.heap.objs.size f cdv)))
    (hl : LamCtx G (cxOf (L2.CX P w) P w G.K mg base N qual scope f cdv A outer s H E) k on) :
    JSs G (cxOf (L2.CX P w) P w G.K mg base N qual scope f cdv A outer s H E) (fun cls d _ H => E cls d H) body (evBlk (evS B N on FU scope.names) body) :=
  jss_of fun st _ => evS_ok hA (fit_cx S hr) wfit_cx ⟨rfl, rfl, rfl, rfl⟩ (takes_of rfl rfl rfl rfl) (passes_of rfl) hl FU st
/-- a plain def -/
theorem fn_cod (hA : TabAll G P w mg base k B) (F : FunD G.K x qual params c.body c.scope dvs kws f fd) (S : FnScope c.N c.ps c.scope) (hon : c.on = false) : FnOk P w G.K mg base (L2.CX P w) (k + 8) f fd c.ps (SpT G c.ps.length (runC B c)) :=
  (fn_tl (k := k + 5) F S fun cdv A outer s H E hr => jss_cx hA S c.body cdv A outer s H E hr (by rw [hon]; exact LamCtx.off)).mono (by omega)
/-- a def that makes lambdas -/
structure LamD (G : Gd) (mg : Str → Option Value) (base : Heap) (qual : Str) (cda : Addr) (P : Addr) : Prop where
  tb : LamX.TabB base mg cda P
  mem : (P, qual ++ "<lambda>") ∈ G.tabs
  uni : ∀ p ∈ G.tabs, p.1 = P → p.2 = qual ++ "<lambda>"
theorem lamAt_of {X : Cx} {cda pt : Addr} (hq : X.env.qual = qual) (hc : X.env.code = .ref cda) (hb : X.base = base) (hm : X.mg = mg) (L : LamD G mg base qual cda pt) : LamAt G X cda pt := by
  subst hq hb hm
  exact ⟨hc, L.tb, L.mem, L.uni⟩
theorem fn_codL (hA : TabAll G P w mg base k B) {name : Str} {dV kV doc pm ct oc : Value} {an od : Option Addr} {osl : Array (Option Value)} {cda pt : Addr} (lk : G.K.lookup f = some ⟨oc, od, .func (PySem.W.fnOf name qual params c.body c.scope dV kV doc pm an (.ref cda) ct), osl⟩)
    (hcd : PySem.W.codeIn G.K (.ref cda) qual = true) (S : FnScope c.N c.ps c.scope) (L : LamD G mg base (qual ++ ".<locals>.") cda pt) : FnOk P w G.K mg base (L2.CX P w) (k + 8) f (PySem.W.fnOf name qual params c.body c.scope dV kV doc pm an (.ref cda) ct) c.ps (SpT G c.ps.length (runC B c)) := by
  have hpl : c.ps.length ≤ c.N.length := by have := congrArg List.length S.pre; rw [List.length_take] at this; omega
  refine fn_of (k := k + 7) lk hcd S (fun vs H Q E h => h.1) fun A outer s H vs Q E hr h => ⟨_, jss_cx (on := c.on) hA S c.body (.ref cda) A outer s H E (hr.mono (by omega)) (fun _ => ⟨hr, cda, pt, lamAt_of (qual := qual ++ ".<locals>.") (mg := mg) (base := base) rfl rfl rfl rfl L⟩), ?_⟩
  obtain ⟨hl, F0, ha, ts, hd, tb, s0, hh, r, p⟩ := h
  have sr := SR.start (N := c.N) tb s0 hh r (by omega)
  refine ⟨⟨H, F0, ha, [], []⟩, F0, slots0 c.N.length ts, _, hd, sr, ?_⟩
  unfold runC runS at p
  rcases e : (evBlk (evS B c.N c.on FU c.scope.names) c.body) (slots0 c.N.length ts) hd with _ | ⟨fl, S1, hd1⟩ <;> rw [e] at p
  · exact p.elim
  · cases fl with
    | next => exact fun σ' H' F' fps' sr' s' => p .non H' F' (sr'.grown rfl) ⟨[], by simp only [RepO, Rep]; exact ⟨trivial, trivial⟩, List.nodup_nil, fun _ m => absurd m List.not_mem_nil⟩
    | brk => exact p.elim
    | cont => exact p.elim
    | ret ot => exact fun v σ' H' F' fps' sr' s' ⟨fp, ro, nd, dj, ow⟩ => p v H' F' (sr'.grown rfl) ⟨fp, ro, nd, fun a m => by
        obtain ⟨g1, g2, g3, g4⟩ := ow a m
        refine ⟨g1, g2, g3, ?_⟩
        rcases g4 with z | z
        · exact z
        · cases z⟩
    | ex C fs => exact fun d σ' H' F' fps' sr' s' x => p d H' F' (sr'.grown rfl) x
/-- a plain __init__ -/
theorem ini_cod (hA : TabAll G P w mg base k B) {C : Str} {n : Nat} (F : FunD G.K x qual params c.body c.scope dvs kws f fd) (S : FnScope c.N c.ps c.scope) (hn : c.ps.length = n + 1) : FnOk P w G.K mg base (L2.CX P w) (k + 6) f fd c.ps (SpI G C n (iniC B C c)) :=
  ini_tl (k := k + 5) F S hn fun cdv A outer s H E hr => jss_cx hA S c.body cdv A outer s H E hr LamCtx.off
/-! ### with super() -/
/-- what super() needs, of the written part -/
structure SupF (G : Gd) (P : Program) (mg : Str → Option Value) (f cc D cda : Addr) (x0 : Str) (c : Cod) : Prop where
  hf : ∃ (oc : Value) (od : Option Addr) (fd : FuncData) (osl : Array (Option Value)) (ar : Arg), G.K.lookup f = some ⟨oc, od, .func fd, osl⟩ ∧ (fd.params.posonlyargs ++ fd.params.args).head? = some ar ∧ ar.arg = x0
  hcd : ∃ (ccl : Value) (cdd : Option Addr) (vs : Array Value) (ccs : Array (Option Value)) (file : Str) (tf : Tok), G.K.lookup cda = some ⟨ccl, cdd, .fields vs, ccs⟩ ∧ vs[2]? = some (.str file tf) ∧ ((P.main.file : Str) == file) = true
  cell : ClsCell G.K cc D
  hD : (PySem.W.clsIn G.K D).isSome = true
  mgs : mg "super" = none
  htop : (P.main.scope.names.lookup ("super" : Str)).isSome = false
  hks : c.scope.names.lookup ("super" : Str) = some .globalImplicit
  hkc : c.scope.names.lookup ("__class__" : Str) = some .free
  hN : c.N[0]? = some x0
  hv : Vis c.scope x0
  hdc : (x0 == ("__classdict__" : Str)) = false
theorem cells_none {x : Str} : ∀ (names : List (Str × NameKind)) (n : Nat), (∀ y ∈ names, y.2 = .cell → y.1 ≠ x) → (cellsFrom n names []).lookup x = none
  | [], n, h => rfl
  | (name, kd) :: r, n, h => by
    unfold cellsFrom
    split
    · rename_i hk
      rw [cellsFrom_app r (n + 1) [(name, n)], List.lookup_append, cells_none r (n + 1) fun y m => h y (List.mem_cons_of_mem _ m)]
      have hk : kd = .cell := by simpa using hk
      have := h (name, kd) List.mem_cons_self hk
      show (List.lookup x [(name, n)]) = none
      rw [List.lookup_cons]
      have e : (x == name) = false := by simpa using fun z => this z.symm
      rw [e]
      rfl
    · exact cells_none r n fun y m => h y (List.mem_cons_of_mem _ m)
theorem supZ_cx {cc D cda : Addr} {x0 : Str} (Z : SupF G P mg f cc D cda x0 c) (hc : ∀ y ∈ c.scope.names, y.2 = .cell → y.1 ≠ ("__class__" : Str)) {A : Around} {outer : List Env} {s : Shared} {H : Hp} {E : XK} :
    SupZ (cxOfX P w G.K mg base c.N qual c.scope f (.ref cda) cc A outer s H E) f cc D cda x0 where
  hf := Z.hf
  hfu := rfl
  hco := rfl
  hcd := Z.hcd
  cell := Z.cell
  hcc := by
    show (cellsFrom (s.heap.objs.size + 1) c.scope.names [] ++ [(("__class__" : Str), cc)]).lookup ("__class__" : Str) = some cc
    rw [List.lookup_append, cells_none _ _ hc]
    rfl
  hD := Z.hD
  mgs := Z.mgs
  htop := Z.htop
  hks := Z.hks
  hkc := Z.hkc
  hN := Z.hN
  hv := Z.hv
  hdc := Z.hdc
  boot := by kernel_rfl
theorem fit_cxX {cdv : Value} {cc : Addr} {A : Around} {outer : List Env} {s : Shared} {H : Hp} {E : XK} {N ps : List Str} {scope : Scope} (S : FnScopeX N ps scope) (hr : Room (k + 5) (A.deeper (envCl qual scope s.heap.objs.size f cdv cc))) :
    Fit G (cxOfX P w G.K mg base N qual scope f cdv cc A outer s H E) k N scope.names := ⟨rfl, rfl, S.nd, rfl, rfl, hr, S.kind⟩
theorem wfit_cxX {cdv : Value} {cc : Addr} {A : Around} {outer : List Env} {s : Shared} {H : Hp} {E : XK} {N : List Str} {scope : Scope} (h : scope.names.lookup ("__class__" : Str) = some .free) :
    WFit (cxOfX P w G.K mg base N qual scope f cdv cc A outer s H E) scope.names := ⟨fun _ e => e, fun x e => ⟨e, by
      show decide (x ≠ ("__class__" : Str)) = true
      rw [decide_eq_true_eq]
      rintro rfl
      rw [h] at e
      cases e⟩⟩
def SupAll (G : Gd) (P : Program) (w : World) (mg : Str → Option Value) (base : Heap) (k : Nat) (D : Addr) (sf : Str → Option (Nat × Ini)) : Prop := ∀ (X : Cx) (W : WX), X.prog = P → X.w = w → X.K = G.K → X.mg = mg → X.base = base → Room (k + 5) X.A → Takes X W → SupOk G X W D "__init__" sf
theorem jssA_of {X : Cx} {W : WX} {body : List Stmt} {f : Stmt → Stm} : ∀ {l : List Stmt}, (∀ st ∈ l, JSA G X W body st (f st)) → JSsA G X W body l (evBlk f l)
  | [], _ => JSs.at jss_nil
  | st :: l, h => jssA_cons (h st List.mem_cons_self) (jssA_of fun x m => h x (List.mem_cons_of_mem _ m))
theorem evSX_ok (hA : TabAll G P w mg base k B) {X : Cx} {W : WX} {N : List Str} {nm : Nms} {body : List Stmt} {f cc D cda : Addr} {x0 : Str} {sf : Str → Option (Nat × Ini)} (ft : Fit G X k N nm) (wf : WFit X nm) (sp : SameP P w mg base X) (tk : Takes X W) (hp : PassesOwn (model X.prog X.w) X.A X.env X.xe)
    (Z : SupZ X f cc D cda x0) (hs : SupOk G X W D "__init__" sf) (st : Stmt) : JSA G X W body st (evSX B sf N nm st) := by
  unfold evSX
  split
  · rename_i sn p0 p1 m apos e es pos pos'
    split
    · rename_i hc
      obtain ⟨h1, h2⟩ := hc
      have h1 := eq_of_beq h1
      have h2 := eq_of_beq h2
      subst h1 h2
      split
      · rename_i hc
        obtain ⟨h3, h4, h5, h6⟩ := hc
        have ih : ∀ e, RS G X W e (ev B N FU false nm e) := fun e => ev_ok hA FU false nm X W e ft sp tk LamCtx.off
        have hall : (e :: es).all noStar = true := by rw [List.all_cons, h3, h4]; rfl
        refine jsa_super Z (by decide) hs (jl_of hall fun x _ => ih x) (star_cons h3 es) (star_any h4) ?_ rfl
        refine ⟨do return (← importBound (.Call (.Name "super" p0) [] [] p1) X.env).getD true, ?_⟩
        have hf : methodCallForm ((e :: es).length + ([] : List Keyword).length) (backTo pos (starEach (e :: es) X.env)) (backToKw pos (keywordEach [] X.env)) = true := by
          unfold methodCallForm
          rw [star_all hall]
          show (true && true && decide ((e :: es).length + 0 + 0 < 30)) = true
          simp only [List.length_cons, Bool.true_and, decide_eq_true_eq]
          omega
        have e0 : eval (.Call (.Attribute (.Call (.Name "super" p0) [] [] p1) "__init__" apos) (e :: es) [] pos) X.env = (do
            let ov ← attributeBase (.Call (.Name "super" p0) [] [] p1) "__init__" X.env (eval (.Call (.Name "super" p0) [] [] p1) X.env)
            standAt apos.atName
            methodCall (.Call (.Name "super" p0) [] [] p1) "__init__" apos pos X.env ov ((e :: es).length + ([] : List Keyword).length) (backTo pos (starEach (e :: es) X.env)) (backToKw pos (keywordEach [] X.env))) := rfl
        rw [e0]
        unfold methodCall
        rw [hf]
        unfold calleeOf methodCallPos
        simp only [Bool.not_true, Bool.false_or, h6, if_true, pure_bind]
        rfl
      · exact JS.at js_stk
    · exact JS.at (evS_ok hA ft wf sp tk hp LamCtx.off FU _)
  · exact JS.at (evS_ok hA ft wf sp tk hp LamCtx.off FU _)
/-- an __init__ with super() -/
theorem ini_codX (hA : TabAll G P w mg base k B) {C : Str} {n : Nat} {name : Str} {dV kV doc pm ct oc : Value} {an od : Option Addr} {osl : Array (Option Value)} {cc D cda : Addr} {x0 : Str} {sf : Str → Option (Nat × Ini)}
    (lk : G.K.lookup f = some ⟨oc, od, .func (PySem.W.fnX name qual params c.body c.scope [(("__class__" : Str), cc)] dV kV doc pm an (.ref cda) ct), osl⟩) (hcd : PySem.W.codeIn G.K (.ref cda) qual = true) (S : FnScopeX c.N c.ps c.scope) (Z : SupF G P mg f cc D cda x0 c)
    (hc : ∀ y ∈ c.scope.names, y.2 = .cell → y.1 ≠ ("__class__" : Str)) (hs : SupAll G P w mg base k D sf) (hn : c.ps.length = n + 1) :
    FnOk P w G.K mg base (L2.CX P w) (k + 6) f (PySem.W.fnX name qual params c.body c.scope [(("__class__" : Str), cc)] dV kV doc pm an (.ref cda) ct) c.ps (SpI G C n (iniX B sf C c)) :=
  ini_tlX (k := k + 5) lk hcd S Z.cell hn fun A outer s H E hr => jssA_of fun st _ => evSX_ok hA (fit_cxX S hr) (wfit_cxX Z.hkc) ⟨rfl, rfl, rfl, rfl⟩ (takes_of rfl rfl rfl rfl) (passes_of rfl) (supZ_cx Z hc)
    (hs _ _ rfl rfl rfl rfl rfl hr (takes_of rfl rfl rfl rfl)) st
end
end TL
namespace TL
open PySem PySem.Spec PyProof.Rows L2
/-! ### a program, by depth of calls -/
structure Shp where
  n : Nat
  ks : List Str
  src : List Src
  dts : List T
  mts : List T
structure IniD where
  c : Cod
  b : Bool
  D : Str
structure Prg where
  base : Tab
  fns : Str → Option (Cod × List Shp)
  cls : Str → Option (IniD × List Shp)
  mets : Str → Str → Option (Cod × List Shp)
  eqs : Str → Option Cod
  sup : Str → Str → Option IniD
structure TabX where
  t : Tab
  sup : SupT
def iniT (B : TabX) (C : Str) (d : IniD) : Ini := if d.b = true then iniX B.t (B.sup d.D) C d.c else iniC B.t C d.c
def shpOf (ss : List Shp) (n : Nat) (ks : List Str) : Option Shp := ss.find? fun s => s.n == n && s.ks == ks
def callT (Pr : Prg) (B : TabX) (x : Str) (ks : List Str) (n : Nat) : Option Fn := match Pr.fns x with
  | some (c, ss) => (shpOf ss n ks).map fun s => srcF s.n s.src s.dts s.mts (runC B.t c)
  | none => match Pr.cls x with
    | some (d, ss) => (shpOf ss n ks).map fun s => mkFn x (srcI s.n s.src s.dts s.mts (iniT B x d))
    | none => none
def stepX (Pr : Prg) (B : TabX) : TabX where
  t := { Pr.base with
    fns := fun x n => match Pr.base.fns x n with
      | some F => some F
      | none => callT Pr B x [] n
    fnk := fun x ks n => callT Pr B x ks n
    met := fun nm n C => match Pr.mets C nm with
      | some (c, ss) => (shpOf ss (n + 1) []).map fun s => srcF s.n s.src s.dts s.mts (runC B.t c)
      | none => none
    eqt := { Pr.base.eqt with eqs := fun C => (Pr.eqs C).map fun c => runC B.t c } }
  sup := fun D C => (Pr.sup D C).map fun d => (d.c.ps.length - 1, iniT B C d)
def tabX (Pr : Prg) : Nat → TabX
  | 0 => ⟨Pr.base, fun _ _ => none⟩
  | n + 1 => stepX Pr (tabX Pr n)
section
variable {G : Gd} {P : Program} {w : World} {mg : Str → Option Value} {base : Heap}
def ShpFix (G : Gd) (fd : FuncData) (c : Cod) (s : Shp) : Prop := ∃ dvs mvs, ShpOk G.K fd c.ps s.n s.ks s.src dvs mvs ∧ Fix G s.dts dvs ∧ Fix G s.mts mvs ∧ SrcLen s.src s.n s.ks.length dvs.length mvs.length = true ∧ s.src.length = c.ps.length
def ShpFixI (G : Gd) (fd : FuncData) (c : Cod) (s : Shp) : Prop := ∃ dvs mvs, ShpOk G.K fd c.ps (s.n + 1) s.ks (.p 0 :: s.src.map Src.up) dvs mvs ∧ Fix G s.dts dvs ∧ Fix G s.mts mvs ∧ SrcLen s.src s.n s.ks.length dvs.length mvs.length = true ∧ s.src.length + 1 = c.ps.length
def CodP (G : Gd) (c : Cod) (f : Addr) (fd : FuncData) : Prop := (∃ x qual params dvs kws, FunD G.K x qual params c.body c.scope dvs kws f fd) ∧ FnScope c.N c.ps c.scope
/-- a def that makes lambdas -/
def CodL (G : Gd) (mg : Str → Option Value) (base : Heap) (c : Cod) (f : Addr) (fd : FuncData) : Prop := ∃ (name qual : Str) (params : Arguments) (dV kV doc pm ct oc : Value) (an od : Option Addr) (osl : Array (Option Value)) (cda pt : Addr),
  fd = PySem.W.fnOf name qual params c.body c.scope dV kV doc pm an (.ref cda) ct ∧ G.K.lookup f = some ⟨oc, od, .func (PySem.W.fnOf name qual params c.body c.scope dV kV doc pm an (.ref cda) ct), osl⟩ ∧ PySem.W.codeIn G.K (.ref cda) qual = true ∧ FnScope c.N c.ps c.scope ∧ LamD G mg base (qual ++ ".<locals>.") cda pt
def CodOk (G : Gd) (mg : Str → Option Value) (base : Heap) (c : Cod) (f : Addr) (fd : FuncData) : Prop := (c.on = false ∧ CodP G c f fd) ∨ CodL G mg base c f fd
theorem cod_ok {k : Nat} {B : Tab} {c : Cod} {f : Addr} {fd : FuncData} (hA : TabAll G P w mg base k B) (h : CodOk G mg base c f fd) : FnOk P w G.K mg base (L2.CX P w) (k + 8) f fd c.ps (SpT G c.ps.length (runC B c)) := by
  rcases h with ⟨hon, ⟨x, qual, params, dvs, kws, F⟩, S⟩ | ⟨name, qual, params, dV, kV, doc, pm, ct, oc, an, od, osl, cda, pt, rfl, lk, hcd, S, L⟩
  · exact fn_cod hA F S hon
  · exact fn_codL hA lk hcd S L
/-- an __init__ with super() -/
def CodX (G : Gd) (P : Program) (mg : Str → Option Value) (D : Str) (c : Cod) (f : Addr) (fd : FuncData) : Prop := ∃ (name qual : Str) (params : Arguments) (dV kV doc pm ct oc : Value) (an od : Option Addr) (osl : Array (Option Value)) (cc cda : Addr) (x0 : Str),
  fd = PySem.W.fnX name qual params c.body c.scope [(("__class__" : Str), cc)] dV kV doc pm an (.ref cda) ct ∧ G.K.lookup f = some ⟨oc, od, .func (PySem.W.fnX name qual params c.body c.scope [(("__class__" : Str), cc)] dV kV doc pm an (.ref cda) ct), osl⟩ ∧
  PySem.W.codeIn G.K (.ref cda) qual = true ∧ FnScopeX c.N c.ps c.scope ∧ SupF G P mg f cc (G.ca D) cda x0 c ∧ (∀ y ∈ c.scope.names, y.2 = .cell → y.1 ≠ ("__class__" : Str))
def IniOk (G : Gd) (P : Program) (mg : Str → Option Value) (d : IniD) (f : Addr) (fd : FuncData) : Prop := (d.b = false ∧ CodP G d.c f fd) ∨ (d.b = true ∧ CodX G P mg d.D d.c f fd)
structure LinkOk (G : Gd) (P : Program) (w : World) (mg : Str → Option Value) (base : Heap) (Pr : Prg) : Prop where
  base0 : TabAll G P w mg base 0 Pr.base
  nomet : ∀ nm n C, Pr.base.met nm n C = none
  noeq : ∀ C, Pr.base.eqt.eqs C = none
  fns : ∀ x c ss, Pr.fns x = some (c, ss) → ∃ f fd, mg x = some (.ref f) ∧ PySem.W.keepIn G.K (.ref f) = true ∧ CodOk G mg base c f fd ∧ ∀ s ∈ ss, ShpFix G fd c s
  cls : ∀ C d ss, Pr.cls C = some (d, ss) → ∃ f fd, mg C = some (.ref (G.ca C)) ∧ PySem.W.keepIn G.K (.ref (G.ca C)) = true ∧ Mk G.K (G.ca C) f ∧ IniOk G P mg d f fd ∧ ∀ s ∈ ss, ShpFixI G fd d.c s
  mets : ∀ C nm c ss, Pr.mets C nm = some (c, ss) → Cls G.K (G.ca C) ∧ ∃ f fd, Meth G.K (G.ca C) nm f ∧ CodOk G mg base c f fd ∧ ∀ s ∈ ss, ShpFix G fd c s
  eqs : ∀ C c, Pr.eqs C = some c → ∃ f fd, NeC G.K (G.ca C) f ∧ CodOk G mg base c f fd ∧ c.ps.length = 2 ∧ Binds G.K fd c.ps []
  sup : ∀ D C d, Pr.sup D C = some d → ∃ f fd, SupM G.K (G.ca C) (G.ca D) f "__init__" ∧ IniOk G P mg d f fd ∧ Binds G.K fd d.c.ps [] ∧ 0 < d.c.ps.length
def SupAllT (G : Gd) (P : Program) (w : World) (mg : Str → Option Value) (base : Heap) (k : Nat) (sf : SupT) : Prop := ∀ D, SupAll G P w mg base k (G.ca D) (sf D)
theorem ini_ok {k n : Nat} {B : TabX} {d : IniD} {C : Str} {f : Addr} {fd : FuncData} (hA : TabAll G P w mg base k B.t) (hS : SupAllT G P w mg base k B.sup) (h : IniOk G P mg d f fd) (hn : d.c.ps.length = n + 1) : FnOk P w G.K mg base (L2.CX P w) (k + 6) f fd d.c.ps (SpI G C n (iniT B C d)) := by
  unfold iniT
  rcases h with ⟨hb, ⟨x, qual, params, dvs, kws, F⟩, S⟩ | ⟨hb, name, qual, params, dV, kV, doc, pm, ct, oc, an, od, osl, cc, cda, x0, rfl, lk, hcd, S, Z, hc⟩
  · rw [hb]
    exact ini_cod hA F S hn
  · rw [hb]
    exact ini_codX hA lk hcd S Z hc (hS d.D) hn
theorem shpOf_some {ss : List Shp} {n : Nat} {ks : List Str} {s : Shp} (h : shpOf ss n ks = some s) : s ∈ ss ∧ s.n = n ∧ s.ks = ks := by
  unfold shpOf at h
  have h1 := List.mem_of_find?_eq_some h
  have h2 := List.find?_some h
  simp only [Bool.and_eq_true, beq_iff_eq] at h2
  exact ⟨h1, h2⟩
theorem callT_ok {Pr : Prg} (L : LinkOk G P w mg base Pr) {k : Nat} {B : TabX} (hA : TabAll G P w mg base k B.t) (hS : SupAllT G P w mg base k B.sup) {X : Cx} {W : WX} (hP : X.prog = P) (hw : X.w = w) (hK : X.K = G.K) (hm : X.mg = mg) (hb : X.base = base) (hr : Room (k + 8 + 5) X.A) (tk : Takes X W)
    {x : Str} {ks : List Str} {n : Nat} {F : Fn} (h : callT Pr B x ks n = some F) : ∃ f, X.mg x = some (.ref f) ∧ PySem.W.keepIn X.K (.ref f) = true ∧ CalK X W (.ref f) n ks (SpT G (n + ks.length) F) := by
  subst hP hw hm hb
  unfold callT at h
  split at h
  · rename_i c ss e
    obtain ⟨f, fd, m1, m2, co, m4⟩ := L.fns _ _ _ e
    cases es : shpOf ss n ks with
    | none => rw [es] at h; cases h
    | some s =>
      rw [es] at h
      cases h
      obtain ⟨s1, rfl, rfl⟩ := shpOf_some es
      obtain ⟨dvs', mvs', q1, q2, q3, q4, q5⟩ := m4 s s1
      refine ⟨f, m1, by rw [hK]; exact m2, ?_⟩
      have hf := cod_ok hA co
      rw [← hK] at hf q1
      exact calK_def hf (hr.mono (by omega)) q1 q2 q3 q4 q5 tk
  · split at h
    · rename_i d ss e
      obtain ⟨f, fd, m1, m2, M, io, m4⟩ := L.cls _ _ _ e
      cases es : shpOf ss n ks with
      | none => rw [es] at h; cases h
      | some s =>
        rw [es] at h
        cases h
        obtain ⟨s1, rfl, rfl⟩ := shpOf_some es
        obtain ⟨dvs', mvs', q1, q2, q3, q4, q5⟩ := m4 s s1
        refine ⟨_, m1, by rw [hK]; exact m2, ?_⟩
        have hf := ini_ok (C := x) hA hS io q5.symm
        rw [← hK] at hf q1 M
        exact calK_make M hf (hr.mono (by omega)) q1 q2 q3 q4 rfl tk
    · cases h
theorem step_ok {Pr : Prg} (L : LinkOk G P w mg base Pr) {k : Nat} {B : TabX} (hA : TabAll G P w mg base k B.t) (hS : SupAllT G P w mg base k B.sup) : TabAll G P w mg base (k + 8) (stepX Pr B).t ∧ SupAllT G P w mg base (k + 8) (stepX Pr B).sup := by
  refine ⟨fun X W hP hw hK hm hb hr tk => ?_, fun D X W hP hw hK hm hb hr tk => ?_⟩
  · have b := L.base0 X W hP hw hK hm hb (hr.mono (by omega)) tk
    refine ⟨b.cst, fun x n F e => ?_, fun x ks n F e => callT_ok L hA hS hP hw hK hm hb hr tk e, fun nm n C n' F e => ?_, b.fld, b.isi, ⟨fun C F e => ?_, b.eqt.first, b.eqt.nf⟩, b.exc, b.cls, b.bl, b.lam⟩
    · have e : (match Pr.base.fns x n with
        | some F => some F
        | none => callT Pr B x [] n) = some F := e
      split at e
      · rename_i F' e'
        cases e
        exact b.fns _ _ _ e'
      · obtain ⟨f, m1, m2, m3⟩ := callT_ok L hA hS hP hw hK hm hb hr tk e
        exact ⟨f, m1, m2, CalK.val m3⟩
    · have e : ((match Pr.mets C nm with
        | some (c, ss) => (shpOf ss (n + 1) []).map fun s : Shp => srcF s.n s.src s.dts s.mts (runC B.t c)
        | none => (none : Option Fn)).map fun F : Fn => (n, F)) = some (n', F) := e
      split at e
      · rename_i c ss e1
        obtain ⟨hc, f, fd, m2, co, m4⟩ := L.mets _ _ _ _ e1
        cases es : shpOf ss (n + 1) [] with
        | none => rw [es] at e; cases e
        | some s =>
          rw [es] at e
          cases e
          obtain ⟨s1, s2, s3⟩ := shpOf_some es
          obtain ⟨dvs', mvs', q1, q2, q3, q4, q5⟩ := m4 s s1
          refine ⟨hc, f, m2, ?_⟩
          have hf := cod_ok hA co
          subst hP hw hm hb
          rw [← hK] at hf q1
          have := calK_def hf (hr.mono (by omega)) q1 q2 q3 q4 q5 tk
          rw [s2, s3] at this
          show CalV X W (Value.ref f) (SpT G (n + 1) (srcF s.n s.src s.dts s.mts (runC B.t c)))
          rw [s2]
          exact CalK.val this
      · cases e
    · have e : (Pr.eqs C).map (fun c => runC B.t c) = some F := e
      rw [Option.map_eq_some_iff] at e
      obtain ⟨c, e1, rfl⟩ := e
      obtain ⟨f, fd, m1, co, m3, m4⟩ := L.eqs _ _ e1
      refine ⟨f, m1, ?_⟩
      have hf := cod_ok hA co
      subst hP hw hm hb
      rw [← hK] at hf m4
      rw [m3] at hf
      exact calW_def hf m4
  · intro C n F e
    have e : (Pr.sup D C).map (fun d => (d.c.ps.length - 1, iniT B C d)) = some (n, F) := e
    rw [Option.map_eq_some_iff] at e
    obtain ⟨d, e1, e2⟩ := e
    cases e2
    obtain ⟨f, fd, m1, io, m3, m4⟩ := L.sup _ _ _ e1
    have hf := ini_ok (C := C) (n := d.c.ps.length - 1) hA hS io (by omega)
    subst hP hw hm hb
    rw [← hK] at hf m3 m1
    refine ⟨f, m1, ?_⟩
    have q := calC_def hf (hr.mono (by omega)) m3 .nil tk
    simp only [List.append_nil] at q
    exact q
theorem tab_all {Pr : Prg} (L : LinkOk G P w mg base Pr) : ∀ n, TabAll G P w mg base (8 * n) (tabX Pr n).t ∧ SupAllT G P w mg base (8 * n) (tabX Pr n).sup
  | 0 => ⟨L.base0, fun D X W _ _ _ _ _ _ _ C n F e => by cases e⟩
  | n + 1 => by
    obtain ⟨h1, h2⟩ := tab_all L n
    exact step_ok L h1 h2
end
end TL
namespace TL
open PySem PySem.Spec PyProof.Rows L2
/-! ### a list becomes the hand -/
section
variable {G : Gd}
mutual
theorem Rep.rehand {ha ha' : HA} (e : ha.hd = none) {F : Hp} : ∀ (t : T) (u : V), Rep G ha F t u → Rep G ha' F t u
  | .non, u, h => by simpa only [Rep] using h
  | .bl b, u, h => by simpa only [Rep] using h
  | .int i, u, h => by simpa only [Rep] using h
  | .str z, u, h => by simpa only [Rep] using h
  | .tup xs, u, h => by
    simp only [Rep] at h ⊢
    obtain ⟨a, us, e1, q, r⟩ := h
    exact ⟨a, us, e1, q, Reps.rehand e xs us r⟩
  | .lst xs, u, h => by
    simp only [Rep] at h ⊢
    obtain ⟨a, us, e1, q, r⟩ := h
    exact ⟨a, us, e1, q, Reps.rehand e xs us r⟩
  | .ins C fs, u, h => by
    simp only [Rep] at h ⊢
    obtain ⟨a, dx, us, e1, q, r⟩ := h
    exact ⟨a, dx, us, e1, q, RepF.rehand e fs us r⟩
  | .rng lo hi, u, h => by simpa only [Rep] using h
  | .scr ns, u, h => by simpa only [Rep] using h
  | .hand, u, h => by
    simp only [Rep] at h
    obtain ⟨p, e1, _⟩ := h
    rw [e] at e1
    cases e1
theorem Reps.rehand {ha ha' : HA} (e : ha.hd = none) {F : Hp} : ∀ (ts : List T) (us : List V), Reps G ha F ts us → Reps G ha' F ts us
  | [], us, h => by simpa only [Reps] using h
  | x :: xs, us, h => by
    simp only [Reps] at h ⊢
    obtain ⟨u, r, e1, q, k⟩ := h
    exact ⟨u, r, e1, Rep.rehand e x u q, Reps.rehand e xs r k⟩
theorem RepF.rehand {ha ha' : HA} (e : ha.hd = none) {F : Hp} : ∀ (ts : List (Str × T)) (us : List (Str × V)), RepF G ha F ts us → RepF G ha' F ts us
  | [], us, h => by simpa only [RepF] using h
  | (n, x) :: xs, us, h => by
    simp only [RepF] at h ⊢
    obtain ⟨u, r, e1, q, k⟩ := h
    exact ⟨u, r, e1, Rep.rehand e x u q, RepF.rehand e xs r k⟩
end
mutual
theorem RepO.rehand {ha ha' : HA} (e : ha.hd = none) {F H : Hp} : ∀ (t : OT) (u : V) (fp : List Addr), RepO G ha F H t u fp → RepO G ha' F H t u fp
  | .v t, u, fp, h => by
    simp only [RepO] at h ⊢
    exact ⟨h.1, Rep.rehand e t u h.2⟩
  | .f xs, u, fp, h => by
    simp only [RepO] at h ⊢
    obtain ⟨a, us, e1, q, p, r⟩ := h
    exact ⟨a, us, e1, q, p, Reps.rehand e xs us r⟩
  | .l xs, u, fp, h => by
    simp only [RepO] at h ⊢
    obtain ⟨a, us, q, e1, z, p, r⟩ := h
    exact ⟨a, us, q, e1, z, p, RepOs.rehand e xs us q r⟩
  | .p xs, u, fp, h => by
    simp only [RepO] at h ⊢
    obtain ⟨a, us, q, e1, z, p, r⟩ := h
    exact ⟨a, us, q, e1, z, p, RepOs.rehand e xs us q r⟩
  | .o C fs, u, fp, h => by
    simp only [RepO] at h ⊢
    obtain ⟨a, dx, us, e1, q, p, r⟩ := h
    exact ⟨a, dx, us, e1, q, p, RepF.rehand e fs us r⟩
theorem RepOs.rehand {ha ha' : HA} (e : ha.hd = none) {F H : Hp} : ∀ (ts : List OT) (us : List V) (fp : List Addr), RepOs G ha F H ts us fp → RepOs G ha' F H ts us fp
  | [], us, fp, h => by simpa only [RepOs] using h
  | x :: xs, us, fp, h => by
    simp only [RepOs] at h ⊢
    obtain ⟨u, r, p, q, e1, z, h1, h2⟩ := h
    exact ⟨u, r, p, q, e1, z, RepO.rehand e x u p h1, RepOs.rehand e xs r q h2⟩
end
theorem ints_of {ha : HA} {F : Hp} : ∀ {zs : List Int} {vs : List V}, Reps G ha F (zs.map T.int) vs → vs = zs.map V.int
  | [], vs, h => by simpa [Reps] using h
  | z :: zs, vs, h => by
    simp only [List.map_cons, Reps, Rep] at h
    obtain ⟨u, r, rfl, rfl, h2⟩ := h
    rw [ints_of h2]
    rfl
theorem SR.handify {En : Ent} {σ : L2.St} {H F : Hp} {S : Slots} {fps : Nat → List Addr} {i : Nat} {st : HS} (R : SR G En σ H F S fps none) (e0 : En.ha.hd = none) (es : En.slf0 = []) (e : S[i]? = some (some (.f [.lst (st.cells.map T.int), .int st.place, .int st.rest, .int st.total]))) :
    ∃ En', SR G En' σ H F (S.set i (some (.v .hand))) (upF fps i []) (some st) := by
  obtain ⟨a, us, hv, ha, ef, rx, fa⟩ := R.own_f e
  simp only [Reps, Rep] at rx
  obtain ⟨_, _, rfl, ⟨c, vs, rfl, hc, rc⟩, _, _, rfl, rfl, _, _, rfl, rfl, _, _, rfl, rfl, rfl⟩ := rx
  rw [ints_of rc] at hc
  have hi : i < S.length := (List.getElem?_eq_some_iff.mp e).1
  have nac : a ≠ c := fun z => by rw [z, hc] at fa; cases fa
  have am : a ∈ fps i := by rw [ef]; exact List.mem_cons_self
  have sub : ∀ {j b}, b ∈ upF fps i [] j → j ≠ i ∧ b ∈ fps j := fun {j b} m => by
    by_cases z : j = i
    · rw [z, upF_same] at m; cases m
    · rw [upF_ne z] at m; exact ⟨z, m⟩
  refine ⟨⟨fun _ => none, F, ⟨some (a, c), En.ha.tabs⟩, [], []⟩, {
    len := by rw [List.length_set]; exact R.len
    slot := fun j o' e' => by
      by_cases z : j = i
      · subst z
        rw [List.getElem?_set_self hi] at e'
        cases e'
        refine ⟨.ref a, hv, ?_⟩
        rw [upF_same]
        simp only [RepO, Rep]
        exact ⟨trivial, _, rfl, rfl⟩
      · rw [List.getElem?_set_ne (Ne.symm z)] at e'
        obtain ⟨v', g1, g3⟩ := R.slot j o' e'
        rw [upF_ne z]
        exact ⟨v', g1, RepO.rehand e0 o' v' _ g3⟩
    nd := fun j => by
      by_cases z : j = i
      · rw [z, upF_same]; exact List.nodup_nil
      · rw [upF_ne z]; exact R.nd j
    dj := fun j k b hjk m m2 => R.dj j k b hjk (sub m).2 (sub m2).2
    own := fun j b m => by
      obtain ⟨nj, m⟩ := sub m
      obtain ⟨g1, g2, g3, g4⟩ := R.own j b m
      refine ⟨g1, g2, ⟨fun p ep => ?_, g3.2⟩, .inl rfl⟩
      cases ep
      exact ⟨fun z => R.dj j i b nj m (by rw [z]; exact am), fun z => by rw [z, hc] at g1; cases g1⟩
    sub := R.sub
    sub0 := Same.refl _
    fnew := fun b q => .inl q
    kp := fun b o q _ _ => by cases q
    hand := ⟨⟨fa, hc, nac, ha, R.sub _ _ hc⟩, R.hand.t, R.hand.f, R.hand.g⟩
    slf := fun j C fs e' => by
      by_cases z : j = i
      · subst z
        rw [List.getElem?_set_self hi] at e'
        cases e'
      · rw [List.getElem?_set_ne (Ne.symm z)] at e'
        rw [upF_ne z, R.slf j C fs e']
        exact es
    tbE := R.tbE }⟩
/-! ### a law -/
/-- what the pure evaluation of a law says: s1 makes the hand, the rest answers True -/
def LawT (m1 m2 : Stm) (n i : Nat) (ns : List Int) : Prop := ∃ (S1 S2 : Slots) (st : HS) (hd2 : Hd), m1 (slots0 n [.scr ns]) none = some (.next, S1, none) ∧ S1[i]? = some (some (.f [.lst (st.cells.map T.int), .int st.place, .int st.rest, .int st.total])) ∧
  m2 (S1.set i (some (.v .hand))) (some st) = some (.ret (.v (.bl true)), S2, hd2)
def spLaw (G : Gd) (Pl : List Int → Prop) : Sp := fun vs H Q E => ∃ (a : Addr) (ns : List Int), vs = [.ref a] ∧ LamX.Tabs G.tabs H ∧ SqL G.K H a (ns.map V.int) ∧ (∀ H', Q (.bl true) H') ∧ Pl ns
def oneH (H : Hp) (a : Addr) : Hp := fun b => if b = a then H a else none
theorem oneH_same {H : Hp} {a : Addr} : oneH H a a = H a := if_pos rfl
theorem oneH_ne {H : Hp} {a b : Addr} (h : b ≠ a) : oneH H a b = none := if_neg h
theorem scr_start {H : Hp} {a : Addr} {ns : List Int} (tb : LamX.Tabs G.tabs H) (hq : SqL G.K H a (ns.map V.int)) : ∃ F0 : Hp, Same F0 H ∧ HandAt H F0 ⟨none, G.tabs⟩ none ∧ Reps G ⟨none, G.tabs⟩ F0 [.scr ns] [.ref a] := by
  rcases hq with hr | hk
  · have hne : ∀ ps, H a ≠ some (.tbl ps) := fun ps z => by
      rcases hr with hr | ⟨o, hr⟩ <;> rw [hr] at z <;> cases z
    refine ⟨oneH H a, fun b o e => ?_, ⟨trivial, tb, fun p hp => ?_, fun b ps e => ?_⟩, ?_⟩
    · by_cases c : b = a
      · rw [c] at e ⊢; rw [oneH_same] at e; exact e
      · rw [oneH_ne c] at e; cases e
    · obtain ⟨ps, h1, _⟩ := tb p hp
      by_cases c : p.1 = a
      · rw [c] at h1; exact absurd h1 (hne ps)
      · exact oneH_ne c
    · by_cases c : b = a
      · rw [c, oneH_same] at e; exact hne ps e
      · rw [oneH_ne c] at e; cases e
    · simp only [Reps, Rep]
      refine ⟨_, [], rfl, ⟨a, rfl, .inl ?_⟩, rfl⟩
      rcases hr with hr | ⟨o, hr⟩
      · exact .inl (by rw [oneH_same]; exact hr)
      · exact .inr ⟨o, by rw [oneH_same]; exact hr⟩
  · refine ⟨fun _ => none, (fun b o e => by cases e), ⟨trivial, tb, (fun _ _ => rfl), (fun _ _ e => by cases e)⟩, ?_⟩
    simp only [Reps, Rep]
    exact ⟨_, [], rfl, ⟨a, rfl, .inr hk⟩, rfl⟩
theorem law_body {X : Cx} {W : WX} {s1 : Stmt} {rest : List Stmt} {m1 m2 : Stm} {N : List Str} {i : Nat} {a : Addr} {ns : List Int} {H : Hp} {Q : VK} (h1 : JS G X W s1 m1) (h2 : JSs G X W rest m2) (tb : LamX.Tabs G.tabs H) (hq : SqL G.K H a (ns.map V.int)) (hQ : ∀ H', Q (.bl true) H')
    (pl : LawT m1 m2 N.length i ns) (hN : 1 ≤ N.length) : ∃ t, PSs X (s1 :: rest) t ∧ t { nx := fun _ H' => Q .non H', rt := Q } (L2.start N [.ref a]) H := by
  obtain ⟨F0, s0, hh, r⟩ := scr_start tb hq
  obtain ⟨S1, S2, st, hd2, e1, e2, e3⟩ := pl
  have sr := SR.start (G := G) (N := N) rfl s0 hh r (by simpa using hN)
  refine ⟨_, pss_cons h1 h2, ⟨H, F0, ⟨none, G.tabs⟩, [], []⟩, F0, slots0 N.length [.scr ns], _, none, sr, ?_⟩
  rw [e1]
  intro σ' H' F' fps' sr' s'
  obtain ⟨En', sr2⟩ := sr'.handify rfl rfl e2
  refine ⟨En', F', _, _, _, sr2, ?_⟩
  rw [e3]
  intro v σ2 H2 F2 fps2 sr3 s3 ro
  obtain ⟨fp, ro, _⟩ := ro
  simp only [RepO, Rep] at ro
  rw [ro.2]
  exact hQ H2
section
variable {P : Program} {w : World} {mg : Str → Option Value} {base : Heap} {k : Nat} {B : Tab} {qual : Str} {params : Arguments} {f : Addr}
/-- a law that makes lambdas -/
theorem law_okL (hA : TabAll G P w mg base k B) {c : Cod} {s1 : Stmt} {rest : List Stmt} {i : Nat} {x name : Str} {dV kV doc pm ct oc : Value} {an od : Option Addr} {osl : Array (Option Value)} {cda pt : Addr} (hb : c.body = s1 :: rest) (hps : c.ps = [x])
    (lk : G.K.lookup f = some ⟨oc, od, .func (PySem.W.fnOf name qual params c.body c.scope dV kV doc pm an (.ref cda) ct), osl⟩)
    (hcd : PySem.W.codeIn G.K (.ref cda) qual = true) (S : FnScope c.N c.ps c.scope) (L : LamD G mg base (qual ++ ".<locals>.") cda pt) :
    FnOk P w G.K mg base (L2.CX P w) (k + 8) f (PySem.W.fnOf name qual params c.body c.scope dV kV doc pm an (.ref cda) ct) c.ps (spLaw G (LawT (evS B c.N c.on FU c.scope.names s1) (evBlk (evS B c.N c.on FU c.scope.names) rest) c.N.length i)) := by
  have hpl : c.ps.length ≤ c.N.length := by have := congrArg List.length S.pre; rw [List.length_take] at this; omega
  rw [hps] at hpl
  refine fn_of (k := k + 7) lk hcd S (fun vs H Q E h => ?_) fun A outer s H vs Q E hr h => ?_
  · obtain ⟨a, ns, rfl, _⟩ := h
    rw [hps]
    rfl
  · obtain ⟨a, ns, rfl, tb, hq, hQ, pl⟩ := h
    have hl : LamCtx G (cxOf (L2.CX P w) P w G.K mg base c.N qual c.scope f (.ref cda) A outer s H E) k c.on := fun _ => ⟨hr, cda, pt, lamAt_of (qual := qual ++ ".<locals>.") (mg := mg) (base := base) rfl rfl rfl rfl L⟩
    have hs := fun st => evS_ok hA (fit_cx S (hr.mono (show k + 5 ≤ k + 7 by omega))) wfit_cx ⟨rfl, rfl, rfl, rfl⟩ (takes_of (X := cxOf (L2.CX P w) P w G.K mg base c.N qual c.scope f (.ref cda) A outer s H E) (E := E) rfl rfl rfl rfl) (passes_of rfl) hl FU st
    rw [hb]
    exact law_body (hs s1) (jss_of fun st _ => hs st) tb hq hQ pl (by simpa using hpl)
end
end
end TL
namespace TL
open PySem PySem.Spec PyProof.Rows L2
/-! ### facts of the head, by finite tables -/
structure HDat where
  ins : List Str
  flds : List (Str × Str)
  isis : List ((TyN × TyN) × Bool)
  firsts : List (Str × Str)
  nfs : List (Str × TyN)
def gd (K : PySem.W.Frag) (tabs : List (Addr × Str)) : Gd := ⟨K, fun C => He.ga K C, tabs⟩
def isiH (h : HDat) : Isi := ⟨fun C => h.ins.contains C, fun a b => h.isis.lookup (a, b)⟩
def eqtH (h : HDat) : EqTab := ⟨fun _ => none, fun C D => h.firsts.contains (C, D), fun C t => h.nfs.contains (C, t)⟩
def fldT_ (h : HDat) (f C : Str) : Bool := h.flds.contains (C, f)
def tyV (K : PySem.W.Frag) : TyN → Value
  | .b n => .type n
  | .c C => .ref (He.ga K C)
def insB (K : PySem.W.Frag) (C : Str) : Bool := (He.Fa.cls C).ok K && (decide (PySem.W.findIn K (.ref (He.ga K C)) "__class__" = some (some (.builtin "object.__class__"))) && (decide (PySem.W.specialIn K (.builtin "object.__class__") "__get__" = some (some (.builtin "getset_descriptor.__get__"))) &&
  (decide (PySem.W.takesIn K (.builtin "object.__class__") = some true) && decide (PySem.W.mroIn K (He.ga K C) (.type "object") = some true))))
def headB (h : HDat) (K : PySem.W.Frag) : Bool := h.ins.all (insB K) && (h.flds.all (fun p => (He.Fa.cls p.1).ok K && (He.Fa.noat p.1 p.2).ok K) && (h.isis.all (fun p => decide (PySem.W.kitOne K (tyV K p.1.1) (tyV K p.1.2) = some p.2)) &&
  (h.firsts.all (fun p => decide (He.ga K p.2 ≠ He.ga K p.1) && decide (PySem.W.subIn K (.ref (He.ga K p.2)) (.ref (He.ga K p.1)) = some true)) && h.nfs.all (fun p => clOk (isiH h) p.2 && PySem.W.notFirst K (He.ga K p.1) (tyV K p.2)))))
section
variable {K : PySem.W.Frag} {tabs : List (Addr × Str)} {h : HDat}
theorem headB_parts (e : headB h K = true) : (∀ C ∈ h.ins, insB K C = true) ∧ (∀ p ∈ h.flds, (He.Fa.cls p.1).ok K = true ∧ (He.Fa.noat p.1 p.2).ok K = true) ∧ (∀ p ∈ h.isis, PySem.W.kitOne K (tyV K p.1.1) (tyV K p.1.2) = some p.2) ∧
    (∀ p ∈ h.firsts, He.ga K p.2 ≠ He.ga K p.1 ∧ PySem.W.subIn K (.ref (He.ga K p.2)) (.ref (He.ga K p.1)) = some true) ∧ ∀ p ∈ h.nfs, clOk (isiH h) p.2 = true ∧ PySem.W.notFirst K (He.ga K p.1) (tyV K p.2) = true := by
  unfold headB at e
  obtain ⟨e1, e⟩ := He.ba e
  obtain ⟨e2, e⟩ := He.ba e
  obtain ⟨e3, e⟩ := He.ba e
  obtain ⟨e4, e5⟩ := He.ba e
  exact ⟨fun C m => List.all_eq_true.mp e1 C m, fun p m => He.ba (List.all_eq_true.mp e2 p m), fun p m => of_decide_eq_true (List.all_eq_true.mp e3 p m), fun p m => by
    obtain ⟨a, b⟩ := He.ba (List.all_eq_true.mp e4 p m)
    exact ⟨of_decide_eq_true a, of_decide_eq_true b⟩, fun p m => He.ba (List.all_eq_true.mp e5 p m)⟩
theorem tyV_eq (t : TyN) : tyV K t = tyVal (gd K tabs) t := by
  cases t <;> rfl
theorem lookup_mem2 {α β : Type} [BEq α] [LawfulBEq α] {a : α} {b : β} : ∀ {l : List (α × β)}, l.lookup a = some b → (a, b) ∈ l
  | [], e => by cases e
  | (x, y) :: l, e => by
    rw [List.lookup_cons] at e
    cases q : a == x with
    | true =>
      rw [q] at e
      cases e
      rw [eq_of_beq q]
      exact List.mem_cons_self
    | false =>
      rw [q] at e
      exact List.mem_cons_of_mem _ (lookup_mem2 e)
theorem head_isi (e : headB h K = true) : IsiOk (gd K tabs) (isiH h) where
  cl := fun C hc => by
    obtain ⟨h1, _⟩ := headB_parts e
    have m : C ∈ h.ins := by simpa [isiH] using hc
    have q := h1 C m
    unfold insB at q
    obtain ⟨q1, q⟩ := He.ba q
    obtain ⟨q2, q⟩ := He.ba q
    obtain ⟨q3, q⟩ := He.ba q
    obtain ⟨q4, q5⟩ := He.ba q
    exact ⟨He.cls_ok q1, of_decide_eq_true q2, of_decide_eq_true q3, of_decide_eq_true q4, of_decide_eq_true q5⟩
  is := fun a b r hr => by
    obtain ⟨_, _, h3, _⟩ := headB_parts e
    have := h3 _ (lookup_mem2 hr)
    rw [tyV_eq (tabs := tabs), tyV_eq (tabs := tabs)] at this
    exact this
theorem head_fld (e : headB h K = true) (f : Str) : FldOk (gd K tabs) (fldT_ h f) f := fun C hc => by
  obtain ⟨_, h2, _⟩ := headB_parts e
  have m : (C, f) ∈ h.flds := by simpa [fldT_] using hc
  obtain ⟨q1, q2⟩ := h2 _ m
  exact ⟨He.cls_ok q1, He.noat_ok q2⟩
theorem head_first (e : headB h K = true) (C D : Str) (hc : (eqtH h).first C D = true) : (gd K tabs).ca D ≠ (gd K tabs).ca C ∧ PySem.W.subIn K (.ref ((gd K tabs).ca D)) (.ref ((gd K tabs).ca C)) = some true := by
  obtain ⟨_, _, _, h4, _⟩ := headB_parts e
  have m : (C, D) ∈ h.firsts := by simpa [eqtH] using hc
  exact h4 _ m
theorem head_nf (e : headB h K = true) (C : Str) (t : TyN) (hc : (eqtH h).nf C t = true) : clOk (isiH h) t = true ∧ PySem.W.notFirst K ((gd K tabs).ca C) (tyVal (gd K tabs) t) = true := by
  obtain ⟨_, _, _, _, h5⟩ := headB_parts e
  have m : (C, t) ∈ h.nfs := by simpa [eqtH] using hc
  have := h5 _ m
  rw [tyV_eq (tabs := tabs)] at this
  exact this
theorem head_eqt (e : headB h K = true) {X : Cx} {k : Nat} : EqOk (gd K tabs) X k (isiH h) (eqtH h) := ⟨(fun C F z => by cases z), head_first e, head_nf e⟩
end
end TL
namespace TL
open PySem PySem.Spec PyProof.Rows L2
/-! ### the evaluator's steps as rewriting rules -/
section
variable {α β γ : Type} {S : Slots} {hd : Hd}
/-- goes on behind an expression -/
def rk (r : Res α) (k : α → Slots → Hd → Res β) : Res β := match r with
  | none => none
  | some (.ok a, S, hd) => k a S hd
  | some (.ex C fs, S, hd) => some (.ex C fs, S, hd)
@[simp] theorem rk_none (k : α → Slots → Hd → Res β) : rk none k = none := rfl
@[simp] theorem rk_ok (a : α) (k : α → Slots → Hd → Res β) : rk (some (.ok a, S, hd)) k = k a S hd := rfl
@[simp] theorem rk_ex (C : Str) (fs : List (Str × T)) (k : α → Slots → Hd → Res β) : rk (some (.ex C fs, S, hd)) k = some (.ex C fs, S, hd) := rfl
@[simp] theorem rk_ite {c : Prop} [Decidable c] (a b : Res α) (k : α → Slots → Hd → Res β) : rk (if c then a else b) k = if c then rk a k else rk b k := by
  split <;> rfl
abbrev SRes : Type := Option (Fl × Slots × Hd)
/-- a statement goes on behind an expression -/
def sk (r : Res α) (k : α → Slots → Hd → SRes) : SRes := match r with
  | none => none
  | some (.ok a, S, hd) => k a S hd
  | some (.ex C fs, S, hd) => some (.ex C fs, S, hd)
@[simp] theorem sk_none (k : α → Slots → Hd → SRes) : sk none k = none := rfl
@[simp] theorem sk_ok (a : α) (k : α → Slots → Hd → SRes) : sk (some (.ok a, S, hd)) k = k a S hd := rfl
@[simp] theorem sk_ex (C : Str) (fs : List (Str × T)) (k : α → Slots → Hd → SRes) : sk (some (.ex C fs, S, hd)) k = some (.ex C fs, S, hd) := rfl
@[simp] theorem sk_ite {c : Prop} [Decidable c] (a b : Res α) (k : α → Slots → Hd → SRes) : sk (if c then a else b) k = if c then sk a k else sk b k := by
  split <;> rfl
/-- a statement goes on behind a statement -/
def qk (r : SRes) (k : Stm) : SRes := match r with
  | some (.next, S', hd') => k S' hd'
  | r => r
@[simp] theorem qk_none (k : Stm) : qk none k = none := rfl
@[simp] theorem qk_next (k : Stm) : qk (some (.next, S, hd)) k = k S hd := rfl
@[simp] theorem qk_ret (v : OT) (k : Stm) : qk (some (.ret v, S, hd)) k = some (.ret v, S, hd) := rfl
@[simp] theorem qk_cont (k : Stm) : qk (some (.cont, S, hd)) k = some (.cont, S, hd) := rfl
@[simp] theorem qk_brk (k : Stm) : qk (some (.brk, S, hd)) k = some (.brk, S, hd) := rfl
@[simp] theorem qk_ex (C : Str) (fs : List (Str × T)) (k : Stm) : qk (some (.ex C fs, S, hd)) k = some (.ex C fs, S, hd) := rfl
@[simp] theorem qk_ite {c : Prop} [Decidable c] (a b : SRes) (k : Stm) : qk (if c then a else b) k = if c then qk a k else qk b k := by
  split <;> rfl
@[simp] theorem M.ret_ap (a : α) : M.ret a S hd = some (.ok a, S, hd) := rfl
@[simp] theorem M.bind_ap (m : M α) (k : α → M β) : M.bind m k S hd = rk (m S hd) k := by
  unfold M.bind rk
  rfl
@[simp] theorem M.map_ap (f : α → β) (m : M α) : M.map f m S hd = rk (m S hd) fun a S hd => some (.ok (f a), S, hd) := by
  unfold M.map
  rw [M.bind_ap]
  rfl
/-- an answer that may be lacking -/
def ok? (o : Option α) (S : Slots) (hd : Hd) : Res α := match o with
  | none => none
  | some a => some (.ok a, S, hd)
@[simp] theorem ok?_some (a : α) : ok? (some a) S hd = some (.ok a, S, hd) := rfl
@[simp] theorem ok?_ite {c : Prop} [Decidable c] (a b : Option α) : ok? (if c then a else b) S hd = if c then ok? a S hd else ok? b S hd := by
  split <;> rfl
@[simp] theorem M.lift_ap (o : Option α) : M.lift o S hd = ok? o S hd := by
  unfold M.lift ok?
  rfl
@[simp] theorem sBind_ap (m : M α) (k : α → Stm) : sBind m k S hd = sk (m S hd) k := by
  unfold sBind sk
  rfl
@[simp] theorem sSeq_ap (a b : Stm) : sSeq a b S hd = qk (a S hd) b := by
  unfold sSeq qk
  rfl
@[simp] theorem sNext_ap : sNext S hd = some (.next, S, hd) := rfl
@[simp] theorem sCont_ap : sCont S hd = some (.cont, S, hd) := rfl
@[simp] theorem sRet_ap (m : M OT) : sRet m S hd = sk (m S hd) fun a S hd => some (.ret a, S, hd) := by
  unfold sRet
  rw [sBind_ap]
@[simp] theorem sRetN_ap : sRetN S hd = some (.ret (.v .non), S, hd) := rfl
@[simp] theorem sDrop_ap (m : M α) : sDrop m S hd = sk (m S hd) fun _ S hd => some (.next, S, hd) := by
  unfold sDrop
  rw [sBind_ap]
  rfl
@[simp] theorem sIf_ap (c : M Bool) (a b : Stm) : sIf c a b S hd = sk (c S hd) fun x S hd => if x = true then a S hd else b S hd := by
  unfold sIf
  rw [sBind_ap]
  congr 1
  funext x S hd
  split <;> rfl
@[simp] theorem mIf_ap (c : M Bool) (a b : M α) : mIf c a b S hd = rk (c S hd) fun x S hd => if x = true then a S hd else b S hd := by
  unfold mIf
  rw [M.bind_ap]
  congr 1
  funext x S hd
  split <;> rfl
@[simp] theorem mAnd_ap (a b : M Bool) : mAnd a b S hd = rk (a S hd) fun x S hd => if x = true then b S hd else some (.ok false, S, hd) := by
  unfold mAnd
  rw [mIf_ap]
  rfl
@[simp] theorem mOr_ap (a b : M Bool) : mOr a b S hd = rk (a S hd) fun x S hd => if x = true then some (.ok true, S, hd) else b S hd := by
  unfold mOr
  rw [mIf_ap]
  rfl
@[simp] theorem mNot_ap (a : M Bool) : mNot a S hd = rk (a S hd) fun x S hd => some (.ok (!x), S, hd) := M.map_ap _ _
@[simp] theorem mTest_ap (a : M T) : mTest a S hd = rk (a S hd) fun x S hd => ok? (toB x) S hd := by
  unfold mTest
  rw [M.bind_ap]
  congr 1
def andK (b : M T) (x : T) (S : Slots) (hd : Hd) : Res T := match x with
  | .bl true => b S hd
  | .bl false => some (.ok (.bl false), S, hd)
  | _ => none
@[simp] theorem andK_bl (b : M T) (k : Bool) : andK b (.bl k) S hd = if k = true then b S hd else some (.ok (.bl false), S, hd) := by
  cases k <;> rfl
@[simp] theorem mAndV_ap (a b : M T) : mAndV a b S hd = rk (a S hd) (andK b) := by
  unfold mAndV
  rw [M.bind_ap]
  congr 1
  funext x S hd
  cases x <;> try rfl
  rename_i b
  cases b <;> rfl
def orK (b : M T) (x : T) (S : Slots) (hd : Hd) : Res T := match x with
  | .bl true => some (.ok (.bl true), S, hd)
  | .bl false => b S hd
  | _ => none
@[simp] theorem orK_bl (b : M T) (k : Bool) : orK b (.bl k) S hd = if k = true then some (.ok (.bl true), S, hd) else b S hd := by
  cases k <;> rfl
@[simp] theorem mOrV_ap (a b : M T) : mOrV a b S hd = rk (a S hd) (orK b) := by
  unfold mOrV
  rw [M.bind_ap]
  congr 1
  funext x S hd
  cases x <;> try rfl
  rename_i b
  cases b <;> rfl
@[simp] theorem mNotV_ap (a : M T) : mNotV a S hd = rk (a S hd) fun x S hd => ok? (notT x) S hd := by
  unfold mNotV
  rw [M.bind_ap]
  congr 1
@[simp] theorem mOp_ap (f : T → T → Option OT) (a b : M T) : mOp f a b S hd = rk (a S hd) fun x S hd => rk (b S hd) fun y S hd => ok? (f x y) S hd := by
  unfold mOp
  rw [M.bind_ap]
  congr 1
@[simp] theorem mUn_ap (f : T → Option OT) (a : M T) : mUn f a S hd = rk (a S hd) fun x S hd => ok? (f x) S hd := by
  unfold mUn
  rw [M.bind_ap]
  congr 1
@[simp] theorem mOpN_ap (f : T → T → Option OT) (i : Nat) (b : M T) : mOpN f i b S hd = rk (peek i S hd) fun _ S hd => rk (b S hd) fun y S hd => rk (peek i S hd) fun x S hd => ok? (f x y) S hd := by
  unfold mOpN
  rw [M.bind_ap]
  congr 1
@[simp] theorem mOpH_ap (f : Hd → T → T → Option OT) (i : Nat) (b : M T) : mOpH f i b S hd = rk (peek i S hd) fun _ S hd => rk (b S hd) fun y S hd => rk (peek i S hd) fun x S hd => ok? (f hd x y) S hd := by
  unfold mOpH
  rw [M.bind_ap]
  congr 1
@[simp] theorem mCmp_ap (f : T → T → Option Bool) (a b : M T) : mCmp f a b S hd = rk (a S hd) fun x S hd => rk (b S hd) fun y S hd => ok? (f x y) S hd := by
  unfold mCmp
  rw [M.bind_ap]
  congr 1
@[simp] theorem mCmpN_ap (f : T → T → Option Bool) (i : Nat) (b : M T) : mCmpN f i b S hd = rk (peek i S hd) fun _ S hd => rk (b S hd) fun y S hd => rk (peek i S hd) fun x S hd => ok? (f x y) S hd := by
  unfold mCmpN
  rw [M.bind_ap]
  congr 1
def chK (f' : T → T → Option Bool) (c : M T) (y : T) (o : Option Bool) (S : Slots) (hd : Hd) : Res Bool := match o with
  | some true => rk (c S hd) fun z S hd => ok? (f' y z) S hd
  | some false => some (.ok false, S, hd)
  | none => none
@[simp] theorem chK_some (f' : T → T → Option Bool) (c : M T) (y : T) (b : Bool) : chK f' c y (some b) S hd = if b = true then rk (c S hd) fun z S hd => ok? (f' y z) S hd else some (.ok false, S, hd) := by
  cases b <;> rfl
@[simp] theorem mChain_ap (f f' : T → T → Option Bool) (a b c : M T) : mChain f f' a b c S hd = rk (a S hd) fun x S hd => rk (b S hd) fun y S hd => chK f' c y (f x y) S hd := by
  unfold mChain
  rw [M.bind_ap]
  congr 1
  funext x S hd
  rw [M.bind_ap]
  congr 1
  funext y S hd
  unfold chK
  rcases f x y with _ | _ | _
  · rfl
  · rfl
  · show M.bind c _ S hd = _
    rw [M.bind_ap]
    congr 1
@[simp] theorem mCons_ap (m : M T) (r : M (List T)) : mCons m r S hd = rk (m S hd) fun x S hd => rk (r S hd) fun xs S hd => some (.ok (x :: xs), S, hd) := by
  unfold mCons
  rw [M.bind_ap]
  congr 1
@[simp] theorem mTup_ap (m : M (List T)) : mTup m S hd = rk (m S hd) fun ts S hd => ok? (if ts.length ≤ 1000 then some (.tup ts) else none) S hd := by
  unfold mTup
  rw [M.bind_ap]
  congr 1
@[simp] theorem mLst_ap (m : M (List T)) : mLst m S hd = rk (m S hd) fun ts S hd => ok? (if ts.length ≤ 1000 then some (.f ts) else none) S hd := by
  unfold mLst
  rw [M.bind_ap]
  congr 1
@[simp] theorem mIsi_ap (I : Isi) (c : TyN) (m : M T) : mIsi I c m S hd = rk (m S hd) fun t S hd => ok? (isiT I c t) S hd := by
  unfold mIsi
  rw [M.bind_ap]
  congr 1
@[simp] theorem mIsis_ap (I : Isi) (cs : List TyN) (m : M T) : mIsis I cs m S hd = rk (m S hd) fun t S hd => ok? (isiAny I cs t) S hd := by
  unfold mIsis
  rw [M.bind_ap]
  congr 1
@[simp] theorem mFld_ap (ok : Str → Bool) (f : Str) (m : M T) : mFld ok f m S hd = rk (m S hd) fun t S hd => ok? (fldT ok f t) S hd := by
  unfold mFld
  rw [M.bind_ap]
  congr 1
@[simp] theorem mEq_ap (B : EqTab) (neg : Bool) (a b : M T) : mEq B neg a b S hd = rk (a S hd) fun x S hd => rk (b S hd) fun y S hd => eqM B neg x y S hd := by
  unfold mEq
  rw [M.bind_ap]
  congr 1
@[simp] theorem mItemsA_ap (m : M T) : mItemsA m S hd = rk (m S hd) fun t S hd => ok? (itemsA t) S hd := by
  unfold mItemsA
  rw [M.bind_ap]
  congr 1
@[simp] theorem mRng_ap (f : List T → Option (List T)) (m : M (List T)) : mRng f m S hd = rk (m S hd) fun t S hd => ok? (f t) S hd := by
  unfold mRng
  rw [M.bind_ap]
  congr 1
@[simp] theorem mEnum_ap (m : M T) : mEnum m S hd = rk (m S hd) fun t S hd => ok? (enumT t) S hd := by
  unfold mEnum
  rw [M.bind_ap]
  congr 1
@[simp] theorem mPart_ap (m : M T) : mPart m S hd = rk (m S hd) fun t S hd => ok? (intO t) S hd := by
  unfold mPart
  rw [M.bind_ap]
  congr 1
@[simp] theorem mSl_ap (mo : M T) (ml mh : M (Option Int)) : mSl mo ml mh S hd = rk (mo S hd) fun x S hd => rk (ml S hd) fun l S hd => rk (mh S hd) fun h S hd => ok? (sliceT l h x) S hd := by
  unfold mSl
  rw [M.bind_ap]
  congr 1
@[simp] theorem mLc_ap (vs : List Nat) (mi : M (List T)) (g : Tgt) (c : M Bool) (e : M T) : mLc vs mi g c e S hd = rk (mi S hd) fun items S hd => lcR (lcL vs g c e items [] (wipeS S vs) hd) := by
  unfold mLc
  rw [M.bind_ap]
@[simp] theorem mLc2_ap (vs vs1 : List Nat) (mi : M (List T)) (g : Tgt) (c : M Bool) (mi1 : M (List T)) (g1 : Tgt) (c1 : M Bool) (e : M T) : mLc2 vs vs1 mi g c mi1 g1 c1 e S hd = rk (mi S hd) fun items S hd => lcR (lcO vs vs1 g c mi1 g1 c1 e items [] (wipeS S vs) hd) := by
  unfold mLc2
  rw [M.bind_ap]
@[simp] theorem sFor_ap (m : M (List T)) (g : Tgt) (body : Stm) : sFor m g body S hd = sk (m S hd) fun items S hd => forL g body items S hd := by
  unfold sFor
  rw [sBind_ap]
/-- a slot as it is read -/
def rdS (S : Slots) (i : Nat) : Option OT := match S[i]? with
  | some (some ot) => some ot
  | _ => none
@[simp] theorem rdS_0 (o : Option OT) (S : Slots) : rdS (o :: S) 0 = o := by
  unfold rdS
  cases o <;> rfl
@[simp] theorem rdS_s (o : Option OT) (S : Slots) (i : Nat) : rdS (o :: S) (i + 1) = rdS S i := rfl
def nmK (i : Nat) (S : Slots) (hd : Hd) (o : Option OT) : Res T := match o with
  | some ot => some (.ok ot.fz, S.set i (some (.v ot.fz)), hd)
  | none => none
@[simp] theorem nmK_some (i : Nat) (ot : OT) : nmK i S hd (some ot) = some (.ok ot.fz, S.set i (some (.v ot.fz)), hd) := rfl
@[simp] theorem nmV_ap (i : Nat) : nmV i S hd = nmK i S hd (rdS S i) := by
  unfold nmV rdS nmK
  rcases S[i]? with _ | _ | ot <;> rfl
def nmJ (i : Nat) (S : Slots) (hd : Hd) (o : Option OT) : Res OT := match o with
  | some (.v t) => some (.ok (.v t), S, hd)
  | some ot => some (.ok ot, S.set i none, hd)
  | none => none
@[simp] theorem nmJ_v (i : Nat) (t : T) : nmJ i S hd (some (.v t)) = some (.ok (.v t), S, hd) := rfl
@[simp] theorem nmJ_f (i : Nat) (t : List T) : nmJ i S hd (some (.f t)) = some (.ok (.f t), S.set i none, hd) := rfl
@[simp] theorem nmJ_l (i : Nat) (t : List OT) : nmJ i S hd (some (.l t)) = some (.ok (.l t), S.set i none, hd) := rfl
@[simp] theorem nmJ_p (i : Nat) (t : List OT) : nmJ i S hd (some (.p t)) = some (.ok (.p t), S.set i none, hd) := rfl
@[simp] theorem nmO_ap (i : Nat) : nmO i S hd = nmJ i S hd (rdS S i) := by
  unfold nmO rdS nmJ
  rcases S[i]? with _ | _ | ot <;> try rfl
  cases ot <;> rfl
def pkK (S : Slots) (hd : Hd) (o : Option OT) : Res T := match o with
  | some (.v t) => some (.ok t, S, hd)
  | some (.f xs) => some (.ok (.lst xs), S, hd)
  | some (.o C fs) => some (.ok (.ins C fs), S, hd)
  | _ => none
@[simp] theorem pkK_v (t : T) : pkK S hd (some (.v t)) = some (.ok t, S, hd) := rfl
@[simp] theorem pkK_f (xs : List T) : pkK S hd (some (.f xs)) = some (.ok (.lst xs), S, hd) := rfl
@[simp] theorem pkK_o (C : Str) (fs : List (Str × T)) : pkK S hd (some (.o C fs)) = some (.ok (.ins C fs), S, hd) := rfl
@[simp] theorem peek_ap (i : Nat) : peek i S hd = pkK S hd (rdS S i) := by
  unfold peek rdS pkK
  rcases S[i]? with _ | _ | ot <;> try rfl
  cases ot <;> rfl
def putK (hd : Hd) (o : Option Slots) : SRes := match o with
  | some S => some (.next, S, hd)
  | none => none
@[simp] theorem putK_some : putK hd (some S) = some (.next, S, hd) := rfl
@[simp] theorem sPut_ap (i : Nat) (m : M OT) : sPut i m S hd = sk (m S hd) fun ot S hd => putK hd (setS i ot S) := by
  unfold sPut
  rw [sBind_ap]
  congr 1
@[simp] theorem sUnp_ap (g : Tgt) (m : M T) : sUnp g m S hd = sk (m S hd) fun t S hd => putK hd (g t S) := by
  unfold sUnp
  rw [sBind_ap]
  congr 1
@[simp] theorem sPar_ap (i j : Nat) (ma mb : M OT) : sPar i j ma mb S hd = sk (ma S hd) fun a S hd => sk (mb S hd) fun b S hd => putK hd ((setS i a S).bind (setS j b)) := by
  unfold sPar
  rw [sBind_ap]
  congr 1
  funext a S hd
  rw [sBind_ap]
  congr 1
  funext b S hd
  cases setS i a S with
  | none => rfl
  | some S1 =>
    show (match setS j b S1 with
      | some S2 => some (.next, S2, hd)
      | none => none) = putK hd (setS j b S1)
    cases setS j b S1 <;> rfl
/-! calls -/
def apK (r : Option (Out OT × Hd)) (S : Slots) : Res OT := match r with
  | none => none
  | some (.ok ot, hd') => some (.ok ot, S, hd')
  | some (.ex C fs, hd') => some (.ex C fs, S, hd')
@[simp] theorem apK_ok (ot : OT) : apK (some (.ok ot, hd)) S = some (.ok ot, S, hd) := rfl
@[simp] theorem apK_ex (C : Str) (fs : List (Str × T)) : apK (some (.ex C fs, hd)) S = some (.ex C fs, S, hd) := rfl
@[simp] theorem apK_ite {c : Prop} [Decidable c] (a b : Option (Out OT × Hd)) : apK (if c then a else b) S = if c then apK a S else apK b S := by
  split <;> rfl
theorem mApp_ap (n : Nat) (F : Fn) (ts : List T) : mApp n F ts S hd = if ts.length = n then apK (F ts hd) S else none := by
  unfold mApp apK
  rfl
@[simp] theorem mCall_ap (n : Nat) (F : Fn) (m : M (List T)) : mCall n F m S hd = rk (m S hd) fun ts S hd => mApp n F ts S hd := by
  unfold mCall
  rw [M.bind_ap]
@[simp] theorem mCallK_ap (n j : Nat) (F : Fn) (m mk : M (List T)) : mCallK n j F m mk S hd = rk (m S hd) fun ts S hd => rk (mk S hd) fun us S hd => if ts.length = n ∧ us.length = j then mApp (n + j) F (ts ++ us) S hd else none := by
  unfold mCallK
  rw [M.bind_ap]
  congr 1
  funext ts S hd
  rw [M.bind_ap]
  congr 1
  funext us S hd
  split <;> rfl
def runK (r : SRes) : Option (Out OT × Hd) := match r with
  | some (.next, _, hd') => some (.ok (.v .non), hd')
  | some (.ret ot, _, hd') => some (.ok ot, hd')
  | some (.ex C fs, _, hd') => some (.ex C fs, hd')
  | _ => none
@[simp] theorem runK_next : runK (some (.next, S, hd)) = some (.ok (.v .non), hd) := rfl
@[simp] theorem runK_ret (ot : OT) : runK (some (.ret ot, S, hd)) = some (.ok ot, hd) := rfl
@[simp] theorem runK_ex (C : Str) (fs : List (Str × T)) : runK (some (.ex C fs, S, hd)) = some (.ex C fs, hd) := rfl
@[simp] theorem runK_ite {c : Prop} [Decidable c] (a b : SRes) : runK (if c then a else b) = if c then runK a else runK b := by
  split <;> rfl
@[simp] theorem runS_ap (n : Nat) (m : Stm) (ts : List T) : runS n m ts hd = runK (m (slots0 n ts) hd) := by
  unfold runS runK
  rfl
@[simp] theorem mApp_0 (F : Fn) : mApp 0 (srcF 0 [] [] [] F) [] S hd = apK (F [] hd) S := rfl
@[simp] theorem mApp_1 (F : Fn) (a : T) : mApp 1 (srcF 1 [.p 0] [] [] F) [a] S hd = apK (F [a] hd) S := rfl
@[simp] theorem mApp_2 (F : Fn) (a b : T) : mApp 2 (srcF 2 [.p 0, .p 1] [] [] F) [a, b] S hd = apK (F [a, b] hd) S := rfl
@[simp] theorem mApp_3 (F : Fn) (a b c : T) : mApp 3 (srcF 3 [.p 0, .p 1, .p 2] [] [] F) [a, b, c] S hd = apK (F [a, b, c] hd) S := rfl
theorem srcF_ap (n : Nat) (src : List Src) (dts mts : List T) (F : Fn) (ts : List T) : srcF n src dts mts F ts hd = F (srcL src (ts.take n) dts mts (ts.drop n)) hd := rfl
/-! loops -/
def gk (o : Option Slots) (k : Slots → SRes) : SRes := match o with
  | some S => k S
  | none => none
@[simp] theorem gk_some (k : Slots → SRes) : gk (some S) k = k S := rfl
def fk (r : SRes) (k : Stm) : SRes := match r with
  | some (.next, S, hd) => k S hd
  | some (.cont, S, hd) => k S hd
  | some (.brk, S, hd) => some (.next, S, hd)
  | r => r
@[simp] theorem fk_none (k : Stm) : fk none k = none := rfl
@[simp] theorem fk_next (k : Stm) : fk (some (.next, S, hd)) k = k S hd := rfl
@[simp] theorem fk_cont (k : Stm) : fk (some (.cont, S, hd)) k = k S hd := rfl
@[simp] theorem fk_brk (k : Stm) : fk (some (.brk, S, hd)) k = some (.next, S, hd) := rfl
@[simp] theorem fk_ret (v : OT) (k : Stm) : fk (some (.ret v, S, hd)) k = some (.ret v, S, hd) := rfl
@[simp] theorem fk_ex (C : Str) (fs : List (Str × T)) (k : Stm) : fk (some (.ex C fs, S, hd)) k = some (.ex C fs, S, hd) := rfl
@[simp] theorem fk_ite {c : Prop} [Decidable c] (a b : SRes) (k : Stm) : fk (if c then a else b) k = if c then fk a k else fk b k := by
  split <;> rfl
@[simp] theorem forL_nil (g : Tgt) (b : Stm) : forL g b [] S hd = some (.next, S, hd) := rfl
theorem forL_cons (g : Tgt) (b : Stm) (x : T) (xs : List T) : forL g b (x :: xs) S hd = gk (g x S) fun S1 => fk (b S1 hd) (forL g b xs) := by
  rw [forL]
  unfold gk
  rcases g x S with _ | S1
  · rfl
  · show (match b S1 hd with
      | some (.next, S2, hd2) => forL g b xs S2 hd2
      | some (.cont, S2, hd2) => forL g b xs S2 hd2
      | some (.brk, S2, hd2) => some (.next, S2, hd2)
      | r => r) = fk (b S1 hd) (forL g b xs)
    unfold fk
    rcases b S1 hd with _ | ⟨f, S2, hd2⟩
    · rfl
    · cases f <;> rfl
abbrev LRes : Type := Option (List T × Slots × Hd)
def gl (o : Option Slots) (k : Slots → LRes) : LRes := match o with
  | some S => k S
  | none => none
@[simp] theorem gl_some (k : Slots → LRes) : gl (some S) k = k S := rfl
def lk (r : Res Bool) (k j : Slots → Hd → LRes) : LRes := match r with
  | some (.ok true, S, hd) => k S hd
  | some (.ok false, S, hd) => j S hd
  | _ => none
@[simp] theorem lk_none (k j : Slots → Hd → LRes) : lk none k j = none := rfl
@[simp] theorem lk_ok (b : Bool) (k j : Slots → Hd → LRes) : lk (some (.ok b, S, hd)) k j = if b = true then k S hd else j S hd := by
  cases b <;> rfl
@[simp] theorem lk_ite {c : Prop} [Decidable c] (a b : Res Bool) (k j : Slots → Hd → LRes) : lk (if c then a else b) k j = if c then lk a k j else lk b k j := by
  split <;> rfl
def le (r : Res T) (k : T → Slots → Hd → LRes) : LRes := match r with
  | some (.ok t, S, hd) => k t S hd
  | _ => none
@[simp] theorem le_none (k : T → Slots → Hd → LRes) : le none k = none := rfl
@[simp] theorem le_ok (t : T) (k : T → Slots → Hd → LRes) : le (some (.ok t, S, hd)) k = k t S hd := rfl
@[simp] theorem le_ite {c : Prop} [Decidable c] (a b : Res T) (k : T → Slots → Hd → LRes) : le (if c then a else b) k = if c then le a k else le b k := by
  split <;> rfl
@[simp] theorem lcL_nil (vs : List Nat) (g : Tgt) (c : M Bool) (e : M T) (acc : List T) : lcL vs g c e [] acc S hd = some (acc, S, hd) := rfl
theorem lcL_cons (vs : List Nat) (g : Tgt) (c : M Bool) (e : M T) (x : T) (xs acc : List T) : lcL vs g c e (x :: xs) acc S hd = gl (g x S) fun S1 => lk (c S1 hd) (fun S2 hd2 => le (e S2 hd2) fun t S3 hd3 => if acc.length < 10000 then lcL vs g c e xs (acc ++ [t]) (wipeS S3 vs) hd3 else none) (fun S2 hd2 => lcL vs g c e xs acc (wipeS S2 vs) hd2) := by
  rw [lcL]
  unfold gl
  rcases g x S with _ | S1
  · rfl
  · show (match c S1 hd with
      | some (.ok true, S2, hd2) => match e S2 hd2 with
        | some (.ok t, S3, hd3) => if acc.length < 10000 then lcL vs g c e xs (acc ++ [t]) (wipeS S3 vs) hd3 else none
        | _ => none
      | some (.ok false, S2, hd2) => lcL vs g c e xs acc (wipeS S2 vs) hd2
      | _ => none) = lk (c S1 hd) _ _
    unfold lk
    rcases c S1 hd with _ | ⟨o, S2, hd2⟩
    · rfl
    · cases o with
      | ex C fs => rfl
      | ok b =>
        cases b with
        | false => rfl
        | true =>
          show (match e S2 hd2 with
            | some (.ok t, S3, hd3) => if acc.length < 10000 then lcL vs g c e xs (acc ++ [t]) (wipeS S3 vs) hd3 else none
            | _ => none) = le (e S2 hd2) _
          unfold le
          rcases e S2 hd2 with _ | ⟨o, S3, hd3⟩
          · rfl
          · cases o <;> rfl
@[simp] theorem lcR_some (acc : List T) : lcR (some (acc, S, hd)) = some (.ok (.f acc), S, hd) := rfl
@[simp] theorem lcR_ite {c : Prop} [Decidable c] (a b : LRes) : lcR (if c then a else b) = if c then lcR a else lcR b := by
  split <;> rfl
/-- a comprehension whose turns leave the slots as they are -/
theorem lcL_map {vs : List Nat} {g : Tgt} {c : M Bool} {e : M T} (p : T → Bool) (f : T → T) : ∀ {xs acc : List T}, (∀ x ∈ xs, ∃ S1 S2, g x S = some S1 ∧ c S1 hd = some (.ok (p x), S2, hd) ∧ (p x = true → ∃ S3, e S2 hd = some (.ok (f x), S3, hd) ∧ wipeS S3 vs = S) ∧ (p x = false → wipeS S2 vs = S)) →
    acc.length + xs.length ≤ 10000 → lcL vs g c e xs acc S hd = some (acc ++ (xs.filter p).map f, S, hd)
  | [], acc, _, _ => by simp
  | x :: xs, acc, h, hl => by
    obtain ⟨S1, S2, h1, h2, h3, h4⟩ := h x List.mem_cons_self
    rw [List.length_cons] at hl
    rw [lcL_cons, h1, gl_some, h2, lk_ok]
    cases hp : p x with
    | true =>
      obtain ⟨S3, h5, h6⟩ := h3 hp
      rw [if_pos rfl, h5, le_ok, if_pos (by omega), h6, lcL_map p f (fun y m => h y (List.mem_cons_of_mem _ m)) (by simp only [List.length_append, List.length_cons, List.length_nil]; omega)]
      simp [List.filter_cons, hp]
    | false =>
      rw [if_neg (by decide), h4 hp, lcL_map p f (fun y m => h y (List.mem_cons_of_mem _ m)) (by omega)]
      simp [List.filter_cons, hp]
/-! own lists -/
def mu3 (i : Nat) (S : Slots) (hd : Hd) (r : Option (T × List T)) : Res T := match r with
  | some (t, xs') => some (.ok t, S.set i (some (.f xs')), hd)
  | none => none
@[simp] theorem mu3_some (i : Nat) (t : T) (xs : List T) : mu3 i S hd (some (t, xs)) = some (.ok t, S.set i (some (.f xs)), hd) := rfl
@[simp] theorem mu3_ite (i : Nat) {c : Prop} [Decidable c] (a b : Option (T × List T)) : mu3 i S hd (if c then a else b) = if c then mu3 i S hd a else mu3 i S hd b := by
  split <;> rfl
def mu2 (op : MOp) (i : Nat) (args : List T) (S : Slots) (hd : Hd) (o : Option OT) : Res T := match o with
  | some (.f xs) => mu3 i S hd (op xs args)
  | _ => none
@[simp] theorem mu2_f (op : MOp) (i : Nat) (args xs : List T) : mu2 op i args S hd (some (.f xs)) = mu3 i S hd (op xs args) := rfl
def mu1 (op : MOp) (i : Nat) (m : Res (List T)) (o : Option OT) : Res T := match o with
  | some (.f _) => rk m fun args S2 hd2 => mu2 op i args S2 hd2 (rdS S2 i)
  | _ => none
@[simp] theorem mu1_f (op : MOp) (i : Nat) (m : Res (List T)) (xs : List T) : mu1 op i m (some (.f xs)) = rk m fun args S2 hd2 => mu2 op i args S2 hd2 (rdS S2 i) := rfl
@[simp] theorem mMut_ap (i : Nat) (op : MOp) (m : M (List T)) : mMut i op m S hd = mu1 op i (m S hd) (rdS S i) := by
  unfold mMut rdS mu1
  rcases S[i]? with _ | _ | ot <;> try rfl
  cases ot <;> try rfl
  show M.bind m _ S hd = _
  rw [M.bind_ap]
  congr 1
  funext args S2 hd2
  unfold rdS mu2
  rcases S2[i]? with _ | _ | ot <;> try rfl
  cases ot <;> try rfl
def sh2 (i : Nat) (S : Slots) (hd : Hd) (o : Option (List T)) : SRes := match o with
  | some xs => some (.next, S.set i (some (.f xs)), hd)
  | none => none
@[simp] theorem sh2_some (i : Nat) (xs : List T) : sh2 i S hd (some xs) = some (.next, S.set i (some (.f xs)), hd) := rfl
def sh3 (S : Slots) (o : Option HS) : SRes := match o with
  | some s => some (.next, S, some s)
  | none => none
@[simp] theorem sh3_some (s : HS) : sh3 S (some s) = some (.next, S, some s) := rfl
@[simp] theorem sh3_ite {c : Prop} [Decidable c] (a b : Option HS) : sh3 S (if c then a else b) = if c then sh3 S a else sh3 S b := by
  split <;> rfl
def sh1 (i : Nat) (mk : M T) (v : T) (S : Slots) (hd : Hd) (o : Option OT) : SRes := match o with
  | some (.f _) => sk (mk S hd) fun k S2 hd2 => match S2[i]? with
    | some (some (.f xs)) => sh2 i S2 hd2 (setT xs k v)
    | _ => none
  | some (.v .hand) => sk (mk S hd) fun k S2 hd2 => match S2[i]?, k, hd2 with
    | some (some (.v .hand)), .int k0, some s => sh3 S2 (setH s k0 v)
    | _, _, _ => none
  | _ => none
def shf (i : Nat) (k v : T) (S : Slots) (hd : Hd) (o : Option OT) : SRes := match o with
  | some (.f xs) => sh2 i S hd (setT xs k v)
  | _ => none
@[simp] theorem shf_f (i : Nat) (k v : T) (xs : List T) : shf i k v S hd (some (.f xs)) = sh2 i S hd (setT xs k v) := rfl
def shh (k v : T) (S : Slots) (hd : Hd) (o : Option OT) : SRes := match o, k, hd with
  | some (.v .hand), .int k0, some s => sh3 S (setH s k0 v)
  | _, _, _ => none
@[simp] theorem shh_h (k : Int) (v : T) (s : HS) : shh (.int k) v S (some s) (some (.v .hand)) = sh3 S (setH s k v) := rfl
@[simp] theorem sh1_f (i : Nat) (mk : M T) (v : T) (xs : List T) : sh1 i mk v S hd (some (.f xs)) = sk (mk S hd) fun k S2 hd2 => shf i k v S2 hd2 (rdS S2 i) := by
  unfold sh1
  show sk (mk S hd) _ = _
  congr 1
  funext k S2 hd2
  unfold shf rdS
  rcases S2[i]? with _ | _ | ot <;> try rfl
  cases ot <;> rfl
@[simp] theorem sh1_hand (i : Nat) (mk : M T) (v : T) : sh1 i mk v S hd (some (.v .hand)) = sk (mk S hd) fun k S2 hd2 => shh k v S2 hd2 (rdS S2 i) := by
  unfold sh1
  show sk (mk S hd) _ = _
  congr 1
  funext k S2 hd2
  unfold shh rdS
  rcases S2[i]? with _ | _ | ot <;> try rfl
  cases ot <;> try rfl
  rename_i t
  cases t <;> try rfl
  cases k <;> try rfl
  cases hd2 <;> rfl
@[simp] theorem sSubH_ap (i : Nat) (mk mv : M T) : sSubH i mk mv S hd = sk (mv S hd) fun v S hd => sh1 i mk v S hd (rdS S i) := by
  unfold sSubH
  rw [sBind_ap]
  congr 1
  funext v S hd
  unfold rdS
  rcases S[i]? with _ | _ | ot
  · rfl
  · rfl
  · cases ot with
    | f xs =>
      show sBind mk _ S hd = _
      rw [sBind_ap]
      unfold sh1
      congr 1
    | v t => cases t <;> try rfl
    | _ => rfl
/-! instances -/
def fi (i : Nat) (ok : Str → Bool) (f : Str) (t : T) (S : Slots) (hd : Hd) (o : Option OT) : SRes := match o with
  | some (.o C fs) => if ok C = true ∧ fs.length < 1000 then some (.next, S.set i (some (.o C (putT f t fs))), hd) else none
  | _ => none
@[simp] theorem fi_o (i : Nat) (ok : Str → Bool) (f : Str) (t : T) (C : Str) (fs : List (Str × T)) : fi i ok f t S hd (some (.o C fs)) = if ok C = true ∧ fs.length < 1000 then some (.next, S.set i (some (.o C (putT f t fs))), hd) else none := rfl
@[simp] theorem sFldI_ap (ok : Str → Bool) (i : Nat) (f : Str) (m : M T) : sFldI ok i f m S hd = sk (m S hd) fun t S hd => fi i ok f t S hd (rdS S i) := by
  unfold sFldI
  rw [sBind_ap]
  congr 1
  funext v S hd
  unfold rdS fi
  rcases S[i]? with _ | _ | ot
  · rfl
  · rfl
  · cases ot <;> rfl
def rz (C : Str) (o : Option (List (Str × T))) (S : Slots) (hd : Hd) : SRes := match o with
  | some fs => some (.ex C fs, S, hd)
  | none => none
@[simp] theorem rz_some (C : Str) (fs : List (Str × T)) : rz C (some fs) S hd = some (.ex C fs, S, hd) := rfl
@[simp] theorem sRaise_ap (C : Str) (n : Nat) (st : ExF) (m : M (List T)) : sRaise C n st m S hd = sk (m S hd) fun ts S hd => if ts.length = n ∧ n ≤ 500 then rz C (fieldsT st ts []) S hd else none := by
  unfold sRaise
  rw [sBind_ap]
  congr 1
def inK (r : Option (Out Unit × List (Str × T) × Hd)) (C : Str) (S : Slots) : SRes := match r with
  | some (.ok _, fs', hd') => some (.next, S.set 0 (some (.o C fs')), hd')
  | some (.ex C2 e, fs', hd') => some (.ex C2 e, S.set 0 (some (.o C fs')), hd')
  | none => none
@[simp] theorem inK_ok (u : Unit) (C : Str) (fs : List (Str × T)) : inK (some (.ok u, fs, hd)) C S = some (.next, S.set 0 (some (.o C fs)), hd) := rfl
@[simp] theorem inK_ex (C2 : Str) (e : List (Str × T)) (C : Str) (fs : List (Str × T)) : inK (some (.ex C2 e, fs, hd)) C S = some (.ex C2 e, S.set 0 (some (.o C fs)), hd) := rfl
@[simp] theorem inK_ite {c : Prop} [Decidable c] (a b : Option (Out Unit × List (Str × T) × Hd)) (C : Str) : inK (if c then a else b) C S = if c then inK a C S else inK b C S := by
  split <;> rfl
def sp3 (n : Nat) (F : Ini) (C : Str) (ts : List T) (S : Slots) (hd : Hd) (o : Option OT) : SRes := match o with
  | some (.o C1 fs) => if C1 = C ∧ ts.length = n then inK (F fs ts hd) C S else none
  | _ => none
@[simp] theorem sp3_o (n : Nat) (F : Ini) (C : Str) (ts : List T) (C1 : Str) (fs : List (Str × T)) : sp3 n F C ts S hd (some (.o C1 fs)) = if C1 = C ∧ ts.length = n then inK (F fs ts hd) C S else none := rfl
def sp2 (m : Res (List T)) (C : Str) (o : Option (Nat × Ini)) : SRes := match o with
  | some (n, F) => sk m fun ts S hd => sp3 n F C ts S hd (rdS S 0)
  | none => none
@[simp] theorem sp2_some (m : Res (List T)) (C : Str) (n : Nat) (F : Ini) : sp2 m C (some (n, F)) = sk m fun ts S hd => sp3 n F C ts S hd (rdS S 0) := rfl
def sp1 (sf : Str → Option (Nat × Ini)) (m : Res (List T)) (o : Option OT) : SRes := match o with
  | some (.o C _) => sp2 m C (sf C)
  | _ => none
@[simp] theorem sp1_o (sf : Str → Option (Nat × Ini)) (m : Res (List T)) (C : Str) (fs : List (Str × T)) : sp1 sf m (some (.o C fs)) = sp2 m C (sf C) := rfl
@[simp] theorem sSup_ap (sf : Str → Option (Nat × Ini)) (m : M (List T)) : sSup sf m S hd = sp1 sf (m S hd) (rdS S 0) := by
  unfold sSup rdS sp1
  rcases S[(0 : Nat)]? with _ | _ | ot
  · rfl
  · rfl
  · cases ot with
    | o C fs =>
      show (match sf C with
        | some (n, F) => sBind m (fun ts S hd => match (S[(0 : Nat)]? : Option (Option OT)) with
          | some (some (.o C1 fs)) => if C1 = C ∧ ts.length = n then match F fs ts hd with
              | some (.ok _, fs', hd') => some (.next, S.set 0 (some (.o C fs')), hd')
              | some (.ex C2 e, fs', hd') => some (.ex C2 e, S.set 0 (some (.o C fs')), hd')
              | none => none
            else none
          | _ => none) S hd
        | none => none) = sp2 (m S hd) C (sf C)
      unfold sp2
      rcases sf C with _ | ⟨n, F⟩
      · rfl
      · show sBind m _ S hd = sk (m S hd) _
        rw [sBind_ap]
        congr 1
        funext ts S hd
        unfold rdS sp3
        rcases S[(0 : Nat)]? with _ | _ | ot
        · rfl
        · rfl
        · cases ot <;> rfl
    | _ => rfl
def mkK (C : Str) (r : Option (Out Unit × List (Str × T) × Hd)) : Option (Out OT × Hd) := match r with
  | none => none
  | some (.ok _, fs, hd') => some (.ok (.v (.ins C fs)), hd')
  | some (.ex C' e, _, hd') => some (.ex C' e, hd')
@[simp] theorem mkK_ok (C : Str) (u : Unit) (fs : List (Str × T)) : mkK C (some (.ok u, fs, hd)) = some (.ok (.v (.ins C fs)), hd) := rfl
@[simp] theorem mkK_ex (C C2 : Str) (e fs : List (Str × T)) : mkK C (some (.ex C2 e, fs, hd)) = some (.ex C2 e, hd) := rfl
@[simp] theorem mkK_ite (C : Str) {c : Prop} [Decidable c] (a b : Option (Out Unit × List (Str × T) × Hd)) : mkK C (if c then a else b) = if c then mkK C a else mkK C b := by
  split <;> rfl
@[simp] theorem mkFn_ap (C : Str) (F : Ini) (ts : List T) : mkFn C F ts hd = mkK C (F [] ts hd) := by
  unfold mkFn mkK
  rfl
def ri3 (C : Str) (hd : Hd) (o : Option OT) : Option (Out Unit × List (Str × T) × Hd) := match o with
  | some (.o C' fs') => if C' = C then some (.ok (), fs', hd) else none
  | _ => none
@[simp] theorem ri3_o (C C' : Str) (fs : List (Str × T)) : ri3 C hd (some (.o C' fs)) = if C' = C then some (.ok (), fs, hd) else none := rfl
def ri4 (C C1 : Str) (e : List (Str × T)) (hd : Hd) (o : Option OT) : Option (Out Unit × List (Str × T) × Hd) := match o with
  | some (.o C' fs') => if C' = C then some (.ex C1 e, fs', hd) else none
  | _ => none
@[simp] theorem ri4_o (C C1 : Str) (e : List (Str × T)) (C' : Str) (fs : List (Str × T)) : ri4 C C1 e hd (some (.o C' fs)) = if C' = C then some (.ex C1 e, fs, hd) else none := rfl
def riK (C : Str) (r : SRes) : Option (Out Unit × List (Str × T) × Hd) := match r with
  | some (.next, S', hd') => ri3 C hd' (rdS S' 0)
  | some (.ex C1 e, S', hd') => ri4 C C1 e hd' (rdS S' 0)
  | _ => none
@[simp] theorem riK_next (C : Str) : riK C (some (.next, S, hd)) = ri3 C hd (rdS S 0) := rfl
@[simp] theorem riK_ex (C C1 : Str) (e : List (Str × T)) : riK C (some (.ex C1 e, S, hd)) = ri4 C C1 e hd (rdS S 0) := rfl
@[simp] theorem riK_ite (C : Str) {c : Prop} [Decidable c] (a b : SRes) : riK C (if c then a else b) = if c then riK C a else riK C b := by
  split <;> rfl
@[simp] theorem runI_ap (n : Nat) (C : Str) (m : Stm) (fs : List (Str × T)) (ts : List T) : runI n C m fs ts hd = riK C (m (slotsI n C fs ts) hd) := by
  unfold runI riK
  rcases m (slotsI n C fs ts) hd with _ | ⟨f, S, hd'⟩
  · rfl
  · cases f <;> try rfl
    all_goals
      rcases S with _ | ⟨o, S⟩
      · rfl
      · rcases o with _ | ot
        · rfl
        · cases ot <;> rfl
theorem srcI_ap (n : Nat) (src : List Src) (dts mts : List T) (F : Ini) (fs : List (Str × T)) (ts : List T) : srcI n src dts mts F fs ts hd = F fs (srcL src (ts.take n) dts mts (ts.drop n)) hd := rfl
def mt2 (nm C : Str) (fs : List (Str × T)) (m : M (List T)) (S : Slots) (hd : Hd) (o : Option (Nat × Fn)) : Res OT := match o with
  | some (n, F) => if fs.lookup nm = none then rk (m S hd) fun ts S hd => mApp (n + 1) F (.ins C fs :: ts) S hd else none
  | none => none
@[simp] theorem mt2_some (nm C : Str) (fs : List (Str × T)) (m : M (List T)) (n : Nat) (F : Fn) : mt2 nm C fs m S hd (some (n, F)) = if fs.lookup nm = none then rk (m S hd) fun ts S hd => mApp (n + 1) F (.ins C fs :: ts) S hd else none := rfl
def mt1 (mt : Str → Option (Nat × Fn)) (nm : Str) (m : M (List T)) (t : T) (S : Slots) (hd : Hd) : Res OT := match t with
  | .ins C fs => mt2 nm C fs m S hd (mt C)
  | _ => none
@[simp] theorem mt1_ins (mt : Str → Option (Nat × Fn)) (nm : Str) (m : M (List T)) (C : Str) (fs : List (Str × T)) : mt1 mt nm m (.ins C fs) S hd = mt2 nm C fs m S hd (mt C) := rfl
@[simp] theorem mMeth_ap (mt : Str → Option (Nat × Fn)) (nm : Str) (mo : M T) (m : M (List T)) : mMeth mt nm mo m S hd = rk (mo S hd) (mt1 mt nm m) := by
  unfold mMeth
  rw [M.bind_ap]
  congr 1
  funext t S hd
  cases t <;> try rfl
  rename_i C fs
  show (match mt C with
    | some (n, F) => if fs.lookup nm = none then M.bind m (fun ts => mApp (n + 1) F (.ins C fs :: ts)) else M.stuck
    | none => M.stuck) S hd = mt2 nm C fs m S hd (mt C)
  unfold mt2
  rcases mt C with _ | ⟨n, F⟩
  · rfl
  · show (if fs.lookup nm = none then M.bind m (fun ts => mApp (n + 1) F (.ins C fs :: ts)) else M.stuck) S hd = if fs.lookup nm = none then _ else none
    split
    · rw [M.bind_ap]
    · rfl
def lm1 (C f : Str) (r : Res OT) : Res OT := match r with
  | none => none
  | some (.ok _, S', hd') => some (.ok (.v .non), S', hd')
  | some (.ex D fs, S', hd') => if D = C then ok? ((fs.lookup f).map OT.v) S' hd' else none
@[simp] theorem lm1_ok (C f : Str) (a : OT) : lm1 C f (some (.ok a, S, hd)) = some (.ok (.v .non), S, hd) := rfl
@[simp] theorem lm1_ex (C f D : Str) (fs : List (Str × T)) : lm1 C f (some (.ex D fs, S, hd)) = if D = C then ok? ((fs.lookup f).map OT.v) S hd else none := rfl
@[simp] theorem lm1_ite (C f : Str) {c : Prop} [Decidable c] (a b : Res OT) : lm1 C f (if c then a else b) = if c then lm1 C f a else lm1 C f b := by
  split <;> rfl
@[simp] theorem mLam_ap (C f : Str) (m : M OT) : mLam C f m S hd = lm1 C f (m S hd) := by
  unfold mLam lm1
  rcases m S hd with _ | ⟨o, S', hd'⟩
  · rfl
  · cases o with
    | ok a => rfl
    | ex D fs =>
      by_cases h : D = C
      · simp only [h, if_true]
        cases fs.lookup f <;> rfl
      · simp only [h, if_false]
end
end TL
namespace TL
open PySem PySem.Spec PyProof.Rows L2
/-! ### data: == and in, on the trees themselves -/
mutual
def eqB : T → T → Bool
  | .non, b => match b with
    | .non => true
    | _ => false
  | .bl a, b => match b with
    | .bl b => a == b
    | .int j => (if a then 1 else 0) == j
    | _ => false
  | .int i, b => match b with
    | .bl b => i == (if b then 1 else 0)
    | .int j => decide (i = j)
    | _ => false
  | .str x, b => match b with
    | .str y => decide (x = y)
    | _ => false
  | .lst xs, b => match b with
    | .lst ys => eqBs xs ys
    | _ => false
  | .tup xs, b => match b with
    | .tup ys => eqBs xs ys
    | _ => false
  | _, _ => false
def eqBs : List T → List T → Bool
  | [], ys => match ys with
    | [] => true
    | _ :: _ => false
  | x :: xs, ys => match ys with
    | y :: ys => eqB x y && eqBs xs ys
    | [] => false
end
mutual
/-- plain data, no deeper than k -/
def okD : Nat → T → Bool
  | _, .non => true
  | _, .bl _ => true
  | _, .int _ => true
  | _, .str s => PyData.strOk s
  | k + 1, .tup xs => okDs k xs
  | k + 1, .lst xs => okDs k xs
  | _, _ => false
def okDs : Nat → List T → Bool
  | _, [] => true
  | k, x :: xs => okD k x && okDs k xs
end
mutual
theorem okD_toD : ∀ (k : Nat) (t : T), okD k t = true → ∃ d, toD t = some d ∧ d.depth ≤ k
  | k, .non, h => ⟨.none, by simp [toD], by simp [PyData.depth]⟩
  | k, .bl b, h => ⟨.bool b, by simp [toD], by simp [PyData.depth]⟩
  | k, .int b, h => ⟨.int b, by simp [toD], by simp [PyData.depth]⟩
  | k, .str s, h => ⟨.str s, by cases k <;> (simp only [okD] at h; simp [toD, h]), by simp [PyData.depth]⟩
  | 0, .tup xs, h => by simp [okD] at h
  | 0, .lst xs, h => by simp [okD] at h
  | k + 1, .tup xs, h => by
    simp only [okD] at h
    obtain ⟨ds, e, l⟩ := okDs_toD k xs h
    exact ⟨.tuple ds, by simp [toD, e], by simp only [PyData.depth]; omega⟩
  | k + 1, .lst xs, h => by
    simp only [okD] at h
    obtain ⟨ds, e, l⟩ := okDs_toD k xs h
    exact ⟨.list ds, by simp [toD, e], by simp only [PyData.depth]; omega⟩
  | k, .ins _ _, h => by cases k <;> simp [okD] at h
  | k, .rng _ _, h => by cases k <;> simp [okD] at h
  | k, .hand, h => by cases k <;> simp [okD] at h
  | k, .scr _, h => by cases k <;> simp [okD] at h
theorem okDs_toD : ∀ (k : Nat) (ts : List T), okDs k ts = true → ∃ ds, toDs ts = some ds ∧ PyData.depthAll ds ≤ k
  | k, [], h => ⟨[], by simp [toDs], by simp [PyData.depthAll]⟩
  | k, x :: xs, h => by
    simp only [okDs, Bool.and_eq_true] at h
    obtain ⟨d, e, l⟩ := okD_toD k x h.1
    obtain ⟨ds, e2, l2⟩ := okDs_toD k xs h.2
    exact ⟨d :: ds, by simp [toDs, e, e2], by simp only [PyData.depthAll]; omega⟩
end
/-- what a tree's data looks like -/
inductive DSh : T → PyData → Prop where
  | non : DSh .non .none
  | bl (b : Bool) : DSh (.bl b) (.bool b)
  | int (i : Int) : DSh (.int i) (.int i)
  | str (s : Str) : DSh (.str s) (.str s)
  | tup {xs : List T} {ds : List PyData} (h : toDs xs = some ds) : DSh (.tup xs) (.tuple ds)
  | lst {xs : List T} {ds : List PyData} (h : toDs xs = some ds) : DSh (.lst xs) (.list ds)
theorem dsh {t : T} {d : PyData} (h : toD t = some d) : DSh t d := by
  cases t with
  | non => simp only [toD] at h; cases h; exact .non
  | bl b => simp only [toD] at h; cases h; exact .bl b
  | int i => simp only [toD] at h; cases h; exact .int i
  | str s =>
    simp only [toD] at h
    by_cases q : PyData.strOk s = true
    · rw [if_pos q] at h; cases h; exact .str s
    · rw [if_neg q] at h; cases h
  | tup xs => simp only [toD, Option.map_eq_some_iff] at h; obtain ⟨ds, h, rfl⟩ := h; exact .tup h
  | lst xs => simp only [toD, Option.map_eq_some_iff] at h; obtain ⟨ds, h, rfl⟩ := h; exact .lst h
  | ins _ _ => simp only [toD] at h; cases h
  | rng _ _ => simp only [toD] at h; cases h
  | hand => simp only [toD] at h; cases h
  | scr _ => simp only [toD] at h; cases h
theorem toDs_cons {x : T} {xs : List T} {ds : List PyData} (h : toDs (x :: xs) = some ds) : ∃ d es, toD x = some d ∧ toDs xs = some es ∧ ds = d :: es := by
  simp only [toDs] at h
  cases e1 : toD x with
  | none => rw [e1] at h; cases h
  | some d =>
    cases e2 : toDs xs with
    | none => rw [e1, e2] at h; cases h
    | some es => rw [e1, e2] at h; cases h; exact ⟨d, es, rfl, rfl, rfl⟩
mutual
theorem eqv_eqB : ∀ (a b : T) (d e : PyData), toD a = some d → toD b = some e → PyData.eqv d e = eqB a b
  | a, b, d, e, ha, hb => by
    cases dsh ha <;> cases dsh hb <;> first
      | (simp [PyData.eqv, eqB]; done)
      | (simp only [PyData.eqv, eqB]; rw [Bool.eq_iff_iff]; simp; done)
      | (rename_i xs _ h1 ys _ h2; simp only [PyData.eqv, eqB]; exact eqvs_eqB xs ys _ _ h1 h2)
termination_by a => sizeOf a
theorem eqvs_eqB : ∀ (a b : List T) (d e : List PyData), toDs a = some d → toDs b = some e → PyData.eqvAll d e = eqBs a b
  | [], [], d, e, ha, hb => by simp only [toDs] at ha hb; cases ha; cases hb; simp [PyData.eqvAll, eqBs]
  | [], y :: ys, d, e, ha, hb => by
    simp only [toDs] at ha; cases ha
    obtain ⟨_, _, _, _, rfl⟩ := toDs_cons hb
    simp [PyData.eqvAll, eqBs]
  | x :: xs, [], d, e, ha, hb => by
    simp only [toDs] at hb; cases hb
    obtain ⟨_, _, _, _, rfl⟩ := toDs_cons ha
    simp [PyData.eqvAll, eqBs]
  | x :: xs, y :: ys, d, e, ha, hb => by
    obtain ⟨d1, d2, a1, a2, rfl⟩ := toDs_cons ha
    obtain ⟨e1, e2, b1, b2, rfl⟩ := toDs_cons hb
    simp only [PyData.eqvAll, eqBs]
    rw [eqv_eqB x y _ _ a1 b1, eqvs_eqB xs ys _ _ a2 b2]
termination_by a => sizeOf a
end
theorem toDk_of {t : T} (h : okD 64 t = true) : ∃ d, toDk t = some d ∧ toD t = some d := by
  obtain ⟨d, e, l⟩ := okD_toD 64 t h
  exact ⟨d, by simp [toDk, e, l], e⟩
theorem eqT_eq {a b : T} (ha : okD 64 a = true) (hb : okD 64 b = true) : eqT a b = some (eqB a b) := by
  obtain ⟨d, e1, e2⟩ := toDk_of ha
  obtain ⟨e, f1, f2⟩ := toDk_of hb
  unfold eqT
  rw [e1, f1]
  simp only [eqv_eqB a b d e e2 f2]
theorem neT_eq {a b : T} (ha : okD 64 a = true) (hb : okD 64 b = true) : neT a b = some (!eqB a b) := by
  unfold neT
  rw [eqT_eq ha hb]
  rfl
theorem any_eqB {a : T} {d : PyData} (ha : toD a = some d) : ∀ {xs : List T} {ds : List PyData}, toDs xs = some ds → (ds.any fun z => PyData.eqv z d) = xs.any fun z => eqB z a
  | [], ds, h => by simp only [toDs] at h; cases h; rfl
  | x :: xs, ds, h => by
    obtain ⟨d1, d2, a1, a2, rfl⟩ := toDs_cons h
    rw [List.any_cons, List.any_cons, eqv_eqB _ _ _ _ a1 ha, any_eqB ha a2]
theorem inT_lst {a : T} {xs : List T} (ha : okD 64 a = true) (hb : okDs 63 xs = true) : inT a (.lst xs) = some (xs.any fun z => eqB z a) := by
  obtain ⟨d, e1, e2⟩ := toDk_of ha
  obtain ⟨e, f1, f2⟩ := toDk_of (t := .lst xs) (by simpa only [okD] using hb)
  unfold inT
  rw [e1, f1]
  simp only [toD, Option.map_eq_some_iff] at f2
  obtain ⟨ds, f2, rfl⟩ := f2
  simp only [any_eqB e2 f2]
theorem inT_tup {a : T} {xs : List T} (ha : okD 64 a = true) (hb : okDs 63 xs = true) : inT a (.tup xs) = some (xs.any fun z => eqB z a) := by
  obtain ⟨d, e1, e2⟩ := toDk_of ha
  obtain ⟨e, f1, f2⟩ := toDk_of (t := .tup xs) (by simpa only [okD] using hb)
  unfold inT
  rw [e1, f1]
  simp only [toD, Option.map_eq_some_iff] at f2
  obtain ⟨ds, f2, rfl⟩ := f2
  simp only [any_eqB e2 f2]
theorem notInT_lst {a : T} {xs : List T} (ha : okD 64 a = true) (hb : okDs 63 xs = true) : notInT a (.lst xs) = some (!xs.any fun z => eqB z a) := by
  unfold notInT
  rw [inT_lst ha hb]
  rfl
theorem notInT_tup {a : T} {xs : List T} (ha : okD 64 a = true) (hb : okDs 63 xs = true) : notInT a (.tup xs) = some (!xs.any fun z => eqB z a) := by
  unfold notInT
  rw [inT_tup ha hb]
  rfl
/-! lists of ints, of words, of pairs -/
@[simp] theorem okD_non (k : Nat) : okD k .non = true := by cases k <;> simp [okD]
@[simp] theorem okD_bl (k : Nat) (b : Bool) : okD k (.bl b) = true := by cases k <;> simp [okD]
@[simp] theorem okD_int (k : Nat) (i : Int) : okD k (.int i) = true := by cases k <;> simp [okD]
@[simp] theorem okD_str (k : Nat) (s : Str) : okD k (.str s) = PyData.strOk s := by cases k <;> simp [okD]
@[simp] theorem okD_tup (k : Nat) (xs : List T) : okD (k + 1) (.tup xs) = okDs k xs := by simp [okD]
@[simp] theorem okD_lst (k : Nat) (xs : List T) : okD (k + 1) (.lst xs) = okDs k xs := by simp [okD]
@[simp] theorem okDs_nil (k : Nat) : okDs k [] = true := by simp [okDs]
@[simp] theorem okDs_cons (k : Nat) (x : T) (xs : List T) : okDs k (x :: xs) = (okD k x && okDs k xs) := by simp [okDs]
@[simp] theorem inT_lst' {a : T} {xs : List T} (ha : okD 64 a = true) (hb : okDs 63 xs = true) : inT a (.lst xs) = some (xs.any fun z => eqB z a) := inT_lst ha hb
@[simp] theorem inT_tup' {a : T} {xs : List T} (ha : okD 64 a = true) (hb : okDs 63 xs = true) : inT a (.tup xs) = some (xs.any fun z => eqB z a) := inT_tup ha hb
@[simp] theorem notInT_lst' {a : T} {xs : List T} (ha : okD 64 a = true) (hb : okDs 63 xs = true) : notInT a (.lst xs) = some (!xs.any fun z => eqB z a) := notInT_lst ha hb
@[simp] theorem notInT_tup' {a : T} {xs : List T} (ha : okD 64 a = true) (hb : okDs 63 xs = true) : notInT a (.tup xs) = some (!xs.any fun z => eqB z a) := notInT_tup ha hb
@[simp] theorem eqB_non (b : T) : eqB .non b = (match b with
  | .non => true
  | _ => false) := by simp [eqB]
@[simp] theorem eqB_ii (i j : Int) : eqB (.int i) (.int j) = decide (i = j) := by simp [eqB]
@[simp] theorem eqB_ss (i j : Str) : eqB (.str i) (.str j) = decide (i = j) := by simp [eqB]
@[simp] theorem eqB_bb (i j : Bool) : eqB (.bl i) (.bl j) = (i == j) := by simp [eqB]
@[simp] theorem eqB_tt (xs ys : List T) : eqB (.tup xs) (.tup ys) = eqBs xs ys := by simp [eqB]
@[simp] theorem eqB_ll (xs ys : List T) : eqB (.lst xs) (.lst ys) = eqBs xs ys := by simp [eqB]
@[simp] theorem eqB_lt (xs ys : List T) : eqB (.lst xs) (.tup ys) = false := by simp [eqB]
@[simp] theorem eqB_tl (xs ys : List T) : eqB (.tup xs) (.lst ys) = false := by simp [eqB]
@[simp] theorem eqB_sn (s : Str) : eqB (.str s) .non = false := by simp [eqB]
@[simp] theorem eqB_si (s : Str) (i : Int) : eqB (.str s) (.int i) = false := by simp [eqB]
@[simp] theorem eqB_st (s : Str) (xs : List T) : eqB (.str s) (.tup xs) = false := by simp [eqB]
@[simp] theorem eqB_sl (s : Str) (xs : List T) : eqB (.str s) (.lst xs) = false := by simp [eqB]
@[simp] theorem eqB_ts (s : Str) (xs : List T) : eqB (.tup xs) (.str s) = false := by simp [eqB]
@[simp] theorem eqB_ti (i : Int) (xs : List T) : eqB (.tup xs) (.int i) = false := by simp [eqB]
@[simp] theorem eqBs_nn : eqBs [] [] = true := by simp [eqBs]
@[simp] theorem eqBs_cc (x y : T) (xs ys : List T) : eqBs (x :: xs) (y :: ys) = (eqB x y && eqBs xs ys) := by simp [eqBs]
@[simp] theorem eqBs_cn (x : T) (xs : List T) : eqBs (x :: xs) [] = false := by simp [eqBs]
@[simp] theorem eqBs_nc (x : T) (xs : List T) : eqBs [] (x :: xs) = false := by simp [eqBs]
/-- eqM of plain things -/
@[simp] theorem eqM_data {B : EqTab} {x y : T} {S : Slots} {hd : Hd} (hx : okD 64 x = true) (hy : okD 64 y = true) : eqM B false x y S hd = some (.ok (eqB x y), S, hd) := by
  unfold eqM
  have : isIns x = false := by cases x <;> first | rfl | (simp [okD] at hx)
  rw [this, if_neg (by decide)]
  simp [eqT_eq hx hy]
@[simp] theorem eqM_dataN {B : EqTab} {x y : T} {S : Slots} {hd : Hd} (hx : okD 64 x = true) (hy : okD 64 y = true) : eqM B true x y S hd = some (.ok (!eqB x y), S, hd) := by
  unfold eqM
  have : isIns x = false := by cases x <;> first | rfl | (simp [okD] at hx)
  rw [this, if_neg (by decide)]
  simp [neT_eq hx hy]
@[simp] theorem okDs_int (k : Nat) (xs : List Int) : okDs k (xs.map T.int) = true := by
  induction xs with
  | nil => simp [okDs]
  | cons x xs ih => cases k <;> simp [okDs, okD, ih]
@[simp] theorem okDs_pair (k : Nat) (xs : List (Int × Int)) : okDs (k + 1) (xs.map pairT) = true := by
  induction xs with
  | nil => simp [okDs]
  | cons x xs ih => cases k <;> simp [okDs, okD, pairT, ih]
@[simp] theorem okDs_append (k : Nat) : ∀ xs ys : List T, okDs k (xs ++ ys) = (okDs k xs && okDs k ys)
  | [], ys => by simp [okDs]
  | x :: xs, ys => by simp [okDs, okDs_append k xs ys, Bool.and_assoc]
theorem okDs_all {k : Nat} : ∀ {xs : List T}, (∀ x ∈ xs, okD k x = true) → okDs k xs = true
  | [], _ => by simp [okDs]
  | x :: xs, h => by simp [okDs, h x List.mem_cons_self, okDs_all fun y m => h y (List.mem_cons_of_mem _ m)]
@[simp] theorem eqBs_int (xs ys : List Int) : eqBs (xs.map T.int) (ys.map T.int) = decide (xs = ys) := by
  induction xs generalizing ys with
  | nil => cases ys <;> simp [eqBs]
  | cons x xs ih => cases ys <;> simp [eqBs, eqB, ih]
@[simp] theorem any_int (xs : List Int) (i : Int) : ((xs.map T.int).any fun z => eqB z (.int i)) = decide (i ∈ xs) := by
  induction xs with
  | nil => simp
  | cons x xs ih =>
    simp only [List.map_cons, List.any_cons, ih, eqB]
    rw [Bool.eq_iff_iff]
    simp only [Bool.or_eq_true, decide_eq_true_eq, List.mem_cons]
    exact or_congr eq_comm Iff.rfl
@[simp] theorem any_int' (xs : List Int) (i : Int) : (xs.any ((fun z => eqB z (.int i)) ∘ T.int)) = decide (i ∈ xs) := by
  rw [← any_int, List.any_map]
@[simp] theorem eqB_pair (p q : Int × Int) : eqB (pairT p) (pairT q) = decide (p = q) := by
  obtain ⟨a, b⟩ := p
  obtain ⟨c, d⟩ := q
  simp [pairT, eqB, eqBs]
@[simp] theorem any_pair (xs : List (Int × Int)) (p : Int × Int) : ((xs.map pairT).any fun z => eqB z (pairT p)) = decide (p ∈ xs) := by
  induction xs with
  | nil => simp
  | cons x xs ih =>
    simp only [List.map_cons, List.any_cons, ih, eqB_pair]
    rw [Bool.eq_iff_iff]
    simp only [Bool.or_eq_true, decide_eq_true_eq, List.mem_cons]
    exact or_congr eq_comm Iff.rfl
@[simp] theorem any_pair' (xs : List (Int × Int)) (p : Int × Int) : (xs.any ((fun z => eqB z (pairT p)) ∘ pairT)) = decide (p ∈ xs) := by
  rw [← any_pair, List.any_map]
@[simp] theorem eqBs_pair (xs ys : List (Int × Int)) : eqBs (xs.map pairT) (ys.map pairT) = decide (xs = ys) := by
  induction xs generalizing ys with
  | nil => cases ys <;> simp [eqBs]
  | cons x xs ih => cases ys <;> simp [eqBs, ih]
@[simp] theorem okDs_str (k : Nat) (xs : List Str) : okDs k (xs.map T.str) = xs.all PyData.strOk := by
  induction xs with
  | nil => simp
  | cons x xs ih => simp [ih]
@[simp] theorem any_str (xs : List Str) (i : Str) : ((xs.map T.str).any fun z => eqB z (.str i)) = decide (i ∈ xs) := by
  induction xs with
  | nil => simp
  | cons x xs ih =>
    simp only [List.map_cons, List.any_cons, ih, eqB]
    rw [Bool.eq_iff_iff]
    simp only [Bool.or_eq_true, decide_eq_true_eq, List.mem_cons]
    exact or_congr eq_comm Iff.rfl
@[simp] theorem any_str' (xs : List Str) (i : Str) : (xs.any ((fun z => eqB z (.str i)) ∘ T.str)) = decide (i ∈ xs) := by
  rw [← any_str, List.any_map]
@[simp] theorem eqBs_str (xs ys : List Str) : eqBs (xs.map T.str) (ys.map T.str) = decide (xs = ys) := by
  induction xs generalizing ys with
  | nil => cases ys <;> simp [eqBs]
  | cons x xs ih => cases ys <;> simp [eqBs, eqB, ih]
theorem cut_take (xs : List T) (k : Nat) : cutT xs none (some (k : Int)) = xs.take k := by
  unfold cutT
  simp only [HT.sIx, List.drop_zero, Nat.sub_zero]
  rw [if_neg (by omega), Int.toNat_natCast]
  by_cases h : k ≤ xs.length
  · rw [Nat.min_eq_left h]
  · rw [Nat.min_eq_right (by omega), List.take_of_length_le (Nat.le_refl _), List.take_of_length_le (by omega)]
end TL
namespace TL
open PySem PySem.Spec PyProof.Rows L2
/-! ### written words -/
theorem ofString_inj {a b : String} : Str.ofString a = Str.ofString b ↔ a = b := by
  constructor
  · intro h
    rw [Str.ofString_eq_toList, Str.ofString_eq_toList] at h
    have h1 := congrArg Str.cps h
    have h2 : a.toList.map Char.toNat = b.toList.map Char.toNat := by
      have := congrArg Array.toList h1
      simpa using this
    have h3 : a.toList = b.toList := by
      have inj : ∀ {x y : List Char}, x.map Char.toNat = y.map Char.toNat → x = y := by
        intro x
        induction x with
        | nil => intro y e; cases y <;> simp_all
        | cons c cs ih =>
          intro y e
          cases y with
          | nil => simp at e
          | cons d ds =>
            simp only [List.map_cons, List.cons.injEq] at e
            rw [ih e.2]
            have : c = d := Char.ext (UInt32.toNat_inj.mp e.1)
            rw [this]
      exact inj h2
    rw [← String.ofList_toList (s := a), ← String.ofList_toList (s := b), h3]
  · rintro rfl; rfl
@[simp] theorem ofString_eq (a b : String) : (Str.ofString a = Str.ofString b) = (a = b) := propext ofString_inj
@[simp] theorem ofString_beq (a b : String) : (Str.ofString a == Str.ofString b) = (a == b) := by
  rw [Bool.eq_iff_iff]
  simp [beq_iff_eq]
@[simp] theorem strOk_lit (a : String) : PyData.strOk (Str.ofString a) = true := by
  rw [Str.ofString_eq_toList]
  unfold PyData.strOk
  simp only [List.all_toArray, List.all_map, List.all_eq_true, Function.comp_apply, decide_eq_true_eq]
  intro c _
  have := c.valid
  have h2 : c.toNat = c.val.toNat := rfl
  rw [h2]
  rcases this with h | h
  · have : c.val.toNat < 0xd800 := h
    omega
  · have : c.val.toNat < 0x110000 := h.2
    omega
example : (Str.ofString "ab" = Str.ofString "cd") = False := by simp
end TL
namespace TL
open PySem PySem.Spec PyProof.Rows L2
section
variable {S : Slots} {hd : Hd}
theorem putB_lt {i : Nat} {ot : OT} {S : Slots} (h : i < S.length) (ho : ot.isO = false) : setS i ot S = some (S.set i (some ot)) := by
  unfold setS
  rw [if_pos ⟨h, ho⟩]
@[simp] theorem setS_v {i : Nat} {t : T} {S : Slots} (h : i < S.length) : setS i (.v t) S = some (S.set i (some (.v t))) := putB_lt h rfl
@[simp] theorem setS_f {i : Nat} {t : List T} {S : Slots} (h : i < S.length) : setS i (.f t) S = some (S.set i (some (.f t))) := putB_lt h rfl
@[simp] theorem isO_v (t : T) : (OT.v t).isO = false := rfl
@[simp] theorem isO_f (t : List T) : (OT.f t).isO = false := rfl
@[simp] theorem fz_v (t : T) : (OT.v t).fz = t := by simp only [OT.fz]
@[simp] theorem fz_f (t : List T) : (OT.f t).fz = .lst t := by simp only [OT.fz]
@[simp] theorem toB_bl (b : Bool) : toB (.bl b) = some b := rfl
@[simp] theorem notT_bl (b : Bool) : notT (.bl b) = some (.bl (!b)) := rfl
@[simp] theorem gNm_ap (i : Nat) (t : T) (S : Slots) : gNm i t S = setS i (.v t) S := rfl
@[simp] theorem gTp_ap (k : Tgts) (n : Nat) (xs : List T) (S : Slots) : gTp k n (.tup xs) S = if xs.length = n then k xs S else none := rfl
@[simp] theorem gsCons_ap (g : Tgt) (k : Tgts) (t : T) (ts : List T) (S : Slots) : gsCons g k (t :: ts) S = (g t S).bind (k ts) := rfl
@[simp] theorem gsNil_ap (S : Slots) : gsNil [] S = some S := rfl
@[simp] theorem subT_i (i j : Int) : subT (.int i) (.int j) = some (.v (.int (i - j))) := rfl
@[simp] theorem addT_i (i j : Int) : addT (.int i) (.int j) = some (.v (.int (i + j))) := rfl
@[simp] theorem negT_i (i : Int) : negT (.int i) = some (.v (.int (-i))) := rfl
@[simp] theorem intB_i (f : Int → Int → Bool) (i j : Int) : intB f (.int i) (.int j) = some (f i j) := rfl
@[simp] theorem intT_i (i : Int) : intT (.int i) = some (.v (.int i)) := rfl
@[simp] theorem lenT_l (xs : List T) : lenT (.lst xs) = some (.v (.int xs.length)) := rfl
@[simp] theorem lenT_t (xs : List T) : lenT (.tup xs) = some (.v (.int xs.length)) := rfl
@[simp] theorem tupleT_l (xs : List T) : tupleT (.lst xs) = some (.v (.tup xs)) := rfl
@[simp] theorem tupleT_t (xs : List T) : tupleT (.tup xs) = some (.v (.tup xs)) := rfl
@[simp] theorem listT_l (xs : List T) : listT (.lst xs) = some (.f xs) := rfl
@[simp] theorem listT_t (xs : List T) : listT (.tup xs) = some (.f xs) := rfl
@[simp] theorem itemsA_l (xs : List T) : itemsA (.lst xs) = some xs := rfl
@[simp] theorem itemsA_t (xs : List T) : itemsA (.tup xs) = some xs := rfl
@[simp] theorem minT_i (i j : Int) : minT (.int i) (.int j) = some (.v (.int (if j < i then j else i))) := rfl
@[simp] theorem maxT_i (i j : Int) : maxT (.int i) (.int j) = some (.v (.int (if j > i then j else i))) := rfl
@[simp] theorem opAppend_ap (xs : List T) (t : T) : opAppend xs [t] = if xs.length < 10000 then some (.non, xs ++ [t]) else none := rfl
@[simp] theorem opExtend_ap (xs zs : List T) : opExtend xs [.lst zs] = if xs.length + zs.length < 10000 then some (.non, xs ++ zs) else none := rfl
@[simp] theorem revT_ap (xs : List T) : revT (.lst xs) = some (.f xs.reverse) := rfl
@[simp] theorem ltB_ap (i j : Int) : ltB i j = decide (i < j) := rfl
@[simp] theorem leB_ap (i j : Int) : leB i j = decide (i ≤ j) := rfl
@[simp] theorem gtB_ap (i j : Int) : gtB i j = decide (j < i) := rfl
@[simp] theorem geB_ap (i j : Int) : geB i j = decide (j ≤ i) := rfl
@[simp] theorem ixH_t (hd : Hd) (xs : List T) (b : T) : ixH hd (.tup xs) b = ixT (.tup xs) b := rfl
@[simp] theorem ixH_l (hd : Hd) (xs : List T) (b : T) : ixH hd (.lst xs) b = ixT (.lst xs) b := rfl
@[simp] theorem ixT_t (xs : List T) (i : Int) : ixT (.tup xs) (.int i) = (atI xs i).map OT.v := rfl
@[simp] theorem ixT_l (xs : List T) (i : Int) : ixT (.lst xs) (.int i) = (atI xs i).map OT.v := rfl
theorem atI_nat {α : Type} {xs : List α} {i : Int} (h0 : 0 ≤ i) (h1 : i < xs.length) : atI xs i = xs[i.toNat]? := by
  unfold atI L2.ixN
  rw [if_pos h0, if_pos h1]
  rfl
@[simp] theorem atI_0 {α : Type} (x : α) (xs : List α) : atI (x :: xs) 0 = some x := by
  rw [atI_nat (by decide) (by simp only [List.length_cons]; omega)]; rfl
@[simp] theorem atI_1 {α : Type} (x y : α) (xs : List α) : atI (x :: y :: xs) 1 = some y := by
  rw [atI_nat (by decide) (by simp only [List.length_cons]; omega)]; rfl
@[simp] theorem atI_2 {α : Type} (x y z : α) (xs : List α) : atI (x :: y :: z :: xs) 2 = some z := by
  rw [atI_nat (by decide) (by simp only [List.length_cons]; omega)]; rfl
@[simp] theorem atI_3 {α : Type} (x y z w : α) (xs : List α) : atI (x :: y :: z :: w :: xs) 3 = some w := by
  rw [atI_nat (by decide) (by simp only [List.length_cons]; omega)]; rfl
@[simp] theorem atI_4 {α : Type} (x y z w v : α) (xs : List α) : atI (x :: y :: z :: w :: v :: xs) 4 = some v := by
  rw [atI_nat (by decide) (by simp only [List.length_cons]; omega)]; rfl
theorem pair_fold (a b : Int) : T.tup [T.int a, T.int b] = pairT (a, b) := rfl
@[simp] theorem lenT_pair (r : Int × Int) : lenT (pairT r) = some (.v (.int 2)) := rfl
@[simp] theorem ixH_pair0 (hd : Hd) (r : Int × Int) : ixH hd (pairT r) (.int 0) = some (.v (.int r.1)) := by
  show (atI [T.int r.1, T.int r.2] 0).map OT.v = _
  rw [atI_0]
  rfl
@[simp] theorem ixH_pair1 (hd : Hd) (r : Int × Int) : ixH hd (pairT r) (.int 1) = some (.v (.int r.2)) := by
  show (atI [T.int r.1, T.int r.2] 1).map OT.v = _
  rw [atI_1]
  rfl
@[simp] theorem gTp_pair (k : Tgts) (n : Nat) (r : Int × Int) (S : Slots) : gTp k n (pairT r) S = if 2 = n then k [.int r.1, .int r.2] S else none := rfl
@[simp] theorem okD_pair (k : Nat) (r : Int × Int) : okD (k + 1) (pairT r) = true := by simp [pairT]
@[simp] theorem opt_map_some {α β : Type} (f : α → β) (a : α) : Option.map f (some a) = some (f a) := rfl
@[simp] theorem slots0_ap (n : Nat) (ts : List T) : slots0 n ts = ts.map (fun t => some (OT.v t)) ++ List.replicate (n - ts.length) none := rfl
@[simp] theorem slotsI_ap (n : Nat) (C : Str) (fs : List (Str × T)) (ts : List T) : slotsI n C fs ts = some (OT.o C fs) :: slots0 (n - 1) ts := rfl
@[simp] theorem fldT_ap (ok : Str → Bool) (f C : Str) (fs : List (Str × T)) : fldT ok f (.ins C fs) = if ok C = true then fs.lookup f else none := rfl
@[simp] theorem isNoneT_ap (a : T) : isNoneT a .non = some (isNonB a) := rfl
@[simp] theorem isNotNoneT_ap (a : T) : isNotNoneT a .non = some (!isNonB a) := rfl
@[simp] theorem isNonB_non : isNonB .non = true := rfl
@[simp] theorem isNonB_bl (b : Bool) : isNonB (.bl b) = false := rfl
@[simp] theorem isNonB_int (b : Int) : isNonB (.int b) = false := rfl
@[simp] theorem isNonB_str (b : Str) : isNonB (.str b) = false := rfl
@[simp] theorem isNonB_tup (b : List T) : isNonB (.tup b) = false := rfl
@[simp] theorem isNonB_lst (b : List T) : isNonB (.lst b) = false := rfl
@[simp] theorem isNonB_ins (C : Str) (fs : List (Str × T)) : isNonB (.ins C fs) = false := rfl
/-! ### loops that always go on: a fold over states -/
theorem forL_fold {σ : Type} {g : Tgt} {b : Stm} (P : σ → Slots → Prop) (f : σ → T → σ) : ∀ (xs : List T) (a : σ) (S : Slots), (∀ x ∈ xs, ∀ a S, P a S → ∃ S1 S2, g x S = some S1 ∧ b S1 hd = some (.next, S2, hd) ∧ P (f a x) S2) → P a S → ∃ S', forL g b xs S hd = some (.next, S', hd) ∧ P (xs.foldl f a) S'
  | [], a, S, _, h => ⟨S, rfl, h⟩
  | x :: xs, a, S, st, h => by
    obtain ⟨S1, S2, h1, h2, h3⟩ := st x List.mem_cons_self a S h
    obtain ⟨S', h4, h5⟩ := forL_fold P f xs (f a x) S2 (fun y m => st y (List.mem_cons_of_mem _ m)) h3
    exact ⟨S', by rw [forL_cons, h1, gk_some, h2, fk_next, h4], h5⟩
end
/-! ### lists without repeats -/
theorem length_le_of_sub : ∀ {l m : List Int}, l.Nodup → (∀ x ∈ l, x ∈ m) → l.length ≤ m.length
  | [], m, _, _ => by simp
  | x :: l, m, hn, h => by
    have hx := h x List.mem_cons_self
    rw [List.nodup_cons] at hn
    have h2 : ∀ y ∈ l, y ∈ m.erase x := fun y hy => (List.mem_erase_of_ne (fun e => hn.1 (by rw [← e]; exact hy))).mpr (h y (List.mem_cons_of_mem _ hy))
    have := length_le_of_sub hn.2 h2
    rw [List.length_erase_of_mem hx] at this
    have : 0 < m.length := List.length_pos_of_mem hx
    simp only [List.length_cons]
    omega
def rngI (n : Int) : List Int := (List.range n.toNat).map fun (k : Nat) => (k : Int)
theorem mem_rngI {n i : Int} : i ∈ rngI n ↔ 0 ≤ i ∧ i < n := by
  unfold rngI
  rw [List.mem_map]
  constructor
  · rintro ⟨k, hk, rfl⟩
    have := List.mem_range.mp hk
    omega
  · rintro ⟨h1, h2⟩
    exact ⟨i.toNat, List.mem_range.mpr (by omega), by omega⟩
theorem length_rngI (n : Int) : (rngI n).length = n.toNat := by simp [rngI]
theorem rngL_int (n : Int) : rngL 0 n = (rngI n).map T.int := by
  unfold rngL rngI
  simp
/-! ### comprehensions -/
theorem lcL_mapT {S : Slots} {hd : Hd} {vs : List Nat} {g : Tgt} {e : M T} (f : T → T) {xs acc : List T} (h : ∀ x ∈ xs, ∃ S1 S3, g x S = some S1 ∧ e S1 hd = some (.ok (f x), S3, hd) ∧ wipeS S3 vs = S) (hl : acc.length + xs.length ≤ 10000) : lcL vs g (M.ret true) e xs acc S hd = some (acc ++ xs.map f, S, hd) := by
  have := lcL_map (S := S) (hd := hd) (vs := vs) (g := g) (c := M.ret true) (e := e) (fun _ => true) f (xs := xs) (acc := acc) (fun x hx => by
    obtain ⟨S1, S3, h1, h2, h3⟩ := h x hx
    exact ⟨S1, S1, h1, rfl, fun _ => ⟨S3, h2, h3⟩, fun z => by cases z⟩) hl
  rw [this]
  rw [List.filter_eq_self.mpr (fun _ _ => rfl)]
mutual
theorem eqB_refl : ∀ (k : Nat) (t : T), okD k t = true → eqB t t = true
  | k, .non, _ => by simp
  | k, .bl b, _ => by simp
  | k, .int i, _ => by simp
  | k, .str s, _ => by simp
  | 0, .tup xs, h => by simp [okD] at h
  | 0, .lst xs, h => by simp [okD] at h
  | k + 1, .tup xs, h => by
    rw [eqB_tt]
    exact eqBs_refl k xs (by simpa using h)
  | k + 1, .lst xs, h => by
    rw [eqB_ll]
    exact eqBs_refl k xs (by simpa using h)
  | k, .ins _ _, h => by cases k <;> simp [okD] at h
  | k, .rng _ _, h => by cases k <;> simp [okD] at h
  | k, .hand, h => by cases k <;> simp [okD] at h
  | k, .scr _, h => by cases k <;> simp [okD] at h
theorem eqBs_refl : ∀ (k : Nat) (ts : List T), okDs k ts = true → eqBs ts ts = true
  | k, [], _ => by simp
  | k, x :: xs, h => by
    rw [okDs_cons, Bool.and_eq_true] at h
    rw [eqBs_cc, eqB_refl k x h.1, eqBs_refl k xs h.2]
    rfl
end
/-! ### == of instances -/
theorem eqM_ins {B : EqTab} {neg : Bool} {C : Str} {fs : List (Str × T)} {y : T} {F : Fn} {b : Bool} {S : Slots} {hd hd' : Hd} (h1 : eqFirst B (.ins C fs) y = false) (h2 : eqNf B (.ins C fs) y = true) (h3 : B.eqs C = some F) (h4 : F [.ins C fs, y] hd = some (.ok (.v (.bl b)), hd')) :
    eqM B neg (.ins C fs) y S hd = some (.ok (if neg then !b else b), S, hd') := by
  unfold eqM
  rw [show isIns (.ins C fs) = true from rfl, if_pos rfl, h1, if_neg (by decide), h2, if_pos rfl]
  show eqApp neg (B.eqs C) _ _ S hd = _
  rw [h3]
  unfold eqApp
  simp only [h4, boolOf]
theorem eqM_first {B : EqTab} {C D : Str} {fs gs : List (Str × T)} {F : Fn} {b : Bool} {S : Slots} {hd hd' : Hd} (h1 : B.first C D = true) (h3 : B.eqs D = some F) (h4 : F [.ins D gs, .ins C fs] hd = some (.ok (.v (.bl b)), hd')) :
    eqM B false (.ins C fs) (.ins D gs) S hd = some (.ok b, S, hd') := by
  unfold eqM
  rw [show isIns (.ins C fs) = true from rfl, if_pos rfl, show eqFirst B (.ins C fs) (.ins D gs) = true from h1, if_pos rfl, if_neg (by decide)]
  show eqApp false (B.eqs D) _ _ S hd = _
  rw [h3]
  unfold eqApp
  simp only [h4, boolOf]
  rfl
/-! ### loops with an invariant -/
theorem forL_inv {g : Tgt} {b : Stm} (I : List T → Slots → Hd → Prop) (st : ∀ x xs S hd, I (x :: xs) S hd → ∃ S1 S2 hd2, g x S = some S1 ∧ b S1 hd = some (.next, S2, hd2) ∧ I xs S2 hd2) : ∀ (items : List T) (S : Slots) (hd : Hd), I items S hd → ∃ S' hd', forL g b items S hd = some (.next, S', hd') ∧ I [] S' hd'
  | [], S, hd, h => ⟨S, hd, rfl, h⟩
  | x :: xs, S, hd, h => by
    obtain ⟨S1, S2, hd2, h1, h2, h3⟩ := st x xs S hd h
    obtain ⟨S', hd', h4, h5⟩ := forL_inv I st xs S2 hd2 h3
    exact ⟨S', hd', by rw [forL_cons, h1, gk_some, h2, fk_next, h4], h5⟩
/-- a comprehension with an invariant -/
theorem lcL_inv {vs : List Nat} {g : Tgt} {e : M T} (I : List T → List T → Slots → Hd → Prop) (st : ∀ x xs acc S hd, I (x :: xs) acc S hd → ∃ S1 S3 hd3 t, g x S = some S1 ∧ e S1 hd = some (.ok t, S3, hd3) ∧ acc.length < 10000 ∧ I xs (acc ++ [t]) (wipeS S3 vs) hd3) : ∀ (items acc : List T) (S : Slots) (hd : Hd), I items acc S hd → ∃ acc' S' hd', lcL vs g (M.ret true) e items acc S hd = some (acc', S', hd') ∧ I [] acc' S' hd'
  | [], acc, S, hd, h => ⟨acc, S, hd, rfl, h⟩
  | x :: xs, acc, S, hd, h => by
    obtain ⟨S1, S3, hd3, t, h1, h2, hl, h3⟩ := st x xs acc S hd h
    obtain ⟨acc', S', hd', h4, h5⟩ := lcL_inv I st xs (acc ++ [t]) _ hd3 h3
    exact ⟨acc', S', hd', by rw [lcL_cons, h1, gl_some]; simp only [M.ret_ap, lk_ok, if_true, h2, le_ok, if_pos hl]; exact h4, h5⟩
theorem rngL_cons {k n : Int} (h : k < n) : rngL k n = .int k :: rngL (k + 1) n := by
  unfold rngL
  have e : (n - k).toNat = (n - (k + 1)).toNat + 1 := by omega
  rw [e, List.range_succ_eq_map]
  simp only [List.map_cons, List.map_map]
  congr 1
  · simp
  · refine List.map_congr_left fun a _ => ?_
    simp only [Function.comp_apply]
    congr 1
    omega
theorem rngL_nil {k n : Int} (h : n ≤ k) : rngL k n = [] := by
  unfold rngL
  have e : (n - k).toNat = 0 := by omega
  rw [e]
  rfl
theorem mem_rngL {k n : Int} {t : T} (h : t ∈ rngL k n) : ∃ i, t = .int i ∧ k ≤ i ∧ i < n := by
  unfold rngL at h
  obtain ⟨j, hj, rfl⟩ := List.mem_map.mp h
  have := List.mem_range.mp hj
  exact ⟨_, rfl, by omega, by omega⟩
end TL
namespace TL
open PySem PySem.Spec PyProof.Rows L2
namespace K53
/-! ### the datum of the law: its defs, by finite tables -/
abbrev P53 : Program := (PySem.W.OpenLaw.row PySem.Challenge.rw_landways_k53_wishes_and_their_things).prog
def top (i : Nat) : Stmt := P53.main.body.getD i (.Pass ⟨0, 0, 0, 0⟩)
def mem (i j : Nat) : Stmt := match top i with
  | .ClassDef _ _ _ b _ _ _ _ _ _ _ => b.getD j (.Pass ⟨0, 0, 0, 0⟩)
  | _ => .Pass ⟨0, 0, 0, 0⟩
abbrev sl_ (l : List String) : List Str := l.map fun s => Str.ofString s
def pos_ (n : Nat) : Shp := ⟨n, [], (List.range n).map Src.p, [], []⟩
def c__wall : Cod := ⟨sl_ ["k"], sl_ ["k"], defBody (top 0), defScope (top 0), false⟩
def c_BadLand___init__ : Cod := ⟨sl_ ["self", "what"], sl_ ["self", "what"], defBody (mem 3 0), defScope (mem 3 0), false⟩
def c_BadCounted___init__ : Cod := ⟨sl_ ["self", "what"], sl_ ["self", "what"], defBody (mem 4 0), defScope (mem 4 0), false⟩
def c_BadWish___init__ : Cod := ⟨sl_ ["self", "what"], sl_ ["self", "what"], defBody (mem 5 0), defScope (mem 5 0), false⟩
def c_is_whole : Cod := ⟨sl_ ["thing", "low", "high"], sl_ ["thing", "low", "high"], defBody (top 8), defScope (top 8), false⟩
def c_is_row : Cod := ⟨sl_ ["thing"], sl_ ["thing"], defBody (top 9), defScope (top 9), false⟩
def c_are_cells : Cod := ⟨sl_ ["many", "thing", "least", "seen", "cell"], sl_ ["many", "thing", "least"], defBody (top 10), defScope (top 10), false⟩
def c_is_lot : Cod := ⟨sl_ ["land", "thing", "least"], sl_ ["land", "thing", "least"], defBody (top 11), defScope (top 11), false⟩
def c_neighbour_rows : Cod := ⟨sl_ ["many", "thing", "rows", "couple", "row"], sl_ ["many", "thing"], defBody (top 12), defScope (top 12), false⟩
def c_hangs_together : Cod := ⟨sl_ ["many", "neighbours", "seen", "cell", "here", "low", "high"], sl_ ["many", "neighbours"], defBody (top 13), defScope (top 13), false⟩
def c_Land___init__ : Cod := ⟨sl_ ["self", "cells", "neighbours", "roads", "rows"], sl_ ["self", "cells", "neighbours", "roads"], defBody (mem 14 0), defScope (mem 14 0), false⟩
def c_Land___eq__ : Cod := ⟨sl_ ["self", "other"], sl_ ["self", "other"], defBody (mem 14 1), defScope (mem 14 1), false⟩
def c_Land_couples : Cod := ⟨sl_ ["self", "a", "b"], sl_ ["self"], defBody (mem 14 2), defScope (mem 14 2), false⟩
def c_Land_is_neighbour : Cod := ⟨sl_ ["self", "one", "other"], sl_ ["self", "one", "other"], defBody (mem 14 3), defScope (mem 14 3), false⟩
def c_Land_around : Cod := ⟨sl_ ["self", "cell"], sl_ ["self", "cell"], defBody (mem 14 4), defScope (mem 14 4), false⟩
def c_Land_is_road : Cod := ⟨sl_ ["self", "cell"], sl_ ["self", "cell"], defBody (mem 14 5), defScope (mem 14 5), false⟩
def c_Land_others : Cod := ⟨sl_ ["self", "cell"], sl_ ["self", "cell"], defBody (mem 14 6), defScope (mem 14 6), false⟩
def c_Counted___init__ : Cod := ⟨sl_ ["self", "grants", "untold", "giving_up"], sl_ ["self", "grants", "untold", "giving_up"], defBody (mem 16 0), defScope (mem 16 0), false⟩
def c_Counted___eq__ : Cod := ⟨sl_ ["self", "other"], sl_ ["self", "other"], defBody (mem 16 1), defScope (mem 16 1), false⟩
def c_Counted_is_within : Cod := ⟨sl_ ["self", "other"], sl_ ["self", "other"], defBody (mem 16 2), defScope (mem 16 2), false⟩
def c_are_unlike_words : Cod := ⟨sl_ ["thing", "menu", "least", "place", "word"], sl_ ["thing", "menu", "least"], defBody (top 21), defScope (top 21), false⟩
def c_Wish___init__ : Cod := ⟨sl_ ["self", "counted"], sl_ ["self", "counted"], defBody (mem 22 0), defScope (mem 22 0), false⟩
def c_Wish___eq__ : Cod := ⟨sl_ ["self", "other"], sl_ ["self", "other"], defBody (mem 22 1), defScope (mem 22 1), false⟩
def c_Wish_things : Cod := ⟨sl_ ["self"], sl_ ["self"], defBody (mem 22 2), defScope (mem 22 2), false⟩
def c_LandWish___init__ : Cod := ⟨sl_ ["self", "land", "cells", "counted", "bars", "bar"], sl_ ["self", "land", "cells", "counted", "bars"], defBody (mem 23 0), defScope (mem 23 0), false⟩
def c_LandWish___eq__ : Cod := ⟨sl_ ["self", "other"], sl_ ["self", "other"], defBody (mem 23 1), defScope (mem 23 1), false⟩
def c_LandWish_things : Cod := ⟨sl_ ["self", "everywhere", "rows", "cell", "one", "other"], sl_ ["self"], defBody (mem 23 2), defScope (mem 23 2), false⟩
def c_EveryLandWish___init__ : Cod := ⟨sl_ ["self", "sorts", "counted", "sort"], sl_ ["self", "sorts", "counted"], defBody (mem 24 0), defScope (mem 24 0), false⟩
def c_EveryLandWish___eq__ : Cod := ⟨sl_ ["self", "other"], sl_ ["self", "other"], defBody (mem 24 1), defScope (mem 24 1), false⟩
def c_EveryLandWish_things : Cod := ⟨sl_ ["self", "sort"], sl_ ["self"], defBody (mem 24 2), defScope (mem 24 2), false⟩
def c__law_mix : Cod := ⟨sl_ ["_law_number", "_law_turn", "_law_once", "_law_twice"], sl_ ["_law_number", "_law_turn"], defBody (top 26), defScope (top 26), false⟩
def c__law_hand : Cod := ⟨sl_ ["_law_script", "_law_total", "_law_k", "_law_cell"], sl_ ["_law_script"], defBody (top 27), defScope (top 27), false⟩
def c__law_draw : Cod := ⟨sl_ ["_law_hand_here", "_law_many", "_law_cell", "_law_rest"], sl_ ["_law_hand_here", "_law_many"], defBody (top 28), defScope (top 28), false⟩
def c__law_pick : Cod := ⟨sl_ ["_law_hand_here", "_law_things_here"], sl_ ["_law_hand_here", "_law_things_here"], defBody (top 29), defScope (top 29), false⟩
def c__law_lots : Cod := ⟨sl_ ["_law_cells", "_law_found", "_law_last", "_law_turn", "_law_grown", "_law_lot", "_law_cell"], sl_ ["_law_cells"], defBody (top 30), defScope (top 30), false⟩
def c__law_land : Cod := ⟨sl_ ["_law_hand_here", "_law_n", "_law_names", "_law_left", "_law_k", "_law_couples", "_law_high", "_law_low", "_law_rows", "_law_a", "_law_b", "_law_lots_here", "_law_lot"], sl_ ["_law_hand_here", "_law_n"], defBody (top 31), defScope (top 31), false⟩
def c__law_some : Cod := ⟨sl_ ["_law_hand_here", "_law_cells", "_law_lot"], sl_ ["_law_hand_here", "_law_cells"], defBody (top 32), defScope (top 32), false⟩
def c__law_ground : Cod := ⟨sl_ ["_law_land_here"], sl_ ["_law_land_here"], defBody (top 33), defScope (top 33), false⟩
def c__law_counts : Cod := ⟨sl_ ["_law_hand_here"], sl_ ["_law_hand_here"], defBody (top 34), defScope (top 34), false⟩
def c__law_sorts : Cod := ⟨sl_ ["_law_hand_here", "_law_counts_here"], sl_ ["_law_hand_here", "_law_counts_here"], defBody (top 35), defScope (top 35), false⟩
def c__law_wish : Cod := ⟨sl_ ["_law_hand_here", "_law_n", "_law_plain", "_law_counts_here", "_law_sorts_here", "_law_k", "_law_land_here", "_law_cells", "_law_bars"], sl_ ["_law_hand_here", "_law_n", "_law_plain"], defBody (top 36), defScope (top 36), false⟩
def c__law_made_wish : Cod := ⟨sl_ ["_law_hand_here", "_law_wish_here"], sl_ ["_law_hand_here", "_law_wish_here"], defBody (top 37), defScope (top 37), false⟩
def c__law_things : Cod := ⟨sl_ ["_law_wish_here", "_law_sort", "_law_n", "_law_rows", "_law_cell", "_law_one", "_law_other"], sl_ ["_law_wish_here"], defBody (top 38), defScope (top 38), false⟩
def c__law_refused : Cod := ⟨sl_ ["_law_ask", "e"], sl_ ["_law_ask"], defBody (top 39), defScope (top 39), false⟩
def c__law_menu : Cod := ⟨sl_ ["_law_n", "_law_part"], sl_ ["_law_n", "_law_part"], defBody (top 40), defScope (top 40), false⟩
def c__law_wrong_land_wish : Cod := ⟨sl_ ["_law_hand_here", "_law_wish_here", "_law_n", "_law_parts", "_law_wrong", "_law_part", "_law_odd", "_law_land_here", "_law_cells", "_law_counted", "_law_bars", "_law_due", "_law_k"], sl_ ["_law_hand_here", "_law_wish_here"], defBody (top 41), defScope (top 41), true⟩
def c__law_wrong_every_wish : Cod := ⟨sl_ ["_law_hand_here", "_law_wish_here", "_law_odd", "_law_counted"], sl_ ["_law_hand_here", "_law_wish_here"], defBody (top 42), defScope (top 42), true⟩
def c__law_bare : Cod := ⟨sl_ ["_law_hand_here", "_law_land_here", "_law_ground_here", "_law_bars", "_law_wide"], sl_ ["_law_hand_here", "_law_land_here"], defBody (top 43), defScope (top 43), true⟩
def c__law_same_counts : Cod := ⟨sl_ ["_law_counted", "_law_counts_here"], sl_ ["_law_counted", "_law_counts_here"], defBody (top 44), defScope (top 44), false⟩
def c__law_has : Cod := ⟨sl_ ["_law_made", "_law_wish_here", "_law_due", "_law_sort", "_law_bar"], sl_ ["_law_made", "_law_wish_here"], defBody (top 45), defScope (top 45), false⟩
def c__law_unlike : Cod := ⟨sl_ ["_law_hand_here", "_law_wish_here", "_law_sorts_here", "_law_part", "_law_land_here", "_law_turned", "_law_cell", "_law_free", "_law_bars"], sl_ ["_law_hand_here", "_law_wish_here"], defBody (top 46), defScope (top 46), false⟩
def c_law : Cod := ⟨sl_ ["_law_script", "_law_hand_here", "_law_wish_here", "_law_made", "_law_twin", "_law_other", "_law_third", "_law_plain"], sl_ ["_law_script"], defBody (top 47), defScope (top 47), true⟩
def fnsL : List (Str × (Cod × List Shp)) := [("is_whole", (c_is_whole, [pos_ 3])),
  ("is_row", (c_is_row, [pos_ 1])),
  ("are_cells", (c_are_cells, [pos_ 3])),
  ("is_lot", (c_is_lot, [pos_ 3])),
  ("neighbour_rows", (c_neighbour_rows, [pos_ 2])),
  ("hangs_together", (c_hangs_together, [pos_ 2])),
  ("are_unlike_words", (c_are_unlike_words, [pos_ 3])),
  ("_law_mix", (c__law_mix, [pos_ 2])),
  ("_law_hand", (c__law_hand, [pos_ 1])),
  ("_law_draw", (c__law_draw, [pos_ 2])),
  ("_law_pick", (c__law_pick, [pos_ 2])),
  ("_law_lots", (c__law_lots, [pos_ 1])),
  ("_law_land", (c__law_land, [pos_ 2])),
  ("_law_some", (c__law_some, [pos_ 2])),
  ("_law_ground", (c__law_ground, [pos_ 1])),
  ("_law_counts", (c__law_counts, [pos_ 1])),
  ("_law_sorts", (c__law_sorts, [pos_ 2])),
  ("_law_wish", (c__law_wish, [pos_ 3])),
  ("_law_made_wish", (c__law_made_wish, [pos_ 2])),
  ("_law_things", (c__law_things, [pos_ 1])),
  ("_law_menu", (c__law_menu, [pos_ 2])),
  ("_law_wrong_land_wish", (c__law_wrong_land_wish, [pos_ 2])),
  ("_law_wrong_every_wish", (c__law_wrong_every_wish, [pos_ 2])),
  ("_law_bare", (c__law_bare, [pos_ 2])),
  ("_law_same_counts", (c__law_same_counts, [pos_ 2])),
  ("_law_has", (c__law_has, [pos_ 2])),
  ("_law_unlike", (c__law_unlike, [pos_ 2]))]
abbrev d_Land : IniD := ⟨c_Land___init__, false, "Land"⟩
abbrev d_Counted : IniD := ⟨c_Counted___init__, false, "Counted"⟩
abbrev d_Wish : IniD := ⟨c_Wish___init__, false, "Wish"⟩
abbrev d_LandWish : IniD := ⟨c_LandWish___init__, true, "LandWish"⟩
abbrev d_EveryLandWish : IniD := ⟨c_EveryLandWish___init__, true, "EveryLandWish"⟩
def clsL : List (Str × (IniD × List Shp)) := [
  ("Land", (d_Land, [pos_ 3])),
  ("Counted", (d_Counted, [⟨0, [], [.d 0, .d 1, .d 2], [.bl true, .bl true, .bl false], []⟩, ⟨1, sl_ ["untold", "giving_up"], [.p 0, .k 0, .k 1], [], []⟩])),
  ("Wish", (d_Wish, [⟨0, [], [.d 0], [.non], []⟩, pos_ 1])),
  ("LandWish", (d_LandWish, [⟨2, [], [.p 0, .p 1, .d 0, .m 0], [.non], [.tup []]⟩, ⟨3, [], [.p 0, .p 1, .p 2, .m 0], [], [.tup []]⟩, ⟨2, sl_ ["counted", "bars"], [.p 0, .p 1, .k 0, .k 1], [], []⟩, ⟨3, sl_ ["bars"], [.p 0, .p 1, .p 2, .k 0], [], []⟩, ⟨2, sl_ ["bars"], [.p 0, .p 1, .d 0, .k 0], [.non], []⟩])),
  ("EveryLandWish", (d_EveryLandWish, [⟨1, [], [.p 0, .d 0], [.non], []⟩, pos_ 2]))]
def metsL : List ((Str × Str) × (Cod × List Shp)) := [(("Wish", "things"), (c_Wish_things, [pos_ 1])), (("LandWish", "things"), (c_LandWish_things, [pos_ 1])), (("EveryLandWish", "things"), (c_EveryLandWish_things, [pos_ 1]))]
def eqsL : List (Str × Cod) := [("Land", c_Land___eq__), ("Counted", c_Counted___eq__), ("Wish", c_Wish___eq__), ("LandWish", c_LandWish___eq__), ("EveryLandWish", c_EveryLandWish___eq__)]
def supL : List ((Str × Str) × IniD) := [(("LandWish", "LandWish"), d_Wish), (("EveryLandWish", "EveryLandWish"), d_Wish)]
/-! the base table -/
def insL : List Str := sl_ ["Land", "Counted", "Wish", "LandWish", "EveryLandWish"]
def fldsL : List (Str × Str) := [("Land", "cells"), ("Land", "neighbours"), ("Land", "roads"), ("Counted", "grants"), ("Counted", "untold"), ("Counted", "giving_up"), ("Wish", "counted"), ("LandWish", "counted"), ("LandWish", "land"), ("LandWish", "cells"), ("LandWish", "bars"), ("EveryLandWish", "counted"), ("EveryLandWish", "sorts")]
def tysL : List TyN := (["NoneType", "bool", "int", "str", "tuple", "list"].map TyN.b) ++ insL.map TyN.c
def asksL : List TyN := (["int", "bool", "list", "tuple", "str"].map TyN.b) ++ insL.map TyN.c
def belowB : TyN → TyN → Bool
  | .b x, .b y => x == y || (x == "bool" && y == "int")
  | .c x, .c y => x == y || (y == "Wish" && (x == "LandWish" || x == "EveryLandWish"))
  | _, _ => false
def isisL : List ((TyN × TyN) × Bool) := tysL.flatMap fun a => asksL.map fun b => ((a, b), belowB a b)
def firstsL : List (Str × Str) := [("Wish", "LandWish"), ("Wish", "EveryLandWish")]
def nfsL : List (Str × TyN) := (insL.flatMap fun C => tysL.map fun t => (C, t)).filter fun p => !(firstsL.any fun q => p.1 == q.1 && p.2 == .c q.2)
def dat : HDat := ⟨insL, fldsL, isisL, firstsL, nfsL⟩
def cstL : List (Str × T) := [("MOST_CELLS", .int 5), ("WIDEST", .int 3), ("BARS", .tup [.str "double", .str "needed"]), ("SORTS", .tup [.str "far", .str "loose", .str "bound"])]
def excL : List (Str × (Nat × ExF)) := [("BadLand", (1, [("what", 0)])), ("BadCounted", (1, [("what", 0)])), ("BadWish", (1, [("what", 0)]))]
def clssL : List (Str × TyN) := (["int", "bool", "list", "tuple", "str"].map fun n => (Str.ofString n, TyN.b n)) ++ insL.map fun C => (C, TyN.c C)
def blL : List Str := sl_ ["isinstance", "int", "list", "tuple", "len", "range", "min", "max", "sorted", "enumerate", "abs"]
def lamL : List (Str × (Str × Str)) := [("_law_refused", ("BadWish", "what"))]
def base_ : Tab where
  cst := fun x => cstL.lookup x
  fns := fun _ _ => none
  fnk := fun _ _ _ => none
  met := fun _ _ _ => none
  fld := fldT_ dat
  isi := isiH dat
  eqt := eqtH dat
  exc := fun x => excL.lookup x
  cls := fun x => clssL.lookup x
  bl := fun x => blL.contains x
  lam := fun x => lamL.lookup x
def Pr53 : Prg where
  base := base_
  fns := fun x => fnsL.lookup x
  cls := fun x => clsL.lookup x
  mets := fun C m => metsL.lookup (C, m)
  eqs := fun C => eqsL.lookup C
  sup := fun D C => supL.lookup (D, C)
end K53
end TL
namespace TL
open PySem PySem.Spec PyProof.Rows L2
namespace K53
theorem mir_is_whole (n : Nat) : runC (tabX Pr53 (n + 1)).t c_is_whole = runS 3 (sSeq (sRet (M.map OT.v (mAndV (M.map T.bl (mIsi Pr53.base.isi (.b "int") (peek 0))) (mAndV (mNotV (M.map T.bl (mIsi Pr53.base.isi (.b "bool") (peek 0)))) (M.map T.bl (mChain (intB leB) (intB leB) (nmV 1) (nmV 0) (peek 2)))))))
  sNext) := by
  kernel_rfl
theorem mir_is_row (n : Nat) : runC (tabX Pr53 (n + 1)).t c_is_row = runS 1 (sSeq (sRet (M.map OT.v (M.map T.bl (mIsis Pr53.base.isi [(.b "list"), (.b "tuple")] (peek 0)))))
  sNext) := by
  kernel_rfl
def lb_are_cells_1b (n : Nat) : Stm := (sSeq (sIf (mOr (mNot (mTest (M.map OT.fz (mCall 3 (srcF 3 [.p 0, .p 1, .p 2] [] [] (runC (tabX Pr53 n).t c_is_whole)) (mCons (nmV 4) (mCons (M.ret (.int (0))) (mCons (M.map OT.fz (mOpN subT 0 (M.ret (.int (1))))) (M.ret [])))))))) (mCmpN inT 4 (peek 3))) (sSeq (sRet (M.map OT.v (M.ret (.bl false))))
  sNext) sNext)
  (sSeq (sDrop (mMut 3 opAppend (mCons (nmV 4) (M.ret []))))
  sNext))
theorem mir_are_cells (n : Nat) : runC (tabX Pr53 (n + 1)).t c_are_cells = runS 5 (sSeq (sIf (mOr (mNot (mTest (M.map OT.fz (mCall 1 (srcF 1 [.p 0] [] [] (runC (tabX Pr53 n).t c_is_row)) (mCons (nmV 1) (M.ret [])))))) (mCmp (intB ltB) (M.map OT.fz (mUn lenT (peek 1))) (peek 2))) (sSeq (sRet (M.map OT.v (M.ret (.bl false))))
  sNext) sNext)
  (sSeq (sPut 3 (mLst (M.ret [])))
  (sSeq (sFor (mItemsA (nmV 1)) (gNm 4) (lb_are_cells_1b n))
  (sSeq (sRet (M.map OT.v (M.ret (.bl true))))
  sNext)))) := by
  kernel_rfl
theorem mir_is_lot (n : Nat) : runC (tabX Pr53 (n + 1)).t c_is_lot = runS 3 (sSeq (sRet (mCall 3 (srcF 3 [.p 0, .p 1, .p 2] [] [] (runC (tabX Pr53 n).t c_are_cells)) (mCons (mFld (Pr53.base.fld "cells") "cells" (peek 0)) (mCons (nmV 1) (mCons (nmV 2) (M.ret []))))))
  sNext) := by
  kernel_rfl
def lb_neighbour_rows_1b (n : Nat) : Stm := (sSeq (sIf (mOr (mNot (mTest (M.map OT.fz (mCall 3 (srcF 3 [.p 0, .p 1, .p 2] [] [] (runC (tabX Pr53 n).t c_are_cells)) (mCons (nmV 0) (mCons (nmV 3) (mCons (M.ret (.int (2))) (M.ret [])))))))) (mEq (tabX Pr53 (n + 1)).t.eqt true (M.map OT.fz (mUn lenT (peek 3))) (M.ret (.int (2))))) (sSeq (sRet (M.map OT.v (M.ret .non)))
  sNext) sNext)
  (sSeq (sPut 4 (M.map OT.v (mTup (mCons (M.map OT.fz (mOp minT (M.map OT.fz (mOpH ixH 3 (M.ret (.int (0))))) (M.map OT.fz (mOpH ixH 3 (M.ret (.int (1))))))) (mCons (M.map OT.fz (mOp maxT (M.map OT.fz (mOpH ixH 3 (M.ret (.int (0))))) (M.map OT.fz (mOpH ixH 3 (M.ret (.int (1))))))) (M.ret []))))))
  (sSeq (sIf (mCmpN inT 4 (peek 2)) (sSeq (sRet (M.map OT.v (M.ret .non)))
  sNext) sNext)
  (sSeq (sDrop (mMut 2 opAppend (mCons (nmV 4) (M.ret []))))
  sNext))))
theorem mir_neighbour_rows (n : Nat) : runC (tabX Pr53 (n + 1)).t c_neighbour_rows = runS 5 (sSeq (sIf (mNot (mTest (M.map OT.fz (mCall 1 (srcF 1 [.p 0] [] [] (runC (tabX Pr53 n).t c_is_row)) (mCons (nmV 1) (M.ret [])))))) (sSeq (sRet (M.map OT.v (M.ret .non)))
  sNext) sNext)
  (sSeq (sPut 2 (mLst (M.ret [])))
  (sSeq (sFor (mItemsA (nmV 1)) (gNm 3) (lb_neighbour_rows_1b n))
  (sSeq (sRet (mUn tupleT (M.map OT.fz (mUn sortT (peek 2)))))
  sNext)))) := by
  kernel_rfl
def lb_hangs_together_1b (n : Nat) : Stm := (sSeq (sIf (mAnd (mEq (tabX Pr53 (n + 1)).t.eqt false (nmV 5) (nmV 4)) (mCmpN notInT 6 (peek 2))) (sSeq (sDrop (mMut 2 opAppend (mCons (nmV 6) (M.ret []))))
  sNext) sNext)
  (sSeq (sIf (mAnd (mEq (tabX Pr53 (n + 1)).t.eqt false (nmV 6) (nmV 4)) (mCmpN notInT 5 (peek 2))) (sSeq (sDrop (mMut 2 opAppend (mCons (nmV 5) (M.ret []))))
  sNext) sNext)
  sNext))
def lb_hangs_together_2b (n : Nat) : Stm := (sSeq (sIf (mCmpN (intB ltB) 3 (M.map OT.fz (mUn lenT (peek 2)))) (sSeq (sPut 4 (mOpH ixH 2 (peek 3)))
  (sSeq (sFor (mItemsA (nmV 1)) (gTp (gsCons (gNm 5) (gsCons (gNm 6) gsNil)) 2) (lb_hangs_together_1b n))
  sNext)) sNext)
  sNext)
theorem mir_hangs_together (n : Nat) : runC (tabX Pr53 (n + 1)).t c_hangs_together = runS 7 (sSeq (sPut 2 (mLst (mCons (M.ret (.int (0))) (M.ret []))))
  (sSeq (sFor (mRng rng1 (mCons (nmV 0) (M.ret []))) (gNm 3) (lb_hangs_together_2b n))
  (sSeq (sRet (M.map OT.v (M.map T.bl (mEq (tabX Pr53 (n + 1)).t.eqt false (M.map OT.fz (mUn lenT (peek 2))) (nmV 0)))))
  sNext))) := by
  kernel_rfl
def lb_are_unlike_words_1b (n : Nat) : Stm := (sSeq (sIf (mOr (mNot (mTest (M.map T.bl (mIsi Pr53.base.isi (.b "str") (peek 4))))) (mOr (mCmpN notInT 4 (peek 1)) (mCmpN inT 4 (M.map OT.fz (mSl (nmV 0) (M.ret none) (mPart (nmV 3))))))) (sSeq (sRet (M.map OT.v (M.ret (.bl false))))
  sNext) sNext)
  sNext)
theorem mir_are_unlike_words (n : Nat) : runC (tabX Pr53 (n + 1)).t c_are_unlike_words = runS 5 (sSeq (sIf (mOr (mNot (mTest (M.map OT.fz (mCall 1 (srcF 1 [.p 0] [] [] (runC (tabX Pr53 n).t c_is_row)) (mCons (nmV 0) (M.ret [])))))) (mCmp (intB ltB) (M.map OT.fz (mUn lenT (peek 0))) (peek 2))) (sSeq (sRet (M.map OT.v (M.ret (.bl false))))
  sNext) sNext)
  (sSeq (sFor (mEnum (nmV 0)) (gTp (gsCons (gNm 3) (gsCons (gNm 4) gsNil)) 2) (lb_are_unlike_words_1b n))
  (sSeq (sRet (M.map OT.v (M.ret (.bl true))))
  sNext))) := by
  kernel_rfl
theorem mir__law_mix (n : Nat) : runC (tabX Pr53 (n + 1)).t c__law_mix = runS 4 (sSeq (sPut 2 (mOp modT (M.map OT.fz (mUn intT (M.map OT.fz (mOp addT (M.map OT.fz (mOp addT (M.map OT.fz (mOpN mulT 0 (M.ret (.int (48271))))) (M.map OT.fz (mOpN mulT 1 (M.ret (.int (16807))))))) (M.ret (.int (11))))))) (M.ret (.int (2147483647)))))
  (sSeq (sPut 3 (mOp modT (M.map OT.fz (mUn intT (M.map OT.fz (mOp addT (M.map OT.fz (mOp addT (M.map OT.fz (mOpN mulT 2 (peek 2))) (M.map OT.fz (mOp mulT (M.map OT.fz (mOpN fdivT 2 (M.ret (.int (127))))) (M.ret (.int (40692))))))) (M.map OT.fz (mOpN mulT 1 (M.ret (.int (69621))))))))) (M.ret (.int (2147483399)))))
  (sSeq (sRet (mOp fdivT (M.map OT.fz (mOp modT (M.map OT.fz (mUn intT (M.map OT.fz (mOp addT (M.map OT.fz (mOp fdivT (M.map OT.fz (mOpN mulT 3 (peek 3))) (M.ret (.int (1009))))) (peek 2))))) (M.ret (.int (2147483563))))) (M.ret (.int (16)))))
  sNext))) := by
  kernel_rfl
def lb__law_hand_1b (n : Nat) : Stm := (sSeq (sPut 1 (mOp modT (M.map OT.fz (mUn intT (M.map OT.fz (mOp addT (M.map OT.fz (mOpN mulT 1 (M.ret (.int (31))))) (M.map OT.fz (mOp mulT (M.map OT.fz (mUn intT (peek 3))) (M.map OT.fz (mOpN addT 2 (M.ret (.int (7))))))))))) (M.ret (.int (2147483629)))))
  sNext)
def lb__law_hand_2e (n : Nat) : M T := (M.map OT.fz (mUn absT (M.map OT.fz (mUn intT (peek 3)))))
theorem mir__law_hand (n : Nat) : runC (tabX Pr53 (n + 1)).t c__law_hand = runS 4 (sSeq (sPut 1 (M.map OT.v (M.ret (.int (0)))))
  (sSeq (sFor (mEnum (nmV 0)) (gTp (gsCons (gNm 2) (gsCons (gNm 3) gsNil)) 2) (lb__law_hand_1b n))
  (sSeq (sRet (mLst (mCons (M.map OT.fz (mLc [3] (mItemsA (nmV 0)) (gNm 3) (M.ret true) (lb__law_hand_2e n))) (mCons (M.ret (.int (0))) (mCons (M.ret (.int (0))) (mCons (nmV 1) (M.ret [])))))))
  sNext))) := by
  kernel_rfl
theorem mir__law_draw (n : Nat) : runC (tabX Pr53 (n + 1)).t c__law_draw = runS 4 (sSeq (sIf (mAnd (mEq (tabX Pr53 (n + 1)).t.eqt false (M.map OT.fz (mOpH ixH 0 (M.ret (.int (2))))) (M.ret (.int (0)))) (mCmp (intB ltB) (M.map OT.fz (mOpH ixH 0 (M.ret (.int (1))))) (M.map OT.fz (mUn lenT (M.map OT.fz (mOpH ixH 0 (M.ret (.int (0))))))))) (sSeq (sPut 2 (mOp ixT (M.map OT.fz (mOpH ixH 0 (M.ret (.int (0))))) (M.map OT.fz (mOpH ixH 0 (M.ret (.int (1)))))))
  (sSeq (sSubH 0 (M.ret (.int (1))) (M.map OT.fz (mOp addT (M.map OT.fz (mOpH ixH 0 (M.ret (.int (1))))) (M.ret (.int (1))))))
  (sSeq (sIf (mCmpN (intB ltB) 2 (M.map OT.fz (mOp powT (M.ret (.int (10))) (M.ret (.int (18)))))) (sSeq (sRet (mOp modT (M.map OT.fz (mUn intT (M.map OT.fz (mCall 2 (srcF 2 [.p 0, .p 1] [] [] (runC (tabX Pr53 n).t c__law_mix)) (mCons (M.map OT.fz (mOp modT (M.map OT.fz (mUn intT (peek 2))) (M.ret (.int (2147483647))))) (mCons (M.map OT.fz (mOpH ixH 0 (M.ret (.int (1))))) (M.ret []))))))) (peek 1)))
  sNext) sNext)
  (sSeq (sSubH 0 (M.ret (.int (2))) (nmV 2))
  sNext)))) sNext)
  (sSeq (sIf (mCmp (intB gtB) (M.map OT.fz (mOpH ixH 0 (M.ret (.int (2))))) (M.ret (.int (0)))) (sSeq (sPut 3 (mOpH ixH 0 (M.ret (.int (2)))))
  (sSeq (sSubH 0 (M.ret (.int (2))) (M.map OT.fz (mOpN fdivT 3 (peek 1))))
  (sSeq (sRet (mOp modT (M.map OT.fz (mUn intT (peek 3))) (peek 1)))
  sNext))) sNext)
  (sSeq (sSubH 0 (M.ret (.int (3))) (M.map OT.fz (mOp modT (M.map OT.fz (mUn intT (M.map OT.fz (mOp addT (M.map OT.fz (mOpH ixH 0 (M.ret (.int (3))))) (M.ret (.int (1))))))) (M.ret (.int (2147483629))))))
  (sSeq (sRet (mOp modT (M.map OT.fz (mUn intT (M.map OT.fz (mCall 2 (srcF 2 [.p 0, .p 1] [] [] (runC (tabX Pr53 n).t c__law_mix)) (mCons (M.map OT.fz (mOpH ixH 0 (M.ret (.int (3))))) (mCons (M.map OT.fz (mOpH ixH 0 (M.ret (.int (1))))) (M.ret []))))))) (peek 1)))
  sNext)))) := by
  kernel_rfl
theorem mir__law_pick (n : Nat) : runC (tabX Pr53 (n + 1)).t c__law_pick = runS 2 (sSeq (sRet (mOpH ixH 1 (M.map OT.fz (mCall 2 (srcF 2 [.p 0, .p 1] [] [] (runC (tabX Pr53 n).t c__law_draw)) (mCons (nmV 0) (mCons (M.map OT.fz (mUn lenT (peek 1))) (M.ret [])))))))
  sNext) := by
  kernel_rfl
def lb__law_lots_1b (n : Nat) : Stm := (sSeq (sIf (mOr (mEq (tabX Pr53 (n + 1)).t.eqt false (nmV 5) (mTup (M.ret []))) (mCmpN (intB gtB) 6 (M.map OT.fz (mOpH ixH 5 (M.map OT.fz (mUn negT (M.ret (.int (1))))))))) (sSeq (sDrop (mMut 4 opAppend (mCons (M.map OT.fz (mOpN addT 5 (mTup (mCons (nmV 6) (M.ret []))))) (M.ret []))))
  sNext) sNext)
  sNext)
def lb__law_lots_2b (n : Nat) : Stm := (sSeq (sFor (mItemsA (nmV 0)) (gNm 6) (lb__law_lots_1b n))
  sNext)
def lb__law_lots_3b (n : Nat) : Stm := (sSeq (sPut 4 (mLst (M.ret [])))
  (sSeq (sFor (mItemsA (nmV 2)) (gNm 5) (lb__law_lots_2b n))
  (sSeq (sDrop (mMut 1 opExtend (mCons (nmV 4) (M.ret []))))
  (sSeq (sPut 2 (mUn listT (peek 4)))
  sNext))))
theorem mir__law_lots (n : Nat) : runC (tabX Pr53 (n + 1)).t c__law_lots = runS 7 (sSeq (sPar 1 2 (mLst (mCons (mTup (M.ret [])) (M.ret []))) (mLst (mCons (mTup (M.ret [])) (M.ret []))))
  (sSeq (sFor (mRng rng1 (mCons (M.map OT.fz (mUn lenT (peek 0))) (M.ret []))) (gNm 3) (lb__law_lots_3b n))
  (sSeq (sRet (nmO 1))
  sNext))) := by
  kernel_rfl
def lb__law_land_1b (n : Nat) : Stm := (sSeq (sDrop (mMut 2 opAppend (mCons (mMut 3 opPopAt (mCons (M.map OT.fz (mCall 2 (srcF 2 [.p 0, .p 1] [] [] (runC (tabX Pr53 n).t c__law_draw)) (mCons (nmV 0) (mCons (M.map OT.fz (mUn lenT (peek 3))) (M.ret []))))) (M.ret []))) (M.ret []))))
  sNext)
def lb__law_land_2b (n : Nat) : Stm := (sSeq (sDrop (mMut 5 opAppend (mCons (mTup (mCons (nmV 4) (mCons (M.map OT.fz (mCall 2 (srcF 2 [.p 0, .p 1] [] [] (runC (tabX Pr53 n).t c__law_draw)) (mCons (nmV 0) (mCons (nmV 4) (M.ret []))))) (M.ret [])))) (M.ret []))))
  sNext)
def lb__law_land_3b (n : Nat) : Stm := (sSeq (sIf (mAnd (mCmp notInT (mTup (mCons (nmV 6) (mCons (nmV 7) (M.ret [])))) (peek 5)) (mEq (tabX Pr53 (n + 1)).t.eqt false (M.map OT.fz (mCall 2 (srcF 2 [.p 0, .p 1] [] [] (runC (tabX Pr53 n).t c__law_draw)) (mCons (nmV 0) (mCons (M.ret (.int (3))) (M.ret []))))) (M.ret (.int (0))))) (sSeq (sDrop (mMut 5 opAppend (mCons (mTup (mCons (nmV 6) (mCons (nmV 7) (M.ret [])))) (M.ret []))))
  sNext) sNext)
  sNext)
def lb__law_land_4b (n : Nat) : Stm := (sSeq (sFor (mRng rng1 (mCons (nmV 6) (M.ret []))) (gNm 7) (lb__law_land_3b n))
  sNext)
def lb__law_land_5e (n : Nat) : M T := (mTup (mCons (M.map OT.fz (mOp minT (M.map OT.fz (mOpH ixH 2 (peek 9))) (M.map OT.fz (mOpH ixH 2 (peek 10))))) (mCons (M.map OT.fz (mOp maxT (M.map OT.fz (mOpH ixH 2 (peek 9))) (M.map OT.fz (mOpH ixH 2 (peek 10))))) (M.ret []))))
def lb__law_land_6c (n : Nat) : M Bool := (mChain (intB ltB) (intB ltB) (M.ret (.int (0))) (M.map OT.fz (mUn lenT (peek 12))) (peek 1))
theorem mir__law_land (n : Nat) : runC (tabX Pr53 (n + 1)).t c__law_land = runS 13 (sSeq (sPut 2 (mLst (M.ret [])))
  (sSeq (sPut 3 (mUn (listRg id) (peek 1)))
  (sSeq (sFor (mRng rng1 (mCons (nmV 1) (M.ret []))) (gNm 4) (lb__law_land_1b n))
  (sSeq (sPut 5 (mLst (M.ret [])))
  (sSeq (sFor (mRng rng2 (mCons (M.ret (.int (1))) (mCons (nmV 1) (M.ret [])))) (gNm 4) (lb__law_land_2b n))
  (sSeq (sFor (mRng rng2 (mCons (M.ret (.int (2))) (mCons (nmV 1) (M.ret [])))) (gNm 6) (lb__law_land_4b n))
  (sSeq (sPut 8 (mLc [9, 10] (mItemsA (nmV 5)) (gTp (gsCons (gNm 9) (gsCons (gNm 10) gsNil)) 2) (M.ret true) (lb__law_land_5e n)))
  (sSeq (sPut 11 (mLc [12] (mItemsA (M.map OT.fz (mCall 1 (srcF 1 [.p 0] [] [] (runC (tabX Pr53 n).t c__law_lots)) (mCons (M.map OT.fz (mUn (listRg id) (peek 1))) (M.ret []))))) (gNm 12) (lb__law_land_6c n) (nmV 12)))
  (sSeq (sRet (M.map OT.v (mTup (mCons (nmV 1) (mCons (M.map OT.fz (mUn sortT (peek 8))) (mCons (M.map OT.fz (mUn listT (M.map OT.fz (mCall 2 (srcF 2 [.p 0, .p 1] [] [] (runC (tabX Pr53 n).t c__law_pick)) (mCons (nmV 0) (mCons (nmV 11) (M.ret []))))))) (M.ret [])))))))
  sNext))))))))) := by
  kernel_rfl
def lb__law_some_1c (n : Nat) : M Bool := (mEq (tabX Pr53 (n + 1)).t.eqt true (nmV 2) (mTup (M.ret [])))
theorem mir__law_some (n : Nat) : runC (tabX Pr53 (n + 1)).t c__law_some = runS 3 (sSeq (sPut 2 (mUn listT (M.map OT.fz (mCall 2 (srcF 2 [.p 0, .p 1] [] [] (runC (tabX Pr53 n).t c__law_pick)) (mCons (nmV 0) (mCons (M.map OT.fz (mLc [2] (mItemsA (M.map OT.fz (mCall 1 (srcF 1 [.p 0] [] [] (runC (tabX Pr53 n).t c__law_lots)) (mCons (M.map OT.fz (mUn sortT (peek 1))) (M.ret []))))) (gNm 2) (lb__law_some_1c n) (nmV 2))) (M.ret [])))))))
  (sSeq (sIf (mEq (tabX Pr53 (n + 1)).t.eqt false (M.map OT.fz (mCall 2 (srcF 2 [.p 0, .p 1] [] [] (runC (tabX Pr53 n).t c__law_draw)) (mCons (nmV 0) (mCons (M.ret (.int (3))) (M.ret []))))) (M.ret (.int (0)))) (sSeq (sPut 2 (mUn revT (peek 2)))
  sNext) sNext)
  (sSeq (sRet (nmO 2))
  sNext))) := by
  kernel_rfl
theorem mir__law_ground (n : Nat) : runC (tabX Pr53 (n + 1)).t c__law_ground = runS 1 (sSeq (sRet (mCall 3 (mkFn "Land" (srcI 3 [.p 0, .p 1, .p 2] [] [] (iniT (tabX Pr53 n) "Land" d_Land))) (mCons (M.map OT.fz (mOpH ixH 0 (M.ret (.int (0))))) (mCons (M.map OT.fz (mUn listT (M.map OT.fz (mOpH ixH 0 (M.ret (.int (1))))))) (mCons (M.map OT.fz (mUn listT (M.map OT.fz (mOpH ixH 0 (M.ret (.int (2))))))) (M.ret []))))))
  sNext) := by
  kernel_rfl
theorem mir__law_counts (n : Nat) : runC (tabX Pr53 (n + 1)).t c__law_counts = runS 1 (sSeq (sRet (mCall 2 (srcF 2 [.p 0, .p 1] [] [] (runC (tabX Pr53 n).t c__law_pick)) (mCons (nmV 0) (mCons (M.map OT.fz (mLst (mCons (mTup (mCons (M.ret (.bl true)) (mCons (M.ret (.bl true)) (mCons (M.ret (.bl false)) (M.ret []))))) (mCons (mTup (mCons (M.ret (.bl true)) (mCons (M.ret (.bl true)) (mCons (M.ret (.bl false)) (M.ret []))))) (mCons (mTup (mCons (M.ret (.bl false)) (mCons (M.ret (.bl true)) (mCons (M.ret (.bl false)) (M.ret []))))) (mCons (mTup (mCons (M.ret (.bl true)) (mCons (M.ret (.bl false)) (mCons (M.ret (.bl false)) (M.ret []))))) (mCons (mTup (mCons (M.ret (.bl false)) (mCons (M.ret (.bl false)) (mCons (M.ret (.bl false)) (M.ret []))))) (mCons (mTup (mCons (M.ret (.bl true)) (mCons (M.ret (.bl true)) (mCons (M.ret (.bl true)) (M.ret []))))) (mCons (mTup (mCons (M.ret (.bl false)) (mCons (M.ret (.bl false)) (mCons (M.ret (.bl true)) (M.ret []))))) (mCons (mTup (mCons (M.ret (.bl false)) (mCons (M.ret (.bl true)) (mCons (M.ret (.bl false)) (M.ret []))))) (M.ret []))))))))))) (M.ret [])))))
  sNext) := by
  kernel_rfl
theorem mir__law_sorts (n : Nat) : runC (tabX Pr53 (n + 1)).t c__law_sorts = runS 2 (sSeq (sIf (mAnd (mEq (tabX Pr53 (n + 1)).t.eqt false (nmV 1) (mTup (mCons (M.ret (.bl true)) (mCons (M.ret (.bl true)) (mCons (M.ret (.bl false)) (M.ret [])))))) (mEq (tabX Pr53 (n + 1)).t.eqt false (M.map OT.fz (mCall 2 (srcF 2 [.p 0, .p 1] [] [] (runC (tabX Pr53 n).t c__law_draw)) (mCons (nmV 0) (mCons (M.ret (.int (2))) (M.ret []))))) (M.ret (.int (0))))) (sSeq (sRet (M.map OT.v (M.ret .non)))
  sNext) sNext)
  (sSeq (sRet (mCallK 1 2 (mkFn "Counted" (srcI 1 [.p 0, .k 0, .k 1] [] [] (iniT (tabX Pr53 n) "Counted" d_Counted))) (mCons (M.map OT.fz (mOpH ixH 1 (M.ret (.int (0))))) (M.ret [])) (mCons (M.map OT.fz (mOpH ixH 1 (M.ret (.int (1))))) (mCons (M.map OT.fz (mOpH ixH 1 (M.ret (.int (2))))) (M.ret [])))))
  sNext)) := by
  kernel_rfl
def lb__law_wish_1e (n : Nat) : M T := (M.map OT.fz (mOp ixT (M.map OT.fz (mLst (mCons (M.ret (.str "far")) (mCons (M.ret (.str "loose")) (mCons (M.ret (.str "bound")) (M.ret [])))))) (peek 5)))
def st__law_wish_1 (n : Nat) : Stm := (sPut 3 (mCall 1 (srcF 1 [.p 0] [] [] (runC (tabX Pr53 n).t c__law_counts)) (mCons (nmV 0) (M.ret []))))
def st__law_wish_2 (n : Nat) : Stm := (sIf (mAnd (mTest (M.map OT.fz (mOpH ixH 3 (M.ret (.int (2)))))) (mCmp (intB gtB) (M.map OT.fz (mCall 2 (srcF 2 [.p 0, .p 1] [] [] (runC (tabX Pr53 n).t c__law_draw)) (mCons (nmV 0) (mCons (M.ret (.int (3))) (M.ret []))))) (M.ret (.int (0))))) (sSeq (sPut 3 (M.map OT.v (mTup (mCons (M.map OT.fz (mOpH ixH 3 (M.ret (.int (0))))) (mCons (M.map OT.fz (mOpH ixH 3 (M.ret (.int (1))))) (mCons (M.ret (.bl false)) (M.ret [])))))))
  sNext) sNext)
def st__law_wish_3 (n : Nat) : Stm := (sIf (mAnd (mNot (mTest (nmV 2))) (mEq (tabX Pr53 (n + 1)).t.eqt false (M.map OT.fz (mCall 2 (srcF 2 [.p 0, .p 1] [] [] (runC (tabX Pr53 n).t c__law_draw)) (mCons (nmV 0) (mCons (M.ret (.int (2))) (M.ret []))))) (M.ret (.int (0))))) (sSeq (sPut 4 (mCall 2 (srcF 2 [.p 0, .p 1] [] [] (runC (tabX Pr53 n).t c__law_some)) (mCons (nmV 0) (mCons (M.map OT.fz (mLst (mCons (M.ret (.int (0))) (mCons (M.ret (.int (1))) (mCons (M.ret (.int (2))) (M.ret [])))))) (M.ret [])))))
  (sSeq (sRet (M.map OT.v (mTup (mCons (M.ret (.str "every")) (mCons (M.map OT.fz (mLc [5] (mItemsA (nmV 4)) (gNm 5) (M.ret true) (lb__law_wish_1e n))) (mCons (nmV 3) (M.ret [])))))))
  sNext)) sNext)
def st__law_wish_4 (n : Nat) : Stm := (sPut 6 (mCall 2 (srcF 2 [.p 0, .p 1] [] [] (runC (tabX Pr53 n).t c__law_land)) (mCons (nmV 0) (mCons (nmV 1) (M.ret [])))))
def st__law_wish_5 (n : Nat) : Stm := (sPut 7 (mCall 2 (srcF 2 [.p 0, .p 1] [] [] (runC (tabX Pr53 n).t c__law_some)) (mCons (nmV 0) (mCons (M.map OT.fz (mUn (listRg id) (peek 1))) (M.ret [])))))
def st__law_wish_6 (n : Nat) : Stm := (sPut 8 (mCall 2 (srcF 2 [.p 0, .p 1] [] [] (runC (tabX Pr53 n).t c__law_pick)) (mCons (nmV 0) (mCons (M.map OT.fz (mLst (mCons (M.map OT.fz (mLst (M.ret []))) (mCons (M.map OT.fz (mLst (M.ret []))) (mCons (M.map OT.fz (mLst (M.ret []))) (mCons (M.map OT.fz (mLst (mCons (M.ret (.str "needed")) (M.ret [])))) (M.ret []))))))) (M.ret [])))))
def st__law_wish_7 (n : Nat) : Stm := (sIf (mAnd (mEq (tabX Pr53 (n + 1)).t.eqt true (nmV 8) (M.map OT.fz (mLst (M.ret [])))) (mEq (tabX Pr53 (n + 1)).t.eqt false (M.map OT.fz (mCall 2 (srcF 2 [.p 0, .p 1] [] [] (runC (tabX Pr53 n).t c__law_draw)) (mCons (nmV 0) (mCons (M.ret (.int (4))) (M.ret []))))) (M.ret (.int (0))))) (sSeq (sPut 7 (mLst (M.ret [])))
  sNext) sNext)
def st__law_wish_8 (n : Nat) : Stm := (sRet (M.map OT.v (mTup (mCons (M.ret (.str "land")) (mCons (nmV 6) (mCons (nmV 7) (mCons (nmV 8) (mCons (nmV 3) (M.ret [])))))))))
theorem mir__law_wish (n : Nat) : runC (tabX Pr53 (n + 1)).t c__law_wish = runS 9 (sSeq (st__law_wish_1 n) (sSeq (st__law_wish_2 n) (sSeq (st__law_wish_3 n) (sSeq (st__law_wish_4 n) (sSeq (st__law_wish_5 n) (sSeq (st__law_wish_6 n) (sSeq (st__law_wish_7 n) (sSeq (st__law_wish_8 n) sNext)))))))) := by
  kernel_rfl
theorem mir__law_made_wish (n : Nat) : runC (tabX Pr53 (n + 1)).t c__law_made_wish = runS 2 (sSeq (sIf (mEq (tabX Pr53 (n + 1)).t.eqt false (M.map OT.fz (mOpH ixH 1 (M.ret (.int (0))))) (M.ret (.str "every"))) (sSeq (sRet (mCall 2 (mkFn "EveryLandWish" (srcI 2 [.p 0, .p 1] [] [] (iniT (tabX Pr53 n) "EveryLandWish" d_EveryLandWish))) (mCons (M.map OT.fz (mUn listT (M.map OT.fz (mOpH ixH 1 (M.ret (.int (1))))))) (mCons (M.map OT.fz (mCall 2 (srcF 2 [.p 0, .p 1] [] [] (runC (tabX Pr53 n).t c__law_sorts)) (mCons (nmV 0) (mCons (M.map OT.fz (mOpH ixH 1 (M.ret (.int (2))))) (M.ret []))))) (M.ret [])))))
  sNext) sNext)
  (sSeq (sIf (mAnd (mEq (tabX Pr53 (n + 1)).t.eqt false (M.map OT.fz (mOpH ixH 1 (M.ret (.int (3))))) (M.map OT.fz (mLst (M.ret [])))) (mEq (tabX Pr53 (n + 1)).t.eqt false (M.map OT.fz (mCall 2 (srcF 2 [.p 0, .p 1] [] [] (runC (tabX Pr53 n).t c__law_draw)) (mCons (nmV 0) (mCons (M.ret (.int (2))) (M.ret []))))) (M.ret (.int (0))))) (sSeq (sRet (mCall 3 (mkFn "LandWish" (srcI 3 [.p 0, .p 1, .p 2, .m 0] [] [(T.tup [])] (iniT (tabX Pr53 n) "LandWish" d_LandWish))) (mCons (M.map OT.fz (mCall 1 (srcF 1 [.p 0] [] [] (runC (tabX Pr53 n).t c__law_ground)) (mCons (M.map OT.fz (mOpH ixH 1 (M.ret (.int (1))))) (M.ret [])))) (mCons (M.map OT.fz (mUn listT (M.map OT.fz (mOpH ixH 1 (M.ret (.int (2))))))) (mCons (M.map OT.fz (mCall 2 (srcF 2 [.p 0, .p 1] [] [] (runC (tabX Pr53 n).t c__law_sorts)) (mCons (nmV 0) (mCons (M.map OT.fz (mOpH ixH 1 (M.ret (.int (4))))) (M.ret []))))) (M.ret []))))))
  sNext) sNext)
  (sSeq (sRet (mCallK 2 2 (mkFn "LandWish" (srcI 2 [.p 0, .p 1, .k 0, .k 1] [] [] (iniT (tabX Pr53 n) "LandWish" d_LandWish))) (mCons (M.map OT.fz (mCall 1 (srcF 1 [.p 0] [] [] (runC (tabX Pr53 n).t c__law_ground)) (mCons (M.map OT.fz (mOpH ixH 1 (M.ret (.int (1))))) (M.ret [])))) (mCons (M.map OT.fz (mUn tupleT (M.map OT.fz (mOpH ixH 1 (M.ret (.int (2))))))) (M.ret []))) (mCons (M.map OT.fz (mCall 2 (srcF 2 [.p 0, .p 1] [] [] (runC (tabX Pr53 n).t c__law_sorts)) (mCons (nmV 0) (mCons (M.map OT.fz (mOpH ixH 1 (M.ret (.int (4))))) (M.ret []))))) (mCons (M.map OT.fz (mUn listT (M.map OT.fz (mOpH ixH 1 (M.ret (.int (3))))))) (M.ret [])))))
  sNext))) := by
  kernel_rfl
def lb__law_things_1c (n : Nat) : M Bool := (mCmpN inT 1 (M.map OT.fz (mOpH ixH 0 (M.ret (.int (1))))))
def lb__law_things_1e (n : Nat) : M T := (mTup (mCons (nmV 1) (mCons (mTup (M.ret [])) (M.ret []))))
def lb__law_things_2e (n : Nat) : M T := (mTup (mCons (M.ret (.str "shut")) (mCons (mTup (mCons (nmV 4) (M.ret []))) (M.ret []))))
def lb__law_things_3e (n : Nat) : M T := (mTup (mCons (M.ret (.str "double")) (mCons (mTup (mCons (nmV 5) (mCons (nmV 6) (M.ret [])))) (M.ret []))))
def lb__law_things_4b (n : Nat) : Stm := (sSeq (sPut 3 (mOpN addT 3 (M.map OT.fz (mLc [6] (mRng rng2 (mCons (M.map OT.fz (mOpN addT 5 (M.ret (.int (1))))) (mCons (nmV 2) (M.ret [])))) (gNm 6) (M.ret true) (lb__law_things_3e n)))))
  sNext)
def lb__law_things_5e (n : Nat) : M T := (mTup (mCons (M.ret (.str "needed")) (mCons (mTup (mCons (nmV 4) (M.ret []))) (M.ret []))))
theorem mir__law_things (n : Nat) : runC (tabX Pr53 (n + 1)).t c__law_things = runS 7 (sSeq (sIf (mEq (tabX Pr53 (n + 1)).t.eqt false (M.map OT.fz (mOpH ixH 0 (M.ret (.int (0))))) (M.ret (.str "every"))) (sSeq (sRet (mLc [1] (mItemsA (M.map OT.fz (mLst (mCons (M.ret (.str "far")) (mCons (M.ret (.str "loose")) (mCons (M.ret (.str "bound")) (M.ret []))))))) (gNm 1) (lb__law_things_1c n) (lb__law_things_1e n)))
  sNext) sNext)
  (sSeq (sPut 2 (mOp ixT (M.map OT.fz (mOpH ixH 0 (M.ret (.int (1))))) (M.ret (.int (0)))))
  (sSeq (sPut 3 (mLc [4] (mItemsA (M.map OT.fz (mUn sortT (M.map OT.fz (mOpH ixH 0 (M.ret (.int (2)))))))) (gNm 4) (M.ret true) (lb__law_things_2e n)))
  (sSeq (sIf (mCmp inT (M.ret (.str "double")) (M.map OT.fz (mOpH ixH 0 (M.ret (.int (3)))))) (sSeq (sFor (mRng rng1 (mCons (nmV 2) (M.ret []))) (gNm 5) (lb__law_things_4b n))
  sNext) sNext)
  (sSeq (sIf (mCmp inT (M.ret (.str "needed")) (M.map OT.fz (mOpH ixH 0 (M.ret (.int (3)))))) (sSeq (sPut 3 (mOpN addT 3 (M.map OT.fz (mLc [4] (mRng rng1 (mCons (nmV 2) (M.ret []))) (gNm 4) (M.ret true) (lb__law_things_5e n)))))
  sNext) sNext)
  (sSeq (sRet (nmO 3))
  sNext)))))) := by
  kernel_rfl
theorem mir__law_menu (n : Nat) : runC (tabX Pr53 (n + 1)).t c__law_menu = runS 2 (sSeq (sIf (mEq (tabX Pr53 (n + 1)).t.eqt false (nmV 1) (M.ret (.str "land"))) (sSeq (sRet (mLst (mCons (M.ret .non) (mCons (nmV 0) (mCons (M.ret (.str "land")) (mCons (mTup (mCons (nmV 0) (mCons (M.map OT.fz (mLst (mCons (mTup (mCons (M.ret (.int (0))) (mCons (M.ret (.int (1))) (M.ret [])))) (M.ret [])))) (mCons (M.map OT.fz (mLst (mCons (M.ret (.int (0))) (M.ret [])))) (M.ret []))))) (M.ret [])))))))
  sNext) sNext)
  (sSeq (sIf (mEq (tabX Pr53 (n + 1)).t.eqt false (nmV 1) (M.ret (.str "cells"))) (sSeq (sRet (mLst (mCons (M.map OT.fz (mLst (mCons (M.ret (.int (0))) (mCons (M.ret (.int (0))) (M.ret []))))) (mCons (M.map OT.fz (mLst (mCons (nmV 0) (M.ret [])))) (mCons (mTup (mCons (M.map OT.fz (mUn negT (M.ret (.int (1))))) (M.ret []))) (mCons (M.map OT.fz (mLst (mCons (M.ret (.bl true)) (M.ret [])))) (mCons (M.ret .non) (mCons (M.ret (.int (0))) (mCons (M.ret (.str "0")) (mCons (M.map OT.fz (mLst (mCons (M.ret (.int (0))) (mCons (M.ret .non) (M.ret []))))) (mCons (M.map OT.fz (mLst (mCons (mTup (mCons (M.ret (.int (0))) (M.ret []))) (M.ret [])))) (M.ret []))))))))))))
  sNext) sNext)
  (sSeq (sIf (mEq (tabX Pr53 (n + 1)).t.eqt false (nmV 1) (M.ret (.str "sorts"))) (sSeq (sRet (mLst (mCons (M.map OT.fz (mLst (M.ret []))) (mCons (mTup (M.ret [])) (mCons (M.map OT.fz (mLst (mCons (M.ret (.str "far")) (mCons (M.ret (.str "far")) (M.ret []))))) (mCons (M.map OT.fz (mLst (mCons (M.ret (.str "road")) (M.ret [])))) (mCons (M.ret (.str "far")) (mCons (M.ret .non) (mCons (M.map OT.fz (mLst (mCons (M.ret (.str "far")) (mCons (M.ret (.str "bound")) (mCons (M.ret (.str "near")) (M.ret [])))))) (mCons (M.map OT.fz (mLst (mCons (M.ret (.int (0))) (M.ret [])))) (mCons (M.map OT.fz (mLst (mCons (M.ret .non) (M.ret [])))) (mCons (mTup (mCons (M.ret (.str "loose")) (mCons (M.ret (.str "far")) (mCons (M.ret (.str "loose")) (M.ret []))))) (M.ret [])))))))))))))
  sNext) sNext)
  (sSeq (sIf (mEq (tabX Pr53 (n + 1)).t.eqt false (nmV 1) (M.ret (.str "counted"))) (sSeq (sRet (mLst (mCons (M.ret (.int (0))) (mCons (M.ret (.bl true)) (mCons (M.ret (.bl false)) (mCons (M.ret (.str "all")) (mCons (mTup (mCons (M.ret (.bl true)) (mCons (M.ret (.bl true)) (mCons (M.ret (.bl false)) (M.ret []))))) (mCons (M.map OT.fz (mLst (M.ret []))) (M.ret [])))))))))
  sNext) sNext)
  (sSeq (sRet (mLst (mCons (M.map OT.fz (mLst (mCons (M.ret (.str "double")) (mCons (M.ret (.str "double")) (M.ret []))))) (mCons (M.map OT.fz (mLst (mCons (M.ret (.str "shut")) (M.ret [])))) (mCons (M.ret (.str "needed")) (mCons (M.ret .non) (mCons (M.ret (.int (0))) (mCons (M.map OT.fz (mLst (mCons (M.ret (.str "needed")) (mCons (M.ret (.str "double")) (mCons (M.ret (.str "needed")) (M.ret [])))))) (mCons (M.map OT.fz (mLst (mCons (M.map OT.fz (mLst (mCons (M.ret (.str "double")) (M.ret [])))) (M.ret [])))) (mCons (mTup (mCons (M.ret .non) (M.ret []))) (M.ret [])))))))))))
  sNext))))) := by
  kernel_rfl
def lb__law_wrong_land_wish_1e (n : Nat) : M T := (M.map T.bl (mEq (tabX Pr53 (n + 1)).t.eqt false (M.map OT.fz (mCall 2 (srcF 2 [.p 0, .p 1] [] [] (runC (tabX Pr53 n).t c__law_draw)) (mCons (nmV 0) (mCons (M.ret (.int (3))) (M.ret []))))) (M.ret (.int (0)))))
def lb__law_wrong_land_wish_2e (n : Nat) : M T := (M.map OT.fz (mCall 2 (srcF 2 [.p 0, .p 1] [] [] (runC (tabX Pr53 n).t c__law_pick)) (mCons (nmV 0) (mCons (M.map OT.fz (mCall 2 (srcF 2 [.p 0, .p 1] [] [] (runC (tabX Pr53 n).t c__law_menu)) (mCons (nmV 2) (mCons (nmV 5) (M.ret []))))) (M.ret [])))))
def lb__law_wrong_land_wish_3c (n : Nat) : M Bool := (mTest (M.map OT.fz (mOpH ixH 4 (peek 12))))
def st__law_wrong_land_wish_1 (n : Nat) : Stm := (sPut 2 (mOp ixT (M.map OT.fz (mOpH ixH 1 (M.ret (.int (1))))) (M.ret (.int (0)))))
def st__law_wrong_land_wish_2 (n : Nat) : Stm := (sPut 3 (mLst (mCons (M.ret (.str "land")) (mCons (M.ret (.str "cells")) (mCons (M.ret (.str "counted")) (mCons (M.ret (.str "bars")) (M.ret [])))))))
def st__law_wrong_land_wish_3 (n : Nat) : Stm := (sPut 4 (mLc [5] (mItemsA (nmV 3)) (gNm 5) (M.ret true) (lb__law_wrong_land_wish_1e n)))
def st__law_wrong_land_wish_4 (n : Nat) : Stm := (sIf (mCmp notInT (M.ret (.bl true)) (peek 4)) (sSeq (sSubH 4 (M.map OT.fz (mCall 2 (srcF 2 [.p 0, .p 1] [] [] (runC (tabX Pr53 n).t c__law_draw)) (mCons (nmV 0) (mCons (M.ret (.int (4))) (M.ret []))))) (M.ret (.bl true)))
  sNext) sNext)
def st__law_wrong_land_wish_5 (n : Nat) : Stm := (sPut 6 (mLc [5] (mItemsA (nmV 3)) (gNm 5) (M.ret true) (lb__law_wrong_land_wish_2e n)))
def st__law_wrong_land_wish_6 (n : Nat) : Stm := (sPut 7 (mIf (mTest (M.map OT.fz (mOpH ixH 4 (M.ret (.int (0)))))) (mOpH ixH 6 (M.ret (.int (0)))) (mCall 1 (srcF 1 [.p 0] [] [] (runC (tabX Pr53 n).t c__law_ground)) (mCons (M.map OT.fz (mOpH ixH 1 (M.ret (.int (1))))) (M.ret [])))))
def st__law_wrong_land_wish_7 (n : Nat) : Stm := (sPut 8 (mIf (mTest (M.map OT.fz (mOpH ixH 4 (M.ret (.int (1)))))) (mOpH ixH 6 (M.ret (.int (1)))) (mUn listT (M.map OT.fz (mOpH ixH 1 (M.ret (.int (2))))))))
def st__law_wrong_land_wish_8 (n : Nat) : Stm := (sPut 9 (mIf (mTest (M.map OT.fz (mOpH ixH 4 (M.ret (.int (2)))))) (mOpH ixH 6 (M.ret (.int (2)))) (mCall 2 (srcF 2 [.p 0, .p 1] [] [] (runC (tabX Pr53 n).t c__law_sorts)) (mCons (nmV 0) (mCons (M.map OT.fz (mOpH ixH 1 (M.ret (.int (4))))) (M.ret []))))))
def st__law_wrong_land_wish_9 (n : Nat) : Stm := (sPut 10 (mIf (mTest (M.map OT.fz (mOpH ixH 4 (M.ret (.int (3)))))) (mOpH ixH 6 (M.ret (.int (3)))) (mUn listT (M.map OT.fz (mOpH ixH 1 (M.ret (.int (3))))))))
def st__law_wrong_land_wish_10 (n : Nat) : Stm := (sPut 11 (mOp ixT (M.map OT.fz (mLc [12, 5] (mEnum (nmV 3)) (gTp (gsCons (gNm 12) (gsCons (gNm 5) gsNil)) 2) (lb__law_wrong_land_wish_3c n) (nmV 5))) (M.ret (.int (0)))))
def st__law_wrong_land_wish_11 (n : Nat) : Stm := (sRet (M.map OT.v (M.map T.bl (mEq (tabX Pr53 (n + 1)).t.eqt false (M.map OT.fz (mLam "BadWish" "what" (mCallK 3 1 (mkFn "LandWish" (srcI 3 [.p 0, .p 1, .p 2, .k 0] [] [] (iniT (tabX Pr53 n) "LandWish" d_LandWish))) (mCons (nmV 7) (mCons (nmV 8) (mCons (nmV 9) (M.ret [])))) (mCons (nmV 10) (M.ret []))))) (nmV 11)))))
theorem mir__law_wrong_land_wish (n : Nat) : runC (tabX Pr53 (n + 1)).t c__law_wrong_land_wish = runS 13 (sSeq (st__law_wrong_land_wish_1 n) (sSeq (st__law_wrong_land_wish_2 n) (sSeq (st__law_wrong_land_wish_3 n) (sSeq (st__law_wrong_land_wish_4 n) (sSeq (st__law_wrong_land_wish_5 n) (sSeq (st__law_wrong_land_wish_6 n) (sSeq (st__law_wrong_land_wish_7 n) (sSeq (st__law_wrong_land_wish_8 n) (sSeq (st__law_wrong_land_wish_9 n) (sSeq (st__law_wrong_land_wish_10 n) (sSeq (st__law_wrong_land_wish_11 n) sNext))))))))))) := by
  kernel_rfl
def st__law_wrong_every_wish_1 (n : Nat) : Stm := (sPut 2 (mCall 2 (srcF 2 [.p 0, .p 1] [] [] (runC (tabX Pr53 n).t c__law_pick)) (mCons (nmV 0) (mCons (M.map OT.fz (mCall 2 (srcF 2 [.p 0, .p 1] [] [] (runC (tabX Pr53 n).t c__law_menu)) (mCons (M.ret (.int (2))) (mCons (M.ret (.str "sorts")) (M.ret []))))) (M.ret [])))))
def st__law_wrong_every_wish_2 (n : Nat) : Stm := (sPut 3 (mCall 2 (srcF 2 [.p 0, .p 1] [] [] (runC (tabX Pr53 n).t c__law_pick)) (mCons (nmV 0) (mCons (M.map OT.fz (mCall 2 (srcF 2 [.p 0, .p 1] [] [] (runC (tabX Pr53 n).t c__law_menu)) (mCons (M.ret (.int (2))) (mCons (M.ret (.str "counted")) (M.ret []))))) (M.ret [])))))
def st__law_wrong_every_wish_3 (n : Nat) : Stm := (sIf (mEq (tabX Pr53 (n + 1)).t.eqt true (M.map OT.fz (mLam "BadWish" "what" (mCall 2 (mkFn "EveryLandWish" (srcI 2 [.p 0, .p 1] [] [] (iniT (tabX Pr53 n) "EveryLandWish" d_EveryLandWish))) (mCons (nmV 2) (mCons (nmV 3) (M.ret [])))))) (M.ret (.str "sorts"))) (sSeq (sRet (M.map OT.v (M.ret (.bl false))))
  sNext) sNext)
def st__law_wrong_every_wish_4 (n : Nat) : Stm := (sIf (mEq (tabX Pr53 (n + 1)).t.eqt true (M.map OT.fz (mLam "BadWish" "what" (mCall 1 (mkFn "EveryLandWish" (srcI 1 [.p 0, .d 0] [T.non] [] (iniT (tabX Pr53 n) "EveryLandWish" d_EveryLandWish))) (mCons (nmV 2) (M.ret []))))) (M.ret (.str "sorts"))) (sSeq (sRet (M.map OT.v (M.ret (.bl false))))
  sNext) sNext)
def st__law_wrong_every_wish_5 (n : Nat) : Stm := (sRet (M.map OT.v (M.map T.bl (mEq (tabX Pr53 (n + 1)).t.eqt false (M.map OT.fz (mLam "BadWish" "what" (mCall 2 (mkFn "EveryLandWish" (srcI 2 [.p 0, .p 1] [] [] (iniT (tabX Pr53 n) "EveryLandWish" d_EveryLandWish))) (mCons (M.map OT.fz (mOpH ixH 1 (M.ret (.int (1))))) (mCons (nmV 3) (M.ret [])))))) (M.ret (.str "counted"))))))
theorem mir__law_wrong_every_wish (n : Nat) : runC (tabX Pr53 (n + 1)).t c__law_wrong_every_wish = runS 4 (sSeq (st__law_wrong_every_wish_1 n) (sSeq (st__law_wrong_every_wish_2 n) (sSeq (st__law_wrong_every_wish_3 n) (sSeq (st__law_wrong_every_wish_4 n) (sSeq (st__law_wrong_every_wish_5 n) sNext))))) := by
  kernel_rfl
def st__law_bare_1 (n : Nat) : Stm := (sPut 2 (mCall 1 (srcF 1 [.p 0] [] [] (runC (tabX Pr53 n).t c__law_ground)) (mCons (nmV 1) (M.ret []))))
def st__law_bare_2 (n : Nat) : Stm := (sIf (mEq (tabX Pr53 (n + 1)).t.eqt true (M.map OT.fz (mLam "BadWish" "what" (mCall 2 (mkFn "LandWish" (srcI 2 [.p 0, .p 1, .d 0, .m 0] [T.non] [(T.tup [])] (iniT (tabX Pr53 n) "LandWish" d_LandWish))) (mCons (nmV 2) (mCons (M.map OT.fz (mLst (M.ret []))) (M.ret [])))))) (M.ret (.str "empty"))) (sSeq (sRet (M.map OT.v (M.ret (.bl false))))
  sNext) sNext)
def st__law_bare_3 (n : Nat) : Stm := (sIf (mEq (tabX Pr53 (n + 1)).t.eqt true (M.map OT.fz (mLam "BadWish" "what" (mCallK 3 1 (mkFn "LandWish" (srcI 3 [.p 0, .p 1, .p 2, .k 0] [] [] (iniT (tabX Pr53 n) "LandWish" d_LandWish))) (mCons (nmV 2) (mCons (mTup (M.ret [])) (mCons (M.ret .non) (M.ret [])))) (mCons (mTup (M.ret [])) (M.ret []))))) (M.ret (.str "empty"))) (sSeq (sRet (M.map OT.v (M.ret (.bl false))))
  sNext) sNext)
def st__law_bare_4 (n : Nat) : Stm := (sPut 3 (mCall 2 (srcF 2 [.p 0, .p 1] [] [] (runC (tabX Pr53 n).t c__law_pick)) (mCons (nmV 0) (mCons (M.map OT.fz (mLst (mCons (M.map OT.fz (mLst (mCons (M.ret (.str "double")) (M.ret [])))) (mCons (mTup (mCons (M.ret (.str "needed")) (mCons (M.ret (.str "double")) (M.ret [])))) (M.ret []))))) (M.ret [])))))
def st__law_bare_5 (n : Nat) : Stm := (sPut 4 (mLam "BadWish" "what" (mCallK 2 1 (mkFn "LandWish" (srcI 2 [.p 0, .p 1, .d 0, .k 0] [T.non] [] (iniT (tabX Pr53 n) "LandWish" d_LandWish))) (mCons (nmV 2) (mCons (M.map OT.fz (mCall 2 (srcF 2 [.p 0, .p 1] [] [] (runC (tabX Pr53 n).t c__law_pick)) (mCons (nmV 0) (mCons (M.map OT.fz (mLst (mCons (M.map OT.fz (mLst (M.ret []))) (mCons (M.map OT.fz (mLst (mCons (M.ret (.int (0))) (M.ret [])))) (mCons (M.map OT.fz (mLst (mCons (M.ret (.int (1))) (mCons (M.ret (.int (0))) (M.ret []))))) (M.ret [])))))) (M.ret []))))) (M.ret []))) (mCons (nmV 3) (M.ret [])))))
def st__law_bare_6 (n : Nat) : Stm := (sRet (M.map OT.v (M.map T.bl (mEq (tabX Pr53 (n + 1)).t.eqt false (nmV 4) (mIf (mCmp (intB gtB) (M.map OT.fz (mOpH ixH 1 (M.ret (.int (0))))) (M.ret (.int (3)))) (M.ret (.str "wide")) (M.ret .non))))))
theorem mir__law_bare (n : Nat) : runC (tabX Pr53 (n + 1)).t c__law_bare = runS 5 (sSeq (st__law_bare_1 n) (sSeq (st__law_bare_2 n) (sSeq (st__law_bare_3 n) (sSeq (st__law_bare_4 n) (sSeq (st__law_bare_5 n) (sSeq (st__law_bare_6 n) sNext)))))) := by
  kernel_rfl
theorem mir__law_same_counts (n : Nat) : runC (tabX Pr53 (n + 1)).t c__law_same_counts = runS 2 (sSeq (sIf (mNot (mTest (M.map T.bl (mIsi Pr53.base.isi (.c "Counted") (peek 0))))) (sSeq (sRet (M.map OT.v (M.ret (.bl false))))
  sNext) sNext)
  (sSeq (sRet (M.map OT.v (M.map T.bl (mEq (tabX Pr53 (n + 1)).t.eqt false (mTup (mCons (mFld (Pr53.base.fld "grants") "grants" (peek 0)) (mCons (mFld (Pr53.base.fld "untold") "untold" (peek 0)) (mCons (mFld (Pr53.base.fld "giving_up") "giving_up" (peek 0)) (M.ret []))))) (nmV 1)))))
  sNext)) := by
  kernel_rfl
def lb__law_has_1c (n : Nat) : M Bool := (mCmpN inT 3 (M.map OT.fz (mOpH ixH 1 (M.ret (.int (1))))))
def lb__law_has_2c (n : Nat) : M Bool := (mCmpN inT 4 (M.map OT.fz (mOpH ixH 1 (M.ret (.int (3))))))
theorem mir__law_has (n : Nat) : runC (tabX Pr53 (n + 1)).t c__law_has = runS 5 (sSeq (sIf (mOr (mEq (tabX Pr53 (n + 1)).t.eqt true (M.map OT.fz (mMeth (fun C => ((tabX Pr53 (n + 1)).t.met "things" 0 C).map fun F => (0, F)) "things" (nmV 0) (M.ret []))) (M.map OT.fz (mUn tupleT (M.map OT.fz (mCall 1 (srcF 1 [.p 0] [] [] (runC (tabX Pr53 n).t c__law_things)) (mCons (nmV 1) (M.ret []))))))) (mNot (mTest (M.map T.bl (mIsi Pr53.base.isi (.c "Wish") (peek 0)))))) (sSeq (sRet (M.map OT.v (M.ret (.bl false))))
  sNext) sNext)
  (sSeq (sIf (mEq (tabX Pr53 (n + 1)).t.eqt false (M.map OT.fz (mOpH ixH 1 (M.ret (.int (0))))) (M.ret (.str "every"))) (sSeq (sPut 2 (mUn tupleT (M.map OT.fz (mLc [3] (mItemsA (M.map OT.fz (mLst (mCons (M.ret (.str "far")) (mCons (M.ret (.str "loose")) (mCons (M.ret (.str "bound")) (M.ret []))))))) (gNm 3) (lb__law_has_1c n) (nmV 3)))))
  (sSeq (sRet (M.map OT.v (mAndV (M.map T.bl (mIsi Pr53.base.isi (.c "EveryLandWish") (peek 0))) (mAndV (M.map T.bl (mEq (tabX Pr53 (n + 1)).t.eqt false (mFld (Pr53.base.fld "sorts") "sorts" (peek 0)) (nmV 2))) (M.map OT.fz (mCall 2 (srcF 2 [.p 0, .p 1] [] [] (runC (tabX Pr53 n).t c__law_same_counts)) (mCons (mFld (Pr53.base.fld "counted") "counted" (peek 0)) (mCons (M.map OT.fz (mOpH ixH 1 (M.ret (.int (2))))) (M.ret [])))))))))
  sNext)) sNext)
  (sSeq (sPut 2 (mUn tupleT (M.map OT.fz (mLc [4] (mItemsA (M.map OT.fz (mLst (mCons (M.ret (.str "double")) (mCons (M.ret (.str "needed")) (M.ret [])))))) (gNm 4) (lb__law_has_2c n) (nmV 4)))))
  (sSeq (sIf (mOr (mNot (mTest (M.map T.bl (mIsi Pr53.base.isi (.c "LandWish") (peek 0))))) (mOr (mEq (tabX Pr53 (n + 1)).t.eqt true (mFld (Pr53.base.fld "land") "land" (peek 0)) (M.map OT.fz (mCall 1 (srcF 1 [.p 0] [] [] (runC (tabX Pr53 n).t c__law_ground)) (mCons (M.map OT.fz (mOpH ixH 1 (M.ret (.int (1))))) (M.ret []))))) (mEq (tabX Pr53 (n + 1)).t.eqt true (mFld (Pr53.base.fld "bars") "bars" (peek 0)) (nmV 2)))) (sSeq (sRet (M.map OT.v (M.ret (.bl false))))
  sNext) sNext)
  (sSeq (sRet (M.map OT.v (mAndV (M.map T.bl (mEq (tabX Pr53 (n + 1)).t.eqt false (mFld (Pr53.base.fld "cells") "cells" (peek 0)) (M.map OT.fz (mUn tupleT (M.map OT.fz (mUn sortT (M.map OT.fz (mOpH ixH 1 (M.ret (.int (2))))))))))) (M.map OT.fz (mCall 2 (srcF 2 [.p 0, .p 1] [] [] (runC (tabX Pr53 n).t c__law_same_counts)) (mCons (mFld (Pr53.base.fld "counted") "counted" (peek 0)) (mCons (M.map OT.fz (mOpH ixH 1 (M.ret (.int (4))))) (M.ret []))))))))
  sNext))))) := by
  kernel_rfl
def lb__law_unlike_1c (n : Nat) : M Bool := (mCmpN notInT 6 (M.map OT.fz (mOpH ixH 4 (M.ret (.int (2))))))
def lb__law_unlike_2c (n : Nat) : M Bool := (mCmpN notInT 6 (M.map OT.fz (mOpH ixH 1 (M.ret (.int (2))))))
theorem mir__law_unlike (n : Nat) : runC (tabX Pr53 (n + 1)).t c__law_unlike = runS 9 (sSeq (sIf (mEq (tabX Pr53 (n + 1)).t.eqt false (M.map OT.fz (mOpH ixH 1 (M.ret (.int (0))))) (M.ret (.str "every"))) (sSeq (sIf (mEq (tabX Pr53 (n + 1)).t.eqt false (M.map OT.fz (mCall 2 (srcF 2 [.p 0, .p 1] [] [] (runC (tabX Pr53 n).t c__law_draw)) (mCons (nmV 0) (mCons (M.ret (.int (2))) (M.ret []))))) (M.ret (.int (0)))) (sSeq (sRet (M.map OT.v (mTup (mCons (M.ret (.str "every")) (mCons (M.map OT.fz (mOpH ixH 1 (M.ret (.int (1))))) (mCons (mTup (mCons (M.map OT.fz (mOp ixT (M.map OT.fz (mOpH ixH 1 (M.ret (.int (2))))) (M.ret (.int (0))))) (mCons (mNotV (M.map OT.fz (mOp ixT (M.map OT.fz (mOpH ixH 1 (M.ret (.int (2))))) (M.ret (.int (1)))))) (mCons (M.map OT.fz (mOp ixT (M.map OT.fz (mOpH ixH 1 (M.ret (.int (2))))) (M.ret (.int (2))))) (M.ret []))))) (M.ret [])))))))
  sNext) sNext)
  (sSeq (sPut 2 (mIf (mCmp notInT (M.ret (.str "loose")) (M.map OT.fz (mOpH ixH 1 (M.ret (.int (1)))))) (mLst (mCons (M.ret (.str "loose")) (M.ret []))) (mIf (mCmp (intB ltB) (M.map OT.fz (mUn lenT (M.map OT.fz (mOpH ixH 1 (M.ret (.int (1))))))) (M.ret (.int (3)))) (mLst (mCons (M.ret (.str "far")) (mCons (M.ret (.str "bound")) (mCons (M.ret (.str "loose")) (M.ret []))))) (mLst (mCons (M.ret (.str "bound")) (M.ret []))))))
  (sSeq (sRet (M.map OT.v (mTup (mCons (M.ret (.str "every")) (mCons (nmV 2) (mCons (M.map OT.fz (mOpH ixH 1 (M.ret (.int (2))))) (M.ret [])))))))
  sNext))) sNext)
  (sSeq (sPut 3 (mCall 2 (srcF 2 [.p 0, .p 1] [] [] (runC (tabX Pr53 n).t c__law_draw)) (mCons (nmV 0) (mCons (M.ret (.int (4))) (M.ret [])))))
  (sSeq (sIf (mEq (tabX Pr53 (n + 1)).t.eqt false (nmV 3) (M.ret (.int (0)))) (sSeq (sPut 4 (mOpH ixH 1 (M.ret (.int (1)))))
  (sSeq (sPut 5 (mLc [6] (mRng rng1 (mCons (M.map OT.fz (mOpH ixH 4 (M.ret (.int (0))))) (M.ret []))) (gNm 6) (lb__law_unlike_1c n) (nmV 6)))
  (sSeq (sRet (M.map OT.v (mTup (mCons (M.ret (.str "land")) (mCons (mTup (mCons (M.map OT.fz (mOpH ixH 4 (M.ret (.int (0))))) (mCons (M.map OT.fz (mOpH ixH 4 (M.ret (.int (1))))) (mCons (nmV 5) (M.ret []))))) (mCons (M.map OT.fz (mOpH ixH 1 (M.ret (.int (2))))) (mCons (M.map OT.fz (mOpH ixH 1 (M.ret (.int (3))))) (mCons (M.map OT.fz (mOpH ixH 1 (M.ret (.int (4))))) (M.ret [])))))))))
  sNext))) sNext)
  (sSeq (sIf (mEq (tabX Pr53 (n + 1)).t.eqt false (nmV 3) (M.ret (.int (1)))) (sSeq (sPut 7 (mLc [6] (mRng rng1 (mCons (M.map OT.fz (mOp ixT (M.map OT.fz (mOpH ixH 1 (M.ret (.int (1))))) (M.ret (.int (0))))) (M.ret []))) (gNm 6) (lb__law_unlike_2c n) (nmV 6)))
  (sSeq (sRet (M.map OT.v (mTup (mCons (M.ret (.str "land")) (mCons (M.map OT.fz (mOpH ixH 1 (M.ret (.int (1))))) (mCons (mIf (mEq (tabX Pr53 (n + 1)).t.eqt true (nmV 7) (M.map OT.fz (mLst (M.ret [])))) (M.map OT.fz (mOpN addT 7 (M.map OT.fz (mSl (M.map OT.fz (mOpH ixH 1 (M.ret (.int (2))))) (M.ret none) (mPart (M.ret (.int (1)))))))) (M.map OT.fz (mSl (M.map OT.fz (mOpH ixH 1 (M.ret (.int (2))))) (M.ret none) (mPart (M.ret (.int (1))))))) (mCons (M.map OT.fz (mOpH ixH 1 (M.ret (.int (3))))) (mCons (M.map OT.fz (mOpH ixH 1 (M.ret (.int (4))))) (M.ret [])))))))))
  sNext)) sNext)
  (sSeq (sIf (mEq (tabX Pr53 (n + 1)).t.eqt false (nmV 3) (M.ret (.int (2)))) (sSeq (sPut 8 (mIf (mCmp notInT (M.ret (.str "needed")) (M.map OT.fz (mOpH ixH 1 (M.ret (.int (3)))))) (mLst (mCons (M.ret (.str "needed")) (M.ret []))) (mLst (M.ret []))))
  (sSeq (sRet (M.map OT.v (mTup (mCons (M.ret (.str "land")) (mCons (M.map OT.fz (mOpH ixH 1 (M.ret (.int (1))))) (mCons (mIf (mOr (mEq (tabX Pr53 (n + 1)).t.eqt true (nmV 8) (M.map OT.fz (mLst (M.ret [])))) (mEq (tabX Pr53 (n + 1)).t.eqt true (M.map OT.fz (mOpH ixH 1 (M.ret (.int (2))))) (M.map OT.fz (mLst (M.ret []))))) (M.map OT.fz (mOpH ixH 1 (M.ret (.int (2))))) (M.map OT.fz (mLst (mCons (M.ret (.int (0))) (M.ret []))))) (mCons (nmV 8) (mCons (M.map OT.fz (mOpH ixH 1 (M.ret (.int (4))))) (M.ret [])))))))))
  sNext)) sNext)
  (sSeq (sRet (M.map OT.v (mTup (mCons (M.ret (.str "land")) (mCons (M.map OT.fz (mOpH ixH 1 (M.ret (.int (1))))) (mCons (M.map OT.fz (mOpH ixH 1 (M.ret (.int (2))))) (mCons (M.map OT.fz (mOpH ixH 1 (M.ret (.int (3))))) (mCons (mTup (mCons (mNotV (M.map OT.fz (mOp ixT (M.map OT.fz (mOpH ixH 1 (M.ret (.int (4))))) (M.ret (.int (0)))))) (mCons (M.map OT.fz (mOp ixT (M.map OT.fz (mOpH ixH 1 (M.ret (.int (4))))) (M.ret (.int (1))))) (mCons (M.map OT.fz (mOp ixT (M.map OT.fz (mOpH ixH 1 (M.ret (.int (4))))) (M.ret (.int (2))))) (M.ret []))))) (M.ret [])))))))))
  sNext)))))) := by
  kernel_rfl
theorem mir_Wish_things (n : Nat) : runC (tabX Pr53 (n + 1)).t c_Wish_things = runS 1 (sSeq (sRet (M.map OT.v (mTup (M.ret []))))
  sNext) := by
  kernel_rfl
def lb_LandWish_things_1e (n : Nat) : M T := (mTup (mCons (M.ret (.str "shut")) (mCons (mTup (mCons (nmV 3) (M.ret []))) (M.ret []))))
def lb_LandWish_things_2d (n : Nat) : M Bool := (mCmpN (intB ltB) 4 (peek 5))
def lb_LandWish_things_2e (n : Nat) : M T := (mTup (mCons (M.ret (.str "double")) (mCons (mTup (mCons (nmV 4) (mCons (nmV 5) (M.ret [])))) (M.ret []))))
def lb_LandWish_things_3e (n : Nat) : M T := (mTup (mCons (M.ret (.str "needed")) (mCons (mTup (mCons (nmV 3) (M.ret []))) (M.ret []))))
theorem mir_LandWish_things (n : Nat) : runC (tabX Pr53 (n + 1)).t c_LandWish_things = runS 6 (sSeq (sPut 1 (mUn rng1T (mFld (Pr53.base.fld "cells") "cells" (mFld (Pr53.base.fld "land") "land" (peek 0)))))
  (sSeq (sPut 2 (mLc [3] (mItemsA (mFld (Pr53.base.fld "cells") "cells" (peek 0))) (gNm 3) (M.ret true) (lb_LandWish_things_1e n)))
  (sSeq (sIf (mCmp inT (M.ret (.str "double")) (mFld (Pr53.base.fld "bars") "bars" (peek 0))) (sSeq (sDrop (mMut 2 opExtend (mCons (M.map OT.fz (mLc2 [4, 5] [5] (mItemsA (nmV 1)) (gNm 4) (M.ret true) (mItemsA (nmV 1)) (gNm 5) (lb_LandWish_things_2d n) (lb_LandWish_things_2e n))) (M.ret []))))
  sNext) sNext)
  (sSeq (sIf (mCmp inT (M.ret (.str "needed")) (mFld (Pr53.base.fld "bars") "bars" (peek 0))) (sSeq (sDrop (mMut 2 opExtend (mCons (M.map OT.fz (mLc [3] (mItemsA (nmV 1)) (gNm 3) (M.ret true) (lb_LandWish_things_3e n))) (M.ret []))))
  sNext) sNext)
  (sSeq (sRet (mUn tupleT (peek 2)))
  sNext))))) := by
  kernel_rfl
def lb_EveryLandWish_things_1e (n : Nat) : M T := (mTup (mCons (nmV 1) (mCons (mTup (M.ret [])) (M.ret []))))
theorem mir_EveryLandWish_things (n : Nat) : runC (tabX Pr53 (n + 1)).t c_EveryLandWish_things = runS 2 (sSeq (sRet (mUn tupleT (M.map OT.fz (mLc [1] (mItemsA (mFld (Pr53.base.fld "sorts") "sorts" (peek 0))) (gNm 1) (M.ret true) (lb_EveryLandWish_things_1e n)))))
  sNext) := by
  kernel_rfl
theorem mir_Land___eq__ (n : Nat) : runC (tabX Pr53 (n + 1)).t c_Land___eq__ = runS 2 (sSeq (sRet (M.map OT.v (mAndV (M.map T.bl (mIsi Pr53.base.isi (.c "Land") (peek 1))) (mAndV (M.map T.bl (mEq (tabX Pr53 (n + 1)).t.eqt false (mFld (Pr53.base.fld "cells") "cells" (peek 0)) (mFld (Pr53.base.fld "cells") "cells" (peek 1)))) (mAndV (M.map T.bl (mEq (tabX Pr53 (n + 1)).t.eqt false (mFld (Pr53.base.fld "neighbours") "neighbours" (peek 0)) (mFld (Pr53.base.fld "neighbours") "neighbours" (peek 1)))) (M.map T.bl (mEq (tabX Pr53 (n + 1)).t.eqt false (mFld (Pr53.base.fld "roads") "roads" (peek 0)) (mFld (Pr53.base.fld "roads") "roads" (peek 1)))))))))
  sNext) := by
  kernel_rfl
theorem mir_Counted___eq__ (n : Nat) : runC (tabX Pr53 (n + 1)).t c_Counted___eq__ = runS 2 (sSeq (sRet (M.map OT.v (mAndV (M.map T.bl (mIsi Pr53.base.isi (.c "Counted") (peek 1))) (mAndV (M.map T.bl (mEq (tabX Pr53 (n + 1)).t.eqt false (mFld (Pr53.base.fld "grants") "grants" (peek 0)) (mFld (Pr53.base.fld "grants") "grants" (peek 1)))) (mAndV (M.map T.bl (mEq (tabX Pr53 (n + 1)).t.eqt false (mFld (Pr53.base.fld "untold") "untold" (peek 0)) (mFld (Pr53.base.fld "untold") "untold" (peek 1)))) (M.map T.bl (mEq (tabX Pr53 (n + 1)).t.eqt false (mFld (Pr53.base.fld "giving_up") "giving_up" (peek 0)) (mFld (Pr53.base.fld "giving_up") "giving_up" (peek 1)))))))))
  sNext) := by
  kernel_rfl
theorem mir_Wish___eq__ (n : Nat) : runC (tabX Pr53 (n + 1)).t c_Wish___eq__ = runS 2 (sSeq (sRet (M.map OT.v (mAndV (M.map T.bl (mIsi Pr53.base.isi (.c "Wish") (peek 1))) (M.map T.bl (mEq (tabX Pr53 (n + 1)).t.eqt false (mFld (Pr53.base.fld "counted") "counted" (peek 0)) (mFld (Pr53.base.fld "counted") "counted" (peek 1)))))))
  sNext) := by
  kernel_rfl
theorem mir_LandWish___eq__ (n : Nat) : runC (tabX Pr53 (n + 1)).t c_LandWish___eq__ = runS 2 (sSeq (sRet (M.map OT.v (mAndV (M.map T.bl (mIsi Pr53.base.isi (.c "LandWish") (peek 1))) (mAndV (M.map T.bl (mEq (tabX Pr53 (n + 1)).t.eqt false (mFld (Pr53.base.fld "counted") "counted" (peek 0)) (mFld (Pr53.base.fld "counted") "counted" (peek 1)))) (mAndV (M.map T.bl (mEq (tabX Pr53 (n + 1)).t.eqt false (mFld (Pr53.base.fld "land") "land" (peek 0)) (mFld (Pr53.base.fld "land") "land" (peek 1)))) (mAndV (M.map T.bl (mEq (tabX Pr53 (n + 1)).t.eqt false (mFld (Pr53.base.fld "cells") "cells" (peek 0)) (mFld (Pr53.base.fld "cells") "cells" (peek 1)))) (M.map T.bl (mEq (tabX Pr53 (n + 1)).t.eqt false (mFld (Pr53.base.fld "bars") "bars" (peek 0)) (mFld (Pr53.base.fld "bars") "bars" (peek 1))))))))))
  sNext) := by
  kernel_rfl
theorem mir_EveryLandWish___eq__ (n : Nat) : runC (tabX Pr53 (n + 1)).t c_EveryLandWish___eq__ = runS 2 (sSeq (sRet (M.map OT.v (mAndV (M.map T.bl (mIsi Pr53.base.isi (.c "EveryLandWish") (peek 1))) (mAndV (M.map T.bl (mEq (tabX Pr53 (n + 1)).t.eqt false (mFld (Pr53.base.fld "counted") "counted" (peek 0)) (mFld (Pr53.base.fld "counted") "counted" (peek 1)))) (M.map T.bl (mEq (tabX Pr53 (n + 1)).t.eqt false (mFld (Pr53.base.fld "sorts") "sorts" (peek 0)) (mFld (Pr53.base.fld "sorts") "sorts" (peek 1))))))))
  sNext) := by
  kernel_rfl
theorem ini_Land (n : Nat) : iniT (tabX Pr53 (n + 1)) "Land" d_Land = runI 5 "Land" (sSeq (sIf (mNot (mTest (M.map OT.fz (mCall 3 (srcF 3 [.p 0, .p 1, .p 2] [] [] (runC (tabX Pr53 n).t c_is_whole)) (mCons (nmV 1) (mCons (M.ret (.int (2))) (mCons (M.ret (T.int (5))) (M.ret [])))))))) (sSeq (sRaise "BadLand" 1 [("what", 0)] (mCons (M.ret (.str "cells")) (M.ret [])))
  sNext) sNext)
  (sSeq (sPut 4 (mCall 2 (srcF 2 [.p 0, .p 1] [] [] (runC (tabX Pr53 n).t c_neighbour_rows)) (mCons (nmV 1) (mCons (nmV 2) (M.ret [])))))
  (sSeq (sIf (mCmpN isNoneT 4 (M.ret .non)) (sSeq (sRaise "BadLand" 1 [("what", 0)] (mCons (M.ret (.str "neighbours")) (M.ret [])))
  sNext) sNext)
  (sSeq (sIf (mOr (mNot (mTest (M.map OT.fz (mCall 3 (srcF 3 [.p 0, .p 1, .p 2] [] [] (runC (tabX Pr53 n).t c_are_cells)) (mCons (nmV 1) (mCons (nmV 3) (mCons (M.ret (.int (1))) (M.ret [])))))))) (mEq (tabX Pr53 (n + 1)).t.eqt false (M.map OT.fz (mUn lenT (peek 3))) (nmV 1))) (sSeq (sRaise "BadLand" 1 [("what", 0)] (mCons (M.ret (.str "roads")) (M.ret [])))
  sNext) sNext)
  (sSeq (sIf (mNot (mTest (M.map OT.fz (mCall 2 (srcF 2 [.p 0, .p 1] [] [] (runC (tabX Pr53 n).t c_hangs_together)) (mCons (nmV 1) (mCons (nmV 4) (M.ret []))))))) (sSeq (sRaise "BadLand" 1 [("what", 0)] (mCons (M.ret (.str "whole")) (M.ret [])))
  sNext) sNext)
  (sSeq (sFldI (Pr53.base.fld "cells") 0 "cells" (nmV 1))
  (sSeq (sFldI (Pr53.base.fld "neighbours") 0 "neighbours" (nmV 4))
  (sSeq (sFldI (Pr53.base.fld "roads") 0 "roads" (M.map OT.fz (mUn tupleT (M.map OT.fz (mUn sortT (peek 3))))))
  sNext)))))))) := by
  kernel_rfl
theorem ini_Counted (n : Nat) : iniT (tabX Pr53 (n + 1)) "Counted" d_Counted = runI 4 "Counted" (sSeq (sIf (mNot (mTest (M.map T.bl (mIsi Pr53.base.isi (.b "bool") (peek 1))))) (sSeq (sRaise "BadCounted" 1 [("what", 0)] (mCons (M.ret (.str "grants")) (M.ret [])))
  sNext) sNext)
  (sSeq (sIf (mNot (mTest (M.map T.bl (mIsi Pr53.base.isi (.b "bool") (peek 2))))) (sSeq (sRaise "BadCounted" 1 [("what", 0)] (mCons (M.ret (.str "untold")) (M.ret [])))
  sNext) sNext)
  (sSeq (sIf (mNot (mTest (M.map T.bl (mIsi Pr53.base.isi (.b "bool") (peek 3))))) (sSeq (sRaise "BadCounted" 1 [("what", 0)] (mCons (M.ret (.str "giving up")) (M.ret [])))
  sNext) sNext)
  (sSeq (sFldI (Pr53.base.fld "grants") 0 "grants" (nmV 1))
  (sSeq (sFldI (Pr53.base.fld "untold") 0 "untold" (nmV 2))
  (sSeq (sFldI (Pr53.base.fld "giving_up") 0 "giving_up" (nmV 3))
  sNext)))))) := by
  kernel_rfl
theorem ini_Wish (n : Nat) : iniT (tabX Pr53 (n + 1)) "Wish" d_Wish = runI 2 "Wish" (sSeq (sIf (mAnd (mCmpN isNotNoneT 1 (M.ret .non)) (mNot (mTest (M.map T.bl (mIsi Pr53.base.isi (.c "Counted") (peek 1)))))) (sSeq (sRaise "BadWish" 1 [("what", 0)] (mCons (M.ret (.str "counted")) (M.ret [])))
  sNext) sNext)
  (sSeq (sFldI (Pr53.base.fld "counted") 0 "counted" (mIf (mCmpN isNoneT 1 (M.ret .non)) (M.map OT.fz (mCall 0 (mkFn "Counted" (srcI 0 [.d 0, .d 1, .d 2] [(T.bl true), (T.bl true), (T.bl false)] [] (iniT (tabX Pr53 n) "Counted" d_Counted))) (M.ret []))) (nmV 1)))
  sNext)) := by
  kernel_rfl
theorem ini_LandWish (n : Nat) : iniT (tabX Pr53 (n + 1)) "LandWish" d_LandWish = runI 6 "LandWish" (sSeq (sIf (mNot (mTest (M.map T.bl (mIsi Pr53.base.isi (.c "Land") (peek 1))))) (sSeq (sRaise "BadWish" 1 [("what", 0)] (mCons (M.ret (.str "land")) (M.ret [])))
  sNext) sNext)
  (sSeq (sIf (mNot (mTest (M.map OT.fz (mCall 3 (srcF 3 [.p 0, .p 1, .p 2] [] [] (runC (tabX Pr53 n).t c_is_lot)) (mCons (nmV 1) (mCons (nmV 2) (mCons (M.ret (.int (0))) (M.ret [])))))))) (sSeq (sRaise "BadWish" 1 [("what", 0)] (mCons (M.ret (.str "cells")) (M.ret [])))
  sNext) sNext)
  (sSeq (sSup ((tabX Pr53 (n + 1)).sup "LandWish") (mCons (nmV 3) (M.ret [])))
  (sSeq (sIf (mNot (mTest (M.map OT.fz (mCall 3 (srcF 3 [.p 0, .p 1, .p 2] [] [] (runC (tabX Pr53 n).t c_are_unlike_words)) (mCons (nmV 4) (mCons (M.ret (T.tup [(T.str "double"), (T.str "needed")])) (mCons (M.ret (.int (0))) (M.ret [])))))))) (sSeq (sRaise "BadWish" 1 [("what", 0)] (mCons (M.ret (.str "bars")) (M.ret [])))
  sNext) sNext)
  (sSeq (sIf (mAnd (mEq (tabX Pr53 (n + 1)).t.eqt false (M.map OT.fz (mUn lenT (peek 2))) (M.ret (.int (0)))) (mEq (tabX Pr53 (n + 1)).t.eqt false (M.map OT.fz (mUn lenT (peek 4))) (M.ret (.int (0))))) (sSeq (sRaise "BadWish" 1 [("what", 0)] (mCons (M.ret (.str "empty")) (M.ret [])))
  sNext) sNext)
  (sSeq (sIf (mAnd (mCmp inT (M.ret (.str "double")) (peek 4)) (mCmp (intB gtB) (mFld (Pr53.base.fld "cells") "cells" (peek 1)) (M.ret (T.int (3))))) (sSeq (sRaise "BadWish" 1 [("what", 0)] (mCons (M.ret (.str "wide")) (M.ret [])))
  sNext) sNext)
  (sSeq (sFldI (Pr53.base.fld "land") 0 "land" (nmV 1))
  (sSeq (sFldI (Pr53.base.fld "cells") 0 "cells" (M.map OT.fz (mUn tupleT (M.map OT.fz (mUn sortT (peek 2))))))
  (sSeq (sFldI (Pr53.base.fld "bars") 0 "bars" (M.map OT.fz (mUn tupleT (M.map OT.fz (mLc [5] (mItemsA (M.ret (T.tup [(T.str "double"), (T.str "needed")]))) (gNm 5) (mCmpN inT 5 (peek 4)) (nmV 5))))))
  sNext))))))))) := by
  kernel_rfl
theorem ini_EveryLandWish (n : Nat) : iniT (tabX Pr53 (n + 1)) "EveryLandWish" d_EveryLandWish = runI 4 "EveryLandWish" (sSeq (sIf (mNot (mTest (M.map OT.fz (mCall 3 (srcF 3 [.p 0, .p 1, .p 2] [] [] (runC (tabX Pr53 n).t c_are_unlike_words)) (mCons (nmV 1) (mCons (M.ret (T.tup [(T.str "far"), (T.str "loose"), (T.str "bound")])) (mCons (M.ret (.int (1))) (M.ret [])))))))) (sSeq (sRaise "BadWish" 1 [("what", 0)] (mCons (M.ret (.str "sorts")) (M.ret [])))
  sNext) sNext)
  (sSeq (sSup ((tabX Pr53 (n + 1)).sup "EveryLandWish") (mCons (nmV 2) (M.ret [])))
  (sSeq (sFldI (Pr53.base.fld "sorts") 0 "sorts" (M.map OT.fz (mUn tupleT (M.map OT.fz (mLc [3] (mItemsA (M.ret (T.tup [(T.str "far"), (T.str "loose"), (T.str "bound")]))) (gNm 3) (mCmpN inT 3 (peek 1)) (nmV 3))))))
  sNext))) := by
  kernel_rfl
end K53
end TL
namespace TL
open PySem PySem.Spec PyProof.Rows L2
namespace K53
@[simp] theorem fld_Land_cells : Pr53.base.fld "cells" "Land" = true := by kernel_rfl
@[simp] theorem fld_Land_neighbours : Pr53.base.fld "neighbours" "Land" = true := by kernel_rfl
@[simp] theorem fld_Land_roads : Pr53.base.fld "roads" "Land" = true := by kernel_rfl
@[simp] theorem fld_Counted_grants : Pr53.base.fld "grants" "Counted" = true := by kernel_rfl
@[simp] theorem fld_Counted_untold : Pr53.base.fld "untold" "Counted" = true := by kernel_rfl
@[simp] theorem fld_Counted_giving_up : Pr53.base.fld "giving_up" "Counted" = true := by kernel_rfl
@[simp] theorem fld_Wish_counted : Pr53.base.fld "counted" "Wish" = true := by kernel_rfl
@[simp] theorem fld_LandWish_counted : Pr53.base.fld "counted" "LandWish" = true := by kernel_rfl
@[simp] theorem fld_LandWish_land : Pr53.base.fld "land" "LandWish" = true := by kernel_rfl
@[simp] theorem fld_LandWish_cells : Pr53.base.fld "cells" "LandWish" = true := by kernel_rfl
@[simp] theorem fld_LandWish_bars : Pr53.base.fld "bars" "LandWish" = true := by kernel_rfl
@[simp] theorem fld_EveryLandWish_counted : Pr53.base.fld "counted" "EveryLandWish" = true := by kernel_rfl
@[simp] theorem fld_EveryLandWish_sorts : Pr53.base.fld "sorts" "EveryLandWish" = true := by kernel_rfl
@[simp] theorem isi_Land_non : isiT Pr53.base.isi (.c "Land") .non = some false := by kernel_rfl
@[simp] theorem isi_Land_bl (b : Bool) : isiT Pr53.base.isi (.c "Land") (.bl b) = some false := by kernel_rfl
@[simp] theorem isi_Land_int (i : Int) : isiT Pr53.base.isi (.c "Land") (.int i) = some false := by kernel_rfl
@[simp] theorem isi_Land_str (s : Str) : isiT Pr53.base.isi (.c "Land") (.str s) = some false := by kernel_rfl
@[simp] theorem isi_Land_tup (xs : List T) : isiT Pr53.base.isi (.c "Land") (.tup xs) = some false := by kernel_rfl
@[simp] theorem isi_Land_lst (xs : List T) : isiT Pr53.base.isi (.c "Land") (.lst xs) = some false := by kernel_rfl
@[simp] theorem isi_Land_Land (fs : List (Str × T)) : isiT Pr53.base.isi (.c "Land") (.ins "Land" fs) = some true := by kernel_rfl
@[simp] theorem isi_Land_Counted (fs : List (Str × T)) : isiT Pr53.base.isi (.c "Land") (.ins "Counted" fs) = some false := by kernel_rfl
@[simp] theorem isi_Land_Wish (fs : List (Str × T)) : isiT Pr53.base.isi (.c "Land") (.ins "Wish" fs) = some false := by kernel_rfl
@[simp] theorem isi_Land_LandWish (fs : List (Str × T)) : isiT Pr53.base.isi (.c "Land") (.ins "LandWish" fs) = some false := by kernel_rfl
@[simp] theorem isi_Land_EveryLandWish (fs : List (Str × T)) : isiT Pr53.base.isi (.c "Land") (.ins "EveryLandWish" fs) = some false := by kernel_rfl
@[simp] theorem isi_Counted_non : isiT Pr53.base.isi (.c "Counted") .non = some false := by kernel_rfl
@[simp] theorem isi_Counted_bl (b : Bool) : isiT Pr53.base.isi (.c "Counted") (.bl b) = some false := by kernel_rfl
@[simp] theorem isi_Counted_int (i : Int) : isiT Pr53.base.isi (.c "Counted") (.int i) = some false := by kernel_rfl
@[simp] theorem isi_Counted_str (s : Str) : isiT Pr53.base.isi (.c "Counted") (.str s) = some false := by kernel_rfl
@[simp] theorem isi_Counted_tup (xs : List T) : isiT Pr53.base.isi (.c "Counted") (.tup xs) = some false := by kernel_rfl
@[simp] theorem isi_Counted_lst (xs : List T) : isiT Pr53.base.isi (.c "Counted") (.lst xs) = some false := by kernel_rfl
@[simp] theorem isi_Counted_Land (fs : List (Str × T)) : isiT Pr53.base.isi (.c "Counted") (.ins "Land" fs) = some false := by kernel_rfl
@[simp] theorem isi_Counted_Counted (fs : List (Str × T)) : isiT Pr53.base.isi (.c "Counted") (.ins "Counted" fs) = some true := by kernel_rfl
@[simp] theorem isi_Counted_Wish (fs : List (Str × T)) : isiT Pr53.base.isi (.c "Counted") (.ins "Wish" fs) = some false := by kernel_rfl
@[simp] theorem isi_Counted_LandWish (fs : List (Str × T)) : isiT Pr53.base.isi (.c "Counted") (.ins "LandWish" fs) = some false := by kernel_rfl
@[simp] theorem isi_Counted_EveryLandWish (fs : List (Str × T)) : isiT Pr53.base.isi (.c "Counted") (.ins "EveryLandWish" fs) = some false := by kernel_rfl
@[simp] theorem isi_Wish_non : isiT Pr53.base.isi (.c "Wish") .non = some false := by kernel_rfl
@[simp] theorem isi_Wish_bl (b : Bool) : isiT Pr53.base.isi (.c "Wish") (.bl b) = some false := by kernel_rfl
@[simp] theorem isi_Wish_int (i : Int) : isiT Pr53.base.isi (.c "Wish") (.int i) = some false := by kernel_rfl
@[simp] theorem isi_Wish_str (s : Str) : isiT Pr53.base.isi (.c "Wish") (.str s) = some false := by kernel_rfl
@[simp] theorem isi_Wish_tup (xs : List T) : isiT Pr53.base.isi (.c "Wish") (.tup xs) = some false := by kernel_rfl
@[simp] theorem isi_Wish_lst (xs : List T) : isiT Pr53.base.isi (.c "Wish") (.lst xs) = some false := by kernel_rfl
@[simp] theorem isi_Wish_Land (fs : List (Str × T)) : isiT Pr53.base.isi (.c "Wish") (.ins "Land" fs) = some false := by kernel_rfl
@[simp] theorem isi_Wish_Counted (fs : List (Str × T)) : isiT Pr53.base.isi (.c "Wish") (.ins "Counted" fs) = some false := by kernel_rfl
@[simp] theorem isi_Wish_Wish (fs : List (Str × T)) : isiT Pr53.base.isi (.c "Wish") (.ins "Wish" fs) = some true := by kernel_rfl
@[simp] theorem isi_Wish_LandWish (fs : List (Str × T)) : isiT Pr53.base.isi (.c "Wish") (.ins "LandWish" fs) = some true := by kernel_rfl
@[simp] theorem isi_Wish_EveryLandWish (fs : List (Str × T)) : isiT Pr53.base.isi (.c "Wish") (.ins "EveryLandWish" fs) = some true := by kernel_rfl
@[simp] theorem isi_LandWish_non : isiT Pr53.base.isi (.c "LandWish") .non = some false := by kernel_rfl
@[simp] theorem isi_LandWish_bl (b : Bool) : isiT Pr53.base.isi (.c "LandWish") (.bl b) = some false := by kernel_rfl
@[simp] theorem isi_LandWish_int (i : Int) : isiT Pr53.base.isi (.c "LandWish") (.int i) = some false := by kernel_rfl
@[simp] theorem isi_LandWish_str (s : Str) : isiT Pr53.base.isi (.c "LandWish") (.str s) = some false := by kernel_rfl
@[simp] theorem isi_LandWish_tup (xs : List T) : isiT Pr53.base.isi (.c "LandWish") (.tup xs) = some false := by kernel_rfl
@[simp] theorem isi_LandWish_lst (xs : List T) : isiT Pr53.base.isi (.c "LandWish") (.lst xs) = some false := by kernel_rfl
@[simp] theorem isi_LandWish_Land (fs : List (Str × T)) : isiT Pr53.base.isi (.c "LandWish") (.ins "Land" fs) = some false := by kernel_rfl
@[simp] theorem isi_LandWish_Counted (fs : List (Str × T)) : isiT Pr53.base.isi (.c "LandWish") (.ins "Counted" fs) = some false := by kernel_rfl
@[simp] theorem isi_LandWish_Wish (fs : List (Str × T)) : isiT Pr53.base.isi (.c "LandWish") (.ins "Wish" fs) = some false := by kernel_rfl
@[simp] theorem isi_LandWish_LandWish (fs : List (Str × T)) : isiT Pr53.base.isi (.c "LandWish") (.ins "LandWish" fs) = some true := by kernel_rfl
@[simp] theorem isi_LandWish_EveryLandWish (fs : List (Str × T)) : isiT Pr53.base.isi (.c "LandWish") (.ins "EveryLandWish" fs) = some false := by kernel_rfl
@[simp] theorem isi_EveryLandWish_non : isiT Pr53.base.isi (.c "EveryLandWish") .non = some false := by kernel_rfl
@[simp] theorem isi_EveryLandWish_bl (b : Bool) : isiT Pr53.base.isi (.c "EveryLandWish") (.bl b) = some false := by kernel_rfl
@[simp] theorem isi_EveryLandWish_int (i : Int) : isiT Pr53.base.isi (.c "EveryLandWish") (.int i) = some false := by kernel_rfl
@[simp] theorem isi_EveryLandWish_str (s : Str) : isiT Pr53.base.isi (.c "EveryLandWish") (.str s) = some false := by kernel_rfl
@[simp] theorem isi_EveryLandWish_tup (xs : List T) : isiT Pr53.base.isi (.c "EveryLandWish") (.tup xs) = some false := by kernel_rfl
@[simp] theorem isi_EveryLandWish_lst (xs : List T) : isiT Pr53.base.isi (.c "EveryLandWish") (.lst xs) = some false := by kernel_rfl
@[simp] theorem isi_EveryLandWish_Land (fs : List (Str × T)) : isiT Pr53.base.isi (.c "EveryLandWish") (.ins "Land" fs) = some false := by kernel_rfl
@[simp] theorem isi_EveryLandWish_Counted (fs : List (Str × T)) : isiT Pr53.base.isi (.c "EveryLandWish") (.ins "Counted" fs) = some false := by kernel_rfl
@[simp] theorem isi_EveryLandWish_Wish (fs : List (Str × T)) : isiT Pr53.base.isi (.c "EveryLandWish") (.ins "Wish" fs) = some false := by kernel_rfl
@[simp] theorem isi_EveryLandWish_LandWish (fs : List (Str × T)) : isiT Pr53.base.isi (.c "EveryLandWish") (.ins "LandWish" fs) = some false := by kernel_rfl
@[simp] theorem isi_EveryLandWish_EveryLandWish (fs : List (Str × T)) : isiT Pr53.base.isi (.c "EveryLandWish") (.ins "EveryLandWish" fs) = some true := by kernel_rfl
@[simp] theorem isi_int_non : isiT Pr53.base.isi (.b "int") .non = some false := by kernel_rfl
@[simp] theorem isi_int_bl (b : Bool) : isiT Pr53.base.isi (.b "int") (.bl b) = some true := by kernel_rfl
@[simp] theorem isi_int_int (i : Int) : isiT Pr53.base.isi (.b "int") (.int i) = some true := by kernel_rfl
@[simp] theorem isi_int_str (s : Str) : isiT Pr53.base.isi (.b "int") (.str s) = some false := by kernel_rfl
@[simp] theorem isi_int_tup (xs : List T) : isiT Pr53.base.isi (.b "int") (.tup xs) = some false := by kernel_rfl
@[simp] theorem isi_int_lst (xs : List T) : isiT Pr53.base.isi (.b "int") (.lst xs) = some false := by kernel_rfl
@[simp] theorem isi_int_Land (fs : List (Str × T)) : isiT Pr53.base.isi (.b "int") (.ins "Land" fs) = some false := by kernel_rfl
@[simp] theorem isi_int_Counted (fs : List (Str × T)) : isiT Pr53.base.isi (.b "int") (.ins "Counted" fs) = some false := by kernel_rfl
@[simp] theorem isi_int_Wish (fs : List (Str × T)) : isiT Pr53.base.isi (.b "int") (.ins "Wish" fs) = some false := by kernel_rfl
@[simp] theorem isi_int_LandWish (fs : List (Str × T)) : isiT Pr53.base.isi (.b "int") (.ins "LandWish" fs) = some false := by kernel_rfl
@[simp] theorem isi_int_EveryLandWish (fs : List (Str × T)) : isiT Pr53.base.isi (.b "int") (.ins "EveryLandWish" fs) = some false := by kernel_rfl
@[simp] theorem isi_bool_non : isiT Pr53.base.isi (.b "bool") .non = some false := by kernel_rfl
@[simp] theorem isi_bool_bl (b : Bool) : isiT Pr53.base.isi (.b "bool") (.bl b) = some true := by kernel_rfl
@[simp] theorem isi_bool_int (i : Int) : isiT Pr53.base.isi (.b "bool") (.int i) = some false := by kernel_rfl
@[simp] theorem isi_bool_str (s : Str) : isiT Pr53.base.isi (.b "bool") (.str s) = some false := by kernel_rfl
@[simp] theorem isi_bool_tup (xs : List T) : isiT Pr53.base.isi (.b "bool") (.tup xs) = some false := by kernel_rfl
@[simp] theorem isi_bool_lst (xs : List T) : isiT Pr53.base.isi (.b "bool") (.lst xs) = some false := by kernel_rfl
@[simp] theorem isi_bool_Land (fs : List (Str × T)) : isiT Pr53.base.isi (.b "bool") (.ins "Land" fs) = some false := by kernel_rfl
@[simp] theorem isi_bool_Counted (fs : List (Str × T)) : isiT Pr53.base.isi (.b "bool") (.ins "Counted" fs) = some false := by kernel_rfl
@[simp] theorem isi_bool_Wish (fs : List (Str × T)) : isiT Pr53.base.isi (.b "bool") (.ins "Wish" fs) = some false := by kernel_rfl
@[simp] theorem isi_bool_LandWish (fs : List (Str × T)) : isiT Pr53.base.isi (.b "bool") (.ins "LandWish" fs) = some false := by kernel_rfl
@[simp] theorem isi_bool_EveryLandWish (fs : List (Str × T)) : isiT Pr53.base.isi (.b "bool") (.ins "EveryLandWish" fs) = some false := by kernel_rfl
@[simp] theorem isi_str_non : isiT Pr53.base.isi (.b "str") .non = some false := by kernel_rfl
@[simp] theorem isi_str_bl (b : Bool) : isiT Pr53.base.isi (.b "str") (.bl b) = some false := by kernel_rfl
@[simp] theorem isi_str_int (i : Int) : isiT Pr53.base.isi (.b "str") (.int i) = some false := by kernel_rfl
@[simp] theorem isi_str_str (s : Str) : isiT Pr53.base.isi (.b "str") (.str s) = some true := by kernel_rfl
@[simp] theorem isi_str_tup (xs : List T) : isiT Pr53.base.isi (.b "str") (.tup xs) = some false := by kernel_rfl
@[simp] theorem isi_str_lst (xs : List T) : isiT Pr53.base.isi (.b "str") (.lst xs) = some false := by kernel_rfl
@[simp] theorem isi_str_Land (fs : List (Str × T)) : isiT Pr53.base.isi (.b "str") (.ins "Land" fs) = some false := by kernel_rfl
@[simp] theorem isi_str_Counted (fs : List (Str × T)) : isiT Pr53.base.isi (.b "str") (.ins "Counted" fs) = some false := by kernel_rfl
@[simp] theorem isi_str_Wish (fs : List (Str × T)) : isiT Pr53.base.isi (.b "str") (.ins "Wish" fs) = some false := by kernel_rfl
@[simp] theorem isi_str_LandWish (fs : List (Str × T)) : isiT Pr53.base.isi (.b "str") (.ins "LandWish" fs) = some false := by kernel_rfl
@[simp] theorem isi_str_EveryLandWish (fs : List (Str × T)) : isiT Pr53.base.isi (.b "str") (.ins "EveryLandWish" fs) = some false := by kernel_rfl
@[simp] theorem is_row_non : isiAny Pr53.base.isi [.b "list", .b "tuple"] .non = some false := by kernel_rfl
@[simp] theorem is_row_bl (b : Bool) : isiAny Pr53.base.isi [.b "list", .b "tuple"] (.bl b) = some false := by kernel_rfl
@[simp] theorem is_row_int (i : Int) : isiAny Pr53.base.isi [.b "list", .b "tuple"] (.int i) = some false := by kernel_rfl
@[simp] theorem is_row_str (s : Str) : isiAny Pr53.base.isi [.b "list", .b "tuple"] (.str s) = some false := by kernel_rfl
@[simp] theorem is_row_tup (xs : List T) : isiAny Pr53.base.isi [.b "list", .b "tuple"] (.tup xs) = some true := by kernel_rfl
@[simp] theorem is_row_lst (xs : List T) : isiAny Pr53.base.isi [.b "list", .b "tuple"] (.lst xs) = some true := by kernel_rfl
end K53
end TL
namespace TL
open PySem PySem.Spec PyProof.Rows L2
namespace K53
def Plain : T → Prop
  | .rng _ _ => False
  | .hand => False
  | .scr _ => False
  | .ins _ _ => False
  | _ => True
/-! ### is_whole, is_row, are_cells -/
def isWhole (t : T) (lo hi : Int) : Bool := match t with
  | .int i => decide (lo ≤ i ∧ i ≤ hi)
  | _ => false
theorem s_is_whole (n : Nat) (t : T) (lo hi : Int) (hd : Hd) (h : Plain t) : runC (tabX Pr53 (n + 1)).t c_is_whole [t, .int lo, .int hi] hd = some (.ok (.v (.bl (isWhole t lo hi))), hd) := by
  rw [mir_is_whole]
  cases t <;> simp only [Plain] at h <;> simp [slots0, OT.fz, isWhole, notT, intB, leB]
  rename_i i
  by_cases q : lo ≤ i <;> simp [q]
/-- the items of a list, a tuple -/
def rowOf : T → Option (List T)
  | .lst xs => some xs
  | .tup xs => some xs
  | _ => none
theorem s_is_row (n : Nat) (t : T) (hd : Hd) (h : Plain t) : runC (tabX Pr53 (n + 1)).t c_is_row [t] hd = some (.ok (.v (.bl (rowOf t).isSome)), hd) := by
  rw [mir_is_row]
  cases t <;> simp only [Plain] at h <;> simp [slots0, OT.fz, rowOf]
/-- cells: whole numbers below many, none twice -/
def cellsFrom (many : Int) : List T → List Int → Bool
  | [], _ => true
  | t :: ts, seen => match t with
    | .int i => decide (0 ≤ i ∧ i ≤ many - 1) && (!decide (i ∈ seen) && cellsFrom many ts (seen ++ [i]))
    | _ => false
def areCells (many : Int) (t : T) (least : Int) : Bool := match rowOf t with
  | some xs => decide (least ≤ xs.length) && cellsFrom many xs []
  | none => false
theorem are_cells_body (n : Nat) (many least : Int) (t x : T) (seen : List Int) (hd : Hd) (hx : Plain x) (hl : seen.length < 10000) :
    lb_are_cells_1b (n + 1) [some (.v (.int many)), some (.v t), some (.v (.int least)), some (.f (seen.map T.int)), some (.v x)] hd = match x with
      | .int i => if (0 ≤ i ∧ i ≤ many - 1) ∧ i ∉ seen then some (.next, [some (.v (.int many)), some (.v t), some (.v (.int least)), some (.f ((seen ++ [i]).map T.int)), some (.v x)], hd) else some (.ret (.v (.bl false)), [some (.v (.int many)), some (.v t), some (.v (.int least)), some (.f (seen.map T.int)), some (.v x)], hd)
      | _ => some (.ret (.v (.bl false)), [some (.v (.int many)), some (.v t), some (.v (.int least)), some (.f (seen.map T.int)), some (.v x)], hd) := by
  have hw := fun (hi : Int) => s_is_whole n x 0 hi hd hx
  cases x <;> simp only [Plain] at hx <;> simp [lb_are_cells_1b, hw, OT.fz, toB, subT, intI]
  case int i =>
    simp only [isWhole]
    by_cases q : 0 ≤ i ∧ i ≤ many - 1
    · by_cases qm : i ∈ seen <;> simp [q, qm, inT_lst, okD, opAppend, hl, OT.fz]
    · simp [q]
  all_goals simp [isWhole]
theorem are_cells_for (n : Nat) (many least : Int) (t : T) (hd : Hd) : ∀ (xs : List T) (seen : List Int) (o : Option OT), (∀ x ∈ xs, Plain x) → seen.length + xs.length < 10000 →
   ∃ S', forL (gNm 4) (lb_are_cells_1b (n + 1)) xs [some (.v (.int many)), some (.v t), some (.v (.int least)), some (.f (seen.map T.int)), o] hd = some (if cellsFrom many xs seen = true then .next else .ret (.v (.bl false)), S', hd) := by
  intro xs
  induction xs with
  | nil => 
    intro seen o h hl
    exact ⟨_, rfl⟩
  | cons x xs ih =>
    intro seen o h hl
    have hx := h x List.mem_cons_self
    rw [List.length_cons] at hl
    rw [forL_cons]
    simp only [gNm, setS, OT.isO, List.length_cons, List.length_nil, List.set_cons_succ, List.set_cons_zero, gk_some]
    simp only [are_cells_body n many least t x seen hd hx (by omega), gk_some, show (4 < 0 + 1 + 1 + 1 + 1 + 1 ∧ true) by decide, and_self, if_true]
    cases x <;> simp only [Plain] at hx <;> simp [cellsFrom]
    case int i =>
      by_cases q : (0 ≤ i ∧ i ≤ many - 1) ∧ i ∉ seen
      · have := ih (seen ++ [i]) (some (.v (.int i))) (fun y m => h y (List.mem_cons_of_mem _ m)) (by simp only [List.length_append, List.length_cons, List.length_nil]; omega)
        simpa [q] using this
      · have q' : ¬ ((0 ≤ i ∧ i ≤ many - 1) ∧ i ∉ seen ∧ cellsFrom many xs (seen ++ [i]) = true) := fun z => q ⟨z.1, z.2.1⟩
        simp [q, q']
theorem s_are_cells (n : Nat) (many least : Int) (t : T) (hd : Hd) (ht : Plain t) (hi : ∀ xs, rowOf t = some xs → (∀ x ∈ xs, Plain x) ∧ xs.length < 10000) :
    runC (tabX Pr53 (n + 2)).t c_are_cells [.int many, t, .int least] hd = some (.ok (.v (.bl (areCells many t least))), hd) := by
  rw [mir_are_cells]
  have hr := s_is_row n t hd ht
  have go : ∀ xs, rowOf t = some xs → lenT t = some (.v (.int xs.length)) ∧ itemsA t = some xs := fun xs h => by
    cases t <;> simp only [rowOf] at h <;> cases h <;> exact ⟨rfl, rfl⟩
  simp only [runS_ap, sSeq_ap, sIf_ap, mOr_ap, mNot_ap, mTest_ap, M.map_ap, mCall_ap, mCons_ap, nmV_ap, slots0_ap]
  cases h : rowOf t with
  | none => simp [hr, h, areCells]
  | some xs =>
    obtain ⟨h1, h2⟩ := go xs h
    obtain ⟨h3, h4⟩ := hi xs h
    obtain ⟨S', hf⟩ := are_cells_for n many least t hd xs [] none h3 (by simpa using h4)
    by_cases hl : (xs.length : Int) < least
    · have : ¬ least ≤ xs.length := by omega
      simp [hr, h, h1, h2, areCells, hl, this]
    · have : least ≤ xs.length := by omega
      simp only [List.map_nil] at hf
      simp [hr, h, h1, h2, areCells, hl, this, hf]
      by_cases hc : cellsFrom many xs [] = true <;> simp [hc]
end K53
end TL
namespace TL
open PySem PySem.Spec PyProof.Rows L2
namespace K53
/-! ### neighbour_rows -/
theorem areCells_pair {many : Int} {r : Int × Int} (h0 : 0 ≤ r.1) (h1 : r.1 < r.2) (h2 : r.2 < many) : areCells many (pairT r) 2 = true := by
  have e1 : r.1 ≤ many - 1 := by omega
  have e2 : 0 ≤ r.2 := by omega
  have e3 : r.2 ≤ many - 1 := by omega
  have e4 : ¬ r.2 = r.1 := by omega
  simp [areCells, pairT, rowOf, cellsFrom, h0, e1, e2, e3, e4]
/-- the couples of a land as they are told -/
structure RowsOk (many : Int) (rows : List (Int × Int)) : Prop where
  rg : ∀ r ∈ rows, 0 ≤ r.1 ∧ r.1 < r.2 ∧ r.2 < many
  nd : rows.Nodup
  ln : rows.length < 1000
def nrP (many : Int) (t : T) (acc : List (Int × Int)) (S : Slots) : Prop := ∃ o3 o4, S = [some (.v (.int many)), some (.v t), some (.f (acc.map pairT)), o3, o4]
theorem nr_body (n : Nat) (many : Int) (t : T) (hd : Hd) (acc : List (Int × Int)) (r : Int × Int) (o4 : Option OT) (h0 : 0 ≤ r.1) (h1 : r.1 < r.2) (h2 : r.2 < many) (hn : r ∉ acc) (hl : acc.length < 1000) :
    lb_neighbour_rows_1b (n + 2) [some (.v (.int many)), some (.v t), some (.f (acc.map pairT)), some (.v (pairT r)), o4] hd = some (.next, [some (.v (.int many)), some (.v t), some (.f ((acc ++ [r]).map pairT)), some (.v (pairT r)), some (.v (pairT r))], hd) := by
  have ha := s_are_cells n many 2 (pairT r) hd (by simp [pairT, Plain]) (fun xs e => by simp only [pairT, rowOf, Option.some.injEq] at e; subst e; simp [Plain])
  rw [areCells_pair h0 h1 h2] at ha
  have e1 : ¬ r.2 < r.1 := by omega
  have hm := any_pair acc r
  rw [decide_eq_false hn] at hm
  simp [lb_neighbour_rows_1b, ha, e1, h1, pair_fold, hm, show acc.length < 10000 by omega]
theorem nr_for (n : Nat) (many : Int) (t : T) (hd : Hd) : ∀ (xs acc : List (Int × Int)) (o3 o4 : Option OT), RowsOk many (acc ++ xs) →
    ∃ S', forL (gNm 3) (lb_neighbour_rows_1b (n + 2)) (xs.map pairT) [some (.v (.int many)), some (.v t), some (.f (acc.map pairT)), o3, o4] hd = some (.next, S', hd) ∧ nrP many t (acc ++ xs) S'
  | [], acc, o3, o4, _ => ⟨_, rfl, _, _, by rw [List.append_nil]⟩
  | r :: xs, acc, o3, o4, h => by
    obtain ⟨h0, h1, h2⟩ := h.rg r (by simp)
    have hnd := h.nd
    have hln := h.ln
    rw [List.length_append, List.length_cons] at hln
    have hn : r ∉ acc := fun m => (List.nodup_append.mp hnd).2.2 r m r List.mem_cons_self rfl
    have e : acc ++ r :: xs = (acc ++ [r]) ++ xs := by simp
    obtain ⟨S', q1, q2⟩ := nr_for n many t hd xs (acc ++ [r]) (some (.v (pairT r))) (some (.v (pairT r))) (by rw [← e]; exact h)
    refine ⟨S', ?_, by rw [e]; exact q2⟩
    rw [List.map_cons, forL_cons]
    have hb := nr_body n many t hd acc r o4 h0 h1 h2 hn (by omega)
    simp only [gNm_ap, setS_v (show 3 < [some (OT.v (T.int many)), some (OT.v t), some (OT.f (acc.map pairT)), o3, o4].length by simp), List.set_cons_succ, List.set_cons_zero, gk_some, hb, fk_next]
    exact q1
theorem pairsOf_pair : ∀ rows : List (Int × Int), pairsOfT (rows.map pairT) = some rows
  | [] => rfl
  | r :: rows => by
    show (pairsOfT (rows.map pairT)).map ((r.1, r.2) :: ·) = _
    rw [pairsOf_pair rows]
    rfl
theorem sortT_pairs {rows : List (Int × Int)} (h : rows ≠ []) : sortT (.lst (rows.map pairT)) = some (.f ((sortP rows).map pairT)) := by
  have e : intsOf (rows.map pairT) = none := by
    cases rows with
    | nil => exact absurd rfl h
    | cons r rs => rfl
  show (match intsOf (rows.map pairT) with
    | some ns => some (OT.f ((sortI ns).map T.int))
    | none => (pairsOfT (rows.map pairT)).map fun ps => OT.f ((sortP ps).map pairT)) = _
  rw [e]
  show (pairsOfT (rows.map pairT)).map _ = _
  rw [pairsOf_pair]
  rfl
theorem intsOf_int : ∀ ns : List Int, intsOf (ns.map T.int) = some ns
  | [] => rfl
  | r :: rows => by
    show (intsOf (rows.map T.int)).map (r :: ·) = _
    rw [intsOf_int rows]
    rfl
@[simp] theorem sortT_ints (ns : List Int) : sortT (.lst (ns.map T.int)) = some (.f ((sortI ns).map T.int)) := by
  show (match intsOf (ns.map T.int) with
    | some ns => some (OT.f ((sortI ns).map T.int))
    | none => (pairsOfT (ns.map T.int)).map fun ps => OT.f ((sortP ps).map pairT)) = _
  rw [intsOf_int]
@[simp] theorem sortT_intsT (ns : List Int) : sortT (.tup (ns.map T.int)) = some (.f ((sortI ns).map T.int)) := by
  show (match intsOf (ns.map T.int) with
    | some ns => some (OT.f ((sortI ns).map T.int))
    | none => (pairsOfT (ns.map T.int)).map fun ps => OT.f ((sortP ps).map pairT)) = _
  rw [intsOf_int]
theorem s_neighbour_rows (n : Nat) (many : Int) (rows : List (Int × Int)) (hd : Hd) (h : RowsOk many rows) (h0 : rows ≠ []) :
    runC (tabX Pr53 (n + 3)).t c_neighbour_rows [.int many, .lst (rows.map pairT)] hd = some (.ok (.v (.tup ((sortP rows).map pairT))), hd) := by
  rw [mir_neighbour_rows]
  have hr := s_is_row (n + 1) (.lst (rows.map pairT)) hd (by simp [Plain])
  obtain ⟨S', q1, o3, o4, q2⟩ := nr_for n many (.lst (rows.map pairT)) hd rows [] none none h
  subst q2
  simp only [List.map_nil, List.nil_append] at q1
  simp [hr, rowOf, q1, sortT_pairs h0]
/-! ### hangs_together -/
def hStep (here : Int) (seen : List Int) (r : Int × Int) : List Int :=
  let s := if r.1 = here ∧ r.2 ∉ seen then seen ++ [r.2] else seen
  if r.2 = here ∧ r.1 ∉ s then s ++ [r.1] else s
def hRound (rows : List (Int × Int)) (seen : List Int) (cell : Int) : List Int := match seen[cell.toNat]? with
  | some here => rows.foldl (hStep here) seen
  | none => seen
/-- what is seen: cells, none twice -/
structure SeenOk (many : Int) (seen : List Int) : Prop where
  rg : ∀ c ∈ seen, 0 ≤ c ∧ c < many
  nd : seen.Nodup
theorem SeenOk.len {many : Int} {seen : List Int} (h : SeenOk many seen) : seen.length ≤ many.toNat := by
  have := length_le_of_sub h.nd (m := rngI many) fun x hx => mem_rngI.mpr (h.rg x hx)
  rwa [length_rngI] at this
theorem SeenOk.snoc {many : Int} {seen : List Int} (h : SeenOk many seen) {c : Int} (h0 : 0 ≤ c) (h1 : c < many) (hn : c ∉ seen) : SeenOk many (seen ++ [c]) := ⟨fun x hx => by
  rcases List.mem_append.mp hx with m | m
  · exact h.rg x m
  · rw [List.mem_singleton.mp m]; exact ⟨h0, h1⟩, List.nodup_append.mpr ⟨h.nd, by simp, fun a ha b hb e => hn (by rw [← List.mem_singleton.mp hb, ← e]; exact ha)⟩⟩
theorem SeenOk.step {many : Int} {seen : List Int} (h : SeenOk many seen) {here : Int} {r : Int × Int} (hr : 0 ≤ r.1 ∧ r.1 < r.2 ∧ r.2 < many) : SeenOk many (hStep here seen r) := by
  unfold hStep
  have h1 : SeenOk many (if r.1 = here ∧ r.2 ∉ seen then seen ++ [r.2] else seen) := by
    by_cases q : r.1 = here ∧ r.2 ∉ seen
    · rw [if_pos q]; exact h.snoc (by omega) (by omega) q.2
    · rw [if_neg q]; exact h
  generalize (if r.1 = here ∧ r.2 ∉ seen then seen ++ [r.2] else seen) = s at h1 ⊢
  show SeenOk many (if r.2 = here ∧ r.1 ∉ s then s ++ [r.1] else s)
  by_cases q : r.2 = here ∧ r.1 ∉ s
  · rw [if_pos q]; exact h1.snoc (by omega) (by omega) q.2
  · rw [if_neg q]; exact h1
theorem SeenOk.fold {many : Int} {here : Int} : ∀ {rows : List (Int × Int)} {seen : List Int}, SeenOk many seen → (∀ r ∈ rows, 0 ≤ r.1 ∧ r.1 < r.2 ∧ r.2 < many) → SeenOk many (rows.foldl (hStep here) seen)
  | [], seen, h, _ => h
  | r :: rows, seen, h, hr => SeenOk.fold (rows := rows) (h.step (hr r List.mem_cons_self)) fun x m => hr x (List.mem_cons_of_mem _ m)
theorem SeenOk.round {many : Int} {rows : List (Int × Int)} {seen : List Int} (h : SeenOk many seen) (hr : ∀ r ∈ rows, 0 ≤ r.1 ∧ r.1 < r.2 ∧ r.2 < many) (cell : Int) : SeenOk many (hRound rows seen cell) := by
  unfold hRound
  split
  · exact h.fold hr
  · exact h
def hgP (many : Int) (t : T) (seen : List Int) (S : Slots) : Prop := SeenOk many seen ∧ ∃ o3 o4 o5 o6, S = [some (.v (.int many)), some (.v t), some (.f (seen.map T.int)), o3, o4, o5, o6]
def hiP (many : Int) (t : T) (c here : Int) (seen : List Int) (S : Slots) : Prop := SeenOk many seen ∧ ∃ o5 o6, S = [some (.v (.int many)), some (.v t), some (.f (seen.map T.int)), some (.v (.int c)), some (.v (.int here)), o5, o6]
theorem hg_body1 (n : Nat) (many c here : Int) (t : T) (hd : Hd) (seen : List Int) (r : Int × Int) (hs : SeenOk many seen) (hm : many ≤ 100) (hr : 0 ≤ r.1 ∧ r.1 < r.2 ∧ r.2 < many) :
    lb_hangs_together_1b (n + 1) [some (.v (.int many)), some (.v t), some (.f (seen.map T.int)), some (.v (.int c)), some (.v (.int here)), some (.v (.int r.1)), some (.v (.int r.2))] hd = some (.next, [some (.v (.int many)), some (.v t), some (.f ((hStep here seen r).map T.int)), some (.v (.int c)), some (.v (.int here)), some (.v (.int r.1)), some (.v (.int r.2))], hd) := by
  have l1 := hs.len
  have l2 : seen.length < 10000 := by omega
  have l3 : seen.length + 1 < 10000 := by omega
  obtain ⟨x, y⟩ := r
  simp only at hr ⊢
  by_cases a : x = here
  · subst a
    have e : ¬ y = x := by omega
    by_cases b : y ∈ seen <;> simp [lb_hangs_together_1b, hStep, e, b, l2, l3]
  · by_cases e : y = here
    · subst e
      by_cases f : x ∈ seen <;> simp [lb_hangs_together_1b, hStep, a, f, l2, l3]
    · simp [lb_hangs_together_1b, hStep, a, e]
theorem hg_body2 (n : Nat) (many c : Int) (rows : List (Int × Int)) (hd : Hd) (seen : List Int) (S : Slots) (hs : SeenOk many seen) (hm : many ≤ 100) (hc : 0 ≤ c) (hr : ∀ r ∈ rows, 0 ≤ r.1 ∧ r.1 < r.2 ∧ r.2 < many) (o4 o5 o6 : Option OT) :
    ∃ S2, lb_hangs_together_2b (n + 1) [some (.v (.int many)), some (.v (.tup (rows.map pairT))), some (.f (seen.map T.int)), some (.v (.int c)), o4, o5, o6] hd = some (.next, S2, hd) ∧ hgP many (.tup (rows.map pairT)) (hRound rows seen c) S2 := by
  by_cases h : c < seen.length
  · have e : seen[c.toNat]? = some seen[c.toNat] := List.getElem?_eq_getElem (by omega)
    have e2 : atI (seen.map T.int) c = some (.int seen[c.toNat]) := by
      rw [atI_nat hc (by simpa using h), List.getElem?_map, e]
      rfl
    obtain ⟨S', q1, q2⟩ := forL_fold (g := gTp (gsCons (gNm 5) (gsCons (gNm 6) gsNil)) 2) (b := lb_hangs_together_1b (n + 1)) (hd := hd) (hiP many (.tup (rows.map pairT)) c seen[c.toNat]) (fun s t => match t with
      | .tup [.int x, .int y] => hStep seen[c.toNat] s (x, y)
      | _ => s) (rows.map pairT) seen [some (.v (.int many)), some (.v (.tup (rows.map pairT))), some (.f (seen.map T.int)), some (.v (.int c)), some (.v (.int seen[c.toNat])), o5, o6] (fun x hx s S hS => by
        obtain ⟨r, hr1, rfl⟩ := List.mem_map.mp hx
        obtain ⟨h1, p5, p6, rfl⟩ := hS
        have hb := hg_body1 n many c seen[c.toNat] (.tup (rows.map pairT)) hd s r h1 hm (hr r hr1)
        refine ⟨_, _, ?_, hb, h1.step (hr r hr1), _, _, rfl⟩
        simp) ⟨hs, _, _, rfl⟩
    have e3 : ∀ (rs : List (Int × Int)) (s : List Int), (rs.map pairT).foldl (fun s t => match t with
      | .tup [.int x, .int y] => hStep seen[c.toNat] s (x, y)
      | _ => s) s = rs.foldl (hStep seen[c.toNat]) s := fun rs => by
      induction rs with
      | nil => intro s; rfl
      | cons r rs ih => intro s; exact ih _
    rw [e3] at q2
    obtain ⟨h1, p5, p6, rfl⟩ := q2
    refine ⟨[some (.v (.int many)), some (.v (.tup (rows.map pairT))), some (.f ((rows.foldl (hStep seen[c.toNat]) seen).map T.int)), some (.v (.int c)), some (.v (.int seen[c.toNat])), p5, p6], ?_, ?_⟩
    · simp [lb_hangs_together_2b, h, e2, q1]
    · have e4 : hRound rows seen c = rows.foldl (hStep seen[c.toNat]) seen := by unfold hRound; rw [e]
      rw [e4]
      exact ⟨h1, _, _, _, _, rfl⟩
  · have e : seen[c.toNat]? = none := List.getElem?_eq_none (by omega)
    have e4 : hRound rows seen c = seen := by unfold hRound; rw [e]
    rw [e4]
    refine ⟨[some (.v (.int many)), some (.v (.tup (rows.map pairT))), some (.f (seen.map T.int)), some (.v (.int c)), o4, o5, o6], ?_, hs, _, _, _, _, rfl⟩
    simp [lb_hangs_together_2b, h]
def hAll (many : Int) (rows : List (Int × Int)) : List Int := (rngI many).foldl (hRound rows) [0]
theorem s_hangs (n : Nat) (many : Int) (rows : List (Int × Int)) (hd : Hd) (h0 : 0 < many) (hm : many ≤ 100) (hr : ∀ r ∈ rows, 0 ≤ r.1 ∧ r.1 < r.2 ∧ r.2 < many) :
    runC (tabX Pr53 (n + 2)).t c_hangs_together [.int many, .tup (rows.map pairT)] hd = some (.ok (.v (.bl (decide (((hAll many rows).length : Int) = many)))), hd) := by
  rw [mir_hangs_together]
  obtain ⟨S', q1, q2⟩ := forL_fold (g := gNm 3) (b := lb_hangs_together_2b (n + 1)) (hd := hd) (hgP many (.tup (rows.map pairT))) (fun s t => match t with
      | .int x => hRound rows s x
      | _ => s) ((rngI many).map T.int) [0] [some (.v (.int many)), some (.v (.tup (rows.map pairT))), some (.f [.int 0]), none, none, none, none] (fun x hx s S hS => by
        obtain ⟨c, hc, rfl⟩ := List.mem_map.mp hx
        obtain ⟨h1, p3, p4, p5, p6, rfl⟩ := hS
        obtain ⟨S2, hb, hp⟩ := hg_body2 n many c rows hd s [] h1 hm (mem_rngI.mp hc).1 hr p4 p5 p6
        refine ⟨_, S2, ?_, hb, hp⟩
        simp) ⟨⟨fun c hc => by rw [List.mem_singleton.mp hc]; omega, by simp⟩, _, _, _, _, rfl⟩
  have e3 : ∀ (rs : List Int) (s : List Int), (rs.map T.int).foldl (fun s t => match t with
      | .int x => hRound rows s x
      | _ => s) s = rs.foldl (hRound rows) s := fun rs => by
      induction rs with
      | nil => intro s; rfl
      | cons r rs ih => intro s; exact ih _
  rw [e3] at q2
  obtain ⟨h1, p3, p4, p5, p6, rfl⟩ := q2
  have l := h1.len
  have ok : rngOk many = true := by simp [rngOk]; omega
  simp [rng1, ok, rngL_int, q1, hAll]
  rfl
/-! a land that hangs together -/
/-- whatever parts the cells, a couple joins the parts -/
def Joined (many : Int) (rows : List (Int × Int)) : Prop := ∀ p : Int → Bool, p 0 = true → (∃ v, 0 ≤ v ∧ v < many ∧ p v = false) → ∃ r ∈ rows, p r.1 ≠ p r.2
theorem hStep_pre (here : Int) (s : List Int) (r : Int × Int) : ∃ t, hStep here s r = s ++ t := by
  unfold hStep
  have h1 : ∃ t, (if r.1 = here ∧ r.2 ∉ s then s ++ [r.2] else s) = s ++ t := by
    by_cases q : r.1 = here ∧ r.2 ∉ s
    · exact ⟨[r.2], if_pos q⟩
    · exact ⟨[], by rw [if_neg q, List.append_nil]⟩
  obtain ⟨t, h1⟩ := h1
  rw [h1]
  show ∃ t', (if r.2 = here ∧ r.1 ∉ s ++ t then (s ++ t) ++ [r.1] else s ++ t) = s ++ t'
  by_cases q : r.2 = here ∧ r.1 ∉ s ++ t
  · exact ⟨t ++ [r.1], by rw [if_pos q, List.append_assoc]⟩
  · exact ⟨t, if_neg q⟩
theorem hFold_pre (here : Int) : ∀ (rows : List (Int × Int)) (s : List Int), ∃ t, rows.foldl (hStep here) s = s ++ t
  | [], s => ⟨[], by simp⟩
  | r :: rows, s => by
    obtain ⟨t, h⟩ := hStep_pre here s r
    obtain ⟨u, h2⟩ := hFold_pre here rows (hStep here s r)
    exact ⟨t ++ u, by rw [List.foldl_cons, h2, h, List.append_assoc]⟩
theorem hRound_pre (rows : List (Int × Int)) (s : List Int) (c : Int) : ∃ t, hRound rows s c = s ++ t := by
  unfold hRound
  split
  · exact hFold_pre _ rows s
  · exact ⟨[], by simp⟩
theorem hStep_nb {here : Int} {s : List Int} {r : Int × Int} : (r.1 = here → r.2 ∈ hStep here s r) ∧ (r.2 = here → r.1 ∈ hStep here s r) := by
  unfold hStep
  constructor
  · intro e
    have h1 : r.2 ∈ (if r.1 = here ∧ r.2 ∉ s then s ++ [r.2] else s) := by
      by_cases q : r.2 ∈ s
      · rw [if_neg (fun z => z.2 q)]; exact q
      · rw [if_pos ⟨e, q⟩]; simp
    generalize (if r.1 = here ∧ r.2 ∉ s then s ++ [r.2] else s) = u at h1 ⊢
    show r.2 ∈ (if r.2 = here ∧ r.1 ∉ u then u ++ [r.1] else u)
    split
    · exact List.mem_append_left _ h1
    · exact h1
  · intro e
    generalize (if r.1 = here ∧ r.2 ∉ s then s ++ [r.2] else s) = u
    show r.1 ∈ (if r.2 = here ∧ r.1 ∉ u then u ++ [r.1] else u)
    by_cases q : r.1 ∈ u
    · rw [if_neg (fun z => z.2 q)]; exact q
    · rw [if_pos ⟨e, q⟩]; simp
theorem hFold_nb {here : Int} : ∀ {rows : List (Int × Int)} {s : List Int} {r : Int × Int}, r ∈ rows → (r.1 = here → r.2 ∈ rows.foldl (hStep here) s) ∧ (r.2 = here → r.1 ∈ rows.foldl (hStep here) s)
  | x :: rows, s, r, m => by
    rw [List.foldl_cons]
    rcases List.mem_cons.mp m with rfl | m
    · obtain ⟨t, h⟩ := hFold_pre here rows (hStep here s r)
      rw [h]
      exact ⟨fun e => List.mem_append_left _ (hStep_nb.1 e), fun e => List.mem_append_left _ (hStep_nb.2 e)⟩
    · exact hFold_nb m
/-- behind k rounds the first k seen have all their neighbours seen -/
def hTo (rows : List (Int × Int)) (k : Nat) : List Int := ((List.range k).map fun (j : Nat) => (j : Int)).foldl (hRound rows) [0]
theorem hTo_succ (rows : List (Int × Int)) (k : Nat) : hTo rows (k + 1) = hRound rows (hTo rows k) k := by
  unfold hTo
  rw [List.range_succ, List.map_append, List.foldl_append]
  rfl
theorem hTo_done (rows : List (Int × Int)) : ∀ k j : Nat, j < k → ∀ v, (hTo rows k)[j]? = some v → ∀ r ∈ rows, (r.1 = v → r.2 ∈ hTo rows k) ∧ (r.2 = v → r.1 ∈ hTo rows k)
  | 0, j, h, _, _, _, _ => by omega
  | k + 1, j, h, v, e, r, hr => by
    obtain ⟨t, ht⟩ := hRound_pre rows (hTo rows k) k
    rw [hTo_succ] at e ⊢
    by_cases hj : j < (hTo rows k).length
    · rw [ht, List.getElem?_append_left hj] at e
      by_cases hk : j = k
      · subst hk
        unfold hRound
        have e2 : (hTo rows j)[(j : Int).toNat]? = some v := by rw [Int.toNat_natCast]; exact e
        rw [e2]
        exact hFold_nb hr
      · have := hTo_done rows k j (by omega) v e r hr
        rw [ht]
        exact ⟨fun z => List.mem_append_left _ (this.1 z), fun z => List.mem_append_left _ (this.2 z)⟩
    · have hk : (hTo rows k)[(k : Int).toNat]? = none := List.getElem?_eq_none (by rw [Int.toNat_natCast]; omega)
      have e3 : hRound rows (hTo rows k) k = hTo rows k := by unfold hRound; rw [hk]
      rw [e3, List.getElem?_eq_none (by omega)] at e
      cases e
theorem hAll_to (many : Int) (rows : List (Int × Int)) : hAll many rows = hTo rows many.toNat := rfl
theorem hTo_ok {many : Int} {rows : List (Int × Int)} (h0 : 0 < many) (hr : ∀ r ∈ rows, 0 ≤ r.1 ∧ r.1 < r.2 ∧ r.2 < many) : ∀ k, SeenOk many (hTo rows k) ∧ 0 ∈ hTo rows k
  | 0 => ⟨⟨fun c hc => by rw [List.mem_singleton.mp hc]; omega, by simp [hTo]⟩, by simp [hTo]⟩
  | k + 1 => by
    obtain ⟨h1, h2⟩ := hTo_ok h0 hr k
    rw [hTo_succ]
    refine ⟨h1.round hr k, ?_⟩
    obtain ⟨t, ht⟩ := hRound_pre rows (hTo rows k) k
    rw [ht]
    exact List.mem_append_left _ h2
theorem hAll_len {many : Int} {rows : List (Int × Int)} (h0 : 0 < many) (hr : ∀ r ∈ rows, 0 ≤ r.1 ∧ r.1 < r.2 ∧ r.2 < many) (hj : Joined many rows) : ((hAll many rows).length : Int) = many := by
  obtain ⟨h1, h2⟩ := hTo_ok h0 hr many.toNat
  rw [← hAll_to] at h1 h2
  have l := h1.len
  have all : ∀ v ∈ rngI many, v ∈ hAll many rows := fun v hv => by
    by_cases hc : v ∈ hAll many rows
    · exact hc
    · obtain ⟨a, b⟩ := mem_rngI.mp hv
      obtain ⟨r, hr1, hr2⟩ := hj (fun x => decide (x ∈ hAll many rows)) (decide_eq_true h2) ⟨v, a, b, decide_eq_false hc⟩
      have key : ∀ x, x ∈ hAll many rows → (r.1 = x → r.2 ∈ hAll many rows) ∧ (r.2 = x → r.1 ∈ hAll many rows) := fun x hx => by
        obtain ⟨j, e⟩ := List.mem_iff_getElem?.mp hx
        obtain ⟨hj, _⟩ := List.getElem?_eq_some_iff.mp e
        exact hTo_done rows many.toNat j (by omega) x (by rw [hAll_to] at e; exact e) r hr1
      exfalso
      by_cases c1 : r.1 ∈ hAll many rows
      · have := (key r.1 c1).1 rfl
        exact hr2 (by simp [c1, this])
      · by_cases c2 : r.2 ∈ hAll many rows
        · exact c1 ((key r.2 c2).2 rfl)
        · exact hr2 (by simp [c1, c2])
  have nd : (rngI many).Nodup := by
    unfold rngI
    exact List.pairwise_map.mpr (List.Pairwise.imp (fun {a b} h z => h (by omega)) List.nodup_range)
  have := length_le_of_sub nd all
  rw [length_rngI] at this
  omega
end K53
end TL
namespace TL
open PySem PySem.Spec PyProof.Rows L2
namespace K53
/-! ### Land -/
theorem cellsFrom_ints {many : Int} : ∀ (xs seen : List Int), (∀ x ∈ xs, 0 ≤ x ∧ x < many) → (seen ++ xs).Nodup → cellsFrom many (xs.map T.int) seen = true
  | [], seen, _, _ => by simp [cellsFrom]
  | x :: xs, seen, h, hn => by
    have hx := h x List.mem_cons_self
    have e : seen ++ x :: xs = (seen ++ [x]) ++ xs := by simp
    have hm : x ∉ seen := fun m => (List.nodup_append.mp hn).2.2 x m x List.mem_cons_self rfl
    have ih := cellsFrom_ints xs (seen ++ [x]) (fun y m => h y (List.mem_cons_of_mem _ m)) (by rw [← e]; exact hn)
    have h2 : x ≤ many - 1 := by omega
    simp [cellsFrom, hx.1, h2, hm, ih]
/-- cells, none twice -/
structure CellsOk (many : Int) (xs : List Int) : Prop where
  rg : ∀ x ∈ xs, 0 ≤ x ∧ x < many
  nd : xs.Nodup
theorem CellsOk.seen {many : Int} {xs : List Int} (h : CellsOk many xs) : SeenOk many xs := ⟨h.rg, h.nd⟩
theorem areCells_lst {many least : Int} {xs : List Int} (h : CellsOk many xs) (hl : least ≤ xs.length) : areCells many (.lst (xs.map T.int)) least = true := by
  have := cellsFrom_ints xs [] h.rg (by simpa using h.nd)
  simp [areCells, rowOf, this, hl]
theorem areCells_tup {many least : Int} {xs : List Int} (h : CellsOk many xs) (hl : least ≤ xs.length) : areCells many (.tup (xs.map T.int)) least = true := by
  have := cellsFrom_ints xs [] h.rg (by simpa using h.nd)
  simp [areCells, rowOf, this, hl]
theorem plain_ints {t : T} {xs : List Int} (h : t = .lst (xs.map T.int) ∨ t = .tup (xs.map T.int)) (hl : xs.length < 10000) : Plain t ∧ ∀ ys, rowOf t = some ys → (∀ x ∈ ys, Plain x) ∧ ys.length < 10000 := by
  rcases h with rfl | rfl
  · refine ⟨by simp [Plain], fun ys e => ?_⟩
    simp only [rowOf, Option.some.injEq] at e
    subst e
    refine ⟨fun x m => ?_, by simpa using hl⟩
    obtain ⟨i, _, rfl⟩ := List.mem_map.mp m
    simp [Plain]
  · refine ⟨by simp [Plain], fun ys e => ?_⟩
    simp only [rowOf, Option.some.injEq] at e
    subst e
    refine ⟨fun x m => ?_, by simpa using hl⟩
    obtain ⟨i, _, rfl⟩ := List.mem_map.mp m
    simp [Plain]
/-- what a land is made of -/
structure LandOk (c : Int) (rows : List (Int × Int)) (roads : List Int) : Prop where
  c2 : 2 ≤ c
  c5 : c ≤ 5
  ro : RowsOk c rows
  ne : rows ≠ []
  jn : Joined c rows
  rd : CellsOk c roads
  r1 : 1 ≤ roads.length
  r2 : (roads.length : Int) < c
theorem perm_sortP (rows : List (Int × Int)) : (sortP rows).Perm rows := List.mergeSort_perm rows leP
theorem perm_sortI (xs : List Int) : (sortI xs).Perm xs := List.mergeSort_perm xs leI
def landFs (c : Int) (rows : List (Int × Int)) (roads : List Int) : List (Str × T) := [("cells", .int c), ("neighbours", .tup ((sortP rows).map pairT)), ("roads", .tup ((sortI roads).map T.int))]
def landI (c : Int) (rows : List (Int × Int)) (roads : List Int) : T := .ins "Land" (landFs c rows roads)
theorem s_Land (n : Nat) (c : Int) (rows : List (Int × Int)) (roads : List Int) (hd : Hd) (h : LandOk c rows roads) :
    iniT (tabX Pr53 (n + 4)) "Land" d_Land [] [.int c, .lst (rows.map pairT), .lst (roads.map T.int)] hd = some (Out.ok (), landFs c rows roads, hd) := by
  have w1 := s_is_whole (n + 2) (.int c) 2 5 hd (by simp [Plain])
  have w2 := s_neighbour_rows n c rows hd h.ro h.ne
  have l1 := h.rd.seen.len
  have c5 := h.c5
  have pl := plain_ints (.inl rfl : T.lst (roads.map T.int) = .lst (roads.map T.int) ∨ _) (by omega)
  have w3 := s_are_cells (n + 1) c 1 (.lst (roads.map T.int)) hd pl.1 pl.2
  have e3 : areCells c (.lst (roads.map T.int)) 1 = true := areCells_lst h.rd (by have := h.r1; omega)
  rw [e3] at w3
  have hm : ∀ r, r ∈ sortP rows ↔ r ∈ rows := fun r => (perm_sortP rows).mem_iff
  have w4 := s_hangs (n + 1) c (sortP rows) hd (by have := h.c2; omega) (by omega) (fun r m => h.ro.rg r ((hm r).mp m))
  have e4 := hAll_len (many := c) (rows := sortP rows) (by have := h.c2; omega) (fun r m => h.ro.rg r ((hm r).mp m)) (fun p p0 v => by
    obtain ⟨r, hr, q⟩ := h.jn p p0 v
    exact ⟨r, (hm r).mpr hr, q⟩)
  have e1 : isWhole (.int c) 2 5 = true := by simp [isWhole, h.c2, h.c5]
  rw [e1] at w1
  have e5 : ¬ (roads.length : Int) = c := by have := h.r2; omega
  rw [ini_Land]
  simp [w1, w2, w3, w4, e4, e5, putT, landFs]
theorem s_Land_eq (n : Nat) (c c' : Int) (rows rows' : List (Int × Int)) (roads roads' : List Int) (hd : Hd) :
    runC (tabX Pr53 (n + 1)).t c_Land___eq__ [landI c rows roads, landI c' rows' roads'] hd = some (.ok (.v (.bl (decide (c = c' ∧ sortP rows = sortP rows' ∧ sortI roads = sortI roads')))), hd) := by
  rw [mir_Land___eq__]
  simp [landI, landFs, List.lookup]
  by_cases h1 : c = c' <;> by_cases h2 : sortP rows = sortP rows' <;> simp [h1, h2]
/-! ### Counted -/
def cntFs (a b c : Bool) : List (Str × T) := [("grants", .bl a), ("untold", .bl b), ("giving_up", .bl c)]
def cntI (a b c : Bool) : T := .ins "Counted" (cntFs a b c)
def whF (c : T) : List (Str × T) := [("counted", c)]
def whatF (w : Str) : List (Str × T) := [("what", .str w)]
theorem s_Counted (n : Nat) (a b c : Bool) (hd : Hd) : iniT (tabX Pr53 (n + 1)) "Counted" d_Counted [] [.bl a, .bl b, .bl c] hd = some (Out.ok (), cntFs a b c, hd) := by
  rw [ini_Counted]
  simp [putT, cntFs]
theorem s_Counted_eq (n : Nat) (a b c a' b' c' : Bool) (hd : Hd) :
    runC (tabX Pr53 (n + 1)).t c_Counted___eq__ [cntI a b c, cntI a' b' c'] hd = some (.ok (.v (.bl (decide ((a, b, c) = (a', b', c'))))), hd) := by
  rw [mir_Counted___eq__]
  cases a <;> cases b <;> cases c <;> cases a' <;> cases b' <;> cases c' <;> simp [cntI, cntFs, List.lookup]
/-! ### Wish -/
/-- what is handed as counted, right or None -/
def cntOf : T → Option T
  | .non => some (cntI true true false)
  | .ins "Counted" fs => some (.ins "Counted" fs)
  | _ => none
theorem ini_WishC (n : Nat) (C : Str) : iniT (tabX Pr53 (n + 1)) C d_Wish = runI 2 C (sSeq (sIf (mAnd (mCmpN isNotNoneT 1 (M.ret .non)) (mNot (mTest (M.map T.bl (mIsi Pr53.base.isi (.c "Counted") (peek 1)))))) (sSeq (sRaise "BadWish" 1 [("what", 0)] (mCons (M.ret (.str "counted")) (M.ret [])))
  sNext) sNext)
  (sSeq (sFldI (Pr53.base.fld "counted") 0 "counted" (mIf (mCmpN isNoneT 1 (M.ret .non)) (M.map OT.fz (mCall 0 (mkFn "Counted" (srcI 0 [.d 0, .d 1, .d 2] [(T.bl true), (T.bl true), (T.bl false)] [] (iniT (tabX Pr53 n) "Counted" d_Counted))) (M.ret []))) (nmV 1)))
  sNext)) := by
  kernel_rfl
theorem s_Wish_non (n : Nat) (C : Str) (hd : Hd) (hC : C = "Wish" ∨ C = "LandWish" ∨ C = "EveryLandWish") : iniT (tabX Pr53 (n + 2)) C d_Wish [] [.non] hd = some (Out.ok (), whF (cntI true true false), hd) := by
  have w := s_Counted n true true false hd
  rw [ini_WishC]
  rcases hC with rfl | rfl | rfl <;> simp [srcF_ap, srcI_ap, srcL, Src.get, w, putT, cntI, mApp_ap, whF]
theorem s_Wish_cnt (n : Nat) (C : Str) (a b c : Bool) (hd : Hd) (hC : C = "Wish" ∨ C = "LandWish" ∨ C = "EveryLandWish") : iniT (tabX Pr53 (n + 2)) C d_Wish [] [cntI a b c] hd = some (Out.ok (), whF (cntI a b c), hd) := by
  rw [ini_WishC]
  rcases hC with rfl | rfl | rfl <;> simp [putT, cntI, whF]
/-- wrong things as counted -/
theorem s_Wish_bad (n : Nat) (C : Str) (t : T) (hd : Hd) (h : Plain t) (h2 : t ≠ .non) : iniT (tabX Pr53 (n + 1)) C d_Wish [] [t] hd = some (Out.ex "BadWish" (whatF "counted"), [], hd) := by
  rw [ini_WishC]
  cases t <;> simp only [Plain] at h <;> first | (exact absurd rfl h2) | simp [fieldsT, whatF]
end K53
end TL
namespace TL
open PySem PySem.Spec PyProof.Rows L2
namespace K53
/-! ### are_unlike_words -/
def wordsFrom (menu : List Str) : List T → List Str → Bool
  | [], _ => true
  | t :: ts, seen => match t with
    | .str s => decide (s ∈ menu) && (!decide (s ∈ seen) && wordsFrom menu ts (seen ++ [s]))
    | _ => false
def areWords (menu : List Str) (t : T) (least : Int) : Bool := match rowOf t with
  | some xs => decide (least ≤ xs.length) && wordsFrom menu xs []
  | none => false
/-- plain; a word is made of signs -/
def PlainW : T → Prop
  | .rng _ _ => False
  | .hand => False
  | .scr _ => False
  | .ins _ _ => False
  | .str s => PyData.strOk s = true
  | _ => True
theorem PlainW.p {t : T} (h : PlainW t) : Plain t := by
  cases t <;> simp only [PlainW] at h <;> simp [Plain]
theorem words_body (n : Nat) (menu : List Str) (t : T) (least : Int) (ps : List Str) (x : T) (xs : List T) (hd : Hd) (ht : rowOf t = some (ps.map T.str ++ x :: xs)) (hm : menu.all PyData.strOk = true) (hp : ps.all PyData.strOk = true) (hx : PlainW x) :
    lb_are_unlike_words_1b n [some (.v t), some (.v (.tup (menu.map T.str))), some (.v (.int least)), some (.v (.int ps.length)), some (.v x)] hd = match x with
      | .str s => if s ∈ menu ∧ s ∉ ps then some (.next, [some (.v t), some (.v (.tup (menu.map T.str))), some (.v (.int least)), some (.v (.int ps.length)), some (.v x)], hd) else some (.ret (.v (.bl false)), [some (.v t), some (.v (.tup (menu.map T.str))), some (.v (.int least)), some (.v (.int ps.length)), some (.v x)], hd)
      | _ => some (.ret (.v (.bl false)), [some (.v t), some (.v (.tup (menu.map T.str))), some (.v (.int least)), some (.v (.int ps.length)), some (.v x)], hd) := by
  have hc : (ps.map T.str ++ x :: xs).take ps.length = ps.map T.str := by
    rw [List.take_append_of_le_length (by simp), List.take_of_length_le (by simp)]
  have sl : (sliceT none (some (ps.length : Int)) t = some (.f (ps.map T.str))) ∨ (sliceT none (some (ps.length : Int)) t = some (.v (.tup (ps.map T.str)))) := by
    cases t <;> simp only [rowOf] at ht <;> cases ht
    · right
      show some (OT.v (.tup (cutT _ none (some (ps.length : Int))))) = _
      rw [cut_take, hc]
    · left
      show some (OT.f (cutT _ none (some (ps.length : Int)))) = _
      rw [cut_take, hc]
  cases x with
  | str s =>
    have hs : PyData.strOk s = true := by simpa [PlainW] using hx
    rcases sl with sl | sl <;> by_cases q : s ∈ menu <;> by_cases r : s ∈ ps <;> simp [lb_are_unlike_words_1b, hs, hm, hp, q, r, intO, sl, -List.all_eq_true]
  | _ => first | (simp [PlainW] at hx; done) | simp [lb_are_unlike_words_1b]
theorem words_for (n : Nat) (menu : List Str) (t : T) (least : Int) (hd : Hd) (hm : menu.all PyData.strOk = true) : ∀ (xs : List T) (ps : List Str) (o3 o4 : Option OT), rowOf t = some (ps.map T.str ++ xs) → ps.all PyData.strOk = true → (∀ x ∈ xs, PlainW x) →
    ∃ S', forL (gTp (gsCons (gNm 3) (gsCons (gNm 4) gsNil)) 2) (lb_are_unlike_words_1b n) (enumFrom ps.length xs) [some (.v t), some (.v (.tup (menu.map T.str))), some (.v (.int least)), o3, o4] hd = some (if wordsFrom menu xs ps = true then .next else .ret (.v (.bl false)), S', hd)
  | [], ps, o3, o4, _, _, _ => ⟨_, rfl⟩
  | x :: xs, ps, o3, o4, ht, hp, hx => by
    have hb := words_body n menu t least ps x xs hd ht hm hp (hx x List.mem_cons_self)
    rw [enumFrom, forL_cons]
    simp [hb, -List.all_eq_true]
    cases x with
    | str s =>
      have hs : PyData.strOk s = true := by simpa [PlainW] using hx _ List.mem_cons_self
      by_cases q : s ∈ menu ∧ s ∉ ps
      · obtain ⟨S', h⟩ := words_for n menu t least hd hm xs (ps ++ [s]) (some (.v (.int ps.length))) (some (.v (.str s))) (by simpa using ht) (by rw [List.all_append, hp]; simp [hs]) (fun y m => hx y (List.mem_cons_of_mem _ m))
        refine ⟨S', ?_⟩
        simp only [List.length_append, List.length_cons, List.length_nil] at h
        simp [q, wordsFrom, h]
      · by_cases q1 : s ∈ menu
        · have q2 : s ∈ ps := by
            by_cases z : s ∈ ps
            · exact z
            · exact absurd ⟨q1, z⟩ q
          exact ⟨_, by simp [q1, q2, wordsFrom]; rfl⟩
        · exact ⟨_, by simp [q1, wordsFrom]; rfl⟩
    | _ => first | exact ⟨_, by simp [wordsFrom]; rfl⟩
theorem s_words (n : Nat) (menu : List Str) (t : T) (least : Int) (hd : Hd) (hm : menu.all PyData.strOk = true) (ht : PlainW t) (hx : ∀ xs, rowOf t = some xs → ∀ x ∈ xs, PlainW x) :
    runC (tabX Pr53 (n + 2)).t c_are_unlike_words [t, .tup (menu.map T.str), .int least] hd = some (.ok (.v (.bl (areWords menu t least))), hd) := by
  rw [mir_are_unlike_words]
  have hr := s_is_row n t hd ht.p
  have go : ∀ xs, rowOf t = some xs → lenT t = some (.v (.int xs.length)) ∧ enumT t = some (enumFrom 0 xs) := fun xs h => by
    cases t <;> simp only [rowOf] at h <;> cases h <;> exact ⟨rfl, rfl⟩
  cases h : rowOf t with
  | none => simp [hr, h, areWords]
  | some xs =>
    obtain ⟨h1, h2⟩ := go xs h
    obtain ⟨S', hf⟩ := words_for (n + 1) menu t least hd hm xs [] none none (by simpa using h) (by simp) (hx xs h)
    by_cases hl : (xs.length : Int) < least
    · have : ¬ least ≤ xs.length := by omega
      simp [hr, h, h1, h2, areWords, hl, this]
    · have : least ≤ xs.length := by omega
      simp only [List.length_nil] at hf
      simp [hr, h, h1, h2, areWords, hl, this, hf]
      by_cases hc : wordsFrom menu xs [] = true <;> simp [hc]
end K53
end TL
namespace TL
open PySem PySem.Spec PyProof.Rows L2
namespace K53
/-! ### LandWish, EveryLandWish -/
theorem sup_LW (n : Nat) : (tabX Pr53 (n + 1)).sup "LandWish" "LandWish" = some (1, iniT (tabX Pr53 n) "LandWish" d_Wish) := by kernel_rfl
theorem sup_EW (n : Nat) : (tabX Pr53 (n + 1)).sup "EveryLandWish" "EveryLandWish" = some (1, iniT (tabX Pr53 n) "EveryLandWish" d_Wish) := by kernel_rfl
/-- a list, a tuple of these -/
def Seq (t : T) (xs : List T) : Prop := t = .lst xs ∨ t = .tup xs
theorem Seq.row {t : T} {xs : List T} (h : Seq t xs) : rowOf t = some xs := by
  rcases h with rfl | rfl <;> rfl
theorem Seq.len {t : T} {xs : List T} (h : Seq t xs) : lenT t = some (.v (.int xs.length)) := by
  rcases h with rfl | rfl <;> rfl
theorem Seq.plain {t : T} {xs : List T} (h : Seq t xs) : Plain t := by
  rcases h with rfl | rfl <;> simp [Plain]
theorem Seq.plainW {t : T} {xs : List T} (h : Seq t xs) : PlainW t := by
  rcases h with rfl | rfl <;> simp [PlainW]
theorem Seq.sort {t : T} {xs : List Int} (h : Seq t (xs.map T.int)) : sortT t = some (.f ((sortI xs).map T.int)) := by
  rcases h with rfl | rfl <;> simp
theorem Seq.in_ {t a : T} {xs : List T} (h : Seq t xs) (ha : okD 64 a = true) (hx : okDs 63 xs = true) : inT a t = some (xs.any fun z => eqB z a) := by
  rcases h with rfl | rfl
  · exact inT_lst ha hx
  · exact inT_tup ha hx
theorem Seq.cells {t : T} {xs : List Int} {many : Int} (h : Seq t (xs.map T.int)) (ok : CellsOk many xs) (least : Int) (hl : least ≤ xs.length) : areCells many t least = true := by
  rcases h with rfl | rfl
  · exact areCells_lst ok hl
  · exact areCells_tup ok hl
theorem s_is_lot (n : Nat) (c least : Int) (rows : List (Int × Int)) (roads : List Int) (t : T) (hd : Hd) (ht : Plain t) (hi : ∀ xs, rowOf t = some xs → (∀ x ∈ xs, Plain x) ∧ xs.length < 10000) :
    runC (tabX Pr53 (n + 3)).t c_is_lot [landI c rows roads, t, .int least] hd = some (.ok (.v (.bl (areCells c t least))), hd) := by
  have w := s_are_cells n c least t hd ht hi
  rw [mir_is_lot]
  simp [landI, landFs, List.lookup, w]
/-- what is handed as counted and what it becomes -/
inductive CntR : T → T → Prop where
  | non : CntR .non (cntI true true false)
  | is (a b c : Bool) : CntR (cntI a b c) (cntI a b c)
theorem s_Wish (n : Nat) (C : Str) (t u : T) (hd : Hd) (hC : C = "Wish" ∨ C = "LandWish" ∨ C = "EveryLandWish") (h : CntR t u) : iniT (tabX Pr53 (n + 2)) C d_Wish [] [t] hd = some (Out.ok (), whF u, hd) := by
  cases h with
  | non => exact s_Wish_non n C hd hC
  | is a b c => exact s_Wish_cnt n C a b c hd hC
def BARS : List Str := ["double", "needed"]
def SORTS : List Str := ["far", "loose", "bound"]
def barsOf (bars : List Str) : List Str := BARS.filter fun b => decide (b ∈ bars)
def lwFs (u land : T) (cells : List Int) (bars : List Str) : List (Str × T) := [("counted", u), ("land", land), ("cells", .tup ((sortI cells).map T.int)), ("bars", .tup ((barsOf bars).map T.str))]
theorem wordsFrom_ok {menu : List Str} : ∀ (xs seen : List Str), (∀ x ∈ xs, x ∈ menu) → (seen ++ xs).Nodup → wordsFrom menu (xs.map T.str) seen = true
  | [], seen, _, _ => by simp [wordsFrom]
  | x :: xs, seen, h, hn => by
    have hx := h x List.mem_cons_self
    have e : seen ++ x :: xs = (seen ++ [x]) ++ xs := by simp
    have hm : x ∉ seen := fun m => (List.nodup_append.mp hn).2.2 x m x List.mem_cons_self rfl
    have ih := wordsFrom_ok xs (seen ++ [x]) (fun y m => h y (List.mem_cons_of_mem _ m)) (by rw [← e]; exact hn)
    simp [wordsFrom, hx, hm, ih]
/-- words of a menu, none twice -/
structure WordsOk (menu : List Str) (xs : List Str) : Prop where
  rg : ∀ x ∈ xs, x ∈ menu
  nd : xs.Nodup
theorem WordsOk.ok {menu xs : List Str} (h : WordsOk menu xs) (hm : menu.all PyData.strOk = true) : xs.all PyData.strOk = true := List.all_eq_true.mpr fun x m => List.all_eq_true.mp hm x (h.rg x m)
theorem Seq.words {t : T} {menu xs : List Str} (h : Seq t (xs.map T.str)) (ok : WordsOk menu xs) (least : Int) (hl : least ≤ xs.length) : areWords menu t least = true := by
  have := wordsFrom_ok xs [] ok.rg (by simpa using ok.nd)
  simp [areWords, h.row, this, hl]
theorem seq_words {t : T} {menu xs : List Str} (h : Seq t (xs.map T.str)) (ok : xs.all PyData.strOk = true) : ∀ ys, rowOf t = some ys → ∀ x ∈ ys, PlainW x := fun ys e x m => by
  rw [h.row, Option.some.injEq] at e
  subst e
  obtain ⟨s, hs, rfl⟩ := List.mem_map.mp m
  exact List.all_eq_true.mp ok s hs
theorem bars_ok : BARS.all PyData.strOk = true := by simp [BARS]
theorem sorts_ok : SORTS.all PyData.strOk = true := by simp [SORTS]
theorem s_LandWish (n : Nat) (c : Int) (rows : List (Int × Int)) (roads cells : List Int) (bars : List Str) (ct bt cn u : T) (hd : Hd) (hc : Seq ct (cells.map T.int)) (hco : CellsOk c cells) (h5 : c ≤ 5) (hb : Seq bt (bars.map T.str)) (hbo : WordsOk BARS bars)
    (hu : CntR cn u) (h1 : ¬ (cells = [] ∧ bars = [])) (h2 : ¬ (("double" : Str) ∈ bars ∧ 3 < c)) :
    iniT (tabX Pr53 (n + 4)) "LandWish" d_LandWish [] [landI c rows roads, ct, cn, bt] hd = some (Out.ok (), lwFs u (landI c rows roads) cells bars, hd) := by
  have lc := hco.seen.len
  have pl := plain_ints (t := ct) (xs := cells) hc (by omega)
  have w1 := s_is_lot n c 0 rows roads ct hd pl.1 pl.2
  rw [hc.cells hco 0 (by omega)] at w1
  have w2 := s_Wish (n + 1) "LandWish" cn u hd (by simp) hu
  have hbs := hbo.ok bars_ok
  have w3 := s_words (n + 1) BARS bt 0 hd bars_ok hb.plainW (seq_words (menu := BARS) hb hbs)
  rw [hb.words hbo 0 (by omega)] at w3
  have i1 := hb.in_ (a := .str "double") (by simp) (by simpa using hbs)
  have i2 := hb.in_ (a := .str "needed") (by simp) (by simpa using hbs)
  rw [any_str] at i1 i2
  have l1 := hc.len
  have l2 := hb.len
  have eb : (T.tup [T.str "double", T.str "needed"]) = .tup (BARS.map T.str) := rfl
  have hl : ¬ ((cells.length : Int) = 0 ∧ (bars.length : Int) = 0) := fun z => h1 ⟨List.length_eq_zero_iff.mp (by omega), List.length_eq_zero_iff.mp (by omega)⟩
  have ef : fldT (Pr53.base.fld "cells") "cells" (landI c rows roads) = some (.int c) := by simp [landI, landFs, List.lookup]
  have ei : isiT Pr53.base.isi (.c "Land") (landI c rows roads) = some true := by simp [landI]
  have es := hc.sort
  have e3 : ∀ z : Prop, (("double" : Str) ∈ bars → ¬ 3 < c) := fun _ m z => h2 ⟨m, z⟩
  rw [ini_LandWish]
  by_cases q1 : cells = []
  · have q2 : ¬ bars = [] := fun z => h1 ⟨q1, z⟩
    by_cases q3 : ("double" : Str) ∈ bars <;> by_cases q4 : ("needed" : Str) ∈ bars <;> simp [ei, w1, sup_LW, w2, eb, w3, l1, l2, i1, i2, ef, q1, q2, q3, q4, es, BARS, lcL_cons, wipeS, lwFs, barsOf, whF, putT] <;> first | done | (have := e3 True q3; simp [this, i1, i2, q3, q4, lcL_cons, wipeS])
  · by_cases q3 : ("double" : Str) ∈ bars <;> by_cases q4 : ("needed" : Str) ∈ bars <;> simp [ei, w1, sup_LW, w2, eb, w3, l1, l2, i1, i2, ef, q1, q3, q4, es, BARS, lcL_cons, wipeS, lwFs, barsOf, whF, putT] <;> first | done | (have := e3 True q3; simp [this, i1, i2, q3, q4, lcL_cons, wipeS])
end K53
end TL
namespace TL
open PySem PySem.Spec PyProof.Rows L2
namespace K53
/-! ### LandWish refused -/
abbrev Bad (w : Str) (hd : Hd) : Option (Out OT × Hd) := some (.ex "BadWish" (whatF w), hd)
theorem x_land (n : Nat) (l ct cn bt : T) (hd : Hd) (h : isiT Pr53.base.isi (.c "Land") l = some false) : mkK "LandWish" (iniT (tabX Pr53 (n + 1)) "LandWish" d_LandWish [] [l, ct, cn, bt] hd) = Bad "land" hd := by
  rw [ini_LandWish]
  simp [h, fieldsT, whatF]
section
variable (n : Nat) (c : Int) (rows : List (Int × Int)) (roads : List Int) (ct cn bt : T) (hd : Hd)
theorem isLand : isiT Pr53.base.isi (.c "Land") (landI c rows roads) = some true := by simp [landI]
theorem x_cells (hp : Plain ct) (hi : ∀ xs, rowOf ct = some xs → (∀ x ∈ xs, Plain x) ∧ xs.length < 10000) (h : areCells c ct 0 = false) :
    mkK "LandWish" (iniT (tabX Pr53 (n + 4)) "LandWish" d_LandWish [] [landI c rows roads, ct, cn, bt] hd) = Bad "cells" hd := by
  have w1 := s_is_lot n c 0 rows roads ct hd hp hi
  rw [h] at w1
  rw [ini_LandWish]
  simp [isLand, w1, fieldsT, whatF]
theorem x_counted (hp : Plain ct) (hi : ∀ xs, rowOf ct = some xs → (∀ x ∈ xs, Plain x) ∧ xs.length < 10000) (h : areCells c ct 0 = true) (hc : Plain cn) (hn : cn ≠ .non) :
    mkK "LandWish" (iniT (tabX Pr53 (n + 4)) "LandWish" d_LandWish [] [landI c rows roads, ct, cn, bt] hd) = Bad "counted" hd := by
  have w1 := s_is_lot n c 0 rows roads ct hd hp hi
  rw [h] at w1
  have w2 := s_Wish_bad (n + 2) "LandWish" cn hd hc hn
  rw [ini_LandWish]
  simp [isLand, w1, sup_LW, w2]
theorem x_bars (hp : Plain ct) (hi : ∀ xs, rowOf ct = some xs → (∀ x ∈ xs, Plain x) ∧ xs.length < 10000) (h : areCells c ct 0 = true) {u : T} (hc : CntR cn u) (hb : PlainW bt) (hx : ∀ xs, rowOf bt = some xs → ∀ x ∈ xs, PlainW x) (hw : areWords BARS bt 0 = false) :
    mkK "LandWish" (iniT (tabX Pr53 (n + 4)) "LandWish" d_LandWish [] [landI c rows roads, ct, cn, bt] hd) = Bad "bars" hd := by
  have w1 := s_is_lot n c 0 rows roads ct hd hp hi
  rw [h] at w1
  have w2 := s_Wish (n + 1) "LandWish" cn u hd (by simp) hc
  have w3 := s_words (n + 1) BARS bt 0 hd bars_ok hb hx
  rw [hw] at w3
  have eb : (T.tup [T.str "double", T.str "needed"]) = .tup (BARS.map T.str) := rfl
  rw [ini_LandWish]
  simp [isLand, w1, sup_LW, w2, eb, w3, fieldsT, whatF]
theorem x_empty (hp : Seq ct []) {u : T} (hc : CntR cn u) (hb : Seq bt []) :
    mkK "LandWish" (iniT (tabX Pr53 (n + 4)) "LandWish" d_LandWish [] [landI c rows roads, ct, cn, bt] hd) = Bad "empty" hd := by
  have w1 := s_is_lot n c 0 rows roads ct hd hp.plain (fun xs e => by rw [hp.row, Option.some.injEq] at e; subst e; simp)
  rw [show areCells c ct 0 = true by simp [areCells, hp.row, cellsFrom]] at w1
  have w2 := s_Wish (n + 1) "LandWish" cn u hd (by simp) hc
  have w3 := s_words (n + 1) BARS bt 0 hd bars_ok hb.plainW (fun xs e => by rw [hb.row, Option.some.injEq] at e; subst e; simp)
  rw [show areWords BARS bt 0 = true by simp [areWords, hb.row, wordsFrom]] at w3
  have eb : (T.tup [T.str "double", T.str "needed"]) = .tup (BARS.map T.str) := rfl
  have l1 := hp.len
  have l2 := hb.len
  rw [ini_LandWish]
  simp [isLand, w1, sup_LW, w2, eb, w3, l1, l2, fieldsT, whatF]
theorem x_wide {cells : List Int} {bars : List Str} (hp : Seq ct (cells.map T.int)) (hco : CellsOk c cells) (h5 : c ≤ 5) (hb : Seq bt (bars.map T.str)) (hbo : WordsOk BARS bars) {u : T} (hu : CntR cn u) (hd1 : ("double" : Str) ∈ bars) (h3 : 3 < c) :
    mkK "LandWish" (iniT (tabX Pr53 (n + 4)) "LandWish" d_LandWish [] [landI c rows roads, ct, cn, bt] hd) = Bad "wide" hd := by
  have lc := hco.seen.len
  have pl := plain_ints (t := ct) (xs := cells) hp (by omega)
  have w1 := s_is_lot n c 0 rows roads ct hd pl.1 pl.2
  rw [hp.cells hco 0 (by omega)] at w1
  have w2 := s_Wish (n + 1) "LandWish" cn u hd (by simp) hu
  have hbs := hbo.ok bars_ok
  have w3 := s_words (n + 1) BARS bt 0 hd bars_ok hb.plainW (seq_words (menu := BARS) hb hbs)
  rw [hb.words hbo 0 (by omega)] at w3
  have i1 := hb.in_ (a := .str "double") (by simp) (by simpa using hbs)
  rw [any_str, decide_eq_true hd1] at i1
  have l1 := hp.len
  have l2 := hb.len
  have eb : (T.tup [T.str "double", T.str "needed"]) = .tup (BARS.map T.str) := rfl
  have q2 : ¬ bars = [] := fun z => by rw [z] at hd1; cases hd1
  have ef : fldT (Pr53.base.fld "cells") "cells" (landI c rows roads) = some (.int c) := by simp [landI, landFs, List.lookup]
  rw [ini_LandWish]
  by_cases q1 : cells = [] <;> simp [isLand, w1, sup_LW, w2, eb, w3, l1, l2, i1, ef, q1, q2, h3, fieldsT, whatF]
end
/-! ### EveryLandWish -/
def sortsOf (sorts : List Str) : List Str := SORTS.filter fun b => decide (b ∈ sorts)
def ewFs (u : T) (sorts : List Str) : List (Str × T) := [("counted", u), ("sorts", .tup ((sortsOf sorts).map T.str))]
theorem s_EveryLandWish (n : Nat) (sorts : List Str) (st cn u : T) (hd : Hd) (hb : Seq st (sorts.map T.str)) (hbo : WordsOk SORTS sorts) (h0 : sorts ≠ []) (hu : CntR cn u) :
    iniT (tabX Pr53 (n + 3)) "EveryLandWish" d_EveryLandWish [] [st, cn] hd = some (Out.ok (), ewFs u sorts, hd) := by
  have w2 := s_Wish n "EveryLandWish" cn u hd (by simp) hu
  have hbs := hbo.ok sorts_ok
  have w3 := s_words n SORTS st 1 hd sorts_ok hb.plainW (seq_words (menu := SORTS) hb hbs)
  rw [hb.words hbo 1 (by have := List.length_pos_iff.mpr h0; omega)] at w3
  have i1 := hb.in_ (a := .str "far") (by simp) (by simpa using hbs)
  have i2 := hb.in_ (a := .str "loose") (by simp) (by simpa using hbs)
  have i3 := hb.in_ (a := .str "bound") (by simp) (by simpa using hbs)
  rw [any_str] at i1 i2 i3
  have eb : (T.tup [T.str "far", T.str "loose", T.str "bound"]) = .tup (SORTS.map T.str) := rfl
  rw [ini_EveryLandWish]
  by_cases q1 : ("far" : Str) ∈ sorts <;> by_cases q2 : ("loose" : Str) ∈ sorts <;> by_cases q3 : ("bound" : Str) ∈ sorts <;> simp [sup_EW, w2, eb, w3, i1, i2, i3, q1, q2, q3, SORTS, lcL_cons, wipeS, ewFs, sortsOf, whF, putT]
theorem x_sorts (n : Nat) (st cn : T) (hd : Hd) (hb : PlainW st) (hx : ∀ xs, rowOf st = some xs → ∀ x ∈ xs, PlainW x) (hw : areWords SORTS st 1 = false) :
    mkK "EveryLandWish" (iniT (tabX Pr53 (n + 3)) "EveryLandWish" d_EveryLandWish [] [st, cn] hd) = Bad "sorts" hd := by
  have w3 := s_words n SORTS st 1 hd sorts_ok hb hx
  rw [hw] at w3
  have eb : (T.tup [T.str "far", T.str "loose", T.str "bound"]) = .tup (SORTS.map T.str) := rfl
  rw [ini_EveryLandWish]
  simp [eb, w3, fieldsT, whatF]
theorem x_ecounted (n : Nat) (sorts : List Str) (st cn : T) (hd : Hd) (hb : Seq st (sorts.map T.str)) (hbo : WordsOk SORTS sorts) (h0 : sorts ≠ []) (hc : Plain cn) (hn : cn ≠ .non) :
    mkK "EveryLandWish" (iniT (tabX Pr53 (n + 3)) "EveryLandWish" d_EveryLandWish [] [st, cn] hd) = Bad "counted" hd := by
  have w2 := s_Wish_bad (n + 1) "EveryLandWish" cn hd hc hn
  have hbs := hbo.ok sorts_ok
  have w3 := s_words n SORTS st 1 hd sorts_ok hb.plainW (seq_words (menu := SORTS) hb hbs)
  rw [hb.words hbo 1 (by have := List.length_pos_iff.mpr h0; omega)] at w3
  have eb : (T.tup [T.str "far", T.str "loose", T.str "bound"]) = .tup (SORTS.map T.str) := rfl
  rw [ini_EveryLandWish]
  simp [sup_EW, w2, eb, w3]
end K53
end TL
namespace TL
open PySem PySem.Spec PyProof.Rows L2
namespace K53
/-! ### == of the instances -/
theorem eqs_Land (n : Nat) : (tabX Pr53 (n + 1)).t.eqt.eqs "Land" = some (runC (tabX Pr53 n).t c_Land___eq__) := by kernel_rfl
theorem eqs_Counted (n : Nat) : (tabX Pr53 (n + 1)).t.eqt.eqs "Counted" = some (runC (tabX Pr53 n).t c_Counted___eq__) := by kernel_rfl
theorem eqs_Wish (n : Nat) : (tabX Pr53 (n + 1)).t.eqt.eqs "Wish" = some (runC (tabX Pr53 n).t c_Wish___eq__) := by kernel_rfl
theorem eqs_LandWish (n : Nat) : (tabX Pr53 (n + 1)).t.eqt.eqs "LandWish" = some (runC (tabX Pr53 n).t c_LandWish___eq__) := by kernel_rfl
theorem eqs_EveryLandWish (n : Nat) : (tabX Pr53 (n + 1)).t.eqt.eqs "EveryLandWish" = some (runC (tabX Pr53 n).t c_EveryLandWish___eq__) := by kernel_rfl
section
variable (n : Nat) (S : Slots) (hd : Hd)
theorem q_Counted (a b c a' b' c' : Bool) : eqM (tabX Pr53 (n + 2)).t.eqt false (cntI a b c) (cntI a' b' c') S hd = some (.ok (decide ((a, b, c) = (a', b', c'))), S, hd) :=
  eqM_ins (by kernel_rfl) (by kernel_rfl) (eqs_Counted (n + 1)) (s_Counted_eq n a b c a' b' c' hd)
theorem q_Land (neg : Bool) (c c' : Int) (rows rows' : List (Int × Int)) (roads roads' : List Int) : eqM (tabX Pr53 (n + 2)).t.eqt neg (landI c rows roads) (landI c' rows' roads') S hd = some (.ok (if neg then !decide (c = c' ∧ sortP rows = sortP rows' ∧ sortI roads = sortI roads') else decide (c = c' ∧ sortP rows = sortP rows' ∧ sortI roads = sortI roads')), S, hd) :=
  eqM_ins (by kernel_rfl) (by kernel_rfl) (eqs_Land (n + 1)) (s_Land_eq n c c' rows rows' roads roads' hd)
end
/-- a wish in short -/
structure Cnt where
  a : Bool
  b : Bool
  g : Bool
  deriving DecidableEq
def Cnt.i (u : Cnt) : T := cntI u.a u.b u.g
def wI (u : Cnt) : T := .ins "Wish" (whF u.i)
def ewI (u : Cnt) (sorts : List Str) : T := .ins "EveryLandWish" (ewFs u.i sorts)
structure Lnd where
  c : Int
  rows : List (Int × Int)
  roads : List Int
def Lnd.i (l : Lnd) : T := landI l.c l.rows l.roads
def Lnd.same (l m : Lnd) : Prop := l.c = m.c ∧ sortP l.rows = sortP m.rows ∧ sortI l.roads = sortI m.roads
instance (l m : Lnd) : Decidable (l.same m) := by unfold Lnd.same; infer_instance
def lwI (u : Cnt) (l : Lnd) (cells : List Int) (bars : List Str) : T := .ins "LandWish" (lwFs u.i l.i cells bars)
theorem q_Cnt (n : Nat) (S : Slots) (hd : Hd) (u v : Cnt) : eqM (tabX Pr53 (n + 2)).t.eqt false u.i v.i S hd = some (.ok (decide (u = v)), S, hd) := by
  obtain ⟨a, b, c⟩ := u
  obtain ⟨a', b', c'⟩ := v
  have := q_Counted n S hd a b c a' b' c'
  simp only [Cnt.i, this]
  congr 3
  simp
theorem q_Lnd (n : Nat) (S : Slots) (hd : Hd) (neg : Bool) (l m : Lnd) : eqM (tabX Pr53 (n + 2)).t.eqt neg l.i m.i S hd = some (.ok (if neg then !decide (l.same m) else decide (l.same m)), S, hd) := q_Land n S hd neg _ _ _ _ _ _
theorem barsOf_ok (bars : List Str) : (barsOf bars).all PyData.strOk = true := List.all_eq_true.mpr fun x m => List.all_eq_true.mp bars_ok x (List.mem_filter.mp m).1
theorem sortsOf_ok (bars : List Str) : (sortsOf bars).all PyData.strOk = true := List.all_eq_true.mpr fun x m => List.all_eq_true.mp sorts_ok x (List.mem_filter.mp m).1
theorem s_LandWish_eq (n : Nat) (hd : Hd) (u v : Cnt) (l m : Lnd) (cs ds : List Int) (bs es : List Str) :
    runC (tabX Pr53 (n + 2)).t c_LandWish___eq__ [lwI u l cs bs, lwI v m ds es] hd = some (.ok (.v (.bl (decide (u = v ∧ l.same m ∧ sortI cs = sortI ds ∧ barsOf bs = barsOf es)))), hd) := by
  have b1 := barsOf_ok bs
  have b2 := barsOf_ok es
  rw [mir_LandWish___eq__]
  simp [lwI, lwFs, List.lookup, q_Cnt, q_Lnd, -List.all_eq_true]
  by_cases h1 : u = v <;> by_cases h2 : l.same m <;> by_cases h3 : sortI cs = sortI ds <;> simp [h1, h2, h3, b1, b2, -List.all_eq_true]
theorem s_LandWish_ne (n : Nat) (hd : Hd) (u : Cnt) (l : Lnd) (cs : List Int) (bs : List Str) (y : T) (h : isiT Pr53.base.isi (.c "LandWish") y = some false) :
    runC (tabX Pr53 (n + 1)).t c_LandWish___eq__ [lwI u l cs bs, y] hd = some (.ok (.v (.bl false)), hd) := by
  rw [mir_LandWish___eq__]
  simp [h]
theorem s_EveryLandWish_eq (n : Nat) (hd : Hd) (u v : Cnt) (bs es : List Str) :
    runC (tabX Pr53 (n + 2)).t c_EveryLandWish___eq__ [ewI u bs, ewI v es] hd = some (.ok (.v (.bl (decide (u = v ∧ sortsOf bs = sortsOf es)))), hd) := by
  have b1 := sortsOf_ok bs
  have b2 := sortsOf_ok es
  rw [mir_EveryLandWish___eq__]
  simp [ewI, ewFs, List.lookup, q_Cnt, -List.all_eq_true]
  by_cases h1 : u = v <;> simp [h1, b1, b2, -List.all_eq_true]
theorem s_EveryLandWish_ne (n : Nat) (hd : Hd) (u : Cnt) (bs : List Str) (y : T) (h : isiT Pr53.base.isi (.c "EveryLandWish") y = some false) :
    runC (tabX Pr53 (n + 1)).t c_EveryLandWish___eq__ [ewI u bs, y] hd = some (.ok (.v (.bl false)), hd) := by
  rw [mir_EveryLandWish___eq__]
  simp [h]
theorem s_Wish_eq (n : Nat) (hd : Hd) (u v : Cnt) : runC (tabX Pr53 (n + 2)).t c_Wish___eq__ [wI u, wI v] hd = some (.ok (.v (.bl (decide (u = v)))), hd) := by
  rw [mir_Wish___eq__]
  simp [wI, whF, List.lookup, q_Cnt]
end K53
end TL
namespace TL
open PySem PySem.Spec PyProof.Rows L2
namespace K53
/-! ### things -/
def shutT (i : Int) : T := .tup [.str "shut", .tup [.int i]]
def needT (i : Int) : T := .tup [.str "needed", .tup [.int i]]
def dblT (i j : Int) : T := .tup [.str "double", .tup [.int i, .int j]]
def dbl (c : Int) : List T := if c = 2 then [dblT 0 1] else if c = 3 then [dblT 0 1, dblT 0 2, dblT 1 2] else []
def thL (c : Int) (cs : List Int) (bs : List Str) : List T := (sortI cs).map shutT ++ ((if ("double" : Str) ∈ bs then dbl c else []) ++ (if ("needed" : Str) ∈ bs then (rngI c).map needT else []))
def sortTh (s : Str) : T := .tup [.str s, .tup []]
theorem mem_barsOf {b : Str} {bs : List Str} (h : b ∈ BARS) : b ∈ barsOf bs ↔ b ∈ bs := by
  unfold barsOf
  rw [List.mem_filter]
  simp [h]
theorem lw_th2 (n : Nat) (t : T) (X : List T) (hd : Hd) (c : Int) (h : c = 2 ∨ c = 3) :
    mLc2 [4, 5] [5] (mItemsA (nmV 1)) (gNm 4) (M.ret true) (mItemsA (nmV 1)) (gNm 5) (lb_LandWish_things_2d n) (lb_LandWish_things_2e n) [some (.v t), some (.v (.rng 0 c)), some (.f X), none, none, none] hd = some (.ok (.f (dbl c)), [some (.v t), some (.v (.rng 0 c)), some (.f X), none, none, none], hd) := by
  rcases h with rfl | rfl <;> kernel_rfl
theorem lw_th3 (n : Nat) (t : T) (X : List T) (hd : Hd) (c : Int) (h : c = 2 ∨ c = 3 ∨ c = 4 ∨ c = 5) :
    mLc [3] (mItemsA (nmV 1)) (gNm 3) (M.ret true) (lb_LandWish_things_3e n) [some (.v t), some (.v (.rng 0 c)), some (.f X), none, none, none] hd = some (.ok (.f ((rngI c).map needT)), [some (.v t), some (.v (.rng 0 c)), some (.f X), none, none, none], hd) := by
  rcases h with rfl | rfl | rfl | rfl <;> kernel_rfl
theorem len_sortI (xs : List Int) : (sortI xs).length = xs.length := (perm_sortI xs).length_eq
theorem dbl_len (c : Int) : (dbl c).length ≤ 3 := by
  unfold dbl
  split
  · simp
  · split <;> simp
theorem s_LandWish_things (n : Nat) (hd : Hd) (u : Cnt) (l : Lnd) (cs : List Int) (bs : List Str) (hc : l.c = 2 ∨ l.c = 3 ∨ l.c = 4 ∨ l.c = 5) (hl : cs.length ≤ 5) (hd2 : ("double" : Str) ∈ bs → l.c = 2 ∨ l.c = 3) :
    runC (tabX Pr53 (n + 1)).t c_LandWish_things [lwI u l cs bs] hd = some (.ok (.v (.tup (thL l.c cs bs))), hd) := by
  have ls := len_sortI cs
  have ld := dbl_len l.c
  have lr := length_rngI l.c
  have b0 := barsOf_ok bs
  have m1 := mem_barsOf (b := "double") (bs := bs) (by simp [BARS])
  have m2 := mem_barsOf (b := "needed") (bs := bs) (by simp [BARS])
  have e1 : fldT (Pr53.base.fld "land") "land" (lwI u l cs bs) = some l.i := by simp [lwI, lwFs, List.lookup]
  have e2 : fldT (Pr53.base.fld "cells") "cells" l.i = some (.int l.c) := by simp [Lnd.i, landI, landFs, List.lookup]
  have e3 : fldT (Pr53.base.fld "cells") "cells" (lwI u l cs bs) = some (.tup ((sortI cs).map T.int)) := by simp [lwI, lwFs, List.lookup]
  have e4 : fldT (Pr53.base.fld "bars") "bars" (lwI u l cs bs) = some (.tup ((barsOf bs).map T.str)) := by simp [lwI, lwFs, List.lookup]
  have hl1 := lcL_mapT (S := [some (.v (lwI u l cs bs)), some (.v (.rng 0 l.c)), none, none, none, none]) (hd := hd) (vs := [3]) (g := gNm 3) (e := lb_LandWish_things_1e n) (fun t => .tup [.str "shut", .tup [t]]) (xs := (sortI cs).map T.int) (acc := []) (fun x hx => ⟨_, _, by simp; rfl, by simp [lb_LandWish_things_1e]; rfl, by simp [wipeS]⟩) (by simp; omega)
  have hmap : ((sortI cs).map T.int).map (fun t => T.tup [.str "shut", .tup [t]]) = (sortI cs).map shutT := by simp [shutT, Function.comp_def]
  rw [hmap] at hl1
  have hl2 : mLc [3] (mItemsA (mFld (Pr53.base.fld "cells") "cells" (peek 0))) (gNm 3) (M.ret true) (lb_LandWish_things_1e n) [some (.v (lwI u l cs bs)), some (.v (.rng 0 l.c)), none, none, none, none] hd = some (.ok (.f ((sortI cs).map shutT)), [some (.v (lwI u l cs bs)), some (.v (.rng 0 l.c)), none, none, none, none], hd) := by
    rw [mLc_ap]
    simp [e3, wipeS, hl1]
  have t3 := fun X => lw_th3 n (lwI u l cs bs) X hd l.c hc
  rw [mir_LandWish_things]
  have z1 : cs.length + l.c.toNat < 10000 := by omega
  by_cases q1 : ("double" : Str) ∈ bs
  · have t2 := fun X => lw_th2 n (lwI u l cs bs) X hd l.c (hd2 q1)
    have z2 : cs.length + (dbl l.c).length < 10000 := by omega
    have z3 : cs.length + (dbl l.c).length + l.c.toNat < 10000 := by omega
    by_cases q2 : ("needed" : Str) ∈ bs <;> simp [e1, e2, e4, rng1T, hl2, m1, m2, q1, q2, b0, t2, t3, -List.all_eq_true, -mLc_ap, -mLc2_ap, thL, ls, lr, z1, z2, z3]
  · by_cases q2 : ("needed" : Str) ∈ bs <;> simp [e1, e2, e4, rng1T, hl2, m1, m2, q1, q2, b0, t3, -List.all_eq_true, -mLc_ap, -mLc2_ap, thL, ls, lr, z1]
/-! the law's own things -/
structure CtOk (c : Int) : Prop where
  is : c = 2 ∨ c = 3 ∨ c = 4 ∨ c = 5
def cntT (u : Cnt) : T := .tup [.bl u.a, .bl u.b, .bl u.g]
def lndT (l : Lnd) : T := .tup [.int l.c, .lst (l.rows.map pairT), .lst (l.roads.map T.int)]
def lwT (u : Cnt) (l : Lnd) (cs : List Int) (bs : List Str) : T := .tup [.str "land", lndT l, .lst (cs.map T.int), .lst (bs.map T.str), cntT u]
def ewT (u : Cnt) (ss : List Str) : T := .tup [.str "every", .lst (ss.map T.str), cntT u]
theorem lt_need (n : Nat) (t : T) (X : List T) (hd : Hd) (c : Int) (h : c = 2 ∨ c = 3 ∨ c = 4 ∨ c = 5) (o5 : Option OT) :
    mLc [4] (mRng rng1 (mCons (nmV 2) (M.ret []))) (gNm 4) (M.ret true) (lb__law_things_5e n) [some (.v t), none, some (.v (.int c)), some (.f X), none, o5, none] hd = some (.ok (.f ((rngI c).map needT)), [some (.v t), none, some (.v (.int c)), some (.f X), none, o5, none], hd) := by
  rcases h with rfl | rfl | rfl | rfl <;> kernel_rfl
theorem lt_dbl (n : Nat) (t : T) (X : List T) (hd : Hd) (c : Int) (h : c = 2 ∨ c = 3) (hX : X.length ≤ 5) :
    ∃ o5, forL (gNm 5) (lb__law_things_4b n) (rngL 0 c) [some (.v t), none, some (.v (.int c)), some (.f X), none, none, none] hd = some (.next, [some (.v t), none, some (.v (.int c)), some (.f (X ++ dbl c)), none, o5, none], hd) := by
  have k1 : ∀ (i c : Int) (X : List T) (Y : List T) (o5 : Option OT), (∀ (t : T) (X : List T) (hd : Hd), mLc [6] (mRng rng2 (mCons (M.map OT.fz (mOpN addT 5 (M.ret (.int (1))))) (mCons (nmV 2) (M.ret [])))) (gNm 6) (M.ret true) (lb__law_things_3e n) [some (.v t), none, some (.v (.int c)), some (.f X), none, some (.v (.int i)), none] hd = some (.ok (.f Y), [some (.v t), none, some (.v (.int c)), some (.f X), none, some (.v (.int i)), none], hd)) → X.length + Y.length ≤ 100000 →
      lb__law_things_4b n [some (.v t), none, some (.v (.int c)), some (.f X), none, some (.v (.int i)), none] hd = some (.next, [some (.v t), none, some (.v (.int c)), some (.f (X ++ Y)), none, some (.v (.int i)), none], hd) := fun i c X Y o5 h hl => by
    simp [lb__law_things_4b, h, -mLc_ap, addT, hl]
  rcases h with rfl | rfl
  · have a0 := k1 0 2 X [dblT 0 1] none (fun _ _ _ => by kernel_rfl) (by simp; omega)
    have a1 := k1 1 2 (X ++ [dblT 0 1]) [] none (fun _ _ _ => by kernel_rfl) (by simp; omega)
    have e : rngL 0 2 = [.int 0, .int 1] := rfl
    simp only [List.append_nil] at a1
    exact ⟨some (.v (.int 1)), by rw [e]; simp [forL_cons, a0, a1, dbl]⟩
  · have a0 := k1 0 3 X [dblT 0 1, dblT 0 2] none (fun _ _ _ => by kernel_rfl) (by simp; omega)
    have a1 := k1 1 3 (X ++ [dblT 0 1, dblT 0 2]) [dblT 1 2] none (fun _ _ _ => by kernel_rfl) (by simp; omega)
    have a2 := k1 2 3 (X ++ [dblT 0 1, dblT 0 2] ++ [dblT 1 2]) [] none (fun _ _ _ => by kernel_rfl) (by simp; omega)
    have e : rngL 0 3 = [.int 0, .int 1, .int 2] := rfl
    simp only [List.append_nil, List.append_assoc, List.cons_append, List.nil_append] at a1 a2
    exact ⟨some (.v (.int 2)), by rw [e]; simp [forL_cons, a0, a1, a2, dbl]⟩
theorem s_law_things_l (n : Nat) (hd : Hd) (u : Cnt) (l : Lnd) (cs : List Int) (bs : List Str) (hb : bs.all PyData.strOk = true) (hc : l.c = 2 ∨ l.c = 3 ∨ l.c = 4 ∨ l.c = 5) (hl : cs.length ≤ 5) (hd2 : ("double" : Str) ∈ bs → l.c = 2 ∨ l.c = 3) :
    runC (tabX Pr53 (n + 1)).t c__law_things [lwT u l cs bs] hd = some (.ok (.f (thL l.c cs bs)), hd) := by
  have ls := len_sortI cs
  have ld := dbl_len l.c
  have lr := length_rngI l.c
  have hl1 := lcL_mapT (S := [some (.v (lwT u l cs bs)), none, some (.v (.int l.c)), none, none, none, none]) (hd := hd) (vs := [4]) (g := gNm 4) (e := lb__law_things_2e n) (fun t => .tup [.str "shut", .tup [t]]) (xs := (sortI cs).map T.int) (acc := []) (fun x hx => ⟨_, _, by simp; rfl, by simp [lb__law_things_2e]; rfl, by simp [wipeS]⟩) (by simp; omega)
  have hmap : ((sortI cs).map T.int).map (fun t => T.tup [.str "shut", .tup [t]]) = (sortI cs).map shutT := by simp [shutT, Function.comp_def]
  rw [hmap] at hl1
  have hl2 : mLc [4] (mItemsA (M.map OT.fz (mUn sortT (M.map OT.fz (mOpH ixH 0 (M.ret (.int (2)))))))) (gNm 4) (M.ret true) (lb__law_things_2e n) [some (.v (lwT u l cs bs)), none, some (.v (.int l.c)), none, none, none, none] hd = some (.ok (.f ((sortI cs).map shutT)), [some (.v (lwT u l cs bs)), none, some (.v (.int l.c)), none, none, none, none], hd) := by
    rw [mLc_ap]
    simp [lwT, wipeS] 
    simp [lwT] at hl1
    simp [hl1]
  have t3 := fun X o5 => lt_need n (lwT u l cs bs) X hd l.c hc o5
  have okr : rngOk l.c = true := by simp [rngOk]; omega
  have z1 : cs.length + l.c.toNat ≤ 100000 := by omega
  have f0 : ixH hd (lwT u l cs bs) (.int 0) = some (.v (.str "land")) := by simp [lwT]
  have f1 : ixH hd (lwT u l cs bs) (.int 1) = some (.v (lndT l)) := by simp [lwT]
  have f3 : ixH hd (lwT u l cs bs) (.int 3) = some (.v (.lst (bs.map T.str))) := by simp [lwT]
  have f4 : ixT (lndT l) (.int 0) = some (.v (.int l.c)) := by simp [lndT]
  rw [mir__law_things]
  by_cases q1 : ("double" : Str) ∈ bs
  · obtain ⟨o5, hf⟩ := lt_dbl n (lwT u l cs bs) ((sortI cs).map shutT) hd l.c (hd2 q1) (by simp; omega)
    have z2 : cs.length + (dbl l.c).length + l.c.toNat ≤ 100000 := by omega
    by_cases q2 : ("needed" : Str) ∈ bs <;> simp [f0, f1, f3, f4, hl2, hb, q1, q2, rng1, okr, hf, t3, -List.all_eq_true, -mLc_ap, thL, addT, ls, lr, z2]
  · by_cases q2 : ("needed" : Str) ∈ bs <;> simp [f0, f1, f3, f4, hl2, hb, q1, q2, rng1, okr, t3, -List.all_eq_true, -mLc_ap, thL, addT, ls, lr, z1]
end K53
end TL
namespace TL
open PySem PySem.Spec PyProof.Rows L2
namespace K53
theorem s_EveryLandWish_things (n : Nat) (hd : Hd) (u : Cnt) (ss : List Str) :
    runC (tabX Pr53 (n + 1)).t c_EveryLandWish_things [ewI u ss] hd = some (.ok (.v (.tup ((sortsOf ss).map sortTh))), hd) := by
  have l1 : (sortsOf ss).length ≤ 3 := List.length_filter_le _ SORTS
  have e1 : fldT (Pr53.base.fld "sorts") "sorts" (ewI u ss) = some (.tup ((sortsOf ss).map T.str)) := by simp [ewI, ewFs, List.lookup]
  have hl1 := lcL_mapT (S := [some (.v (ewI u ss)), none]) (hd := hd) (vs := [1]) (g := gNm 1) (e := lb_EveryLandWish_things_1e n) (fun t => .tup [t, .tup []]) (xs := (sortsOf ss).map T.str) (acc := []) (fun x hx => ⟨_, _, by simp; rfl, by simp [lb_EveryLandWish_things_1e]; rfl, by simp [wipeS]⟩) (by simp; omega)
  have hmap : ((sortsOf ss).map T.str).map (fun t => T.tup [t, .tup []]) = (sortsOf ss).map sortTh := by simp [sortTh, Function.comp_def]
  rw [hmap] at hl1
  rw [mir_EveryLandWish_things]
  simp [e1, wipeS, hl1]
theorem s_law_things_e (n : Nat) (hd : Hd) (u : Cnt) (ss : List Str) (hb : ss.all PyData.strOk = true) :
    runC (tabX Pr53 (n + 1)).t c__law_things [ewT u ss] hd = some (.ok (.f ((sortsOf ss).map sortTh)), hd) := by
  have f0 : ixH hd (ewT u ss) (.int 0) = some (.v (.str "every")) := by simp [ewT]
  have f1 : ixH hd (ewT u ss) (.int 1) = some (.v (.lst (ss.map T.str))) := by simp [ewT]
  rw [mir__law_things]
  by_cases q1 : ("far" : Str) ∈ ss <;> by_cases q2 : ("loose" : Str) ∈ ss <;> by_cases q3 : ("bound" : Str) ∈ ss <;> simp [f0, f1, hb, q1, q2, q3, lcL_cons, wipeS, lb__law_things_1c, lb__law_things_1e, sortsOf, SORTS, sortTh, -List.all_eq_true]
theorem s_Wish_things (n : Nat) (hd : Hd) (u : Cnt) : runC (tabX Pr53 (n + 1)).t c_Wish_things [wI u] hd = some (.ok (.v (.tup [])), hd) := by
  rw [mir_Wish_things]
  simp
/-! ### the hand -/
def mixV (a b : Int) : Int :=
  let once := (a * 48271 + b * 16807 + 11) % 2147483647
  let twice := (once * once + once / 127 * 40692 + b * 69621) % 2147483399
  (twice * twice / 1009 + once) % 2147483563 / 16
theorem log2_le {i : Int} {k : Nat} (h : i.natAbs < 2 ^ k) (h0 : 0 < k) : i.natAbs.log2 < k := PySem.Flt.log2_lt_of h0 h
theorem mulT_i {i j : Int} (hi : i.natAbs < 2 ^ 1000) (hj : j.natAbs < 2 ^ 1000) : mulT (.int i) (.int j) = some (.v (.int (i * j))) := by
  have h1 := log2_le hi (by decide)
  have h2 := log2_le hj (by decide)
  show (if i.natAbs.log2 + j.natAbs.log2 < 100000000 then some (OT.v (.int (i * j))) else none) = _
  rw [if_pos (by omega)]
theorem big {i : Int} (h : i.natAbs < 2 ^ 64) : i.natAbs < 2 ^ 1000 := Nat.lt_of_lt_of_le h (Nat.pow_le_pow_right (by decide) (by decide))
theorem modT_i {i j : Int} (h : 0 < j) : modT (.int i) (.int j) = some (.v (.int (i % j))) := by
  show (if decide (0 < j) = true then some (OT.v (.int (i % j))) else none) = _
  rw [if_pos (decide_eq_true h)]
theorem fdivT_i {i j : Int} (h : 0 < j) (h2 : j.natAbs < 2 ^ 64) : fdivT (.int i) (.int j) = some (.v (.int (i / j))) := by
  have := log2_le h2 (by decide)
  show (if divOk i j = true then some (OT.v (.int (i / j))) else none) = _
  rw [if_pos (by unfold divOk; exact decide_eq_true ⟨h, by omega⟩)]
theorem natAbs_lt {i : Int} {k : Nat} (h1 : -(k : Int) < i) (h2 : i < k) : i.natAbs < k := by omega
theorem s_mix (n : Nat) (a b : Int) (hd : Hd) (ha : 0 ≤ a ∧ a < 2147483647) (hb : 0 ≤ b ∧ b ≤ 100) :
    runC (tabX Pr53 (n + 1)).t c__law_mix [.int a, .int b] hd = some (.ok (.v (.int (mixV a b))), hd) := by
  have d1 : ∀ i : Int, modT (.int i) (.int 2147483647) = some (.v (.int (i % 2147483647))) := fun i => modT_i (by decide)
  have d2 : ∀ i : Int, modT (.int i) (.int 2147483399) = some (.v (.int (i % 2147483399))) := fun i => modT_i (by decide)
  have d3 : ∀ i : Int, modT (.int i) (.int 2147483563) = some (.v (.int (i % 2147483563))) := fun i => modT_i (by decide)
  have d4 : ∀ i : Int, fdivT (.int i) (.int 127) = some (.v (.int (i / 127))) := fun i => fdivT_i (by decide) (by decide)
  have d5 : ∀ i : Int, fdivT (.int i) (.int 1009) = some (.v (.int (i / 1009))) := fun i => fdivT_i (by decide) (by decide)
  have d6 : ∀ i : Int, fdivT (.int i) (.int 16) = some (.v (.int (i / 16))) := fun i => fdivT_i (by decide) (by decide)
  have small : ∀ {i : Int}, 0 ≤ i → i < 2147483648 → i.natAbs < 2 ^ 1000 := fun h1 h2 => big (by omega)
  have m1 := mulT_i (i := a) (j := 48271) (small ha.1 (by omega)) (small (by decide) (by decide))
  have m2 := mulT_i (i := b) (j := 16807) (small hb.1 (by omega)) (small (by decide) (by decide))
  have m3 := mulT_i (i := b) (j := 69621) (small hb.1 (by omega)) (small (by decide) (by decide))
  have o1 : 0 ≤ (a * 48271 + b * 16807 + 11) % 2147483647 := Int.emod_nonneg _ (by decide)
  have o2 : (a * 48271 + b * 16807 + 11) % 2147483647 < 2147483647 := Int.emod_lt_of_pos _ (by decide)
  rw [mir__law_mix]
  simp only [runS_ap, sSeq_ap, sPut_ap, mOp_ap, mUn_ap, mOpN_ap, M.map_ap, M.ret_ap, peek_ap, sRet_ap, slots0_ap, List.map_cons, List.map_nil, List.length_cons, List.length_nil, List.cons_append, List.nil_append, Nat.reduceAdd, Nat.reduceSub, List.replicate, rk_ok, rdS_0, rdS_s, pkK_v, ok?_some, fz_v, m1, m2, addT_i, intT_i, d1, sk_ok, setS_v (show 2 < [some (OT.v (T.int a)), some (OT.v (T.int b)), none, none].length by simp), List.set_cons_succ, List.set_cons_zero, putK_some, qk_next]
  generalize eo : (a * 48271 + b * 16807 + 11) % 2147483647 = once at o1 o2
  have m4 := mulT_i (i := once) (j := once) (small o1 (by omega)) (small o1 (by omega))
  have p1 : 0 ≤ once / 127 := Int.ediv_nonneg o1 (by decide)
  have p2 : once / 127 < 2147483648 := by omega
  have m5 := mulT_i (i := once / 127) (j := 40692) (small p1 p2) (small (by decide) (by decide))
  have q1 : 0 ≤ (once * once + once / 127 * 40692 + b * 69621) % 2147483399 := Int.emod_nonneg _ (by decide)
  have q2 : (once * once + once / 127 * 40692 + b * 69621) % 2147483399 < 2147483399 := Int.emod_lt_of_pos _ (by decide)
  simp [m3, m4, m5, d2, d4]
  generalize et : (once * once + once / 127 * 40692 + b * 69621) % 2147483399 = twice at q1 q2
  have m6 := mulT_i (i := twice) (j := twice) (small q1 (by omega)) (small q1 (by omega))
  simp [m6, d3, d5, d6]
  simp only [mixV, eo, et]
theorem mixV_nonneg (a b : Int) : 0 ≤ mixV a b := by
  unfold mixV
  simp only
  exact Int.ediv_nonneg (Int.emod_nonneg _ (by decide)) (by decide)
structure HdOk (h : HS) : Prop where
  p0 : 0 ≤ h.place
  p1 : h.place ≤ h.cells.length
  ln : h.cells.length ≤ 63
theorem s_draw (n : Nat) (h : HS) (m : Int) (ok : HdOk h) (m0 : 0 < m) (m1 : m < 1000000) :
    ∃ r h', runC (tabX Pr53 (n + 2)).t c__law_draw [.hand, .int m] (some h) = some (.ok (.v (.int r)), some h') ∧ 0 ≤ r ∧ r < m ∧ HdOk h' := by
  obtain ⟨cells, place, rest, total⟩ := h
  obtain ⟨p0, p1, ln⟩ := ok
  simp only at p0 p1 ln
  have dm : ∀ i : Int, modT (.int i) (.int m) = some (.v (.int (i % m))) := fun i => modT_i m0
  have df : ∀ i : Int, fdivT (.int i) (.int m) = some (.v (.int (i / m))) := fun i => fdivT_i m0 (by omega)
  have d1 : ∀ i : Int, modT (.int i) (.int 2147483647) = some (.v (.int (i % 2147483647))) := fun i => modT_i (by decide)
  have d2 : ∀ i : Int, modT (.int i) (.int 2147483629) = some (.v (.int (i % 2147483629))) := fun i => modT_i (by decide)
  have dp : powT (.int 10) (.int 18) = some (.v (.int 1000000000000000000)) := by kernel_rfl
  have em : ∀ i : Int, 0 ≤ i % m ∧ i % m < m := fun i => ⟨Int.emod_nonneg _ (by omega), Int.emod_lt_of_pos _ m0⟩
  rw [mir__law_draw]
  have x0 : ∀ s : HS, ixH (some s) .hand (.int 0) = some (.v (.lst (s.cells.map T.int))) := fun s => by simp [ixH]
  have x1 : ∀ s : HS, ixH (some s) .hand (.int 1) = some (.v (.int s.place)) := fun s => by simp [ixH]
  have x2 : ∀ s : HS, ixH (some s) .hand (.int 2) = some (.v (.int s.rest)) := fun s => by simp [ixH]
  have x3 : ∀ s : HS, ixH (some s) .hand (.int 3) = some (.v (.int s.total)) := fun s => by simp [ixH]
  by_cases a : rest = 0 ∧ place < cells.length
  · obtain ⟨rfl, a2⟩ := a
    have e : atI (cells.map T.int) place = some (.int cells[place.toNat]) := by
      rw [atI_nat p0 (by simpa using a2), List.getElem?_map, List.getElem?_eq_getElem (by omega)]
      rfl
    generalize cells[place.toNat] = c at e
    by_cases b : c < 1000000000000000000
    · have w := s_mix n (c % 2147483647) (place + 1) (some ⟨cells, place + 1, 0, total⟩) ⟨Int.emod_nonneg _ (by decide), Int.emod_lt_of_pos _ (by decide)⟩ ⟨by omega, by omega⟩
      refine ⟨mixV (c % 2147483647) (place + 1) % m, ⟨cells, place + 1, 0, total⟩, ?_, (em _).1, (em _).2, ⟨by simp only; omega, by simp only; omega, ln⟩⟩
      simp [x0, x1, x2, x3, a2, e, setH, dp, b, d1, w, dm]
    · refine ⟨c % m, ⟨cells, place + 1, c / m, total⟩, ?_, (em _).1, (em _).2, ⟨by simp only; omega, by simp only; omega, ln⟩⟩
      have b2 : 0 < c := by omega
      simp [x0, x1, x2, x3, a2, e, setH, dp, b, b2, dm, df]
  · by_cases b : 0 < rest
    · refine ⟨rest % m, ⟨cells, place, rest / m, total⟩, ?_, (em _).1, (em _).2, ⟨p0, p1, ln⟩⟩
      have a1 : ¬ rest = 0 := by omega
      simp [x0, x1, x2, x3, a1, setH, b, dm, df]
    · have w := s_mix n ((total + 1) % 2147483629) place (some ⟨cells, place, rest, (total + 1) % 2147483629⟩) ⟨Int.emod_nonneg _ (by decide), by have := Int.emod_lt_of_pos (total + 1) (show (0 : Int) < 2147483629 by decide); omega⟩ ⟨by omega, by omega⟩
      refine ⟨mixV ((total + 1) % 2147483629) place % m, ⟨cells, place, rest, (total + 1) % 2147483629⟩, ?_, (em _).1, (em _).2, ⟨p0, p1, ln⟩⟩
      by_cases a1 : rest = 0
      · have a2 : ¬ place < cells.length := fun z => a ⟨a1, z⟩
        simp [x0, x1, x2, x3, a1, a2, setH, d2, w, dm]
        subst a1
        simp [w, dm]
      · simp [x0, x1, x2, x3, a1, setH, b, d2, w, dm]
end K53
end TL
namespace TL
open PySem PySem.Spec PyProof.Rows L2
namespace K53
/-! ### pick, lots -/
theorem s_pick (n : Nat) (h : HS) (xs : List T) (ok : HdOk h) (h0 : xs ≠ []) (h1 : xs.length < 1000000) :
    ∃ x h', runC (tabX Pr53 (n + 3)).t c__law_pick [.hand, .lst xs] (some h) = some (.ok (.v x), some h') ∧ x ∈ xs ∧ HdOk h' := by
  have l := List.length_pos_iff.mpr h0
  obtain ⟨r, h', e, r0, r1, ok'⟩ := s_draw n h xs.length ok (by omega) (by omega)
  refine ⟨xs[r.toNat], h', ?_, List.getElem_mem _, ok'⟩
  · have e2 : atI xs r = some xs[r.toNat] := by rw [atI_nat r0 r1, List.getElem?_eq_getElem (by omega)]
    rw [mir__law_pick]
    simp [e, e2]
def grow (cs : List Int) (last : List (List Int)) : List (List Int) := last.flatMap fun lot => (cs.filter fun c => match lot.getLast? with
  | some z => decide (z < c)
  | none => true).map fun c => lot ++ [c]
def lotsF (cs : List Int) : Nat → List (List Int) × List (List Int)
  | 0 => ([[]], [[]])
  | k + 1 => let p := lotsF cs k
    let g := grow cs p.2
    (p.1 ++ g, g)
def lots (cs : List Int) : List (List Int) := (lotsF cs cs.length).1
def tupI (xs : List Int) : T := .tup (xs.map T.int)
theorem s_lots (n : Nat) (c : Int) (hd : Hd) (hc : c = 2 ∨ c = 3 ∨ c = 4 ∨ c = 5) : runC (tabX Pr53 (n + 1)).t c__law_lots [.lst ((rngI c).map T.int)] hd = some (.ok (.f ((lots (rngI c)).map tupI)), hd) := by
  rw [mir__law_lots]
  rcases hc with rfl | rfl | rfl | rfl <;> kernel_rfl
/-- every lot is of cells, none twice -/
theorem lots_ok (c : Int) (hc : c = 2 ∨ c = 3 ∨ c = 4 ∨ c = 5) : (lots (rngI c)).length ≤ 40 ∧ ∀ lot ∈ lots (rngI c), CellsOk c lot := by
  have key : (lots (rngI c)).length ≤ 40 ∧ ∀ lot ∈ lots (rngI c), (∀ x ∈ lot, 0 ≤ x ∧ x < c) ∧ lot.Nodup := by
    rcases hc with rfl | rfl | rfl | rfl <;> decide +kernel
  exact ⟨key.1, fun lot m => ⟨(key.2 lot m).1, (key.2 lot m).2⟩⟩
end K53
end TL
namespace TL
open PySem PySem.Spec PyProof.Rows L2
namespace K53
/-! ### a drawn land: its names -/
abbrev hT : Option OT := some (.v .hand)
def nmInv (n : Int) (rest : List T) (S : Slots) (hd : Hd) : Prop := ∃ (names left : List Int) (h : HS) (o4 : Option OT), rest.length = left.length ∧ HdOk h ∧ hd = some h ∧ (names ++ left).Perm (rngI n) ∧
  S = [hT, some (.v (.int n)), some (.f (names.map T.int)), some (.f (left.map T.int)), o4, none, none, none, none, none, none, none, none]
theorem perm_pop {a : List Int} : ∀ {l : List Int} {i : Nat} {x : Int}, l[i]? = some x → ((a ++ [x]) ++ l.eraseIdx i).Perm (a ++ l) := fun {l i x} e => by
  rw [List.append_assoc]
  refine List.Perm.append_left a ?_
  have h1 : i < l.length := (List.getElem?_eq_some_iff.mp e).1
  have e2 : l = l.take i ++ x :: l.drop (i + 1) := by
    have := List.getElem?_eq_some_iff.mp e
    obtain ⟨h, ex⟩ := this
    rw [← ex, List.getElem_cons_drop]
    exact (List.take_append_drop i l).symm
  rw [List.eraseIdx_eq_take_drop_succ]
  conv => rhs; rw [e2]
  simp only [List.cons_append, List.nil_append]
  exact List.perm_middle.symm
theorem nm_loop (n : Nat) (c : Int) (hc : c ≤ 5) (x : T) (xs : List T) (S : Slots) (hd : Hd) (I : nmInv c (x :: xs) S hd) : ∃ S1 S2 hd2, gNm 4 x S = some S1 ∧ lb__law_land_1b (n + 2) S1 hd = some (.next, S2, hd2) ∧ nmInv c xs S2 hd2 := by
  obtain ⟨names, left, h, o4, hl, ok, rfl, pm, rfl⟩ := I
  rw [List.length_cons] at hl
  have lt := pm.length_eq
  rw [List.length_append, length_rngI] at lt
  obtain ⟨r, h', e, r0, r1, ok'⟩ := s_draw n h left.length ok (by omega) (by omega)
  have hr : r.toNat < left.length := by omega
  refine ⟨_, [hT, some (.v (.int c)), some (.f ((names ++ [left[r.toNat]]).map T.int)), some (.f ((left.eraseIdx r.toNat).map T.int)), some (.v x), none, none, none, none, none, none, none, none], some h', by simp; rfl, ?_, ?_⟩
  · have e3 : (left.map T.int)[r.toNat]? = some (.int left[r.toNat]) := by rw [List.getElem?_map, List.getElem?_eq_getElem hr]; rfl
    have e4 : r < 10000 := by omega
    have e5 : names.length < 10000 := by omega
    have e6 : (left.map T.int).eraseIdx r.toNat = (left.eraseIdx r.toNat).map T.int := by
      simp only [List.eraseIdx_eq_take_drop_succ, List.map_append, List.map_take, List.map_drop]
    have e7 : opPopAt (left.map T.int) [.int r] = some (.int left[r.toNat], (left.eraseIdx r.toNat).map T.int) := by
      simp [opPopAt, r0, e4, e3, e6]
    simp [lb__law_land_1b, hT, e, e7, e5]
  · refine ⟨_, _, h', _, ?_, ok', rfl, ?_, rfl⟩
    · rw [List.length_eraseIdx_of_lt hr]; omega
    · exact (perm_pop (List.getElem?_eq_getElem hr)).trans pm
/-! its couples -/
structure CpOk (k : Int) (cs : List (Int × Int)) : Prop where
  rg : ∀ p ∈ cs, 0 ≤ p.2 ∧ p.2 < p.1 ∧ p.1 < k
  nd : cs.Nodup
  ln : cs.length ≤ 100
  tr : ∀ j, 1 ≤ j → j < k → ∃ r, (j, r) ∈ cs
def cpInv (n : Int) (a b : Option OT) (rest : List T) (S : Slots) (hd : Hd) : Prop := ∃ (k : Int) (cs : List (Int × Int)) (h : HS) (o4 : Option OT), rest = rngL k n ∧ 1 ≤ k ∧ k ≤ n ∧ cs.length < k ∧ HdOk h ∧ hd = some h ∧ CpOk k cs ∧
  S = [hT, some (.v (.int n)), a, b, o4, some (.f (cs.map pairT)), none, none, none, none, none, none, none]
theorem CpOk.snoc {k r : Int} {cs : List (Int × Int)} (h : CpOk k cs) (h0 : 0 ≤ r) (h1 : r < k) (hl : cs.length < 100) : CpOk (k + 1) (cs ++ [(k, r)]) where
  rg := fun p m => by
    rcases List.mem_append.mp m with m | m
    · have := h.rg p m; omega
    · rw [List.mem_singleton.mp m]; exact ⟨h0, h1, by simp only; omega⟩
  nd := List.nodup_append.mpr ⟨h.nd, by simp, fun a ha b hb z => by
    rw [List.mem_singleton.mp hb] at z
    have := h.rg a ha
    rw [z] at this
    simp only at this
    omega⟩
  ln := by simp only [List.length_append, List.length_cons, List.length_nil]; omega
  tr := fun j j1 j2 => by
    by_cases z : j = k
    · exact ⟨r, List.mem_append_right _ (by rw [z]; exact List.mem_singleton.mpr rfl)⟩
    · obtain ⟨r', m⟩ := h.tr j j1 (by omega)
      exact ⟨r', List.mem_append_left _ m⟩
theorem cp_loop (n : Nat) (c : Int) (hc : c ≤ 5) (a b : Option OT) (x : T) (xs : List T) (S : Slots) (hd : Hd) (I : cpInv c a b (x :: xs) S hd) : ∃ S1 S2 hd2, gNm 4 x S = some S1 ∧ lb__law_land_2b (n + 2) S1 hd = some (.next, S2, hd2) ∧ cpInv c a b xs S2 hd2 := by
  obtain ⟨k, cs, h, o4, hr, k1, k2, hl, ok, rfl, co, rfl⟩ := I
  have kn : k < c := by
    by_cases z : k < c
    · exact z
    · rw [rngL_nil (by omega)] at hr; cases hr
  rw [rngL_cons kn] at hr
  cases hr
  obtain ⟨r, h', e, r0, r1, ok'⟩ := s_draw n h k ok (by omega) (by omega)
  refine ⟨_, [hT, some (.v (.int c)), a, b, some (.v (.int k)), some (.f ((cs ++ [(k, r)]).map pairT)), none, none, none, none, none, none, none], some h', by simp; rfl, ?_, ?_⟩
  · simp [lb__law_land_2b, hT, e, pair_fold, show cs.length < 10000 by omega]
  · exact ⟨k + 1, _, h', _, rfl, by omega, by omega, by simp only [List.length_append, List.length_cons, List.length_nil]; omega, ok', rfl, co.snoc r0 r1 (by omega), rfl⟩
/-! more couples -/
def mcInv (n : Int) (a b k : Option OT) (rest : List T) (S : Slots) (hd : Hd) : Prop := ∃ (cs : List (Int × Int)) (h : HS) (o6 o7 : Option OT), (∀ x ∈ rest, ∃ i, x = .int i ∧ 2 ≤ i ∧ i < n) ∧ (cs.length : Int) + 5 * rest.length ≤ 30 ∧ HdOk h ∧ hd = some h ∧ CpOk n cs ∧
  S = [hT, some (.v (.int n)), a, b, k, some (.f (cs.map pairT)), o6, o7, none, none, none, none, none]
def miInv (n : Int) (a b k : Option OT) (hi : Int) (m : Int) (rest : List T) (S : Slots) (hd : Hd) : Prop := ∃ (cs : List (Int × Int)) (h : HS) (o7 : Option OT), (∀ x ∈ rest, ∃ i, x = .int i ∧ 0 ≤ i ∧ i < hi) ∧ (cs.length : Int) + rest.length ≤ m ∧ HdOk h ∧ hd = some h ∧ CpOk n cs ∧
  S = [hT, some (.v (.int n)), a, b, k, some (.f (cs.map pairT)), some (.v (.int hi)), o7, none, none, none, none, none]
theorem CpOk.more {n i j : Int} {cs : List (Int × Int)} (h : CpOk n cs) (h0 : 0 ≤ j) (h1 : j < i) (h2 : i < n) (hn : (i, j) ∉ cs) (hl : cs.length < 100) : CpOk n (cs ++ [(i, j)]) where
  rg := fun p m => by
    rcases List.mem_append.mp m with m | m
    · exact h.rg p m
    · rw [List.mem_singleton.mp m]; exact ⟨h0, h1, h2⟩
  nd := List.nodup_append.mpr ⟨h.nd, by simp, fun a ha b hb z => hn (by rw [← List.mem_singleton.mp hb, ← z]; exact ha)⟩
  ln := by simp only [List.length_append, List.length_cons, List.length_nil]; omega
  tr := fun j j1 j2 => by
    obtain ⟨r', m⟩ := h.tr j j1 j2
    exact ⟨r', List.mem_append_left _ m⟩
theorem mi_loop (n : Nat) (c : Int) (hc : c ≤ 5) (a b k : Option OT) (hi m : Int) (hm : m ≤ 50) (hh : 2 ≤ hi ∧ hi < c) (x : T) (xs : List T) (S : Slots) (hd : Hd) (I : miInv c a b k hi m (x :: xs) S hd) : ∃ S1 S2 hd2, gNm 7 x S = some S1 ∧ lb__law_land_3b (n + 2) S1 hd = some (.next, S2, hd2) ∧ miInv c a b k hi m xs S2 hd2 := by
  obtain ⟨cs, h, o7, hx, hl, ok, rfl, co, rfl⟩ := I
  obtain ⟨j, rfl, j0, j1⟩ := hx x List.mem_cons_self
  rw [List.length_cons] at hl
  have hx2 : ∀ y ∈ xs, ∃ i, y = .int i ∧ 0 ≤ i ∧ i < hi := fun y q => hx y (List.mem_cons_of_mem _ q)
  have cl := co.ln
  by_cases q : (hi, j) ∈ cs
  · refine ⟨_, [hT, some (.v (.int c)), a, b, k, some (.f (cs.map pairT)), some (.v (.int hi)), some (.v (.int j)), none, none, none, none, none], some h, by simp; rfl, ?_, ?_⟩
    · simp [lb__law_land_3b, hT, pair_fold, q]
    · exact ⟨cs, h, _, hx2, by omega, ok, rfl, co, rfl⟩
  · obtain ⟨r, h', e, r0, r1, ok'⟩ := s_draw n h 3 ok (by omega) (by omega)
    by_cases z : r = 0
    · refine ⟨_, [hT, some (.v (.int c)), a, b, k, some (.f ((cs ++ [(hi, j)]).map pairT)), some (.v (.int hi)), some (.v (.int j)), none, none, none, none, none], some h', by simp; rfl, ?_, ?_⟩
      · simp [lb__law_land_3b, hT, pair_fold, q, e, z, show cs.length < 10000 by omega]
      · exact ⟨_, h', _, hx2, by simp only [List.length_append, List.length_cons, List.length_nil]; omega, ok', rfl, co.more j0 j1 hh.2 q (by omega), rfl⟩
    · refine ⟨_, [hT, some (.v (.int c)), a, b, k, some (.f (cs.map pairT)), some (.v (.int hi)), some (.v (.int j)), none, none, none, none, none], some h', by simp; rfl, ?_, ?_⟩
      · simp [lb__law_land_3b, hT, pair_fold, q, e, z]
      · exact ⟨cs, h', _, hx2, by omega, ok', rfl, co, rfl⟩
theorem mc_loop (n : Nat) (c : Int) (hc : c ≤ 5) (a b k : Option OT) (x : T) (xs : List T) (S : Slots) (hd : Hd) (I : mcInv c a b k (x :: xs) S hd) : ∃ S1 S2 hd2, gNm 6 x S = some S1 ∧ lb__law_land_4b (n + 2) S1 hd = some (.next, S2, hd2) ∧ mcInv c a b k xs S2 hd2 := by
  obtain ⟨cs, h, o6, o7, hx, hl, ok, rfl, co, rfl⟩ := I
  obtain ⟨hi, rfl, h0, h1⟩ := hx x List.mem_cons_self
  rw [List.length_cons] at hl
  have lr : (rngL 0 hi).length = hi.toNat := by simp [rngL]
  obtain ⟨S', hd', f1, cs', h', o7', _, hl', ok', rfl, co', rfl⟩ := forL_inv (g := gNm 7) (b := lb__law_land_3b (n + 2)) (miInv c a b k hi ((cs.length : Int) + 5)) (mi_loop n c hc a b k hi _ (by omega) ⟨h0, h1⟩) (rngL 0 hi) [hT, some (.v (.int c)), a, b, k, some (.f (cs.map pairT)), some (.v (.int hi)), o7, none, none, none, none, none] (some h)
    ⟨cs, h, o7, fun y m => mem_rngL m, by omega, ok, rfl, co, rfl⟩
  have okr : rngOk hi = true := by simp [rngOk]; omega
  refine ⟨_, _, some h', by simp; rfl, ?_, cs', h', some (.v (.int hi)), o7', fun y m => hx y (List.mem_cons_of_mem _ m), ?_, ok', rfl, co', rfl⟩
  · simp [lb__law_land_4b, rng1, okr, f1]
  · simp only [List.length_nil] at hl'
    omega
end K53
end TL
namespace TL
open PySem PySem.Spec PyProof.Rows L2
namespace K53
/-! ### a drawn land: its rows -/
def nmAt (names : List Int) (i : Int) : Int := names.getD i.toNat 0
def rowN (names : List Int) (p : Int × Int) : Int × Int := (if nmAt names p.2 < nmAt names p.1 then nmAt names p.2 else nmAt names p.1, if nmAt names p.2 > nmAt names p.1 then nmAt names p.2 else nmAt names p.1)
def rowNT (names : List Int) (t : T) : T := match t with
  | .tup [.int a, .int b] => pairT (rowN names (a, b))
  | _ => .non
structure NmOk (n : Int) (names : List Int) : Prop where
  pm : names.Perm (rngI n)
theorem NmOk.len {n : Int} {names : List Int} (h : NmOk n names) : names.length = n.toNat := by rw [h.pm.length_eq, length_rngI]
theorem nodup_rngI (n : Int) : (rngI n).Nodup := List.pairwise_map.mpr (List.Pairwise.imp (fun {a b} h z => h (by omega)) List.nodup_range)
theorem NmOk.nd {n : Int} {names : List Int} (h : NmOk n names) : names.Nodup := h.pm.nodup_iff.mpr (nodup_rngI n)
theorem NmOk.at {n : Int} {names : List Int} (h : NmOk n names) {i : Int} (h0 : 0 ≤ i) (h1 : i < n) : names[i.toNat]? = some (nmAt names i) ∧ 0 ≤ nmAt names i ∧ nmAt names i < n := by
  have hl := h.len
  have hi : i.toNat < names.length := by omega
  have e : names[i.toNat]? = some names[i.toNat] := List.getElem?_eq_getElem hi
  have e2 : nmAt names i = names[i.toNat] := by unfold nmAt; rw [List.getD_eq_getElem?_getD, e]; rfl
  rw [e2]
  have m := mem_rngI.mp (h.pm.mem_iff.mp (List.getElem_mem hi))
  exact ⟨e, m⟩
theorem NmOk.inj {n : Int} {names : List Int} (h : NmOk n names) {i j : Int} (hi : 0 ≤ i ∧ i < n) (hj : 0 ≤ j ∧ j < n) (e : nmAt names i = nmAt names j) : i = j := by
  obtain ⟨e1, _⟩ := h.at hi.1 hi.2
  obtain ⟨e2, _⟩ := h.at hj.1 hj.2
  have hl := h.len
  have l1 : i.toNat < names.length := by omega
  have l2 : j.toNat < names.length := by omega
  rw [e, ← e2] at e1
  have := (List.getElem?_inj l1 h.nd).mp e1
  omega
theorem NmOk.sur {n : Int} {names : List Int} (h : NmOk n names) {v : Int} (h0 : 0 ≤ v) (h1 : v < n) : ∃ i, 0 ≤ i ∧ i < n ∧ nmAt names i = v := by
  have m : v ∈ names := h.pm.mem_iff.mpr (mem_rngI.mpr ⟨h0, h1⟩)
  obtain ⟨k, hk, e⟩ := List.mem_iff_getElem.mp m
  have hl := h.len
  refine ⟨k, by omega, by omega, ?_⟩
  unfold nmAt
  rw [Int.toNat_natCast, List.getD_eq_getElem?_getD, List.getElem?_eq_getElem hk, e]
  rfl
theorem rowN_ok {n : Int} {names : List Int} (h : NmOk n names) {p : Int × Int} (hp : 0 ≤ p.2 ∧ p.2 < p.1 ∧ p.1 < n) : 0 ≤ (rowN names p).1 ∧ (rowN names p).1 < (rowN names p).2 ∧ (rowN names p).2 < n := by
  obtain ⟨_, a0, a1⟩ := h.at (i := p.1) (by omega) (by omega)
  obtain ⟨_, b0, b1⟩ := h.at (i := p.2) (by omega) (by omega)
  have ne : nmAt names p.1 ≠ nmAt names p.2 := fun z => by
    have := h.inj (i := p.1) (j := p.2) ⟨by omega, by omega⟩ ⟨by omega, by omega⟩ z
    omega
  unfold rowN
  simp only
  split <;> split <;> omega
theorem rowN_inj {n : Int} {names : List Int} (h : NmOk n names) {p q : Int × Int} (hp : 0 ≤ p.2 ∧ p.2 < p.1 ∧ p.1 < n) (hq : 0 ≤ q.2 ∧ q.2 < q.1 ∧ q.1 < n) (e : rowN names p = rowN names q) : p = q := by
  have key : (nmAt names p.1 = nmAt names q.1 ∧ nmAt names p.2 = nmAt names q.2) ∨ (nmAt names p.1 = nmAt names q.2 ∧ nmAt names p.2 = nmAt names q.1) := by
    have e1 := congrArg Prod.fst e
    have e2 := congrArg Prod.snd e
    unfold rowN at e1 e2
    simp only at e1 e2
    split at e1 <;> split at e1 <;> split at e2 <;> split at e2 <;> omega
  rcases key with ⟨k1, k2⟩ | ⟨k1, k2⟩
  · have a := h.inj ⟨by omega, by omega⟩ ⟨by omega, by omega⟩ k1
    have b := h.inj ⟨by omega, by omega⟩ ⟨by omega, by omega⟩ k2
    exact Prod.ext a b
  · have a := h.inj ⟨by omega, by omega⟩ ⟨by omega, by omega⟩ k1
    have b := h.inj ⟨by omega, by omega⟩ ⟨by omega, by omega⟩ k2
    omega
theorem nodup_map_on {α β : Type} {f : α → β} : ∀ {l : List α}, (∀ a ∈ l, ∀ b ∈ l, f a = f b → a = b) → l.Nodup → (l.map f).Nodup
  | [], _, _ => by simp
  | x :: l, h, hn => by
    rw [List.nodup_cons] at hn
    rw [List.map_cons, List.nodup_cons]
    refine ⟨fun m => ?_, nodup_map_on (fun a ha b hb => h a (List.mem_cons_of_mem _ ha) b (List.mem_cons_of_mem _ hb)) hn.2⟩
    obtain ⟨y, hy, e⟩ := List.mem_map.mp m
    have := h y (List.mem_cons_of_mem _ hy) x List.mem_cons_self e
    exact hn.1 (by rw [← this]; exact hy)
theorem rows_ok {n : Int} {names : List Int} {cs : List (Int × Int)} (h : NmOk n names) (co : CpOk n cs) : RowsOk n (cs.map (rowN names)) where
  rg := fun r m => by
    obtain ⟨p, hp, rfl⟩ := List.mem_map.mp m
    exact rowN_ok h (co.rg p hp)
  nd := nodup_map_on (fun a ha b hb e => rowN_inj h (co.rg a ha) (co.rg b hb) e) co.nd
  ln := by rw [List.length_map]; have := co.ln; omega
theorem rows_joined {n : Int} {names : List Int} {cs : List (Int × Int)} (n0 : 0 < n) (h : NmOk n names) (co : CpOk n cs) : Joined n (cs.map (rowN names)) := fun p p0 ⟨v, v0, v1, pv⟩ => by
  -- if no row joins the parts, all names are in one part
  by_cases hx : ∃ r ∈ cs.map (rowN names), p r.1 ≠ p r.2
  · exact hx
  · exfalso
    have same : ∀ q ∈ cs, p (nmAt names q.1) = p (nmAt names q.2) := fun q hq => by
      have : ¬ p (rowN names q).1 ≠ p (rowN names q).2 := fun z => hx ⟨_, List.mem_map.mpr ⟨q, hq, rfl⟩, z⟩
      have e := Decidable.not_not.mp this
      unfold rowN at e
      simp only at e
      split at e <;> split at e
      · omega
      · exact e.symm
      · exact e
      · have : nmAt names q.1 = nmAt names q.2 := by omega
        rw [this]
    have all : ∀ k : Nat, (k : Int) < n → p (nmAt names k) = p (nmAt names 0) := fun k => by
      induction k using Nat.strongRecOn with
      | _ k ih =>
        intro hk
        by_cases z : k = 0
        · subst z; rfl
        · obtain ⟨r, hr⟩ := co.tr k (by omega) hk
          have rg := co.rg _ hr
          simp only at rg
          have e := same _ hr
          simp only at e
          rw [e]
          have := ih r.toNat (by omega) (by omega)
          rw [show ((r.toNat : Nat) : Int) = r by omega] at this
          exact this
    obtain ⟨i, i0, i1, ei⟩ := h.sur (v := 0) (by omega) n0
    obtain ⟨j, j0, j1, ej⟩ := h.sur v0 v1
    have a := all i.toNat (by omega)
    have b := all j.toNat (by omega)
    rw [show ((i.toNat : Nat) : Int) = i by omega, ei] at a
    rw [show ((j.toNat : Nat) : Int) = j by omega, ej] at b
    rw [a, ← b, pv] at p0
    cases p0
end K53
end TL
namespace TL
open PySem PySem.Spec PyProof.Rows L2
namespace K53
/-! ### a drawn land -/
def LndOk (l : Lnd) : Prop := LandOk l.c l.rows l.roads
def midLots (c : Int) : List (List Int) := (lots (rngI c)).filter fun lot => decide (0 < (lot.length : Int) ∧ (lot.length : Int) < c)
theorem midLots_ok (c : Int) (hc : c = 2 ∨ c = 3 ∨ c = 4 ∨ c = 5) : midLots c ≠ [] ∧ (midLots c).length ≤ 40 := by
  rcases hc with rfl | rfl | rfl | rfl <;> decide +kernel
theorem RowsOk.perm {c : Int} {a b : List (Int × Int)} (h : RowsOk c a) (p : b.Perm a) : RowsOk c b := ⟨fun r m => h.rg r (p.mem_iff.mp m), p.nodup_iff.mpr h.nd, by rw [p.length_eq]; exact h.ln⟩
theorem land_ok {c : Int} {names : List Int} {cs : List (Int × Int)} {lot : List Int} (hc : c = 2 ∨ c = 3 ∨ c = 4 ∨ c = 5) (h : NmOk c names) (co : CpOk c cs) (hl : lot ∈ midLots c) : LndOk ⟨c, sortP (cs.map (rowN names)), lot⟩ := by
  have pm := perm_sortP (cs.map (rowN names))
  obtain ⟨m1, m2⟩ := List.mem_filter.mp hl
  have m2 := of_decide_eq_true m2
  refine ⟨by simp only; omega, by simp only; omega, (rows_ok h co).perm pm, fun z => ?_, fun p p0 hv => ?_, (lots_ok c hc).2 lot m1, by simp only; omega, m2.2⟩
  · obtain ⟨r, hr⟩ := co.tr 1 (by omega) (by omega)
    have m : rowN names (1, r) ∈ sortP (cs.map (rowN names)) := pm.mem_iff.mpr (List.mem_map.mpr ⟨_, hr, rfl⟩)
    simp only at z
    rw [z] at m
    cases m
  · obtain ⟨r, hr, q⟩ := rows_joined (by omega) h co p p0 hv
    exact ⟨r, pm.mem_iff.mpr hr, q⟩
theorem sortT_pairs' {rows : List (Int × Int)} (h : rows ≠ []) : sortT (.lst (rows.map pairT)) = some (.f ((sortP rows).map pairT)) := sortT_pairs h
theorem ix_name {n : Int} {names : List Int} (h : NmOk n names) {i : Int} (h0 : 0 ≤ i) (h1 : i < n) (hd : Hd) : ixH hd (.lst (names.map T.int)) (.int i) = some (.v (.int (nmAt names i))) := by
  have hl := h.len
  rw [ixH_l, ixT_l, atI_nat h0 (by simp only [List.length_map]; omega), List.getElem?_map, (h.at h0 h1).1]
  rfl
theorem s_law_land (n : Nat) (c : Int) (h : HS) (ok : HdOk h) (hc : c = 2 ∨ c = 3 ∨ c = 4 ∨ c = 5) :
    ∃ l h', runC (tabX Pr53 (n + 4)).t c__law_land [.hand, .int c] (some h) = some (.ok (.v (lndT l)), some h') ∧ l.c = c ∧ LndOk l ∧ HdOk h' := by
  have c5 : c ≤ 5 := by omega
  have okr : rngOk c = true := by simp [rngOk]; omega
  have okg : rgOkB 0 c = true := by rcases hc with rfl | rfl | rfl | rfl <;> decide
  have lr : (rngL 0 c).length = c.toNat := by simp [rngL]
  -- the names
  obtain ⟨S1, hd1, f1, names, left, h1, o4, l1, ok1, rfl, pm1, rfl⟩ := forL_inv (g := gNm 4) (b := lb__law_land_1b (n + 3)) (nmInv c) (nm_loop (n + 1) c c5) (rngL 0 c) [hT, some (.v (.int c)), some (.f []), some (.f (rngL 0 c)), none, none, none, none, none, none, none, none, none] (some h)
    ⟨[], rngI c, h, none, by rw [rngL_int, List.length_map], ok, rfl, by simp, by rw [rngL_int]; rfl⟩
  have left0 : left = [] := List.length_eq_zero_iff.mp l1.symm
  subst left0
  have nm : NmOk c names := ⟨by simpa using pm1⟩
  -- the couples
  obtain ⟨S2, hd2, f2, k2, cs2, h2, o42, e2, k21, k22, l2, ok2, rfl, co2, rfl⟩ := forL_inv (g := gNm 4) (b := lb__law_land_2b (n + 3)) (cpInv c (some (.f (names.map T.int))) (some (.f []))) (cp_loop (n + 1) c c5 _ _) (rngL 1 c) [hT, some (.v (.int c)), some (.f (names.map T.int)), some (.f []), o4, some (.f []), none, none, none, none, none, none, none] (some h1)
    ⟨1, [], h1, o4, rfl, by omega, by omega, by simp, ok1, rfl, ⟨by simp, by simp, by simp, fun j a b => by omega⟩, rfl⟩
  have k2c : k2 = c := by
    by_cases z : k2 < c
    · rw [rngL_cons z] at e2; cases e2
    · omega
  subst k2c
  -- more couples
  have lr2 : (rngL 2 k2).length = (k2 - 2).toNat := by simp [rngL]
  obtain ⟨S3, hd3, f3, cs, h3, o6, o7, _, l3, ok3, rfl, co, rfl⟩ := forL_inv (g := gNm 6) (b := lb__law_land_4b (n + 3)) (mcInv k2 (some (.f (names.map T.int))) (some (.f [])) o42) (mc_loop (n + 1) k2 c5 _ _ _) (rngL 2 k2) [hT, some (.v (.int k2)), some (.f (names.map T.int)), some (.f []), o42, some (.f (cs2.map pairT)), none, none, none, none, none, none, none] (some h2)
    ⟨cs2, h2, none, none, fun x m => mem_rngL m, by omega, ok2, rfl, co2, rfl⟩
  -- the rows
  have g1 := lcL_mapT (S := [hT, some (.v (.int k2)), some (.f (names.map T.int)), some (.f []), o42, some (.v (.lst (cs.map pairT))), o6, o7, none, none, none, none, none]) (hd := some h3) (vs := [9, 10]) (g := gTp (gsCons (gNm 9) (gsCons (gNm 10) gsNil)) 2) (e := lb__law_land_5e (n + 3)) (rowNT names) (xs := cs.map pairT) (acc := []) (fun x hx => by
    obtain ⟨p, hp, rfl⟩ := List.mem_map.mp hx
    have rg := co.rg p hp
    have x1 := ix_name nm (i := p.1) (by omega) (by omega) (some h3)
    have x2 := ix_name nm (i := p.2) (by omega) (by omega) (some h3)
    refine ⟨[hT, some (.v (.int k2)), some (.f (names.map T.int)), some (.f []), o42, some (.v (.lst (cs.map pairT))), o6, o7, none, some (.v (.int p.1)), some (.v (.int p.2)), none, none], [hT, some (.v (.int k2)), some (.f (names.map T.int)), some (.f []), o42, some (.v (.lst (cs.map pairT))), o6, o7, none, some (.v (.int p.1)), some (.v (.int p.2)), none, none], by simp, ?_, ?_⟩
    · simp [lb__law_land_5e, x1, x2, pair_fold, -ixH_l]
      rfl
    · simp [wipeS]) (by simp only [List.length_nil, List.length_map]; have := co.ln; omega)
  have g2 : (cs.map pairT).map (rowNT names) = (cs.map (rowN names)).map pairT := by
    rw [List.map_map, List.map_map]
    rfl
  have ln := land_ok (lot := ([] : List Int)) hc nm co
  have lnd := fun lot hl => land_ok (lot := lot) hc nm co hl
  clear ln
  have ne : cs.map (rowN names) ≠ [] := fun z => by
    obtain ⟨r, hr⟩ := co.tr 1 (by omega) (by omega)
    have := List.map_eq_nil_iff.mp z
    rw [this] at hr
    cases hr
  obtain ⟨R, hR⟩ : ∃ R, cs.map (rowN names) = R := ⟨_, rfl⟩
  rw [g2, hR] at g1
  rw [hR] at ne
  simp only [hR] at lnd
  -- the lots
  have wl := s_lots (n + 2) k2 (some h3) hc
  have g3 := lcL_map (S := [hT, some (.v (.int k2)), some (.f (names.map T.int)), some (.f []), o42, some (.v (.lst (cs.map pairT))), o6, o7, some (.f (R.map pairT)), none, none, none, none]) (hd := some h3) (vs := [12]) (g := gNm 12) (c := lb__law_land_6c (n + 3)) (e := nmV 12) (fun t => match t with
    | .tup xs => decide (0 < (xs.length : Int) ∧ (xs.length : Int) < k2)
    | _ => false) id (xs := (lots (rngI k2)).map tupI) (acc := []) (fun x hx => by
    obtain ⟨lot, hl, rfl⟩ := List.mem_map.mp hx
    refine ⟨[hT, some (.v (.int k2)), some (.f (names.map T.int)), some (.f []), o42, some (.v (.lst (cs.map pairT))), o6, o7, some (.f (R.map pairT)), none, none, none, some (.v (tupI lot))], [hT, some (.v (.int k2)), some (.f (names.map T.int)), some (.f []), o42, some (.v (.lst (cs.map pairT))), o6, o7, some (.f (R.map pairT)), none, none, none, some (.v (tupI lot))], by simp, ?_, fun _ => ⟨_, by simp; rfl, by simp [wipeS]⟩, fun _ => by simp [wipeS]⟩
    by_cases q : 0 < lot.length
    · simp [lb__law_land_6c, tupI, q]
    · simp [lb__law_land_6c, tupI, q]) (by simp only [List.length_nil, List.length_map]; have := (lots_ok k2 hc).1; omega)
  have g4 : (((lots (rngI k2)).map tupI).filter (fun t => match t with
    | .tup xs => decide (0 < (xs.length : Int) ∧ (xs.length : Int) < k2)
    | _ => false)).map id = (midLots k2).map tupI := by
    rw [List.map_id, List.filter_map]
    unfold midLots
    congr 1
    refine List.filter_congr fun x _ => ?_
    simp [tupI]
  rw [g4] at g3
  obtain ⟨m1, m2⟩ := midLots_ok k2 hc
  obtain ⟨x, h4, wp, hx, ok4⟩ := s_pick n h3 ((midLots k2).map tupI) ok3 (by simpa using m1) (by rw [List.length_map]; omega)
  obtain ⟨lot, hl, rfl⟩ := List.mem_map.mp hx
  refine ⟨⟨k2, sortP R, lot⟩, h4, ?_, rfl, lnd lot hl, ok4⟩
  have e6 : rngL 0 k2 = (rngI k2).map T.int := rngL_int k2
  have g5 : mLc [9, 10] (mItemsA (nmV 5)) (gTp (gsCons (gNm 9) (gsCons (gNm 10) gsNil)) 2) (M.ret true) (lb__law_land_5e (n + 3)) [hT, some (.v (.int k2)), some (.f (names.map T.int)), some (.f []), o42, some (.f (cs.map pairT)), o6, o7, none, none, none, none, none] (some h3) = some (.ok (.f (R.map pairT)), [hT, some (.v (.int k2)), some (.f (names.map T.int)), some (.f []), o42, some (.v (.lst (cs.map pairT))), o6, o7, none, none, none, none, none], some h3) := by
    rw [mLc_ap]
    simp only [List.nil_append] at g1
    simp [wipeS, g1]
  have g6 : mLc [12] (mItemsA (M.map OT.fz (mCall 1 (srcF 1 [.p 0] [] [] (runC (tabX Pr53 (n + 3)).t c__law_lots)) (mCons (M.map OT.fz (mUn (listRg id) (peek 1))) (M.ret []))))) (gNm 12) (lb__law_land_6c (n + 3)) (nmV 12) [hT, some (.v (.int k2)), some (.f (names.map T.int)), some (.f []), o42, some (.v (.lst (cs.map pairT))), o6, o7, some (.f (R.map pairT)), none, none, none, none] (some h3) = some (.ok (.f ((midLots k2).map tupI)), [hT, some (.v (.int k2)), some (.f (names.map T.int)), some (.f []), o42, some (.v (.lst (cs.map pairT))), o6, o7, some (.f (R.map pairT)), none, none, none, none], some h3) := by
    rw [mLc_ap]
    simp only [List.nil_append] at g3
    simp only [M.map_ap, mCall_ap, mCons_ap, mUn_ap, mItemsA_ap, peek_ap, M.ret_ap, hT, rdS_s, rdS_0, pkK_v, rk_ok, listRg, okg, if_true, id, ok?_some, fz_f, e6, mApp_1, wl, apK_ok, itemsA_l, wipeS, List.set_cons_succ, List.set_cons_zero]
    simp only [hT] at g3
    rw [g3]
    rfl
  rw [mir__law_land]
  have ok1' : rngOk 1 = true := by decide
  have ok2' : rngOk 2 = true := by decide
  simp only [List.map_nil] at f1 f2
  have q1 : ∀ i : Nat, i < 13 → ∀ (a b c d e f g h i' j k l m : Option OT), i < [a, b, c, d, e, f, g, h, i', j, k, l, m].length := fun i hi a b c d e f g h i' j k l m => hi
  simp [okr, okg, ok1', ok2', listRg, rng1, rng2, f1, f2, f3, g5, g6, -mLc_ap, sortT_pairs ne, wp, lndT, tupI]
end K53
end TL
namespace TL
open PySem PySem.Spec PyProof.Rows L2
@[simp] theorem mApp_mk0 {S : Slots} {hd : Hd} (C : Str) (F : Ini) : mApp 0 (mkFn C (srcI 0 [] [] [] F)) [] S hd = apK (mkK C (F [] [] hd)) S := by
  rw [mApp_ap, mkFn_ap]; rfl
@[simp] theorem mApp_mk1 {S : Slots} {hd : Hd} (C : Str) (F : Ini) (a : T) : mApp 1 (mkFn C (srcI 1 [.p 0] [] [] F)) [a] S hd = apK (mkK C (F [] [a] hd)) S := by
  rw [mApp_ap, mkFn_ap]; rfl
@[simp] theorem mApp_mk2 {S : Slots} {hd : Hd} (C : Str) (F : Ini) (a b : T) : mApp 2 (mkFn C (srcI 2 [.p 0, .p 1] [] [] F)) [a, b] S hd = apK (mkK C (F [] [a, b] hd)) S := by
  rw [mApp_ap, mkFn_ap]; rfl
@[simp] theorem mApp_mk3 {S : Slots} {hd : Hd} (C : Str) (F : Ini) (a b c : T) : mApp 3 (mkFn C (srcI 3 [.p 0, .p 1, .p 2] [] [] F)) [a, b, c] S hd = apK (mkK C (F [] [a, b, c] hd)) S := by
  rw [mApp_ap, mkFn_ap]; rfl
@[simp] theorem mApp_mc12 {S : Slots} {hd : Hd} (C : Str) (F : Ini) (a b c : T) : mApp 3 (mkFn C (srcI 1 [.p 0, .k 0, .k 1] [] [] F)) [a, b, c] S hd = apK (mkK C (F [] [a, b, c] hd)) S := by
  rw [mApp_ap, mkFn_ap]; rfl
@[simp] theorem mApp_l3m {S : Slots} {hd : Hd} (C : Str) (F : Ini) (a b c m : T) : mApp 3 (mkFn C (srcI 3 [.p 0, .p 1, .p 2, .m 0] [] [m] F)) [a, b, c] S hd = apK (mkK C (F [] [a, b, c, m] hd)) S := by
  rw [mApp_ap, mkFn_ap]; rfl
@[simp] theorem mApp_l22 {S : Slots} {hd : Hd} (C : Str) (F : Ini) (a b c d : T) : mApp 4 (mkFn C (srcI 2 [.p 0, .p 1, .k 0, .k 1] [] [] F)) [a, b, c, d] S hd = apK (mkK C (F [] [a, b, c, d] hd)) S := by
  rw [mApp_ap, mkFn_ap]; rfl
@[simp] theorem mApp_l2dm {S : Slots} {hd : Hd} (C : Str) (F : Ini) (a b m u : T) : mApp 2 (mkFn C (srcI 2 [.p 0, .p 1, .d 0, .m 0] [u] [m] F)) [a, b] S hd = apK (mkK C (F [] [a, b, u, m] hd)) S := by
  rw [mApp_ap, mkFn_ap]; rfl
@[simp] theorem mApp_l3k {S : Slots} {hd : Hd} (C : Str) (F : Ini) (a b c d : T) : mApp 4 (mkFn C (srcI 3 [.p 0, .p 1, .p 2, .k 0] [] [] F)) [a, b, c, d] S hd = apK (mkK C (F [] [a, b, c, d] hd)) S := by
  rw [mApp_ap, mkFn_ap]; rfl
@[simp] theorem mApp_l2dk {S : Slots} {hd : Hd} (C : Str) (F : Ini) (a b c u : T) : mApp 3 (mkFn C (srcI 2 [.p 0, .p 1, .d 0, .k 0] [u] [] F)) [a, b, c] S hd = apK (mkK C (F [] [a, b, u, c] hd)) S := by
  rw [mApp_ap, mkFn_ap]; rfl
@[simp] theorem mApp_e1d {S : Slots} {hd : Hd} (C : Str) (F : Ini) (a u : T) : mApp 1 (mkFn C (srcI 1 [.p 0, .d 0] [u] [] F)) [a] S hd = apK (mkK C (F [] [a, u] hd)) S := by
  rw [mApp_ap, mkFn_ap]; rfl
@[simp] theorem mApp_w0d {S : Slots} {hd : Hd} (C : Str) (F : Ini) (u : T) : mApp 0 (mkFn C (srcI 0 [.d 0] [u] [] F)) [] S hd = apK (mkK C (F [] [u] hd)) S := by
  rw [mApp_ap, mkFn_ap]; rfl
@[simp] theorem mApp_c0d {S : Slots} {hd : Hd} (C : Str) (F : Ini) (u v w : T) : mApp 0 (mkFn C (srcI 0 [.d 0, .d 1, .d 2] [u, v, w] [] F)) [] S hd = apK (mkK C (F [] [u, v, w] hd)) S := by
  rw [mApp_ap, mkFn_ap]; rfl
namespace K53
/-! ### some cells -/
def someLots (c : Int) : List (List Int) := (lots (rngI c)).filter fun lot => decide (lot ≠ [])
theorem someLots_ok (c : Int) (hc : c = 2 ∨ c = 3 ∨ c = 4 ∨ c = 5) : someLots c ≠ [] ∧ (someLots c).length ≤ 40 := by
  rcases hc with rfl | rfl | rfl | rfl <;> decide +kernel
theorem sort_rng (c : Int) (hc : c = 2 ∨ c = 3 ∨ c = 4 ∨ c = 5) : sortI (rngI c) = rngI c := by
  refine List.mergeSort_of_pairwise ?_
  rcases hc with rfl | rfl | rfl | rfl <;> decide +kernel
theorem CellsOk.rev {c : Int} {xs : List Int} (h : CellsOk c xs) : CellsOk c xs.reverse := ⟨fun x m => h.rg x (List.mem_reverse.mp m), (List.reverse_perm xs).nodup_iff.mpr h.nd⟩
theorem s_some (n : Nat) (c : Int) (h : HS) (ok : HdOk h) (hc : c = 2 ∨ c = 3 ∨ c = 4 ∨ c = 5) :
    ∃ lot h', runC (tabX Pr53 (n + 4)).t c__law_some [.hand, .lst ((rngI c).map T.int)] (some h) = some (.ok (.f (lot.map T.int)), some h') ∧ CellsOk c lot ∧ lot ≠ [] ∧ HdOk h' := by
  have wl := s_lots (n + 2) c (some h) hc
  have g3 := lcL_map (S := [hT, some (.v (.lst ((rngI c).map T.int))), none]) (hd := some h) (vs := [2]) (g := gNm 2) (c := lb__law_some_1c (n + 3)) (e := nmV 2) (fun t => match t with
    | .tup xs => decide (xs ≠ [])
    | _ => false) id (xs := (lots (rngI c)).map tupI) (acc := []) (fun x hx => by
    obtain ⟨lot, hl, rfl⟩ := List.mem_map.mp hx
    refine ⟨[hT, some (.v (.lst ((rngI c).map T.int))), some (.v (tupI lot))], [hT, some (.v (.lst ((rngI c).map T.int))), some (.v (tupI lot))], by simp, ?_, fun _ => ⟨_, by simp; rfl, by simp [wipeS]⟩, fun _ => by simp [wipeS]⟩
    cases lot <;> simp [lb__law_some_1c, tupI, eqBs]) (by simp only [List.length_nil, List.length_map]; have := (lots_ok c hc).1; omega)
  have g4 : (((lots (rngI c)).map tupI).filter (fun t => match t with
    | .tup xs => decide (xs ≠ [])
    | _ => false)).map id = (someLots c).map tupI := by
    rw [List.map_id, List.filter_map]
    unfold someLots
    congr 1
    refine List.filter_congr fun x _ => ?_
    simp [tupI]
  rw [g4] at g3
  obtain ⟨m1, m2⟩ := someLots_ok c hc
  obtain ⟨x, h4, wp, hx, ok4⟩ := s_pick n h ((someLots c).map tupI) ok (by simpa using m1) (by rw [List.length_map]; omega)
  obtain ⟨lot, hl, rfl⟩ := List.mem_map.mp hx
  obtain ⟨hl1, hl2⟩ := List.mem_filter.mp hl
  have hl2 := of_decide_eq_true hl2
  have lok := (lots_ok c hc).2 lot hl1
  obtain ⟨r, h5, wd, r0, r1, ok5⟩ := s_draw (n + 1) h4 3 ok4 (by omega) (by omega)
  have g6 : mLc [2] (mItemsA (M.map OT.fz (mCall 1 (srcF 1 [.p 0] [] [] (runC (tabX Pr53 (n + 3)).t c__law_lots)) (mCons (M.map OT.fz (mUn sortT (peek 1))) (M.ret []))))) (gNm 2) (lb__law_some_1c (n + 3)) (nmV 2) [hT, some (.v (.lst ((rngI c).map T.int))), none] (some h) = some (.ok (.f ((someLots c).map tupI)), [hT, some (.v (.lst ((rngI c).map T.int))), none], some h) := by
    rw [mLc_ap]
    simp only [List.nil_append] at g3
    simp [wipeS, sort_rng c hc, wl, g3, hT]
  by_cases z : r = 0
  · refine ⟨lot.reverse, h5, ?_, lok.rev, by simpa using hl2, ok5⟩
    rw [mir__law_some]
    simp only [hT] at g6
    simp [g6, -mLc_ap, wp, tupI, wd, z]
  · refine ⟨lot, h5, ?_, lok, hl2, ok5⟩
    rw [mir__law_some]
    simp only [hT] at g6
    simp [g6, -mLc_ap, wp, tupI, wd, z]
/-! ### ground, counts, sorts -/
theorem s_ground (n : Nat) (l : Lnd) (hd : Hd) (ok : LndOk l) : runC (tabX Pr53 (n + 5)).t c__law_ground [lndT l] hd = some (.ok (.v l.i), hd) := by
  have w := s_Land n l.c l.rows l.roads hd ok
  rw [mir__law_ground]
  simp [lndT, w, Lnd.i, landI]
theorem s_counts (n : Nat) (h : HS) (ok : HdOk h) : ∃ u h', runC (tabX Pr53 (n + 4)).t c__law_counts [.hand] (some h) = some (.ok (.v (cntT u)), some h') ∧ HdOk h' := by
  obtain ⟨x, h', w, hx, ok'⟩ := s_pick n h ([⟨true, true, false⟩, ⟨true, true, false⟩, ⟨false, true, false⟩, ⟨true, false, false⟩, ⟨false, false, false⟩, ⟨true, true, true⟩, ⟨false, false, true⟩, ⟨false, true, false⟩].map cntT) ok (by simp) (by simp)
  obtain ⟨u, _, rfl⟩ := List.mem_map.mp hx
  refine ⟨u, h', ?_, ok'⟩
  simp only [List.map_cons, List.map_nil, cntT] at w
  rw [mir__law_counts]
  simp [w, cntT]
theorem s_sorts (n : Nat) (u : Cnt) (h : HS) (ok : HdOk h) : ∃ cn h', runC (tabX Pr53 (n + 3)).t c__law_sorts [.hand, cntT u] (some h) = some (.ok (.v cn), some h') ∧ CntR cn u.i ∧ HdOk h' := by
  obtain ⟨a, b, g⟩ := u
  have w2 := fun hd => s_Counted (n + 1) a b g hd
  have e0 : ∀ hd, ixH hd (cntT ⟨a, b, g⟩) (.int 0) = some (.v (.bl a)) := fun hd => by simp [cntT]
  have e1 : ∀ hd, ixH hd (cntT ⟨a, b, g⟩) (.int 1) = some (.v (.bl b)) := fun hd => by simp [cntT]
  have e2 : ∀ hd, ixH hd (cntT ⟨a, b, g⟩) (.int 2) = some (.v (.bl g)) := fun hd => by simp [cntT]
  obtain ⟨r, h5, wd, r0, r1, ok5⟩ := s_draw n h 2 ok (by omega) (by omega)
  by_cases q : a = true ∧ b = true ∧ g = false
  · obtain ⟨rfl, rfl, rfl⟩ := q
    by_cases z : r = 0
    · refine ⟨.non, h5, ?_, .non, ok5⟩
      rw [mir__law_sorts]
      simp [cntT, wd, z]
    · refine ⟨cntI true true false, h5, ?_, .is _ _ _, ok5⟩
      rw [mir__law_sorts]
      simp [cntT, wd, z, w2, cntI]
  · refine ⟨cntI a b g, h, ?_, .is _ _ _, ok⟩
    rw [mir__law_sorts]
    cases a <;> cases b <;> cases g <;> first | (exact absurd ⟨rfl, rfl, rfl⟩ q) | simp [cntT, w2, cntI]
end K53
end TL
namespace TL
open PySem PySem.Spec PyProof.Rows L2
namespace K53
/-! ### a drawn wish -/
inductive Wsh where
  | every (u : Cnt) (ss : List Str)
  | land (u : Cnt) (l : Lnd) (cs : List Int) (bs : List Str)
def Wsh.t : Wsh → T
  | .every u ss => ewT u ss
  | .land u l cs bs => lwT u l cs bs
def Wsh.i : Wsh → T
  | .every u ss => ewI u ss
  | .land u l cs bs => lwI u l cs bs
structure LwOk (l : Lnd) (cs : List Int) (bs : List Str) : Prop where
  la : LndOk l
  ce : CellsOk l.c cs
  ba : WordsOk BARS bs
  e : ¬ (cs = [] ∧ bs = [])
  d : ("double" : Str) ∈ bs → l.c = 2 ∨ l.c = 3
structure EwOk (ss : List Str) : Prop where
  w : WordsOk SORTS ss
  e : ss ≠ []
def Wsh.Ok : Wsh → Prop
  | .every _ ss => EwOk ss
  | .land _ l cs bs => LwOk l cs bs
def sortAt (k : Int) : Str := if k = 0 then "far" else if k = 1 then "loose" else "bound"
def sortAtT : T → T
  | .int k => .str (sortAt k)
  | t => t
theorem sorts_of {lot : List Int} (h : CellsOk 3 lot) (h0 : lot ≠ []) : EwOk (lot.map sortAt) where
  w := ⟨fun x m => by
    obtain ⟨k, _, rfl⟩ := List.mem_map.mp m
    unfold sortAt SORTS
    split
    · simp
    · split <;> simp, nodup_map_on (fun a ha b hb e => by
      have a1 := h.rg a ha
      have b1 := h.rg b hb
      have ka : a = 0 ∨ a = 1 ∨ a = 2 := by omega
      have kb : b = 0 ∨ b = 1 ∨ b = 2 := by omega
      rcases ka with rfl | rfl | rfl <;> rcases kb with rfl | rfl | rfl <;> first | rfl | (simp [sortAt] at e)) h.nd⟩
  e := by simpa using h0
section
variable (n : Nat) (c : Int)
theorem wish_2 (u : Cnt) (h : HS) (ok : HdOk h) : ∃ (v : Cnt) (h' : HS), st__law_wish_2 (n + 2) [hT, some (.v (.int c)), some (.v (.bl false)), some (.v (cntT u)), none, none, none, none, none] (some h) = some (.next, [hT, some (.v (.int c)), some (.v (.bl false)), some (.v (cntT v)), none, none, none, none, none], some h') ∧ HdOk h' := by
  obtain ⟨a, b, g⟩ := u
  obtain ⟨r, h2, wd, r0, r1, ok2⟩ := s_draw n h 3 ok (by omega) (by omega)
  cases g with
  | false => exact ⟨⟨a, b, false⟩, h, by simp [st__law_wish_2, hT, cntT], ok⟩
  | true =>
    by_cases z : 0 < r
    · exact ⟨⟨a, b, false⟩, h2, by simp [st__law_wish_2, hT, cntT, wd, z], ok2⟩
    · exact ⟨⟨a, b, true⟩, h2, by simp [st__law_wish_2, hT, cntT, wd, z], ok2⟩
theorem wish_3 (u : Cnt) (h : HS) (ok : HdOk h) : ∃ (h' : HS), HdOk h' ∧ ((∃ ss, EwOk ss ∧ ∃ S', st__law_wish_3 (n + 4) [hT, some (.v (.int c)), some (.v (.bl false)), some (.v (cntT u)), none, none, none, none, none] (some h) = some (.ret (.v (ewT u ss)), S', some h')) ∨
    st__law_wish_3 (n + 4) [hT, some (.v (.int c)), some (.v (.bl false)), some (.v (cntT u)), none, none, none, none, none] (some h) = some (.next, [hT, some (.v (.int c)), some (.v (.bl false)), some (.v (cntT u)), none, none, none, none, none], some h')) := by
  obtain ⟨r, h3, wd, r0, r1, ok3⟩ := s_draw (n + 2) h 2 ok (by omega) (by omega)
  by_cases z : r = 0
  · obtain ⟨lot, h4, ws, lok, lne, ok4⟩ := s_some n 3 h3 ok3 (by omega)
    have r3 : (rngI 3).map T.int = [.int 0, .int 1, .int 2] := rfl
    rw [r3] at ws
    have lc := lok.seen.len
    refine ⟨h4, ok4, .inl ⟨lot.map sortAt, sorts_of lok lne, ?_⟩⟩
    have hl := lcL_mapT (S := [hT, some (.v (.int c)), some (.v (.bl false)), some (.v (cntT u)), some (.v (.lst (lot.map T.int))), none, none, none, none]) (hd := some h4) (vs := [5]) (g := gNm 5) (e := lb__law_wish_1e (n + 4)) sortAtT (xs := lot.map T.int) (acc := []) (fun x hx => by
      obtain ⟨k, hk, rfl⟩ := List.mem_map.mp hx
      have rg := lok.rg k hk
      have kk : k = 0 ∨ k = 1 ∨ k = 2 := by omega
      refine ⟨[hT, some (.v (.int c)), some (.v (.bl false)), some (.v (cntT u)), some (.v (.lst (lot.map T.int))), some (.v (.int k)), none, none, none], [hT, some (.v (.int c)), some (.v (.bl false)), some (.v (cntT u)), some (.v (.lst (lot.map T.int))), some (.v (.int k)), none, none, none], by simp, ?_, by simp [wipeS]⟩
      rcases kk with rfl | rfl | rfl <;> simp [lb__law_wish_1e, sortAtT, sortAt]) (by simp only [List.length_nil, List.length_map]; omega)
    have g2 : (lot.map T.int).map sortAtT = (lot.map sortAt).map T.str := by
      rw [List.map_map, List.map_map]
      rfl
    obtain ⟨L, hL⟩ : ∃ L, lot.map sortAt = L := ⟨_, rfl⟩
    rw [g2, hL] at hl
    rw [hL]
    simp only [hT, List.nil_append] at hl
    refine ⟨[hT, some (.v (.int c)), some (.v (.bl false)), some (.v (cntT u)), some (.v (.lst (lot.map T.int))), none, none, none, none], ?_⟩
    · simp [st__law_wish_3, hT, wd, z, ws, wipeS, hl, ewT]
  · exact ⟨h3, ok3, .inr (by simp [st__law_wish_3, hT, wd, z])⟩
end
theorem s_wish (n : Nat) (c : Int) (h : HS) (ok : HdOk h) (hc : c = 2 ∨ c = 3 ∨ c = 4 ∨ c = 5) :
    ∃ (w : Wsh) (h' : HS), runC (tabX Pr53 (n + 5)).t c__law_wish [.hand, .int c, .bl false] (some h) = some (.ok (.v w.t), some h') ∧ w.Ok ∧ HdOk h' := by
  obtain ⟨u0, h1, w1, ok1⟩ := s_counts n h ok
  obtain ⟨u, h2, w2, ok2⟩ := wish_2 (n + 2) c u0 h1 ok1
  obtain ⟨h3, ok3, w3⟩ := wish_3 n c u h2 ok2
  have okg : rgOkB 0 c = true := by rcases hc with rfl | rfl | rfl | rfl <;> decide
  have e6 : rngL 0 c = (rngI c).map T.int := rngL_int c
  have s1 : st__law_wish_1 (n + 4) [hT, some (.v (.int c)), some (.v (.bl false)), none, none, none, none, none, none] (some h) = some (.next, [hT, some (.v (.int c)), some (.v (.bl false)), some (.v (cntT u0)), none, none, none, none, none], some h1) := by
    simp [st__law_wish_1, hT, w1]
  rw [mir__law_wish]
  have e0 : slots0 9 [T.hand, .int c, .bl false] = [hT, some (.v (.int c)), some (.v (.bl false)), none, none, none, none, none, none] := rfl
  rcases w3 with ⟨ss, sok, S', w3⟩ | w3
  · refine ⟨.every u ss, h3, ?_, sok, ok3⟩
    rw [runS_ap, e0, sSeq_ap, s1, qk_next, sSeq_ap, w2, qk_next, sSeq_ap, w3, qk_ret, runK_ret]
    rfl
  · obtain ⟨l, h4, w4, lc, lok, ok4⟩ := s_law_land n c h3 ok3 hc
    obtain ⟨cs, h5, w5, cok, cne, ok5⟩ := s_some n c h4 ok4 hc
    obtain ⟨x, h6, w6, hx, ok6⟩ := s_pick (n + 1) h5 [.lst [], .lst [], .lst [], .lst [.str "needed"]] ok5 (by simp) (by simp)
    have hb : ∃ bs : List Str, x = .lst (bs.map T.str) ∧ (bs = [] ∨ bs = [Str.ofString "needed"]) := by
      simp only [List.mem_cons, List.not_mem_nil, or_false] at hx
      rcases hx with rfl | rfl | rfl | rfl
      · exact ⟨[], rfl, .inl rfl⟩
      · exact ⟨[], rfl, .inl rfl⟩
      · exact ⟨[], rfl, .inl rfl⟩
      · exact ⟨[Str.ofString "needed"], rfl, .inr rfl⟩
    obtain ⟨bs, rfl, hb⟩ := hb
    have bok : WordsOk BARS bs := by
      rcases hb with rfl | rfl
      · exact ⟨by simp, by simp⟩
      · exact ⟨by simp [BARS], by simp⟩
    have dno : ("double" : Str) ∉ bs := by
      rcases hb with rfl | rfl <;> simp
    subst lc
    obtain ⟨r, h7, w7, r0, r1, ok7⟩ := s_draw (n + 2) h6 4 ok6 (by omega) (by omega)
    rw [runS_ap, e0, sSeq_ap, s1, qk_next, sSeq_ap, w2, qk_next, sSeq_ap, w3, qk_next]
    by_cases q : bs = []
    · subst q
      refine ⟨.land u l cs [], h6, ?_, ⟨lok, cok, bok, fun z => cne z.1, fun z => absurd z dno⟩, ok6⟩
      simp [st__law_wish_4, st__law_wish_5, st__law_wish_6, st__law_wish_7, st__law_wish_8, hT, w4, listRg, okg, e6, w5, Wsh.t, lwT]
      simp at w6
      simp [w6]
    · have hb : bs = [Str.ofString "needed"] := hb.resolve_left q
      subst hb
      simp only [List.map_cons, List.map_nil] at w6
      by_cases z : r = 0
      · refine ⟨.land u l [] ["needed"], h7, ?_, ⟨lok, ⟨by simp, by simp⟩, bok, by simp, fun z => absurd z dno⟩, ok7⟩
        simp [st__law_wish_4, st__law_wish_5, st__law_wish_6, st__law_wish_7, st__law_wish_8, hT, w4, listRg, okg, e6, w5, w6, w7, z, Wsh.t, lwT]
      · refine ⟨.land u l cs ["needed"], h7, ?_, ⟨lok, cok, bok, by simp, fun z => absurd z dno⟩, ok7⟩
        simp [st__law_wish_4, st__law_wish_5, st__law_wish_6, st__law_wish_7, st__law_wish_8, hT, w4, listRg, okg, e6, w5, w6, w7, z, Wsh.t, lwT]
end K53
end TL
namespace TL
open PySem PySem.Spec PyProof.Rows L2
namespace K53
/-! ### a wish is made, has what it was given -/
theorem okDs_bars {bs : List Str} (h : WordsOk BARS bs) (k : Nat) : okDs k (bs.map T.str) = true := by
  rw [okDs_str]; exact h.ok bars_ok
theorem s_made (n : Nat) (w : Wsh) (h : HS) (ok : HdOk h) (hw : w.Ok) : ∃ h', runC (tabX Pr53 (n + 6)).t c__law_made_wish [.hand, w.t] (some h) = some (.ok (.v w.i), some h') ∧ HdOk h' := by
  cases w with
  | every u ss =>
    obtain ⟨cn, h1, w1, cr, ok1⟩ := s_sorts (n + 2) u h ok
    have w2 := s_EveryLandWish (n + 2) ss (.lst (ss.map T.str)) cn u.i (some h1) (.inl rfl) hw.w hw.e cr
    refine ⟨h1, ?_, ok1⟩
    rw [mir__law_made_wish]
    simp [Wsh.t, ewT, w1, w2, Wsh.i, ewI]
  | land u l cs bs =>
    have hw : LwOk l cs bs := hw
    have c5 : l.c ≤ 5 := LandOk.c5 hw.la
    have c2 : 2 ≤ l.c := LandOk.c2 hw.la
    have dd : ¬ (("double" : Str) ∈ bs ∧ 3 < l.c) := fun z => by have := hw.d z.1; omega
    have wg := s_ground n l (some h) hw.la
    have ob := okDs_bars hw.ba 62
    by_cases q : bs = []
    · subst q
      obtain ⟨r, h1, wd, r0, r1, ok1⟩ := s_draw (n + 3) h 2 ok (by omega) (by omega)
      obtain ⟨cn, h2, w1, cr, ok2⟩ := s_sorts (n + 2) u h1 ok1
      have wg1 := s_ground n l (some h1) hw.la
      by_cases z : r = 0
      · have w2 := s_LandWish (n + 1) l.c l.rows l.roads cs [] (.lst (cs.map T.int)) (.tup []) cn u.i (some h2) (.inl rfl) hw.ce c5 (.inr rfl) hw.ba cr hw.e dd
        refine ⟨h2, ?_, ok2⟩
        rw [mir__law_made_wish]
        simp [Wsh.t, lwT, w1, wd, z, wg1, Lnd.i, w2, Wsh.i, lwI]
      · have w2 := s_LandWish (n + 1) l.c l.rows l.roads cs [] (.tup (cs.map T.int)) (.lst []) cn u.i (some h2) (.inr rfl) hw.ce c5 (.inl rfl) hw.ba cr hw.e dd
        refine ⟨h2, ?_, ok2⟩
        rw [mir__law_made_wish]
        simp [Wsh.t, lwT, w1, wd, z, wg1, Lnd.i, w2, Wsh.i, lwI]
    · obtain ⟨cn, h2, w1, cr, ok2⟩ := s_sorts (n + 2) u h ok
      have w2 := s_LandWish (n + 1) l.c l.rows l.roads cs bs (.tup (cs.map T.int)) (.lst (bs.map T.str)) cn u.i (some h2) (.inr rfl) hw.ce c5 (.inl rfl) hw.ba cr hw.e dd
      refine ⟨h2, ?_, ok2⟩
      rw [mir__law_made_wish]
      have e1 : eqBs (bs.map T.str) [] = false := by
        cases bs with
        | nil => exact absurd rfl q
        | cons b r => simp
      simp only [okDs_str] at ob
      simp [Wsh.t, lwT, w1, wg, Lnd.i, w2, Wsh.i, lwI, ob, e1, -List.all_eq_true]
theorem s_same_counts (n : Nat) (u v : Cnt) (hd : Hd) : runC (tabX Pr53 (n + 1)).t c__law_same_counts [u.i, cntT v] hd = some (.ok (.v (.bl (decide (u = v)))), hd) := by
  obtain ⟨a, b, c⟩ := u
  obtain ⟨a', b', c'⟩ := v
  rw [mir__law_same_counts]
  cases a <;> cases b <;> cases c <;> cases a' <;> cases b' <;> cases c' <;> simp [Cnt.i, cntI, cntFs, cntT, List.lookup]
/-! the methods -/
theorem met_LandWish (n : Nat) : (tabX Pr53 (n + 1)).t.met "things" 0 "LandWish" = some (srcF 1 [.p 0] [] [] (runC (tabX Pr53 n).t c_LandWish_things)) := by kernel_rfl
theorem met_EveryLandWish (n : Nat) : (tabX Pr53 (n + 1)).t.met "things" 0 "EveryLandWish" = some (srcF 1 [.p 0] [] [] (runC (tabX Pr53 n).t c_EveryLandWish_things)) := by kernel_rfl
theorem met_Wish (n : Nat) : (tabX Pr53 (n + 1)).t.met "things" 0 "Wish" = some (srcF 1 [.p 0] [] [] (runC (tabX Pr53 n).t c_Wish_things)) := by kernel_rfl
theorem okDs_th (c : Int) (cs : List Int) (bs : List Str) : okDs 63 (thL c cs bs) = true := by
  have h1 : ∀ xs : List Int, okDs 63 (xs.map shutT) = true := fun xs => okDs_all fun x m => by
    obtain ⟨i, _, rfl⟩ := List.mem_map.mp m
    simp [shutT]
  have h2 : ∀ xs : List Int, okDs 63 (xs.map needT) = true := fun xs => okDs_all fun x m => by
    obtain ⟨i, _, rfl⟩ := List.mem_map.mp m
    simp [needT]
  have h3 : okDs 63 (dbl c) = true := by
    unfold dbl
    split
    · simp [dblT]
    · split <;> simp [dblT]
  unfold thL
  rw [okDs_append, okDs_append, h1]
  split <;> split <;> simp [h2, h3]
theorem okDs_sth (ss : List Str) (h : ss.all PyData.strOk = true) : okDs 63 (ss.map sortTh) = true := okDs_all fun x m => by
    obtain ⟨i, hi, rfl⟩ := List.mem_map.mp m
    simp [sortTh, List.all_eq_true.mp h i hi]
theorem s_has (n : Nat) (w : Wsh) (hd : Hd) (hw : w.Ok) : runC (tabX Pr53 (n + 6)).t c__law_has [w.i, w.t] hd = some (.ok (.v (.bl true)), hd) := by
  cases w with
  | every u ss =>
    have hs : ss.all PyData.strOk = true := hw.w.ok sorts_ok
    have w1 := s_EveryLandWish_things (n + 4) hd u ss
    have w2 := s_law_things_e (n + 4) hd u ss hs
    have w3 := s_same_counts (n + 4) u u hd
    have ob := sortsOf_ok ss
    have o1 := okDs_sth _ ob
    have r1 := eqBs_refl 63 _ o1
    have e1 : isiT Pr53.base.isi (.c "Wish") (ewI u ss) = some true := by simp [ewI]
    have e2 : isiT Pr53.base.isi (.c "EveryLandWish") (ewI u ss) = some true := by simp [ewI]
    have e3 : fldT (Pr53.base.fld "sorts") "sorts" (ewI u ss) = some (.tup ((sortsOf ss).map T.str)) := by simp [ewI, ewFs, List.lookup]
    have e4 : fldT (Pr53.base.fld "counted") "counted" (ewI u ss) = some u.i := by simp [ewI, ewFs, List.lookup]
    have e5 : ∀ hd, ixH hd (ewT u ss) (.int 0) = some (.v (.str "every")) := fun hd => by simp [ewT]
    have e6 : ∀ hd, ixH hd (ewT u ss) (.int 1) = some (.v (.lst (ss.map T.str))) := fun hd => by simp [ewT]
    have e7 : ∀ hd, ixH hd (ewT u ss) (.int 2) = some (.v (cntT u)) := fun hd => by simp [ewT]
    have m1 : ∀ S, mt1 (fun C => ((tabX Pr53 (n + 6)).t.met "things" 0 C).map fun F => (0, F)) "things" (M.ret []) (ewI u ss) S hd = some (.ok (.v (.tup ((sortsOf ss).map sortTh))), S, hd) := fun S => by
      simp only [ewI, mt1_ins, met_EveryLandWish, Option.map_some, mt2_some]
      simp only [ewI] at w1
      simp [ewFs, List.lookup]
      simp only [ewFs] at w1
      simp [w1]
    have c1 : mLc [3] (mItemsA (M.map OT.fz (mLst (mCons (M.ret (.str "far")) (mCons (M.ret (.str "loose")) (mCons (M.ret (.str "bound")) (M.ret []))))))) (gNm 3) (lb__law_has_1c (n + 5)) (nmV 3) [some (.v (ewI u ss)), some (.v (ewT u ss)), none, none, none] hd = some (.ok (.f ((sortsOf ss).map T.str)), [some (.v (ewI u ss)), some (.v (ewT u ss)), none, none, none], hd) := by
      by_cases q1 : ("far" : Str) ∈ ss <;> by_cases q2 : ("loose" : Str) ∈ ss <;> by_cases q3 : ("bound" : Str) ∈ ss <;> simp [e6, hs, q1, q2, q3, lcL_cons, wipeS, lb__law_has_1c, sortsOf, SORTS, -List.all_eq_true]
    rw [mir__law_has]
    simp [Wsh.i, Wsh.t, m1, w2, o1, r1, e1, e2, e3, e4, e5, e6, e7, c1, ob, w3, -mLc_ap, -List.all_eq_true]
  | land u l cs bs =>
    have hw : LwOk l cs bs := hw
    have c5 : l.c ≤ 5 := LandOk.c5 hw.la
    have c2 : 2 ≤ l.c := LandOk.c2 hw.la
    have hc : l.c = 2 ∨ l.c = 3 ∨ l.c = 4 ∨ l.c = 5 := by omega
    have lc := hw.ce.seen.len
    have hb : bs.all PyData.strOk = true := hw.ba.ok bars_ok
    have w1 := s_LandWish_things (n + 4) hd u l cs bs hc (by omega) hw.d
    have w2 := s_law_things_l (n + 4) hd u l cs bs hb hc (by omega) hw.d
    have w3 := s_same_counts (n + 4) u u hd
    have wg := s_ground n l hd hw.la
    have ob := barsOf_ok bs
    have o1 := okDs_th l.c cs bs
    have r1 := eqBs_refl 63 _ o1
    have e1 : isiT Pr53.base.isi (.c "Wish") (lwI u l cs bs) = some true := by simp [lwI]
    have e2 : isiT Pr53.base.isi (.c "LandWish") (lwI u l cs bs) = some true := by simp [lwI]
    have e3 : fldT (Pr53.base.fld "bars") "bars" (lwI u l cs bs) = some (.tup ((barsOf bs).map T.str)) := by simp [lwI, lwFs, List.lookup]
    have e4 : fldT (Pr53.base.fld "counted") "counted" (lwI u l cs bs) = some u.i := by simp [lwI, lwFs, List.lookup]
    have e8 : fldT (Pr53.base.fld "land") "land" (lwI u l cs bs) = some l.i := by simp [lwI, lwFs, List.lookup]
    have e9 : fldT (Pr53.base.fld "cells") "cells" (lwI u l cs bs) = some (.tup ((sortI cs).map T.int)) := by simp [lwI, lwFs, List.lookup]
    have e5 : ∀ hd, ixH hd (lwT u l cs bs) (.int 0) = some (.v (.str "land")) := fun hd => by simp [lwT]
    have e6 : ∀ hd, ixH hd (lwT u l cs bs) (.int 1) = some (.v (lndT l)) := fun hd => by simp [lwT]
    have e7 : ∀ hd, ixH hd (lwT u l cs bs) (.int 2) = some (.v (.lst (cs.map T.int))) := fun hd => by simp [lwT]
    have e10 : ∀ hd, ixH hd (lwT u l cs bs) (.int 3) = some (.v (.lst (bs.map T.str))) := fun hd => by simp [lwT]
    have e11 : ∀ hd, ixH hd (lwT u l cs bs) (.int 4) = some (.v (cntT u)) := fun hd => by simp [lwT]
    have m1 : ∀ S, mt1 (fun C => ((tabX Pr53 (n + 6)).t.met "things" 0 C).map fun F => (0, F)) "things" (M.ret []) (lwI u l cs bs) S hd = some (.ok (.v (.tup (thL l.c cs bs))), S, hd) := fun S => by
      simp only [lwI, mt1_ins, met_LandWish, Option.map_some, mt2_some]
      simp only [lwI] at w1
      simp [lwFs, List.lookup]
      simp only [lwFs] at w1
      simp [w1]
    have c1 : mLc [4] (mItemsA (M.map OT.fz (mLst (mCons (M.ret (.str "double")) (mCons (M.ret (.str "needed")) (M.ret [])))))) (gNm 4) (lb__law_has_2c (n + 5)) (nmV 4) [some (.v (lwI u l cs bs)), some (.v (lwT u l cs bs)), none, none, none] hd = some (.ok (.f ((barsOf bs).map T.str)), [some (.v (lwI u l cs bs)), some (.v (lwT u l cs bs)), none, none, none], hd) := by
      by_cases q1 : ("double" : Str) ∈ bs <;> by_cases q2 : ("needed" : Str) ∈ bs <;> simp [e10, hb, q1, q2, lcL_cons, wipeS, lb__law_has_2c, barsOf, BARS, -List.all_eq_true]
    have qq := fun S => q_Lnd (n + 4) S hd true l l
    have same : l.same l := ⟨rfl, rfl, rfl⟩
    simp only [same, decide_true, if_true, Bool.not_true] at qq
    rw [mir__law_has]
    simp [Wsh.i, Wsh.t, m1, w2, o1, r1, e1, e2, e3, e4, e5, e6, e7, e8, e9, e10, e11, c1, ob, w3, wg, qq, -mLc_ap, -List.all_eq_true]
end K53
end TL
namespace TL
open PySem PySem.Spec PyProof.Rows L2
namespace K53
/-! ### an unlike wish -/
def Wsh.same : Wsh → Wsh → Prop
  | .every u ss, .every v ts => u = v ∧ sortsOf ss = sortsOf ts
  | .land u l cs bs, .land v m ds es => u = v ∧ l.same m ∧ sortI cs = sortI ds ∧ barsOf bs = barsOf es
  | _, _ => False
def Wsh.ev : Wsh → Bool
  | .every _ _ => true
  | _ => false
theorem length_le_of_sub2 {α : Type} [DecidableEq α] : ∀ {l m : List α}, l.Nodup → (∀ x ∈ l, x ∈ m) → l.length ≤ m.length
  | [], m, _, _ => by simp
  | x :: l, m, hn, h => by
    have hx := h x List.mem_cons_self
    rw [List.nodup_cons] at hn
    have h2 : ∀ y ∈ l, y ∈ m.erase x := fun y hy => (List.mem_erase_of_ne (fun e => hn.1 (by rw [← e]; exact hy))).mpr (h y (List.mem_cons_of_mem _ hy))
    have := length_le_of_sub2 hn.2 h2
    rw [List.length_erase_of_mem hx] at this
    have : 0 < m.length := List.length_pos_of_mem hx
    simp only [List.length_cons]
    omega
theorem mem_sortsOf {b : Str} {bs : List Str} (h : b ∈ SORTS) : b ∈ sortsOf bs ↔ b ∈ bs := by
  unfold sortsOf
  rw [List.mem_filter]
  simp [h]
theorem neT_not (b : Bool) : notT (.bl b) = some (.bl (!b)) := rfl
theorem slice1 (xs : List T) : sliceT none (some 1) (.lst xs) = some (.f (xs.take 1)) := by
  show some (OT.f (cutT xs none (some ((1 : Nat) : Int)))) = _
  rw [cut_take]
def sortsElse (ss : List Str) : List Str := if ("loose" : Str) ∉ ss then ["loose"] else if (ss.length : Int) < 3 then ["far", "bound", "loose"] else ["bound"]
theorem sortsElse_ok {ss : List Str} (h : EwOk ss) : EwOk (sortsElse ss) ∧ sortsOf ss ≠ sortsOf (sortsElse ss) := by
  unfold sortsElse
  have sl : ("loose" : Str) ∈ SORTS := by simp [SORTS]
  have sf : ("far" : Str) ∈ SORTS := by simp [SORTS]
  have sb : ("bound" : Str) ∈ SORTS := by simp [SORTS]
  by_cases q : ("loose" : Str) ∈ ss
  · rw [if_neg (by simpa using q)]
    by_cases l3 : (ss.length : Int) < 3
    · rw [if_pos l3]
      refine ⟨⟨⟨by simp [SORTS], by simp⟩, by simp⟩, fun e => ?_⟩
      have key : ∀ x ∈ SORTS, x ∈ ss := fun x hx => by
        have m : x ∈ sortsOf ["far", "bound", "loose"] := (mem_sortsOf hx).mpr (by
          simp only [SORTS, List.mem_cons, List.not_mem_nil, or_false] at hx ⊢
          rcases hx with rfl | rfl | rfl <;> simp)
        rw [← e] at m
        exact (mem_sortsOf hx).mp m
      have := length_le_of_sub2 (l := SORTS) (m := ss) (by simp [SORTS]) key
      simp only [SORTS, List.length_cons, List.length_nil] at this
      omega
    · rw [if_neg l3]
      refine ⟨⟨⟨by simp [SORTS], by simp⟩, by simp⟩, fun e => ?_⟩
      have m : ("loose" : Str) ∈ sortsOf ss := (mem_sortsOf sl).mpr q
      rw [e] at m
      have := (mem_sortsOf sl).mp m
      simp at this
  · rw [if_pos q]
    refine ⟨⟨⟨by simp [SORTS], by simp⟩, by simp⟩, fun e => ?_⟩
    have m : ("loose" : Str) ∈ sortsOf ["loose"] := (mem_sortsOf sl).mpr (by simp)
    rw [← e] at m
    exact q ((mem_sortsOf sl).mp m)
theorem s_unlike_e (n : Nat) (u : Cnt) (ss : List Str) (h : HS) (ok : HdOk h) (hw : EwOk ss) : ∃ (w' : Wsh) (h' : HS), runC (tabX Pr53 (n + 6)).t c__law_unlike [.hand, ewT u ss] (some h) = some (.ok (.v w'.t), some h') ∧ w'.Ok ∧ HdOk h' ∧ ¬ (Wsh.every u ss).same w' ∧ ¬ w'.same (.every u ss) ∧ w'.ev = true := by
  obtain ⟨a, b, g⟩ := u
  have hs : ss.all PyData.strOk = true := hw.w.ok sorts_ok
  obtain ⟨r, h1, wd, r0, r1, ok1⟩ := s_draw (n + 3) h 2 ok (by omega) (by omega)
  by_cases z : r = 0
  · refine ⟨.every ⟨a, !b, g⟩ ss, h1, ?_, hw, ok1, fun e => ?_, fun e => ?_, rfl⟩
    · rw [mir__law_unlike]
      simp [ewT, cntT, wd, z, Wsh.t]
    · have := congrArg Cnt.b e.1
      simp at this
    · have := congrArg Cnt.b e.1
      simp at this
  · obtain ⟨k1, k2⟩ := sortsElse_ok hw
    refine ⟨.every ⟨a, b, g⟩ (sortsElse ss), h1, ?_, k1, ok1, fun e => k2 e.2, fun e => k2 e.2.symm, rfl⟩
    rw [mir__law_unlike]
    by_cases q : ("loose" : Str) ∈ ss
    · by_cases l3 : (ss.length : Int) < 3
      · simp [ewT, cntT, wd, z, Wsh.t, hs, q, l3, sortsElse, -List.all_eq_true]
      · simp [ewT, cntT, wd, z, Wsh.t, hs, q, l3, sortsElse, -List.all_eq_true]
    · simp [ewT, cntT, wd, z, Wsh.t, hs, q, sortsElse, -List.all_eq_true]
/-! unlike lands, cells -/
def offs (c : Int) (xs : List Int) : List Int := (rngI c).filter fun i => decide (i ∉ xs)
theorem offs_ok (c : Int) (xs : List Int) : CellsOk c (offs c xs) := ⟨fun x m => mem_rngI.mp (List.mem_filter.mp m).1, (nodup_rngI c).sublist List.filter_sublist⟩
theorem mem_offs {c : Int} {xs : List Int} {i : Int} : i ∈ offs c xs ↔ (0 ≤ i ∧ i < c) ∧ i ∉ xs := by
  unfold offs
  rw [List.mem_filter, mem_rngI]
  simp
theorem offs_land {l : Lnd} (h : LndOk l) : LndOk ⟨l.c, l.rows, offs l.c l.roads⟩ := by
  have c2 : 2 ≤ l.c := LandOk.c2 h
  have rd : CellsOk l.c l.roads := LandOk.rd h
  have r1 : 1 ≤ l.roads.length := LandOk.r1 h
  have r2 : (l.roads.length : Int) < l.c := LandOk.r2 h
  refine ⟨c2, LandOk.c5 h, LandOk.ro h, LandOk.ne h, LandOk.jn h, offs_ok _ _, ?_, ?_⟩
  · simp only
    by_cases q : 1 ≤ (offs l.c l.roads).length
    · exact q
    · have e : offs l.c l.roads = [] := List.length_eq_zero_iff.mp (by omega)
      have all : ∀ x ∈ rngI l.c, x ∈ l.roads := fun x hx => by
        by_cases m : x ∈ l.roads
        · exact m
        · have : x ∈ offs l.c l.roads := mem_offs.mpr ⟨mem_rngI.mp hx, m⟩
          rw [e] at this
          cases this
      have := length_le_of_sub (nodup_rngI l.c) all
      rw [length_rngI] at this
      omega
  · simp only
    obtain ⟨x, hx⟩ := List.exists_mem_of_length_pos (show 0 < l.roads.length by omega)
    have : (offs l.c l.roads).length < (rngI l.c).length := List.length_filter_lt_length_iff_exists.mpr ⟨x, mem_rngI.mpr (rd.rg x hx), by simpa using hx⟩
    rw [length_rngI] at this
    omega
theorem offs_ne {c : Int} {xs : List Int} (h : xs ≠ []) : sortI xs ≠ sortI (offs c xs) := fun e => by
  obtain ⟨x, hx⟩ := List.exists_mem_of_ne_nil xs h
  have m : x ∈ sortI xs := (perm_sortI xs).mem_iff.mpr hx
  rw [e] at m
  exact (mem_offs.mp ((perm_sortI _).mem_iff.mp m)).2 hx
def cellsElse (c : Int) (cs : List Int) : List Int := if offs c cs ≠ [] then offs c cs ++ cs.take 1 else cs.take 1
theorem cellsElse_ok {c : Int} {cs : List Int} (h : CellsOk c cs) (c2 : 2 ≤ c) : CellsOk c (cellsElse c cs) ∧ cellsElse c cs ≠ [] ∧ sortI cs ≠ sortI (cellsElse c cs) := by
  have ht : ∀ x ∈ cs.take 1, x ∈ cs := fun x m => List.mem_of_mem_take m
  unfold cellsElse
  by_cases q : offs c cs = []
  · rw [if_neg (by simpa using q)]
    have all : ∀ x ∈ rngI c, x ∈ cs := fun x hx => by
      by_cases m : x ∈ cs
      · exact m
      · have : x ∈ offs c cs := mem_offs.mpr ⟨mem_rngI.mp hx, m⟩
        rw [q] at this
        cases this
    have hl := length_le_of_sub (nodup_rngI c) all
    rw [length_rngI] at hl
    refine ⟨⟨fun x m => h.rg x (ht x m), h.nd.sublist (List.take_sublist _ _)⟩, fun z => ?_, fun e => ?_⟩
    · have := congrArg List.length z
      rw [List.length_take] at this
      simp only [List.length_nil] at this
      omega
    · have := congrArg List.length e
      rw [len_sortI, len_sortI, List.length_take] at this
      omega
  · rw [if_pos q]
    refine ⟨⟨fun x m => ?_, List.nodup_append.mpr ⟨(offs_ok c cs).nd, h.nd.sublist (List.take_sublist _ _), fun a ha b hb e => (mem_offs.mp ha).2 (by rw [e]; exact ht b hb)⟩⟩, fun z => q (List.append_eq_nil_iff.mp z).1, fun e => ?_⟩
    · rcases List.mem_append.mp m with m | m
      · exact (offs_ok c cs).rg x m
      · exact h.rg x (ht x m)
    · obtain ⟨x, hx⟩ := List.exists_mem_of_ne_nil _ q
      have m : x ∈ sortI (offs c cs ++ cs.take 1) := (perm_sortI _).mem_iff.mpr (List.mem_append_left _ hx)
      rw [← e] at m
      exact (mem_offs.mp hx).2 ((perm_sortI cs).mem_iff.mp m)
end K53
end TL
namespace TL
open PySem PySem.Spec PyProof.Rows L2
namespace K53
theorem offs_filter (c : Int) (xs : List Int) (p : T → Bool) (hp : ∀ i, p (.int i) = decide (i ∉ xs)) : (((rngI c).map T.int).filter p).map id = (offs c xs).map T.int := by
  rw [List.map_id, List.filter_map]
  unfold offs
  congr 1
  refine List.filter_congr fun x _ => ?_
  exact hp x
def notInP (xs : List Int) : T → Bool
  | .int i => decide (i ∉ xs)
  | _ => false
theorem unl_1 (n : Nat) (c : Int) (hc : c ≤ 5) (xs : List Int) (S : Slots) (hd : Hd) (a b : Option OT) (o2 o3 o5 o7 o8 : Option OT) (t4 : T) (h4 : ixH hd t4 (.int 2) = some (.v (.lst (xs.map T.int)))) :
    lcL [6] (gNm 6) (lb__law_unlike_1c n) (nmV 6) ((rngI c).map T.int) [] [a, b, o2, o3, some (.v t4), o5, none, o7, o8] hd = some ((offs c xs).map T.int, [a, b, o2, o3, some (.v t4), o5, none, o7, o8], hd) := by
  have := lcL_map (S := [a, b, o2, o3, some (.v t4), o5, none, o7, o8]) (hd := hd) (vs := [6]) (g := gNm 6) (c := lb__law_unlike_1c n) (e := nmV 6) (notInP xs) id (xs := (rngI c).map T.int) (acc := []) (fun x hx => by
    obtain ⟨i, hi, rfl⟩ := List.mem_map.mp hx
    refine ⟨[a, b, o2, o3, some (.v t4), o5, some (.v (.int i)), o7, o8], [a, b, o2, o3, some (.v t4), o5, some (.v (.int i)), o7, o8], by simp, ?_, fun _ => ⟨_, by simp; rfl, by simp [wipeS]⟩, fun _ => by simp [wipeS]⟩
    simp [lb__law_unlike_1c, h4, notInP]) (by simp only [List.length_nil, List.length_map, length_rngI]; omega)
  rw [offs_filter c xs (notInP xs) (fun _ => rfl)] at this
  simpa using this
theorem unl_2 (n : Nat) (c : Int) (hc : c ≤ 5) (xs : List Int) (S : Slots) (hd : Hd) (a : Option OT) (o2 o3 o4 o5 o7 o8 : Option OT) (t4 : T) (h4 : ixH hd t4 (.int 2) = some (.v (.lst (xs.map T.int)))) :
    lcL [6] (gNm 6) (lb__law_unlike_2c n) (nmV 6) ((rngI c).map T.int) [] [a, some (.v t4), o2, o3, o4, o5, none, o7, o8] hd = some ((offs c xs).map T.int, [a, some (.v t4), o2, o3, o4, o5, none, o7, o8], hd) := by
  have := lcL_map (S := [a, some (.v t4), o2, o3, o4, o5, none, o7, o8]) (hd := hd) (vs := [6]) (g := gNm 6) (c := lb__law_unlike_2c n) (e := nmV 6) (notInP xs) id (xs := (rngI c).map T.int) (acc := []) (fun x hx => by
    obtain ⟨i, hi, rfl⟩ := List.mem_map.mp hx
    refine ⟨[a, some (.v t4), o2, o3, o4, o5, some (.v (.int i)), o7, o8], [a, some (.v t4), o2, o3, o4, o5, some (.v (.int i)), o7, o8], by simp, ?_, fun _ => ⟨_, by simp; rfl, by simp [wipeS]⟩, fun _ => by simp [wipeS]⟩
    simp [lb__law_unlike_2c, h4, notInP]) (by simp only [List.length_nil, List.length_map, length_rngI]; omega)
  rw [offs_filter c xs (notInP xs) (fun _ => rfl)] at this
  simpa using this
theorem s_unlike_l (n : Nat) (u : Cnt) (l : Lnd) (cs : List Int) (bs : List Str) (h : HS) (ok : HdOk h) (hw : LwOk l cs bs) : ∃ (w' : Wsh) (h' : HS), runC (tabX Pr53 (n + 6)).t c__law_unlike [.hand, lwT u l cs bs] (some h) = some (.ok (.v w'.t), some h') ∧ w'.Ok ∧ HdOk h' ∧ ¬ (Wsh.land u l cs bs).same w' ∧ ¬ w'.same (.land u l cs bs) ∧ w'.ev = false := by
  obtain ⟨r, h1, wd, r0, r1, ok1⟩ := s_draw (n + 3) h 4 ok (by omega) (by omega)
  have c5 : l.c ≤ 5 := LandOk.c5 hw.la
  have c2 : 2 ≤ l.c := LandOk.c2 hw.la
  have hb : bs.all PyData.strOk = true := hw.ba.ok bars_ok
  have lc := hw.ce.seen.len
  have okr : rngOk l.c = true := by simp [rngOk]; omega
  have e5 : ∀ hd, ixH hd (lwT u l cs bs) (.int 0) = some (.v (.str "land")) := fun hd => by simp [lwT]
  have e6 : ∀ hd, ixH hd (lwT u l cs bs) (.int 1) = some (.v (lndT l)) := fun hd => by simp [lwT]
  have e7 : ∀ hd, ixH hd (lwT u l cs bs) (.int 2) = some (.v (.lst (cs.map T.int))) := fun hd => by simp [lwT]
  have e10 : ∀ hd, ixH hd (lwT u l cs bs) (.int 3) = some (.v (.lst (bs.map T.str))) := fun hd => by simp [lwT]
  have e11 : ∀ hd, ixH hd (lwT u l cs bs) (.int 4) = some (.v (cntT u)) := fun hd => by simp [lwT]
  have f0 : ∀ hd, ixH hd (lndT l) (.int 0) = some (.v (.int l.c)) := fun hd => by simp [lndT]
  have f1 : ∀ hd, ixH hd (lndT l) (.int 1) = some (.v (.lst (l.rows.map pairT))) := fun hd => by simp [lndT]
  have f2 : ∀ hd, ixH hd (lndT l) (.int 2) = some (.v (.lst (l.roads.map T.int))) := fun hd => by simp [lndT]
  have f3 : ixT (lndT l) (.int 0) = some (.v (.int l.c)) := by simp [lndT]
  have nd : ("needed" : Str) ∈ BARS := by simp [BARS]
  rw [mir__law_unlike]
  by_cases z0 : r = 0
  · subst z0
    have g1 := unl_1 (n + 5) l.c c5 l.roads [] (some h1) hT (some (.v (lwT u l cs bs))) none (some (.v (.int 0))) none none none (lndT l) (f2 _)
    have roads0 : l.roads ≠ [] := fun z => by have := LandOk.r1 hw.la; rw [z] at this; simp at this
    have k := offs_ne (c := l.c) roads0
    refine ⟨.land u ⟨l.c, l.rows, offs l.c l.roads⟩ cs bs, h1, ?_, ⟨offs_land hw.la, hw.ce, hw.ba, hw.e, hw.d⟩, ok1, fun e => k e.2.1.2.2, fun e => k e.2.1.2.2.symm, rfl⟩
    simp only [hT] at g1
    simp [e5, e6, e7, e10, e11, f0, f1, wd, rng1, okr, rngL_int, wipeS, g1, Wsh.t]
    simp [lwT, lndT]
  · by_cases z1 : r = 1
    · subst z1
      obtain ⟨k1, k2, k3⟩ := cellsElse_ok hw.ce c2
      have g1 := unl_2 (n + 5) l.c c5 cs [] (some h1) hT none (some (.v (.int 1))) none none none none (lwT u l cs bs) (e7 _)
      refine ⟨.land u l (cellsElse l.c cs) bs, h1, ?_, ⟨hw.la, k1, hw.ba, fun z => k2 z.1, hw.d⟩, ok1, fun e => k3 e.2.2.1, fun e => k3 e.2.2.1.symm, rfl⟩
      simp only [hT] at g1
      have e0 : eqBs ((offs l.c cs).map T.int) [] = decide (offs l.c cs = []) := by
        have := eqBs_int (offs l.c cs) []
        simpa using this
      have lo := (offs_ok l.c cs).seen.len
      have lt : (offs l.c cs).length + (cs.take 1).length ≤ 100000 := by rw [List.length_take]; omega
      by_cases q : offs l.c cs = []
      · simp [e5, e6, e7, e10, e11, f3, wd, rng1, okr, rngL_int, wipeS, g1, e0, q, intO, slice1, Wsh.t, cellsElse]
        simp [lwT]
      · have lt2 : (offs l.c cs).length + min 1 cs.length ≤ 100000 := by omega
        simp [e5, e6, e7, e10, e11, f3, wd, rng1, okr, rngL_int, wipeS, g1, e0, q, intO, slice1, Wsh.t, cellsElse, addT, lt2]
        simp [lwT]
    · by_cases z2 : r = 2
      · subst z2
        have m := fun (es : List Str) => mem_barsOf (bs := es) nd
        by_cases q : ("needed" : Str) ∈ bs
        · have nb : barsOf bs ≠ barsOf [] := fun e => by
            have := (m bs).mpr q
            rw [e] at this
            have := (m []).mp this
            cases this
          have e0 : eqBs (cs.map T.int) [] = decide (cs = []) := by
            have := eqBs_int cs []
            simpa using this
          by_cases c0 : cs = []
          · refine ⟨.land u l [0] [], h1, ?_, ⟨hw.la, ⟨fun x hx => by rw [List.mem_singleton.mp hx]; omega, by simp⟩, ⟨by simp, by simp⟩, by simp, by simp⟩, ok1, fun e => nb e.2.2.2, fun e => nb e.2.2.2.symm, rfl⟩
            subst c0
            simp [e5, e6, e7, e10, e11, wd, hb, q, Wsh.t, -List.all_eq_true]
            simp [lwT]
          · refine ⟨.land u l cs [], h1, ?_, ⟨hw.la, hw.ce, ⟨by simp, by simp⟩, fun z => c0 z.1, by simp⟩, ok1, fun e => nb e.2.2.2, fun e => nb e.2.2.2.symm, rfl⟩
            simp [e5, e6, e7, e10, e11, wd, hb, q, e0, c0, Wsh.t, -List.all_eq_true]
            simp [lwT]
        · have nb : barsOf bs ≠ barsOf [Str.ofString "needed"] := fun e => by
            have := (m [Str.ofString "needed"]).mpr (by simp)
            rw [← e] at this
            exact q ((m bs).mp this)
          refine ⟨.land u l cs [Str.ofString "needed"], h1, ?_, ⟨hw.la, hw.ce, ⟨by simp [BARS], by simp⟩, by simp, by simp⟩, ok1, fun e => nb e.2.2.2, fun e => nb e.2.2.2.symm, rfl⟩
          simp [e5, e6, e7, e10, e11, wd, hb, q, Wsh.t, -List.all_eq_true]
          simp [lwT]
      · have z3 : r = 3 := by omega
        subst z3
        obtain ⟨a, b, g⟩ := u
        have e12 : ixT (cntT ⟨a, b, g⟩) (.int 0) = some (.v (.bl a)) := by simp [cntT]
        have e13 : ixT (cntT ⟨a, b, g⟩) (.int 1) = some (.v (.bl b)) := by simp [cntT]
        have e14 : ixT (cntT ⟨a, b, g⟩) (.int 2) = some (.v (.bl g)) := by simp [cntT]
        refine ⟨.land ⟨!a, b, g⟩ l cs bs, h1, ?_, hw, ok1, fun e => ?_, fun e => ?_, rfl⟩
        · simp [e5, e6, e7, e10, e11, wd, e12, e13, e14, Wsh.t]
          simp [lwT, cntT]
        · have := congrArg Cnt.a e.1
          simp at this
        · have := congrArg Cnt.a e.1
          simp at this
end K53
end TL
namespace TL
open PySem PySem.Spec PyProof.Rows L2
namespace K53
/-! ### wrong things -/
def menuL (c : Int) : List T := [.non, .int c, .str "land", .tup [.int c, .lst [.tup [.int 0, .int 1]], .lst [.int 0]]]
def menuC (c : Int) : List T := [.lst [.int 0, .int 0], .lst [.int c], .tup [.int (-1)], .lst [.bl true], .non, .int 0, .str "0", .lst [.int 0, .non], .lst [.tup [.int 0]]]
def menuS : List T := [.lst [], .tup [], .lst [.str "far", .str "far"], .lst [.str "road"], .str "far", .non, .lst [.str "far", .str "bound", .str "near"], .lst [.int 0], .lst [.non], .tup [.str "loose", .str "far", .str "loose"]]
def menuN : List T := [.int 0, .bl true, .bl false, .str "all", .tup [.bl true, .bl true, .bl false], .lst []]
def menuB : List T := [.lst [.str "double", .str "double"], .lst [.str "shut"], .str "needed", .non, .int 0, .lst [.str "needed", .str "double", .str "needed"], .lst [.lst [.str "double"]], .tup [.non]]
section
variable (n : Nat) (c : Int) (hd : Hd)
theorem s_menuL : runC (tabX Pr53 (n + 1)).t c__law_menu [.int c, .str "land"] hd = some (.ok (.f (menuL c)), hd) := by
  rw [mir__law_menu]; kernel_rfl
theorem s_menuC : runC (tabX Pr53 (n + 1)).t c__law_menu [.int c, .str "cells"] hd = some (.ok (.f (menuC c)), hd) := by
  rw [mir__law_menu]; kernel_rfl
theorem s_menuS : runC (tabX Pr53 (n + 1)).t c__law_menu [.int c, .str "sorts"] hd = some (.ok (.f menuS), hd) := by
  rw [mir__law_menu]; kernel_rfl
theorem s_menuN : runC (tabX Pr53 (n + 1)).t c__law_menu [.int c, .str "counted"] hd = some (.ok (.f menuN), hd) := by
  rw [mir__law_menu]; kernel_rfl
theorem s_menuB : runC (tabX Pr53 (n + 1)).t c__law_menu [.int c, .str "bars"] hd = some (.ok (.f menuB), hd) := by
  rw [mir__law_menu]; kernel_rfl
end
theorem menuS_bad : ∀ x ∈ menuS, PlainW x ∧ (∀ xs, rowOf x = some xs → ∀ y ∈ xs, PlainW y) ∧ areWords SORTS x 1 = false := by
  intro x hx
  simp only [menuS, List.mem_cons, List.not_mem_nil, or_false] at hx
  rcases hx with rfl | rfl | rfl | rfl | rfl | rfl | rfl | rfl | rfl | rfl <;> simp [PlainW, rowOf, areWords, wordsFrom, SORTS]
theorem menuN_bad : ∀ x ∈ menuN, Plain x ∧ x ≠ .non := by
  intro x hx
  simp only [menuN, List.mem_cons, List.not_mem_nil, or_false] at hx
  rcases hx with rfl | rfl | rfl | rfl | rfl | rfl <;> simp [Plain]
theorem menuB_bad : ∀ x ∈ menuB, PlainW x ∧ (∀ xs, rowOf x = some xs → ∀ y ∈ xs, PlainW y) ∧ areWords BARS x 0 = false := by
  intro x hx
  simp only [menuB, List.mem_cons, List.not_mem_nil, or_false] at hx
  rcases hx with rfl | rfl | rfl | rfl | rfl | rfl | rfl | rfl <;> simp [PlainW, rowOf, areWords, wordsFrom, BARS]
theorem menuC_bad (c : Int) : ∀ x ∈ menuC c, Plain x ∧ (∀ xs, rowOf x = some xs → (∀ y ∈ xs, Plain y) ∧ xs.length < 10000) ∧ areCells c x 0 = false := by
  intro x hx
  simp only [menuC, List.mem_cons, List.not_mem_nil, or_false] at hx
  rcases hx with rfl | rfl | rfl | rfl | rfl | rfl | rfl | rfl | rfl <;> simp [Plain, rowOf, areCells, cellsFrom] <;> omega
theorem menuL_bad (c : Int) : ∀ x ∈ menuL c, isiT Pr53.base.isi (.c "Land") x = some false := by
  intro x hx
  simp only [menuL, List.mem_cons, List.not_mem_nil, or_false] at hx
  rcases hx with rfl | rfl | rfl | rfl <;> simp
theorem s_wrong_every (n : Nat) (u : Cnt) (ss : List Str) (h : HS) (ok : HdOk h) (hw : EwOk ss) : ∃ h', runC (tabX Pr53 (n + 6)).t c__law_wrong_every_wish [.hand, ewT u ss] (some h) = some (.ok (.v (.bl true)), some h') ∧ HdOk h' := by
  obtain ⟨x, h1, w1, hx, ok1⟩ := s_pick (n + 2) h menuS ok (by simp [menuS]) (by simp [menuS])
  obtain ⟨y, h2, w2, hy, ok2⟩ := s_pick (n + 2) h1 menuN ok1 (by simp [menuN]) (by simp [menuN])
  obtain ⟨x1, x2, x3⟩ := menuS_bad x hx
  obtain ⟨y1, y2⟩ := menuN_bad y hy
  have m1 := s_menuS (n + 4) 2 (some h)
  have m2 := s_menuN (n + 4) 2 (some h1)
  have r1 := x_sorts (n + 2) x y (some h2) x1 x2 x3
  have r2 := x_sorts (n + 2) x .non (some h2) x1 x2 x3
  have r3 := x_ecounted (n + 2) ss (.lst (ss.map T.str)) y (some h2) (.inl rfl) hw.w hw.e y1 y2
  have e6 : ∀ hd, ixH hd (ewT u ss) (.int 1) = some (.v (.lst (ss.map T.str))) := fun hd => by simp [ewT]
  refine ⟨h2, ?_, ok2⟩
  rw [mir__law_wrong_every_wish]
  simp [st__law_wrong_every_wish_1, st__law_wrong_every_wish_2, st__law_wrong_every_wish_3, st__law_wrong_every_wish_4, st__law_wrong_every_wish_5, m1, m2, w1, w2, r1, r2, r3, e6, whatF, List.lookup]
end K53
end TL
namespace TL
open PySem PySem.Spec PyProof.Rows L2
namespace K53
/-! ### a wish for nothing, a double burden that is too wide -/
theorem s_bare (n : Nat) (l : Lnd) (h : HS) (ok : HdOk h) (hl : LndOk l) : ∃ h', runC (tabX Pr53 (n + 6)).t c__law_bare [.hand, lndT l] (some h) = some (.ok (.v (.bl true)), some h') ∧ HdOk h' := by
  have c5 : l.c ≤ 5 := LandOk.c5 hl
  have c2 : 2 ≤ l.c := LandOk.c2 hl
  have wg := s_ground n l (some h) hl
  obtain ⟨x, h1, w1, hx, ok1⟩ := s_pick (n + 2) h [.lst [.str "double"], .tup [.str "needed", .str "double"]] ok (by simp) (by simp)
  obtain ⟨y, h2, w2, hy, ok2⟩ := s_pick (n + 2) h1 [.lst [], .lst [.int 0], .lst [.int 1, .int 0]] ok1 (by simp) (by simp)
  have hb : ∃ bs : List Str, Seq x (bs.map T.str) ∧ WordsOk BARS bs ∧ ("double" : Str) ∈ bs ∧ bs ≠ [] := by
    simp only [List.mem_cons, List.not_mem_nil, or_false] at hx
    rcases hx with rfl | rfl
    · exact ⟨[Str.ofString "double"], .inl rfl, ⟨by simp [BARS], by simp⟩, by simp, by simp⟩
    · exact ⟨[Str.ofString "needed", Str.ofString "double"], .inr rfl, ⟨by simp [BARS], by simp⟩, by simp, by simp⟩
  obtain ⟨bs, b1, b2, b3, b4⟩ := hb
  have hc : ∃ cs : List Int, y = .lst (cs.map T.int) ∧ CellsOk l.c cs := by
    simp only [List.mem_cons, List.not_mem_nil, or_false] at hy
    rcases hy with rfl | rfl | rfl
    · exact ⟨[], rfl, ⟨by simp, by simp⟩⟩
    · exact ⟨[0], rfl, ⟨fun z hz => by rw [List.mem_singleton.mp hz]; omega, by simp⟩⟩
    · exact ⟨[1, 0], rfl, ⟨fun z hz => by simp only [List.mem_cons, List.not_mem_nil, or_false] at hz; omega, by simp⟩⟩
  obtain ⟨cs, rfl, hc⟩ := hc
  have r1 := x_empty (n + 1) l.c l.rows l.roads (.lst []) .non (.tup []) (some h) (.inl rfl) .non (.inr rfl)
  have r2 := x_empty (n + 1) l.c l.rows l.roads (.tup []) .non (.tup []) (some h) (.inr rfl) .non (.inr rfl)
  have fi : landI l.c l.rows l.roads = l.i := rfl
  rw [fi] at r1 r2
  have e0 : ∀ hd, ixH hd (lndT l) (.int 0) = some (.v (.int l.c)) := fun hd => by simp [lndT]
  refine ⟨h2, ?_, ok2⟩
  rw [mir__law_bare]
  by_cases q : 3 < l.c
  · have r3 := x_wide (n + 1) l.c l.rows l.roads (.lst (cs.map T.int)) .non x (some h2) (.inl rfl) hc c5 b1 b2 .non b3 q
    rw [fi] at r3
    simp [st__law_bare_1, st__law_bare_2, st__law_bare_3, st__law_bare_4, st__law_bare_5, st__law_bare_6, wg, w1, w2, r1, r2, r3, e0, q, whatF, List.lookup]
  · have r3 := s_LandWish (n + 1) l.c l.rows l.roads cs bs (.lst (cs.map T.int)) x .non (cntI true true false) (some h2) (.inl rfl) hc c5 b1 b2 .non (fun z => b4 z.2) (fun z => q z.2)
    rw [fi] at r3
    simp [st__law_bare_1, st__law_bare_2, st__law_bare_3, st__law_bare_4, st__law_bare_5, st__law_bare_6, wg, w1, w2, r1, r2, r3, e0, q, whatF, List.lookup]
/-! ### wrong parts of a wish for one land -/
def partsT : List T := [.str "land", .str "cells", .str "counted", .str "bars"]
def wS (t : T) (c : Int) (o3 o4 o6 o7 o8 o9 o10 o11 : Option OT) : Slots := [hT, some (.v t), some (.v (.int c)), o3, o4, none, o6, o7, o8, o9, o10, o11, none]
section
variable (n : Nat) (t : T) (c : Int)
theorem wl_3 (h : HS) (ok : HdOk h) : ∃ (w0 w1 w2 w3 : Bool) (h' : HS), st__law_wrong_land_wish_3 (n + 2) (wS t c (some (.f partsT)) none none none none none none none) (some h) = some (.next, wS t c (some (.v (.lst partsT))) (some (.f [.bl w0, .bl w1, .bl w2, .bl w3])) none none none none none none, some h') ∧ HdOk h' := by
  obtain ⟨r1, h1, d1, _, _, ok1⟩ := s_draw n h 3 ok (by omega) (by omega)
  obtain ⟨r2, h2, d2, _, _, ok2⟩ := s_draw n h1 3 ok1 (by omega) (by omega)
  obtain ⟨r3, h3, d3, _, _, ok3⟩ := s_draw n h2 3 ok2 (by omega) (by omega)
  obtain ⟨r4, h4, d4, _, _, ok4⟩ := s_draw n h3 3 ok3 (by omega) (by omega)
  refine ⟨decide (r1 = 0), decide (r2 = 0), decide (r3 = 0), decide (r4 = 0), h4, ?_, ok4⟩
  simp [st__law_wrong_land_wish_3, wS, hT, partsT, lcL_cons, wipeS, lb__law_wrong_land_wish_1e, d1, d2, d3, d4]
theorem wl_4 (h : HS) (ok : HdOk h) (a0 a1 a2 a3 : Bool) : ∃ (w0 w1 w2 w3 : Bool) (h' : HS), st__law_wrong_land_wish_4 (n + 2) (wS t c (some (.v (.lst partsT))) (some (.f [.bl a0, .bl a1, .bl a2, .bl a3])) none none none none none none) (some h) = some (.next, wS t c (some (.v (.lst partsT))) (some (.f [.bl w0, .bl w1, .bl w2, .bl w3])) none none none none none none, some h') ∧ HdOk h' ∧ (w0 || w1 || w2 || w3) = true := by
  by_cases q : (a0 || a1 || a2 || a3) = true
  · refine ⟨a0, a1, a2, a3, h, ?_, ok, q⟩
    cases a0 <;> cases a1 <;> cases a2 <;> cases a3 <;> first | (simp at q; done) | simp [st__law_wrong_land_wish_4, wS, hT]
  · obtain ⟨r, h1, d1, r0, r1, ok1⟩ := s_draw n h 4 ok (by omega) (by omega)
    have rr : r = 0 ∨ r = 1 ∨ r = 2 ∨ r = 3 := by omega
    cases a0 <;> cases a1 <;> cases a2 <;> cases a3 <;> first | (exact absurd rfl q) | skip
    rcases rr with rfl | rfl | rfl | rfl
    · exact ⟨true, false, false, false, h1, by simp [st__law_wrong_land_wish_4, wS, hT, d1, setT, L2.ixN], ok1, rfl⟩
    · exact ⟨false, true, false, false, h1, by simp [st__law_wrong_land_wish_4, wS, hT, d1, setT, L2.ixN], ok1, rfl⟩
    · exact ⟨false, false, true, false, h1, by simp [st__law_wrong_land_wish_4, wS, hT, d1, setT, L2.ixN], ok1, rfl⟩
    · exact ⟨false, false, false, true, h1, by simp [st__law_wrong_land_wish_4, wS, hT, d1, setT, L2.ixN], ok1, rfl⟩
theorem wl_5 (h : HS) (ok : HdOk h) (w : OT) : ∃ (x0 x1 x2 x3 : T) (h' : HS), st__law_wrong_land_wish_5 (n + 3) (wS t c (some (.v (.lst partsT))) (some w) none none none none none none) (some h) = some (.next, wS t c (some (.v (.lst partsT))) (some w) (some (.f [x0, x1, x2, x3])) none none none none none, some h') ∧ HdOk h' ∧ x0 ∈ menuL c ∧ x1 ∈ menuC c ∧ x2 ∈ menuN ∧ x3 ∈ menuB := by
  obtain ⟨x0, h1, d1, m1, ok1⟩ := s_pick n h (menuL c) ok (by simp [menuL]) (by simp [menuL])
  obtain ⟨x1, h2, d2, m2, ok2⟩ := s_pick n h1 (menuC c) ok1 (by simp [menuC]) (by simp [menuC])
  obtain ⟨x2, h3, d3, m3, ok3⟩ := s_pick n h2 menuN ok2 (by simp [menuN]) (by simp [menuN])
  obtain ⟨x3, h4, d4, m4, ok4⟩ := s_pick n h3 menuB ok3 (by simp [menuB]) (by simp [menuB])
  have e1 := s_menuL (n + 2) c (some h)
  have e2 := s_menuC (n + 2) c (some h1)
  have e3 := s_menuN (n + 2) c (some h2)
  have e4 := s_menuB (n + 2) c (some h3)
  refine ⟨x0, x1, x2, x3, h4, ?_, ok4, m1, m2, m3, m4⟩
  simp [st__law_wrong_land_wish_5, wS, hT, partsT, lcL_cons, wipeS, lb__law_wrong_land_wish_2e, d1, d2, d3, d4, e1, e2, e3, e4]
end
end K53
end TL
namespace TL
open PySem PySem.Spec PyProof.Rows L2
namespace K53
/-- the word of the first wrong part -/
def dueW (w0 w1 w2 w3 : Bool) : Str := if w0 then "land" else if w1 then "cells" else if w2 then "counted" else "bars"
section
variable (n : Nat) (u : Cnt) (l : Lnd) (cs : List Int) (bs : List Str)
theorem wl_10 (hd : Hd) (w0 w1 w2 w3 : Bool) (hw : (w0 || w1 || w2 || w3) = true) (t : T) (c : Int) (x v7 v8 v9 v10 : OT) : ∃ S', st__law_wrong_land_wish_10 n (wS t c (some (.v (.lst partsT))) (some (.f [.bl w0, .bl w1, .bl w2, .bl w3])) (some x) (some v7) (some v8) (some v9) (some v10) none) hd = some (.next, S', hd) ∧ S' = wS t c (some (.v (.lst partsT))) (some (.f [.bl w0, .bl w1, .bl w2, .bl w3])) (some x) (some v7) (some v8) (some v9) (some v10) (some (.v (.str (dueW w0 w1 w2 w3)))) := by
  refine ⟨_, ?_, rfl⟩
  have e : enumT (.lst partsT) = some [.tup [.int 0, .str "land"], .tup [.int 1, .str "cells"], .tup [.int 2, .str "counted"], .tup [.int 3, .str "bars"]] := rfl
  cases w0 <;> cases w1 <;> cases w2 <;> cases w3 <;> first | (simp at hw; done) | simp [st__law_wrong_land_wish_10, wS, hT, e, lcL_cons, wipeS, lb__law_wrong_land_wish_3c, dueW]
/-- the parts as they are handed -/
theorem wl_69 (h : HS) (ok : HdOk h) (hw : LwOk l cs bs) (w0 w1 w2 w3 : Bool) (x0 x1 x2 x3 : T) : ∃ (cn : T) (h' : HS) (v8 v10 : OT), CntR cn u.i ∧ HdOk h' ∧ (v8 = if w1 then .v x1 else .f (cs.map T.int)) ∧ (v10 = if w3 then .v x3 else .f (bs.map T.str)) ∧ ∀ Q : Stm, sSeq (st__law_wrong_land_wish_6 (n + 5)) (sSeq (st__law_wrong_land_wish_7 (n + 5)) (sSeq (st__law_wrong_land_wish_8 (n + 5)) (sSeq (st__law_wrong_land_wish_9 (n + 5)) Q))) (wS (lwT u l cs bs) l.c (some (.v (.lst partsT))) (some (.f [.bl w0, .bl w1, .bl w2, .bl w3])) (some (.f [x0, x1, x2, x3])) none none none none none) (some h) =
    Q (wS (lwT u l cs bs) l.c (some (.v (.lst partsT))) (some (.f [.bl w0, .bl w1, .bl w2, .bl w3])) (some (.f [x0, x1, x2, x3])) (some (.v (if w0 then x0 else l.i))) (some v8) (some (.v (if w2 then x2 else cn))) (some v10) none) (some h') := by
  have wg := fun hd => s_ground n l hd hw.la
  have e6 : ∀ hd, ixH hd (lwT u l cs bs) (.int 1) = some (.v (lndT l)) := fun hd => by simp [lwT]
  have e7 : ∀ hd, ixH hd (lwT u l cs bs) (.int 2) = some (.v (.lst (cs.map T.int))) := fun hd => by simp [lwT]
  have e10 : ∀ hd, ixH hd (lwT u l cs bs) (.int 3) = some (.v (.lst (bs.map T.str))) := fun hd => by simp [lwT]
  have e11 : ∀ hd, ixH hd (lwT u l cs bs) (.int 4) = some (.v (cntT u)) := fun hd => by simp [lwT]
  obtain ⟨cn, h1, ws, cr, ok1⟩ := s_sorts (n + 2) u h ok
  cases w2 with
  | true =>
    refine ⟨cn, h, _, _, cr, ok, rfl, rfl, fun Q => ?_⟩
    cases w0 <;> cases w1 <;> cases w3 <;> simp [st__law_wrong_land_wish_6, st__law_wrong_land_wish_7, st__law_wrong_land_wish_8, st__law_wrong_land_wish_9, wS, hT, wg, e6, e7, e10, e11, ws]
  | false =>
    refine ⟨cn, h1, _, _, cr, ok1, rfl, rfl, fun Q => ?_⟩
    cases w0 <;> cases w1 <;> cases w3 <;> simp [st__law_wrong_land_wish_6, st__law_wrong_land_wish_7, st__law_wrong_land_wish_8, st__law_wrong_land_wish_9, wS, hT, wg, e6, e7, e10, e11, ws]
theorem s_wrong_land (h : HS) (ok : HdOk h) (hw : LwOk l cs bs) : ∃ h', runC (tabX Pr53 (n + 6)).t c__law_wrong_land_wish [.hand, lwT u l cs bs] (some h) = some (.ok (.v (.bl true)), some h') ∧ HdOk h' := by
  have c5 : l.c ≤ 5 := LandOk.c5 hw.la
  have lc := hw.ce.seen.len
  have e6 : ∀ hd, ixH hd (lwT u l cs bs) (.int 1) = some (.v (lndT l)) := fun hd => by simp [lwT]
  have f3 : ixT (lndT l) (.int 0) = some (.v (.int l.c)) := by simp [lndT]
  have e0 : slots0 13 [T.hand, lwT u l cs bs] = [hT, some (.v (lwT u l cs bs)), none, none, none, none, none, none, none, none, none, none, none] := rfl
  obtain ⟨a0, a1, a2, a3, h1, q3, ok1⟩ := wl_3 (n + 3) (lwT u l cs bs) l.c h ok
  obtain ⟨w0, w1, w2, w3, h2, q4, ok2, ww⟩ := wl_4 (n + 3) (lwT u l cs bs) l.c h1 ok1 a0 a1 a2 a3
  obtain ⟨x0, x1, x2, x3, h3, q5, ok3, m0, m1, m2, m3⟩ := wl_5 (n + 2) (lwT u l cs bs) l.c h2 ok2 (.f [.bl w0, .bl w1, .bl w2, .bl w3])
  obtain ⟨cn, h4, v8, v10, cr, ok4, e8, e10, q69⟩ := wl_69 n u l cs bs h3 ok3 hw w0 w1 w2 w3 x0 x1 x2 x3
  obtain ⟨S', q10, rfl⟩ := wl_10 (n + 5) (some h4) w0 w1 w2 w3 ww (lwT u l cs bs) l.c (.f [x0, x1, x2, x3]) (.v (if w0 then x0 else l.i)) v8 (.v (if w2 then x2 else cn)) v10
  have q12 : (sSeq (st__law_wrong_land_wish_1 (n + 5)) (sSeq (st__law_wrong_land_wish_2 (n + 5)) sNext)) [hT, some (.v (lwT u l cs bs)), none, none, none, none, none, none, none, none, none, none, none] (some h) = some (.next, wS (lwT u l cs bs) l.c (some (.f partsT)) none none none none none none none, some h) := by
    simp [st__law_wrong_land_wish_1, st__law_wrong_land_wish_2, wS, hT, e6, f3, partsT]
  have seq2 : ∀ (A B : Stm) (Q : Stm) (S : Slots) (hd : Hd), sSeq A (sSeq B Q) S hd = qk (sSeq A (sSeq B sNext) S hd) Q := fun A B Q S hd => by
    simp only [sSeq_ap]
    rcases A S hd with _ | ⟨f, S1, hd1⟩
    · rfl
    · cases f <;> simp only [qk_next, qk_ret, qk_cont, qk_brk, qk_ex]
      rw [sSeq_ap, sSeq_ap]
      rcases B S1 hd1 with _ | ⟨f, S2, hd2⟩
      · rfl
      · cases f <;> rfl
  refine ⟨h4, ?_, ok4⟩
  rw [mir__law_wrong_land_wish, runS_ap, e0, seq2, q12, qk_next, sSeq_ap, q3, qk_next, sSeq_ap, q4, qk_next, sSeq_ap, q5, qk_next, q69, sSeq_ap, q10, qk_next]
  have fi : landI l.c l.rows l.roads = l.i := rfl
  have pc := plain_ints (t := .lst (cs.map T.int)) (xs := cs) (.inl rfl) (by omega)
  have ac : areCells l.c (.lst (cs.map T.int)) 0 = true := areCells_lst hw.ce (by omega)
  subst e8 e10
  cases w0 with
  | true =>
    have r := x_land (n + 4) x0 (if w1 then x1 else .lst (cs.map T.int)) (if w2 then x2 else cn) (if w3 then x3 else .lst (bs.map T.str)) (some h4) (menuL_bad _ x0 m0)
    cases w1 <;> cases w2 <;> cases w3 <;> simp only [if_true, if_false, Bool.false_eq_true] at r <;> simp [st__law_wrong_land_wish_11, wS, hT, r, dueW, whatF, List.lookup]
  | false =>
    cases w1 with
    | true =>
      obtain ⟨b1, b2, b3⟩ := menuC_bad l.c x1 m1
      have r := x_cells (n + 1) l.c l.rows l.roads x1 (if w2 then x2 else cn) (if w3 then x3 else .lst (bs.map T.str)) (some h4) b1 b2 b3
      rw [fi] at r
      cases w2 <;> cases w3 <;> simp only [if_true, if_false, Bool.false_eq_true] at r <;> simp [st__law_wrong_land_wish_11, wS, hT, r, dueW, whatF, List.lookup]
    | false =>
      cases w2 with
      | true =>
        obtain ⟨b1, b2⟩ := menuN_bad x2 m2
        have r := x_counted (n + 1) l.c l.rows l.roads (.lst (cs.map T.int)) x2 (if w3 then x3 else .lst (bs.map T.str)) (some h4) pc.1 pc.2 ac b1 b2
        rw [fi] at r
        cases w3 <;> simp only [if_true, if_false, Bool.false_eq_true] at r <;> simp [st__law_wrong_land_wish_11, wS, hT, r, dueW, whatF, List.lookup]
      | false =>
        cases w3 with
        | true =>
          obtain ⟨b1, b2, b3⟩ := menuB_bad x3 m3
          have r := x_bars (n + 1) l.c l.rows l.roads (.lst (cs.map T.int)) cn x3 (some h4) pc.1 pc.2 ac cr b1 b2 b3
          rw [fi] at r
          simp [st__law_wrong_land_wish_11, wS, hT, r, dueW, whatF, List.lookup]
        | false => simp at ww
end
end K53
end TL
namespace TL
open PySem PySem.Spec PyProof.Rows L2
namespace K53
def law1 : Stmt := c_law.body.headD (.Pass ⟨0, 0, 0, 0⟩)
def lawR : List Stmt := c_law.body.tail
theorem mir_law1 (n : Nat) : evS (tabX Pr53 (n + 1)).t c_law.N c_law.on FU c_law.scope.names law1 = (sPut 1 (mCall 1 (srcF 1 [.p 0] [] [] (runC (tabX Pr53 n).t c__law_hand)) (mCons (nmV 0) (M.ret [])))) := by
  kernel_rfl
def st_lawR_1 (n : Nat) : Stm := (sPut 2 (mCall 3 (srcF 3 [.p 0, .p 1, .p 2] [] [] (runC (tabX Pr53 n).t c__law_wish)) (mCons (nmV 1) (mCons (M.map OT.fz (mOp addT (M.ret (.int (2))) (M.map OT.fz (mCall 2 (srcF 2 [.p 0, .p 1] [] [] (runC (tabX Pr53 n).t c__law_draw)) (mCons (nmV 1) (mCons (M.ret (.int (4))) (M.ret []))))))) (mCons (M.ret (.bl false)) (M.ret []))))))
def st_lawR_2 (n : Nat) : Stm := (sIf (mAnd (mEq (tabX Pr53 (n + 1)).t.eqt false (M.map OT.fz (mOpH ixH 2 (M.ret (.int (0))))) (M.ret (.str "land"))) (mAnd (mCmp (intB ltB) (M.map OT.fz (mOp ixT (M.map OT.fz (mOpH ixH 2 (M.ret (.int (1))))) (M.ret (.int (0))))) (M.ret (.int (4)))) (mEq (tabX Pr53 (n + 1)).t.eqt false (M.map OT.fz (mCall 2 (srcF 2 [.p 0, .p 1] [] [] (runC (tabX Pr53 n).t c__law_draw)) (mCons (nmV 1) (mCons (M.ret (.int (3))) (M.ret []))))) (M.ret (.int (0)))))) (sSeq (sPut 2 (M.map OT.v (mTup (mCons (M.ret (.str "land")) (mCons (M.map OT.fz (mOpH ixH 2 (M.ret (.int (1))))) (mCons (M.map OT.fz (mOpH ixH 2 (M.ret (.int (2))))) (mCons (M.map OT.fz (mCall 2 (srcF 2 [.p 0, .p 1] [] [] (runC (tabX Pr53 n).t c__law_pick)) (mCons (nmV 1) (mCons (M.map OT.fz (mLst (mCons (M.map OT.fz (mLst (mCons (M.ret (.str "double")) (M.ret [])))) (mCons (M.map OT.fz (mLst (mCons (M.ret (.str "double")) (mCons (M.ret (.str "needed")) (M.ret []))))) (mCons (M.map OT.fz (mLst (mCons (M.ret (.str "needed")) (mCons (M.ret (.str "double")) (M.ret []))))) (M.ret [])))))) (M.ret []))))) (mCons (M.map OT.fz (mOpH ixH 2 (M.ret (.int (4))))) (M.ret [])))))))))
  sNext) sNext)
def st_lawR_3 (n : Nat) : Stm := (sPar 3 4 (mCall 2 (srcF 2 [.p 0, .p 1] [] [] (runC (tabX Pr53 n).t c__law_made_wish)) (mCons (nmV 1) (mCons (nmV 2) (M.ret [])))) (mCall 2 (srcF 2 [.p 0, .p 1] [] [] (runC (tabX Pr53 n).t c__law_made_wish)) (mCons (nmV 1) (mCons (nmV 2) (M.ret [])))))
def st_lawR_4 (n : Nat) : Stm := (sIf (mOr (mNot (mTest (M.map OT.fz (mCall 2 (srcF 2 [.p 0, .p 1] [] [] (runC (tabX Pr53 n).t c__law_has)) (mCons (nmV 3) (mCons (nmV 2) (M.ret []))))))) (mOr (mNot (mTest (M.map OT.fz (mCall 2 (srcF 2 [.p 0, .p 1] [] [] (runC (tabX Pr53 n).t c__law_has)) (mCons (nmV 4) (mCons (nmV 2) (M.ret []))))))) (mOr (mNot (mEq (tabX Pr53 (n + 1)).t.eqt false (nmV 3) (nmV 4))) (mEq (tabX Pr53 (n + 1)).t.eqt false (nmV 3) (nmV 2))))) (sSeq (sRet (M.map OT.v (M.ret (.bl false))))
  sNext) sNext)
def st_lawR_5 (n : Nat) : Stm := (sPut 5 (mCall 2 (srcF 2 [.p 0, .p 1] [] [] (runC (tabX Pr53 n).t c__law_unlike)) (mCons (nmV 1) (mCons (nmV 2) (M.ret [])))))
def st_lawR_6 (n : Nat) : Stm := (sPut 6 (mCall 2 (srcF 2 [.p 0, .p 1] [] [] (runC (tabX Pr53 n).t c__law_made_wish)) (mCons (nmV 1) (mCons (nmV 5) (M.ret [])))))
def st_lawR_7 (n : Nat) : Stm := (sIf (mOr (mNot (mTest (M.map OT.fz (mCall 2 (srcF 2 [.p 0, .p 1] [] [] (runC (tabX Pr53 n).t c__law_has)) (mCons (nmV 6) (mCons (nmV 5) (M.ret []))))))) (mOr (mEq (tabX Pr53 (n + 1)).t.eqt false (nmV 3) (nmV 6)) (mEq (tabX Pr53 (n + 1)).t.eqt false (nmV 6) (nmV 3)))) (sSeq (sRet (M.map OT.v (M.ret (.bl false))))
  sNext) sNext)
def st_lawR_8 (n : Nat) : Stm := (sPut 7 (mCall 1 (mkFn "Wish" (srcI 1 [.p 0] [] [] (iniT (tabX Pr53 n) "Wish" d_Wish))) (mCons (M.map OT.fz (mCall 2 (srcF 2 [.p 0, .p 1] [] [] (runC (tabX Pr53 n).t c__law_sorts)) (mCons (nmV 1) (mCons (mIf (mEq (tabX Pr53 (n + 1)).t.eqt false (M.map OT.fz (mOpH ixH 2 (M.ret (.int (0))))) (M.ret (.str "every"))) (M.map OT.fz (mOpH ixH 2 (M.ret (.int (2))))) (M.map OT.fz (mOpH ixH 2 (M.ret (.int (4)))))) (M.ret []))))) (M.ret []))))
def st_lawR_9 (n : Nat) : Stm := (sIf (mOr (mEq (tabX Pr53 (n + 1)).t.eqt true (M.map OT.fz (mMeth (fun C => ((tabX Pr53 (n + 1)).t.met "things" 0 C).map fun F => (0, F)) "things" (nmV 7) (M.ret []))) (mTup (M.ret []))) (mOr (mEq (tabX Pr53 (n + 1)).t.eqt false (nmV 7) (nmV 3)) (mOr (mEq (tabX Pr53 (n + 1)).t.eqt false (nmV 3) (nmV 7)) (mNot (mEq (tabX Pr53 (n + 1)).t.eqt false (nmV 7) (M.map OT.fz (mCall 1 (mkFn "Wish" (srcI 1 [.p 0] [] [] (iniT (tabX Pr53 n) "Wish" d_Wish))) (mCons (mFld (Pr53.base.fld "counted") "counted" (peek 3)) (M.ret []))))))))) (sSeq (sRet (M.map OT.v (M.ret (.bl false))))
  sNext) sNext)
def st_lawR_10 (n : Nat) : Stm := (sIf (mOr (mEq (tabX Pr53 (n + 1)).t.eqt true (M.map OT.fz (mLam "BadWish" "what" (mCall 1 (mkFn "Wish" (srcI 1 [.p 0] [] [] (iniT (tabX Pr53 n) "Wish" d_Wish))) (mCons (M.map OT.fz (mCall 2 (srcF 2 [.p 0, .p 1] [] [] (runC (tabX Pr53 n).t c__law_pick)) (mCons (nmV 1) (mCons (M.map OT.fz (mCall 2 (srcF 2 [.p 0, .p 1] [] [] (runC (tabX Pr53 n).t c__law_menu)) (mCons (M.ret (.int (2))) (mCons (M.ret (.str "counted")) (M.ret []))))) (M.ret []))))) (M.ret []))))) (M.ret (.str "counted"))) (mNot (mEq (tabX Pr53 (n + 1)).t.eqt false (M.map OT.fz (mCall 0 (mkFn "Wish" (srcI 0 [.d 0] [T.non] [] (iniT (tabX Pr53 n) "Wish" d_Wish))) (M.ret []))) (M.map OT.fz (mCall 1 (mkFn "Wish" (srcI 1 [.p 0] [] [] (iniT (tabX Pr53 n) "Wish" d_Wish))) (mCons (M.map OT.fz (mCall 0 (mkFn "Counted" (srcI 0 [.d 0, .d 1, .d 2] [(T.bl true), (T.bl true), (T.bl false)] [] (iniT (tabX Pr53 n) "Counted" d_Counted))) (M.ret []))) (M.ret []))))))) (sSeq (sRet (M.map OT.v (M.ret (.bl false))))
  sNext) sNext)
def st_lawR_11 (n : Nat) : Stm := (sIf (mEq (tabX Pr53 (n + 1)).t.eqt false (M.map OT.fz (mOpH ixH 2 (M.ret (.int (0))))) (M.ret (.str "every"))) (sSeq (sRet (mCall 2 (srcF 2 [.p 0, .p 1] [] [] (runC (tabX Pr53 n).t c__law_wrong_every_wish)) (mCons (nmV 1) (mCons (nmV 2) (M.ret [])))))
  sNext) sNext)
def st_lawR_12 (n : Nat) : Stm := (sRet (M.map OT.v (mAndV (M.map OT.fz (mCall 2 (srcF 2 [.p 0, .p 1] [] [] (runC (tabX Pr53 n).t c__law_wrong_land_wish)) (mCons (nmV 1) (mCons (nmV 2) (M.ret []))))) (M.map OT.fz (mCall 2 (srcF 2 [.p 0, .p 1] [] [] (runC (tabX Pr53 n).t c__law_bare)) (mCons (nmV 1) (mCons (M.map OT.fz (mOpH ixH 2 (M.ret (.int (1))))) (M.ret []))))))))
theorem mir_lawR (n : Nat) : evBlk (evS (tabX Pr53 (n + 1)).t c_law.N c_law.on FU c_law.scope.names) lawR = (sSeq (st_lawR_1 n) (sSeq (st_lawR_2 n) (sSeq (st_lawR_3 n) (sSeq (st_lawR_4 n) (sSeq (st_lawR_5 n) (sSeq (st_lawR_6 n) (sSeq (st_lawR_7 n) (sSeq (st_lawR_8 n) (sSeq (st_lawR_9 n) (sSeq (st_lawR_10 n) (sSeq (st_lawR_11 n) (sSeq (st_lawR_12 n) sNext)))))))))))) := by
  kernel_rfl
end K53
end TL
namespace TL
open PySem PySem.Spec PyProof.Rows L2
namespace K53
/-! ### == in the law -/
section
variable (n : Nat) (S : Slots) (hd : Hd)
theorem q_same (w : Wsh) : eqM (tabX Pr53 (n + 3)).t.eqt false w.i w.i S hd = some (.ok true, S, hd) := by
  cases w with
  | every u ss =>
    have e := s_EveryLandWish_eq n hd u u ss ss
    simp only [and_self, decide_true] at e
    exact eqM_ins (neg := false) (by kernel_rfl) (by kernel_rfl) (eqs_EveryLandWish (n + 2)) e
  | land u l cs bs =>
    have e := s_LandWish_eq n hd u u l l cs cs bs bs
    rw [decide_eq_true (show u = u ∧ l.same l ∧ sortI cs = sortI cs ∧ barsOf bs = barsOf bs from ⟨rfl, ⟨rfl, rfl, rfl⟩, rfl, rfl⟩)] at e
    exact eqM_ins (neg := false) (by kernel_rfl) (by kernel_rfl) (eqs_LandWish (n + 2)) e
theorem q_other (w v : Wsh) (h : ¬ w.same v) (he : w.ev = v.ev) : eqM (tabX Pr53 (n + 3)).t.eqt false w.i v.i S hd = some (.ok false, S, hd) := by
  cases w with
  | every u ss =>
    cases v with
    | every v ts =>
      have e := s_EveryLandWish_eq n hd u v ss ts
      rw [decide_eq_false (show ¬ (u = v ∧ sortsOf ss = sortsOf ts) from h)] at e
      exact eqM_ins (neg := false) (by kernel_rfl) (by kernel_rfl) (eqs_EveryLandWish (n + 2)) e
    | land _ _ _ _ => simp [Wsh.ev] at he
  | land u l cs bs =>
    cases v with
    | land v m ds es =>
      have e := s_LandWish_eq n hd u v l m cs ds bs es
      rw [decide_eq_false (show ¬ (u = v ∧ l.same m ∧ sortI cs = sortI ds ∧ barsOf bs = barsOf es) from h)] at e
      exact eqM_ins (neg := false) (by kernel_rfl) (by kernel_rfl) (eqs_LandWish (n + 2)) e
    | every _ _ => simp [Wsh.ev] at he
theorem q_tup (w v : Wsh) : eqM (tabX Pr53 (n + 2)).t.eqt false w.i v.t S hd = some (.ok false, S, hd) := by
  cases w with
  | every u ss =>
    cases v with
    | every v ts => exact eqM_ins (neg := false) (by kernel_rfl) (by kernel_rfl) (eqs_EveryLandWish (n + 1)) (s_EveryLandWish_ne n hd u ss _ (by simp [Wsh.t, ewT]))
    | land v m ds es => exact eqM_ins (neg := false) (by kernel_rfl) (by kernel_rfl) (eqs_EveryLandWish (n + 1)) (s_EveryLandWish_ne n hd u ss _ (by simp [Wsh.t, lwT]))
  | land u l cs bs =>
    cases v with
    | every v ts => exact eqM_ins (neg := false) (by kernel_rfl) (by kernel_rfl) (eqs_LandWish (n + 1)) (s_LandWish_ne n hd u l cs bs _ (by simp [Wsh.t, ewT]))
    | land v m ds es => exact eqM_ins (neg := false) (by kernel_rfl) (by kernel_rfl) (eqs_LandWish (n + 1)) (s_LandWish_ne n hd u l cs bs _ (by simp [Wsh.t, lwT]))
theorem q_plain (w : Wsh) (v : Cnt) : eqM (tabX Pr53 (n + 2)).t.eqt false (wI v) w.i S hd = some (.ok false, S, hd) := by
  cases w with
  | every u ss => exact eqM_first (by kernel_rfl) (eqs_EveryLandWish (n + 1)) (s_EveryLandWish_ne n hd u ss _ (by simp))
  | land u l cs bs => exact eqM_first (by kernel_rfl) (eqs_LandWish (n + 1)) (s_LandWish_ne n hd u l cs bs _ (by simp))
theorem q_plain2 (w : Wsh) (v : Cnt) : eqM (tabX Pr53 (n + 2)).t.eqt false w.i (wI v) S hd = some (.ok false, S, hd) := by
  cases w with
  | every u ss => exact eqM_ins (neg := false) (by kernel_rfl) (by kernel_rfl) (eqs_EveryLandWish (n + 1)) (s_EveryLandWish_ne n hd u ss _ (by simp [wI]))
  | land u l cs bs => exact eqM_ins (neg := false) (by kernel_rfl) (by kernel_rfl) (eqs_LandWish (n + 1)) (s_LandWish_ne n hd u l cs bs _ (by simp [wI]))
theorem q_WW (u : Cnt) : eqM (tabX Pr53 (n + 3)).t.eqt false (wI u) (wI u) S hd = some (.ok true, S, hd) := by
  have e := s_Wish_eq n hd u u
  rw [decide_eq_true rfl] at e
  exact eqM_ins (neg := false) (by kernel_rfl) (by kernel_rfl) (eqs_Wish (n + 2)) e
end
/-! ### the hand is made -/
def hnInv (ns : List Int) (rest : List T) (S : Slots) (hd : Hd) : Prop := ∃ (k : Nat) (ms : List Int) (tot : Int) (o2 o3 : Option OT), hd = none ∧ rest = enumFrom k (ms.map T.int) ∧ k + ms.length ≤ 63 ∧ (∀ z ∈ ms, z.natAbs.log2 ≤ 1048576) ∧ tot.natAbs < 2 ^ 64 ∧
  S = [some (.v (.scr ns)), some (.v (.int tot)), o2, o3]
theorem mulT_f {i j : Int} (h : i.natAbs.log2 + j.natAbs.log2 < 100000000) : mulT (.int i) (.int j) = some (.v (.int (i * j))) := by
  show (if i.natAbs.log2 + j.natAbs.log2 < 100000000 then some (OT.v (.int (i * j))) else none) = _
  rw [if_pos h]
theorem hn_loop (n : Nat) (ns : List Int) (x : T) (xs : List T) (S : Slots) (hd : Hd) (I : hnInv ns (x :: xs) S hd) : ∃ S1 S2 hd2, gTp (gsCons (gNm 2) (gsCons (gNm 3) gsNil)) 2 x S = some S1 ∧ lb__law_hand_1b n S1 hd = some (.next, S2, hd2) ∧ hnInv ns xs S2 hd2 := by
  obtain ⟨k, ms, tot, o2, o3, rfl, hr, hl, hb, ht, rfl⟩ := I
  cases ms with
  | nil => simp [enumFrom] at hr
  | cons z ms =>
    rw [List.map_cons, enumFrom] at hr
    cases hr
    rw [List.length_cons] at hl
    have bz := hb z List.mem_cons_self
    have l64 := log2_le ht (by decide)
    have l31 : (31 : Int).natAbs.log2 = 4 := by decide
    have m1 : mulT (.int tot) (.int 31) = some (.v (.int (tot * 31))) := mulT_f (by omega)
    have lk : ((k : Int) + 7).natAbs.log2 < 7 := log2_le (by show ((k : Int) + 7).natAbs < 128; omega) (by decide)
    have m2 : mulT (.int z) (.int (k + 7)) = some (.v (.int (z * (k + 7)))) := mulT_f (by omega)
    have md : ∀ i : Int, modT (.int i) (.int 2147483629) = some (.v (.int (i % 2147483629))) := fun i => modT_i (by decide)
    have t0 := Int.emod_nonneg (tot * 31 + z * (k + 7)) (show (2147483629 : Int) ≠ 0 by decide)
    have t1 := Int.emod_lt_of_pos (tot * 31 + z * (k + 7)) (show (0 : Int) < 2147483629 by decide)
    refine ⟨[some (.v (.scr ns)), some (.v (.int tot)), some (.v (.int k)), some (.v (.int z))], [some (.v (.scr ns)), some (.v (.int ((tot * 31 + z * (k + 7)) % 2147483629))), some (.v (.int k)), some (.v (.int z))], none, by simp, ?_, k + 1, ms, _, _, _, rfl, rfl, by omega, fun y m => hb y (List.mem_cons_of_mem _ m), ?_, rfl⟩
    · simp [lb__law_hand_1b, m1, m2, md]
    · omega
def absI (i : Int) : Int := if i < 0 then -i else i
theorem s_hand (n : Nat) (ns : List Int) (hl : ns.length ≤ 63) (hb : ∀ z ∈ ns, z.natAbs.log2 ≤ 1048576) : ∃ tot : Int, runC (tabX Pr53 (n + 1)).t c__law_hand [.scr ns] none = some (.ok (.f [.lst ((ns.map absI).map T.int), .int 0, .int 0, .int tot]), none) := by
  obtain ⟨S', hd', f1, k, ms, tot, o2, o3, rfl, _, _, _, _, rfl⟩ := forL_inv (g := gTp (gsCons (gNm 2) (gsCons (gNm 3) gsNil)) 2) (b := lb__law_hand_1b n) (hnInv ns) (hn_loop n ns) (enumFrom 0 (ns.map T.int)) [some (.v (.scr ns)), some (.v (.int 0)), none, none] none
    ⟨0, ns, 0, none, none, rfl, rfl, by omega, hb, by decide, rfl⟩
  have e1 : enumT (.scr ns) = some (enumFrom 0 (ns.map T.int)) := rfl
  have e2 : itemsA (.scr ns) = some (ns.map T.int) := rfl
  have g1 := lcL_mapT (S := [some (.v (.scr ns)), some (.v (.int tot)), o2, none]) (hd := none) (vs := [3]) (g := gNm 3) (e := lb__law_hand_2e n) (fun t => match t with
    | .int i => .int (absI i)
    | t => t) (xs := ns.map T.int) (acc := []) (fun x hx => by
    obtain ⟨i, hi, rfl⟩ := List.mem_map.mp hx
    refine ⟨[some (.v (.scr ns)), some (.v (.int tot)), o2, some (.v (.int i))], [some (.v (.scr ns)), some (.v (.int tot)), o2, some (.v (.int i))], by simp, ?_, by simp [wipeS]⟩
    simp [lb__law_hand_2e, absT, absI]) (by simp only [List.length_nil, List.length_map]; omega)
  have g2 : (ns.map T.int).map (fun t => match t with
    | .int i => .int (absI i)
    | t => t) = (ns.map absI).map T.int := by
    rw [List.map_map, List.map_map]
    rfl
  rw [g2] at g1
  obtain ⟨A, hA⟩ : ∃ A, ns.map absI = A := ⟨_, rfl⟩
  rw [hA] at g1
  rw [hA]
  refine ⟨tot, ?_⟩
  simp only [List.nil_append] at g1
  rw [mir__law_hand]
  simp [e1, e2, f1, wipeS, g1]
end K53
end TL
namespace TL
open PySem PySem.Spec PyProof.Rows L2
namespace K53
/-! ### the law -/
def Wsh.u : Wsh → Cnt
  | .every u _ => u
  | .land u _ _ _ => u
def lS (s : List Int) (o2 o3 o4 o5 o6 o7 : Option OT) : Slots := [some (.v (.scr s)), hT, o2, o3, o4, o5, o6, o7]
section
variable (n : Nat) (s : List Int)
theorem law_1 (h : HS) (ok : HdOk h) : ∃ (w : Wsh) (h' : HS), st_lawR_1 (n + 5) (lS s none none none none none none) (some h) = some (.next, lS s (some (.v w.t)) none none none none none, some h') ∧ w.Ok ∧ HdOk h' := by
  obtain ⟨r, h1, d1, r0, r1, ok1⟩ := s_draw (n + 3) h 4 ok (by omega) (by omega)
  obtain ⟨w, h2, w2, wok, ok2⟩ := s_wish n (2 + r) h1 ok1 (by omega)
  refine ⟨w, h2, ?_, wok, ok2⟩
  simp [st_lawR_1, lS, hT, d1, w2]
theorem law_2 (h : HS) (ok : HdOk h) (w : Wsh) (hw : w.Ok) : ∃ (v : Wsh) (h' : HS), st_lawR_2 (n + 5) (lS s (some (.v w.t)) none none none none none) (some h) = some (.next, lS s (some (.v v.t)) none none none none none, some h') ∧ v.Ok ∧ HdOk h' := by
  cases w with
  | every u ss => exact ⟨.every u ss, h, by simp [st_lawR_2, lS, hT, Wsh.t, ewT], hw, ok⟩
  | land u l cs bs =>
    have hw : LwOk l cs bs := hw
    have e5 : ∀ hd, ixH hd (lwT u l cs bs) (.int 0) = some (.v (.str "land")) := fun hd => by simp [lwT]
    have e6 : ∀ hd, ixH hd (lwT u l cs bs) (.int 1) = some (.v (lndT l)) := fun hd => by simp [lwT]
    have e7 : ∀ hd, ixH hd (lwT u l cs bs) (.int 2) = some (.v (.lst (cs.map T.int))) := fun hd => by simp [lwT]
    have e11 : ∀ hd, ixH hd (lwT u l cs bs) (.int 4) = some (.v (cntT u)) := fun hd => by simp [lwT]
    have f3 : ixT (lndT l) (.int 0) = some (.v (.int l.c)) := by simp [lndT]
    have c2 : 2 ≤ l.c := LandOk.c2 hw.la
    by_cases q : l.c < 4
    · obtain ⟨r, h1, d1, r0, r1, ok1⟩ := s_draw (n + 3) h 3 ok (by omega) (by omega)
      by_cases z : r = 0
      · obtain ⟨x, h2, w2, hx, ok2⟩ := s_pick (n + 2) h1 [.lst [.str "double"], .lst [.str "double", .str "needed"], .lst [.str "needed", .str "double"]] ok1 (by simp) (by simp)
        have hb : ∃ es : List Str, x = .lst (es.map T.str) ∧ WordsOk BARS es ∧ es ≠ [] := by
          simp only [List.mem_cons, List.not_mem_nil, or_false] at hx
          rcases hx with rfl | rfl | rfl
          · exact ⟨[Str.ofString "double"], rfl, ⟨by simp [BARS], by simp⟩, by simp⟩
          · exact ⟨[Str.ofString "double", Str.ofString "needed"], rfl, ⟨by simp [BARS], by simp⟩, by simp⟩
          · exact ⟨[Str.ofString "needed", Str.ofString "double"], rfl, ⟨by simp [BARS], by simp⟩, by simp⟩
        obtain ⟨es, rfl, eo, e0⟩ := hb
        refine ⟨.land u l cs es, h2, ?_, ⟨hw.la, hw.ce, eo, fun z => e0 z.2, fun _ => by omega⟩, ok2⟩
        simp [st_lawR_2, lS, hT, Wsh.t, e5, e6, e7, e11, f3, q, d1, z, w2]
        simp [lwT]
      · exact ⟨.land u l cs bs, h1, by simp [st_lawR_2, lS, hT, Wsh.t, e5, e6, f3, q, d1, z], hw, ok1⟩
    · exact ⟨.land u l cs bs, h, by simp [st_lawR_2, lS, hT, Wsh.t, e5, e6, f3, q], hw, ok⟩
theorem law_3 (h : HS) (ok : HdOk h) (w : Wsh) (hw : w.Ok) : ∃ (h' : HS), st_lawR_3 (n + 6) (lS s (some (.v w.t)) none none none none none) (some h) = some (.next, lS s (some (.v w.t)) (some (.v w.i)) (some (.v w.i)) none none none, some h') ∧ HdOk h' := by
  obtain ⟨h1, w1, ok1⟩ := s_made n w h ok hw
  obtain ⟨h2, w2, ok2⟩ := s_made n w h1 ok1 hw
  refine ⟨h2, ?_, ok2⟩
  simp [st_lawR_3, lS, hT, w1, w2]
theorem law_4 (hd : Hd) (w : Wsh) (hw : w.Ok) : st_lawR_4 (n + 6) (lS s (some (.v w.t)) (some (.v w.i)) (some (.v w.i)) none none none) hd = some (.next, lS s (some (.v w.t)) (some (.v w.i)) (some (.v w.i)) none none none, hd) := by
  have w1 := s_has n w hd hw
  have q1 := fun S => q_same (n + 4) S hd w
  have q2 := fun S => q_tup (n + 5) S hd w w
  simp [st_lawR_4, lS, hT, w1, q1, q2]
theorem law_5 (h : HS) (ok : HdOk h) (w : Wsh) (hw : w.Ok) : ∃ (v : Wsh) (h' : HS), st_lawR_5 (n + 6) (lS s (some (.v w.t)) (some (.v w.i)) (some (.v w.i)) none none none) (some h) = some (.next, lS s (some (.v w.t)) (some (.v w.i)) (some (.v w.i)) (some (.v v.t)) none none, some h') ∧ v.Ok ∧ HdOk h' ∧ ¬ w.same v ∧ ¬ v.same w ∧ w.ev = v.ev := by
  cases w with
  | every u ss =>
    obtain ⟨v, h1, w1, vok, ok1, n1, n2, ev⟩ := s_unlike_e n u ss h ok hw
    refine ⟨v, h1, ?_, vok, ok1, n1, n2, by rw [ev]; rfl⟩
    simp [st_lawR_5, lS, hT, Wsh.t, w1]
  | land u l cs bs =>
    obtain ⟨v, h1, w1, vok, ok1, n1, n2, ev⟩ := s_unlike_l n u l cs bs h ok hw
    refine ⟨v, h1, ?_, vok, ok1, n1, n2, by rw [ev]; rfl⟩
    simp [st_lawR_5, lS, hT, Wsh.t, w1]
theorem law_6 (h : HS) (ok : HdOk h) (w v : Wsh) (hv : v.Ok) : ∃ (h' : HS), st_lawR_6 (n + 6) (lS s (some (.v w.t)) (some (.v w.i)) (some (.v w.i)) (some (.v v.t)) none none) (some h) = some (.next, lS s (some (.v w.t)) (some (.v w.i)) (some (.v w.i)) (some (.v v.t)) (some (.v v.i)) none, some h') ∧ HdOk h' := by
  obtain ⟨h1, w1, ok1⟩ := s_made n v h ok hv
  refine ⟨h1, ?_, ok1⟩
  simp [st_lawR_6, lS, hT, w1]
theorem law_7 (hd : Hd) (w v : Wsh) (hv : v.Ok) (n1 : ¬ w.same v) (n2 : ¬ v.same w) (ev : w.ev = v.ev) : st_lawR_7 (n + 6) (lS s (some (.v w.t)) (some (.v w.i)) (some (.v w.i)) (some (.v v.t)) (some (.v v.i)) none) hd = some (.next, lS s (some (.v w.t)) (some (.v w.i)) (some (.v w.i)) (some (.v v.t)) (some (.v v.i)) none, hd) := by
  have w1 := s_has n v hd hv
  have q1 := fun S => q_other (n + 4) S hd w v n1 ev
  have q2 := fun S => q_other (n + 4) S hd v w n2 ev.symm
  simp [st_lawR_7, lS, hT, w1, q1, q2]
theorem law_8 (h : HS) (ok : HdOk h) (w v : Wsh) : ∃ (h' : HS), st_lawR_8 (n + 6) (lS s (some (.v w.t)) (some (.v w.i)) (some (.v w.i)) (some (.v v.t)) (some (.v v.i)) none) (some h) = some (.next, lS s (some (.v w.t)) (some (.v w.i)) (some (.v w.i)) (some (.v v.t)) (some (.v v.i)) (some (.v (wI w.u))), some h') ∧ HdOk h' := by
  obtain ⟨cn, h1, w1, cr, ok1⟩ := s_sorts (n + 3) w.u h ok
  have w2 := s_Wish (n + 4) "Wish" cn w.u.i (some h1) (by simp) cr
  refine ⟨h1, ?_, ok1⟩
  cases w with
  | every u ss =>
    have e5 : ∀ hd, ixH hd (ewT u ss) (.int 0) = some (.v (.str "every")) := fun hd => by simp [ewT]
    have e7 : ∀ hd, ixH hd (ewT u ss) (.int 2) = some (.v (cntT u)) := fun hd => by simp [ewT]
    simp only [Wsh.u] at w1 w2
    simp [st_lawR_8, lS, hT, Wsh.t, e5, e7, w1, w2, Wsh.u, wI]
  | land u l cs bs =>
    have e5 : ∀ hd, ixH hd (lwT u l cs bs) (.int 0) = some (.v (.str "land")) := fun hd => by simp [lwT]
    have e11 : ∀ hd, ixH hd (lwT u l cs bs) (.int 4) = some (.v (cntT u)) := fun hd => by simp [lwT]
    simp only [Wsh.u] at w1 w2
    simp [st_lawR_8, lS, hT, Wsh.t, e5, e11, w1, w2, Wsh.u, wI]
theorem fld_cnt (w : Wsh) : fldT (Pr53.base.fld "counted") "counted" w.i = some w.u.i := by
  cases w with
  | every u ss => simp [Wsh.i, ewI, ewFs, List.lookup, Wsh.u]
  | land u l cs bs => simp [Wsh.i, lwI, lwFs, List.lookup, Wsh.u]
theorem law_9 (hd : Hd) (w v : Wsh) : st_lawR_9 (n + 6) (lS s (some (.v w.t)) (some (.v w.i)) (some (.v w.i)) (some (.v v.t)) (some (.v v.i)) (some (.v (wI w.u)))) hd = some (.next, lS s (some (.v w.t)) (some (.v w.i)) (some (.v w.i)) (some (.v v.t)) (some (.v v.i)) (some (.v (wI w.u))), hd) := by
  have w1 := s_Wish_things (n + 5) hd w.u
  have m1 : ∀ S, mt1 (fun C => ((tabX Pr53 (n + 6 + 1)).t.met "things" 0 C).map fun F => (0, F)) "things" (M.ret []) (wI w.u) S hd = some (.ok (.v (.tup [])), S, hd) := fun S => by
    simp only [wI] at w1
    simp only [wI, mt1_ins, met_Wish, Option.map_some, mt2_some]
    simp [whF, List.lookup]
    simp only [whF] at w1
    simp [w1]
  have q1 := fun S => q_plain (n + 5) S hd w w.u
  have q2 := fun S => q_plain2 (n + 5) S hd w w.u
  have q3 := fun S => q_WW (n + 4) S hd w.u
  have w2 := s_Wish (n + 4) "Wish" w.u.i w.u.i hd (by simp) (.is _ _ _)
  have e : T.ins "Wish" (whF w.u.i) = wI w.u := rfl
  have fc := fld_cnt w
  simp [st_lawR_9, lS, hT, m1, q1, q2, q3, fc, w2, e]
theorem law_10 (h : HS) (ok : HdOk h) (w v : Wsh) : ∃ (h' : HS), st_lawR_10 (n + 6) (lS s (some (.v w.t)) (some (.v w.i)) (some (.v w.i)) (some (.v v.t)) (some (.v v.i)) (some (.v (wI w.u)))) (some h) = some (.next, lS s (some (.v w.t)) (some (.v w.i)) (some (.v w.i)) (some (.v v.t)) (some (.v v.i)) (some (.v (wI w.u))), some h') ∧ HdOk h' := by
  obtain ⟨y, h2, w2, hy, ok2⟩ := s_pick (n + 3) h menuN ok (by simp [menuN]) (by simp [menuN])
  obtain ⟨y1, y2⟩ := menuN_bad y hy
  have m2 := s_menuN (n + 5) 2 (some h)
  have r1 := s_Wish_bad (n + 5) "Wish" y (some h2) y1 y2
  have r2 := s_Wish (n + 4) "Wish" .non (cntI true true false) (some h2) (by simp) .non
  have r3 := s_Counted (n + 5) true true false (some h2)
  have r4 := s_Wish (n + 4) "Wish" (cntI true true false) (cntI true true false) (some h2) (by simp) (.is _ _ _)
  have e : T.ins "Wish" (whF (cntI true true false)) = wI ⟨true, true, false⟩ := rfl
  have e2 : T.ins "Counted" (cntFs true true false) = cntI true true false := rfl
  have q3 := fun S => q_WW (n + 4) S (some h2) ⟨true, true, false⟩
  refine ⟨h2, ?_, ok2⟩
  simp [st_lawR_10, lS, hT, m2, w2, r1, r2, r3, e2, r4, e, q3, whatF, List.lookup]
theorem law_11 (h : HS) (ok : HdOk h) (w v : Wsh) (hw : w.Ok) : ∃ (h' : HS) (S' : Slots), sSeq (st_lawR_11 (n + 6)) (sSeq (st_lawR_12 (n + 6)) sNext) (lS s (some (.v w.t)) (some (.v w.i)) (some (.v w.i)) (some (.v v.t)) (some (.v v.i)) (some (.v (wI w.u)))) (some h) = some (.ret (.v (.bl true)), S', some h') := by
  cases w with
  | every u ss =>
    obtain ⟨h1, w1, ok1⟩ := s_wrong_every n u ss h ok hw
    have e5 : ∀ hd, ixH hd (ewT u ss) (.int 0) = some (.v (.str "every")) := fun hd => by simp [ewT]
    refine ⟨h1, lS s (some (.v (Wsh.every u ss).t)) (some (.v (Wsh.every u ss).i)) (some (.v (Wsh.every u ss).i)) (some (.v v.t)) (some (.v v.i)) (some (.v (wI (Wsh.every u ss).u))), ?_⟩
    · simp [st_lawR_11, st_lawR_12, lS, hT, Wsh.t, e5, w1]
  | land u l cs bs =>
    have hw : LwOk l cs bs := hw
    obtain ⟨h1, w1, ok1⟩ := s_wrong_land n u l cs bs h ok hw
    obtain ⟨h2, w2, ok2⟩ := s_bare n l h1 ok1 hw.la
    have e5 : ∀ hd, ixH hd (lwT u l cs bs) (.int 0) = some (.v (.str "land")) := fun hd => by simp [lwT]
    have e6 : ∀ hd, ixH hd (lwT u l cs bs) (.int 1) = some (.v (lndT l)) := fun hd => by simp [lwT]
    refine ⟨h2, lS s (some (.v (Wsh.land u l cs bs).t)) (some (.v (Wsh.land u l cs bs).i)) (some (.v (Wsh.land u l cs bs).i)) (some (.v v.t)) (some (.v v.i)) (some (.v (wI (Wsh.land u l cs bs).u))), ?_⟩
    · simp [st_lawR_11, st_lawR_12, lS, hT, Wsh.t, e5, e6, w1, w2]
end
theorem law53 (n : Nat) (ns : List Int) (hl : ns.length ≤ 63) (hb : ∀ z ∈ ns, z.natAbs.log2 ≤ 1048576) :
    LawT (evS (tabX Pr53 (n + 7)).t c_law.N c_law.on FU c_law.scope.names law1) (evBlk (evS (tabX Pr53 (n + 7)).t c_law.N c_law.on FU c_law.scope.names) lawR) c_law.N.length 1 ns := by
  obtain ⟨tot, wh⟩ := s_hand (n + 5) ns hl hb
  have ok0 : HdOk ⟨ns.map absI, 0, 0, tot⟩ := ⟨by simp, by simp, by simpa using hl⟩
  obtain ⟨w0, h1, q1, wok0, ok1⟩ := law_1 (n + 1) ns _ ok0
  obtain ⟨w, h2, q2, wok, ok2⟩ := law_2 (n + 1) ns h1 ok1 w0 wok0
  obtain ⟨h3, q3, ok3⟩ := law_3 n ns h2 ok2 w wok
  have q4 := law_4 n ns (some h3) w wok
  obtain ⟨v, h5, q5, vok, ok5, n1, n2, ev⟩ := law_5 n ns h3 ok3 w wok
  obtain ⟨h6, q6, ok6⟩ := law_6 n ns h5 ok5 w v vok
  have q7 := law_7 n ns (some h6) w v vok n1 n2 ev
  obtain ⟨h8, q8, ok8⟩ := law_8 n ns h6 ok6 w v
  have q9 := law_9 n ns (some h8) w v
  obtain ⟨h10, q10, ok10⟩ := law_10 n ns h8 ok8 w v
  obtain ⟨h11, S', q11⟩ := law_11 n ns h10 ok10 w v wok
  refine ⟨[some (.v (.scr ns)), some (.f [.lst ((ns.map absI).map T.int), .int 0, .int 0, .int tot]), none, none, none, none, none, none], S', ⟨ns.map absI, 0, 0, tot⟩, some h11, ?_, rfl, ?_⟩
  · have e : slots0 c_law.N.length [.scr ns] = [some (.v (.scr ns)), none, none, none, none, none, none, none] := rfl
    rw [mir_law1, e]
    simp only [sPut_ap, mCall_ap, mCons_ap, nmV_ap, rdS_0, nmK_some, rk_ok, fz_v, M.ret_ap, List.set_cons_zero, mApp_1, wh, apK_ok, sk_ok, setS_f (show 1 < [some (OT.v (.scr ns)), none, none, none, none, none, none, none].length by simp), List.set_cons_succ, putK_some]
  · rw [mir_lawR, sSeq_ap]
    have e : [some (OT.v (.scr ns)), some (.f [.lst ((ns.map absI).map T.int), .int 0, .int 0, .int tot]), none, none, none, none, none, none].set 1 (some (.v .hand)) = lS ns none none none none none none := rfl
    rw [e, q1, qk_next, sSeq_ap, q2, qk_next, sSeq_ap, q3, qk_next, sSeq_ap, q4, qk_next, sSeq_ap, q5, qk_next, sSeq_ap, q6, qk_next, sSeq_ap, q7, qk_next, sSeq_ap, q8, qk_next, sSeq_ap, q9, qk_next, sSeq_ap, q10, qk_next, q11]
end K53
end TL
namespace TL
open PySem PySem.Spec PyProof.Rows L2
/-! ### a def whose parameters are positional and have no defaults -/
def posArgs (ps : List Str) : Arguments → Bool
  | ⟨[], as, none, [], [], none, []⟩ => decide (as.map (·.arg) = ps)
  | _ => false
theorem zip_lookup {α : Type} : ∀ {ps : List Str} {us : List α} {p : Str} {i : Nat}, ps.Nodup → ps[i]? = some p → us.length = ps.length → (ps.zip us).lookup p = us[i]?
  | [], us, p, i, _, e, _ => by simp at e
  | q :: ps, [], p, i, _, _, l => by simp at l
  | q :: ps, u :: us, p, 0, n, e, l => by
    simp only [List.getElem?_cons_zero, Option.some.injEq] at e
    subst e
    simp [List.lookup]
  | q :: ps, u :: us, p, i + 1, n, e, l => by
    rw [List.nodup_cons] at n
    simp only [List.getElem?_cons_succ] at e ⊢
    have hm : p ∈ ps := List.mem_of_getElem? e
    have ne : (p == q) = false := by simpa using fun z => n.1 (by rw [← z]; exact hm)
    rw [List.zip_cons_cons, List.lookup_cons, ne]
    exact zip_lookup n.2 e (by simpa using l)
theorem zip_filterMap {α : Type} {ps : List Str} {us : List α} (n : ps.Nodup) (l : us.length = ps.length) : (ps.filterMap fun x => ((ps.zip us).lookup x).map (x, ·)) = ps.zip us := by
  have key : ∀ (l1 l2 : List Str) (u1 u2 : List α), ps = l1 ++ l2 → us = u1 ++ u2 → l1.length = u1.length → (l2.filterMap fun x => ((ps.zip us).lookup x).map (x, ·)) = l2.zip u2 := fun l1 l2 => by
    induction l2 generalizing l1 with
    | nil => intro u1 u2 _ _ _; simp
    | cons q l2 ih =>
      intro u1 u2 e1 e2 e3
      cases u2 with
      | nil =>
        rw [e1, e2] at l
        simp at l
        omega
      | cons v u2 =>
        have a : ps[l1.length]? = some q := by rw [e1]; simp
        have b : us[l1.length]? = some v := by rw [e2, e3]; simp
        have c := zip_lookup n a l
        rw [b] at c
        rw [List.filterMap_cons, c]
        show (q, v) :: _ = (q, v) :: _
        congr 1
        exact ih (l1 ++ [q]) (u1 ++ [v]) u2 (by rw [e1]; simp) (by rw [e2]; simp) (by simp [e3])
  exact key [] ps [] us rfl rfl rfl
theorem bind_pos {fd : FuncData} {ps : List Str} {us : List Value} (hp : posArgs ps fd.params = true) (hd : fd.defaults = .none) (n : ps.Nodup) (l : us.length = ps.length) : bindArgs fd ⟨us, []⟩ = pure (ps.zip us) := by
  obtain ⟨name, qual, params, body, scope, gl, cl, dV, kV, b1, b2, b3, b4, b5, b6⟩ := fd
  simp only at hp hd
  subst hd
  unfold posArgs at hp
  split at hp
  · rename_i as
    have hp := of_decide_eq_true hp
    subst hp
    clear hp
    generalize hP : as.map (fun x => x.arg) = P at n l
    have h1 : seqItems? Value.none = pure none := rfl
    have miss : (P.filter fun x => ((P.zip us).lookup x).isNone) = [] := by
      rw [List.filter_eq_nil_iff]
      intro x hx
      obtain ⟨i, e⟩ := List.mem_iff_getElem?.mp hx
      have hi := (List.getElem?_eq_some_iff.mp e).1
      rw [zip_lookup n e l, List.getElem?_eq_getElem (by omega)]
      simp
    have fm := zip_filterMap n l
    simp only [bindArgs, hP]
    simp only [h1, List.map_nil, List.nil_append, List.append_nil, List.forIn_nil, pure_bind, Option.getD_none, l, gt_iff_lt, Nat.lt_irrefl, decide_false, Bool.false_and, Bool.false_eq_true, if_false, List.length_nil, Nat.zero_sub, List.drop_nil, Nat.sub_zero, List.take_length, miss, List.isEmpty_nil, Bool.not_true, List.zip_nil_right, fm]
  · cases hp
end TL
namespace TL
open PySem PySem.Spec PyProof.Rows L2
/-! ### scopes, by a Bool -/
def scopeB (c : Cod) : Bool := decide (c.scope.kind = .function) && (!c.scope.isCoroutine && (!c.scope.isGenerator && (decide c.N.Nodup && (decide (c.N.take c.ps.length = c.ps) && ((c.ps.all fun x => decide (c.scope.names.lookup x = some .local ∨ c.scope.names.lookup x = some .cell)) && c.scope.names.all fun y => !decide (y.2 = .free))))))
theorem scopeB_ok {c : Cod} (h : scopeB c = true) : FnScope c.N c.ps c.scope := by
  unfold scopeB at h
  simp only [Bool.and_eq_true, Bool.not_eq_true', decide_eq_true_eq, List.all_eq_true, decide_eq_false_iff_not] at h
  obtain ⟨h1, h2, h3, h4, h5, h6, h7⟩ := h
  exact ⟨h1, h2, h3, h4, h5, h6, h7⟩
def scopeXB (c : Cod) : Bool := decide (c.scope.kind = .function) && (!c.scope.isCoroutine && (!c.scope.isGenerator && (decide c.N.Nodup && (decide (c.N.take c.ps.length = c.ps) && ((c.ps.all fun x => decide (c.scope.names.lookup x = some .local ∨ c.scope.names.lookup x = some .cell)) && (c.scope.names.all fun y => !decide (y.2 = .free) || decide (y.1 = ("__class__" : Str))))))))
theorem scopeXB_ok {c : Cod} (h : scopeXB c = true) : FnScopeX c.N c.ps c.scope := by
  unfold scopeXB at h
  simp only [Bool.and_eq_true, Bool.not_eq_true', decide_eq_true_eq, List.all_eq_true, Bool.or_eq_true, decide_eq_false_iff_not] at h
  obtain ⟨h1, h2, h3, h4, h5, h6, h7⟩ := h
  refine ⟨h1, h2, h3, h4, h5, h6, fun y hy => ?_⟩
  rcases h7 _ (lookup_mem2 hy) with z | z
  · exact absurd rfl z
  · exact z
/-! ### a method that names its class -/
structure DefX where
  at_ : Str × Option Str
  name : Str
  qual : Str
  params : Arguments
  body : List Stmt
  scope : Scope
  dfl : List He.Dv := []
  kwd : List (Str × He.Dv) := []
  D : Str
abbrev FnWX : Type := Option (Str × Str × Arguments × FuncBody × Scope × Addr × List Str × Addr)
def fnWX (K : PySem.W.Frag) (p : Str × Option Str) : FnWX := match K.lookup (He.fAd K p) with
  | some ⟨_, _, .func fd, _⟩ => some (fd.name, fd.qualname, fd.params, fd.body, fd.scope, fd.globals, fd.closure.map (·.1), fd.builtins)
  | _ => none
def DefX.val (d : DefX) : FnWX := some (d.name, d.qual, d.params, .stmts d.body, d.scope, mainGlobals, ["__class__"], builtinsNs)
def cellB (K : PySem.W.Frag) (fd : FuncData) (D : Addr) : Bool := match fd.closure with
  | [(_, cc)] => (match K.lookup cc with
    | some ⟨_, _, .cell (some (.ref E)), _⟩ => decide (E = D)
    | _ => false)
  | _ => false
def fileB (K : PySem.W.Frag) (cd : Value) (file : Str) : Bool := match cd with
  | .ref c => (match K.lookup c with
    | some ⟨_, _, .fields vs, _⟩ => (match (vs[2]? : Option Value) with
      | some (.str f _) => file == f
      | _ => false)
    | _ => false)
  | _ => false
def DefX.ok (K : PySem.W.Frag) (file : Str) (d : DefX) : Bool := PySem.W.keepIn K (.ref (He.fAd K d.at_)) && (match K.lookup (He.fAd K d.at_) with
  | some ⟨_, _, .func fd, _⟩ => PySem.W.codeIn K fd.code d.qual && (He.dflB K fd.defaults (d.dfl.map (He.Dv.v K)) && (He.kwdB K fd.kwdefaults (d.kwd.map fun q => (q.1, q.2.v K)) && (cellB K fd (He.ga K d.D) && fileB K fd.code file)))
  | _ => false)
/-- what is known of such a method -/
structure FnXD (K : PySem.W.Frag) (file : Str) (d : DefX) (fd : FuncData) : Prop where
  ex : ∃ (oc : Value) (od : Option Addr) (osl : Array (Option Value)) (dV kV doc pm ct : Value) (an : Option Addr) (cda cc : Addr), fd = PySem.W.fnX d.name d.qual d.params d.body d.scope [(("__class__" : Str), cc)] dV kV doc pm an (.ref cda) ct ∧
    K.lookup (He.fAd K d.at_) = some ⟨oc, od, .func fd, osl⟩ ∧ PySem.W.codeIn K (.ref cda) d.qual = true ∧ DflV K dV (d.dfl.map (He.Dv.v K)) ∧ KwdV K kV (d.kwd.map fun q => (q.1, q.2.v K)) ∧ ClsCell K cc (He.ga K d.D) ∧
    ∃ (ccl : Value) (cdd : Option Addr) (vs : Array Value) (ccs : Array (Option Value)) (f : Str) (tf : Tok), K.lookup cda = some ⟨ccl, cdd, .fields vs, ccs⟩ ∧ vs[2]? = some (.str f tf) ∧ (file == f) = true
  kp : PySem.W.keepIn K (.ref (He.fAd K d.at_)) = true
theorem DefX.get {K : PySem.W.Frag} {file : Str} {d : DefX} (e : fnWX K d.at_ = d.val) (c : d.ok K file = true) : ∃ fd, FnXD K file d fd := by
  obtain ⟨kp, c2⟩ := He.ba c
  unfold fnWX at e
  cases q : K.lookup (He.fAd K d.at_) with
  | none => rw [q] at c2; cases c2
  | some o =>
    obtain ⟨oc, od, dt, osl⟩ := o
    rw [q] at c2 e
    cases dt with
    | func fd =>
      obtain ⟨n1, n2, n3, n4, n5, n6, cl, n8, n9, n10, n11, n12, n13, n14, n15⟩ := fd
      have e2 : (some (n1, n2, n3, n4, n5, n6, cl.map (·.1), n15) : FnWX) = some (d.name, d.qual, d.params, FuncBody.stmts d.body, d.scope, mainGlobals, [Str.ofString "__class__"], builtinsNs) := e
      simp only [Option.some.injEq, Prod.mk.injEq] at e2
      obtain ⟨rfl, rfl, rfl, rfl, rfl, rfl, hcl, rfl⟩ := e2
      have c3 : (PySem.W.codeIn K n13 d.qual && (He.dflB K n8 (d.dfl.map (He.Dv.v K)) && (He.kwdB K n9 (d.kwd.map fun q => (q.1, q.2.v K)) && (cellB K ⟨d.name, d.qual, d.params, .stmts d.body, d.scope, mainGlobals, cl, n8, n9, n10, n11, n12, n13, n14, builtinsNs⟩ (He.ga K d.D) && fileB K n13 file)))) = true := c2
      obtain ⟨k1, c3⟩ := He.ba c3
      obtain ⟨k2, c3⟩ := He.ba c3
      obtain ⟨k3, c3⟩ := He.ba c3
      obtain ⟨k4, k5⟩ := He.ba c3
      obtain ⟨cda, rfl⟩ := He.codeIn_ref k1
      have hcell : ∃ cc, cl = [(("__class__" : Str), cc)] ∧ ClsCell K cc (He.ga K d.D) := by
        unfold cellB at k4
        cases cl with
        | nil => cases k4
        | cons p r =>
          obtain ⟨y, cc⟩ := p
          cases r with
          | cons _ _ => cases k4
          | nil =>
            have hy : y = ("__class__" : Str) := by simpa using hcl
            subst hy
            refine ⟨cc, rfl, ?_⟩
            simp only at k4
            split at k4
            · rename_i E _ lE
              exact ⟨_, _, _, by rw [lE, of_decide_eq_true k4]⟩
            · cases k4
      have hfile : ∃ (ccl : Value) (cdd : Option Addr) (vs : Array Value) (ccs : Array (Option Value)) (f : Str) (tf : Tok), K.lookup cda = some ⟨ccl, cdd, .fields vs, ccs⟩ ∧ vs[2]? = some (.str f tf) ∧ (file == f) = true := by
        unfold fileB at k5
        simp only at k5
        split at k5
        · rename_i vs _ lc
          split at k5
          · rename_i f tf ef
            exact ⟨_, _, _, _, _, _, lc, ef, k5⟩
          · cases k5
        · cases k5
      obtain ⟨cc, rfl, hcc⟩ := hcell
      exact ⟨_, ⟨oc, od, osl, n8, n9, n10, n11, n14, n12, cda, cc, rfl, q, k1, He.dflB_ok k2, He.kwdB_ok k3, hcc, hfile⟩, kp⟩
    | _ => cases c2
/-! ### the Hook -/
abbrev AlZ : Type := List He.FnW × List FnWX × Bool
def obsK (fn : List He.DefD) (fx : List DefX) (tf : List He.Defn) (ex : PySem.W.Frag → Bool) (file : Str) (g : Addr → Option Obj) (K : PySem.W.Frag) : AlZ :=
  (fn.map fun d => He.fnW K d.at_, fx.map fun d => fnWX K d.at_, (fn.all fun d => d.ok K) && ((fx.all fun d => d.ok K file) && (ex K && He.tabsB g tf K)))
def frZ (g : Addr → Option Obj) (n : Nat) : PySem.W.Frag := He.frT g (PySem.cStatics :: He.asD g n)
def obsZ (n : Nat) (fn : List He.DefD) (fx : List DefX) (tf : List He.Defn) (ex : PySem.W.Frag → Bool) (file : Str) (g : Addr → Option Obj) : AlZ := obsK fn fx tf ex file g (frZ g n)
def valZ (fn : List He.DefD) (fx : List DefX) : AlZ := (fn.map He.DefD.val, fx.map DefX.val, true)
/-- what the head says -/
structure SaysZ (fn : List He.DefD) (fx : List DefX) (tf : List He.Defn) (ex : PySem.W.Frag → Bool) (file : Str) (h : Heap) (K : PySem.W.Frag) : Prop where
  defs : ∀ d ∈ fn, ∃ fd, FunD K d.name d.qual d.params d.body d.scope (d.dvs K) (d.kws K) (He.fAd K d.at_) fd
  defx : ∀ d ∈ fx, ∃ fd, FnXD K file d fd
  more : ex K = true
  hd : ∀ p ∈ tf, PySem.W.codeHdIn K (He.cT K p).1 (He.cT K p).2 = true
  out : ∀ p ∈ tf, K.lookup (He.cT K p).2 = none
  empty : ∀ p ∈ tf, h.get? (He.cT K p).2 = some { cls := .none, data := .fields #[] }
theorem map_eq_at {α β : Type} {f g : α → β} : ∀ {l : List α}, l.map f = l.map g → ∀ a ∈ l, f a = g a
  | [], _, a, m => by cases m
  | x :: l, e, a, m => by
    rw [List.map_cons, List.map_cons] at e
    injection e with e1 e2
    rcases List.mem_cons.mp m with rfl | m
    · exact e1
    · exact map_eq_at e2 a m
theorem saysZ_of {n : Nat} {fn : List He.DefD} {fx : List DefX} {tf : List He.Defn} {ex : PySem.W.Frag → Bool} {file : Str} {h : Heap} (e : obsZ n fn fx tf ex file h.get? = valZ fn fx) : SaysZ fn fx tf ex file h (frZ h.get? n) := by
  unfold obsZ at e
  have hin : (frZ h.get? n).In h := He.frT_in
  have htab : ∀ {a : Addr} {o : Obj}, h.get? a = some o → He.emptyTab o = true → (frZ h.get? n).lookup a = none := fun e1 e2 => He.frT_none e1 e2
  generalize frZ h.get? n = K at e hin htab
  have e1 : fn.map (fun d => He.fnW K d.at_) = fn.map He.DefD.val := congrArg (fun z : AlZ => z.1) e
  have e2 : fx.map (fun d => fnWX K d.at_) = fx.map DefX.val := congrArg (fun z : AlZ => z.2.1) e
  have e3 : ((fn.all fun d => d.ok K) && ((fx.all fun d => d.ok K file) && (ex K && He.tabsB h.get? tf K))) = true := congrArg (fun z : AlZ => z.2.2) e
  obtain ⟨a1, e3⟩ := He.ba e3
  obtain ⟨a2, e3⟩ := He.ba e3
  obtain ⟨a3, a4⟩ := He.ba e3
  have key : ∀ p ∈ tf, PySem.W.codeHdIn K (He.cT K p).1 (He.cT K p).2 = true ∧ ∃ o, h.get? (He.cT K p).2 = some o ∧ He.emptyTab o = true := fun p hp => by
    obtain ⟨b1, b2⟩ := He.ba (List.all_eq_true.mp a4 p hp)
    refine ⟨b1, ?_⟩
    cases q : h.get? (He.cT K p).2 with
    | none => rw [q] at b2; cases b2
    | some o => rw [q] at b2; exact ⟨o, rfl, b2⟩
  exact {
    defs := fun d m => He.DefD.funD (map_eq_at e1 d m) (List.all_eq_true.mp a1 d m)
    defx := fun d m => DefX.get (map_eq_at e2 d m) (List.all_eq_true.mp a2 d m)
    more := a3
    hd := fun p m => (key p m).1
    out := fun p m => by
      obtain ⟨_, o, b1, b2⟩ := key p m
      exact htab b1 b2
    empty := fun p m => by
      obtain ⟨_, o, b1, b2⟩ := key p m
      rw [b1, He.emptyTab_eq b2] }
def hookZ (n : Nat) (fn : List He.DefD) (fx : List DefX) (tf : List He.Defn) (ex : PySem.W.Frag → Bool) (file : Str) : PySem.W.Hook where
  α := AlZ
  obs := fun s => obsZ n fn fx tf ex file s.heap.get?
  val := fun _ => valZ fn fx
  says := fun _ h => ∃ K : PySem.W.Frag, K.In h ∧ SaysZ fn fx tf ex file h K
  of := fun _ _ e => ⟨_, He.frT_in, saysZ_of e⟩
  keeps := fun _ _ _ ⟨K, hK, c⟩ k => ⟨K, PySem.W.Frag.In.keeps hK k, ⟨c.defs, c.defx, c.more, c.hd, c.out, fun p m => k _ _ (c.empty p m)⟩⟩
theorem obsZ_eq {n : Nat} {fn : List He.DefD} {fx : List DefX} {tf : List He.Defn} {ex : PySem.W.Frag → Bool} {file : Str} {g : Addr → Option Obj} {s : Shared} (h : ∀ a, g a = s.heap.get? a) : obsZ n fn fx tf ex file g = (hookZ n fn fx tf ex file).obs s := by
  have e : g = s.heap.get? := funext h
  rw [e] <;> rfl
end TL
namespace TL
open PySem PySem.Spec PyProof.Rows L2
/-! ### what a program is made of -/
structure FnE where
  x : Str
  c : Cod
  ar : Arguments
  ss : List Shp
structure MtE where
  C : Str
  m : Str
  q : Str
  c : Cod
  ar : Arguments
  ss : List Shp
structure InE where
  C : Str
  q : Str
  d : IniD
  ar : Arguments
  ss : List Shp
  dfl : List He.Dv
  kwd : List (Str × He.Dv)
structure SuE where
  D : Str
  C : Str
  i : Nat
structure ExE where
  C : Str
  q : Str
  c : Cod
  ar : Arguments
inductive CsE where
  | int (i : Int) | str (s : Str) | tup (vs : List He.Dv)
structure LmE where
  x : Str
  c : Cod
  ar : Arguments
  C : Str
  f : Str
structure LDat where
  file : Str
  fns : List FnE
  inis : List InE
  mets : List MtE
  eqs : List MtE
  sups : List SuE
  hd : HDat
  cst : List (Str × CsE)
  exc : List ExE
  cls : List (Str × TyN)
  bl : List Str
  lam : List LmE
  law : FnE
def FnE.d (e : FnE) : He.DefD := ⟨(e.x, none), e.x, e.x, e.ar, e.c.body, e.c.scope, [], []⟩
def MtE.d (e : MtE) : He.DefD := ⟨(e.C, some e.m), e.m, e.q, e.ar, e.c.body, e.c.scope, [], []⟩
def InE.dd (e : InE) : He.DefD := ⟨(e.C, some "__init__"), "__init__", e.q, e.ar, e.d.c.body, e.d.c.scope, e.dfl, e.kwd⟩
def InE.dx (e : InE) : DefX := ⟨(e.C, some "__init__"), "__init__", e.q, e.ar, e.d.c.body, e.d.c.scope, e.dfl, e.kwd, e.d.D⟩
def ExE.dx (e : ExE) : DefX := ⟨(e.C, some "__init__"), "__init__", e.q, e.ar, e.c.body, e.c.scope, [], [], e.C⟩
def LmE.d (e : LmE) : He.DefD := ⟨(e.x, none), e.x, e.x, e.ar, e.c.body, e.c.scope, [], []⟩
namespace LDat
variable (L : LDat)
def fn : List He.DefD := L.law.d :: (L.fns.map FnE.d ++ (L.mets.map MtE.d ++ (L.eqs.map MtE.d ++ ((L.inis.filter fun e => !e.d.b).map InE.dd ++ L.lam.map LmE.d))))
def fx : List DefX := (L.inis.filter fun e => e.d.b).map InE.dx ++ L.exc.map ExE.dx
def ons : List Str := (L.law :: L.fns).filterMap fun e => if e.c.on then some e.x else none
def tf : List He.Defn := L.ons.map fun x => (x, none)
end LDat
/-! ### constants -/
def dvT : He.Dv → T
  | .bl b => .bl b
  | .int i => .int i
  | .str s => .str s
  | _ => .non
def dvB : He.Dv → Bool
  | .non => true
  | .bl _ => true
  | .int _ => true
  | .str _ => true
  | _ => false
def CsE.t : CsE → T
  | .int i => .int i
  | .str s => .str s
  | .tup vs => .tup (vs.map dvT)
def CsE.ok (K : PySem.W.Frag) (x : Str) : CsE → Bool
  | .int i => (He.Fa.int x i).ok K
  | .str s => (He.Fa.str x s).ok K
  | .tup vs => (He.Fa.glo x).ok K && (He.tupB K x vs && vs.all dvB)
theorem reps_dv {G : Gd} {ha : HA} {F : Hp} {K : PySem.W.Frag} : ∀ {vs : List He.Dv}, vs.all dvB = true → Reps G ha F (vs.map dvT) (vs.map (He.Dv.v K))
  | [], _ => by simp only [List.map_nil, Reps]
  | v :: vs, h => by
    rw [List.all_cons, Bool.and_eq_true] at h
    simp only [List.map_cons, Reps]
    refine ⟨_, _, rfl, ?_, reps_dv h.2⟩
    cases v <;> first | (simp only [dvT, He.Dv.v, Rep]; done) | (have := h.1; simp [dvB] at this)
theorem cst_ok {K : PySem.W.Frag} {tabs : List (Addr × Str)} {h : Heap} {mg : Str → Option Value} (X : K.In h) (Gn : h.Ns mainGlobals mg) {x : Str} {c : CsE} (ok : c.ok K x = true) : ∃ u v, mg x = some u ∧ RelV v u ∧ ∀ ha F, Rep (gd K tabs) ha F c.t v := by
  cases c with
  | int i =>
    obtain ⟨t, e⟩ := He.int_ok X Gn ok
    exact ⟨_, .int i, e, ⟨t, rfl⟩, fun ha F => by simp only [CsE.t, Rep]⟩
  | str s =>
    obtain ⟨t, e⟩ := He.str_ok X Gn ok
    exact ⟨_, .str s, e, ⟨t, rfl⟩, fun ha F => by simp only [CsE.t, Rep]⟩
  | tup vs =>
    obtain ⟨k1, k2⟩ := He.ba ok
    obtain ⟨k2, k3⟩ := He.ba k2
    exact ⟨_, .ref (He.ga K x), He.glo_ok X Gn k1, rfl, fun ha F => by
      simp only [CsE.t, Rep]
      exact ⟨_, _, rfl, He.tupB_ok k2 F, reps_dv k3⟩⟩
/-! ### own exceptions -/
def oexB (K : PySem.W.Frag) (C : Addr) : Bool := (match K.lookup C with
  | some ⟨.type ty, _, .cls cd, sl⟩ => ty == "type" && (match cd.mro, sl.toList with
    | .ref E :: bm, [_, _, _, _, some (.builtin nw), _] => E == C && (nw == "ValueError.__new__" && (!cd.hasDel && (cd.hasDict && PySem.HandSPX.refsVE bm)))
    | _, _ => false)
  | _ => false) && (decide (PySem.W.findIn K (.ref C) "__setattr__" = some (some (.builtin "object.__setattr__"))) && (decide (PySem.W.subIn K (.ref C) (.type "BaseException") = some true) && (decide (PySem.W.typeIn K (.ref C) = some (.type "type")) && PySem.W.keepIn K (.ref C))))
theorem oexB_ok {K : PySem.W.Frag} {C : Addr} (h : oexB K C = true) : OexC K C := by
  unfold oexB at h
  obtain ⟨h1, h⟩ := He.ba h
  obtain ⟨h2, h⟩ := He.ba h
  obtain ⟨h3, h⟩ := He.ba h
  obtain ⟨h4, h5⟩ := He.ba h
  refine ⟨?_, of_decide_eq_true h2, of_decide_eq_true h3, of_decide_eq_true h4, h5⟩
  split at h1
  · rename_i ty dd cd sl ho
    obtain ⟨t1, t2⟩ := He.ba h1
    have t1 := beq_iff_eq.mp t1
    subst t1
    split at t2
    · rename_i E bm k0 k1 k2 k3 nw k5 hm hs
      obtain ⟨u1, u⟩ := He.ba t2
      obtain ⟨u2, u⟩ := He.ba u
      obtain ⟨u3, u⟩ := He.ba u
      obtain ⟨u4, u5⟩ := He.ba u
      have u1 := beq_iff_eq.mp u1
      have u2 := beq_iff_eq.mp u2
      obtain ⟨nm, bs, mro, ns, qn, hdct, sn, sub, ab, col, del⟩ := cd
      simp only at hm u3 u4
      subst hm u1 u2
      have u3 : del = false := by simpa using u3
      subst u3 u4
      have hsl : sl = #[k0, k1, k2, k3, some (.builtin "ValueError.__new__"), k5] := by
        obtain ⟨l⟩ := sl
        simp only at hs
        rw [hs]
      subst hsl
      exact ⟨nm, qn, ns, bs, bm, sn, sub, ab, col, dd, k0, k1, k2, k3, k5, ho, u5⟩
    · cases t2
  · cases h1
def argE (N : List Str) (nm : Nms) : Expr → Option ArgE
  | .Constant (.str s) _ _ => some (.cst s)
  | .Name y _ => (slotOf N nm y).map .par
  | _ => none
def argsE (N : List Str) (nm : Nms) : List Expr → Option (List ArgE)
  | [] => some []
  | e :: es => match argE N nm e, argsE N nm es with
    | some a, some as => some (a :: as)
    | _, _ => none
def storeE (N : List Str) (nm : Nms) : Stmt → Option (Str × Nat)
  | .Assign [.Attribute (.Name s _) f _] (.Name y _) _ => match slotOf N nm s, slotOf N nm y with
    | some 0, some (i + 1) => some (f, i)
    | _, _ => none
  | _ => none
def storesE (N : List Str) (nm : Nms) : List Stmt → Option ExF
  | [] => some []
  | s :: ss => match storeE N nm s, storesE N nm ss with
    | some a, some as => some (a :: as)
    | _, _ => none
/-- super().__init__(e, ..); self.f = p; .. -/
def excS (c : Cod) : Option (List ArgE × ExF) := match c.body with
  | .Expr (.Call (.Attribute (.Call (.Name sn _) [] [] _) m apos) (e :: es) [] pos) _ :: ss => if (sn == "super") = true ∧ (m == "__init__") = true ∧ (e :: es).all noStar = true ∧ es.length < 29 ∧ (apos.endLine == pos.line) = true then
      match argsE c.N c.scope.names (e :: es), storesE c.N c.scope.names ss with
      | some as, some st => some (as, st)
      | _, _ => none
    else none
  | _ => none
theorem slot_var0 {X : Cx} {N : List Str} {nm : Nms} (ft : X.N = N ∧ X.env.scope.names = nm) {x : Str} {i : Nat} {pos : Pos} (h : slotOf N nm x = some i) : PE X (.Name x pos) (tVar i) := by
  unfold slotOf at h
  split at h
  · rename_i hc
    obtain ⟨h1, h2, _⟩ := okName_d hc.1
    exact pe_var (by rw [ft.1]; exact ixOf_get h) (visB_ok ft.2 hc.2) h1 h2
  · cases h
theorem paired_args {X : Cx} {N : List Str} {nm : Nms} (ft : X.N = N ∧ X.env.scope.names = nm) : ∀ {es : List Expr} {as : List ArgE}, argsE N nm es = some as → Paired (fun e a => PE X e (tArg a)) es as
  | [], as, h => by
    simp only [argsE] at h
    cases h
    exact .nil
  | e :: es, as, h => by
    unfold argsE at h
    split at h
    · rename_i a as' h1 h2
      cases h
      refine .cons ?_ (paired_args ft h2)
      unfold argE at h1
      split at h1
      · cases h1; exact pe_argc
      · obtain ⟨i, hi, rfl⟩ := Option.map_eq_some_iff.mp h1
        exact pe_argp (slot_var0 ft hi)
      · cases h1
    · cases h
theorem stores_ok {X : Cx} {N : List Str} {nm : Nms} (ft : X.N = N ∧ X.env.scope.names = nm) {C : Addr} : ∀ {ss : List Stmt} {st : ExF}, storesE N nm ss = some st → (∀ p ∈ st, PySem.W.findIn X.K (.ref C) p.1 = some none) → StoresOk X C ss st
  | [], st, h, _ => by
    simp only [storesE] at h
    cases h
    exact .nil
  | s :: ss, st, h, hf => by
    unfold storesE at h
    split at h
    · rename_i a as' h1 h2
      cases h
      unfold storeE at h1
      split at h1
      · split at h1
        · rename_i e1 e2
          cases h1
          exact .cons (ps_ost (slot_var0 ft e1) (slot_var0 ft e2)) (hf _ List.mem_cons_self) (stores_ok ft h2 fun p m => hf p (List.mem_cons_of_mem _ m))
        · cases h1
      · cases h1
    · cases h
/-- the arguments are there -/
def argsIn (n : Nat) (as : List ArgE) : Bool := as.all fun
  | .cst _ => true
  | .par i => decide (i < n)
theorem argsV_in {N : List Str} {vs : List V} : ∀ {as : List ArgE}, argsIn vs.length as = true → ∃ ws, argsV (L2.start N vs) as = some ws ∧ ws.length = as.length
  | [], _ => ⟨[], rfl, rfl⟩
  | a :: as, h => by
    unfold argsIn at h
    rw [List.all_cons, Bool.and_eq_true] at h
    obtain ⟨ws, e, l⟩ := argsV_in (N := N) (vs := vs) (as := as) h.2
    have : ∃ v, argV (L2.start N vs) a = some v := by
      cases a with
      | cst s => exact ⟨.str s, rfl⟩
      | par i =>
        have hi : i < vs.length := of_decide_eq_true h.1
        refine ⟨vs[i], ?_⟩
        unfold argV L2.start
        have e0 : (vs.map some ++ List.replicate (N.length - vs.length) none)[i]? = some (some vs[i]) := by
          rw [List.getElem?_append_left (by simpa using hi), List.getElem?_map, List.getElem?_eq_getElem hi]
          rfl
        show (match (vs.map some ++ List.replicate (N.length - vs.length) none)[i]? with
          | some (some v) => some v
          | _ => none) = _
        rw [e0]
    obtain ⟨v, ev⟩ := this
    exact ⟨v :: ws, by unfold argsV; rw [ev, e], by rw [List.length_cons, List.length_cons, l]⟩
/-- what stands in the text of a method with super() -/
def supSB (P : Program) (c : Cod) (ar : Arguments) : Bool := (match c.N, (ar.posonlyargs ++ ar.args).head? with
  | x0 :: _, some a => decide (a.arg = x0) && (visB c.scope.names x0 && !(x0 == ("__classdict__" : Str)))
  | _, _ => false) && (decide (c.scope.names.lookup ("super" : Str) = some .globalImplicit) && (decide (c.scope.names.lookup ("__class__" : Str) = some .free) && (!(P.main.scope.names.lookup ("super" : Str)).isSome && c.scope.names.all fun y => !decide (y.2 = .cell) || !decide (y.1 = ("__class__" : Str)))))
theorem supF_of {G : Gd} {P : Program} {mg : Str → Option Value} {d : DefX} {fd : FuncData} {c : Cod} {K : PySem.W.Frag} {tabs : List (Addr × Str)} (F : FnXD K P.main.file d fd) (hb : d.body = c.body) (hsc : d.scope = c.scope) (hs : supSB P c d.params = true) (hD : (PySem.W.clsIn K (He.ga K d.D)).isSome = true) (hm : mg "super" = none) :
    ∃ (oc : Value) (od : Option Addr) (osl : Array (Option Value)) (dV kV doc pm ct : Value) (an : Option Addr) (cda cc : Addr) (x0 : Str), fd = PySem.W.fnX d.name d.qual d.params c.body c.scope [(("__class__" : Str), cc)] dV kV doc pm an (.ref cda) ct ∧
      K.lookup (He.fAd K d.at_) = some ⟨oc, od, .func (PySem.W.fnX d.name d.qual d.params c.body c.scope [(("__class__" : Str), cc)] dV kV doc pm an (.ref cda) ct), osl⟩ ∧ PySem.W.codeIn K (.ref cda) d.qual = true ∧ DflV K dV (d.dfl.map (He.Dv.v K)) ∧ KwdV K kV (d.kwd.map fun q => (q.1, q.2.v K)) ∧
      SupF (gd K tabs) P mg (He.fAd K d.at_) cc (He.ga K d.D) cda x0 c ∧ (∀ y ∈ c.scope.names, y.2 = .cell → y.1 ≠ ("__class__" : Str)) := by
  obtain ⟨oc, od, osl, dV, kV, doc, pm, ct, an, cda, cc, rfl, lk, hcd, hDf, hK, hcc, hfile⟩ := F.ex
  rw [hb, hsc] at lk
  unfold supSB at hs
  obtain ⟨s1, hs⟩ := He.ba hs
  obtain ⟨s2, hs⟩ := He.ba hs
  obtain ⟨s3, hs⟩ := He.ba hs
  obtain ⟨s4, s5⟩ := He.ba hs
  split at s1
  · rename_i x0 r a hN ha
    obtain ⟨t1, t⟩ := He.ba s1
    obtain ⟨t2, t3⟩ := He.ba t
    refine ⟨oc, od, osl, dV, kV, doc, pm, ct, an, cda, cc, x0, by rw [hb, hsc], lk, hcd, hDf, hK, {
      hf := ⟨oc, od, _, osl, a, lk, ha, of_decide_eq_true t1⟩
      hcd := hfile
      cell := hcc
      hD := hD
      mgs := hm
      htop := by simpa using s4
      hks := of_decide_eq_true s2
      hkc := of_decide_eq_true s3
      hN := by rw [hN]; rfl
      hv := visB_ok rfl t2
      hdc := by simpa using t3 }, fun y m e => ?_⟩
    have := List.all_eq_true.mp s5 y m
    rw [e] at this
    simpa using this
  · cases s1
/-- the arguments bind -/
theorem binds_posX {K : PySem.W.Frag} {fd : FuncData} {ps : List Str} (hp : posArgs ps fd.params = true) (hd : fd.defaults = .none) (n : ps.Nodup) : Binds K fd ps [] := .all fun us l => bind_pos hp hd n l
theorem srcL_range {α : Type} {us ds mz zs : List α} {n : Nat} (l : us.length = n) : srcL ((List.range n).map Src.p) us ds mz zs = us := by
  unfold srcL
  rw [List.filterMap_map]
  have e : (Src.get us ds mz zs ∘ Src.p) = fun i => us[i]? := rfl
  rw [e]
  subst l
  clear e
  induction us with
  | nil => simp
  | cons u us ih =>
    rw [List.length_cons, List.range_succ_eq_map, List.filterMap_cons]
    simp only [List.getElem?_cons_zero, List.filterMap_map]
    congr 1
theorem shp_pos {K : PySem.W.Frag} {fd : FuncData} {ps : List Str} {n : Nat} (hp : posArgs ps fd.params = true) (hd : fd.defaults = .none) (nd : ps.Nodup) (hl : ps.length = n) : ShpOk K fd ps n [] ((List.range n).map Src.p) [] [] :=
  ⟨[], [], ⟨fun s us ws _ l1 l2 => .of_eq (by
    have : ws = [] := List.length_eq_zero_iff.mp l2
    subst this
    rw [srcL_range l1]
    exact bind_pos hp hd nd (by rw [l1, hl])), fun r1 r2 => srcL_rel r1 .nil .nil r2⟩⟩
theorem dflV_nil {K : PySem.W.Frag} {dV : Value} (h : DflV K dV []) : dV = .none := by
  rcases h with ⟨_, e⟩ | ⟨e, _⟩
  · exact e
  · exact absurd rfl e
end TL
namespace TL
open PySem PySem.Spec PyProof.Rows L2
/-- a shape without names, without defaults -/
def srcP : Nat → List Src → Bool
  | _, [] => true
  | i, .p j :: r => i == j && srcP (i + 1) r
  | _, _ => false
theorem srcP_ok : ∀ {r : List Src} {i : Nat}, srcP i r = true → r = (List.range r.length).map fun k => Src.p (i + k)
  | [], _, _ => rfl
  | .p j :: r, i, h => by
    obtain ⟨h1, h2⟩ := He.ba (show (i == j && srcP (i + 1) r) = true from h)
    have h1 := beq_iff_eq.mp h1
    subst h1
    rw [List.length_cons, List.range_succ_eq_map, List.map_cons, List.map_map]
    congr 1
    have := srcP_ok h2
    conv => lhs; rw [this]
    refine List.map_congr_left fun k _ => ?_
    show Src.p (i + 1 + k) = Src.p (i + (k + 1))
    congr 1
    omega
  | .k _ :: _, _, h => by cases h
  | .d _ :: _, _, h => by cases h
  | .m _ :: _, _, h => by cases h
def shpB (n : Nat) (s : Shp) : Bool := s.n == n && (s.ks.isEmpty && (srcP 0 s.src && (s.src.length == n && (s.dts.isEmpty && s.mts.isEmpty))))
theorem shpB_ok {n : Nat} {s : Shp} (h : shpB n s = true) : s = ⟨n, [], (List.range n).map Src.p, [], []⟩ := by
  obtain ⟨sn, ks, src, dts, mts⟩ := s
  unfold shpB at h
  obtain ⟨g1, h⟩ := He.ba h
  obtain ⟨g2, h⟩ := He.ba h
  obtain ⟨g3, h⟩ := He.ba h
  obtain ⟨g4, h⟩ := He.ba h
  obtain ⟨g5, g6⟩ := He.ba h
  have h1 : sn = n := beq_iff_eq.mp g1
  have h2 : ks = [] := List.isEmpty_iff.mp g2
  have h4 : src.length = n := beq_iff_eq.mp g4
  have h5 : dts = [] := List.isEmpty_iff.mp g5
  have h6 : mts = [] := List.isEmpty_iff.mp g6
  have h3 := srcP_ok g3
  simp only [Nat.zero_add] at h3
  have h3 : src = (List.range src.length).map Src.p := h3
  rw [h4] at h3
  clear g1 g2 g3 g4 g5 g6 h
  subst h1 h2 h5 h6
  rw [h3]
/-! ### shapes with defaults -/
def bindG (q : Str) (ar : Arguments) (dV kV : Value) (args : Args) : Sem (List (Str × Value)) := bindArgs (PySem.W.fnOf q q ar [] ⟨.function, [], false, false, []⟩ dV kV .none .none none .none .none) args
theorem bindG_eq (fd : FuncData) (args : Args) : bindArgs fd args = bindG fd.qualname fd.params fd.defaults fd.kwdefaults args := by
  cases fd
  rfl
def ShpH (ar : Arguments) (ps : List Str) (n : Nat) (ks : List Str) (src : List Src) (nd : Nat) (ud : Bool) (ms : List Str) : Prop :=
  (nd = 0 ∧ ∀ (q : Str) (D : Addr) (kV : Value) (us mv ws : List Value), us.length = n → mv.length = ms.length → ws.length = ks.length → (ms ≠ [] → kV = .ref D) → KwChain D (ms.zip mv) (bindG q ar .none kV ⟨us, ks.zip ws⟩) (ps.zip (srcL src us [] mv ws))) ∨
  (0 < nd ∧ ∀ (q : Str) (T D : Addr) (kV : Value) (us its mv ws : List Value), us.length = n → its.length = nd → mv.length = ms.length → ws.length = ks.length → (ms ≠ [] → kV = .ref D) →
    ∃ k, bindG q ar (.ref T) kV ⟨us, ks.zip ws⟩ = seqItems? (.ref T) >>= k ∧ KwChain D (ms.zip mv) (k (some its.toArray)) (ps.zip (srcL src us (if ud then its else []) mv ws)))
theorem shp_gen {K : PySem.W.Frag} {fd : FuncData} {ps : List Str} {n : Nat} {ks : List Str} {src : List Src} {dvs : List V} {kws ms : List (Str × V)} {ud : Bool} (hD : DflV K fd.defaults dvs) (hK : KwdV K fd.kwdefaults kws) (hms : ∀ q ∈ ms, q ∈ kws)
    (h : ShpH fd.params ps n ks src dvs.length ud (ms.map (·.1))) : ShpOk K fd ps n ks src (if ud then dvs else []) (ms.map (·.2)) := by
  have hm : ∃ (mv : List Value) (D : Addr), mv.length = ms.length ∧ Vals (ms.map (·.2)) mv ∧ (ms.map (·.1) ≠ [] → fd.kwdefaults = .ref D) ∧ ∀ q ∈ (ms.map (·.1)).zip mv, PySem.W.nsIn K D q.1 = some (some q.2) := by
    rcases hK with e | ⟨D, e, hq⟩
    · cases ms with
      | nil => exact ⟨[], 0, rfl, .nil, fun z => absurd rfl z, fun q m => by cases m⟩
      | cons m ms =>
        have := hms m List.mem_cons_self
        rw [e] at this
        cases this
    · obtain ⟨mv, hl, rk, hks⟩ := kwd_vals (ms := ms) fun q hm => hq q (hms q hm)
      exact ⟨mv, D, hl, rk, fun _ => e, hks⟩
  obtain ⟨mv, D, hl, rk, hkD, hks⟩ := hm
  have hl2 : mv.length = (ms.map (·.1)).length := by rw [List.length_map]; exact hl
  rcases hD with ⟨rfl, e⟩ | ⟨ne, T, o, its, m, e, lT, oT, rT⟩
  · rcases h with ⟨_, h⟩ | ⟨z, _⟩
    · refine ⟨[], mv, ⟨fun s us ws X l1 l2 => BindsTo.of_looks fun M => ?_, fun r1 r2 => srcL_rel r1 (by cases ud <;> exact .nil) rk r2⟩⟩
      rw [bindG_eq, e]
      exact KwChain.looks X hks (h fd.qualname D fd.kwdefaults us mv ws l1 hl2 l2 hkD)
    · exact absurd z (by simp)
  · rcases h with ⟨z, _⟩ | ⟨_, h⟩
    · exact absurd (List.length_eq_zero_iff.mp z) ne
    · refine ⟨if ud then its else [], mv, ⟨fun s us ws X l1 l2 => BindsTo.of_looks fun M => ?_, fun r1 r2 => srcL_rel r1 (by cases ud; exact .nil; exact rT) rk r2⟩⟩
      rw [bindG_eq, e]
      obtain ⟨k, e1, e2⟩ := h fd.qualname T D fd.kwdefaults us its mv ws l1 rT.length.symm hl2 l2 hkD
      rw [e1]
      exact looks_items X lT oT (KwChain.looks X hks e2)
theorem binds_full {K : PySem.W.Frag} {fd : FuncData} {ps : List Str} {dvs mvs : List V} (h : ShpOk K fd ps ps.length [] ((List.range ps.length).map Src.p) dvs mvs) : Binds K fd ps [] := fun s us X hl => by
  rw [List.append_nil] at hl ⊢
  obtain ⟨its, mv, kb⟩ := h
  have := kb.to s us [] X hl rfl
  rw [srcL_range hl] at this
  exact this
/-- a default's tree -/
def tup0B (K : PySem.W.Frag) (a : Addr) : Bool := match K.lookup a with
  | some ⟨.type c, _, .seq its _, _⟩ => decide (c = "tuple") && its.toList.isEmpty
  | _ => false
theorem tup0B_ok {K : PySem.W.Frag} {a : Addr} (h : tup0B K a = true) (H : Hp) : SqT K H a [] := by
  unfold tup0B at h
  split at h
  · rename_i c od its n osl q
    obtain ⟨h1, h2⟩ := He.ba h
    have h2 : its.toList = [] := List.isEmpty_iff.mp h2
    refine .inr ⟨_, its, n, q, congrArg Value.type (of_decide_eq_true h1), rfl, ?_, by rw [h2]; exact .nil⟩
    have : its.size = 0 := by rw [← Array.length_toList, h2]; rfl
    rw [this]
    exact Nat.zero_le _
  · cases h
def repB1 (K : PySem.W.Frag) : T → He.Dv → Bool
  | .non, .non => true
  | .bl b, .bl c => b == c
  | .int i, .int j => i == j
  | .str s, .str z => s == z
  | .tup [], .adr p => tup0B K (p K)
  | _, _ => false
def repsB1 (K : PySem.W.Frag) : List T → List He.Dv → Bool
  | [], [] => true
  | t :: ts, d :: ds => repB1 K t d && repsB1 K ts ds
  | _, _ => false
theorem repB1_ok {K : PySem.W.Frag} {tabs : List (Addr × Str)} {ha : HA} {F : Hp} : ∀ {t : T} {d : He.Dv}, repB1 K t d = true → Rep (gd K tabs) ha F t (d.v K) := fun {t d} h => by
  unfold repB1 at h
  split at h
  · simp only [Rep, He.Dv.v]
  · have := beq_iff_eq.mp h
    subst this
    simp only [Rep, He.Dv.v]
  · have := beq_iff_eq.mp h
    subst this
    simp only [Rep, He.Dv.v]
  · have := beq_iff_eq.mp h
    subst this
    simp only [Rep, He.Dv.v]
  · simp only [Rep, He.Dv.v]
    exact ⟨_, _, rfl, tup0B_ok h F, by simp only [Reps]⟩
  · cases h
theorem repsB1_ok {K : PySem.W.Frag} {tabs : List (Addr × Str)} {ha : HA} {F : Hp} : ∀ {ts : List T} {ds : List He.Dv}, repsB1 K ts ds = true → Reps (gd K tabs) ha F ts (ds.map (He.Dv.v K))
  | [], [], _ => by simp only [List.map_nil, Reps]
  | t :: ts, d :: ds, h => by
    obtain ⟨h1, h2⟩ := He.ba (show (repB1 K t d && repsB1 K ts ds) = true from h)
    simp only [List.map_cons, Reps]
    exact ⟨_, _, rfl, repB1_ok h1, repsB1_ok h2⟩
  | [], _ :: _, h => by cases h
  | _ :: _, [], h => by cases h
/-- the keyword-only value of a def -/
def kwdAt (f : Str × Option Str) (x : Str) (K : PySem.W.Frag) : Addr := match K.lookup (He.fAd K f) with
  | some ⟨_, _, .func fd, _⟩ => (match fd.kwdefaults with
    | .ref D => (match PySem.W.nsIn K D x with
      | some (some (.ref a)) => a
      | _ => 0)
    | _ => 0)
  | _ => 0
def InE.lack (e : InE) (s : Shp) : List (Str × He.Dv) := e.kwd.filter fun q => !s.ks.contains q.1
def ShpS (e : InE) (s : Shp) : Prop := ShpH e.ar e.d.c.ps (s.n + 1) s.ks (.p 0 :: s.src.map Src.up) e.dfl.length (!s.dts.isEmpty) ((e.lack s).map (·.1)) ∧
  SrcLen s.src s.n s.ks.length (if (!s.dts.isEmpty) = true then e.dfl else []).length (e.lack s).length = true ∧ s.src.length + 1 = e.d.c.ps.length
structure ShpsOk (L : LDat) : Prop where
  ini : ∀ e ∈ L.inis, ∀ s ∈ e.ss, ShpS e s
  sup : ∀ s ∈ L.sups, ∀ e, L.inis[s.i]? = some e → ShpH e.ar e.d.c.ps e.d.c.ps.length [] ((List.range e.d.c.ps.length).map Src.p) e.dfl.length false []
/-- x(lambda) tells a field -/
def lamS (c : Cod) (C f : Str) : Bool := match c.ps, c.body with
  | [a], [.Try [.Expr (.Call (.Name a2 _) [] [] _) _] [.ExceptHandler (some (.Name C2 _)) (some n) [.Return (some (.Attribute (.Name n2 _) f2 _)) _] _] [] [] _, .Return (some (.Constant .none _ _)) _] =>
    decide (a2 = a ∧ C2 = C ∧ n2 = n ∧ f2 = f ∧ c.N[0]? = some a ∧ c.scope.names.lookup C = some .globalImplicit ∧ c.scope.names.lookup n = some .local) && ((ixOf c.N n).isSome && (visB c.scope.names a && (okName a && (okName n && okName C))))
  | _, _ => false
def supB (K : PySem.W.Frag) (D C B : Str) : Bool := decide (PySem.W.mroIn K (He.ga K C) (.ref (He.ga K D)) = some true) && (decide (PySem.W.ks_superIn K (He.ga K C) (He.ga K D) "__init__" = some (some (.ref (He.fAd K (B, some "__init__"))))) && (decide (PySem.W.typeIn K (.ref (He.fAd K (B, some "__init__"))) = some (.type "function")) && PySem.W.fnIn K (He.fAd K (B, some "__init__"))))
/-! ### the table of a program -/
namespace LDat
variable (L : LDat)
def base : Tab where
  cst := fun x => (L.cst.map fun p => (p.1, p.2.t)).lookup x
  fns := fun _ _ => none
  fnk := fun _ _ _ => none
  met := fun _ _ _ => none
  fld := fldT_ L.hd
  isi := isiH L.hd
  eqt := eqtH L.hd
  exc := fun x => (L.exc.map fun e => (e.C, (e.c.ps.length - 1, ((excS e.c).map (·.2)).getD []))).lookup x
  cls := fun x => L.cls.lookup x
  bl := fun x => L.bl.contains x
  lam := fun x => (L.lam.map fun e => (e.x, (e.C, e.f))).lookup x
/-- what stands in the text -/
def statB (P : Program) : Bool := ((L.law :: L.fns).all fun e => scopeB e.c && posArgs e.c.ps e.ar) && ((L.fns.all fun e => e.ss.all (shpB e.c.ps.length)) && ((L.mets.all fun e => !e.c.on && (scopeB e.c && (posArgs e.c.ps e.ar && e.ss.all (shpB e.c.ps.length)))) && ((L.eqs.all fun e => !e.c.on && (scopeB e.c && (posArgs e.c.ps e.ar && decide (e.c.ps.length = 2)))) &&
  ((L.inis.all fun e => decide (0 < e.d.c.ps.length) && (if e.d.b then scopeXB e.d.c && supSB P e.d.c e.ar else !e.d.c.on && scopeB e.d.c)) && ((L.exc.all fun e => scopeXB e.c && (supSB P e.c e.ar && (posArgs e.c.ps e.ar && (match excS e.c with
    | some (as, _ :: st) => argsIn e.c.ps.length as && (decide (as.length ≤ 1000) && (decide (st.length ≤ 800) && decide (0 < e.c.ps.length)))
    | _ => false)))) && ((L.lam.all fun e => !e.c.on && (scopeB e.c && (posArgs e.c.ps e.ar && lamS e.c e.C e.f))) && ((L.cls.all fun p => (match p.2 with
    | .b n => decide (bootBuiltins p.1 = some (.type n)) && !decide (p.1 = ("__name__" : Str))
    | .c C => decide (p.1 = C))) && (L.exc.all fun e => !(e.C == ("__debug__" : Str))))))))))
def exEq (K : PySem.W.Frag) (e : MtE) : Bool := decide (e.m = ("__eq__" : Str)) && (decide (PySem.W.findIn K (.ref (He.ga K e.C)) "__eq__" = some (some (.ref (He.ma K (He.ga K e.C) "__eq__")))) && (PySem.W.isFn K (.ref (He.ma K (He.ga K e.C) "__eq__")) && (decide (PySem.W.findIn K (.ref (He.ga K e.C)) "__ne__" = some (some (.builtin "object.__ne__"))) && decide (PySem.W.mroIn K (He.ga K e.C) (.type "object") = some true))))
def exExc (K : PySem.W.Frag) (e : ExE) : Bool := (He.Fa.glo e.C).ok K && (oexB K (He.ga K e.C) && ((PySem.W.clsIn K (He.ga K e.C)).isSome && (decide (PySem.W.mroIn K (He.ga K e.C) (.ref (He.ga K e.C)) = some true) && (decide (PySem.W.ks_superIn K (He.ga K e.C) (He.ga K e.C) "__init__" = some (some (.builtin "ValueError.__init__"))) && (decide (PySem.W.subIn K (.ref (He.ga K e.C)) (.type "ValueError") = some true) &&
    (decide (PySem.W.findIn K (.ref (He.ga K e.C)) "__init__" = some (some (.ref (He.fAd K (e.C, some "__init__"))))) && (decide (PySem.W.typeIn K (.ref (He.fAd K (e.C, some "__init__"))) = some (.type "function")) && (((excS e.c).map (·.2)).getD []).all fun p => decide (PySem.W.findIn K (.ref (He.ga K e.C)) p.1 = some none))))))))
def exLam (K : PySem.W.Frag) (e : LmE) : Bool := (He.Fa.glo e.x).ok K && ((He.Fa.glo e.C).ok K && (xfB K (He.ga K e.C) && (decide (PySem.W.findIn K (.ref (He.ga K e.C)) e.f = some none) && decide (PySem.W.exmOne K (.ref (He.ga K e.C)) (.ref (He.ga K e.C)) = some true))))
def exSup (K : PySem.W.Frag) (s : SuE) : Bool := match L.inis[s.i]? with
  | some e => supB K s.D s.C e.C
  | none => true
def exCls (K : PySem.W.Frag) (p : Str × TyN) : Bool := match p.2 with
    | .b _ => (He.Fa.free p.1).ok K
    | .c C => (He.Fa.glo C).ok K
def exB (K : PySem.W.Frag) : Bool := headB L.hd K && (((L.law :: L.fns).all fun e => (He.Fa.glo e.x).ok K) && ((L.inis.all fun e => (He.Fa.glo e.C).ok K && ((He.Fa.mkr e.C).ok K && ((!e.d.b || (PySem.W.clsIn K (He.ga K e.d.D)).isSome) && e.ss.all fun s => (s.dts.isEmpty || repsB1 K s.dts e.dfl) && repsB1 K s.mts ((e.lack s).map (·.2))))) && ((L.mets.all fun e => (He.Fa.cls e.C).ok K && (He.Fa.meth e.C e.m).ok K) && ((L.eqs.all (exEq K)) && ((L.cst.all fun p => p.2.ok K p.1) && ((L.exc.all (exExc K)) &&
  ((L.cls.all (exCls K)) && ((L.bl.all fun x => (He.Fa.free x).ok K) && ((He.Fa.free "super").ok K && (decide (PySem.W.nsIn K PySem.cStatics "thirdparty.any" = some none) && ((L.lam.all (exLam K)) && (decide ((L.ons.map fun x => (He.cT K (x, none)).2).Nodup) && L.sups.all (exSup L K)))))))))))))
end LDat
def tabsZ (K : PySem.W.Frag) (xs : List Str) : List (Addr × Str) := xs.map fun x => ((He.cT K (x, none)).2, x ++ ".<locals>." ++ "<lambda>")
section
variable {L : LDat} {P : Program} {w : World} {K : PySem.W.Frag} {mg : Str → Option Value} {base h : Heap}
/-- facts of K by names -/
structure Kn (L : LDat) (P : Program) (K : PySem.W.Frag) (mg : Str → Option Value) (base h : Heap) (extra : PySem.W.Frag → Bool) : Prop where
  X : K.In h
  G : h.Ns mainGlobals mg
  S : SaysZ L.fn L.fx L.tf (fun K => L.exB K && extra K) P.main.file h K
  st : L.statB P = true
  tb : ∀ p ∈ L.tf, LamX.TabB base mg (He.cT K p).1 (He.cT K p).2
variable {extra : PySem.W.Frag → Bool}
theorem Kn.ex (k : Kn L P K mg base h extra) : L.exB K = true := (He.ba k.S.more).1
theorem Kn.more (k : Kn L P K mg base h extra) : extra K = true := (He.ba k.S.more).2
theorem mem_fn {e : FnE} (m : e ∈ L.law :: L.fns) : e.d ∈ L.fn := by
  unfold LDat.fn
  rcases List.mem_cons.mp m with rfl | m
  · exact List.mem_cons_self
  · exact List.mem_cons_of_mem _ (List.mem_append_left _ (List.mem_map.mpr ⟨e, m, rfl⟩))
theorem mem_mt {e : MtE} (m : e ∈ L.mets) : e.d ∈ L.fn := List.mem_cons_of_mem _ (List.mem_append_right _ (List.mem_append_left _ (List.mem_map.mpr ⟨e, m, rfl⟩)))
theorem mem_eq {e : MtE} (m : e ∈ L.eqs) : e.d ∈ L.fn := List.mem_cons_of_mem _ (List.mem_append_right _ (List.mem_append_right _ (List.mem_append_left _ (List.mem_map.mpr ⟨e, m, rfl⟩))))
theorem mem_in {e : InE} (m : e ∈ L.inis) (hb : e.d.b = false) : e.dd ∈ L.fn := List.mem_cons_of_mem _ (List.mem_append_right _ (List.mem_append_right _ (List.mem_append_right _ (List.mem_append_left _ (List.mem_map.mpr ⟨e, List.mem_filter.mpr ⟨m, by rw [hb]; rfl⟩, rfl⟩)))))
theorem mem_lm {e : LmE} (m : e ∈ L.lam) : e.d ∈ L.fn := List.mem_cons_of_mem _ (List.mem_append_right _ (List.mem_append_right _ (List.mem_append_right _ (List.mem_append_right _ (List.mem_map.mpr ⟨e, m, rfl⟩)))))
theorem mem_inX {e : InE} (m : e ∈ L.inis) (hb : e.d.b = true) : e.dx ∈ L.fx := List.mem_append_left _ (List.mem_map.mpr ⟨e, List.mem_filter.mpr ⟨m, hb⟩, rfl⟩)
theorem mem_ex {e : ExE} (m : e ∈ L.exc) : e.dx ∈ L.fx := List.mem_append_right _ (List.mem_map.mpr ⟨e, m, rfl⟩)
/-- the makers' tables -/
theorem lamD_of (k : Kn L P K mg base h extra) {e : FnE} (m : e ∈ L.law :: L.fns) (on : e.c.on = true) {fd : FuncData} {cda : Addr} {oc : Value} {od : Option Addr} {osl : Array (Option Value)} (lk : K.lookup (He.fAd K (e.x, none)) = some ⟨oc, od, .func fd, osl⟩) (ec : fd.code = .ref cda) : LamD (gd K (tabsZ K L.ons)) mg base (e.x ++ ".<locals>.") cda (He.cT K (e.x, none)).2 := by
  have mo : e.x ∈ L.ons := List.mem_filterMap.mpr ⟨e, m, by rw [on]; rfl⟩
  have ecd : (He.cT K (e.x, none)).1 = cda := He.codeOf_eq lk ec
  refine ⟨?_, List.mem_map.mpr ⟨e.x, mo, rfl⟩, fun p hp e1 => ?_⟩
  · rw [← ecd]
    exact k.tb _ (List.mem_map.mpr ⟨e.x, mo, rfl⟩)
  · obtain ⟨y, hy, rfl⟩ := List.mem_map.mp hp
    have hn : (L.ons.map fun x => (He.cT K (x, none)).2).Nodup := by
      have q := k.ex
      unfold LDat.exB at q
      obtain ⟨_, q⟩ := He.ba q
      obtain ⟨_, q⟩ := He.ba q
      obtain ⟨_, q⟩ := He.ba q
      obtain ⟨_, q⟩ := He.ba q
      obtain ⟨_, q⟩ := He.ba q
      obtain ⟨_, q⟩ := He.ba q
      obtain ⟨_, q⟩ := He.ba q
      obtain ⟨_, q⟩ := He.ba q
      obtain ⟨_, q⟩ := He.ba q
      obtain ⟨_, q⟩ := He.ba q
      obtain ⟨_, q⟩ := He.ba q
      obtain ⟨_, q⟩ := He.ba q
      exact of_decide_eq_true (He.ba q).1
    have : y = e.x := by
      clear ecd
      have inj : ∀ {l : List Str}, (l.map fun x => (He.cT K (x, none)).2).Nodup → ∀ a ∈ l, ∀ b ∈ l, (He.cT K (a, none)).2 = (He.cT K (b, none)).2 → a = b := by
        intro l
        induction l with
        | nil => intro _ a ha; cases ha
        | cons z l ih =>
          intro nd a ha b hb eab
          rw [List.map_cons, List.nodup_cons] at nd
          rcases List.mem_cons.mp ha with e1 | ha'
          · rcases List.mem_cons.mp hb with e2 | hb'
            · rw [e1, e2]
            · subst e1
              exact (nd.1 (List.mem_map.mpr ⟨b, hb', eab.symm⟩)).elim
          · rcases List.mem_cons.mp hb with e2 | hb'
            · subst e2
              exact (nd.1 (List.mem_map.mpr ⟨a, ha', eab⟩)).elim
            · exact ih nd.2 a ha' b hb' eab
      exact inj hn y hy e.x mo e1
    rw [this]
theorem codOk_fn (k : Kn L P K mg base h extra) {e : FnE} (m : e ∈ L.law :: L.fns) : ∃ fd, CodOk (gd K (tabsZ K L.ons)) mg base e.c (He.fAd K (e.x, none)) fd ∧ fd.params = e.ar ∧ fd.defaults = .none ∧ PySem.W.keepIn K (.ref (He.fAd K (e.x, none))) = true ∧ scopeB e.c = true ∧ posArgs e.c.ps e.ar = true ∧
    ∃ oc od osl, K.lookup (He.fAd K (e.x, none)) = some ⟨oc, od, .func fd, osl⟩ := by
  obtain ⟨fd, F⟩ := k.S.defs e.d (mem_fn m)
  have hs : (scopeB e.c && posArgs e.c.ps e.ar) = true := by
    have q := k.st
    unfold LDat.statB at q
    exact List.all_eq_true.mp (He.ba q).1 e m
  obtain ⟨hs, hp⟩ := He.ba hs
  have F' : FunD K e.x e.x e.ar e.c.body e.c.scope [] [] (He.fAd K (e.x, none)) fd := F
  obtain ⟨oc, od, dV, kV, doc, pm, an, cdv, ct, osl, rfl, lk, hcd, hD, hK⟩ := F'.ex
  have dv := dflV_nil hD
  subst dv
  refine ⟨_, ?_, rfl, rfl, F'.kp, hs, hp, oc, od, osl, lk⟩
  cases on : e.c.on with
  | false => exact .inl ⟨on, ⟨_, _, _, _, _, F'⟩, scopeB_ok hs⟩
  | true =>
    obtain ⟨cda, rfl⟩ := He.codeIn_ref hcd
    exact .inr ⟨e.x, e.x, e.ar, .none, kV, doc, pm, ct, oc, an, od, osl, cda, _, rfl, lk, hcd, scopeB_ok hs, lamD_of k m on lk rfl⟩
end
end TL
namespace TL
open PySem PySem.Spec PyProof.Rows L2
def LDat.pr (L : LDat) : Prg where
  base := L.base
  fns := fun x => (L.fns.map fun e => (e.x, (e.c, e.ss))).lookup x
  cls := fun x => (L.inis.map fun e => (e.C, (e.d, e.ss))).lookup x
  mets := fun C m => (L.mets.map fun e => ((e.C, e.m), (e.c, e.ss))).lookup (C, m)
  eqs := fun C => (L.eqs.map fun e => (e.C, e.c)).lookup C
  sup := fun D C => (L.sups.filterMap fun s => (L.inis[s.i]?).map fun e => ((s.D, s.C), e.d)).lookup (D, C)
theorem lookup_map {α β γ : Type} [BEq β] [LawfulBEq β] {f : α → β} {g : α → γ} {l : List α} {b : β} {c : γ} (h : (l.map fun e => (f e, g e)).lookup b = some c) : ∃ e ∈ l, f e = b ∧ g e = c := by
  obtain ⟨e, m, z⟩ := List.mem_map.mp (lookup_mem2 h)
  cases z
  exact ⟨e, m, rfl, rfl⟩
section
variable {L : LDat} {P : Program} {w : World} {K : PySem.W.Frag} {mg : Str → Option Value} {base h : Heap} {extra : PySem.W.Frag → Bool}
structure StB (L : LDat) (P : Program) : Prop where
  fn : ∀ e ∈ L.law :: L.fns, scopeB e.c = true ∧ posArgs e.c.ps e.ar = true
  fs : ∀ e ∈ L.fns, ∀ s ∈ e.ss, shpB e.c.ps.length s = true
  mt : ∀ e ∈ L.mets, e.c.on = false ∧ scopeB e.c = true ∧ posArgs e.c.ps e.ar = true ∧ ∀ s ∈ e.ss, shpB e.c.ps.length s = true
  eq : ∀ e ∈ L.eqs, e.c.on = false ∧ scopeB e.c = true ∧ posArgs e.c.ps e.ar = true ∧ e.c.ps.length = 2
  ini : ∀ e ∈ L.inis, 0 < e.d.c.ps.length ∧ (if e.d.b then scopeXB e.d.c && supSB P e.d.c e.ar else !e.d.c.on && scopeB e.d.c) = true
  exc : ∀ e ∈ L.exc, scopeXB e.c = true ∧ supSB P e.c e.ar = true ∧ posArgs e.c.ps e.ar = true ∧ ∃ as p st, excS e.c = some (as, p :: st) ∧ argsIn e.c.ps.length as = true ∧ as.length ≤ 1000 ∧ st.length ≤ 800 ∧ 0 < e.c.ps.length
  lam : ∀ e ∈ L.lam, e.c.on = false ∧ scopeB e.c = true ∧ posArgs e.c.ps e.ar = true ∧ lamS e.c e.C e.f = true
  cls : ∀ p ∈ L.cls, (match p.2 with
    | .b n => decide (bootBuiltins p.1 = some (.type n)) && !decide (p.1 = ("__name__" : Str))
    | .c C => decide (p.1 = C)) = true
theorem all_at {α : Type} {l : List α} {p : α → Bool} (h : l.all p = true) {a : α} (m : a ∈ l) : p a = true := List.all_eq_true.mp h a m
theorem statB_ok (h : L.statB P = true) : StB L P := by
  unfold LDat.statB at h
  obtain ⟨h1, h⟩ := He.ba h
  obtain ⟨h2, h⟩ := He.ba h
  obtain ⟨h3, h⟩ := He.ba h
  obtain ⟨h4, h⟩ := He.ba h
  obtain ⟨h5, h⟩ := He.ba h
  obtain ⟨h6, h⟩ := He.ba h
  obtain ⟨h7, h⟩ := He.ba h
  obtain ⟨h8, h9⟩ := He.ba h
  refine ⟨fun e m => He.ba (all_at h1 m), fun e m s ms => all_at (all_at h2 m) ms, fun e m => ?_, fun e m => ?_, fun e m => ?_, fun e m => ?_, fun e m => ?_, fun p m => all_at h8 m⟩
  · obtain ⟨a1, a⟩ := He.ba (all_at h3 m)
    obtain ⟨a2, a⟩ := He.ba a
    obtain ⟨a3, a4⟩ := He.ba a
    exact ⟨by simpa using a1, a2, a3, fun s ms => all_at a4 ms⟩
  · obtain ⟨a1, a⟩ := He.ba (all_at h4 m)
    obtain ⟨a2, a⟩ := He.ba a
    obtain ⟨a3, a4⟩ := He.ba a
    exact ⟨by simpa using a1, a2, a3, of_decide_eq_true a4⟩
  · obtain ⟨a1, a⟩ := He.ba (all_at h5 m)
    exact ⟨of_decide_eq_true a1, a⟩
  · obtain ⟨a1, a⟩ := He.ba (all_at h6 m)
    obtain ⟨a2, a⟩ := He.ba a
    obtain ⟨a3, a4⟩ := He.ba a
    refine ⟨a1, a2, a3, ?_⟩
    split at a4
    · rename_i as p st e
      obtain ⟨b1, b⟩ := He.ba a4
      obtain ⟨b2, b⟩ := He.ba b
      obtain ⟨b3, b4⟩ := He.ba b
      exact ⟨as, p, st, e, b1, of_decide_eq_true b2, of_decide_eq_true b3, of_decide_eq_true b4⟩
    · cases a4
  · obtain ⟨a1, a⟩ := He.ba (all_at h7 m)
    obtain ⟨a2, a⟩ := He.ba a
    obtain ⟨a3, a4⟩ := He.ba a
    exact ⟨by simpa using a1, a2, a3, a4⟩
structure ExB (L : LDat) (K : PySem.W.Frag) : Prop where
  hd : headB L.hd K = true
  fn : ∀ e ∈ L.law :: L.fns, (He.Fa.glo e.x).ok K = true
  ini : ∀ e ∈ L.inis, (He.Fa.glo e.C).ok K = true ∧ (He.Fa.mkr e.C).ok K = true ∧ (e.d.b = true → (PySem.W.clsIn K (He.ga K e.d.D)).isSome = true) ∧ ∀ s ∈ e.ss, (s.dts.isEmpty = true ∨ repsB1 K s.dts e.dfl = true) ∧ repsB1 K s.mts ((e.lack s).map (·.2)) = true
  mt : ∀ e ∈ L.mets, (He.Fa.cls e.C).ok K = true ∧ (He.Fa.meth e.C e.m).ok K = true
  eq : ∀ e ∈ L.eqs, LDat.exEq K e = true
  cst : ∀ p ∈ L.cst, p.2.ok K p.1 = true
  exc : ∀ e ∈ L.exc, LDat.exExc K e = true
  cls : ∀ p ∈ L.cls, LDat.exCls K p = true
  bl : ∀ x ∈ L.bl, (He.Fa.free x).ok K = true
  sup : (He.Fa.free "super").ok K = true
  st : PySem.W.nsIn K PySem.cStatics "thirdparty.any" = some none
  lam : ∀ e ∈ L.lam, LDat.exLam K e = true
  sups : ∀ s ∈ L.sups, LDat.exSup L K s = true
theorem exB_ok (q : L.exB K = true) : ExB L K := by
  unfold LDat.exB at q
  obtain ⟨q1, q⟩ := He.ba q
  obtain ⟨q2, q⟩ := He.ba q
  obtain ⟨q3, q⟩ := He.ba q
  obtain ⟨q4, q⟩ := He.ba q
  obtain ⟨q5, q⟩ := He.ba q
  obtain ⟨q6, q⟩ := He.ba q
  obtain ⟨q7, q⟩ := He.ba q
  obtain ⟨q8, q⟩ := He.ba q
  obtain ⟨q9, q⟩ := He.ba q
  obtain ⟨q10, q⟩ := He.ba q
  obtain ⟨q11, q⟩ := He.ba q
  obtain ⟨q12, q⟩ := He.ba q
  obtain ⟨_, q14⟩ := He.ba q
  refine ⟨q1, fun e m => all_at q2 m, fun e m => ?_, fun e m => He.ba (all_at q4 m), fun e m => all_at q5 m, fun e m => all_at q6 m, fun e m => all_at q7 m, fun e m => all_at q8 m, fun e m => all_at q9 m, q10, of_decide_eq_true q11, fun e m => all_at q12 m, fun e m => all_at q14 m⟩
  obtain ⟨a1, a⟩ := He.ba (all_at q3 m)
  obtain ⟨a2, a⟩ := He.ba a
  obtain ⟨a3, a4⟩ := He.ba a
  refine ⟨a1, a2, fun hb => ?_, fun s ms => ?_⟩
  · rw [hb] at a3
    simpa using a3
  · obtain ⟨b1, b2⟩ := He.ba (all_at a4 ms)
    exact ⟨by simpa using b1, b2⟩
theorem ps_nodup {c : Cod} (S : FnScope c.N c.ps c.scope) : c.ps.Nodup := by
  rw [← S.pre]
  exact S.nd.sublist (List.take_sublist _ _)
theorem ps_nodupX {c : Cod} (S : FnScopeX c.N c.ps c.scope) : c.ps.Nodup := by
  rw [← S.pre]
  exact S.nd.sublist (List.take_sublist _ _)
theorem fix_nil {G : Gd} : Fix G [] [] := fun ha F => by simp only [Reps]
theorem shpFix_pos {G : Gd} {fd : FuncData} {c : Cod} {s : Shp} (hp : posArgs c.ps fd.params = true) (hd : fd.defaults = .none) (nd : c.ps.Nodup) (hs : shpB c.ps.length s = true) : ShpFix G fd c s := by
  rw [shpB_ok hs]
  exact ⟨[], [], shp_pos hp hd nd rfl, fix_nil, fix_nil, by
    unfold SrcLen
    rw [List.all_eq_true]
    intro x m
    obtain ⟨i, hi, rfl⟩ := List.mem_map.mp m
    exact decide_eq_true (List.mem_range.mp hi), by simp⟩
/-- a def of the list, plain -/
theorem codP_of {d : He.DefD} {c : Cod} (k : Kn L P K mg base h extra) (m : d ∈ L.fn) (hb : d.body = c.body) (hs : d.scope = c.scope) (hS : scopeB c = true) : ∃ fd, CodP (gd K (tabsZ K L.ons)) c (He.fAd K d.at_) fd ∧ fd.params = d.params ∧ DflV K fd.defaults (d.dvs K) ∧ KwdV K fd.kwdefaults (d.kws K) ∧ FunD K d.name d.qual d.params c.body c.scope (d.dvs K) (d.kws K) (He.fAd K d.at_) fd := by
  obtain ⟨fd, F⟩ := k.S.defs d m
  obtain ⟨oc, od, dV, kV, doc, pm, an, cdv, ct, osl, rfl, lk, hcd, hD, hK⟩ := F.ex
  rw [hb, hs] at F
  exact ⟨_, ⟨⟨_, _, _, _, _, F⟩, scopeB_ok hS⟩, rfl, hD, hK, F⟩
theorem cls_ini (k : Kn L P K mg base h extra) (E : ExB L K) (T : StB L P) {e : InE} (m : e ∈ L.inis) : ∃ fd, IniOk (gd K (tabsZ K L.ons)) P mg e.d (He.ma K (He.ga K e.C) "__init__") fd ∧ fd.params = e.ar ∧ DflV K fd.defaults (e.dfl.map (He.Dv.v K)) ∧ KwdV K fd.kwdefaults (e.kwd.map fun q => (q.1, q.2.v K)) := by
  obtain ⟨hl, ht⟩ := T.ini e m
  cases hb : e.d.b with
  | false =>
    rw [hb] at ht
    obtain ⟨t1, t2⟩ := He.ba (show (!e.d.c.on && scopeB e.d.c) = true from ht)
    obtain ⟨fd, C, p, hD, hK, F⟩ := codP_of k (mem_in m hb) rfl rfl t2
    exact ⟨fd, .inl ⟨hb, C⟩, p, hD, hK⟩
  | true =>
    rw [hb] at ht
    obtain ⟨t1, t2⟩ := He.ba (show (scopeXB e.d.c && supSB P e.d.c e.ar) = true from ht)
    obtain ⟨fd, F⟩ := k.S.defx e.dx (mem_inX m hb)
    obtain ⟨oc, od, osl, dV, kV, doc, pm, ct, an, cda, cc, x0, rfl, lk, hcd, hD, hK, S, hc⟩ := supF_of (G := gd K []) (tabs := tabsZ K L.ons) (c := e.d.c) F rfl rfl t2 ((E.ini e m).2.2.1 hb) (He.free_ok k.X k.G E.sup)
    exact ⟨_, .inr ⟨hb, _, _, _, dV, kV, doc, pm, ct, oc, an, od, osl, cc, cda, x0, rfl, lk, hcd, scopeXB_ok t1, S, hc⟩, rfl, hD, hK⟩
theorem shpI_of {fd : FuncData} {e : InE} {s : Shp} {tabs : List (Addr × Str)} (hp : fd.params = e.ar) (hD : DflV K fd.defaults (e.dfl.map (He.Dv.v K))) (hK : KwdV K fd.kwdefaults (e.kwd.map fun q => (q.1, q.2.v K))) (hs : ShpS e s) (h1 : s.dts.isEmpty = true ∨ repsB1 K s.dts e.dfl = true) (h2 : repsB1 K s.mts ((e.lack s).map (·.2)) = true) :
    ShpFixI (gd K tabs) fd e.d.c s := by
  obtain ⟨hh, hl, hn⟩ := hs
  have q := shp_gen (ms := (e.lack s).map fun q => (q.1, q.2.v K)) hD hK (fun q m => by
    obtain ⟨z, hz, rfl⟩ := List.mem_map.mp m
    exact List.mem_map.mpr ⟨z, (List.mem_filter.mp hz).1, rfl⟩) (by
    rw [hp, List.length_map]
    have : ((e.lack s).map fun q => (q.1, q.2.v K)).map (·.1) = (e.lack s).map (·.1) := by rw [List.map_map]; rfl
    rw [this]
    exact hh)
  have e2 : ((e.lack s).map fun q => (q.1, q.2.v K)).map (·.2) = ((e.lack s).map (·.2)).map (He.Dv.v K) := by rw [List.map_map, List.map_map]; rfl
  rw [e2] at q
  refine ⟨_, _, q, fun ha F => ?_, fun ha F => repsB1_ok h2, ?_, hn⟩
  · cases ed : s.dts with
    | nil => simp only [List.isEmpty_nil, Bool.not_true, Bool.false_eq_true, if_false, Reps]
    | cons t ts =>
      rcases h1 with z | z
      · rw [ed] at z; cases z
      · rw [ed] at z
        simp only [List.isEmpty_cons, Bool.not_false, if_true]
        exact repsB1_ok z
  · rw [List.length_map, List.length_map]
    cases ed : (!s.dts.isEmpty) with
    | false => rw [ed] at hl; exact hl
    | true =>
      rw [ed] at hl
      simp only [if_true] at hl ⊢
      rw [List.length_map]
      exact hl
end
end TL
namespace TL
open PySem PySem.Spec PyProof.Rows L2
section
variable {L : LDat} {P : Program} {w : World} {K : PySem.W.Frag} {mg : Str → Option Value} {base h : Heap} {extra : PySem.W.Frag → Bool}
theorem find_lookup {α β γ : Type} [BEq β] [LawfulBEq β] {f : α → β} {g : α → γ} : ∀ {l : List α} {b : β} {c : γ}, (l.map fun e => (f e, g e)).lookup b = some c → ∃ e ∈ l, f e = b ∧ g e = c := fun h => lookup_map h
theorem sup_eval {env : Env} {p0 p1 apos pos : Pos} {e0 : Expr} {es : List Expr} (c3 : (e0 :: es).all noStar = true) (c4 : es.length < 29) (c5 : (apos.endLine == pos.line) = true) : ∃ pl : Sem Bool, eval (.Call (.Attribute (.Call (.Name "super" p0) [] [] p1) "__init__" apos) (e0 :: es) [] pos) env = (do
      let ov ← attributeBase (.Call (.Name "super" p0) [] [] p1) "__init__" env (eval (.Call (.Name "super" p0) [] [] p1) env)
      standAt apos.atName
      let (f, first) ← holding [ov] (getMethod ov "__init__" pl)
      callWith pos f first (backTo pos (starEach (e0 :: es) env)) []) := by
  refine ⟨do return (← importBound (.Call (.Name "super" p0) [] [] p1) env).getD true, ?_⟩
  have hf : methodCallForm ((e0 :: es).length + ([] : List Keyword).length) (backTo pos (starEach (e0 :: es) env)) (backToKw pos (keywordEach [] env)) = true := by
    unfold methodCallForm
    rw [star_all c3]
    show (true && true && decide ((e0 :: es).length + 0 + 0 < 30)) = true
    simp only [List.length_cons, Bool.true_and, decide_eq_true_eq]
    omega
  have e1 : eval (.Call (.Attribute (.Call (.Name "super" p0) [] [] p1) "__init__" apos) (e0 :: es) [] pos) env = (do
      let ov ← attributeBase (.Call (.Name "super" p0) [] [] p1) "__init__" env (eval (.Call (.Name "super" p0) [] [] p1) env)
      standAt apos.atName
      methodCall (.Call (.Name "super" p0) [] [] p1) "__init__" apos pos env ov ((e0 :: es).length + ([] : List Keyword).length) (backTo pos (starEach (e0 :: es) env)) (backToKw pos (keywordEach [] env))) := rfl
  rw [e1]
  unfold methodCall
  rw [hf]
  unfold calleeOf methodCallPos
  simp only [Bool.not_true, Bool.false_or, c5, if_true, pure_bind]
  rfl
/-- an own exception -/
theorem exc_raise {X : Cx} {W : WX} {e : ExE} (k : Kn L P K mg base h extra) (E : ExB L K) (T : StB L P) (m : e ∈ L.exc) (hP : X.prog = P) (hw : X.w = w) (hK : X.K = K) (hm : X.mg = mg) (hb : X.base = base) (hr : Room 5 X.A) (hg : Gl X e.C) (hdb : (e.C == ("__debug__" : Str)) = false) :
    RaiseV X W e.C (He.ga K e.C) (e.c.ps.length - 1) (((excS e.c).map (·.2)).getD []) := by
  subst hP hw hK hm hb
  obtain ⟨t1, t2, t3, as, p, st, eS, ha, hla, hls, hl0⟩ := T.exc e m
  have q := E.exc e m
  unfold LDat.exExc at q
  obtain ⟨q1, q⟩ := He.ba q
  obtain ⟨q2, q⟩ := He.ba q
  obtain ⟨q3, q⟩ := He.ba q
  obtain ⟨q4, q⟩ := He.ba q
  obtain ⟨q5, q⟩ := He.ba q
  obtain ⟨q6, q⟩ := He.ba q
  obtain ⟨q7, q⟩ := He.ba q
  obtain ⟨q8, q9⟩ := He.ba q
  obtain ⟨fd, F⟩ := k.S.defx e.dx (mem_ex m)
  obtain ⟨oc, od, osl, dV, kV, doc, pm, ct, an, cda, cc, x0, rfl, lk, hcd, hD, hKw, S, hc⟩ := supF_of (G := gd X.K []) (tabs := tabsZ X.K L.ons) (c := e.c) F rfl rfl t2 q3 (He.free_ok k.X k.G E.sup)
  have hd := dflV_nil hD
  subst hd
  have hS := scopeXB_ok t1
  have hf : ∀ p ∈ ((excS e.c).map (·.2)).getD [], PySem.W.findIn X.K (.ref (He.ga X.K e.C)) p.1 = some none := fun p hp => of_decide_eq_true (all_at q9 hp)
  rw [eS] at hf ⊢
  have hf : ∀ p' ∈ p :: st, PySem.W.findIn X.K (.ref (He.ga X.K e.C)) p'.1 = some none := hf
  show RaiseV X W e.C (He.ga X.K e.C) (e.c.ps.length - 1) (p :: st)
  have M : SupE X.K (He.ga X.K e.C) (He.ga X.K e.C) := ⟨oexB_ok q2, of_decide_eq_true q4, of_decide_eq_true q5, of_decide_eq_true q6, E.st⟩
  refine raiseV (k := 1) (ps := e.c.ps) (fd := PySem.W.fnX e.dx.name e.dx.qual e.dx.params e.c.body e.c.scope [(("__class__" : Str), cc)] .none kV doc pm an (.ref cda) ct) M.ox (of_decide_eq_true q7) (of_decide_eq_true q8) ?_ (hr.mono (by omega)) ?_ hg (He.glo_ok k.X k.G q1) hdb
  rotate_left
  · exact binds_posX t3 rfl (ps_nodupX hS)
  obtain ⟨f0, i0⟩ := p
  unfold excS at eS
  split at eS
  · rename_i sn p0 p1 mm apos e0 es pos pos' ss hbody
    split at eS
    · rename_i hcnd
      obtain ⟨c1, c2, c3, c4, c5⟩ := hcnd
      have c1 := eq_of_beq c1
      have c2 := eq_of_beq c2
      subst c1 c2
      split at eS
      · rename_i as' st' h1 h2
        cases eS
        cases ss with
        | nil => simp [storesE] at h2
        | cons s1 ss =>
          refine exc_tl (k := 0) (as := as) lk hcd hS S.cell M (by omega) hbody hls (fun vs hvl => ?_) fun A outer s H E' hr' => ?_
          · obtain ⟨ws, e1, e2⟩ := argsV_in (N := e.c.N) (vs := vs) (as := as) (by rw [hvl, Nat.sub_add_cancel hl0]; exact ha)
            exact ⟨ws, e1, by omega⟩
          · have ft : (cxOfX X.prog X.w X.K X.mg X.base e.c.N e.dx.qual e.c.scope (He.fAd X.K e.dx.at_) (.ref cda) cc A outer s H E').N = e.c.N ∧ (cxOfX X.prog X.w X.K X.mg X.base e.c.N e.dx.qual e.c.scope (He.fAd X.K e.dx.at_) (.ref cda) cc A outer s H E').env.scope.names = e.c.scope.names := ⟨rfl, rfl⟩
            refine ⟨?_, stores_ok ft h2 hf⟩
            have hall : noStar e0 = true ∧ es.all noStar = true := by
              rw [List.all_cons, Bool.and_eq_true] at c3
              exact c3
            have Z := supZ_cx (w := X.w) (base := X.base) (qual := e.dx.qual) (A := A) (outer := outer) (s := s) (H := H) (E := E') S hc
            rw [hbody]
            exact supE_stmt Z (pa_args (fun x mx rest => star_cons (all_at c3 mx) rest) (paired_args ft h1)) (star_cons hall.1 es) (star_any hall.2) (sup_eval c3 (by omega) c5) rfl
      · cases eS
    · cases eS
  · cases eS
theorem lam_ok {X : Cx} {e : LmE} (k : Kn L P K mg base h extra) (E : ExB L K) (T : StB L P) (m : e ∈ L.lam) (hK : X.K = K) (hm : X.mg = mg) : LamOk (gd K (tabsZ K L.ons)) X e.x e.C e.f := by
  subst hK hm
  obtain ⟨t1, t2, t3, t4⟩ := T.lam e m
  have q := E.lam e m
  unfold LDat.exLam at q
  obtain ⟨q1, q⟩ := He.ba q
  obtain ⟨q2, q⟩ := He.ba q
  obtain ⟨q3, q⟩ := He.ba q
  obtain ⟨q4, q5⟩ := He.ba q
  obtain ⟨fd, F⟩ := k.S.defs e.d (mem_lm m)
  obtain ⟨oc, od, dV, kV, doc, pm, an, cdv, ct, osl, rfl, lk, hcd, hD, hKw⟩ := F.ex
  have hd := dflV_nil hD
  subst hd
  have hS := scopeB_ok t2
  unfold lamS at t4
  split at t4
  · rename_i a a2 p1 p2 p3 C2 p4 n n2 p5 f2 p6 p7 p8 p9 j p10 p11 hps hbody
    obtain ⟨u1, u⟩ := He.ba t4
    obtain ⟨u2, u⟩ := He.ba u
    obtain ⟨u3, u⟩ := He.ba u
    obtain ⟨u4, u⟩ := He.ba u
    obtain ⟨u5, u6⟩ := He.ba u
    obtain ⟨v1, v2, v3, v4, v5, v6, v7⟩ := of_decide_eq_true u1
    subst v1 v3 v4
    obtain ⟨d1, d2, _⟩ := okName_d u4
    obtain ⟨d3, d4, _⟩ := okName_d u5
    obtain ⟨d5, d6, _⟩ := okName_d u6
    obtain ⟨i, hi⟩ := Option.isSome_iff_exists.mp u2
    rw [hps] at t3 hS
    have hbody : e.d.body = _ := hbody
    rw [hbody] at lk
    refine ⟨a2, He.fAd X.K e.d.at_, e.d.params, _, e.c.scope, .none, kV, doc, pm, cdv, ct, oc, an, od, osl, e.c.N, He.glo_ok k.X k.G q1, F.kp, lk, hcd, binds_posX t3 rfl (by simp), hS, v5, visB_ok rfl u3, fun q => ?_, d1, d2, of_decide_eq_true q5⟩
    subst v2
    exact ref_gives v6 (He.glo_ok k.X k.G q2) d5 (fun u => by
      unfold L2.start
      rfl) hS.nd (ixOf_get hi) v7 d3 d4 (xfB_ok q3) (of_decide_eq_true q4)
  · cases t4
theorem base_ok (k : Kn L P K mg base h extra) (E : ExB L K) (T : StB L P) : TabAll (gd K (tabsZ K L.ons)) P w mg base 0 L.base := fun X W hP hw hK hm hb hr tk => by
  have hP' := hP
  have hK' : X.K = K := hK
  refine ⟨fun x t e => ?_, fun x n F e => (by cases e), fun x ks n F e => (by cases e), fun nm n C n' F e => (by cases e), fun f => head_fld E.hd f, head_isi E.hd, head_eqt E.hd, fun C n st e hg hdb => ?_, fun x c e => ?_, fun x e => ?_, fun x C f e => ?_⟩
  · obtain ⟨c, m, rfl, rfl⟩ := lookup_map (show (L.cst.map fun p => (p.1, p.2.t)).lookup x = some t from e)
    obtain ⟨u, v, a1, a2, a3⟩ := cst_ok (tabs := tabsZ K L.ons) k.X k.G (E.cst _ m)
    exact ⟨u, v, by rw [hm]; exact a1, a2, a3⟩
  · obtain ⟨ee, m, rfl, e2⟩ := lookup_map (show (L.exc.map fun e => (e.C, (e.c.ps.length - 1, ((excS e.c).map (·.2)).getD []))).lookup C = some (n, st) from e)
    cases e2
    exact exc_raise k E T m hP hw hK' hm hb (hr.mono (by omega)) hg hdb
  · have m := lookup_mem2 (show L.cls.lookup x = some c from e)
    have a1 := T.cls _ m
    have a2 := E.cls _ m
    unfold LDat.exCls at a2
    cases c with
    | b n =>
      obtain ⟨b1, b2⟩ := He.ba a1
      have : clVal (gd K (tabsZ K L.ons)) (.b n) = .ty n := rfl
      exact ⟨.type n, rfl, .inr ⟨by rw [hm]; exact He.free_ok k.X k.G a2, of_decide_eq_true b1, by simpa using b2⟩⟩
    | c C =>
      have b1 : x = C := of_decide_eq_true a1
      subst b1
      exact ⟨.ref (He.ga K x), rfl, .inl (by rw [hm]; exact He.glo_ok k.X k.G a2)⟩
  · rw [hm]
    have m : x ∈ L.bl := by simpa using (show L.bl.contains x = true from e)
    exact He.free_ok k.X k.G (E.bl _ m)
  · obtain ⟨ee, m, rfl, e2⟩ := lookup_map (show (L.lam.map fun e => (e.x, (e.C, e.f))).lookup x = some (C, f) from e)
    cases e2
    exact lam_ok k E T m hK' hm
end
end TL
namespace TL
open PySem PySem.Spec PyProof.Rows L2
section
variable {L : LDat} {P : Program} {w : World} {K : PySem.W.Frag} {mg : Str → Option Value} {base h : Heap} {extra : PySem.W.Frag → Bool}
theorem link_ok (k : Kn L P K mg base h extra) (S : ShpsOk L) : LinkOk (gd K (tabsZ K L.ons)) P w mg base L.pr := by
  have E := exB_ok k.ex
  have T := statB_ok k.st
  refine ⟨base_ok k E T, fun nm n C => rfl, fun C => rfl, fun x c ss e => ?_, fun C d ss e => ?_, fun C nm c ss e => ?_, fun C c e => ?_, fun D C d e => ?_⟩
  · obtain ⟨ee, m, rfl, e2⟩ := lookup_map (show (L.fns.map fun e => (e.x, (e.c, e.ss))).lookup x = some (c, ss) from e)
    cases e2
    have m' : ee ∈ L.law :: L.fns := List.mem_cons_of_mem _ m
    obtain ⟨fd, C, h1, h2, h3, h4, h5, _⟩ := codOk_fn k m'
    refine ⟨_, fd, He.glo_ok k.X k.G (E.fn ee m'), h3, C, fun s ms => ?_⟩
    rw [← h1] at h5
    exact shpFix_pos h5 h2 (ps_nodup (scopeB_ok h4)) (T.fs ee m s ms)
  · obtain ⟨ee, m, rfl, e2⟩ := lookup_map (show (L.inis.map fun e => (e.C, (e.d, e.ss))).lookup C = some (d, ss) from e)
    cases e2
    obtain ⟨q1, q2, _, q4⟩ := E.ini ee m
    obtain ⟨fd, I, h1, h2, h3⟩ := cls_ini k E T m
    have M := He.mkr_ok q2
    exact ⟨_, fd, He.glo_ok k.X k.G q1, M.kp, M, I, fun s ms => shpI_of h1 h2 h3 (S.ini ee m s ms) (q4 s ms).1 (q4 s ms).2⟩
  · obtain ⟨ee, m, e1, e2⟩ := lookup_map (show (L.mets.map fun e => ((e.C, e.m), (e.c, e.ss))).lookup (C, nm) = some (c, ss) from e)
    cases e1
    cases e2
    obtain ⟨q1, q2⟩ := E.mt ee m
    obtain ⟨t1, t2, t3, t4⟩ := T.mt ee m
    obtain ⟨fd, C, h1, h2, h3, F⟩ := codP_of k (mem_mt m) rfl rfl t2
    refine ⟨He.cls_ok q1, _, fd, He.meth_ok q2, .inl ⟨t1, C⟩, fun s ms => ?_⟩
    have h2 := dflV_nil h2
    exact shpFix_pos (by rw [h1]; exact t3) h2 (ps_nodup (scopeB_ok t2)) (t4 s ms)
  · obtain ⟨ee, m, rfl, rfl⟩ := lookup_map (show (L.eqs.map fun e => (e.C, e.c)).lookup C = some c from e)
    have q := E.eq ee m
    unfold LDat.exEq at q
    obtain ⟨q1, q⟩ := He.ba q
    obtain ⟨q2, q⟩ := He.ba q
    obtain ⟨q3, q⟩ := He.ba q
    obtain ⟨q4, q5⟩ := He.ba q
    obtain ⟨t1, t2, t3, t4⟩ := T.eq ee m
    obtain ⟨fd, C, h1, h2, h3, F⟩ := codP_of k (mem_eq m) rfl rfl t2
    have h2 := dflV_nil h2
    have em : ee.m = ("__eq__" : Str) := of_decide_eq_true q1
    have ea : He.fAd K ee.d.at_ = He.ma K (He.ga K ee.C) "__eq__" := by
      show He.ma K (He.ga K ee.C) ee.m = _
      rw [em]
    rw [ea] at C
    exact ⟨_, fd, ⟨⟨of_decide_eq_true q2, q3⟩, of_decide_eq_true q4, of_decide_eq_true q5⟩, .inl ⟨t1, C⟩, t4, binds_posX (by rw [h1]; exact t3) h2 (ps_nodup (scopeB_ok t2))⟩
  · have m0 := lookup_mem2 (show (L.sups.filterMap fun s => (L.inis[s.i]?).map fun e => ((s.D, s.C), e.d)).lookup (D, C) = some d from e)
    obtain ⟨s, ms, es⟩ := List.mem_filterMap.mp m0
    obtain ⟨ee, e1, e2⟩ := Option.map_eq_some_iff.mp es
    cases e2
    have m : ee ∈ L.inis := List.mem_of_getElem? e1
    have q := E.sups s ms
    unfold LDat.exSup at q
    rw [e1] at q
    have q : supB K s.D s.C ee.C = true := q
    unfold supB at q
    obtain ⟨q1, q⟩ := He.ba q
    obtain ⟨q2, q⟩ := He.ba q
    obtain ⟨q3, q4⟩ := He.ba q
    obtain ⟨fd, I, h1, h2, h3⟩ := cls_ini k E T m
    have hS := S.sup s ms ee e1
    rw [← h1] at hS
    have hb := shp_gen (ms := []) h2 h3 (fun q m => by cases m) (by rw [List.length_map]; exact hS)
    exact ⟨_, fd, ⟨of_decide_eq_true q1, of_decide_eq_true q2, of_decide_eq_true q3, q4, E.st⟩, I, binds_full hb, (T.ini ee m).1⟩
end
end TL
namespace TL
open PySem PySem.Spec PyProof.Rows L2
section
variable {G : Gd} {P : Program} {w : World} {mg : Str → Option Value} {base : Heap} {k : Nat} {B : Tab} {f : Addr} {fd : FuncData}
theorem law_cod (hA : TabAll G P w mg base k B) {c : Cod} {s1 : Stmt} {rest : List Stmt} {i : Nat} {x : Str} (hb : c.body = s1 :: rest) (hps : c.ps = [x]) (C : CodOk G mg base c f fd) :
    FnOk P w G.K mg base (L2.CX P w) (k + 8) f fd [x] (spLaw G (LawT (evS B c.N c.on FU c.scope.names s1) (evBlk (evS B c.N c.on FU c.scope.names) rest) c.N.length i)) := by
  rw [← hps]
  rcases C with ⟨hon, ⟨y, qual, params, dvs, kws, F⟩, S⟩ | ⟨name, qual, params, dV, kV, doc, pm, ct, oc, an, od, osl, cda, pt, rfl, lk, hcd, S, LD⟩
  · have hpl : c.ps.length ≤ c.N.length := by have := congrArg List.length S.pre; rw [List.length_take] at this; omega
    rw [hps] at hpl
    refine F.ok (k := k + 7) S (fun vs H Q E h => ?_) fun cdv A outer s H vs Q E hr h => ?_
    · obtain ⟨a, ns, rfl, _⟩ := h
      rw [hps]
      rfl
    · obtain ⟨a, ns, rfl, tb, hq, hQ, pl⟩ := h
      have hl : LamCtx G (cxOf (L2.CX P w) P w G.K mg base c.N qual c.scope f cdv A outer s H E) k c.on := by rw [hon]; exact LamCtx.off
      have hs := fun st => evS_ok hA (fit_cx S (hr.mono (show k + 5 ≤ k + 7 by omega))) wfit_cx ⟨rfl, rfl, rfl, rfl⟩ (takes_of (X := cxOf (L2.CX P w) P w G.K mg base c.N qual c.scope f cdv A outer s H E) (E := E) rfl rfl rfl rfl) (passes_of rfl) hl FU st
      rw [hb]
      exact law_body (hs s1) (jss_of fun st _ => hs st) tb hq hQ pl (by simpa using hpl)
  · exact law_okL hA hb hps lk hcd S LD
end
theorem log_bits {z : Int} (h : Builtin.Int.intBits z ≤ 1048576) : z.natAbs.log2 ≤ 1048576 := by
  unfold Builtin.Int.intBits at h
  split at h
  · rename_i e
    have := eq_of_beq e
    subst this
    decide
  · omega
theorem lawAt_of {l : PySem.W.OpenLaw} {w : World} {K : PySem.W.Frag} {mg : Str → Option Value} {fa : Addr} {h : Heap} {n m i : Nat} {L : LDat} {x : Str} {s1 : Stmt} {rest : List Stmt} (X : K.In h) (Gn : h.Ns mainGlobals mg)
    (S : SaysZ L.fn L.fx L.tf L.exB l.prog.main.file h K) (st : L.statB l.prog = true) (Sh : ShpsOk L) (hps : L.law.c.ps = [x]) (hb : L.law.c.body = s1 :: rest) (hmg : mg L.law.x = some (.ref fa))
    (law : ∀ ns : List Int, ns.length ≤ n → (∀ z ∈ ns, z.natAbs.log2 ≤ 1048576) → LawT (evS (tabX L.pr m).t L.law.c.N L.law.c.on FU L.law.c.scope.names s1) (evBlk (evS (tabX L.pr m).t L.law.c.N L.law.c.on FU L.law.c.scope.names) rest) L.law.c.N.length i ns) :
    LamX.LawAtS l w K (L2.CX l.prog w) (8 * m + 8) n x mg fa h := by
  have S' : SaysZ L.fn L.fx L.tf (fun K => L.exB K && (fun _ => true) K) l.prog.main.file h K := ⟨S.defs, S.defx, by
    show (L.exB K && true) = true
    rw [Bool.and_true]
    exact S.more, S.hd, S.out, S.empty⟩
  have E := exB_ok S.more
  have T := statB_ok st
  have m0 : L.law ∈ L.law :: L.fns := List.mem_cons_self
  have efa : He.fAd K (L.law.x, none) = fa := by
    have e := He.glo_ok X Gn (E.fn _ m0)
    rw [hmg] at e
    cases e
    rfl
  have kn : ∀ base : Heap, (∀ p ∈ L.tf, LamX.TabB base mg (He.cT K p).1 (He.cT K p).2) → Kn L l.prog K mg base h (fun _ => true) := fun base hT => ⟨X, Gn, S', st, hT⟩
  obtain ⟨fd, F⟩ := S.defs L.law.d (mem_fn m0)
  obtain ⟨oc, od, dV, kV, doc, pm, an, cdv, ct, osl, rfl, lk, hcd, hD, hK⟩ := F.ex
  have dv := dflV_nil hD
  subst dv
  obtain ⟨t1, t2⟩ := T.fn _ m0
  refine ⟨PySem.W.fnOf L.law.d.name L.law.d.qual L.law.d.params L.law.d.body L.law.d.scope .none kV doc pm an cdv ct, L.tf.map (He.cT K), spLaw (gd K (tabsZ K L.ons)) (fun ns => ns.length ≤ n ∧ ∀ z ∈ ns, z.natAbs.log2 ≤ 1048576), fun p hp => ?_, fun p hp => ?_, fun p hp => ?_, fun s u => ?_, fun H a ns hl hbits hT hS => ?_, fun base KB NB hT => ?_⟩
  · obtain ⟨q, hq, rfl⟩ := List.mem_map.mp hp
    exact S.empty q hq
  · obtain ⟨q, hq, rfl⟩ := List.mem_map.mp hp
    exact S.out q hq
  · obtain ⟨q, hq, rfl⟩ := List.mem_map.mp hp
    exact PySem.W.codeHd_of_K X (S.hd q hq)
  · exact .of_eq (by
      have := bind_pos (fd := PySem.W.fnOf L.law.d.name L.law.d.qual L.law.d.params L.law.d.body L.law.d.scope .none kV doc pm an cdv ct) (ps := [x]) (us := [u]) (by rw [← hps]; exact t2) rfl (by simp) rfl
      exact this)
  · refine ⟨a, ns, rfl, fun p hp => ?_, hS, fun _ => rfl, hl, fun z hz => log_bits (hbits z hz)⟩
    obtain ⟨y, hy, rfl⟩ := List.mem_map.mp hp
    exact ⟨#[], hT _ (List.mem_map.mpr ⟨(y, none), List.mem_map.mpr ⟨y, hy, rfl⟩, rfl⟩), by simp [TriplesOk], fun pos cv hc => by simp [codeAmong] at hc⟩
  · have k := kn base fun p hp => hT _ (List.mem_map.mpr ⟨p, hp, rfl⟩)
    have LK := link_ok (w := w) k Sh
    obtain ⟨fd', C, _, _, _, _, _, oc', od', osl', lk'⟩ := codOk_fn k m0
    have ef : fd' = PySem.W.fnOf L.law.d.name L.law.d.qual L.law.d.params L.law.d.body L.law.d.scope .none kV doc pm an cdv ct := by
      have := lk'.symm.trans lk
      cases this
      rfl
    rw [efa, ef] at C
    have hf := law_cod (i := i) (tab_all LK m).1 hb hps C
    refine ⟨fun vs H Q E' hsp => ?_, fun A outer s H args us vs Q E' hr e0 hbnd r hsp => hf.run A outer s H args us vs Q E' hr e0 hbnd r ?_⟩
    · obtain ⟨a, ns, rfl, _⟩ := hsp
      rfl
    · obtain ⟨a, ns, e1, e2, e3, e4, e5⟩ := hsp
      exact ⟨a, ns, e1, e2, e3, e4, law ns e5.1 e5.2⟩
end TL
namespace TL
open PySem PySem.Spec PyProof.Rows L2
namespace K53
def fnsE : List FnE := [⟨"is_whole", c_is_whole, defArgs (top 8), [pos_ 3]⟩,
  ⟨"is_row", c_is_row, defArgs (top 9), [pos_ 1]⟩,
  ⟨"are_cells", c_are_cells, defArgs (top 10), [pos_ 3]⟩,
  ⟨"is_lot", c_is_lot, defArgs (top 11), [pos_ 3]⟩,
  ⟨"neighbour_rows", c_neighbour_rows, defArgs (top 12), [pos_ 2]⟩,
  ⟨"hangs_together", c_hangs_together, defArgs (top 13), [pos_ 2]⟩,
  ⟨"are_unlike_words", c_are_unlike_words, defArgs (top 21), [pos_ 3]⟩,
  ⟨"_law_mix", c__law_mix, defArgs (top 26), [pos_ 2]⟩,
  ⟨"_law_hand", c__law_hand, defArgs (top 27), [pos_ 1]⟩,
  ⟨"_law_draw", c__law_draw, defArgs (top 28), [pos_ 2]⟩,
  ⟨"_law_pick", c__law_pick, defArgs (top 29), [pos_ 2]⟩,
  ⟨"_law_lots", c__law_lots, defArgs (top 30), [pos_ 1]⟩,
  ⟨"_law_land", c__law_land, defArgs (top 31), [pos_ 2]⟩,
  ⟨"_law_some", c__law_some, defArgs (top 32), [pos_ 2]⟩,
  ⟨"_law_ground", c__law_ground, defArgs (top 33), [pos_ 1]⟩,
  ⟨"_law_counts", c__law_counts, defArgs (top 34), [pos_ 1]⟩,
  ⟨"_law_sorts", c__law_sorts, defArgs (top 35), [pos_ 2]⟩,
  ⟨"_law_wish", c__law_wish, defArgs (top 36), [pos_ 3]⟩,
  ⟨"_law_made_wish", c__law_made_wish, defArgs (top 37), [pos_ 2]⟩,
  ⟨"_law_things", c__law_things, defArgs (top 38), [pos_ 1]⟩,
  ⟨"_law_menu", c__law_menu, defArgs (top 40), [pos_ 2]⟩,
  ⟨"_law_wrong_land_wish", c__law_wrong_land_wish, defArgs (top 41), [pos_ 2]⟩,
  ⟨"_law_wrong_every_wish", c__law_wrong_every_wish, defArgs (top 42), [pos_ 2]⟩,
  ⟨"_law_bare", c__law_bare, defArgs (top 43), [pos_ 2]⟩,
  ⟨"_law_same_counts", c__law_same_counts, defArgs (top 44), [pos_ 2]⟩,
  ⟨"_law_has", c__law_has, defArgs (top 45), [pos_ 2]⟩,
  ⟨"_law_unlike", c__law_unlike, defArgs (top 46), [pos_ 2]⟩]
def ssOf (C : Str) : List Shp := match clsL.lookup C with
  | some p => p.2
  | none => []
def inisE : List InE := [⟨"Land", "Land.__init__", d_Land, defArgs (mem 14 0), ssOf "Land", [], []⟩,
  ⟨"Counted", "Counted.__init__", d_Counted, defArgs (mem 16 0), ssOf "Counted", [.bl true, .bl true, .bl false], []⟩,
  ⟨"Wish", "Wish.__init__", d_Wish, defArgs (mem 22 0), ssOf "Wish", [.non], []⟩,
  ⟨"LandWish", "LandWish.__init__", d_LandWish, defArgs (mem 23 0), ssOf "LandWish", [.non], [("bars", .adr (kwdAt ("LandWish", some "__init__") "bars"))]⟩,
  ⟨"EveryLandWish", "EveryLandWish.__init__", d_EveryLandWish, defArgs (mem 24 0), ssOf "EveryLandWish", [.non], []⟩]
def metsE : List MtE := [⟨"Wish", "things", "Wish.things", c_Wish_things, defArgs (mem 22 2), [pos_ 1]⟩,
  ⟨"LandWish", "things", "LandWish.things", c_LandWish_things, defArgs (mem 23 2), [pos_ 1]⟩,
  ⟨"EveryLandWish", "things", "EveryLandWish.things", c_EveryLandWish_things, defArgs (mem 24 2), [pos_ 1]⟩]
def eqsE : List MtE := [⟨"Land", "__eq__", "Land.__eq__", c_Land___eq__, defArgs (mem 14 1), []⟩,
  ⟨"Counted", "__eq__", "Counted.__eq__", c_Counted___eq__, defArgs (mem 16 1), []⟩,
  ⟨"Wish", "__eq__", "Wish.__eq__", c_Wish___eq__, defArgs (mem 22 1), []⟩,
  ⟨"LandWish", "__eq__", "LandWish.__eq__", c_LandWish___eq__, defArgs (mem 23 1), []⟩,
  ⟨"EveryLandWish", "__eq__", "EveryLandWish.__eq__", c_EveryLandWish___eq__, defArgs (mem 24 1), []⟩]
def supsE : List SuE := [⟨"LandWish", "LandWish", 2⟩, ⟨"EveryLandWish", "EveryLandWish", 2⟩]
def cstE : List (Str × CsE) := [("MOST_CELLS", .int 5), ("WIDEST", .int 3), ("BARS", .tup [.str "double", .str "needed"]), ("SORTS", .tup [.str "far", .str "loose", .str "bound"])]
def excE : List ExE := [⟨"BadLand", "BadLand.__init__", c_BadLand___init__, defArgs (mem 3 0)⟩,
  ⟨"BadCounted", "BadCounted.__init__", c_BadCounted___init__, defArgs (mem 4 0)⟩,
  ⟨"BadWish", "BadWish.__init__", c_BadWish___init__, defArgs (mem 5 0)⟩]
def lamE : List LmE := [⟨"_law_refused", c__law_refused, defArgs (top 39), "BadWish", "what"⟩]
def L53 : LDat := ⟨P53.main.file, fnsE, inisE, metsE, eqsE, supsE, dat, cstE, excE, clssL, blL, lamE, ⟨"law", c_law, defArgs (top 47), []⟩⟩
theorem st53 : L53.statB P53 = true := by kernel_rfl
theorem pr53 : L53.pr = Pr53 := by kernel_rfl
end K53
end TL
namespace TL
open PySem PySem.Spec PyProof.Rows L2
namespace K53
theorem len1 {α : Type} {l : List α} (h : l.length = 1) : ∃ a, l = [a] := by
  match l, h with
  | [a], _ => exact ⟨a, rfl⟩
theorem len2 {α : Type} {l : List α} (h : l.length = 2) : ∃ a b, l = [a, b] := by
  match l, h with
  | [a, b], _ => exact ⟨a, b, rfl⟩
theorem len3 {α : Type} {l : List α} (h : l.length = 3) : ∃ a b c, l = [a, b, c] := by
  match l, h with
  | [a, b, c], _ => exact ⟨a, b, c, rfl⟩
theorem len4 {α : Type} {l : List α} (h : l.length = 4) : ∃ a b c d, l = [a, b, c, d] := by
  match l, h with
  | [a, b, c, d], _ => exact ⟨a, b, c, d, rfl⟩
theorem len0 {α : Type} {l : List α} (h : l.length = 0) : l = [] := List.length_eq_zero_iff.mp h
def ie_ (k : Nat) : InE := inisE.getD k ⟨"", "", d_Land, defArgs (mem 14 0), [], [], []⟩
theorem sh_0_0 : ShpS (ie_ 0) ((ie_ 0).ss.getD 0 (pos_ 0)) := by
  refine ⟨.inl ⟨rfl, fun q D kV us mv ws l1 l2 l3 hk => ?_⟩, by kernel_rfl, by kernel_rfl⟩
  obtain ⟨u0, u1, u2, u3, rfl⟩ := len4 l1
  obtain rfl := len0 l2
  obtain rfl := len0 l3
  rfl
theorem sh_1_0 : ShpS (ie_ 1) ((ie_ 1).ss.getD 0 (pos_ 0)) := by
  refine ⟨.inr ⟨by decide +kernel, fun q T D kV us its mv ws l1 l4 l2 l3 hk => ?_⟩, by kernel_rfl, by kernel_rfl⟩
  obtain ⟨u0, rfl⟩ := len1 l1
  obtain ⟨d0, d1, d2, rfl⟩ := len3 l4
  obtain rfl := len0 l2
  obtain rfl := len0 l3
  exact ⟨_, rfl, rfl⟩
theorem sh_1_1 : ShpS (ie_ 1) ((ie_ 1).ss.getD 1 (pos_ 0)) := by
  refine ⟨.inr ⟨by decide +kernel, fun q T D kV us its mv ws l1 l4 l2 l3 hk => ?_⟩, by kernel_rfl, by kernel_rfl⟩
  obtain ⟨u0, u1, rfl⟩ := len2 l1
  obtain ⟨d0, d1, d2, rfl⟩ := len3 l4
  obtain rfl := len0 l2
  obtain ⟨z0, z1, rfl⟩ := len2 l3
  exact ⟨_, rfl, rfl⟩
theorem sh_2_0 : ShpS (ie_ 2) ((ie_ 2).ss.getD 0 (pos_ 0)) := by
  refine ⟨.inr ⟨by decide +kernel, fun q T D kV us its mv ws l1 l4 l2 l3 hk => ?_⟩, by kernel_rfl, by kernel_rfl⟩
  obtain ⟨u0, rfl⟩ := len1 l1
  obtain ⟨d0, rfl⟩ := len1 l4
  obtain rfl := len0 l2
  obtain rfl := len0 l3
  exact ⟨_, rfl, rfl⟩
theorem sh_2_1 : ShpS (ie_ 2) ((ie_ 2).ss.getD 1 (pos_ 0)) := by
  refine ⟨.inr ⟨by decide +kernel, fun q T D kV us its mv ws l1 l4 l2 l3 hk => ?_⟩, by kernel_rfl, by kernel_rfl⟩
  obtain ⟨u0, u1, rfl⟩ := len2 l1
  obtain ⟨d0, rfl⟩ := len1 l4
  obtain rfl := len0 l2
  obtain rfl := len0 l3
  exact ⟨_, rfl, rfl⟩
theorem sh_3_0 : ShpS (ie_ 3) ((ie_ 3).ss.getD 0 (pos_ 0)) := by
  refine ⟨.inr ⟨by decide +kernel, fun q T D kV us its mv ws l1 l4 l2 l3 hk => ?_⟩, by kernel_rfl, by kernel_rfl⟩
  obtain ⟨u0, u1, u2, rfl⟩ := len3 l1
  obtain ⟨d0, rfl⟩ := len1 l4
  obtain ⟨m0, rfl⟩ := len1 l2
  obtain rfl := len0 l3
  obtain rfl := hk (by decide +kernel)
  exact ⟨_, rfl, _, _, _, _, _, _, rfl, rfl, rfl⟩
theorem sh_3_1 : ShpS (ie_ 3) ((ie_ 3).ss.getD 1 (pos_ 0)) := by
  refine ⟨.inr ⟨by decide +kernel, fun q T D kV us its mv ws l1 l4 l2 l3 hk => ?_⟩, by kernel_rfl, by kernel_rfl⟩
  obtain ⟨u0, u1, u2, u3, rfl⟩ := len4 l1
  obtain ⟨d0, rfl⟩ := len1 l4
  obtain ⟨m0, rfl⟩ := len1 l2
  obtain rfl := len0 l3
  obtain rfl := hk (by decide +kernel)
  exact ⟨_, rfl, _, _, _, _, _, _, rfl, rfl, rfl⟩
theorem sh_3_2 : ShpS (ie_ 3) ((ie_ 3).ss.getD 2 (pos_ 0)) := by
  refine ⟨.inr ⟨by decide +kernel, fun q T D kV us its mv ws l1 l4 l2 l3 hk => ?_⟩, by kernel_rfl, by kernel_rfl⟩
  obtain ⟨u0, u1, u2, rfl⟩ := len3 l1
  obtain ⟨d0, rfl⟩ := len1 l4
  obtain rfl := len0 l2
  obtain ⟨z0, z1, rfl⟩ := len2 l3
  exact ⟨_, rfl, rfl⟩
theorem sh_3_3 : ShpS (ie_ 3) ((ie_ 3).ss.getD 3 (pos_ 0)) := by
  refine ⟨.inr ⟨by decide +kernel, fun q T D kV us its mv ws l1 l4 l2 l3 hk => ?_⟩, by kernel_rfl, by kernel_rfl⟩
  obtain ⟨u0, u1, u2, u3, rfl⟩ := len4 l1
  obtain ⟨d0, rfl⟩ := len1 l4
  obtain rfl := len0 l2
  obtain ⟨z0, rfl⟩ := len1 l3
  exact ⟨_, rfl, rfl⟩
theorem sh_3_4 : ShpS (ie_ 3) ((ie_ 3).ss.getD 4 (pos_ 0)) := by
  refine ⟨.inr ⟨by decide +kernel, fun q T D kV us its mv ws l1 l4 l2 l3 hk => ?_⟩, by kernel_rfl, by kernel_rfl⟩
  obtain ⟨u0, u1, u2, rfl⟩ := len3 l1
  obtain ⟨d0, rfl⟩ := len1 l4
  obtain rfl := len0 l2
  obtain ⟨z0, rfl⟩ := len1 l3
  exact ⟨_, rfl, rfl⟩
theorem sh_4_0 : ShpS (ie_ 4) ((ie_ 4).ss.getD 0 (pos_ 0)) := by
  refine ⟨.inr ⟨by decide +kernel, fun q T D kV us its mv ws l1 l4 l2 l3 hk => ?_⟩, by kernel_rfl, by kernel_rfl⟩
  obtain ⟨u0, u1, rfl⟩ := len2 l1
  obtain ⟨d0, rfl⟩ := len1 l4
  obtain rfl := len0 l2
  obtain rfl := len0 l3
  exact ⟨_, rfl, rfl⟩
theorem sh_4_1 : ShpS (ie_ 4) ((ie_ 4).ss.getD 1 (pos_ 0)) := by
  refine ⟨.inr ⟨by decide +kernel, fun q T D kV us its mv ws l1 l4 l2 l3 hk => ?_⟩, by kernel_rfl, by kernel_rfl⟩
  obtain ⟨u0, u1, u2, rfl⟩ := len3 l1
  obtain ⟨d0, rfl⟩ := len1 l4
  obtain rfl := len0 l2
  obtain rfl := len0 l3
  exact ⟨_, rfl, rfl⟩
theorem shps53 : ShpsOk L53 := by
  refine ⟨fun e he => ?_, fun s hs e he => ?_⟩
  · have he : e ∈ [ie_ 0, ie_ 1, ie_ 2, ie_ 3, ie_ 4] := he
    rcases List.mem_cons.mp he with rfl | he
    · intro s hs
      have hs : s ∈ [(ie_ 0).ss.getD 0 (pos_ 0)] := hs
      rcases List.mem_cons.mp hs with rfl | hs
      · exact sh_0_0
      cases hs
    rcases List.mem_cons.mp he with rfl | he
    · intro s hs
      have hs : s ∈ [(ie_ 1).ss.getD 0 (pos_ 0), (ie_ 1).ss.getD 1 (pos_ 0)] := hs
      rcases List.mem_cons.mp hs with rfl | hs
      · exact sh_1_0
      rcases List.mem_cons.mp hs with rfl | hs
      · exact sh_1_1
      cases hs
    rcases List.mem_cons.mp he with rfl | he
    · intro s hs
      have hs : s ∈ [(ie_ 2).ss.getD 0 (pos_ 0), (ie_ 2).ss.getD 1 (pos_ 0)] := hs
      rcases List.mem_cons.mp hs with rfl | hs
      · exact sh_2_0
      rcases List.mem_cons.mp hs with rfl | hs
      · exact sh_2_1
      cases hs
    rcases List.mem_cons.mp he with rfl | he
    · intro s hs
      have hs : s ∈ [(ie_ 3).ss.getD 0 (pos_ 0), (ie_ 3).ss.getD 1 (pos_ 0), (ie_ 3).ss.getD 2 (pos_ 0), (ie_ 3).ss.getD 3 (pos_ 0), (ie_ 3).ss.getD 4 (pos_ 0)] := hs
      rcases List.mem_cons.mp hs with rfl | hs
      · exact sh_3_0
      rcases List.mem_cons.mp hs with rfl | hs
      · exact sh_3_1
      rcases List.mem_cons.mp hs with rfl | hs
      · exact sh_3_2
      rcases List.mem_cons.mp hs with rfl | hs
      · exact sh_3_3
      rcases List.mem_cons.mp hs with rfl | hs
      · exact sh_3_4
      cases hs
    rcases List.mem_cons.mp he with rfl | he
    · intro s hs
      have hs : s ∈ [(ie_ 4).ss.getD 0 (pos_ 0), (ie_ 4).ss.getD 1 (pos_ 0)] := hs
      rcases List.mem_cons.mp hs with rfl | hs
      · exact sh_4_0
      rcases List.mem_cons.mp hs with rfl | hs
      · exact sh_4_1
      cases hs
    cases he
  · have hi : s.i = 2 := by
      have hs : s ∈ supsE := hs
      rcases List.mem_cons.mp hs with rfl | hs
      · rfl
      rcases List.mem_cons.mp hs with rfl | hs
      · rfl
      cases hs
    rw [hi] at he
    have he : some (ie_ 2) = some e := he
    cases he
    refine .inr ⟨by decide +kernel, fun q T D kV us its mv ws l1 l4 l2 l3 hk => ?_⟩
    obtain ⟨u0, u1, rfl⟩ := len2 l1
    obtain ⟨d0, rfl⟩ := len1 l4
    obtain rfl := len0 l2
    obtain rfl := len0 l3
    exact ⟨_, rfl, rfl⟩
theorem law53' (ns : List Int) (hl : ns.length ≤ 63) (hb : ∀ z ∈ ns, z.natAbs.log2 ≤ 1048576) : LawT (evS (tabX L53.pr 7).t L53.law.c.N L53.law.c.on FU L53.law.c.scope.names law1) (evBlk (evS (tabX L53.pr 7).t L53.law.c.N L53.law.c.on FU L53.law.c.scope.names) lawR) L53.law.c.N.length 1 ns := by
  rw [pr53]
  exact law53 0 ns hl hb
end K53
end TL
namespace TL
open PySem PySem.Spec PyProof.Rows L2
namespace K53
abbrev R : PySem.W.OpenRow := PySem.W.OpenLaw.row PySem.Challenge.rw_landways_k53_wishes_and_their_things
abbrev hk : PySem.W.Hook := hookZ 6 L53.fn L53.fx L53.tf L53.exB L53.file
def ob (s : PySem.W.SharedT) : AlZ := obsZ 6 L53.fn L53.fx L53.tf L53.exB L53.file (HandSHeadRun.getT s)
def loose : List PySem.Str := (["_wall", "LandError", "BadLand", "BadCounted", "BadWish", "MOST_CELLS", "is_whole", "is_row", "are_cells", "is_lot", "neighbour_rows", "hangs_together", "Land", "Counted", "BARS", "SORTS", "WIDEST", "are_unlike_words", "Wish", "LandWish", "EveryLandWish", "_law_mix", "_law_hand", "_law_draw", "_law_pick", "_law_lots", "_law_land", "_law_some", "_law_ground", "_law_counts"] : List PySem.Str) ++ (["_law_sorts", "_law_wish", "_law_made_wish", "_law_things", "_law_refused", "_law_menu", "_law_wrong_land_wish", "_law_wrong_every_wish", "_law_bare", "_law_same_counts", "_law_has", "_law_unlike"] : List PySem.Str)
theorem ob_eq (s : PySem.W.SharedT) : ob s = hk.obs s.abs := obsZ_eq (HandSHeadRun.getT_eq s)
theorem run (w : World) : HandSHeadRun.RunEq R (PySem.W.view R.prog [47]) hk ob 4000 loose w := by
  intro os
  kernel_rfl
end K53
end TL
open PySem PySem.W PySem.Calls PyProof.Rows
theorem PySem.Challenge.cw_landways_k53_wishes_and_their_things_holds : PySem.Challenge.rw_landways_k53_wishes_and_their_things.Holds := by
  w_on; o_law
  refine HandSHeadRun.head_any (r := OpenLaw.row PySem.Challenge.rw_landways_k53_wishes_and_their_things) (q := view (OpenLaw.row PySem.Challenge.rw_landways_k53_wishes_and_their_things).prog [47]) (H := TL.K53.hk) (ob := TL.K53.ob) (M := 4000) (loose := TL.K53.loose) (d := HandSHeadRun.topDef (OpenLaw.row PySem.Challenge.rw_landways_k53_wishes_and_their_things).prog 47) (kwd := []) TL.K53.ob_eq
    (by kernel_rfl) (fun s => by kernel_rfl) TL.K53.run (by kernel_rfl) (by kernel_rfl) (by kernel_rfl) (by rfl) (by first | assumption | decide +kernel) (by decide +kernel) ⟨rfl, rfl, rfl, rfl, rfl, by decide +kernel⟩ ?hw ?hc
  case hw => w_witness2
  case hc =>
    refine LamX.walk_ofTsE (l := PySem.Challenge.rw_landways_k53_wishes_and_their_things) (n := 63) (k := 64) (x := "_law_script") (CX := fun w => L2.CX (PySem.Challenge.rw_landways_k53_wishes_and_their_things).prog w) rfl (by decide) (by kernel_rfl) ⟨rfl, by decide, by decide⟩ ?F ?X
    case X => exact fun _ _ _ _ _ ⟨_, _, _, _, _, _, _, _, _, _, _, _, z⟩ => z
    intro w mg fa h Y G hmg0
    obtain ⟨K, KX, c⟩ := Y
    have hmg : mg ("law" : PySem.Str) = some (.ref fa) := by
      have e : (HandSHeadRun.topDef (OpenLaw.row PySem.Challenge.rw_landways_k53_wishes_and_their_things).prog 47).name = ("law" : PySem.Str) := by kernel_rfl
      rw [← e]
      exact hmg0
    exact ⟨K, KX, TL.lawAt_of (L := TL.K53.L53) (m := 7) KX G c TL.K53.st53 TL.K53.shps53 (by kernel_rfl) (by kernel_rfl) hmg TL.K53.law53'⟩
