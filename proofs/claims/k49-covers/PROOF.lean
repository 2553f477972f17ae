import PyProof.Rows.All
import Wide.All
import OpenK.AllK
import Wide.FinOn
import HandS.ForMost
import HandS.Deep
import HandS.Style
import HandS.IsInst
import HandS.Zip
import HandS.Wide
import PySem.Challenge.RW_wishdeal_k49_covers
set_option Elab.async false
set_option linter.all false
set_option maxRecDepth 100000
/-! VL: data over the hand layer. Masks say who may write; the relation between data and the abstract heap. -/
namespace VL
open PySem PySem.Spec PyProof.Rows L2

/-- who may write: sh shared (never written), A all owned, Z all owned and never written again, own m: the root owned, its children as m -/
inductive M where
  | sh | A | Z | own (m : M) | fz (m : M)
abbrev FP := List (Bool × Addr)
def M.child : M → M
  | .sh => .sh | .A => .A | .Z => .Z | .own m => m | .fz m => m
def M.fp (a : Addr) : M → FP
  | .sh => [] | .A => [(true, a)] | .own _ => [(true, a)] | .Z => [(false, a)] | .fz _ => [(false, a)]
def M.frz : M → M
  | .sh => .sh | .A => .Z | .Z => .Z
  | .own m => match m.frz with
    | .Z => .Z
    | x => .fz x
  | .fz m => match m.frz with
    | .Z => .Z
    | x => .fz x
theorem frz_own (m : M) : (M.own m).frz = .Z ∧ m.frz = .Z ∨ (M.own m).frz = .fz m.frz := by
  show (match m.frz with | .Z => M.Z | x => .fz x) = .Z ∧ _ ∨ (match m.frz with | .Z => M.Z | x => .fz x) = _
  cases m.frz <;> first | exact .inl ⟨rfl, rfl⟩ | exact .inr rfl
theorem frz_fz (m : M) : (M.fz m).frz = .Z ∧ m.frz = .Z ∨ (M.fz m).frz = .fz m.frz := frz_own m
def M.solid : M → Bool
  | .sh => false | .A => true | .Z => true | .own m => m.solid | .fz m => m.solid
theorem frz_solid : ∀ {m : M}, m.solid = true → m.frz = .Z
  | .A, _ => rfl
  | .Z, _ => rfl
  | .own m, h => by
    have := frz_solid (m := m) h
    show (match m.frz with | .Z => M.Z | x => .fz x) = .Z
    rw [this]
  | .fz m, h => by
    have := frz_solid (m := m) h
    show (match m.frz with | .Z => M.Z | x => .fz x) = .Z
    rw [this]
def M.mut : M → Bool
  | .A => true | .own _ => true | _ => false
def Loc (G H : Hp) (a : Addr) (u : HO) : M → Prop
  | .sh => G a = some u | .Z => G a = some u | .fz _ => G a = some u | .A => H a = some u | .own _ => H a = some u
/-- a dict that is shared may be locked -/
def LocD (G H : Hp) (a : Addr) (u : HO) : M → Prop
  | .sh => Rd G a u | .Z => G a = some u | .fz _ => G a = some u | .A => H a = some u | .own _ => H a = some u
def keyD : Key → PyData
  | .inl i => .int i
  | .inr x => .str x
def keysD (ks : List Key) : PyData := .tuple (ks.map keyD)

mutual
inductive RM (G H : Hp) : PyData → M → V → FP → Prop
  | non {m : M} : RM G H .none m .non []
  | bl {m : M} (b : Bool) : RM G H (.bool b) m (.bl b) []
  | int {m : M} (i : Int) : RM G H (.int i) m (.int i) []
  | str {m : M} (x : Str) : RM G H (.str x) m (.str x) []
  | lst {m : M} {a : Addr} {ds : List PyData} {vs : List V} {F : FP} : Loc G H a (.lst vs) m → RMs G H ds m.child vs F → RM G H (.list ds) m (.ref a) (m.fp a ++ F)
  | tup {m : M} {a : Addr} {ds : List PyData} {vs : List V} {F : FP} : Loc G H a (.tup vs) m → RMs G H ds m.child vs F → RM G H (.tuple ds) m (.ref a) (m.fp a ++ F)
  | dk {m : M} {a : Addr} {kd : List (PyData × PyData)} {kv : List (Key × V)} {F : FP} : LocD G H a (.dK kv) m → RMk G H kd m.child kv F → RM G H (.dict kd) m (.ref a) (m.fp a ++ F)
  | dt {m : M} {a : Addr} {kd : List (PyData × PyData)} {kv : List (List Key × V)} {F : FP} : LocD G H a (.dT kv) m → RMt G H kd m.child kv F → RM G H (.dict kd) m (.ref a) (m.fp a ++ F)
inductive RMs (G H : Hp) : List PyData → M → List V → FP → Prop
  | nil {m : M} : RMs G H [] m [] []
  | cons {m : M} {d : PyData} {ds : List PyData} {v : V} {vs : List V} {F F' : FP} : RM G H d m v F → RMs G H ds m vs F' → RMs G H (d :: ds) m (v :: vs) (F ++ F')
inductive RMk (G H : Hp) : List (PyData × PyData) → M → List (Key × V) → FP → Prop
  | nil {m : M} : RMk G H [] m [] []
  | cons {m : M} {k : Key} {d : PyData} {ds : List (PyData × PyData)} {v : V} {vs : List (Key × V)} {F F' : FP} : RM G H d m v F → RMk G H ds m vs F' → RMk G H ((keyD k, d) :: ds) m ((k, v) :: vs) (F ++ F')
inductive RMt (G H : Hp) : List (PyData × PyData) → M → List (List Key × V) → FP → Prop
  | nil {m : M} : RMt G H [] m [] []
  | cons {m : M} {k : List Key} {d : PyData} {ds : List (PyData × PyData)} {v : V} {vs : List (List Key × V)} {F F' : FP} : RM G H d m v F → RMt G H ds m vs F' → RMt G H ((keysD k, d) :: ds) m ((k, v) :: vs) (F ++ F')
end

/-! ### one lemma for every change of heaps and masks -/
structure Cv (G H G' H' : Hp) (φ : M → M) (g : Bool × Addr → Option (Bool × Addr)) (P : M → Prop) (S : Bool × Addr → Prop) : Prop where
  ch : ∀ m, P m → P m.child
  comm : ∀ m, P m → (φ m).child = φ m.child
  fp : ∀ m a, P m → (φ m).fp a = (m.fp a).filterMap g
  loc : ∀ m a u, P m → (∀ p ∈ m.fp a, S p) → Loc G H a u m → Loc G' H' a u (φ m)
  locD : ∀ m a u, P m → (∀ p ∈ m.fp a, S p) → (∀ o x, u ≠ .frz o x) → LocD G H a u m → LocD G' H' a u (φ m)
section
variable {G H G' H' : Hp} {φ : M → M} {g : Bool × Addr → Option (Bool × Addr)} {P : M → Prop} {S : Bool × Addr → Prop}
mutual
theorem RM.conv (c : Cv G H G' H' φ g P S) : ∀ {d : PyData} {m : M} {v : V} {F : FP}, RM G H d m v F → P m → (∀ p ∈ F, S p) → RM G' H' d (φ m) v (F.filterMap g)
  | _, _, _, _, .non, _, _ => .non
  | _, _, _, _, .bl b, _, _ => .bl b
  | _, _, _, _, .int i, _, _ => .int i
  | _, _, _, _, .str x, _, _ => .str x
  | _, m, _, _, .lst h hs, p, s => by
    rw [List.filterMap_append, ← c.fp m _ p]
    exact .lst (c.loc _ _ _ p (fun q hq => s q (List.mem_append_left _ hq)) h) (by rw [c.comm m p]; exact RMs.conv c hs (c.ch _ p) fun q hq => s q (List.mem_append_right _ hq))
  | _, m, _, _, .tup h hs, p, s => by
    rw [List.filterMap_append, ← c.fp m _ p]
    exact .tup (c.loc _ _ _ p (fun q hq => s q (List.mem_append_left _ hq)) h) (by rw [c.comm m p]; exact RMs.conv c hs (c.ch _ p) fun q hq => s q (List.mem_append_right _ hq))
  | _, m, _, _, .dk h hs, p, s => by
    rw [List.filterMap_append, ← c.fp m _ p]
    exact .dk (c.locD _ _ _ p (fun q hq => s q (List.mem_append_left _ hq)) (fun _ _ z => nomatch z) h) (by rw [c.comm m p]; exact RMk.conv c hs (c.ch _ p) fun q hq => s q (List.mem_append_right _ hq))
  | _, m, _, _, .dt h hs, p, s => by
    rw [List.filterMap_append, ← c.fp m _ p]
    exact .dt (c.locD _ _ _ p (fun q hq => s q (List.mem_append_left _ hq)) (fun _ _ z => nomatch z) h) (by rw [c.comm m p]; exact RMt.conv c hs (c.ch _ p) fun q hq => s q (List.mem_append_right _ hq))
theorem RMs.conv (c : Cv G H G' H' φ g P S) : ∀ {ds : List PyData} {m : M} {vs : List V} {F : FP}, RMs G H ds m vs F → P m → (∀ p ∈ F, S p) → RMs G' H' ds (φ m) vs (F.filterMap g)
  | _, _, _, _, .nil, _, _ => .nil
  | _, _, _, _, .cons h hs, p, s => by
    rw [List.filterMap_append]
    exact .cons (RM.conv c h p fun q hq => s q (List.mem_append_left _ hq)) (RMs.conv c hs p fun q hq => s q (List.mem_append_right _ hq))
theorem RMk.conv (c : Cv G H G' H' φ g P S) : ∀ {ds : List (PyData × PyData)} {m : M} {vs : List (Key × V)} {F : FP}, RMk G H ds m vs F → P m → (∀ p ∈ F, S p) → RMk G' H' ds (φ m) vs (F.filterMap g)
  | _, _, _, _, .nil, _, _ => .nil
  | _, _, _, _, .cons h hs, p, s => by
    rw [List.filterMap_append]
    exact .cons (RM.conv c h p fun q hq => s q (List.mem_append_left _ hq)) (RMk.conv c hs p fun q hq => s q (List.mem_append_right _ hq))
theorem RMt.conv (c : Cv G H G' H' φ g P S) : ∀ {ds : List (PyData × PyData)} {m : M} {vs : List (List Key × V)} {F : FP}, RMt G H ds m vs F → P m → (∀ p ∈ F, S p) → RMt G' H' ds (φ m) vs (F.filterMap g)
  | _, _, _, _, .nil, _, _ => .nil
  | _, _, _, _, .cons h hs, p, s => by
    rw [List.filterMap_append]
    exact .cons (RM.conv c h p fun q hq => s q (List.mem_append_left _ hq)) (RMt.conv c hs p fun q hq => s q (List.mem_append_right _ hq))
end
end
theorem fm_some (F : FP) : F.filterMap some = F := List.filterMap_some
theorem Same.rd {G G' : Hp} (h : Same G G') {a : Addr} {u : HO} (r : Rd G a u) : Rd G' a u := by
  rcases r with r | ⟨o, r⟩
  · exact .inl (h _ _ r)
  · exact .inr ⟨o, h _ _ r⟩
/-- heaps grow; the written cells in S stay -/
theorem cv_ext {G H G' H' : Hp} {S : Bool × Addr → Prop} (hG : Same G G') (hH : ∀ a u, S (true, a) → H a = some u → H' a = some u) : Cv G H G' H' id some (fun _ => True) S where
  ch := fun _ _ => trivial
  comm := fun _ _ => rfl
  fp := fun m a _ => (fm_some _).symm
  loc := fun m a u _ s h => by
    cases m with
    | sh => exact hG _ _ h
    | Z => exact hG _ _ h
    | fz _ => exact hG _ _ h
    | A => exact hH _ _ (s _ (by simp [M.fp])) h
    | own _ => exact hH _ _ (s _ (by simp [M.fp])) h
  locD := fun m a u _ s _ h => by
    cases m with
    | sh => exact Same.rd hG h
    | Z => exact hG _ _ h
    | fz _ => exact hG _ _ h
    | A => exact hH _ _ (s _ (by simp [M.fp])) h
    | own _ => exact hH _ _ (s _ (by simp [M.fp])) h
/-- all is frozen: G' knows what was written -/
theorem cv_frz {G H G' H' : Hp} {S : Bool × Addr → Prop} (hG : Same G G') (hH : ∀ a u, S (true, a) → H a = some u → G' a = some u) : Cv G H G' H' M.frz (fun p => some (false, p.2)) (fun _ => True) S where
  ch := fun _ _ => trivial
  comm := fun m _ => by
    cases m with
    | own m => rcases frz_own m with ⟨h1, h2⟩ | h1 <;> rw [h1]; exact h2.symm; rfl
    | fz m => rcases frz_fz m with ⟨h1, h2⟩ | h1 <;> rw [h1]; exact h2.symm; rfl
    | _ => rfl
  fp := fun m a _ => by
    cases m with
    | own m => rcases frz_own m with ⟨h1, h2⟩ | h1 <;> rw [h1] <;> rfl
    | fz m => rcases frz_fz m with ⟨h1, h2⟩ | h1 <;> rw [h1] <;> rfl
    | _ => rfl
  loc := fun m a u _ s h => by
    cases m with
    | sh => exact hG _ _ h
    | Z => exact hG _ _ h
    | fz m => rcases frz_fz m with ⟨h1, h2⟩ | h1 <;> rw [h1] <;> exact hG _ _ h
    | A => exact hH _ _ (s _ (by simp [M.fp])) h
    | own m => rcases frz_own m with ⟨h1, h2⟩ | h1 <;> rw [h1] <;> exact hH _ _ (s _ (by simp [M.fp])) h
  locD := fun m a u _ s _ h => by
    cases m with
    | sh => exact Same.rd hG h
    | Z => exact hG _ _ h
    | fz m => rcases frz_fz m with ⟨h1, h2⟩ | h1 <;> rw [h1] <;> exact hG _ _ h
    | A => exact hH _ _ (s _ (by simp [M.fp])) h
    | own m => rcases frz_own m with ⟨h1, h2⟩ | h1 <;> rw [h1] <;> exact hH _ _ (s _ (by simp [M.fp])) h
/-- .. and shared -/
theorem cv_sh {G H G' H' : Hp} {S : Bool × Addr → Prop} (hG : Same G G') (hH : ∀ a u, S (true, a) → H a = some u → G' a = some u) : Cv G H G' H' (fun _ => M.sh) (fun _ => none) (fun _ => True) S where
  ch := fun _ _ => trivial
  comm := fun m _ => rfl
  fp := fun m a _ => by cases m <;> rfl
  loc := fun m a u _ s h => by
    cases m with
    | sh => exact hG _ _ h
    | Z => exact hG _ _ h
    | fz _ => exact hG _ _ h
    | A => exact hH _ _ (s _ (by simp [M.fp])) h
    | own _ => exact hH _ _ (s _ (by simp [M.fp])) h
  locD := fun m a u _ s _ h => by
    cases m with
    | sh => exact Same.rd hG h
    | Z => exact .inl (hG _ _ h)
    | fz _ => exact .inl (hG _ _ h)
    | A => exact .inl (hH _ _ (s _ (by simp [M.fp])) h)
    | own _ => exact .inl (hH _ _ (s _ (by simp [M.fp])) h)
/-- what is solid is owned by whoever gets it -/
theorem cv_thaw {G H G' H' : Hp} {S : Bool × Addr → Prop} (hG : ∀ a u, S (false, a) → G a = some u → H' a = some u) (hH : ∀ a u, S (true, a) → H a = some u → H' a = some u) : Cv G H G' H' (fun _ => M.A) (fun p => some (true, p.2)) (fun m => m.solid = true) S where
  ch := fun m h => by cases m <;> first | exact h | rfl
  comm := fun m _ => rfl
  fp := fun m a h => by cases m <;> first | rfl | cases h
  loc := fun m a u p s h => by
    cases m with
    | sh => cases p
    | Z => exact hG _ _ (s _ (by simp [M.fp])) h
    | fz _ => exact hG _ _ (s _ (by simp [M.fp])) h
    | A => exact hH _ _ (s _ (by simp [M.fp])) h
    | own _ => exact hH _ _ (s _ (by simp [M.fp])) h
  locD := fun m a u p s _ h => by
    cases m with
    | sh => cases p
    | Z => exact hG _ _ (s _ (by simp [M.fp])) h
    | fz _ => exact hG _ _ (s _ (by simp [M.fp])) h
    | A => exact hH _ _ (s _ (by simp [M.fp])) h
    | own _ => exact hH _ _ (s _ (by simp [M.fp])) h
section
variable {G H G' H' : Hp} {d : PyData} {m : M} {v : V} {F : FP} {ds : List PyData} {vs : List V}
theorem RM.ext (h : RM G H d m v F) (hG : Same G G') (hH : ∀ a u, (true, a) ∈ F → H a = some u → H' a = some u) : RM G' H' d m v F := by
  have := RM.conv (cv_ext (S := fun p => p ∈ F) hG hH) h trivial fun _ h => h
  rwa [fm_some] at this
theorem RMs.ext (h : RMs G H ds m vs F) (hG : Same G G') (hH : ∀ a u, (true, a) ∈ F → H a = some u → H' a = some u) : RMs G' H' ds m vs F := by
  have := RMs.conv (cv_ext (S := fun p => p ∈ F) hG hH) h trivial fun _ h => h
  rwa [fm_some] at this
def cold (F : FP) : FP := F.filterMap fun p => some (false, p.2)
def hot (F : FP) : FP := F.filterMap fun p => some (true, p.2)
theorem cold_snd : ∀ F : FP, (cold F).map (·.2) = F.map (·.2)
  | [] => rfl
  | p :: F => by show p.2 :: (cold F).map (·.2) = _; rw [cold_snd F]; rfl
theorem hot_snd : ∀ F : FP, (hot F).map (·.2) = F.map (·.2)
  | [] => rfl
  | p :: F => by show p.2 :: (hot F).map (·.2) = _; rw [hot_snd F]; rfl
theorem mem_cold {F : FP} {p : Bool × Addr} (h : p ∈ cold F) : p.1 = false ∧ ∃ b, (b, p.2) ∈ F := by
  obtain ⟨q, hq, e⟩ := List.mem_filterMap.mp h
  cases e
  exact ⟨rfl, q.1, hq⟩
theorem mem_hot {F : FP} {p : Bool × Addr} (h : p ∈ hot F) : p.1 = true ∧ ∃ b, (b, p.2) ∈ F := by
  obtain ⟨q, hq, e⟩ := List.mem_filterMap.mp h
  cases e
  exact ⟨rfl, q.1, hq⟩
theorem RM.freeze (h : RM G H d m v F) (hG : Same G G') (hH : ∀ a u, (true, a) ∈ F → H a = some u → G' a = some u) : RM G' H' d m.frz v (cold F) :=
  RM.conv (cv_frz (S := fun p => p ∈ F) hG hH) h trivial fun _ h => h
theorem fm_none : ∀ F : FP, F.filterMap (fun _ => (none : Option (Bool × Addr))) = []
  | [] => rfl
  | _ :: F => fm_none F
theorem RM.share (h : RM G H d m v F) (hG : Same G G') (hH : ∀ a u, (true, a) ∈ F → H a = some u → G' a = some u) : RM G' H' d .sh v [] := by
  have := RM.conv (cv_sh (H' := H') (S := fun p => p ∈ F) hG hH) h trivial fun _ h => h
  rwa [fm_none] at this
theorem RMs.share (h : RMs G H ds m vs F) (hG : Same G G') (hH : ∀ a u, (true, a) ∈ F → H a = some u → G' a = some u) : RMs G' H' ds .sh vs [] := by
  have := RMs.conv (cv_sh (H' := H') (S := fun p => p ∈ F) hG hH) h trivial fun _ h => h
  rwa [fm_none] at this
theorem RM.thaw (h : RM G H d m v F) (hs : m.solid = true) (hG : ∀ a u, (false, a) ∈ F → G a = some u → H' a = some u) (hH : ∀ a u, (true, a) ∈ F → H a = some u → H' a = some u) : RM G' H' d .A v (hot F) :=
  RM.conv (cv_thaw (S := fun p => p ∈ F) hG hH) h hs fun _ h => h
end
/-- shared data hang on nothing that is written -/
theorem M.sh_child : M.child .sh = .sh := rfl
section
variable {G H : Hp}
mutual
theorem RM.sh_nil' : ∀ {d : PyData} {m : M} {v : V} {F : FP}, RM G H d m v F → m = .sh → F = []
  | _, _, _, _, .non, _ => rfl
  | _, _, _, _, .bl _, _ => rfl
  | _, _, _, _, .int _, _ => rfl
  | _, _, _, _, .str _, _ => rfl
  | _, _, _, _, .lst _ hs, e => by subst e; exact RMs.sh_nil' hs rfl
  | _, _, _, _, .tup _ hs, e => by subst e; exact RMs.sh_nil' hs rfl
  | _, _, _, _, .dk _ hs, e => by subst e; exact RMk.sh_nil' hs rfl
  | _, _, _, _, .dt _ hs, e => by subst e; exact RMt.sh_nil' hs rfl
theorem RMs.sh_nil' : ∀ {ds : List PyData} {m : M} {vs : List V} {F : FP}, RMs G H ds m vs F → m = .sh → F = []
  | _, _, _, _, .nil, _ => rfl
  | _, _, _, _, .cons h hs, e => by rw [RM.sh_nil' h e, RMs.sh_nil' hs e]; rfl
theorem RMk.sh_nil' : ∀ {ds : List (PyData × PyData)} {m : M} {vs : List (Key × V)} {F : FP}, RMk G H ds m vs F → m = .sh → F = []
  | _, _, _, _, .nil, _ => rfl
  | _, _, _, _, .cons h hs, e => by rw [RM.sh_nil' h e, RMk.sh_nil' hs e]; rfl
theorem RMt.sh_nil' : ∀ {ds : List (PyData × PyData)} {m : M} {vs : List (List Key × V)} {F : FP}, RMt G H ds m vs F → m = .sh → F = []
  | _, _, _, _, .nil, _ => rfl
  | _, _, _, _, .cons h hs, e => by rw [RM.sh_nil' h e, RMt.sh_nil' hs e]; rfl
end
end
theorem RM.sh_nil {G H : Hp} {d : PyData} {v : V} {F : FP} (h : RM G H d .sh v F) : F = [] := RM.sh_nil' h rfl
theorem RMs.sh_nil {G H : Hp} {d : List PyData} {v : List V} {F : FP} (h : RMs G H d .sh v F) : F = [] := RMs.sh_nil' h rfl
end VL

namespace VL
open PySem PySem.Spec PyProof.Rows L2
abbrev St := L2.St

/-- what a name, or a part of what is being reckoned, holds: data by a mask, a view of such, read-only data of the module, an own object (fields by masks), a shared own object -/
inductive Item where
  | dat (d : PyData) (m : M)
  | vw (d : PyData) (m : M)
  | ro (d : PyData)
  | ob (C : Addr) (fl : List (Str × PyData × M))
  | os (C : Addr) (fl : List (Str × PyData))
  | ov (C : Addr) (fl : List (Str × PyData × M))
abbrev VEnv := List (Option Item)
abbrev VFr := List (V × Item)

inductive RMf (G H : Hp) : List (Str × PyData × M) → List (Str × V) → FP → Prop
  | nil : RMf G H [] [] []
  | cons {f : Str} {d : PyData} {m : M} {fl : List (Str × PyData × M)} {v : V} {fs : List (Str × V)} {F F' : FP} : RM G H d m v F → RMf G H fl fs F' → RMf G H ((f, d, m) :: fl) ((f, v) :: fs) (F ++ F')
inductive RI (K : PySem.W.Frag) (R G H : Hp) : Item → V → FP → Prop
  | dat {d : PyData} {m : M} {v : V} {F : FP} : RM G H d m v F → RI K R G H (.dat d m) v F
  | vw {d : PyData} {m : M} {v : V} {F : FP} : RM G H d m v F → (∀ p ∈ F, R p.2 = none) → RI K R G H (.vw d m) v []
  | ro {d : PyData} {v : V} : Dp K G v d → RI K R G H (.ro d) v []
  | ob {C dx a : Addr} {fl : List (Str × PyData × M)} {fs : List (Str × V)} {F : FP} : H a = some (.ins C dx fs) → RMf G H fl fs F → RI K R G H (.ob C fl) (.ref a) ((true, a) :: F)
  | os {C dx a : Addr} {fl : List (Str × PyData)} {fs : List (Str × V)} {F : FP} : G a = some (.ins C dx fs) → RMf G H (fl.map fun p => (p.1, p.2, .sh)) fs F → RI K R G H (.os C fl) (.ref a) []
  | ov {C dx a : Addr} {fl : List (Str × PyData × M)} {fs : List (Str × V)} {F : FP} : H a = some (.ins C dx fs) → RMf G H fl fs F → R a = none → (∀ p ∈ F, R p.2 = none) → RI K R G H (.ov C fl) (.ref a) []
def RIo (K : PySem.W.Frag) (R G H : Hp) : Option Item → Option V → FP → Prop
  | none, _, F => F = []
  | some it, x, F => ∃ v, x = some v ∧ RI K R G H it v F
inductive RSl (K : PySem.W.Frag) (R G H : Hp) : St → VEnv → FP → Prop
  | nil {σ : St} : RSl K R G H σ [] []
  | cons {o : Option Item} {x : Option V} {σ : St} {env : VEnv} {F F' : FP} : RIo K R G H o x F → RSl K R G H σ env F' → RSl K R G H (x :: σ) (o :: env) (F ++ F')
inductive RFr (K : PySem.W.Frag) (R G H : Hp) : VFr → FP → Prop
  | nil : RFr K R G H [] []
  | cons {v : V} {it : Item} {fr : VFr} {F F' : FP} : RI K R G H it v F → RFr K R G H fr F' → RFr K R G H ((v, it) :: fr) (F ++ F')

/-- no views -/
def Item.fix : Item → Prop
  | .vw _ _ => False
  | .ov _ _ => False
  | _ => True

section
variable {K : PySem.W.Frag} {R G H G' H' : Hp} {it : Item} {v : V} {F : FP} {σ : St} {env : VEnv} {fr : VFr}
theorem sameL {K : PySem.W.Frag} {H H' : Hp} {a : Addr} {xs : List V} (e : Same H H') (h : SqL K H a xs) : SqL K H' a xs := by
  rcases h with h | h
  · exact Or.inl (Same.rd e h)
  · exact Or.inr h
theorem sameT {K : PySem.W.Frag} {H H' : Hp} {a : Addr} {xs : List V} (e : Same H H') (h : SqT K H a xs) : SqT K H' a xs := by
  rcases h with h | h
  · exact Or.inl (Same.rd e h)
  · exact Or.inr h
mutual
theorem dpExt (e : Same H H') : ∀ {v : V} {d : PyData}, Dp K H v d → Dp K H' v d
  | _, _, .non => .non
  | _, _, .bl b => .bl b
  | _, _, .int i => .int i
  | _, _, .str x => .str x
  | _, _, .lst h hs => .lst (sameL e h) (dpsExt e hs)
  | _, _, .tup h hs => .tup (sameT e h) (dpsExt e hs)
theorem dpsExt (e : Same H H') : ∀ {v : List V} {d : List PyData}, DpAll K H v d → DpAll K H' v d
  | _, _, .nil => .nil
  | _, _, .cons h hs => .cons (dpExt e h) (dpsExt e hs)
end
theorem RMf.ext {fl : List (Str × PyData × M)} {fs : List (Str × V)} (h : RMf G H fl fs F) : Same G G' → (∀ a u, (true, a) ∈ F → H a = some u → H' a = some u) → RMf G' H' fl fs F := by
  induction h with
  | nil => intro _ _; exact .nil
  | cons r _ ih => intro hG hH; exact .cons (r.ext hG fun a u q => hH a u (List.mem_append_left _ q)) (ih hG fun a u q => hH a u (List.mem_append_right _ q))
/-- an item without views goes on where heaps grow and its own cells stay -/
theorem RI.ext (h : RI K R G H it v F) (hG : Same G G') (hH : ∀ a u, (true, a) ∈ F → H a = some u → H' a = some u) (hf : it.fix ∨ ∀ a u, R a = none → H a = some u → H' a = some u) : RI K R G' H' it v F := by
  cases h with
  | dat r => exact .dat (r.ext hG hH)
  | vw r hr =>
    rcases hf with z | z
    · exact z.elim
    · exact .vw (r.ext hG fun a u q => z a u (hr _ q)) hr
  | ro r => exact .ro (dpExt hG r)
  | ob e r => exact .ob (hH _ _ List.mem_cons_self e) (r.ext hG fun a u q => hH a u (List.mem_cons_of_mem _ q))
  | os e r =>
    refine .os (F := []) (hG _ _ e) ?_
    have : ∀ {fl : List (Str × PyData)} {fs : List (Str × V)} {F : FP}, RMf G H (fl.map fun p => (p.1, p.2, M.sh)) fs F → RMf G' H' (fl.map fun p => (p.1, p.2, M.sh)) fs [] := by
      intro fl
      induction fl with
      | nil => intro fs F r; cases r; exact .nil
      | cons p fl ih =>
        intro fs F r
        cases r with
        | cons r1 r2 =>
          have e1 := r1.sh_nil
          subst e1
          exact .cons (F := []) (r1.ext hG fun _ _ q => nomatch q) (ih r2)
    exact this r
  | ov e r h1 h2 =>
    rcases hf with z | z
    · exact z.elim
    · exact .ov (z _ _ h1 e) (r.ext hG fun a u q => z a u (h2 _ q)) h1 h2
theorem RIo.ext {o : Option Item} {x : Option V} (h : RIo K R G H o x F) (hG : Same G G') (hH : ∀ a u, (true, a) ∈ F → H a = some u → H' a = some u) (hf : (∀ it, o = some it → it.fix) ∨ ∀ a u, R a = none → H a = some u → H' a = some u) : RIo K R G' H' o x F := by
  cases o with
  | none => exact h
  | some it =>
    obtain ⟨v, e, r⟩ := h
    refine ⟨v, e, r.ext hG hH ?_⟩
    rcases hf with z | z
    · exact .inl (z _ rfl)
    · exact .inr z
def fixE (env : VEnv) : Prop := ∀ o ∈ env, ∀ it, o = some it → it.fix
def fixF (fr : VFr) : Prop := ∀ p ∈ fr, p.2.fix
theorem RSl.ext (h : RSl K R G H σ env F) : Same G G' → (∀ a u, (true, a) ∈ F → H a = some u → H' a = some u) → (fixE env ∨ ∀ a u, R a = none → H a = some u → H' a = some u) → RSl K R G' H' σ env F := by
  induction h with
  | nil => intro _ _ _; exact .nil
  | cons r _ ih =>
    intro hG hH hf
    refine .cons (r.ext hG (fun a u q => hH a u (List.mem_append_left _ q)) ?_) (ih hG (fun a u q => hH a u (List.mem_append_right _ q)) ?_)
    · exact hf.imp (fun z it e => z _ List.mem_cons_self it e) id
    · exact hf.imp (fun z o ho => z o (List.mem_cons_of_mem _ ho)) id
theorem RFr.ext (h : RFr K R G H fr F) : Same G G' → (∀ a u, (true, a) ∈ F → H a = some u → H' a = some u) → (fixF fr ∨ ∀ a u, R a = none → H a = some u → H' a = some u) → RFr K R G' H' fr F := by
  induction h with
  | nil => intro _ _ _; exact .nil
  | cons r _ ih =>
    intro hG hH hf
    refine .cons (r.ext hG (fun a u q => hH a u (List.mem_append_left _ q)) ?_) (ih hG (fun a u q => hH a u (List.mem_append_right _ q)) ?_)
    · exact hf.imp (fun z => z _ List.mem_cons_self) id
    · exact hf.imp (fun z o ho => z o (List.mem_cons_of_mem _ ho)) id
/-- one slot in view, and how it may be changed while the heaps change -/
theorem RSl.focus (h : RSl K R G H σ env F) : ∀ {i : Nat} {o : Option Item}, env[i]? = some o → ∃ x F1 Fi F2, σ[i]? = some x ∧ F = F1 ++ (Fi ++ F2) ∧ RIo K R G H o x Fi ∧
    ∀ {G' H' : Hp}, Same G G' → (∀ a u, (true, a) ∈ F1 ++ F2 → H a = some u → H' a = some u) → (fixE env ∨ ∀ a u, R a = none → H a = some u → H' a = some u) → ∀ {o' : Option Item} {x' : Option V} {Fi' : FP}, RIo K R G' H' o' x' Fi' → RSl K R G' H' (σ.set i x') (env.set i o') (F1 ++ (Fi' ++ F2)) := by
  induction h with
  | nil => intro i o e; simp at e
  | cons r rs ih =>
    rename_i o0 x0 σ0 env0 F0 F0'
    intro i o e
    cases i with
    | zero =>
      simp at e; subst e
      refine ⟨x0, [], F0, F0', rfl, rfl, r, fun hG hH hf o' x' Fi' r' => ?_⟩
      rw [List.nil_append]
      exact .cons r' (rs.ext hG (by simpa using hH) (hf.imp (fun z o ho => z o (List.mem_cons_of_mem _ ho)) id))
    | succ i =>
      obtain ⟨x, F1, Fi, F2, e1, e2, r1, k⟩ := ih (i := i) (by simpa using e)
      refine ⟨x, F0 ++ F1, Fi, F2, by simpa using e1, by rw [e2]; simp [List.append_assoc], r1, fun hG hH hf o' x' Fi' r' => ?_⟩
      have := k hG (fun a u q => hH a u (by
        rcases List.mem_append.mp q with q | q
        · exact List.mem_append_left _ (List.mem_append_right _ q)
        · exact List.mem_append_right _ q)) (hf.imp (fun z o ho => z o (List.mem_cons_of_mem _ ho)) id) r'
      rw [List.append_assoc]
      refine .cons (r.ext hG (fun a u q => hH a u (List.mem_append_left _ (List.mem_append_left _ q))) ?_) this
      exact hf.imp (fun z it e => z _ List.mem_cons_self it e) id
end

/-! ### the state -/
/-- the heap at the entry, what the arguments hang on, the locked dicts -/
structure Ctx where
  H0 : Hp
  B : Hp
  L : List (Addr × Obj)
def lk (L : List (Addr × Obj)) (H : Hp) : Hp := fun a => match L.lookup a with
  | some o => (H a).map (.frz o)
  | none => H a
theorem lk_nil (H : Hp) : lk [] H = H := rfl
def ND (F : FP) : Prop := (F.map (·.2)).Nodup
structure ERG (K : PySem.W.Frag) (C : Ctx) (σ : St) (H : Hp) (env : VEnv) (fr : VFr) (G : Hp) (F1 F2 : FP) : Prop where
  gh : Same G H
  h0 : Same (lk C.L C.H0) H
  bg : Same (lk C.L C.B) G
  b0 : Same C.B C.H0
  fresh : ∀ a, G a ≠ none → C.B a ≠ none ∨ C.H0 a = none
  sl : RSl K C.H0 G H σ env F1
  fr : RFr K C.H0 G H fr F2
  nd : ND (F1 ++ F2)
  nf : ∀ p ∈ F1 ++ F2, C.H0 p.2 = none ∧ p.2 ∉ C.L.map (·.1) ∧ (p.1 = true → G p.2 = none)
  fx : fixE env
  lx : ∀ a ∈ C.L.map (·.1), ∃ u, H a = some u
def ER (K : PySem.W.Frag) (C : Ctx) (σ : St) (H : Hp) (env : VEnv) (fr : VFr) : Prop := ∃ G F1 F2, ERG K C σ H env fr G F1 F2

/-! ### small facts -/
theorem ND.sub {F F' : FP} (h : ND F) (s : List.Sublist F' F) : ND F' := List.Nodup.sublist (s.map _) h
theorem ND.perm {F F' : FP} (h : ND F) (s : F'.Perm F) : ND F' := (s.map _).nodup_iff.mpr h
theorem ND.cold {F : FP} (h : ND F) : ND (cold F) := by unfold ND; rw [cold_snd]; exact h
section
variable {K : PySem.W.Frag} {C : Ctx} {R G H G' H' : Hp} {it it' : Item} {v v' : V} {F F1 F2 : FP} {σ : St} {env env' : VEnv} {fr fr' : VFr} {p : Addr} {o : HO}
/-- the footprint's mutable cells exist -/
theorem loc_cells {a : Addr} {u : HO} {m : M} (h : Loc G H a u m) : ∀ q ∈ m.fp a, q.2 = a ∧ (q.1 = true → H a = some u) ∧ (q.1 = false → G a = some u) := by
  intro q hq
  cases m with
  | sh => cases hq
  | A => simp [M.fp] at hq; subst hq; exact ⟨rfl, fun _ => h, fun z => Bool.noConfusion z⟩
  | own m => simp [M.fp] at hq; subst hq; exact ⟨rfl, fun _ => h, fun z => Bool.noConfusion z⟩
  | Z => simp [M.fp] at hq; subst hq; exact ⟨rfl, (fun z => Bool.noConfusion z), fun _ => h⟩
  | fz m => simp [M.fp] at hq; subst hq; exact ⟨rfl, (fun z => Bool.noConfusion z), fun _ => h⟩
theorem locD_cells {a : Addr} {u : HO} {m : M} (h : LocD G H a u m) : ∀ q ∈ m.fp a, q.2 = a ∧ (q.1 = true → H a = some u) ∧ (q.1 = false → G a = some u) := by
  intro q hq
  cases m with
  | sh => cases hq
  | A => simp [M.fp] at hq; subst hq; exact ⟨rfl, fun _ => h, fun z => Bool.noConfusion z⟩
  | own m => simp [M.fp] at hq; subst hq; exact ⟨rfl, fun _ => h, fun z => Bool.noConfusion z⟩
  | Z => simp [M.fp] at hq; subst hq; exact ⟨rfl, (fun z => Bool.noConfusion z), fun _ => h⟩
  | fz m => simp [M.fp] at hq; subst hq; exact ⟨rfl, (fun z => Bool.noConfusion z), fun _ => h⟩
def There (G H : Hp) (F : FP) : Prop := ∀ q ∈ F, (q.1 = true → ∃ u, H q.2 = some u) ∧ (q.1 = false → ∃ u, G q.2 = some u)
theorem There.app {F F' : FP} (a : There G H F) (b : There G H F') : There G H (F ++ F') := fun q hq => (List.mem_append.mp hq).elim (a q) (b q)
theorem There.fp1 {a : Addr} {u : HO} {m : M} (h : Loc G H a u m) : There G H (m.fp a) := fun q hq => by
  obtain ⟨e, h1, h2⟩ := loc_cells h q hq
  rw [e]
  exact ⟨fun z => ⟨_, h1 z⟩, fun z => ⟨_, h2 z⟩⟩
theorem There.fp2 {a : Addr} {u : HO} {m : M} (h : LocD G H a u m) : There G H (m.fp a) := fun q hq => by
  obtain ⟨e, h1, h2⟩ := locD_cells h q hq
  rw [e]
  exact ⟨fun z => ⟨_, h1 z⟩, fun z => ⟨_, h2 z⟩⟩
theorem There.nil : There G H [] := fun _ h => nomatch h
mutual
theorem RM.there : ∀ {d : PyData} {m : M} {v : V} {F : FP}, RM G H d m v F → There G H F
  | _, _, _, _, .non => .nil
  | _, _, _, _, .bl _ => .nil
  | _, _, _, _, .int _ => .nil
  | _, _, _, _, .str _ => .nil
  | _, _, _, _, .lst h hs => (There.fp1 h).app (RMs.there hs)
  | _, _, _, _, .tup h hs => (There.fp1 h).app (RMs.there hs)
  | _, _, _, _, .dk h hs => (There.fp2 h).app (RMk.there hs)
  | _, _, _, _, .dt h hs => (There.fp2 h).app (RMt.there hs)
theorem RMs.there : ∀ {ds : List PyData} {m : M} {vs : List V} {F : FP}, RMs G H ds m vs F → There G H F
  | _, _, _, _, .nil => .nil
  | _, _, _, _, .cons h hs => (RM.there h).app (RMs.there hs)
theorem RMk.there : ∀ {ds : List (PyData × PyData)} {m : M} {vs : List (Key × V)} {F : FP}, RMk G H ds m vs F → There G H F
  | _, _, _, _, .nil => .nil
  | _, _, _, _, .cons h hs => (RM.there h).app (RMk.there hs)
theorem RMt.there : ∀ {ds : List (PyData × PyData)} {m : M} {vs : List (List Key × V)} {F : FP}, RMt G H ds m vs F → There G H F
  | _, _, _, _, .nil => .nil
  | _, _, _, _, .cons h hs => (RM.there h).app (RMt.there hs)
end
theorem RMf.there {fl : List (Str × PyData × M)} {fs : List (Str × V)} (h : RMf G H fl fs F) : There G H F := by
  induction h with
  | nil => exact .nil
  | cons r _ ih => exact r.there.app ih
theorem RI.there (h : RI K R G H it v F) : There G H F := by
  cases h with
  | dat r => exact r.there
  | vw _ _ => exact .nil
  | ro _ => exact .nil
  | ob e r =>
    intro q hq
    rcases List.mem_cons.mp hq with rfl | hq
    · exact ⟨fun _ => ⟨_, e⟩, fun z => Bool.noConfusion z⟩
    · exact r.there q hq
  | os _ _ => exact .nil
  | ov _ _ _ _ => exact .nil
theorem RSl.there (h : RSl K R G H σ env F) : There G H F := by
  induction h with
  | nil => exact .nil
  | cons r _ ih =>
    rename_i o x _ _ _ _ _
    refine There.app ?_ ih
    cases o with
    | none => rw [show _ = [] from r]; exact .nil
    | some it => obtain ⟨_, _, r⟩ := r; exact r.there
theorem RFr.there (h : RFr K R G H fr F) : There G H F := by
  induction h with
  | nil => exact .nil
  | cons r _ ih => exact r.there.app ih
theorem There.all (h : There G H F) (gh : Same G H) : ∀ q ∈ F, ∃ u, H q.2 = some u := fun q hq => by
  obtain ⟨h1, h2⟩ := h q hq
  cases e : q.1 with
  | true => exact h1 e
  | false => obtain ⟨u, e2⟩ := h2 e; exact ⟨u, gh _ _ e2⟩
theorem ERG.there (e : ERG K C σ H env fr G F1 F2) : ∀ q ∈ F1 ++ F2, ∃ u, H q.2 = some u := (e.sl.there.app e.fr.there).all e.gh
theorem upd_cell {a : Addr} {u : HO} (hp : H p = none) (h : H a = some u) : upd H p o a = some u := by rw [upd_ne (ne_of_none h hp)]; exact h
end
end VL

namespace VL
open PySem PySem.Spec PyProof.Rows L2

def SubP (F' F : FP) : Prop := ∃ F0, F'.Perm F0 ∧ F0.Sublist F
theorem SubP.refl (F : FP) : SubP F F := ⟨F, .refl _, .refl _⟩
theorem SubP.nil (F : FP) : SubP [] F := ⟨[], .refl _, List.nil_sublist _⟩
theorem SubP.of_sub {F' F : FP} (h : F'.Sublist F) : SubP F' F := ⟨F', .refl _, h⟩
theorem SubP.of_perm {F' F : FP} (h : F'.Perm F) : SubP F' F := ⟨F, h, .refl _⟩
theorem SubP.mem {F' F : FP} (h : SubP F' F) {p : Bool × Addr} (hp : p ∈ F') : p ∈ F := by
  obtain ⟨F0, h1, h2⟩ := h
  exact h2.subset (h1.mem_iff.mp hp)
theorem perm_sub {F0 F F' : FP} (h : F0.Sublist F) : ∀ {F'}, F.Perm F' → ∃ F0', F0.Perm F0' ∧ F0'.Sublist F' := by
  intro F' p
  induction p generalizing F0 with
  | nil => exact ⟨F0, .refl _, h⟩
  | cons x _ ih =>
    cases h with
    | cons _ h => obtain ⟨G, g1, g2⟩ := ih h; exact ⟨G, g1, .cons _ g2⟩
    | cons_cons _ h => obtain ⟨G, g1, g2⟩ := ih h; exact ⟨_, .cons _ g1, .cons_cons _ g2⟩
  | swap x y l =>
    cases h with
    | cons _ h =>
      cases h with
      | cons _ h => exact ⟨F0, .refl _, .cons _ (.cons _ h)⟩
      | cons_cons _ h => exact ⟨_, .refl _, .cons_cons _ (.cons _ h)⟩
    | cons_cons _ h =>
      cases h with
      | cons _ h => exact ⟨_, .refl _, .cons _ (.cons_cons _ h)⟩
      | cons_cons _ h => exact ⟨_, .swap _ _ _, .cons_cons _ (.cons_cons _ h)⟩
  | trans _ _ ih1 ih2 =>
    obtain ⟨G, g1, g2⟩ := ih1 h
    obtain ⟨G', g3, g4⟩ := ih2 g2
    exact ⟨G', g1.trans g3, g4⟩
theorem SubP.trans {F1 F2 F3 : FP} (h1 : SubP F1 F2) (h2 : SubP F2 F3) : SubP F1 F3 := by
  obtain ⟨A, a1, a2⟩ := h1
  obtain ⟨B, b1, b2⟩ := h2
  obtain ⟨C, c1, c2⟩ := perm_sub (F' := B) a2 b1
  exact ⟨C, a1.trans c1, c2.trans b2⟩
theorem SubP.app {F1 F1' F2 F2' : FP} (h1 : SubP F1 F1') (h2 : SubP F2 F2') : SubP (F1 ++ F2) (F1' ++ F2') := by
  obtain ⟨A, a1, a2⟩ := h1
  obtain ⟨B, b1, b2⟩ := h2
  exact ⟨A ++ B, a1.append b1, a2.append b2⟩
theorem ND.subP {F F' : FP} (h : ND F) (s : SubP F' F) : ND F' := by
  obtain ⟨F0, h1, h2⟩ := s
  exact (h.sub h2).perm h1
theorem ND.ne {F1 F2 : FP} (h : ND (F1 ++ F2)) {b c : Bool} {a : Addr} (h1 : (b, a) ∈ F1) (h2 : (c, a) ∈ F2) : False := by
  unfold ND at h
  rw [List.map_append, List.nodup_append] at h
  exact h.2.2 a (List.mem_map.mpr ⟨_, h1, rfl⟩) a (List.mem_map.mpr ⟨_, h2, rfl⟩) rfl

section
variable {K : PySem.W.Frag} {C : Ctx} {R G H G' H' : Hp} {it it' : Item} {v v' : V} {F F1 F2 : FP} {σ : St} {env env' : VEnv} {fr fr' top : VFr} {p : Addr} {o : HO}
theorem RFr.split : ∀ {top fr : VFr} {F : FP}, RFr K R G H (top ++ fr) F → ∃ Ft Fr, F = Ft ++ Fr ∧ RFr K R G H top Ft ∧ RFr K R G H fr Fr
  | [], _, F, h => ⟨[], F, rfl, .nil, h⟩
  | _ :: _, _, _, .cons r h => by
    obtain ⟨Ft, Fr, e, h1, h2⟩ := RFr.split h
    exact ⟨_, Fr, by rw [e, List.append_assoc], .cons r h1, h2⟩
theorem RFr.join : ∀ {top : VFr} {Ft Fr : FP}, RFr K R G H top Ft → RFr K R G H fr Fr → RFr K R G H (top ++ fr) (Ft ++ Fr)
  | _, _, _, .nil, h => h
  | _, _, _, .cons r h1, h => by rw [List.append_assoc]; exact .cons r (RFr.join h1 h)

/-- the general end of a step that leaves the slots' footprint alone -/
theorem ERG.mk' (e : ERG K C σ H env fr' G F1 F2) {Fn : FP} (hG : Same G G') (hGH : Same G' H') (hH : ∀ a u, H a = some u → H' a = some u)
    (hfr : ∀ a, G' a ≠ none → G a ≠ none ∨ C.H0 a = none) (r : RFr K C.H0 G' H' fr Fn) (nd : ND (F1 ++ Fn)) (nf : ∀ p ∈ F1 ++ Fn, C.H0 p.2 = none ∧ p.2 ∉ C.L.map (·.1) ∧ (p.1 = true → G' p.2 = none)) : ER K C σ H' env fr :=
  ⟨G', F1, Fn, hGH, fun a u q => hH a u (e.h0 a u q), fun a u q => hG a u (e.bg a u q), e.b0, fun a q => (hfr a q).elim (e.fresh a) .inr, e.sl.ext hG (fun a u _ => hH a u) (.inr fun a u _ => hH a u), r, nd, nf, e.fx, fun a ha => (e.lx a ha).imp fun u q => hH a u q⟩

theorem ND.r {F1 Fn F2 : FP} (h : ND (F1 ++ F2)) (s : SubP Fn F2) : ND (F1 ++ Fn) := h.subP ((SubP.refl F1).app s)
/-- the parts that are being reckoned, in view -/
theorem ER.tops (e : ER K C σ H env (top ++ fr)) : ∃ G Ft, RFr K C.H0 G H top Ft ∧ Same G H ∧ ND Ft ∧ (∀ q ∈ Ft, q.1 = true → G q.2 = none) ∧
    (∀ new Fn, RFr K C.H0 G H new Fn → SubP Fn Ft → ER K C σ H env (new ++ fr)) ∧
    (∀ p o, H p = none → ∀ new Fn F0, RFr K C.H0 G (upd H p o) new Fn → SubP Fn ((true, p) :: F0) → SubP F0 Ft → ER K C σ (upd H p o) env (new ++ fr)) := by
  obtain ⟨G, F1, F2, e⟩ := e
  obtain ⟨Ft, Fr, rfl, h1, h2⟩ := e.fr.split
  refine ⟨G, Ft, h1, e.gh, ?_, fun q hq z => (e.nf q (List.mem_append_right _ (List.mem_append_left _ hq))).2.2 z, fun new Fn r s => ?_, fun p o hp new Fn F0 r s s0 => ?_⟩
  · exact e.nd.sub ((List.sublist_append_left Ft Fr).trans (List.sublist_append_right F1 _))
  · have sp : SubP (Fn ++ Fr) (Ft ++ Fr) := s.app (SubP.refl _)
    exact e.mk' (fun _ _ q => q) e.gh (fun _ _ q => q) (fun _ q => .inl q) (r.join h2) (e.nd.r sp) fun q hq => e.nf q ((List.mem_append.mp hq).elim (fun z => List.mem_append_left _ z) fun z => List.mem_append_right _ (sp.mem z))
  · have hs : Same H (upd H p o) := fun a u q => by rw [upd_ne (ne_of_none q hp)]; exact q
    have hp0 : C.H0 p = none := by
      cases z : C.H0 p with
      | none => rfl
      | some u =>
        exfalso
        have : ∃ u', lk C.L C.H0 p = some u' := by
          unfold lk
          cases C.L.lookup p with
          | none => exact ⟨u, z⟩
          | some o => exact ⟨_, by rw [z]; rfl⟩
        obtain ⟨u', q⟩ := this
        rw [e.h0 p u' q] at hp
        cases hp
    have hGp : G p = none := by
      cases z : G p with
      | none => rfl
      | some u => rw [e.gh p u z] at hp; cases hp
    have hpL : p ∉ C.L.map (·.1) := fun z => by
      obtain ⟨u, hu⟩ := e.lx p z
      rw [hp] at hu
      cases hu
    have sp : SubP (Fn ++ Fr) ((true, p) :: (Ft ++ Fr)) := by
      have := (s.trans (F3 := (true, p) :: Ft) (by
        obtain ⟨A, a1, a2⟩ := s0
        exact ⟨(true, p) :: A, .cons _ a1, .cons_cons _ a2⟩)).app (SubP.refl Fr)
      exact this
    have hpf : ∀ q ∈ F1 ++ (Ft ++ Fr), q.2 ≠ p := fun q hq z => by
      obtain ⟨u, hu⟩ := e.there q hq
      rw [z, hp] at hu
      cases hu
    refine e.mk' (fun _ _ q => q) (fun a u q => hs a u (e.gh a u q)) (fun a u q => hs a u q) (fun _ q => .inl q) (r.join (h2.ext (fun _ _ q => q) (fun a u _ q => hs a u q) (.inr fun a u _ => hs a u))) ?_ fun q hq => ?_
    · refine ND.subP (F := F1 ++ (true, p) :: (Ft ++ Fr)) ?_ ((SubP.refl F1).app sp)
      have pm : (F1 ++ (true, p) :: (Ft ++ Fr)).Perm ((true, p) :: (F1 ++ (Ft ++ Fr))) := List.perm_middle
      refine ND.perm ?_ pm
      unfold ND
      rw [List.map_cons, List.nodup_cons]
      refine ⟨fun z => ?_, e.nd⟩
      obtain ⟨q, hq, e2⟩ := List.mem_map.mp z
      exact hpf q hq e2
    · rcases List.mem_append.mp hq with z | z
      · exact e.nf q (List.mem_append_left _ z)
      · rcases List.mem_cons.mp (sp.mem z) with rfl | z
        · exact ⟨hp0, hpL, fun _ => hGp⟩
        · exact e.nf q (List.mem_append_right _ z)
end
end VL

namespace VL
open PySem PySem.Spec PyProof.Rows L2

def M.still : M → Bool
  | .sh => true | .Z => true | .fz m => m.still | .A => false | .own _ => false
def scalarD : PyData → Bool
  | .none => true | .bool _ => true | .int _ => true | .str _ => true | _ => false
def Item.view : Item → Item
  | .dat d m => if scalarD d then .dat d .A else match m with
    | .sh => .dat d .sh
    | m => .vw d m
  | .ob C fl => .ov C fl
  | it => it
theorem RM.scal {G H G' H' : Hp} {d : PyData} {m : M} {v : V} {F : FP} (h : RM G H d m v F) (hs : scalarD d = true) (m' : M) : RM G' H' d m' v [] ∧ F = [] := by
  cases h <;> first | exact ⟨by constructor, rfl⟩ | cases hs
section
variable {K : PySem.W.Frag} {C : Ctx} {R G H G' H' : Hp} {it it' : Item} {v v' : V} {F F1 F2 : FP} {σ : St} {env env' : VEnv} {fr fr' top : VFr} {p : Addr} {o : HO} {d : PyData} {m : M}
theorem cv_still {S : Bool × Addr → Prop} : Cv G H G H (fun _ => M.sh) (fun _ => none) (fun m => m.still = true) S where
  ch := fun m h => by cases m <;> first | exact h | rfl | cases h
  comm := fun m _ => rfl
  fp := fun m a _ => by cases m <;> rfl
  loc := fun m a u p s h => by
    cases m with
    | sh => exact h
    | Z => exact h
    | fz _ => exact h
    | A => cases p
    | own _ => cases p
  locD := fun m a u p s _ h => by
    cases m with
    | sh => exact h
    | Z => exact .inl h
    | fz _ => exact .inl h
    | A => cases p
    | own _ => cases p
theorem RM.still (h : RM G H d m v F) (hm : m.still = true) : RM G H d .sh v [] := by
  have := RM.conv (cv_still (S := fun p => p ∈ F)) h hm fun _ h => h
  rwa [fm_none] at this
theorem RI.view (h : RI K R G H it v F) (hR : ∀ p ∈ F, R p.2 = none) : RI K R G H it.view v [] := by
  cases h with
  | dat r =>
    rename_i d m
    by_cases q : scalarD d = true
    · rw [show Item.view (.dat d m) = .dat d .A from if_pos q]
      exact .dat (r.scal q .A).1
    · rw [show Item.view (.dat d m) = _ from if_neg q]
      cases m <;> first | exact .vw r hR | (have e := r.sh_nil; subst e; exact .dat r)
  | vw r hr => exact .vw r hr
  | ro r => exact .ro r
  | ob e r => exact .ov e r (hR _ List.mem_cons_self) fun p hp => hR p (List.mem_cons_of_mem _ hp)
  | os e r => exact .os e r
  | ov e r h1 h2 => exact .ov e r h1 h2
theorem ER.push (e : ER K C σ H env fr) (h : ∀ {R G}, Same G H → RI K R G H it v []) : ER K C σ H env ((v, it) :: fr) := by
  obtain ⟨G, F1, F2, e⟩ := e
  exact ⟨G, F1, F2, e.gh, e.h0, e.bg, e.b0, e.fresh, e.sl, .cons (F := []) (h e.gh) e.fr, e.nd, e.nf, e.fx, e.lx⟩
theorem ER.pop (e : ER K C σ H env (top ++ fr)) : ER K C σ H env fr := by
  obtain ⟨G, Ft, r, gh, nd, nf, k, _⟩ := e.tops
  exact k [] [] .nil (.nil _)
theorem ER.view {i : Nat} (e : ER K C σ H env fr) (hi : env[i]? = some (some it)) : ∃ v, σ[i]? = some (some v) ∧ ER K C σ H env ((v, it.view) :: fr) := by
  obtain ⟨G, F1, F2, e⟩ := e
  obtain ⟨x, Fa, Fi, Fb, e1, e2, ⟨v, rfl, r⟩, k⟩ := e.sl.focus hi
  exact ⟨v, e1, G, F1, F2, e.gh, e.h0, e.bg, e.b0, e.fresh, e.sl, .cons (F := []) (r.view fun p hp => (e.nf p (by
    rw [e2]
    exact List.mem_append_left _ (List.mem_append_right _ (List.mem_append_left _ hp)))).1) e.fr, e.nd, e.nf, e.fx, e.lx⟩
/-- G with the written cells of F -/
def gadd (G H : Hp) (F : FP) : Hp := fun a => if G a = none ∧ (true, a) ∈ F then H a else G a
theorem gadd_same : Same G (gadd G H F) := fun a u q => by
  unfold gadd
  rw [if_neg (fun z => by rw [z.1] at q; cases q)]
  exact q
theorem gadd_hot {a : Addr} {u : HO} (h1 : (true, a) ∈ F) (h2 : G a = none) (h3 : H a = some u) : gadd G H F a = some u := by
  unfold gadd
  rw [if_pos ⟨h2, h1⟩]
  exact h3
theorem gadd_le (h : Same G H) : Same (gadd G H F) H := fun a u q => by
  unfold gadd at q
  split at q
  · exact q
  · exact h a u q
theorem gadd_new {a : Addr} (h : gadd G H F a ≠ none) : G a ≠ none ∨ (true, a) ∈ F := by
  by_cases z : G a = none
  · unfold gadd at h
    by_cases q : (true, a) ∈ F
    · exact .inr q
    · rw [if_neg (fun y => q y.2)] at h
      exact .inl h
  · exact .inl z
theorem gadd_none {a : Addr} (h1 : G a = none) (h2 : (true, a) ∉ F) : gadd G H F a = none := by
  unfold gadd
  rw [if_neg (fun z => h2 z.2)]
  exact h1
def coolI : Item → Item
  | .dat d m => .dat d m.frz
  | it => it
def shI : Item → Item
  | .dat d _ => .dat d .sh
  | it => it
def datF (fr : VFr) : Prop := ∀ p ∈ fr, ∃ d m, p.2 = .dat d m
theorem RFr.cool (h : RFr K R G H top F) : datF top → Same G G' → (∀ a u, (true, a) ∈ F → H a = some u → G' a = some u) → RFr K R G' H (top.map fun p => (p.1, coolI p.2)) (cold F) := by
  induction h with
  | nil => intro _ _ _; exact .nil
  | cons r _ ih =>
    rename_i v it fr F F' _
    intro hd hG hH
    obtain ⟨d, m, e⟩ := hd _ List.mem_cons_self
    simp only at e
    subst e
    cases r with
    | dat r =>
      rw [show cold (F ++ F') = cold F ++ cold F' from List.filterMap_append]
      exact .cons (.dat (r.freeze hG fun a u q => hH a u (List.mem_append_left _ q))) (ih (fun p hp => hd p (List.mem_cons_of_mem _ hp)) hG fun a u q => hH a u (List.mem_append_right _ q))
theorem RFr.sh (h : RFr K R G H top F) : datF top → Same G G' → (∀ a u, (true, a) ∈ F → H a = some u → G' a = some u) → RFr K R G' H (top.map fun p => (p.1, shI p.2)) [] := by
  induction h with
  | nil => intro _ _ _; exact .nil
  | cons r _ ih =>
    rename_i v it fr F F' _
    intro hd hG hH
    obtain ⟨d, m, e⟩ := hd _ List.mem_cons_self
    simp only at e
    subst e
    cases r with
    | dat r => exact .cons (F := []) (.dat (r.share hG fun a u q => hH a u (List.mem_append_left _ q))) (ih (fun p hp => hd p (List.mem_cons_of_mem _ hp)) hG fun a u q => hH a u (List.mem_append_right _ q))
/-- the parts on top are frozen; F': what is left of their footprint -/
theorem ER.freezeTop (e : ER K C σ H env (top ++ fr)) (f : VFr → VFr) (hf : ∀ {G G' F}, RFr K C.H0 G H top F → Same G G' → (∀ a u, (true, a) ∈ F → H a = some u → G' a = some u) → ∃ F', RFr K C.H0 G' H (f top) F' ∧ SubP F' (cold F)) : ER K C σ H env (f top ++ fr) := by
  obtain ⟨G, F1, F2, e⟩ := e
  obtain ⟨Ft, Fr, rfl, h1, h2⟩ := e.fr.split
  have nfT : ∀ q ∈ Ft, q ∈ F1 ++ (Ft ++ Fr) := fun q hq => List.mem_append_right _ (List.mem_append_left _ hq)
  have hH : ∀ a u, (true, a) ∈ Ft → H a = some u → gadd G H Ft a = some u := fun a u q z => gadd_hot q ((e.nf _ (nfT _ q)).2.2 rfl) z
  obtain ⟨F', r', s⟩ := hf (G' := gadd G H Ft) h1 gadd_same hH
  have ndc : ND (F1 ++ (cold Ft ++ Fr)) := by
    have := e.nd
    unfold ND at this ⊢
    simpa [List.map_append, cold_snd] using this
  have sp : SubP (F' ++ Fr) (cold Ft ++ Fr) := s.app (.refl _)
  have old : ∀ q ∈ F1 ++ Fr, C.H0 q.2 = none ∧ q.2 ∉ C.L.map (·.1) ∧ (q.1 = true → gadd G H Ft q.2 = none) := fun q hq => by
    have hq' : q ∈ F1 ++ (Ft ++ Fr) := (List.mem_append.mp hq).elim (fun z => List.mem_append_left _ z) fun z => List.mem_append_right _ (List.mem_append_right _ z)
    obtain ⟨n1, n2, n3⟩ := e.nf q hq'
    refine ⟨n1, n2, fun z => gadd_none (n3 z) fun y => ?_⟩
    have pm : (F1 ++ (Ft ++ Fr)).Perm ((F1 ++ Fr) ++ Ft) := by
      rw [List.append_assoc]
      exact List.Perm.append_left F1 List.perm_append_comm
    exact (e.nd.perm pm.symm).ne (b := q.1) (c := true) (a := q.2) hq y
  refine ERG.mk' (F2 := Ft ++ Fr) e (Fn := F' ++ Fr) gadd_same (gadd_le e.gh) (fun _ _ q => q) (fun a q => (gadd_new q).imp id fun z => (e.nf _ (nfT _ z)).1) (r'.join (h2.ext gadd_same (fun _ _ _ q => q) (.inr fun _ _ _ q => q))) (ndc.r sp) fun q hq => ?_
  rcases List.mem_append.mp hq with z | z
  · exact old q (List.mem_append_left _ z)
  · rcases List.mem_append.mp (sp.mem z) with z | z
    · obtain ⟨b1, b, hb⟩ := mem_cold z
      obtain ⟨n1, n2, n3⟩ := e.nf _ (nfT _ hb)
      exact ⟨n1, n2, fun y => by rw [b1] at y; cases y⟩
    · exact old q (List.mem_append_right _ z)
theorem ER.cool (e : ER K C σ H env (top ++ fr)) (hd : datF top) : ER K C σ H env (top.map (fun p => (p.1, coolI p.2)) ++ fr) :=
  e.freezeTop (List.map _) fun r hG hH => ⟨_, r.cool hd hG hH, .refl _⟩
theorem ER.share (e : ER K C σ H env (top ++ fr)) (hd : datF top) : ER K C σ H env (top.map (fun p => (p.1, shI p.2)) ++ fr) :=
  e.freezeTop (List.map _) fun r hG hH => ⟨[], r.sh hd hG hH, .nil _⟩
/-- a name's thing is taken out, the name holds nothing from then on -/
theorem ER.move {i : Nat} (e : ER K C σ H env fr) (hi : env[i]? = some (some it)) : ∃ v, σ[i]? = some (some v) ∧ ER K C σ H (env.set i none) ((v, it) :: fr) := by
  obtain ⟨G, F1, F2, e⟩ := e
  obtain ⟨x, Fa, Fi, Fb, e1, e2, ⟨v, rfl, r⟩, k⟩ := e.sl.focus hi
  subst e2
  have s' := k (G' := G) (H' := H) (fun _ _ q => q) (fun _ _ _ q => q) (.inr fun _ _ _ q => q) (o' := none) (x' := some v) (Fi' := []) rfl
  have es : σ.set i (some v) = σ := by
    obtain ⟨hl, hv⟩ := List.getElem?_eq_some_iff.mp e1
    rw [← hv, List.set_getElem_self]
  rw [es] at s'
  have pm : ((Fa ++ ([] ++ Fb)) ++ (Fi ++ F2)).Perm ((Fa ++ (Fi ++ Fb)) ++ F2) := by
    simp only [List.nil_append, List.append_assoc]
    refine List.Perm.append_left Fa ?_
    rw [← List.append_assoc, ← List.append_assoc]
    exact List.Perm.append_right F2 List.perm_append_comm
  exact ⟨v, e1, G, _, Fi ++ F2, e.gh, e.h0, e.bg, e.b0, e.fresh, s', .cons r e.fr, e.nd.perm pm, fun q hq => e.nf q (pm.mem_iff.mp hq), (fun o ho it' e' => by
    rcases List.mem_or_eq_of_mem_set ho with z | z
    · exact e.fx o z it' e'
    · rw [z] at e'; cases e'), e.lx⟩
/-- .. is stored -/
theorem ER.store {i : Nat} (e : ER K C σ H env ((v, it) :: fr)) (hi : i < env.length) (hf : it.fix) : ER K C (σ.set i (some v)) H (env.set i (some it)) fr := by
  obtain ⟨G, F1, F2, e⟩ := e
  obtain ⟨x, Fa, Fi, Fb, e1, e2, _, k⟩ := e.sl.focus (o := env[i]) (List.getElem?_eq_getElem hi)
  subst e2
  have hfr := e.fr
  cases hfr with
  | cons r hfr =>
    rename_i F F'
    have s' := k (G' := G) (H' := H) (fun _ _ q => q) (fun _ _ _ q => q) (.inr fun _ _ _ q => q) (o' := some it) (x' := some v) (Fi' := F) ⟨v, rfl, r⟩
    have sp : SubP ((Fa ++ (F ++ Fb)) ++ F') ((Fa ++ (Fi ++ Fb)) ++ (F ++ F')) := by
      refine ⟨(Fa ++ Fb) ++ (F ++ F'), ?_, ?_⟩
      · simp only [List.append_assoc]
        refine List.Perm.append_left Fa ?_
        rw [← List.append_assoc, ← List.append_assoc Fb]
        exact List.Perm.append_right F' List.perm_append_comm
      · exact List.Sublist.append (List.Sublist.append (.refl _) (List.sublist_append_right _ _)) (.refl _)
    exact ⟨G, _, F', e.gh, e.h0, e.bg, e.b0, e.fresh, s', hfr, e.nd.subP sp, fun q hq => e.nf q (sp.mem hq), (fun o ho it' e' => by
      rcases List.mem_or_eq_of_mem_set ho with z | z
      · exact e.fx o z it' e'
      · rw [z] at e'; cases e'; exact hf), e.lx⟩
theorem ER.drop {i : Nat} (e : ER K C σ H env fr) : ER K C σ H (env.set i none) fr := by
  by_cases hi : i < env.length
  · cases q : env[i] with
    | none => rw [← q, List.set_getElem_self]; exact e
    | some it =>
      obtain ⟨v, _, e'⟩ := e.move (i := i) (it := it) (by rw [List.getElem?_eq_getElem hi, q])
      exact e'.pop (top := [_])
  · rw [List.set_eq_of_length_le (by omega)]; exact e
/-- a name's thing is read from then on, never written; the part on top is its one owner -/
theorem ER.take {i : Nat} (e : ER K C σ H env fr) (hi : env[i]? = some (some (.dat d m))) : ∃ v, σ[i]? = some (some v) ∧ ER K C σ H (env.set i (some (.dat d .sh))) ((v, .dat d m.frz) :: fr) := by
  obtain ⟨v, hv, e1⟩ := e.move hi
  refine ⟨v, hv, ?_⟩
  have hil : i < env.length := (List.getElem?_eq_some_iff.mp hi).1
  have hd : datF [(v, Item.dat d m)] := fun p hp => by
    rw [List.mem_singleton] at hp
    subst hp
    exact ⟨d, m, rfl⟩
  have e3 := e1.freezeTop (top := [(v, Item.dat d m)]) (fun _ => [(v, Item.dat d .sh), (v, .dat d m.frz)]) fun {G G' F} r hG hH => by
    have r1 := r.cool hd hG hH
    refine ⟨[] ++ cold F, .cons ?_ r1, .refl _⟩
    cases r with
    | cons r0 _ =>
      cases r0 with
      | dat r0 => exact .dat (r0.share hG fun a u q => hH a u (List.mem_append_left _ q))
  have e4 := ER.store (i := i) e3 (by simpa using hil) trivial
  rw [List.set_set] at e4
  have es : σ.set i (some v) = σ := by
    obtain ⟨hl, hv'⟩ := List.getElem?_eq_some_iff.mp hv
    rw [← hv', List.set_getElem_self]
  rw [es] at e4
  exact e4
end
end VL
namespace VL
open PySem PySem.Spec PyProof.Rows L2
section
variable {K : PySem.W.Frag} {C : Ctx} {R G H G' H' : Hp} {it it' : Item} {v v' : V} {F F1 F2 : FP} {σ : St} {env env' : VEnv} {fr fr' top : VFr} {p : Addr} {o : HO} {d : PyData} {m : M}
/-- a cell of a name's thing is written; the parts on top are used up -/
theorem ER.mutate {i : Nat} (e : ER K C σ H env (top ++ fr)) (hf : fixF fr) (hi : env[i]? = some (some it)) : ∃ v G Fi Ft, σ[i]? = some (some v) ∧ RI K C.H0 G H it v Fi ∧ RFr K C.H0 G H top Ft ∧ Same G H ∧ ND (Fi ++ Ft) ∧ it.fix ∧
    (∀ a o, (true, a) ∈ Fi → ∀ it' Fi' new Fn, RI K C.H0 G (upd H a o) it' v Fi' → it'.fix → RFr K C.H0 G (upd H a o) new Fn → SubP (Fi' ++ Fn) (Fi ++ Ft) → ER K C σ (upd H a o) (env.set i (some it')) (new ++ fr)) := by
  obtain ⟨G, F1, F2, e⟩ := e
  obtain ⟨x, Fa, Fi, Fb, e1, e2, ⟨v, rfl, r⟩, k⟩ := e.sl.focus hi
  subst e2
  obtain ⟨Ft, Fr, rfl, h1, h2⟩ := e.fr.split
  have es : σ.set i (some v) = σ := by
    obtain ⟨hl, hv⟩ := List.getElem?_eq_some_iff.mp e1
    rw [← hv, List.set_getElem_self]
  have pm : ((Fa ++ (Fi ++ Fb)) ++ (Ft ++ Fr)).Perm ((Fi ++ Ft) ++ (Fa ++ Fb ++ Fr)) := by
    have a1 : (Fa ++ (Fi ++ Fb)).Perm (Fi ++ (Fa ++ Fb)) := by
      rw [← List.append_assoc, ← List.append_assoc]
      exact List.Perm.append_right Fb List.perm_append_comm
    refine (a1.append (.refl _)).trans ?_
    simp only [List.append_assoc]
    refine List.Perm.append_left Fi ?_
    rw [← List.append_assoc, ← List.append_assoc, ← List.append_assoc Ft]
    rw [← List.append_assoc]
    refine List.Perm.append_right Fr ?_
    rw [List.append_assoc Ft]
    exact List.perm_append_comm
  have nd1 := e.nd.perm pm.symm
  have hit : it.fix := by
    obtain ⟨hl, hv⟩ := List.getElem?_eq_some_iff.mp hi
    exact e.fx _ (List.getElem_mem hl) it hv
  refine ⟨v, G, Fi, Ft, e1, r, h1, e.gh, nd1.sub (List.sublist_append_left _ _), hit, fun a o ha it' Fi' new Fn r' hfx' rn sp => ?_⟩
  have hane : ∀ q ∈ Fa ++ Fb ++ Fr, q.2 ≠ a := fun q hq z => by
    subst z
    exact nd1.ne (b := true) (c := q.1) (a := q.2) (List.mem_append_left _ ha) hq
  have hain : (true, a) ∈ (Fa ++ (Fi ++ Fb)) ++ (Ft ++ Fr) := List.mem_append_left _ (List.mem_append_right _ (List.mem_append_left _ ha))
  obtain ⟨n1, n2, n3⟩ := e.nf _ hain
  have n3 := n3 rfl
  have hG : ∀ {H0 : Hp}, H0 a = none → Same H0 H → Same H0 (upd H a o) := fun {H0} hn hs b u q => by
    rw [upd_ne (ne_of_none q hn)]
    exact hs b u q
  have hl : lk C.L C.H0 a = none := by
    unfold lk
    split
    · simp only at n1; rw [n1]; rfl
    · exact n1
  have hcell : ∀ (b : Addr) (u : HO), (true, b) ∈ Fa ++ Fb ++ Fr → H b = some u → upd H a o b = some u := fun b u hq q => by
    rw [upd_ne (hane _ hq)]
    exact q
  have s' := k (G' := G) (H' := upd H a o) (fun _ _ q => q) (fun b u q => hcell b u (List.mem_append_left _ q)) (.inl e.fx) (o' := some it') (x' := some v) (Fi' := Fi') ⟨v, rfl, r'⟩
  rw [es] at s'
  have sp2 : SubP ((Fa ++ (Fi' ++ Fb)) ++ (Fn ++ Fr)) ((Fa ++ (Fi ++ Fb)) ++ (Ft ++ Fr)) := by
    have q1 : SubP ((Fi' ++ Fn) ++ (Fa ++ Fb ++ Fr)) ((Fi ++ Ft) ++ (Fa ++ Fb ++ Fr)) := sp.app (.refl _)
    have pm' : ((Fa ++ (Fi' ++ Fb)) ++ (Fn ++ Fr)).Perm ((Fi' ++ Fn) ++ (Fa ++ Fb ++ Fr)) := by
      have a1 : (Fa ++ (Fi' ++ Fb)).Perm (Fi' ++ (Fa ++ Fb)) := by
        rw [← List.append_assoc, ← List.append_assoc]
        exact List.Perm.append_right Fb List.perm_append_comm
      refine (a1.append (.refl _)).trans ?_
      simp only [List.append_assoc]
      refine List.Perm.append_left Fi' ?_
      rw [← List.append_assoc, ← List.append_assoc, ← List.append_assoc Fn]
      rw [← List.append_assoc]
      refine List.Perm.append_right Fr ?_
      rw [List.append_assoc Fn]
      exact List.perm_append_comm
    exact (SubP.of_perm pm').trans (q1.trans (SubP.of_perm pm.symm))
  refine ⟨G, _, Fn ++ Fr, hG n3 e.gh, hG hl e.h0, e.bg, e.b0, e.fresh, s', rn.join (h2.ext (fun _ _ q => q) (fun b u q => hcell b u (List.mem_append_right _ q)) (.inl hf)), e.nd.subP sp2, fun q hq => e.nf q (sp2.mem hq), (fun o' ho it2 e' => ?_), fun b hb => ?_⟩
  · rcases List.mem_or_eq_of_mem_set ho with z | z
    · exact e.fx o' z it2 e'
    · rw [z] at e'; cases e'; exact hfx'
  · by_cases hba : b = a
    · exact ⟨o, by rw [hba]; exact upd_same⟩
    · rw [upd_ne hba]
      exact e.lx b hb
end
end VL

namespace VL
open PySem PySem.Spec PyProof.Rows L2

def leafD : PyData → Bool
  | .list ds => ds.all scalarD
  | .tuple ds => ds.all scalarD
  | _ => false
def canon (d : PyData) : M → M
  | .own m => if leafD d then .A else .own m
  | m => m
def nrm : Item → Option Item
  | .dat d m => if scalarD d then some (.dat d .A) else some (.dat d m)
  | .vw d m => if scalarD d then some (.dat d .A) else if m.still then some (.dat d .sh) else none
  | .ro d => if scalarD d then some (.dat d .A) else some (.ro d)
  | .ov _ _ => none
  | it => some it
def Item.data : Item → Option PyData
  | .dat d _ => some d
  | .vw d _ => some d
  | .ro d => some d
  | _ => none

section
variable {K : PySem.W.Frag} {C : Ctx} {R G H G' H' : Hp} {it it' : Item} {v v' : V} {F F1 F2 : FP} {σ : St} {env env' : VEnv} {fr fr' top : VFr} {p : Addr} {o : HO} {d : PyData} {m : M}
theorem dpScal (h : Dp K G v d) (hs : scalarD d = true) (m' : M) : RM G' H' d m' v [] := by
  cases h <;> first | constructor | cases hs
theorem RMs.leaf : ∀ {ds : List PyData} {vs : List V} {F : FP}, RMs G H ds m vs F → ds.all scalarD = true → ∀ m', RMs G' H' ds m' vs [] ∧ F = []
  | [], _, _, .nil, _, _ => ⟨.nil, rfl⟩
  | _ :: _, _, _, .cons r rs, hs, m' => by
    rw [List.all_cons, Bool.and_eq_true] at hs
    obtain ⟨a1, a2⟩ := r.scal (G' := G') (H' := H') hs.1 m'
    obtain ⟨b1, b2⟩ := RMs.leaf rs hs.2 m'
    subst a2 b2
    exact ⟨.cons (F := []) (F' := []) a1 b1, rfl⟩
theorem RM.canon (h : RM G H d m v F) : RM G H d (canon d m) v F := by
  cases m with
  | own m =>
    show RM G H d (if leafD d = true then M.A else .own m) v F
    by_cases q : leafD d = true
    · rw [if_pos q]
      cases h with
      | lst l hs =>
        obtain ⟨h1, h2⟩ := hs.leaf (G' := G) (H' := H) q .A
        subst h2
        exact .lst (m := .A) l h1
      | tup l hs =>
        obtain ⟨h1, h2⟩ := hs.leaf (G' := G) (H' := H) q .A
        subst h2
        exact .tup (m := .A) l h1
      | _ => cases q
    · rw [if_neg q]; exact h
  | _ => exact h
theorem RI.nrm (h : RI K R G H it v F) (e : nrm it = some it') : ∃ F', RI K R G H it' v F' ∧ SubP F' F := by
  cases h with
  | dat r =>
    simp only [VL.nrm] at e
    split at e
    · rename_i q; cases e; exact ⟨[], .dat (r.scal q .A).1, .nil _⟩
    · cases e; exact ⟨_, .dat r, .refl _⟩
  | vw r hr =>
    simp only [VL.nrm] at e
    split at e
    · rename_i q; cases e; exact ⟨[], .dat (r.scal q .A).1, .nil _⟩
    · split at e
      · rename_i q; cases e; exact ⟨[], .dat (r.still q), .nil _⟩
      · cases e
  | ro r =>
    simp only [VL.nrm] at e
    split at e
    · rename_i q; cases e; exact ⟨[], .dat (dpScal r q .A), .nil _⟩
    · cases e; exact ⟨_, .ro r, .refl _⟩
  | ob e1 r => cases e; exact ⟨_, .ob e1 r, .refl _⟩
  | os e1 r => cases e; exact ⟨_, .os e1 r, .refl _⟩
  | ov e1 r _ _ => cases e
theorem nrm_fix (e : nrm it = some it') : it'.fix := by
  cases it with
  | dat d m => simp only [VL.nrm] at e; split at e <;> cases e <;> trivial
  | vw d m =>
    simp only [VL.nrm] at e
    split at e
    · cases e; trivial
    · split at e <;> cases e; trivial
  | ro d => simp only [VL.nrm] at e; split at e <;> cases e <;> trivial
  | ob => cases e; trivial
  | os => cases e; trivial
  | ov => cases e
theorem ER.nrm (e : ER K C σ H env ((v, it) :: fr)) (h : nrm it = some it') : ER K C σ H env ((v, it') :: fr) := by
  obtain ⟨G, Ft, r, gh, nd, nf, k, _⟩ := ER.tops (top := [(v, it)]) e
  cases r with
  | cons r r0 =>
    cases r0
    obtain ⟨F', r', s⟩ := r.nrm h
    exact k [(v, it')] (F' ++ []) (.cons r' .nil) (s.app (.refl _))
end

/-! ### judgements -/
abbrev TVE := VEnv → (Item → VEnv → Prop) → Prop
abbrev TVT := VEnv → (Bool → VEnv → Prop) → Prop
abbrev TVA := VEnv → (List Item → VEnv → Prop) → Prop
structure VEnds where
  nx : VEnv → Prop
  rt : Item → Prop
  bk : VEnv → Prop := fun _ => False
  ct : VEnv → Prop := fun _ => False
abbrev TVS := VEnds → VEnv → Prop
abbrev TVG := Item → VEnv → (VEnv → Prop) → Prop

def liftE (K : PySem.W.Frag) (t : TVE) : TE := fun σ H Q => ∃ C env fr, ER K C σ H env fr ∧ t env fun it env' => ∀ v H', ER K C σ H' env' ((v, it) :: fr) → Q v H'
def liftT (K : PySem.W.Frag) (t : TVT) : TT := fun σ H Q => ∃ C env fr, ER K C σ H env fr ∧ t env fun b env' => ∀ H', ER K C σ H' env' fr → Q b H'
def liftA (K : PySem.W.Frag) (t : TVA) : TA := fun σ H Q => ∃ C env fr, ER K C σ H env fr ∧ t env fun its env' => ∀ vs H', vs.length = its.length → ER K C σ H' env' ((vs.zip its).reverse ++ fr) → Q vs H'
/-- on its own in a statement: no views are about -/
def liftM (K : PySem.W.Frag) (t : TVE) : TE := fun σ H Q => ∃ C env fr, ER K C σ H env fr ∧ fixF fr ∧ t env fun it env' => ∀ v H', ER K C σ H' env' ((v, it) :: fr) → Q v H'
def liftN (K : PySem.W.Frag) (t : TVT) : TT := fun σ H Q => ∃ C env fr, ER K C σ H env fr ∧ fixF fr ∧ t env fun b env' => ∀ H', ER K C σ H' env' fr → Q b H'
def liftD (K : PySem.W.Frag) (C : Ctx) (fr : VFr) (D : Ends) : VEnds :=
  ⟨fun env' => ∀ σ' H', ER K C σ' H' env' fr → D.nx σ' H', fun it => ∀ σ' v H', ER K C σ' H' [] [(v, it)] → D.rt v H',
    fun env' => ∀ σ' H', ER K C σ' H' env' fr → D.bk σ' H', fun env' => ∀ σ' H', ER K C σ' H' env' fr → D.ct σ' H'⟩
def liftS (K : PySem.W.Frag) (t : TVS) : TS := fun D σ H => ∃ C env fr, ER K C σ H env fr ∧ fixF fr ∧ t (liftD K C fr D) env
/-- names in S alone are stored -/
def Keeps (S : List Nat) (σ σ' : St) : Prop := ∀ us : List Nat, (∀ s ∈ S, s ∈ us) → L2.wipe σ' us = L2.wipe σ us
def liftG (K : PySem.W.Frag) (S : List Nat) (t : TVG) : TG := fun v σ H Q => ∃ C env it fr, ER K C σ H env ((v, it) :: fr) ∧ t it env fun env' => ∀ σ' H', Keeps S σ σ' → ER K C σ' H' env' fr → Q σ' H'

def MonoE (t : TVE) : Prop := ∀ env Q Q', (∀ it env', Q it env' → Q' it env') → t env Q → t env Q'
def MonoT (t : TVT) : Prop := ∀ env Q Q', (∀ b env', Q b env' → Q' b env') → t env Q → t env Q'
def MonoA (t : TVA) : Prop := ∀ env Q Q', (∀ its env', Q its env' → Q' its env') → t env Q → t env Q'
structure VEnds.le (D D' : VEnds) : Prop where
  nx : ∀ e, D.nx e → D'.nx e
  rt : ∀ e, D.rt e → D'.rt e
  bk : ∀ e, D.bk e → D'.bk e
  ct : ∀ e, D.ct e → D'.ct e
def MonoS (t : TVS) : Prop := ∀ env D D', VEnds.le D D' → t D env → t D' env
def MonoG (t : TVG) : Prop := ∀ it env Q Q', (∀ env', Q env' → Q' env') → t it env Q → t it env Q'

structure VE (X : Cx) (e : Expr) (t : TVE) : Prop where
  pe : PE X e (liftE X.K t)
  mono : MonoE t
structure VM (X : Cx) (e : Expr) (t : TVE) : Prop where
  pe : PE X e (liftM X.K t)
  mono : MonoE t
structure VT (X : Cx) (e : Expr) (t : TVT) : Prop where
  pt : PT X e (liftT X.K t)
  mono : MonoT t
structure VW (X : Cx) (e : Expr) (t : TVT) : Prop where
  pw : PW X e (liftT X.K t)
  mono : MonoT t
structure VN (X : Cx) (e : Expr) (t : TVT) : Prop where
  pt : PT X e (liftN X.K t)
  mono : MonoT t
structure VA (X : Cx) (es : List Expr) (t : TVA) : Prop where
  pa : PA X es (liftA X.K t)
  mono : MonoA t
structure VS (X : Cx) (st : Stmt) (t : TVS) : Prop where
  ps : PS X st (liftS X.K t)
  mono : MonoS t
structure VSs (X : Cx) (st : List Stmt) (t : TVS) : Prop where
  ps : PSs X st (liftS X.K t)
  mono : MonoS t
structure VG (X : Cx) (tg : Expr) (S : List Nat) (t : TVG) : Prop where
  pg : PG X tg (liftG X.K S t)
  mono : MonoG t

theorem PEweak {X : Cx} {e : Expr} {t t' : TE} (h : PE X e t) (w : ∀ σ H Q, t' σ H Q → t σ H Q) : PE X e t' := ⟨fun pins s σ H Q I q => h.run pins s σ H Q I (w _ _ _ q)⟩
theorem PTweak {X : Cx} {e : Expr} {t t' : TT} (h : PT X e t) (w : ∀ σ H Q, t' σ H Q → t σ H Q) : PT X e t' := ⟨fun pins s σ H Q I q => h.run pins s σ H Q I (w _ _ _ q)⟩
theorem PWweak {X : Cx} {e : Expr} {t t' : TT} (h : PW X e t) (w : ∀ σ H Q, t' σ H Q → t σ H Q) : PW X e t' := ⟨fun wh pins s σ H Q I q => h.run wh pins s σ H Q I (w _ _ _ q)⟩
theorem PAweak {X : Cx} {e : List Expr} {t t' : TA} (h : PA X e t) (w : ∀ σ H Q, t' σ H Q → t σ H Q) : PA X e t' := ⟨fun pos pins s σ H Q I q => h.run pos pins s σ H Q I (w _ _ _ q)⟩
theorem PSweak {X : Cx} {e : Stmt} {t t' : TS} (h : PS X e t) (w : ∀ D σ H, t' D σ H → t D σ H) : PS X e t' := ⟨fun pins s σ H D I q => h.run pins s σ H D I (w _ _ _ q)⟩
theorem PSsweak {X : Cx} {e : List Stmt} {t t' : TS} (h : PSs X e t) (w : ∀ D σ H, t' D σ H → t D σ H) : PSs X e t' := ⟨fun pins s σ H D I q => h.run pins s σ H D I (w _ _ _ q)⟩
theorem PGweak {X : Cx} {e : Expr} {t t' : TG} (h : PG X e t) (w : ∀ v σ H Q, t' v σ H Q → t v σ H Q) : PG X e t' := ⟨fun pins s σ H v u Q I r q => h.run pins s σ H v u Q I r (w _ _ _ _ q)⟩

section
variable {X : Cx} {e e1 e2 : Expr} {es : List Expr} {t ta tb tc : TVE} {tt tu : TVT} {tA : TVA} {pos : Pos}
theorem VE.vm (h : VE X e t) : VM X e t := ⟨PEweak h.pe fun σ H Q ⟨C, env, fr, er, _, q⟩ => ⟨C, env, fr, er, q⟩, h.mono⟩
theorem VT.vn (h : VT X e tt) : VN X e tt := ⟨PTweak h.pt fun σ H Q ⟨C, env, fr, er, _, q⟩ => ⟨C, env, fr, er, q⟩, h.mono⟩

/-! ### constants, names -/
def tvC (d : PyData) (env : VEnv) (Q : Item → VEnv → Prop) : Prop := Q (.dat d .A) env
theorem monoC (d : PyData) : MonoE (tvC d) := fun env Q Q' h q => h _ _ q
theorem ve_int {i j pos} : VE X (.Constant (.int i) j pos) (tvC (.int i)) := ⟨PEweak pe_int fun σ H Q ⟨C, env, fr, er, q⟩ => q _ _ (er.push fun _ => .dat (.int i)), monoC _⟩
theorem ve_bl {b j pos} : VE X (.Constant (.bool b) j pos) (tvC (.bool b)) := ⟨PEweak pe_bl fun σ H Q ⟨C, env, fr, er, q⟩ => q _ _ (er.push fun _ => .dat (.bl b)), monoC _⟩
theorem ve_non {j pos} : VE X (.Constant .none j pos) (tvC .none) := ⟨PEweak pe_non fun σ H Q ⟨C, env, fr, er, q⟩ => q _ _ (er.push fun _ => .dat .non), monoC _⟩
theorem ve_str {x j pos} : VE X (.Constant (.str x) j pos) (tvC (.str x)) := ⟨PEweak pe_str fun σ H Q ⟨C, env, fr, er, q⟩ => q _ _ (er.push fun _ => .dat (.str x)), monoC _⟩
/-- a name, looked at -/
def tvV (i : Nat) (env : VEnv) (Q : Item → VEnv → Prop) : Prop := match env[i]? with
  | some (some it) => Q it.view env
  | _ => False
theorem monoV (i : Nat) : MonoE (tvV i) := fun env Q Q' h q => by
  unfold tvV at q ⊢
  split at q <;> first | exact h _ _ q | exact q
theorem ve_var {i : Nat} {x : Str} {pos : Pos} (hp : PE X (.Name x pos) (tVar i)) : VE X (.Name x pos) (tvV i) := ⟨PEweak hp fun σ H Q ⟨C, env, fr, er, q⟩ => by
  unfold tvV at q
  split at q
  · rename_i it hi
    obtain ⟨v, hv, er'⟩ := er.view hi
    exact ⟨v, hv, q v H er'⟩
  · exact q.elim, monoV i⟩
/-- a name's thing handed on: the name is not used any more -/
def tvMv (i : Nat) (env : VEnv) (Q : Item → VEnv → Prop) : Prop := match env[i]? with
  | some (some it) => Q it (env.set i none)
  | _ => False
theorem ve_mv {i : Nat} {x : Str} {pos : Pos} (hp : PE X (.Name x pos) (tVar i)) : VE X (.Name x pos) (tvMv i) := ⟨PEweak hp fun σ H Q ⟨C, env, fr, er, q⟩ => by
  unfold tvMv at q
  split at q
  · rename_i it hi
    obtain ⟨v, hv, er'⟩ := er.move hi
    exact ⟨v, hv, q v H er'⟩
  · exact q.elim, fun env Q Q' h q => by
  unfold tvMv at q ⊢
  split at q <;> first | exact h _ _ q | exact q⟩
/-- a name's thing handed on: the name only looks at it from now on -/
def tvTk (i : Nat) (env : VEnv) (Q : Item → VEnv → Prop) : Prop := match env[i]? with
  | some (some (.dat d m)) => Q (.dat d m.frz) (env.set i (some (.dat d .sh)))
  | some (some (.ro d)) => Q (.ro d) env
  | _ => False
theorem ve_tk {i : Nat} {x : Str} {pos : Pos} (hp : PE X (.Name x pos) (tVar i)) : VE X (.Name x pos) (tvTk i) := ⟨PEweak hp fun σ H Q ⟨C, env, fr, er, q⟩ => by
  unfold tvTk at q
  split at q
  · rename_i d m hi
    obtain ⟨v, hv, er'⟩ := er.take hi
    exact ⟨v, hv, q v H er'⟩
  · rename_i d hi
    obtain ⟨v, hv, er'⟩ := er.view hi
    exact ⟨v, hv, q v H er'⟩
  · exact q.elim, fun env Q Q' h q => by
  unfold tvTk at q ⊢
  split at q <;> first | exact h _ _ q | exact q⟩

/-! ### two operands -/
/-- what an operator asks of two items -/
abbrev R2V := Item → Item → (Item → Prop) → Prop
def Mono2 (r : R2V) : Prop := ∀ a b Q Q', (∀ it, Q it → Q' it) → r a b Q → r a b Q'
/-- the operator's rule by values is met by the rule by items -/
def Snd2 (K : PySem.W.Frag) (r : R2V) (R : R2) : Prop := ∀ (C : Ctx) (σ : St) (env : VEnv) (fr : VFr) (H : Hp) (x y : V) (a b : Item) (Q : VK) (Q' : Item → Prop),
  ER K C σ H env ((y, b) :: (x, a) :: fr) → r a b Q' → (∀ it v H', Q' it → ER K C σ H' env ((v, it) :: fr) → Q v H') → R x y H Q
def tvOp (r : R2V) (ta tb : TVE) (env : VEnv) (Q : Item → VEnv → Prop) : Prop := ta env fun a env1 => tb env1 fun b env2 => r a b fun it => Q it env2
theorem mono2 {r : R2V} (hr : Mono2 r) (ha : MonoE ta) (hb : MonoE tb) : MonoE (tvOp r ta tb) := fun env Q Q' h q =>
  ha _ _ _ (fun a env1 q1 => hb _ _ _ (fun b env2 q2 => hr _ _ _ _ (fun it q3 => h _ _ q3) q2) q1) q
theorem two_ok {r : R2V} {R : R2} (hs : Snd2 X.K r R) (ha : MonoE ta) (hb : MonoE tb) {σ : St} {H : Hp} {Q : VK} (h : liftE X.K (tvOp r ta tb) σ H Q) : tOp R (liftE X.K ta) (liftE X.K tb) σ H Q := by
  obtain ⟨C, env, fr, er, q⟩ := h
  refine ⟨C, env, fr, er, ha _ _ _ (fun a env1 q1 x H1 er1 => ⟨C, env1, (x, a) :: fr, er1, hb _ _ _ (fun b env2 q2 y H2 er2 => ?_) q1⟩) q⟩
  exact hs C σ env2 fr H2 x y a b Q _ er2 q2 fun it v H' q3 er3 => q3 v H' er3
theorem ve_op {op : Operator} {r : R2V} {R : R2} (ho : OpR X (binaryOp op) R) (hs : Snd2 X.K r R) (hr : Mono2 r) (ha : VE X e1 ta) (hb : VE X e2 tb) : VE X (.BinOp e1 op e2 pos) (tvOp r ta tb) :=
  ⟨PEweak (pe_op ho ha.pe hb.pe) fun _ _ _ h => two_ok hs ha.mono hb.mono h, mono2 hr ha.mono hb.mono⟩
theorem ve_cmp {op : CmpOp} {r : R2V} {R : R2} (ho : OpR X (compareOp op) R) (hs : Snd2 X.K r R) (hr : Mono2 r) (ha : VE X e1 ta) (hb : VE X e2 tb) (hm : behindInMarks op e2 = false) : VE X (.Compare e1 [op] [e2] pos) (tvOp r ta tb) :=
  ⟨PEweak (pe_cmpR ho ha.pe hb.pe hm) fun _ _ _ h => two_ok hs ha.mono hb.mono h, mono2 hr ha.mono hb.mono⟩
theorem ve_ix {r : R2V} {R : R2} (ho : IxR X R) (hs : Snd2 X.K r R) (hr : Mono2 r) (ha : VE X e1 ta) (hb : VE X e2 tb) (hm : PlainIx e2) : VE X (.Subscript e1 e2 pos) (tvOp r ta tb) :=
  ⟨PEweak (pe_ix ho ha.pe hb.pe hm) fun _ _ _ h => two_ok hs ha.mono hb.mono h, mono2 hr ha.mono hb.mono⟩
/-- a test by an expression that gives a truth -/
def tvB (t : TVE) (env : VEnv) (Q : Bool → VEnv → Prop) : Prop := t env fun it env' => match it.data with
  | some (.bool b) => Q b env'
  | _ => False
theorem monoB (h : MonoE ta) : MonoT (tvB ta) := fun env Q Q' k q => h _ _ _ (fun it env' q1 => by
  split at q1 <;> first | exact k _ _ q1 | exact q1.elim) q
section
variable {K : PySem.W.Frag} {C : Ctx} {R G H G' H' : Hp} {it it' : Item} {v v' : V} {F F1 F2 : FP} {σ : St} {env env' : VEnv} {fr fr' top : VFr} {p : Addr} {o : HO} {d : PyData} {m : M}
theorem RI.int {i : Int} (h : RI K R G H it v F) (e : it.data = some (.int i)) : v = .int i := by
  cases h with
  | dat r => cases e; cases r; rfl
  | vw r _ => cases e; cases r; rfl
  | ro r => cases e; cases r; rfl
  | _ => cases e
theorem RI.bool {i : Bool} (h : RI K R G H it v F) (e : it.data = some (.bool i)) : v = .bl i := by
  cases h with
  | dat r => cases e; cases r; rfl
  | vw r _ => cases e; cases r; rfl
  | ro r => cases e; cases r; rfl
  | _ => cases e
theorem ER.peek (e : ER K C σ H env ((v, it) :: fr)) : ∃ G F, RI K C.H0 G H it v F ∧ Same G H := by
  obtain ⟨G, Ft, r, gh, _⟩ := ER.tops (top := [(v, it)]) e
  cases r with
  | cons r r0 => exact ⟨G, _, r, gh⟩
end
theorem tvB_ok (ha : MonoE ta) {σ : St} {H : Hp} {Q : Bool → Hp → Prop} (h : liftT X.K (tvB ta) σ H Q) : tTest (liftE X.K ta) σ H Q := by
  obtain ⟨C, env, fr, er, q⟩ := h
  refine ⟨C, env, fr, er, ha _ _ _ (fun it env' q1 v H' er' => ?_) q⟩
  split at q1
  · rename_i b hb
    obtain ⟨G, F, r, gh⟩ := er'.peek
    exact ⟨b, r.bool hb, q1 H' (er'.pop (top := [_]))⟩
  · exact q1.elim
theorem vt_val (h : VE X e ta) (he : ∀ whole, isTrue e X.env whole = (do let v ← whole; standAt e.pos; holding [v] (truthy v)) := by intro _; rfl) : VT X e (tvB ta) :=
  ⟨PTweak (pt_val h.pe he) fun _ _ _ q => tvB_ok h.mono q, monoB h.mono⟩
theorem vt_cmp {op : CmpOp} {r : R2V} {R : R2} (ho : OpR X (compareOp op) R) (hs : Snd2 X.K r R) (hr : Mono2 r) (ha : VE X e1 ta) (hb : VE X e2 tb) (hm : behindInMarks op e2 = false) : VT X (.Compare e1 [op] [e2] pos) (tvB (tvOp r ta tb)) :=
  ⟨PTweak (pt_cmpR ho ha.pe hb.pe hm) fun σ H Q q => by
    obtain ⟨C, env, fr, er, q⟩ := tvB_ok (mono2 hr ha.mono hb.mono) q
    exact two_ok hs ha.mono hb.mono ⟨C, env, fr, er, q⟩, monoB (mono2 hr ha.mono hb.mono)⟩
end
end VL

namespace VL
open PySem PySem.Spec PyProof.Rows L2
section
variable {K : PySem.W.Frag} {C : Ctx} {R G H G' H' : Hp} {it it' a b : Item} {v v' x y : V} {F F1 F2 Fa Fb : FP} {σ : St} {env env' : VEnv} {fr fr' top : VFr} {p : Addr} {o : HO} {d : PyData} {m : M}
theorem ER.peek2 (e : ER K C σ H env ((y, b) :: (x, a) :: fr)) : ∃ G Fb Fa, RI K C.H0 G H b y Fb ∧ RI K C.H0 G H a x Fa ∧ Same G H ∧ (∀ new Fn, RFr K C.H0 G H new Fn → SubP Fn (Fb ++ Fa) → ER K C σ H env (new ++ fr)) ∧
    (∀ p o, H p = none → ∀ new Fn F0, RFr K C.H0 G (upd H p o) new Fn → SubP Fn ((true, p) :: F0) → SubP F0 (Fb ++ Fa) → ER K C σ (upd H p o) env (new ++ fr)) := by
  obtain ⟨G, Ft, r, gh, _, _, k1, k2⟩ := ER.tops (top := [(y, b), (x, a)]) e
  cases r with
  | cons r r0 =>
    cases r0 with
    | cons r1 r2 =>
      cases r2
      rw [List.append_nil] at k1 k2
      exact ⟨G, _, _, r, r1, gh, k1, k2⟩
theorem ER.peek1 (e : ER K C σ H env ((x, a) :: fr)) : ∃ G Fa, RI K C.H0 G H a x Fa ∧ Same G H ∧ (∀ new Fn, RFr K C.H0 G H new Fn → SubP Fn Fa → ER K C σ H env (new ++ fr)) ∧
    (∀ p o, H p = none → ∀ new Fn F0, RFr K C.H0 G (upd H p o) new Fn → SubP Fn ((true, p) :: F0) → SubP F0 Fa → ER K C σ (upd H p o) env (new ++ fr)) := by
  obtain ⟨G, Ft, r, gh, _, _, k1, k2⟩ := ER.tops (top := [(x, a)]) e
  cases r with
  | cons r r2 =>
    cases r2
    rw [List.append_nil] at k1 k2
    exact ⟨G, _, r, gh, k1, k2⟩
/-- the two on top give a plain value -/
theorem ER.plain2 (e : ER K C σ H env ((y, b) :: (x, a) :: fr)) (h : ∀ {G}, RM G H d m v []) : ER K C σ H env ((v, .dat d m) :: fr) := by
  obtain ⟨G, Fb, Fa, _, _, _, k, _⟩ := e.peek2
  exact k [(v, .dat d m)] [] (.cons (F := []) (.dat h) .nil) (.nil _)
theorem ER.plain1 (e : ER K C σ H env ((x, a) :: fr)) (h : ∀ {G}, RM G H d m v []) : ER K C σ H env ((v, .dat d m) :: fr) := by
  obtain ⟨G, Fa, _, _, k, _⟩ := e.peek1
  exact k [(v, .dat d m)] [] (.cons (F := []) (.dat h) .nil) (.nil _)
theorem lay_dict (kd : List (PyData × PyData)) : PyData.canLay0 (.dict kd) = false := by
  simp [PyData.canLay0]
theorem loc_le (h : Loc G H p o m) (gh : Same G H) : H p = some o := by cases m <;> first | exact h | exact gh _ _ h
mutual
theorem RM.dp (gh : Same G H) : ∀ {d : PyData} {m : M} {v : V} {F : FP}, RM G H d m v F → PyData.canLay0 d = true → Dp K H v d
  | _, _, _, _, .non, _ => .non
  | _, _, _, _, .bl b, _ => .bl b
  | _, _, _, _, .int i, _ => .int i
  | _, _, _, _, .str x, _ => .str x
  | _, _, _, _, .lst h hs, l => .lst (SqL.of (loc_le h gh)) (RMs.dp gh hs (by simpa [PyData.canLay0] using l))
  | _, _, _, _, .tup h hs, l => .tup (SqT.of (loc_le h gh)) (RMs.dp gh hs (by simpa [PyData.canLay0] using l))
  | _, _, _, _, .dk h hs, l => by rw [lay_dict] at l; cases l
  | _, _, _, _, .dt h hs, l => by rw [lay_dict] at l; cases l
theorem RMs.dp (gh : Same G H) : ∀ {ds : List PyData} {m : M} {vs : List V} {F : FP}, RMs G H ds m vs F → PyData.canLayAll0 ds = true → DpAll K H vs ds
  | _, _, _, _, .nil, _ => .nil
  | _, _, _, _, .cons h hs, l => by
    simp only [PyData.canLayAll0, Bool.and_eq_true] at l
    exact .cons (RM.dp gh h l.1) (RMs.dp gh hs l.2)
end
theorem RI.dp (h : RI K R G H it v F) (gh : Same G H) (e : it.data = some d) (l : PyData.canLay0 d = true) : Dp K H v d := by
  cases h with
  | dat r => cases e; exact r.dp gh l
  | vw r _ => cases e; exact r.dp gh l
  | ro r => cases e; exact dpExt gh r
  | _ => cases e
end

/-! ### ints -/
def rvI (c : Int → Int → Prop) (f : Int → Int → PyData) (a : Item) (b : Item) (Q : Item → Prop) : Prop := match a.data, b.data with
  | some (.int i), some (.int j) => c i j ∧ Q (.dat (f i j) .A)
  | _, _ => False
def rvI0 (f : Int → Int → PyData) (a : Item) (b : Item) (Q : Item → Prop) : Prop := match a.data, b.data with
  | some (.int i), some (.int j) => Q (.dat (f i j) .A)
  | _, _ => False
theorem rvI_mono {c : Int → Int → Prop} {f : Int → Int → PyData} : Mono2 (rvI c f) := fun a b Q Q' h q => by
  unfold rvI at q ⊢
  split at q
  · exact ⟨q.1, h _ q.2⟩
  · exact q.elim
theorem rvI0_mono {f : Int → Int → PyData} : Mono2 (rvI0 f) := fun a b Q Q' h q => by
  unfold rvI0 at q ⊢
  split at q
  · exact h _ q
  · exact q.elim
theorem snd_I {K : PySem.W.Frag} {c : Int → Int → Prop} {f : Int → Int → PyData} {g : Int → Int → V} (hg : ∀ {G H : Hp} i j, RM G H (f i j) .A (g i j) []) : Snd2 K (rvI c f) (rI c g) := by
  intro C σ env fr H x y a b Q Q' er q k
  unfold rvI at q
  split at q
  · rename_i i j e1 e2
    obtain ⟨G, Fb, Fa, rb, ra, _⟩ := er.peek2
    exact ⟨i, j, ra.int e1, rb.int e2, q.1, k _ _ H q.2 (er.plain2 (hg i j))⟩
  · exact q.elim
theorem snd_I0 {K : PySem.W.Frag} {f : Int → Int → PyData} {g : Int → Int → V} (hg : ∀ {G H : Hp} i j, RM G H (f i j) .A (g i j) []) : Snd2 K (rvI0 f) (rI0 g) := by
  intro C σ env fr H x y a b Q Q' er q k
  unfold rvI0 at q
  split at q
  · rename_i i j e1 e2
    obtain ⟨G, Fb, Fa, rb, ra, _⟩ := er.peek2
    exact ⟨i, j, ra.int e1, rb.int e2, k _ _ H q (er.plain2 (hg i j))⟩
  · exact q.elim
section
variable {X : Cx} {e1 e2 e3 : Expr} {ta tb tc : TVE} {pos : Pos}
abbrev tvAdd (ta tb : TVE) : TVE := tvOp (rvI0 fun i j => .int (i + j)) ta tb
abbrev tvSub (ta tb : TVE) : TVE := tvOp (rvI0 fun i j => .int (i - j)) ta tb
abbrev tvMul (ta tb : TVE) : TVE := tvOp (rvI CMul fun i j => .int (i * j)) ta tb
abbrev tvMod (ta tb : TVE) : TVE := tvOp (rvI (fun _ j => 0 < j) fun i j => .int (i % j)) ta tb
abbrev tvLt (ta tb : TVE) : TVE := tvOp (rvI0 fun i j => .bool (decide (i < j))) ta tb
abbrev tvLe (ta tb : TVE) : TVE := tvOp (rvI0 fun i j => .bool (decide (i ≤ j))) ta tb
abbrev tvGt (ta tb : TVE) : TVE := tvOp (rvI0 fun i j => .bool (decide (j < i))) ta tb
abbrev tvGe (ta tb : TVE) : TVE := tvOp (rvI0 fun i j => .bool (decide (j ≤ i))) ta tb
theorem ve_add (ha : VE X e1 ta) (hb : VE X e2 tb) : VE X (.BinOp e1 .Add e2 pos) (tvAdd ta tb) := ve_op op_add (snd_I0 fun _ _ => .int _) rvI0_mono ha hb
theorem ve_sub (ha : VE X e1 ta) (hb : VE X e2 tb) : VE X (.BinOp e1 .Sub e2 pos) (tvSub ta tb) := ve_op op_sub (snd_I0 fun _ _ => .int _) rvI0_mono ha hb
theorem ve_mul (ha : VE X e1 ta) (hb : VE X e2 tb) : VE X (.BinOp e1 .Mult e2 pos) (tvMul ta tb) := ve_op op_mul (snd_I fun _ _ => .int _) rvI_mono ha hb
theorem ve_mod (ha : VE X e1 ta) (hb : VE X e2 tb) : VE X (.BinOp e1 .Mod e2 pos) (tvMod ta tb) := ve_op op_mod (snd_I fun _ _ => .int _) rvI_mono ha hb
abbrev tvPow (ta tb : TVE) : TVE := tvOp (rvI CPow fun i j => .int (i ^ j.toNat)) ta tb
theorem ve_pow (ha : VE X e1 ta) (hb : VE X e2 tb) : VE X (.BinOp e1 .Pow e2 pos) (tvPow ta tb) := ve_op op_pow (snd_I fun _ _ => .int _) rvI_mono ha hb
abbrev tvDiv (ta tb : TVE) : TVE := tvOp (rvI CDiv fun i j => .int (i / j)) ta tb
theorem ve_div (ha : VE X e1 ta) (hb : VE X e2 tb) : VE X (.BinOp e1 .FloorDiv e2 pos) (tvDiv ta tb) := ve_op op_fdiv (snd_I fun _ _ => .int _) rvI_mono ha hb
theorem ve_lt (ha : VE X e1 ta) (hb : VE X e2 tb) : VE X (.Compare e1 [.Lt] [e2] pos) (tvLt ta tb) := ve_cmp op_lt (snd_I0 fun _ _ => .bl _) rvI0_mono ha hb (nomark _)
theorem ve_le (ha : VE X e1 ta) (hb : VE X e2 tb) : VE X (.Compare e1 [.LtE] [e2] pos) (tvLe ta tb) := ve_cmp op_le (snd_I0 fun _ _ => .bl _) rvI0_mono ha hb (nomark _)
theorem ve_gt (ha : VE X e1 ta) (hb : VE X e2 tb) : VE X (.Compare e1 [.Gt] [e2] pos) (tvGt ta tb) := ve_cmp op_gt (snd_I0 fun _ _ => .bl _) rvI0_mono ha hb (nomark _)
theorem ve_ge (ha : VE X e1 ta) (hb : VE X e2 tb) : VE X (.Compare e1 [.GtE] [e2] pos) (tvGe ta tb) := ve_cmp op_ge (snd_I0 fun _ _ => .bl _) rvI0_mono ha hb (nomark _)
theorem vt_lt (ha : VE X e1 ta) (hb : VE X e2 tb) : VT X (.Compare e1 [.Lt] [e2] pos) (tvB (tvLt ta tb)) := vt_cmp op_lt (snd_I0 fun _ _ => .bl _) rvI0_mono ha hb (nomark _)
theorem vt_le (ha : VE X e1 ta) (hb : VE X e2 tb) : VT X (.Compare e1 [.LtE] [e2] pos) (tvB (tvLe ta tb)) := vt_cmp op_le (snd_I0 fun _ _ => .bl _) rvI0_mono ha hb (nomark _)
theorem vt_gt (ha : VE X e1 ta) (hb : VE X e2 tb) : VT X (.Compare e1 [.Gt] [e2] pos) (tvB (tvGt ta tb)) := vt_cmp op_gt (snd_I0 fun _ _ => .bl _) rvI0_mono ha hb (nomark _)
theorem vt_ge (ha : VE X e1 ta) (hb : VE X e2 tb) : VT X (.Compare e1 [.GtE] [e2] pos) (tvB (tvGe ta tb)) := vt_cmp op_ge (snd_I0 fun _ _ => .bl _) rvI0_mono ha hb (nomark _)

/-! ### == != is in -/
def rvD (f : PyData → PyData → Bool) (a : Item) (b : Item) (Q : Item → Prop) : Prop := match a.data, b.data with
  | some d, some e => SeqAt.shaped d = true ∧ SeqAt.shaped e = true ∧ Q (.dat (.bool (f d e)) .A)
  | _, _ => False
theorem rvD_mono {f : PyData → PyData → Bool} : Mono2 (rvD f) := fun a b Q Q' h q => by
  unfold rvD at q ⊢
  split at q
  · exact ⟨q.1, q.2.1, h _ q.2.2⟩
  · exact q.elim
theorem lay_of {d : PyData} (h : SeqAt.shaped d = true) : PyData.canLay0 d = true := by
  unfold SeqAt.shaped at h
  rw [Bool.and_eq_true] at h
  exact h.1
theorem snd_Eq {K : PySem.W.Frag} : Snd2 K (rvD PyData.eqv) (rEqD K) := by
  intro C σ env fr H x y a b Q Q' er q k
  unfold rvD at q
  split at q
  · rename_i d e e1 e2
    obtain ⟨G, Fb, Fa, rb, ra, gh, _⟩ := er.peek2
    exact ⟨d, e, ra.dp gh e1 (lay_of q.1), rb.dp gh e2 (lay_of q.2.1), q.1, q.2.1, k _ _ H q.2.2 (er.plain2 (.bl _))⟩
  · exact q.elim
theorem snd_Ne {K : PySem.W.Frag} : Snd2 K (rvD fun d e => !PyData.eqv d e) (rNeD K) := by
  intro C σ env fr H x y a b Q Q' er q k
  unfold rvD at q
  split at q
  · rename_i d e e1 e2
    obtain ⟨G, Fb, Fa, rb, ra, gh, _⟩ := er.peek2
    exact ⟨d, e, ra.dp gh e1 (lay_of q.1), rb.dp gh e2 (lay_of q.2.1), q.1, q.2.1, k _ _ H q.2.2 (er.plain2 (.bl _))⟩
  · exact q.elim
abbrev tvEq (ta tb : TVE) : TVE := tvOp (rvD PyData.eqv) ta tb
abbrev tvNe (ta tb : TVE) : TVE := tvOp (rvD fun d e => !PyData.eqv d e) ta tb
theorem ve_eq (hu : X.A.units + 64 < cLine) (ha : VE X e1 ta) (hb : VE X e2 tb) : VE X (.Compare e1 [.Eq] [e2] pos) (tvEq ta tb) := ve_cmp (op_eqD hu) snd_Eq rvD_mono ha hb (nomark _)
theorem ve_ne (hu : X.A.units + 64 < cLine) (ha : VE X e1 ta) (hb : VE X e2 tb) : VE X (.Compare e1 [.NotEq] [e2] pos) (tvNe ta tb) := ve_cmp (op_neD hu) snd_Ne rvD_mono ha hb (nomark _)
theorem vt_eq (hu : X.A.units + 64 < cLine) (ha : VE X e1 ta) (hb : VE X e2 tb) : VT X (.Compare e1 [.Eq] [e2] pos) (tvB (tvEq ta tb)) := vt_cmp (op_eqD hu) snd_Eq rvD_mono ha hb (nomark _)
theorem vt_ne (hu : X.A.units + 64 < cLine) (ha : VE X e1 ta) (hb : VE X e2 tb) : VT X (.Compare e1 [.NotEq] [e2] pos) (tvB (tvNe ta tb)) := vt_cmp (op_neD hu) snd_Ne rvD_mono ha hb (nomark _)
/-- x in a list -/
def rvIn (neg : Bool) (a : Item) (b : Item) (Q : Item → Prop) : Prop := match a.data, b.data with
  | some d, some (.list ds) => SeqAt.shaped d = true ∧ SeqAt.shaped (.list ds) = true ∧ Q (.dat (.bool (if neg then !ds.any (fun z => PyData.eqv z d) else ds.any fun z => PyData.eqv z d)) .A)
  | _, _ => False
theorem rvIn_mono {neg : Bool} : Mono2 (rvIn neg) := fun a b Q Q' h q => by
  unfold rvIn at q ⊢
  split at q
  · exact ⟨q.1, q.2.1, h _ q.2.2⟩
  · exact q.elim
theorem snd_In {K : PySem.W.Frag} : Snd2 K (rvIn false) (rInD K) := by
  intro C σ env fr H x y a b Q Q' er q k
  unfold rvIn at q
  split at q
  · rename_i d e e1 e2
    obtain ⟨G, Fb, Fa, rb, ra, gh, _⟩ := er.peek2
    exact ⟨d, e, ra.dp gh e1 (lay_of q.1), rb.dp gh e2 (lay_of q.2.1), q.1, q.2.1, k _ _ H q.2.2 (er.plain2 (.bl _))⟩
  · exact q.elim
theorem snd_NotIn {K : PySem.W.Frag} : Snd2 K (rvIn true) (rNotInD K) := by
  intro C σ env fr H x y a b Q Q' er q k
  unfold rvIn at q
  split at q
  · rename_i d e e1 e2
    obtain ⟨G, Fb, Fa, rb, ra, gh, _⟩ := er.peek2
    exact ⟨d, e, ra.dp gh e1 (lay_of q.1), rb.dp gh e2 (lay_of q.2.1), q.1, q.2.1, k _ _ H q.2.2 (er.plain2 (.bl _))⟩
  · exact q.elim
abbrev tvIn (ta tb : TVE) : TVE := tvOp (rvIn false) ta tb
abbrev tvNin (ta tb : TVE) : TVE := tvOp (rvIn true) ta tb
theorem ve_in (hu : X.A.units + 65 < cLine) (ha : VE X e1 ta) (hb : VE X e2 tb) (hm : behindInMarks .In e2 = false) : VE X (.Compare e1 [.In] [e2] pos) (tvIn ta tb) := ve_cmp (op_inD hu) snd_In rvIn_mono ha hb hm
theorem ve_nin (hu : X.A.units + 65 < cLine) (ha : VE X e1 ta) (hb : VE X e2 tb) (hm : behindInMarks .NotIn e2 = false) : VE X (.Compare e1 [.NotIn] [e2] pos) (tvNin ta tb) := ve_cmp (op_notInD hu) snd_NotIn rvIn_mono ha hb hm
theorem vt_in (hu : X.A.units + 65 < cLine) (ha : VE X e1 ta) (hb : VE X e2 tb) (hm : behindInMarks .In e2 = false) : VT X (.Compare e1 [.In] [e2] pos) (tvB (tvIn ta tb)) := vt_cmp (op_inD hu) snd_In rvIn_mono ha hb hm
theorem vt_nin (hu : X.A.units + 65 < cLine) (ha : VE X e1 ta) (hb : VE X e2 tb) (hm : behindInMarks .NotIn e2 = false) : VT X (.Compare e1 [.NotIn] [e2] pos) (tvB (tvNin ta tb)) := vt_cmp (op_notInD hu) snd_NotIn rvIn_mono ha hb hm
/-- is None -/
def isNon : PyData → Bool
  | .none => true | _ => false
def rvIs (neg : Bool) (a : Item) (b : Item) (Q : Item → Prop) : Prop := match a.data, b.data with
  | some d, some .none => Q (.dat (.bool (if neg then !isNon d else isNon d)) .A)
  | _, _ => False
theorem rvIs_mono {neg : Bool} : Mono2 (rvIs neg) := fun a b Q Q' h q => by
  unfold rvIs at q ⊢
  split at q
  · exact h _ q
  · exact q.elim
theorem RM.isNon {G H : Hp} {d : PyData} {m : M} {v : V} {F : FP} (r : RM G H d m v F) : decide (v = .non) = isNon d := by
  cases r <;> first | rfl | exact decide_eq_false (fun z => nomatch z)
theorem Dp.isNon {K : PySem.W.Frag} {H : Hp} {d : PyData} {v : V} (r : Dp K H v d) : decide (v = .non) = VL.isNon d := by
  cases r <;> first | rfl | exact decide_eq_false (fun z => nomatch z)
theorem RI.isNon {K : PySem.W.Frag} {R G H : Hp} {it : Item} {v : V} {F : FP} {d : PyData} (h : RI K R G H it v F) (e : it.data = some d) : decide (v = .non) = VL.isNon d := by
  cases h with
  | dat r => cases e; exact r.isNon
  | vw r _ => cases e; exact r.isNon
  | ro r => cases e; exact Dp.isNon r
  | _ => cases e
theorem snd_Is {K : PySem.W.Frag} : Snd2 K (rvIs false) (fun x y H Q => y = .non ∧ Q (.bl (decide (x = .non))) H) := by
  intro C σ env fr H x y a b Q Q' er q k
  unfold rvIs at q
  split at q
  · rename_i d e1 e2
    obtain ⟨G, Fb, Fa, rb, ra, gh, _⟩ := er.peek2
    exact ⟨of_decide_eq_true (rb.isNon e2), k _ _ H q (er.plain2 (by rw [ra.isNon e1]; exact .bl _))⟩
  · exact q.elim
theorem snd_IsNot {K : PySem.W.Frag} : Snd2 K (rvIs true) (fun x y H Q => y = .non ∧ Q (.bl (!decide (x = .non))) H) := by
  intro C σ env fr H x y a b Q Q' er q k
  unfold rvIs at q
  split at q
  · rename_i d e1 e2
    obtain ⟨G, Fb, Fa, rb, ra, gh, _⟩ := er.peek2
    exact ⟨of_decide_eq_true (rb.isNon e2), k _ _ H q (er.plain2 (by rw [ra.isNon e1]; exact .bl _))⟩
  · exact q.elim
abbrev tvIs (ta tb : TVE) : TVE := tvOp (rvIs false) ta tb
abbrev tvIsn (ta tb : TVE) : TVE := tvOp (rvIs true) ta tb
theorem ve_is (ha : VE X e1 ta) (hb : VE X e2 tb) : VE X (.Compare e1 [.Is] [e2] pos) (tvIs ta tb) := ve_cmp op_isN snd_Is rvIs_mono ha hb (nomark _)
theorem ve_isn (ha : VE X e1 ta) (hb : VE X e2 tb) : VE X (.Compare e1 [.IsNot] [e2] pos) (tvIsn ta tb) := ve_cmp op_notN snd_IsNot rvIs_mono ha hb (nomark _)
theorem vt_is (ha : VE X e1 ta) (hb : VE X e2 tb) : VT X (.Compare e1 [.Is] [e2] pos) (tvB (tvIs ta tb)) := vt_cmp op_isN snd_Is rvIs_mono ha hb (nomark _)
theorem vt_isn (ha : VE X e1 ta) (hb : VE X e2 tb) : VT X (.Compare e1 [.IsNot] [e2] pos) (tvB (tvIsn ta tb)) := vt_cmp op_notN snd_IsNot rvIs_mono ha hb (nomark _)
end

/-! ### a[i] -/
def childI : Item → PyData → Item
  | .dat _ m, d => .dat d m.child
  | .vw _ m, d => .vw d m.child
  | .ro _, d => .ro d
  | it, _ => it
def seqD : PyData → Option (List PyData)
  | .list ds => some ds
  | .tuple ds => some ds
  | _ => none
def rvIx (a : Item) (b : Item) (Q : Item → Prop) : Prop := match a.data.bind seqD, b.data with
  | some ds, some (.int i) => match atI ds i with
    | some d => Q (childI a d)
    | none => False
  | _, _ => False
theorem rvIx_mono : Mono2 rvIx := fun a b Q Q' h q => by
  unfold rvIx at q ⊢
  split at q
  · split at q
    · exact h _ q
    · exact q.elim
  · exact q.elim
section
variable {K : PySem.W.Frag} {C : Ctx} {R G H G' H' : Hp} {it it' a b : Item} {v v' x y : V} {F F1 F2 Fa Fb : FP} {σ : St} {env env' : VEnv} {fr fr' top : VFr} {p : Addr} {o : HO} {d : PyData} {m : M} {ds : List PyData} {vs : List V}
theorem RMs.len (h : RMs G H ds m vs F) : ds.length = vs.length := by
  induction ds generalizing vs F with
  | nil => cases h; rfl
  | cons d ds ih => cases h with | cons r rs => simp [ih rs]
theorem dpLen : ∀ {vs : List V} {ds : List PyData}, DpAll K H vs ds → ds.length = vs.length
  | _, _, .nil => rfl
  | _, _, .cons _ h => by simp [dpLen h]
theorem RMs.get : ∀ {ds : List PyData} {vs : List V} {F : FP}, RMs G H ds m vs F → ∀ {j : Nat} {d : PyData}, ds[j]? = some d → ∃ v F', vs[j]? = some v ∧ RM G H d m v F' ∧ SubP F' F
  | _, _, _, .nil, j, d, e => by simp at e
  | _, _, _, .cons r rs, 0, d, e => by
    simp at e; subst e
    exact ⟨_, _, rfl, r, .of_sub (List.sublist_append_left _ _)⟩
  | _, _, _, .cons r rs, j + 1, d, e => by
    obtain ⟨v, F', h1, h2, h3⟩ := RMs.get rs (j := j) (d := d) (by simpa using e)
    exact ⟨v, F', by simpa using h1, h2, h3.trans (.of_sub (List.sublist_append_right _ _))⟩
theorem dpGet : ∀ {vs : List V} {ds : List PyData}, DpAll K H vs ds → ∀ {j : Nat} {d : PyData}, ds[j]? = some d → ∃ v, vs[j]? = some v ∧ Dp K H v d
  | _, _, .nil, j, d, e => by simp at e
  | _, _, .cons r rs, 0, d, e => by
    simp at e; subst e
    exact ⟨_, rfl, r⟩
  | _, _, .cons r rs, j + 1, d, e => by
    obtain ⟨v, h1, h2⟩ := dpGet rs (j := j) (d := d) (by simpa using e)
    exact ⟨v, by simpa using h1, h2⟩
theorem atI_map {i : Int} {ds : List PyData} {vs : List V} {d : PyData} (hl : ds.length = vs.length) (e : atI ds i = some d) : ∃ j : Nat, ds[j]? = some d ∧ ∀ v : V, vs[j]? = some v → atI vs i = some v := by
  unfold atI at e
  obtain ⟨j, h1, h2⟩ := Option.bind_eq_some_iff.mp e
  refine ⟨j, h2, fun v hv => ?_⟩
  unfold atI
  rw [← hl, h1]
  exact hv
/-- what an item with a list or tuple as data looks like -/
theorem RI.seq (h : RI K R G H a x Fa) (gh : Same G H) (e : a.data.bind seqD = some ds) : ∃ p vs, x = .ref p ∧ (SqL K H p vs ∨ SqT K H p vs) ∧ ds.length = vs.length ∧
    ∀ (j : Nat) (d : PyData), ds[j]? = some d → ∃ v F', vs[j]? = some v ∧ RI K R G H (childI a d) v F' ∧ SubP F' Fa := by
  cases h with
  | dat r =>
    cases r with
    | lst l rs =>
      cases e
      refine ⟨_, _, rfl, .inl (SqL.of (loc_le l gh)), rs.len, fun j d hj => ?_⟩
      obtain ⟨v, F', h1, h2, h3⟩ := rs.get hj
      exact ⟨v, F', h1, .dat h2, h3.trans (.of_sub (List.sublist_append_right _ _))⟩
    | tup l rs =>
      cases e
      refine ⟨_, _, rfl, .inr (SqT.of (loc_le l gh)), rs.len, fun j d hj => ?_⟩
      obtain ⟨v, F', h1, h2, h3⟩ := rs.get hj
      exact ⟨v, F', h1, .dat h2, h3.trans (.of_sub (List.sublist_append_right _ _))⟩
    | _ => cases e
  | vw r hr =>
    cases r with
    | lst l rs =>
      cases e
      refine ⟨_, _, rfl, .inl (SqL.of (loc_le l gh)), rs.len, fun j d hj => ?_⟩
      obtain ⟨v, F', h1, h2, h3⟩ := rs.get hj
      exact ⟨v, [], h1, .vw h2 fun p hp => hr p (List.mem_append_right _ (h3.mem hp)), .nil _⟩
    | tup l rs =>
      cases e
      refine ⟨_, _, rfl, .inr (SqT.of (loc_le l gh)), rs.len, fun j d hj => ?_⟩
      obtain ⟨v, F', h1, h2, h3⟩ := rs.get hj
      exact ⟨v, [], h1, .vw h2 fun p hp => hr p (List.mem_append_right _ (h3.mem hp)), .nil _⟩
    | _ => cases e
  | ro r =>
    cases r with
    | lst l rs =>
      cases e
      refine ⟨_, _, rfl, .inl (sameL gh l), dpLen rs, fun j d hj => ?_⟩
      obtain ⟨v, h1, h2⟩ := dpGet rs hj
      exact ⟨v, [], h1, .ro h2, .nil _⟩
    | tup l rs =>
      cases e
      refine ⟨_, _, rfl, .inr (sameT gh l), dpLen rs, fun j d hj => ?_⟩
      obtain ⟨v, h1, h2⟩ := dpGet rs hj
      exact ⟨v, [], h1, .ro h2, .nil _⟩
    | _ => cases e
  | _ => cases e
theorem snd_Ix : Snd2 K rvIx (rIx K) := by
  intro C σ env fr H x y a b Q Q' er q k
  unfold rvIx at q
  split at q
  · rename_i ds i e1 e2
    split at q
    · rename_i d hd
      obtain ⟨G, Fb, Fa, rb, ra, gh, kk, _⟩ := er.peek2
      obtain ⟨p, vs, rfl, hs, hl, g⟩ := ra.seq gh e1
      obtain ⟨j, h1, h2⟩ := atI_map hl hd
      obtain ⟨v, F', h3, h4, h5⟩ := g j d h1
      have fin : Q v H := k _ v H q (kk [(v, childI a d)] (F' ++ []) (.cons h4 .nil) (by
        rw [List.append_nil]
        exact h5.trans (.of_sub (List.sublist_append_right _ _))))
      have ey := rb.int e2
      rcases hs with hs | hs
      · exact .inl ⟨p, vs, i, v, rfl, ey, hs, h2 v h3, fin⟩
      · exact .inr (.inl ⟨p, vs, i, v, rfl, ey, hs, h2 v h3, fin⟩)
    · exact q.elim
  · exact q.elim
end
abbrev tvIx (ta tb : TVE) : TVE := tvOp rvIx ta tb
theorem ve_item {X : Cx} {e1 e2 : Expr} {ta tb : TVE} {pos : Pos} (ha : VE X e1 ta) (hb : VE X e2 tb) (hm : PlainIx e2 := by exact fun _ _ => rfl) : VE X (.Subscript e1 e2 pos) (tvIx ta tb) := ve_ix ix_seq snd_Ix rvIx_mono ha hb hm
end VL

namespace VL
open PySem PySem.Spec PyProof.Rows L2
section
variable {K : PySem.W.Frag} {C : Ctx} {R G H G' H' : Hp} {it it' a b : Item} {v v' x y : V} {F F1 F2 Fa Fb : FP} {σ σ' : St} {env env' : VEnv} {fr fr' top : VFr} {p : Addr} {o : HO} {d : PyData} {m : M}
/-- the part on top alone -/
theorem ER.only (e : ER K C σ H env ((v, it) :: fr)) : ER K C σ' H [] [(v, it)] := by
  obtain ⟨G, F1, F2, e⟩ := e
  have hfr := e.fr
  cases hfr with
  | cons r _ =>
    rename_i Fa Fb _
    have sp : SubP ([] ++ (Fa ++ [])) (F1 ++ (Fa ++ Fb)) := .of_sub (by rw [List.nil_append, List.append_nil]; exact (List.sublist_append_left Fa Fb).trans (List.sublist_append_right F1 _))
    exact ⟨G, [], _, e.gh, e.h0, e.bg, e.b0, e.fresh, .nil, .cons r .nil, e.nd.subP sp, fun q hq => e.nf q (sp.mem hq), (fun _ h => nomatch h), e.lx⟩
end

section
variable {K : PySem.W.Frag} {C : Ctx} {R G H G' H' : Hp} {it it' a b : Item} {v v' x y : V} {F F1 F2 Fa Fb : FP} {σ σ' : St} {env env' : VEnv} {fr fr' top : VFr} {p : Addr} {o : HO} {d : PyData} {m : M}
/-- what is solid and alone is owned -/
theorem ER.thaw (e : ER K C σ H [] [(v, .dat d m)]) (hm : m.solid = true) : ER K C σ H [] [(v, .dat d .A)] := by
  obtain ⟨G, F1, F2, e⟩ := e
  have hsl := e.sl
  have hfr := e.fr
  cases hsl
  cases hfr with
  | @cons _ _ _ F0 _ r r0 =>
    cases r0
    cases r with
    | dat r =>
      have hF : ∀ q ∈ F0, q ∈ ([] : FP) ++ (F0 ++ []) := fun q hq => by simpa using hq
      have r' := r.thaw (G' := fun a => if a ∈ F0.map (·.2) then none else G a) (H' := H) hm (fun a u _ q => e.gh a u q) (fun a u _ q => q)
      refine ⟨fun a => if a ∈ F0.map (·.2) then none else G a, [], hot F0 ++ [], fun a u q => ?_, e.h0, fun a u q => ?_, e.b0, fun a q => ?_, .nil, .cons (.dat r') .nil, ?_, fun q hq => ?_, e.fx, e.lx⟩
      · try simp only at q
        split at q
        · cases q
        · exact e.gh a u q
      · show (if a ∈ F0.map (·.2) then none else G a) = some u
        split
        · rename_i hmem
          exfalso
          obtain ⟨p, hp, rfl⟩ := List.mem_map.mp hmem
          obtain ⟨n1, n2, _⟩ := e.nf p (hF p hp)
          have hb : C.B p.2 = none := by
            cases z : C.B p.2 with
            | none => rfl
            | some u => rw [e.b0 _ _ z] at n1; cases n1
          unfold lk at q
          split at q
          · rw [hb] at q; cases q
          · rw [hb] at q; cases q
        · exact e.bg a u q
      · try simp only at q
        split at q
        · exact absurd rfl q
        · exact e.fresh a q
      · have := e.nd
        unfold ND at this ⊢
        simpa [List.map_append, hot_snd] using this
      · rw [List.nil_append, List.append_nil] at hq
        obtain ⟨h1, b, hb⟩ := mem_hot hq
        obtain ⟨n1, n2, _⟩ := e.nf _ (hF _ hb)
        exact ⟨n1, n2, fun _ => if_pos (List.mem_map.mpr ⟨_, hb, rfl⟩)⟩
end
/-- what leaves a def: one's own, or shared -/
def outI : Item → Item
  | .dat d m => .dat d (if m.solid then .A else .sh)
  | it => it
theorem ER.out {K : PySem.W.Frag} {C : Ctx} {H : Hp} {σ : St} {v : V} {it : Item} (e : ER K C σ H [] [(v, it)]) : ER K C σ H [] [(v, outI it)] := by
  cases it with
  | dat d m =>
    show ER K C σ H [] [(v, .dat d (if m.solid then .A else .sh))]
    by_cases h : m.solid = true
    · rw [if_pos h]; exact e.thaw h
    · rw [if_neg h]
      exact ER.share (top := [(v, .dat d m)]) (fr := []) e fun p hp => by
        rw [List.mem_singleton] at hp
        subst hp
        exact ⟨_, _, rfl⟩
  | _ => exact e
/-! ### statements -/
section
variable {X : Cx} {st : Stmt} {rest : List Stmt} {t u : TVS} {e e2 : Expr} {te : TVE} {tn : TVT} {pos : Pos}
def tvNext (D : VEnds) (env : VEnv) : Prop := D.nx env
def tvSeq (t u : TVS) (D : VEnds) (env : VEnv) : Prop := t { D with nx := u D } env
theorem vss_nil : VSs X [] tvNext := ⟨PSsweak pss_nil fun D σ H ⟨C, env, fr, er, fx, q⟩ => q σ H er, fun _ _ _ h q => h.nx _ q⟩
theorem vss_cons (h1 : VS X st t) (h2 : VSs X rest u) : VSs X (st :: rest) (tvSeq t u) :=
  ⟨PSsweak (pss_cons h1.ps h2.ps) fun D σ H ⟨C, env, fr, er, fx, q⟩ => ⟨C, env, fr, er, fx, h1.mono env { liftD X.K C fr D with nx := u (liftD X.K C fr D) } _ ⟨fun e q σ' H' er' => ⟨C, e, fr, er', fx, q⟩, fun _ q => q, fun _ q => q, fun _ q => q⟩ q⟩,
    fun env D D' h q => h1.mono env { D with nx := u D } _ ⟨fun e q => h2.mono _ _ _ h q, h.rt, h.bk, h.ct⟩ q⟩
theorem vss_one (h1 : VS X st t) : VSs X [st] t := ⟨pss_one h1.ps, h1.mono⟩
theorem vs_pass : VS X (.Pass pos) tvNext := ⟨PSweak ps_pass fun D σ H ⟨C, env, fr, er, fx, q⟩ => q σ H er, fun _ _ _ h q => h.nx _ q⟩
def tvBreak (D : VEnds) (env : VEnv) : Prop := D.bk env
def tvCont (D : VEnds) (env : VEnv) : Prop := D.ct env
theorem vs_break : VS X (.Break pos) tvBreak := ⟨PSweak ps_break fun D σ H ⟨C, env, fr, er, fx, q⟩ => q σ H er, fun _ _ _ h q => h.bk _ q⟩
theorem vs_continue : VS X (.Continue pos) tvCont := ⟨PSweak ps_continue fun D σ H ⟨C, env, fr, er, fx, q⟩ => q σ H er, fun _ _ _ h q => h.ct _ q⟩
theorem vs_doc {x j pos'} : VS X (.Expr (.Constant (.str x) j pos) pos') tvNext := ⟨PSweak ps_doc fun D σ H ⟨C, env, fr, er, fx, q⟩ => q σ H er, fun _ _ _ h q => h.nx _ q⟩
def tvNever (_x0 : VEnds) (_x1 : VEnv) : Prop := False
theorem vs_never : VS X st tvNever := ⟨PSweak ps_never fun D σ H ⟨C, env, fr, er, fx, q⟩ => q, fun _ _ _ h q => q⟩
theorem vss_never {sts : List Stmt} : VSs X sts tvNever := ⟨PSsweak pss_never fun D σ H ⟨C, env, fr, er, fx, q⟩ => q, fun _ _ _ h q => q⟩
/-- a value dropped -/
def tvDrop (te : TVE) (D : VEnds) (env : VEnv) : Prop := te env fun _ env' => D.nx env'
theorem vs_expr (he : VM X e te) (hs : swapsWith e none pos.line X.env = pure false := by rfl) : VS X (.Expr e pos) (tvDrop te) :=
  ⟨PSweak (ps_expr he.pe hs) fun D σ H ⟨C, env, fr, er, fx, q⟩ => ⟨C, env, fr, er, fx, he.mono _ _ _ (fun it env' q v H' er' => q σ H' (er'.pop (top := [_]))) q⟩,
    fun env D D' h q => he.mono _ _ _ (fun _ _ q => h.nx _ q) q⟩
/-- return -/
def tvRet (te : TVE) (D : VEnds) (env : VEnv) : Prop := te env fun it _ => match nrm it with
  | some it' => D.rt (outI it')
  | none => False
theorem vs_ret (he : VM X e te) : VS X (.Return (some e) pos) (tvRet te) :=
  ⟨PSweak (ps_ret he.pe) fun D σ H ⟨C, env, fr, er, fx, q⟩ => ⟨C, env, fr, er, fx, he.mono _ _ _ (fun it env' q v H' er' => by
      split at q
      · rename_i it' hn
        exact q σ v H' (er'.nrm hn).only.out
      · exact q.elim) q⟩,
    fun env D D' h q => he.mono _ _ _ (fun it _ q => by
      split at q
      · exact h.rt _ q
      · exact q) q⟩
def tvRetN (D : VEnds) (_x1 : VEnv) : Prop := D.rt (.dat .none .A)
theorem vs_retN : VS X (.Return none pos) tvRetN :=
  ⟨PSweak ps_retN fun D σ H ⟨C, env, fr, er, fx, q⟩ => q σ .non H (ER.only (er.push fun _ => .dat .non)), fun _ _ _ h q => h.rt _ q⟩
/-- if -/
def tvIf (c : TVT) (t u : TVS) (D : VEnds) (env : VEnv) : Prop := c env fun b env' => if b = true then t D env' else u D env'
theorem vs_if {c : Expr} {a b : List Stmt} (hc : VN X c tn) (ha : VSs X a t) (hb : VSs X b u) : VS X (.If c a b pos) (tvIf tn t u) :=
  ⟨PSweak (ps_if hc.pt ha.ps hb.ps) fun D σ H ⟨C, env, fr, er, fx, q⟩ => ⟨C, env, fr, er, fx, hc.mono _ _ _ (fun bb env' q H' er' => by
      cases bb with
      | true => exact ⟨C, env', fr, er', fx, q⟩
      | false => exact ⟨C, env', fr, er', fx, q⟩) q⟩,
    fun env D D' h q => hc.mono _ _ _ (fun bb env' q => by
      cases bb with
      | true => exact ha.mono _ _ _ h q
      | false => exact hb.mono _ _ _ h q) q⟩
/-- name = value -/
def tvSet (i : Nat) (te : TVE) (D : VEnds) (env : VEnv) : Prop := te env fun it env1 => match nrm it, env1[i]? with
  | some it', some _ => D.nx (env1.set i (some it'))
  | _, _ => False
theorem vs_set {i : Nat} {x : Str} {pos' : Pos} (hN : X.N.Nodup) (hi : X.N[i]? = some x) (hx : L2.Loc X.env.scope x) (he : VM X e te) (hs : swapsWith e (some (.Name x pos')) pos.line X.env = pure false := by rfl) (hf : X.fn x = true ∨ X.env.scope.names.lookup x = some .local := by first | exact .inl rfl | exact .inr rfl | assumption) :
    VS X (.Assign [.Name x pos'] e pos) (tvSet i te) :=
  ⟨PSweak (ps_set hN hi hx he.pe hs hf) fun D σ H ⟨C, env, fr, er, fx, q⟩ => ⟨C, env, fr, er, fx, he.mono _ _ _ (fun it env1 q v H' er' => by
      split at q
      · rename_i it' o hn ho
        exact q _ _ ((er'.nrm hn).store (List.getElem?_eq_some_iff.mp ho).1 (nrm_fix hn))
      · exact q.elim) q⟩,
    fun env D D' h q => he.mono _ _ _ (fun it env1 q => by
      split at q
      · exact h.nx _ q
      · exact q) q⟩
theorem wipe_set {σ : St} {i : Nat} {x : Option V} : ∀ {us : List Nat}, i ∈ us → L2.wipe (σ.set i x) us = L2.wipe σ us
  | u :: us, h => by
    rw [show L2.wipe (σ.set i x) (u :: us) = (L2.wipe (σ.set i x) us).set u none from rfl, show L2.wipe σ (u :: us) = (L2.wipe σ us).set u none from rfl]
    by_cases hi : i ∈ us
    · rw [wipe_set hi]
    · have hu : i = u := (List.mem_cons.mp h).resolve_right hi
      subst hu
      have key : ∀ (ws : List Nat) (σ : St), i ∉ ws → L2.wipe (σ.set i x) ws = (L2.wipe σ ws).set i x := by
        intro ws
        induction ws with
        | nil => intro σ _; rfl
        | cons w ws ih =>
          intro σ hw
          rw [List.mem_cons, not_or] at hw
          rw [show L2.wipe (σ.set i x) (w :: ws) = (L2.wipe (σ.set i x) ws).set w none from rfl, ih σ hw.2, show L2.wipe σ (w :: ws) = (L2.wipe σ ws).set w none from rfl, List.set_comm _ _ hw.1]
      rw [key us σ hi, List.set_set]
theorem keeps_set {σ : St} {i : Nat} (v : V) : Keeps [i] σ (σ.set i (some v)) := fun us h => wipe_set (h i List.mem_cons_self)
theorem Keeps.trans {S T : List Nat} {σ σ1 σ2 : St} (a : Keeps S σ σ1) (b : Keeps T σ1 σ2) : Keeps (S ++ T) σ σ2 := fun us h =>
  (b us fun s hs => h s (List.mem_append_right _ hs)).trans (a us fun s hs => h s (List.mem_append_left _ hs))
/-- targets -/
def tgName (i : Nat) (it : Item) (env : VEnv) (Q : VEnv → Prop) : Prop := match nrm it, env[i]? with
  | some it', some _ => Q (env.set i (some it'))
  | _, _ => False
theorem vg_name {i : Nat} {x : Str} (hN : X.N.Nodup) (hi : X.N[i]? = some x) (hx : L2.Loc X.env.scope x) (hf : X.fn x = true ∨ X.env.scope.names.lookup x = some .local := by first | exact .inl rfl | exact .inr rfl | assumption) : VG X (.Name x pos) [i] (tgName i) :=
  ⟨PGweak (pg_name hN hi hx hf) fun v σ H Q ⟨C, env, it, fr, er, q⟩ => by
      unfold tgName at q
      split at q
      · rename_i it' o hn ho
        exact q _ _ (keeps_set v) ((er.nrm hn).store (List.getElem?_eq_some_iff.mp ho).1 (nrm_fix hn))
      · exact q.elim,
    fun it env Q Q' h q => by
      unfold tgName at q ⊢
      split at q
      · exact h _ q
      · exact q⟩
def tvAsg (te : TVE) (g : TVG) (D : VEnds) (env : VEnv) : Prop := te env fun it env1 => g it env1 D.nx
theorem vs_asg {tg : Expr} {g : TVG} {S : List Nat} (he : VM X e te) (hg : VG X tg S g) (hs : swapsWithSole [tg] e pos.line X.env = pure false := by rfl) (hw : swappedStores [tg] e X.env = pure none := by rfl)
    (h1 : (assignEach [tg] X.env).map (·.2) = [assign tg X.env] := by rfl) : VS X (.Assign [tg] e pos) (tvAsg te g) :=
  ⟨PSweak (ps_asg he.pe hg.pg hs hw h1) fun D σ H ⟨C, env, fr, er, fx, q⟩ => ⟨C, env, fr, er, fx, he.mono _ _ _ (fun it env1 q v H' er' => ⟨C, env1, it, fr, er', hg.mono _ _ _ _ (fun env' q σ' H' _ er' => q σ' H' er') q⟩) q⟩,
    fun env D D' h q => he.mono _ _ _ (fun it env1 q => hg.mono _ _ _ _ (fun _ q => h.nx _ q) q) q⟩
end

/-! ### a, b = a tuple -/
abbrev TVGs := List Item → VEnv → (VEnv → Prop) → Prop
def liftGs (K : PySem.W.Frag) (S : List Nat) (t : TVGs) : TGs := fun vs σ H Q => ∃ C env its fr, vs.length = its.length ∧ ER K C σ H env (vs.zip its ++ fr) ∧ t its env fun env' => ∀ σ' H', Keeps S σ σ' → ER K C σ' H' env' fr → Q σ' H'
structure VGs (X : Cx) (tg : List Expr) (S : List Nat) (t : TVGs) : Prop where
  pg : PGs X tg (liftGs X.K S t)
  mono : ∀ its env Q Q', (∀ env', Q env' → Q' env') → t its env Q → t its env Q'
theorem PGsweak {X : Cx} {e : List Expr} {t t' : TGs} (h : PGs X e t) (w : ∀ v σ H Q, t' v σ H Q → t v σ H Q) : PGs X e t' := ⟨fun pins s σ H v u Q I r q => h.run pins s σ H v u Q I r (w _ _ _ _ q)⟩
def tgNil (its : List Item) (env : VEnv) (Q : VEnv → Prop) : Prop := its = [] ∧ Q env
def tgCons (t : TVG) (u : TVGs) (its : List Item) (env : VEnv) (Q : VEnv → Prop) : Prop := match its with
  | it :: r => t it env fun env' => u r env' Q
  | [] => False
theorem zip_fix : ∀ {vs : List V} {its : List Item}, (∀ it ∈ its, it.fix) → fixF (vs.zip its)
  | [], _, _, p, hp => by simp at hp
  | _ :: _, [], _, p, hp => by simp at hp
  | v :: vs, it :: its, h, p, hp => by
    rw [List.zip_cons_cons] at hp
    rcases List.mem_cons.mp hp with rfl | hp
    · exact h _ List.mem_cons_self
    · exact zip_fix (fun q hq => h q (List.mem_cons_of_mem _ hq)) p hp
section
variable {X : Cx} {e : Expr} {es : List Expr} {t : TVG} {u : TVGs} {S T : List Nat} {pos : Pos}
theorem vgs_nil : VGs X [] [] tgNil := ⟨PGsweak pgs_nil (fun vs σ H Q ⟨C, env, its, fr, hl, er, e, q⟩ => by
    subst e
    cases vs with
    | nil => exact ⟨rfl, q σ H (fun _ _ => rfl) er⟩
    | cons _ _ => cases hl), fun its env Q Q' h q => ⟨q.1, h _ q.2⟩⟩
theorem vgs_cons (h1 : VG X e S t) (h2 : VGs X es T u) (hs : (assignEach (e :: es) X.env).map (·.2) = assign e X.env :: (assignEach es X.env).map (·.2) := by rfl) : VGs X (e :: es) (S ++ T) (tgCons t u) :=
  ⟨PGsweak (pgs_cons h1.pg h2.pg hs) fun vs σ H Q ⟨C, env, its, fr, hl, er, q⟩ => by
      cases its with
      | nil => exact q.elim
      | cons it its =>
        cases vs with
        | nil => cases hl
        | cons v vs =>
          exact ⟨v, vs, rfl, C, env, it, vs.zip its ++ fr, er, h1.mono _ _ _ _ (fun env' q σ' H' k1 er' => ⟨C, env', its, fr, Nat.succ.inj hl, er', h2.mono _ _ _ _ (fun env2 q σ2 H2 k2 er2 => q σ2 H2 (k1.trans k2) er2) q⟩) q⟩,
    fun its env Q Q' h q => by
      cases its with
      | nil => exact q
      | cons it its => exact h1.mono _ _ _ _ (fun env' q => h2.mono _ _ _ _ h q) q⟩
def nrmL : List Item → Option (List Item)
  | [] => some []
  | it :: its => match nrm it, nrmL its with
    | some a, some b => some (a :: b)
    | _, _ => none
theorem nrmL_fix : ∀ {its its' : List Item}, nrmL its = some its' → (∀ it ∈ its', it.fix) ∧ its'.length = its.length
  | [], _, e => by cases e; exact ⟨fun _ h => (nomatch h), rfl⟩
  | it :: its, its', e => by
    simp only [nrmL] at e
    split at e
    · rename_i a b h1 h2
      cases e
      obtain ⟨g1, g2⟩ := nrmL_fix h2
      refine ⟨fun q hq => ?_, by simp [g2]⟩
      rcases List.mem_cons.mp hq with rfl | hq
      · exact nrm_fix h1
      · exact g1 q hq
    · cases e
theorem RFr.nrmL {K : PySem.W.Frag} {R G H : Hp} : ∀ {vs : List V} {its its' : List Item} {F : FP}, RFr K R G H (vs.zip its) F → vs.length = its.length → nrmL its = some its' → ∃ F', RFr K R G H (vs.zip its') F' ∧ SubP F' F
  | [], [], _, _, h, _, e => by cases e; exact ⟨_, h, .refl _⟩
  | v :: vs, it :: its, its', _, h, hl, e => by
    simp only [VL.nrmL] at e
    split at e
    · rename_i a b h1 h2
      cases e
      cases h with
      | cons r rs =>
        obtain ⟨F1, r1, s1⟩ := r.nrm h1
        obtain ⟨F2, r2, s2⟩ := RFr.nrmL rs (Nat.succ.inj hl) h2
        exact ⟨F1 ++ F2, .cons r1 r2, s1.app s2⟩
    · cases e
theorem RMs.frames {K : PySem.W.Frag} {R G H : Hp} {m : M} : ∀ {ds : List PyData} {vs : List V} {F : FP}, RMs G H ds m vs F → RFr K R G H (vs.zip (ds.map fun d => .dat d m)) F ∧ ((∀ p ∈ F, R p.2 = none) → RFr K R G H (vs.zip (ds.map fun d => .vw d m)) [])
  | _, _, _, .nil => ⟨.nil, fun _ => .nil⟩
  | _, _, _, .cons r rs => ⟨.cons (.dat r) (RMs.frames rs).1, fun hR => .cons (F := []) (.vw r fun p hp => hR p (List.mem_append_left _ hp)) ((RMs.frames rs).2 fun p hp => hR p (List.mem_append_right _ hp))⟩
theorem dpFrames {K : PySem.W.Frag} {R G H : Hp} : ∀ {vs : List V} {ds : List PyData}, DpAll K G vs ds → RFr K R G H (vs.zip (ds.map fun d => .ro d)) []
  | _, _, .nil => .nil
  | _, _, .cons r rs => .cons (F := []) (.ro r) (dpFrames rs)
/-- the parts of a tuple -/
def partsI : Item → Option (List Item)
  | .dat (.tuple ds) m => some (ds.map fun d => .dat d m.child)
  | .vw (.tuple ds) m => some (ds.map fun d => .vw d m.child)
  | .ro (.tuple ds) => some (ds.map fun d => .ro d)
  | _ => none
theorem RI.parts {K : PySem.W.Frag} {R G H : Hp} {it : Item} {v : V} {F : FP} {its : List Item} (h : RI K R G H it v F) (gh : Same G H) (e : partsI it = some its) : ∃ a vs F', v = .ref a ∧ SqT K H a vs ∧ vs.length = its.length ∧ RFr K R G H (vs.zip its) F' ∧ SubP F' F := by
  cases h with
  | dat r =>
    cases r with
    | tup l rs =>
      cases e
      exact ⟨_, _, _, rfl, SqT.of (loc_le l gh), by rw [List.length_map, rs.len], rs.frames.1, .of_sub (List.sublist_append_right _ _)⟩
    | _ => cases e
  | vw r hr =>
    cases r with
    | tup l rs =>
      cases e
      exact ⟨_, _, [], rfl, SqT.of (loc_le l gh), by rw [List.length_map, rs.len], rs.frames.2 fun p hp => hr p (List.mem_append_right _ hp), .nil _⟩
    | _ => cases e
  | ro r =>
    cases r with
    | tup l rs =>
      cases e
      exact ⟨_, _, [], rfl, sameT gh l, by rw [List.length_map, dpLen rs], dpFrames rs, .nil _⟩
    | _ => cases e
  | _ => cases e
def tgTup (n : Nat) (u : TVGs) (it : Item) (env : VEnv) (Q : VEnv → Prop) : Prop := match (partsI it).bind nrmL with
  | some its => its.length = n ∧ u its env Q
  | none => False
theorem vg_tup {k n : Nat} (hc : X.calm = true) (h : VGs X es S u) (hn : (assignEach es X.env).length = n := by rfl) (hst : (assignEach es X.env).findIdx? (·.1) = none := by rfl) : VG X (.Tuple es k pos) S (tgTup n u) :=
  ⟨PGweak (pg_tup hc h.pg hn hst) fun v σ H Q ⟨C, env, it, fr, er, q⟩ => by
      unfold tgTup at q
      split at q
      · rename_i its' hits
        obtain ⟨its, hp, hb⟩ := Option.bind_eq_some_iff.mp hits
        obtain ⟨G, Fa, r, gh, kk, _⟩ := er.peek1
        obtain ⟨a, vs, F', rfl, hs, hl, rf, sp⟩ := r.parts gh hp
        obtain ⟨F2, rf2, sp2⟩ := rf.nrmL hl hb
        obtain ⟨g1, g2⟩ := nrmL_fix hb
        exact ⟨a, vs, rfl, hs, by rw [hl, ← g2]; exact q.1, C, env, its', fr, by rw [hl, g2], kk _ _ rf2 (sp2.trans sp), q.2⟩
      · exact q.elim,
    fun it env Q Q' h' q => by
      unfold tgTup at q ⊢
      split at q
      · exact ⟨q.1, h.mono _ _ _ _ h' q.2⟩
      · exact q⟩
end

/-! ### loops -/
def elI (d : PyData) : Item := .dat d (if scalarD d then .A else .sh)
/-- an iterator gives these, while what stands in anch stays -/
structure ItOk (K : PySem.W.Frag) (J : It) (anch : VFr) (ds : List PyData) : Prop where
  fx : fixF anch
  go : ∀ (C : Ctx) (σ : St) (H : Hp) (env : VEnv) (fr : VFr) (i : Nat) (d : PyData), ER K C σ H env (anch ++ fr) → ds[i]? = some d → J.go i H ∧ ∀ x H', J.yld i H x H' → ER K C σ H' env ((x, elI d) :: (anch ++ fr))
  stop : ∀ (C : Ctx) (σ : St) (H : Hp) (env : VEnv) (fr : VFr) (i : Nat), ER K C σ H env (anch ++ fr) → ds.length ≤ i → J.stop i H
abbrev TVI := VEnv → (List PyData → VEnv → Prop) → Prop
def liftI (K : PySem.W.Frag) (t : TVI) : TI := fun σ H R => ∃ C env fr, ER K C σ H env fr ∧ t env fun ds env' => ∀ J anch H', ItOk K J anch ds → ER K C σ H' env' (anch ++ fr) → R J H'
structure VI (X : Cx) (tg iter : Expr) (t : TVI) : Prop where
  pi : PI X tg iter (liftI X.K t)
  mono : ∀ env Q Q', (∀ ds env', Q ds env' → Q' ds env') → t env Q → t env Q'
theorem PIweak {X : Cx} {tg e : Expr} {t t' : TI} (h : PI X tg e t) (w : ∀ σ H Q, t' σ H Q → t σ H Q) : PI X tg e t' := ⟨fun pins s σ H Q I q => h.run pins s σ H Q I (w _ _ _ q)⟩
def forP (g : TVG) (tb : TVS) (D : VEnds) (ds : List PyData) (env1 : VEnv) : Prop := ∃ P : Nat → VEnv → Prop, P 0 env1 ∧
  (∀ i d env, ds[i]? = some d → P i env → g (elI d) env fun env2 => tb { D with nx := P (i + 1), ct := P (i + 1), bk := D.nx } env2) ∧ ∀ env, P ds.length env → D.nx env
def tvFor (ti : TVI) (g : TVG) (tb : TVS) (D : VEnds) (env : VEnv) : Prop := ti env fun ds env1 => forP g tb D ds env1
def whileP (c : TVT) (tb : TVS) (D : VEnds) (env : VEnv) : Prop := ∃ P : Nat → VEnv → Prop, (∃ m, P m env) ∧ ∀ m env, P m env → c env fun b env1 =>
  if b = true then tb { D with nx := fun e => ∃ m', m' < m ∧ P m' e, ct := fun e => ∃ m', m' < m ∧ P m' e, bk := D.nx } env1 else D.nx env1
section
variable {X : Cx} {tg iter : Expr} {body : List Stmt} {ti : TVI} {g : TVG} {tb : TVS} {tn : TVT} {S : List Nat} {pos : Pos}
theorem fixF_app {a b : VFr} (h1 : fixF a) (h2 : fixF b) : fixF (a ++ b) := fun p hp => (List.mem_append.mp hp).elim (h1 p) (h2 p)
theorem vs_for (hp : PassesOwn (model X.prog X.w) X.A X.env X.xe) (hc : X.calm = true) (hi : VI X tg iter ti) (hg : VG X tg S g) (hb : VSs X body tb)
    (hs : ∀ x, foldedSetIterable iter X.env x = pure x := by intro _; rfl) : VS X (.For tg iter body [] pos) (tvFor ti g tb) :=
  ⟨PSweak (ps_for hp hc hi.pi hg.pg hb.ps hs) fun D σ H ⟨C, env, fr, er, fx, q⟩ => by
      refine ⟨C, env, fr, er, hi.mono _ _ _ (fun ds env1 q J anch H1 io er1 => ?_) q⟩
      obtain ⟨P, p0, turn, fin⟩ := q
      refine ⟨fun i m σ H => m = ds.length - i ∧ i ≤ ds.length ∧ ∃ env, ER X.K C σ H env (anch ++ fr) ∧ P i env, ⟨_, rfl, Nat.zero_le _, env1, er1, p0⟩, ?_⟩
      rintro i m σ' H' ⟨rfl, hle, env', er', pi⟩
      by_cases hlt : i < ds.length
      · refine .inr ?_
        obtain ⟨go, yl⟩ := io.go C σ' H' env' fr i ds[i] er' (List.getElem?_eq_getElem hlt)
        refine ⟨go, fun σ2 H2 => ∃ env2, ER X.K C σ2 H2 env2 (anch ++ fr) ∧ P (i + 1) env2, fun σ2 H2 ⟨env2, er2, p2⟩ => ⟨ds.length - (i + 1), by omega, rfl, hlt, env2, er2, p2⟩, fun x H2 hy => ?_⟩
        refine ⟨C, env', elI ds[i], anch ++ fr, yl x H2 hy, hg.mono _ _ _ _ (fun env2 q2 σ3 H3 _ er3 => ?_) (turn i ds[i] env' (List.getElem?_eq_getElem hlt) pi)⟩
        refine ⟨C, env2, anch ++ fr, er3, fixF_app io.fx fx, hb.mono env2 { liftD X.K C fr D with nx := P (i + 1), ct := P (i + 1), bk := (liftD X.K C fr D).nx } _ ⟨fun e h σ' H' er' => ⟨e, er', h⟩, fun _ h => h, fun e h σ' H' er' => h σ' H' er'.pop, fun e h σ' H' er' => ⟨e, er', h⟩⟩ q2⟩
      · have e : i = ds.length := by omega
        subst e
        exact .inl ⟨io.stop C σ' H' env' fr _ er' (Nat.le_refl _), fin _ pi σ' H' er'.pop⟩,
    fun env D D' h q => hi.mono _ _ _ (fun ds env1 ⟨P, p0, turn, fin⟩ => ⟨P, p0, fun i d env hd hP => hg.mono _ _ _ _ (fun env2 q2 => hb.mono env2 { D with nx := P (i + 1), ct := P (i + 1), bk := D.nx } _ ⟨fun _ h => h, h.rt, h.nx, fun _ h => h⟩ q2) (turn i d env hd hP), fun env hP => h.nx _ (fin env hP)⟩) q⟩
def tvWhile (c : TVT) (tb : TVS) (D : VEnds) (env : VEnv) : Prop := whileP c tb D env
theorem vs_while {c : Expr} (hp : PassesOwn (model X.prog X.w) X.A X.env X.xe) (hc : VN X c tn) (hb : VSs X body tb) : VS X (.While c body [] pos) (tvWhile tn tb) :=
  ⟨PSweak (ps_while hp hc.pt hb.ps) fun D σ H ⟨C, env, fr, er, fx, P, ⟨m0, p0⟩, turn⟩ => by
      refine ⟨fun m σ H => ∃ env, ER X.K C σ H env fr ∧ P m env, ⟨m0, env, er, p0⟩, ?_⟩
      rintro m σ' H' ⟨env', er', pm⟩
      refine ⟨C, env', fr, er', fx, hc.mono _ _ _ (fun b env1 q H1 er1 => ?_) (turn m env' pm)⟩
      cases b with
      | true =>
        refine ⟨fun σ2 H2 => ∃ m', m' < m ∧ ∃ env2, ER X.K C σ2 H2 env2 fr ∧ P m' env2, fun σ2 H2 ⟨m', l, r⟩ => ⟨m', l, r⟩, C, env1, fr, er1, fx, hb.mono env1 { liftD X.K C fr D with nx := fun e => ∃ m', m' < m ∧ P m' e, ct := fun e => ∃ m', m' < m ∧ P m' e, bk := (liftD X.K C fr D).nx } _ ⟨fun e ⟨m', l, h⟩ σ' H' er' => ⟨m', l, e, er', h⟩, fun _ h => h, fun _ h => h, fun e ⟨m', l, h⟩ σ' H' er' => ⟨m', l, e, er', h⟩⟩ q⟩
      | false => exact q σ' H1 er1,
    fun env D D' h ⟨P, p0, turn⟩ => ⟨P, p0, fun m env pm => hc.mono _ _ _ (fun b env1 q => by
      cases b with
      | true => exact hb.mono env1 { D with nx := fun e => ∃ m', m' < m ∧ P m' e, ct := fun e => ∃ m', m' < m ∧ P m' e, bk := D.nx } _ ⟨fun _ h => h, h.rt, h.nx, fun _ h => h⟩ q
      | false => exact h.nx _ q) (turn m env pm)⟩⟩
end
end VL

namespace VL
open PySem PySem.Spec PyProof.Rows L2

/-! ### argument lists -/
section
variable {X : Cx} {e : Expr} {es : List Expr} {te : TVE} {t : TVA} {pos : Pos}
def tvNil (env : VEnv) (Q : List Item → VEnv → Prop) : Prop := Q [] env
def tvCons (te : TVE) (t : TVA) (env : VEnv) (Q : List Item → VEnv → Prop) : Prop := te env fun it env1 => t env1 fun its env2 => Q (it :: its) env2
/-- .. made fit to be kept -/
def tvConsN (te : TVE) (t : TVA) (env : VEnv) (Q : List Item → VEnv → Prop) : Prop := te env fun it env1 => match nrm it with
  | some it' => t env1 fun its env2 => Q (it' :: its) env2
  | none => False
theorem va_nil : VA X [] tvNil := ⟨PAweak pa_nil fun σ H Q ⟨C, env, fr, er, q⟩ => q [] H rfl er, fun env Q Q' h q => h _ _ q⟩
theorem fr_cons {v : V} {it : Item} {vs : List V} {its : List Item} {fr : VFr} : ((v :: vs).zip (it :: its)).reverse ++ fr = (vs.zip its).reverse ++ ((v, it) :: fr) := by
  simp
theorem va_cons (he : VE X e te) (ht : VA X es t) (hs : starEach (e :: es) X.env = (false, eval e X.env) :: starEach es X.env := by rfl) : VA X (e :: es) (tvCons te t) :=
  ⟨PAweak (pa_cons he.pe ht.pa hs) fun σ H Q ⟨C, env, fr, er, q⟩ => ⟨C, env, fr, er, he.mono _ _ _ (fun it env1 q v H1 er1 => ⟨C, env1, (v, it) :: fr, er1, ht.mono _ _ _ (fun its env2 q vs H2 hl er2 => q (v :: vs) H2 (by simp [hl]) (by rw [fr_cons]; exact er2)) q⟩) q⟩,
    fun env Q Q' h q => he.mono _ _ _ (fun it env1 q => ht.mono _ _ _ (fun its env2 q => h _ _ q) q) q⟩
theorem va_consN (he : VE X e te) (ht : VA X es t) (hs : starEach (e :: es) X.env = (false, eval e X.env) :: starEach es X.env := by rfl) : VA X (e :: es) (tvConsN te t) :=
  ⟨PAweak (pa_cons he.pe ht.pa hs) fun σ H Q ⟨C, env, fr, er, q⟩ => ⟨C, env, fr, er, he.mono _ _ _ (fun it env1 q v H1 er1 => by
      split at q
      · rename_i it' hn
        exact ⟨C, env1, (v, it') :: fr, er1.nrm hn, ht.mono _ _ _ (fun its env2 q vs H2 hl er2 => q (v :: vs) H2 (by simp [hl]) (by rw [fr_cons]; exact er2)) q⟩
      · exact q.elim) q⟩,
    fun env Q Q' h q => he.mono _ _ _ (fun it env1 q => by
      split at q
      · exact ht.mono _ _ _ (fun its env2 q => h _ _ q) q
      · exact q) q⟩
end

/-! ### displays -/
def M.isA : M → Bool
  | .A => true | _ => false
def datD : Item → Option PyData
  | .dat d _ => some d | _ => none
def datM : Item → M
  | .dat _ m => m | _ => .sh
def datsL : List Item → Option (List PyData)
  | [] => some []
  | it :: its => match datD it, datsL its with
    | some a, some b => some (a :: b)
    | _, _ => none
def lub (its : List Item) : M := if its.all (fun it => (datM it).isA) then .A else if its.all (fun it => (datM it).solid) then .Z else .sh
def own' : M → M
  | .A => .A | m => .own m
theorem own'_child (m : M) : (own' m).child = m := by cases m <;> rfl
theorem own'_fp (m : M) (a : Addr) : (own' m).fp a = [(true, a)] := by cases m <;> rfl
theorem own'_loc {G H : Hp} {m : M} {a : Addr} {o : HO} (h : H a = some o) : Loc G H a o (own' m) := by cases m <;> exact h
theorem own'_locD {G H : Hp} {m : M} {a : Addr} {o : HO} (h : H a = some o) : LocD G H a o (own' m) := by cases m <;> exact h
section
variable {K : PySem.W.Frag} {C : Ctx} {R G H G' H' : Hp} {it it' a b : Item} {v v' x y : V} {F F1 F2 Fa Fb : FP} {σ σ' : St} {env env' : VEnv} {fr fr' top : VFr} {p : Addr} {o : HO} {d : PyData} {m : M} {ds : List PyData} {vs : List V} {its : List Item}
theorem datsL_dat : ∀ {its : List Item} {ds : List PyData}, datsL its = some ds → ∀ it ∈ its, ∃ d m, it = .dat d m
  | [], _, _, _, h => nomatch h
  | .dat d m :: its, ds, e, it, h => by
    simp only [datsL, datD] at e
    split at e
    · rename_i a b h1 h2
      rcases List.mem_cons.mp h with rfl | h
      · exact ⟨d, m, rfl⟩
      · exact datsL_dat h2 it h
    · cases e
  | .vw _ _ :: _, _, e, _, _ => by simp [datsL, datD] at e
  | .ro _ :: _, _, e, _, _ => by simp [datsL, datD] at e
  | .ob _ _ :: _, _, e, _, _ => by simp [datsL, datD] at e
  | .os _ _ :: _, _, e, _, _ => by simp [datsL, datD] at e
  | .ov _ _ :: _, _, e, _, _ => by simp [datsL, datD] at e
/-- items all of one mask, as a list of data -/
theorem frames_RMs {c : M} : ∀ {its : List Item} {ds : List PyData} {vs : List V} {F : FP}, RFr K R G H (vs.zip its).reverse F → vs.length = its.length → datsL its = some ds → (∀ it ∈ its, datM it = c) → ∃ F', RMs G H ds c vs F' ∧ SubP F' F
  | [], _, [], F, h, _, e, _ => by cases e; exact ⟨[], .nil, .nil _⟩
  | it :: its, ds, v :: vs, F, h, hl, e, hc => by
    simp only [datsL] at e
    split at e
    · rename_i d ds' h1 h2
      cases e
      rw [List.zip_cons_cons, List.reverse_cons] at h
      obtain ⟨Ft, Fr, rfl, h3, h4⟩ := h.split
      obtain ⟨F', r1, s1⟩ := frames_RMs h3 (Nat.succ.inj hl) h2 fun q hq => hc q (List.mem_cons_of_mem _ hq)
      cases h4 with
      | cons r r0 =>
        rename_i F0 F0'
        have hm := hc it List.mem_cons_self
        cases it with
        | dat d0 m0 =>
          cases h1
          simp only [datM] at hm
          subst hm
          cases r with
          | dat r => exact ⟨_, .cons r r1, (SubP.app (.of_sub (List.sublist_append_left _ _)) s1).trans (.of_perm List.perm_append_comm)⟩
        | _ => cases h1
    · cases e
theorem zip_len {α β : Type} : ∀ {a : List α} {b : List β}, a.length = b.length → (a.zip b).map (·.2) = b
  | [], [], _ => rfl
  | _ :: a, _ :: b, h => by simp [zip_len (Nat.succ.inj h)]
theorem zip_map2 {f : Item → Item} : ∀ {vs : List V} {its : List Item}, (vs.zip its).map (fun p => (p.1, f p.2)) = vs.zip (its.map f)
  | [], _ => by simp
  | _ :: _, [] => by simp
  | _ :: vs, _ :: its => by simp [zip_map2 (vs := vs) (its := its)]
theorem datF_zip : ∀ {vs : List V} {its : List Item}, (∀ it ∈ its, ∃ d m, it = .dat d m) → datF (vs.zip its).reverse := fun {vs its} h p hp => by
  rw [List.mem_reverse] at hp
  exact h _ (List.of_mem_zip hp).2
theorem datsL_map {f : Item → Item} (hf : ∀ d m, datD (f (.dat d m)) = some d) : ∀ {its : List Item} {ds : List PyData}, datsL its = some ds → datsL (its.map f) = some ds
  | [], _, e => e
  | it :: its, ds, e => by
    have hd := datsL_dat e it List.mem_cons_self
    obtain ⟨d, m, rfl⟩ := hd
    simp only [datsL, datD] at e
    split at e
    · rename_i a b h1 h2
      cases h1
      cases e
      simp only [List.map_cons, datsL, hf, datsL_map hf h2]
    · cases e
/-- the items of a display made of one mask -/
theorem ER.level (e : ER K C σ H env ((vs.zip its).reverse ++ fr)) (hl : vs.length = its.length) (hd : datsL its = some ds) : ∃ its', vs.length = its'.length ∧ datsL its' = some ds ∧ (∀ it ∈ its', datM it = lub its) ∧ ER K C σ H env ((vs.zip its').reverse ++ fr) := by
  have hdat := datsL_dat hd
  unfold lub
  split
  · rename_i h
    rw [List.all_eq_true] at h
    refine ⟨its, hl, hd, fun it hit => ?_, e⟩
    have := h it hit
    cases q : datM it <;> rw [q] at this <;> first | rfl | cases this
  · split
    · rename_i _ h
      rw [List.all_eq_true] at h
      have e2 := e.cool (datF_zip hdat)
      rw [List.map_reverse, zip_map2] at e2
      refine ⟨its.map coolI, by simp [hl], datsL_map (f := coolI) (fun _ _ => rfl) hd, fun it hit => ?_, e2⟩
      obtain ⟨it0, h0, rfl⟩ := List.mem_map.mp hit
      obtain ⟨d, m, rfl⟩ := hdat it0 h0
      exact frz_solid (h _ h0)
    · have e2 := e.share (datF_zip hdat)
      rw [List.map_reverse, zip_map2] at e2
      refine ⟨its.map shI, by simp [hl], datsL_map (f := shI) (fun _ _ => rfl) hd, fun it hit => ?_, e2⟩
      obtain ⟨it0, h0, rfl⟩ := List.mem_map.mp hit
      obtain ⟨d, m, rfl⟩ := hdat it0 h0
      rfl
end
section
variable {X : Cx} {e : Expr} {es : List Expr} {te : TVE} {t : TVA} {pos : Pos}
def tvLst (t : TVA) (env : VEnv) (Q : Item → VEnv → Prop) : Prop := t env fun its env1 => match datsL its with
  | some ds => ds.length ≤ sizeLine ∧ Q (.dat (.list ds) (own' (lub its))) env1
  | none => False
def tvTup (t : TVA) (env : VEnv) (Q : Item → VEnv → Prop) : Prop := t env fun its env1 => match datsL its with
  | some ds => ds.length ≤ sizeLine ∧ Q (.dat (.tuple ds) (own' (lub its))) env1
  | none => False
theorem ve_lst (h : VA X es t) : VE X (.List es pos) (tvLst t) :=
  ⟨PEweak (pe_lst h.pa) fun σ H Q ⟨C, env, fr, er, q⟩ => ⟨C, env, fr, er, h.mono _ _ _ (fun its env1 q vs H1 hl er1 => by
      split at q
      · rename_i ds hd
        obtain ⟨its', hl', hd', hm, er2⟩ := er1.level hl hd
        obtain ⟨G, Ft, r, gh, _, _, _, k⟩ := er2.tops
        obtain ⟨F', rs, sp⟩ := frames_RMs r hl' hd' hm
        refine ⟨by rw [← rs.len]; exact q.1, fun p hp => q.2 (.ref p) _ (k p _ hp [(.ref p, .dat (.list ds) (own' (lub its)))] _ Ft (.cons (.dat (.lst (own'_loc upd_same) (by
          rw [own'_child]
          exact rs.ext (fun _ _ q => q) fun a u _ q => upd_cell hp q))) .nil) ?_ (.refl _))⟩
        rw [own'_fp, List.append_nil]
        exact (SubP.refl [(true, p)]).app sp
      · exact q.elim) q⟩,
    fun env Q Q' hQ q => h.mono _ _ _ (fun its env1 q => by
      split at q
      · exact ⟨q.1, hQ _ _ q.2⟩
      · exact q) q⟩
theorem ve_tup {x1} (h : VA X es t) : VE X (.Tuple es x1 pos) (tvTup t) :=
  ⟨PEweak (pe_tup h.pa) fun σ H Q ⟨C, env, fr, er, q⟩ => ⟨C, env, fr, er, h.mono _ _ _ (fun its env1 q vs H1 hl er1 => by
      split at q
      · rename_i ds hd
        obtain ⟨its', hl', hd', hm, er2⟩ := er1.level hl hd
        obtain ⟨G, Ft, r, gh, _, _, _, k⟩ := er2.tops
        obtain ⟨F', rs, sp⟩ := frames_RMs r hl' hd' hm
        refine ⟨by rw [← rs.len]; exact q.1, fun p hp => q.2 (.ref p) _ (k p _ hp [(.ref p, .dat (.tuple ds) (own' (lub its)))] _ Ft (.cons (.dat (.tup (own'_loc upd_same) (by
          rw [own'_child]
          exact rs.ext (fun _ _ q => q) fun a u _ q => upd_cell hp q))) .nil) ?_ (.refl _))⟩
        rw [own'_fp, List.append_nil]
        exact (SubP.refl [(true, p)]).app sp
      · exact q.elim) q⟩,
    fun env Q Q' hQ q => h.mono _ _ _ (fun its env1 q => by
      split at q
      · exact ⟨q.1, hQ _ _ q.2⟩
      · exact q) q⟩
/-- a new empty list, to be filled with things of a mask -/
def tvEmp (m : M) (env : VEnv) (Q : Item → VEnv → Prop) : Prop := Q (.dat (.list []) (own' m)) env
theorem ve_emp (m : M) : VE X (.List [] pos) (tvEmp m) :=
  ⟨PEweak (pe_lst pa_nil) fun σ H Q ⟨C, env, fr, er, q⟩ => ⟨Nat.zero_le _, fun p hp => by
      obtain ⟨G, Ft, r, gh, _, _, _, k⟩ := ER.tops (top := []) er
      refine q (.ref p) _ (k p _ hp [(.ref p, .dat (.list []) (own' m))] _ [] (.cons (.dat (.lst (own'_loc upd_same) .nil)) .nil) ?_ (.nil _))
      rw [own'_fp]
      exact .refl _⟩,
    fun env Q Q' h q => h _ _ q⟩
end

/-! ### defs -/
abbrev VSp := List Item → (Item → Prop) → Prop
def MonoSp (sp : VSp) : Prop := ∀ its Q Q', (∀ r, Q r → Q' r) → sp its Q → sp its Q'
def liftF (K : PySem.W.Frag) (sp : VSp) : Sp := fun vs H Q _ => ∃ B its, vs.length = its.length ∧ Same B H ∧ RFr K H B H (vs.zip its) [] ∧ (∀ it ∈ its, it.fix) ∧ sp its fun r => ∀ v H', ER K ⟨H, B, []⟩ [] H' [] [(v, r)] → Q v H'
def argI : Item → Item
  | .dat d _ => .dat d (if scalarD d then .A else .sh)
  | .vw d _ => .dat d (if scalarD d then .A else .sh)
  | .ro d => .ro d
  | .ob C fl => .os C (fl.map fun p => (p.1, p.2.1))
  | .ov C fl => .os C (fl.map fun p => (p.1, p.2.1))
  | .os C fl => .os C fl
def stableI : Item → Bool
  | .dat _ _ => true
  | .vw d m => m.still || scalarD d
  | .ro _ => true
  | .os _ _ => true
  | _ => false
section
variable {K : PySem.W.Frag} {C : Ctx} {R G H G' H' : Hp} {it it' a b : Item} {v v' x y : V} {F F1 F2 Fa Fb : FP} {σ σ' : St} {env env' : VEnv} {fr fr' top : VFr} {p : Addr} {o : HO} {d : PyData} {m : M} {ds : List PyData} {vs : List V} {its : List Item}
theorem RI.reR (h : RI K R G H it v F) (hf : it.fix) (R' : Hp) : RI K R' G H it v F := by
  cases h with
  | dat r => exact .dat r
  | vw r _ => exact hf.elim
  | ro r => exact .ro r
  | ob e r => exact .ob e r
  | os e r => exact .os e r
  | ov e r _ _ => exact hf.elim
theorem RI.anti (h : RI K R G H it v F) {R' : Hp} (hR : ∀ p, R p = none → R' p = none) : RI K R' G H it v F := by
  cases h with
  | dat r => exact .dat r
  | vw r h1 => exact .vw r fun p hp => hR _ (h1 p hp)
  | ro r => exact .ro r
  | ob e r => exact .ob e r
  | os e r => exact .os e r
  | ov e r h1 h2 => exact .ov e r (hR _ h1) fun p hp => hR _ (h2 p hp)
theorem RFr.reR (h : RFr K R G H fr F) (R' : Hp) : fixF fr → RFr K R' G H fr F := by
  induction h with
  | nil => intro _; exact .nil
  | cons r _ ih => intro hf; exact .cons (r.reR (hf _ List.mem_cons_self) R') (ih fun p hp => hf p (List.mem_cons_of_mem _ hp))
theorem argI_fix : (argI it).fix := by cases it <;> trivial
theorem RM.arg (h : RM G H d m v F) (hG : Same G G') (hH : ∀ a u, (true, a) ∈ F → H a = some u → G' a = some u) : RM G' H' d (if scalarD d then .A else .sh) v [] := by
  by_cases q : scalarD d = true
  · rw [if_pos q]; exact (h.scal q .A).1
  · rw [if_neg q]; exact h.share hG hH
theorem RMf.arg {fl : List (Str × PyData × M)} {fs : List (Str × V)} (h : RMf G H fl fs F) : Same G G' → (∀ a u, (true, a) ∈ F → H a = some u → G' a = some u) → RMf G' H' ((fl.map fun p => (p.1, p.2.1)).map fun p => (p.1, p.2, M.sh)) fs [] := by
  induction h with
  | nil => intro _ _; exact .nil
  | cons r _ ih => intro hG hH; exact .cons (F := []) (r.share hG fun a u q => hH a u (List.mem_append_left _ q)) (ih hG fun a u q => hH a u (List.mem_append_right _ q))
/-- for a callee all is shared: where the heap as it stands is what it may look at -/
theorem RI.argH (h : RI K R G H it v F) (gh : Same G H) : RI K R H H (argI it) v [] := by
  cases h with
  | dat r => exact .dat (r.arg gh fun _ _ _ q => q)
  | vw r _ => exact .dat (r.arg gh fun _ _ _ q => q)
  | ro r => exact .ro (dpExt gh r)
  | ob e r => exact .os (F := []) e (r.arg gh fun _ _ _ q => q)
  | ov e r _ _ => exact .os (F := []) e (r.arg gh fun _ _ _ q => q)
  | os e r => exact (RI.os e r).ext gh (fun _ _ z => nomatch z) (.inl trivial)
theorem RI.argS (h : RI K R G H it v F) (s : stableI it = true) (hG : Same G G') (hH : ∀ a u, (true, a) ∈ F → H a = some u → G' a = some u) : RI K R G' H (argI it) v [] := by
  cases h with
  | dat r => exact .dat (r.arg hG hH)
  | @vw d m v F r hr =>
    by_cases q : scalarD d = true
    · show RI K R G' H (.dat d (if scalarD d = true then .A else .sh)) v []
      rw [if_pos q]
      exact .dat (r.scal q .A).1
    · show RI K R G' H (.dat d (if scalarD d = true then .A else .sh)) v []
      rw [if_neg q]
      have hm : m.still = true := by
        simp only [stableI, Bool.or_eq_true] at s
        exact s.resolve_right q
      exact .dat ((r.still hm).ext hG fun _ _ z => nomatch z)
  | ro r => exact .ro (dpExt hG r)
  | os e r => exact (RI.os e r).ext hG (fun _ _ z => nomatch z) (.inl trivial)
  | ob e r => cases s
  | ov e r _ _ => cases s
theorem RFr.argS (h : RFr K R G H top F) : (∀ p ∈ top, stableI p.2 = true) → Same G G' → (∀ a u, (true, a) ∈ F → H a = some u → G' a = some u) → RFr K R G' H (top.map fun p => (p.1, argI p.2)) [] := by
  induction h with
  | nil => intro _ _ _; exact .nil
  | cons r _ ih =>
    intro s hG hH
    exact .cons (F := []) (r.argS (s _ List.mem_cons_self) hG fun a u q => hH a u (List.mem_append_left _ q)) (ih (fun p hp => s p (List.mem_cons_of_mem _ hp)) hG fun a u q => hH a u (List.mem_append_right _ q))
theorem RFr.argH (h : RFr K R G H top F) (gh : Same G H) : RFr K R H H (top.map fun p => (p.1, argI p.2)) [] := by
  induction h with
  | nil => exact .nil
  | cons r _ ih => exact .cons (F := []) (r.argH gh) ih
theorem RFr.each (h : RFr K R G H top F) : ∀ p ∈ top, ∃ F', RI K R G H p.2 p.1 F' ∧ SubP F' F := by
  induction h with
  | nil => intro p hp; cases hp
  | cons r _ ih =>
    intro p hp
    rcases List.mem_cons.mp hp with rfl | hp
    · exact ⟨_, r, .of_sub (List.sublist_append_left _ _)⟩
    · obtain ⟨F', h1, h2⟩ := ih p hp
      exact ⟨F', h1, h2.trans (.of_sub (List.sublist_append_right _ _))⟩
theorem RFr.of_each : ∀ {top : VFr}, (∀ p ∈ top, RI K R G H p.2 p.1 []) → RFr K R G H top []
  | [], _ => .nil
  | p :: top, h => .cons (F := []) (h p List.mem_cons_self) (RFr.of_each fun q hq => h q (List.mem_cons_of_mem _ hq))
theorem SubP.nil' {F' : FP} (h : SubP F' []) : F' = [] := by
  obtain ⟨F0, h1, h2⟩ := h
  have := List.sublist_nil.mp h2
  subst this
  exact List.Perm.eq_nil h1
theorem RFr.rev (h : RFr K R G H top.reverse []) : RFr K R G H top [] := .of_each fun p hp => by
  obtain ⟨F', h1, h2⟩ := h.each p (List.mem_reverse.mpr hp)
  rw [h2.nil'] at h1
  exact h1
/-- the callee's end, seen from the caller whose frozen things were what the callee could look at -/
theorem ERG.back {B : Hp} {r : Item} (e : ERG K C σ H env fr G F1 F2) (hB : (B = G ∧ True) ∨ (∃ d, r = .dat d .A)) (e2 : ER K ⟨H, B, []⟩ [] H' [] [(v, r)]) : ER K C σ H' env ((v, r) :: fr) := by
  obtain ⟨Gc, F1', F2', e2⟩ := e2
  have hH : Same H H' := e2.h0
  have hsl := e2.sl
  have hfr := e2.fr
  cases hsl
  cases hfr with
  | cons rr r0 =>
    cases r0
    rename_i F0
    have nfc : ∀ q ∈ F0, H q.2 = none ∧ (q.1 = true → Gc q.2 = none) := fun q hq => by
      obtain ⟨a1, _, a3⟩ := e2.nf q (by simpa using hq)
      exact ⟨a1, a3⟩
    have nd0 : ND F0 := by simpa using e2.nd
    have ndN : ND (F1 ++ (F0 ++ F2)) := by
      have pm : (F1 ++ (F0 ++ F2)).Perm (F0 ++ (F1 ++ F2)) := by
        rw [← List.append_assoc, ← List.append_assoc]
        exact List.Perm.append_right F2 List.perm_append_comm
      refine ND.perm ?_ pm
      unfold ND
      rw [List.map_append, List.nodup_append]
      refine ⟨nd0, e.nd, fun a ha b hb z => ?_⟩
      obtain ⟨q, hq, rfl⟩ := List.mem_map.mp ha
      obtain ⟨q', hq', rfl⟩ := List.mem_map.mp hb
      obtain ⟨u, hu⟩ := e.there q' hq'
      rw [← z, (nfc q hq).1] at hu
      cases hu
    have h0n : ∀ q, H q = none → C.H0 q = none ∧ q ∉ C.L.map (·.1) := fun q hq => by
      refine ⟨?_, fun z => ?_⟩
      · cases z : C.H0 q with
        | none => rfl
        | some u =>
          exfalso
          have : ∃ u', lk C.L C.H0 q = some u' := by
            unfold lk
            cases C.L.lookup q with
            | none => exact ⟨u, z⟩
            | some o => exact ⟨_, by rw [z]; rfl⟩
          obtain ⟨u', q'⟩ := this
          rw [e.h0 q u' q'] at hq
          cases hq
      · obtain ⟨u, hu⟩ := e.lx q z
        rw [hq] at hu
        cases hu
    have rr := rr.anti fun p hp => (h0n p hp).1
    rcases hB with ⟨rfl, _⟩ | ⟨d, rfl⟩
    · have hG : Same B Gc := e2.bg
      have keepG : ∀ q ∈ F1 ++ F2, q.1 = true → Gc q.2 = none := fun q hq z => by
        cases y : Gc q.2 with
        | none => rfl
        | some u =>
          rcases e2.fresh q.2 (by rw [y]; exact fun z => nomatch z) with w | w
          · exact absurd ((e.nf q hq).2.2 z) w
          · obtain ⟨u', hu'⟩ := e.there q hq
            have w' : H q.2 = none := w
            rw [w'] at hu'
            cases hu'
      refine ⟨Gc, F1, F0 ++ F2, e2.gh, fun a u q => hH a u (e.h0 a u q), fun a u q => hG a u (e.bg a u q), e.b0, fun a q => (e2.fresh a q).elim (e.fresh a) fun z => .inr (h0n a z).1, e.sl.ext hG (fun a u _ q => hH a u q) (.inr fun a u _ q => hH a u q), .cons rr (e.fr.ext hG (fun a u _ q => hH a u q) (.inr fun a u _ q => hH a u q)), ndN, fun q hq => ?_, e.fx, fun a ha => (e.lx a ha).imp fun u q => hH a u q⟩
      rcases List.mem_append.mp hq with z | z
      · obtain ⟨n1, n2, n3⟩ := e.nf q (List.mem_append_left _ z)
        exact ⟨n1, n2, keepG q (List.mem_append_left _ z)⟩
      · rcases List.mem_append.mp z with z | z
        · exact ⟨(h0n _ (nfc q z).1).1, (h0n _ (nfc q z).1).2, (nfc q z).2⟩
        · obtain ⟨n1, n2, n3⟩ := e.nf q (List.mem_append_right _ z)
          exact ⟨n1, n2, keepG q (List.mem_append_right _ z)⟩
    · have rr' : RI K C.H0 G H' (.dat d .A) v F0 := by
        cases rr with
        | dat r =>
          have := RM.conv (G' := G) (H' := H') (φ := id) (g := some) (P := fun m => m = .A) (S := fun _ => True)
            ⟨fun m h => by subst h; rfl, fun _ _ => rfl, fun m a _ => (fm_some _).symm, fun m a u p _ h => by subst p; exact h, fun m a u p _ _ h => by subst p; exact h⟩ r rfl (fun _ _ => trivial)
          rw [fm_some] at this
          exact .dat this
      have gA : ∀ q ∈ F0, q.1 = true → G q.2 = none := fun q hq _ => by
        cases y : G q.2 with
        | none => rfl
        | some u =>
          have := e.gh _ _ y
          rw [(nfc q hq).1] at this
          cases this
      refine ⟨G, F1, F0 ++ F2, fun a u q => hH a u (e.gh a u q), fun a u q => hH a u (e.h0 a u q), e.bg, e.b0, e.fresh, e.sl.ext (fun _ _ q => q) (fun a u _ q => hH a u q) (.inr fun a u _ q => hH a u q), .cons rr' (e.fr.ext (fun _ _ q => q) (fun a u _ q => hH a u q) (.inr fun a u _ q => hH a u q)), ndN, fun q hq => ?_, e.fx, fun a ha => (e.lx a ha).imp fun u q => hH a u q⟩
      rcases List.mem_append.mp hq with z | z
      · exact e.nf q (List.mem_append_left _ z)
      · rcases List.mem_append.mp z with z | z
        · exact ⟨(h0n _ (nfc q z).1).1, (h0n _ (nfc q z).1).2, gA q z⟩
        · exact e.nf q (List.mem_append_right _ z)
def callI (sp : VSp) (its : List Item) (Q : Item → Prop) : Prop := if its.all stableI then sp (its.map argI) Q else sp (its.map argI) fun r => (∃ d, r = .dat d .A) ∧ Q r
theorem ERG.pop (e : ERG K C σ H env (top ++ fr) G F1 F2) : ∃ F2', ERG K C σ H env fr G F1 F2' := by
  obtain ⟨Ft, Fr, rfl, h1, h2⟩ := e.fr.split
  have sp : SubP (F1 ++ Fr) (F1 ++ (Ft ++ Fr)) := (SubP.refl F1).app (.of_sub (List.sublist_append_right _ _))
  exact ⟨Fr, e.gh, e.h0, e.bg, e.b0, e.fresh, e.sl, h2, e.nd.subP sp, fun q hq => e.nf q (sp.mem hq), e.fx, e.lx⟩
/-- the callee's promise, from the items that are handed in -/
theorem call_ok {sp : VSp} (hm : MonoSp sp) (er : ER K C σ H env ((vs.zip its).reverse ++ fr)) (hl : vs.length = its.length) {Q : VK} {E : XK} {Q' : Item → Prop} (q : callI sp its Q') (k : ∀ r v H', Q' r → ER K C σ H' env ((v, r) :: fr) → Q v H') : liftF K sp vs H Q E := by
  unfold callI at q
  split at q
  · rename_i hs
    rw [List.all_eq_true] at hs
    have hst : ∀ p ∈ (vs.zip its).reverse, stableI p.2 = true := fun p hp => hs _ (List.of_mem_zip (List.mem_reverse.mp hp)).2
    have er2 := er.freezeTop (List.map fun p => (p.1, argI p.2)) fun {G G' F} r hG hH => ⟨[], r.argS hst hG hH, .nil _⟩
    obtain ⟨G, F1, F2, e⟩ := er2
    obtain ⟨Ft, Fr, rfl, h1, h2⟩ := e.fr.split
    have h3 := h1.argS (G' := G) (fun p hp => by
      obtain ⟨p0, _, rfl⟩ := List.mem_map.mp hp
      cases p0.2 <;> rfl) (fun _ _ q => q) (fun a u hq q => by
      exfalso
      have := h1.there
      obtain ⟨p0, h0⟩ : ∃ p ∈ List.map (fun p => (p.1, argI p.2)) (vs.zip its).reverse, ∃ F', RI K C.H0 G H p.2 p.1 F' ∧ (true, a) ∈ F' := by
        clear h2 e this
        revert hq
        generalize List.map (fun p => (p.1, argI p.2)) (vs.zip its).reverse = l at h1
        intro hq
        induction h1 with
        | nil => cases hq
        | cons r _ ih =>
          rcases List.mem_append.mp hq with z | z
          · exact ⟨_, List.mem_cons_self, _, r, z⟩
          · obtain ⟨p, hp, h⟩ := ih z
            exact ⟨p, List.mem_cons_of_mem _ hp, h⟩
      obtain ⟨hp, F', r, hF⟩ := h0
      obtain ⟨⟨v0, it0⟩, _, rfl⟩ := List.mem_map.mp hp
      simp only at r
      cases it0 with
      | dat d m =>
        simp only [argI] at r
        cases r with
        | dat r =>
          by_cases z : scalarD d = true
          · rw [(r.scal (G' := G) (H' := H) z .A).2] at hF; cases hF
          · rw [if_neg z] at r; rw [r.sh_nil] at hF; cases hF
      | vw d m =>
        simp only [argI] at r
        cases r with
        | dat r =>
          by_cases z : scalarD d = true
          · rw [(r.scal (G' := G) (H' := H) z .A).2] at hF; cases hF
          · rw [if_neg z] at r; rw [r.sh_nil] at hF; cases hF
      | ro d => cases r; cases hF
      | ob C fl => cases r; cases hF
      | os C fl => cases r; cases hF
      | ov C fl => cases r; cases hF)
    have h4 : RFr K C.H0 G H (vs.zip (its.map argI)) [] := by
      have e1 : ((List.map (fun p : V × Item => (p.1, argI p.2)) (vs.zip its).reverse).map fun p => (p.1, argI p.2)) = (vs.zip (its.map argI)).reverse := by
        rw [List.map_reverse, zip_map2, List.map_reverse, zip_map2, List.map_map]
        congr 2
        refine List.map_congr_left fun it _ => ?_
        show argI (argI it) = argI it
        cases it <;> rfl
      rw [e1] at h3
      exact h3.rev
    obtain ⟨F2', e0⟩ := e.pop
    exact ⟨G, its.map argI, by simp [hl], e.gh, h4.reR H (zip_fix fun it hit => by
      obtain ⟨_, _, rfl⟩ := List.mem_map.mp hit
      exact argI_fix), fun it hit => by
      obtain ⟨_, _, rfl⟩ := List.mem_map.mp hit
      exact argI_fix, hm _ _ _ (fun r hr v H' e2 => k r v H' hr (e0.back (.inl ⟨rfl, trivial⟩) e2)) q⟩
  · obtain ⟨G, F1, F2, e⟩ := er
    obtain ⟨Ft, Fr, rfl, h1, h2⟩ := e.fr.split
    have h3 := h1.argH e.gh
    rw [List.map_reverse, zip_map2] at h3
    obtain ⟨F2', e0⟩ := e.pop
    exact ⟨H, its.map argI, by simp [hl], fun _ _ q => q, h3.rev.reR H (zip_fix fun it hit => by
      obtain ⟨_, _, rfl⟩ := List.mem_map.mp hit
      exact argI_fix), fun it hit => by
      obtain ⟨_, _, rfl⟩ := List.mem_map.mp hit
      exact argI_fix, hm _ _ _ (fun r hr v H' e2 => k r v H' hr.2 (e0.back (.inr hr.1) e2)) q⟩
theorem callI_mono {sp : VSp} (hm : MonoSp sp) {Q Q' : Item → Prop} (h : ∀ r, Q r → Q' r) (q : callI sp its Q) : callI sp its Q' := by
  unfold callI at q ⊢
  split at q
  · rename_i h1; rw [if_pos h1]; exact hm _ _ _ h q
  · rename_i h1; rw [if_neg h1]; exact hm _ _ _ (fun r hr => ⟨hr.1, h r hr.2⟩) q
end
def tvCall (sp : VSp) (t : TVA) (env : VEnv) (Q : Item → VEnv → Prop) : Prop := t env fun its env1 => callI sp its fun r => Q r env1
section
variable {X : Cx} {k : Nat} {f : Addr} {fd : FuncData} {ps : List Str} {sp : VSp} {x : Str} {p pos : Pos} {e : Expr} {es : List Expr} {t : TVA}
theorem ve_call (hm : MonoSp sp) (F : FnOk X.prog X.w X.K X.mg X.base CX0 k f fd ps (liftF X.K sp)) (hr : Room k X.A) (hg : Gl X x) (hmg : X.mg x = some (.ref f)) (hk : PySem.W.keepIn X.K (.ref f) = true) (hb : Binds X.K fd ps [])
    (ha : VA X (e :: es) t) (hdb : (x == ("__debug__" : Str)) = false := by decide) (he : starEach (e :: es) X.env = (false, eval e X.env) :: starEach es X.env := by rfl) (hpl : (backTo pos (starEach es X.env)).any (·.1) = false := by rfl) :
    VE X (.Call (.Name x p) (e :: es) [] pos) (tvCall sp t) :=
  ⟨PEweak (pe_call (E := E0) F hr hg hmg hk hb .nil pass0 ha.pa hdb he hpl) fun σ H Q ⟨C, env, fr, er, q⟩ => ⟨C, env, fr, er, ha.mono _ _ _ (fun its env1 q vs H1 hl er1 => by
      show liftF X.K sp (vs ++ []) H1 Q E0
      rw [List.append_nil]
      exact call_ok hm er1 hl q fun r v H' hq er2 => hq v H' er2) q⟩,
    fun env Q Q' h q => ha.mono _ _ _ (fun its env1 q => callI_mono hm (fun r => h r _) q) q⟩
end
/-- the state at a def's entry -/
def entry (its : List Item) (n : Nat) : VEnv := its.map some ++ List.replicate (n - its.length) none
theorem sl_entry {K : PySem.W.Frag} {R G H : Hp} {σr : St} {er : VEnv} (h0 : RSl K R G H σr er []) : ∀ {vs : List V} {its : List Item}, RFr K R G H (vs.zip its) [] → vs.length = its.length → RSl K R G H (vs.map some ++ σr) (its.map some ++ er) []
  | [], [], _, _ => h0
  | v :: vs, it :: its, h, hl => by
    obtain ⟨F', r, s⟩ := h.each (v, it) List.mem_cons_self
    rw [s.nil'] at r
    have hr : RFr K R G H (vs.zip its) [] := .of_each fun p hp => by
      obtain ⟨F', r, s⟩ := h.each p (List.mem_cons_of_mem _ hp)
      rw [s.nil'] at r
      exact r
    exact .cons (F := []) ⟨v, rfl, r⟩ (sl_entry h0 hr (Nat.succ.inj hl))
theorem sl_none {K : PySem.W.Frag} {R G H : Hp} : ∀ n, RSl K R G H (List.replicate n none) (List.replicate n none) []
  | 0 => .nil
  | n + 1 => .cons (F := []) (F' := []) rfl (sl_none n)
section
variable {P : Program} {w : World} {K : PySem.W.Frag} {mg : Str → Option Value} {base : Heap}
theorem vfn {x qual : Str} {st : Stmt} {f : Addr} {fd : FuncData} {N ps : List Str} {k : Nat} {sp : VSp} (F : Fun K x qual st f fd) (S : FnScope N ps (defScope st)) (hl : ∀ its Q, sp its Q → its.length = ps.length)
    (hbody : ∀ (cdv : Value) (A : Around) (outer : List Env) (s : Shared) (H : Hp) (E : XK), Room k (A.deeper (envOfC qual (defScope st) s.heap.objs.size f cdv)) →
      ∃ t, VSs (cxOf CX0 P w K mg base N qual (defScope st) f cdv A outer s H E).nox (defBody st) t ∧ ∀ its Q, sp its Q → t { nx := fun _ => Q (.dat .none .A), rt := Q } (entry its N.length)) : FnOk P w K mg base CX0 (k + 1) f fd ps (liftF K sp) := by
  refine F.ok S (fun vs H Q E ⟨B, its, h1, _, _, _, h2⟩ => h1.trans (hl _ _ h2)) fun cdv A outer s H vs Q E hr h => ?_
  obtain ⟨B, its, h1, h2, h3, h4, h5⟩ := h
  obtain ⟨t, ht, hq⟩ := hbody cdv A outer s H E hr
  refine ⟨_, ht.ps, ⟨H, B, []⟩, entry its N.length, [], ?_, (fun _ z => by cases z), ht.mono _ { nx := fun _ => ∀ v H', ER K ⟨H, B, []⟩ [] H' [] [(v, Item.dat .none .A)] → Q v H', rt := fun r => ∀ v H', ER K ⟨H, B, []⟩ [] H' [] [(v, r)] → Q v H' } (liftD K ⟨H, B, []⟩ [] { nx := fun _ H' => Q .non H', rt := Q }) ⟨fun e q σ' H' er => ?_, fun it q σ' v H' er => q v H' er.only, fun _ q => q.elim, fun _ q => q.elim⟩ (hq its _ h5)⟩
  · refine ⟨B, [], [], h2, fun _ _ q => q, fun _ _ q => q, h2, fun _ z => .inl z, ?_, .nil, List.nodup_nil, fun _ z => (nomatch z), fun o ho it e => ?_, fun _ z => (nomatch z)⟩
    · unfold L2.start entry
      rw [h1]
      exact sl_entry (sl_none _) h3 h1
    · subst e
      unfold entry at ho
      rcases List.mem_append.mp ho with z | z
      · obtain ⟨it', h, e⟩ := List.mem_map.mp z
        cases e
        exact h4 it h
      · rw [List.mem_replicate] at z
        cases z.2
  · exact q .non H' (ER.only (er.push fun _ => .dat .non))
end
end VL

namespace VL
open PySem PySem.Spec PyProof.Rows L2

/-! ### and, or, not, if .. else, chains -/
section
variable {X : Cx} {e a b c : Expr} {rest : List Expr} {ta tb tc : TVE} {tA tB : TVT} {pos : Pos}
def tvAnd (t u : TVT) (env : VEnv) (Q : Bool → VEnv → Prop) : Prop := t env fun b env1 => if b = true then u env1 Q else Q false env1
def tvOr (t u : TVT) (env : VEnv) (Q : Bool → VEnv → Prop) : Prop := t env fun b env1 => if b = true then Q true env1 else u env1 Q
def tvNot (t : TVT) (env : VEnv) (Q : Bool → VEnv → Prop) : Prop := t env fun b env1 => Q (!b) env1
theorem monoAnd (h1 : MonoT tA) (h2 : MonoT tB) : MonoT (tvAnd tA tB) := fun env Q Q' h q => h1 _ _ _ (fun b env1 q => by
  cases b with
  | true => exact h2 _ _ _ h q
  | false => exact h _ _ q) q
theorem monoOr (h1 : MonoT tA) (h2 : MonoT tB) : MonoT (tvOr tA tB) := fun env Q Q' h q => h1 _ _ _ (fun b env1 q => by
  cases b with
  | true => exact h _ _ q
  | false => exact h2 _ _ _ h q) q
theorem VW.vt (h : VW X e tA) : VT X e tA := ⟨h.pw.pt, h.mono⟩
theorem vw_and1 (ha : VT X a tA) : VW X (.BoolOp .And [a] pos) tA := ⟨pw_and1 ha.pt, ha.mono⟩
theorem vw_or1 (ha : VT X a tA) : VW X (.BoolOp .Or [a] pos) tA := ⟨pw_or1 ha.pt, ha.mono⟩
theorem vw_and (ha : VT X a tA) (hb : VW X (.BoolOp .And (b :: rest) pos) tB) : VW X (.BoolOp .And (a :: b :: rest) pos) (tvAnd tA tB) :=
  ⟨PWweak (pw_and ha.pt hb.pw) fun σ H Q ⟨C, env, fr, er, q⟩ => ⟨C, env, fr, er, ha.mono _ _ _ (fun b env1 q H1 er1 => by
      cases b with
      | true => exact ⟨C, env1, fr, er1, q⟩
      | false => exact q H1 er1) q⟩, monoAnd ha.mono hb.mono⟩
theorem vw_or (ha : VT X a tA) (hb : VW X (.BoolOp .Or (b :: rest) pos) tB) : VW X (.BoolOp .Or (a :: b :: rest) pos) (tvOr tA tB) :=
  ⟨PWweak (pw_or ha.pt hb.pw) fun σ H Q ⟨C, env, fr, er, q⟩ => ⟨C, env, fr, er, ha.mono _ _ _ (fun b env1 q H1 er1 => by
      cases b with
      | true => exact q H1 er1
      | false => exact ⟨C, env1, fr, er1, q⟩) q⟩, monoOr ha.mono hb.mono⟩
theorem vt_not (ha : VT X a tA) : VT X (.UnaryOp .Not a pos) (tvNot tA) :=
  ⟨PTweak (pt_not ha.pt) fun σ H Q ⟨C, env, fr, er, q⟩ => ⟨C, env, fr, er, q⟩, fun env Q Q' h q => ha.mono _ _ _ (fun b env1 q => h _ _ q) q⟩
/-- as values -/
def tvAndV (ta tb : TVE) (env : VEnv) (Q : Item → VEnv → Prop) : Prop := ta env fun it env1 => match it.data with
  | some (.bool b) => if b = true then tb env1 Q else Q (.dat (.bool false) .A) env1
  | _ => False
def tvOrV (ta tb : TVE) (env : VEnv) (Q : Item → VEnv → Prop) : Prop := ta env fun it env1 => match it.data with
  | some (.bool b) => if b = true then Q (.dat (.bool true) .A) env1 else tb env1 Q
  | _ => False
def tvNotV (ta : TVE) (env : VEnv) (Q : Item → VEnv → Prop) : Prop := ta env fun it env1 => match it.data with
  | some (.bool b) => Q (.dat (.bool (!b)) .A) env1
  | _ => False
theorem ve_one {op} (h : VE X a ta) : VE X (.BoolOp op [a] pos) ta := ⟨pe_one h.pe, h.mono⟩
theorem ve_and (ha : VE X a ta) (hb : VE X (.BoolOp .And (b :: rest) pos) tb) : VE X (.BoolOp .And (a :: b :: rest) pos) (tvAndV ta tb) :=
  ⟨PEweak (pe_and ha.pe hb.pe) fun σ H Q ⟨C, env, fr, er, q⟩ => ⟨C, env, fr, er, ha.mono _ _ _ (fun it env1 q v H1 er1 => by
      split at q
      · rename_i c hc
        obtain ⟨G, Fa, r, gh, k, _⟩ := er1.peek1
        refine ⟨c, r.bool hc, ?_⟩
        cases c with
        | true => exact ⟨C, env1, fr, er1.pop (top := [_]), q⟩
        | false => exact q _ _ (er1.plain1 (.bl _))
      · exact q.elim) q⟩, fun env Q Q' h q => ha.mono _ _ _ (fun it env1 q => by
      split at q
      · rename_i c hc
        cases c with
        | true => exact hb.mono _ _ _ h q
        | false => exact h _ _ q
      · exact q) q⟩
theorem ve_or (ha : VE X a ta) (hb : VE X (.BoolOp .Or (b :: rest) pos) tb) : VE X (.BoolOp .Or (a :: b :: rest) pos) (tvOrV ta tb) :=
  ⟨PEweak (pe_or ha.pe hb.pe) fun σ H Q ⟨C, env, fr, er, q⟩ => ⟨C, env, fr, er, ha.mono _ _ _ (fun it env1 q v H1 er1 => by
      split at q
      · rename_i c hc
        obtain ⟨G, Fa, r, gh, k, _⟩ := er1.peek1
        refine ⟨c, r.bool hc, ?_⟩
        cases c with
        | true => exact q _ _ (er1.plain1 (.bl _))
        | false => exact ⟨C, env1, fr, er1.pop (top := [_]), q⟩
      · exact q.elim) q⟩, fun env Q Q' h q => ha.mono _ _ _ (fun it env1 q => by
      split at q
      · rename_i c hc
        cases c with
        | true => exact h _ _ q
        | false => exact hb.mono _ _ _ h q
      · exact q) q⟩
theorem ve_not (ha : VE X a ta) : VE X (.UnaryOp .Not a pos) (tvNotV ta) :=
  ⟨PEweak (pe_not ha.pe) fun σ H Q ⟨C, env, fr, er, q⟩ => ⟨C, env, fr, er, ha.mono _ _ _ (fun it env1 q v H1 er1 => by
      split at q
      · rename_i c hc
        obtain ⟨G, Fa, r, gh, k, _⟩ := er1.peek1
        exact ⟨c, r.bool hc, q _ _ (er1.plain1 (.bl _))⟩
      · exact q.elim) q⟩, fun env Q Q' h q => ha.mono _ _ _ (fun it env1 q => by
      split at q
      · exact h _ _ q
      · exact q) q⟩
def tvIfE (t : TVT) (ta tb : TVE) (env : VEnv) (Q : Item → VEnv → Prop) : Prop := t env fun c env1 => if c = true then ta env1 Q else tb env1 Q
theorem ve_ifExp (hc : VT X c tA) (ha : VE X a ta) (hb : VE X b tb) : VE X (.IfExp c a b pos) (tvIfE tA ta tb) :=
  ⟨PEweak (pe_ifExp hc.pt ha.pe hb.pe) fun σ H Q ⟨C, env, fr, er, q⟩ => ⟨C, env, fr, er, hc.mono _ _ _ (fun b env1 q H1 er1 => by
      cases b with
      | true => exact ⟨C, env1, fr, er1, q⟩
      | false => exact ⟨C, env1, fr, er1, q⟩) q⟩, fun env Q Q' h q => hc.mono _ _ _ (fun b env1 q => by
      cases b with
      | true => exact ha.mono _ _ _ h q
      | false => exact hb.mono _ _ _ h q) q⟩
/-- a op b op' c on ints -/
def tvChain (f g : Int → Int → Bool) (ta tb tc : TVE) (env : VEnv) (Q : Item → VEnv → Prop) : Prop := ta env fun x env1 => tb env1 fun y env2 => match x.data, y.data with
  | some (.int i), some (.int j) => if f i j = true then tc env2 (fun z env3 => match z.data with
      | some (.int k) => Q (.dat (.bool (g j k)) .A) env3
      | _ => False) else Q (.dat (.bool false) .A) env2
  | _, _ => False
theorem monoChain {f g : Int → Int → Bool} (ha : MonoE ta) (hb : MonoE tb) (hc : MonoE tc) : MonoE (tvChain f g ta tb tc) := fun env Q Q' h q => ha _ _ _ (fun x env1 q => hb _ _ _ (fun y env2 q => by
  split at q
  · split at q
    · rename_i h1
      rw [if_pos h1]
      exact hc _ _ _ (fun z env3 q => by
        split at q
        · exact h _ _ q
        · exact q) q
    · rename_i h1
      rw [if_neg h1]
      exact h _ _ q
  · exact q) q) q
theorem chain_ok {K : PySem.W.Frag} {f g : Int → Int → Bool} (ha : MonoE ta) (hb : MonoE tb) (hc : MonoE tc) {σ : St} {H : Hp} {Q : VK} (h : liftE K (tvChain f g ta tb tc) σ H Q) :
    tChain (rI0 fun i j => .bl (f i j)) (rI0 fun i j => .bl (g i j)) (liftE K ta) (liftE K tb) (liftE K tc) σ H Q := by
  obtain ⟨C, env, fr, er, q⟩ := h
  refine ⟨C, env, fr, er, ha _ _ _ (fun x env1 q v H1 er1 => ⟨C, env1, (v, x) :: fr, er1, hb _ _ _ (fun y env2 q u H2 er2 => ?_) q⟩) q⟩
  split at q
  · rename_i i j e1 e2
    obtain ⟨G, Fb, Fa, rb, ra, _⟩ := er2.peek2
    refine ⟨i, j, ra.int e1, rb.int e2, f i j, rfl, ?_⟩
    split at q
    · rename_i h1
      rw [if_pos h1]
      refine ⟨C, env2, (u, y) :: (v, x) :: fr, er2, hc _ _ _ (fun z env3 q w' H3 er3 => ?_) q⟩
      split at q
      · rename_i k e3
        obtain ⟨G3, Fb3, Fa3, rb3, ra3, _⟩ := er3.peek2
        exact ⟨j, k, ra3.int e2, rb3.int e3, q _ _ (ER.plain2 (er3.plain2 (v := .bl (g j k)) (d := .bool (g j k)) (m := .A) (.bl _)) (.bl _))⟩
      · exact q.elim
    · rename_i h1
      rw [if_neg h1]
      exact q _ _ (er2.plain2 (.bl _))
  · exact q.elim
end
end VL
namespace VL
open PySem PySem.Spec PyProof.Rows L2
section
variable {X : Cx} {a b c : Expr} {ta tb tc : TVE} {pos : Pos}
theorem ve_chain_le_le (ha : VE X a ta) (hb : VE X b tb) (hc : VE X c tc) (hm : lastMarks [.LtE, .LtE] [b, c] = false := by with_unfolding_all rfl) : VE X (.Compare a [.LtE, .LtE] [b, c] pos) (tvChain (fun i j => decide (i ≤ j)) (fun i j => decide (i ≤ j)) ta tb tc) :=
  ⟨PEweak (pe_chain op_le op_le ha.pe hb.pe hc.pe hm) fun _ _ _ h => chain_ok ha.mono hb.mono hc.mono h, monoChain ha.mono hb.mono hc.mono⟩
theorem ve_chain_le_lt (ha : VE X a ta) (hb : VE X b tb) (hc : VE X c tc) (hm : lastMarks [.LtE, .Lt] [b, c] = false := by with_unfolding_all rfl) : VE X (.Compare a [.LtE, .Lt] [b, c] pos) (tvChain (fun i j => decide (i ≤ j)) (fun i j => decide (i < j)) ta tb tc) :=
  ⟨PEweak (pe_chain op_le op_lt ha.pe hb.pe hc.pe hm) fun _ _ _ h => chain_ok ha.mono hb.mono hc.mono h, monoChain ha.mono hb.mono hc.mono⟩
theorem vt_chain_le_le (ha : VE X a ta) (hb : VE X b tb) (hc : VE X c tc) (hm : lastMarks [.LtE, .LtE] [b, c] = false := by with_unfolding_all rfl) : VT X (.Compare a [.LtE, .LtE] [b, c] pos) (tvB (tvChain (fun i j => decide (i ≤ j)) (fun i j => decide (i ≤ j)) ta tb tc)) :=
  ⟨PTweak (pt_chain op_le op_le ha.pe hb.pe hc.pe hm) fun σ H Q q => by
    obtain ⟨C, env, fr, er, q⟩ := tvB_ok (X := X) (monoChain ha.mono hb.mono hc.mono) q
    exact chain_ok ha.mono hb.mono hc.mono ⟨C, env, fr, er, q⟩, monoB (monoChain ha.mono hb.mono hc.mono)⟩
theorem vt_chain_le_lt (ha : VE X a ta) (hb : VE X b tb) (hc : VE X c tc) (hm : lastMarks [.LtE, .Lt] [b, c] = false := by with_unfolding_all rfl) : VT X (.Compare a [.LtE, .Lt] [b, c] pos) (tvB (tvChain (fun i j => decide (i ≤ j)) (fun i j => decide (i < j)) ta tb tc)) :=
  ⟨PTweak (pt_chain op_le op_lt ha.pe hb.pe hc.pe hm) fun σ H Q q => by
    obtain ⟨C, env, fr, er, q⟩ := tvB_ok (X := X) (monoChain ha.mono hb.mono hc.mono) q
    exact chain_ok ha.mono hb.mono hc.mono ⟨C, env, fr, er, q⟩, monoB (monoChain ha.mono hb.mono hc.mono)⟩
end

/-! ### built-ins called by their names -/
abbrev RCV := List Item → (Item → Prop) → Prop
def SndC (K : PySem.W.Frag) (r : RCV) (R : List V → Hp → VK → Prop) : Prop := ∀ (C : Ctx) (σ : St) (env : VEnv) (fr : VFr) (H : Hp) (vs : List V) (its : List Item) (Q : VK) (Q' : Item → Prop),
  vs.length = its.length → ER K C σ H env ((vs.zip its).reverse ++ fr) → r its Q' → (∀ it v H', Q' it → ER K C σ H' env ((v, it) :: fr) → Q v H') → R vs H Q
def MonoC (r : RCV) : Prop := ∀ its Q Q', (∀ it, Q it → Q' it) → r its Q → r its Q'
def tvCB (r : RCV) (t : TVA) (env : VEnv) (Q : Item → VEnv → Prop) : Prop := t env fun its env1 => r its fun it => Q it env1
section
variable {X : Cx} {r : RCV} {R : List V → Hp → VK → Prop} {x : Str} {p pos : Pos} {e : Expr} {es : List Expr} {t : TVA} {id T : String}
theorem cb_ok (hs : SndC X.K r R) (ha : VA X (e :: es) t) {σ : St} {H : Hp} {Q : VK} (h : liftE X.K (tvCB r t) σ H Q) : tCB R (liftA X.K t) σ H Q := by
  obtain ⟨C, env, fr, er, q⟩ := h
  exact ⟨C, env, fr, er, ha.mono _ _ _ (fun its env1 q vs H1 hl er1 => hs C σ env1 fr H1 vs its Q _ hl er1 q fun it v H' q er' => q v H' er') q⟩
theorem ve_callB (hc : CallR X (.builtin id) R) (hs : SndC X.K r R) (hr : MonoC r) (hg : Gl X x) (hm : X.mg x = none) (hv : bootBuiltins x = some (.builtin id)) (ha : VA X (e :: es) t) (hn : x ≠ "__name__" := by decide) (hdb : (x == ("__debug__" : Str)) = false := by decide)
    (he : starEach (e :: es) X.env = (false, eval e X.env) :: starEach es X.env := by rfl) (hpl : (backTo pos (starEach es X.env)).any (·.1) = false := by rfl) : VE X (.Call (.Name x p) (e :: es) [] pos) (tvCB r t) :=
  ⟨PEweak (pe_callB hc hg hm hv ha.pa hn hdb he hpl) fun _ _ _ h => cb_ok hs ha h, fun env Q Q' h q => ha.mono _ _ _ (fun its env1 q => hr _ _ _ (fun it q => h _ _ q) q) q⟩
theorem ve_callTy (hc : CallR X (.type T) R) (hs : SndC X.K r R) (hr : MonoC r) (hg : Gl X x) (hm : X.mg x = none) (hv : bootBuiltins x = some (.type T)) (ha : VA X (e :: es) t) (hn : x ≠ "__name__" := by decide) (hdb : (x == ("__debug__" : Str)) = false := by decide)
    (he : starEach (e :: es) X.env = (false, eval e X.env) :: starEach es X.env := by rfl) (hpl : (backTo pos (starEach es X.env)).any (·.1) = false := by rfl) : VE X (.Call (.Name x p) (e :: es) [] pos) (tvCB r t) :=
  ⟨PEweak (pe_callTy hc hg hm hv ha.pa hn hdb he hpl) fun _ _ _ h => cb_ok hs ha h, fun env Q Q' h q => ha.mono _ _ _ (fun its env1 q => hr _ _ _ (fun it q => h _ _ q) q) q⟩
end
/-- one argument -/
def rc1 (f : Item → (Item → Prop) → Prop) (its : List Item) (Q : Item → Prop) : Prop := match its with
  | [a] => f a Q
  | _ => False
theorem vs1 {vs : List V} {a : Item} (h : vs.length = [a].length) : ∃ x, vs = [x] := by
  match vs, h with
  | [x], _ => exact ⟨x, rfl⟩
theorem vs2 {vs : List V} {a b : Item} (h : vs.length = [a, b].length) : ∃ x y, vs = [x, y] := by
  match vs, h with
  | [x, y], _ => exact ⟨x, y, rfl⟩
/-- len of a list, of a tuple -/
def rLen (its : List Item) (Q : Item → Prop) : Prop := match its with
  | [a] => match a.data.bind seqD with
    | some ds => Q (.dat (.int ds.length) .A)
    | none => False
  | _ => False
theorem rLen_mono : MonoC rLen := fun its Q Q' h q => by
  unfold rLen at q ⊢
  split at q
  · split at q
    · exact h _ q
    · exact q.elim
  · exact q.elim
theorem snd_len {K : PySem.W.Frag} : SndC K rLen (fun xs H Q => ∃ p ys, xs = [.ref p] ∧ (SqL K H p ys ∨ SqT K H p ys) ∧ Q (.int ys.length) H) := by
  intro C σ env fr H vs its Q Q' hl er q k
  unfold rLen at q
  split at q
  · obtain ⟨x, rfl⟩ := vs1 hl
    split at q
    · rename_i ds hd
      obtain ⟨G, Fa, ra, gh, _⟩ := ER.peek1 er
      obtain ⟨p, ys, rfl, hs, hln, _⟩ := ra.seq gh hd
      exact ⟨p, ys, rfl, hs, by rw [← hln]; exact k _ _ H q (ER.plain1 er (.int _))⟩
    · exact q.elim
  · exact q.elim
/-- max, min of two ints -/
def rMM (f : Int → Int → Int) (its : List Item) (Q : Item → Prop) : Prop := match its with
  | [a, b] => match a.data, b.data with
    | some (.int i), some (.int j) => Q (.dat (.int (f i j)) .A)
    | _, _ => False
  | _ => False
theorem rMM_mono {f : Int → Int → Int} : MonoC (rMM f) := fun its Q Q' h q => by
  unfold rMM at q ⊢
  split at q
  · split at q
    · exact h _ q
    · exact q.elim
  · exact q.elim
theorem snd_MM {K : PySem.W.Frag} {f : Int → Int → Int} : SndC K (rMM f) (fun xs H Q => ∃ i j, xs = [.int i, .int j] ∧ Q (.int (f i j)) H) := by
  intro C σ env fr H vs its Q Q' hl er q k
  unfold rMM at q
  split at q
  · obtain ⟨x, y, rfl⟩ := vs2 hl
    split at q
    · rename_i i j h1 h2
      obtain ⟨G, Fb, Fa, rb, ra, gh, _⟩ := ER.peek2 er
      rw [ra.int h1, rb.int h2]
      exact ⟨i, j, rfl, k _ _ H q (ER.plain2 er (.int _))⟩
    · exact q.elim
  · exact q.elim
/-- what a list of ints is -/
def intsD : List PyData → Option (List Int)
  | [] => some []
  | .int i :: ds => match intsD ds with
    | some is => some (i :: is)
    | none => none
  | _ => none
theorem RMs.ints {G H : Hp} {m : M} : ∀ {ds : List PyData} {vs : List V} {F : FP} {ns : List Int}, RMs G H ds m vs F → intsD ds = some ns → vs = ns.map V.int
  | [], _, _, _, .nil, e => by cases e; rfl
  | d :: ds, _, _, ns, .cons r rs, e => by
    cases d <;> try cases e
    rename_i i
    simp only [intsD] at e
    split at e
    · rename_i is h
      cases e
      cases r
      rw [RMs.ints rs h]
      rfl
    · cases e
theorem dpInts {K : PySem.W.Frag} {H : Hp} : ∀ {ds : List PyData} {vs : List V} {ns : List Int}, DpAll K H vs ds → intsD ds = some ns → vs = ns.map V.int
  | [], _, _, .nil, e => by cases e; rfl
  | d :: ds, _, ns, .cons r rs, e => by
    cases d <;> try cases e
    rename_i i
    simp only [intsD] at e
    split at e
    · rename_i is h
      cases e
      cases r
      rw [dpInts rs h]
      rfl
    · cases e
theorem intsD_map (ns : List Int) : intsD (ns.map PyData.int) = some ns := by
  induction ns with
  | nil => rfl
  | cons n ns ih => simp only [List.map_cons, intsD, ih]
def listD : PyData → Option (List PyData)
  | .list ds => some ds
  | _ => none
theorem RI.ints {K : PySem.W.Frag} {R G H : Hp} {a : Item} {x : V} {Fa : FP} {ns : List Int} (h : RI K R G H a x Fa) (gh : Same G H) (e : (a.data.bind listD).bind intsD = some ns) : ∃ p, x = .ref p ∧ SqL K H p (ns.map V.int) := by
  cases h with
  | dat r =>
    cases r with
    | lst l rs => exact ⟨_, rfl, by rw [← rs.ints e]; exact SqL.of (loc_le l gh)⟩
    | _ => cases e
  | vw r _ =>
    cases r with
    | lst l rs => exact ⟨_, rfl, by rw [← rs.ints e]; exact SqL.of (loc_le l gh)⟩
    | _ => cases e
  | ro r =>
    cases r with
    | lst l rs => exact ⟨_, rfl, by rw [← dpInts rs e]; exact sameL gh l⟩
    | _ => cases e
  | _ => cases e
/-- sum of a list of ints -/
def rSumI (its : List Item) (Q : Item → Prop) : Prop := match its with
  | [a] => match (a.data.bind listD).bind intsD with
    | some ns => Q (.dat (.int ns.sum) .A)
    | none => False
  | _ => False
theorem rSumI_mono : MonoC rSumI := fun its Q Q' h q => by
  unfold rSumI at q ⊢
  split at q
  · split at q
    · exact h _ q
    · exact q.elim
  · exact q.elim
theorem snd_sum {K : PySem.W.Frag} : SndC K rSumI (rSum K) := by
  intro C σ env fr H vs its Q Q' hl er q k
  unfold rSumI at q
  split at q
  · obtain ⟨x, rfl⟩ := vs1 hl
    split at q
    · rename_i ns hd
      obtain ⟨G, Fa, ra, gh, _⟩ := ER.peek1 er
      obtain ⟨p, rfl, hs⟩ := ra.ints gh hd
      exact ⟨p, ns, rfl, hs, k _ _ H q (ER.plain1 er (.int _))⟩
    · exact q.elim
  · exact q.elim
/-- isinstance(e, T), T a built-in class -/
def tyN : PyData → String
  | .none => "NoneType" | .bool _ => "bool" | .int _ => "int" | .str _ => "str" | .list _ => "list" | .tuple _ => "tuple" | .dict _ => "dict"
def isTy (T : String) (d : PyData) : Bool := match T, d with
  | "int", .int _ => true | "int", .bool _ => true | "bool", .bool _ => true | "str", .str _ => true | "list", .list _ => true | "tuple", .tuple _ => true | "dict", .dict _ => true
  | _, _ => false
theorem Rd.tyD {K : PySem.W.Frag} {H : Hp} {a : Addr} {kv : List (Key × V)} (h : Rd H a (.dK kv)) : TyX K H (.ref a) (.type "dict") := by
  rcases h with h | ⟨o, h⟩
  · exact .base (.dK h)
  · exact .fDict h
def noT (d : PyData) : Bool := match d with
  | .dict kd => kd.all fun p => match p.1 with
    | .tuple _ => false | _ => true
  | _ => true
theorem RM.tyX {K : PySem.W.Frag} {G H : Hp} {d : PyData} {m : M} {v : V} {F : FP} (r : RM G H d m v F) (gh : Same G H) (hd : ∀ kd, d ≠ .dict kd) : TyX K H v (.type (tyN d)) := by
  cases r with
  | non => exact .base .non
  | bl b => exact .base (.bl b)
  | int i => exact .base (.int i)
  | str x => exact .base (.str x)
  | lst l _ => exact .base (.lst (loc_le l gh))
  | tup l _ => exact .base (.tup (loc_le l gh))
  | dk _ _ => exact absurd rfl (hd _)
  | dt _ _ => exact absurd rfl (hd _)
theorem tyL {K : PySem.W.Frag} {H : Hp} {a : Addr} {xs : List V} (h : SqL K H a xs) : TyX K H (.ref a) (.type "list") := by
  rcases h with (h | ⟨o, h⟩) | ⟨o, its, n, h, c, _⟩
  · exact .base (.lst h)
  · exact .base (.frz h)
  · exact .kList h c
theorem tyT {K : PySem.W.Frag} {H : Hp} {a : Addr} {xs : List V} (h : SqT K H a xs) : TyX K H (.ref a) (.type "tuple") := by
  rcases h with (h | ⟨o, h⟩) | ⟨o, its, n, h, c, _⟩
  · exact .base (.tup h)
  · exact .fTuple h
  · exact .kTuple h c
theorem Dp.tyX {K : PySem.W.Frag} {H : Hp} {d : PyData} {v : V} (r : Dp K H v d) : TyX K H v (.type (tyN d)) := by
  cases r with
  | non => exact .base .non
  | bl b => exact .base (.bl b)
  | int i => exact .base (.int i)
  | str x => exact .base (.str x)
  | lst l _ => exact tyL l
  | tup l _ => exact tyT l
def isDict : PyData → Bool
  | .dict _ => true | _ => false
def tvIsi (T : String) (te : TVE) (env : VEnv) (Q : Item → VEnv → Prop) : Prop := te env fun it env1 => match it.data with
  | some d => isDict d = false ∧ Q (.dat (.bool (isTy T d)) .A) env1
  | none => False
def isTyN (T n : String) : Bool := T == n || (T == "int" && n == "bool")
theorem kitTab : (["NoneType", "bool", "int", "str", "list", "tuple", "dict"].all fun n => ["int", "bool", "str", "list", "tuple"].all fun T => kitB n T == some (isTyN T n)) = true := by decide +kernel
theorem isTy_N (T : String) (hT : T = "int" ∨ T = "bool" ∨ T = "str" ∨ T = "list" ∨ T = "tuple") (d : PyData) : isTy T d = isTyN T (tyN d) := by
  rcases hT with rfl | rfl | rfl | rfl | rfl <;> cases d <;> rfl
theorem kit_all (K : PySem.W.Frag) (T : String) (hT : T = "int" ∨ T = "bool" ∨ T = "str" ∨ T = "list" ∨ T = "tuple") (d : PyData) : PySem.W.kitOne K (.type (tyN d)) (.type T) = some (isTy T d) := by
  have h1 := List.all_eq_true.mp kitTab (tyN d) (by cases d <;> simp [tyN])
  have h2 := List.all_eq_true.mp h1 T (by rcases hT with rfl | rfl | rfl | rfl | rfl <;> simp)
  rw [isTy_N T hT]
  exact kit_ty (beq_iff_eq.mp h2)
section
variable {X : Cx} {e : Expr} {te : TVE} {p p2 pos : Pos} {x : Str}
theorem ve_isi {T : String} (hT : T = "int" ∨ T = "bool" ∨ T = "str" ∨ T = "list" ∨ T = "tuple") (hg : Gl X "isinstance") (hm : X.mg "isinstance" = none) (hg2 : Gl X x) (hm2 : X.mg x = none) (hv2 : bootBuiltins x = some (.type T)) (he : VE X e te)
    (hn : x ≠ "__name__" := by decide) (hdb : (x == ("__debug__" : Str)) = false := by decide)
    (hs1 : starEach [e, .Name x p2] X.env = (false, eval e X.env) :: starEach [.Name x p2] X.env := by rfl) (hpl : (backTo pos (starEach [.Name x p2] X.env)).any (·.1) = false := by rfl) :
    VE X (.Call (.Name "isinstance" p) [e, .Name x p2] [] pos) (tvIsi T te) :=
  ⟨PEweak (pe_callB call_isi hg hm (by decide +kernel) (pa_cons he.pe (pa_cons (pe_bltn (v := .ty T) hg2 hm2 hv2 rfl hn hdb) pa_nil) hs1) (by decide) (by decide) hs1 hpl) fun σ H Q ⟨C, env, fr, er, q⟩ => ⟨C, env, fr, er, he.mono _ _ _ (fun it env1 q v H1 er1 => by
      split at q
      · rename_i d hd
        obtain ⟨G, Fa, ra, gh, _⟩ := er1.peek1
        refine ⟨v, .ty T, _, .type T, isTy T d, rfl, .ty T, (?_ : TyX X.K H1 v (.type (tyN d))), kit_all X.K T hT d, q.2 _ _ (er1.plain1 (.bl _))⟩
        have hnd : ∀ kd, d ≠ .dict kd := fun kd z => by rw [z] at q; exact Bool.noConfusion q.1
        cases ra with
        | dat r => cases hd; exact r.tyX gh hnd
        | vw r _ => cases hd; exact r.tyX gh hnd
        | ro r => cases hd; exact Dp.tyX (dpExt gh r)
        | _ => cases hd
      · exact q.elim) q⟩, fun env Q Q' h q => he.mono _ _ _ (fun it env1 q => by
      split at q
      · exact ⟨q.1, h _ _ q.2⟩
      · exact q) q⟩
end
end VL

namespace VL
open PySem PySem.Spec PyProof.Rows L2

/-! ### new lists of old things -/
/-- the mask of the things of an old list, put into a new one -/
def copyC : Item → List PyData → Option M
  | .dat _ m, ds => some (if ds.all scalarD then .A else m.child)
  | .vw _ m, ds => if ds.all scalarD then some .A else if m.child.still then some .sh else none
  | .ro _, ds => if ds.all scalarD then some .A else none
  | _, _ => none
/-- a choice of a list's items, by their places alone -/
structure Sel (fD : List PyData → List PyData) (fV : List V → List V) : Prop where
  rms : ∀ {G H : Hp} {ds : List PyData} {m : M} {vs : List V} {F : FP}, RMs G H ds m vs F → ∃ F', RMs G H (fD ds) m (fV vs) F' ∧ SubP F' F
theorem RMs.app {G H : Hp} {m : M} : ∀ {d1 d2 : List PyData} {v1 v2 : List V} {F1 F2 : FP}, RMs G H d1 m v1 F1 → RMs G H d2 m v2 F2 → RMs G H (d1 ++ d2) m (v1 ++ v2) (F1 ++ F2)
  | _, _, _, _, _, _, .nil, h => h
  | _, _, _, _, _, _, .cons r rs, h => by rw [List.append_assoc]; exact .cons r (RMs.app rs h)
theorem RMs.drop {G H : Hp} {m : M} : ∀ (n : Nat) {ds : List PyData} {vs : List V} {F : FP}, RMs G H ds m vs F → ∃ F', RMs G H (ds.drop n) m (vs.drop n) F' ∧ SubP F' F
  | 0, _, _, F, h => ⟨F, h, .refl _⟩
  | _ + 1, _, _, _, .nil => ⟨[], .nil, .refl _⟩
  | n + 1, _, _, _, .cons r rs => by
    obtain ⟨F', h1, h2⟩ := RMs.drop n rs
    exact ⟨F', h1, h2.trans (.of_sub (List.sublist_append_right _ _))⟩
theorem RMs.take {G H : Hp} {m : M} : ∀ (n : Nat) {ds : List PyData} {vs : List V} {F : FP}, RMs G H ds m vs F → ∃ F', RMs G H (ds.take n) m (vs.take n) F' ∧ SubP F' F
  | 0, _, _, F, h => ⟨[], .nil, .nil _⟩
  | _ + 1, _, _, _, .nil => ⟨[], .nil, .refl _⟩
  | n + 1, _, _, _, .cons r rs => by
    obtain ⟨F', h1, h2⟩ := RMs.take n rs
    exact ⟨_, .cons r h1, (SubP.refl _).app h2⟩
theorem RMs.rev {G H : Hp} {m : M} : ∀ {ds : List PyData} {vs : List V} {F : FP}, RMs G H ds m vs F → ∃ F', RMs G H ds.reverse m vs.reverse F' ∧ SubP F' F
  | _, _, _, .nil => ⟨[], .nil, .refl _⟩
  | _, _, _, .cons r rs => by
    obtain ⟨F', h1, h2⟩ := RMs.rev rs
    rw [List.reverse_cons, List.reverse_cons]
    exact ⟨_, h1.app (.cons r .nil), by
      rw [List.append_nil]
      exact (h2.app (.refl _)).trans (.of_perm List.perm_append_comm)⟩
def cutD (xs : List PyData) (lo hi : Option Int) : List PyData := (xs.drop (HT.sIx xs.length 0 lo)).take (HT.sIx xs.length xs.length hi - HT.sIx xs.length 0 lo)
theorem sel_id : Sel (fun x => x) (fun x => x) := ⟨fun h => ⟨_, h, .refl _⟩⟩
theorem sel_rev : Sel List.reverse List.reverse := ⟨fun h => h.rev⟩
theorem sel_cut (lo hi : Option Int) : Sel (fun x => cutD x lo hi) (fun x => cutV x lo hi) := ⟨fun {G H ds m vs F} h => by
  obtain ⟨F1, h1, s1⟩ := h.drop (HT.sIx ds.length 0 lo)
  obtain ⟨F2, h2, s2⟩ := h1.take (HT.sIx ds.length ds.length hi - HT.sIx ds.length 0 lo)
  refine ⟨F2, ?_, s2.trans s1⟩
  unfold cutD cutV
  rw [← h.len]
  exact h2⟩
section
variable {K : PySem.W.Frag} {C : Ctx} {R G H G' H' : Hp} {it it' a b : Item} {v v' x y : V} {F F1 F2 Fa Fb : FP} {σ σ' : St} {env env' : VEnv} {fr fr' top : VFr} {p : Addr} {o : HO} {d : PyData} {m : M} {ds : List PyData} {vs : List V} {its : List Item}
theorem dpLeaf : ∀ {vs : List V} {ds : List PyData}, DpAll K H vs ds → ds.all scalarD = true → ∀ {G H' : Hp} (m : M), RMs G H' ds m vs []
  | _, _, .nil, _, _, _, _ => .nil
  | _, _, .cons r rs, h, _, _, m => by
    rw [List.all_cons, Bool.and_eq_true] at h
    exact .cons (F := []) (F' := []) (dpScal r h.1 m) (dpLeaf rs h.2 m)
theorem RMs.still : ∀ {ds : List PyData} {vs : List V} {F : FP}, RMs G H ds m vs F → m.still = true → RMs G H ds .sh vs []
  | _, _, _, .nil, _ => .nil
  | _, _, _, .cons r rs, h => .cons (F := []) (F' := []) (r.still h) (RMs.still rs h)
theorem dpSel {fD : List PyData → List PyData} {fV : List V → List V} (s : Sel fD fV) {ds : List PyData} {vs : List V} (h : DpAll K H vs ds) (hs : ds.all scalarD = true) (G H' : Hp) : RMs G H' (fD ds) .A (fV vs) [] := by
  obtain ⟨F', h1, h2⟩ := s.rms (dpLeaf (G := G) (H' := H') h hs .A)
  rw [h2.nil'] at h1
  exact h1
/-- .. as a list of its own -/
theorem RI.copy {fD : List PyData → List PyData} {fV : List V → List V} (s : Sel fD fV) (h : RI K R G H a x Fa) (gh : Same G H) (e : a.data.bind seqD = some ds) {c : M} (hm : copyC a (fD ds) = some c) (hro : ∀ d, a = .ro d → ds.all scalarD = true) :
    ∃ p vs F', x = .ref p ∧ (a.data = some (.list ds) → SqL K H p vs) ∧ (a.data = some (.tuple ds) → SqT K H p vs) ∧ RMs G H (fD ds) c (fV vs) F' ∧ SubP F' Fa ∧ ds.length = vs.length := by
  have key : ∀ {m : M} {vs : List V} {F F0 : FP}, RMs G H ds m vs F → (if (fD ds).all scalarD then some M.A else if m.still then some .sh else none) = some c → ∃ F', RMs G H (fD ds) c (fV vs) F' ∧ SubP F' F0 := by
    intro m vs F F0 rs hc
    obtain ⟨F1, r1, _⟩ := s.rms rs
    split at hc
    · rename_i hs
      cases hc
      exact ⟨[], (r1.leaf hs .A).1, .nil _⟩
    · split at hc
      · rename_i hs
        cases hc
        exact ⟨[], r1.still hs, .nil _⟩
      · cases hc
  have key2 : ∀ {m : M} {vs : List V} {F : FP}, RMs G H ds m vs F → some (if (fD ds).all scalarD then M.A else m) = some c → ∃ F', RMs G H (fD ds) c (fV vs) F' ∧ SubP F' F := by
    intro m vs F rs hc
    obtain ⟨F1, r1, s1⟩ := s.rms rs
    split at hc
    · rename_i hs
      cases hc
      exact ⟨[], (r1.leaf hs .A).1, .nil _⟩
    · cases hc
      exact ⟨F1, r1, s1⟩
  cases h with
  | dat r =>
    cases r with
    | lst l rs =>
      cases e
      obtain ⟨F', h1, h2⟩ := key2 rs hm
      exact ⟨_, _, F', rfl, fun _ => SqL.of (loc_le l gh), fun z => by simp [Item.data] at z, h1, h2.trans (.of_sub (List.sublist_append_right _ _)), rs.len⟩
    | tup l rs =>
      cases e
      obtain ⟨F', h1, h2⟩ := key2 rs hm
      exact ⟨_, _, F', rfl, fun z => (by simp [Item.data] at z), fun _ => SqT.of (loc_le l gh), h1, h2.trans (.of_sub (List.sublist_append_right _ _)), rs.len⟩
    | _ => cases e
  | vw r hr =>
    cases r with
    | lst l rs =>
      cases e
      obtain ⟨F', h1, h2⟩ := key rs hm
      exact ⟨_, _, F', rfl, fun _ => SqL.of (loc_le l gh), fun z => by simp [Item.data] at z, h1, h2, rs.len⟩
    | tup l rs =>
      cases e
      obtain ⟨F', h1, h2⟩ := key rs hm
      exact ⟨_, _, F', rfl, fun z => (by simp [Item.data] at z), fun _ => SqT.of (loc_le l gh), h1, h2, rs.len⟩
    | _ => cases e
  | ro r =>
    have hs := hro _ rfl
    cases r with
    | lst l rs =>
      cases e
      simp only [copyC] at hm
      split at hm
      · cases hm
        exact ⟨_, _, [], rfl, fun _ => sameL gh l, fun z => (by simp [Item.data] at z), dpSel s rs hs G H, .nil _, dpLen rs⟩
      · cases hm
    | tup l rs =>
      cases e
      simp only [copyC] at hm
      split at hm
      · cases hm
        exact ⟨_, _, [], rfl, fun z => (by simp [Item.data] at z), fun _ => sameT gh l, dpSel s rs hs G H, .nil _, dpLen rs⟩
      · cases hm
    | _ => cases e
  | _ => cases e
def roOk (a : Item) (ds : List PyData) : Prop := match a with
  | .ro _ => ds.all scalarD = true
  | _ => True
theorem roOk_ (h : roOk a ds) : ∀ d, a = .ro d → ds.all scalarD = true := fun d e => by subst e; exact h
/-- the new list of a choice -/
def newOf (mk : List PyData → PyData) (fD : List PyData → List PyData) (a : Item) (ds : List PyData) (Q : Item → Prop) : Prop := roOk a ds ∧ match copyC a (fD ds) with
  | some c => Q (.dat (mk (fD ds)) (own' c))
  | none => False
theorem newOf_mono {mk : List PyData → PyData} {fD : List PyData → List PyData} {Q Q' : Item → Prop} (h : ∀ r, Q r → Q' r) (q : newOf mk fD a ds Q) : newOf mk fD a ds Q' := by
  unfold newOf at q ⊢
  refine ⟨q.1, ?_⟩
  have q := q.2
  split at q
  · exact h _ q
  · exact q.elim
theorem newL_ok {fD : List PyData → List PyData} {fV : List V → List V} (s : Sel fD fV) (er : ER K C σ H env ((x, a) :: fr)) (e : a.data.bind seqD = some ds) {Q' : Item → Prop} (q : newOf .list fD a ds Q') :
    ∃ p vs, x = .ref p ∧ (a.data = some (.list ds) → SqL K H p vs) ∧ (a.data = some (.tuple ds) → SqT K H p vs) ∧ ds.length = vs.length ∧ ∀ l, H l = none → ∃ it, Q' it ∧ ER K C σ (upd H l (.lst (fV vs))) env ((.ref l, it) :: fr) := by
  obtain ⟨G, Fa, ra, gh, _, k⟩ := er.peek1
  have q2 := q.2
  split at q2
  · rename_i c hc
    obtain ⟨p, vs, F', e1, h1, h2, rs, sp, hl⟩ := ra.copy s gh e hc (roOk_ q.1)
    refine ⟨p, vs, e1, h1, h2, hl, fun l hn => ?_⟩
    have rr : RM G (upd H l (.lst (fV vs))) (.list (fD ds)) (own' c) (.ref l) ((own' c).fp l ++ F') := .lst (own'_loc upd_same) (by
      rw [own'_child]
      exact rs.ext (fun _ _ q => q) fun a u _ q => upd_cell hn q)
    refine ⟨_, q2, k l _ hn [(.ref l, .dat (.list (fD ds)) (own' c))] _ F' (.cons (.dat rr) .nil) ?_ sp⟩
    rw [own'_fp, List.append_nil]
    exact .refl _
  · exact q2.elim
theorem newT_ok {fD : List PyData → List PyData} {fV : List V → List V} (s : Sel fD fV) (er : ER K C σ H env ((x, a) :: fr)) (e : a.data.bind seqD = some ds) {Q' : Item → Prop} (q : newOf .tuple fD a ds Q') :
    ∃ p vs, x = .ref p ∧ (a.data = some (.list ds) → SqL K H p vs) ∧ (a.data = some (.tuple ds) → SqT K H p vs) ∧ ds.length = vs.length ∧ ∀ l, H l = none → ∃ it, Q' it ∧ ER K C σ (upd H l (.tup (fV vs))) env ((.ref l, it) :: fr) := by
  obtain ⟨G, Fa, ra, gh, _, k⟩ := er.peek1
  have q2 := q.2
  split at q2
  · rename_i c hc
    obtain ⟨p, vs, F', e1, h1, h2, rs, sp, hl⟩ := ra.copy s gh e hc (roOk_ q.1)
    refine ⟨p, vs, e1, h1, h2, hl, fun l hn => ?_⟩
    have rr : RM G (upd H l (.tup (fV vs))) (.tuple (fD ds)) (own' c) (.ref l) ((own' c).fp l ++ F') := .tup (own'_loc upd_same) (by
      rw [own'_child]
      exact rs.ext (fun _ _ q => q) fun a u _ q => upd_cell hn q)
    refine ⟨_, q2, k l _ hn [(.ref l, .dat (.tuple (fD ds)) (own' c))] _ F' (.cons (.dat rr) .nil) ?_ sp⟩
    rw [own'_fp, List.append_nil]
    exact .refl _
  · exact q2.elim
end
theorem seqD_list {ds : List PyData} : seqD (.list ds) = some ds := rfl
/-- list(xs) -/
def rvListOf (its : List Item) (Q : Item → Prop) : Prop := match its with
  | [a] => match a.data with
    | some (.list ds) => newOf .list (fun x => x) a ds Q
    | some (.tuple ds) => newOf .list (fun x => x) a ds Q
    | _ => False
  | _ => False
theorem rvListOf_mono : MonoC rvListOf := fun its Q Q' h q => by
  unfold rvListOf at q ⊢
  split at q
  · split at q
    · exact newOf_mono h q
    · exact newOf_mono h q
    · exact q.elim
  · exact q.elim
theorem snd_listOf {K : PySem.W.Frag} : SndC K rvListOf (fun xs H Q => ∃ p ys, xs = [.ref p] ∧ (SqL K H p ys ∨ SqT K H p ys) ∧ ∀ l, H l = none → Q (.ref l) (upd H l (.lst ys))) := by
  intro C σ env fr H vs its Q Q' hl er q k
  unfold rvListOf at q
  split at q
  · obtain ⟨x, rfl⟩ := vs1 hl
    split at q
    · rename_i ds hd
      obtain ⟨p, vs, rfl, h1, _, _, h3⟩ := newL_ok sel_id (show ER K C σ H env ((x, _) :: fr) from er) (by rw [hd]; rfl) q
      exact ⟨p, vs, rfl, .inl (h1 hd), fun l hn => by
        obtain ⟨it, q, er'⟩ := h3 l hn
        exact k _ _ _ q er'⟩
    · rename_i ds hd
      obtain ⟨p, vs, rfl, _, h1, _, h3⟩ := newL_ok sel_id (show ER K C σ H env ((x, _) :: fr) from er) (by rw [hd]; rfl) q
      exact ⟨p, vs, rfl, .inr (h1 hd), fun l hn => by
        obtain ⟨it, q, er'⟩ := h3 l hn
        exact k _ _ _ q er'⟩
    · exact q.elim
  · exact q.elim
/-- tuple(xs), xs a list -/
def rvTupOf (its : List Item) (Q : Item → Prop) : Prop := match its with
  | [a] => match a.data with
    | some (.list ds) => newOf .tuple (fun x => x) a ds Q
    | _ => False
  | _ => False
theorem rvTupOf_mono : MonoC rvTupOf := fun its Q Q' h q => by
  unfold rvTupOf at q ⊢
  split at q
  · split at q
    · exact newOf_mono h q
    · exact q.elim
  · exact q.elim
theorem snd_tupOf {K : PySem.W.Frag} : SndC K rvTupOf (fun xs H Q => ∃ p ys, xs = [.ref p] ∧ ((SqL K H p ys ∧ ∀ l, H l = none → Q (.ref l) (upd H l (.tup ys))) ∨ (SqT K H p ys ∧ Q (.ref p) H))) := by
  intro C σ env fr H vs its Q Q' hl er q k
  unfold rvTupOf at q
  split at q
  · obtain ⟨x, rfl⟩ := vs1 hl
    split at q
    · rename_i ds hd
      obtain ⟨p, vs, rfl, h1, _, _, h3⟩ := newT_ok sel_id (show ER K C σ H env ((x, _) :: fr) from er) (by rw [hd]; rfl) q
      exact ⟨p, vs, rfl, .inl ⟨h1 hd, fun l hn => by
        obtain ⟨it, q, er'⟩ := h3 l hn
        exact k _ _ _ q er'⟩⟩
    · exact q.elim
  · exact q.elim
/-- xs[::-1] -/
def tvRevL (te : TVE) (env : VEnv) (Q : Item → VEnv → Prop) : Prop := te env fun a env1 => match a.data with
  | some (.list ds) => newOf .list List.reverse a ds fun it => Q it env1
  | _ => False
section
variable {X : Cx} {e e1 e2 : Expr} {te ta tb : TVE} {pos : Pos}
theorem ve_revL {k : Nat} {p1 p2 p3 pos : Pos} (he : VE X e te) : VE X (.Subscript e (.Slice none none (some (.UnaryOp .USub (.Constant (.int 1) k p1) p2)) p3) pos) (tvRevL te) :=
  ⟨PEweak (pe_revL he.pe) fun σ H Q ⟨C, env, fr, er, q⟩ => ⟨C, env, fr, er, he.mono _ _ _ (fun a env1 q v H1 er1 => by
      split at q
      · rename_i ds hd
        obtain ⟨p, vs, rfl, h1, _, _, h3⟩ := newL_ok sel_rev er1 (by rw [hd]; rfl) q
        exact ⟨p, vs, rfl, h1 hd, fun l hn => by
          obtain ⟨it, q, er'⟩ := h3 l hn
          exact q _ _ er'⟩
      · exact q.elim) q⟩, fun env Q Q' h q => he.mono _ _ _ (fun a env1 q => by
      split at q
      · exact newOf_mono (fun r => h r _) q
      · exact q) q⟩
/-- parts of a slice -/
abbrev TVO := VEnv → (Option Int → VEnv → Prop) → Prop
def liftO (K : PySem.W.Frag) (t : TVO) : TO := fun σ H Q => ∃ C env fr, ER K C σ H env fr ∧ t env fun o env' => ∀ H', ER K C σ H' env' fr → Q o H'
structure VO (X : Cx) (e : Option Expr) (t : TVO) : Prop where
  po : PO X e (liftO X.K t)
  mono : ∀ env Q Q', (∀ o env', Q o env' → Q' o env') → t env Q → t env Q'
theorem POweak {X : Cx} {e : Option Expr} {t t' : TO} (h : PO X e t) (w : ∀ σ H Q, t' σ H Q → t σ H Q) : PO X e t' := ⟨fun pins s σ H Q I q => h.run pins s σ H Q I (w _ _ _ q)⟩
def tvNo (env : VEnv) (Q : Option Int → VEnv → Prop) : Prop := Q none env
def tvPart (te : TVE) (env : VEnv) (Q : Option Int → VEnv → Prop) : Prop := te env fun it env1 => match it.data with
  | some (.int i) => Q (some i) env1
  | _ => False
theorem vo_none : VO X none tvNo := ⟨POweak po_none fun σ H Q ⟨C, env, fr, er, q⟩ => q H er, fun env Q Q' h q => h _ _ q⟩
theorem vo_some (he : VE X e te) : VO X (some e) (tvPart te) :=
  ⟨POweak (po_some he.pe) fun σ H Q ⟨C, env, fr, er, q⟩ => ⟨C, env, fr, er, he.mono _ _ _ (fun it env1 q v H1 er1 => by
      split at q
      · rename_i i hi
        obtain ⟨G, Fa, r, _⟩ := er1.peek1
        exact ⟨i, r.int hi, q H1 (er1.pop (top := [_]))⟩
      · exact q.elim) q⟩, fun env Q Q' h q => he.mono _ _ _ (fun it env1 q => by
      split at q
      · exact h _ _ q
      · exact q) q⟩
/-- xs[a:b] of a list -/
def tvSlL (te : TVE) (tl th : TVO) (env : VEnv) (Q : Item → VEnv → Prop) : Prop := te env fun a env1 => tl env1 fun lo env2 => th env2 fun hi env3 => match a.data with
  | some (.list ds) => newOf .list (fun x => cutD x lo hi) a ds fun it => Q it env3
  | _ => False
theorem ve_slL {lo hi : Option Expr} {tl th : TVO} {p2 : Pos} (he : VE X e te) (hl : VO X lo tl) (hh : VO X hi th) : VE X (.Subscript e (.Slice lo hi none p2) pos) (tvSlL te tl th) :=
  ⟨PEweak (pe_slice sl_list he.pe hl.po hh.po) fun σ H Q ⟨C, env, fr, er, q⟩ => ⟨C, env, fr, er, he.mono _ _ _ (fun a env1 q v H1 er1 => ⟨C, env1, (v, a) :: fr, er1, hl.mono _ _ _ (fun lo env2 q H2 er2 => ⟨C, env2, (v, a) :: fr, er2, hh.mono _ _ _ (fun hi env3 q H3 er3 => by
      split at q
      · rename_i ds hd
        obtain ⟨p, vs, rfl, h1, _, _, h3⟩ := newL_ok (sel_cut lo hi) er3 (by rw [hd]; rfl) q
        exact ⟨p, vs, rfl, h1 hd, fun l hn => by
          obtain ⟨it, q, er'⟩ := h3 l hn
          exact q _ _ er'⟩
      · exact q.elim) q⟩) q⟩) q⟩, fun env Q Q' h q => he.mono _ _ _ (fun a env1 q => hl.mono _ _ _ (fun lo env2 q => hh.mono _ _ _ (fun hi env3 q => by
      split at q
      · exact newOf_mono (fun r => h r _) q
      · exact q) q) q) q⟩
end
end VL

namespace VL
open PySem PySem.Spec PyProof.Rows L2
section
variable {K : PySem.W.Frag} {C : Ctx} {R G H G' H' : Hp} {it it' a b : Item} {v v' x y : V} {F F1 F2 Fa Fb : FP} {σ σ' : St} {env env' : VEnv} {fr fr' top : VFr} {p : Addr} {o : HO} {d : PyData} {m : M} {ds : List PyData} {vs : List V} {its : List Item}
/-- a list whose things may be put elsewhere: as one's own, or as shared -/
def sideC (a : Item) (ds : List PyData) : Option M := match a with
  | .dat _ .A => some .A
  | .dat _ m => if ds.all scalarD then some .A else if m.child.still then some .sh else none
  | .vw _ m => if ds.all scalarD then some .A else if m.child.still then some .sh else none
  | _ => none
theorem RI.side (h : RI K R G H a x Fa) (gh : Same G H) (e : a.data = some (.list ds)) {c : M} (hc : sideC a ds = some c) : ∃ p vs F', x = .ref p ∧ H p = some (.lst vs) ∧ RMs G H ds c vs F' ∧ SubP F' Fa ∧ ds.length = vs.length := by
  have key : ∀ {m : M} {vs : List V} {F F0 : FP}, RMs G H ds m vs F → (if ds.all scalarD then some M.A else if m.still then some .sh else none) = some c → ∃ F', RMs G H ds c vs F' ∧ SubP F' F0 := by
    intro m vs F F0 rs hc
    split at hc
    · rename_i hs
      cases hc
      exact ⟨[], (rs.leaf hs .A).1, .nil _⟩
    · split at hc
      · rename_i hs
        cases hc
        exact ⟨[], rs.still hs, .nil _⟩
      · cases hc
  cases h with
  | dat r =>
    rename_i d m
    cases e
    cases r with
    | lst l rs =>
      rename_i p vs F
      have fin : (if ds.all scalarD then some M.A else if m.child.still then some .sh else none) = some c → ∃ p' vs F', V.ref p = .ref p' ∧ H p' = some (.lst vs) ∧ RMs G H ds c vs F' ∧ SubP F' (m.fp p ++ F) ∧ ds.length = vs.length := fun hc => by
        obtain ⟨F', h1, h2⟩ := key rs hc
        exact ⟨_, _, F', rfl, loc_le l gh, h1, h2, rs.len⟩
      cases m with
      | A => cases hc; exact ⟨_, _, F, rfl, loc_le l gh, rs, .of_sub (List.sublist_append_right _ _), rs.len⟩
      | _ => exact fin hc
  | vw r hr =>
    cases e
    cases r with
    | lst l rs =>
      obtain ⟨F', h1, h2⟩ := key rs hc
      exact ⟨_, _, F', rfl, loc_le l gh, h1, h2, rs.len⟩
  | ro r => cases hc
  | _ => cases e
/-- two sides' mask -/
def meetC : M → M → Option M
  | .A, .A => some .A
  | .sh, .sh => some .sh
  | _, _ => none
def toSh (a : Item) (ds : List PyData) (c : M) : Option M := match c with
  | .A => if ds.all scalarD then some .sh else none
  | m => some m
def rvCat (a : Item) (b : Item) (Q : Item → Prop) : Prop := match a.data, b.data with
  | some (.list d1), some (.list d2) => d1.length + d2.length ≤ sizeLine ∧ (match sideC a d1, sideC b d2 with
    | some .A, some .A => Q (.dat (.list (d1 ++ d2)) .A)
    | some .A, some .sh => d1.all scalarD = true ∧ Q (.dat (.list (d1 ++ d2)) (.own .sh))
    | some .sh, some .A => d2.all scalarD = true ∧ Q (.dat (.list (d1 ++ d2)) (.own .sh))
    | some .sh, some .sh => Q (.dat (.list (d1 ++ d2)) (.own .sh))
    | _, _ => False)
  | _, _ => False
theorem rvCat_mono : Mono2 rvCat := fun a b Q Q' h q => by
  unfold rvCat at q ⊢
  split at q
  · refine ⟨q.1, ?_⟩
    have q := q.2
    split at q
    · exact h _ q
    · exact ⟨q.1, h _ q.2⟩
    · exact ⟨q.1, h _ q.2⟩
    · exact h _ q
    · exact q.elim
  · exact q.elim
theorem snd_Cat : Snd2 K rvCat rCat := by
  intro C σ env fr H x y a b Q Q' er q k
  unfold rvCat at q
  split at q
  · rename_i d1 d2 e1 e2
    obtain ⟨G, Fb, Fa, rb, ra, gh, _, kk⟩ := er.peek2
    obtain ⟨q0, q⟩ := q
    have fin : ∀ {c : M} {p1 p2 : Addr} {v1 v2 : List V} {F1 F2 : FP}, x = .ref p1 → y = .ref p2 → H p1 = some (.lst v1) → H p2 = some (.lst v2) → RMs G H d1 c v1 F1 → RMs G H d2 c v2 F2 → SubP F1 Fa → SubP F2 Fb → d1.length = v1.length → d2.length = v2.length → Q' (.dat (.list (d1 ++ d2)) (own' c)) → rCat x y H Q := by
      intro c p1 p2 v1 v2 F1 F2 ex ey h1 h2 r1 r2 s1 s2 l1 l2 hq
      refine ⟨p1, p2, v1, v2, ex, ey, h1, h2, by rw [← l1, ← l2]; exact q0, fun p hp => k _ _ _ hq ?_⟩
      have rr : RM G (upd H p (.lst (v1 ++ v2))) (.list (d1 ++ d2)) (own' c) (.ref p) ((own' c).fp p ++ (F1 ++ F2)) := .lst (own'_loc upd_same) (by
        rw [own'_child]
        exact (r1.app r2).ext (fun _ _ q => q) fun a u _ q => upd_cell hp q)
      refine kk p _ hp [(.ref p, _)] _ (F1 ++ F2) (.cons (.dat rr) .nil) ?_ ((s1.app s2).trans (.of_perm List.perm_append_comm))
      rw [own'_fp, List.append_nil]
      exact .refl _
    split at q
    · rename_i c1 c2
      obtain ⟨p1, v1, F1, ex, h1, r1, s1, l1⟩ := ra.side gh e1 c1
      obtain ⟨p2, v2, F2, ey, h2, r2, s2, l2⟩ := rb.side gh e2 c2
      exact fin ex ey h1 h2 r1 r2 s1 s2 l1 l2 q
    · rename_i c1 c2
      obtain ⟨p1, v1, F1, ex, h1, r1, s1, l1⟩ := ra.side gh e1 c1
      obtain ⟨p2, v2, F2, ey, h2, r2, s2, l2⟩ := rb.side gh e2 c2
      exact fin ex ey h1 h2 (r1.leaf q.1 .sh).1 r2 (.nil _) s2 l1 l2 q.2
    · rename_i c1 c2
      obtain ⟨p1, v1, F1, ex, h1, r1, s1, l1⟩ := ra.side gh e1 c1
      obtain ⟨p2, v2, F2, ey, h2, r2, s2, l2⟩ := rb.side gh e2 c2
      exact fin ex ey h1 h2 r1 (r2.leaf q.1 .sh).1 s1 (.nil _) l1 l2 q.2
    · rename_i c1 c2
      obtain ⟨p1, v1, F1, ex, h1, r1, s1, l1⟩ := ra.side gh e1 c1
      obtain ⟨p2, v2, F2, ey, h2, r2, s2, l2⟩ := rb.side gh e2 c2
      exact fin ex ey h1 h2 r1 r2 s1 s2 l1 l2 q
    · exact q.elim
  · exact q.elim
/-- a list of plain things, some times -/
def rvRep (a : Item) (b : Item) (Q : Item → Prop) : Prop := match a, b.data with
  | .dat (.list ds) _, some (.int k) => ds.all scalarD = true ∧ -(2 ^ 63) ≤ k ∧ k < 2 ^ 63 ∧ ds.length * k.toNat ≤ sizeLine ∧ Q (.dat (.list (List.replicate k.toNat ds).flatten) .A)
  | _, _ => False
theorem rvRep_mono : Mono2 rvRep := fun a b Q Q' h q => by
  unfold rvRep at q ⊢
  split at q
  · exact ⟨q.1, q.2.1, q.2.2.1, q.2.2.2.1, h _ q.2.2.2.2⟩
  · exact q.elim
theorem RMs.rep (h : RMs G H ds m vs []) : ∀ k : Nat, RMs G H (List.replicate k ds).flatten m (List.replicate k vs).flatten []
  | 0 => .nil
  | k + 1 => by
    rw [List.replicate_succ, List.replicate_succ, List.flatten_cons, List.flatten_cons]
    exact RMs.app (F1 := []) (F2 := []) h (RMs.rep h k)
theorem snd_Rep : Snd2 K rvRep rRep := by
  intro C σ env fr H x y a b Q Q' er q k
  unfold rvRep at q
  split at q
  · rename_i ds m i e2
    obtain ⟨G, Fb, Fa, rb, ra, gh, _, kk⟩ := er.peek2
    obtain ⟨q1, q2, q3, q4, q5⟩ := q
    cases ra with
    | dat r =>
      cases r with
      | @lst _ p0 _ vs F l rs =>
        obtain ⟨r1, _⟩ := rs.leaf (G' := G) (H' := H) q1 .A
        refine ⟨p0, i, vs, rfl, rb.int e2, loc_le l gh, q2, q3, by rw [← rs.len]; exact q4, fun p hp => k _ _ _ q5 ?_⟩
        have rr : RM G (upd H p (.lst (List.replicate i.toNat vs).flatten)) (.list (List.replicate i.toNat ds).flatten) .A (.ref p) (M.fp p .A ++ []) := .lst (m := .A) upd_same ((r1.rep _).ext (fun _ _ q => q) fun a u _ q => upd_cell hp q)
        exact kk p _ hp [(.ref p, _)] _ [] (.cons (.dat rr) .nil) (by rw [List.append_nil]; exact .refl _) (.nil _)
  · exact q.elim

/-! ### a name's list changed -/
theorem ER.mutL {i : Nat} (er : ER K C σ H env (top ++ fr)) (hf : fixF fr) (hi : env[i]? = some (some (.dat (.list ds) m))) (hm : m.mut = true) : ∃ a vs G Fi Ft, σ[i]? = some (some (.ref a)) ∧ H a = some (.lst vs) ∧ RMs G H ds m.child vs Fi ∧ RFr K C.H0 G H top Ft ∧ Same G H ∧ ds.length = vs.length ∧
    ∀ ds' vs' F' new Fn, RMs G H ds' m.child vs' F' → RFr K C.H0 G H new Fn → fixF new → SubP (F' ++ Fn) (Fi ++ Ft) → ER K C σ (upd H a (.lst vs')) (env.set i (some (.dat (.list ds') m))) (new ++ fr) := by
  obtain ⟨v, G, Fi, Ft, hv, ri, rt, gh, nd, _, k⟩ := er.mutate hf hi
  cases ri with
  | dat r =>
    cases r with
    | lst l rs =>
      rename_i a vs F
      have hl : H a = some (.lst vs) := loc_le l gh
      have hfp : m.fp a = [(true, a)] := by cases m <;> first | rfl | cases hm
      rw [hfp] at nd
      refine ⟨a, vs, G, F, Ft, hv, hl, rs, rt, gh, rs.len, fun ds' vs' F' new Fn rs' rn hfn sp => ?_⟩
      have hne : ∀ b c, (b, c) ∈ F ++ Ft → c ≠ a := fun b c hq z => by
        subst z
        exact ND.ne (F1 := [(true, c)]) (F2 := F ++ Ft) nd List.mem_cons_self hq
      have keep : ∀ {F0 : FP}, (∀ q ∈ F0, q ∈ F ++ Ft) → ∀ (c : Addr) (u : HO), (true, c) ∈ F0 → H c = some u → upd H a (.lst vs') c = some u := fun hs c u hq h => by
        rw [upd_ne (hne _ _ (hs _ hq))]
        exact h
      refine k a (.lst vs') (by rw [hfp]; exact List.mem_cons_self) (.dat (.list ds') m) (m.fp a ++ F') new Fn (.dat (.lst (by cases m <;> first | exact upd_same | cases hm) (rs'.ext (fun _ _ q => q) (keep fun q hq => sp.mem (List.mem_append_left _ hq))))) trivial (rn.ext (fun _ _ q => q) (keep fun q hq => sp.mem (List.mem_append_right _ hq)) (.inl hfn)) ?_
      rw [hfp]
      exact (SubP.refl [(true, a)]).app sp
/-- an item made fit for a list whose things are as c -/
def fitC (c : M) : Item → Option PyData
  | .dat d mi => if scalarD d then some d else match c, mi with
    | .sh, _ => some d
    | .A, .A => some d
    | .Z, m => if m.solid then some d else none
    | _, _ => none
  | _ => none
theorem ER.fit {c : M} (e : ER K C σ H env ((v, it) :: fr)) (h : fitC c it = some d) : ER K C σ H env ((v, .dat d c) :: fr) := by
  cases it with
  | dat d0 mi =>
    by_cases hs : scalarD d0 = true
    · simp only [fitC, hs, if_true] at h
      cases h
      obtain ⟨G, Fa, r, gh, k, _⟩ := e.peek1
      cases r with
      | dat r => exact k [(v, .dat d c)] [] (.cons (F := []) (.dat (r.scal hs c).1) .nil) (.nil _)
    · have hdat : datF [(v, Item.dat d0 mi)] := fun p hp => by
        rw [List.mem_singleton] at hp
        subst hp
        exact ⟨_, _, rfl⟩
      simp only [fitC, hs] at h
      cases c with
      | sh => cases h; exact e.share (top := [_]) hdat
      | A => cases mi <;> first | (cases h; exact e) | cases h
      | Z =>
        by_cases hz : mi.solid = true
        · simp only [hz, if_true] at h
          cases h
          have := e.cool (top := [_]) hdat
          simp only [List.map_cons, List.map_nil, coolI, frz_solid hz] at this
          exact this
        · cases mi <;> first | (exact absurd rfl hz) | (simp only [hz] at h; cases h)
      | _ => cases mi <;> cases h
  | _ => cases h
end
/-- a list's method that changes it: what it asks of the list and the arguments; the list behind it, what it hands back -/
abbrev RMut := List PyData → M → List Item → (List PyData → Item → Prop) → Prop
def SndM (K : PySem.W.Frag) (r : RMut) (R : V → List V → Hp → VK → Prop) : Prop := ∀ (C : Ctx) (σ : St) (env : VEnv) (fr : VFr) (H : Hp) (i : Nat) (ds : List PyData) (m : M) (vs : List V) (its : List Item) (Q : VK) (Q' : List PyData → Item → Prop),
  vs.length = its.length → ER K C σ H env ((vs.zip its).reverse ++ fr) → fixF fr → env[i]? = some (some (.dat (.list ds) m)) → m.mut = true → r ds m its Q' →
  ∃ a, σ[i]? = some (some (.ref a)) ∧ ((∀ ds' it v H', Q' ds' it → ER K C σ H' (env.set i (some (.dat (.list ds') m))) ((v, it) :: fr) → Q v H') → R (.ref a) vs H Q)
def MonoR (r : RMut) : Prop := ∀ ds m its Q Q', (∀ d it, Q d it → Q' d it) → r ds m its Q → r ds m its Q'
def tvMut (i : Nat) (r : RMut) (t : TVA) (env : VEnv) (Q : Item → VEnv → Prop) : Prop := match env[i]? with
  | some (some (.dat (.list _) _)) => t env fun its env1 => match env1[i]? with
    | some (some (.dat (.list ds) m)) => m.mut = true ∧ r ds m its fun ds' it => Q it (env1.set i (some (.dat (.list ds') m)))
    | _ => False
  | _ => False
theorem monoMut {i : Nat} {r : RMut} {t : TVA} (hr : MonoR r) (ht : MonoA t) : MonoE (tvMut i r t) := fun env Q Q' h q => by
  unfold tvMut at q ⊢
  split at q
  · refine ht _ _ _ (fun its env1 q => ?_) q
    split at q
    · exact ⟨q.1, hr _ _ _ _ _ (fun d it q => h _ _ q) q.2⟩
    · exact q
  · exact q
section
variable {X : Cx} {i : Nat} {r : RMut} {R : V → List V → Hp → VK → Prop} {e : Expr} {es : List Expr} {t : TVA} {x name : Str} {px apos cpos : Pos} {id : String}
theorem mut_ok (hs : SndM X.K r R) (ht : MonoA t) {σ : St} {H : Hp} {Q : VK} (h : liftM X.K (tvMut i r t) σ H Q) : tBM X.K "list" R (tVar i) (liftA X.K t) σ H Q := by
  obtain ⟨C, env, fr, er, fx, q⟩ := h
  unfold tvMut at q
  split at q
  · rename_i d0 m0 hi
    obtain ⟨v, hv, er0⟩ := er.view hi
    obtain ⟨G, Fa, ra, gh, _⟩ := er0.peek1
    have hty : tyV X.K "list" v H := by
      have : ∃ p vs, v = .ref p ∧ SqL X.K H p vs := by
        simp only [Item.view, scalarD] at ra
        cases m0 with
        | sh => cases ra with | dat r => cases r with | lst l _ => exact ⟨_, _, rfl, SqL.of (loc_le l gh)⟩
        | _ => cases ra with | vw r _ => cases r with | lst l _ => exact ⟨_, _, rfl, SqL.of (loc_le l gh)⟩
      obtain ⟨p, vs, rfl, hs⟩ := this
      exact .inl ⟨rfl, vs, hs⟩
    refine ⟨v, hv, hty, C, env, fr, er, ht _ _ _ (fun its env1 q vs H1 hl er1 => ?_) q⟩
    split at q
    · rename_i ds m h1
      obtain ⟨a, ha, k⟩ := hs C σ env1 fr H1 i ds m vs its Q (fun ds' it => ∀ v H', ER X.K C σ H' (env1.set i (some (.dat (.list ds') m))) ((v, it) :: fr) → Q v H') hl er1 fx h1 q.1 q.2
      rw [hv] at ha
      cases ha
      exact k fun ds' it v H' q er' => q v H' er'
    · exact q.elim
  · exact q.elim
theorem vm_mut (slot : Slot "list" name id) (hty : typeOf (.builtin id) = pure (.type "method_descriptor")) (hm : MtR X id R) (hs : SndM X.K r R) (hr : MonoR r) (hp : PE X (.Name x px) (tVar i)) (ha : VA X (e :: es) t)
    (hbase : attributeBase (.Name x px) name X.env (eval (.Name x px) X.env) = eval (.Name x px) X.env := by rfl)
    (hfew : ((backTo cpos (starEach (e :: es) X.env)).all (fun x => !x.1) && (backToKw cpos (keywordEach [] X.env)).all (fun x => x.1.isSome)
      && decide ((e :: es).length + ([] : List Keyword).length + (if ([] : List Keyword).isEmpty then 0 else 1) < 30)) = true := by rfl)
    (hline : (apos.endLine == cpos.line) = true := by rfl) (hst : starEach (e :: es) X.env = (false, eval e X.env) :: starEach es X.env := by rfl) (hplain : (backTo cpos (starEach es X.env)).any (·.1) = false := by rfl) :
    VM X (.Call (.Attribute (.Name x px) name apos) (e :: es) [] cpos) (tvMut i r t) :=
  ⟨PEweak (pe_bm PySem.F.plainAttrs_list slot hty hm hp ha.pa hbase hfew hline hst hplain) fun _ _ _ h => mut_ok hs ha.mono h, monoMut hr ha.mono⟩
theorem vm_mut0 (slot : Slot "list" name id) (hty : typeOf (.builtin id) = pure (.type "method_descriptor")) (hm : MtR X id R) (hs : SndM X.K r R) (hr : MonoR r) (hp : PE X (.Name x px) (tVar i))
    (hbase : attributeBase (.Name x px) name X.env (eval (.Name x px) X.env) = eval (.Name x px) X.env := by rfl) (hline : (apos.endLine == cpos.line) = true := by rfl) :
    VM X (.Call (.Attribute (.Name x px) name apos) [] [] cpos) (tvMut i r tvNil) :=
  ⟨PEweak (pe_bm0 PySem.F.plainAttrs_list slot hty hm hp hbase hline) fun σ H Q h => by
    obtain ⟨v, hv, hty, C, env, fr, er, q⟩ := mut_ok (t := tvNil) hs (fun env Q Q' h q => h _ _ q) h
    exact ⟨v, hv, hty, q [] H rfl er⟩, monoMut hr fun env Q Q' h q => h _ _ q⟩
end
/-- xs.append(e) -/
def rmApp (ds : List PyData) (m : M) (its : List Item) (Q : List PyData → Item → Prop) : Prop := match its with
  | [a] => match fitC m.child a with
    | some d => ds.length < sizeLine ∧ Q (ds ++ [d]) (.dat .none .A)
    | none => False
  | _ => False
theorem rmApp_mono : MonoR rmApp := fun ds m its Q Q' h q => by
  unfold rmApp at q ⊢
  split at q
  · split at q
    · exact ⟨q.1, h _ _ q.2⟩
    · exact q
  · exact q
theorem snd_app {K : PySem.W.Frag} : SndM K rmApp rAppend := by
  intro C σ env fr H i ds m vs its Q Q' hl er fx hi hm q
  unfold rmApp at q
  split at q
  · obtain ⟨x, rfl⟩ := vs1 hl
    split at q
    · rename_i d hd
      have er2 := ER.fit (show ER K C σ H env ((x, _) :: fr) from er) hd
      obtain ⟨a, ws, G, Fi, Ft, ha, hH, rs, rt, gh, hln, k⟩ := ER.mutL (top := [(x, .dat d m.child)]) er2 fx hi hm
      refine ⟨a, ha, fun kk => ⟨a, ws, x, rfl, rfl, hH, by rw [← hln]; exact q.1, kk _ _ _ _ q.2 ?_⟩⟩
      cases rt with
      | cons r r0 =>
        cases r0
        cases r with
        | dat r =>
          rename_i F0
          exact k (ds ++ [d]) (ws ++ [x]) _ [(.non, .dat .none .A)] [] (rs.app (.cons r .nil)) (.cons (F := []) (.dat .non) .nil) (fun p hp => by rw [List.mem_singleton] at hp; subst hp; trivial) (by
            rw [List.append_nil]
            exact .refl _)
    · exact q.elim
  · exact q.elim
/-- xs.extend(ys) -/
def rmExt (ds : List PyData) (m : M) (its : List Item) (Q : List PyData → Item → Prop) : Prop := match its with
  | [a] => match a.data with
    | some (.list d2) => ds.length + d2.length ≤ sizeLine ∧ (match sideC a d2, m.child with
      | some .A, .A => Q (ds ++ d2) (.dat .none .A)
      | some .A, .sh => d2.all scalarD = true ∧ Q (ds ++ d2) (.dat .none .A)
      | some .sh, .sh => Q (ds ++ d2) (.dat .none .A)
      | _, _ => False)
    | _ => False
  | _ => False
theorem rmExt_mono : MonoR rmExt := fun ds m its Q Q' h q => by
  unfold rmExt at q ⊢
  split at q
  · split at q
    · refine ⟨q.1, ?_⟩
      have q := q.2
      split at q
      · exact h _ _ q
      · exact ⟨q.1, h _ _ q.2⟩
      · exact h _ _ q
      · exact q
    · exact q
  · exact q
theorem snd_ext {K : PySem.W.Frag} : SndM K rmExt rExtend := by
  intro C σ env fr H i ds m vs its Q Q' hl er fx hi hm q
  unfold rmExt at q
  split at q
  · obtain ⟨x, rfl⟩ := vs1 hl
    split at q
    · rename_i itm _ d2 hd
      obtain ⟨q0, q⟩ := q
      obtain ⟨a, ws, G, Fi, Ft, ha, hH, rs, rt, gh, hln, k⟩ := ER.mutL (top := [(x, itm)]) (show ER K C σ H env ((x, itm) :: fr) from er) fx hi hm
      refine ⟨a, ha, fun kk => ?_⟩
      cases rt with
      | @cons _ _ _ F0 _ r r0 =>
        cases r0
        have fin : ∀ {c : M} {p : Addr} {v2 : List V} {F2 : FP}, m.child = c → x = .ref p → H p = some (.lst v2) → RMs G H d2 c v2 F2 → SubP F2 F0 → d2.length = v2.length → Q' (ds ++ d2) (.dat .none .A) → rExtend (.ref a) [x] H Q := by
          intro c p v2 F2 hc ex h2 r2 s2 l2 hq
          subst hc
          subst ex
          exact ⟨a, p, ws, v2, rfl, rfl, hH, h2, by rw [← hln, ← l2]; exact q0, kk _ _ _ _ hq (k (ds ++ d2) (ws ++ v2) _ [(.non, .dat .none .A)] [] (rs.app r2) (.cons (F := []) (.dat .non) .nil) (fun p hp => by rw [List.mem_singleton] at hp; subst hp; trivial) (by
            rw [List.append_nil, List.append_nil]
            exact (SubP.refl _).app s2))⟩
        split at q
        · rename_i c1 c2
          obtain ⟨p, v2, F2, ex, h2, r2, s2, l2⟩ := r.side gh hd c1
          exact fin c2 ex h2 r2 s2 l2 q
        · rename_i c1 c2
          obtain ⟨p, v2, F2, ex, h2, r2, s2, l2⟩ := r.side gh hd c1
          exact fin c2 ex h2 (r2.leaf q.1 .sh).1 (.nil _) l2 q.2
        · rename_i c1 c2
          obtain ⟨p, v2, F2, ex, h2, r2, s2, l2⟩ := r.side gh hd c1
          exact fin c2 ex h2 r2 s2 l2 q
        · exact q.elim
    · exact q.elim
  · exact q.elim
end VL

namespace VL
open PySem PySem.Spec PyProof.Rows L2

/-! ### what a for walks -/
section
variable {K : PySem.W.Frag} {C : Ctx} {R G H G' H' : Hp} {it it' a b : Item} {v v' x y : V} {F F1 F2 Fa Fb : FP} {σ σ' : St} {env env' : VEnv} {fr fr' top : VFr} {p : Addr} {o : HO} {d : PyData} {m : M} {ds : List PyData} {vs : List V} {its : List Item}
theorem elI_sh (h : RI K R G H (.dat d .sh) v F) : RI K R G H (elI d) v [] := by
  cases h with
  | dat r =>
    unfold elI
    by_cases q : scalarD d = true
    · rw [if_pos q]; exact .dat (r.scal q .A).1
    · rw [if_neg q]
      have e := r.sh_nil
      subst e
      exact .dat r
/-- the things of what is handed in as shared -/
theorem RI.els (h : RI K R G H (argI it) x F) (gh : Same G H) (e : it.data.bind seqD = some ds) (hro : roOk it ds) : ∃ p vs, x = .ref p ∧ (it.data = some (.list ds) → SqL K H p vs) ∧ (it.data = some (.tuple ds) → SqT K H p vs) ∧ ds.length = vs.length ∧ ∀ (j : Nat) (d : PyData), ds[j]? = some d → ∃ v, vs[j]? = some v ∧ RI K R G H (elI d) v [] := by
  have key : ∀ {d0 : PyData}, RI K R G H (.dat d0 (if scalarD d0 then .A else .sh)) x F → seqD d0 = some ds → ∃ p vs, x = .ref p ∧ (d0 = .list ds → SqL K H p vs) ∧ (d0 = .tuple ds → SqT K H p vs) ∧ ds.length = vs.length ∧ ∀ (j : Nat) (d : PyData), ds[j]? = some d → ∃ v, vs[j]? = some v ∧ RI K R G H (elI d) v [] := by
    intro d0 h e
    cases d0 with
    | list l =>
      cases e
      cases h with
      | dat r =>
        cases r with
        | lst l rs =>
          refine ⟨_, _, rfl, fun _ => SqL.of (loc_le l gh), fun z => (by cases z), rs.len, fun j d hj => ?_⟩
          obtain ⟨v, F', h1, h2, _⟩ := rs.get hj
          exact ⟨v, h1, elI_sh (.dat h2)⟩
    | tuple l =>
      cases e
      cases h with
      | dat r =>
        cases r with
        | tup l rs =>
          refine ⟨_, _, rfl, fun z => (by cases z), fun _ => SqT.of (loc_le l gh), rs.len, fun j d hj => ?_⟩
          obtain ⟨v, F', h1, h2, _⟩ := rs.get hj
          exact ⟨v, h1, elI_sh (.dat h2)⟩
    | _ => cases e
  cases it with
  | dat d0 m =>
    obtain ⟨p, vs, e1, h1, h2, h3, h4⟩ := key h e
    exact ⟨p, vs, e1, fun z => h1 (Option.some.inj z), fun z => h2 (Option.some.inj z), h3, h4⟩
  | vw d0 m =>
    obtain ⟨p, vs, e1, h1, h2, h3, h4⟩ := key h e
    exact ⟨p, vs, e1, fun z => h1 (Option.some.inj z), fun z => h2 (Option.some.inj z), h3, h4⟩
  | ro d0 =>
    have hs : ds.all scalarD = true := hro
    cases h with
    | ro r =>
      cases r with
      | lst l rs =>
        cases e
        refine ⟨_, _, rfl, fun _ => sameL gh l, fun z => (by cases z), dpLen rs, fun j d hj => ?_⟩
        obtain ⟨v, h1, h2⟩ := dpGet rs hj
        have hsd : scalarD d = true := List.all_eq_true.mp hs d (List.mem_of_getElem? hj)
        exact ⟨v, h1, by unfold elI; rw [if_pos hsd]; exact .dat (dpScal h2 hsd .A)⟩
      | tup l rs =>
        cases e
        refine ⟨_, _, rfl, fun z => (by cases z), fun _ => sameT gh l, dpLen rs, fun j d hj => ?_⟩
        obtain ⟨v, h1, h2⟩ := dpGet rs hj
        have hsd : scalarD d = true := List.all_eq_true.mp hs d (List.mem_of_getElem? hj)
        exact ⟨v, h1, by unfold elI; rw [if_pos hsd]; exact .dat (dpScal h2 hsd .A)⟩
      | _ => cases e
  | _ => cases e
theorem ER.anchor (er : ER K C σ H env ((x, it) :: fr)) (hs : stableI it = true) : ER K C σ H env ((x, argI it) :: fr) := by
  have := ER.freezeTop (top := [(x, it)]) er (List.map fun p => (p.1, argI p.2)) fun {G G' F} r hG hH => ⟨[], r.argS (fun p hp => by rw [List.mem_singleton] at hp; subst hp; exact hs) hG hH, .nil _⟩
  exact this
theorem ER.pushG (er : ER K C σ H env (top ++ fr)) (h : ∀ {G F}, RFr K C.H0 G H top F → Same G H → RI K C.H0 G H it v []) : ER K C σ H env ((v, it) :: (top ++ fr)) := by
  obtain ⟨G, F1, F2, e⟩ := er
  obtain ⟨Ft, Fr, rfl, h1, h2⟩ := e.fr.split
  exact ⟨G, F1, Ft ++ Fr, e.gh, e.h0, e.bg, e.b0, e.fresh, e.sl, .cons (F := []) (h h1 e.gh) e.fr, e.nd, e.nf, e.fx, e.lx⟩
theorem anch1_fix : fixF [(x, argI it)] := fun p hp => by
  rw [List.mem_singleton] at hp
  subst hp
  exact argI_fix
/-- a list walked -/
theorem itok_list (e : it.data = some (.list ds)) (hro : roOk it ds) {p : Addr} : ItOk K (Itl K p) [(.ref p, argI it)] ds where
  fx := anch1_fix
  go := fun C σ H env fr i d er hd => by
    obtain ⟨G, Fa, ra, gh, _⟩ := ER.peek1 (show ER K C σ H env ((_, argI it) :: fr) from er)
    obtain ⟨p', vs, e1, h1, _, hl, h2⟩ := ra.els gh (by rw [e]; rfl) hro
    cases e1
    obtain ⟨v, hv, _⟩ := h2 i d hd
    refine ⟨⟨vs, v, h1 e, hv⟩, fun x' H' hy => ?_⟩
    obtain ⟨rfl, hy⟩ := hy
    have hx : x' = v := Option.some.inj ((hy vs (h1 e)).symm.trans hv)
    subst hx
    refine ER.pushG (top := [_]) er fun {G' F'} rf gh' => ?_
    cases rf with
    | cons r r0 =>
      obtain ⟨p'', vs', e1', h1', _, hl', h2'⟩ := r.els gh' (by rw [e]; rfl) hro
      cases e1'
      obtain ⟨v', hv', hr'⟩ := h2' i d hd
      have := Option.some.inj ((hy vs' (h1' e)).symm.trans hv')
      rw [this]
      exact hr'
  stop := fun C σ H env fr i er hd => by
    obtain ⟨G, Fa, ra, gh, _⟩ := ER.peek1 (show ER K C σ H env ((_, argI it) :: fr) from er)
    obtain ⟨p', vs, e1, h1, _, hl, h2⟩ := ra.els gh (by rw [e]; rfl) hro
    cases e1
    exact ⟨vs, h1 e, by rw [← hl]; exact hd⟩
theorem itok_tup (e : it.data = some (.tuple ds)) (hro : roOk it ds) {p : Addr} : ItOk K (Itt K p) [(.ref p, argI it)] ds where
  fx := anch1_fix
  go := fun C σ H env fr i d er hd => by
    obtain ⟨G, Fa, ra, gh, _⟩ := ER.peek1 (show ER K C σ H env ((_, argI it) :: fr) from er)
    obtain ⟨p', vs, e1, _, h1, hl, h2⟩ := ra.els gh (by rw [e]; rfl) hro
    cases e1
    obtain ⟨v, hv, _⟩ := h2 i d hd
    refine ⟨⟨vs, v, h1 e, hv⟩, fun x' H' hy => ?_⟩
    obtain ⟨rfl, hy⟩ := hy
    have hx : x' = v := Option.some.inj ((hy vs (h1 e)).symm.trans hv)
    subst hx
    refine ER.pushG (top := [_]) er fun {G' F'} rf gh' => ?_
    cases rf with
    | cons r r0 =>
      obtain ⟨p'', vs', e1', _, h1', hl', h2'⟩ := r.els gh' (by rw [e]; rfl) hro
      cases e1'
      obtain ⟨v', hv', hr'⟩ := h2' i d hd
      have := Option.some.inj ((hy vs' (h1' e)).symm.trans hv')
      rw [this]
      exact hr'
  stop := fun C σ H env fr i er hd => by
    obtain ⟨G, Fa, ra, gh, _⟩ := ER.peek1 (show ER K C σ H env ((_, argI it) :: fr) from er)
    obtain ⟨p', vs, e1, _, h1, hl, h2⟩ := ra.els gh (by rw [e]; rfl) hro
    cases e1
    exact ⟨vs, h1 e, by rw [← hl]; exact hd⟩
def rangeD (lo c : Int) (n : Nat) : List PyData := (List.range n).map fun k => .int (lo + (k : Nat) * c)
theorem rangeD_get {lo c : Int} {n i : Nat} {d : PyData} (h : (rangeD lo c n)[i]? = some d) : i < n ∧ d = .int (lo + (i : Nat) * c) := by
  unfold rangeD at h
  rw [List.getElem?_map] at h
  obtain ⟨k, hk, rfl⟩ := Option.map_eq_some_iff.mp h
  obtain ⟨h1, h2⟩ := List.getElem?_eq_some_iff.mp hk
  rw [List.length_range] at h1
  rw [List.getElem_range] at h2
  subst h2
  exact ⟨h1, rfl⟩
theorem rangeD_len {lo c : Int} {n : Nat} : (rangeD lo c n).length = n := by simp [rangeD]
theorem itok_range {lo : Int} {n : Nat} : ItOk K (Itr lo n) [] (rangeD lo 1 n) where
  fx := fun _ h => nomatch h
  go := fun C σ H env fr i d er hd => by
    obtain ⟨hi, rfl⟩ := rangeD_get hd
    refine ⟨hi, fun x H' hy => ?_⟩
    obtain ⟨rfl, rfl⟩ := hy
    rw [Int.mul_one]
    exact er.push fun _ => .dat (.int _)
  stop := fun C σ H env fr i er hd => by
    rw [rangeD_len] at hd
    exact hd
theorem itok_rangeC {lo c : Int} {n : Nat} : ItOk K (Itc lo c n) [] (rangeD lo c n) where
  fx := fun _ h => nomatch h
  go := fun C σ H env fr i d er hd => by
    obtain ⟨hi, rfl⟩ := rangeD_get hd
    refine ⟨hi, fun x H' hy => ?_⟩
    obtain ⟨rfl, rfl⟩ := hy
    exact er.push fun _ => .dat (.int _)
  stop := fun C σ H env fr i er hd => by
    rw [rangeD_len] at hd
    exact hd
/-- a new pair, shared at once -/
theorem ER.pair {T : Addr} {x1 x2 : V} {d1 d2 : PyData} (er : ER K C σ H env ((x2, elI d2) :: (x1, elI d1) :: fr)) (hT : H T = none) : ER K C σ (upd H T (.tup [x1, x2])) env ((.ref T, elI (.tuple [d1, d2])) :: fr) := by
  obtain ⟨its', hl', hd', hm, er2⟩ := ER.level (vs := [x1, x2]) (its := [elI d1, elI d2]) (ds := [d1, d2]) er rfl rfl
  obtain ⟨G, Ft, r, gh, _, _, _, k⟩ := er2.tops
  obtain ⟨F', rs, sp⟩ := frames_RMs r hl' hd' hm
  have rr : RM G (upd H T (.tup [x1, x2])) (.tuple [d1, d2]) (own' (lub [elI d1, elI d2])) (.ref T) ((own' (lub [elI d1, elI d2])).fp T ++ F') := .tup (own'_loc upd_same) (by
    rw [own'_child]
    exact rs.ext (fun _ _ q => q) fun a u _ q => upd_cell hT q)
  have er3 := k T _ hT [(.ref T, .dat (.tuple [d1, d2]) (own' (lub [elI d1, elI d2])))] _ Ft (.cons (.dat rr) .nil) (by
    rw [own'_fp, List.append_nil]
    exact (SubP.refl [(true, T)]).app sp) (.refl _)
  exact ER.share (top := [(.ref T, .dat (.tuple [d1, d2]) (own' (lub [elI d1, elI d2])))]) er3 (fun p hp => by
    rw [List.mem_singleton] at hp
    subst hp
    exact ⟨_, _, rfl⟩)
def enumD (ds : List PyData) : List PyData := (List.range ds.length).map fun k => .tuple [.int (k : Nat), ds.getD k .none]
theorem enumD_get {i : Nat} {d : PyData} (h : (enumD ds)[i]? = some d) : ∃ d0, ds[i]? = some d0 ∧ d = .tuple [.int (i : Nat), d0] := by
  unfold enumD at h
  rw [List.getElem?_map] at h
  obtain ⟨k, hk, rfl⟩ := Option.map_eq_some_iff.mp h
  obtain ⟨h1, h2⟩ := List.getElem?_eq_some_iff.mp hk
  rw [List.length_range] at h1
  rw [List.getElem_range] at h2
  subst h2
  exact ⟨ds[i], List.getElem?_eq_getElem h1, by rw [List.getD_eq_getElem?_getD, List.getElem?_eq_getElem h1]; rfl⟩
theorem enumD_len : (enumD ds).length = ds.length := by simp [enumD]
theorem itok_enum (e : it.data = some (.list ds)) (hro : roOk it ds) {p : Addr} : ItOk K (Ite K p) [(.ref p, argI it)] (enumD ds) where
  fx := anch1_fix
  go := fun C σ H env fr i d er hd => by
    obtain ⟨d0, hd0, rfl⟩ := enumD_get hd
    obtain ⟨G, Fa, ra, gh, _⟩ := ER.peek1 (show ER K C σ H env ((_, argI it) :: fr) from er)
    obtain ⟨p', vs, e1, h1, _, hl, h2⟩ := ra.els gh (by rw [e]; rfl) hro
    cases e1
    obtain ⟨v, hv, _⟩ := h2 i d0 hd0
    refine ⟨⟨vs, v, h1 e, hv⟩, fun x' H' hy => ?_⟩
    obtain ⟨T, x1, rfl, hT, rfl, hy⟩ := hy
    have hx : x1 = v := Option.some.inj ((hy vs (h1 e)).symm.trans hv)
    subst hx
    refine ER.pair (d1 := .int (i : Nat)) ?_ hT
    have er1 : ER K C σ H env ((.int (i : Nat), elI (.int (i : Nat))) :: ([(.ref p, argI it)] ++ fr)) := er.push fun _ => .dat (.int _)
    refine ER.pushG (top := [_, _]) er1 fun {G' F'} rf gh' => ?_
    cases rf with
    | cons _ rf =>
      cases rf with
      | cons r r0 =>
        obtain ⟨p'', vs', e1', h1', _, hl', h2'⟩ := r.els gh' (by rw [e]; rfl) hro
        cases e1'
        obtain ⟨v', hv', hr'⟩ := h2' i d0 hd0
        have := Option.some.inj ((hy vs' (h1' e)).symm.trans hv')
        rw [this]
        exact hr'
  stop := fun C σ H env fr i er hd => by
    rw [enumD_len] at hd
    obtain ⟨G, Fa, ra, gh, _⟩ := ER.peek1 (show ER K C σ H env ((_, argI it) :: fr) from er)
    obtain ⟨p', vs, e1, h1, _, hl, h2⟩ := ra.els gh (by rw [e]; rfl) hro
    cases e1
    exact ⟨vs, h1 e, by rw [← hl]; exact hd⟩
def zipD (d1 d2 : List PyData) : List PyData := (d1.zip d2).map fun p => .tuple [p.1, p.2]
theorem zipD_get {d1 d2 : List PyData} {i : Nat} {d : PyData} (h : (zipD d1 d2)[i]? = some d) : ∃ a b, d1[i]? = some a ∧ d2[i]? = some b ∧ d = .tuple [a, b] := by
  unfold zipD at h
  rw [List.getElem?_map] at h
  obtain ⟨q, hk, rfl⟩ := Option.map_eq_some_iff.mp h
  obtain ⟨h1, h2⟩ := List.getElem?_zip_eq_some.mp hk
  exact ⟨_, _, h1, h2, rfl⟩
theorem zipD_len {d1 d2 : List PyData} : (zipD d1 d2).length = min d1.length d2.length := by simp [zipD]
theorem itok_zip {it2 : Item} {d1 d2 : List PyData} (e : it.data = some (.list d1)) (hro : roOk it d1) (e2 : it2.data = some (.list d2)) (hro2 : roOk it2 d2) {p q : Addr} : ItOk K (Itz K p q) [(.ref q, argI it2), (.ref p, argI it)] (zipD d1 d2) where
  fx := fun z hz => by
    rcases List.mem_cons.mp hz with rfl | hz
    · exact argI_fix
    · rw [List.mem_singleton] at hz
      subst hz
      exact argI_fix
  go := fun C σ H env fr i d er hd => by
    obtain ⟨da, db, hda, hdb, rfl⟩ := zipD_get hd
    obtain ⟨G, Fb, Fa, rb, ra, gh, _⟩ := ER.peek2 (show ER K C σ H env ((_, argI it2) :: (_, argI it) :: fr) from er)
    obtain ⟨p', vs, e1, h1, _, hl, h2⟩ := ra.els gh (by rw [e]; rfl) hro
    obtain ⟨q', ws, e1', h1', _, hl', h2'⟩ := rb.els gh (by rw [e2]; rfl) hro2
    cases e1
    cases e1'
    obtain ⟨v, hv, _⟩ := h2 i da hda
    obtain ⟨w, hw, _⟩ := h2' i db hdb
    refine ⟨⟨vs, ws, v, w, h1 e, h1' e2, hv, hw⟩, fun x' H' hy => ?_⟩
    obtain ⟨T, x1, x2, rfl, hT, rfl, hy, hy2⟩ := hy
    refine ER.pair ?_ hT
    have er1 : ER K C σ H env ((x1, elI da) :: ([(.ref q, argI it2), (.ref p, argI it)] ++ fr)) := by
      refine ER.pushG (top := [_, _]) er fun {G' F'} rf gh' => ?_
      cases rf with
      | cons _ rf =>
        cases rf with
        | cons r r0 =>
          obtain ⟨p'', vs', e1', h1', _, hl', h2'⟩ := r.els gh' (by rw [e]; rfl) hro
          cases e1'
          obtain ⟨v', hv', hr'⟩ := h2' i da hda
          have := Option.some.inj ((hy vs' (h1' e)).symm.trans hv')
          rw [this]
          exact hr'
    refine ER.pushG (top := [_, _, _]) er1 fun {G' F'} rf gh' => ?_
    cases rf with
    | cons _ rf =>
      cases rf with
      | cons r r0 =>
        obtain ⟨p'', vs', e1', h1', _, hl', h2'⟩ := r.els gh' (by rw [e2]; rfl) hro2
        cases e1'
        obtain ⟨v', hv', hr'⟩ := h2' i db hdb
        have := Option.some.inj ((hy2 vs' (h1' e2)).symm.trans hv')
        rw [this]
        exact hr'
  stop := fun C σ H env fr i er hd => by
    rw [zipD_len] at hd
    obtain ⟨G, Fb, Fa, rb, ra, gh, _⟩ := ER.peek2 (show ER K C σ H env ((_, argI it2) :: (_, argI it) :: fr) from er)
    obtain ⟨p', vs, e1, h1, _, hl, h2⟩ := ra.els gh (by rw [e]; rfl) hro
    obtain ⟨q', ws, e1', h1', _, hl', h2'⟩ := rb.els gh (by rw [e2]; rfl) hro2
    cases e1
    cases e1'
    exact ⟨vs, ws, h1 e, h1' e2, by omega⟩
end
section
variable {X : Cx} {tg e e2 a b c : Expr} {te te2 ta tb tc : TVE} {p pos tpos : Pos} {elts : List Expr} {kk : Nat} {t : TVA}
def tvIL (te : TVE) (env : VEnv) (Q : List PyData → VEnv → Prop) : Prop := te env fun it env1 => match it.data with
  | some (.list ds) => stableI it = true ∧ roOk it ds ∧ Q ds env1
  | _ => False
def tvIT (te : TVE) (env : VEnv) (Q : List PyData → VEnv → Prop) : Prop := te env fun it env1 => match it.data with
  | some (.tuple ds) => stableI it = true ∧ roOk it ds ∧ Q ds env1
  | _ => False
theorem vi_list (he : VE X e te) : VI X tg e (tvIL te) :=
  ⟨PIweak (pi_list he.pe) fun σ H Q ⟨C, env, fr, er, q⟩ => ⟨C, env, fr, er, he.mono _ _ _ (fun it env1 q v H1 er1 => by
      split at q
      · rename_i ds hd
        have er2 := er1.anchor q.1
        obtain ⟨G, Fa, ra, gh, _⟩ := er2.peek1
        obtain ⟨p', vs, rfl, h1, _⟩ := ra.els gh (by rw [hd]; rfl) q.2.1
        exact ⟨p', rfl, ⟨vs, h1 hd⟩, q.2.2 _ _ H1 (itok_list hd q.2.1) er2⟩
      · exact q.elim) q⟩, fun env Q Q' h q => he.mono _ _ _ (fun it env1 q => by
      split at q
      · exact ⟨q.1, q.2.1, h _ _ q.2.2⟩
      · exact q) q⟩
theorem vi_tup (he : VE X e te) : VI X tg e (tvIT te) :=
  ⟨PIweak (pi_tup he.pe) fun σ H Q ⟨C, env, fr, er, q⟩ => ⟨C, env, fr, er, he.mono _ _ _ (fun it env1 q v H1 er1 => by
      split at q
      · rename_i ds hd
        have er2 := er1.anchor q.1
        obtain ⟨G, Fa, ra, gh, _⟩ := er2.peek1
        obtain ⟨p', vs, rfl, _, h1, _⟩ := ra.els gh (by rw [hd]; rfl) q.2.1
        exact ⟨p', rfl, ⟨vs, h1 hd⟩, q.2.2 _ _ H1 (itok_tup hd q.2.1) er2⟩
      · exact q.elim) q⟩, fun env Q Q' h q => he.mono _ _ _ (fun it env1 q => by
      split at q
      · exact ⟨q.1, q.2.1, h _ _ q.2.2⟩
      · exact q) q⟩
def tvIR1 (t : TVA) (env : VEnv) (Q : List PyData → VEnv → Prop) : Prop := t env fun its env1 => match its with
  | [a] => match a.data with
    | some (.int j) => -(2 ^ 62) ≤ j ∧ j < 2 ^ 62 ∧ Q (rangeD 0 1 j.toNat) env1
    | _ => False
  | _ => False
theorem vi_range1 (hg : Gl X "range") (hm : X.mg "range" = none) (ha : VA X [a] t) (hs : starEach [a] X.env = [(false, eval a X.env)] := by rfl) : VI X tg (.Call (.Name "range" p) [a] [] pos) (tvIR1 t) :=
  ⟨PIweak (pi_range1 hg hm ha.pa hs) fun σ H Q ⟨C, env, fr, er, q⟩ => ⟨C, env, fr, er, ha.mono _ _ _ (fun its env1 q vs H1 hl er1 => by
      split at q
      · obtain ⟨x, rfl⟩ := vs1 hl
        split at q
        · rename_i j hj
          obtain ⟨G, Fa, ra, gh, _⟩ := ER.peek1 er1
          exact ⟨j, by rw [ra.int hj], q.1, q.2.1, q.2.2 _ [] H1 itok_range (er1.pop)⟩
        · exact q.elim
      · exact q.elim) q⟩, fun env Q Q' h q => ha.mono _ _ _ (fun its env1 q => by
      split at q
      · split at q
        · exact ⟨q.1, q.2.1, h _ _ q.2.2⟩
        · exact q
      · exact q) q⟩
def tvIR2 (t : TVA) (env : VEnv) (Q : List PyData → VEnv → Prop) : Prop := t env fun its env1 => match its with
  | [a, b] => match a.data, b.data with
    | some (.int i), some (.int j) => -(2 ^ 62) ≤ i ∧ i < 2 ^ 62 ∧ -(2 ^ 62) ≤ j ∧ j < 2 ^ 62 ∧ Q (rangeD i 1 (j - i).toNat) env1
    | _, _ => False
  | _ => False
theorem vi_range2 (hg : Gl X "range") (hm : X.mg "range" = none) (ha : VA X [a, b] t) (hs : starEach [a, b] X.env = [(false, eval a X.env), (false, eval b X.env)] := by rfl) (hs2 : starEach [b] X.env = [(false, eval b X.env)] := by rfl) : VI X tg (.Call (.Name "range" p) [a, b] [] pos) (tvIR2 t) :=
  ⟨PIweak (pi_range2 hg hm ha.pa hs hs2) fun σ H Q ⟨C, env, fr, er, q⟩ => ⟨C, env, fr, er, ha.mono _ _ _ (fun its env1 q vs H1 hl er1 => by
      split at q
      · obtain ⟨x, y, rfl⟩ := vs2 hl
        split at q
        · rename_i i j hi hj
          obtain ⟨G, Fb, Fa, rb, ra, gh, _⟩ := ER.peek2 er1
          exact ⟨i, j, by rw [ra.int hi, rb.int hj], ⟨q.1, q.2.1, q.2.2.1, q.2.2.2.1⟩, q.2.2.2.2 _ [] H1 itok_range (er1.pop)⟩
        · exact q.elim
      · exact q.elim) q⟩, fun env Q Q' h q => ha.mono _ _ _ (fun its env1 q => by
      split at q
      · split at q
        · exact ⟨q.1, q.2.1, q.2.2.1, q.2.2.2.1, h _ _ q.2.2.2.2⟩
        · exact q
      · exact q) q⟩
def tvIE (t : TVA) (env : VEnv) (Q : List PyData → VEnv → Prop) : Prop := t env fun its env1 => match its with
  | [it] => match it.data with
    | some (.list ds) => stableI it = true ∧ roOk it ds ∧ Q (enumD ds) env1
    | _ => False
  | _ => False
theorem vi_enum (hg : Gl X "enumerate") (hm : X.mg "enumerate" = none) (ha : VA X [e] t) (hs : starEach [e] X.env = [(false, eval e X.env)] := by rfl) : VI X (.Tuple elts kk tpos) (.Call (.Name "enumerate" p) [e] [] pos) (tvIE t) :=
  ⟨PIweak (pi_enum hg hm ha.pa hs) fun σ H Q ⟨C, env, fr, er, q⟩ => ⟨C, env, fr, er, ha.mono _ _ _ (fun its env1 q vs H1 hl er1 => by
      split at q
      · obtain ⟨x, rfl⟩ := vs1 hl
        split at q
        · rename_i ds hd
          have er2 := ER.anchor er1 q.1
          obtain ⟨G, Fa, ra, gh, _⟩ := er2.peek1
          obtain ⟨p', vs, rfl, h1, _⟩ := ra.els gh (by rw [hd]; rfl) q.2.1
          exact ⟨p', vs, rfl, h1 hd, q.2.2 _ _ H1 (itok_enum hd q.2.1) er2⟩
        · exact q.elim
      · exact q.elim) q⟩, fun env Q Q' h q => ha.mono _ _ _ (fun its env1 q => by
      split at q
      · split at q
        · exact ⟨q.1, q.2.1, h _ _ q.2.2⟩
        · exact q
      · exact q) q⟩
def tvIZ (t : TVA) (env : VEnv) (Q : List PyData → VEnv → Prop) : Prop := t env fun its env1 => match its with
  | [it, it2] => match it.data, it2.data with
    | some (.list d1), some (.list d2) => stableI it = true ∧ stableI it2 = true ∧ roOk it d1 ∧ roOk it2 d2 ∧ Q (zipD d1 d2) env1
    | _, _ => False
  | _ => False
theorem vi_zip (hg : Gl X "zip") (hm : X.mg "zip" = none) (ha : VA X [e, e2] t)
    (hs : starEach [e, e2] X.env = (false, eval e X.env) :: starEach [e2] X.env := by rfl) (hpl : (backTo pos (starEach [e2] X.env)).any (·.1) = false := by rfl) : VI X (.Tuple elts kk tpos) (.Call (.Name "zip" p) [e, e2] [] pos) (tvIZ t) :=
  ⟨PIweak (pi_zip hg hm ha.pa hs hpl) fun σ H Q ⟨C, env, fr, er, q⟩ => ⟨C, env, fr, er, ha.mono _ _ _ (fun its env1 q vs H1 hl er1 => by
      split at q
      · rename_i it it2
        obtain ⟨x, y, rfl⟩ := vs2 hl
        split at q
        · rename_i d1 d2 hd1 hd2
          have er2 : ER X.K C σ H1 env1 ([(y, argI it2), (x, argI it)] ++ fr) := ER.freezeTop (top := [(y, it2), (x, it)]) er1 (List.map fun p => (p.1, argI p.2)) fun {G G' F} r hG hH => ⟨[], r.argS (fun p hp => by
            rcases List.mem_cons.mp hp with rfl | hp
            · exact q.2.1
            · rw [List.mem_singleton] at hp; subst hp; exact q.1) hG hH, .nil _⟩
          obtain ⟨G, Fb, Fa, rb, ra, gh, _⟩ := ER.peek2 er2
          obtain ⟨p', vs, rfl, h1, _⟩ := ra.els gh (by rw [hd1]; rfl) q.2.2.1
          obtain ⟨q', ws, rfl, h1', _⟩ := rb.els gh (by rw [hd2]; rfl) q.2.2.2.1
          exact ⟨p', q', vs, ws, rfl, h1 hd1, h1' hd2, q.2.2.2.2 _ _ H1 (itok_zip hd1 q.2.2.1 hd2 q.2.2.2.1) er2⟩
        · exact q.elim
      · exact q.elim) q⟩, fun env Q Q' h q => ha.mono _ _ _ (fun its env1 q => by
      split at q
      · split at q
        · exact ⟨q.1, q.2.1, q.2.2.1, q.2.2.2.1, h _ _ q.2.2.2.2⟩
        · exact q
      · exact q) q⟩
end
end VL

namespace VL
open PySem PySem.Spec PyProof.Rows L2

/-! ### a cell that is set aside while a comprehension fills it -/
section
variable {K : PySem.W.Frag} {C : Ctx} {R G H G' H' : Hp} {it it' a b : Item} {v v' x y : V} {F F1 F2 Fa Fb : FP} {σ σ' : St} {env env' : VEnv} {fr fr' top : VFr} {p D : Addr} {o o' : HO} {d : PyData} {m : M} {ds : List PyData} {vs : List V} {its : List Item}
def Ctx.res (C : Ctx) (D : Addr) (o : HO) : Ctx := { C with H0 := upd C.H0 D o }
theorem RI.reR2 {R' : Hp} (h : RI K R G H it v F) (gh : Same G H) (hR : ∀ a u, R a = none → H a = some u → R' a = none) : RI K R' G H it v F := by
  cases h with
  | dat r => exact .dat r
  | vw r h1 =>
    refine .vw r fun p hp => ?_
    obtain ⟨u, hu⟩ := (r.there.all gh) p hp
    exact hR _ u (h1 p hp) hu
  | ro r => exact .ro r
  | ob e r => exact .ob e r
  | os e r => exact .os e r
  | ov e r h1 h2 =>
    refine .ov e r (hR _ _ h1 e) fun p hp => ?_
    obtain ⟨u, hu⟩ := (r.there.all gh) p hp
    exact hR _ u (h2 p hp) hu
theorem RSl.reR2 {R' : Hp} (h : RSl K R G H σ env F) (gh : Same G H) (hR : ∀ a u, R a = none → H a = some u → R' a = none) : RSl K R' G H σ env F := by
  induction h with
  | nil => exact .nil
  | cons r _ ih =>
    refine .cons ?_ ih
    rename_i o x _ _ _ _ _
    cases o with
    | none => exact r
    | some it => obtain ⟨v, e, r⟩ := r; exact ⟨v, e, r.reR2 gh hR⟩
theorem RFr.reR2 {R' : Hp} (h : RFr K R G H fr F) (gh : Same G H) (hR : ∀ a u, R a = none → H a = some u → R' a = none) : RFr K R' G H fr F := by
  induction h with
  | nil => exact .nil
  | cons r _ ih => exact .cons (r.reR2 gh hR) ih
theorem ERG.outer (e : ERG K C σ H env fr G F1 F2) (h : H D = none) : C.H0 D = none ∧ C.B D = none ∧ D ∉ C.L.map (·.1) := by
  have h0 : C.H0 D = none := by
    cases z : C.H0 D with
    | none => rfl
    | some u =>
      exfalso
      have : ∃ u', lk C.L C.H0 D = some u' := by
        unfold lk
        cases C.L.lookup D with
        | none => exact ⟨u, z⟩
        | some o => exact ⟨_, by rw [z]; rfl⟩
      obtain ⟨u', q⟩ := this
      rw [e.h0 D u' q] at h
      cases h
  refine ⟨h0, ?_, fun z => ?_⟩
  · cases z : C.B D with
    | none => rfl
    | some u => rw [e.b0 _ _ z] at h0; cases h0
  · obtain ⟨u, hu⟩ := e.lx D z
    rw [h] at hu
    cases hu
theorem lookup_none {D : Addr} : ∀ {L : List (Addr × Obj)}, D ∉ L.map (·.1) → L.lookup D = none
  | [], _ => rfl
  | p :: L, h => by
    rw [List.map_cons, List.mem_cons, not_or] at h
    rw [List.lookup_cons, beq_eq_false_iff_ne.mpr h.1]
    exact lookup_none h.2
theorem lk_upd {D : Addr} {o : HO} {L : List (Addr × Obj)} {H0 : Hp} (hL : D ∉ L.map (·.1)) : lk L (upd H0 D o) = upd (lk L H0) D o := by
  have hl := lookup_none hL
  funext a
  by_cases ha : a = D
  · subst ha
    rw [upd_same]
    unfold lk
    rw [hl]
    exact upd_same
  · rw [upd_ne ha]
    unfold lk
    rw [upd_ne ha]
/-- a new cell, set aside -/
theorem ER.reserve (er : ER K C σ H env fr) (h : H D = none) : ER K (C.res D o) σ (upd H D o) env fr ∧ C.H0 D = none ∧ C.B D = none ∧ D ∉ C.L.map (·.1) := by
  obtain ⟨G, F1, F2, e⟩ := er
  obtain ⟨h0, hb, hL⟩ := e.outer h
  refine ⟨?_, h0, hb, hL⟩
  have hs : Same H (upd H D o) := fun a u q => by rw [upd_ne (ne_of_none q h)]; exact q
  have hR : ∀ a u, C.H0 a = none → H a = some u → (C.res D o).H0 a = none := fun a u q1 q2 => by
    show upd C.H0 D o a = none
    rw [upd_ne (ne_of_none q2 h)]
    exact q1
  refine ⟨G, F1, F2, fun a u q => hs a u (e.gh a u q), ?_, e.bg, ?_, fun a q => ?_, (e.sl.reR2 e.gh hR).ext (fun _ _ q => q) (fun a u _ q => hs a u q) (.inr fun a u _ q => hs a u q), (e.fr.reR2 e.gh hR).ext (fun _ _ q => q) (fun a u _ q => hs a u q) (.inr fun a u _ q => hs a u q), e.nd, fun q hq => ?_, e.fx, fun a ha => (e.lx a ha).imp fun u q => hs a u q⟩
  · show Same (lk C.L (upd C.H0 D o)) (upd H D o)
    rw [lk_upd hL]
    intro a u q
    by_cases ha : a = D
    · subst ha; rw [upd_same] at q ⊢; exact q
    · rw [upd_ne ha] at q ⊢; exact e.h0 a u q
  · intro a u q
    show upd C.H0 D o a = some u
    have := e.b0 a u q
    rw [upd_ne (ne_of_none this h0)]
    exact this
  · rcases e.fresh a q with z | z
    · exact .inl z
    · refine .inr ?_
      show upd C.H0 D o a = none
      by_cases ha : a = D
      · subst ha
        exfalso
        cases y : G a with
        | none => exact q y
        | some u => rw [e.gh _ _ y] at h; cases h
      · rw [upd_ne ha]; exact z
  · obtain ⟨n1, n2, n3⟩ := e.nf q hq
    obtain ⟨u, hu⟩ := e.there q hq
    exact ⟨hR _ u n1 hu, n2, n3⟩
theorem ER.resGet (er : ER K (C.res D o) σ H env fr) (hL : D ∉ C.L.map (·.1)) : H D = some o := by
  obtain ⟨G, F1, F2, e⟩ := er
  have := e.h0
  rw [show (C.res D o).L = C.L from rfl, show (C.res D o).H0 = upd C.H0 D o from rfl, lk_upd hL] at this
  exact this D o upd_same
/-- .. is written -/
theorem ER.resSet (er : ER K (C.res D o) σ H env fr) (hb : C.B D = none) (hL : D ∉ C.L.map (·.1)) (o' : HO) : ER K (C.res D o') σ (upd H D o') env fr := by
  obtain ⟨G, F1, F2, e⟩ := er
  have hne : ∀ a, (C.res D o).H0 a = none → a ≠ D := fun a q z => by
    subst z
    rw [show (C.res a o).H0 = upd C.H0 a o from rfl, upd_same] at q
    cases q
  have hGD : G D = none := by
    cases z : G D with
    | none => rfl
    | some u =>
      rcases e.fresh D (by rw [z]; exact fun q => nomatch q) with y | y
      · exact absurd hb y
      · exact absurd rfl (hne D y)
  have hcell : ∀ a u, (C.res D o).H0 a = none → H a = some u → upd H D o' a = some u := fun a u q1 q2 => by rw [upd_ne (hne a q1)]; exact q2
  have hR : ∀ a u, (C.res D o).H0 a = none → upd H D o' a = some u → (C.res D o').H0 a = none := fun a u q1 _ => by
    have := hne a q1
    rw [show (C.res D o).H0 = upd C.H0 D o from rfl, upd_ne this] at q1
    rw [show (C.res D o').H0 = upd C.H0 D o' from rfl, upd_ne this]
    exact q1
  have gh' : Same G (upd H D o') := fun a u q => by rw [upd_ne (ne_of_none q hGD)]; exact e.gh a u q
  refine ⟨G, F1, F2, gh', ?_, e.bg, fun a u q => ?_, fun a q => ?_, ((e.sl.ext (fun _ _ q => q) (fun a u hm q => hcell a u (e.nf _ (List.mem_append_left _ hm)).1 q) (.inr hcell))).reR2 gh' hR, ((e.fr.ext (fun _ _ q => q) (fun a u hm q => hcell a u (e.nf _ (List.mem_append_right _ hm)).1 q) (.inr hcell))).reR2 gh' hR, e.nd, fun q hq => ?_, e.fx, fun a ha => ?_⟩
  · show Same (lk C.L (upd C.H0 D o')) (upd H D o')
    have h0 := e.h0
    rw [show (C.res D o).L = C.L from rfl, show (C.res D o).H0 = upd C.H0 D o from rfl, lk_upd hL] at h0
    rw [lk_upd hL]
    intro a u q
    by_cases ha : a = D
    · subst ha; rw [upd_same] at q ⊢; exact q
    · rw [upd_ne ha] at q ⊢; exact h0 a u (by rw [upd_ne ha]; exact q)
  · have := e.b0 a u q
    have hq : C.B a = some u := q
    rw [show (C.res D o).H0 = upd C.H0 D o from rfl, upd_ne (ne_of_none hq hb)] at this
    rw [show (C.res D o').H0 = upd C.H0 D o' from rfl, upd_ne (ne_of_none hq hb)]
    exact this
  · rcases e.fresh a q with z | z
    · exact .inl z
    · refine .inr ?_
      have := hne a z
      rw [show (C.res D o).H0 = upd C.H0 D o from rfl, upd_ne this] at z
      rw [show (C.res D o').H0 = upd C.H0 D o' from rfl, upd_ne this]
      exact z
  · obtain ⟨n1, n2, n3⟩ := e.nf q hq
    obtain ⟨u, hu⟩ := e.there q hq
    exact ⟨hR _ u n1 (hcell _ u n1 hu), n2, n3⟩
  · by_cases hba : a = D
    · exact ⟨o', by rw [hba]; exact upd_same⟩
    · rw [upd_ne hba]
      exact e.lx a ha
/-- .. becomes a list of what stands on top -/
theorem ER.release {c : M} (er : ER K (C.res D (.lst vs)) σ H env ((vs.zip its).reverse ++ fr)) (h0 : C.H0 D = none) (hb : C.B D = none) (hL : D ∉ C.L.map (·.1)) (hl : vs.length = its.length) (hd : datsL its = some ds) (hc : ∀ it ∈ its, datM it = c) :
    ER K C σ H env ((.ref D, .dat (.list ds) (own' c)) :: fr) := by
  have hHD := er.resGet hL
  obtain ⟨G, F1, F2, e⟩ := er
  have hle : ∀ a, (C.res D (.lst vs)).H0 a = none → C.H0 a = none ∧ a ≠ D := fun a q => by
    have hne : a ≠ D := fun z => by
      subst z
      rw [show (C.res a (.lst vs)).H0 = upd C.H0 a (.lst vs) from rfl, upd_same] at q
      cases q
    rw [show (C.res D (.lst vs)).H0 = upd C.H0 D (.lst vs) from rfl, upd_ne hne] at q
    exact ⟨q, hne⟩
  obtain ⟨Ft, Fr, rfl, h1, h2⟩ := e.fr.split
  obtain ⟨F', rs, sp⟩ := frames_RMs h1 hl hd hc
  have hGD : G D = none := by
    cases z : G D with
    | none => rfl
    | some u =>
      rcases e.fresh D (by rw [z]; exact fun q => nomatch q) with y | y
      · exact absurd hb y
      · exact absurd rfl (hle D y).2
  have rr : RM G H (.list ds) (own' c) (.ref D) ((own' c).fp D ++ F') := .lst (own'_loc hHD) (by rw [own'_child]; exact rs)
  have sp2 : SubP (F1 ++ ((own' c).fp D ++ F' ++ Fr)) ((true, D) :: (F1 ++ (Ft ++ Fr))) := by
    rw [own'_fp]
    have : (F1 ++ ([(true, D)] ++ F' ++ Fr)).Perm ((true, D) :: (F1 ++ (F' ++ Fr))) := by
      rw [List.append_assoc]
      exact List.perm_middle
    exact (SubP.of_perm this).trans ((SubP.refl [(true, D)]).app ((SubP.refl F1).app (sp.app (.refl Fr))))
  have hDn : ∀ q ∈ F1 ++ (Ft ++ Fr), q.2 ≠ D := fun q hq => (hle _ (e.nf q hq).1).2
  refine ⟨G, F1, (own' c).fp D ++ F' ++ Fr, e.gh, fun a u q => ?_, e.bg, fun a u q => ?_, fun a q => (e.fresh a q).imp id fun z => (hle a z).1, e.sl.reR2 e.gh fun a u q _ => (hle a q).1, .cons (.dat rr) (h2.reR2 e.gh fun a u q _ => (hle a q).1), ?_, fun q hq => ?_, e.fx, e.lx⟩
  · have h0' := e.h0
    rw [show (C.res D (.lst vs)).L = C.L from rfl, show (C.res D (.lst vs)).H0 = upd C.H0 D (.lst vs) from rfl, lk_upd hL] at h0'
    refine h0' a u ?_
    by_cases ha : a = D
    · subst ha
      exfalso
      have : lk C.L C.H0 a = none := by
        unfold lk
        split
        · rw [h0]; rfl
        · exact h0
      rw [this] at q
      cases q
    · rw [upd_ne ha]; exact q
  · have := e.b0 a u q
    have hq : C.B a = some u := q
    rw [show (C.res D (.lst vs)).H0 = upd C.H0 D (.lst vs) from rfl, upd_ne (ne_of_none hq hb)] at this
    exact this
  · refine ND.subP ?_ sp2
    unfold ND
    rw [List.map_cons, List.nodup_cons]
    refine ⟨fun z => ?_, e.nd⟩
    obtain ⟨q, hq, e2⟩ := List.mem_map.mp z
    exact hDn q hq e2
  · rcases List.mem_cons.mp (sp2.mem hq) with rfl | z
    · exact ⟨h0, hL, fun _ => hGD⟩
    · obtain ⟨n1, n2, n3⟩ := e.nf q z
      exact ⟨(hle _ n1).1, n2, n3⟩
/-- the parts in another order -/
theorem ER.swapF {f1 f2 : VFr} (er : ER K C σ H env (f1 ++ (f2 ++ fr))) : ER K C σ H env (f2 ++ (f1 ++ fr)) := by
  obtain ⟨G, F1, F2, e⟩ := er
  obtain ⟨Fx, Fr', rfl, h1, h2⟩ := e.fr.split
  obtain ⟨Fy, Fr, rfl, h3, h4⟩ := h2.split
  have pm : (F1 ++ (Fy ++ (Fx ++ Fr))).Perm (F1 ++ (Fx ++ (Fy ++ Fr))) := by
    refine List.Perm.append_left F1 ?_
    rw [← List.append_assoc, ← List.append_assoc]
    exact List.Perm.append_right Fr List.perm_append_comm
  exact ⟨G, F1, Fy ++ (Fx ++ Fr), e.gh, e.h0, e.bg, e.b0, e.fresh, e.sl, h3.join (h1.join h4), e.nd.perm pm, fun q hq => e.nf q (pm.mem_iff.mp hq), e.fx, e.lx⟩
/-- a name that holds nothing may hold anything -/
theorem RSl.any {i : Nat} {x0 : Option V} (h : RSl K R G H σ env F) : ∀ {i : Nat}, (env[i]? = some none ∨ env.length ≤ i) → RSl K R G H (σ.set i x0) env F := by
  induction h with
  | nil => intro i _; exact .nil
  | cons r rs ih =>
    intro i hi
    cases i with
    | zero =>
      rcases hi with hi | hi
      · simp at hi
        subst hi
        exact .cons r rs
      · simp at hi
    | succ i =>
      exact .cons r (ih (by simpa using hi))
theorem ER.any {i : Nat} (x0 : Option V) (er : ER K C σ H env fr) (hi : env[i]? = some none ∨ env.length ≤ i) : ER K C (σ.set i x0) H env fr := by
  obtain ⟨G, F1, F2, e⟩ := er
  exact ⟨G, F1, F2, e.gh, e.h0, e.bg, e.b0, e.fresh, e.sl.any (i := i) hi, e.fr, e.nd, e.nf, e.fx, e.lx⟩
def wipeE (env : VEnv) : List Nat → VEnv
  | [] => env
  | v :: vs => (wipeE env vs).set v none
theorem set_none {i : Nat} : (env.set i none)[i]? = some none ∨ (env.set i none).length ≤ i := by
  by_cases h : i < env.length
  · left; simp [h]
  · right; simp; omega
theorem ER.wipe (er : ER K C σ H env fr) : ∀ vs : List Nat, ER K C (L2.wipe σ vs) H (wipeE env vs) fr
  | [] => er
  | v :: vs => ER.any none ((ER.wipe er vs).drop (i := v)) set_none
theorem ER.unwipe : ∀ {vs : List Nat} {σ : St}, ER K C (L2.wipe σ vs) H (wipeE env vs) fr → ER K C σ H (wipeE env vs) fr := by
  intro vs σ er
  have key : ∀ (us : List Nat) (e2 : VEnv), (∀ u ∈ us, e2[u]? = some none ∨ e2.length ≤ u) → ER K C (L2.wipe σ us) H e2 fr → ER K C σ H e2 fr := by
    intro us
    induction us with
    | nil => intro e2 _ h; exact h
    | cons u us ih =>
      intro e2 hu h
      refine ih e2 (fun q hq => hu q (List.mem_cons_of_mem _ hq)) ?_
      have h2 := ER.any (i := u) ((L2.wipe σ us)[u]?.getD none) h (hu u List.mem_cons_self)
      have : ((L2.wipe σ us).set u none).set u ((L2.wipe σ us)[u]?.getD none) = L2.wipe σ us := by
        rw [List.set_set]
        by_cases hl : u < (L2.wipe σ us).length
        · rw [List.getElem?_eq_getElem hl]
          exact List.set_getElem_self hl
        · exact List.set_eq_of_length_le (by omega)
      rw [show L2.wipe σ (u :: us) = (L2.wipe σ us).set u none from rfl, this] at h2
      exact h2
  refine key vs _ ?_ er
  clear er key
  have len : ∀ us : List Nat, (wipeE env us).length = env.length := by
    intro us
    induction us with
    | nil => rfl
    | cons u us ih => rw [show wipeE env (u :: us) = (wipeE env us).set u none from rfl, List.length_set, ih]
  induction vs with
  | nil => intro u hu; cases hu
  | cons w vs ih =>
    intro u hu
    rw [show wipeE env (w :: vs) = (wipeE env vs).set w none from rfl]
    by_cases h : u = w
    · subst h; exact set_none
    · have hu' : u ∈ vs := (List.mem_cons.mp hu).resolve_left h
      rw [List.getElem?_set_ne (Ne.symm h), List.length_set]
      exact ih u hu'
end

/-! ### [e for x in xs if t] -/
def tvYes (env : VEnv) (Q : Bool → VEnv → Prop) : Prop := Q true env
structure VTs (X : Cx) (ifs : List Expr) (t : TVT) : Prop where
  pt : PTs X ifs (liftT X.K t)
  mono : MonoT t
theorem PTsweak {X : Cx} {e : List Expr} {t t' : TT} (h : PTs X e t) (w : ∀ σ H Q, t' σ H Q → t σ H Q) : PTs X e t' := ⟨fun pins s σ H Q I q => h.run pins s σ H Q I (w _ _ _ q)⟩
theorem vts_nil {X : Cx} : VTs X [] tvYes := ⟨PTsweak pts_nil fun σ H Q ⟨C, env, fr, er, q⟩ => q H er, fun env Q Q' h q => h _ _ q⟩
theorem vts_one {X : Cx} {c : Expr} {t : TVT} (h : VT X c t) : VTs X [c] t := ⟨pts_one h.pt, h.mono⟩
def lcP (mc : M) (g : TVG) (tt : TVT) (te : TVE) (vs : List Nat) (ds : List PyData) (env1 : VEnv) (Q : Item → VEnv → Prop) : Prop := ∃ P : Nat → List PyData → Prop, P 0 [] ∧
  (∀ i d acc, ds[i]? = some d → P i acc → g (elI d) (wipeE env1 vs) fun env2 => tt env2 fun b env3 => if b = true then te env3 fun it env4 => (match (nrm it).bind (fitC mc) with
    | some d' => acc.length < sizeLine ∧ wipeE env4 vs = wipeE env1 vs ∧ P (i + 1) (acc ++ [d'])
    | none => False) else wipeE env3 vs = wipeE env1 vs ∧ P (i + 1) acc) ∧
  ∀ acc, P ds.length acc → Q (.dat (.list acc) (own' mc)) (wipeE env1 vs)
def tvLc (mc : M) (ti : TVI) (g : TVG) (tt : TVT) (te : TVE) (vs : List Nat) (env : VEnv) (Q : Item → VEnv → Prop) : Prop := ti env fun ds env1 => lcP mc g tt te vs ds env1 Q
theorem datsL_same {mc : M} : ∀ acc : List PyData, datsL (acc.map fun d => Item.dat d mc) = some acc
  | [] => rfl
  | d :: acc => by simp only [List.map_cons, datsL, datD, datsL_same acc]
section
variable {X : Cx} {elt tg iter : Expr} {ifs : List Expr} {scope : Scope} {own : List (Str × Nat)} {pos : Pos} {ti : TVI} {g : TVG} {tt : TVT} {te : TVE} {mc : M} {S : List Nat}
theorem len_of {vs : List V} {acc : List PyData} {mc : M} (h : vs.length = acc.length) : vs.length = (acc.map fun d => Item.dat d mc).length := by rw [h, List.length_map]
theorem lc_ok {K : PySem.W.Frag} {vs : List Nat} (hS : ∀ s ∈ S, s ∈ vs) (hi : ∀ env Q Q', (∀ ds env', Q ds env' → Q' ds env') → ti env Q → ti env Q') (hg : MonoG g) (ht : MonoT tt) (he : MonoE te) {σ : St} {H : Hp} {Q : VK} (h : liftE K (tvLc mc ti g tt te vs) σ H Q) :
    tLc (liftI K ti) (liftG K S g) (liftT K tt) (liftE K te) vs σ H Q := by
  obtain ⟨C, env, fr, er, q⟩ := h
  refine ⟨C, env, fr, er, hi _ _ _ (fun ds env1 q J anch H1 io er1 D hD => ?_) q⟩
  obtain ⟨P, p0, turn, fin⟩ := q
  obtain ⟨er2, c0, cb, cL⟩ := er1.reserve (o := .lst []) hD
  refine ⟨fun i m H => m = ds.length - i ∧ i ≤ ds.length ∧ ∃ acc avs, P i acc ∧ avs.length = acc.length ∧ ER K (C.res D (.lst avs)) (L2.wipe σ vs) H (wipeE env1 vs) (anch ++ ((avs.zip (acc.map fun d => Item.dat d mc)).reverse ++ fr)),
    ⟨_, rfl, Nat.zero_le _, [], [], p0, rfl, er2.wipe vs⟩, ?_⟩
  rintro i m H2 ⟨rfl, hle, acc, avs, pi, hal, er3⟩
  by_cases hlt : i < ds.length
  · refine .inr ?_
    obtain ⟨go, yl⟩ := io.go _ _ H2 _ _ i ds[i] er3 (List.getElem?_eq_getElem hlt)
    refine ⟨go, fun H' => ∃ acc avs, P (i + 1) acc ∧ avs.length = acc.length ∧ ER K (C.res D (.lst avs)) (L2.wipe σ vs) H' (wipeE env1 vs) (anch ++ ((avs.zip (acc.map fun d => Item.dat d mc)).reverse ++ fr)),
      fun H' ⟨acc, avs, p, hl, e⟩ => ⟨ds.length - (i + 1), by omega, rfl, hlt, acc, avs, p, hl, e⟩, fun x H3 hy => ?_⟩
    refine ⟨_, wipeE env1 vs, elI ds[i], _, yl x H3 hy, hg _ _ _ _ (fun env2 q2 σ2 H4 kp er4 => ?_) (turn i ds[i] acc (List.getElem?_eq_getElem hlt) pi)⟩
    have hw : L2.wipe σ2 vs = L2.wipe σ vs := by
      rw [kp vs hS]
      have idem : ∀ us ws : List Nat, (∀ u ∈ us, u ∈ ws) → L2.wipe (L2.wipe σ us) ws = L2.wipe σ ws := by
        intro us
        induction us with
        | nil => intro ws _; rfl
        | cons u us ih =>
          intro ws hu
          rw [show L2.wipe σ (u :: us) = (L2.wipe σ us).set u none from rfl, wipe_set (hu u List.mem_cons_self)]
          exact ih ws fun q hq => hu q (List.mem_cons_of_mem _ hq)
      exact idem vs vs fun _ h => h
    refine ⟨hw, _, env2, _, er4, ht _ _ _ (fun b env3 q3 H5 er5 => ?_) q2⟩
    cases b with
    | true =>
      refine ⟨_, env3, _, er5, he _ _ _ (fun it env4 q4 y H6 er6 => ?_) q3⟩
      split at q4
      · rename_i d' hd'
        obtain ⟨it', h1, h2⟩ := Option.bind_eq_some_iff.mp hd'
        have er7 := (er6.nrm h1).fit h2
        refine ⟨avs, ER.resGet er7 cL, by rw [hal]; exact q4.1, acc ++ [d'], avs ++ [y], q4.2.2, by simp [hal], ?_⟩
        have er8 := (ER.resSet er7 cb cL (.lst (avs ++ [y]))).wipe vs
        rw [hw, q4.2.1] at er8
        have er9 := ER.swapF (f1 := [(y, Item.dat d' mc)]) er8
        have ez : ((avs ++ [y]).zip ((acc ++ [d']).map fun d => Item.dat d mc)).reverse ++ fr = [(y, Item.dat d' mc)] ++ ((avs.zip (acc.map fun d => Item.dat d mc)).reverse ++ fr) := by
          rw [List.map_append, List.zip_append (len_of hal), List.reverse_append]
          rfl
        rw [ez]
        exact er9
      · exact q4.elim
    | false =>
      refine ⟨acc, avs, q3.2, hal, ?_⟩
      have er6 := er5.wipe vs
      rw [hw, q3.1] at er6
      exact er6
  · have e : i = ds.length := by omega
    subst e
    refine .inl ⟨io.stop _ _ H2 _ _ _ er3 (Nat.le_refl _), ?_⟩
    have er4 := er3.pop
    have er5 := ER.release (c := mc) er4 c0 cb cL (len_of hal) (datsL_same acc) (fun it hit => by
      obtain ⟨d, _, rfl⟩ := List.mem_map.mp hit
      rfl)
    exact fin acc pi _ _ er5.unwipe
theorem monoLc {vs : List Nat} (hi : ∀ env Q Q', (∀ ds env', Q ds env' → Q' ds env') → ti env Q → ti env Q') : MonoE (tvLc mc ti g tt te vs) := fun env Q Q' h q => hi _ _ _ (fun ds env1 ⟨P, p0, turn, fin⟩ => ⟨P, p0, turn, fun acc p => h _ _ (fin acc p)⟩) q
theorem ve_lc (mc : M) (hc : X.calm = true) (hN : X.N.Nodup) (hi : VI X tg iter ti) (ok : BlkOk X.N X.env.scope scope own) (hS : ∀ s ∈ S, s ∈ own.map (·.2))
    (hg : ∀ (s : Shared) (H : Hp) (C : Addr) (cl : List (Str × Addr)) (fp : List Addr), VG (X.blk s H scope (compEnvC scope cl C X.env) fp) tg S g) (ht : ∀ (s : Shared) (H : Hp) (C : Addr) (cl : List (Str × Addr)) (fp : List Addr), VTs (X.blk s H scope (compEnvC scope cl C X.env) fp) ifs tt)
    (he : ∀ (s : Shared) (H : Hp) (C : Addr) (cl : List (Str × Addr)) (fp : List Addr), VE (X.blk s H scope (compEnvC scope cl C X.env) fp) elt te) (hs : ∀ x, foldedSetIterable iter X.env x = pure x := by intro _; rfl) :
    VE X (.ListComp elt [⟨tg, iter, ifs, 0⟩] scope pos) (tvLc mc ti g tt te (own.map (·.2))) :=
  ⟨⟨fun pins s0 σ H Q I q => (pe_lc hc hN hi.pi ok (fun s H C cl fp => (hg s H C cl fp).pg) (fun s H C cl fp => (ht s H C cl fp).pt) (fun s H C cl fp => (he s H C cl fp).pe) hs).run pins s0 σ H Q I
    (lc_ok hS hi.mono (hg s0 H 0 [] []).mono (ht s0 H 0 [] []).mono (he s0 H 0 [] []).mono q)⟩, monoLc hi.mono⟩
theorem vs_setLc (mc : M) {i : Nat} {y : Str} {py : Pos} {spos : Pos} (hc : X.calm = true) (hN : X.N.Nodup) (hy : X.N[i]? = some y) (hyl : X.env.scope.names.lookup y = some .local)
    (hsw : swapsWith (.ListComp elt [⟨tg, iter, ifs, 0⟩] scope pos) (some (.Name y py)) spos.line X.env = pure true) (hi : VI X tg iter ti) (ok : BlkOk X.N X.env.scope scope own) (hS : ∀ s ∈ S, s ∈ own.map (·.2))
    (hg : ∀ (s : Shared) (H : Hp) (C : Addr) (cl : List (Str × Addr)) (fp : List Addr), VG (X.blk s H scope (compEnvC scope cl C X.env) fp) tg S g) (ht : ∀ (s : Shared) (H : Hp) (C : Addr) (cl : List (Str × Addr)) (fp : List Addr), VTs (X.blk s H scope (compEnvC scope cl C X.env) fp) ifs tt)
    (he : ∀ (s : Shared) (H : Hp) (C : Addr) (cl : List (Str × Addr)) (fp : List Addr), VE (X.blk s H scope (compEnvC scope cl C X.env) fp) elt te) (hs : ∀ x, foldedSetIterable iter X.env x = pure x := by intro _; rfl) :
    VS X (.Assign [.Name y py] (.ListComp elt [⟨tg, iter, ifs, 0⟩] scope pos) spos) (tvSet i (tvLc mc ti g tt te (own.map (·.2)))) :=
  ⟨⟨fun pins s0 σ H D I ⟨C, env, fr, er, fx, q⟩ => (ps_setLc hc hN hy hyl hsw hi.pi ok (fun s H C cl fp => (hg s H C cl fp).pg) (fun s H C cl fp => (ht s H C cl fp).pt) (fun s H C cl fp => (he s H C cl fp).pe) hs).run pins s0 σ H D I
    (lc_ok hS hi.mono (hg s0 H 0 [] []).mono (ht s0 H 0 [] []).mono (he s0 H 0 [] []).mono ⟨C, env, fr, er, monoLc hi.mono _ _ _ (fun it env1 q v H' er' => by
      split at q
      · rename_i it' o hn ho
        exact q _ _ ((er'.nrm hn).store (List.getElem?_eq_some_iff.mp ho).1 (nrm_fix hn))
      · exact q.elim) q⟩)⟩,
    fun env D D' h q => monoLc hi.mono _ _ _ (fun it env1 q => by
      split at q
      · exact h.nx _ q
      · exact q) q⟩
end
end VL

namespace VL
open PySem PySem.Spec PyProof.Rows L2

/-! ### short words -/
section
variable {X : Cx}
theorem vv (i : Nat) {x : Str} {pos : Pos} (hN : X.N[i]? = some x := by rfl) (hv : Vis X.env.scope x := by first | exact Or.inl rfl | exact Or.inr (Or.inl rfl) | exact Or.inr (Or.inr rfl)) (hd : (x == ("__debug__" : Str)) = false := by decide)
    (hcd : (x == ("__classdict__" : Str)) = false := by decide) : VE X (.Name x pos) (tvV i) := ve_var (pe_var hN hv hd hcd)
theorem vmv (i : Nat) {x : Str} {pos : Pos} (hN : X.N[i]? = some x := by rfl) (hv : Vis X.env.scope x := by first | exact Or.inl rfl | exact Or.inr (Or.inl rfl) | exact Or.inr (Or.inr rfl)) (hd : (x == ("__debug__" : Str)) = false := by decide)
    (hcd : (x == ("__classdict__" : Str)) = false := by decide) : VE X (.Name x pos) (tvMv i) := ve_mv (pe_var hN hv hd hcd)
theorem vtk (i : Nat) {x : Str} {pos : Pos} (hN : X.N[i]? = some x := by rfl) (hv : Vis X.env.scope x := by first | exact Or.inl rfl | exact Or.inr (Or.inl rfl) | exact Or.inr (Or.inr rfl)) (hd : (x == ("__debug__" : Str)) = false := by decide)
    (hcd : (x == ("__classdict__" : Str)) = false := by decide) : VE X (.Name x pos) (tvTk i) := ve_tk (pe_var hN hv hd hcd)
/-- a module's number -/
theorem ve_gint {x : Str} {i : Int} {t : Tok} {pos : Pos} (hg : Gl X x) (hm : X.mg x = some (.int i t)) (hd : (x == ("__debug__" : Str)) = false := by decide) : VE X (.Name x pos) (tvC (.int i)) :=
  ⟨PEweak (pe_glob (v := .int i) hg hm ⟨t, rfl⟩ hd) fun σ H Q ⟨C, env, fr, er, q⟩ => q _ _ (er.push fun _ => .dat (.int i)), monoC _⟩
variable {e : Expr} {te : TVE} {pos : Pos}
def tvNeg (te : TVE) (env : VEnv) (Q : Item → VEnv → Prop) : Prop := te env fun it env1 => match it.data with
  | some (.int i) => Q (.dat (.int (-i)) .A) env1
  | _ => False
theorem ve_neg (he : VE X e te) : VE X (.UnaryOp .USub e pos) (tvNeg te) :=
  ⟨PEweak (pe_un un_neg he.pe) fun σ H Q ⟨C, env, fr, er, q⟩ => ⟨C, env, fr, er, he.mono _ _ _ (fun it env1 q v H1 er1 => by
      split at q
      · rename_i i hi
        obtain ⟨G, Fa, r, _⟩ := er1.peek1
        exact ⟨i, r.int hi, q _ _ (er1.plain1 (.int _))⟩
      · exact q.elim) q⟩, fun env Q Q' h q => he.mono _ _ _ (fun it env1 q => by
      split at q
      · exact h _ _ q
      · exact q) q⟩
/-- x += e, x -= e on ints -/
def tvAug (i : Nat) (f : Int → Int → Int) (te : TVE) (D : VEnds) (env : VEnv) : Prop := match env[i]? with
  | some (some it0) => match it0.data with
    | some (.int a) => te env fun it env1 => match it.data, env1[i]? with
      | some (.int b), some _ => D.nx (env1.set i (some (.dat (.int (f a b)) .A)))
      | _, _ => False
    | _ => False
  | _ => False
theorem aug_ok {f : Int → Int → Int} {i : Nat} (hm : MonoE te) {K : PySem.W.Frag} {D : Ends} {σ : St} {H : Hp} (h : liftS K (tvAug i f te) D σ H) : L2.tAug i (liftE K te) (ipI f) D σ H := by
  obtain ⟨C, env, fr, er, fx, q⟩ := h
  unfold tvAug at q
  split at q
  · rename_i it0 hi
    split at q
    · rename_i a ha
      obtain ⟨v, hv, er1⟩ := er.view hi
      obtain ⟨G, Fa, r, _⟩ := er1.peek1
      have hv' : v = .int a := by
        refine r.int ?_
        cases it0 with
        | dat d m => cases ha; rfl
        | vw d m => cases ha; rfl
        | ro d => cases ha; rfl
        | _ => cases ha
      subst hv'
      refine ⟨_, hv, C, env, fr, er, hm _ _ _ (fun it env1 q y H1 er1 => ?_) q⟩
      split at q
      · rename_i b o hb ho
        obtain ⟨G, Fa, r, _⟩ := er1.peek1
        refine ⟨a, b, rfl, r.int hb, ?_⟩
        exact q _ _ ((er1.plain1 (v := .int (f a b)) (d := .int (f a b)) (m := .A) (.int _)).store (List.getElem?_eq_some_iff.mp ho).1 trivial)
      · exact q.elim
    · exact q.elim
  · exact q.elim
theorem monoAug {f : Int → Int → Int} {i : Nat} (hm : MonoE te) : MonoS (tvAug i f te) := fun env D D' h q => by
  unfold tvAug at q ⊢
  split at q
  · split at q
    · refine hm _ _ _ (fun it env1 q => ?_) q
      split at q
      · exact h.nx _ q
      · exact q
    · exact q
  · exact q
theorem vs_augAdd {i : Nat} {x : Str} {pos' : Pos} (hN : X.N.Nodup) (hi : X.N[i]? = some x) (hx : L2.Loc X.env.scope x) (he : VE X e te) (hf : X.fn x = true ∨ X.env.scope.names.lookup x = some .local := by first | exact .inl rfl | exact .inr rfl | assumption) :
    VS X (.AugAssign (.Name x pos') .Add e pos) (tvAug i (fun a b => a + b) te) := ⟨PSweak (ps_aug hN hi hx he.pe ip_add hf) fun _ _ _ h => aug_ok he.mono h, monoAug he.mono⟩
theorem vs_augSub {i : Nat} {x : Str} {pos' : Pos} (hN : X.N.Nodup) (hi : X.N[i]? = some x) (hx : L2.Loc X.env.scope x) (he : VE X e te) (hf : X.fn x = true ∨ X.env.scope.names.lookup x = some .local := by first | exact .inl rfl | exact .inr rfl | assumption) :
    VS X (.AugAssign (.Name x pos') .Sub e pos) (tvAug i (fun a b => a - b) te) := ⟨PSweak (ps_aug hN hi hx he.pe ip_sub hf) fun _ _ _ h => aug_ok he.mono h, monoAug he.mono⟩
end

/-! ### defs, by name -/
/-- a def that stands at the top -/
structure FD (K : PySem.W.Frag) (mg : Str → Option Value) (nm : Str) (st : Stmt) (ps : List Str) : Prop where
  ex : ∃ f fd, Fun K nm nm st f fd ∧ mg nm = some (.ref f) ∧ Binds K fd ps []
/-- .. with its promise -/
structure Cal (P : Program) (w : World) (K : PySem.W.Frag) (mg : Str → Option Value) (base : Heap) (nm : Str) (ps : List Str) (k : Nat) (sp : VSp) : Prop where
  ex : ∃ f fd, FnOk P w K mg base CX0 k f fd ps (liftF K sp) ∧ mg nm = some (.ref f) ∧ PySem.W.keepIn K (.ref f) = true ∧ Binds K fd ps []
  mono : MonoSp sp
section
variable {P : Program} {w : World} {K : PySem.W.Frag} {mg : Str → Option Value} {base : Heap}
theorem vdef {nm : Str} {st : Stmt} {N ps : List Str} {k : Nat} {sp : VSp} (F : FD K mg nm st ps) (S : FnScope N ps (defScope st)) (hm : MonoSp sp) (hl : ∀ its Q, sp its Q → its.length = ps.length)
    (hbody : ∀ (f : Addr) (cdv : Value) (A : Around) (outer : List Env) (s : Shared) (H : Hp) (E : XK), Room k (A.deeper (envOfC nm (defScope st) s.heap.objs.size f cdv)) →
      ∃ t, VSs (cxOf CX0 P w K mg base N nm (defScope st) f cdv A outer s H E).nox (defBody st) t ∧ ∀ its Q, sp its Q → t { nx := fun _ => Q (.dat .none .A), rt := Q } (entry its N.length)) : Cal P w K mg base nm ps (k + 1) sp := by
  obtain ⟨f, fd, F, hmg, hb⟩ := F.ex
  exact ⟨⟨f, fd, vfn F S hl (hbody f), hmg, F.kp, hb⟩, hm⟩
end
section
variable {X : Cx} {k : Nat} {ps : List Str} {sp : VSp} {x : Str} {p pos : Pos} {e : Expr} {es : List Expr} {t : TVA}
theorem vcall (c : Cal X.prog X.w X.K X.mg X.base x ps k sp) (hr : Room k X.A) (hg : Gl X x) (ha : VA X (e :: es) t) (hdb : (x == ("__debug__" : Str)) = false := by decide) (he : starEach (e :: es) X.env = (false, eval e X.env) :: starEach es X.env := by rfl) (hpl : (backTo pos (starEach es X.env)).any (·.1) = false := by rfl) :
    VE X (.Call (.Name x p) (e :: es) [] pos) (tvCall sp t) := by
  obtain ⟨f, fd, F, hmg, hk, hb⟩ := c.ex
  exact ve_call c.mono F hr hg hmg hk hb ha hdb he hpl
end
end VL

namespace VL
open PySem PySem.Spec PyProof.Rows L2
theorem hu64 {k : Nat} {A : Around} (hr : Room k A) : A.units + 64 < cLine := hr.units
theorem hu65 {k : Nat} {A : Around} (hr : Room k A) : A.units + 65 < cLine := by have := hr.un; omega
/-- a call whose answer is the caller's own -/
theorem callI_any {sp : VSp} (hm : MonoSp sp) {its : List Item} {Q : Item → Prop} (q : sp (its.map argI) fun r => (∃ d, r = .dat d .A) ∧ Q r) : callI sp its Q := by
  unfold callI
  split
  · exact hm _ _ _ (fun r h => h.2) q
  · exact q
theorem callI_st {sp : VSp} {its : List Item} {Q : Item → Prop} (h : its.all stableI = true) (q : sp (its.map argI) Q) : callI sp its Q := by
  unfold callI
  rw [if_pos h]
  exact q
theorem forP_ind {g : TVG} {tb : TVS} {D : VEnds} {ds : List PyData} {env1 : VEnv} (P : Nat → VEnv → Prop) (h0 : P 0 env1)
    (hs : ∀ i d env, ds[i]? = some d → P i env → g (elI d) env fun env2 => tb { D with nx := P (i + 1), ct := P (i + 1), bk := D.nx } env2) (hd : ∀ env, P ds.length env → D.nx env) : forP g tb D ds env1 := ⟨P, h0, hs, hd⟩
/-- an element of a comprehension: kept or not -/
theorem lcP_fm {mc : M} {g : TVG} {tt : TVT} {te : TVE} {vs : List Nat} {ds : List PyData} {env1 : VEnv} {Q : Item → VEnv → Prop} (f : PyData → Option PyData) (hl : ds.length ≤ sizeLine)
    (hs : ∀ d ∈ ds, ∀ (acc : List PyData) (P : List PyData → Prop), acc.length < sizeLine → (∀ d', f d = some d' → P (acc ++ [d'])) → (f d = none → P acc) → g (elI d) (wipeE env1 vs) fun env2 => tt env2 fun b env3 => if b = true then te env3 fun it env4 => (match (nrm it).bind (fitC mc) with
      | some d' => acc.length < sizeLine ∧ wipeE env4 vs = wipeE env1 vs ∧ P (acc ++ [d'])
      | none => False) else wipeE env3 vs = wipeE env1 vs ∧ P acc)
    (hd : Q (.dat (.list (ds.filterMap f)) (own' mc)) (wipeE env1 vs)) : lcP mc g tt te vs ds env1 Q := by
  refine ⟨fun i acc => acc = (ds.take i).filterMap f, rfl, fun i d acc hi e => ?_, fun acc e => ?_⟩
  · have hlt : i < ds.length := (List.getElem?_eq_some_iff.mp hi).1
    have hta : ds.take (i + 1) = ds.take i ++ [d] := by rw [List.take_add_one, hi]; rfl
    subst e
    refine hs d (List.mem_of_getElem? hi) _ (fun acc' => acc' = (ds.take (i + 1)).filterMap f) ?_ (fun d' h => ?_) fun h => ?_
    · refine Nat.lt_of_le_of_lt (List.length_filterMap_le _ _) ?_
      rw [List.length_take]
      omega
    · rw [hta, List.filterMap_append, List.filterMap_cons, h]
      rfl
    · rw [hta, List.filterMap_append, List.filterMap_cons, h]
      simp
  · rw [e, List.take_length]
    exact hd
end VL
namespace VL
open PySem PySem.Spec PyProof.Rows L2
section
variable {i : Int} {b : Bool} {x : Str} {l : List PyData} {kd : List (PyData × PyData)} {m : M} {d : PyData}
theorem scD_non : scalarD .none = true := rfl
theorem scD_bool : scalarD (.bool b) = true := rfl
theorem scD_int : scalarD (.int i) = true := rfl
theorem scD_str : scalarD (.str x) = true := rfl
theorem scD_list : scalarD (.list l) = false := rfl
theorem scD_tup : scalarD (.tuple l) = false := rfl
theorem scD_dict : scalarD (.dict kd) = false := rfl
theorem el_non : elI .none = .dat .none .A := rfl
theorem el_bool : elI (.bool b) = .dat (.bool b) .A := rfl
theorem el_int : elI (.int i) = .dat (.int i) .A := rfl
theorem el_str : elI (.str x) = .dat (.str x) .A := rfl
theorem el_list : elI (.list l) = .dat (.list l) .sh := rfl
theorem el_tup : elI (.tuple l) = .dat (.tuple l) .sh := rfl
theorem el_dict : elI (.dict kd) = .dat (.dict kd) .sh := rfl
theorem el_data : (elI d).data = some d := rfl
theorem el_view : (elI d).view = elI d := by
  unfold elI
  cases d <;> rfl
theorem el_nrm : nrm (elI d) = some (elI d) := by
  unfold elI
  cases d <;> rfl
theorem el_out : outI (elI d) = elI d := by
  unfold elI
  cases d <;> rfl
theorem el_arg : argI (elI d) = elI d := rfl
theorem el_stable : stableI (elI d) = true := rfl
theorem arg_dat : argI (.dat d m) = elI d := rfl
theorem arg_vw : argI (.vw d m) = elI d := rfl
theorem arg_ro : argI (.ro d) = .ro d := rfl
theorem view_sh : Item.view (.dat d .sh) = elI d := by
  unfold elI
  cases d <;> rfl
theorem view_int : Item.view (.dat (.int i) m) = .dat (.int i) .A := rfl
theorem view_bool : Item.view (.dat (.bool b) m) = .dat (.bool b) .A := rfl
theorem view_str : Item.view (.dat (.str x) m) = .dat (.str x) .A := rfl
theorem view_non : Item.view (.dat .none m) = .dat .none .A := rfl
theorem view_listA : Item.view (.dat (.list l) .A) = .vw (.list l) .A := rfl
theorem view_listZ : Item.view (.dat (.list l) .Z) = .vw (.list l) .Z := rfl
theorem view_listO : Item.view (.dat (.list l) (.own m)) = .vw (.list l) (.own m) := rfl
theorem view_listF : Item.view (.dat (.list l) (.fz m)) = .vw (.list l) (.fz m) := rfl
theorem view_tupA : Item.view (.dat (.tuple l) .A) = .vw (.tuple l) .A := rfl
theorem view_tupZ : Item.view (.dat (.tuple l) .Z) = .vw (.tuple l) .Z := rfl
theorem view_tupO : Item.view (.dat (.tuple l) (.own m)) = .vw (.tuple l) (.own m) := rfl
theorem view_tupF : Item.view (.dat (.tuple l) (.fz m)) = .vw (.tuple l) (.fz m) := rfl
theorem view_dictA : Item.view (.dat (.dict kd) .A) = .vw (.dict kd) .A := rfl
theorem view_dictO : Item.view (.dat (.dict kd) (.own m)) = .vw (.dict kd) (.own m) := rfl
theorem view_ro : Item.view (.ro d) = .ro d := rfl
theorem nrm_sh : nrm (.dat d .sh) = some (elI d) := by
  unfold elI
  cases d <;> rfl
theorem nrm_int : nrm (.dat (.int i) m) = some (.dat (.int i) .A) := rfl
theorem nrm_bool : nrm (.dat (.bool b) m) = some (.dat (.bool b) .A) := rfl
theorem nrm_str : nrm (.dat (.str x) m) = some (.dat (.str x) .A) := rfl
theorem nrm_non : nrm (.dat .none m) = some (.dat .none .A) := rfl
theorem nrm_list : nrm (.dat (.list l) m) = some (.dat (.list l) m) := rfl
theorem nrm_tup : nrm (.dat (.tuple l) m) = some (.dat (.tuple l) m) := rfl
theorem nrm_dict : nrm (.dat (.dict kd) m) = some (.dat (.dict kd) m) := rfl
theorem nrm_vint : nrm (.vw (.int i) m) = some (.dat (.int i) .A) := rfl
theorem nrm_vbool : nrm (.vw (.bool b) m) = some (.dat (.bool b) .A) := rfl
theorem nrm_vnon : nrm (.vw .none m) = some (.dat .none .A) := rfl
theorem nrm_vstr : nrm (.vw (.str x) m) = some (.dat (.str x) .A) := rfl
theorem nrm_vlist : nrm (.vw (.list l) m) = if m.still then some (.dat (.list l) .sh) else none := rfl
theorem nrm_vtup : nrm (.vw (.tuple l) m) = if m.still then some (.dat (.tuple l) .sh) else none := rfl
theorem nrm_vdict : nrm (.vw (.dict kd) m) = if m.still then some (.dat (.dict kd) .sh) else none := rfl
theorem nrm_roint : nrm (.ro (.int i)) = some (.dat (.int i) .A) := rfl
theorem nrm_rolist : nrm (.ro (.list l)) = some (.ro (.list l)) := rfl
theorem out_dat : outI (.dat d m) = .dat d (if m.solid then .A else .sh) := rfl
theorem out_ro : outI (.ro d) = .ro d := rfl
theorem map_el (ds : List PyData) : (ds.map elI).map argI = ds.map elI := by rw [List.map_map]; rfl
theorem sc_ints (ns : List Int) : (ns.map PyData.int).all scalarD = true := by
  rw [List.all_map, List.all_eq_true]
  intro _ _
  rfl
theorem atI_ofNat {α : Type} (xs : List α) (k : Nat) : atI xs (k : Int) = xs[k]? := by
  unfold atI ixN
  rw [if_pos (Int.natCast_nonneg k)]
  by_cases h : k < xs.length
  · rw [if_pos (by omega)]
    rfl
  · rw [if_neg (by omega), List.getElem?_eq_none (by omega)]
    rfl
theorem atI_0 {α : Type} (xs : List α) : atI xs 0 = xs[0]? := atI_ofNat xs 0
theorem atI_1 {α : Type} (xs : List α) : atI xs 1 = xs[1]? := atI_ofNat xs 1
theorem atI_2 {α : Type} (xs : List α) : atI xs 2 = xs[2]? := atI_ofNat xs 2
theorem atI_m1 {α : Type} (xs : List α) : atI xs (-1) = xs[xs.length - 1]? := by
  unfold atI ixN
  cases xs with
  | nil => rfl
  | cons x xs =>
    rw [if_neg (by decide), if_pos (by simp; omega)]
    show (x :: xs)[(-1 + ((x :: xs).length : Int)).toNat]? = _
    congr 1
    simp only [List.length_cons]
    omega
end
end VL
namespace VL
open PySem PySem.Spec PyProof.Rows L2
theorem data_dat {d : PyData} {m : M} : (Item.dat d m).data = some d := rfl
theorem data_vw {d : PyData} {m : M} : (Item.vw d m).data = some d := rfl
theorem data_ro {d : PyData} : (Item.ro d).data = some d := rfl
theorem el_roOk {d : PyData} {ds : List PyData} : roOk (elI d) ds = True := rfl
theorem el_datD {d : PyData} : datD (elI d) = some d := rfl
theorem stab_dat {d : PyData} {m : M} : stableI (.dat d m) = true := rfl
theorem stab_vw {d : PyData} {m : M} : stableI (.vw d m) = (m.still || scalarD d) := rfl
theorem stab_ro {d : PyData} : stableI (.ro d) = true := rfl
theorem roOk_dat {d : PyData} {m : M} {ds : List PyData} : roOk (.dat d m) ds = True := rfl
theorem roOk_vw {d : PyData} {m : M} {ds : List PyData} : roOk (.vw d m) ds = True := rfl
theorem roOk_ro {d : PyData} {ds : List PyData} : roOk (.ro d) ds = (ds.all scalarD = true) := rfl
theorem foldlM_take {S α : Type} (f : S → α → Option S) (s0 : S) (xs : List α) (i : Nat) (x : α) (hx : xs[i]? = some x) : (xs.take (i + 1)).foldlM f s0 = ((xs.take i).foldlM f s0).bind fun s => f s x := by
  rw [List.take_add_one, hx]
  simp only [Option.toList_some, List.foldlM_append, List.foldlM_cons, List.foldlM_nil]
  cases (xs.take i).foldlM f s0 with
  | none => rfl
  | some s => simp
theorem foldlM_none {S α : Type} (f : S → α → Option S) (s0 : S) (xs : List α) (i : Nat) (h : (xs.take i).foldlM f s0 = none) : xs.foldlM f s0 = none := by
  rw [← List.take_append_drop i xs, List.foldlM_append, h]
  rfl
/-- a loop that goes on by f, or leaves -/
theorem forP_opt {S : Type} {g : TVG} {tb : TVS} {D : VEnds} {ds : List PyData} {env1 : VEnv} (f : S → PyData → Option S) (enc : S → VEnv → Prop) (s0 : S) (h0 : enc s0 env1)
    (hs : ∀ d ∈ ds, ∀ s env (P : VEnv → Prop), enc s env → (f s d = none → ds.foldlM f s0 = none) → (∀ s' e, f s d = some s' → enc s' e → P e) → g (elI d) env fun env2 => tb { D with nx := P, ct := P, bk := D.nx } env2)
    (hd : ∀ s env, ds.foldlM f s0 = some s → enc s env → D.nx env) : forP g tb D ds env1 := by
  refine forP_ind (fun i env => ∃ s, (ds.take i).foldlM f s0 = some s ∧ enc s env) ⟨s0, rfl, h0⟩ (fun i d env hi ⟨s, h1, h2⟩ => ?_) fun env ⟨s, h1, h2⟩ => ?_
  · refine hs d (List.mem_of_getElem? hi) s env _ h2 (fun h3 => ?_) fun s' e h3 h4 => ⟨s', by rw [foldlM_take f s0 ds i d hi, h1]; exact h3, h4⟩
    refine foldlM_none f s0 ds (i + 1) ?_
    rw [foldlM_take f s0 ds i d hi, h1]
    exact h3
  · rw [List.take_length] at h1
    exact hd s env h1 h2
/-- a loop that goes on by f -/
theorem forP_fold {S : Type} {g : TVG} {tb : TVS} {D : VEnds} {ds : List PyData} {env1 : VEnv} (f : S → PyData → S) (enc : S → VEnv → Prop) (s0 : S) (h0 : enc s0 env1)
    (hs : ∀ i d s env, ds[i]? = some d → s = (ds.take i).foldl f s0 → enc s env → g (elI d) env fun env2 => tb { D with nx := enc (f s d), ct := enc (f s d), bk := D.nx } env2)
    (hd : ∀ env, enc (ds.foldl f s0) env → D.nx env) : forP g tb D ds env1 := by
  refine forP_ind (fun i env => enc ((ds.take i).foldl f s0) env) h0 (fun i d env hi h2 => ?_) fun env h1 => ?_
  · have e : (ds.take (i + 1)).foldl f s0 = f ((ds.take i).foldl f s0) d := by
      rw [List.take_add_one, hi]
      simp
    have := hs i d _ env hi rfl h2
    rw [← e] at this
    exact this
  · rw [List.take_length] at h1
    exact hd env h1
/-- over a list of things told by f: by their places -/
theorem forP_map {α : Type} {g : TVG} {tb : TVS} {D : VEnds} {enc0 : α → PyData} {xs : List α} {env1 : VEnv} (P : Nat → VEnv → Prop) (h0 : P 0 env1)
    (hs : ∀ i (h : i < xs.length) env, P i env → g (elI (enc0 xs[i])) env fun env2 => tb { D with nx := P (i + 1), ct := P (i + 1), bk := D.nx } env2) (hd : ∀ env, P xs.length env → D.nx env) : forP g tb D (xs.map enc0) env1 := by
  refine forP_ind P h0 (fun i d env hi hP => ?_) fun env hP => hd env (by rw [List.length_map] at hP; exact hP)
  rw [List.getElem?_map] at hi
  obtain ⟨x, hx, rfl⟩ := Option.map_eq_some_iff.mp hi
  obtain ⟨h1, h2⟩ := List.getElem?_eq_some_iff.mp hx
  subst h2
  exact hs i h1 env hP
end VL

namespace VL
open PySem PySem.Spec PyProof.Rows L2
/-! ### sum(rows, []): at the library's level, then by values -/
theorem args_sum2 (a b : Value) : argsOk "sum" ⟨[a, b], []⟩ := by unfold argsOk; kernel_rfl
section
variable {prog : Program} {w : World} {A : Around} {E : Value → Shared → Prop} {s : Shared}
theorem add_two {l b : Addr} {xs ys : Array Value} {Q : Value → Shared → Prop} (hl : s.heap.IsList l xs) (hb : s.heap.IsList b ys) (hsz : xs.size + ys.size ≤ sizeLine)
    (h : Q (.ref s.heap.objs.size) { s with heap := s.heap.push { cls := .type "list", data := .seq (xs ++ ys) } }) : wpAny (model prog w) A (binaryOp .Add (.ref l) (.ref b)) Q E s := by
  obtain ⟨⟨c1, d1, x1, s1⟩, o1, k1, n1, e1⟩ := id hl
  obtain ⟨⟨c2, d2, x2, s2⟩, o2, k2, n2, e2⟩ := id hb
  simp only at k1 e1 k2 e2
  subst k1 e1 k2 e2
  exact concat_meets ⟨_, o1, rfl⟩ ⟨_, o2, rfl⟩ noFill_list_add seq_list_add PySem.F.slot_list_add PySem.F.entry_list_add (PySem.F.args_list_add_2 _ _) (list_addW l b xs ys n1 n2 d1 d2 s1 s2 hsz) ⟨o1, o2, h⟩
end
section
variable {prog : Program} {w : World} {A : Around} {R : Result → Shared → Prop} {I : Addr} {fp wr : List Addr} {n : Nat} {P : Nat → Value → Prop} {St : Nat → Heap → Prop}
theorem codeAny_sum_lists (W : Walks prog w A.in1 I fp wr n P St) (rows : Nat → Array Value) (acc : Nat → Array Value) (hacc : ∀ i, i < n → acc (i + 1) = acc i ++ rows i) (hsz : ∀ i, i ≤ n → (acc i).size ≤ sizeLine)
    (h0 : Heap) (S : Addr) (hSf : S ∉ fp) (hS0 : h0.objs.size ≤ S + 1) (hfpl : ∀ b ∈ S :: fp, b < h0.objs.size) (hval : ∀ i v, i < n → P i v → ∃ y, v = .ref y ∧ y ∉ S :: wr ∧ h0.IsList y (rows i)) :
    ∀ (k i : Nat) (s : Shared) (t : Addr) (c c2 : Nat), n - i = k → i ≤ n → St i s.heap → h0.objs.size ≤ s.heap.objs.size → (∀ b o, b ∉ S :: wr → h0.get? b = some o → s.heap.get? b = some o) → t ∉ S :: wr → IsL s.heap t (acc i) c2 →
    s.heap.get? S = some { cls := .type "list", dict := none, data := .seq #[.ref t] c, slots := #[] } →
    (∀ h' tk t' m, (∀ b o, b ∉ S :: wr → s.heap.get? b = some o → h'.get? b = some o) → (i = n → t' = t) → (i < n → h0.objs.size ≤ t') → IsL h' t' (acc n) m → R (.ok (.ret (.ref t'))) { s with heap := h', toks := tk }) →
    codeAny (model prog w) A (.builtin "sum.loop" ⟨[.ref I, .ref S, rawInt 2, rawInt 0], []⟩) R s := by
  have hSw : S ∉ wr := fun h => hSf (W.sub _ h)
  intro k
  induction k with
  | zero =>
    intro i s t c c2 hk hi hst hgr hold htf ht hS hR
    have hin : i = n := by omega
    subst hin
    refine codeAny_builtin F.entry_sum_loop ?_
    rw [Around.under_plainId F.plain_sum_loop _]
    show wpAny _ A.in1 (seqItems? (.ref S) >>= _) _ _ s
    refine wpAny_bind (wpAny_seqItems hS rfl ?_)
    show wpAny _ A.in1 (tryCatch (pyNext (.ref I)) _ >>= _) _ _ s
    refine wpAny_bind (wpAny_tryCatch (W.done s _ _ hst fun h' tk hm => ?_))
    exact wpAny_pure (hR h' tk t c2 (fun b o hb e => hm b o (fun q => hb (List.mem_cons_of_mem _ q)) e) (fun _ => rfl) (fun h => absurd h (Nat.lt_irrefl _)) (hm t _ (fun q => htf (List.mem_cons_of_mem _ q)) ht))
  | succ k ih =>
    intro i s t c c2 hk hi hst hgr hold htf ht hS hR
    have hlt : i < n := by omega
    refine codeAny_builtin F.entry_sum_loop ?_
    rw [Around.under_plainId F.plain_sum_loop _]
    show wpAny _ A.in1 (seqItems? (.ref S) >>= _) _ _ s
    refine wpAny_bind (wpAny_seqItems hS rfl ?_)
    show wpAny _ A.in1 (tryCatch (pyNext (.ref I)) _ >>= _) _ _ s
    refine wpAny_bind (wpAny_tryCatch (W.item i s _ _ hlt hst fun v h' tk hP hst' hm => ?_))
    obtain ⟨y, rfl, hy, hrow⟩ := hval i v hlt hP
    have hS' := hm S _ hSw hS
    have ht' : IsL h' t (acc i) c2 := hm t _ (fun q => htf (List.mem_cons_of_mem _ q)) ht
    have hold' : ∀ b o, b ∉ S :: wr → h0.get? b = some o → h'.get? b = some o := fun b o hb e => hm b o (fun q => hb (List.mem_cons_of_mem _ q)) (hold b o hb e)
    have hrow' : h'.IsList y (rows i) := hrow.at fun o e => hold' y o hy e
    have hgr' : h0.objs.size ≤ h'.objs.size := by
      exact Nat.le_trans hS0 (Nat.succ_le_of_lt (Heap.lt_size hS'))
    have hsz' : (acc i).size + (rows i).size ≤ sizeLine := by
      have := hsz (i + 1) hlt
      rw [hacc i hlt, Array.size_append] at this
      exact this
    show wpAny _ A.in1 ((holding [Value.ref y] (binaryOp .Add (.ref t) (.ref y))).attempt >>= _) _ _ _
    refine wpAny_bind (wpAny_attempt (wpAny_holding (add_two ht'.isList hrow' hsz' ?_)))
    have hS1 := Heap.get?_push_of_some { cls := .type "list", data := .seq (acc i ++ rows i) } hS'
    show wpAny _ A.in1 (updateSeq S (fun _ => #[.ref h'.objs.size]) >>= _) _ _ _
    refine wpAny_bind (wpAny_updateSeq hS1 rfl ?_)
    have hS2 := Heap.get?_update_self (Obj.mapSeq fun _ => #[Value.ref h'.objs.size]) hS1 rfl
    refine wpAny_bind (wpAny_letGo ?_)
    have hne : S ≠ h'.objs.size := Nat.ne_of_lt (Heap.lt_size hS')
    refine wpAny_bind (wpAny_updateSeq hS2 rfl (wpAny_pure ⟨plainId_quiet F.plain_sum_loop _, ih (i + 1) _ h'.objs.size _ 0 (by omega) hlt ?_ ?_ ?_ ?_ ?_ (Heap.get?_update_self _ hS2 rfl) ?_⟩))
    · refine W.frame _ _ _ hst' fun b hb o e => ?_
      have hbS : S ≠ b := fun h => hSf (by rw [h]; exact hb)
      exact (Heap.get?_update_other _ _ hbS).trans ((Heap.get?_update_other _ _ hbS).trans (Heap.get?_push_of_some _ e))
    · show h0.objs.size ≤ (Heap.update (Heap.update (Heap.push h' _) S _) S _).objs.size
      rw [Heap.size_update, Heap.size_update, Heap.size_push]
      omega
    · intro b o hb e
      have hbS : S ≠ b := fun h => hb (by rw [h]; exact List.mem_cons_self)
      exact (Heap.get?_update_other _ _ hbS).trans ((Heap.get?_update_other _ _ hbS).trans (Heap.get?_push_of_some _ (hold' b o hb e)))
    · intro hm2
      refine absurd (hfpl _ ?_) (Nat.not_lt_of_le hgr')
      rcases List.mem_cons.mp hm2 with e | e
      · exact e ▸ List.mem_cons_self
      · exact List.mem_cons_of_mem _ (W.sub _ e)
    · rw [hacc i hlt]
      exact (Heap.get?_update_other _ _ hne).trans ((Heap.get?_update_other _ _ hne).trans (Heap.get?_push_size _ rfl))
    · intro h'' tk' t' m hk' h1 h2 h3
      refine hR h'' tk' t' m (fun b o hb e => ?_) (fun h => absurd h (Nat.ne_of_lt hlt)) (fun _ => ?_) h3
      · have hbS : S ≠ b := fun h => hb (by rw [h]; exact List.mem_cons_self)
        exact hk' b o hb ((Heap.get?_update_other _ _ hbS).trans ((Heap.get?_update_other _ _ hbS).trans (Heap.get?_push_of_some _ (hm b o (fun q => hb (List.mem_cons_of_mem _ q)) e))))
      · by_cases hl : i + 1 < n
        · exact h2 hl
        · have he := h1 (by omega)
          subst he
          exact hgr'
end
section
variable {prog : Program} {w : World} {A : Around} {E : Value → Shared → Prop} {s : Shared}
theorem call_sum_lists {l b : Addr} {its : List Value} {rows : Nat → List Value} {m0 : Nat} {Q : Value → Shared → Prop} (hh : A.handled = none) (hl : s.heap.IsList l its.toArray) (hb : IsL s.heap b #[] m0)
    (hrow : ∀ i, i < its.length → ∃ y, its[i]? = some (.ref y) ∧ s.heap.IsList y (rows i).toArray) (hsz : ((List.range its.length).flatMap rows).length ≤ sizeLine)
    (h : ∀ h' tk t m, (∀ c o, s.heap.get? c = some o → h'.get? c = some o) → (its.length = 0 → t = b) → (0 < its.length → s.heap.objs.size ≤ t) → IsL h' t ((List.range its.length).flatMap rows).toArray m → Q (.ref t) { s with heap := h', toks := tk }) :
    wpAny (model prog w) A (call (.builtin "sum") [.ref l, .ref b]) Q E s := by
  refine call_function_tree F.kind_sum F.plain_sum F.entry_sum (args_sum2 _ _) ?_
  unfold Builtin.«sum»
  simp only [List.length_cons, List.length_nil]
  rw [if_neg (by decide)]
  refine wpAny_bind (wpAny_of_eq (show Builtin.Builtins.bindParams "sum" ["start"] 0 ⟨[.ref b], []⟩ = pure [some (.ref b)] from rfl) ?_)
  refine wpAny_bind (wpAny_pyIter_list hl ?_)
  refine wpAny_bind (wpAny_pure ?_)
  have hb1 : IsL (s.heap.push { cls := .type "list_iterator", data := .fields #[.ref l, .int 0 0] }) b #[] m0 := hb.push _
  have hty : ({ s with heap := s.heap.push { cls := .type "list_iterator", data := .fields #[.ref l, .int 0 0] } } : Shared).TypeIs (.ref b) "list" := hb1.isList.typeIs
  simp only [List.forIn_cons, List.forIn_nil]
  refine wpAny_bind (wpAny_bind (wpAny_bind (wpAny_isInstance (T := "list") (b := false) hty F.sub_list_str ?_)))
  simp only [Bool.false_eq_true, if_false]
  refine wpAny_pure (wpAny_bind (wpAny_bind (wpAny_isInstance (T := "list") (b := false) hty F.sub_list_bytes ?_)))
  simp only [Bool.false_eq_true, if_false]
  refine wpAny_pure (wpAny_bind (wpAny_bind (wpAny_isInstance (T := "list") (b := false) hty F.sub_list_bytearray ?_)))
  simp only [Bool.false_eq_true, if_false]
  refine wpAny_pure (wpAny_pure ?_)
  refine wpAny_bind (wpAny_newObj_type ?_)
  have hlt : l < s.heap.objs.size := by obtain ⟨_, e, _⟩ := hl; exact Heap.lt_size e
  have hbt : b < s.heap.objs.size := Heap.lt_size hb
  have hne : l ≠ s.heap.objs.size := Nat.ne_of_lt hlt
  have hs1 : (s.heap.push { cls := .type "list_iterator", data := .fields #[.ref l, .int 0 0] }).objs.size = s.heap.objs.size + 1 := Heap.size_push ..
  have W := Walks.list (prog := prog) (w := w) (A := A.in1) hh s.heap.objs.size l hne its.toArray
  have old : ∀ c o, s.heap.get? c = some o → ((s.heap.push { cls := .type "list_iterator", data := .fields #[.ref l, .int 0 0] }).push { cls := .type "list", data := .seq #[.ref b] }).get? c = some o := fun c o e => Heap.get?_push_of_some _ (Heap.get?_push_of_some _ e)
  have hit : Heap.IsListIter ((s.heap.push { cls := .type "list_iterator", data := .fields #[.ref l, .int 0 0] }).push { cls := .type "list", data := .seq #[.ref b] }) s.heap.objs.size l 0 := ⟨_, Heap.get?_push_of_some _ (Heap.get?_push_size _ rfl), rfl, rfl⟩
  have acc : ∀ i, i < its.toArray.size → ((List.range (i + 1)).flatMap rows).toArray = ((List.range i).flatMap rows).toArray ++ (rows i).toArray := fun i _ => by simp [List.range_succ]
  refine wpAny_pure ⟨plainId_quiet F.plain_sum_loop _, codeAny_sum_lists W (fun i => (rows i).toArray) (fun i => ((List.range i).flatMap rows).toArray) acc (fun i hi => ?_) ((s.heap.push { cls := .type "list_iterator", data := .fields #[.ref l, .int 0 0] }).push { cls := .type "list", data := .seq #[.ref b] }) (s.heap.push { cls := .type "list_iterator", data := .fields #[.ref l, .int 0 0] }).objs.size ?_ ?_ ?_ ?_ its.toArray.size 0 _ b 0 m0 rfl (Nat.zero_le _) ?_ (Nat.le_refl _) (fun _ _ _ e => e) ?_ ?_ (Heap.get?_push_size _ rfl) ?_⟩
  · rw [List.size_toArray] at hi ⊢
    refine Nat.le_trans ?_ hsz
    obtain ⟨j, e⟩ : ∃ j, its.length = i + j := ⟨its.length - i, by omega⟩
    rw [e, List.range_add, List.flatMap_append, List.length_append]
    exact Nat.le_add_right _ _
  · rw [hs1]
    intro hm
    rcases List.mem_cons.mp hm with e | hm
    · exact absurd e (Nat.succ_ne_self _)
    · exact absurd (List.mem_singleton.mp hm) (Nat.ne_of_gt (Nat.lt_succ_of_lt hlt))
  · rw [Heap.size_push]
    exact Nat.le_refl _
  · intro c hc
    rw [Heap.size_push, hs1]
    rcases List.mem_cons.mp hc with e | hc
    · rw [e, hs1]; exact Nat.lt_succ_self _
    · rcases List.mem_cons.mp hc with e | hc
      · rw [e]; exact Nat.lt_succ_of_lt (Nat.lt_succ_self _)
      · rw [List.mem_singleton.mp hc]; exact Nat.lt_succ_of_lt (Nat.lt_succ_of_lt hlt)
  · intro i v hi hv
    rw [List.size_toArray] at hi
    obtain ⟨y, e, hy⟩ := hrow i hi
    have hyt : y < s.heap.objs.size := by obtain ⟨_, e, _⟩ := hy; exact Heap.lt_size e
    rw [List.getElem?_toArray, e] at hv
    cases hv
    refine ⟨y, rfl, fun hm => ?_, hy.at fun o e => old y o e⟩
    rcases List.mem_cons.mp hm with e | hm
    · rw [hs1] at e
      exact absurd e (Nat.ne_of_lt (Nat.lt_succ_of_lt hyt))
    · exact absurd (List.mem_singleton.mp hm) (Nat.ne_of_lt hyt)
  · exact ⟨hit, hl.at fun o e => old l o e⟩
  · rw [hs1]
    intro hm
    rcases List.mem_cons.mp hm with e | hm
    · exact absurd e (Nat.ne_of_lt (Nat.lt_succ_of_lt hbt))
    · exact absurd (List.mem_singleton.mp hm) (Nat.ne_of_lt hbt)
  · exact old b _ hb
  · intro h' tk t' m hk h1 h2 h3
    rw [List.size_toArray] at h1 h2 h3
    refine h h' tk t' m (fun c o e => ?_) (fun e => h1 e.symm) (fun e => ?_) h3
    · refine hk c o (fun hm => ?_) (old c o e)
      have hct := Heap.lt_size e
      rcases List.mem_cons.mp hm with e | hm
      · rw [hs1] at e
        exact absurd e (Nat.ne_of_lt (Nat.lt_succ_of_lt hct))
      · exact absurd (List.mem_singleton.mp hm) (Nat.ne_of_lt hct)
    · have := h2 e
      rw [Heap.size_push, hs1] at this
      exact Nat.le_of_succ_le (Nat.le_of_succ_le this)
end
/-! by values -/
inductive RowsAt (K : PySem.W.Frag) (H : Hp) : List Addr → List (List V) → Prop
  | nil : RowsAt K H [] []
  | cons {p : Addr} {y : List V} {ps : List Addr} {ys : List (List V)} : SqL K H p y → RowsAt K H ps ys → RowsAt K H (p :: ps) (y :: ys)
def rSumL (K : PySem.W.Frag) : List V → Hp → VK → Prop := fun vs H Q => ∃ (a b : Addr) (ps : List Addr) (ys : List (List V)), vs = [.ref a, .ref b] ∧ SqL K H a (ps.map V.ref) ∧ H b = some (.lst []) ∧ RowsAt K H ps ys ∧ ys.flatten.length ≤ sizeLine ∧
  (ps = [] → Q (.ref b) H) ∧ ∀ p, H p = none → Q (.ref p) (upd H p (.lst ys.flatten))
theorem vals_refs : ∀ {ps : List Addr} {us : List Value}, Vals (ps.map V.ref) us → us = ps.map Value.ref
  | [], _, .nil => rfl
  | _ :: _, _, .cons r rs => by
    cases r
    rw [vals_refs rs, List.map_cons]
theorem RowsAt.lists {X : Cx} {pins : List (Addr × Obj)} {σ : St} {H : Hp} {s : Shared} (I : Inv X pins σ H s) : ∀ {ps : List Addr} {ys : List (List V)}, RowsAt X.K H ps ys → ∃ rows : List (List Value), rows.length = ps.length ∧ Vals ys.flatten rows.flatten ∧ ∀ (i : Nat) (h : i < ps.length), s.heap.IsList ps[i] (rows.getD i []).toArray
  | _, _, .nil => ⟨[], rfl, .nil, fun i h => absurd h (Nat.not_lt_zero _)⟩
  | _, _, .cons h r => by
    obtain ⟨rows, e1, e2, e3⟩ := RowsAt.lists I r
    obtain ⟨its, rv, hl, _⟩ := I.list h
    refine ⟨its :: rows, by rw [List.length_cons, List.length_cons, e1], rv.append e2, fun i h => ?_⟩
    cases i with
    | zero => exact hl.isList
    | succ i => exact e3 i (Nat.lt_of_succ_lt_succ h)
theorem flat_getD (rows : List (List Value)) : (List.range rows.length).flatMap (fun i => rows.getD i []) = rows.flatten := by
  rw [List.flatMap_def]
  congr 1
  refine List.ext_getElem (by simp) fun i h1 h2 => ?_
  simp [List.getD_eq_getElem?_getD, List.getElem?_eq_getElem h2]
theorem cr_sumL {X : Cx} (hc : X.calm = true) : CallR X (.builtin "sum") (rSumL X.K) := by
  intro pins s σ H vs us Q I r h
  obtain ⟨a, b, ps, ys, rfl, hs, hb, hr, hz, q0, q1⟩ := h
  obtain ⟨its, rv, hl, _⟩ := I.list hs
  obtain ⟨u, u2, rfl, ru, ru2⟩ := vals2 r
  cases ru
  cases ru2
  have := vals_refs rv
  subst this
  obtain ⟨_, its2, m0, rv2, hl2, hbm⟩ := I.lstM hb
  cases rv2
  obtain ⟨rows, e1, e2, e3⟩ := hr.lists I
  have ef : (List.range (ps.map Value.ref).length).flatMap (fun i => rows.getD i []) = rows.flatten := by rw [List.length_map, ← e1]; exact flat_getD rows
  refine call_sum_lists (rows := fun i => rows.getD i []) (I.ok.hd hc) hl.isList hbm (fun i hi => ?_) (by rw [ef, ← e2.length]; exact hz) fun h' tk t m hk h1 h2 h3 => ?_
  · rw [List.length_map] at hi
    exact ⟨ps[i], by rw [List.getElem?_map, List.getElem?_eq_getElem hi]; rfl, e3 i hi⟩
  · rw [List.length_map] at h1 h2
    cases ps with
    | nil =>
      have := h1 rfl
      subst this
      exact ⟨.ref t, H, I.kept hk, rfl, q0 rfl⟩
    | cons p ps =>
      have h2 := h2 (Nat.succ_pos _)
      rw [ef] at h3
      exact ⟨.ref t, upd H t (.lst ys.flatten), I.laid (t' := tk) hk h2 ⟨hz, rows.flatten, m, e2, h3⟩, rfl, q1 t (I.hok.fresh h2)⟩
theorem dpApp {K : PySem.W.Frag} {H : Hp} : ∀ {v1 v2 : List V} {d1 d2 : List PyData}, DpAll K H v1 d1 → DpAll K H v2 d2 → DpAll K H (v1 ++ v2) (d1 ++ d2)
  | _, _, _, _, .nil, h => h
  | _, _, _, _, .cons r rs, h => .cons r (dpApp rs h)
def flatL : List PyData → Option (List PyData)
  | [] => some []
  | .list l :: r => if l.all scalarD then (flatL r).map (l ++ ·) else none
  | _ :: _ => none
def rvSumL (its : List Item) (Q : Item → Prop) : Prop := match its with
  | [a, .dat (.list []) .A] => match a.data with
    | some (.list ds) => PyData.canLayAll0 ds = true ∧ (match flatL ds with
      | some l => l.length ≤ sizeLine ∧ Q (.dat (.list l) .A)
      | none => False)
    | _ => False
  | _ => False
theorem rvSumL_mono : MonoC rvSumL := fun its Q Q' h q => by
  unfold rvSumL at q ⊢
  split at q
  · split at q
    · refine ⟨q.1, ?_⟩
      have q := q.2
      split at q
      · exact ⟨q.1, h _ q.2⟩
      · exact q
    · exact q.elim
  · exact q.elim
theorem rows_of {K : PySem.W.Frag} {H : Hp} : ∀ {vs : List V} {ds l : List PyData}, DpAll K H vs ds → flatL ds = some l → ∃ ps ys, vs = ps.map V.ref ∧ RowsAt K H ps ys ∧ DpAll K H ys.flatten l ∧ l.all scalarD = true
  | _, _, _, .nil, h => by cases h; exact ⟨[], [], rfl, .nil, .nil, rfl⟩
  | _, _, _, .cons (d := .list x) r rs, h => by
    unfold flatL at h
    split at h
    · rename_i hx
      obtain ⟨l', h1, h2⟩ := Option.map_eq_some_iff.mp h
      obtain ⟨ps, ys, e1, e2, e3, e4⟩ := rows_of rs h1
      cases r with
      | lst hs hd =>
        rename_i p xs
        refine ⟨p :: ps, xs :: ys, by rw [e1, List.map_cons], .cons hs e2, ?_, by rw [← h2, List.all_append, hx, e4]; rfl⟩
        rw [← h2, List.flatten_cons]
        exact dpApp hd e3
    · cases h
theorem snd_sumL {K : PySem.W.Frag} : SndC K rvSumL (rSumL K) := by
  intro C σ env fr H vs its Q Q' hl er q k
  unfold rvSumL at q
  split at q
  · rename_i a
    obtain ⟨x, y, rfl⟩ := vs2 hl
    split at q
    · rename_i ds hd
      obtain ⟨qc, q⟩ := q
      split at q
      · rename_i l hf
        obtain ⟨G, Fb, Fa, rb, ra, gh, k1, k2⟩ := ER.peek2 er
        cases rb with
        | dat rb =>
          cases rb with
          | lst lb rsb =>
            rename_i pb vsb Fx
            cases rsb
            have hdp := ra.dp gh hd (by simpa [PyData.canLay0] using qc)
            cases hdp with
            | lst hs hds =>
              obtain ⟨ps, ys, e1, e2, e3, e4⟩ := rows_of hds hf
              subst e1
              have hlen : ys.flatten.length = l.length := (dpLen e3).symm
              refine ⟨_, _, ps, ys, rfl, hs, loc_le lb gh, e2, by rw [hlen]; exact q.1, fun hp => ?_, fun p hp => ?_⟩
              · subst hp
                cases e2
                cases e3
                exact k _ _ H q.2 (k1 [(_, .dat (.list []) .A)] _ (.cons (.dat (.lst lb .nil)) .nil) (.of_sub (by simp)))
              · refine k _ _ _ q.2 (k2 p _ hp [(.ref p, .dat (.list l) .A)] _ [] (.cons (.dat (.lst (own'_loc (m := .A) upd_same) (dpLeaf e3 e4 _))) .nil) ?_ (.nil _))
                exact .refl _
      · exact q.elim
    · exact q.elim
  · exact q.elim
end VL

namespace VL
open PySem PySem.Spec PyProof.Rows L2
/-! ### zip(a tuple, a list) -/
/-- an iterator i over what stands at l, k of xs told -/
structure NX (i l : Addr) (xs : Array Value) (It : Nat → Heap → Prop) : Prop where
  go : ∀ {prog : Program} {w : World} {A : Around} {E : Value → Shared → Prop} {s : Shared} {k : Nat} {x : Value} {Q : Value → Shared → Prop}, It k s.heap → xs[k]? = some x →
    (∀ g, It (k + 1) g → Heap.SameBut i s.heap g → Q x { s with heap := g }) → wpAny (model prog w) A (Builtin.SmallTypes.nextOf (.ref i)) Q E s
  fin : ∀ {prog : Program} {w : World} {A : Around} {E : Value → Shared → Prop} {s : Shared} {k : Nat} {Q : Value → Shared → Prop}, A.handled = none → It k s.heap → xs[k]? = none →
    (∀ g e, Heap.ExtBut i s.heap g → (∃ o, g.get? e = some o ∧ o.cls = .type "StopIteration") → E (.ref e) { s with heap := g }) → wpAny (model prog w) A (Builtin.SmallTypes.nextOf (.ref i)) Q E s
  keep : ∀ {k : Nat} {g g' : Heap}, It k g → (∀ c, c = i ∨ c = l → ∀ o, g.get? c = some o → g'.get? c = some o) → It k g'
  lt : ∀ {k : Nat} {g : Heap}, It k g → i < g.objs.size ∧ l < g.objs.size
  nf : ∀ {k : Nat} {g : Heap}, It k g → ∃ o, g.get? i = some o ∧ ∃ fs, o.data = .fields fs
theorem nx_list {i l : Addr} {xs : Array Value} (hne : l ≠ i) : NX i l xs fun k g => g.IsListIter i l k ∧ g.IsList l xs where
  go := fun st hx q => wpAny_nextOf_list_item st.1 st.2 hx fun g hi hs => q g ⟨hi, st.2.extBut hs.extBut hne⟩ hs
  fin := fun hh st hx q => wpAny_nextOf_list_end hh st.1 st.2 hx q
  keep := fun st k => ⟨st.1.at fun o e => k _ (.inl rfl) o e, st.2.at fun o e => k _ (.inr rfl) o e⟩
  lt := fun st => ⟨by obtain ⟨_, e, _⟩ := st.1; exact Heap.lt_size e, by obtain ⟨_, e, _⟩ := st.2; exact Heap.lt_size e⟩
  nf := fun st => by obtain ⟨o, e, _, d⟩ := st.1; exact ⟨o, e, _, d⟩
theorem nx_tup {i l : Addr} {xs : Array Value} (hne : l ≠ i) : NX i l xs fun k g => g.IsTupleIter i l k ∧ g.IsTuple l xs where
  go := fun st hx q => RZ.nextOf_tuple_item st.1 st.2 hx fun g hi hs => q g ⟨hi, st.2.extBut hs.extBut hne⟩ hs
  fin := fun hh st hx q => RZ.nextOf_tuple_end hh st.1 st.2 hx q
  keep := fun st k => ⟨st.1.at fun o e => k _ (.inl rfl) o e, st.2.at fun o e => k _ (.inr rfl) o e⟩
  lt := fun st => ⟨by obtain ⟨_, e, _⟩ := st.1; exact Heap.lt_size e, by obtain ⟨_, e, _⟩ := st.2; exact Heap.lt_size e⟩
  nf := fun st => by obtain ⟨o, e, _, d⟩ := st.1; exact ⟨o, e, _, d⟩
/-- the whole of a zip's parts -/
structure ZS (z t u i j l m : Addr) (a b : Value) (J1 J2 : Nat → Heap → Prop) (k1 k2 : Nat) (f0 : Value) (g : Heap) : Prop where
  hz : IsZip g z t u f0
  ht : IsPair g t (.ref i) (.ref j)
  hu : IsPair g u a b
  h1 : J1 k1 g
  h2 : J2 k2 g
section
variable {prog : Program} {w : World} {A : Around} {E : Value → Shared → Prop} {s : Shared} {z t u i j l m : Addr} {xs ys : Array Value} {J1 J2 : Nat → Heap → Prop} {k1 k2 : Nat} {a b x y : Value}
theorem ZS.other {f0 : Value} {g g' : Heap} (N1 : NX i l xs J1) (N2 : NX j m ys J2) (S : ZS z t u i j l m a b J1 J2 k1 k2 f0 g) (k : ∀ c o, c = z ∨ c = t ∨ c = u ∨ c = i ∨ c = j ∨ c = l ∨ c = m → g.get? c = some o → g'.get? c = some o) : ZS z t u i j l m a b J1 J2 k1 k2 f0 g' :=
  ⟨k _ _ (by simp) S.hz, k _ _ (by simp) S.ht, k _ _ (by simp) S.hu, N1.keep S.h1 fun c hc o e => k c o (by rcases hc with h | h <;> simp [h]) e, N2.keep S.h2 fun c hc o e => k c o (by rcases hc with h | h <;> simp [h]) e⟩
theorem zipG_item (N1 : NX i l xs J1) (N2 : NX j m ys J2) (D : ZipApart z t u i j l m) (S : ZS z t u i j l m a b J1 J2 k1 k2 .none s.heap) (hx : xs[k1]? = some x) (hy : ys[k2]? = some y) {Q : Value → Shared → Prop}
    (hQ : ∀ g, ZS z t u i j l m x y J1 J2 (k1 + 1) (k2 + 1) (rawInt s.heap.objs.size) g → IsPair g s.heap.objs.size x y → g.objs.size = s.heap.objs.size + 1 → (∀ c o, c ≠ z → c ≠ u → c ≠ i → c ≠ j → s.heap.get? c = some o → g.get? c = some o) → Q (.ref s.heap.objs.size) { s with heap := g }) :
    wpAny (model prog w) A (Builtin.«zip.__next__» ⟨[.ref z], []⟩) (fun r s' => ∃ v, r = .done (.ret v) ∧ Q v s') E s := by
  show wpAny _ _ (field (.ref z) 2 >>= _) _ _ _
  refine wpAny_bind (wpAny_field S.hz rfl (x := .bool false) rfl ?_)
  show wpAny _ _ (field (.ref z) 3 >>= _) _ _ _
  refine wpAny_bind (wpAny_field S.hz rfl (x := .ref t) rfl ?_)
  refine wpAny_bind (wpAny_seqItems S.ht rfl ?_)
  show wpAny _ _ (Builtin.SmallTypes.ownedTupleIsFree (.ref z) >>= _) _ _ _
  unfold Builtin.SmallTypes.ownedTupleIsFree
  refine wpAny_bind (wpAny_bind (wpAny_field S.hz rfl (x := .none) rfl (wpAny_pure ?_)))
  rw [if_pos rfl]
  refine wpAny_bind (wpAny_rule (wpAny_bind (wpAny_field S.hz rfl (x := .ref u) rfl ?_)))
  refine wpAny_bind (wpAny_setField_rec S.hz (by simp) fun g1 z1 b1 => ?_)
  have z1 : IsZip g1 z t u .ellipsis := z1
  refine wpAny_bind ?_
  simp only [List.zipIdx_cons, List.zipIdx_nil, List.forIn_cons, List.forIn_nil]
  have q1 : J1 k1 g1 := N1.keep S.h1 fun c hc o e => b1.extBut _ _ (by rcases hc with rfl | rfl; exact D.i1z; exact D.l1z) e
  have r1 : J2 k2 g1 := N2.keep S.h2 fun c hc o e => b1.extBut _ _ (by rcases hc with rfl | rfl; exact D.i2z; exact D.l2z) e
  refine wpAny_bind (wpAny_bind (wpAny_onRaise ?_))
  show wpAny _ _ (Builtin.SmallTypes.nextOf (.ref i) >>= _) _ _ _
  refine wpAny_bind (N1.go (s := { s with heap := g1 }) q1 hx fun g2 q2 b2 => wpAny_pure ?_)
  have r2 : J2 k2 g2 := N2.keep r1 fun c hc o e => b2.extBut _ _ (by rcases hc with rfl | rfl; exact D.i12.symm; exact D.l2i1) e
  have u2 : IsPair g2 u a b := b2.extBut _ _ D.TOi1 (b1.extBut _ _ D.TOz S.hu)
  refine wpAny_bind (wpAny_seqItems u2 rfl (wpAny_bind (wpAny_updateSeq_pair u2 fun g3 u3 b3 => ?_)))
  have u3 : IsPair g3 u x b := u3
  have q3 : J1 (k1 + 1) g3 := N1.keep q2 fun c hc o e => b3.extBut _ _ (by rcases hc with rfl | rfl; exact D.TOi1.symm; exact D.l1TO) e
  have r3 : J2 k2 g3 := N2.keep r2 fun c hc o e => b3.extBut _ _ (by rcases hc with rfl | rfl; exact D.TOi2.symm; exact D.l2TO) e
  refine wpAny_bind (wpAny_letGo (wpAny_pure (wpAny_bind (wpAny_bind (wpAny_onRaise ?_)))))
  show wpAny _ _ (Builtin.SmallTypes.nextOf (.ref j) >>= _) _ _ _
  refine wpAny_bind (N2.go (s := { s with heap := g3 }) r3 hy fun g4 r4 b4 => wpAny_pure ?_)
  have u4 : IsPair g4 u x b := b4.extBut _ _ D.TOi2 u3
  have q4 : J1 (k1 + 1) g4 := N1.keep q3 fun c hc o e => b4.extBut _ _ (by rcases hc with rfl | rfl; exact D.i12; exact D.l1i2) e
  refine wpAny_bind (wpAny_seqItems u4 rfl (wpAny_bind (wpAny_updateSeq_pair u4 fun g5 u5 b5 => ?_)))
  have u5 : IsPair g5 u x y := u5
  have q5 : J1 (k1 + 1) g5 := N1.keep q4 fun c hc o e => b5.extBut _ _ (by rcases hc with rfl | rfl; exact D.TOi1.symm; exact D.l1TO) e
  have r5 : J2 (k2 + 1) g5 := N2.keep r4 fun c hc o e => b5.extBut _ _ (by rcases hc with rfl | rfl; exact D.TOi2.symm; exact D.l2TO) e
  refine wpAny_bind (wpAny_letGo (wpAny_pure (wpAny_pure ?_)))
  refine wpAny_bind (wpAny_seqItems u5 rfl (wpAny_bind (wpAny_newTuple ?_)))
  have all5 : ∀ c o, c ≠ z → c ≠ u → c ≠ i → c ≠ j → s.heap.get? c = some o → g5.get? c = some o := fun c o n1 n2 n3 n4 e => b5.extBut _ _ n2 (b4.extBut _ _ n4 (b3.extBut _ _ n2 (b2.extBut _ _ n3 (b1.extBut _ _ n1 e))))
  have sz5 : g5.objs.size = s.heap.objs.size := by rw [b5.1, b4.1, b3.1, b2.1, b1.1]
  have z5 : IsZip g5 z t u .ellipsis := b5.extBut _ _ D.TOz.symm (b4.extBut _ _ D.i2z.symm (b3.extBut _ _ D.TOz.symm (b2.extBut _ _ D.i1z.symm z1)))
  have zl : z < g5.objs.size := Heap.lt_size z5
  unfold Builtin.SmallTypes.ownedTupleHandOut
  refine wpAny_bind ?_
  have z6 : IsZip (g5.push { cls := .type "tuple", data := .seq #[x, y] }) z t u .ellipsis := Heap.get?_push_of_some _ z5
  refine wpAny_bind (wpAny_setField_rec z6 (by simp) fun g7 z7 b7 => ?_)
  have z7 : IsZip g7 z t u (rawInt g5.objs.size) := z7
  refine wpAny_setField_rec z7 (by simp) fun g8 z8 b8 => ?_
  have z8 : IsZip g8 z t u (rawInt g5.objs.size) := z8
  have late : ∀ c o, c ≠ z → g5.get? c = some o → g8.get? c = some o := fun c o n e => b8.extBut _ _ n (b7.extBut _ _ n (Heap.get?_push_of_some _ e))
  have p8 : IsPair g8 g5.objs.size x y := b8.extBut _ _ (Nat.ne_of_gt zl) (b7.extBut _ _ (Nat.ne_of_gt zl) (Heap.get?_push_size _ rfl))
  have sz8 : g8.objs.size = g5.objs.size + 1 := by rw [b8.1, b7.1, Heap.size_push]
  rw [sz5] at z8 p8 sz8
  refine wpAny_pure ⟨_, rfl, ?_⟩
  show Q (.ref g5.objs.size) _
  rw [sz5]
  refine hQ g8 ⟨z8, ?_, late _ _ D.TOz u5, N1.keep q5 fun c hc o e => late c o (by rcases hc with rfl | rfl; exact D.i1z; exact D.l1z) e, N2.keep r5 fun c hc o e => late c o (by rcases hc with rfl | rfl; exact D.i2z; exact D.l2z) e⟩ p8 sz8 fun c o n1 n2 n3 n4 e => late c o n1 (all5 c o n1 n2 n3 n4 e)
  exact late _ _ D.TIz (all5 _ _ D.TIz D.TITO D.TIi1 D.TIi2 S.ht)
theorem zipG_end (N1 : NX i l xs J1) (N2 : NX j m ys J2) (D : ZipApart z t u i j l m) (S : ZS z t u i j l m a b J1 J2 k1 k2 .none s.heap) (hh : A.handled = none) (hend : xs[k1]? = none ∨ ys[k2]? = none) {Q : Fin → Shared → Prop}
    (hE : ∀ g e, (∀ c o, c ≠ z → c ≠ u → c ≠ i → c ≠ j → s.heap.get? c = some o → g.get? c = some o) → (∃ o, g.get? e = some o ∧ o.cls = .type "StopIteration") → E (.ref e) { s with heap := g }) :
    wpAny (model prog w) A (Builtin.«zip.__next__» ⟨[.ref z], []⟩) Q E s := by
  show wpAny _ _ (field (.ref z) 2 >>= _) _ _ _
  refine wpAny_bind (wpAny_field S.hz rfl (x := .bool false) rfl ?_)
  show wpAny _ _ (field (.ref z) 3 >>= _) _ _ _
  refine wpAny_bind (wpAny_field S.hz rfl (x := .ref t) rfl ?_)
  refine wpAny_bind (wpAny_seqItems S.ht rfl ?_)
  show wpAny _ _ (Builtin.SmallTypes.ownedTupleIsFree (.ref z) >>= _) _ _ _
  unfold Builtin.SmallTypes.ownedTupleIsFree
  refine wpAny_bind (wpAny_bind (wpAny_field S.hz rfl (x := .none) rfl (wpAny_pure ?_)))
  rw [if_pos rfl]
  refine wpAny_bind (wpAny_rule (wpAny_bind (wpAny_field S.hz rfl (x := .ref u) rfl ?_)))
  refine wpAny_bind (wpAny_setField_rec S.hz (by simp) fun g1 z1 b1 => ?_)
  have z1 : IsZip g1 z t u .ellipsis := z1
  refine wpAny_bind ?_
  simp only [List.zipIdx_cons, List.zipIdx_nil, List.forIn_cons, List.forIn_nil]
  have q1 : J1 k1 g1 := N1.keep S.h1 fun c hc o e => b1.extBut _ _ (by rcases hc with rfl | rfl; exact D.i1z; exact D.l1z) e
  have r1 : J2 k2 g1 := N2.keep S.h2 fun c hc o e => b1.extBut _ _ (by rcases hc with rfl | rfl; exact D.i2z; exact D.l2z) e
  refine wpAny_bind (wpAny_bind (wpAny_onRaise ?_))
  show wpAny _ _ (Builtin.SmallTypes.nextOf (.ref i) >>= _) _ _ _
  have last : ∀ g (e : Addr) (S' : Shared), (∃ o, g.get? e = some o ∧ o.cls = .type "StopIteration") → IsZip g z t u .ellipsis → e ≠ z := fun g e _ ⟨o, ho, hc⟩ hz q => by
    subst q
    rw [hz] at ho
    cases ho
    simp at hc
  cases hx : xs[k1]? with
  | none =>
    refine wpAny_bind (N1.fin (s := { s with heap := g1 }) hh q1 hx fun g2 e b2 he => ?_)
    have z2 : IsZip g2 z t u .ellipsis := b2 _ _ D.i1z.symm z1
    have ne := last g2 e s he z2
    obtain ⟨oe, h1, h2⟩ := he
    exact wpAny_setField_rec z2 (by simp) fun g3 _ b3 => hE g3 e (fun c o n1 _ n3 _ e => b3.extBut _ _ n1 (b2 _ _ n3 (b1.extBut _ _ n1 e))) ⟨oe, b3.extBut _ _ ne h1, h2⟩
  | some x =>
    have hy : ys[k2]? = none := hend.resolve_left (by rw [hx]; exact nofun)
    refine wpAny_bind (N1.go (s := { s with heap := g1 }) q1 hx fun g2 q2 b2 => wpAny_pure ?_)
    have r2 : J2 k2 g2 := N2.keep r1 fun c hc o e => b2.extBut _ _ (by rcases hc with rfl | rfl; exact D.i12.symm; exact D.l2i1) e
    have u2 : IsPair g2 u a b := b2.extBut _ _ D.TOi1 (b1.extBut _ _ D.TOz S.hu)
    refine wpAny_bind (wpAny_seqItems u2 rfl (wpAny_bind (wpAny_updateSeq_pair u2 fun g3 u3 b3 => ?_)))
    have r3 : J2 k2 g3 := N2.keep r2 fun c hc o e => b3.extBut _ _ (by rcases hc with rfl | rfl; exact D.TOi2.symm; exact D.l2TO) e
    refine wpAny_bind (wpAny_letGo (wpAny_pure (wpAny_bind (wpAny_bind (wpAny_onRaise ?_)))))
    show wpAny _ _ (Builtin.SmallTypes.nextOf (.ref j) >>= _) _ _ _
    refine wpAny_bind (N2.fin (s := { s with heap := g3 }) hh r3 hy fun g4 e b4 he => ?_)
    have z4 : IsZip g4 z t u .ellipsis := b4 _ _ D.i2z.symm (b3.extBut _ _ D.TOz.symm (b2.extBut _ _ D.i1z.symm z1))
    have ne := last g4 e s he z4
    obtain ⟨oe, h1, h2⟩ := he
    exact wpAny_setField_rec z4 (by simp) fun g5 _ b5 => hE g5 e (fun c o n1 n2 n3 n4 e => b5.extBut _ _ n1 (b4 _ _ n4 (b3.extBut _ _ n2 (b2.extBut _ _ n3 (b1.extBut _ _ n1 e))))) ⟨oe, b5.extBut _ _ ne h1, h2⟩
theorem nextG_item (N1 : NX i l xs J1) (N2 : NX j m ys J2) (D : ZipApart z t u i j l m) (S : ZS z t u i j l m a b J1 J2 k1 k2 .none s.heap) (hx : xs[k1]? = some x) (hy : ys[k2]? = some y) {Q : Option Value → Shared → Prop}
    (hQ : ∀ g, ZS z t u i j l m x y J1 J2 (k1 + 1) (k2 + 1) (rawInt s.heap.objs.size) g → IsPair g s.heap.objs.size x y → g.objs.size = s.heap.objs.size + 1 → (∀ c o, c ≠ z → c ≠ u → c ≠ i → c ≠ j → s.heap.get? c = some o → g.get? c = some o) → Q (some (.ref s.heap.objs.size)) { s with heap := g }) :
    wpAny (model prog w) A (pyNext (.ref z)) Q E s := by
  have ty : s.TypeIs (.ref z) "zip" := ⟨_, S.hz, rfl⟩
  unfold pyNext
  refine wpAny_bind (wpAny_attempt (wpAny_callSpecial?_slot (name := Str.ofString "__next__") ty F.slot_zip_next (wpAny_call_entry F.slot_zip_next ty F.entry_zip_next ?_ (F.args_zip_next_1 _))))
  exact zipG_item N1 N2 D S hx hy fun g e1 e2 e3 e4 => wpAny_pure (hQ g e1 e2 e3 e4)
theorem nextG_end (N1 : NX i l xs J1) (N2 : NX j m ys J2) (D : ZipApart z t u i j l m) (S : ZS z t u i j l m a b J1 J2 k1 k2 .none s.heap) (hh : A.handled = none) (hend : xs[k1]? = none ∨ ys[k2]? = none) {Q : Option Value → Shared → Prop}
    (hQ : ∀ g, (∀ c o, c ≠ z → c ≠ u → c ≠ i → c ≠ j → s.heap.get? c = some o → g.get? c = some o) → Q none { s with heap := g }) : wpAny (model prog w) A (pyNext (.ref z)) Q E s := by
  have ty : s.TypeIs (.ref z) "zip" := ⟨_, S.hz, rfl⟩
  unfold pyNext
  refine wpAny_bind (wpAny_attempt (wpAny_callSpecial?_slot (name := Str.ofString "__next__") ty F.slot_zip_next (wpAny_call_entry F.slot_zip_next ty F.entry_zip_next ?_ (F.args_zip_next_1 _))))
  refine zipG_end (A := A.in1) N1 N2 D S hh hend fun g e k he => ?_
  obtain ⟨o, ho, hc⟩ := he
  exact wpAny_bind (wpAny_isInstance (T := "StopIteration") (b := true) ⟨o, ho, hc⟩ isSubtype_stop (wpAny_pure (hQ g k)))
end
abbrev zm1 (h : Heap) (l : Addr) : Heap := h.push { cls := .type "tuple_iterator", data := .fields #[.ref l, .int 0 0] }
abbrev zm2 (h : Heap) (l m : Addr) : Heap := (zm1 h l).push { cls := .type "list_iterator", data := .fields #[.ref m, .int 0 0] }
abbrev zm3 (h : Heap) (l m : Addr) : Heap := (zm2 h l m).push { cls := .type "tuple", data := .seq #[.ref h.objs.size, .ref (zm1 h l).objs.size] }
abbrev zm4 (h : Heap) (l m : Addr) : Heap := (zm3 h l m).push { cls := .type "tuple", data := .seq #[.none, .none] }
abbrev zm5 (h : Heap) (l m : Addr) : Heap := (zm4 h l m).push { cls := .type "zip", data := .fields #[.none, .bool false, .bool false, .ref (zm2 h l m).objs.size, .ref (zm3 h l m).objs.size] }
theorem new_zipM (l m : Addr) (xs ys : Array Value) : Meets (Builtin.«zip.__new__» ⟨[.type "zip", .ref l, .ref m], []⟩) (fun _ R s => s.heap.IsTuple l xs ∧ s.heap.IsList m ys ∧ R (.ok (.ret (.ref (zm4 s.heap l m).objs.size))) { s with heap := zm5 s.heap l m }) :=
  .of_wp fun prog w A R s h => by
    obtain ⟨hp, g, d, tk, os⟩ := s
    obtain ⟨a1, a2, h⟩ := h
    have b0 := sub_zip
    have b1 : Heap.IsTuple (Shared.heap ⟨hp, g, d, tk, os⟩) l xs := a1
    have b2 : Heap.IsList (Shared.heap ⟨zm1 hp l, g, d, tk, os⟩) m ys := Heap.IsList.push a2 _
    wp_walk using wpAny_pyIter_tuple b1, wpAny_pyIter_list b2
    exact ⟨_, rfl, h⟩
section
variable {prog : Program} {w : World} {A : Around} {E : Value → Shared → Prop} {s : Shared}
theorem call_zipM {l m : Addr} {xs ys : Array Value} {Q : Value → Shared → Prop} (a1 : s.heap.IsTuple l xs) (a2 : s.heap.IsList m ys)
    (h : ∀ g, ZS (s.heap.objs.size + 4) (s.heap.objs.size + 2) (s.heap.objs.size + 3) s.heap.objs.size (s.heap.objs.size + 1) l m .none .none (fun k g => g.IsTupleIter s.heap.objs.size l k ∧ g.IsTuple l xs) (fun k g => g.IsListIter (s.heap.objs.size + 1) m k ∧ g.IsList m ys) 0 0 .none g → (∀ c o, s.heap.get? c = some o → g.get? c = some o) → Q (.ref (s.heap.objs.size + 4)) { s with heap := g }) :
    wpAny (model prog w) A (call (.type "zip") [.ref l, .ref m]) Q E s := by
  refine callType_new F.called_zip (by decide) (F.typeCall_zip_2 _ _) (F.newCall_zip_2 _ _) (fun obj => F.args_object_init_3 obj _ _) F.entry_zip_new (new_zipM l m xs ys) ⟨a1, a2, ?_⟩
  have z1 : (zm1 s.heap l).objs.size = s.heap.objs.size + 1 := Heap.size_push ..
  have z2 : (zm2 s.heap l m).objs.size = s.heap.objs.size + 2 := by rw [Heap.size_push, z1]
  have z3 : (zm3 s.heap l m).objs.size = s.heap.objs.size + 3 := by rw [Heap.size_push, z2]
  have z4 : (zm4 s.heap l m).objs.size = s.heap.objs.size + 4 := by rw [Heap.size_push, z3]
  have n5 : (zm5 s.heap l m).get? (zm4 s.heap l m).objs.size = some _ := Heap.get?_push_size _ rfl
  have n4 : (zm5 s.heap l m).get? (zm3 s.heap l m).objs.size = some _ := Heap.get?_push_of_some _ (Heap.get?_push_size _ rfl)
  have n3 : (zm5 s.heap l m).get? (zm2 s.heap l m).objs.size = some _ := Heap.get?_push_of_some _ (Heap.get?_push_of_some _ (Heap.get?_push_size _ rfl))
  have n2 : (zm5 s.heap l m).get? (zm1 s.heap l).objs.size = some _ := Heap.get?_push_of_some _ (Heap.get?_push_of_some _ (Heap.get?_push_of_some _ (Heap.get?_push_size _ rfl)))
  have n1 : (zm5 s.heap l m).get? s.heap.objs.size = some _ := Heap.get?_push_of_some _ (Heap.get?_push_of_some _ (Heap.get?_push_of_some _ (Heap.get?_push_of_some _ (Heap.get?_push_size _ rfl))))
  have old : ∀ c o, s.heap.get? c = some o → (zm5 s.heap l m).get? c = some o := fun c o e => Heap.get?_push_of_some _ (Heap.get?_push_of_some _ (Heap.get?_push_of_some _ (Heap.get?_push_of_some _ (Heap.get?_push_of_some _ e))))
  show _ ∧ _
  rw [z2, z3, z4] at n5
  rw [z1, z2] at n3
  rw [z3] at n4
  rw [z1] at n2
  rw [z4]
  exact ⟨⟨_, n5, rfl⟩, h _ ⟨n5, n3, n4, ⟨⟨_, n1, rfl, rfl⟩, a1.at fun o e => old _ o e⟩, ⟨⟨_, n2, rfl, rfl⟩, a2.at fun o e => old _ o e⟩⟩ old⟩
end
def ItzM (K : PySem.W.Frag) (a b : Addr) : It :=
  ⟨fun i H => ∃ (xs ys : List V) (x y : V), SqT K H a xs ∧ SqL K H b ys ∧ xs[i]? = some x ∧ ys[i]? = some y,
    fun i H v H' => ∃ T x y, v = .ref T ∧ H T = none ∧ H' = upd H T (.tup [x, y]) ∧ (∀ xs, SqT K H a xs → xs[i]? = some x) ∧ ∀ ys, SqL K H b ys → ys[i]? = some y,
    fun i H => ∃ xs ys : List V, SqT K H a xs ∧ SqL K H b ys ∧ (xs.length ≤ i ∨ ys.length ≤ i)⟩
/-- as ZS, whatever the two sides hold -/
def ZM (z t u i j l m : Addr) (k : Nat) (g : Heap) : Prop := IsZip g z t u .none ∧ IsPair g t (.ref i) (.ref j) ∧ (∃ a b, IsPair g u a b) ∧ g.IsTupleIter i l k ∧ g.IsListIter j m k
theorem turn_zipM {P : Program} {w : World} {K : PySem.W.Frag} {es : List Expr} {n : Nat} {tp : Pos} {a b z t u i j : Addr} (D : ZipApart z t u i j a b) : Turn P w K (.Tuple es n tp) (ItzM K a b) [z, t, u, i, j] z (ZM z t u i j a b) where
  mem := by simp
  obj := fun k h st c hc => by
    obtain ⟨n1, n2, ⟨x, y, n3⟩, ⟨o1, n4, _, d1⟩, ⟨o2, n5, _, d2⟩⟩ := st
    have e' : c = z ∨ c = t ∨ c = u ∨ c = i ∨ c = j := by simpa using hc
    rcases e' with q | q | q | q | q
    · rw [q]; exact ⟨_, n1, fun v q => nomatch q⟩
    · rw [q]; exact ⟨_, n2, fun v q => nomatch q⟩
    · rw [q]; exact ⟨_, n3, fun v q => nomatch q⟩
    · rw [q]; exact ⟨o1, n4, fun v q => by rw [d1] at q; cases q⟩
    · rw [q]; exact ⟨o2, n5, fun v q => by rw [d2] at q; cases q⟩
  keep := fun k h h' st kk => by
    obtain ⟨n1, n2, ⟨x, y, n3⟩, n4, n5⟩ := st
    exact ⟨kk _ (by simp) _ n1, kk _ (by simp) _ n2, ⟨x, y, kk _ (by simp) _ n3⟩, n4.at fun o q => kk _ (by simp) o q, n5.at fun o q => kk _ (by simp) o q⟩
  item := by
    intro X hP hw hK hc k pins s σ H E I hf st hg
    subst hP hw hK
    obtain ⟨n1, n2, ⟨x0, y0, n3⟩, n4, n5⟩ := st
    obtain ⟨xs, ys, x, y, hqx, hqy, hx, hy⟩ := hg
    obtain ⟨its, rv, p, _⟩ := I.tuple hqx
    obtain ⟨its2, rv2, p2, _⟩ := I.list hqy
    obtain ⟨v1, hv1, ru⟩ := rv.get hx
    obtain ⟨v2, hv2, ru2⟩ := rv2.get hy
    have zl : z < s.heap.objs.size := Heap.lt_size n1
    have S : ZS z t u i j a b x0 y0 (fun k g => g.IsTupleIter i a k ∧ g.IsTuple a its.toArray) (fun k g => g.IsListIter j b k ∧ g.IsList b its2.toArray) k k .none s.heap := ⟨n1, n2, n3, ⟨n4, p⟩, ⟨n5, p2.isList⟩⟩
    refine nextG_item (nx_tup D.l1i1) (nx_list D.l2i2) D S (x := v1) (y := v2) (by simpa using hv1) (by simpa using hv2) fun g S2 hT hsz hk => ?_
    refine ⟨_, rfl, wpAny_letOwnedTupleGo_zip (s := { s with heap := g }) S2.hz fun g2 z2 sb => ?_⟩
    have hT2 : g2.get? s.heap.objs.size = some { cls := .type "tuple", data := .seq #[v1, v2] } := (sb.2 _ (Nat.ne_of_gt zl)).trans hT
    have new : ObjOk X.prog X.w (upd H s.heap.objs.size (.tup [x, y])) g2 s.heap.objs.size (.tup [x, y]) := ⟨by show 2 ≤ sizeLine; decide, [v1, v2], .cons ru (.cons ru2 .nil), ⟨_, hT2, rfl, _, rfl⟩⟩
    have I1 : Inv X pins σ (upd H s.heap.objs.size (.tup [x, y])) { s with heap := g2 } :=
      I.turnedNew (t' := s.toks) (ch := [z, t, u, i, j]) (fun c o hb q => (sb.2 c (fun q' => hb (by simp [q']))).trans (hk c o (fun q' => hb (by simp [q'])) (fun q' => hb (by simp [q'])) (fun q' => hb (by simp [q'])) (fun q' => hb (by simp [q'])) q)) hf (Nat.le_refl _) new
    refine ⟨.ref s.heap.objs.size, _, I1, rfl, ⟨_, x, y, rfl, I.hok.fresh (Nat.le_refl _), rfl, fun l hl => by rw [I.tuple_inj hl hqx]; exact hx, fun l hl => by rw [I.list_inj hl hqy]; exact hy⟩, ⟨z2, (sb.2 _ D.TIz).trans S2.ht, ⟨v1, v2, (sb.2 _ D.TOz).trans S2.hu⟩, S2.h1.1.at fun o q => (sb.2 _ D.i1z).trans q, S2.h2.1.at fun o q => (sb.2 _ D.i2z).trans q⟩, fun c hcm => ?_⟩
    have hlt : c < s.heap.objs.size := by
      have e' : c = z ∨ c = t ∨ c = u ∨ c = i ∨ c = j := by simpa using hcm
      rcases e' with q | q | q | q | q
      · rw [q]; exact zl
      · rw [q]; exact Heap.lt_size n2
      · rw [q]; exact Heap.lt_size n3
      · rw [q]; obtain ⟨_, e1, _⟩ := n4; exact Heap.lt_size e1
      · rw [q]; obtain ⟨_, e2, _⟩ := n5; exact Heap.lt_size e2
    rw [upd_ne (Nat.ne_of_lt hlt)]
    exact (hf c hcm).1
  done := by
    intro X hP hw hK hc k pins s σ H E I hf st hg
    subst hP hw hK
    obtain ⟨n1, n2, ⟨x0, y0, n3⟩, n4, n5⟩ := st
    obtain ⟨xs, ys, hqx, hqy, hend⟩ := hg
    obtain ⟨its, rv, p, _⟩ := I.tuple hqx
    obtain ⟨its2, rv2, p2, _⟩ := I.list hqy
    have S : ZS z t u i j a b x0 y0 (fun k g => g.IsTupleIter i a k ∧ g.IsTuple a its.toArray) (fun k g => g.IsListIter j b k ∧ g.IsList b its2.toArray) k k .none s.heap := ⟨n1, n2, n3, ⟨n4, p⟩, ⟨n5, p2.isList⟩⟩
    have w1 := rv.length
    have w2 := rv2.length
    refine nextG_end (nx_tup D.l1i1) (nx_list D.l2i2) D S (I.ok.hd hc) ?_ fun g hk => ⟨rfl, I.turnedL (t' := s.toks) (ch := [z, t, u, i, j]) (fun c o hb q =>
      hk c o (fun q' => hb (by simp [q'])) (fun q' => hb (by simp [q'])) (fun q' => hb (by simp [q'])) (fun q' => hb (by simp [q'])) q) hf⟩
    rcases hend with q | q
    · exact .inl (by simp; omega)
    · exact .inr (by simp; omega)
  self := fun A i s Q E st h => wpAny_pyIter_zip st.1 h
def iZipM (K : PySem.W.Frag) (ta : TA) : TI := fun σ H R => ta σ H fun vs H1 => ∃ a b xs ys, vs = [.ref a, .ref b] ∧ SqT K H1 a xs ∧ SqL K H1 b ys ∧ R (ItzM K a b) H1
theorem pi_zipM {X : Cx} {e e2 : Expr} {ta : TA} {p pos tp : Pos} {es : List Expr} {n : Nat} (hg : Gl X "zip") (hm : X.mg "zip" = none) (ha : PA X [e, e2] ta)
    (hs : starEach [e, e2] X.env = (false, eval e X.env) :: starEach [e2] X.env := by rfl) (hpl : (backTo pos (starEach [e2] X.env)).any (·.1) = false := by rfl) :
    PI X (.Tuple es n tp) (.Call (.Name "zip" p) [e, e2] [] pos) (iZipM X.K ta) := by
  refine ⟨fun pins s σ H R I h => ?_⟩
  refine Call_ (ld_blt I hg hm PyProof.Rows.boot_zip (PyProof.Rows.callWith_type1 (thn (ha.run pos pins s σ H _ I h) fun us s1 ⟨vs, H1, I1, r1, q1⟩ => ?_) hs hpl))
  obtain ⟨a, b, xs, ys, rfl, hqx, hqy, q⟩ := q1
  obtain ⟨u1, u2, rfl, ra, rb⟩ := vals2 r1
  cases ra
  cases rb
  obtain ⟨its, rv, p1, _⟩ := I1.tuple hqx
  obtain ⟨its2, rv2, p2, _⟩ := I1.list hqy
  obtain ⟨o1, ho1, _⟩ := id p1
  refine call_zipM (show s1.heap.IsTuple a its.toArray from p1) p2.isList fun g S hk => wpAny_pyIter_zip S.hz ?_
  have I2 : Inv X pins σ H1 { s1 with heap := g } := I1.kept (t' := s1.toks) hk
  refine ⟨s1.heap.objs.size + 4, [s1.heap.objs.size + 4, s1.heap.objs.size + 2, s1.heap.objs.size + 3, s1.heap.objs.size, s1.heap.objs.size + 1], _, _, H1, rfl, I2, turn_zipM (PySem.W.ktu_apart s1.heap.objs.size a b (Heap.lt_size ho1) p2.lt), ⟨S.hz, S.ht, ⟨_, _, S.hu⟩, S.h1.1, S.h2.1⟩, fun c hcm => ?_, q⟩
  have hle : s1.heap.objs.size ≤ c := by
    have e' : c = s1.heap.objs.size + 4 ∨ c = s1.heap.objs.size + 2 ∨ c = s1.heap.objs.size + 3 ∨ c = s1.heap.objs.size ∨ c = s1.heap.objs.size + 1 := by simpa using hcm
    rcases e' with q | q | q | q | q <;> rw [q]
    · exact Nat.le_add_right _ _
    · exact Nat.le_add_right _ _
    · exact Nat.le_add_right _ _
    · exact Nat.le_refl _
    · exact Nat.le_add_right _ _
  exact I1.fpOk hle (I1.hok.fresh hle)
end VL

namespace VL
open PySem PySem.Spec PyProof.Rows L2
section
variable {K : PySem.W.Frag} {it : Item}
theorem itok_zipM {it2 : Item} {d1 d2 : List PyData} (e : it.data = some (.tuple d1)) (hro : roOk it d1) (e2 : it2.data = some (.list d2)) (hro2 : roOk it2 d2) {p q : Addr} : ItOk K (ItzM K p q) [(.ref q, argI it2), (.ref p, argI it)] (zipD d1 d2) where
  fx := fun z hz => by
    rcases List.mem_cons.mp hz with rfl | hz
    · exact argI_fix
    · rw [List.mem_singleton] at hz
      subst hz
      exact argI_fix
  go := fun C σ H env fr i d er hd => by
    obtain ⟨da, db, hda, hdb, rfl⟩ := zipD_get hd
    obtain ⟨G, Fb, Fa, rb, ra, gh, _⟩ := ER.peek2 (show ER K C σ H env ((_, argI it2) :: (_, argI it) :: fr) from er)
    obtain ⟨p', vs, e1, _, h1, hl, h2⟩ := ra.els gh (by rw [e]; rfl) hro
    obtain ⟨q', ws, e1', h1', _, hl', h2'⟩ := rb.els gh (by rw [e2]; rfl) hro2
    cases e1
    cases e1'
    obtain ⟨v, hv, _⟩ := h2 i da hda
    obtain ⟨w, hw, _⟩ := h2' i db hdb
    refine ⟨⟨vs, ws, v, w, h1 e, h1' e2, hv, hw⟩, fun x' H' hy => ?_⟩
    obtain ⟨T, x1, x2, rfl, hT, rfl, hy, hy2⟩ := hy
    refine ER.pair ?_ hT
    have er1 : ER K C σ H env ((x1, elI da) :: ([(.ref q, argI it2), (.ref p, argI it)] ++ fr)) := by
      refine ER.pushG (top := [_, _]) er fun {G' F'} rf gh' => ?_
      cases rf with
      | cons _ rf =>
        cases rf with
        | cons r r0 =>
          obtain ⟨p'', vs', e1', _, h1', hl', h2'⟩ := r.els gh' (by rw [e]; rfl) hro
          cases e1'
          obtain ⟨v', hv', hr'⟩ := h2' i da hda
          have := Option.some.inj ((hy vs' (h1' e)).symm.trans hv')
          rw [this]
          exact hr'
    refine ER.pushG (top := [_, _, _]) er1 fun {G' F'} rf gh' => ?_
    cases rf with
    | cons _ rf =>
      cases rf with
      | cons r r0 =>
        obtain ⟨p'', vs', e1', h1', _, hl', h2'⟩ := r.els gh' (by rw [e2]; rfl) hro2
        cases e1'
        obtain ⟨v', hv', hr'⟩ := h2' i db hdb
        have := Option.some.inj ((hy2 vs' (h1' e2)).symm.trans hv')
        rw [this]
        exact hr'
  stop := fun C σ H env fr i er hd => by
    rw [zipD_len] at hd
    obtain ⟨G, Fb, Fa, rb, ra, gh, _⟩ := ER.peek2 (show ER K C σ H env ((_, argI it2) :: (_, argI it) :: fr) from er)
    obtain ⟨p', vs, e1, _, h1, hl, h2⟩ := ra.els gh (by rw [e]; rfl) hro
    obtain ⟨q', ws, e1', h1', _, hl', h2'⟩ := rb.els gh (by rw [e2]; rfl) hro2
    cases e1
    cases e1'
    exact ⟨vs, ws, h1 e, h1' e2, by omega⟩
end
section
variable {X : Cx} {e e2 : Expr} {p pos tpos : Pos} {elts : List Expr} {kk : Nat} {t : TVA}
def tvIZM (t : TVA) (env : VEnv) (Q : List PyData → VEnv → Prop) : Prop := t env fun its env1 => match its with
  | [it, it2] => match it.data, it2.data with
    | some (.tuple d1), some (.list d2) => stableI it = true ∧ stableI it2 = true ∧ roOk it d1 ∧ roOk it2 d2 ∧ Q (zipD d1 d2) env1
    | _, _ => False
  | _ => False
theorem vi_zipM (hg : Gl X "zip") (hm : X.mg "zip" = none) (ha : VA X [e, e2] t)
    (hs : starEach [e, e2] X.env = (false, eval e X.env) :: starEach [e2] X.env := by rfl) (hpl : (backTo pos (starEach [e2] X.env)).any (·.1) = false := by rfl) : VI X (.Tuple elts kk tpos) (.Call (.Name "zip" p) [e, e2] [] pos) (tvIZM t) :=
  ⟨PIweak (pi_zipM hg hm ha.pa hs hpl) fun σ H Q ⟨C, env, fr, er, q⟩ => ⟨C, env, fr, er, ha.mono _ _ _ (fun its env1 q vs H1 hl er1 => by
      split at q
      · rename_i it it2
        obtain ⟨x, y, rfl⟩ := vs2 hl
        split at q
        · rename_i d1 d2 hd1 hd2
          have er2 : ER X.K C σ H1 env1 ([(y, argI it2), (x, argI it)] ++ fr) := ER.freezeTop (top := [(y, it2), (x, it)]) er1 (List.map fun p => (p.1, argI p.2)) fun {G G' F} r hG hH => ⟨[], r.argS (fun p hp => by
            rcases List.mem_cons.mp hp with rfl | hp
            · exact q.2.1
            · rw [List.mem_singleton] at hp; subst hp; exact q.1) hG hH, .nil _⟩
          obtain ⟨G, Fb, Fa, rb, ra, gh, _⟩ := ER.peek2 er2
          obtain ⟨p', vs, rfl, _, h1, _⟩ := ra.els gh (by rw [hd1]; rfl) q.2.2.1
          obtain ⟨q', ws, rfl, h1', _⟩ := rb.els gh (by rw [hd2]; rfl) q.2.2.2.1
          exact ⟨p', q', vs, ws, rfl, h1 hd1, h1' hd2, q.2.2.2.2 _ _ H1 (itok_zipM hd1 q.2.2.1 hd2 q.2.2.2.1) er2⟩
        · exact q.elim
      · exact q.elim) q⟩, fun env Q Q' h q => ha.mono _ _ _ (fun its env1 q => by
      split at q
      · split at q
        · exact ⟨q.1, q.2.1, q.2.2.1, q.2.2.2.1, h _ _ q.2.2.2.2⟩
        · exact q
      · exact q) q⟩
end
section
variable {X : Cx}
/-! wide numbers -/
variable {e1 e2 : Expr} {ta tb : TVE} {pos : Pos}
abbrev tvDivW (ta tb : TVE) : TVE := tvOp (rvI CDivW fun i j => .int (i / j)) ta tb
theorem ve_divW (ha : VE X e1 ta) (hb : VE X e2 tb) : VE X (.BinOp e1 .FloorDiv e2 pos) (tvDivW ta tb) := ve_op op_fdivW (snd_I fun _ _ => .int _) rvI_mono ha hb
abbrev tvMulW (ta tb : TVE) : TVE := tvOp (rvI CMulW fun i j => .int (i * j)) ta tb
theorem ve_mulW (ha : VE X e1 ta) (hb : VE X e2 tb) : VE X (.BinOp e1 .Mult e2 pos) (tvMulW ta tb) := ve_op op_mulW (snd_I fun _ _ => .int _) rvI_mono ha hb
end
end VL

namespace VL
open PySem PySem.Spec PyProof.Rows L2
/-! what is behind a call or a comprehension is left as it stands until its answer is known -/
structure Tg {α : Sort _} (a : α) : Type where
def callQ (sp : VSp) (its : List Item) (Q : Item → Prop) (_ : Tg Q) : Prop := callI sp its Q
def tvCallQ (sp : VSp) (t : TVA) (env : VEnv) (Q : Item → VEnv → Prop) : Prop := t env fun its env1 => callQ sp its (fun r => Q r env1) ⟨⟩
def lcQ (mc : M) (g : TVG) (tt : TVT) (te : TVE) (vs : List Nat) (ds : List PyData) (env1 : VEnv) (Q : Item → VEnv → Prop) (_ : Tg Q) : Prop := lcP mc g tt te vs ds env1 Q
def tvLcQ (mc : M) (ti : TVI) (g : TVG) (tt : TVT) (te : TVE) (vs : List Nat) (env : VEnv) (Q : Item → VEnv → Prop) : Prop := ti env fun ds env1 => lcQ mc g tt te vs ds env1 Q ⟨⟩
section
variable {X : Cx} {e : Expr} {s : Stmt} {sp : VSp} {t : TVA} {mc : M} {ti : TVI} {g : TVG} {tt : TVT} {te : TVE} {vs : List Nat} {i : Nat}
theorem VE.cq (h : VE X e (tvCall sp t)) : VE X e (tvCallQ sp t) := h
theorem VE.lq (h : VE X e (tvLc mc ti g tt te vs)) : VE X e (tvLcQ mc ti g tt te vs) := h
theorem VS.lq (h : VS X s (tvSet i (tvLc mc ti g tt te vs))) : VS X s (tvSet i (tvLcQ mc ti g tt te vs)) := h
end
end VL

namespace VL
open PySem PySem.Spec PyProof.Rows L2
local macro_rules | `(tactic| walk_at "loc") => `(tactic| first | exact Or.inl rfl | exact Or.inr rfl)
local macro_rules | `(tactic| walk_at "vc") => `(tactic| try simp -dsimp only [↓tvSeq, ↓tvSet, ↓tvRet, ↓tvIf, ↓tvAnd, ↓tvOr, ↓tvNot, ↓tvAndV, ↓tvOrV, ↓tvNotV, ↓tvB, ↓tvC, ↓tvV, ↓tvMv, ↓tvTk, ↓tvOp, ↓tvAdd, ↓tvSub, ↓tvMul, ↓tvMod, ↓tvDiv, ↓tvDivW, ↓tvMulW, ↓tvPow, ↓tvLt, ↓tvLe, ↓tvGt, ↓tvGe, ↓tvEq, ↓tvNe, ↓tvIn, ↓tvNin, ↓tvIs, ↓tvIsn, ↓tvIx,
  ↓rvI, ↓rvI0, ↓rvD, ↓rvIn, ↓rvIs, ↓rvIx, ↓rvCat, ↓rvRep, ↓rLen, ↓rMM, ↓rSumI, ↓rvSumL, ↓rvListOf, ↓rvTupOf, ↓rmApp, ↓rmExt, ↓tvMut, ↓tvNeg, ↓tvAug, ↓tvChain, ↓tvIsi, ↓tvCB, ↓tvCons, ↓tvConsN, ↓tvNil, ↓tvLst, ↓tvTup, ↓tvEmp, ↓tvCall, ↓tvCallQ, ↓tvIfE, ↓tvDrop, wipeE, ↓tvAsg, ↓tvNext, ↓tvBreak, ↓tvCont, ↓tvRetN, ↓tvYes,
  ↓tgName, ↓tgTup, ↓tgCons, ↓tgNil, ↓tvFor, ↓tvWhile, ↓tvLc, ↓tvLcQ, ↓tvIL, ↓tvIT, ↓tvIR1, ↓tvIR2, ↓tvIE, ↓tvIZ, ↓tvIZM, ↓tvRevL, ↓tvSlL, ↓tvPart, ↓tvNo,
  data_dat, data_vw, data_ro, el_roOk, el_datD, stab_dat, stab_vw, stab_ro, roOk_dat, roOk_vw, roOk_ro, nrmL, partsI, M.solid, M.still, M.mut, M.child, M.isA, M.frz, fitC, own', datsL, datD, datM, lub, copyC, newOf, listD, seqD, sideC, childI,
  scD_non, scD_bool, scD_int, scD_str, scD_list, scD_tup, scD_dict, el_non, el_bool, el_int, el_str, el_list, el_tup, el_dict, el_data, el_view, el_nrm, el_out, el_arg, el_stable, arg_dat, arg_vw, arg_ro, view_int, view_bool, view_str, view_non, view_listA, view_listZ, view_listO, view_listF, view_tupA, view_tupZ, view_tupO, view_tupF, view_dictA, view_dictO, view_ro, view_sh,
  nrm_int, nrm_bool, nrm_str, nrm_non, nrm_list, nrm_tup, nrm_dict, nrm_vint, nrm_vbool, nrm_vnon, nrm_vstr, nrm_vlist, nrm_vtup, nrm_vdict, nrm_roint, nrm_rolist, nrm_sh, out_dat, out_ro, sc_ints,
  List.getElem?_cons_zero, List.getElem?_cons_succ, List.set_cons_zero, List.set_cons_succ, List.length_cons, List.length_nil, List.all_cons, List.all_nil, List.map_cons, List.map_nil, Option.bind_some, Option.bind_none, if_true, if_false, Bool.false_eq_true, Bool.and_true, Bool.true_and, Bool.and_self, ite_self, Bool.not_true, Bool.not_false, reduceIte, true_and, and_true, reduceCtorEq, Bool.false_and, Bool.and_false, Bool.or_true, Bool.true_or, Bool.or_false, Bool.false_or])

def topS (i : Nat) : Stmt := PySem.Challenge.pw_wishdeal_k49_covers.main.body.getD i (.Pass ⟨0, 0, 0, 0⟩)
structure TX (mg : Str → Option Value) : Prop where
  b_bool : mg "bool" = none
  b_enumerate : mg "enumerate" = none
  b_int : mg "int" = none
  b_isinstance : mg "isinstance" = none
  b_len : mg "len" = none
  b_list : mg "list" = none
  b_max : mg "max" = none
  b_range : mg "range" = none
  b_sum : mg "sum" = none
  b_tuple : mg "tuple" = none
  b_zip : mg "zip" = none
  x_MOST_THINGS : ∃ t, mg "MOST_THINGS" = some (.int 6 t)
  x_MOST_COPIES : ∃ t, mg "MOST_COPIES" = some (.int 7 t)
  x_MOST_ASKERS : ∃ t, mg "MOST_ASKERS" = some (.int 7 t)
  x_MOST_RANKS : ∃ t, mg "MOST_RANKS" = some (.int 5 t)
/-! data told by plain types -/
def rowD (r : List Int) : PyData := .list (r.map .int)
def ranksD (r : List (List Int)) : PyData := .list (r.map rowD)
def listsD (l : List (List (List Int))) : PyData := .list (l.map ranksD)
def wishD (c : List Int) (l : List (List (List Int))) : PyData := .tuple [rowD c, listsD l]
theorem rowD_eq (r : List Int) : rowD r = .list (r.map .int) := rfl
theorem lay_ints : ∀ r : List Int, PyData.canLayAll0 (r.map .int) = true
  | [] => by simp [PyData.canLayAll0]
  | i :: r => by simp [PyData.canLayAll0, PyData.canLay0, lay_ints r]
theorem dep_ints : ∀ r : List Int, PyData.depthAll (r.map .int) = 0
  | [] => by simp [PyData.depthAll]
  | i :: r => by
    have h := dep_ints r
    simp only [List.map_cons, PyData.depthAll, PyData.depth, h]
    rfl
theorem shaped_int (i : Int) : SeqAt.shaped (.int i) = true := by simp [SeqAt.shaped, PyData.canLay0, PyData.depth]
theorem shaped_row (r : List Int) : SeqAt.shaped (.list (r.map .int)) = true := by
  simp only [SeqAt.shaped, PyData.canLay0, lay_ints, PyData.depth, dep_ints, Bool.true_and]
  rfl
theorem shaped_dict {d : PyData} (h : SeqAt.shaped d = true) : isDict d = false := by
  cases d <;> first | rfl | simp [SeqAt.shaped, PyData.canLay0] at h
theorem shaped_els : ∀ {l : List PyData}, (PyData.canLayAll0 l = true) → ∀ n, PyData.depthAll l ≤ n → ∀ d ∈ l, PyData.canLay0 d = true ∧ d.depth ≤ n
  | [], _, _, _, d, h => nomatch h
  | x :: l, hl, n, hn, d, h => by
    simp only [PyData.canLayAll0, Bool.and_eq_true] at hl
    simp only [PyData.depthAll] at hn
    rcases List.mem_cons.mp h with rfl | h
    · exact ⟨hl.1, by omega⟩
    · exact shaped_els hl.2 n (by omega) d h
theorem shaped_el {l : List PyData} (h : SeqAt.shaped (.list l) = true) {d : PyData} (hd : d ∈ l) : SeqAt.shaped d = true := by
  simp only [SeqAt.shaped, PyData.canLay0, PyData.depth, Bool.and_eq_true] at h ⊢
  have h2 := of_decide_eq_true h.2
  obtain ⟨h3, h4⟩ := shaped_els h.1 64 (by omega) d hd
  exact ⟨h3, decide_eq_true h4⟩
/-- numbers below n, each once, are at most n -/
theorem nodup_le : ∀ (n : Nat) (l : List Int), l.Nodup → (∀ x ∈ l, 0 ≤ x ∧ x < n) → l.length ≤ n
  | 0, [], _, _ => Nat.le_refl _
  | 0, x :: l, _, h => by
    have := h x List.mem_cons_self
    omega
  | n + 1, l, hn, h => by
    by_cases hm : (n : Int) ∈ l
    · have := nodup_le n (l.erase n) (hn.erase _) fun x hx => by
        have h1 := (List.Nodup.mem_erase_iff hn).mp hx
        have h2 := h x h1.2
        omega
      rw [List.length_erase_of_mem hm] at this
      omega
    · have := nodup_le n l hn fun x hx => by
        have h2 := h x hx
        have : x ≠ n := fun e => hm (e ▸ hx)
        omega
      omega
theorem eqv_int (i j : Int) : PyData.eqv (.int i) (.int j) = decide (i = j) := by
  simp only [PyData.eqv]
  by_cases h : i = j
  · subst h; simp
  · rw [decide_eq_false h]; exact beq_eq_false_iff_ne.mpr h
theorem eqvAll_ints : ∀ a b : List Int, PyData.eqvAll (a.map .int) (b.map .int) = decide (a = b)
  | [], [] => by simp [PyData.eqvAll]
  | [], _ :: _ => by simp [PyData.eqvAll]
  | _ :: _, [] => by simp [PyData.eqvAll]
  | x :: a, y :: b => by
    simp only [List.map_cons, PyData.eqvAll, eqvAll_ints a b, eqv_int, List.cons.injEq, Bool.decide_and]
theorem eqv_row (a b : List Int) : PyData.eqv (.list (a.map .int)) (.list (b.map .int)) = decide (a = b) := by
  simp only [PyData.eqv, eqvAll_ints]
theorem any_int (a : List Int) (x : Int) : ((a.map PyData.int).any fun z => PyData.eqv z (.int x)) = decide (x ∈ a) := by
  induction a with
  | nil => rfl
  | cons y a ih =>
    rw [List.map_cons, List.any_cons, ih, eqv_int]
    by_cases h : y = x
    · subst h; simp
    · have h' : ¬ x = y := fun e => h e.symm
      simp [h, h']
theorem getElem?_ints (a : List Int) (i : Nat) : (a.map PyData.int)[i]? = (a[i]?).map PyData.int := List.getElem?_map
theorem small {n : Nat} (h : n ≤ 100000) : n ≤ sizeLine := Nat.le_trans h (by decide)
theorem smallLt {n : Nat} (h : n < 100000) : n < sizeLine := Nat.lt_of_lt_of_le h (by decide)
theorem arg_list {l : List PyData} {m : M} : argI (.dat (.list l) m) = .dat (.list l) .sh := rfl
theorem arg_vlist {l : List PyData} {m : M} : argI (.vw (.list l) m) = .dat (.list l) .sh := rfl
theorem arg_tup {l : List PyData} {m : M} : argI (.dat (.tuple l) m) = .dat (.tuple l) .sh := rfl
theorem arg_vtup {l : List PyData} {m : M} : argI (.vw (.tuple l) m) = .dat (.tuple l) .sh := rfl
def isWhole : PyData → Bool
  | .int _ => true | _ => false
/-- good wishes -/
def rowStep (many : Int) (seen : List Int) (d : PyData) : Option (List Int) := match d with
  | .int i => if 0 ≤ i ∧ i < many ∧ i ∉ seen then some (seen ++ [i]) else none
  | _ => none
def rankStep (many : Int) (seen : List Int) (d : PyData) : Option (List Int) := match d with
  | .list r => if r = [] then none else r.foldlM (rowStep many) seen
  | _ => none
def areRanks (d : PyData) (many : Int) : Bool := match d with
  | .list rs => decide (rs.length ≤ 5) && (rs.foldlM (rankStep many) []).isSome
  | _ => false
def isMany (d : PyData) : Bool := match d with
  | .int i => decide (0 ≤ i) && decide (i ≤ 7)
  | _ => false
structure GoodW (c : List Int) (l : List (List (List Int))) : Prop where
  c1 : 1 ≤ c.length
  c2 : c.length ≤ 6
  cm : ∀ x ∈ c, 0 ≤ x ∧ x ≤ 7
  l1 : 1 ≤ l.length
  l2 : l.length ≤ 7
  lr : ∀ r ∈ l, areRanks (ranksD r) c.length = true
/-- the rows within so many ranks -/
def rowsIn (l : List (List (List Int))) (r : Int) : List (List Int) := l.map fun sm => (sm.take r.toNat).flatten
theorem rowsIn_len (l : List (List (List Int))) (r : Int) : (rowsIn l r).length = l.length := by simp [rowsIn]
theorem shaped_elT {l : List PyData} (h : SeqAt.shaped (.tuple l) = true) {d : PyData} (hd : d ∈ l) : SeqAt.shaped d = true := by
  simp only [SeqAt.shaped, PyData.canLay0, PyData.depth, Bool.and_eq_true] at h ⊢
  have h2 := of_decide_eq_true h.2
  obtain ⟨h3, h4⟩ := shaped_els h.1 64 (by omega) d hd
  exact ⟨h3, decide_eq_true h4⟩
theorem good_flat {c : List Int} {l : List (List (List Int))} (g : GoodW c l) : ∀ sm ∈ l, sm.flatten.length ≤ 6 ∧ sm.flatten.Nodup ∧ ∀ x ∈ sm.flatten, 0 ≤ x ∧ x < c.length := by
  intro sm hsm
  have h := g.lr sm hsm
  simp only [areRanks, ranksD, Bool.and_eq_true] at h
  have h2 := h.2
  have key : ∀ (rs : List (List Int)) (seen s' : List Int), seen.Nodup → (∀ x ∈ seen, 0 ≤ x ∧ x < (c.length : Int)) → (rs.map rowD).foldlM (rankStep c.length) seen = some s' → s' = seen ++ rs.flatten ∧ s'.Nodup ∧ ∀ x ∈ s', 0 ≤ x ∧ x < (c.length : Int) := by
    intro rs
    induction rs with
    | nil =>
      intro seen s' h1 h2 h
      simp at h
      subst h
      simp [h1]
      exact h2
    | cons r rs ih =>
      intro seen s' h1 h2 h
      rw [List.map_cons, List.foldlM_cons] at h
      have hrow : ∀ (row : List Int) (seen s1 : List Int), seen.Nodup → (∀ x ∈ seen, 0 ≤ x ∧ x < (c.length : Int)) → (row.map PyData.int).foldlM (rowStep c.length) seen = some s1 → s1 = seen ++ row ∧ s1.Nodup ∧ ∀ x ∈ s1, 0 ≤ x ∧ x < (c.length : Int) := by
        intro row
        induction row with
        | nil => intro seen s1 h1 h2 h; simp at h; subst h; simp [h1]; exact h2
        | cons x row ih2 =>
          intro seen s1 h1 h2 h
          rw [List.map_cons, List.foldlM_cons] at h
          by_cases q : 0 ≤ x ∧ x < (c.length : Int) ∧ x ∉ seen
          · have e : rowStep c.length seen (.int x) = some (seen ++ [x]) := by simp only [rowStep]; rw [if_pos q]
            rw [e] at h
            obtain ⟨a1, a2, a3⟩ := ih2 (seen ++ [x]) s1 (by
              rw [List.nodup_append]
              exact ⟨h1, by simp, fun a ha b hb e => by
                rw [List.mem_singleton] at hb
                exact q.2.2 (by rw [← hb, ← e]; exact ha)⟩) (fun y hy => by
              rcases List.mem_append.mp hy with z | z
              · exact h2 y z
              · rw [List.mem_singleton] at z; subst z; exact ⟨q.1, q.2.1⟩) h
            exact ⟨by rw [a1]; simp, a2, a3⟩
          · have e : rowStep c.length seen (.int x) = none := by simp only [rowStep]; rw [if_neg q]
            rw [e] at h
            cases h
      by_cases hr : r = []
      · subst hr
        simp [rankStep, rowD] at h
      · have e : rankStep c.length seen (rowD r) = (r.map PyData.int).foldlM (rowStep c.length) seen := by simp [rankStep, rowD, hr]
        rw [e] at h
        cases q : (r.map PyData.int).foldlM (rowStep c.length) seen with
        | none => rw [q] at h; cases h
        | some s1 =>
          rw [q] at h
          obtain ⟨a1, a2, a3⟩ := hrow r seen s1 h1 h2 q
          obtain ⟨b1, b2, b3⟩ := ih s1 s' a2 a3 h
          exact ⟨by rw [b1, a1]; simp, b2, b3⟩
  cases q : (sm.map rowD).foldlM (rankStep c.length) [] with
  | none => rw [q] at h2; cases h2
  | some s' =>
    obtain ⟨a1, a2, a3⟩ := key sm [] s' List.nodup_nil (fun _ h => nomatch h) q
    rw [List.nil_append] at a1
    subst a1
    have := nodup_le c.length _ a2 a3
    have := g.c2
    exact ⟨by omega, a2, a3⟩
theorem forP_range {g : TVG} {tb : TVS} {D : VEnds} {env1 : VEnv} (n : Nat) (P : Nat → VEnv → Prop) (h0 : P 0 env1)
    (hs : ∀ i (_ : i < n) env, P i env → g (.dat (.int (i : Nat)) .A) env fun env2 => tb { D with nx := P (i + 1), ct := P (i + 1), bk := D.nx } env2) (hd : ∀ env, P n env → D.nx env) : forP g tb D (rangeD 0 1 n) env1 := by
  refine forP_ind P h0 (fun i d env hi hP => ?_) fun env hP => hd env (by rw [rangeD_len] at hP; exact hP)
  obtain ⟨h1, h2⟩ := rangeD_get hi
  have e : (0 : Int) + (i : Nat) * 1 = (i : Nat) := by omega
  rw [e] at h2
  subst h2
  exact hs i h1 env hP
theorem forP_enum {α : Type} {enc0 : α → PyData} {g : TVG} {tb : TVS} {D : VEnds} {env1 : VEnv} {xs : List α} (P : Nat → VEnv → Prop) (h0 : P 0 env1)
    (hs : ∀ i (h : i < xs.length) env, P i env → g (.dat (.tuple [.int (i : Nat), enc0 xs[i]]) .sh) env fun env2 => tb { D with nx := P (i + 1), ct := P (i + 1), bk := D.nx } env2) (hd : ∀ env, P xs.length env → D.nx env) : forP g tb D (enumD (xs.map enc0)) env1 := by
  refine forP_ind P h0 (fun i d env hi hP => ?_) fun env hP => hd env (by rw [enumD_len, List.length_map] at hP; exact hP)
  obtain ⟨d0, hd0, rfl⟩ := enumD_get hi
  rw [List.getElem?_map] at hd0
  obtain ⟨x, hx, rfl⟩ := Option.map_eq_some_iff.mp hd0
  obtain ⟨h1, h2⟩ := List.getElem?_eq_some_iff.mp hx
  subst h2
  exact hs i h1 env hP
theorem atI_int (xs : List Int) (k : Nat) (h : k < xs.length) : atI (xs.map PyData.int) (k : Nat) = some (.int xs[k]) := by
  rw [atI_ofNat, List.getElem?_map, List.getElem?_eq_getElem h]
  rfl
theorem atI_row {α : Type} (enc : α → PyData) (xs : List α) (k : Nat) (h : k < xs.length) : atI (xs.map enc) (k : Nat) = some (enc xs[k]) := by
  rw [atI_ofNat, List.getElem?_map, List.getElem?_eq_getElem h]
  rfl
theorem emod_range (a : Int) {j : Int} (h : 0 < j) : 0 ≤ a % j ∧ a % j < j := ⟨Int.emod_nonneg _ (by omega), Int.emod_lt_of_pos _ h⟩
theorem small_l {i j : Int} (h : -(2 ^ 64) < i ∧ i < 2 ^ 64) : CMul i j := .inl h
theorem small_r {i j : Int} (h : -(2 ^ 64) < j ∧ j < 2 ^ 64) : CMul i j := .inr h
theorem map_snoc (f : Int → PyData) (a : List Int) (x : Int) : a.map f ++ [f x] = (a ++ [x]).map f := by rw [List.map_append]; rfl
theorem rangeD_map (n : Nat) : rangeD 0 1 n = (List.range n).map fun k : Nat => PyData.int (k : Nat) := by
  unfold rangeD
  refine List.map_congr_left fun k _ => ?_
  congr 1
  omega
theorem lcP_map {α β : Type} (enc : α → PyData) (enc2 : β → PyData) (xs : List α) (f : α → Option β) {mc : M} {g : TVG} {tt : TVT} {te : TVE} {vs : List Nat} {env1 : VEnv} {Q : Item → VEnv → Prop} (hl : xs.length ≤ 100000)
    (hs : ∀ x ∈ xs, ∀ (acc : List PyData) (P : List PyData → Prop), acc.length < sizeLine → (∀ y, f x = some y → P (acc ++ [enc2 y])) → (f x = none → P acc) → g (elI (enc x)) (wipeE env1 vs) fun env2 => tt env2 fun b env3 => if b = true then te env3 fun it env4 => (match (nrm it).bind (fitC mc) with
      | some d' => acc.length < sizeLine ∧ wipeE env4 vs = wipeE env1 vs ∧ P (acc ++ [d'])
      | none => False) else wipeE env3 vs = wipeE env1 vs ∧ P acc)
    (hd : Q (.dat (.list ((xs.filterMap f).map enc2)) (own' mc)) (wipeE env1 vs)) : lcP mc g tt te vs (xs.map enc) env1 Q := by
  refine ⟨fun i acc => acc = ((xs.take i).filterMap f).map enc2, rfl, fun i d acc hi e => ?_, fun acc e => ?_⟩
  · rw [List.getElem?_map] at hi
    obtain ⟨x, hx, rfl⟩ := Option.map_eq_some_iff.mp hi
    have hlt : i < xs.length := (List.getElem?_eq_some_iff.mp hx).1
    subst e
    have h1 : (((xs.take i).filterMap f).map enc2).length < sizeLine := by
      rw [List.length_map]
      refine smallLt (Nat.lt_of_le_of_lt (List.length_filterMap_le _ _) ?_)
      rw [List.length_take]
      omega
    refine hs x (List.mem_of_getElem? hx) _ (fun a => a = ((xs.take (i + 1)).filterMap f).map enc2) h1 (fun y hy => ?_) fun hn => ?_
    · rw [List.take_add_one, hx]
      simp [hy]
    · rw [List.take_add_one, hx]
      simp [hn]
  · rw [List.length_map, List.take_length] at e
    subst e
    exact hd
theorem rep_ints (k : Nat) (x : Int) : (List.replicate k [PyData.int x]).flatten = (List.replicate k x).map PyData.int := by
  induction k with
  | zero => rfl
  | succ k ih => rw [List.replicate_succ, List.flatten_cons, ih, List.replicate_succ, List.map_cons]; rfl
theorem sIx_at (n d k : Nat) (h : k ≤ n) : HT.sIx n d (some (k : Int)) = k := by
  rw [HT.sIx_nat]
  omega
theorem cutD_ints (xs : List Int) (lo hi : Option Int) : cutD (xs.map PyData.int) lo hi = ((xs.drop (HT.sIx xs.length 0 lo)).take (HT.sIx xs.length xs.length hi - HT.sIx xs.length 0 lo)).map PyData.int := by
  unfold cutD
  rw [List.length_map, List.map_take, List.map_drop]
theorem atI_in (c : List Int) (j : Int) (h : 0 ≤ j ∧ j < c.length) : atI (c.map PyData.int) j = some (.int (c.getD j.toNat 0)) := by
  have e : ((j.toNat : Nat) : Int) = j := by omega
  have h2 : atI (c.map PyData.int) ((j.toNat : Nat) : Int) = some (.int (c.getD j.toNat 0)) := by
    rw [atI_ofNat, List.getElem?_map, List.getD_eq_getElem?_getD, List.getElem?_eq_getElem (by omega)]
    rfl
  rw [e] at h2
  exact h2
theorem fm_some' {α β : Type} (f : α → β) (l : List α) : l.filterMap (fun x => some (f x)) = l.map f := by
  induction l with
  | nil => rfl
  | cons x l ih => rw [List.filterMap_cons, ih]; rfl
theorem cut_nat (xs : List Int) (a b : Nat) (h : a ≤ b) (hb : b ≤ xs.length) {i j : Int} (hi : i = a) (hj : j = b) : cutD (xs.map PyData.int) (some i) (some j) = ((xs.drop a).take (b - a)).map PyData.int := by
  subst hi hj
  rw [cutD_ints, sIx_at _ 0 a (by omega), sIx_at _ _ b hb]
theorem all_ints (xs : List Int) : (xs.map PyData.int).all scalarD = true := by
  induction xs with
  | nil => rfl
  | cons x xs ih => rw [List.map_cons, List.all_cons, ih]; rfl
theorem forP_range1 {g : TVG} {tb : TVS} {D : VEnds} {env1 : VEnv} {lo : Int} (n : Nat) (P : Nat → VEnv → Prop) (h0 : P 0 env1)
    (hs : ∀ i (_ : i < n) env, P i env → g (.dat (.int (lo + (i : Nat))) .A) env fun env2 => tb { D with nx := P (i + 1), ct := P (i + 1), bk := D.nx } env2) (hd : ∀ env, P n env → D.nx env) : forP g tb D (rangeD lo 1 n) env1 := by
  refine forP_ind P h0 (fun i d env hi hP => ?_) fun env hP => hd env (by rw [rangeD_len] at hP; exact hP)
  obtain ⟨h1, h2⟩ := rangeD_get hi
  have e : lo + (i : Nat) * 1 = lo + (i : Nat) := by omega
  rw [e] at h2
  subst h2
  exact hs i h1 env hP
theorem nat_of {i : Int} (h : 0 ≤ i) : ∃ n : Nat, i = n := ⟨i.toNat, by omega⟩
theorem map_app1 {α : Type} (f : α → PyData) (a : List α) (x : α) : (a ++ [x]).map f = a.map f ++ [f x] := by rw [List.map_append]; rfl
theorem rows_app (rs : List (List Int)) (row : List Int) : (rs ++ [row]).map rowD = rs.map rowD ++ [.list (row.map .int)] := by
  rw [map_app1]
  rfl
theorem atI_m2 {α : Type} (xs : List α) (h : 2 ≤ xs.length) : atI xs (-2) = xs[xs.length - 2]? := by
  unfold atI ixN
  rw [if_neg (by decide), if_pos (by omega)]
  show xs[(-2 + (xs.length : Int)).toNat]? = _
  congr 1
  omega
theorem take_len {α : Type} (xs : List α) (a b : Nat) : ((xs.drop a).take b).length ≤ xs.length := by
  rw [List.length_take, List.length_drop]
  omega
theorem cut_any (xs : List Int) (lo hi : Option Int) : ∃ ys : List Int, ys.length ≤ xs.length ∧ cutD (xs.map PyData.int) lo hi = ys.map PyData.int := ⟨_, take_len _ _ _, cutD_ints xs lo hi⟩
theorem shaped_pair (a b : List Int) : SeqAt.shaped (.tuple [rowD a, rowD b]) = true := by
  simp only [SeqAt.shaped, PyData.canLay0, PyData.canLayAll0, rowD, lay_ints, PyData.depth, PyData.depthAll, dep_ints, Bool.true_and, Bool.and_true]
  rfl
theorem eqv_pair (a b : List Int) : PyData.eqv (.tuple [rowD a, rowD b]) (.tuple [rowD a, rowD b]) = true := SeqAt.eqv_refl _ (lay_of (shaped_pair a b))
theorem shaped_bool (b : Bool) : SeqAt.shaped (.bool b) = true := by simp [SeqAt.shaped, PyData.canLay0, PyData.depth]
theorem eqv_bool (b : Bool) : PyData.eqv (.bool b) (.bool b) = true := by simp [PyData.eqv]

abbrev s_is_whole : Stmt := topS 4
theorem sc_is_whole : FnScope ["thing"] ["thing"] (defScope s_is_whole) := ⟨rfl, rfl, rfl, by decide +kernel, rfl, by decide +kernel, by decide +kernel⟩
def sp_is_whole : VSp := fun its Q => ∃ d, its = [elI d] ∧ isDict d = false ∧ Q (.dat (.bool (isWhole d)) .A)
theorem mono_is_whole : MonoSp sp_is_whole := fun its Q Q' h ⟨d, e, hd, q⟩ => ⟨d, e, hd, h _ q⟩
theorem use_is_whole {a : Item} {d : PyData} (h : argI a = elI d) (hd : isDict d = false) {Q : Item → Prop} (q : Q (.dat (.bool (isWhole d)) .A)) : callI sp_is_whole [a] Q :=
  callI_any mono_is_whole ⟨d, by rw [List.map_cons, h]; rfl, hd, ⟨_, rfl⟩, q⟩
theorem ok_is_whole {P : Program} {w : World} {K : PySem.W.Frag} {mg : Str → Option Value} {base : Heap} (T : TX mg) (D : FD K mg "is_whole" s_is_whole ["thing"]) : Cal P w K mg base "is_whole" ["thing"] 1 sp_is_whole := by
  have sc := sc_is_whole
  have nd := sc.nd
  refine vdef D sc mono_is_whole (fun its Q ⟨d, e, _⟩ => by rw [e]; rfl) fun f cdv A outer s H E hr => ?_
  refine ⟨_, (vss_one (vs_ret (VE.vm (ve_and (ve_isi (T := "int") (by decide) rfl T.b_isinstance rfl T.b_int (by decide +kernel) (vv 0)) (ve_one (ve_not (ve_isi (T := "bool") (by decide) rfl T.b_isinstance rfl T.b_bool (by decide +kernel) (vv 0)))))))), fun its Q hs => ?_⟩
  obtain ⟨d, rfl, hd, q⟩ := hs
  show tvRet _ _ [some (elI d)]
  walk_at "vc"
  refine ⟨hd, ?_⟩
  cases d <;> first | exact q | exact ⟨hd, q⟩ | (simp only [isTy, Bool.false_eq_true, if_false, if_true]; first | exact q | exact ⟨hd, q⟩)

abbrev s_need_row : Stmt := topS 10
theorem sc_need_row : FnScope ["part", "thing", "most"] ["part", "thing", "most"] (defScope s_need_row) := ⟨rfl, rfl, rfl, by decide +kernel, rfl, by decide +kernel, by decide +kernel⟩
def sp_need_row : VSp := fun its Q => ∃ (p : Str) (l : List PyData) (n : Int), its = [.dat (.str p) .A, .dat (.list l) .sh, .dat (.int n) .A] ∧ 1 ≤ l.length ∧ (l.length : Int) ≤ n ∧ Q (.dat .none .A)
theorem mono_need_row : MonoSp sp_need_row := fun its Q Q' h ⟨p, l, n, e, h1, h2, q⟩ => ⟨p, l, n, e, h1, h2, h _ q⟩
theorem use_need_row {a b c : Item} {p : Str} {l : List PyData} {n : Int} (ha : argI a = .dat (.str p) .A) (hb : argI b = .dat (.list l) .sh) (hc : argI c = .dat (.int n) .A) (h1 : 1 ≤ l.length) (h2 : (l.length : Int) ≤ n) {Q : Item → Prop} (q : Q (.dat .none .A)) : callI sp_need_row [a, b, c] Q :=
  callI_any mono_need_row ⟨p, l, n, by rw [List.map_cons, List.map_cons, List.map_cons, ha, hb, hc]; rfl, h1, h2, ⟨_, rfl⟩, q⟩
theorem ok_need_row {P : Program} {w : World} {K : PySem.W.Frag} {mg : Str → Option Value} {base : Heap} (T : TX mg) (D : FD K mg "need_row" s_need_row ["part", "thing", "most"]) : Cal P w K mg base "need_row" ["part", "thing", "most"] 1 sp_need_row := by
  have sc := sc_need_row
  have nd := sc.nd
  refine vdef D sc mono_need_row (fun its Q ⟨p, l, n, e, _⟩ => by rw [e]; rfl) fun f cdv A outer s H E hr => ?_
  refine ⟨_, (vss_one (vs_if (VT.vn (VW.vt (vw_or (vt_not (vt_val (ve_isi (T := "list") (by decide) rfl T.b_isinstance rfl T.b_list (by decide +kernel) (vv 1)))) (vw_or1 (vt_not (vt_chain_le_le ve_int (ve_callB call_len_seq snd_len rLen_mono rfl T.b_len (by decide +kernel) (va_cons (vv 1) va_nil)) (vv 2)))))))
       (vss_one vs_never)
       vss_nil)), fun its Q hs => ?_⟩
  obtain ⟨p, l, n, rfl, h1, h2, q⟩ := hs
  show tvIf _ _ _ _ [some (.dat (.str p) .A), some (.dat (.list l) .sh), some (.dat (.int n) .A)]
  walk_at "vc"
  refine ⟨rfl, ?_⟩
  simp only [isTy, if_true, Bool.not_true, Bool.false_eq_true, if_false]
  rw [if_pos (decide_eq_true (by omega)), decide_eq_true h2]
  exact q

abbrev s_is_many : Stmt := topS 11
theorem sc_is_many : FnScope ["thing"] ["thing"] (defScope s_is_many) := ⟨rfl, rfl, rfl, by decide +kernel, rfl, by decide +kernel, by decide +kernel⟩
def sp_is_many : VSp := fun its Q => ∃ d, its = [elI d] ∧ isDict d = false ∧ Q (.dat (.bool (isMany d)) .A)
theorem mono_is_many : MonoSp sp_is_many := fun its Q Q' h ⟨d, e, hd, q⟩ => ⟨d, e, hd, h _ q⟩
theorem use_is_many {a : Item} {d : PyData} (h : argI a = elI d) (hd : isDict d = false) {Q : Item → Prop} (q : Q (.dat (.bool (isMany d)) .A)) : callI sp_is_many [a] Q :=
  callI_any mono_is_many ⟨d, by rw [List.map_cons, h]; rfl, hd, ⟨_, rfl⟩, q⟩
theorem ok_is_many {P : Program} {w : World} {K : PySem.W.Frag} {mg : Str → Option Value} {base : Heap} (T : TX mg) (D : FD K mg "is_many" s_is_many ["thing"]) (C_is_whole : Cal P w K mg base "is_whole" ["thing"] 1 sp_is_whole) : Cal P w K mg base "is_many" ["thing"] 2 sp_is_many := by
  obtain ⟨_, c_MOST_COPIES⟩ := T.x_MOST_COPIES
  have sc := sc_is_many
  have nd := sc.nd
  refine vdef D sc mono_is_many (fun its Q ⟨d, e, _⟩ => by rw [e]; rfl) fun f cdv A outer s H E hr => ?_
  refine ⟨_, (vss_one (vs_ret (VE.vm (ve_and (VE.cq (vcall C_is_whole (hr.mono (by decide)) rfl (va_cons (vv 0) va_nil))) (ve_one (ve_chain_le_le ve_int (vv 0) (ve_gint rfl c_MOST_COPIES))))))), fun its Q hs => ?_⟩
  obtain ⟨d, rfl, hd, q⟩ := hs
  show tvRet _ _ [some (elI d)]
  walk_at "vc"
  refine use_is_whole el_arg hd ?_
  walk_at "vc"
  cases d <;> simp only [isWhole] <;> walk_at "vc" <;> try exact q
  rename_i i
  by_cases h : 0 ≤ i
  · rw [if_pos (decide_eq_true h)]
    have : isMany (.int i) = decide (i ≤ 7) := by simp [isMany, h]
    rw [this] at q
    exact q
  · rw [if_neg (by simpa using h)]
    have : isMany (.int i) = false := by simp [isMany, h]
    rw [this] at q
    exact q

abbrev s_is_thing : Stmt := topS 12
theorem sc_is_thing : FnScope ["thing", "many"] ["thing", "many"] (defScope s_is_thing) := ⟨rfl, rfl, rfl, by decide +kernel, rfl, by decide +kernel, by decide +kernel⟩
def isThing (d : PyData) (n : Int) : Bool := match d with
  | .int i => decide (0 ≤ i) && decide (i < n)
  | _ => false
def sp_is_thing : VSp := fun its Q => ∃ d n, its = [elI d, .dat (.int n) .A] ∧ isDict d = false ∧ Q (.dat (.bool (isThing d n)) .A)
theorem mono_is_thing : MonoSp sp_is_thing := fun its Q Q' h ⟨d, n, e, hd, q⟩ => ⟨d, n, e, hd, h _ q⟩
theorem use_is_thing {a b : Item} {d : PyData} {n : Int} (h : argI a = elI d) (hb : argI b = .dat (.int n) .A) (hd : isDict d = false) {Q : Item → Prop} (q : Q (.dat (.bool (isThing d n)) .A)) : callI sp_is_thing [a, b] Q :=
  callI_any mono_is_thing ⟨d, n, by rw [List.map_cons, List.map_cons, h, hb]; rfl, hd, ⟨_, rfl⟩, q⟩
theorem ok_is_thing {P : Program} {w : World} {K : PySem.W.Frag} {mg : Str → Option Value} {base : Heap} (T : TX mg) (D : FD K mg "is_thing" s_is_thing ["thing", "many"]) (C_is_whole : Cal P w K mg base "is_whole" ["thing"] 1 sp_is_whole) : Cal P w K mg base "is_thing" ["thing", "many"] 2 sp_is_thing := by
  have sc := sc_is_thing
  have nd := sc.nd
  refine vdef D sc mono_is_thing (fun its Q ⟨d, n, e, _⟩ => by rw [e]; rfl) fun f cdv A outer s H E hr => ?_
  refine ⟨_, (vss_one (vs_ret (VE.vm (ve_and (VE.cq (vcall C_is_whole (hr.mono (by decide)) rfl (va_cons (vv 0) va_nil))) (ve_one (ve_chain_le_lt ve_int (vv 0) (vv 1))))))), fun its Q hs => ?_⟩
  obtain ⟨d, n, rfl, hd, q⟩ := hs
  show tvRet _ _ [some (elI d), some (.dat (.int n) .A)]
  walk_at "vc"
  refine use_is_whole el_arg hd ?_
  walk_at "vc"
  cases d <;> simp only [isWhole] <;> walk_at "vc" <;> try exact q
  rename_i i
  by_cases h : 0 ≤ i
  · rw [if_pos (decide_eq_true h)]
    have : isThing (.int i) n = decide (i < n) := by simp [isThing, h]
    rw [this] at q
    exact q
  · rw [if_neg (by simpa using h)]
    have : isThing (.int i) n = false := by simp [isThing, h]
    rw [this] at q
    exact q

abbrev s_are_ranks : Stmt := topS 13
theorem sc_are_ranks : FnScope ["thing", "many", "seen", "rank", "one"] ["thing", "many"] (defScope s_are_ranks) := ⟨rfl, rfl, rfl, by decide +kernel, rfl, by decide +kernel, by decide +kernel⟩
def sp_are_ranks : VSp := fun its Q => ∃ d n, its = [elI d, .dat (.int n) .A] ∧ SeqAt.shaped d = true ∧ n ≤ 1000 ∧ Q (.dat (.bool (areRanks d n)) .A)
theorem mono_are_ranks : MonoSp sp_are_ranks := fun its Q Q' h ⟨d, n, e, hd, hn, q⟩ => ⟨d, n, e, hd, hn, h _ q⟩
theorem use_are_ranks {a b : Item} {d : PyData} {n : Int} (h : argI a = elI d) (hb : argI b = .dat (.int n) .A) (hd : SeqAt.shaped d = true) (hn : n ≤ 1000) {Q : Item → Prop} (q : Q (.dat (.bool (areRanks d n)) .A)) : callI sp_are_ranks [a, b] Q :=
  callI_any mono_are_ranks ⟨d, n, by rw [List.map_cons, List.map_cons, h, hb]; rfl, hd, hn, ⟨_, rfl⟩, q⟩
theorem rowStep_in {n : Int} {seen s' : List Int} {d : PyData} (h : rowStep n seen d = some s') (hs : seen.Nodup ∧ ∀ x ∈ seen, 0 ≤ x ∧ x < n) : s'.Nodup ∧ ∀ x ∈ s', 0 ≤ x ∧ x < n := by
  cases d <;> try cases h
  rename_i i
  simp only [rowStep] at h
  split at h
  · rename_i q
    cases h
    refine ⟨?_, fun x hx => ?_⟩
    · rw [List.nodup_append]
      exact ⟨hs.1, by simp, fun a ha b hb e => by
        rw [List.mem_singleton] at hb
        exact q.2.2 (by rw [← hb, ← e]; exact ha)⟩
    · rcases List.mem_append.mp hx with z | z
      · exact hs.2 x z
      · rw [List.mem_singleton] at z
        subst z
        exact ⟨q.1, q.2.1⟩
  · cases h
theorem seen_small {n : Int} {seen : List Int} (hn : n ≤ 1000) (hs : seen.Nodup ∧ ∀ x ∈ seen, 0 ≤ x ∧ x < n) : seen.length < sizeLine := by
  have h := nodup_le 1000 seen hs.1 fun x hx => by
    have := hs.2 x hx
    omega
  exact smallLt (by omega)
theorem ok_are_ranks {P : Program} {w : World} {K : PySem.W.Frag} {mg : Str → Option Value} {base : Heap} (T : TX mg) (D : FD K mg "are_ranks" s_are_ranks ["thing", "many"]) (C_is_thing : Cal P w K mg base "is_thing" ["thing", "many"] 2 sp_is_thing) : Cal P w K mg base "are_ranks" ["thing", "many"] 3 sp_are_ranks := by
  obtain ⟨_, c_MOST_RANKS⟩ := T.x_MOST_RANKS
  have sc := sc_are_ranks
  have nd := sc.nd
  refine vdef D sc mono_are_ranks (fun its Q ⟨d, n, e, _⟩ => by rw [e]; rfl) fun f cdv A outer s H E hr => ?_
  refine ⟨_, (vss_cons (vs_if (VT.vn (VW.vt (vw_or (vt_not (vt_val (ve_isi (T := "list") (by decide) rfl T.b_isinstance rfl T.b_list (by decide +kernel) (vv 0)))) (vw_or1 (vt_gt (ve_callB call_len_seq snd_len rLen_mono rfl T.b_len (by decide +kernel) (va_cons (vv 0) va_nil)) (ve_gint rfl c_MOST_RANKS))))))
       (vss_one (vs_ret (VE.vm ve_bl)))
       vss_nil)
      (vss_cons (vs_set (i := 2) sc.nd rfl (by walk_at "loc") (VE.vm (ve_emp .A)))
      (vss_cons (vs_for PassesOwn.never rfl (vi_list (vmv 0)) (vg_name (i := 3) sc.nd rfl (by walk_at "loc"))
       (vss_cons (vs_if (VT.vn (VW.vt (vw_or (vt_not (vt_val (ve_isi (T := "list") (by decide) rfl T.b_isinstance rfl T.b_list (by decide +kernel) (vv 3)))) (vw_or1 (vt_eq (hu64 hr) (vv 3) (ve_emp .A))))))
        (vss_one (vs_ret (VE.vm ve_bl)))
        vss_nil)
       (vss_one (vs_for PassesOwn.never rfl (vi_list (vmv 3)) (vg_name (i := 4) sc.nd rfl (by walk_at "loc"))
        (vss_cons (vs_if (VT.vn (VW.vt (vw_or (vt_not (vt_val (VE.cq (vcall C_is_thing (hr.mono (by decide)) rfl (va_cons (vv 4) (va_cons (vv 1) va_nil)))))) (vw_or1 (vt_in (hu65 hr) (vv 4) (vv 2) rfl)))))
         (vss_one (vs_ret (VE.vm ve_bl)))
         vss_nil)
        (vss_one (vs_expr (vm_mut PySem.F.slot_list_append PySem.F.type_list_append mt_append snd_app rmApp_mono (pv 2) (va_consN (vmv 4) va_nil)))))))))
      (vss_one (vs_ret (VE.vm ve_bl)))))), fun its Q hs => ?_⟩
  obtain ⟨d, n, rfl, hd, hn, q⟩ := hs
  show tvSeq _ _ _ [some (elI d), some (.dat (.int n) .A), none, none, none]
  walk_at "vc"
  refine ⟨shaped_dict hd, ?_⟩
  cases d with
  | list rs =>
    walk_at "vc"
    simp only [isTy, if_true, if_false, Bool.not_true, Bool.false_eq_true]
    by_cases h5 : rs.length ≤ 5
    · rw [if_neg (by simpa using (by omega : ¬ (5 < (rs.length : Int))))]
      have e0 : areRanks (.list rs) n = (rs.foldlM (rankStep n) []).isSome := by simp [areRanks, h5]
      refine forP_opt (rankStep n) (fun seen env => (seen.Nodup ∧ ∀ x ∈ seen, 0 ≤ x ∧ x < n) ∧ ∃ a b, env = [none, some (.dat (.int n) .A), some (.dat (.list (seen.map .int)) .A), a, b]) [] ⟨⟨List.nodup_nil, fun _ h => nomatch h⟩, none, none, rfl⟩ (fun d hmem seen env P henv hx hP => ?_) fun seen env hfin henv => ?_
      · obtain ⟨hin, a, b, rfl⟩ := henv
        have hsd := shaped_el hd hmem
        walk_at "vc"
        have out : rankStep n seen d = none → Q (.dat (.bool false) .A) := fun h => by
          rw [e0, hx h] at q
          exact q
        refine ⟨shaped_dict hsd, ?_⟩
        cases d with
        | list r =>
          walk_at "vc"
          simp only [isTy, if_true, if_false, Bool.not_true, Bool.false_eq_true]
          refine ⟨hsd, shaped_row [], ?_⟩
          by_cases hr0 : r = []
          · subst hr0
            rw [if_pos (by simp [PyData.eqv, PyData.eqvAll])]
            exact out rfl
          · rw [if_neg (by cases r <;> simp [PyData.eqv, PyData.eqvAll] at hr0 ⊢)]
            have e1 : rankStep n seen (.list r) = r.foldlM (rowStep n) seen := by simp [rankStep, hr0]
            refine forP_opt (rowStep n) (fun seen env => (seen.Nodup ∧ ∀ x ∈ seen, 0 ≤ x ∧ x < n) ∧ ∃ b, env = [none, some (.dat (.int n) .A), some (.dat (.list (seen.map .int)) .A), none, b]) seen ⟨hin, b, rfl⟩ (fun d hm2 seen2 env P2 henv hx2 hP2 => ?_) fun seen2 env hfin2 henv => ?_
            · obtain ⟨hin2, b, rfl⟩ := henv
              have hsd2 := shaped_el hsd hm2
              have out2 : rowStep n seen2 d = none → Q (.dat (.bool false) .A) := fun h => out (by rw [e1]; exact hx2 h)
              walk_at "vc"
              refine use_is_thing el_arg arg_dat (shaped_dict hsd2) ?_
              walk_at "vc"
              cases d with
              | int i =>
                walk_at "vc"
                by_cases hi : 0 ≤ i ∧ i < n
                · have : isThing (.int i) n = true := by simp [isThing, hi.1, hi.2]
                  rw [this]
                  simp only [Bool.not_true, Bool.false_eq_true, if_false]
                  refine ⟨shaped_int i, shaped_row seen2, ?_⟩
                  rw [any_int]
                  by_cases hm : i ∈ seen2
                  · rw [if_pos (decide_eq_true hm)]
                    exact out2 (by simp [rowStep, hm])
                  · rw [if_neg (by simpa using hm)]
                    refine ⟨by rw [List.length_map]; exact seen_small hn hin2, ?_⟩
                    have e2 : rowStep n seen2 (.int i) = some (seen2 ++ [i]) := by simp [rowStep, hi.1, hi.2, hm]
                    refine hP2 _ _ e2 ⟨rowStep_in e2 hin2, none, ?_⟩
                    simp
                · have : isThing (.int i) n = false := by
                    simp only [isThing, Bool.and_eq_false_iff, decide_eq_false_iff_not]
                    omega
                  rw [this]
                  simp only [Bool.not_false, if_true]
                  exact out2 (by
                    have : ¬ (0 ≤ i ∧ i < n ∧ i ∉ seen2) := fun z => hi ⟨z.1, z.2.1⟩
                    simp only [rowStep, this, if_false])
              | _ =>
                simp only [isThing, Bool.not_false, if_true]
                exact out2 rfl
            · obtain ⟨hin2, b, rfl⟩ := henv
              exact hP seen2 _ (by rw [e1]; exact hfin2) ⟨hin2, none, b, rfl⟩
        | _ =>
          simp only [isTy, Bool.not_false, if_true]
          exact out rfl
      · obtain ⟨hin, a, b, rfl⟩ := henv
        walk_at "vc"
        rw [e0, hfin] at q
        exact q
    · rw [if_pos (decide_eq_true (by omega))]
      have e0 : areRanks (.list rs) n = false := by simp [areRanks, h5]
      rw [e0] at q
      exact q
  | _ =>
    simp only [isTy, Bool.not_false, if_true]
    exact q

abbrev s_look_at_wishes : Stmt := topS 14
theorem sc_look_at_wishes : FnScope ["thing", "copies", "lists", "number", "many", "ranks"] ["thing"] (defScope s_look_at_wishes) := ⟨rfl, rfl, rfl, by decide +kernel, rfl, by decide +kernel, by decide +kernel⟩
def sp_look_at_wishes : VSp := fun its Q => ∃ c l, its = [.dat (wishD c l) .sh] ∧ GoodW c l ∧ Q (.dat .none .A)
theorem mono_look_at_wishes : MonoSp sp_look_at_wishes := fun its Q Q' h ⟨c, l, e, g, q⟩ => ⟨c, l, e, g, h _ q⟩
theorem use_look_at_wishes {a : Item} {c : List Int} {l : List (List (List Int))} (h : argI a = .dat (wishD c l) .sh) (g : GoodW c l) {Q : Item → Prop} (q : Q (.dat .none .A)) : callI sp_look_at_wishes [a] Q :=
  callI_any mono_look_at_wishes ⟨c, l, by rw [List.map_cons, h]; rfl, g, ⟨_, rfl⟩, q⟩
theorem lay_rows : ∀ r : List (List Int), PyData.canLayAll0 (r.map rowD) = true
  | [] => by simp [PyData.canLayAll0]
  | x :: r => by simp only [List.map_cons, PyData.canLayAll0, rowD, PyData.canLay0, lay_ints, Bool.true_and]; exact lay_rows r
theorem dep_rows : ∀ r : List (List Int), PyData.depthAll (r.map rowD) ≤ 1
  | [] => by simp [PyData.depthAll]
  | x :: r => by
    have := dep_rows r
    have h := dep_ints x
    simp only [List.map_cons, PyData.depthAll, rowD, PyData.depth, h]
    omega
theorem shaped_ranks (r : List (List Int)) : SeqAt.shaped (ranksD r) = true := by
  have := dep_rows r
  simp only [ranksD, SeqAt.shaped, PyData.canLay0, lay_rows, PyData.depth, Bool.true_and]
  exact decide_eq_true (by omega)
theorem ok_look_at_wishes {P : Program} {w : World} {K : PySem.W.Frag} {mg : Str → Option Value} {base : Heap} (T : TX mg) (D : FD K mg "look_at_wishes" s_look_at_wishes ["thing"]) (C_need_row : Cal P w K mg base "need_row" ["part", "thing", "most"] 1 sp_need_row) (C_is_many : Cal P w K mg base "is_many" ["thing"] 2 sp_is_many) (C_are_ranks : Cal P w K mg base "are_ranks" ["thing", "many"] 3 sp_are_ranks) : Cal P w K mg base "look_at_wishes" ["thing"] 4 sp_look_at_wishes := by
  obtain ⟨_, c_MOST_ASKERS⟩ := T.x_MOST_ASKERS
  obtain ⟨_, c_MOST_THINGS⟩ := T.x_MOST_THINGS
  have sc := sc_look_at_wishes
  have nd := sc.nd
  refine vdef D sc mono_look_at_wishes (fun its Q ⟨d, n, e, _⟩ => by rw [e]; rfl) fun f cdv A outer s H E hr => ?_
  refine ⟨_, (vss_cons (vs_if (VT.vn (VW.vt (vw_or (vt_not (vt_val (ve_isi (T := "tuple") (by decide) rfl T.b_isinstance rfl T.b_tuple (by decide +kernel) (vv 0)))) (vw_or1 (vt_ne (hu64 hr) (ve_callB call_len_seq snd_len rLen_mono rfl T.b_len (by decide +kernel) (va_cons (vv 0) va_nil)) ve_int)))))
       (vss_one vs_never)
       vss_nil)
      (vss_cons (vs_asg (VE.vm (vmv 0)) (vg_tup (n := 2) rfl (vgs_cons (vg_name (i := 1) sc.nd rfl (by walk_at "loc")) (vgs_cons (vg_name (i := 2) sc.nd rfl (by walk_at "loc")) vgs_nil))))
      (vss_cons (vs_expr (VE.vm (VE.cq (vcall C_need_row (hr.mono (by decide)) rfl (va_cons ve_str (va_cons (vv 1) (va_cons (ve_gint rfl c_MOST_THINGS) va_nil)))))))
      (vss_cons (vs_for PassesOwn.never rfl (vi_enum rfl T.b_enumerate (va_cons (vv 1) va_nil)) (vg_tup (n := 2) rfl (vgs_cons (vg_name (i := 3) sc.nd rfl (by walk_at "loc")) (vgs_cons (vg_name (i := 4) sc.nd rfl (by walk_at "loc")) vgs_nil)))
       (vss_one (vs_if (VT.vn (vt_not (vt_val (VE.cq (vcall C_is_many (hr.mono (by decide)) rfl (va_cons (vv 4) va_nil))))))
        (vss_one vs_never)
        vss_nil)))
      (vss_cons (vs_expr (VE.vm (VE.cq (vcall C_need_row (hr.mono (by decide)) rfl (va_cons ve_str (va_cons (vv 2) (va_cons (ve_gint rfl c_MOST_ASKERS) va_nil)))))))
      (vss_one (vs_for PassesOwn.never rfl (vi_enum rfl T.b_enumerate (va_cons (vmv 2) va_nil)) (vg_tup (n := 2) rfl (vgs_cons (vg_name (i := 3) sc.nd rfl (by walk_at "loc")) (vgs_cons (vg_name (i := 5) sc.nd rfl (by walk_at "loc")) vgs_nil)))
       (vss_one (vs_if (VT.vn (vt_not (vt_val (VE.cq (vcall C_are_ranks (hr.mono (by decide)) rfl (va_cons (vv 5) (va_cons (ve_callB call_len_seq snd_len rLen_mono rfl T.b_len (by decide +kernel) (va_cons (vv 1) va_nil)) va_nil)))))))
        (vss_one vs_never)
        vss_nil))))))))), fun its Q hs => ?_⟩
  obtain ⟨c, l, rfl, g, q⟩ := hs
  show tvSeq _ _ _ [some (.dat (wishD c l) .sh), none, none, none, none, none]
  simp only [wishD, rowD, listsD]
  walk_at "vc"
  refine ⟨rfl, ?_⟩
  simp only [isTy, if_true, Bool.not_true, Bool.false_eq_true, if_false]
  refine ⟨shaped_int _, shaped_int _, ?_⟩
  rw [if_neg (by rw [eqv_int]; decide)]
  refine use_need_row (l := c.map .int) (n := 6) arg_dat arg_list arg_dat (by rw [List.length_map]; exact g.c1) (by rw [List.length_map]; have := g.c2; omega) ?_
  walk_at "vc"
  refine forP_ind (fun i env => ∃ a b d, env = [none, some (.dat (rowD c) .sh), some (.dat (listsD l) .sh), a, b, d]) ⟨none, none, none, rfl⟩ (fun i d env hi ⟨a, b, d', e⟩ => ?_) fun env ⟨a, b, d', e⟩ => ?_
  · obtain ⟨d0, hd0, rfl⟩ := enumD_get hi
    rw [List.getElem?_map] at hd0
    obtain ⟨x, hx, rfl⟩ := Option.map_eq_some_iff.mp hd0
    subst e
    walk_at "vc"
    refine use_is_many arg_dat rfl ?_
    walk_at "vc"
    have hm : isMany (.int x) = true := by
      have := g.cm x (List.mem_of_getElem? hx)
      simp [isMany, this.1, this.2]
    rw [hm]
    exact ⟨_, _, _, rfl⟩
  · subst e
    walk_at "vc"
    simp only [listsD]
    refine use_need_row (l := l.map ranksD) (n := 7) arg_dat arg_list arg_dat (by rw [List.length_map]; exact g.l1) (by rw [List.length_map]; have := g.l2; omega) ?_
    walk_at "vc"
    refine forP_ind (fun i env => ∃ x a b d, env = [none, some (.dat (rowD c) .sh), x, a, b, d]) ⟨none, _, _, _, rfl⟩ (fun i d env hi ⟨x, a, b, d', e⟩ => ?_) fun env ⟨x, a, b, d', e⟩ => ?_
    · obtain ⟨d0, hd0, rfl⟩ := enumD_get hi
      rw [List.getElem?_map] at hd0
      obtain ⟨r, hr', rfl⟩ := Option.map_eq_some_iff.mp hd0
      subst e
      simp only [rowD]
      walk_at "vc"
      refine use_are_ranks el_arg arg_dat (shaped_ranks r) (by rw [List.length_map]; have := g.c2; omega) ?_
      walk_at "vc"
      have hm := g.lr r (List.mem_of_getElem? hr')
      rw [List.length_map, hm]
      exact ⟨_, _, _, _, rfl⟩
    · subst e
      exact q

abbrev s_things_within : Stmt := topS 16
theorem sc_things_within : FnScope ["wishes", "ranks", "rows", "some", "row", "one"] ["wishes", "ranks"] (defScope s_things_within) := ⟨rfl, rfl, rfl, by decide +kernel, rfl, by decide +kernel, by decide +kernel⟩
def withinD (l : List (List (List Int))) (r : Int) : PyData := .list (l.map fun sm => rowD (sm.take r.toNat).flatten)
def sp_things_within : VSp := fun its Q => ∃ (c : List Int) (l : List (List (List Int))) (r : Int), its = [.dat (wishD c l) .sh, .dat (.int r) .A] ∧ 0 ≤ r ∧ l.length ≤ 1000 ∧ (∀ sm ∈ l, sm.flatten.length ≤ 1000) ∧ Q (.dat (withinD l r) .A)
theorem mono_things_within : MonoSp sp_things_within := fun its Q Q' h ⟨c, l, r, e, h1, h2, h3, q⟩ => ⟨c, l, r, e, h1, h2, h3, h _ q⟩
theorem use_things_within {a b : Item} {c : List Int} {l : List (List (List Int))} {r : Int} (h : argI a = .dat (wishD c l) .sh) (hb : argI b = .dat (.int r) .A) (h0 : 0 ≤ r) (h1 : l.length ≤ 1000) (h2 : ∀ sm ∈ l, sm.flatten.length ≤ 1000) {Q : Item → Prop} (q : Q (.dat (withinD l r) .A)) : callI sp_things_within [a, b] Q :=
  callI_any mono_things_within ⟨c, l, r, by rw [List.map_cons, List.map_cons, h, hb]; rfl, h0, h1, h2, ⟨_, rfl⟩, q⟩
theorem sIx_to (n : Nat) (r : Int) (h : 0 ≤ r) (d : Nat) : HT.sIx n d (some r) = min r.toNat n := by
  have : r = (r.toNat : Int) := by omega
  conv => lhs; rw [this]
  rw [HT.sIx_nat]
theorem cutD_take (xs : List PyData) (r : Int) (h : 0 ≤ r) : cutD xs none (some r) = xs.take r.toNat := by
  unfold cutD
  rw [sIx_to _ _ h, HT.sIx_none]
  simp only [List.drop_zero, Nat.sub_zero]
  by_cases hr : r.toNat ≤ xs.length
  · rw [Nat.min_eq_left hr]
  · rw [Nat.min_eq_right (by omega), List.take_length, List.take_of_length_le (by omega)]
theorem flat_take (sm : List (List Int)) (r : Nat) : (sm.take r).flatten.length ≤ sm.flatten.length := by
  conv => rhs; rw [← List.take_append_drop r sm]
  rw [List.flatten_append, List.length_append]
  omega
theorem ok_things_within {P : Program} {w : World} {K : PySem.W.Frag} {mg : Str → Option Value} {base : Heap} (T : TX mg) (D : FD K mg "things_within" s_things_within ["wishes", "ranks"]) : Cal P w K mg base "things_within" ["wishes", "ranks"] 1 sp_things_within := by
  have sc := sc_things_within
  have nd := sc.nd
  refine vdef D sc mono_things_within (fun its Q ⟨d, n, r, e, _⟩ => by rw [e]; rfl) fun f cdv A outer s H E hr => ?_
  refine ⟨_, (vss_cons (vs_set (i := 2) sc.nd rfl (by walk_at "loc") (VE.vm (ve_emp .A)))
      (vss_cons (vs_for PassesOwn.never rfl (vi_list (ve_item (vv 0) ve_int)) (vg_name (i := 3) sc.nd rfl (by walk_at "loc"))
       (vss_cons (vs_set (i := 4) sc.nd rfl (by walk_at "loc") (VE.vm (ve_emp .A)))
       (vss_cons (vs_for PassesOwn.never rfl (vi_list (ve_slL (vv 3) vo_none (vo_some (vv 1)))) (vg_name (i := 5) sc.nd rfl (by walk_at "loc"))
        (vss_one (vs_expr (vm_mut PySem.F.slot_list_extend PySem.F.type_list_extend mt_extend snd_ext rmExt_mono (pv 4) (va_cons (vmv 5) va_nil)))))
       (vss_one (vs_expr (vm_mut PySem.F.slot_list_append PySem.F.type_list_append mt_append snd_app rmApp_mono (pv 2) (va_consN (vmv 4) va_nil)))))))
      (vss_one (vs_ret (VE.vm (vmv 2)))))), fun its Q hs => ?_⟩
  obtain ⟨c, l, r, rfl, h0, h1, h2, q⟩ := hs
  show tvSeq _ _ _ [some (.dat (wishD c l) .sh), some (.dat (.int r) .A), none, none, none, none]
  simp only [wishD, rowD, listsD]
  walk_at "vc"
  simp only [atI_1]
  walk_at "vc"
  refine forP_map (fun i env => ∃ a b d, env = [some (.dat (wishD c l) .sh), some (.dat (.int r) .A), some (.dat (withinD (l.take i) r) .A), a, b, d]) ⟨none, none, none, rfl⟩ (fun i hi env ⟨a, b, d', e⟩ => ?_) fun env ⟨a, b, d', e⟩ => ?_
  · subst e
    simp only [ranksD]
    walk_at "vc"
    rw [cutD_take _ _ h0, ← List.map_take]
    refine forP_map (fun j env => ∃ a d, env = [some (.dat (wishD c l) .sh), some (.dat (.int r) .A), some (.dat (withinD (l.take i) r) .A), a, some (.dat (rowD ((l[i].take r.toNat).take j).flatten) .A), d]) ⟨_, _, rfl⟩ (fun j hj env ⟨a, d', e⟩ => ?_) fun env ⟨a, d', e⟩ => ?_
    · subst e
      simp only [rowD]
      walk_at "vc"
      have hsl := h2 l[i] (List.getElem_mem hi)
      have e1 : ((l[i].take r.toNat).take (j + 1)).flatten = ((l[i].take r.toNat).take j).flatten ++ (l[i].take r.toNat)[j] := by
        rw [List.take_add_one, List.getElem?_eq_getElem hj, List.flatten_append]
        simp
      refine ⟨small ?_, ?_⟩
      · rw [List.length_map, List.length_map, ← List.length_append, ← e1]
        have a1 := flat_take (l[i].take r.toNat) (j + 1)
        have a2 := flat_take l[i] r.toNat
        omega
      · simp only [e1, List.map_append]
        exact ⟨_, _, rfl⟩
    · subst e
      simp only [rowD, withinD]
      walk_at "vc"
      rw [List.take_length]
      have e2 : (l.take (i + 1)).map (fun sm => rowD (sm.take r.toNat).flatten) = (l.take i).map (fun sm => rowD (sm.take r.toNat).flatten) ++ [rowD (l[i].take r.toNat).flatten] := by
        rw [List.take_add_one, List.getElem?_eq_getElem hi, List.map_append]
        rfl
      refine ⟨?_, ?_⟩
      · rw [List.length_map, List.length_take]
        exact smallLt (by omega)
      · simp only [rowD] at e2
        simp only [e2]
        exact ⟨_, _, _, rfl⟩
  · subst e
    walk_at "vc"
    rw [List.take_length]
    simp only [withinD] at q ⊢
    walk_at "vc"
    exact q

abbrev s_are_rising : Stmt := topS 18
theorem sc_are_rising : FnScope ["thing", "many", "ahead", "one"] ["thing", "many"] (defScope s_are_rising) := ⟨rfl, rfl, rfl, by decide +kernel, rfl, by decide +kernel, by decide +kernel⟩
def riseStep (many : Int) (ahead : Int) (d : PyData) : Option Int := match d with
  | .int i => if ahead < i ∧ i < many then some i else none
  | _ => none
def areRising (d : PyData) (many : Int) : Bool := match d with
  | .list ds => (ds.foldlM (riseStep many) (-1)).isSome
  | _ => false
def sp_are_rising : VSp := fun its Q => ∃ d n, its = [elI d, .dat (.int n) .A] ∧ SeqAt.shaped d = true ∧ Q (.dat (.bool (areRising d n)) .A)
theorem mono_are_rising : MonoSp sp_are_rising := fun its Q Q' h ⟨d, n, e, hd, q⟩ => ⟨d, n, e, hd, h _ q⟩
theorem use_are_rising {a b : Item} {d : PyData} {n : Int} (h : argI a = elI d) (hb : argI b = .dat (.int n) .A) (hd : SeqAt.shaped d = true) {Q : Item → Prop} (q : Q (.dat (.bool (areRising d n)) .A)) : callI sp_are_rising [a, b] Q :=
  callI_any mono_are_rising ⟨d, n, by rw [List.map_cons, List.map_cons, h, hb]; rfl, hd, ⟨_, rfl⟩, q⟩
theorem ok_are_rising {P : Program} {w : World} {K : PySem.W.Frag} {mg : Str → Option Value} {base : Heap} (T : TX mg) (D : FD K mg "are_rising" s_are_rising ["thing", "many"]) (C_is_whole : Cal P w K mg base "is_whole" ["thing"] 1 sp_is_whole) : Cal P w K mg base "are_rising" ["thing", "many"] 2 sp_are_rising := by
  have sc := sc_are_rising
  have nd := sc.nd
  refine vdef D sc mono_are_rising (fun its Q ⟨d, n, e, _⟩ => by rw [e]; rfl) fun f cdv A outer s H E hr => ?_
  refine ⟨_, (vss_cons (vs_if (VT.vn (vt_not (vt_val (ve_isi (T := "list") (by decide) rfl T.b_isinstance rfl T.b_list (by decide +kernel) (vv 0)))))
       (vss_one (vs_ret (VE.vm ve_bl)))
       vss_nil)
      (vss_cons (vs_set (i := 2) sc.nd rfl (by walk_at "loc") (VE.vm (ve_neg ve_int)))
      (vss_cons (vs_for PassesOwn.never rfl (vi_list (vmv 0)) (vg_name (i := 3) sc.nd rfl (by walk_at "loc"))
       (vss_cons (vs_if (VT.vn (VW.vt (vw_or (vt_not (vt_val (VE.cq (vcall C_is_whole (hr.mono (by decide)) rfl (va_cons (vv 3) va_nil))))) (vw_or (vt_le (vv 3) (vv 2)) (vw_or1 (vt_ge (vv 3) (vv 1)))))))
        (vss_one (vs_ret (VE.vm ve_bl)))
        vss_nil)
       (vss_one (vs_set (i := 2) sc.nd rfl (by walk_at "loc") (VE.vm (vmv 3))))))
      (vss_one (vs_ret (VE.vm ve_bl)))))), fun its Q hs => ?_⟩
  obtain ⟨d, n, rfl, hd, q⟩ := hs
  show tvSeq _ _ _ [some (elI d), some (.dat (.int n) .A), none, none]
  walk_at "vc"
  refine ⟨shaped_dict hd, ?_⟩
  cases d with
  | list ds =>
    walk_at "vc"
    simp only [isTy, if_true, if_false, Bool.not_true, Bool.false_eq_true]
    refine forP_opt (riseStep n) (fun ahead env => ∃ a, env = [none, some (.dat (.int n) .A), some (.dat (.int ahead) .A), a]) (-1) ⟨none, rfl⟩ (fun d hm ahead env P ⟨a, e⟩ hx hP => ?_) fun ahead env hfin ⟨a, e⟩ => ?_
    · subst e
      have out : riseStep n ahead d = none → Q (.dat (.bool false) .A) := fun h => by
        rw [show areRising (.list ds) n = false by simp only [areRising, hx h, Option.isSome_none]] at q
        exact q
      walk_at "vc"
      refine use_is_whole el_arg (shaped_dict (shaped_el hd hm)) ?_
      walk_at "vc"
      cases d with
      | int i =>
        walk_at "vc"
        simp only [isWhole, Bool.not_true, Bool.false_eq_true, if_false]
        by_cases h1 : i ≤ ahead
        · rw [if_pos (decide_eq_true h1)]
          exact out (by simp only [riseStep]; rw [if_neg (by omega)])
        · rw [if_neg (by simpa using h1)]
          by_cases h2 : n ≤ i
          · rw [if_pos (decide_eq_true h2)]
            exact out (by simp only [riseStep]; rw [if_neg (by omega)])
          · rw [if_neg (by simpa using h2)]
            exact hP i _ (by simp only [riseStep]; rw [if_pos (by omega)]) ⟨_, rfl⟩
      | _ =>
        simp only [isWhole, Bool.not_false, if_true]
        exact out rfl
    · subst e
      walk_at "vc"
      rw [show areRising (.list ds) n = true by simp only [areRising, hfin, Option.isSome_some]] at q
      exact q
  | _ =>
    simp only [isTy, Bool.not_false, if_true]
    exact q

abbrev s_lets_cover : Stmt := topS 19
theorem sc_lets_cover : FnScope ["wishes", "ranks", "thing", "askers", "things", "asker", "row", "one"] ["wishes", "ranks", "thing"] (defScope s_lets_cover) := ⟨rfl, rfl, rfl, by decide +kernel, rfl, by decide +kernel, by decide +kernel⟩
def coverAt (l : List (List (List Int))) (r : Int) (is js : List Int) (k : Nat) : Bool := decide ((k : Int) ∈ is) || ((rowsIn l r).getD k []).all fun x => decide (x ∈ js)
def coverAll (l : List (List (List Int))) (r : Int) (is js : List Int) : Bool := (List.range l.length).all fun k => coverAt l r is js k
def cover2 (c : List Int) (l : List (List (List Int))) (r : Int) (a t : PyData) : Bool := match a, t with
  | .list a, .list t => areRising (.list a) l.length && areRising (.list t) c.length && (match intsD a, intsD t with
    | some is, some js => coverAll l r is js
    | _, _ => false)
  | _, _ => false
def letsCover (c : List Int) (l : List (List (List Int))) (r : Int) (d : PyData) : Bool := match d with
  | .tuple ds => match ds with
    | [a, t] => cover2 c l r a t
    | _ => false
  | _ => false
theorem rising_ints {n : Int} : ∀ {ds : List PyData} {a s : Int}, ds.foldlM (riseStep n) a = some s → ∃ is, intsD ds = some is ∧ ds = is.map .int
  | [], _, _, _ => ⟨[], rfl, rfl⟩
  | d :: ds, a, s, h => by
    rw [List.foldlM_cons] at h
    cases d with
    | int i =>
      simp only [riseStep] at h
      split at h
      · obtain ⟨is, h1, h2⟩ := rising_ints (show ds.foldlM (riseStep n) i = some s from h)
        exact ⟨i :: is, by simp only [intsD, h1], by rw [List.map_cons, ← h2]⟩
      · cases h
    | _ => cases h
theorem areRising_ints {ds : List PyData} {n : Int} (h : areRising (.list ds) n = true) : ∃ is, intsD ds = some is ∧ ds = is.map .int := by
  simp only [areRising] at h
  cases q : ds.foldlM (riseStep n) (-1) with
  | none => rw [q] at h; cases h
  | some s => exact rising_ints q
def sp_lets_cover : VSp := fun its Q => ∃ (c : List Int) (l : List (List (List Int))) (r : Int) (d : PyData), its = [.dat (wishD c l) .sh, .dat (.int r) .A, elI d] ∧ GoodW c l ∧ 0 ≤ r ∧ SeqAt.shaped d = true ∧ Q (.dat (.bool (letsCover c l r d)) .A)
theorem mono_lets_cover : MonoSp sp_lets_cover := fun its Q Q' h ⟨c, l, r, d, e, h1, h2, h3, q⟩ => ⟨c, l, r, d, e, h1, h2, h3, h _ q⟩
theorem use_lets_cover {a b x : Item} {c : List Int} {l : List (List (List Int))} {r : Int} {d : PyData} (h : argI a = .dat (wishD c l) .sh) (hb : argI b = .dat (.int r) .A) (hx : argI x = elI d) (g : GoodW c l) (h0 : 0 ≤ r) (hd : SeqAt.shaped d = true) {Q : Item → Prop} (q : Q (.dat (.bool (letsCover c l r d)) .A)) : callI sp_lets_cover [a, b, x] Q :=
  callI_any mono_lets_cover ⟨c, l, r, d, by rw [List.map_cons, List.map_cons, List.map_cons, h, hb, hx]; rfl, g, h0, hd, ⟨_, rfl⟩, q⟩
theorem letsCover_len {c : List Int} {l : List (List (List Int))} {r : Int} {ds : List PyData} (h : ds.length ≠ 2) : letsCover c l r (.tuple ds) = false := by
  match ds, h with
  | [], _ => rfl
  | [_], _ => rfl
  | [_, _], h => exact absurd rfl h
  | _ :: _ :: _ :: _, _ => rfl
theorem letsCover_2 {c : List Int} {l : List (List (List Int))} {r : Int} {a t : PyData} (h : areRising a l.length = false ∨ areRising t c.length = false) : letsCover c l r (.tuple [a, t]) = false := by
  cases a <;> cases t <;> simp [letsCover, cover2, areRising] at h ⊢
  rcases h with h | h
  · simp [areRising, h]
  · simp [areRising, h]
theorem ok_lets_cover {P : Program} {w : World} {K : PySem.W.Frag} {mg : Str → Option Value} {base : Heap} (T : TX mg) (D : FD K mg "lets_cover" s_lets_cover ["wishes", "ranks", "thing"]) (C_look_at_wishes : Cal P w K mg base "look_at_wishes" ["thing"] 4 sp_look_at_wishes) (C_are_rising : Cal P w K mg base "are_rising" ["thing", "many"] 2 sp_are_rising) (C_things_within : Cal P w K mg base "things_within" ["wishes", "ranks"] 1 sp_things_within) : Cal P w K mg base "lets_cover" ["wishes", "ranks", "thing"] 5 sp_lets_cover := by
  have sc := sc_lets_cover
  have nd := sc.nd
  refine vdef D sc mono_lets_cover (fun its Q ⟨d, n, r, d', e, _⟩ => by rw [e]; rfl) fun f cdv A outer s H E hr => ?_
  refine ⟨_, (vss_cons (vs_expr (VE.vm (VE.cq (vcall C_look_at_wishes (hr.mono (by decide)) rfl (va_cons (vv 0) va_nil)))))
      (vss_cons (vs_if (VT.vn (VW.vt (vw_or (vt_not (vt_val (ve_isi (T := "tuple") (by decide) rfl T.b_isinstance rfl T.b_tuple (by decide +kernel) (vv 2)))) (vw_or1 (vt_ne (hu64 hr) (ve_callB call_len_seq snd_len rLen_mono rfl T.b_len (by decide +kernel) (va_cons (vv 2) va_nil)) ve_int)))))
       (vss_one (vs_ret (VE.vm ve_bl)))
       vss_nil)
      (vss_cons (vs_asg (VE.vm (vmv 2)) (vg_tup (n := 2) rfl (vgs_cons (vg_name (i := 3) sc.nd rfl (by walk_at "loc")) (vgs_cons (vg_name (i := 4) sc.nd rfl (by walk_at "loc")) vgs_nil))))
      (vss_cons (vs_if (VT.vn (VW.vt (vw_or (vt_not (vt_val (VE.cq (vcall C_are_rising (hr.mono (by decide)) rfl (va_cons (vv 3) (va_cons (ve_callB call_len_seq snd_len rLen_mono rfl T.b_len (by decide +kernel) (va_cons (ve_item (vv 0) ve_int) va_nil)) va_nil)))))) (vw_or1 (vt_not (vt_val (VE.cq (vcall C_are_rising (hr.mono (by decide)) rfl (va_cons (vv 4) (va_cons (ve_callB call_len_seq snd_len rLen_mono rfl T.b_len (by decide +kernel) (va_cons (ve_item (vv 0) ve_int) va_nil)) va_nil))))))))))
       (vss_one (vs_ret (VE.vm ve_bl)))
       vss_nil)
      (vss_cons (vs_for PassesOwn.never rfl (vi_enum rfl T.b_enumerate (va_cons (VE.cq (vcall C_things_within (hr.mono (by decide)) rfl (va_cons (vv 0) (va_cons (vv 1) va_nil)))) va_nil)) (vg_tup (n := 2) rfl (vgs_cons (vg_name (i := 5) sc.nd rfl (by walk_at "loc")) (vgs_cons (vg_name (i := 6) sc.nd rfl (by walk_at "loc")) vgs_nil)))
       (vss_cons (vs_if (VT.vn (vt_in (hu65 hr) (vv 5) (vv 3) rfl))
        (vss_one vs_continue)
        vss_nil)
       (vss_one (vs_for PassesOwn.never rfl (vi_list (vmv 6)) (vg_name (i := 7) sc.nd rfl (by walk_at "loc"))
        (vss_one (vs_if (VT.vn (vt_nin (hu65 hr) (vv 7) (vv 4) rfl))
         (vss_one (vs_ret (VE.vm ve_bl)))
         vss_nil))))))
      (vss_one (vs_ret (VE.vm ve_bl)))))))), fun its Q hs => ?_⟩
  obtain ⟨c, l, r, d, rfl, g, h0, hd, q⟩ := hs
  show tvSeq _ _ _ [some (.dat (wishD c l) .sh), some (.dat (.int r) .A), some (elI d), none, none, none, none, none]
  walk_at "vc"
  refine use_look_at_wishes arg_dat g ?_
  walk_at "vc"
  refine ⟨shaped_dict hd, ?_⟩
  cases d with
  | tuple ds =>
    walk_at "vc"
    simp only [isTy, if_true, if_false, Bool.not_true, Bool.false_eq_true]
    refine ⟨shaped_int _, shaped_int _, ?_⟩
    rw [eqv_int]
    by_cases h2 : ds.length = 2
    · obtain ⟨a, t, rfl⟩ : ∃ a t, ds = [a, t] := by
        match ds, h2 with
        | [a, t], _ => exact ⟨a, t, rfl⟩
      rw [if_neg (by simp)]
      walk_at "vc"
      have ha : SeqAt.shaped a = true := shaped_elT hd (by simp)
      have ht : SeqAt.shaped t = true := shaped_elT hd (by simp)
      simp only [wishD, rowD, listsD]
      walk_at "vc"
      simp only [atI_1, atI_0]
      walk_at "vc"
      refine use_are_rising el_arg arg_dat ha ?_
      walk_at "vc"
      walk_at "vc"
      rw [List.length_map]
      by_cases hra : areRising a l.length = true
      · rw [hra]
        simp only [Bool.not_true, Bool.false_eq_true, if_false]
        refine use_are_rising el_arg arg_dat ht ?_
        walk_at "vc"
        walk_at "vc"
        rw [List.length_map]
        by_cases hrt : areRising t c.length = true
        · rw [hrt]
          simp only [Bool.not_true, Bool.false_eq_true, if_false]
          refine use_things_within (c := c) (l := l) arg_dat arg_dat h0 (by have := g.l2; omega) (fun sm hsm => by have := (good_flat g sm hsm).1; omega) ?_
          walk_at "vc"
          simp only [withinD]
          walk_at "vc"
          obtain ⟨la, rfl⟩ : ∃ la, a = .list la := by cases a <;> first | exact ⟨_, rfl⟩ | (simp [areRising] at hra)
          obtain ⟨lt, rfl⟩ : ∃ lt, t = .list lt := by cases t <;> first | exact ⟨_, rfl⟩ | (simp [areRising] at hrt)
          obtain ⟨is, hi1, rfl⟩ := areRising_ints hra
          obtain ⟨js, hj1, rfl⟩ := areRising_ints hrt
          have e0 : letsCover c l r (.tuple [.list (is.map .int), .list (js.map .int)]) = coverAll l r is js := by
            simp only [letsCover, cover2, hra, hrt, hi1, hj1, Bool.true_and]
          rw [e0] at q
          walk_at "vc"
          refine forP_ind (fun k env => (∀ j, j < k → j < l.length → coverAt l r is js j = true) ∧ ∃ x y z, env = [some (.dat (wishD c l) .sh), some (.dat (.int r) .A), none, some (.dat (rowD is) .sh), some (.dat (rowD js) .sh), x, y, z]) ⟨fun j h => absurd h (Nat.not_lt_zero _), none, none, none, rfl⟩ (fun k d env hk ⟨hok, x, y, z, e⟩ => ?_) fun env ⟨hok, x, y, z, e⟩ => ?_
          · obtain ⟨d0, hd0, rfl⟩ := enumD_get hk
            rw [List.getElem?_map] at hd0
            obtain ⟨sm, hsm, rfl⟩ := Option.map_eq_some_iff.mp hd0
            obtain ⟨hkl, hke⟩ := List.getElem?_eq_some_iff.mp hsm
            subst e
            simp only [rowD]
            walk_at "vc"
            refine ⟨shaped_int _, shaped_row is, ?_⟩
            rw [any_int]
            have hrow : (rowsIn l r).getD k [] = (sm.take r.toNat).flatten := by
              simp only [rowsIn, List.getD_eq_getElem?_getD, List.getElem?_map, hsm]
              rfl
            by_cases hm : (k : Int) ∈ is
            · rw [if_pos (decide_eq_true hm)]
              refine ⟨fun j hj hjl => ?_, _, _, _, rfl⟩
              by_cases hjk : j < k
              · exact hok j hjk hjl
              · have : j = k := by omega
                subst this
                simp [coverAt, hm]
            · rw [if_neg (by simpa using hm)]
              refine forP_map (fun i env => (∀ j (h : j < i) (h2 : j < (sm.take r.toNat).flatten.length), (sm.take r.toNat).flatten[j] ∈ js) ∧ ∃ x y z, env = [some (.dat (wishD c l) .sh), some (.dat (.int r) .A), none, some (.dat (rowD is) .sh), some (.dat (rowD js) .sh), x, y, z]) ⟨fun j h => absurd h (Nat.not_lt_zero _), _, _, _, rfl⟩ (fun i hi env ⟨hok2, x, y, z, e⟩ => ?_) fun env ⟨hok2, x, y, z, e⟩ => ?_
              · subst e
                simp only [rowD]
                walk_at "vc"
                refine ⟨shaped_int _, shaped_row js, ?_⟩
                rw [any_int]
                by_cases hm2 : (sm.take r.toNat).flatten[i] ∈ js
                · rw [if_neg (by simpa using hm2)]
                  refine ⟨fun j hj hjl => ?_, _, _, _, rfl⟩
                  by_cases hjk : j < i
                  · exact hok2 j hjk hjl
                  · have : j = i := by omega
                    subst this
                    exact hm2
                · rw [if_pos (by simpa using hm2)]
                  have : coverAll l r is js = false := by
                    rw [← Bool.not_eq_true]
                    intro hall
                    have h1 := List.all_eq_true.mp hall k (List.mem_range.mpr hkl)
                    simp only [coverAt, hrow, hm, decide_false, Bool.false_or] at h1
                    have h2 := List.all_eq_true.mp h1 _ (List.getElem_mem hi)
                    exact hm2 (of_decide_eq_true h2)
                  rw [this] at q
                  exact q
              · subst e
                refine ⟨fun j hj hjl => ?_, _, _, _, rfl⟩
                by_cases hjk : j < k
                · exact hok j hjk hjl
                · have : j = k := by omega
                  subst this
                  simp only [coverAt, hrow, Bool.or_eq_true, List.all_eq_true]
                  refine .inr fun x hx => ?_
                  obtain ⟨n, hn, rfl⟩ := List.getElem_of_mem hx
                  exact decide_eq_true (hok2 n hn hn)
          · subst e
            walk_at "vc"
            have : coverAll l r is js = true := by
              refine List.all_eq_true.mpr fun k hk => ?_
              have hk' := List.mem_range.mp hk
              exact hok k (by rw [enumD_len, List.length_map]; exact hk') hk'
            rw [this] at q
            exact q
        · rw [Bool.not_eq_true] at hrt
          rw [hrt]
          simp only [Bool.not_false, if_true]
          rw [letsCover_2 (.inr hrt)] at q
          exact q
      · rw [Bool.not_eq_true] at hra
        rw [hra]
        simp only [Bool.not_false, if_true]
        rw [letsCover_2 (.inl hra)] at q
        exact q
    · rw [if_pos (by simp; omega)]
      rw [letsCover_len h2] at q
      exact q
  | _ =>
    simp only [isTy, Bool.not_false, if_true]
    exact q

abbrev s_size_of : Stmt := topS 20
theorem sc_size_of : FnScope ["wishes", "cover", "askers", "things", "thing"] ["wishes", "cover"] (defScope s_size_of) := ⟨rfl, rfl, rfl, by decide +kernel, rfl, by decide +kernel, by decide +kernel⟩
def sizeOf' (c : List Int) (is js : List Int) : Int := is.length + (js.map fun j => c.getD j.toNat 0).sum
def sp_size_of : VSp := fun its Q => ∃ (c : List Int) (l : List (List (List Int))) (is js : List Int), its = [.dat (wishD c l) .sh, .dat (.tuple [rowD is, rowD js]) .sh] ∧ GoodW c l ∧ (∀ j ∈ js, 0 ≤ j ∧ j < c.length) ∧ js.length ≤ 1000 ∧ Q (.dat (.int (sizeOf' c is js)) .A)
theorem mono_size_of : MonoSp sp_size_of := fun its Q Q' h ⟨c, l, r, d, e, h1, h2, h3, q⟩ => ⟨c, l, r, d, e, h1, h2, h3, h _ q⟩
theorem use_size_of {a b : Item} {c : List Int} {l : List (List (List Int))} {is js : List Int} (h : argI a = .dat (wishD c l) .sh) (hb : argI b = .dat (.tuple [rowD is, rowD js]) .sh) (g : GoodW c l) (hj : ∀ j ∈ js, 0 ≤ j ∧ j < c.length) (hl : js.length ≤ 1000) {Q : Item → Prop} (q : Q (.dat (.int (sizeOf' c is js)) .A)) : callI sp_size_of [a, b] Q :=
  callI_any mono_size_of ⟨c, l, is, js, by rw [List.map_cons, List.map_cons, h, hb]; rfl, g, hj, hl, ⟨_, rfl⟩, q⟩
theorem ok_size_of {P : Program} {w : World} {K : PySem.W.Frag} {mg : Str → Option Value} {base : Heap} (T : TX mg) (D : FD K mg "size_of" s_size_of ["wishes", "cover"]) (C_look_at_wishes : Cal P w K mg base "look_at_wishes" ["thing"] 4 sp_look_at_wishes) : Cal P w K mg base "size_of" ["wishes", "cover"] 5 sp_size_of := by
  have sc := sc_size_of
  have nd := sc.nd
  refine vdef D sc mono_size_of (fun its Q ⟨d, n, r, d', e, _⟩ => by rw [e]; rfl) fun f cdv A outer s H E hr => ?_
  refine ⟨_, (vss_cons (vs_expr (VE.vm (VE.cq (vcall C_look_at_wishes (hr.mono (by decide)) rfl (va_cons (vv 0) va_nil)))))
      (vss_cons (vs_asg (VE.vm (vmv 1)) (vg_tup (n := 2) rfl (vgs_cons (vg_name (i := 2) sc.nd rfl (by walk_at "loc")) (vgs_cons (vg_name (i := 3) sc.nd rfl (by walk_at "loc")) vgs_nil))))
      (vss_one (vs_ret (VE.vm (ve_add (ve_callB call_len_seq snd_len rLen_mono rfl T.b_len (by decide +kernel) (va_cons (vv 2) va_nil)) (ve_callB (cr_sum rfl) snd_sum rSumI_mono rfl T.b_sum (by decide +kernel) (va_cons (VE.lq (ve_lc .A (own := [("thing", 4)]) rfl sc.nd (vi_list (vv 3)) (blkOk_by (N := ["wishes", "cover", "askers", "things", "thing"]) (sc := defScope s_size_of) (by decide +kernel)) (by decide) (fun _ _ _ _ _ => (vg_name (i := 4) sc.nd rfl (by walk_at "loc"))) (fun _ _ _ _ _ => vts_nil) (fun _ _ _ _ _ => (ve_item (ve_item (vv 0) ve_int) (vv 4))))) va_nil)))))))), fun its Q hs => ?_⟩
  obtain ⟨c, l, is, js, rfl, g, hj, hlen, q⟩ := hs
  show tvSeq _ _ _ [some (.dat (wishD c l) .sh), some (.dat (.tuple [rowD is, rowD js]) .sh), none, none, none]
  walk_at "vc"
  refine use_look_at_wishes arg_dat g ?_
  walk_at "vc"
  simp only [rowD]
  walk_at "vc"
  refine lcP_fm (fun d => match d with | .int j => some (.int (c.getD j.toNat 0)) | _ => none) ?_ (fun d hd acc P hacc h1 h2 => ?_) ?_
  · rw [List.length_map]
    exact small (by omega)
  · obtain ⟨j, hjm, rfl⟩ := List.mem_map.mp hd
    simp only [wipeE, wishD, rowD, listsD]
    walk_at "vc"
    simp only [atI_0]
    walk_at "vc"
    simp only [atI_in c j (hj j hjm)]
    walk_at "vc"
    exact ⟨hacc, h1 _ rfl⟩
  · walk_at "vc"
    rw [List.filterMap_map]
    have e1 : js.filterMap ((fun d => match d with | .int j => some (.int (c.getD j.toNat 0)) | _ => none) ∘ PyData.int) = (js.map fun j => c.getD j.toNat 0).map PyData.int := by
      rw [List.map_map, ← fm_some']
      rfl
    rw [e1, intsD_map]
    walk_at "vc"
    rw [List.length_map]
    exact q

abbrev s__law_cell_at : Stmt := topS 22
theorem sc__law_cell_at : FnScope ["script", "k"] ["script", "k"] (defScope s__law_cell_at) := ⟨rfl, rfl, rfl, by decide +kernel, rfl, by decide +kernel, by decide +kernel⟩
def cellAt (ns : List Int) (k : Nat) : Int := ns.getD k 0
def sp_law_cell_at : VSp := fun its Q => ∃ (ns : List Int) (k : Nat), its = [.ro (.list (ns.map .int)), .dat (.int k) .A] ∧ Q (.dat (.int (cellAt ns k)) .A)
theorem mono_law_cell_at : MonoSp sp_law_cell_at := fun its Q Q' h ⟨ns, k, e, q⟩ => ⟨ns, k, e, h _ q⟩
theorem use_law_cell_at {a b : Item} {ns : List Int} {i : Int} {k : Nat} (h : argI a = .ro (.list (ns.map .int))) (hb : argI b = .dat (.int i) .A) (hi : i = k) {Q : Item → Prop} (q : Q (.dat (.int (cellAt ns k)) .A)) : callI sp_law_cell_at [a, b] Q :=
  callI_any mono_law_cell_at ⟨ns, k, by rw [List.map_cons, List.map_cons, h, hb, hi]; rfl, ⟨_, rfl⟩, q⟩
theorem ok__law_cell_at {P : Program} {w : World} {K : PySem.W.Frag} {mg : Str → Option Value} {base : Heap} (T : TX mg) (D : FD K mg "_law_cell_at" s__law_cell_at ["script", "k"]) : Cal P w K mg base "_law_cell_at" ["script", "k"] 1 sp_law_cell_at := by
  have sc := sc__law_cell_at
  have nd := sc.nd
  refine vdef D sc mono_law_cell_at (fun its Q ⟨d, n, e, _⟩ => by rw [e]; rfl) fun f cdv A outer s H E hr => ?_
  refine ⟨_, (vss_cons (vs_if (VT.vn (vt_lt (vv 1) (ve_callB call_len_seq snd_len rLen_mono rfl T.b_len (by decide +kernel) (va_cons (vv 0) va_nil))))
       (vss_one (vs_ret (VE.vm (ve_item (vv 0) (vv 1)))))
       vss_nil)
      (vss_one (vs_ret (VE.vm ve_int)))), fun its Q hs => ?_⟩
  obtain ⟨ns, k, rfl, q⟩ := hs
  show tvSeq _ _ _ [some (.ro (.list (ns.map .int))), some (.dat (.int k) .A)]
  walk_at "vc"
  rw [List.length_map]
  by_cases h : k < ns.length
  · rw [if_pos (by simpa using h)]
    have e : atI (ns.map PyData.int) (k : Nat) = some (.int (cellAt ns k)) := by
      rw [atI_ofNat, List.getElem?_map, cellAt, List.getD_eq_getElem?_getD, List.getElem?_eq_getElem h]
      rfl
    simp only [e]
    walk_at "vc"
    exact q
  · rw [if_neg (by simpa using h)]
    have e : cellAt ns k = 0 := by rw [cellAt, List.getD_eq_getElem?_getD, List.getElem?_eq_none (by omega)]; rfl
    rw [e] at q
    exact q

abbrev s__law_numbers : Stmt := topS 23
theorem sc__law_numbers : FnScope ["cell", "salt", "sizes", "number", "left", "found", "k", "one"] ["cell", "salt", "sizes"] (defScope s__law_numbers) := ⟨rfl, rfl, rfl, by decide +kernel, rfl, by decide +kernel, by decide +kernel⟩
/-- digits below sizes -/
def digitsOf (sizes ds : List Int) : Prop := ds.length = sizes.length ∧ ∀ (i : Nat) (h : i < ds.length) (h2 : i < sizes.length), 0 ≤ ds[i] ∧ ds[i] < sizes[i]
def sp_law_numbers : VSp := fun its Q => ∃ (c t : Int) (sizes : List Int), its = [.dat (.int c) .A, .dat (.int t) .A, .dat (rowD sizes) .sh] ∧ sizes.length ≤ 1000 ∧ (∀ x ∈ sizes, 0 < x ∧ x ≤ 10 ^ 18) ∧ ∀ ds, digitsOf sizes ds → Q (.dat (rowD ds) .A)
theorem mono_law_numbers : MonoSp sp_law_numbers := fun its Q Q' h ⟨c, t, z, e, h1, h2, q⟩ => ⟨c, t, z, e, h1, h2, fun ds hd => h _ (q ds hd)⟩
theorem use_law_numbers {a b x : Item} {c t : Int} {sizes : List Int} (h : argI a = .dat (.int c) .A) (hb : argI b = .dat (.int t) .A) (hx : argI x = .dat (rowD sizes) .sh) (hl : sizes.length ≤ 1000) (hz : ∀ x ∈ sizes, 0 < x ∧ x ≤ 10 ^ 18) {Q : Item → Prop} (q : ∀ ds, digitsOf sizes ds → Q (.dat (rowD ds) .A)) : callI sp_law_numbers [a, b, x] Q :=
  callI_any mono_law_numbers ⟨c, t, sizes, by rw [List.map_cons, List.map_cons, List.map_cons, h, hb, hx]; rfl, hl, hz, fun ds hd => ⟨⟨_, rfl⟩, q ds hd⟩⟩
theorem digits_snoc {sizes ds : List Int} {x : Int} (h : ∀ (i : Nat) (h : i < ds.length) (h2 : i < sizes.length), 0 ≤ ds[i] ∧ ds[i] < sizes[i]) (hl : ds.length < sizes.length) (hx : 0 ≤ x ∧ x < sizes[ds.length]) : ∀ (i : Nat) (h : i < (ds ++ [x]).length) (h2 : i < sizes.length), 0 ≤ (ds ++ [x])[i] ∧ (ds ++ [x])[i] < sizes[i] := by
  intro i h1 h2
  rw [List.length_append] at h1
  by_cases hi : i < ds.length
  · rw [List.getElem_append_left hi]; exact h i hi h2
  · have : i = ds.length := by simp at h1; omega
    subst this
    simpa using hx
theorem ok__law_numbers {P : Program} {w : World} {K : PySem.W.Frag} {mg : Str → Option Value} {base : Heap} (T : TX mg) (D : FD K mg "_law_numbers" s__law_numbers ["cell", "salt", "sizes"]) : Cal P w K mg base "_law_numbers" ["cell", "salt", "sizes"] 1 sp_law_numbers := by
  have sc := sc__law_numbers
  have nd := sc.nd
  refine vdef D sc mono_law_numbers (fun its Q ⟨d, n, r, e, _⟩ => by rw [e]; rfl) fun f cdv A outer s H E hr => ?_
  refine ⟨_, (vss_cons (vs_set (i := 3) sc.nd rfl (by walk_at "loc") (VE.vm (ve_callB (call_max2 rfl) snd_MM rMM_mono rfl T.b_max (by decide +kernel) (va_cons (vv 0) (va_cons (ve_sub (ve_neg ve_int) (vv 0)) va_nil)))))
      (vss_cons (vs_set (i := 4) sc.nd rfl (by walk_at "loc") (VE.vm (vv 3)))
      (vss_cons (vs_set (i := 5) sc.nd rfl (by walk_at "loc") (VE.vm (ve_emp .A)))
      (vss_cons (vs_for PassesOwn.never rfl (vi_range1 rfl T.b_range (va_cons (ve_callB call_len_seq snd_len rLen_mono rfl T.b_len (by decide +kernel) (va_cons (vv 2) va_nil)) va_nil)) (vg_name (i := 6) sc.nd rfl (by walk_at "loc"))
       (vss_one (vs_if (VT.vn (VW.vt (vw_and (vt_ge (vv 3) (ve_pow ve_int ve_int)) (vw_and1 (vt_gt (vv 4) ve_int)))))
        (vss_cons (vs_expr (vm_mut PySem.F.slot_list_append PySem.F.type_list_append mt_append snd_app rmApp_mono (pv 5) (va_consN (ve_mod (vv 4) (ve_item (vv 2) (vv 6))) va_nil)))
        (vss_one (vs_set (i := 4) sc.nd rfl (by walk_at "loc") (VE.vm (ve_divW (vv 4) (ve_item (vv 2) (vv 6)))))))
        (vss_cons (vs_set (i := 7) sc.nd rfl (by walk_at "loc") (VE.vm (ve_mod (ve_add (ve_add (ve_add (vv 3) (ve_mul ve_int (vv 1))) (ve_mul (ve_mul ve_int (vv 6)) (vv 6))) (vv 6)) ve_int)))
        (vss_cons (vs_set (i := 7) sc.nd rfl (by walk_at "loc") (VE.vm (ve_mod (ve_mul (vv 7) ve_int) ve_int)))
        (vss_cons (vs_set (i := 7) sc.nd rfl (by walk_at "loc") (VE.vm (ve_mod (ve_mul (ve_mod (ve_mul (vv 7) (vv 7)) ve_int) ve_int) ve_int)))
        (vss_one (vs_expr (vm_mut PySem.F.slot_list_append PySem.F.type_list_append mt_append snd_app rmApp_mono (pv 5) (va_consN (ve_mod (ve_divW (vv 7) ve_int) (ve_item (vv 2) (vv 6))) va_nil))))))))))
      (vss_one (vs_ret (VE.vm (vmv 5)))))))), fun its Q hs => ?_⟩
  obtain ⟨c, t, sizes, rfl, hl, hz, q⟩ := hs
  show tvSeq _ _ _ [some (.dat (.int c) .A), some (.dat (.int t) .A), some (.dat (rowD sizes) .sh), none, none, none, none, none]
  simp only [rowD]
  walk_at "vc"
  rw [List.length_map]
  refine ⟨by omega, by omega, ?_⟩
  rw [Int.toNat_natCast]
  generalize (if -1 - c > c then -1 - c else c) = number
  refine forP_range sizes.length (fun i env => ∃ (left : Int) (ds : List Int) (a b : Option Item), ds.length = i ∧ (∀ (i : Nat) (h : i < ds.length) (h2 : i < sizes.length), 0 ≤ ds[i] ∧ ds[i] < sizes[i]) ∧ env = [some (.dat (.int c) .A), some (.dat (.int t) .A), some (.dat (rowD sizes) .sh), some (.dat (.int number) .A), some (.dat (.int left) .A), some (.dat (rowD ds) .A), a, b]) ⟨number, [], none, none, rfl, fun i h => absurd h (Nat.not_lt_zero _), rfl⟩ (fun i hi env ⟨left, ds, a, b, hlen, hds, e⟩ => ?_) fun env ⟨left, ds, a, b, hlen, hds, e⟩ => ?_
  · subst e
    simp only [rowD]
    walk_at "vc"
    refine ⟨⟨by decide, by decide, by decide⟩, ?_⟩
    have hi' : ds.length < sizes.length := by omega
    have hs1 := hz sizes[i] (List.getElem_mem hi)
    have hs2 : sizes[ds.length] = sizes[i] := by simp only [hlen]
    have fin : ∀ x : Int, ∀ left' a' b', 0 ≤ x ∧ x < sizes[i] → ∃ (left : Int) (ds' : List Int) (a b : Option Item), ds'.length = i + 1 ∧ (∀ (i : Nat) (h : i < ds'.length) (h2 : i < sizes.length), 0 ≤ ds'[i] ∧ ds'[i] < sizes[i]) ∧ [some (Item.dat (.int c) .A), some (.dat (.int t) .A), some (.dat (rowD sizes) .sh), some (.dat (.int number) .A), some (.dat (.int left') .A), some (.dat (.list (ds.map .int ++ [.int x])) .A), a', b'] = [some (.dat (.int c) .A), some (.dat (.int t) .A), some (.dat (rowD sizes) .sh), some (.dat (.int number) .A), some (.dat (.int left) .A), some (.dat (rowD ds') .A), a, b] := fun x left' a' b' hx =>
      ⟨left', ds ++ [x], a', b', by simp [hlen], digits_snoc hds hi' (by rw [hs2]; exact hx), by rw [map_snoc]; rfl⟩
    simp only [atI_int sizes i hi]
    have small : (ds.map PyData.int).length < sizeLine := by rw [List.length_map]; exact smallLt (by omega)
    have wide : ∀ a : Int, CDivW a sizes[i] := fun a => wide_div (b := 60) hs1.1 (by omega) (by omega) (by omega)
    split
    · split
      · exact ⟨hs1.1, small, wide _, fin _ _ _ _ (emod_range _ hs1.1)⟩
      · have h1 := emod_range ((number + 7919 * t + 101 * (i : Int) * (i : Int) + (i : Int)) % 2147483647 * 48271) (j := 2147483647) (by decide)
        exact ⟨small_l (by decide), small_l (by decide), small_r (by omega), by decide, small_r (by decide), by decide, small_l (by omega), by decide, small_r (by decide), by decide, wide_div (b := 60) (by decide) (by decide) (by omega) (by omega), hs1.1, small, fin _ _ _ _ (emod_range _ hs1.1)⟩
    · have h1 := emod_range ((number + 7919 * t + 101 * (i : Int) * (i : Int) + (i : Int)) % 2147483647 * 48271) (j := 2147483647) (by decide)
      exact ⟨small_l (by decide), small_l (by decide), small_r (by omega), by decide, small_r (by decide), by decide, small_l (by omega), by decide, small_r (by decide), by decide, wide_div (b := 60) (by decide) (by decide) (by omega) (by omega), hs1.1, small, fin _ _ _ _ (emod_range _ hs1.1)⟩
  · subst e
    walk_at "vc"
    exact q ds ⟨hlen, hds⟩

abbrev s__law_wishes : Stmt := topS 24
theorem sc__law_wishes : FnScope ["script", "at", "most_things", "most_askers", "most_ranks", "sizes", "digits", "copies", "lists", "asker", "cell", "places", "ranks", "rank", "digit", "row", "thing"] ["script", "at", "most_things", "most_askers", "most_ranks"] (defScope s__law_wishes) := ⟨rfl, rfl, rfl, by decide +kernel, rfl, by decide +kernel, by decide +kernel⟩
theorem rowStep_ok {many : Int} : ∀ (row seen : List Int), row.Nodup → (∀ x ∈ row, 0 ≤ x ∧ x < many ∧ x ∉ seen) → (row.map PyData.int).foldlM (rowStep many) seen = some (seen ++ row)
  | [], seen, _, _ => by simp
  | x :: row, seen, hn, h => by
    rw [List.map_cons, List.foldlM_cons]
    have h1 := h x List.mem_cons_self
    have e : rowStep many seen (.int x) = some (seen ++ [x]) := by simp only [rowStep]; rw [if_pos h1]
    rw [e]
    have hn' := List.nodup_cons.mp hn
    have := rowStep_ok row (seen ++ [x]) hn'.2 fun y hy => ⟨(h y (List.mem_cons_of_mem _ hy)).1, (h y (List.mem_cons_of_mem _ hy)).2.1, fun hm => by
      rcases List.mem_append.mp hm with q | q
      · exact (h y (List.mem_cons_of_mem _ hy)).2.2 q
      · rw [List.mem_singleton] at q; subst q; exact hn'.1 hy⟩
    rw [List.append_assoc] at this
    exact this
theorem rankStep_ok {many : Int} : ∀ (rs : List (List Int)) (seen : List Int), (∀ r ∈ rs, r ≠ []) → (seen ++ rs.flatten).Nodup → (∀ x ∈ rs.flatten, 0 ≤ x ∧ x < many) → (rs.map rowD).foldlM (rankStep many) seen = some (seen ++ rs.flatten)
  | [], seen, _, _, _ => by simp
  | r :: rs, seen, h0, hn, h => by
    rw [List.map_cons, List.foldlM_cons, List.flatten_cons]
    rw [List.flatten_cons, ← List.append_assoc] at hn
    have hn2 := (List.nodup_append.mp hn).1
    have hn3 := List.nodup_append.mp hn2
    have hr : r ≠ [] := h0 r List.mem_cons_self
    have e : rankStep many seen (rowD r) = some (seen ++ r) := by
      have : rankStep many seen (rowD r) = (r.map PyData.int).foldlM (rowStep many) seen := by simp [rankStep, rowD, hr]
      rw [this]
      exact rowStep_ok r seen hn3.2.1 fun x hx => ⟨(h x (by simp [hx])).1, (h x (by simp [hx])).2, fun hm => hn3.2.2 x hm x hx rfl⟩
    rw [e]
    have := rankStep_ok rs (seen ++ r) (fun r' hr' => h0 r' (List.mem_cons_of_mem _ hr')) hn fun x hx => h x (by rw [List.flatten_cons]; exact List.mem_append_right _ hx)
    rw [List.append_assoc] at this
    exact this
theorem areRanks_of {many : Int} {rs : List (List Int)} (hl : rs.length ≤ 5) (h0 : ∀ r ∈ rs, r ≠ []) (hn : rs.flatten.Nodup) (h : ∀ x ∈ rs.flatten, 0 ≤ x ∧ x < many) : areRanks (ranksD rs) many = true := by
  simp only [areRanks, ranksD, List.length_map, Bool.and_eq_true]
  exact ⟨decide_eq_true hl, by rw [rankStep_ok rs [] h0 (by simpa using hn) h]; rfl⟩
def rowAt (dp : List Int) (n : Nat) (j : Int) : List Int := (List.range n).filterMap fun k => if dp.getD k 0 = j then some (k : Int) else none
theorem rowAt_mem {dp : List Int} {n : Nat} {j x : Int} (h : x ∈ rowAt dp n j) : 0 ≤ x ∧ x < n ∧ dp.getD x.toNat 0 = j := by
  obtain ⟨k, hk, e⟩ := List.mem_filterMap.mp h
  split at e
  · rename_i hj
    cases e
    have := List.mem_range.mp hk
    exact ⟨by omega, by omega, by rw [Int.toNat_natCast]; exact hj⟩
  · cases e
theorem rowAt_nodup (dp : List Int) (n : Nat) (j : Int) : (rowAt dp n j).Nodup := by
  unfold rowAt List.Nodup
  rw [List.pairwise_filterMap]
  refine List.Pairwise.imp (fun {a b} hab x hx y hy => ?_) (List.nodup_range (n := n))
  split at hx <;> split at hy <;> cases hx <;> cases hy
  omega
structure RkInv (dp : List Int) (n : Nat) (j : Nat) (rs : List (List Int)) : Prop where
  len : rs.length ≤ j
  ne : ∀ r ∈ rs, r ≠ []
  nd : rs.flatten.Nodup
  bd : ∀ x ∈ rs.flatten, 0 ≤ x ∧ x < n ∧ dp.getD x.toNat 0 ≤ j
theorem RkInv.skip {dp : List Int} {n j : Nat} {rs : List (List Int)} (h : RkInv dp n j rs) : RkInv dp n (j + 1) rs :=
  ⟨Nat.le_succ_of_le h.len, h.ne, h.nd, fun x hx => ⟨(h.bd x hx).1, (h.bd x hx).2.1, by have := (h.bd x hx).2.2; omega⟩⟩
theorem RkInv.snoc {dp : List Int} {n j : Nat} {rs : List (List Int)} {row : List Int} (h : RkInv dp n j rs) (hp : row.Perm (rowAt dp n (1 + (j : Nat)))) (hr : row ≠ []) : RkInv dp n (j + 1) (rs ++ [row]) := by
  have hm : ∀ x ∈ row, 0 ≤ x ∧ x < n ∧ dp.getD x.toNat 0 = 1 + (j : Nat) := fun x hx => rowAt_mem (hp.mem_iff.mp hx)
  refine ⟨by rw [List.length_append]; have := h.len; simp; omega, fun r hr' => ?_, ?_, fun x hx => ?_⟩
  · rcases List.mem_append.mp hr' with q | q
    · exact h.ne r q
    · rw [List.mem_singleton] at q; subst q; exact hr
  · rw [List.flatten_append, List.nodup_append]
    refine ⟨h.nd, by simpa using hp.nodup_iff.mpr (rowAt_nodup _ _ _), fun a ha b hb e => ?_⟩
    have h1 := (h.bd a ha).2.2
    have h2 := (hm b (by simpa using hb)).2.2
    rw [e] at h1
    omega
  · rw [List.flatten_append] at hx
    rcases List.mem_append.mp hx with q | q
    · exact ⟨(h.bd x q).1, (h.bd x q).2.1, by have := (h.bd x q).2.2; omega⟩
    · have := hm x (by simpa using q)
      exact ⟨this.1, this.2.1, by omega⟩
structure DrawnW (mt ma mr : Nat) (c : List Int) (l : List (List (List Int))) : Prop where
  good : GoodW c l
  ct : c.length ≤ mt
  la : l.length ≤ ma
  rr : ∀ r ∈ l, r.length ≤ mr
def sp_law_wishes : VSp := fun its Q => ∃ (ns : List Int) (at' mt ma mr : Nat), its = [.ro (.list (ns.map .int)), .dat (.int at') .A, .dat (.int mt) .A, .dat (.int ma) .A, .dat (.int mr) .A] ∧ 1 ≤ mt ∧ mt ≤ 6 ∧ 1 ≤ ma ∧ ma ≤ 7 ∧ mr ≤ 5 ∧ ∀ c l, DrawnW mt ma mr c l → Q (.dat (wishD c l) .A)
theorem mono_law_wishes : MonoSp sp_law_wishes := fun its Q Q' h ⟨ns, a, mt, ma, mr, e, h1, h2, h3, h4, h5, q⟩ => ⟨ns, a, mt, ma, mr, e, h1, h2, h3, h4, h5, fun c l g => h _ (q c l g)⟩
theorem use_law_wishes {a b x y z : Item} {ns : List Int} {i j k n : Int} {at' mt ma mr : Nat} (h : argI a = .ro (.list (ns.map .int))) (hb : argI b = .dat (.int i) .A) (hx : argI x = .dat (.int j) .A) (hy : argI y = .dat (.int k) .A) (hz : argI z = .dat (.int n) .A) (ei : i = at') (ej : j = mt) (ek : k = ma) (en : n = mr)
    (h1 : 1 ≤ mt) (h2 : mt ≤ 6) (h3 : 1 ≤ ma) (h4 : ma ≤ 7) (h5 : mr ≤ 5) {Q : Item → Prop} (q : ∀ c l, DrawnW mt ma mr c l → Q (.dat (wishD c l) .A)) : callI sp_law_wishes [a, b, x, y, z] Q :=
  callI_any mono_law_wishes ⟨ns, at', mt, ma, mr, by simp only [List.map_cons, h, hb, hx, hy, hz, ei, ej, ek, en]; rfl, h1, h2, h3, h4, h5, fun c l g => ⟨⟨_, rfl⟩, q c l g⟩⟩
theorem ok__law_wishes {P : Program} {w : World} {K : PySem.W.Frag} {mg : Str → Option Value} {base : Heap} (T : TX mg) (D : FD K mg "_law_wishes" s__law_wishes ["script", "at", "most_things", "most_askers", "most_ranks"]) (C__law_numbers : Cal P w K mg base "_law_numbers" ["cell", "salt", "sizes"] 1 sp_law_numbers) (C__law_cell_at : Cal P w K mg base "_law_cell_at" ["script", "k"] 1 sp_law_cell_at) : Cal P w K mg base "_law_wishes" ["script", "at", "most_things", "most_askers", "most_ranks"] 2 sp_law_wishes := by
  have sc := sc__law_wishes
  have nd := sc.nd
  refine vdef D sc mono_law_wishes (fun its Q ⟨d, n, r, _, _, e, _⟩ => by rw [e]; rfl) fun f cdv A outer s H E hr => ?_
  refine ⟨_, (vss_cons (vs_set (i := 5) sc.nd rfl (by walk_at "loc") (VE.vm (ve_op op_cat snd_Cat rvCat_mono (ve_lst (va_consN (vv 2) (va_consN (vmv 3) va_nil))) (ve_op op_rep snd_Rep rvRep_mono (ve_lst (va_consN ve_int va_nil)) (vv 2)))))
      (vss_cons (vs_set (i := 6) sc.nd rfl (by walk_at "loc") (VE.vm (VE.cq (vcall C__law_numbers (hr.mono (by decide)) rfl (va_cons (VE.cq (vcall C__law_cell_at (hr.mono (by decide)) rfl (va_cons (vv 0) (va_cons (vv 1) va_nil)))) (va_cons (vv 1) (va_cons (vv 5) va_nil)))))))
      (vss_cons (VS.lq (vs_setLc (i := 7) .A (own := [("digit", 14)]) rfl sc.nd rfl (by rfl) (sw_true rfl rfl rfl (by decide +kernel)) (vi_list (ve_slL (vv 6) (vo_some ve_int) (vo_some (ve_add ve_int (ve_item (vv 6) ve_int))))) (blkOk_by (N := ["script", "at", "most_things", "most_askers", "most_ranks", "sizes", "digits", "copies", "lists", "asker", "cell", "places", "ranks", "rank", "digit", "row", "thing"]) (sc := defScope s__law_wishes) (by decide +kernel)) (by decide) (fun _ _ _ _ _ => (vg_name (i := 14) sc.nd rfl (by walk_at "loc"))) (fun _ _ _ _ _ => vts_nil) (fun _ _ _ _ _ => (ve_item (ve_lst (va_consN ve_int (va_consN ve_int (va_consN ve_int (va_consN ve_int (va_consN ve_int (va_consN ve_int (va_consN ve_int (va_consN ve_int (va_consN ve_int (va_consN ve_int (va_consN ve_int va_nil)))))))))))) (vv 14)))))
      (vss_cons (vs_set (i := 8) sc.nd rfl (by walk_at "loc") (VE.vm (ve_emp .Z)))
      (vss_cons (vs_for PassesOwn.never rfl (vi_range1 rfl T.b_range (va_cons (ve_add ve_int (ve_item (vv 6) ve_int)) va_nil)) (vg_name (i := 9) sc.nd rfl (by walk_at "loc"))
       (vss_cons (vs_set (i := 10) sc.nd rfl (by walk_at "loc") (VE.vm (VE.cq (vcall C__law_cell_at (hr.mono (by decide)) rfl (va_cons (vv 0) (va_cons (ve_add (ve_add (vv 1) ve_int) (vv 9)) va_nil))))))
       (vss_cons (vs_set (i := 11) sc.nd rfl (by walk_at "loc") (VE.vm (VE.cq (vcall C__law_numbers (hr.mono (by decide)) rfl (va_cons (vv 10) (va_cons (ve_add (ve_add (ve_mul ve_int (vv 1)) (ve_mul ve_int (vv 9))) ve_int) (va_cons (ve_op op_cat snd_Cat rvCat_mono (ve_op op_rep snd_Rep rvRep_mono (ve_lst (va_consN (ve_add (vv 4) ve_int) va_nil)) (vv 2)) (ve_lst (va_consN ve_int va_nil))) va_nil)))))))
       (vss_cons (vs_set (i := 12) sc.nd rfl (by walk_at "loc") (VE.vm (ve_emp .Z)))
       (vss_cons (vs_for PassesOwn.never rfl (vi_range2 rfl T.b_range (va_cons ve_int (va_cons (ve_add (vv 4) ve_int) va_nil))) (vg_name (i := 13) sc.nd rfl (by walk_at "loc"))
        (vss_cons (VS.lq (vs_setLc (i := 15) .A (own := [("thing", 16)]) rfl sc.nd rfl (by rfl) (sw_true rfl rfl rfl (by decide +kernel)) (vi_range1 rfl T.b_range (va_cons (ve_callB call_len_seq snd_len rLen_mono rfl T.b_len (by decide +kernel) (va_cons (vv 7) va_nil)) va_nil)) (blkOk_by (N := ["script", "at", "most_things", "most_askers", "most_ranks", "sizes", "digits", "copies", "lists", "asker", "cell", "places", "ranks", "rank", "digit", "row", "thing"]) (sc := defScope s__law_wishes) (by decide +kernel)) (by decide) (fun _ _ _ _ _ => (vg_name (i := 16) sc.nd rfl (by walk_at "loc"))) (fun _ _ _ _ _ => (vts_one (vt_eq (hu64 hr) (ve_item (vv 11) (vv 16)) (vv 13)))) (fun _ _ _ _ _ => (vv 16))))
        (vss_one (vs_if (VT.vn (vt_ne (hu64 hr) (vv 15) (ve_emp .A)))
         (vss_one (vs_expr (vm_mut PySem.F.slot_list_append PySem.F.type_list_append mt_append snd_app rmApp_mono (pv 12) (va_consN (ve_item (ve_lst (va_consN (vtk 15) (va_consN (ve_revL (vtk 15)) va_nil))) (ve_item (vv 11) (ve_neg ve_int))) va_nil))))
         vss_nil))))
       (vss_one (vs_expr (vm_mut PySem.F.slot_list_append PySem.F.type_list_append mt_append snd_app rmApp_mono (pv 8) (va_consN (vmv 12) va_nil)))))))))
      (vss_one (vs_ret (VE.vm (ve_tup (va_consN (vmv 7) (va_consN (vmv 8) va_nil))))))))))), fun its Q hs => ?_⟩
  obtain ⟨ns, at', mt, ma, mr, rfl, h1, h2, h3, h4, h5, q⟩ := hs
  show tvSeq _ _ _ [some (.ro (.list (ns.map .int))), some (.dat (.int at') .A), some (.dat (.int mt) .A), some (.dat (.int ma) .A), some (.dat (.int mr) .A), none, none, none, none, none, none, none, none, none, none, none, none]
  walk_at "vc"
  refine ⟨by decide, by decide, by omega, by omega, small (by omega), small (by rw [rep_ints]; simp; omega), ?_⟩
  refine use_law_cell_at rfl arg_dat rfl ?_
  walk_at "vc"
  rw [rep_ints, Int.toNat_natCast, show [PyData.int mt, PyData.int ma] ++ (List.replicate mt (11 : Int)).map PyData.int = ([(mt : Int), (ma : Int)] ++ List.replicate mt 11).map PyData.int by rw [List.map_append]; rfl]
  refine use_law_numbers arg_dat arg_dat arg_vlist (by simp; omega) (fun x hx => ?_) fun ds hds => ?_
  · rcases List.mem_append.mp hx with q | q
    · rcases List.mem_cons.mp q with e | q
      · subst e; omega
      · rw [List.mem_singleton] at q; subst q; omega
    · rw [(List.mem_replicate.mp q).2]; omega
  · obtain ⟨hdl, hdb⟩ := hds
    simp only [List.length_append, List.length_cons, List.length_nil, List.length_replicate] at hdl
    have d0 : 0 ≤ ds[0]'(by omega) ∧ ds[0]'(by omega) < (mt : Int) := hdb 0 (by omega) (by simp)
    have d1 : 0 ≤ ds[1]'(by omega) ∧ ds[1]'(by omega) < (ma : Int) := hdb 1 (by omega) (by simp)
    obtain ⟨n0, hn0⟩ := nat_of d0.1
    obtain ⟨n1, hn1⟩ := nat_of d1.1
    rw [hn0] at d0
    rw [hn1] at d1
    simp only [rowD]
    walk_at "vc"
    simp only [show atI (ds.map PyData.int) 0 = some (.int n0) by rw [← hn0]; exact atI_int ds 0 (by omega)]
    simp only [cut_nat ds 2 (3 + n0) (by omega) (by omega) (show (2 : Int) = (2 : Nat) from rfl) (show (3 : Int) + n0 = (3 + n0 : Nat) by omega), all_ints, if_true]
    have hdig : ((ds.drop 2).take (3 + n0 - 2)).length = n0 + 1 := by rw [List.length_take, List.length_drop]; omega
    have hdm : ∀ x ∈ (ds.drop 2).take (3 + n0 - 2), 0 ≤ x ∧ x < 11 := fun x hx => by
      obtain ⟨k, hk, e⟩ := List.getElem_of_mem (List.mem_of_mem_take hx)
      rw [List.length_drop] at hk
      rw [List.getElem_drop] at e
      have := hdb (2 + k) (by omega) (by simp; omega)
      rw [e, List.getElem_append_right (by simp)] at this
      simpa using this
    generalize (ds.drop 2).take (3 + n0 - 2) = digs at hdig hdm ⊢
    refine lcP_map .int .int digs (fun d => some ([1, 1, 2, 0, 3, 7, 1, 4, 5, 6, 1].getD d.toNat (0 : Int))) (by omega) (fun x hx acc P hacc h1 h2 => ?_) ?_
    · walk_at "vc"
      refine ⟨by decide, ?_⟩
      have e := atI_in [1, 1, 2, 0, 3, 7, 1, 4, 5, 6, 1] x (hdm x hx)
      simp only [List.map_cons, List.map_nil] at e
      simp only [e]
      walk_at "vc"
      exact ⟨hacc, h1 _ rfl⟩
    · have hc7 : ∀ y ∈ digs.filterMap (fun d => some ([1, 1, 2, 0, 3, 7, 1, 4, 5, 6, 1].getD d.toNat (0 : Int))), 0 ≤ y ∧ y ≤ 7 := fun y hy => by
        obtain ⟨x, hx, e⟩ := List.mem_filterMap.mp hy
        have := hdm x hx
        obtain ⟨k, rfl⟩ := nat_of this.1
        have hk : k < 11 := by omega
        cases e
        rw [Int.toNat_natCast]
        have : ∀ k : Fin 11, 0 ≤ [1, 1, 2, 0, 3, 7, 1, 4, 5, 6, 1].getD k.val (0 : Int) ∧ [1, 1, 2, 0, 3, 7, 1, 4, 5, 6, 1].getD k.val (0 : Int) ≤ 7 := by decide
        exact this ⟨k, hk⟩
      have hcl : (digs.filterMap (fun d => some ([1, 1, 2, 0, 3, 7, 1, 4, 5, 6, 1].getD d.toNat (0 : Int)))).length = n0 + 1 := by rw [fm_some', List.length_map, hdig]
      generalize digs.filterMap (fun d => some ([1, 1, 2, 0, 3, 7, 1, 4, 5, 6, 1].getD d.toNat (0 : Int))) = c at hc7 hcl ⊢
      walk_at "vc"
      simp only [show atI (ds.map PyData.int) 1 = some (.int n1) by rw [← hn1]; exact atI_int ds 1 (by omega)]
      refine ⟨by omega, by omega, ?_⟩
      rw [show ((1 : Int) + (n1 : Int)).toNat = 1 + n1 by omega]
      refine forP_range (1 + n1) (fun i env => ∃ (l : List (List (List Int))) (a9 a10 a11 a12 a13 a15 a16 : Option Item), l.length = i ∧ (∀ r ∈ l, r.length ≤ mr ∧ areRanks (ranksD r) c.length = true) ∧ env = [some (.ro (.list (ns.map .int))), some (.dat (.int at') .A), some (.dat (.int mt) .A), none, some (.dat (.int mr) .A), some (.dat (rowD ([(mt : Int), (ma : Int)] ++ List.replicate mt 11)) .A), some (.dat (rowD ds) .A), some (.dat (rowD c) .A), some (.dat (listsD l) (.own .Z)), a9, a10, a11, a12, a13, none, a15, a16])
        ⟨[], none, none, none, none, none, none, none, rfl, (fun _ h => absurd h List.not_mem_nil), rfl⟩ (fun i hi env ⟨l, a9, a10, a11, a12, a13, a15, a16, hll, hlr, e⟩ => ?_) fun env ⟨l, a9, a10, a11, a12, a13, a15, a16, hll, hlr, e⟩ => ?_
      · subst e
        walk_at "vc"
        refine use_law_cell_at arg_ro rfl (show (at' : Int) + 1 + i = (at' + 1 + i : Nat) by omega) ?_
        walk_at "vc"
        refine ⟨small_l (by decide), small_l (by decide), by decide, by omega, by omega, small (by omega), by decide, small (by rw [rep_ints]; simp; omega), ?_⟩
        rw [rep_ints, Int.toNat_natCast, show (List.replicate mt ((mr : Int) + 1)).map PyData.int ++ [PyData.int 2] = (List.replicate mt ((mr : Int) + 1) ++ [2]).map PyData.int by rw [List.map_append]; rfl]
        refine use_law_numbers arg_dat arg_dat arg_list (by simp; omega) (fun x hx => ?_) fun dp hdp => ?_
        · rcases List.mem_append.mp hx with q | q
          · rw [(List.mem_replicate.mp q).2]; omega
          · rw [List.mem_singleton] at q; subst q; omega
        · obtain ⟨hpl, hpb⟩ := hdp
          simp only [List.length_append, List.length_cons, List.length_nil, List.length_replicate] at hpl
          simp only [rowD]
          walk_at "vc"
          refine ⟨by decide, by decide, by omega, by omega, ?_⟩
          rw [show ((mr : Int) + 1 - 1).toNat = mr by omega]
          refine forP_range1 mr (fun j env => ∃ (rs : List (List Int)) (a13 a15 a16 : Option Item), RkInv dp c.length j rs ∧ env = [some (.ro (.list (ns.map .int))), some (.dat (.int at') .A), some (.dat (.int mt) .A), none, some (.dat (.int mr) .A), some (.dat (rowD ([(mt : Int), (ma : Int)] ++ List.replicate mt 11)) .A), some (.dat (rowD ds) .A), some (.dat (rowD c) .A), some (.dat (listsD l) (.own .Z)), some (.dat (.int (i : Nat)) .A), some (.dat (.int (cellAt ns (at' + 1 + i))) .A), some (.dat (rowD dp) .A), some (.dat (ranksD rs) (.own .Z)), a13, none, a15, a16])
            ⟨[], a13, a15, a16, ⟨Nat.zero_le _, (fun _ h => absurd h List.not_mem_nil), List.nodup_nil, (fun _ h => absurd h List.not_mem_nil)⟩, rfl⟩ (fun j hj env ⟨rs, a13, a15, a16, hrs, e⟩ => ?_) fun env ⟨rs, a13, a15, a16, hrs, e⟩ => ?_
          · subst e
            simp only [rowD]
            walk_at "vc"
            rw [List.length_map]
            refine ⟨by omega, by omega, ?_⟩
            rw [Int.toNat_natCast, rangeD_map]
            refine lcP_map (fun k : Nat => PyData.int (k : Nat)) .int (List.range c.length) (fun k => if dp.getD k 0 = 1 + (j : Nat) then some (k : Int) else none) (by rw [List.length_range]; omega) (fun k hk acc P hacc h1 h2 => ?_) ?_
            · have hk := List.mem_range.mp hk
              walk_at "vc"
              have hk2 : k < dp.length := by omega
              simp only [atI_int dp k hk2]
              walk_at "vc"
              refine ⟨shaped_int _, shaped_int _, ?_⟩
              rw [eqv_int]
              have hd : dp.getD k 0 = dp[k] := by rw [List.getD_eq_getElem?_getD, List.getElem?_eq_getElem hk2]; rfl
              by_cases hq : dp[k] = 1 + (j : Nat)
              · rw [if_pos (decide_eq_true hq)]
                exact ⟨hacc, h1 _ (by rw [hd, if_pos hq])⟩
              · rw [if_neg (by simpa using hq)]
                exact h2 (by rw [hd, if_neg hq])
            · show _
              rw [show ((List.range c.length).filterMap fun k => if dp.getD k 0 = 1 + (j : Nat) then some (k : Int) else none) = rowAt dp c.length (1 + (j : Nat)) from rfl]
              generalize hrow : rowAt dp c.length (1 + (j : Nat)) = row
              walk_at "vc"
              refine ⟨shaped_row row, shaped_row [], ?_⟩
              rw [show (PyData.list (row.map .int)).eqv (.list []) = decide (row = []) from eqv_row row []]
              by_cases hr0 : row = []
              · rw [if_neg (by simp [hr0])]
                exact ⟨rs, _, _, _, hrs.skip, rfl⟩
              · rw [if_pos (by simp [hr0])]
                have hd2 : 0 ≤ dp[mt]'(by omega) ∧ dp[mt]'(by omega) < 2 := by
                  have := hpb mt (by omega) (by simp)
                  rw [List.getElem_append_right (by simp)] at this
                  simpa using this
                have hlast : atI (dp.map PyData.int) (-1) = some (.int (dp[mt]'(by omega))) := by
                  rw [atI_m1, List.length_map, show dp.length - 1 = mt by omega, List.getElem?_map, List.getElem?_eq_getElem (by omega)]
                  rfl
                have hsz : (rs.map rowD).length < sizeLine := by rw [List.length_map]; have := hrs.len; exact smallLt (by omega)
                simp only [hlast, ranksD, ← List.map_reverse, all_ints]
                walk_at "vc"
                refine ⟨by decide, ?_⟩
                rcases (show dp[mt]'(by omega) = 0 ∨ dp[mt]'(by omega) = 1 by omega) with hz | hz
                · simp only [hz, atI_0]
                  walk_at "vc"
                  exact ⟨hsz, rs ++ [row], _, _, _, hrs.snoc (by rw [hrow]) hr0, by rw [rows_app]⟩
                · simp only [hz, atI_1]
                  walk_at "vc"
                  exact ⟨hsz, rs ++ [row.reverse], _, _, _, hrs.snoc (by rw [hrow]; exact List.reverse_perm _) (by simpa using hr0), by rw [rows_app]⟩
          · subst e
            simp only [rowD, ranksD, listsD]
            walk_at "vc"
            refine ⟨by rw [List.length_map]; exact smallLt (by omega), l ++ [rs], _, _, _, _, _, _, _, by rw [List.length_append, hll]; rfl, fun r hr => ?_, by rw [map_app1 ranksD]; rfl⟩
            rcases List.mem_append.mp hr with q' | q'
            · exact hlr r q'
            · rw [List.mem_singleton] at q'
              subst q'
              exact ⟨hrs.len, areRanks_of (Nat.le_trans hrs.len h5) hrs.ne hrs.nd fun x hx => ⟨(hrs.bd x hx).1, (hrs.bd x hx).2.1⟩⟩
      · subst e
        simp only [rowD, listsD]
        walk_at "vc"
        refine ⟨by decide, ?_⟩
        exact q c l ⟨⟨by omega, by omega, hc7, by omega, by omega, fun r hr => (hlr r hr).2⟩, by omega, by omega, fun r hr => (hlr r hr).1⟩

abbrev s__law_copy : Stmt := topS 25
theorem sc__law_copy : FnScope ["wishes", "lists", "ranks", "row"] ["wishes"] (defScope s__law_copy) := ⟨rfl, rfl, rfl, by decide +kernel, rfl, by decide +kernel, by decide +kernel⟩
def sp_law_copy : VSp := fun its Q => ∃ (c : List Int) (l : List (List (List Int))), its = [.dat (wishD c l) .sh] ∧ c.length ≤ 1000 ∧ l.length ≤ 1000 ∧ (∀ r ∈ l, r.length ≤ 1000 ∧ ∀ x ∈ r, x.length ≤ 1000) ∧ Q (.dat (wishD c l) .A)
theorem mono_law_copy : MonoSp sp_law_copy := fun its Q Q' h ⟨c, l, e, h1, h2, h3, q⟩ => ⟨c, l, e, h1, h2, h3, h _ q⟩
theorem use_law_copy {a : Item} {c : List Int} {l : List (List (List Int))} (h : argI a = .dat (wishD c l) .sh) (h1 : c.length ≤ 1000) (h2 : l.length ≤ 1000) (h3 : ∀ r ∈ l, r.length ≤ 1000 ∧ ∀ x ∈ r, x.length ≤ 1000) {Q : Item → Prop} (q : Q (.dat (wishD c l) .A)) : callI sp_law_copy [a] Q :=
  callI_any mono_law_copy ⟨c, l, by rw [List.map_cons, h]; rfl, h1, h2, h3, ⟨_, rfl⟩, q⟩
theorem ok__law_copy {P : Program} {w : World} {K : PySem.W.Frag} {mg : Str → Option Value} {base : Heap} (T : TX mg) (D : FD K mg "_law_copy" s__law_copy ["wishes"]) : Cal P w K mg base "_law_copy" ["wishes"] 1 sp_law_copy := by
  have sc := sc__law_copy
  have nd := sc.nd
  refine vdef D sc mono_law_copy (fun its Q ⟨d, n, e, _⟩ => by rw [e]; rfl) fun f cdv A outer s H E hr => ?_
  refine ⟨_, (vss_cons (vs_set (i := 1) sc.nd rfl (by walk_at "loc") (VE.vm (ve_emp .A)))
      (vss_cons (vs_for PassesOwn.never rfl (vi_list (ve_item (vv 0) ve_int)) (vg_name (i := 2) sc.nd rfl (by walk_at "loc"))
       (vss_one (vs_expr (vm_mut PySem.F.slot_list_append PySem.F.type_list_append mt_append snd_app rmApp_mono (pv 1) (va_consN (VE.lq (ve_lc .A (own := [("row", 3)]) rfl sc.nd (vi_list (vv 2)) (blkOk_by (N := ["wishes", "lists", "ranks", "row"]) (sc := defScope s__law_copy) (by decide +kernel)) (by decide) (fun _ _ _ _ _ => (vg_name (i := 3) sc.nd rfl (by walk_at "loc"))) (fun _ _ _ _ _ => vts_nil) (fun _ _ _ _ _ => (ve_callTy call_list_of snd_listOf rvListOf_mono rfl T.b_list (by decide +kernel) (va_cons (vv 3) va_nil))))) va_nil)))))
      (vss_one (vs_ret (VE.vm (ve_tup (va_consN (ve_callTy call_list_of snd_listOf rvListOf_mono rfl T.b_list (by decide +kernel) (va_cons (ve_item (vv 0) ve_int) va_nil)) (va_consN (vmv 1) va_nil)))))))), fun its Q hs => ?_⟩
  obtain ⟨c, l, rfl, h1, h2, h3, q⟩ := hs
  show tvSeq _ _ _ [some (.dat (wishD c l) .sh), none, none, none]
  simp only [wishD, rowD, listsD]
  walk_at "vc"
  simp only [atI_1]
  walk_at "vc"
  refine forP_map (fun i env => ∃ a b, env = [some (.dat (wishD c l) .sh), some (.dat (listsD (l.take i)) .A), a, b]) ⟨none, none, rfl⟩ (fun i hi env ⟨a, b, e⟩ => ?_) fun env ⟨a, b, e⟩ => ?_
  · subst e
    have h4 := h3 l[i] (List.getElem_mem hi)
    simp only [ranksD, listsD]
    walk_at "vc"
    refine lcP_map rowD rowD l[i] (fun x => some x) (by omega) (fun x hx acc P hacc k1 k2 => ?_) ?_
    · simp only [rowD]
      walk_at "vc"
      exact ⟨hacc, k1 x rfl⟩
    · walk_at "vc"
      rw [fm_some', List.map_id']
      have e : (l.take (i + 1)).map ranksD = (l.take i).map ranksD ++ [.list (l[i].map rowD)] := by
        rw [List.take_add_one, List.getElem?_eq_getElem hi, List.map_append]
        rfl
      exact ⟨by rw [List.length_map, List.length_take]; exact smallLt (by omega), _, _, by rw [e]⟩
  · subst e
    simp only [listsD, wishD, rowD]
    walk_at "vc"
    simp only [atI_0]
    walk_at "vc"
    refine ⟨by decide, ?_⟩
    rw [List.take_length]
    exact q

abbrev s__law_is_number : Stmt := topS 26
theorem sc__law_is_number : FnScope ["thing"] ["thing"] (defScope s__law_is_number) := ⟨rfl, rfl, rfl, by decide +kernel, rfl, by decide +kernel, by decide +kernel⟩
def sp_law_is_number : VSp := fun its Q => ∃ d, its = [elI d] ∧ isDict d = false ∧ Q (.dat (.bool (isWhole d)) .A)
theorem mono_law_is_number : MonoSp sp_law_is_number := fun its Q Q' h ⟨d, e, hd, q⟩ => ⟨d, e, hd, h _ q⟩
theorem use_law_is_number {a : Item} {d : PyData} (h : argI a = elI d) (hd : isDict d = false) {Q : Item → Prop} (q : Q (.dat (.bool (isWhole d)) .A)) : callI sp_law_is_number [a] Q :=
  callI_any mono_law_is_number ⟨d, by rw [List.map_cons, h]; rfl, hd, ⟨_, rfl⟩, q⟩
theorem ok__law_is_number {P : Program} {w : World} {K : PySem.W.Frag} {mg : Str → Option Value} {base : Heap} (T : TX mg) (D : FD K mg "_law_is_number" s__law_is_number ["thing"]) : Cal P w K mg base "_law_is_number" ["thing"] 1 sp_law_is_number := by
  have sc := sc__law_is_number
  have nd := sc.nd
  refine vdef D sc mono_law_is_number (fun its Q ⟨d, e, _⟩ => by rw [e]; rfl) fun f cdv A outer s H E hr => ?_
  refine ⟨_, (vss_one (vs_ret (VE.vm (ve_and (ve_isi (T := "int") (by decide) rfl T.b_isinstance rfl T.b_int (by decide +kernel) (vv 0)) (ve_one (ve_not (ve_isi (T := "bool") (by decide) rfl T.b_isinstance rfl T.b_bool (by decide +kernel) (vv 0)))))))), fun its Q hs => ?_⟩
  obtain ⟨d, rfl, hd, q⟩ := hs
  show tvRet _ _ [some (elI d)]
  walk_at "vc"
  refine ⟨hd, ?_⟩
  cases d <;> first | exact q | exact ⟨hd, q⟩ | (simp only [isTy, Bool.false_eq_true, if_false, if_true]; first | exact q | exact ⟨hd, q⟩)

abbrev s__law_rows : Stmt := topS 27
theorem sc__law_rows : FnScope ["wishes", "ranks", "some"] ["wishes", "ranks"] (defScope s__law_rows) := ⟨rfl, rfl, rfl, by decide +kernel, rfl, by decide +kernel, by decide +kernel⟩
def sp_law_rows : VSp := fun its Q => ∃ (c : List Int) (l : List (List (List Int))) (r : Int), its = [.dat (wishD c l) .sh, .dat (.int r) .A] ∧ 0 ≤ r ∧ l.length ≤ 1000 ∧ (∀ sm ∈ l, sm.flatten.length ≤ 1000) ∧ Q (.dat (ranksD (rowsIn l r)) .A)
theorem mono_law_rows : MonoSp sp_law_rows := fun its Q Q' h ⟨c, l, r, e, h1, h2, h3, q⟩ => ⟨c, l, r, e, h1, h2, h3, h _ q⟩
theorem use_law_rows {a b : Item} {c : List Int} {l : List (List (List Int))} {r : Int} (h : argI a = .dat (wishD c l) .sh) (hb : argI b = .dat (.int r) .A) (h0 : 0 ≤ r) (h1 : l.length ≤ 1000) (h2 : ∀ sm ∈ l, sm.flatten.length ≤ 1000) {Q : Item → Prop} (q : Q (.dat (ranksD (rowsIn l r)) .A)) : callI sp_law_rows [a, b] Q :=
  callI_any mono_law_rows ⟨c, l, r, by rw [List.map_cons, List.map_cons, h, hb]; rfl, h0, h1, h2, ⟨_, rfl⟩, q⟩
theorem flatL_rows : ∀ rs : List (List Int), flatL (rs.map rowD) = some (rs.flatten.map .int)
  | [] => rfl
  | r :: rs => by
    rw [List.map_cons, List.flatten_cons, List.map_append]
    simp only [rowD, flatL, all_ints, if_true]
    have := flatL_rows rs
    rw [this]
    rfl
theorem ok__law_rows {P : Program} {w : World} {K : PySem.W.Frag} {mg : Str → Option Value} {base : Heap} (T : TX mg) (D : FD K mg "_law_rows" s__law_rows ["wishes", "ranks"]) : Cal P w K mg base "_law_rows" ["wishes", "ranks"] 1 sp_law_rows := by
  have sc := sc__law_rows
  have nd := sc.nd
  refine vdef D sc mono_law_rows (fun its Q ⟨d, n, r, e, _⟩ => by rw [e]; rfl) fun f cdv A outer s H E hr => ?_
  refine ⟨_, (vss_one (vs_ret (VE.vm (VE.lq (ve_lc .A (own := [("some", 2)]) rfl sc.nd (vi_list (ve_item (vv 0) ve_int)) (blkOk_by (N := ["wishes", "ranks", "some"]) (sc := defScope s__law_rows) (by decide +kernel)) (by decide) (fun _ _ _ _ _ => (vg_name (i := 2) sc.nd rfl (by walk_at "loc"))) (fun _ _ _ _ _ => vts_nil) (fun _ _ _ _ _ => (ve_callB (cr_sumL rfl) snd_sumL rvSumL_mono rfl T.b_sum (by decide +kernel) (va_cons (ve_slL (vv 2) vo_none (vo_some (vv 1))) (va_cons (ve_emp .A) va_nil))))))))), fun its Q hs => ?_⟩
  obtain ⟨c, l, r, rfl, h0, h1, h2, q⟩ := hs
  show tvRet _ _ [some (.dat (wishD c l) .sh), some (.dat (.int r) .A), none]
  simp only [wishD, rowD, listsD]
  walk_at "vc"
  simp only [atI_1]
  walk_at "vc"
  refine lcP_map ranksD rowD l (fun sm => some (sm.take r.toNat).flatten) (by omega) (fun sm hsm acc P hacc k1 k2 => ?_) ?_
  · simp only [ranksD]
    walk_at "vc"
    rw [cutD_take _ _ h0, ← List.map_take, flatL_rows]
    have h3 := h2 sm hsm
    have h4 := flat_take sm r.toNat
    exact ⟨lay_rows _, by rw [List.length_map]; exact small (by omega), hacc, k1 _ rfl⟩
  · walk_at "vc"
    rw [fm_some']
    exact q

abbrev s__law_lets_cover : Stmt := topS 28
theorem sc__law_lets_cover : FnScope ["wishes", "ranks", "thing", "row", "many", "asker", "one", "at"] ["wishes", "ranks", "thing"] (defScope s__law_lets_cover) := ⟨rfl, rfl, rfl, by decide +kernel, rfl, by decide +kernel, by decide +kernel⟩
def sp_law_lets_cover : VSp := fun its Q => ∃ (c : List Int) (l : List (List (List Int))) (r : Int) (d : PyData), its = [.dat (wishD c l) .sh, .dat (.int r) .A, elI d] ∧ GoodW c l ∧ 0 ≤ r ∧ SeqAt.shaped d = true ∧ Q (.dat (.bool (letsCover c l r d)) .A)
theorem mono_law_lets_cover : MonoSp sp_law_lets_cover := fun its Q Q' h ⟨c, l, r, d, e, h1, h2, h3, q⟩ => ⟨c, l, r, d, e, h1, h2, h3, h _ q⟩
theorem use_law_lets_cover {a b x : Item} {c : List Int} {l : List (List (List Int))} {r : Int} {d : PyData} (h : argI a = .dat (wishD c l) .sh) (hb : argI b = .dat (.int r) .A) (hx : argI x = elI d) (g : GoodW c l) (h0 : 0 ≤ r) (hd : SeqAt.shaped d = true) {Q : Item → Prop} (q : Q (.dat (.bool (letsCover c l r d)) .A)) : callI sp_law_lets_cover [a, b, x] Q :=
  callI_any mono_law_lets_cover ⟨c, l, r, d, by rw [List.map_cons, List.map_cons, List.map_cons, h, hb, hx]; rfl, g, h0, hd, ⟨_, rfl⟩, q⟩
theorem ok__law_lets_cover {P : Program} {w : World} {K : PySem.W.Frag} {mg : Str → Option Value} {base : Heap} (T : TX mg) (D : FD K mg "_law_lets_cover" s__law_lets_cover ["wishes", "ranks", "thing"]) (C__law_is_number : Cal P w K mg base "_law_is_number" ["thing"] 1 sp_law_is_number) (C__law_rows : Cal P w K mg base "_law_rows" ["wishes", "ranks"] 1 sp_law_rows) : Cal P w K mg base "_law_lets_cover" ["wishes", "ranks", "thing"] 2 sp_law_lets_cover := by
  have sc := sc__law_lets_cover
  have nd := sc.nd
  refine vdef D sc mono_law_lets_cover (fun its Q ⟨d, n, r, d', e, _⟩ => by rw [e]; rfl) fun f cdv A outer s H E hr => ?_
  refine ⟨_, (vss_cons (vs_if (VT.vn (VW.vt (vw_or (vt_not (vt_val (ve_isi (T := "tuple") (by decide) rfl T.b_isinstance rfl T.b_tuple (by decide +kernel) (vv 2)))) (vw_or1 (vt_ne (hu64 hr) (ve_callB call_len_seq snd_len rLen_mono rfl T.b_len (by decide +kernel) (va_cons (vv 2) va_nil)) ve_int)))))
       (vss_one (vs_ret (VE.vm ve_bl)))
       vss_nil)
      (vss_cons (vs_for PassesOwn.never rfl (vi_zipM rfl T.b_zip (va_cons (vv 2) (va_cons (ve_lst (va_consN (ve_callB call_len_seq snd_len rLen_mono rfl T.b_len (by decide +kernel) (va_cons (ve_item (vv 0) ve_int) va_nil)) (va_consN (ve_callB call_len_seq snd_len rLen_mono rfl T.b_len (by decide +kernel) (va_cons (ve_item (vv 0) ve_int) va_nil)) va_nil))) va_nil))) (vg_tup (n := 2) rfl (vgs_cons (vg_name (i := 3) sc.nd rfl (by walk_at "loc")) (vgs_cons (vg_name (i := 4) sc.nd rfl (by walk_at "loc")) vgs_nil)))
       (vss_cons (vs_if (VT.vn (vt_not (vt_val (ve_isi (T := "list") (by decide) rfl T.b_isinstance rfl T.b_list (by decide +kernel) (vv 3)))))
        (vss_one (vs_ret (VE.vm ve_bl)))
        vss_nil)
       (vss_one (vs_for PassesOwn.never rfl (vi_enum rfl T.b_enumerate (va_cons (vv 3) va_nil)) (vg_tup (n := 2) rfl (vgs_cons (vg_name (i := 7) sc.nd rfl (by walk_at "loc")) (vgs_cons (vg_name (i := 6) sc.nd rfl (by walk_at "loc")) vgs_nil)))
        (vss_one (vs_if (VT.vn (VW.vt (vw_or (vt_not (vt_val (VE.cq (vcall C__law_is_number (hr.mono (by decide)) rfl (va_cons (vv 6) va_nil))))) (vw_or (vt_lt (vv 6) ve_int) (vw_or (vt_ge (vv 6) (vv 4)) (vw_or1 (VW.vt (vw_and (vt_gt (vv 7) ve_int) (vw_and1 (vt_le (vv 6) (ve_item (vv 3) (ve_sub (vv 7) ve_int))))))))))))
         (vss_one (vs_ret (VE.vm ve_bl)))
         vss_nil))))))
      (vss_cons (vs_for PassesOwn.never rfl (vi_enum rfl T.b_enumerate (va_cons (VE.cq (vcall C__law_rows (hr.mono (by decide)) rfl (va_cons (vv 0) (va_cons (vv 1) va_nil)))) va_nil)) (vg_tup (n := 2) rfl (vgs_cons (vg_name (i := 5) sc.nd rfl (by walk_at "loc")) (vgs_cons (vg_name (i := 3) sc.nd rfl (by walk_at "loc")) vgs_nil)))
       (vss_one (vs_for PassesOwn.never rfl (vi_list (vmv 3)) (vg_name (i := 6) sc.nd rfl (by walk_at "loc"))
        (vss_one (vs_if (VT.vn (VW.vt (vw_and (vt_nin (hu65 hr) (vv 5) (ve_item (vv 2) ve_int) rfl) (vw_and1 (vt_nin (hu65 hr) (vv 6) (ve_item (vv 2) ve_int) rfl)))))
         (vss_one (vs_ret (VE.vm ve_bl)))
         vss_nil)))))
      (vss_one (vs_ret (VE.vm ve_bl)))))), fun its Q hs => ?_⟩
  obtain ⟨c, l, r, d, rfl, g, h0, hd, q⟩ := hs
  show tvSeq _ _ _ [some (.dat (wishD c l) .sh), some (.dat (.int r) .A), some (elI d), none, none, none, none, none]
  walk_at "vc"
  refine ⟨shaped_dict hd, ?_⟩
  cases d with
  | tuple ds =>
    walk_at "vc"
    simp only [isTy, if_true, if_false, Bool.not_true, Bool.false_eq_true]
    refine ⟨shaped_int _, shaped_int _, ?_⟩
    rw [eqv_int]
    by_cases h2 : ds.length = 2
    · obtain ⟨a, t, rfl⟩ : ∃ a t, ds = [a, t] := by
        match ds, h2 with
        | [a, t], _ => exact ⟨a, t, rfl⟩
      rw [if_neg (by simp)]
      have ha : SeqAt.shaped a = true := shaped_elT hd (by simp)
      have ht : SeqAt.shaped t = true := shaped_elT hd (by simp)
      simp only [wishD, rowD, listsD]
      walk_at "vc"
      simp only [atI_1, atI_0]
      walk_at "vc"
      rw [List.length_map, List.length_map]
      refine ⟨by decide, ?_⟩
      refine forP_ind (fun i env => (1 ≤ i → areRising a l.length = true) ∧ (2 ≤ i → areRising t c.length = true) ∧ ∃ w x y z v, env = [some (.dat (wishD c l) .sh), some (.dat (.int r) .A), some (.dat (.tuple [a, t]) .sh), w, x, y, z, v]) ⟨fun h => absurd h (by omega), fun h => absurd h (by omega), none, none, none, none, none, rfl⟩ (fun i d env hi ⟨g1, g2, w, x, y, z, v, e⟩ => ?_) fun env ⟨g1, g2, w, x, y, z, v, e⟩ => ?_
      · obtain ⟨p, n, hp, e2, nx, out⟩ : ∃ (p : PyData) (n : Nat), SeqAt.shaped p = true ∧ d = .tuple [p, .int n] ∧ (areRising p n = true → (1 ≤ i + 1 → areRising a l.length = true) ∧ (2 ≤ i + 1 → areRising t c.length = true)) ∧ (areRising p n = false → letsCover c l r (.tuple [a, t]) = false) := by
          match i, hi, g1 with
          | 0, hi, _ => cases hi; exact ⟨a, l.length, ha, rfl, fun h => ⟨fun _ => h, fun h => absurd h (by omega)⟩, fun h => letsCover_2 (.inl h)⟩
          | 1, hi, g1 => cases hi; exact ⟨t, c.length, ht, rfl, fun h => ⟨fun _ => g1 (by omega), fun _ => h⟩, fun h => letsCover_2 (.inr h)⟩
          | n + 2, hi, _ => cases hi
        subst e e2
        walk_at "vc"
        refine ⟨shaped_dict hp, ?_⟩
        cases p with
        | list ps =>
          simp only [isTy, Bool.not_true, Bool.false_eq_true, if_false]
          walk_at "vc"
          refine forP_ind (fun j env => ∃ s : Int, (ps.take j).foldlM (riseStep n) (-1) = some s ∧ (j = 0 ∧ s = -1 ∨ 0 < j ∧ 0 ≤ s ∧ ps[j - 1]? = some (.int s)) ∧ ∃ y z v, env = [some (.dat (wishD c l) .sh), some (.dat (.int r) .A), some (.dat (.tuple [a, t]) .sh), some (.dat (.list ps) .sh), some (.dat (.int (n : Nat)) .A), y, z, v]) ⟨-1, rfl, .inl ⟨rfl, rfl⟩, _, _, _, rfl⟩ (fun j d env hj ⟨s, hs, hj2, y, z, v, e⟩ => ?_) fun env ⟨s, hs, hj2, y, z, v, e⟩ => ?_
          · obtain ⟨d0, hd0, rfl⟩ := enumD_get hj
            subst e
            have hd0m := List.mem_of_getElem? hd0
            have out2 : riseStep n s d0 = none → Q (.dat (.bool false) .A) := fun hn => by
              have h1 : ps.foldlM (riseStep n) (-1) = none := foldlM_none _ _ ps (j + 1) (by rw [foldlM_take _ _ ps j d0 hd0, hs]; exact hn)
              rw [out (by simp only [areRising, h1, Option.isSome_none])] at q
              exact q
            walk_at "vc"
            refine use_law_is_number el_arg (shaped_dict (shaped_el hp hd0m)) ?_
            walk_at "vc"
            cases d0 with
            | int i =>
              have hs1 : -1 ≤ s := by rcases hj2 with h | h <;> omega
              have nope : ¬ (s < i ∧ i < (n : Int)) → Q (.dat (.bool false) .A) := fun h => out2 (by simp only [riseStep]; rw [if_neg h])
              have go : s < i ∧ i < (n : Int) → (ps.take (j + 1)).foldlM (riseStep n) (-1) = some i := fun h => by
                rw [foldlM_take _ _ ps j _ hd0, hs]
                show riseStep n s (.int i) = some i
                simp only [riseStep]
                rw [if_pos h]
              simp only [isWhole, Bool.not_true, Bool.false_eq_true, if_false]
              by_cases c1 : i < 0
              · rw [if_pos (decide_eq_true c1)]
                exact nope (by omega)
              · rw [if_neg (by simpa using c1)]
                by_cases c2 : (n : Int) ≤ i
                · rw [if_pos (decide_eq_true c2)]
                  exact nope (by omega)
                · rw [if_neg (by simpa using c2)]
                  by_cases c3 : 0 < (j : Int)
                  · rw [if_pos (decide_eq_true c3)]
                    obtain ⟨h1, h2, h3⟩ := hj2.resolve_left (by omega)
                    rw [show (j : Int) - 1 = ((j - 1 : Nat) : Int) by omega, atI_ofNat, h3]
                    walk_at "vc"
                    by_cases c4 : i ≤ s
                    · rw [if_pos (decide_eq_true c4)]
                      exact nope (by omega)
                    · rw [if_neg (by simpa using c4)]
                      exact ⟨i, go (by omega), .inr ⟨by omega, by omega, hd0⟩, _, _, _, rfl⟩
                  · rw [if_neg (by simpa using c3)]
                    have := hj2.resolve_right (by omega)
                    exact ⟨i, go (by omega), .inr ⟨by omega, by omega, hd0⟩, _, _, _, rfl⟩
            | _ =>
              simp only [isWhole, Bool.not_false, if_true]
              exact out2 rfl
          · subst e
            rw [enumD_len, List.take_length] at hs
            obtain ⟨n1, n2⟩ := nx (by simp only [areRising, hs, Option.isSome_some])
            exact ⟨n1, n2, _, _, _, _, _, rfl⟩
        | _ =>
          simp only [isTy, Bool.not_false, if_true]
          rw [out rfl] at q
          exact q
      · subst e
        have hra := g1 (by rw [zipD_len]; simp)
        have hrt := g2 (by rw [zipD_len]; simp)
        obtain ⟨la, rfl⟩ : ∃ la, a = .list la := by cases a <;> first | exact ⟨_, rfl⟩ | (simp [areRising] at hra)
        obtain ⟨lt, rfl⟩ : ∃ lt, t = .list lt := by cases t <;> first | exact ⟨_, rfl⟩ | (simp [areRising] at hrt)
        obtain ⟨is, hi1, rfl⟩ := areRising_ints hra
        obtain ⟨js, hj1, rfl⟩ := areRising_ints hrt
        have e0 : letsCover c l r (.tuple [.list (is.map .int), .list (js.map .int)]) = coverAll l r is js := by
          simp only [letsCover, cover2, hra, hrt, hi1, hj1, Bool.true_and]
        rw [e0] at q
        walk_at "vc"
        refine use_law_rows arg_dat arg_dat h0 (by have := g.l2; omega) (fun sm hsm => by have := (good_flat g sm hsm).1; omega) ?_
        walk_at "vc"
        simp only [ranksD]
        walk_at "vc"
        refine forP_enum (fun k env => (∀ j, j < k → j < l.length → coverAt l r is js j = true) ∧ ∃ w x y z v, env = [some (.dat (wishD c l) .sh), some (.dat (.int r) .A), some (.dat (.tuple [rowD is, rowD js]) .sh), w, x, y, z, v]) ⟨fun j h => absurd h (Nat.not_lt_zero _), _, _, _, _, _, rfl⟩ (fun k hk env ⟨hok, w, x, y, z, v, e⟩ => ?_) fun env ⟨hok, w, x, y, z, v, e⟩ => ?_
        · subst e
          simp only [rowD]
          walk_at "vc"
          have hkl : k < l.length := by rw [rowsIn_len] at hk; exact hk
          have hrow : (rowsIn l r).getD k [] = (rowsIn l r)[k] := by
            rw [List.getD_eq_getElem?_getD, List.getElem?_eq_getElem hk]
            rfl
          refine forP_map (fun i env => (¬ (k : Int) ∈ is → ∀ j (h : j < i) (h2 : j < (rowsIn l r)[k].length), (rowsIn l r)[k][j] ∈ js) ∧ ∃ w x z v, env = [some (.dat (wishD c l) .sh), some (.dat (.int r) .A), some (.dat (.tuple [rowD is, rowD js]) .sh), w, x, some (.dat (.int (k : Nat)) .A), z, v]) ⟨fun _ j h => absurd h (Nat.not_lt_zero _), _, _, _, _, rfl⟩ (fun i hi env ⟨hok2, w, x, z, v, e⟩ => ?_) fun env ⟨hok2, w, x, z, v, e⟩ => ?_
          · subst e
            simp only [rowD]
            walk_at "vc"
            simp only [atI_0, atI_1]
            walk_at "vc"
            refine ⟨shaped_int _, shaped_row is, ?_⟩
            rw [any_int]
            by_cases hm : (k : Int) ∈ is
            · rw [if_neg (by simpa using hm)]
              exact ⟨fun h => absurd hm h, _, _, _, _, rfl⟩
            · rw [if_pos (by simpa using hm)]
              refine ⟨shaped_int _, shaped_row js, ?_⟩
              rw [any_int]
              by_cases hm2 : (rowsIn l r)[k][i] ∈ js
              · rw [if_neg (by simpa using hm2)]
                refine ⟨fun h0 j hj hjl => ?_, _, _, _, _, rfl⟩
                by_cases hjk : j < i
                · exact hok2 h0 j hjk hjl
                · have : j = i := by omega
                  subst this
                  exact hm2
              · rw [if_pos (by simpa using hm2)]
                have : coverAll l r is js = false := by
                  rw [← Bool.not_eq_true]
                  intro hall
                  have h1 := List.all_eq_true.mp hall k (List.mem_range.mpr hkl)
                  simp only [coverAt, hrow, hm, decide_false, Bool.false_or] at h1
                  have h2 := List.all_eq_true.mp h1 _ (List.getElem_mem hi)
                  exact hm2 (of_decide_eq_true h2)
                rw [this] at q
                exact q
          · subst e
            refine ⟨fun j hj hjl => ?_, _, _, _, _, _, rfl⟩
            by_cases hjk : j < k
            · exact hok j hjk hjl
            · have : j = k := by omega
              subst this
              simp only [coverAt, hrow, Bool.or_eq_true, List.all_eq_true]
              by_cases hm : (j : Int) ∈ is
              · exact .inl (decide_eq_true hm)
              · refine .inr fun x hx => ?_
                obtain ⟨n, hn, rfl⟩ := List.getElem_of_mem hx
                exact decide_eq_true (hok2 hm n hn hn)
        · subst e
          walk_at "vc"
          have : coverAll l r is js = true := by
            refine List.all_eq_true.mpr fun k hk => ?_
            have hk' := List.mem_range.mp hk
            exact hok k (by rw [rowsIn_len]; exact hk') hk'
          rw [this] at q
          exact q
    · rw [if_pos (by simp; omega)]
      rw [letsCover_len h2] at q
      exact q
  | _ =>
    simp only [isTy, Bool.not_false, if_true]
    exact q

abbrev s__law_size : Stmt := topS 29
theorem sc__law_size : FnScope ["wishes", "cover", "thing"] ["wishes", "cover"] (defScope s__law_size) := ⟨rfl, rfl, rfl, by decide +kernel, rfl, by decide +kernel, by decide +kernel⟩
def sp_law_size : VSp := fun its Q => ∃ (c : List Int) (l : List (List (List Int))) (is js : List Int), its = [.dat (wishD c l) .sh, .dat (.tuple [rowD is, rowD js]) .sh] ∧ (∀ j ∈ js, 0 ≤ j ∧ j < c.length) ∧ js.length ≤ 1000 ∧ Q (.dat (.int (sizeOf' c is js)) .A)
theorem mono_law_size : MonoSp sp_law_size := fun its Q Q' h ⟨c, l, r, d, e, h1, h2, q⟩ => ⟨c, l, r, d, e, h1, h2, h _ q⟩
theorem use_law_size {a b : Item} {c : List Int} {l : List (List (List Int))} {is js : List Int} (h : argI a = .dat (wishD c l) .sh) (hb : argI b = .dat (.tuple [rowD is, rowD js]) .sh) (hj : ∀ j ∈ js, 0 ≤ j ∧ j < c.length) (hl : js.length ≤ 1000) {Q : Item → Prop} (q : Q (.dat (.int (sizeOf' c is js)) .A)) : callI sp_law_size [a, b] Q :=
  callI_any mono_law_size ⟨c, l, is, js, by rw [List.map_cons, List.map_cons, h, hb]; rfl, hj, hl, ⟨_, rfl⟩, q⟩
theorem ok__law_size {P : Program} {w : World} {K : PySem.W.Frag} {mg : Str → Option Value} {base : Heap} (T : TX mg) (D : FD K mg "_law_size" s__law_size ["wishes", "cover"]) : Cal P w K mg base "_law_size" ["wishes", "cover"] 1 sp_law_size := by
  have sc := sc__law_size
  have nd := sc.nd
  refine vdef D sc mono_law_size (fun its Q ⟨d, n, r, d', e, _⟩ => by rw [e]; rfl) fun f cdv A outer s H E hr => ?_
  refine ⟨_, (vss_one (vs_ret (VE.vm (ve_add (ve_callB call_len_seq snd_len rLen_mono rfl T.b_len (by decide +kernel) (va_cons (ve_item (vv 1) ve_int) va_nil)) (ve_callB (cr_sum rfl) snd_sum rSumI_mono rfl T.b_sum (by decide +kernel) (va_cons (VE.lq (ve_lc .A (own := [("thing", 2)]) rfl sc.nd (vi_list (ve_item (vv 1) ve_int)) (blkOk_by (N := ["wishes", "cover", "thing"]) (sc := defScope s__law_size) (by decide +kernel)) (by decide) (fun _ _ _ _ _ => (vg_name (i := 2) sc.nd rfl (by walk_at "loc"))) (fun _ _ _ _ _ => vts_nil) (fun _ _ _ _ _ => (ve_item (ve_item (vv 0) ve_int) (vv 2))))) va_nil)))))), fun its Q hs => ?_⟩
  obtain ⟨c, l, is, js, rfl, hj, hlen, q⟩ := hs
  show tvRet _ _ [some (.dat (wishD c l) .sh), some (.dat (.tuple [rowD is, rowD js]) .sh), none]
  simp only [rowD, wishD, listsD]
  walk_at "vc"
  simp only [atI_0, atI_1]
  walk_at "vc"
  refine lcP_map .int .int js (fun j => some (c.getD j.toNat 0)) (by omega) (fun j hjm acc P hacc h1 h2 => ?_) ?_
  · walk_at "vc"
    simp only [atI_0]
    walk_at "vc"
    simp only [atI_in c j (hj j hjm)]
    walk_at "vc"
    exact ⟨hacc, h1 _ rfl⟩
  · walk_at "vc"
    rw [fm_some', intsD_map, List.length_map]
    walk_at "vc"
    exact q

abbrev s__law_cover : Stmt := topS 30
theorem sc__law_cover : FnScope ["wishes", "ranks", "cell", "salt", "sizes", "digits", "things", "askers", "at", "asker", "row", "lacks", "thing", "one"] ["wishes", "ranks", "cell", "salt"] (defScope s__law_cover) := ⟨rfl, rfl, rfl, by decide +kernel, rfl, by decide +kernel, by decide +kernel⟩
def sp_law_cover : VSp := fun its Q => ∃ (c : List Int) (l : List (List (List Int))) (r x t : Int), its = [.dat (wishD c l) .sh, .dat (.int r) .A, .dat (.int x) .A, .dat (.int t) .A] ∧ GoodW c l ∧ 0 ≤ r ∧ ∀ is js, is.length ≤ 100 → js.length ≤ 100 → Q (.dat (.tuple [rowD is, rowD js]) .A)
theorem mono_law_cover : MonoSp sp_law_cover := fun its Q Q' h ⟨c, l, r, x, t, e, h1, h2, q⟩ => ⟨c, l, r, x, t, e, h1, h2, fun is js a b => h _ (q is js a b)⟩
theorem use_law_cover {a b y z : Item} {c : List Int} {l : List (List (List Int))} {r x t : Int} (h : argI a = .dat (wishD c l) .sh) (hb : argI b = .dat (.int r) .A) (hy : argI y = .dat (.int x) .A) (hz : argI z = .dat (.int t) .A) (g : GoodW c l) (h0 : 0 ≤ r) {Q : Item → Prop} (q : ∀ is js, is.length ≤ 100 → js.length ≤ 100 → Q (.dat (.tuple [rowD is, rowD js]) .A)) : callI sp_law_cover [a, b, y, z] Q :=
  callI_any mono_law_cover ⟨c, l, r, x, t, by simp only [List.map_cons, h, hb, hy, hz]; rfl, g, h0, fun is js u v => ⟨⟨_, rfl⟩, q is js u v⟩⟩
theorem ok__law_cover {P : Program} {w : World} {K : PySem.W.Frag} {mg : Str → Option Value} {base : Heap} (T : TX mg) (D : FD K mg "_law_cover" s__law_cover ["wishes", "ranks", "cell", "salt"]) (C__law_numbers : Cal P w K mg base "_law_numbers" ["cell", "salt", "sizes"] 1 sp_law_numbers) (C__law_rows : Cal P w K mg base "_law_rows" ["wishes", "ranks"] 1 sp_law_rows) : Cal P w K mg base "_law_cover" ["wishes", "ranks", "cell", "salt"] 2 sp_law_cover := by
  have sc := sc__law_cover
  have nd := sc.nd
  refine vdef D sc mono_law_cover (fun its Q ⟨d, n, r, _, _, e, _⟩ => by rw [e]; rfl) fun f cdv A outer s H E hr => ?_
  refine ⟨_, (vss_cons (vs_set (i := 4) sc.nd rfl (by walk_at "loc") (VE.vm (ve_op op_cat snd_Cat rvCat_mono (ve_op op_cat snd_Cat rvCat_mono (ve_op op_rep snd_Rep rvRep_mono (ve_lst (va_consN ve_int va_nil)) (ve_callB call_len_seq snd_len rLen_mono rfl T.b_len (by decide +kernel) (va_cons (ve_item (vv 0) ve_int) va_nil))) (ve_op op_rep snd_Rep rvRep_mono (ve_lst (va_consN ve_int va_nil)) (ve_callB call_len_seq snd_len rLen_mono rfl T.b_len (by decide +kernel) (va_cons (ve_item (vv 0) ve_int) va_nil)))) (ve_lst (va_consN ve_int (va_consN ve_int va_nil))))))
      (vss_cons (vs_set (i := 5) sc.nd rfl (by walk_at "loc") (VE.vm (VE.cq (vcall C__law_numbers (hr.mono (by decide)) rfl (va_cons (vv 2) (va_cons (vv 3) (va_cons (vv 4) va_nil)))))))
      (vss_cons (vs_set (i := 6) sc.nd rfl (by walk_at "loc") (VE.vm (VE.lq (ve_lc .A (own := [("thing", 12)]) rfl sc.nd (vi_range1 rfl T.b_range (va_cons (ve_callB call_len_seq snd_len rLen_mono rfl T.b_len (by decide +kernel) (va_cons (ve_item (vv 0) ve_int) va_nil)) va_nil)) (blkOk_by (N := ["wishes", "ranks", "cell", "salt", "sizes", "digits", "things", "askers", "at", "asker", "row", "lacks", "thing", "one"]) (sc := defScope s__law_cover) (by decide +kernel)) (by decide) (fun _ _ _ _ _ => (vg_name (i := 12) sc.nd rfl (by walk_at "loc"))) (fun _ _ _ _ _ => (vts_one (vt_eq (hu64 hr) (ve_item (vv 5) (vv 12)) ve_int))) (fun _ _ _ _ _ => (vv 12))))))
      (vss_cons (vs_set (i := 7) sc.nd rfl (by walk_at "loc") (VE.vm (ve_emp .A)))
      (vss_cons (vs_for PassesOwn.never rfl (vi_enum rfl T.b_enumerate (va_cons (VE.cq (vcall C__law_rows (hr.mono (by decide)) rfl (va_cons (vv 0) (va_cons (vv 1) va_nil)))) va_nil)) (vg_tup (n := 2) rfl (vgs_cons (vg_name (i := 9) sc.nd rfl (by walk_at "loc")) (vgs_cons (vg_name (i := 10) sc.nd rfl (by walk_at "loc")) vgs_nil)))
       (vss_cons (VS.lq (vs_setLc (i := 11) .A (own := [("one", 13)]) rfl sc.nd rfl (by rfl) (sw_true rfl rfl rfl (by decide +kernel)) (vi_list (vv 10)) (blkOk_by (N := ["wishes", "ranks", "cell", "salt", "sizes", "digits", "things", "askers", "at", "asker", "row", "lacks", "thing", "one"]) (sc := defScope s__law_cover) (by decide +kernel)) (by decide) (fun _ _ _ _ _ => (vg_name (i := 13) sc.nd rfl (by walk_at "loc"))) (fun _ _ _ _ _ => (vts_one (vt_nin (hu65 hr) (vv 13) (vv 6) rfl))) (fun _ _ _ _ _ => (vv 13))))
       (vss_one (vs_if (VT.vn (VW.vt (vw_or (vt_ne (hu64 hr) (vv 11) (ve_emp .A)) (vw_or1 (vt_eq (hu64 hr) (ve_item (vv 5) (ve_add (ve_callB call_len_seq snd_len rLen_mono rfl T.b_len (by decide +kernel) (va_cons (ve_item (vv 0) ve_int) va_nil)) (vv 9))) ve_int)))))
        (vss_one (vs_expr (vm_mut PySem.F.slot_list_append PySem.F.type_list_append mt_append snd_app rmApp_mono (pv 7) (va_consN (vmv 9) va_nil))))
        vss_nil))))
      (vss_cons (vs_set (i := 8) sc.nd rfl (by walk_at "loc") (VE.vm (ve_item (vv 5) (ve_neg ve_int))))
      (vss_cons (vs_if (VT.vn (VW.vt (vw_and (vt_eq (hu64 hr) (ve_item (vv 5) (ve_neg ve_int)) ve_int) (vw_and1 (vt_lt (vv 8) (ve_callB call_len_seq snd_len rLen_mono rfl T.b_len (by decide +kernel) (va_cons (vv 7) va_nil)))))))
       (vss_one (vs_set (i := 7) sc.nd rfl (by walk_at "loc") (VE.vm (ve_op op_cat snd_Cat rvCat_mono (ve_slL (vv 7) vo_none (vo_some (vv 8))) (ve_slL (vv 7) (vo_some (ve_add (vv 8) ve_int)) vo_none)))))
       vss_nil)
      (vss_cons (vs_if (VT.vn (VW.vt (vw_and (vt_eq (hu64 hr) (ve_item (vv 5) (ve_neg ve_int)) ve_int) (vw_and1 (vt_lt (vv 8) (ve_callB call_len_seq snd_len rLen_mono rfl T.b_len (by decide +kernel) (va_cons (vv 6) va_nil)))))))
       (vss_one (vs_set (i := 6) sc.nd rfl (by walk_at "loc") (VE.vm (ve_op op_cat snd_Cat rvCat_mono (ve_slL (vv 6) vo_none (vo_some (vv 8))) (ve_slL (vv 6) (vo_some (ve_add (vv 8) ve_int)) vo_none)))))
       vss_nil)
      (vss_one (vs_ret (VE.vm (ve_tup (va_consN (vmv 7) (va_consN (vmv 6) va_nil)))))))))))))), fun its Q hs => ?_⟩
  obtain ⟨c, l, r, x, t, rfl, g, h0, q⟩ := hs
  show tvSeq _ _ _ [some (.dat (wishD c l) .sh), some (.dat (.int r) .A), some (.dat (.int x) .A), some (.dat (.int t) .A), none, none, none, none, none, none, none, none, none, none]
  simp only [wishD, rowD, listsD]
  walk_at "vc"
  simp only [atI_0, atI_1]
  walk_at "vc"
  have gc1 := g.c1
  have gc2 := g.c2
  have gl1 := g.l1
  have gl2 := g.l2
  simp only [List.length_map, Int.toNat_natCast, rep_ints, List.length_append, List.length_replicate]
  refine ⟨by decide, by omega, by omega, small (by omega), by decide, by omega, by omega, small (by omega), small (by omega), by decide, small (by omega), ?_⟩
  rw [show (List.replicate c.length (3 : Int)).map PyData.int ++ (List.replicate l.length (6 : Int)).map PyData.int ++ [PyData.int 3, PyData.int 7] = (List.replicate c.length (3 : Int) ++ List.replicate l.length (6 : Int) ++ [(3 : Int), (7 : Int)]).map PyData.int by rw [List.map_append, List.map_append]; rfl]
  refine use_law_numbers arg_dat arg_dat arg_vlist (by simp; omega) (fun y hy => ?_) fun dg hdg => ?_
  · simp only [List.mem_append, List.mem_replicate, List.mem_cons, List.not_mem_nil, or_false] at hy
    omega
  · obtain ⟨hgl, hgb⟩ := hdg
    simp only [List.length_append, List.length_cons, List.length_nil, List.length_replicate] at hgl
    simp only [rowD]
    walk_at "vc"
    simp only [atI_0]
    walk_at "vc"
    rw [List.length_map]
    refine ⟨by omega, by omega, ?_⟩
    rw [Int.toNat_natCast, rangeD_map]
    refine lcP_map (fun k : Nat => PyData.int (k : Nat)) .int (List.range c.length) (fun k => if dg.getD k 0 = 0 then some (k : Int) else none) (by rw [List.length_range]; omega) (fun k hk acc P hacc h1 h2 => ?_) ?_
    · have hk := List.mem_range.mp hk
      walk_at "vc"
      have hk2 : k < dg.length := by omega
      simp only [atI_int dg k hk2]
      walk_at "vc"
      refine ⟨shaped_int _, shaped_int _, ?_⟩
      rw [eqv_int]
      have hd : dg.getD k 0 = dg[k] := by rw [List.getD_eq_getElem?_getD, List.getElem?_eq_getElem hk2]; rfl
      by_cases hq : dg[k] = 0
      · rw [if_pos (decide_eq_true hq)]
        exact ⟨hacc, h1 _ (by rw [hd, if_pos hq])⟩
      · rw [if_neg (by simpa using hq)]
        exact h2 (by rw [hd, if_neg hq])
    · have hts : ((List.range c.length).filterMap fun k => if dg.getD k 0 = 0 then some (k : Int) else none).length ≤ 6 := Nat.le_trans (List.length_filterMap_le _ _) (by rw [List.length_range]; exact gc2)
      generalize ((List.range c.length).filterMap fun k => if dg.getD k 0 = 0 then some (k : Int) else none) = ts at hts ⊢
      walk_at "vc"
      refine use_law_rows arg_dat arg_dat h0 (by omega) (fun sm hsm => by have := (good_flat g sm hsm).1; omega) ?_
      walk_at "vc"
      simp only [ranksD]
      walk_at "vc"
      refine forP_enum (fun k env => ∃ (as : List Int) (b4 b8 b9 b10 b11 b12 b13 : Option Item), as.length ≤ k ∧ env = [some (.dat (wishD c l) .sh), some (.dat (.int r) .A), some (.dat (.int x) .A), some (.dat (.int t) .A), b4, some (.dat (rowD dg) .A), some (.dat (rowD ts) .A), some (.dat (rowD as) .A), b8, b9, b10, b11, b12, b13]) ⟨[], _, _, _, _, _, _, _, Nat.zero_le _, rfl⟩ (fun k hk env ⟨as, b4, b8, b9, b10, b11, b12, b13, hal, e⟩ => ?_) fun env ⟨as, b4, b8, b9, b10, b11, b12, b13, hal, e⟩ => ?_
      · subst e
        simp only [rowD]
        walk_at "vc"
        have hkl : k < l.length := by rw [rowsIn_len] at hk; exact hk
        have hrl : (rowsIn l r)[k].length ≤ 6 := by
          have e1 : (rowsIn l r)[k] = (l[k].take r.toNat).flatten := by simp only [rowsIn, List.getElem_map]
          rw [e1]
          exact Nat.le_trans (flat_take _ _) (good_flat g _ (List.getElem_mem hkl)).1
        refine lcP_map .int .int (rowsIn l r)[k] (fun y => if y ∈ ts then none else some y) (by omega) (fun y hy acc P hacc h1 h2 => ?_) ?_
        · walk_at "vc"
          refine ⟨shaped_int _, shaped_row ts, ?_⟩
          rw [any_int]
          by_cases hq : y ∈ ts
          · rw [if_neg (by simpa using hq)]
            exact h2 (by rw [if_pos hq])
          · rw [if_pos (by simpa using hq)]
            exact ⟨hacc, h1 _ (by rw [if_neg hq])⟩
        · generalize (rowsIn l r)[k].filterMap (fun y => if y ∈ ts then none else some y) = ls
          have hap : ∀ b4' b8' b9' b10' b11' b12' b13', (as.map PyData.int).length < sizeLine ∧ ∃ (as' : List Int) (b4 b8 b9 b10 b11 b12 b13 : Option Item), as'.length ≤ k + 1 ∧ [some (Item.dat (wishD c l) .sh), some (.dat (.int r) .A), some (.dat (.int x) .A), some (.dat (.int t) .A), b4', some (.dat (rowD dg) .A), some (.dat (rowD ts) .A), some (.dat (.list (as.map .int ++ [.int (k : Nat)])) .A), b8', b9', b10', b11', b12', b13'] = [some (.dat (wishD c l) .sh), some (.dat (.int r) .A), some (.dat (.int x) .A), some (.dat (.int t) .A), b4, some (.dat (rowD dg) .A), some (.dat (rowD ts) .A), some (.dat (rowD as') .A), b8, b9, b10, b11, b12, b13] := fun b4' b8' b9' b10' b11' b12' b13' =>
            ⟨by rw [List.length_map]; exact smallLt (by omega), as ++ [(k : Int)], b4', b8', b9', b10', b11', b12', b13', by rw [List.length_append]; simp; omega, by rw [map_snoc]; rfl⟩
          walk_at "vc"
          refine ⟨shaped_row ls, shaped_row [], ?_⟩
          rw [show (PyData.list (ls.map .int)).eqv (.list []) = decide (ls = []) from eqv_row ls []]
          by_cases hl0 : ls = []
          · rw [if_neg (by simp [hl0])]
            simp only [wishD, rowD, listsD]
            walk_at "vc"
            simp only [atI_0]
            walk_at "vc"
            rw [List.length_map, show (c.length : Int) + (k : Int) = ((c.length + k : Nat) : Int) by omega]
            simp only [atI_int dg (c.length + k) (by omega)]
            walk_at "vc"
            refine ⟨shaped_int _, shaped_int _, ?_⟩
            split
            · exact hap _ _ _ _ _ _ _
            · exact ⟨as, _, _, _, _, _, _, _, by omega, rfl⟩
          · rw [if_pos (by simp [hl0])]
            exact hap _ _ _ _ _ _ _
      · subst e
        rw [rowsIn_len] at hal
        have fin : ∀ is js : List Int, is.length ≤ 14 → js.length ≤ 14 → 0 + 1 + 1 ≤ sizeLine ∧ Q (.dat (.tuple [.list (is.map .int), .list (js.map .int)]) .A) := fun is js h1 h2 => ⟨by decide, q is js (by omega) (by omega)⟩
        have hm1 : atI (dg.map PyData.int) (-1) = some (.int (dg[c.length + l.length + 1]'(by omega))) := by
          rw [atI_m1, List.length_map, show dg.length - 1 = c.length + l.length + 1 by omega, List.getElem?_map, List.getElem?_eq_getElem (by omega)]
          rfl
        have hm2 : atI (dg.map PyData.int) (-2) = some (.int (dg[c.length + l.length]'(by omega))) := by
          rw [atI_m2 _ (by rw [List.length_map]; omega), List.length_map, show dg.length - 2 = c.length + l.length by omega, List.getElem?_map, List.getElem?_eq_getElem (by omega)]
          rfl
        simp only [rowD]
        simp only [↓tvSeq, ↓tvSet]
        walk_at "vc"
        simp only [hm1]
        generalize dg[c.length + l.length + 1]'(by omega) = u
        generalize dg[c.length + l.length]'(by omega) = v at hm2
        walk_at "vc"
        simp only [hm2]
        obtain ⟨a1, ha1, e1⟩ := cut_any as none (some u)
        obtain ⟨a2, ha2, e2⟩ := cut_any as (some (u + 1)) none
        obtain ⟨t1, ht1, e3⟩ := cut_any ts none (some u)
        obtain ⟨t2, ht2, e4⟩ := cut_any ts (some (u + 1)) none
        simp only [e1, e2, e3, e4, all_ints, if_true]
        walk_at "vc"
        simp only [e1, e2, e3, e4, all_ints, if_true, List.length_map, ← List.map_append]
        walk_at "vc"
        repeat' split
        all_goals repeat' apply And.intro
        all_goals first
          | exact shaped_int _
          | exact small (by omega)
          | exact (fin _ _ (by (try rw [List.length_append]); omega) (by (try rw [List.length_append]); omega)).2
          | decide

abbrev s__law_ranks : Stmt := topS 31
theorem sc__law_ranks : FnScope ["cell", "salt", "digits"] ["cell", "salt"] (defScope s__law_ranks) := ⟨rfl, rfl, rfl, by decide +kernel, rfl, by decide +kernel, by decide +kernel⟩
def sp_law_ranks : VSp := fun its Q => ∃ c t : Int, its = [.dat (.int c) .A, .dat (.int t) .A] ∧ ∀ r, 0 ≤ r → Q (.dat (.int r) .A)
theorem mono_law_ranks : MonoSp sp_law_ranks := fun its Q Q' h ⟨c, t, e, q⟩ => ⟨c, t, e, fun r hr => h _ (q r hr)⟩
theorem use_law_ranks {a b : Item} {c t : Int} (h : argI a = .dat (.int c) .A) (hb : argI b = .dat (.int t) .A) {Q : Item → Prop} (q : ∀ r, 0 ≤ r → Q (.dat (.int r) .A)) : callI sp_law_ranks [a, b] Q :=
  callI_any mono_law_ranks ⟨c, t, by rw [List.map_cons, List.map_cons, h, hb]; rfl, fun r hr => ⟨⟨_, rfl⟩, q r hr⟩⟩
theorem ok__law_ranks {P : Program} {w : World} {K : PySem.W.Frag} {mg : Str → Option Value} {base : Heap} (T : TX mg) (D : FD K mg "_law_ranks" s__law_ranks ["cell", "salt"]) (C__law_numbers : Cal P w K mg base "_law_numbers" ["cell", "salt", "sizes"] 1 sp_law_numbers) : Cal P w K mg base "_law_ranks" ["cell", "salt"] 2 sp_law_ranks := by
  have sc := sc__law_ranks
  have nd := sc.nd
  refine vdef D sc mono_law_ranks (fun its Q ⟨d, n, e, _⟩ => by rw [e]; rfl) fun f cdv A outer s H E hr => ?_
  refine ⟨_, (vss_cons (vs_set (i := 2) sc.nd rfl (by walk_at "loc") (VE.vm (VE.cq (vcall C__law_numbers (hr.mono (by decide)) rfl (va_cons (vv 0) (va_cons (vv 1) (va_cons (ve_lst (va_consN ve_int (va_consN (ve_pow ve_int ve_int) va_nil))) va_nil)))))))
      (vss_one (vs_ret (VE.vm (ve_item (ve_lst (va_consN ve_int (va_consN ve_int (va_consN ve_int (va_consN ve_int (va_consN ve_int (va_consN ve_int (va_consN ve_int (va_consN (ve_add ve_int (ve_item (vv 2) ve_int)) va_nil))))))))) (ve_item (vv 2) ve_int)))))), fun its Q hs => ?_⟩
  obtain ⟨c, t, rfl, q⟩ := hs
  show tvSeq _ _ _ [some (.dat (.int c) .A), some (.dat (.int t) .A), none]
  walk_at "vc"
  refine ⟨⟨by decide, by decide, by decide⟩, by decide, ?_⟩
  refine use_law_numbers (sizes := [8, 10 ^ 18]) arg_dat arg_dat rfl (by decide) (by decide) fun ds hds => ?_
  simp only [rowD]
  walk_at "vc"
  obtain ⟨h1, h2⟩ := hds
  obtain ⟨a, b, rfl⟩ : ∃ a b, ds = [a, b] := by
    match ds, h1 with
    | [a, b], _ => exact ⟨a, b, rfl⟩
  have ha : 0 ≤ a ∧ a < 8 := h2 0 (by simp) (by simp)
  have hb : 0 ≤ b ∧ b < 10 ^ 18 := h2 1 (by simp) (by simp)
  simp only [List.map_cons, List.map_nil, atI_0, atI_1]
  walk_at "vc"
  refine ⟨by decide, ?_⟩
  have e := atI_in [0, 1, 2, 3, 4, 5, 6, 6 + b] a ha
  simp only [List.map_cons, List.map_nil] at e
  simp only [e]
  walk_at "vc"
  refine q _ ?_
  obtain ⟨k, rfl⟩ := nat_of ha.1
  rw [Int.toNat_natCast]
  have hk : k < [0, 1, 2, 3, 4, 5, 6, 6 + b].length := by simp; omega
  have hm : [0, 1, 2, 3, 4, 5, 6, 6 + b].getD k 0 ∈ [0, 1, 2, 3, 4, 5, 6, 6 + b] := by
    rw [List.getD_eq_getElem?_getD, List.getElem?_eq_getElem hk]
    exact List.getElem_mem hk
  simp only [List.mem_cons, List.not_mem_nil, or_false] at hm
  omega

abbrev s_law : Stmt := topS 32
theorem sc_law : FnScope ["script", "wishes", "handed", "k", "cell", "ranks", "built", "cover", "given", "found", "size"] ["script"] (defScope s_law) := ⟨rfl, rfl, rfl, by decide +kernel, rfl, by decide +kernel, by decide +kernel⟩
def sp_law : VSp := fun its Q => ∃ ns : List Int, its = [.ro (.list (ns.map .int))] ∧ ns.length ≤ 63 ∧ Q (.dat (.bool true) .A)
theorem mono_law : MonoSp sp_law := fun its Q Q' h ⟨ns, e, h1, q⟩ => ⟨ns, e, h1, h _ q⟩
theorem rising_bd {n : Int} : ∀ {js : List Int} {a s : Int}, (js.map PyData.int).foldlM (riseStep n) a = some s → -1 ≤ a → ∀ j ∈ js, 0 ≤ j ∧ j < n
  | [], _, _, _, _, j, hj => absurd hj List.not_mem_nil
  | x :: js, a, s, h, ha, j, hj => by
    rw [List.map_cons, List.foldlM_cons] at h
    simp only [riseStep] at h
    split at h
    · rename_i hx
      rcases List.mem_cons.mp hj with e | hj
      · subst e; omega
      · exact rising_bd (show (js.map PyData.int).foldlM (riseStep n) x = some s from h) (by omega) j hj
    · cases h
theorem cover_bd {c : List Int} {l : List (List (List Int))} {r : Int} {is js : List Int} (h : letsCover c l r (.tuple [rowD is, rowD js]) = true) : ∀ j ∈ js, 0 ≤ j ∧ j < c.length := by
  simp only [letsCover, cover2, rowD, Bool.and_eq_true] at h
  have h2 := h.1.2
  simp only [areRising] at h2
  cases q : (js.map PyData.int).foldlM (riseStep c.length) (-1) with
  | none => rw [q] at h2; cases h2
  | some s => exact rising_bd q (by omega)
theorem lay_lists : ∀ l : List (List (List Int)), PyData.canLayAll0 (l.map ranksD) = true
  | [] => by simp [PyData.canLayAll0]
  | x :: l => by simp only [List.map_cons, PyData.canLayAll0, ranksD, PyData.canLay0, lay_rows, Bool.true_and]; exact lay_lists l
theorem dep_lists : ∀ l : List (List (List Int)), PyData.depthAll (l.map ranksD) ≤ 2
  | [] => by simp [PyData.depthAll]
  | x :: l => by
    have h1 := dep_lists l
    have h2 := dep_rows x
    simp only [List.map_cons, PyData.depthAll, ranksD, PyData.depth]
    omega
theorem shaped_wish (c : List Int) (l : List (List (List Int))) : SeqAt.shaped (wishD c l) = true := by
  have h1 := dep_lists l
  simp only [wishD, listsD, rowD, SeqAt.shaped, PyData.canLay0, PyData.canLayAll0, lay_lists, lay_ints, PyData.depth, PyData.depthAll, dep_ints, Bool.true_and, Bool.and_true]
  exact decide_eq_true (by omega)
theorem ok_law {P : Program} {w : World} {K : PySem.W.Frag} {mg : Str → Option Value} {base : Heap} {f : Addr} {fd : FuncData} (T : TX mg) (F : Fun K "law" "law" s_law f fd) (C__law_wishes : Cal P w K mg base "_law_wishes" ["script", "at", "most_things", "most_askers", "most_ranks"] 2 sp_law_wishes) (C__law_copy : Cal P w K mg base "_law_copy" ["wishes"] 1 sp_law_copy) (C__law_cell_at : Cal P w K mg base "_law_cell_at" ["script", "k"] 1 sp_law_cell_at) (C__law_ranks : Cal P w K mg base "_law_ranks" ["cell", "salt"] 2 sp_law_ranks) (C__law_cover : Cal P w K mg base "_law_cover" ["wishes", "ranks", "cell", "salt"] 2 sp_law_cover) (C_lets_cover : Cal P w K mg base "lets_cover" ["wishes", "ranks", "thing"] 5 sp_lets_cover) (C__law_lets_cover : Cal P w K mg base "_law_lets_cover" ["wishes", "ranks", "thing"] 2 sp_law_lets_cover) (C_size_of : Cal P w K mg base "size_of" ["wishes", "cover"] 5 sp_size_of) (C__law_is_number : Cal P w K mg base "_law_is_number" ["thing"] 1 sp_law_is_number) (C__law_size : Cal P w K mg base "_law_size" ["wishes", "cover"] 1 sp_law_size) : FnOk P w K mg base CX0 6 f fd ["script"] (liftF K sp_law) := by
  have sc := sc_law
  have nd := sc.nd
  refine vfn F sc (fun its Q ⟨d, e, _⟩ => by rw [e]; rfl) fun cdv A outer s H E hr => ?_
  refine ⟨_, (vss_cons (vs_set (i := 1) sc.nd rfl (by walk_at "loc") (VE.vm (VE.cq (vcall C__law_wishes (hr.mono (by decide)) rfl (va_cons (vv 0) (va_cons ve_int (va_cons ve_int (va_cons ve_int (va_cons ve_int va_nil)))))))))
      (vss_cons (vs_set (i := 2) sc.nd rfl (by walk_at "loc") (VE.vm (VE.cq (vcall C__law_copy (hr.mono (by decide)) rfl (va_cons (vv 1) va_nil)))))
      (vss_cons (vs_for PassesOwn.never rfl (vi_enum rfl T.b_enumerate (va_cons (ve_op op_cat snd_Cat rvCat_mono (ve_lst (va_consN (VE.cq (vcall C__law_cell_at (hr.mono (by decide)) rfl (va_cons (vv 0) (va_cons ve_int va_nil)))) va_nil)) (ve_slL (vv 0) (vo_some ve_int) (vo_some ve_int))) va_nil)) (vg_tup (n := 2) rfl (vgs_cons (vg_name (i := 3) sc.nd rfl (by walk_at "loc")) (vgs_cons (vg_name (i := 4) sc.nd rfl (by walk_at "loc")) vgs_nil)))
       (vss_cons (vs_set (i := 5) sc.nd rfl (by walk_at "loc") (VE.vm (VE.cq (vcall C__law_ranks (hr.mono (by decide)) rfl (va_cons (vv 4) (va_cons (ve_add ve_int (vv 3)) va_nil))))))
       (vss_cons (vs_set (i := 6) sc.nd rfl (by walk_at "loc") (VE.vm (ve_item (ve_lst (va_consN (vv 5) (va_consN (vv 5) (va_consN (ve_add (vv 5) ve_int) (va_consN (ve_callB (call_max2 rfl) snd_MM rMM_mono rfl T.b_max (by decide +kernel) (va_cons ve_int (va_cons (ve_sub (vv 5) ve_int) va_nil))) va_nil))))) (ve_mod (vv 3) ve_int))))
       (vss_cons (vs_set (i := 7) sc.nd rfl (by walk_at "loc") (VE.vm (VE.cq (vcall C__law_cover (hr.mono (by decide)) rfl (va_cons (vv 1) (va_cons (vv 6) (va_cons (ve_divW (vv 4) ve_int) (va_cons (ve_add ve_int (vv 3)) va_nil))))))))
       (vss_cons (vs_set (i := 8) sc.nd rfl (by walk_at "loc") (VE.vm (ve_tup (va_consN (ve_callTy call_list_of snd_listOf rvListOf_mono rfl T.b_list (by decide +kernel) (va_cons (ve_item (vv 7) ve_int) va_nil)) (va_consN (ve_callTy call_list_of snd_listOf rvListOf_mono rfl T.b_list (by decide +kernel) (va_cons (ve_item (vv 7) ve_int) va_nil)) va_nil)))))
       (vss_cons (vs_set (i := 9) sc.nd rfl (by walk_at "loc") (VE.vm (VE.cq (vcall C_lets_cover (hr.mono (by decide)) rfl (va_cons (vv 2) (va_cons (vv 5) (va_cons (vv 8) va_nil)))))))
       (vss_cons (vs_if (VT.vn (VW.vt (vw_or (vt_not (vt_val (ve_isi (T := "bool") (by decide) rfl T.b_isinstance rfl T.b_bool (by decide +kernel) (vv 9)))) (vw_or1 (vt_ne (hu64 hr) (vv 9) (VE.cq (vcall C__law_lets_cover (hr.mono (by decide)) rfl (va_cons (vv 1) (va_cons (vv 5) (va_cons (vv 7) va_nil))))))))))
        (vss_one (vs_ret (VE.vm ve_bl)))
        vss_nil)
       (vss_cons (vs_if (VT.vn (vt_val (vv 9)))
        (vss_cons (vs_set (i := 10) sc.nd rfl (by walk_at "loc") (VE.vm (VE.cq (vcall C_size_of (hr.mono (by decide)) rfl (va_cons (vv 2) (va_cons (vv 8) va_nil))))))
        (vss_one (vs_if (VT.vn (VW.vt (vw_or (vt_not (vt_val (VE.cq (vcall C__law_is_number (hr.mono (by decide)) rfl (va_cons (vv 10) va_nil))))) (vw_or1 (vt_ne (hu64 hr) (vv 10) (VE.cq (vcall C__law_size (hr.mono (by decide)) rfl (va_cons (vv 1) (va_cons (vv 7) va_nil)))))))))
         (vss_one (vs_ret (VE.vm ve_bl)))
         vss_nil)))
        vss_nil)
       (vss_one (vs_if (VT.vn (vt_ne (hu64 hr) (vv 8) (vv 7)))
        (vss_one (vs_ret (VE.vm ve_bl)))
        vss_nil))))))))))
      (vss_one (vs_ret (VE.vm (ve_eq (hu64 hr) (vv 2) (vv 1)))))))), fun its Q hs => ?_⟩
  obtain ⟨ns, rfl, hl, q⟩ := hs
  show tvSeq _ _ _ [some (.ro (.list (ns.map .int))), none, none, none, none, none, none, none, none, none, none]
  walk_at "vc"
  refine use_law_wishes arg_ro arg_dat arg_dat arg_dat arg_dat (show (1 : Int) = (1 : Nat) from rfl) (show (6 : Int) = (6 : Nat) from rfl) (show (7 : Int) = (7 : Nat) from rfl) (show (5 : Int) = (5 : Nat) from rfl) (by decide) (by decide) (by decide) (by decide) (by decide) fun c l dw => ?_
  have g := dw.good
  have gc1 := g.c1
  have gc2 := g.c2
  have gl1 := g.l1
  have gl2 := g.l2
  simp only [wishD]
  walk_at "vc"
  refine use_law_copy (c := c) (l := l) arg_vtup (by omega) (by omega) (fun r hr => ⟨by have := dw.rr r hr; omega, fun x hx => ?_⟩) ?_
  · obtain ⟨h1, _, _⟩ := good_flat g r hr
    have : x.length ≤ r.flatten.length := (List.sublist_flatten_of_mem hx).length_le
    omega
  · simp only [wishD]
    walk_at "vc"
    refine use_law_cell_at arg_ro arg_dat (show (0 : Int) = (0 : Nat) from rfl) ?_
    walk_at "vc"
    obtain ⟨ys, hyl, ey⟩ := cut_any ns (some 9) (some 63)
    simp only [ey, all_ints, if_true]
    walk_at "vc"
    refine ⟨by decide, small (by rw [List.length_map]; omega), ?_⟩
    rw [show [PyData.int (cellAt ns 0)] ++ ys.map PyData.int = (cellAt ns 0 :: ys).map PyData.int from rfl]
    refine forP_enum (fun i env => ∃ a3 a4 a5 a6 a7 a8 a9 a10, env = [some (.ro (.list (ns.map .int))), some (.dat (wishD c l) .A), some (.dat (wishD c l) .A), a3, a4, a5, a6, a7, a8, a9, a10]) ⟨_, _, _, _, _, _, _, _, rfl⟩ (fun i hi env ⟨a3, a4, a5, a6, a7, a8, a9, a10, e⟩ => ?_) fun env ⟨a3, a4, a5, a6, a7, a8, a9, a10, e⟩ => ?_
    · subst e
      generalize (cellAt ns 0 :: ys)[i] = cell
      simp only [wishD]
      walk_at "vc"
      refine use_law_ranks arg_dat arg_dat fun r hr0 => ?_
      walk_at "vc"
      have hi4 : 0 ≤ (i : Int) % 4 ∧ (i : Int) % 4 < 4 := by omega
      have hbd : ∃ m : Int, 0 ≤ m ∧ (if r - 1 > 0 then r - 1 else 0) = m := ⟨_, by split <;> omega, rfl⟩
      obtain ⟨m, hm0, hme⟩ := hbd
      simp only [hme]
      have eat := atI_in [r, r, r + 1, m] ((i : Int) % 4) hi4
      have hb0 : 0 ≤ [r, r, r + 1, m].getD ((i : Int) % 4).toNat 0 := by
        obtain ⟨k, hk⟩ := nat_of hi4.1
        rw [hk, Int.toNat_natCast]
        have hk4 : k < [r, r, r + 1, m].length := by simp; omega
        have hmem : [r, r, r + 1, m].getD k 0 ∈ [r, r, r + 1, m] := by
          rw [List.getD_eq_getElem?_getD, List.getElem?_eq_getElem hk4]
          exact List.getElem_mem hk4
        simp only [List.mem_cons, List.not_mem_nil, or_false] at hmem
        omega
      generalize [r, r, r + 1, m].getD ((i : Int) % 4).toNat 0 = bt at eat hb0
      simp only [List.map_cons, List.map_nil] at eat
      simp only [eat]
      walk_at "vc"
      refine ⟨by decide, by decide, ?_⟩
      refine ⟨wide_div (b := 60) (by decide) (by decide) (by omega) (by omega), ?_⟩
      refine use_law_cover arg_vtup arg_dat arg_dat arg_dat g hb0 fun is js his hjs => ?_
      simp only [rowD]
      walk_at "vc"
      simp only [atI_0, atI_1]
      walk_at "vc"
      refine ⟨by decide, ?_⟩
      refine use_lets_cover arg_vtup arg_dat (show _ = elI (.tuple [rowD is, rowD js]) from rfl) g hr0 (shaped_pair is js) ?_
      walk_at "vc"
      refine ⟨rfl, ?_⟩
      rw [if_neg (by simp [isTy])]
      refine use_law_lets_cover arg_vtup arg_dat (show _ = elI (.tuple [rowD is, rowD js]) from rfl) g hr0 (shaped_pair is js) ?_
      walk_at "vc"
      refine ⟨shaped_bool _, shaped_bool _, ?_⟩
      rw [eqv_bool, if_neg (by decide)]
      have ep := eqv_pair is js
      simp only [rowD] at ep
      by_cases hf : letsCover c l r (.tuple [rowD is, rowD js]) = true
      · rw [if_pos hf]
        refine use_size_of arg_vtup arg_vtup g (cover_bd hf) (by omega) ?_
        walk_at "vc"
        refine use_law_is_number arg_dat rfl ?_
        walk_at "vc"
        simp only [isWhole, Bool.not_true, Bool.false_eq_true, if_false]
        refine use_law_size arg_vtup arg_vtup (cover_bd hf) (by omega) ?_
        walk_at "vc"
        refine ⟨shaped_int _, shaped_int _, ?_⟩
        rw [eqv_int, if_neg (by simp)]
        refine ⟨shaped_pair is js, shaped_pair is js, ?_⟩
        rw [ep, if_neg (by decide)]
        exact ⟨_, _, _, _, _, _, _, _, rfl⟩
      · rw [if_neg hf]
        refine ⟨shaped_pair is js, shaped_pair is js, ?_⟩
        rw [ep, if_neg (by decide)]
        exact ⟨_, _, _, _, _, _, _, _, rfl⟩
    · subst e
      simp only [wishD]
      walk_at "vc"
      have e := SeqAt.eqv_refl _ (lay_of (shaped_wish c l))
      refine ⟨shaped_wish c l, shaped_wish c l, ?_⟩
      simp only [wishD] at e
      rw [e]
      exact q

theorem all_mk {l : PySem.W.OpenLaw} {w : World} {K : PySem.W.Frag} {h : Heap} {mg : Str → Option Value} {fa f0 f1 f2 f3 f4 f5 f6 f7 f8 f9 f10 f11 f12 f13 f14 f15 f16 f17 f18 f19 f20 : Addr} (X : K.In h) (G : h.Ns mainGlobals mg) (hfa : mg "law" = some (.ref fa)) {od0 an0 od1 an1 od2 an2 od3 an3 od4 an4 od5 an5 od6 an6 od7 an7 od8 an8 od9 an9 od10 an10 od11 an11 od12 an12 od13 an13 od14 an14 od15 an15 od16 an16 od17 an17 od18 an18 od19 an19 od20 an20 : Option Addr} {sl0 sl1 sl2 sl3 sl4 sl5 sl6 sl7 sl8 sl9 sl10 sl11 sl12 sl13 sl14 sl15 sl16 sl17 sl18 sl19 sl20 : Array (Option Value)} {oc0 kV0 dc0 pm0 cd0 ct0 oc1 kV1 dc1 pm1 cd1 ct1 oc2 kV2 dc2 pm2 cd2 ct2 oc3 kV3 dc3 pm3 cd3 ct3 oc4 kV4 dc4 pm4 cd4 ct4 oc5 kV5 dc5 pm5 cd5 ct5 oc6 kV6 dc6 pm6 cd6 ct6 oc7 kV7 dc7 pm7 cd7 ct7 oc8 kV8 dc8 pm8 cd8 ct8 oc9 kV9 dc9 pm9 cd9 ct9 oc10 kV10 dc10 pm10 cd10 ct10 oc11 kV11 dc11 pm11 cd11 ct11 oc12 kV12 dc12 pm12 cd12 ct12 oc13 kV13 dc13 pm13 cd13 ct13 oc14 kV14 dc14 pm14 cd14 ct14 oc15 kV15 dc15 pm15 cd15 ct15 oc16 kV16 dc16 pm16 cd16 ct16 oc17 kV17 dc17 pm17 cd17 ct17 oc18 kV18 dc18 pm18 cd18 ct18 oc19 kV19 dc19 pm19 cd19 ct19 oc20 kV20 dc20 pm20 cd20 ct20 : Value} {t_MOST_THINGS t_MOST_COPIES t_MOST_ASKERS t_MOST_RANKS : Tok} 
    (a0 : PySem.W.nsIn K mainGlobals "is_whole" = some (some (.ref f0))) (l0 : K.lookup f0 = some ⟨oc0, od0, .func (PySem.W.fnOf "is_whole" "is_whole" (defArgs s_is_whole) (defBody s_is_whole) (defScope s_is_whole) .none kV0 dc0 pm0 an0 cd0 ct0), sl0⟩) (c0 : PySem.W.codeIn K cd0 "is_whole" = true) (k0 : PySem.W.keepIn K (.ref f0) = true)
    (a1 : PySem.W.nsIn K mainGlobals "need_row" = some (some (.ref f1))) (l1 : K.lookup f1 = some ⟨oc1, od1, .func (PySem.W.fnOf "need_row" "need_row" (defArgs s_need_row) (defBody s_need_row) (defScope s_need_row) .none kV1 dc1 pm1 an1 cd1 ct1), sl1⟩) (c1 : PySem.W.codeIn K cd1 "need_row" = true) (k1 : PySem.W.keepIn K (.ref f1) = true)
    (a2 : PySem.W.nsIn K mainGlobals "is_many" = some (some (.ref f2))) (l2 : K.lookup f2 = some ⟨oc2, od2, .func (PySem.W.fnOf "is_many" "is_many" (defArgs s_is_many) (defBody s_is_many) (defScope s_is_many) .none kV2 dc2 pm2 an2 cd2 ct2), sl2⟩) (c2 : PySem.W.codeIn K cd2 "is_many" = true) (k2 : PySem.W.keepIn K (.ref f2) = true)
    (a3 : PySem.W.nsIn K mainGlobals "is_thing" = some (some (.ref f3))) (l3 : K.lookup f3 = some ⟨oc3, od3, .func (PySem.W.fnOf "is_thing" "is_thing" (defArgs s_is_thing) (defBody s_is_thing) (defScope s_is_thing) .none kV3 dc3 pm3 an3 cd3 ct3), sl3⟩) (c3 : PySem.W.codeIn K cd3 "is_thing" = true) (k3 : PySem.W.keepIn K (.ref f3) = true)
    (a4 : PySem.W.nsIn K mainGlobals "are_ranks" = some (some (.ref f4))) (l4 : K.lookup f4 = some ⟨oc4, od4, .func (PySem.W.fnOf "are_ranks" "are_ranks" (defArgs s_are_ranks) (defBody s_are_ranks) (defScope s_are_ranks) .none kV4 dc4 pm4 an4 cd4 ct4), sl4⟩) (c4 : PySem.W.codeIn K cd4 "are_ranks" = true) (k4 : PySem.W.keepIn K (.ref f4) = true)
    (a5 : PySem.W.nsIn K mainGlobals "look_at_wishes" = some (some (.ref f5))) (l5 : K.lookup f5 = some ⟨oc5, od5, .func (PySem.W.fnOf "look_at_wishes" "look_at_wishes" (defArgs s_look_at_wishes) (defBody s_look_at_wishes) (defScope s_look_at_wishes) .none kV5 dc5 pm5 an5 cd5 ct5), sl5⟩) (c5 : PySem.W.codeIn K cd5 "look_at_wishes" = true) (k5 : PySem.W.keepIn K (.ref f5) = true)
    (a6 : PySem.W.nsIn K mainGlobals "things_within" = some (some (.ref f6))) (l6 : K.lookup f6 = some ⟨oc6, od6, .func (PySem.W.fnOf "things_within" "things_within" (defArgs s_things_within) (defBody s_things_within) (defScope s_things_within) .none kV6 dc6 pm6 an6 cd6 ct6), sl6⟩) (c6 : PySem.W.codeIn K cd6 "things_within" = true) (k6 : PySem.W.keepIn K (.ref f6) = true)
    (a7 : PySem.W.nsIn K mainGlobals "are_rising" = some (some (.ref f7))) (l7 : K.lookup f7 = some ⟨oc7, od7, .func (PySem.W.fnOf "are_rising" "are_rising" (defArgs s_are_rising) (defBody s_are_rising) (defScope s_are_rising) .none kV7 dc7 pm7 an7 cd7 ct7), sl7⟩) (c7 : PySem.W.codeIn K cd7 "are_rising" = true) (k7 : PySem.W.keepIn K (.ref f7) = true)
    (a8 : PySem.W.nsIn K mainGlobals "lets_cover" = some (some (.ref f8))) (l8 : K.lookup f8 = some ⟨oc8, od8, .func (PySem.W.fnOf "lets_cover" "lets_cover" (defArgs s_lets_cover) (defBody s_lets_cover) (defScope s_lets_cover) .none kV8 dc8 pm8 an8 cd8 ct8), sl8⟩) (c8 : PySem.W.codeIn K cd8 "lets_cover" = true) (k8 : PySem.W.keepIn K (.ref f8) = true)
    (a9 : PySem.W.nsIn K mainGlobals "size_of" = some (some (.ref f9))) (l9 : K.lookup f9 = some ⟨oc9, od9, .func (PySem.W.fnOf "size_of" "size_of" (defArgs s_size_of) (defBody s_size_of) (defScope s_size_of) .none kV9 dc9 pm9 an9 cd9 ct9), sl9⟩) (c9 : PySem.W.codeIn K cd9 "size_of" = true) (k9 : PySem.W.keepIn K (.ref f9) = true)
    (a10 : PySem.W.nsIn K mainGlobals "_law_cell_at" = some (some (.ref f10))) (l10 : K.lookup f10 = some ⟨oc10, od10, .func (PySem.W.fnOf "_law_cell_at" "_law_cell_at" (defArgs s__law_cell_at) (defBody s__law_cell_at) (defScope s__law_cell_at) .none kV10 dc10 pm10 an10 cd10 ct10), sl10⟩) (c10 : PySem.W.codeIn K cd10 "_law_cell_at" = true) (k10 : PySem.W.keepIn K (.ref f10) = true)
    (a11 : PySem.W.nsIn K mainGlobals "_law_numbers" = some (some (.ref f11))) (l11 : K.lookup f11 = some ⟨oc11, od11, .func (PySem.W.fnOf "_law_numbers" "_law_numbers" (defArgs s__law_numbers) (defBody s__law_numbers) (defScope s__law_numbers) .none kV11 dc11 pm11 an11 cd11 ct11), sl11⟩) (c11 : PySem.W.codeIn K cd11 "_law_numbers" = true) (k11 : PySem.W.keepIn K (.ref f11) = true)
    (a12 : PySem.W.nsIn K mainGlobals "_law_wishes" = some (some (.ref f12))) (l12 : K.lookup f12 = some ⟨oc12, od12, .func (PySem.W.fnOf "_law_wishes" "_law_wishes" (defArgs s__law_wishes) (defBody s__law_wishes) (defScope s__law_wishes) .none kV12 dc12 pm12 an12 cd12 ct12), sl12⟩) (c12 : PySem.W.codeIn K cd12 "_law_wishes" = true) (k12 : PySem.W.keepIn K (.ref f12) = true)
    (a13 : PySem.W.nsIn K mainGlobals "_law_copy" = some (some (.ref f13))) (l13 : K.lookup f13 = some ⟨oc13, od13, .func (PySem.W.fnOf "_law_copy" "_law_copy" (defArgs s__law_copy) (defBody s__law_copy) (defScope s__law_copy) .none kV13 dc13 pm13 an13 cd13 ct13), sl13⟩) (c13 : PySem.W.codeIn K cd13 "_law_copy" = true) (k13 : PySem.W.keepIn K (.ref f13) = true)
    (a14 : PySem.W.nsIn K mainGlobals "_law_is_number" = some (some (.ref f14))) (l14 : K.lookup f14 = some ⟨oc14, od14, .func (PySem.W.fnOf "_law_is_number" "_law_is_number" (defArgs s__law_is_number) (defBody s__law_is_number) (defScope s__law_is_number) .none kV14 dc14 pm14 an14 cd14 ct14), sl14⟩) (c14 : PySem.W.codeIn K cd14 "_law_is_number" = true) (k14 : PySem.W.keepIn K (.ref f14) = true)
    (a15 : PySem.W.nsIn K mainGlobals "_law_rows" = some (some (.ref f15))) (l15 : K.lookup f15 = some ⟨oc15, od15, .func (PySem.W.fnOf "_law_rows" "_law_rows" (defArgs s__law_rows) (defBody s__law_rows) (defScope s__law_rows) .none kV15 dc15 pm15 an15 cd15 ct15), sl15⟩) (c15 : PySem.W.codeIn K cd15 "_law_rows" = true) (k15 : PySem.W.keepIn K (.ref f15) = true)
    (a16 : PySem.W.nsIn K mainGlobals "_law_lets_cover" = some (some (.ref f16))) (l16 : K.lookup f16 = some ⟨oc16, od16, .func (PySem.W.fnOf "_law_lets_cover" "_law_lets_cover" (defArgs s__law_lets_cover) (defBody s__law_lets_cover) (defScope s__law_lets_cover) .none kV16 dc16 pm16 an16 cd16 ct16), sl16⟩) (c16 : PySem.W.codeIn K cd16 "_law_lets_cover" = true) (k16 : PySem.W.keepIn K (.ref f16) = true)
    (a17 : PySem.W.nsIn K mainGlobals "_law_size" = some (some (.ref f17))) (l17 : K.lookup f17 = some ⟨oc17, od17, .func (PySem.W.fnOf "_law_size" "_law_size" (defArgs s__law_size) (defBody s__law_size) (defScope s__law_size) .none kV17 dc17 pm17 an17 cd17 ct17), sl17⟩) (c17 : PySem.W.codeIn K cd17 "_law_size" = true) (k17 : PySem.W.keepIn K (.ref f17) = true)
    (a18 : PySem.W.nsIn K mainGlobals "_law_cover" = some (some (.ref f18))) (l18 : K.lookup f18 = some ⟨oc18, od18, .func (PySem.W.fnOf "_law_cover" "_law_cover" (defArgs s__law_cover) (defBody s__law_cover) (defScope s__law_cover) .none kV18 dc18 pm18 an18 cd18 ct18), sl18⟩) (c18 : PySem.W.codeIn K cd18 "_law_cover" = true) (k18 : PySem.W.keepIn K (.ref f18) = true)
    (a19 : PySem.W.nsIn K mainGlobals "_law_ranks" = some (some (.ref f19))) (l19 : K.lookup f19 = some ⟨oc19, od19, .func (PySem.W.fnOf "_law_ranks" "_law_ranks" (defArgs s__law_ranks) (defBody s__law_ranks) (defScope s__law_ranks) .none kV19 dc19 pm19 an19 cd19 ct19), sl19⟩) (c19 : PySem.W.codeIn K cd19 "_law_ranks" = true) (k19 : PySem.W.keepIn K (.ref f19) = true)
    (a20 : PySem.W.nsIn K mainGlobals "law" = some (some (.ref f20))) (l20 : K.lookup f20 = some ⟨oc20, od20, .func (PySem.W.fnOf "law" "law" (defArgs s_law) (defBody s_law) (defScope s_law) .none kV20 dc20 pm20 an20 cd20 ct20), sl20⟩) (c20 : PySem.W.codeIn K cd20 "law" = true) (k20 : PySem.W.keepIn K (.ref f20) = true)
    (x_MOST_THINGS : PySem.W.nsIn K mainGlobals "MOST_THINGS" = some (some (.int 6 t_MOST_THINGS)))
    (x_MOST_COPIES : PySem.W.nsIn K mainGlobals "MOST_COPIES" = some (some (.int 7 t_MOST_COPIES)))
    (x_MOST_ASKERS : PySem.W.nsIn K mainGlobals "MOST_ASKERS" = some (some (.int 7 t_MOST_ASKERS)))
    (x_MOST_RANKS : PySem.W.nsIn K mainGlobals "MOST_RANKS" = some (some (.int 5 t_MOST_RANKS)))
    (z_bool : PySem.W.nsIn K mainGlobals "bool" = some none)
    (z_enumerate : PySem.W.nsIn K mainGlobals "enumerate" = some none)
    (z_int : PySem.W.nsIn K mainGlobals "int" = some none)
    (z_isinstance : PySem.W.nsIn K mainGlobals "isinstance" = some none)
    (z_len : PySem.W.nsIn K mainGlobals "len" = some none)
    (z_list : PySem.W.nsIn K mainGlobals "list" = some none)
    (z_max : PySem.W.nsIn K mainGlobals "max" = some none)
    (z_range : PySem.W.nsIn K mainGlobals "range" = some none)
    (z_sum : PySem.W.nsIn K mainGlobals "sum" = some none)
    (z_tuple : PySem.W.nsIn K mainGlobals "tuple" = some none)
    (z_zip : PySem.W.nsIn K mainGlobals "zip" = some none)
    : ∃ fd : FuncData, (∀ (s : Shared) (v : Value), BindsTo s fd ⟨[v], []⟩ [("script", v)]) ∧ ∀ base : Heap, K.In base → base.Ns mainGlobals mg → FnOk l.prog w K mg base CX0 6 fa fd ["script"] (liftF K sp_law) := by
  have e := hfa.symm.trans (PySem.W.mg_of X G a20)
  cases e
  have T : TX mg := ⟨PySem.W.mg_none_of X G z_bool, PySem.W.mg_none_of X G z_enumerate, PySem.W.mg_none_of X G z_int, PySem.W.mg_none_of X G z_isinstance, PySem.W.mg_none_of X G z_len, PySem.W.mg_none_of X G z_list, PySem.W.mg_none_of X G z_max, PySem.W.mg_none_of X G z_range, PySem.W.mg_none_of X G z_sum, PySem.W.mg_none_of X G z_tuple, PySem.W.mg_none_of X G z_zip, ⟨_, PySem.W.mg_of X G x_MOST_THINGS⟩, ⟨_, PySem.W.mg_of X G x_MOST_COPIES⟩, ⟨_, PySem.W.mg_of X G x_MOST_ASKERS⟩, ⟨_, PySem.W.mg_of X G x_MOST_RANKS⟩⟩
  have F0 := fun_mk (st := s_is_whole) l0 c0 k0
  have D0 : FD K mg "is_whole" s_is_whole ["thing"] := ⟨_, _, F0, PySem.W.mg_of X G a0, F0.binds (ps := ["thing"]) fun _ _ _ _ _ _ us hl => match us, hl with | [_], _ => rfl⟩
  have F1 := fun_mk (st := s_need_row) l1 c1 k1
  have D1 : FD K mg "need_row" s_need_row ["part", "thing", "most"] := ⟨_, _, F1, PySem.W.mg_of X G a1, F1.binds (ps := ["part", "thing", "most"]) fun _ _ _ _ _ _ us hl => match us, hl with | [_, _, _], _ => rfl⟩
  have F2 := fun_mk (st := s_is_many) l2 c2 k2
  have D2 : FD K mg "is_many" s_is_many ["thing"] := ⟨_, _, F2, PySem.W.mg_of X G a2, F2.binds (ps := ["thing"]) fun _ _ _ _ _ _ us hl => match us, hl with | [_], _ => rfl⟩
  have F3 := fun_mk (st := s_is_thing) l3 c3 k3
  have D3 : FD K mg "is_thing" s_is_thing ["thing", "many"] := ⟨_, _, F3, PySem.W.mg_of X G a3, F3.binds (ps := ["thing", "many"]) fun _ _ _ _ _ _ us hl => match us, hl with | [_, _], _ => rfl⟩
  have F4 := fun_mk (st := s_are_ranks) l4 c4 k4
  have D4 : FD K mg "are_ranks" s_are_ranks ["thing", "many"] := ⟨_, _, F4, PySem.W.mg_of X G a4, F4.binds (ps := ["thing", "many"]) fun _ _ _ _ _ _ us hl => match us, hl with | [_, _], _ => rfl⟩
  have F5 := fun_mk (st := s_look_at_wishes) l5 c5 k5
  have D5 : FD K mg "look_at_wishes" s_look_at_wishes ["thing"] := ⟨_, _, F5, PySem.W.mg_of X G a5, F5.binds (ps := ["thing"]) fun _ _ _ _ _ _ us hl => match us, hl with | [_], _ => rfl⟩
  have F6 := fun_mk (st := s_things_within) l6 c6 k6
  have D6 : FD K mg "things_within" s_things_within ["wishes", "ranks"] := ⟨_, _, F6, PySem.W.mg_of X G a6, F6.binds (ps := ["wishes", "ranks"]) fun _ _ _ _ _ _ us hl => match us, hl with | [_, _], _ => rfl⟩
  have F7 := fun_mk (st := s_are_rising) l7 c7 k7
  have D7 : FD K mg "are_rising" s_are_rising ["thing", "many"] := ⟨_, _, F7, PySem.W.mg_of X G a7, F7.binds (ps := ["thing", "many"]) fun _ _ _ _ _ _ us hl => match us, hl with | [_, _], _ => rfl⟩
  have F8 := fun_mk (st := s_lets_cover) l8 c8 k8
  have D8 : FD K mg "lets_cover" s_lets_cover ["wishes", "ranks", "thing"] := ⟨_, _, F8, PySem.W.mg_of X G a8, F8.binds (ps := ["wishes", "ranks", "thing"]) fun _ _ _ _ _ _ us hl => match us, hl with | [_, _, _], _ => rfl⟩
  have F9 := fun_mk (st := s_size_of) l9 c9 k9
  have D9 : FD K mg "size_of" s_size_of ["wishes", "cover"] := ⟨_, _, F9, PySem.W.mg_of X G a9, F9.binds (ps := ["wishes", "cover"]) fun _ _ _ _ _ _ us hl => match us, hl with | [_, _], _ => rfl⟩
  have F10 := fun_mk (st := s__law_cell_at) l10 c10 k10
  have D10 : FD K mg "_law_cell_at" s__law_cell_at ["script", "k"] := ⟨_, _, F10, PySem.W.mg_of X G a10, F10.binds (ps := ["script", "k"]) fun _ _ _ _ _ _ us hl => match us, hl with | [_, _], _ => rfl⟩
  have F11 := fun_mk (st := s__law_numbers) l11 c11 k11
  have D11 : FD K mg "_law_numbers" s__law_numbers ["cell", "salt", "sizes"] := ⟨_, _, F11, PySem.W.mg_of X G a11, F11.binds (ps := ["cell", "salt", "sizes"]) fun _ _ _ _ _ _ us hl => match us, hl with | [_, _, _], _ => rfl⟩
  have F12 := fun_mk (st := s__law_wishes) l12 c12 k12
  have D12 : FD K mg "_law_wishes" s__law_wishes ["script", "at", "most_things", "most_askers", "most_ranks"] := ⟨_, _, F12, PySem.W.mg_of X G a12, F12.binds (ps := ["script", "at", "most_things", "most_askers", "most_ranks"]) fun _ _ _ _ _ _ us hl => match us, hl with | [_, _, _, _, _], _ => rfl⟩
  have F13 := fun_mk (st := s__law_copy) l13 c13 k13
  have D13 : FD K mg "_law_copy" s__law_copy ["wishes"] := ⟨_, _, F13, PySem.W.mg_of X G a13, F13.binds (ps := ["wishes"]) fun _ _ _ _ _ _ us hl => match us, hl with | [_], _ => rfl⟩
  have F14 := fun_mk (st := s__law_is_number) l14 c14 k14
  have D14 : FD K mg "_law_is_number" s__law_is_number ["thing"] := ⟨_, _, F14, PySem.W.mg_of X G a14, F14.binds (ps := ["thing"]) fun _ _ _ _ _ _ us hl => match us, hl with | [_], _ => rfl⟩
  have F15 := fun_mk (st := s__law_rows) l15 c15 k15
  have D15 : FD K mg "_law_rows" s__law_rows ["wishes", "ranks"] := ⟨_, _, F15, PySem.W.mg_of X G a15, F15.binds (ps := ["wishes", "ranks"]) fun _ _ _ _ _ _ us hl => match us, hl with | [_, _], _ => rfl⟩
  have F16 := fun_mk (st := s__law_lets_cover) l16 c16 k16
  have D16 : FD K mg "_law_lets_cover" s__law_lets_cover ["wishes", "ranks", "thing"] := ⟨_, _, F16, PySem.W.mg_of X G a16, F16.binds (ps := ["wishes", "ranks", "thing"]) fun _ _ _ _ _ _ us hl => match us, hl with | [_, _, _], _ => rfl⟩
  have F17 := fun_mk (st := s__law_size) l17 c17 k17
  have D17 : FD K mg "_law_size" s__law_size ["wishes", "cover"] := ⟨_, _, F17, PySem.W.mg_of X G a17, F17.binds (ps := ["wishes", "cover"]) fun _ _ _ _ _ _ us hl => match us, hl with | [_, _], _ => rfl⟩
  have F18 := fun_mk (st := s__law_cover) l18 c18 k18
  have D18 : FD K mg "_law_cover" s__law_cover ["wishes", "ranks", "cell", "salt"] := ⟨_, _, F18, PySem.W.mg_of X G a18, F18.binds (ps := ["wishes", "ranks", "cell", "salt"]) fun _ _ _ _ _ _ us hl => match us, hl with | [_, _, _, _], _ => rfl⟩
  have F19 := fun_mk (st := s__law_ranks) l19 c19 k19
  have D19 : FD K mg "_law_ranks" s__law_ranks ["cell", "salt"] := ⟨_, _, F19, PySem.W.mg_of X G a19, F19.binds (ps := ["cell", "salt"]) fun _ _ _ _ _ _ us hl => match us, hl with | [_, _], _ => rfl⟩
  have FL := fun_mk (st := s_law) l20 c20 k20
  refine ⟨PySem.W.fnOf "law" "law" (defArgs s_law) (defBody s_law) (defScope s_law) .none kV20 dc20 pm20 an20 cd20 ct20, fun s v => .of_eq rfl, fun base _ _ => ?_⟩
  have C_is_whole := ok_is_whole (P := l.prog) (w := w) (base := base) T D0 
  have C_need_row := ok_need_row (P := l.prog) (w := w) (base := base) T D1 
  have C_is_many := ok_is_many (P := l.prog) (w := w) (base := base) T D2 C_is_whole
  have C_is_thing := ok_is_thing (P := l.prog) (w := w) (base := base) T D3 C_is_whole
  have C_are_ranks := ok_are_ranks (P := l.prog) (w := w) (base := base) T D4 C_is_thing
  have C_look_at_wishes := ok_look_at_wishes (P := l.prog) (w := w) (base := base) T D5 C_need_row C_is_many C_are_ranks
  have C_things_within := ok_things_within (P := l.prog) (w := w) (base := base) T D6 
  have C_are_rising := ok_are_rising (P := l.prog) (w := w) (base := base) T D7 C_is_whole
  have C_lets_cover := ok_lets_cover (P := l.prog) (w := w) (base := base) T D8 C_look_at_wishes C_are_rising C_things_within
  have C_size_of := ok_size_of (P := l.prog) (w := w) (base := base) T D9 C_look_at_wishes
  have C__law_cell_at := ok__law_cell_at (P := l.prog) (w := w) (base := base) T D10 
  have C__law_numbers := ok__law_numbers (P := l.prog) (w := w) (base := base) T D11 
  have C__law_wishes := ok__law_wishes (P := l.prog) (w := w) (base := base) T D12 C__law_numbers C__law_cell_at
  have C__law_copy := ok__law_copy (P := l.prog) (w := w) (base := base) T D13 
  have C__law_is_number := ok__law_is_number (P := l.prog) (w := w) (base := base) T D14 
  have C__law_rows := ok__law_rows (P := l.prog) (w := w) (base := base) T D15 
  have C__law_lets_cover := ok__law_lets_cover (P := l.prog) (w := w) (base := base) T D16 C__law_is_number C__law_rows
  have C__law_size := ok__law_size (P := l.prog) (w := w) (base := base) T D17 
  have C__law_cover := ok__law_cover (P := l.prog) (w := w) (base := base) T D18 C__law_numbers C__law_rows
  have C__law_ranks := ok__law_ranks (P := l.prog) (w := w) (base := base) T D19 C__law_numbers
  exact ok_law T FL C__law_wishes C__law_copy C__law_cell_at C__law_ranks C__law_cover C_lets_cover C__law_lets_cover C_size_of C__law_is_number C__law_size
theorem dp_ints {K : PySem.W.Frag} {H : Hp} : ∀ ns : List Int, DpAll K H (ns.map V.int) (ns.map PyData.int)
  | [] => .nil
  | n :: ns => .cons (.int n) (dp_ints ns)
theorem law_in {K : PySem.W.Frag} {H : Hp} {a : Addr} {ns : List Int} (hl : ns.length ≤ 63) (hS : SqL K H a (ns.map V.int)) : liftF K sp_law [.ref a] H (fun v _ => v = .bl true) fun _ _ _ => False :=
  ⟨H, [.ro (.list (ns.map .int))], rfl, fun _ _ e => e, .cons (F := []) (F' := []) (.ro (.lst hS (dp_ints ns))) .nil, fun it hit => by
    rw [List.mem_singleton] at hit
    subst hit
    trivial, ns, rfl, hl, fun v H' er => by
    obtain ⟨G, Fa, r, _⟩ := ER.peek1 er
    cases r with
    | dat r => cases r; rfl⟩
end VL
open PySem PySem.W PyProof.Rows
set_option maxHeartbeats 0 in
theorem PySem.Challenge.cw_wishdeal_k49_covers_holds : PySem.Challenge.rw_wishdeal_k49_covers.Holds := by
  w_on; o_law; k_head; (case hw => w_witness2)
  k_fill
  refine L2.walk_of (l := PySem.Challenge.rw_wishdeal_k49_covers) (n := 63) (k := 6) (x := "script") (CX := fun _ => L2.CX0) (sp := fun w => VL.liftF _ VL.sp_law) rfl (by decide) rfl ⟨rfl, by decide, by decide⟩ (fun w h Y => PySem.W.kIn_of Y) ?F (fun _ _ a ns hl _ hS => VL.law_in hl hS) (fun _ _ _ _ _ h => h)
  case F =>
    intro w mg fa h KX G hmg
    refine' VL.all_mk KX G hmg ?a0 ?l0 ?c0 ?k0 ?a1 ?l1 ?c1 ?k1 ?a2 ?l2 ?c2 ?k2 ?a3 ?l3 ?c3 ?k3 ?a4 ?l4 ?c4 ?k4 ?a5 ?l5 ?c5 ?k5 ?a6 ?l6 ?c6 ?k6 ?a7 ?l7 ?c7 ?k7 ?a8 ?l8 ?c8 ?k8 ?a9 ?l9 ?c9 ?k9 ?a10 ?l10 ?c10 ?k10 ?a11 ?l11 ?c11 ?k11 ?a12 ?l12 ?c12 ?k12 ?a13 ?l13 ?c13 ?k13 ?a14 ?l14 ?c14 ?k14 ?a15 ?l15 ?c15 ?k15 ?a16 ?l16 ?c16 ?k16 ?a17 ?l17 ?c17 ?k17 ?a18 ?l18 ?c18 ?k18 ?a19 ?l19 ?c19 ?k19 ?a20 ?l20 ?c20 ?k20 ?x_MOST_THINGS ?x_MOST_COPIES ?x_MOST_ASKERS ?x_MOST_RANKS ?z_bool ?z_enumerate ?z_int ?z_isinstance ?z_len ?z_list ?z_max ?z_range ?z_sum ?z_tuple ?z_zip
    (case a0 => k_is); (case l0 => k_is); (case c0 => k_is); (case k0 => k_is); (case a1 => k_is); (case l1 => k_is); (case c1 => k_is); (case k1 => k_is); (case a2 => k_is); (case l2 => k_is); (case c2 => k_is); (case k2 => k_is); (case a3 => k_is); (case l3 => k_is); (case c3 => k_is); (case k3 => k_is); (case a4 => k_is); (case l4 => k_is); (case c4 => k_is); (case k4 => k_is); (case a5 => k_is); (case l5 => k_is); (case c5 => k_is); (case k5 => k_is); (case a6 => k_is); (case l6 => k_is); (case c6 => k_is); (case k6 => k_is); (case a7 => k_is); (case l7 => k_is); (case c7 => k_is); (case k7 => k_is); (case a8 => k_is); (case l8 => k_is); (case c8 => k_is); (case k8 => k_is); (case a9 => k_is); (case l9 => k_is); (case c9 => k_is); (case k9 => k_is); (case a10 => k_is); (case l10 => k_is); (case c10 => k_is); (case k10 => k_is); (case a11 => k_is); (case l11 => k_is); (case c11 => k_is); (case k11 => k_is); (case a12 => k_is); (case l12 => k_is); (case c12 => k_is); (case k12 => k_is); (case a13 => k_is); (case l13 => k_is); (case c13 => k_is); (case k13 => k_is); (case a14 => k_is); (case l14 => k_is); (case c14 => k_is); (case k14 => k_is); (case a15 => k_is); (case l15 => k_is); (case c15 => k_is); (case k15 => k_is); (case a16 => k_is); (case l16 => k_is); (case c16 => k_is); (case k16 => k_is); (case a17 => k_is); (case l17 => k_is); (case c17 => k_is); (case k17 => k_is); (case a18 => k_is); (case l18 => k_is); (case c18 => k_is); (case k18 => k_is); (case a19 => k_is); (case l19 => k_is); (case c19 => k_is); (case k19 => k_is); (case a20 => k_is); (case l20 => k_is); (case c20 => k_is); (case k20 => k_is); (case x_MOST_THINGS => k_is); (case x_MOST_COPIES => k_is); (case x_MOST_ASKERS => k_is); (case x_MOST_RANKS => k_is); (case z_bool => k_is); (case z_enumerate => k_is); (case z_int => k_is); (case z_isinstance => k_is); (case z_len => k_is); (case z_list => k_is); (case z_max => k_is); (case z_range => k_is); (case z_sum => k_is); (case z_tuple => k_is); (case z_zip => k_is)
