import PyProof.Rows.All
import HandS.ForMost
import HandS.HeadHook2
import HandS.TupAny
import HandS.Wide
import HandS.Style
import HandS.Deep
import HandS.IsInst
import HandS.DictComp
import HandS.More
import HandS.WordsDict
import HandS.Small
import HandS.Text
import HandS.OwnEq
import HandS.SlotsOwn
import HandS.Words
import PyProof.EnumMake
import PyProof.Draws
import HandS.GenYield
import PyProof.StrBlock2
import KE.DatumOrd
import KE.GoesZip
import PyProof.ZipIter
import HandS.Conv
import HandS.RaiseMore
import HandS.SortInts
import KE.KStateDown
import HandS.Head0
import HandS.Head1
import HandS.Head2
import HandS.HeadEnd
import HandS.HeadHook1
import HandS.HeadWalk
import PySem.Challenge.RW_stuckpools_k11_next_starts_and_levels
set_option Elab.async false
set_option linter.all false
set_option maxRecDepth 100000
set_option maxHeartbeats 0
namespace VS
open PySem PySem.Spec L2

/-- frozen data -/
inductive D where
  | non | bl (b : Bool) | int (i : Int) | str (x : Str)
  | tup (xs : List D) | lst (xs : List D)
  | dK (kvs : List (Key × D)) | dT (kvs : List (List Key × D))
  | obj (c : Str) (fs : List (Str × D))
  /-- the script: locked -/
  | scr (ns : List Int)
/-- a value with ownership: sh: shared data; else an object that nothing else names -/
inductive O where
  | sh (d : D) | lst (xs : List D) | dK (kvs : List (Key × D)) | dT (kvs : List (List Key × D))
  | obj (c : Str) (fs : List (Str × O))

mutual
def O.fz : O → D
  | .sh d => d
  | .lst xs => .lst xs
  | .dK ks => .dK ks
  | .dT ks => .dT ks
  | .obj c fs => .obj c (O.fzF fs)
def O.fzF : List (Str × O) → List (Str × D)
  | [] => []
  | (x, o) :: r => (x, o.fz) :: O.fzF r
end

section
variable (K : PySem.W.Frag) (Z : Addr → Prop) (H : Hp)
mutual
def RepD : D → V → Prop
  | .non, v => v = .non
  | .bl b, v => v = .bl b
  | .int i, v => v = .int i
  | .str x, v => v = .str x
  | .tup ds, v => ∃ a vs, v = .ref a ∧ H a = some (.tup vs) ∧ RepL ds vs
  | .lst ds, v => ∃ a vs, v = .ref a ∧ Z a ∧ H a = some (.lst vs) ∧ RepL ds vs
  | .dK ks, v => ∃ a vs, v = .ref a ∧ Z a ∧ L2.Rd H a (.dK vs) ∧ RepK ks vs
  | .dT ks, v => ∃ a vs, v = .ref a ∧ Z a ∧ L2.Rd H a (.dT vs) ∧ RepT ks vs
  | .obj c fs, v => ∃ a dx vs, v = .ref a ∧ Z a ∧ H a = some (.ins (He.ga K c) dx vs) ∧ RepF fs vs
  | .scr ns, v => ∃ a, v = .ref a ∧ ((Z a ∧ ∃ o, H a = some (.frz o (.lst (ns.map V.int)))) ∨ SqL K (fun _ => none) a (ns.map V.int))
def RepL : List D → List V → Prop
  | [], vs => vs = []
  | d :: ds, vs => ∃ v r, vs = v :: r ∧ RepD d v ∧ RepL ds r
def RepK : List (Key × D) → List (Key × V) → Prop
  | [], vs => vs = []
  | (k, d) :: ds, vs => ∃ v r, vs = (k, v) :: r ∧ RepD d v ∧ RepK ds r
def RepT : List (List Key × D) → List (List Key × V) → Prop
  | [], vs => vs = []
  | (k, d) :: ds, vs => ∃ v r, vs = (k, v) :: r ∧ RepD d v ∧ RepT ds r
def RepF : List (Str × D) → List (Str × V) → Prop
  | [], vs => vs = []
  | (k, d) :: ds, vs => ∃ v r, vs = (k, v) :: r ∧ RepD d v ∧ RepF ds r
end
mutual
def RepO : O → V → List Addr → Prop
  | .sh d, v, F => F = [] ∧ RepD K Z H d v
  | .lst ds, v, F => ∃ a vs, v = .ref a ∧ F = [a] ∧ H a = some (.lst vs) ∧ RepL K Z H ds vs
  | .dK ks, v, F => ∃ a vs, v = .ref a ∧ F = [a] ∧ H a = some (.dK vs) ∧ RepK K Z H ks vs
  | .dT ks, v, F => ∃ a vs, v = .ref a ∧ F = [a] ∧ H a = some (.dT vs) ∧ RepT K Z H ks vs
  | .obj c fs, v, F => ∃ a dx vs G, v = .ref a ∧ F = a :: G ∧ H a = some (.ins (He.ga K c) dx vs) ∧ RepOF fs vs G
def RepOF : List (Str × O) → List (Str × V) → List Addr → Prop
  | [], vs, F => vs = [] ∧ F = []
  | (k, o) :: r, vs, F => ∃ v r' F1 F2, vs = (k, v) :: r' ∧ F = F1 ++ F2 ∧ RepO o v F1 ∧ RepOF r r' F2
end
end

/-- a dict, locked or not -/
def dcO : HO → Bool
  | .dK _ => true
  | .dT _ => true
  | .frz _ (.dK _) => true
  | .frz _ (.dT _) => true
  | _ => false
/-- what shared data leans on stays -/
structure Keep (Z Z' : Addr → Prop) (H H' : Hp) : Prop where
  z : ∀ a, Z a → Z' a
  h : ∀ a o, Z a → H a = some o → dcO o = false → H' a = some o
  dk : ∀ a u, Z a → L2.Rd H a (.dK u) → L2.Rd H' a (.dK u)
  dt : ∀ a u, Z a → L2.Rd H a (.dT u) → L2.Rd H' a (.dT u)
  t : ∀ a xs, H a = some (.tup xs) → H' a = some (.tup xs)
section
variable {K : PySem.W.Frag} {Z Z' : Addr → Prop} {H H' : Hp}
theorem Keep.of (z : ∀ a, Z a → Z' a) (h : ∀ a o, Z a → H a = some o → H' a = some o) (t : ∀ a xs, H a = some (.tup xs) → H' a = some (.tup xs)) : Keep Z Z' H H' :=
  ⟨z, fun a o q e _ => h a o q e, fun a u q e => e.imp (h a _ q) (fun ⟨o, e⟩ => ⟨o, h a _ q e⟩), fun a u q e => e.imp (h a _ q) (fun ⟨o, e⟩ => ⟨o, h a _ q e⟩), t⟩
mutual
theorem RepD.keep (k : Keep Z Z' H H') : ∀ (d : D) (v : V), RepD K Z H d v → RepD K Z' H' d v
  | .non, v, h => by simpa only [RepD] using h
  | .bl b, v, h => by simpa only [RepD] using h
  | .int i, v, h => by simpa only [RepD] using h
  | .str x, v, h => by simpa only [RepD] using h
  | .tup ds, v, h => by
    simp only [RepD] at h ⊢
    obtain ⟨a, vs, e, h1, h2⟩ := h
    exact ⟨a, vs, e, k.t a vs h1, RepL.keep k ds vs h2⟩
  | .lst ds, v, h => by
    simp only [RepD] at h ⊢
    obtain ⟨a, vs, e, z, h1, h2⟩ := h
    exact ⟨a, vs, e, k.z a z, k.h a _ z h1 rfl, RepL.keep k ds vs h2⟩
  | .dK ks, v, h => by
    simp only [RepD] at h ⊢
    obtain ⟨a, vs, e, z, h1, h2⟩ := h
    exact ⟨a, vs, e, k.z a z, k.dk a _ z h1, RepK.keep k ks vs h2⟩
  | .dT ks, v, h => by
    simp only [RepD] at h ⊢
    obtain ⟨a, vs, e, z, h1, h2⟩ := h
    exact ⟨a, vs, e, k.z a z, k.dt a _ z h1, RepT.keep k ks vs h2⟩
  | .obj c fs, v, h => by
    simp only [RepD] at h ⊢
    obtain ⟨a, dx, vs, e, z, h1, h2⟩ := h
    exact ⟨a, dx, vs, e, k.z a z, k.h a _ z h1 rfl, RepF.keep k fs vs h2⟩
  | .scr ns, v, h => by
    simp only [RepD] at h ⊢
    obtain ⟨a, e, ⟨z, o, h1⟩ | h1⟩ := h
    · exact ⟨a, e, .inl ⟨k.z a z, o, k.h a _ z h1 rfl⟩⟩
    · exact ⟨a, e, .inr h1⟩
theorem RepL.keep (k : Keep Z Z' H H') : ∀ (ds : List D) (vs : List V), RepL K Z H ds vs → RepL K Z' H' ds vs
  | [], vs, h => by simpa only [RepL] using h
  | d :: ds, vs, h => by
    simp only [RepL] at h ⊢
    obtain ⟨v, r, e, h1, h2⟩ := h
    exact ⟨v, r, e, RepD.keep k d v h1, RepL.keep k ds r h2⟩
theorem RepK.keep (k : Keep Z Z' H H') : ∀ (ds : List (Key × D)) (vs : List (Key × V)), RepK K Z H ds vs → RepK K Z' H' ds vs
  | [], vs, h => by simpa only [RepK] using h
  | (x, d) :: ds, vs, h => by
    simp only [RepK] at h ⊢
    obtain ⟨v, r, e, h1, h2⟩ := h
    exact ⟨v, r, e, RepD.keep k d v h1, RepK.keep k ds r h2⟩
theorem RepT.keep (k : Keep Z Z' H H') : ∀ (ds : List (List Key × D)) (vs : List (List Key × V)), RepT K Z H ds vs → RepT K Z' H' ds vs
  | [], vs, h => by simpa only [RepT] using h
  | (x, d) :: ds, vs, h => by
    simp only [RepT] at h ⊢
    obtain ⟨v, r, e, h1, h2⟩ := h
    exact ⟨v, r, e, RepD.keep k d v h1, RepT.keep k ds r h2⟩
theorem RepF.keep (k : Keep Z Z' H H') : ∀ (ds : List (Str × D)) (vs : List (Str × V)), RepF K Z H ds vs → RepF K Z' H' ds vs
  | [], vs, h => by simpa only [RepF] using h
  | (x, d) :: ds, vs, h => by
    simp only [RepF] at h ⊢
    obtain ⟨v, r, e, h1, h2⟩ := h
    exact ⟨v, r, e, RepD.keep k d v h1, RepF.keep k ds r h2⟩
end
end
end VS

namespace VS
open PySem PySem.Spec L2

section
variable {K : PySem.W.Frag} {Z Z' : Addr → Prop} {H H' : Hp}
mutual
theorem RepO.keep (k : Keep Z Z' H H') : ∀ (o : O) (v : V) (F : List Addr), (∀ a ∈ F, ∀ u, H a = some u → H' a = some u) → RepO K Z H o v F → RepO K Z' H' o v F
  | .sh d, v, F, q, h => by
    simp only [RepO] at h ⊢
    exact ⟨h.1, RepD.keep k d v h.2⟩
  | .lst ds, v, F, q, h => by
    simp only [RepO] at h ⊢
    obtain ⟨a, vs, e, f, h1, h2⟩ := h
    exact ⟨a, vs, e, f, q a (by rw [f]; exact List.mem_cons_self) _ h1, RepL.keep k ds vs h2⟩
  | .dK ds, v, F, q, h => by
    simp only [RepO] at h ⊢
    obtain ⟨a, vs, e, f, h1, h2⟩ := h
    exact ⟨a, vs, e, f, q a (by rw [f]; exact List.mem_cons_self) _ h1, RepK.keep k ds vs h2⟩
  | .dT ds, v, F, q, h => by
    simp only [RepO] at h ⊢
    obtain ⟨a, vs, e, f, h1, h2⟩ := h
    exact ⟨a, vs, e, f, q a (by rw [f]; exact List.mem_cons_self) _ h1, RepT.keep k ds vs h2⟩
  | .obj c fs, v, F, q, h => by
    simp only [RepO] at h ⊢
    obtain ⟨a, dx, vs, G, e, f, h1, h2⟩ := h
    exact ⟨a, dx, vs, G, e, f, q a (by rw [f]; exact List.mem_cons_self) _ h1, RepOF.keep k fs vs G (fun b hb => q b (by rw [f]; exact List.mem_cons_of_mem _ hb)) h2⟩
theorem RepOF.keep (k : Keep Z Z' H H') : ∀ (fs : List (Str × O)) (vs : List (Str × V)) (F : List Addr), (∀ a ∈ F, ∀ u, H a = some u → H' a = some u) → RepOF K Z H fs vs F → RepOF K Z' H' fs vs F
  | [], vs, F, q, h => by
    simp only [RepOF] at h ⊢
    exact h
  | (x, o) :: r, vs, F, q, h => by
    simp only [RepOF] at h ⊢
    obtain ⟨v, r', F1, F2, e, f, h1, h2⟩ := h
    exact ⟨v, r', F1, F2, e, f, RepO.keep k o v F1 (fun b hb => q b (by rw [f]; exact List.mem_append_left _ hb)) h1, RepOF.keep k r r' F2 (fun b hb => q b (by rw [f]; exact List.mem_append_right _ hb)) h2⟩
end
mutual
theorem RepO.dom : ∀ (o : O) (v : V) (F : List Addr), RepO K Z H o v F → ∀ a ∈ F, ∃ u, H a = some u
  | .sh d, v, F, h => by
    simp only [RepO] at h
    rw [h.1]
    exact fun a ha => absurd ha (by simp)
  | .lst ds, v, F, h => by
    simp only [RepO] at h
    obtain ⟨a, vs, e, f, h1, h2⟩ := h
    rw [f]
    intro b hb
    have e : b = a := by simpa using hb
    exact ⟨_, by rw [e]; exact h1⟩
  | .dK ds, v, F, h => by
    simp only [RepO] at h
    obtain ⟨a, vs, e, f, h1, h2⟩ := h
    rw [f]
    intro b hb
    have e : b = a := by simpa using hb
    exact ⟨_, by rw [e]; exact h1⟩
  | .dT ds, v, F, h => by
    simp only [RepO] at h
    obtain ⟨a, vs, e, f, h1, h2⟩ := h
    rw [f]
    intro b hb
    have e : b = a := by simpa using hb
    exact ⟨_, by rw [e]; exact h1⟩
  | .obj c fs, v, F, h => by
    simp only [RepO] at h
    obtain ⟨a, dx, vs, G, e, f, h1, h2⟩ := h
    rw [f]
    intro b hb
    rcases List.mem_cons.mp hb with e | hb
    · exact ⟨_, by rw [e]; exact h1⟩
    · exact RepOF.dom fs vs G h2 b hb
theorem RepOF.dom : ∀ (fs : List (Str × O)) (vs : List (Str × V)) (F : List Addr), RepOF K Z H fs vs F → ∀ a ∈ F, ∃ u, H a = some u
  | [], vs, F, h => by
    simp only [RepOF] at h
    rw [h.2]
    exact fun a ha => absurd ha (by simp)
  | (x, o) :: r, vs, F, h => by
    simp only [RepOF] at h
    obtain ⟨v, r', F1, F2, e, f, h1, h2⟩ := h
    rw [f]
    intro b hb
    rcases List.mem_append.mp hb with hb | hb
    · exact RepO.dom o v F1 h1 b hb
    · exact RepOF.dom r r' F2 h2 b hb
end
end

/-- one place -/
def RepX (K : PySem.W.Frag) (Z : Addr → Prop) (H : Hp) : Option O → Option V → List Addr → Prop
  | none, _, F => F = []
  | some o, some v, F => RepO K Z H o v F
  | some _, none, _ => False
/-- places -/
def RepS (K : PySem.W.Frag) (Z : Addr → Prop) (H : Hp) : List (Option O) → List (Option V) → List Addr → Prop
  | [], σ, F => σ = [] ∧ F = []
  | x :: δ, σ, F => ∃ y r F1 F2, σ = y :: r ∧ F = F1 ++ F2 ∧ RepX K Z H x y F1 ∧ RepS K Z H δ r F2
section
variable {K : PySem.W.Frag} {Z Z' : Addr → Prop} {H H' : Hp}
theorem RepX.keep (k : Keep Z Z' H H') {x : Option O} {y : Option V} {F : List Addr} (q : ∀ a ∈ F, ∀ u, H a = some u → H' a = some u) (h : RepX K Z H x y F) : RepX K Z' H' x y F := by
  cases x with
  | none => exact h
  | some o => cases y with
    | none => exact h
    | some v => exact RepO.keep k o v F q h
theorem RepX.dom {x : Option O} {y : Option V} {F : List Addr} (h : RepX K Z H x y F) : ∀ a ∈ F, ∃ u, H a = some u := by
  cases x with
  | none =>
    have e : F = [] := h
    rw [e]
    exact fun a ha => absurd ha (by simp)
  | some o => cases y with
    | none => exact (show False from h).elim
    | some v => exact RepO.dom o v F h
theorem RepS.keep (k : Keep Z Z' H H') : ∀ {δ : List (Option O)} {σ : List (Option V)} {F : List Addr}, (∀ a ∈ F, ∀ u, H a = some u → H' a = some u) → RepS K Z H δ σ F → RepS K Z' H' δ σ F
  | [], σ, F, q, h => h
  | x :: δ, σ, F, q, ⟨y, r, F1, F2, e, f, h1, h2⟩ =>
    ⟨y, r, F1, F2, e, f, RepX.keep k (fun b hb => q b (by rw [f]; exact List.mem_append_left _ hb)) h1, RepS.keep k (fun b hb => q b (by rw [f]; exact List.mem_append_right _ hb)) h2⟩
theorem RepS.dom : ∀ {δ : List (Option O)} {σ : List (Option V)} {F : List Addr}, RepS K Z H δ σ F → ∀ a ∈ F, ∃ u, H a = some u
  | [], σ, F, h => by
    have e : F = [] := h.2
    rw [e]
    exact fun a ha => absurd ha (by simp)
  | x :: δ, σ, F, ⟨y, r, F1, F2, e, f, h1, h2⟩ => by
    rw [f]
    intro b hb
    rcases List.mem_append.mp hb with hb | hb
    · exact RepX.dom h1 b hb
    · exact RepS.dom h2 b hb
theorem RepS.length : ∀ {δ : List (Option O)} {σ : List (Option V)} {F : List Addr}, RepS K Z H δ σ F → δ.length = σ.length
  | [], σ, F, h => by
    have e : σ = [] := h.1
    rw [e]
    all_goals rfl
  | x :: δ, σ, F, ⟨y, r, F1, F2, e, f, h1, h2⟩ => by
    rw [e, List.length_cons, List.length_cons, RepS.length h2]
/-- a place taken out, and another put in -/
theorem RepS.at : ∀ {δ : List (Option O)} {σ : List (Option V)} {F : List Addr} {i : Nat} {x : Option O}, RepS K Z H δ σ F → δ[i]? = some x →
    ∃ y Fi Fr, σ[i]? = some y ∧ F.Perm (Fi ++ Fr) ∧ RepX K Z H x y Fi ∧
      ∀ (Z' : Addr → Prop) (H' : Hp) (x' : Option O) (y' : Option V) (Fi' : List Addr), Keep Z Z' H H' → (∀ a ∈ Fr, ∀ u, H a = some u → H' a = some u) → RepX K Z' H' x' y' Fi' → ∃ F', RepS K Z' H' (δ.set i x') (σ.set i y') F' ∧ F'.Perm (Fi' ++ Fr)
  | [], σ, F, i, x, h, e => by simp at e
  | x0 :: δ, σ, F, 0, x, ⟨y, r, F1, F2, e, f, h1, h2⟩, ex => by
    have ex' : x0 = x := by simpa using ex
    subst ex'
    refine ⟨y, F1, F2, by rw [e]; rfl, by rw [f], h1, fun Z' H' x' y' Fi' k q h' => ⟨Fi' ++ F2, ?_, List.Perm.refl _⟩⟩
    rw [e]
    exact ⟨y', r, Fi', F2, rfl, rfl, h', RepS.keep k q h2⟩
  | x0 :: δ, σ, F, i + 1, x, ⟨y, r, F1, F2, e, f, h1, h2⟩, ex => by
    obtain ⟨y1, Fi, Fr, e1, p1, g1, g2⟩ := RepS.at (i := i) (x := x) h2 (by simpa using ex)
    refine ⟨y1, Fi, F1 ++ Fr, by rw [e]; simpa using e1, ?_, g1, fun Z' H' x' y' Fi' k q h' => ?_⟩
    · rw [f]
      exact (List.Perm.append_left F1 p1).trans (by
        rw [← List.append_assoc, ← List.append_assoc]
        exact List.Perm.append_right _ List.perm_append_comm)
    · obtain ⟨F', s1, s2⟩ := g2 Z' H' x' y' Fi' k (fun a ha => q a (List.mem_append_right _ ha)) h'
      refine ⟨F1 ++ F', ?_, ?_⟩
      · rw [e]
        exact ⟨y, _, F1, F', rfl, rfl, RepX.keep k (fun a ha => q a (List.mem_append_left _ ha)) h1, s1⟩
      · exact (List.Perm.append_left F1 s2).trans (by
          rw [← List.append_assoc, ← List.append_assoc]
          exact List.Perm.append_right _ List.perm_append_comm)
end

/-- the frame around: what a def's body leaves as it is -/
structure Gx where
  Z0 : Addr → Prop
  G : Hp
structure Wd (g : Gx) (Z : Addr → Prop) (H : Hp) (F : List Addr) : Prop where
  nd : F.Nodup
  own : ∀ a ∈ F, ¬ Z a ∧ g.G a = none
  z0 : ∀ a, g.Z0 a → Z a
  zh : ∀ a, Z a → (∃ o, H a = some o) ∧ (g.Z0 a ∨ g.G a = none)
  gh : ∀ a o, g.G a = some o → H a = some o
theorem Wd.perm {g : Gx} {Z : Addr → Prop} {H : Hp} {F F' : List Addr} (w : Wd g Z H F) (p : F.Perm F') : Wd g Z H F' :=
  ⟨p.nodup_iff.mp w.nd, fun a ha => w.own a (p.mem_iff.mpr ha), w.z0, w.zh, w.gh⟩
theorem Wd.sub {g : Gx} {Z : Addr → Prop} {H : Hp} {F F' : List Addr} (w : Wd g Z H F) (p : F'.Sublist F) : Wd g Z H F' :=
  ⟨w.nd.sublist p, fun a ha => w.own a (p.subset ha), w.z0, w.zh, w.gh⟩
abbrev DS := List (Option O)
/-- slots (δ beside σ) and temporaries (S beside T) -/
def StV (K : PySem.W.Frag) (g : Gx) (Z : Addr → Prop) (H : Hp) (δ : DS) (σ : St) (S : DS) (T : St) : Prop :=
  ∃ Fs Ft, RepS K Z H δ σ Fs ∧ RepS K Z H S T Ft ∧ Wd g Z H (Fs ++ Ft)
/-- a new value comes: the heap grows -/
def Res (K : PySem.W.Frag) (Z : Addr → Prop) (H : Hp) (o : O) (v : V) (H' : Hp) : Prop :=
  ∃ F, Same H H' ∧ RepO K Z H' o v F ∧ F.Nodup ∧ ∀ a ∈ F, H a = none
section
variable {K : PySem.W.Frag} {g : Gx} {Z Z' : Addr → Prop} {H H' : Hp} {δ S : DS} {σ T : St} {o : O} {v : V}
theorem Same.keep (s : Same H H') : Keep Z Z H H' := Keep.of (fun _ z => z) (fun a o _ q => s a o q) fun a xs q => s a _ q
theorem Keep.refl (Z : Addr → Prop) (H : Hp) : Keep Z Z H H := Keep.of (fun _ z => z) (fun _ _ _ h => h) fun _ _ h => h
theorem Keep.trans {Z Z' Z'' : Addr → Prop} {H H' H'' : Hp} (a : Keep Z Z' H H') (b : Keep Z' Z'' H' H'') : Keep Z Z'' H H'' := ⟨fun c z => b.z c (a.z c z), fun c o z h e => b.h c o (a.z c z) (a.h c o z h e) e, fun c u z h => b.dk c u (a.z c z) (a.dk c u z h), fun c u z h => b.dt c u (a.z c z) (a.dt c u z h), fun c xs h => b.t c xs (a.t c xs h)⟩
theorem StV.push (s : StV K g Z H δ σ S T) (r : Res K Z H o v H') : StV K g Z H' δ σ (some o :: S) (some v :: T) := by
  obtain ⟨Fs, Ft, h1, h2, w⟩ := s
  obtain ⟨F, sm, h3, nd, fr⟩ := r
  have k : Keep Z Z H H' := Same.keep sm
  have hd : ∀ a ∈ Fs ++ Ft, a ∉ F := fun a ha hf => by
    have q := fr a hf
    rcases List.mem_append.mp ha with ha | ha
    · obtain ⟨u, e⟩ := h1.dom a ha
      rw [q] at e; cases e
    · obtain ⟨u, e⟩ := h2.dom a ha
      rw [q] at e; cases e
  refine ⟨Fs, F ++ Ft, RepS.keep k (fun a _ u q => sm a u q) h1, ⟨some v, T, F, Ft, rfl, rfl, h3, RepS.keep k (fun a _ u q => sm a u q) h2⟩, ?_⟩
  have p : (F ++ (Fs ++ Ft)).Perm (Fs ++ (F ++ Ft)) := by
    rw [← List.append_assoc, ← List.append_assoc]
    exact List.Perm.append_right _ List.perm_append_comm
  refine Wd.perm ?_ p
  refine ⟨List.nodup_append.mpr ⟨nd, w.nd, fun a ha b hb e => hd b hb (e ▸ ha)⟩, fun a ha => ?_, w.z0, fun a z => ?_, fun a u q => sm a u (w.gh a u q)⟩
  · rcases List.mem_append.mp ha with ha | ha
    · refine ⟨fun z => ?_, ?_⟩
      · obtain ⟨u, e⟩ := (w.zh a z).1
        rw [fr a ha] at e; cases e
      · cases q : g.G a with
        | none => rfl
        | some u =>
          have e := w.gh a u q
          rw [fr a ha] at e; cases e
    · exact w.own a ha
  · obtain ⟨⟨u, e⟩, q⟩ := w.zh a z
    exact ⟨⟨u, sm a u e⟩, q⟩
theorem StV.pop {x : Option O} {y : Option V} (s : StV K g Z H δ σ (x :: S) (y :: T)) : StV K g Z H δ σ S T := by
  obtain ⟨Fs, Ft, h1, ⟨y', r, F1, F2, e, f, h3, h4⟩, w⟩ := s
  cases e
  refine ⟨Fs, F2, h1, h4, w.sub ?_⟩
  rw [f]
  exact List.Sublist.append (List.Sublist.refl _) (List.sublist_append_right _ _)
theorem StV.top (s : StV K g Z H δ σ (some o :: S) (some v :: T)) : ∃ F, RepO K Z H o v F := by
  obtain ⟨Fs, Ft, h1, ⟨y', r, F1, F2, e, f, h3, h4⟩, w⟩ := s
  cases e
  exact ⟨F1, h3⟩
theorem StV.slot {i : Nat} (s : StV K g Z H δ σ S T) (h : δ[i]? = some (some o)) : ∃ v F, σ[i]? = some (some v) ∧ RepO K Z H o v F := by
  obtain ⟨Fs, Ft, h1, _, w⟩ := s
  obtain ⟨y, Fi, Fr, e, p, q, _⟩ := h1.at h
  cases y with
  | none => exact (show False from q).elim
  | some v => exact ⟨v, Fi, e, q⟩
theorem StV.len (s : StV K g Z H δ σ S T) : δ.length = σ.length := by
  obtain ⟨Fs, Ft, h1, _, w⟩ := s
  exact h1.length
end
end VS

namespace VS
open PySem PySem.Spec L2
/-! ### what is one's own becomes shared -/
def ZF (Z : Addr → Prop) (F : List Addr) : Addr → Prop := fun a => Z a ∨ a ∈ F
section
variable {K : PySem.W.Frag} {g : Gx} {Z Z' : Addr → Prop} {H H' : Hp} {δ S : DS} {σ T : L2.St} {o : O} {v : V}
theorem Keep.zf (Z : Addr → Prop) (H : Hp) (F : List Addr) : Keep Z (ZF Z F) H H := Keep.of (fun _ z => .inl z) (fun _ _ _ h => h) fun _ _ h => h
theorem ZF.mono {Z : Addr → Prop} {H : Hp} {F F' : List Addr} (h : ∀ a ∈ F, a ∈ F') : Keep (ZF Z F) (ZF Z F') H H := Keep.of (fun _ z => z.imp id (h _)) (fun _ _ _ h => h) fun _ _ h => h
mutual
theorem RepO.frz : ∀ (o : O) (v : V) (F : List Addr), RepO K Z H o v F → RepD K (ZF Z F) H o.fz v
  | .sh d, v, F, h => by
    simp only [RepO] at h
    exact RepD.keep (Keep.zf Z H F) d v h.2
  | .lst ds, v, F, h => by
    simp only [RepO] at h
    obtain ⟨a, vs, e, f, h1, h2⟩ := h
    simp only [O.fz, RepD]
    exact ⟨a, vs, e, .inr (by rw [f]; exact List.mem_cons_self), h1, RepL.keep (Keep.zf Z H F) ds vs h2⟩
  | .dK ds, v, F, h => by
    simp only [RepO] at h
    obtain ⟨a, vs, e, f, h1, h2⟩ := h
    simp only [O.fz, RepD]
    exact ⟨a, vs, e, .inr (by rw [f]; exact List.mem_cons_self), .inl h1, RepK.keep (Keep.zf Z H F) ds vs h2⟩
  | .dT ds, v, F, h => by
    simp only [RepO] at h
    obtain ⟨a, vs, e, f, h1, h2⟩ := h
    simp only [O.fz, RepD]
    exact ⟨a, vs, e, .inr (by rw [f]; exact List.mem_cons_self), .inl h1, RepT.keep (Keep.zf Z H F) ds vs h2⟩
  | .obj c fs, v, F, h => by
    simp only [RepO] at h
    obtain ⟨a, dx, vs, G, e, f, h1, h2⟩ := h
    simp only [O.fz, RepD]
    exact ⟨a, dx, vs, e, .inr (by rw [f]; exact List.mem_cons_self), h1, RepF.keep (ZF.mono (fun b hb => by rw [f]; exact List.mem_cons_of_mem _ hb)) _ _ (RepOF.frz fs vs G h2)⟩
theorem RepOF.frz : ∀ (fs : List (Str × O)) (vs : List (Str × V)) (F : List Addr), RepOF K Z H fs vs F → RepF K (ZF Z F) H (O.fzF fs) vs
  | [], vs, F, h => by
    simp only [RepOF] at h
    simp only [O.fzF, RepF]
    exact h.1
  | (x, o) :: r, vs, F, h => by
    simp only [RepOF] at h
    obtain ⟨v, r', F1, F2, e, f, h1, h2⟩ := h
    simp only [O.fzF, RepF]
    exact ⟨v, r', e, RepD.keep (ZF.mono (fun b hb => by rw [f]; exact List.mem_append_left _ hb)) _ _ (RepO.frz o v F1 h1), RepF.keep (ZF.mono (fun b hb => by rw [f]; exact List.mem_append_right _ hb)) _ _ (RepOF.frz r r' F2 h2)⟩
end
theorem Wd.frz {F F1 F2 : List Addr} (w : Wd g Z H F) (p : F.Perm (F1 ++ F2)) (hd : ∀ a ∈ F1, ∃ u, H a = some u) : Wd g (ZF Z F1) H F2 := by
  have w' := w.perm p
  have nd := List.nodup_append.mp w'.nd
  refine ⟨nd.2.1, fun a ha => ⟨fun z => ?_, (w'.own a (List.mem_append_right _ ha)).2⟩, fun a z => .inl (w.z0 a z), fun a z => ?_, w.gh⟩
  · rcases z with z | z
    · exact (w'.own a (List.mem_append_right _ ha)).1 z
    · exact nd.2.2 a z a ha rfl
  · rcases z with z | z
    · exact w.zh a z
    · exact ⟨hd a z, .inr (w'.own a (List.mem_append_left _ z)).2⟩
/-- a temporary is frozen -/
theorem StV.frzT (s : StV K g Z H δ σ (some o :: S) (some v :: T)) : ∃ Z', StV K g Z' H δ σ (some (.sh o.fz) :: S) (some v :: T) ∧ RepD K Z' H o.fz v := by
  obtain ⟨Fs, Ft, h1, ⟨y', r, F1, F2, e, f, h3, h4⟩, w⟩ := s
  cases e
  have h3' : RepO K Z H o v F1 := h3
  have q := RepO.frz o v F1 h3'
  have p : (Fs ++ Ft).Perm (F1 ++ (Fs ++ F2)) := by
    rw [f, ← List.append_assoc, ← List.append_assoc]
    exact List.Perm.append_right _ List.perm_append_comm
  have q2 : RepO K (ZF Z F1) H (.sh o.fz) v [] := by
    simp only [RepO]
    exact ⟨trivial, q⟩
  exact ⟨ZF Z F1, ⟨Fs, F2, RepS.keep (Keep.zf Z H F1) (fun _ _ _ h => h) h1, ⟨some v, T, [], F2, rfl, rfl, q2, RepS.keep (Keep.zf Z H F1) (fun _ _ _ h => h) h4⟩, w.frz p (RepO.dom o v F1 h3')⟩, q⟩
/-- a slot is frozen, and read -/
theorem StV.frzS {i : Nat} (s : StV K g Z H δ σ S T) (h : δ[i]? = some (some o)) : ∃ v Z', σ[i]? = some (some v) ∧ StV K g Z' H (δ.set i (some (.sh o.fz))) σ (some (.sh o.fz) :: S) (some v :: T) ∧ Keep Z Z' H H := by
  obtain ⟨Fs, Ft, h1, h2, w⟩ := s
  obtain ⟨y, Fi, Fr, e, p, q, put⟩ := h1.at h
  cases y with
  | none => exact (show False from q).elim
  | some v =>
    have q1 : RepO K Z H o v Fi := q
    have qd := RepO.frz o v Fi q1
    have q2 : RepO K (ZF Z Fi) H (.sh o.fz) v [] := by
      simp only [RepO]
      exact ⟨trivial, qd⟩
    obtain ⟨F', s1, s2⟩ := put (ZF Z Fi) H (some (.sh o.fz)) (some v) [] (Keep.zf Z H Fi) (fun _ _ _ h => h) q2
    have es : σ.set i (some v) = σ := by
      refine List.ext_getElem? fun j => ?_
      by_cases hj : i = j
      · subst hj
        rw [e]
        have hl : i < σ.length := (List.getElem?_eq_some_iff.mp e).1
        rw [List.getElem?_set_self hl]
      · rw [List.getElem?_set_ne hj]
    rw [es] at s1
    have p2 : (Fs ++ Ft).Perm (Fi ++ (Fr ++ Ft)) := by
      rw [← List.append_assoc]
      exact List.Perm.append_right _ p
    have w2 := w.frz p2 (RepO.dom o v Fi q1)
    refine ⟨v, ZF Z Fi, e, ⟨F', Ft, s1, ⟨some v, T, [], Ft, rfl, rfl, q2, RepS.keep (Keep.zf Z H Fi) (fun _ _ _ h => h) h2⟩, w2.perm ?_⟩, Keep.zf Z H Fi⟩
    exact List.Perm.append_right _ s2.symm
theorem RepS.append : ∀ {A : DS} {B : DS} {C D : L2.St} {F : List Addr}, A.length = C.length → RepS K Z H (A ++ B) (C ++ D) F → ∃ F1 F2, F = F1 ++ F2 ∧ RepS K Z H A C F1 ∧ RepS K Z H B D F2
  | [], B, [], D, F, _, h => ⟨[], F, rfl, ⟨rfl, rfl⟩, h⟩
  | x :: A, B, [], D, F, l, h => by simp at l
  | [], B, c :: C, D, F, l, h => by simp at l
  | x :: A, B, c :: C, D, F, l, ⟨y, r, F1, F2, e, f, h1, h2⟩ => by
    have e' : c :: (C ++ D) = y :: r := e
    injection e' with e1 e2
    subst e1 e2
    obtain ⟨G1, G2, g1, g2, g3⟩ := RepS.append (A := A) (C := C) (by simpa using l) h2
    exact ⟨F1 ++ G1, G2, by rw [f, g1, List.append_assoc], ⟨c, C, F1, G1, rfl, rfl, h1, g2⟩, g3⟩
theorem RepS.snoc : ∀ {A : DS} {C : L2.St} {x : Option O} {y : Option V} {F1 F2 : List Addr}, RepS K Z H A C F1 → RepX K Z H x y F2 → RepS K Z H (A ++ [x]) (C ++ [y]) (F1 ++ F2)
  | [], C, x, y, F1, F2, h, q => by
    obtain ⟨h1, h2⟩ : C = [] ∧ F1 = [] := h
    subst h1 h2
    exact ⟨y, [], F2, [], rfl, by simp, q, rfl, rfl⟩
  | z :: A, C, x, y, F1, F2, ⟨y', r, G1, G2, e, f, h1, h2⟩, q => by
    subst e f
    exact ⟨y', r ++ [y], G1, G2 ++ F2, rfl, by rw [List.append_assoc], h1, RepS.snoc h2 q⟩
theorem RepS.reverse : ∀ {A : DS} {C : L2.St} {F : List Addr}, RepS K Z H A C F → ∃ F', RepS K Z H A.reverse C.reverse F' ∧ F'.Perm F
  | [], C, F, h => by
    obtain ⟨h1, h2⟩ : C = [] ∧ F = [] := h
    subst h1 h2
    exact ⟨[], ⟨rfl, rfl⟩, List.Perm.refl _⟩
  | x :: A, C, F, ⟨y, r, F1, F2, e, f, h1, h2⟩ => by
    subst e f
    obtain ⟨F', q1, q2⟩ := RepS.reverse h2
    refine ⟨F' ++ F1, ?_, ?_⟩
    · rw [List.reverse_cons, List.reverse_cons]
      exact RepS.snoc q1 h1
    · exact (List.Perm.append_right _ q2).trans List.perm_append_comm
theorem RepS.frz : ∀ {os : List O} {vs : List V} {F : List Addr}, RepS K Z H (os.map some) (vs.map some) F → RepL K (ZF Z F) H (os.map O.fz) vs
  | [], vs, F, h => by
    have e : vs.map some = [] := h.1
    simp only [List.map_nil, RepL]
    simpa using e
  | o :: os, vs, F, ⟨y, r, F1, F2, e, f, h1, h2⟩ => by
    cases vs with
    | nil => simp at e
    | cons v vs =>
      rw [List.map_cons] at e
      injection e with e1 e2
      subst e1 e2
      have q1 : RepO K Z H o v F1 := h1
      simp only [List.map_cons, RepL]
      refine ⟨v, vs, rfl, RepD.keep (ZF.mono fun a ha => by rw [f]; exact List.mem_append_left _ ha) _ _ (RepO.frz o v F1 q1), RepL.keep (ZF.mono fun a ha => by rw [f]; exact List.mem_append_right _ ha) _ _ (RepS.frz h2)⟩
/-- several temporaries, the last on top, are frozen and taken off -/
theorem StV.frzL {os : List O} {vs : List V} (hl : os.length = vs.length) (s : StV K g Z H δ σ ((os.map some).reverse ++ S) ((vs.map some).reverse ++ T)) : ∃ Z', StV K g Z' H δ σ S T ∧ RepL K Z' H (os.map O.fz) vs := by
  obtain ⟨Fs, Ft, h1, h2, w⟩ := s
  obtain ⟨F1, F2, f, a1, a2⟩ := RepS.append (by simp [hl]) h2
  obtain ⟨F', b1, b2⟩ := a1.reverse
  rw [List.reverse_reverse, List.reverse_reverse] at b1
  have q := RepS.frz b1
  have p : (Fs ++ Ft).Perm (F' ++ (Fs ++ F2)) := by
    rw [f, ← List.append_assoc, ← List.append_assoc]
    exact List.Perm.append_right _ ((List.perm_append_comm).trans (List.Perm.append_right _ b2.symm))
  exact ⟨ZF Z F', ⟨Fs, F2, RepS.keep (Keep.zf Z H F') (fun _ _ _ h => h) h1, RepS.keep (Keep.zf Z H F') (fun _ _ _ h => h) a2, w.frz p b1.dom⟩, q⟩
/-- a temporary goes to a slot -/
theorem StV.asg {i : Nat} {x : Option O} (s : StV K g Z H δ σ (x :: S) (some v :: T)) : StV K g Z H (δ.set i x) (σ.set i (some v)) S T := by
  obtain ⟨Fs, Ft, h1, ⟨y', r, F1, F2, e, f, h3, h4⟩, w⟩ := s
  cases e
  cases hi : δ[i]? with
  | none =>
    have hl : δ.length ≤ i := List.getElem?_eq_none_iff.mp hi
    rw [List.set_eq_of_length_le hl, List.set_eq_of_length_le (by rw [← h1.length]; exact hl)]
    exact ⟨Fs, F2, h1, h4, w.sub (by rw [f]; exact List.Sublist.append (List.Sublist.refl _) (List.sublist_append_right _ _))⟩
  | some x0 =>
    obtain ⟨y, Fi, Fr, e, p, q, put⟩ := h1.at hi
    obtain ⟨F', s1, s2⟩ := put Z H x (some v) F1 (Keep.refl Z H) (fun _ _ _ h => h) h3
    refine ⟨F', F2, s1, h4, ?_⟩
    have p2 : (Fs ++ Ft).Perm (Fi ++ (F' ++ F2)) := by
      rw [f]
      refine (List.Perm.append_right _ p).trans ?_
      rw [List.append_assoc]
      refine List.Perm.append_left _ ?_
      rw [← List.append_assoc]
      refine List.Perm.append_right _ ?_
      exact (List.perm_append_comm).trans s2.symm
    exact (w.perm p2).sub (List.sublist_append_right _ _)
/-- a place is forgotten -/
theorem StV.forget {i : Nat} (s : StV K g Z H δ σ S T) (y : Option V) : StV K g Z H (δ.set i none) (σ.set i y) S T := by
  obtain ⟨Fs, Ft, h1, h2, w⟩ := s
  cases hi : δ[i]? with
  | none =>
    have hl : δ.length ≤ i := List.getElem?_eq_none_iff.mp hi
    rw [List.set_eq_of_length_le hl, List.set_eq_of_length_le (by rw [← h1.length]; exact hl)]
    exact ⟨Fs, Ft, h1, h2, w⟩
  | some x0 =>
    obtain ⟨y0, Fi, Fr, e, p, q, put⟩ := h1.at hi
    obtain ⟨F', s1, s2⟩ := put Z H none y [] (Keep.refl Z H) (fun _ _ _ h => h) rfl
    refine ⟨F', Ft, s1, h2, ?_⟩
    have p2 : (Fs ++ Ft).Perm (Fi ++ (F' ++ Ft)) := by
      refine (List.Perm.append_right _ p).trans ?_
      rw [List.append_assoc]
      exact List.Perm.append_left _ (List.Perm.append_right _ s2.symm)
    exact (w.perm p2).sub (List.sublist_append_right _ _)
/-- the object at a slot is changed where it stands -/
theorem StV.mut {i : Nat} {o' : O} (s : StV K g Z H δ σ S T) (h : δ[i]? = some (some o)) (hv : σ[i]? = some (some v))
    (m : ∀ F, RepO K Z H o v F → F.Nodup → (∀ a ∈ F, ¬ Z a) → (∀ b, b ∉ F → H' b = H b) ∧ (∀ b, (∃ u, H b = some u) → ∃ u, H' b = some u) ∧ (∀ b xs, H b = some (.tup xs) → H' b = some (.tup xs)) ∧ (Keep Z Z H H' → RepO K Z H' o' v F)) :
    StV K g Z H' (δ.set i (some o')) σ S T ∧ Keep Z Z H H' := by
  obtain ⟨Fs, Ft, h1, h2, w⟩ := s
  obtain ⟨y, Fi, Fr, e, p, q, put⟩ := h1.at h
  rw [hv] at e
  cases e
  have q1 : RepO K Z H o v Fi := q
  have p2 : (Fs ++ Ft).Perm (Fi ++ (Fr ++ Ft)) := by
    rw [← List.append_assoc]
    exact List.Perm.append_right _ p
  have w2 := w.perm p2
  have nd := List.nodup_append.mp w2.nd
  obtain ⟨m1, m2, m3, m4⟩ := m Fi q1 nd.1 fun a ha => (w2.own a (List.mem_append_left _ ha)).1
  have kp : Keep Z Z H H' := Keep.of (fun _ z => z) (fun a u z e => by
    rw [m1 a fun hf => (w2.own a (List.mem_append_left _ hf)).1 z]
    exact e) m3
  have other : ∀ a ∈ Fr ++ Ft, ∀ u, H a = some u → H' a = some u := fun a ha u e => by
    rw [m1 a fun hf => nd.2.2 a hf a ha rfl]
    exact e
  obtain ⟨F', s1, s2⟩ := put Z H' (some o') (some v) Fi kp (fun a ha => other a (List.mem_append_left _ ha)) (m4 kp)
  have es : σ.set i (some v) = σ := by
    refine List.ext_getElem? fun j => ?_
    by_cases hj : i = j
    · subst hj
      rw [hv]
      have hl : i < σ.length := (List.getElem?_eq_some_iff.mp hv).1
      rw [List.getElem?_set_self hl]
    · rw [List.getElem?_set_ne hj]
  rw [es] at s1
  refine ⟨⟨F', Ft, s1, RepS.keep kp (fun a ha => other a (List.mem_append_right _ ha)) h2, ?_⟩, kp⟩
  have w3 : Wd g Z H (F' ++ Ft) := w2.perm (by
    rw [← List.append_assoc]
    exact List.Perm.append_right _ s2.symm)
  exact ⟨w3.nd, w3.own, w3.z0, fun a z => ⟨m2 a (w3.zh a z).1, (w3.zh a z).2⟩, fun a u e => by
    rw [m1 a fun hf => by
      have := (w2.own a (List.mem_append_left _ hf)).2
      rw [this] at e
      cases e]
    exact w3.gh a u e⟩
end
end VS

namespace VS
open PySem PySem.Spec L2
/-! ### what an expression gives -/
inductive Ev where
  | val (o : O) | at (i : Nat)
def Ev.tmp : Ev → Option O
  | .val o => some o
  | .at _ => none
def Al (σ : L2.St) : Ev → V → Prop
  | .val _, _ => True
  | .at i, v => σ[i]? = some (some v)
def look (δ : DS) : Ev → Option O
  | .val o => some o
  | .at i => (δ[i]?).join
def rdv (δ : DS) (e : Ev) : Option D := (look δ e).map O.fz
def tk (δ : DS) : Ev → Option (O × DS)
  | .val o => some (o, δ)
  | .at i => match (δ[i]?).join with
    | some o => some (.sh o.fz, δ.set i (some (.sh o.fz)))
    | none => none
abbrev XF := DS → Option (Ev × DS)
section
variable (K : PySem.W.Frag)
def PostE (g : Gx) (σ : L2.St) (S : DS) (T : L2.St) (Q : VK) (r : Ev × DS) : Prop := ∀ v Z H, StV K g Z H r.2 σ (r.1.tmp :: S) (some v :: T) → Al σ r.1 v → Q v H
def rdE (f : XF) : TE := fun σ H Q => ∃ g Z δ S T r, StV K g Z H δ σ S T ∧ f δ = some r ∧ PostE K g σ S T Q r
def rdT (f : DS → Option (Bool × DS)) : TT := fun σ H Q => ∃ g Z δ S T r, StV K g Z H δ σ S T ∧ f δ = some r ∧ ∀ Z' H', StV K g Z' H' r.2 σ S T → Q r.1 H'
def tmps (es : List Ev) : DS := (es.map Ev.tmp).reverse
def vtmps (vs : List V) : L2.St := (vs.map some).reverse
def Als (σ : L2.St) : List Ev → List V → Prop
  | [], vs => vs = []
  | e :: es, vs => ∃ v r, vs = v :: r ∧ Al σ e v ∧ Als σ es r
/-- arguments, evaluated; nothing is taken -/
def rdA (f : DS → Option (List Ev × DS)) : TA := fun σ H Q => ∃ g Z δ S T r, StV K g Z H δ σ S T ∧ f δ = some r ∧
  ∀ vs Z' H', StV K g Z' H' r.2 σ (tmps r.1 ++ S) (vtmps vs ++ T) → Als σ r.1 vs → Q vs H'
end
section
variable {X : Cx} {e a b : Expr} {t t' : TE}
theorem PEi (h : PE X e t) (k : ∀ σ H Q, t' σ H Q → t σ H Q) : PE X e t' := ⟨fun pins s σ H Q I q => h.run pins s σ H Q I (k σ H Q q)⟩
theorem PTi {t t' : TT} (h : PT X e t) (k : ∀ σ H Q, t' σ H Q → t σ H Q) : PT X e t' := ⟨fun pins s σ H Q I q => h.run pins s σ H Q I (k σ H Q q)⟩
theorem PWi {t t' : TT} (h : PW X e t) (k : ∀ σ H Q, t' σ H Q → t σ H Q) : PW X e t' := ⟨fun w pins s σ H Q I q => h.run w pins s σ H Q I (k σ H Q q)⟩
theorem PAi {es : List Expr} {t t' : TA} (h : PA X es t) (k : ∀ σ H Q, t' σ H Q → t σ H Q) : PA X es t' := ⟨fun p pins s σ H Q I q => h.run p pins s σ H Q I (k σ H Q q)⟩
end
/-- the root may be one's own, what hangs at it is shared -/
def Lk (K : PySem.W.Frag) (Z : Addr → Prop) (H : Hp) : D → V → Prop
  | .lst ds, v => ∃ a vs, v = .ref a ∧ H a = some (.lst vs) ∧ RepL K Z H ds vs
  | .dK ds, v => ∃ a vs, v = .ref a ∧ L2.Rd H a (.dK vs) ∧ RepK K Z H ds vs
  | .dT ds, v => ∃ a vs, v = .ref a ∧ L2.Rd H a (.dT vs) ∧ RepT K Z H ds vs
  | .obj c fs, v => ∃ a dx vs, v = .ref a ∧ H a = some (.ins (He.ga K c) dx vs)
  | d, v => RepD K Z H d v
section
variable {K : PySem.W.Frag} {g : Gx} {Z Z' : Addr → Prop} {H H' : Hp} {δ S : DS} {σ T : L2.St} {o : O} {v : V}
theorem RepD.lk : ∀ {d : D}, RepD K Z H d v → Lk K Z H d v
  | .lst ds, h => by
    simp only [RepD] at h
    obtain ⟨a, vs, e, z, h1, h2⟩ := h
    exact ⟨a, vs, e, h1, h2⟩
  | .dK ds, h => by
    simp only [RepD] at h
    obtain ⟨a, vs, e, z, h1, h2⟩ := h
    exact ⟨a, vs, e, h1, h2⟩
  | .dT ds, h => by
    simp only [RepD] at h
    obtain ⟨a, vs, e, z, h1, h2⟩ := h
    exact ⟨a, vs, e, h1, h2⟩
  | .obj c fs, h => by
    simp only [RepD] at h
    obtain ⟨a, dx, vs, e, z, h1, h2⟩ := h
    exact ⟨a, dx, vs, e, h1⟩
  | .non, h => h
  | .bl _, h => h
  | .int _, h => h
  | .str _, h => h
  | .tup _, h => h
  | .scr _, h => h
theorem RepO.lk : ∀ {o : O} {F : List Addr}, RepO K Z H o v F → Lk K Z H o.fz v
  | .sh d, F, h => by
    simp only [RepO] at h
    exact h.2.lk
  | .lst ds, F, h => by
    simp only [RepO] at h
    obtain ⟨a, vs, e, f, h1, h2⟩ := h
    exact ⟨a, vs, e, h1, h2⟩
  | .dK ds, F, h => by
    simp only [RepO] at h
    obtain ⟨a, vs, e, f, h1, h2⟩ := h
    exact ⟨a, vs, e, .inl h1, h2⟩
  | .dT ds, F, h => by
    simp only [RepO] at h
    obtain ⟨a, vs, e, f, h1, h2⟩ := h
    exact ⟨a, vs, e, .inl h1, h2⟩
  | .obj c fs, F, h => by
    simp only [RepO] at h
    obtain ⟨a, dx, vs, G, e, f, h1, h2⟩ := h
    exact ⟨a, dx, vs, e, h1⟩
/-- the value on top, looked at -/
theorem StV.look {e : Ev} {o : O} (s : StV K g Z H δ σ (e.tmp :: S) (some v :: T)) (al : Al σ e v) (h : look δ e = some o) : ∃ F, RepO K Z H o v F := by
  cases e with
  | val o' =>
    have e1 : o' = o := Option.some.inj h
    subst e1
    exact s.top
  | «at» i =>
    have h' : (δ[i]?).join = some o := h
    have hi : δ[i]? = some (some o) := by
      cases q : δ[i]? with
      | none => rw [q] at h'; cases h'
      | some x =>
        rw [q] at h'
        have : x = some o := h'
        rw [this]
    obtain ⟨v', F, e1, r⟩ := s.slot hi
    have al' : σ[i]? = some (some v) := al
    rw [al'] at e1
    cases e1
    exact ⟨F, r⟩
theorem StV.lk {e : Ev} {d : D} (s : StV K g Z H δ σ (e.tmp :: S) (some v :: T)) (al : Al σ e v) (h : rdv δ e = some d) : Lk K Z H d v := by
  unfold rdv at h
  cases q : VS.look δ e with
  | none => rw [q] at h; cases h
  | some o =>
    rw [q] at h
    have e1 : o.fz = d := Option.some.inj h
    rw [← e1]
    obtain ⟨F, r⟩ := s.look al q
    exact r.lk
/-- the value on top is taken -/
theorem StV.tk {e : Ev} {o : O} {δ' : DS} (s : StV K g Z H δ σ (e.tmp :: S) (some v :: T)) (al : Al σ e v) (h : tk δ e = some (o, δ')) : ∃ Z', StV K g Z' H δ' σ (some o :: S) (some v :: T) ∧ Keep Z Z' H H := by
  cases e with
  | val o' =>
    have e1 : (o', δ) = (o, δ') := Option.some.inj h
    cases e1
    exact ⟨Z, s, Keep.refl Z H⟩
  | «at» i =>
    unfold VS.tk at h
    cases q : δ[i]? with
    | none => simp [q] at h
    | some x =>
      cases x with
      | none => simp [q] at h
      | some o1 =>
        simp only [q, Option.join_some, Option.some.injEq, Prod.mk.injEq] at h
        obtain ⟨h1, h2⟩ := h
        obtain ⟨v', Z', e1, s', k⟩ := s.pop.frzS q
        have al' : σ[i]? = some (some v) := al
        rw [al'] at e1
        cases e1
        rw [← h1, ← h2]
        exact ⟨Z', s', k⟩
/-- .. as data -/
theorem StV.tkD {e : Ev} {o : O} {δ' : DS} (s : StV K g Z H δ σ (e.tmp :: S) (some v :: T)) (al : Al σ e v) (h : VS.tk δ e = some (o, δ')) : ∃ Z', StV K g Z' H δ' σ (some (.sh o.fz) :: S) (some v :: T) ∧ RepD K Z' H o.fz v := by
  obtain ⟨Z1, s1, _⟩ := s.tk al h
  exact s1.frzT
theorem StV.drop2 {x y : Option O} {p q : Option V} (s : StV K g Z H δ σ (x :: y :: S) (p :: q :: T)) : StV K g Z H δ σ S T := s.pop.pop
end
/-! ### operations by values -/
def O1 (K : PySem.W.Frag) (f2 : D → D → Option O) : R2 := fun x y H Q => ∃ Z d1 d2 o, Lk K Z H d1 x ∧ Lk K Z H d2 y ∧ f2 d1 d2 = some o ∧ ∀ v H', Res K Z H o v H' → Q v H'
/-- an operation keeps to f2 -/
def OpV (X : Cx) (f : Value → Value → Sem Value) (f2 : D → D → Option O) : Prop := OpR X f (O1 X.K f2)
def UnV (X : Cx) (f : Value → Sem Value) (f1 : D → Option O) : Prop := UnR X f (fun x H Q => ∃ Z d o, Lk X.K Z H d x ∧ f1 d = some o ∧ ∀ v H', Res X.K Z H o v H' → Q v H')
theorem Res.sc {K : PySem.W.Frag} {Z : Addr → Prop} {H : Hp} {d : D} {v : V} (h : RepD K Z H d v) : Res K Z H (.sh d) v H := ⟨[], Same.refl H, by simp only [RepO]; exact ⟨trivial, h⟩, List.nodup_nil, fun a ha => absurd ha (by simp)⟩
theorem Res.int {K : PySem.W.Frag} {Z : Addr → Prop} {H : Hp} {i : Int} : Res K Z H (.sh (.int i)) (.int i) H := Res.sc (by simp only [RepD])
theorem Res.bl {K : PySem.W.Frag} {Z : Addr → Prop} {H : Hp} {i : Bool} : Res K Z H (.sh (.bl i)) (.bl i) H := Res.sc (by simp only [RepD])
theorem Res.str {K : PySem.W.Frag} {Z : Addr → Prop} {H : Hp} {i : Str} : Res K Z H (.sh (.str i)) (.str i) H := Res.sc (by simp only [RepD])
theorem Res.non {K : PySem.W.Frag} {Z : Addr → Prop} {H : Hp} : Res K Z H (.sh .non) .non H := Res.sc (by simp only [RepD])
theorem Same.upd {H : Hp} {p : Addr} {o : HO} (h : H p = none) : Same H (L2.upd H p o) := fun a u e => by rw [upd_ne (ne_of_none e h)]; exact e
theorem Res.lst {K : PySem.W.Frag} {Z : Addr → Prop} {H : Hp} {p : Addr} {ds : List D} {vs : List V} (h : H p = none) (r : RepL K Z H ds vs) : Res K Z H (.lst ds) (.ref p) (L2.upd H p (.lst vs)) := by
  have s := Same.upd (o := .lst vs) h
  refine ⟨[p], s, ?_, by simp, fun a ha => ?_⟩
  · simp only [RepO]
    exact ⟨p, vs, rfl, rfl, upd_same, RepL.keep (Same.keep s) ds vs r⟩
  · have e : a = p := by simpa using ha
    rw [e]; exact h
theorem Res.tup {K : PySem.W.Frag} {Z : Addr → Prop} {H : Hp} {p : Addr} {ds : List D} {vs : List V} (h : H p = none) (r : RepL K Z H ds vs) : Res K Z H (.sh (.tup ds)) (.ref p) (L2.upd H p (.tup vs)) := by
  have s := Same.upd (o := .tup vs) h
  refine ⟨[], s, ?_, by simp, fun a ha => absurd ha (by simp)⟩
  simp only [RepO, RepD]
  exact ⟨trivial, p, vs, rfl, upd_same, RepL.keep (Same.keep s) ds vs r⟩
theorem Res.dK {K : PySem.W.Frag} {Z : Addr → Prop} {H : Hp} {p : Addr} {ds : List (Key × D)} {vs : List (Key × V)} (h : H p = none) (r : RepK K Z H ds vs) : Res K Z H (.dK ds) (.ref p) (L2.upd H p (.dK vs)) := by
  have s := Same.upd (o := .dK vs) h
  refine ⟨[p], s, ?_, by simp, fun a ha => ?_⟩
  · simp only [RepO]
    exact ⟨p, vs, rfl, rfl, upd_same, RepK.keep (Same.keep s) ds vs r⟩
  · have e : a = p := by simpa using ha
    rw [e]; exact h
section
variable {K : PySem.W.Frag} {Z : Addr → Prop} {H : Hp} {v : V}
theorem Lk.int {i : Int} (h : Lk K Z H (.int i) v) : v = .int i := by simpa only [Lk, RepD] using h
theorem Lk.bl {i : Bool} (h : Lk K Z H (.bl i) v) : v = .bl i := by simpa only [Lk, RepD] using h
theorem Lk.str {i : Str} (h : Lk K Z H (.str i) v) : v = .str i := by simpa only [Lk, RepD] using h
theorem Lk.non (h : Lk K Z H .non v) : v = .non := by simpa only [Lk, RepD] using h
theorem Lk.tup {ds : List D} (h : Lk K Z H (.tup ds) v) : ∃ a vs, v = .ref a ∧ H a = some (.tup vs) ∧ RepL K Z H ds vs := by simpa only [Lk, RepD] using h
theorem Lk.lst {ds : List D} (h : Lk K Z H (.lst ds) v) : ∃ a vs, v = .ref a ∧ H a = some (.lst vs) ∧ RepL K Z H ds vs := h
theorem RepL.length : ∀ {ds : List D} {vs : List V}, RepL K Z H ds vs → ds.length = vs.length
  | [], vs, h => by
    simp only [RepL] at h
    rw [h]
    all_goals rfl
  | d :: ds, vs, h => by
    simp only [RepL] at h
    obtain ⟨v, r, e, _, h2⟩ := h
    rw [e, List.length_cons, List.length_cons, RepL.length h2]
theorem RepL.append : ∀ {ds es : List D} {vs ws : List V}, RepL K Z H ds vs → RepL K Z H es ws → RepL K Z H (ds ++ es) (vs ++ ws)
  | [], es, vs, ws, h, q => by
    simp only [RepL] at h
    subst h
    exact q
  | d :: ds, es, vs, ws, h, q => by
    simp only [RepL] at h
    obtain ⟨v, r, e, h1, h2⟩ := h
    subst e
    simp only [List.cons_append, RepL]
    exact ⟨v, r ++ ws, rfl, h1, RepL.append h2 q⟩
theorem RepL.get : ∀ {ds : List D} {vs : List V} {i : Nat} {d : D}, RepL K Z H ds vs → ds[i]? = some d → ∃ v, vs[i]? = some v ∧ RepD K Z H d v
  | [], vs, i, d, h, e => by simp at e
  | d0 :: ds, vs, 0, d, h, e => by
    simp only [RepL] at h
    obtain ⟨v, r, e1, h1, h2⟩ := h
    have : d0 = d := by simpa using e
    subst this e1
    exact ⟨v, rfl, h1⟩
  | d0 :: ds, vs, i + 1, d, h, e => by
    simp only [RepL] at h
    obtain ⟨v, r, e1, h1, h2⟩ := h
    subst e1
    obtain ⟨w, q1, q2⟩ := RepL.get (i := i) (d := d) h2 (by simpa using e)
    exact ⟨w, by simpa using q1, q2⟩
theorem RepL.nil_iff {ds : List D} {vs : List V} (h : RepL K Z H ds vs) : vs = [] ↔ ds = [] := by
  have e := h.length
  constructor
  · intro z; rw [z] at e; exact List.eq_nil_of_length_eq_zero e
  · intro z; rw [z] at e; exact List.eq_nil_of_length_eq_zero e.symm
theorem RepL.take {n : Nat} : ∀ {ds : List D} {vs : List V}, RepL K Z H ds vs → RepL K Z H (ds.take n) (vs.take n) := by
  induction n with
  | zero => intro ds vs h; simp only [List.take_zero, RepL]
  | succ n ih =>
    intro ds vs h
    cases ds with
    | nil =>
      simp only [RepL] at h
      subst h
      simp only [List.take_nil, RepL]
    | cons d ds =>
      simp only [RepL] at h
      obtain ⟨v, r, e, h1, h2⟩ := h
      subst e
      simp only [List.take_succ_cons, RepL]
      exact ⟨v, r.take n, rfl, h1, ih h2⟩
theorem RepL.drop {n : Nat} : ∀ {ds : List D} {vs : List V}, RepL K Z H ds vs → RepL K Z H (ds.drop n) (vs.drop n) := by
  induction n with
  | zero => intro ds vs h; simpa using h
  | succ n ih =>
    intro ds vs h
    cases ds with
    | nil =>
      simp only [RepL] at h
      subst h
      simp only [List.drop_nil, RepL]
    | cons d ds =>
      simp only [RepL] at h
      obtain ⟨v, r, e, h1, h2⟩ := h
      subst e
      simpa using ih h2
theorem RepL.reverse : ∀ {ds : List D} {vs : List V}, RepL K Z H ds vs → RepL K Z H ds.reverse vs.reverse
  | [], vs, h => by
    simp only [RepL] at h
    subst h
    simp only [List.reverse_nil, RepL]
  | d :: ds, vs, h => by
    simp only [RepL] at h
    obtain ⟨v, r, e, h1, h2⟩ := h
    subst e
    rw [List.reverse_cons, List.reverse_cons]
    refine RepL.append (RepL.reverse h2) ?_
    simp only [RepL]
    exact ⟨v, [], rfl, h1, rfl⟩
end
end VS

namespace VS
open PySem PySem.Spec L2
/-! ### binary operators -/
def mulOk (i j : Int) : Bool := (decide (-(2 ^ 64) < i) && decide (i < 2 ^ 64)) || (decide (-(2 ^ 64) < j) && decide (j < 2 ^ 64)) || decide (i.natAbs.log2 + j.natAbs.log2 < 1000000)
def divOk (j : Int) : Bool := decide (0 < j) && decide (j.natAbs.log2 < 9000)
def opAdd : D → D → Option O
  | .int i, .int j => some (.sh (.int (i + j)))
  | .str i, .str j => if i.length + j.length ≤ sizeLine then some (.sh (.str (i ++ j))) else none
  | .tup a, .tup b => if a.length + b.length ≤ sizeLine then some (.sh (.tup (a ++ b))) else none
  | .lst a, .lst b => if a.length + b.length ≤ sizeLine then some (.lst (a ++ b)) else none
  | _, _ => none
def opSub : D → D → Option O
  | .int i, .int j => some (.sh (.int (i - j)))
  | _, _ => none
def opMul : D → D → Option O
  | .int i, .int j => if mulOk i j then some (.sh (.int (i * j))) else none
  | .lst a, .int k => if decide (-(2 ^ 63) ≤ k) && decide (k < 2 ^ 63) && decide (a.length * k.toNat ≤ sizeLine) then some (.lst (List.replicate k.toNat a).flatten) else none
  | _, _ => none
def opDiv : D → D → Option O
  | .int i, .int j => if divOk j then some (.sh (.int (i / j))) else none
  | _, _ => none
def opMod : D → D → Option O
  | .int i, .int j => if 0 < j then some (.sh (.int (i % j))) else none
  | _, _ => none
def opPow : D → D → Option O
  | .int i, .int j => if decide (0 ≤ j) && decide (j ≤ 1000000) && decide (i.natAbs < 2 ^ 64) then some (.sh (.int (i ^ j.toNat))) else none
  | _, _ => none
section
variable {X : Cx}
theorem ov_add : OpV X (binaryOp .Add) opAdd := by
  intro pins s σ H x y v u Q I rx ry ⟨Z, d1, d2, o, l1, l2, h, q⟩
  cases d1 <;> cases d2 <;> simp only [opAdd, reduceCtorEq] at h
  · rename_i i j
    cases l1.int; cases l2.int; cases h
    exact op_add pins s σ H _ _ v u Q I rx ry ⟨i, j, rfl, rfl, q _ _ Res.int⟩
  · rename_i i j
    split at h
    · cases l1.str; cases l2.str; cases h
      exact op_add_str pins s σ H _ _ v u Q I rx ry ⟨i, j, rfl, rfl, by assumption, q _ _ Res.str⟩
    · cases h
  · rename_i as bs
    split at h
    · rename_i hz
      obtain ⟨a, vs, rfl, ha, ra⟩ := l1.tup
      obtain ⟨b, ws, rfl, hb, rb⟩ := l2.tup
      cases h
      refine op_catA pins s σ H _ _ v u Q I rx ry ⟨a, b, vs, ws, rfl, rfl, SqT.of ha, SqT.of hb, by rw [← ra.length, ← rb.length]; exact hz, fun e => ?_, fun e1 e2 => ?_, fun e1 e2 p hp => ?_⟩
      · have := ra.nil_iff.mp e
        subst this
        refine q _ _ (Res.sc ?_)
        simp only [List.nil_append, RepD]
        exact ⟨b, ws, rfl, hb, rb⟩
      · have := rb.nil_iff.mp e2
        subst this
        refine q _ _ (Res.sc ?_)
        simp only [List.append_nil, RepD]
        exact ⟨a, vs, rfl, ha, ra⟩
      · exact q _ _ (Res.tup hp (ra.append rb))
    · cases h
  · rename_i as bs
    split at h
    · rename_i hz
      obtain ⟨a, vs, rfl, ha, ra⟩ := l1.lst
      obtain ⟨b, ws, rfl, hb, rb⟩ := l2.lst
      cases h
      exact op_cat pins s σ H _ _ v u Q I rx ry ⟨a, b, vs, ws, rfl, rfl, ha, hb, by rw [← ra.length, ← rb.length]; exact hz, fun p hp => q _ _ (Res.lst hp (ra.append rb))⟩
    · cases h
theorem ov_sub : OpV X (binaryOp .Sub) opSub := by
  intro pins s σ H x y v u Q I rx ry ⟨Z, d1, d2, o, l1, l2, h, q⟩
  cases d1 <;> cases d2 <;> simp only [opSub, reduceCtorEq] at h
  rename_i i j
  cases l1.int; cases l2.int; cases h
  exact op_sub pins s σ H _ _ v u Q I rx ry ⟨i, j, rfl, rfl, q _ _ Res.int⟩
theorem RepL.rep {K : PySem.W.Frag} {Z : Addr → Prop} {H : Hp} {ds : List D} {vs : List V} (h : RepL K Z H ds vs) : ∀ k : Nat, RepL K Z H (List.replicate k ds).flatten (List.replicate k vs).flatten
  | 0 => by simp only [List.replicate_zero, List.flatten_nil, RepL]
  | k + 1 => by
    rw [List.replicate_succ, List.replicate_succ, List.flatten_cons, List.flatten_cons]
    exact h.append (RepL.rep h k)
theorem ov_mul : OpV X (binaryOp .Mult) opMul := by
  intro pins s σ H x y v u Q I rx ry ⟨Z, d1, d2, o, l1, l2, h, q⟩
  cases d1 <;> cases d2 <;> simp only [opMul, reduceCtorEq] at h
  · rename_i i j
    split at h
    · rename_i hm
      cases l1.int; cases l2.int; cases h
      unfold mulOk at hm
      simp only [Bool.or_eq_true, Bool.and_eq_true, decide_eq_true_eq] at hm
      rcases hm with (hm | hm) | hm
      · exact op_mul pins s σ H _ _ v u Q I rx ry ⟨i, j, rfl, rfl, .inl hm, q _ _ Res.int⟩
      · exact op_mul pins s σ H _ _ v u Q I rx ry ⟨i, j, rfl, rfl, .inr hm, q _ _ Res.int⟩
      · exact op_mulW pins s σ H _ _ v u Q I rx ry ⟨i, j, rfl, rfl, hm, q _ _ Res.int⟩
    · cases h
  · rename_i as k
    split at h
    · rename_i hm
      simp only [Bool.and_eq_true, decide_eq_true_eq] at hm
      obtain ⟨⟨m1, m2⟩, m3⟩ := hm
      obtain ⟨a, vs, rfl, ha, ra⟩ := l1.lst
      cases l2.int; cases h
      exact op_rep pins s σ H _ _ v u Q I rx ry ⟨a, k, vs, rfl, rfl, ha, m1, m2, by rw [← ra.length]; exact m3, fun p hp => q _ _ (Res.lst hp (ra.rep _))⟩
    · cases h
theorem ov_div : OpV X (binaryOp .FloorDiv) opDiv := by
  intro pins s σ H x y v u Q I rx ry ⟨Z, d1, d2, o, l1, l2, h, q⟩
  cases d1 <;> cases d2 <;> simp only [opDiv, reduceCtorEq] at h
  rename_i i j
  split at h
  · rename_i hm
    cases l1.int; cases l2.int; cases h
    unfold divOk at hm
    simp only [Bool.and_eq_true, decide_eq_true_eq] at hm
    exact op_fdivW pins s σ H _ _ v u Q I rx ry ⟨i, j, rfl, rfl, hm, q _ _ Res.int⟩
  · cases h
theorem ov_mod : OpV X (binaryOp .Mod) opMod := by
  intro pins s σ H x y v u Q I rx ry ⟨Z, d1, d2, o, l1, l2, h, q⟩
  cases d1 <;> cases d2 <;> simp only [opMod, reduceCtorEq] at h
  rename_i i j
  split at h
  · rename_i hm
    cases l1.int; cases l2.int; cases h
    exact op_mod pins s σ H _ _ v u Q I rx ry ⟨i, j, rfl, rfl, hm, q _ _ Res.int⟩
  · cases h
theorem ov_pow : OpV X (binaryOp .Pow) opPow := by
  intro pins s σ H x y v u Q I rx ry ⟨Z, d1, d2, o, l1, l2, h, q⟩
  cases d1 <;> cases d2 <;> simp only [opPow, reduceCtorEq] at h
  rename_i i j
  split at h
  · rename_i hm
    cases l1.int; cases l2.int; cases h
    simp only [Bool.and_eq_true, decide_eq_true_eq] at hm
    exact op_pow pins s σ H _ _ v u Q I rx ry ⟨i, j, rfl, rfl, ⟨hm.1.1, hm.1.2, hm.2⟩, q _ _ Res.int⟩
  · cases h
end
/-! ### comparisons -/
def cmpI (p : Int → Int → Bool) : D → D → Option O
  | .int i, .int j => some (.sh (.bl (p i j)))
  | _, _ => none
def opLt := cmpI fun i j => decide (i < j)
def opLe : D → D → Option O
  | .int i, .int j => some (.sh (.bl (decide (i ≤ j))))
  | .str i, .str j => some (.sh (.bl (!decide (j.cps.toList < i.cps.toList))))
  | _, _ => none
def opGt := cmpI fun i j => decide (j < i)
def opGe := cmpI fun i j => decide (j ≤ i)
def D.isNon : D → Bool
  | .non => true
  | _ => false
def opIsN : D → D → Option O
  | a, .non => some (.sh (.bl a.isNon))
  | _, _ => none
def opIsnN : D → D → Option O
  | a, .non => some (.sh (.bl (!a.isNon)))
  | _, _ => none
section
variable {X : Cx}
theorem ov_cmpI {op : CmpOp} {p : Int → Int → Bool} (h : OpR X (compareOp op) (rI0 fun i j => .bl (p i j))) : OpV X (compareOp op) (cmpI p) := by
  intro pins s σ H x y v u Q I rx ry ⟨Z, d1, d2, o, l1, l2, h', q⟩
  cases d1 <;> cases d2 <;> simp only [cmpI, reduceCtorEq] at h'
  rename_i i j
  cases l1.int; cases l2.int; cases h'
  exact h pins s σ H _ _ v u Q I rx ry ⟨i, j, rfl, rfl, q _ _ Res.bl⟩
theorem ov_lt : OpV X (compareOp .Lt) opLt := ov_cmpI op_lt
theorem ov_gt : OpV X (compareOp .Gt) opGt := ov_cmpI op_gt
theorem ov_ge : OpV X (compareOp .GtE) opGe := ov_cmpI op_ge
theorem ov_le : OpV X (compareOp .LtE) opLe := by
  intro pins s σ H x y v u Q I rx ry ⟨Z, d1, d2, o, l1, l2, h', q⟩
  cases d1 <;> cases d2 <;> simp only [opLe, reduceCtorEq] at h'
  · rename_i i j
    cases l1.int; cases l2.int; cases h'
    exact op_le pins s σ H _ _ v u Q I rx ry ⟨i, j, rfl, rfl, q _ _ Res.bl⟩
  · rename_i i j
    cases l1.str; cases l2.str; cases h'
    exact op_le_str pins s σ H _ _ v u Q I rx ry ⟨i, j, rfl, rfl, q _ _ Res.bl⟩
theorem Lk.isNon {K : PySem.W.Frag} {Z : Addr → Prop} {H : Hp} {d : D} {v : V} (h : Lk K Z H d v) : decide (v = .non) = d.isNon := by
  cases d with
  | non => cases h.non; rfl
  | bl b => cases h.bl; rfl
  | int b => cases h.int; rfl
  | str b => cases h.str; rfl
  | tup ds => obtain ⟨a, vs, rfl, _⟩ := h.tup; rfl
  | lst ds => obtain ⟨a, vs, rfl, _⟩ := h.lst; rfl
  | dK ds => obtain ⟨a, vs, rfl, _⟩ := h; rfl
  | dT ds => obtain ⟨a, vs, rfl, _⟩ := h; rfl
  | obj c fs => obtain ⟨a, dx, vs, rfl, _⟩ := h; rfl
  | scr ns =>
    simp only [Lk, RepD] at h
    obtain ⟨a, rfl, _⟩ := h
    rfl
theorem ov_isN : OpV X (compareOp .Is) opIsN := by
  intro pins s σ H x y v u Q I rx ry ⟨Z, d1, d2, o, l1, l2, h', q⟩
  have e2 : d2 = .non := by cases d2 <;> simp only [opIsN, reduceCtorEq] at h' <;> rfl
  subst e2
  cases l2.non
  simp only [opIsN] at h'
  cases h'
  refine op_isN pins s σ H _ _ v u Q I rx ry ⟨rfl, ?_⟩
  rw [l1.isNon]
  exact q _ _ Res.bl
theorem ov_isnN : OpV X (compareOp .IsNot) opIsnN := by
  intro pins s σ H x y v u Q I rx ry ⟨Z, d1, d2, o, l1, l2, h', q⟩
  have e2 : d2 = .non := by cases d2 <;> simp only [opIsnN, reduceCtorEq] at h' <;> rfl
  subst e2
  cases l2.non
  simp only [opIsnN] at h'
  cases h'
  refine op_notN pins s σ H _ _ v u Q I rx ry ⟨rfl, ?_⟩
  rw [l1.isNon]
  exact q _ _ Res.bl
end
/-! ### == of data -/
mutual
def D.eqD : D → D → Bool
  | .non, .non => true
  | .bl a, .bl b => a == b
  | .bl a, .int j => (if a then 1 else 0) == j
  | .int i, .bl b => i == (if b then 1 else 0)
  | .int i, .int j => i == j
  | .str x, .str y => x == y
  | .lst xs, .lst ys => D.eqL xs ys
  | .tup xs, .tup ys => D.eqL xs ys
  | _, _ => false
def D.eqL : List D → List D → Bool
  | [], [] => true
  | x :: xs, y :: ys => D.eqD x y && D.eqL xs ys
  | _, _ => false
end
mutual
/-- plain data of at most so many levels -/
def D.okE : Nat → D → Bool
  | _, .non => true
  | _, .bl _ => true
  | _, .int _ => true
  | _, .str x => PyData.strOk x
  | n + 1, .lst xs => D.okL n xs
  | n + 1, .tup xs => D.okL n xs
  | _, _ => false
def D.okL : Nat → List D → Bool
  | _, [] => true
  | n, x :: xs => D.okE n x && D.okL n xs
end
mutual
def D.toP : D → PyData
  | .non => .none
  | .bl b => .bool b
  | .int i => .int i
  | .str x => .str x
  | .lst xs => .list (D.toPs xs)
  | .tup xs => .tuple (D.toPs xs)
  | _ => .none
def D.toPs : List D → List PyData
  | [] => []
  | x :: xs => x.toP :: D.toPs xs
end
def deq (a b : D) : Option Bool := if a.okE 30 && b.okE 30 then some (a.eqD b) else none
mutual
theorem D.eqv_toP : ∀ (n : Nat) (a b : D), a.okE n = true → b.okE n = true → PyData.eqv a.toP b.toP = a.eqD b
  | n, .non, b, ha, hb => by cases b <;> first | (simp only [D.toP, PyData.eqv, D.eqD]; done) | (cases n <;> simp [D.okE] at hb)
  | n, .bl i, b, ha, hb => by cases b <;> first | (simp only [D.toP, PyData.eqv, D.eqD]; done) | (cases n <;> simp [D.okE] at hb)
  | n, .int i, b, ha, hb => by cases b <;> first | (simp only [D.toP, PyData.eqv, D.eqD]; done) | (cases n <;> simp [D.okE] at hb)
  | n, .str i, b, ha, hb => by cases b <;> first | (simp only [D.toP, PyData.eqv, D.eqD]; done) | (cases n <;> simp [D.okE] at hb)
  | 0, .lst xs, b, ha, hb => by simp [D.okE] at ha
  | 0, .tup xs, b, ha, hb => by simp [D.okE] at ha
  | n + 1, .lst xs, b, ha, hb => by
    cases b <;> first
      | (simp only [D.toP, PyData.eqv, D.eqD]; done)
      | (simp [D.okE] at hb; done)
      | (rename_i ys
         simp only [D.okE] at ha hb
         simp only [D.toP, PyData.eqv, D.eqD]
         exact D.eqvs_toP n xs ys ha hb)
  | n + 1, .tup xs, b, ha, hb => by
    cases b <;> first
      | (simp only [D.toP, PyData.eqv, D.eqD]; done)
      | (simp [D.okE] at hb; done)
      | (rename_i ys
         simp only [D.okE] at ha hb
         simp only [D.toP, PyData.eqv, D.eqD]
         exact D.eqvs_toP n xs ys ha hb)
  | n, .dK xs, b, ha, hb => by cases n <;> simp [D.okE] at ha
  | n, .dT xs, b, ha, hb => by cases n <;> simp [D.okE] at ha
  | n, .obj c xs, b, ha, hb => by cases n <;> simp [D.okE] at ha
  | n, .scr xs, b, ha, hb => by cases n <;> simp [D.okE] at ha
theorem D.eqvs_toP : ∀ (n : Nat) (a b : List D), D.okL n a = true → D.okL n b = true → PyData.eqvAll (D.toPs a) (D.toPs b) = D.eqL a b
  | n, [], [], ha, hb => by simp only [D.toPs, PyData.eqvAll, D.eqL]
  | n, [], y :: ys, ha, hb => by simp only [D.toPs, PyData.eqvAll, D.eqL]
  | n, x :: xs, [], ha, hb => by simp only [D.toPs, PyData.eqvAll, D.eqL]
  | n, x :: xs, y :: ys, ha, hb => by
    simp only [D.okL, Bool.and_eq_true] at ha hb
    simp only [D.toPs, PyData.eqvAll, D.eqL]
    rw [D.eqv_toP n x y ha.1 hb.1, D.eqvs_toP n xs ys ha.2 hb.2]
end
mutual
theorem D.shaped_toP : ∀ (n : Nat) (a : D), a.okE n = true → a.toP.canLay0 = true ∧ a.toP.depth ≤ n
  | n, .non, h => by simp [D.toP, PyData.canLay0, PyData.depth]
  | n, .bl i, h => by simp [D.toP, PyData.canLay0, PyData.depth]
  | n, .int i, h => by simp [D.toP, PyData.canLay0, PyData.depth]
  | n, .str i, h => by
    simp only [D.okE] at h
    simp [D.toP, PyData.canLay0, PyData.depth, h]
  | 0, .lst xs, h => by simp [D.okE] at h
  | 0, .tup xs, h => by simp [D.okE] at h
  | n + 1, .lst xs, h => by
    simp only [D.okE] at h
    have q := D.shapeds_toP n xs h
    simp only [D.toP, PyData.canLay0, PyData.depth]
    exact ⟨q.1, by omega⟩
  | n + 1, .tup xs, h => by
    simp only [D.okE] at h
    have q := D.shapeds_toP n xs h
    simp only [D.toP, PyData.canLay0, PyData.depth]
    exact ⟨q.1, by omega⟩
  | n, .dK xs, ha => by cases n <;> simp [D.okE] at ha
  | n, .dT xs, ha => by cases n <;> simp [D.okE] at ha
  | n, .obj c xs, ha => by cases n <;> simp [D.okE] at ha
  | n, .scr xs, ha => by cases n <;> simp [D.okE] at ha
theorem D.shapeds_toP : ∀ (n : Nat) (a : List D), D.okL n a = true → PyData.canLayAll0 (D.toPs a) = true ∧ PyData.depthAll (D.toPs a) ≤ n
  | n, [], h => by simp [D.toPs, PyData.canLayAll0, PyData.depthAll]
  | n, x :: xs, h => by
    simp only [D.okL, Bool.and_eq_true] at h
    have q1 := D.shaped_toP n x h.1
    have q2 := D.shapeds_toP n xs h.2
    simp only [D.toPs, PyData.canLayAll0, PyData.depthAll, q1.1, q2.1]
    exact ⟨rfl, by omega⟩
end
section
variable {K : PySem.W.Frag} {Z : Addr → Prop} {H : Hp}
mutual
theorem RepD.dp : ∀ (n : Nat) (d : D) (v : V), d.okE n = true → RepD K Z H d v → Dp K H v d.toP
  | n, .non, v, k, h => by
    simp only [RepD] at h
    subst h
    simp only [D.toP]
    exact .non
  | n, .bl b, v, k, h => by
    simp only [RepD] at h
    subst h
    simp only [D.toP]
    exact .bl b
  | n, .int b, v, k, h => by
    simp only [RepD] at h
    subst h
    simp only [D.toP]
    exact .int b
  | n, .str b, v, k, h => by
    simp only [RepD] at h
    subst h
    simp only [D.toP]
    exact .str b
  | 0, .lst xs, v, k, h => by simp [D.okE] at k
  | 0, .tup xs, v, k, h => by simp [D.okE] at k
  | n + 1, .lst xs, v, k, h => by
    simp only [RepD] at h
    obtain ⟨a, vs, rfl, _, h1, h2⟩ := h
    simp only [D.okE] at k
    simp only [D.toP]
    exact .lst (SqL.of h1) (RepL.dp n xs vs k h2)
  | n + 1, .tup xs, v, k, h => by
    simp only [RepD] at h
    obtain ⟨a, vs, rfl, h1, h2⟩ := h
    simp only [D.okE] at k
    simp only [D.toP]
    exact .tup (SqT.of h1) (RepL.dp n xs vs k h2)
  | n, .dK xs, v, ha, h => by cases n <;> simp [D.okE] at ha
  | n, .dT xs, v, ha, h => by cases n <;> simp [D.okE] at ha
  | n, .obj c xs, v, ha, h => by cases n <;> simp [D.okE] at ha
  | n, .scr xs, v, ha, h => by cases n <;> simp [D.okE] at ha
theorem RepL.dp : ∀ (n : Nat) (ds : List D) (vs : List V), D.okL n ds = true → RepL K Z H ds vs → DpAll K H vs (D.toPs ds)
  | n, [], vs, k, h => by
    simp only [RepL] at h
    subst h
    simp only [D.toPs]
    exact .nil
  | n, d :: ds, vs, k, h => by
    simp only [RepL] at h
    obtain ⟨v, r, rfl, h1, h2⟩ := h
    simp only [D.okL, Bool.and_eq_true] at k
    simp only [D.toPs]
    exact .cons (RepD.dp n d v k.1 h1) (RepL.dp n ds r k.2 h2)
end
theorem Lk.dp {n : Nat} {d : D} {v : V} (k : d.okE n = true) (h : Lk K Z H d v) : Dp K H v d.toP := by
  cases d with
  | lst ds =>
    obtain ⟨a, vs, rfl, h1, h2⟩ := h
    cases n with
    | zero => simp [D.okE] at k
    | succ n =>
      simp only [D.okE] at k
      simp only [D.toP]
      exact .lst (SqL.of h1) (RepL.dp n ds vs k h2)
  | dK _ => cases n <;> simp [D.okE] at k
  | dT _ => cases n <;> simp [D.okE] at k
  | obj _ _ => cases n <;> simp [D.okE] at k
  | scr _ => cases n <;> simp [D.okE] at k
  | non => exact RepD.dp (Z := Z) n _ v k h
  | bl _ => exact RepD.dp (Z := Z) n _ v k h
  | int _ => exact RepD.dp (Z := Z) n _ v k h
  | str _ => exact RepD.dp (Z := Z) n _ v k h
  | tup _ => exact RepD.dp (Z := Z) n _ v k h
theorem shaped_of {d : D} (k : d.okE 30 = true) : SeqAt.shaped d.toP = true := by
  have q := D.shaped_toP 30 d k
  unfold SeqAt.shaped
  rw [q.1]
  simp only [Bool.true_and, decide_eq_true_eq]
  omega
end
def opEq (a b : D) : Option O := (deq a b).map fun r => .sh (.bl r)
def opNe (a b : D) : Option O := (deq a b).map fun r => .sh (.bl !r)
section
variable {X : Cx}
theorem ov_eq (hu : X.A.units + 64 < cLine) : OpV X (compareOp .Eq) opEq := by
  intro pins s σ H x y v u Q I rx ry ⟨Z, d1, d2, o, l1, l2, h, q⟩
  unfold opEq deq at h
  split at h
  · rename_i hk
    simp only [Bool.and_eq_true] at hk
    cases h
    refine op_eqD hu pins s σ H x y v u Q I rx ry ⟨_, _, l1.dp hk.1, l2.dp hk.2, shaped_of hk.1, shaped_of hk.2, ?_⟩
    rw [D.eqv_toP 30 d1 d2 hk.1 hk.2]
    exact q _ _ Res.bl
  · cases h
theorem ov_ne (hu : X.A.units + 64 < cLine) : OpV X (compareOp .NotEq) opNe := by
  intro pins s σ H x y v u Q I rx ry ⟨Z, d1, d2, o, l1, l2, h, q⟩
  unfold opNe deq at h
  split at h
  · rename_i hk
    simp only [Bool.and_eq_true] at hk
    cases h
    refine op_neD hu pins s σ H x y v u Q I rx ry ⟨_, _, l1.dp hk.1, l2.dp hk.2, shaped_of hk.1, shaped_of hk.2, ?_⟩
    rw [D.eqv_toP 30 d1 d2 hk.1 hk.2]
    exact q _ _ Res.bl
  · cases h
end
end VS

namespace VS
open PySem PySem.Spec L2
open PyProof.Rows (tail_any subscriptTail)
/-! ### dicts as data -/
section
variable {κ : Type} [DecidableEq κ]
def dget (kvs : List (κ × D)) (k : κ) : Option D := (kvs.find? fun kv => decide (kv.1 = k)).map (·.2)
def dput (kvs : List (κ × D)) (k : κ) (v : D) : List (κ × D) :=
  if (kvs.any fun kv => decide (kv.1 = k)) = true then kvs.map (fun kv => if kv.1 = k then (kv.1, v) else kv) else kvs ++ [(k, v)]
end
def keyOf : D → Option Key
  | .int i => some (.inl i)
  | .str x => some (.inr x)
  | _ => none
def keysOf : List D → Option (List Key)
  | [] => some []
  | d :: ds => (keyOf d).bind fun k => (keysOf ds).bind fun r => some (k :: r)
section
variable {K : PySem.W.Frag} {Z : Addr → Prop} {H : Hp} {v : V}
theorem key_rep {d : D} {k : Key} (h : keyOf d = some k) (r : RepD K Z H d v) : v = kV k := by
  cases d <;> simp only [keyOf, reduceCtorEq] at h
  · rename_i i
    cases h
    have e : v = .int i := by simpa only [RepD] using r
    rw [e]
    all_goals rfl
  · rename_i i
    cases h
    have e : v = .str i := by simpa only [RepD] using r
    rw [e]
    all_goals rfl
theorem keys_rep : ∀ {ds : List D} {ks : List Key} {vs : List V}, keysOf ds = some ks → RepL K Z H ds vs → vs = ks.map kV
  | [], ks, vs, h, r => by
    simp only [keysOf] at h
    cases h
    have e : vs = [] := by simpa only [RepL] using r
    rw [e]
    all_goals rfl
  | d :: ds, ks, vs, h, r => by
    simp only [keysOf, Option.bind_eq_some_iff] at h
    obtain ⟨k, h1, rr, h2, h3⟩ := h
    cases h3
    simp only [RepL] at r
    obtain ⟨v, r', rfl, r1, r2⟩ := r
    rw [key_rep h1 r1, keys_rep h2 r2]
    all_goals rfl
theorem RepK.get {k : Key} : ∀ {ds : List (Key × D)} {vs : List (Key × V)}, RepK K Z H ds vs → (∀ d, dget ds k = some d → ∃ v, valV vs k = some v ∧ RepD K Z H d v) ∧ (dget ds k = none → valV vs k = none)
  | [], vs, h => by
    simp only [RepK] at h
    subst h
    exact ⟨fun d e => (nomatch (show (none : Option D) = some d from e)), fun _ => rfl⟩
  | (x, d0) :: ds, vs, h => by
    simp only [RepK] at h
    obtain ⟨v, r, rfl, h1, h2⟩ := h
    have ih := RepK.get (k := k) h2
    by_cases e : x = k
    · have q1 : dget ((x, d0) :: ds) k = some d0 := by simp [dget, List.find?_cons, e]
      have q2 : valV ((x, v) :: r) k = some v := valV_pos e
      rw [q1, q2]
      exact ⟨fun d e => by cases e; exact ⟨v, rfl, h1⟩, fun z => by cases z⟩
    · have q1 : dget ((x, d0) :: ds) k = dget ds k := by simp [dget, List.find?_cons, e]
      have q2 : valV ((x, v) :: r) k = valV r k := valV_neg e
      rw [q1, q2]
      exact ih
theorem RepT.get {k : List Key} : ∀ {ds : List (List Key × D)} {vs : List (List Key × V)}, RepT K Z H ds vs → (∀ d, dget ds k = some d → ∃ v, valV vs k = some v ∧ RepD K Z H d v) ∧ (dget ds k = none → valV vs k = none)
  | [], vs, h => by
    simp only [RepT] at h
    subst h
    exact ⟨fun d e => (nomatch (show (none : Option D) = some d from e)), fun _ => rfl⟩
  | (x, d0) :: ds, vs, h => by
    simp only [RepT] at h
    obtain ⟨v, r, rfl, h1, h2⟩ := h
    have ih := RepT.get (k := k) h2
    by_cases e : x = k
    · have q1 : dget ((x, d0) :: ds) k = some d0 := by simp [dget, List.find?_cons, e]
      have q2 : valV ((x, v) :: r) k = some v := valV_pos e
      rw [q1, q2]
      exact ⟨fun d e => by cases e; exact ⟨v, rfl, h1⟩, fun z => by cases z⟩
    · have q1 : dget ((x, d0) :: ds) k = dget ds k := by simp [dget, List.find?_cons, e]
      have q2 : valV ((x, v) :: r) k = valV r k := valV_neg e
      rw [q1, q2]
      exact ih
/-- what a dict holds at a key that is data -/
def opDG : D → D → Option (Option D)
  | .dK ks, k => (keyOf k).map fun k => dget ks k
  | .dT ks, .tup k => (keysOf k).map fun k => dget ks k
  | _, _ => none
theorem dget_rep {d k : D} {o : Option D} {x y : V} (h : opDG d k = some o) (l1 : Lk K Z H d x) (l2 : Lk K Z H k y) :
    ∃ a ov, x = .ref a ∧ DGet H a y ov ∧ (∀ d, o = some d → ∃ v, ov = some v ∧ RepD K Z H d v) ∧ (o = none → ov = none) := by
  cases d <;> simp only [opDG, reduceCtorEq] at h
  · rename_i ks
    obtain ⟨kk, h1, h2⟩ := Option.map_eq_some_iff.mp h
    obtain ⟨a, vs, rfl, ha, ra⟩ := l1
    have ey : y = kV kk := by
      refine key_rep (Z := Z) (K := K) (H := H) h1 ?_
      cases k <;> simp only [keyOf, reduceCtorEq] at h1 <;> exact l2
    subst ey h2
    exact ⟨a, _, rfl, (.inl ⟨vs, kk, ha, rfl, rfl⟩), fun d e => (RepK.get ra).1 d e, fun e => (RepK.get ra).2 e⟩
  · rename_i ks
    cases k <;> simp only [opDG, reduceCtorEq] at h
    rename_i kd
    obtain ⟨kk, h1, h2⟩ := Option.map_eq_some_iff.mp h
    obtain ⟨a, vs, rfl, ha, ra⟩ := l1
    obtain ⟨b, ws, rfl, hb, rb⟩ := l2.tup
    have ey := keys_rep h1 rb
    subst ey h2
    exact ⟨a, _, rfl, (.inr ⟨vs, kk, b, ha, rfl, hb, rfl⟩), fun d e => (RepT.get ra).1 d e, fun e => (RepT.get ra).2 e⟩
end
/-! ### a subscript -/
def opIx : D → D → Option O
  | .lst xs, .int i => (atI xs i).map .sh
  | .tup xs, .int i => (atI xs i).map .sh
  | .scr ns, .int i => (atI ns i).map fun n => .sh (.int n)
  | .str z, .int i => if z.length ≤ sizeLine then (atI z.cps.toList i).map fun c => .sh (.str ⟨#[c]⟩) else none
  | d, k => match opDG d k with
    | some (some v) => some (.sh v)
    | _ => none
section
variable {X : Cx}
theorem RepL.atI {K : PySem.W.Frag} {Z : Addr → Prop} {H : Hp} {ds : List D} {vs : List V} {i : Int} {d : D} (r : RepL K Z H ds vs) (h : L2.atI ds i = some d) : ∃ v, L2.atI vs i = some v ∧ RepD K Z H d v := by
  unfold L2.atI at h ⊢
  rw [r.length] at h
  cases e : ixN vs.length i with
  | none => rw [e] at h; cases h
  | some j =>
    rw [e] at h
    obtain ⟨v, e1, e2⟩ := r.get (i := j) (d := d) h
    exact ⟨v, e1, e2⟩
theorem scr_seq {K : PySem.W.Frag} {Z : Addr → Prop} {H : Hp} {ns : List Int} {v : V} (h : RepD K Z H (.scr ns) v) : ∃ a, v = .ref a ∧ SqL K H a (ns.map V.int) := by
  simp only [RepD] at h
  obtain ⟨a, e, h | h⟩ := h
  · obtain ⟨z, o, h⟩ := h
    exact ⟨a, e, .inl (.inr ⟨o, h⟩)⟩
  · refine ⟨a, e, ?_⟩
    rcases h with (h | ⟨o, h⟩) | h
    · cases h
    · cases h
    · exact .inr h
theorem ix_dict (hu : X.A.units + 1 < cLine) : IxR X (fun x y H Q => ∃ a v, x = .ref a ∧ DGet H a y (some v) ∧ Q v H) := by
  intro value slice pins s σ H x y v u Q I rx ry h hs
  obtain ⟨a, w, rfl, g, q⟩ := h
  cases rx
  exact PyProof.Rows.tail_any (dict_typeIs I g) PySem.F.slot_dict_getitem.lookup (d_getItem hu I g ry fun w' s3 I3 rw' => ⟨w, H, I3, rw', q⟩) hs
theorem iv_ix (hu : X.A.units + 1 < cLine) : IxR X (O1 X.K opIx) := by
  intro value slice pins s σ H x y v u Q I rx ry ⟨Z, d1, d2, o, l1, l2, h, q⟩ hs
  have dct : ∀ d, opDG d1 d2 = some (some d) → o = .sh d → wpAny (model X.prog X.w) X.A (subscriptTail value slice v u) (EP X pins σ Q) X.xe s := fun d e eo => by
    obtain ⟨a, ov, rfl, g, g1, _⟩ := dget_rep e l1 l2
    obtain ⟨w, e1, r1⟩ := g1 d rfl
    subst e1 eo
    exact ix_dict hu value slice pins s σ H _ y v u Q I rx ry ⟨a, w, rfl, g, q _ _ (Res.sc r1)⟩ hs
  have dct' : (match opDG d1 d2 with | some (some v) => some (O.sh v) | _ => none) = some o → wpAny (model X.prog X.w) X.A (subscriptTail value slice v u) (EP X pins σ Q) X.xe s := fun e => by
    cases q1 : opDG d1 d2 with
    | none => rw [q1] at e; cases e
    | some ov => cases ov with
      | none => rw [q1] at e; cases e
      | some d =>
        rw [q1] at e
        exact dct d q1 (Option.some.inj e).symm
  cases d1 with
  | lst xs =>
    cases d2 with
    | int i =>
      obtain ⟨d, h1, h2⟩ := Option.map_eq_some_iff.mp (show (atI xs i).map O.sh = some o from h)
      subst h2
      obtain ⟨a, vs, rfl, ha, ra⟩ := l1.lst
      cases l2.int
      obtain ⟨w, e1, r1⟩ := ra.atI h1
      exact ix_list value slice pins s σ H _ _ v u Q I rx ry ⟨a, vs, i, w, rfl, rfl, SqL.of ha, e1, q _ _ (Res.sc r1)⟩ hs
    | _ => exact dct' h
  | tup xs =>
    cases d2 with
    | int i =>
      obtain ⟨d, h1, h2⟩ := Option.map_eq_some_iff.mp (show (atI xs i).map O.sh = some o from h)
      subst h2
      obtain ⟨a, vs, rfl, ha, ra⟩ := l1.tup
      cases l2.int
      obtain ⟨w, e1, r1⟩ := ra.atI h1
      exact ix_tup value slice pins s σ H _ _ v u Q I rx ry ⟨a, vs, i, w, rfl, rfl, SqT.of ha, e1, q _ _ (Res.sc r1)⟩ hs
    | _ => exact dct' h
  | scr ns =>
    cases d2 with
    | int i =>
      obtain ⟨n, h1, h2⟩ := Option.map_eq_some_iff.mp (show (atI ns i).map (fun n => O.sh (.int n)) = some o from h)
      subst h2
      obtain ⟨a, rfl, ha⟩ := scr_seq (show RepD X.K Z H (.scr ns) x from l1)
      cases l2.int
      have e1 : atI (ns.map V.int) i = some (.int n) := by
        unfold atI at h1 ⊢
        rw [List.length_map]
        cases e : ixN ns.length i with
        | none => rw [e] at h1; cases h1
        | some j =>
          rw [e] at h1
          show (ns.map V.int)[j]? = some (.int n)
          rw [List.getElem?_map, show ns[j]? = some n from h1]
          rfl
      exact ix_list value slice pins s σ H _ _ v u Q I rx ry ⟨a, _, i, _, rfl, rfl, ha, e1, q _ _ Res.int⟩ hs
    | _ => exact dct' h
  | str z =>
    cases d2 with
    | int i =>
      have h' : (if z.length ≤ sizeLine then (atI z.cps.toList i).map (fun c => O.sh (.str ⟨#[c]⟩)) else none) = some o := h
      split at h'
      · rename_i hz
        obtain ⟨c, h1, h2⟩ := Option.map_eq_some_iff.mp h'
        subst h2
        cases l1.str
        cases l2.int
        exact ix_str value slice pins s σ H _ _ v u Q I rx ry ⟨z, i, c, rfl, rfl, hz, h1, q _ _ Res.str⟩ hs
      · cases h'
    | _ => exact dct' h
  | dK _ => exact dct' (by cases d2 <;> exact h)
  | dT _ => exact dct' (by cases d2 <;> exact h)
  | non => exact dct' (by cases d2 <;> exact h)
  | bl _ => exact dct' (by cases d2 <;> exact h)
  | int _ => exact dct' (by cases d2 <;> exact h)
  | obj _ _ => exact dct' (by cases d2 <;> exact h)
end
/-! ### in -/
def opIn : D → D → Option Bool
  | x, .lst ds => if x.okE 29 && D.okL 29 ds then some (ds.any fun z => z.eqD x) else none
  | x, d => (opDG d x).map Option.isSome
def opInV (x d : D) : Option O := (opIn x d).map fun r => .sh (.bl r)
def opNinV (x d : D) : Option O := (opIn x d).map fun r => .sh (.bl !r)
section
variable {X : Cx}
mutual
theorem D.okE_mono : ∀ (n m : Nat) (d : D), n ≤ m → d.okE n = true → d.okE m = true
  | n, m, .non, h, k => by cases m <;> simp [D.okE]
  | n, m, .bl _, h, k => by cases m <;> simp [D.okE]
  | n, m, .int _, h, k => by cases m <;> simp [D.okE]
  | n, m, .str x, h, k => by
    simp only [D.okE] at k ⊢
    exact k
  | 0, m, .lst xs, h, k => by simp [D.okE] at k
  | 0, m, .tup xs, h, k => by simp [D.okE] at k
  | n + 1, 0, .lst xs, h, k => by omega
  | n + 1, 0, .tup xs, h, k => by omega
  | n + 1, m + 1, .lst xs, h, k => by
    simp only [D.okE] at k ⊢
    exact D.okL_mono n m xs (by omega) k
  | n + 1, m + 1, .tup xs, h, k => by
    simp only [D.okE] at k ⊢
    exact D.okL_mono n m xs (by omega) k
  | n, m, .dK xs, h, ha => by cases n <;> simp [D.okE] at ha
  | n, m, .dT xs, h, ha => by cases n <;> simp [D.okE] at ha
  | n, m, .obj c xs, h, ha => by cases n <;> simp [D.okE] at ha
  | n, m, .scr xs, h, ha => by cases n <;> simp [D.okE] at ha
theorem D.okL_mono : ∀ (n m : Nat) (ds : List D), n ≤ m → D.okL n ds = true → D.okL m ds = true
  | n, m, [], h, k => by simp [D.okL]
  | n, m, d :: ds, h, k => by
    simp only [D.okL, Bool.and_eq_true] at k ⊢
    exact ⟨D.okE_mono n m d h k.1, D.okL_mono n m ds h k.2⟩
end
theorem any_eqv {x : D} (hx : x.okE 29 = true) : ∀ {ds : List D}, D.okL 29 ds = true → ((D.toPs ds).any fun z => PyData.eqv z x.toP) = ds.any fun z => z.eqD x
  | [], _ => by simp only [D.toPs, List.any_nil]
  | d :: ds, h => by
    simp only [D.okL, Bool.and_eq_true] at h
    simp only [D.toPs, List.any_cons]
    rw [D.eqv_toP 29 d x h.1 hx, any_eqv hx h.2]
theorem in_core {b : Bool} (hu : X.A.units + 65 < cLine) : OpR X (compareOp (if b then .In else .NotIn)) (O1 X.K fun x d => (opIn x d).map fun r => .sh (.bl (if b then r else !r))) := by
  intro pins s σ H x y v u Q I rx ry ⟨Z, d1, d2, o, l1, l2, h, q⟩
  obtain ⟨r, h1, h2⟩ := Option.map_eq_some_iff.mp h
  subst h2
  have dct : ∀ ov, opDG d2 d1 = some ov → r = ov.isSome → wpAny (model X.prog X.w) X.A (compareOp (if b then .In else .NotIn) v u) (EP X pins σ Q) X.xe s := fun ov e er => by
    obtain ⟨a, ow, rfl, g, g1, g2⟩ := dget_rep e l2 l1
    cases ry
    have e2 : ow.isSome = r := by
      subst er
      cases ov with
      | none => rw [g2 rfl]; rfl
      | some d =>
        obtain ⟨w, e1, _⟩ := g1 d rfl
        rw [e1]; rfl
    cases b with
    | true => exact d_in (by omega) I g rx fun s3 I3 => ⟨.bl ow.isSome, H, I3, rfl, by rw [e2]; exact q _ _ Res.bl⟩
    | false => exact d_notIn (by omega) I g rx fun s3 I3 => ⟨.bl (!ow.isSome), H, I3, rfl, by rw [e2]; exact q _ _ Res.bl⟩
  have dct' : (opDG d2 d1).map Option.isSome = some r → wpAny (model X.prog X.w) X.A (compareOp (if b then .In else .NotIn) v u) (EP X pins σ Q) X.xe s := fun e => by
    obtain ⟨ov, e1, e2⟩ := Option.map_eq_some_iff.mp e
    exact dct ov e1 e2.symm
  cases d2 with
  | lst ds =>
    have h' : (if d1.okE 29 && D.okL 29 ds then some (ds.any fun z => z.eqD d1) else none) = some r := h1
    split at h'
    · rename_i hk
      simp only [Bool.and_eq_true] at hk
      cases h'
      have k2 : (D.lst ds).okE 30 = true := by
        simp only [D.okE]
        exact hk.2
      have p2 := l2.dp k2
      simp only [D.toP] at p2
      have s2 := shaped_of k2
      simp only [D.toP] at s2
      have k1 := D.okE_mono 29 30 d1 (by omega) hk.1
      cases b with
      | true => exact op_inD hu pins s σ H x y v u Q I rx ry ⟨_, _, l1.dp k1, p2, shaped_of k1, s2, by rw [any_eqv hk.1 hk.2]; exact q _ _ Res.bl⟩
      | false => exact op_notInD hu pins s σ H x y v u Q I rx ry ⟨_, _, l1.dp k1, p2, shaped_of k1, s2, by rw [any_eqv hk.1 hk.2]; exact q _ _ Res.bl⟩
    · cases h'
  | _ => exact dct' h1
theorem ov_in (hu : X.A.units + 65 < cLine) : OpV X (compareOp .In) opInV := in_core (b := true) hu
theorem ov_nin (hu : X.A.units + 65 < cLine) : OpV X (compareOp .NotIn) opNinV := in_core (b := false) hu
end
end VS

namespace VS
open PySem PySem.Spec L2
section
variable {K : PySem.W.Frag} {g : Gx} {Z Z' : Addr → Prop} {H H' : Hp} {δ S : DS} {σ T : L2.St} {o : O} {v : V}
theorem StV.pushN (s : StV K g Z H δ σ S T) (y : Option V) : StV K g Z H δ σ (none :: S) (y :: T) := by
  obtain ⟨Fs, Ft, h1, h2, w⟩ := s
  exact ⟨Fs, Ft, h1, ⟨y, T, [], Ft, rfl, rfl, rfl, h2⟩, w⟩
theorem StV.pushD {d : D} (s : StV K g Z H δ σ S T) (h : RepD K Z H d v) : StV K g Z H δ σ (some (.sh d) :: S) (some v :: T) := s.push (Res.sc h)
end
/-! ### names, constants -/
def xC (d : D) : XF := fun δ => some (.val (.sh d), δ)
def xV (i : Nat) : XF := fun δ => match δ[i]? with
  | some (some (.sh d)) => some (.val (.sh d), δ)
  | some (some _) => some (.at i, δ)
  | _ => none
section
variable {X : Cx} {g : Gx} {pos : Pos} {e : Expr} {t : TE}
abbrev VE (X : Cx) (e : Expr) (f : XF) : Prop := PE X e (rdE X.K f)
abbrev VT (X : Cx) (e : Expr) (f : DS → Option (Bool × DS)) : Prop := PT X e (rdT X.K f)
theorem ve_name {i : Nat} (h : PE X e (tVar i)) : VE X e (xV i) := PEi h fun σ H Q ⟨g, Z, δ, S, T, r, st, hf, post⟩ => by
  unfold xV at hf
  cases q : δ[i]? with
  | none => rw [q] at hf; cases hf
  | some x => cases x with
    | none => rw [q] at hf; cases hf
    | some o =>
      obtain ⟨v, F, e1, ro⟩ := st.slot q
      refine ⟨v, e1, ?_⟩
      rw [q] at hf
      cases o with
      | sh d =>
        cases hf
        simp only [RepO] at ro
        exact post v Z H (st.pushD ro.2) trivial
      | _ =>
        cases hf
        exact post v Z H (st.pushN _) e1
theorem ve_c {d : D} {v : V} (hv : ∀ Z H, RepD X.K Z H d v) (h : PE X e (tC v)) : VE X e (xC d) := PEi h fun σ H Q ⟨g, Z, δ, S, T, r, st, hf, post⟩ => by
  cases hf
  exact post v Z H (st.pushD (hv Z H)) trivial
theorem ve_int {i j} : VE X (.Constant (.int i) j pos) (xC (.int i)) := ve_c (fun _ _ => by simp only [RepD]) pe_int
theorem ve_str {i j} : VE X (.Constant (.str i) j pos) (xC (.str i)) := ve_c (fun _ _ => by simp only [RepD]) pe_str
theorem ve_bl {i j} : VE X (.Constant (.bool i) j pos) (xC (.bl i)) := ve_c (fun _ _ => by simp only [RepD]) pe_bl
theorem ve_non {j} : VE X (.Constant .none j pos) (xC .non) := ve_c (fun _ _ => by simp only [RepD]) pe_non
/-- a module's whole number -/
theorem ve_gint {x : Str} {i : Int} {pos : Pos} (hg : Gl X x) (hm : ∃ t, X.mg x = some (.int i t)) (hd : (x == ("__debug__" : Str)) = false := by decide) : VE X (.Name x pos) (xC (.int i)) := by
  obtain ⟨t, hm⟩ := hm
  exact ve_c (v := .int i) (fun _ _ => by simp only [RepD]) (pe_glob hg hm ⟨t, rfl⟩ hd)
theorem ve_gstr {x z : Str} {pos : Pos} (hg : Gl X x) (hm : ∃ t, X.mg x = some (.str z t)) (hd : (x == ("__debug__" : Str)) = false := by decide) : VE X (.Name x pos) (xC (.str z)) := by
  obtain ⟨t, hm⟩ := hm
  exact ve_c (v := .str z) (fun _ _ => by simp only [RepD]) (pe_glob hg hm ⟨t, rfl⟩ hd)
end
/-! ### operators -/
def x2 (f2 : D → D → Option O) (fa fb : XF) : XF := fun δ =>
  (fa δ).bind fun r1 => (fb r1.2).bind fun r2 => (rdv r2.2 r1.1).bind fun d1 => (rdv r2.2 r2.1).bind fun d2 => (f2 d1 d2).map fun o => (.val o, r2.2)
def negD : D → Option O
  | .int i => some (.sh (.int (-i)))
  | _ => none
def x1 (f1 : D → Option O) (fa : XF) : XF := fun δ => (fa δ).bind fun r1 => (rdv r1.2 r1.1).bind fun d1 => (f1 d1).map fun o => (.val o, r1.2)
def asB : O → Option Bool
  | .sh (.bl b) => some b
  | _ => none
/-- a value as a test -/
def tB (f : XF) : DS → Option (Bool × DS) := fun δ => (f δ).bind fun r => match r.1 with
  | .val (.sh (.bl b)) => some (b, r.2)
  | _ => none
section
variable {X : Cx} {g : Gx} {pos : Pos} {a b c e : Expr} {fa fb fc : XF} {rest : List Expr}
theorem op_core {f2 : D → D → Option O} {σ : L2.St} {H : Hp} {Q : VK} (h : rdE X.K (x2 f2 fa fb) σ H Q) : tOp (O1 X.K f2) (rdE X.K fa) (rdE X.K fb) σ H Q := by
  obtain ⟨g, Z, δ, S, T, r, st, hf, post⟩ := h
  simp only [x2, Option.bind_eq_some_iff, Option.map_eq_some_iff] at hf
  obtain ⟨⟨ea, δ1⟩, h1, ⟨eb, δ2⟩, h2, d1, h3, d2, h4, o, h5, rfl⟩ := hf
  exact ⟨g, Z, δ, S, T, _, st, h1, fun x Z1 H1 st1 al1 => ⟨g, Z1, δ1, _, _, _, st1, h2, fun y Z2 H2 st2 al2 => ⟨Z2, d1, d2, o, st2.pop.lk al1 h3, st2.lk al2 h4, h5, fun v H' rs => post v Z2 H' (st2.drop2.push rs) trivial⟩⟩⟩
theorem ve_op {op : Operator} {f2 : D → D → Option O} (ho : OpV X (binaryOp op) f2) (ha : VE X a fa) (hb : VE X b fb) : VE X (.BinOp a op b pos) (x2 f2 fa fb) := PEi (pe_op ho ha hb) fun σ H Q h => op_core h
theorem ve_cmp {op : CmpOp} {f2 : D → D → Option O} (ho : OpV X (compareOp op) f2) (ha : VE X a fa) (hb : VE X b fb) (hm : behindInMarks op b = false) : VE X (.Compare a [op] [b] pos) (x2 f2 fa fb) := PEi (pe_cmpR ho ha hb hm) fun σ H Q h => op_core h
theorem ve_ix (hu : X.A.units + 1 < cLine) (ha : VE X a fa) (hb : VE X b fb) (hs : PlainIx b) : VE X (.Subscript a b pos) (x2 opIx fa fb) := PEi (pe_ix (iv_ix hu) ha hb hs) fun σ H Q h => op_core h
/-- from a value's reading to a test's -/
theorem test_core {f : XF} {t : TE} {σ : L2.St} {H : Hp} {Q : Bool → Hp → Prop} (ht : ∀ σ H Q, rdE X.K f σ H Q → t σ H Q) (h : rdT X.K (VS.tB f) σ H Q) : t σ H (fun x H' => ∃ k, x = .bl k ∧ Q k H') := by
  obtain ⟨g, Z, δ, S, T, r, st, hf, post⟩ := h
  simp only [VS.tB, Option.bind_eq_some_iff] at hf
  obtain ⟨⟨e, δ1⟩, h1, h2⟩ := hf
  refine ht _ _ _ ⟨g, Z, δ, S, T, _, st, h1, fun v Z1 H1 st1 al1 => ?_⟩
  split at h2
  · rename_i bb q
    cases h2
    have q' : e = .val (.sh (.bl bb)) := q
    subst q'
    obtain ⟨F, ro⟩ := st1.top
    simp only [RepO, RepD] at ro
    exact ⟨bb, ro.2, post Z1 H1 st1.pop⟩
  · cases h2
theorem vt_cmp {op : CmpOp} {f2 : D → D → Option O} (ho : OpV X (compareOp op) f2) (ha : VE X a fa) (hb : VE X b fb) (hm : behindInMarks op b = false) : VT X (.Compare a [op] [b] pos) (VS.tB (x2 f2 fa fb)) :=
  PTi (pt_cmpR ho ha hb hm) fun σ H Q h => test_core (fun _ _ _ q => op_core q) h
theorem vt_val {f : XF} (h : VE X e f) (he : ∀ whole, isTrue e X.env whole = (do let v ← whole; standAt e.pos; holding [v] (truthy v)) := by intro _; rfl) : VT X e (VS.tB f) :=
  PTi (pt_val h he) fun σ H Q q => test_core (fun _ _ _ q => q) q
theorem ve_neg (ha : VE X a fa) : VE X (.UnaryOp .USub a pos) (x1 negD fa) := PEi (pe_un un_neg ha) fun σ H Q ⟨g, Z, δ, S, T, r, st, hf, post⟩ => by
  simp only [x1, Option.bind_eq_some_iff, Option.map_eq_some_iff] at hf
  obtain ⟨⟨ea, δ1⟩, h1, d1, h3, o, h5, rfl⟩ := hf
  refine ⟨g, Z, δ, S, T, _, st, h1, fun x Z1 H1 st1 al1 => ?_⟩
  have l := st1.lk al1 h3
  cases d1 <;> simp only [negD, reduceCtorEq] at h5
  cases l.int
  cases h5
  exact ⟨_, rfl, post _ Z1 H1 (st1.pop.push Res.int) trivial⟩
/-! chains -/
def xCh (f2 f2' : D → D → Option O) (fa fb fc : XF) : XF := fun δ =>
  (fa δ).bind fun r1 => (fb r1.2).bind fun r2 => (rdv r2.2 r1.1).bind fun d1 => (rdv r2.2 r2.1).bind fun d2 => (f2 d1 d2).bind fun o =>
    match o with
    | .sh (.bl true) => (fc r2.2).bind fun r3 => (rdv r3.2 r2.1).bind fun d2' => (rdv r3.2 r3.1).bind fun d3 => (f2' d2' d3).map fun o => (.val o, r3.2)
    | .sh (.bl false) => some (.val (.sh (.bl false)), r2.2)
    | _ => none
theorem chain_core {f2 f2' : D → D → Option O} {σ : L2.St} {H : Hp} {Q : VK} (h : rdE X.K (xCh f2 f2' fa fb fc) σ H Q) : tChain (O1 X.K f2) (O1 X.K f2') (rdE X.K fa) (rdE X.K fb) (rdE X.K fc) σ H Q := by
  obtain ⟨g, Z, δ, S, T, r, st, hf, post⟩ := h
  simp only [xCh, Option.bind_eq_some_iff] at hf
  obtain ⟨⟨ea, δ1⟩, h1, ⟨eb, δ2⟩, h2, d1, h3, d2, h4, o, h5, h6⟩ := hf
  refine ⟨g, Z, δ, S, T, _, st, h1, fun x Z1 H1 st1 al1 => ⟨g, Z1, δ1, _, _, _, st1, h2, fun y Z2 H2 st2 al2 => ⟨Z2, d1, d2, o, st2.pop.lk al1 h3, st2.lk al2 h4, h5, fun v H' rs => ?_⟩⟩⟩
  have st3 := st2.push rs
  split at h6
  · obtain ⟨F, ro⟩ := st3.top
    simp only [RepO, RepD] at ro
    refine ⟨true, ro.2, ?_⟩
    rw [if_pos rfl]
    simp only [Option.bind_eq_some_iff, Option.map_eq_some_iff] at h6
    obtain ⟨⟨ec, δ3⟩, h7, d2', h8, d3, h9, o', h10, rfl⟩ := h6
    exact ⟨g, Z2, δ2, _, _, _, st3.pop, h7, fun w Z4 H4 st4 al4 => ⟨Z4, d2', d3, o', st4.pop.lk al2 h8, st4.lk al4 h9, h10, fun v H' rs => post v Z4 H' (st4.pop.drop2.push rs) trivial⟩⟩
  · obtain ⟨F, ro⟩ := st3.top
    simp only [RepO, RepD] at ro
    refine ⟨false, ro.2, ?_⟩
    rw [if_neg Bool.false_ne_true]
    cases h6
    exact post _ Z2 H' (st3.pop.drop2.push Res.bl) trivial
  · cases h6
theorem ve_chain {op op' : CmpOp} {f2 f2' : D → D → Option O} (ho : OpV X (compareOp op) f2) (ho' : OpV X (compareOp op') f2') (ha : VE X a fa) (hb : VE X b fb) (hc : VE X c fc)
    (hm : lastMarks [op, op'] [b, c] = false := by with_unfolding_all rfl) : VE X (.Compare a [op, op'] [b, c] pos) (xCh f2 f2' fa fb fc) := PEi (pe_chain ho ho' ha hb hc hm) fun σ H Q h => chain_core h
theorem vt_chain {op op' : CmpOp} {f2 f2' : D → D → Option O} (ho : OpV X (compareOp op) f2) (ho' : OpV X (compareOp op') f2') (ha : VE X a fa) (hb : VE X b fb) (hc : VE X c fc)
    (hm : lastMarks [op, op'] [b, c] = false := by with_unfolding_all rfl) : VT X (.Compare a [op, op'] [b, c] pos) (VS.tB (xCh f2 f2' fa fb fc)) := PTi (pt_chain ho ho' ha hb hc hm) fun σ H Q h => test_core (fun _ _ _ q => chain_core q) h
/-! and, or, not, if -/
abbrev TF := DS → Option (Bool × DS)
def xAnd (fa fb : XF) : XF := fun δ => (tB fa δ).bind fun r => if r.1 then fb r.2 else some (.val (.sh (.bl false)), r.2)
def xOr (fa fb : XF) : XF := fun δ => (tB fa δ).bind fun r => if r.1 then some (.val (.sh (.bl true)), r.2) else fb r.2
def xNot (fa : XF) : XF := fun δ => (tB fa δ).map fun r => (.val (.sh (.bl (!r.1))), r.2)
def tAnd' (ta tb : TF) : TF := fun δ => (ta δ).bind fun r => if r.1 then tb r.2 else some (false, r.2)
def tOr' (ta tb : TF) : TF := fun δ => (ta δ).bind fun r => if r.1 then some (true, r.2) else tb r.2
def tNot' (ta : TF) : TF := fun δ => (ta δ).map fun r => (!r.1, r.2)
def xIf (t : TF) (fa fb : XF) : XF := fun δ => (t δ).bind fun r => if r.1 then fa r.2 else fb r.2
theorem tB_core {f : XF} {σ : L2.St} {H : Hp} {Q : V → Hp → Prop} {Z : Addr → Prop} {δ : DS} {S : DS} {T : L2.St} {r : Bool × DS} (st : StV X.K g Z H δ σ S T) (h : VS.tB f δ = some r)
    (k : ∀ Z' H', StV X.K g Z' H' r.2 σ S T → Q (.bl r.1) H') : rdE X.K f σ H Q := by
  simp only [VS.tB, Option.bind_eq_some_iff] at h
  obtain ⟨⟨e, δ1⟩, h1, h2⟩ := h
  refine ⟨g, Z, δ, S, T, _, st, h1, fun v Z1 H1 st1 al1 => ?_⟩
  split at h2
  · rename_i bb q
    cases h2
    have q' : e = .val (.sh (.bl bb)) := q
    subst q'
    obtain ⟨F, ro⟩ := st1.top
    simp only [RepO, RepD] at ro
    rw [ro.2]
    exact k Z1 H1 st1.pop
  · cases h2
theorem ve_one {op} (h : VE X a fa) : VE X (.BoolOp op [a] pos) fa := pe_one h
theorem ve_and (ha : VE X a fa) (hb : VE X (.BoolOp .And (b :: rest) pos) fb) : VE X (.BoolOp .And (a :: b :: rest) pos) (xAnd fa fb) := PEi (pe_and ha hb) fun σ H Q ⟨g, Z, δ, S, T, r, st, hf, post⟩ => by
  simp only [xAnd, Option.bind_eq_some_iff] at hf
  obtain ⟨⟨k, δ1⟩, h1, h2⟩ := hf
  refine tB_core st h1 fun Z1 H1 st1 => ⟨k, rfl, ?_⟩
  cases k with
  | true => exact ⟨g, Z1, δ1, S, T, r, st1, h2, post⟩
  | false =>
    cases h2
    exact post _ Z1 H1 (st1.push Res.bl) trivial
theorem ve_or (ha : VE X a fa) (hb : VE X (.BoolOp .Or (b :: rest) pos) fb) : VE X (.BoolOp .Or (a :: b :: rest) pos) (xOr fa fb) := PEi (pe_or ha hb) fun σ H Q ⟨g, Z, δ, S, T, r, st, hf, post⟩ => by
  simp only [xOr, Option.bind_eq_some_iff] at hf
  obtain ⟨⟨k, δ1⟩, h1, h2⟩ := hf
  refine tB_core st h1 fun Z1 H1 st1 => ⟨k, rfl, ?_⟩
  cases k with
  | false => exact ⟨g, Z1, δ1, S, T, r, st1, h2, post⟩
  | true =>
    cases h2
    exact post _ Z1 H1 (st1.push Res.bl) trivial
theorem ve_not (ha : VE X a fa) : VE X (.UnaryOp .Not a pos) (xNot fa) := PEi (pe_not ha) fun σ H Q ⟨g, Z, δ, S, T, r, st, hf, post⟩ => by
  simp only [xNot, Option.map_eq_some_iff] at hf
  obtain ⟨⟨k, δ1⟩, h1, rfl⟩ := hf
  exact tB_core st h1 fun Z1 H1 st1 => ⟨k, rfl, post _ Z1 H1 (st1.push Res.bl) trivial⟩
theorem vt_not {ta : TF} (ha : VT X a ta) : VT X (.UnaryOp .Not a pos) (tNot' ta) := PTi (pt_not ha) fun σ H Q ⟨g, Z, δ, S, T, r, st, hf, post⟩ => by
  simp only [tNot', Option.map_eq_some_iff] at hf
  obtain ⟨⟨k, δ1⟩, h1, rfl⟩ := hf
  exact ⟨g, Z, δ, S, T, _, st, h1, fun Z1 H1 st1 => post Z1 H1 st1⟩
abbrev VW (X : Cx) (e : Expr) (f : TF) : Prop := PW X e (rdT X.K f)
theorem vw_and1 {ta : TF} (ha : VT X a ta) : VW X (.BoolOp .And [a] pos) ta := pw_and1 ha
theorem vw_or1 {ta : TF} (ha : VT X a ta) : VW X (.BoolOp .Or [a] pos) ta := pw_or1 ha
theorem vw_and {ta tb : TF} (ha : VT X a ta) (hb : VW X (.BoolOp .And (b :: rest) pos) tb) : VW X (.BoolOp .And (a :: b :: rest) pos) (tAnd' ta tb) := PWi (pw_and ha hb) fun σ H Q ⟨g, Z, δ, S, T, r, st, hf, post⟩ => by
  simp only [tAnd', Option.bind_eq_some_iff] at hf
  obtain ⟨⟨k, δ1⟩, h1, h2⟩ := hf
  refine ⟨g, Z, δ, S, T, _, st, h1, fun Z1 H1 st1 => ?_⟩
  cases k with
  | true => exact ⟨g, Z1, δ1, S, T, r, st1, h2, post⟩
  | false =>
    cases h2
    exact post Z1 H1 st1
theorem vw_or {ta tb : TF} (ha : VT X a ta) (hb : VW X (.BoolOp .Or (b :: rest) pos) tb) : VW X (.BoolOp .Or (a :: b :: rest) pos) (tOr' ta tb) := PWi (pw_or ha hb) fun σ H Q ⟨g, Z, δ, S, T, r, st, hf, post⟩ => by
  simp only [tOr', Option.bind_eq_some_iff] at hf
  obtain ⟨⟨k, δ1⟩, h1, h2⟩ := hf
  refine ⟨g, Z, δ, S, T, _, st, h1, fun Z1 H1 st1 => ?_⟩
  cases k with
  | false => exact ⟨g, Z1, δ1, S, T, r, st1, h2, post⟩
  | true =>
    cases h2
    exact post Z1 H1 st1
theorem ve_if {tc : TF} (hc : VT X c tc) (ha : VE X a fa) (hb : VE X b fb) : VE X (.IfExp c a b pos) (xIf tc fa fb) := PEi (pe_ifExp hc ha hb) fun σ H Q ⟨g, Z, δ, S, T, r, st, hf, post⟩ => by
  simp only [xIf, Option.bind_eq_some_iff] at hf
  obtain ⟨⟨k, δ1⟩, h1, h2⟩ := hf
  refine ⟨g, Z, δ, S, T, _, st, h1, fun Z1 H1 st1 => ?_⟩
  cases k with
  | true => exact ⟨g, Z1, δ1, S, T, r, st1, h2, post⟩
  | false => exact ⟨g, Z1, δ1, S, T, r, st1, h2, post⟩
end
/-! ### arguments that are taken; displays -/
abbrev BF := DS → Option (List O × DS)
def otmp (os : List O) : DS := (os.map some).reverse
def rdB (K : PySem.W.Frag) (f : BF) : TA := fun σ H Q => ∃ g Z δ S T r, StV K g Z H δ σ S T ∧ f δ = some r ∧
  ∀ vs Z' H', StV K g Z' H' r.2 σ (otmp r.1 ++ S) (vtmps vs ++ T) → r.1.length = vs.length → Q vs H'
def bNil : BF := fun δ => some ([], δ)
def bCons (fa : XF) (fr : BF) : BF := fun δ => (fa δ).bind fun r1 => (tk r1.2 r1.1).bind fun r2 => (fr r2.2).map fun r3 => (r2.1 :: r3.1, r3.2)
section
variable {X : Cx} {g : Gx} {pos : Pos} {a b c e : Expr} {fa fb fc : XF} {es : List Expr} {fs : BF}
abbrev VB (X : Cx) (es : List Expr) (f : BF) : Prop := PA X es (rdB X.K f)
theorem vb_nil : VB X [] bNil := PAi pa_nil fun σ H Q ⟨g, Z, δ, S, T, r, st, hf, post⟩ => by
  cases hf
  exact post [] Z H st rfl
theorem vb_cons (ha : VE X e fa) (hr : VB X es fs) (hs : starEach (e :: es) X.env = (false, eval e X.env) :: starEach es X.env := by rfl) : VB X (e :: es) (bCons fa fs) := PAi (pa_cons ha hr hs) fun σ H Q ⟨g, Z, δ, S, T, r, st, hf, post⟩ => by
  simp only [bCons, Option.bind_eq_some_iff, Option.map_eq_some_iff] at hf
  obtain ⟨⟨e1, δ1⟩, h1, ⟨o, δ2⟩, h2, ⟨os, δ3⟩, h3, rfl⟩ := hf
  refine ⟨g, Z, δ, S, T, _, st, h1, fun x Z1 H1 st1 al1 => ?_⟩
  obtain ⟨Z2, st2, _⟩ := st1.tk al1 h2
  refine ⟨g, Z2, δ2, _, _, _, st2, h3, fun vs Z3 H3 st3 hl => ?_⟩
  refine post (x :: vs) Z3 H3 ?_ (by simp [hl])
  have e1 : otmp (o :: os) ++ S = otmp os ++ (some o :: S) := by simp [otmp]
  have e2 : vtmps (x :: vs) ++ T = vtmps vs ++ (some x :: T) := by simp [vtmps]
  rw [e1, e2]
  exact st3
def xTup (fs : BF) : XF := fun δ => (fs δ).bind fun r => if r.1.length ≤ sizeLine then some (.val (.sh (.tup (r.1.map O.fz))), r.2) else none
def xLst (fs : BF) : XF := fun δ => (fs δ).bind fun r => if r.1.length ≤ sizeLine then some (.val (.lst (r.1.map O.fz)), r.2) else none
theorem ve_tup {x1} (h : VB X es fs) : VE X (.Tuple es x1 pos) (xTup fs) := PEi (pe_tup h) fun σ H Q ⟨g, Z, δ, S, T, r, st, hf, post⟩ => by
  simp only [xTup, Option.bind_eq_some_iff] at hf
  obtain ⟨⟨os, δ1⟩, h1, h2⟩ := hf
  split at h2
  · rename_i hz
    cases h2
    refine ⟨g, Z, δ, S, T, _, st, h1, fun vs Z1 H1 st1 hl => ⟨by rw [← hl]; exact hz, fun p hp => ?_⟩⟩
    obtain ⟨Z2, st2, rl⟩ := StV.frzL hl st1
    exact post _ Z2 _ (st2.push (Res.tup hp rl)) trivial
  · cases h2
theorem ve_lst (h : VB X es fs) : VE X (.List es pos) (xLst fs) := PEi (pe_lst h) fun σ H Q ⟨g, Z, δ, S, T, r, st, hf, post⟩ => by
  simp only [xLst, Option.bind_eq_some_iff] at hf
  obtain ⟨⟨os, δ1⟩, h1, h2⟩ := hf
  split at h2
  · rename_i hz
    cases h2
    refine ⟨g, Z, δ, S, T, _, st, h1, fun vs Z1 H1 st1 hl => ⟨by rw [← hl]; exact hz, fun p hp => ?_⟩⟩
    obtain ⟨Z2, st2, rl⟩ := StV.frzL hl st1
    exact post _ Z2 _ (st2.push (Res.lst hp rl)) trivial
  · cases h2
theorem ve_dK : VE X (.Dict [] [] pos) (fun δ => some (.val (.dK []), δ)) := PEi pe_dnewK fun σ H Q ⟨g, Z, δ, S, T, r, st, hf, post⟩ => by
  cases hf
  exact fun p hp => post _ Z _ (st.push (Res.dK hp (by simp only [RepK]))) trivial
theorem Res.dT {K : PySem.W.Frag} {Z : Addr → Prop} {H : Hp} {p : Addr} {ds : List (List Key × D)} {vs : List (List Key × V)} (h : H p = none) (r : RepT K Z H ds vs) : Res K Z H (.dT ds) (.ref p) (L2.upd H p (.dT vs)) := by
  have s := Same.upd (o := .dT vs) h
  refine ⟨[p], s, ?_, by simp, fun a ha => ?_⟩
  · simp only [RepO]
    exact ⟨p, vs, rfl, rfl, upd_same, RepT.keep (Same.keep s) ds vs r⟩
  · have e : a = p := by simpa using ha
    rw [e]; exact h
theorem ve_dT : VE X (.Dict [] [] pos) (fun δ => some (.val (.dT []), δ)) := PEi pe_dnewT fun σ H Q ⟨g, Z, δ, S, T, r, st, hf, post⟩ => by
  cases hf
  exact fun p hp => post _ Z _ (st.push (Res.dT hp (by simp only [RepT]))) trivial
/-- f(e, ..), f built in: the arguments are taken -/
def xB (f : List O → Option O) (fs : BF) : XF := fun δ => (fs δ).bind fun r => (f r.1).map fun o => (.val o, r.2)
end
end VS

namespace VS
open PySem PySem.Spec L2
section
variable {K : PySem.W.Frag} {g : Gx} {Z Z' : Addr → Prop} {H H' : Hp} {δ S U : DS} {σ T W : L2.St} {o : O} {v : V}
theorem set_self {α : Type} {l : List α} {i : Nat} {y : α} (h : l[i]? = some y) : l.set i y = l := by
  refine List.ext_getElem? fun j => ?_
  by_cases hj : i = j
  · subst hj
    rw [h]
    have hl : i < l.length := (List.getElem?_eq_some_iff.mp h).1
    rw [List.getElem?_set_self hl]
  · rw [List.getElem?_set_ne hj]
theorem StV.asgY {i : Nat} {x : Option O} {y : Option V} (s : StV K g Z H δ σ (x :: S) (y :: T)) : StV K g Z H (δ.set i x) (σ.set i y) S T := by
  obtain ⟨Fs, Ft, h1, ⟨y', r, F1, F2, e, f, h3, h4⟩, w⟩ := s
  cases e
  cases hi : δ[i]? with
  | none =>
    have hl : δ.length ≤ i := List.getElem?_eq_none_iff.mp hi
    rw [List.set_eq_of_length_le hl, List.set_eq_of_length_le (by rw [← h1.length]; exact hl)]
    exact ⟨Fs, F2, h1, h4, w.sub (by rw [f]; exact List.Sublist.append (List.Sublist.refl _) (List.sublist_append_right _ _))⟩
  | some x0 =>
    obtain ⟨y0, Fi, Fr, e, p, q, put⟩ := h1.at hi
    obtain ⟨F', s1, s2⟩ := put Z H x y F1 (Keep.refl Z H) (fun _ _ _ h => h) h3
    refine ⟨F', F2, s1, h4, ?_⟩
    have p2 : (Fs ++ Ft).Perm (Fi ++ (F' ++ F2)) := by
      rw [f]
      refine (List.Perm.append_right _ p).trans ?_
      rw [List.append_assoc]
      refine List.Perm.append_left _ ?_
      rw [← List.append_assoc]
      refine List.Perm.append_right _ ?_
      exact (List.perm_append_comm).trans s2.symm
    exact (w.perm p2).sub (List.sublist_append_right _ _)
/-- a slot's content goes to the temporaries -/
theorem StV.save (s : StV K g Z H δ σ S T) (i : Nat) : StV K g Z H (δ.set i none) (σ.set i none) ((δ[i]?).join :: S) ((σ[i]?).join :: T) := by
  obtain ⟨Fs, Ft, h1, h2, w⟩ := s
  cases hi : δ[i]? with
  | none =>
    have hl : δ.length ≤ i := List.getElem?_eq_none_iff.mp hi
    rw [List.set_eq_of_length_le hl, List.set_eq_of_length_le (by rw [← h1.length]; exact hl)]
    exact ⟨Fs, Ft, h1, ⟨_, T, [], Ft, rfl, rfl, rfl, h2⟩, w⟩
  | some x0 =>
    obtain ⟨y0, Fi, Fr, e, p, q, put⟩ := h1.at hi
    obtain ⟨F', s1, s2⟩ := put Z H none none [] (Keep.refl Z H) (fun _ _ _ h => h) rfl
    rw [e]
    refine ⟨F', Fi ++ Ft, s1, ⟨y0, T, Fi, Ft, rfl, rfl, q, h2⟩, w.perm ?_⟩
    refine (List.Perm.append_right _ p).trans ?_
    rw [List.append_assoc]
    refine (List.Perm.append_left _ (List.Perm.append_right _ s2.symm)).trans ?_
    rw [← List.append_assoc, ← List.append_assoc]
    exact List.Perm.append_right _ List.perm_append_comm
theorem StV.mid {A : DS} {B : L2.St} (hA : A.length = B.length) (hU : U.length = W.length) (s : StV K g Z H δ σ (A ++ (U ++ S)) (B ++ (W ++ T))) : StV K g Z H δ σ (A ++ S) (B ++ T) := by
  obtain ⟨Fs, Ft, h1, h2, w⟩ := s
  obtain ⟨F1, F2, f, a1, a2⟩ := RepS.append hA h2
  obtain ⟨F3, F4, f2, a3, a4⟩ := RepS.append hU a2
  have app : ∀ {A : DS} {B : L2.St} {F : List Addr}, RepS K Z H A B F → RepS K Z H (A ++ S) (B ++ T) (F ++ F4) := by
    intro A
    induction A with
    | nil =>
      intro B F h
      obtain ⟨e1, e2⟩ : B = [] ∧ F = [] := h
      subst e1 e2
      exact a4
    | cons x A ih =>
      intro B F ⟨y, r, G1, G2, e, f, q1, q2⟩
      subst e f
      exact ⟨y, r ++ T, G1, G2 ++ F4, rfl, by rw [List.append_assoc], q1, ih q2⟩
  refine ⟨Fs, F1 ++ F4, h1, app a1, w.sub ?_⟩
  rw [f, f2]
  exact List.Sublist.append (List.Sublist.refl _) (List.Sublist.append (List.Sublist.refl _) (List.sublist_append_right _ _))
theorem StV.popN (hU : U.length = W.length) (s : StV K g Z H δ σ (U ++ S) (W ++ T)) : StV K g Z H δ σ S T := StV.mid (A := []) (B := []) rfl hU s
/-- out of its slot -/
theorem StV.mv {i : Nat} (s : StV K g Z H δ σ S T) (h : δ[i]? = some (some o)) (hv : σ[i]? = some (some v)) : StV K g Z H (δ.set i none) σ (some o :: S) (some v :: T) := by
  obtain ⟨Fs, Ft, h1, h2, w⟩ := s
  obtain ⟨y0, Fi, Fr, e, p, q, put⟩ := h1.at h
  rw [hv] at e
  cases e
  obtain ⟨F', s1, s2⟩ := put Z H none (some v) [] (Keep.refl Z H) (fun _ _ _ h => h) rfl
  rw [set_self hv] at s1
  refine ⟨F', Fi ++ Ft, s1, ⟨some v, T, Fi, Ft, rfl, rfl, q, h2⟩, w.perm ?_⟩
  refine (List.Perm.append_right _ p).trans ?_
  rw [List.append_assoc]
  refine (List.Perm.append_left _ (List.Perm.append_right _ s2.symm)).trans ?_
  rw [← List.append_assoc, ← List.append_assoc]
  exact List.Perm.append_right _ List.perm_append_comm
end
/-! ### statements -/
inductive Fl where
  | nx (δ : DS) | rt (o : O) (δ : DS) | bk (δ : DS) | ct (δ : DS)
abbrev SF := DS → Option Fl
/-- the slots of M hold what they held -/
def Agree (M : List Nat) (σ σ' : L2.St) : Prop := σ'.length = σ.length ∧ ∀ i ∈ M, σ'[i]? = σ[i]?
theorem Agree.refl (M : List Nat) (σ : L2.St) : Agree M σ σ := ⟨rfl, fun _ _ => rfl⟩
theorem Agree.trans {M : List Nat} {σ σ' σ'' : L2.St} (a : Agree M σ σ') (b : Agree M σ' σ'') : Agree M σ σ'' := ⟨b.1.trans a.1, fun i hi => (b.2 i hi).trans (a.2 i hi)⟩
def PostS (K : PySem.W.Frag) (M : List Nat) (g : Gx) (σ : L2.St) (S : DS) (T : L2.St) (D : Ends) : Fl → Prop
  | .nx δ' => ∀ σ' Z' H', StV K g Z' H' δ' σ' S T → Agree M σ σ' → D.nx σ' H'
  | .rt o δ' => ∀ v σ' Z' H', StV K g Z' H' δ' σ' (some o :: S) (some v :: T) → Agree M σ σ' → D.rt v H'
  | .bk δ' => ∀ σ' Z' H', StV K g Z' H' δ' σ' S T → Agree M σ σ' → D.bk σ' H'
  | .ct δ' => ∀ σ' Z' H', StV K g Z' H' δ' σ' S T → Agree M σ σ' → D.ct σ' H'
def rdS (K : PySem.W.Frag) (M : List Nat) (f : SF) : TS := fun D σ H => ∃ g Z δ S T r, StV K g Z H δ σ S T ∧ f δ = some r ∧ PostS K M g σ S T D r
theorem PostS.agree {K : PySem.W.Frag} {M : List Nat} {g : Gx} {σ σ1 : L2.St} {S : DS} {T : L2.St} {D : Ends} {fl : Fl} (p : PostS K M g σ S T D fl) (a : Agree M σ σ1) : PostS K M g σ1 S T D fl := by
  cases fl with
  | nx δ' => exact fun σ' Z' H' st ag => p σ' Z' H' st (a.trans ag)
  | rt o δ' => exact fun v σ' Z' H' st ag => p v σ' Z' H' st (a.trans ag)
  | bk δ' => exact fun σ' Z' H' st ag => p σ' Z' H' st (a.trans ag)
  | ct δ' => exact fun σ' Z' H' st ag => p σ' Z' H' st (a.trans ag)
section
variable {X : Cx} {M : List Nat} {pos : Pos} {st : Stmt} {rest : List Stmt} {e : Expr} {f fr : SF} {fe : XF}
theorem PSi {t t' : TS} (h : PS X st t) (k : ∀ D σ H, t' D σ H → t D σ H) : PS X st t' := ⟨fun pins s σ H D I q => h.run pins s σ H D I (k D σ H q)⟩
theorem PSsi {sts : List Stmt} {t t' : TS} (h : PSs X sts t) (k : ∀ D σ H, t' D σ H → t D σ H) : PSs X sts t' := ⟨fun pins s σ H D I q => h.run pins s σ H D I (k D σ H q)⟩
abbrev VX (X : Cx) (M : List Nat) (st : Stmt) (f : SF) : Prop := PS X st (rdS X.K M f)
abbrev VXs (X : Cx) (M : List Nat) (st : List Stmt) (f : SF) : Prop := PSs X st (rdS X.K M f)
def sNil : SF := fun δ => some (.nx δ)
def sNev : SF := fun _ => none
def sSeq (f fr : SF) : SF := fun δ => (f δ).bind fun r => match r with
  | .nx δ' => fr δ'
  | r => some r
theorem vs_nil : VXs X M [] sNil := PSsi pss_nil fun D σ H ⟨g, Z, δ, S, T, r, st, hf, post⟩ => by
  cases hf
  exact post σ Z H st (Agree.refl _ _)
theorem vs_never : VX X M st sNev := PSi ps_never fun D σ H ⟨g, Z, δ, S, T, r, st, hf, post⟩ => by cases hf
theorem vss_never {sts : List Stmt} : VXs X M sts sNev := PSsi pss_never fun D σ H ⟨g, Z, δ, S, T, r, st, hf, post⟩ => by cases hf
theorem vs_cons (h1 : VX X M st f) (h2 : VXs X M rest fr) : VXs X M (st :: rest) (sSeq f fr) := PSsi (pss_cons h1 h2) fun D σ H ⟨g, Z, δ, S, T, r, st, hf, post⟩ => by
  simp only [sSeq, Option.bind_eq_some_iff] at hf
  obtain ⟨fl, h3, h4⟩ := hf
  refine ⟨g, Z, δ, S, T, fl, st, h3, ?_⟩
  cases fl with
  | nx δ' => exact fun σ' Z' H' st' ag => ⟨g, Z', δ', S, T, r, st', h4, post.agree ag⟩
  | rt o δ' => cases h4; exact post
  | bk δ' => cases h4; exact post
  | ct δ' => cases h4; exact post
theorem vs_one (h1 : VX X M st f) : VXs X M [st] f := pss_one h1
theorem vs_pass : VX X M (.Pass pos) sNil := PSi ps_pass fun D σ H ⟨g, Z, δ, S, T, r, st, hf, post⟩ => by
  cases hf
  exact post σ Z H st (Agree.refl _ _)
theorem vs_brk : VX X M (.Break pos) (fun δ => some (.bk δ)) := PSi ps_break fun D σ H ⟨g, Z, δ, S, T, r, st, hf, post⟩ => by
  cases hf
  exact post σ Z H st (Agree.refl _ _)
theorem vs_cont : VX X M (.Continue pos) (fun δ => some (.ct δ)) := PSi ps_continue fun D σ H ⟨g, Z, δ, S, T, r, st, hf, post⟩ => by
  cases hf
  exact post σ Z H st (Agree.refl _ _)
/-- an expression, dropped -/
def sExpr (fe : XF) : SF := fun δ => (fe δ).map fun r => .nx r.2
theorem vs_expr (he : VE X e fe) (hs : swapsWith e none pos.line X.env = pure false := by rfl) : VX X M (.Expr e pos) (sExpr fe) := PSi (ps_expr he hs) fun D σ H ⟨g, Z, δ, S, T, r, st, hf, post⟩ => by
  simp only [sExpr, Option.map_eq_some_iff] at hf
  obtain ⟨⟨ev, δ1⟩, h1, rfl⟩ := hf
  exact ⟨g, Z, δ, S, T, _, st, h1, fun v Z1 H1 st1 al1 => post σ Z1 H1 st1.pop (Agree.refl _ _)⟩
/-- return: what stands in a slot that is no parameter leaves as it is -/
def mvE (n : Nat) (δ : DS) : Ev → Option (O × DS)
  | .val o => some (o, δ)
  | .at i => if i < n then tk δ (.at i) else match δ[i]? with
    | some (some o) => some (o, δ.set i none)
    | _ => none
def sRet (n : Nat) (fe : XF) : SF := fun δ => (fe δ).bind fun r => (mvE n r.2 r.1).map fun r => .rt r.1 r.2
theorem vs_ret (n : Nat) (he : VE X e fe) : VX X M (.Return (some e) pos) (sRet n fe) := PSi (ps_ret he) fun D σ H ⟨g, Z, δ, S, T, r, st, hf, post⟩ => by
  simp only [sRet, Option.bind_eq_some_iff, Option.map_eq_some_iff] at hf
  obtain ⟨⟨ev, δ1⟩, h1, ⟨o, δ2⟩, h2, rfl⟩ := hf
  refine ⟨g, Z, δ, S, T, _, st, h1, fun v Z1 H1 st1 al1 => ?_⟩
  cases ev with
  | val o' =>
    cases h2
    exact post v σ Z1 H1 st1 (Agree.refl _ _)
  | «at» i =>
    simp only [mvE] at h2
    split at h2
    · obtain ⟨Z2, st2, _⟩ := st1.tk al1 h2
      exact post v σ Z2 H1 st2 (Agree.refl _ _)
    · split at h2
      · rename_i o' q
        cases h2
        exact post v σ Z1 H1 (st1.pop.mv q al1) (Agree.refl _ _)
      · cases h2
theorem vs_ret0 : VX X M (.Return none pos) (fun δ => some (.rt (.sh .non) δ)) := PSi ps_retN fun D σ H ⟨g, Z, δ, S, T, r, st, hf, post⟩ => by
  cases hf
  exact post .non σ Z H (st.push Res.non) (Agree.refl _ _)
def sIf (t : TF) (fa fb : SF) : SF := fun δ => (t δ).bind fun r => if r.1 then fa r.2 else fb r.2
theorem vs_if {c : Expr} {a b : List Stmt} {tc : TF} {fa fb : SF} (hc : VT X c tc) (ha : VXs X M a fa) (hb : VXs X M b fb) : VX X M (.If c a b pos) (sIf tc fa fb) := PSi (ps_if hc ha hb) fun D σ H ⟨g, Z, δ, S, T, r, st, hf, post⟩ => by
  simp only [sIf, Option.bind_eq_some_iff] at hf
  obtain ⟨⟨k, δ1⟩, h1, h2⟩ := hf
  refine ⟨g, Z, δ, S, T, _, st, h1, fun Z1 H1 st1 => ?_⟩
  cases k with
  | true => exact ⟨g, Z1, δ1, S, T, r, st1, h2, post⟩
  | false => exact ⟨g, Z1, δ1, S, T, r, st1, h2, post⟩
/-! ### targets -/
abbrev GF := D → DS → Option DS
def Out (L : List Nat) (σ σ' : L2.St) : Prop := σ'.length = σ.length ∧ ∀ j, j ∉ L → σ'[j]? = σ[j]?
def rdG (K : PySem.W.Frag) (L : List Nat) (gt : GF) : TG := fun v σ H Q => ∃ g Z δ S T d δ', StV K g Z H δ σ (some (.sh d) :: S) (some v :: T) ∧ gt d δ = some δ' ∧
  ∀ σ' Z' H', StV K g Z' H' δ' σ' S T → Out L σ σ' → Q σ' H'
def rdGs (K : PySem.W.Frag) (L : List Nat) (gt : List D → DS → Option DS) : TGs := fun vs σ H Q => ∃ g Z δ S T ds δ', ds.length = vs.length ∧ StV K g Z H δ σ (ds.map (fun d => some (.sh d)) ++ S) (vs.map some ++ T) ∧ gt ds δ = some δ' ∧
  ∀ σ' Z' H', StV K g Z' H' δ' σ' S T → Out L σ σ' → Q σ' H'
theorem PGi {t t' : TG} (h : PG X e t) (k : ∀ v σ H Q, t' v σ H Q → t v σ H Q) : PG X e t' := ⟨fun pins s σ H v u Q I r q => h.run pins s σ H v u Q I r (k v σ H Q q)⟩
theorem PGsi {es : List Expr} {t t' : TGs} (h : PGs X es t) (k : ∀ v σ H Q, t' v σ H Q → t v σ H Q) : PGs X es t' := ⟨fun pins s σ H v u Q I r q => h.run pins s σ H v u Q I r (k v σ H Q q)⟩
abbrev VG (X : Cx) (L : List Nat) (e : Expr) (gt : GF) : Prop := PG X e (rdG X.K L gt)
abbrev VGs (X : Cx) (L : List Nat) (es : List Expr) (gt : List D → DS → Option DS) : Prop := PGs X es (rdGs X.K L gt)
def gN (i : Nat) : GF := fun d δ => some (δ.set i (some (.sh d)))
def gsNil : List D → DS → Option DS
  | [], δ => some δ
  | _, _ => none
def gsCons (gt : GF) (gr : List D → DS → Option DS) : List D → DS → Option DS
  | d :: ds, δ => (gt d δ).bind (gr ds)
  | _, _ => none
def gT (n : Nat) (gts : List D → DS → Option DS) : GF
  | .tup ds, δ => if ds.length = n then gts ds δ else none
  | _, _ => none
theorem Out.set (σ : L2.St) (i : Nat) (y : Option V) : Out [i] σ (σ.set i y) := ⟨by simp, fun j hj => by
  rw [List.getElem?_set_ne]
  exact fun h => hj (by rw [h]; exact List.mem_singleton_self _)⟩
theorem vg_name {i : Nat} (h : PG X e (gName i)) : VG X [i] e (gN i) := PGi h fun v σ H Q ⟨g, Z, δ, S, T, d, δ', st, hf, post⟩ => by
  cases hf
  exact post _ Z H st.asgY (Out.set _ _ _)
theorem vgs_nil : VGs X [] [] gsNil := PGsi pgs_nil fun vs σ H Q ⟨g, Z, δ, S, T, ds, δ', hl, st, hf, post⟩ => by
  cases ds with
  | nil =>
    cases hf
    have e : vs = [] := List.eq_nil_of_length_eq_zero hl.symm
    subst e
    exact ⟨rfl, post σ Z H st ⟨rfl, fun _ _ => rfl⟩⟩
  | cons _ _ => cases hf
theorem Out.trans {L L' : List Nat} {σ σ' σ'' : L2.St} (a : Out L σ σ') (b : Out L' σ' σ'') : Out (L ++ L') σ σ'' := ⟨b.1.trans a.1, fun j hj => (b.2 j fun h => hj (List.mem_append_right _ h)).trans (a.2 j fun h => hj (List.mem_append_left _ h))⟩
theorem vgs_cons {L L' : List Nat} {es : List Expr} {gt : GF} {gr : List D → DS → Option DS} (h1 : VG X L e gt) (h2 : VGs X L' es gr)
    (hs : (assignEach (e :: es) X.env).map (·.2) = assign e X.env :: (assignEach es X.env).map (·.2) := by rfl) : VGs X (L ++ L') (e :: es) (gsCons gt gr) := PGsi (pgs_cons h1 h2 hs) fun vs σ H Q ⟨g, Z, δ, S, T, ds, δ', hl, st, hf, post⟩ => by
  cases ds with
  | nil => cases hf
  | cons d ds =>
    cases vs with
    | nil => simp at hl
    | cons v vs =>
      simp only [gsCons, Option.bind_eq_some_iff] at hf
      obtain ⟨δ1, q1, q2⟩ := hf
      refine ⟨v, vs, rfl, g, Z, δ, _, _, d, δ1, st, q1, fun σ1 Z1 H1 st1 o1 => ?_⟩
      exact ⟨g, Z1, δ1, S, T, ds, δ', by simpa using hl, st1, q2, fun σ2 Z2 H2 st2 o2 => post σ2 Z2 H2 st2 (o1.trans o2)⟩
theorem RepL.toS {K : PySem.W.Frag} {Z : Addr → Prop} {H : Hp} {S : DS} {T : L2.St} {F : List Addr} (h : RepS K Z H S T F) : ∀ {ds : List D} {vs : List V}, RepL K Z H ds vs → RepS K Z H (ds.map (fun d => some (.sh d)) ++ S) (vs.map some ++ T) F
  | [], vs, r => by
    simp only [RepL] at r
    subst r
    exact h
  | d :: ds, vs, r => by
    simp only [RepL] at r
    obtain ⟨v, r', rfl, r1, r2⟩ := r
    refine ⟨some v, _, [], F, rfl, rfl, ?_, RepL.toS h r2⟩
    show RepO K Z H (.sh d) v []
    simp only [RepO]
    exact ⟨trivial, r1⟩
theorem vg_tup {L : List Nat} {es : List Expr} {k : Nat} {gts : List D → DS → Option DS} {n : Nat} (hc : X.calm = true) (h : VGs X L es gts)
    (hn : (assignEach es X.env).length = n := by rfl) (hst : (assignEach es X.env).findIdx? (·.1) = none := by rfl) : VG X L (.Tuple es k pos) (gT n gts) := PGi (pg_tup hc h hn hst) fun v σ H Q ⟨g, Z, δ, S, T, d, δ', st, hf, post⟩ => by
  cases d <;> simp only [gT, reduceCtorEq] at hf
  rename_i ds
  split at hf
  · rename_i hd
    obtain ⟨F, ro⟩ := st.top
    simp only [RepO, RepD] at ro
    obtain ⟨_, a, vs, rfl, ha, ra⟩ := ro
    refine ⟨a, vs, rfl, SqT.of ha, by rw [← ra.length]; exact hd, g, Z, δ, S, T, ds, δ', ra.length, ?_, hf, post⟩
    obtain ⟨Fs, Ft, h1, h2, w⟩ := st.pop
    exact ⟨Fs, Ft, h1, RepL.toS h2 ra, w⟩
  · cases hf
theorem Out.agree {L M : List Nat} {σ σ' : L2.St} (o : Out L σ σ') (h : (M.all fun i => !L.contains i) = true) : Agree M σ σ' := ⟨o.1, fun i hi => o.2 i fun hl => by
  have q := List.all_eq_true.mp h i hi
  simp at q
  exact q hl⟩
/-! ### assignments -/
def sSet (i : Nat) (fe : XF) : SF := fun δ => (fe δ).bind fun r => (tk r.2 r.1).map fun r => .nx (r.2.set i (some r.1))
theorem set_core {te : TE} {i : Nat} {fe : XF} {D : Ends} {σ : L2.St} {H : Hp} (hM : M.contains i = false) (ht : ∀ σ H Q, rdE X.K fe σ H Q → te σ H Q) (h : rdS X.K M (sSet i fe) D σ H) : tAsg te (gName i) D σ H := by
  obtain ⟨g, Z, δ, S, T, r, st, hf, post⟩ := h
  simp only [sSet, Option.bind_eq_some_iff, Option.map_eq_some_iff] at hf
  obtain ⟨⟨ev, δ1⟩, h1, ⟨o, δ2⟩, h2, rfl⟩ := hf
  refine ht _ _ _ ⟨g, Z, δ, S, T, _, st, h1, fun v Z1 H1 st1 al1 => ?_⟩
  obtain ⟨Z2, st2, _⟩ := st1.tk al1 h2
  refine post _ Z2 H1 st2.asgY ((Out.set σ i (some v)).agree ?_)
  rw [List.all_eq_true]
  intro j hj
  simp only [List.contains_cons, List.contains_nil, Bool.or_false, Bool.not_eq_true', beq_eq_false_iff_ne]
  intro e
  subst e
  have : M.contains j = true := by simpa using hj
  rw [this] at hM
  cases hM
theorem vs_set {i : Nat} {x : Str} {pos' : Pos} (hM : M.contains i = false) (hN : X.N.Nodup) (hi : X.N[i]? = some x) (hx : Loc X.env.scope x) (he : VE X e fe) (hs : swapsWith e (some (.Name x pos')) pos.line X.env = pure false := by rfl)
    (hf : X.fn x = true ∨ X.env.scope.names.lookup x = some .local := by first | exact .inl rfl | exact .inr rfl | assumption) : VX X M (.Assign [.Name x pos'] e pos) (sSet i fe) :=
  PSi (ps_set hN hi hx he hs hf) fun D σ H h => set_core hM (fun _ _ _ q => q) h
def sAsg (gt : GF) (fe : XF) : SF := fun δ => (fe δ).bind fun r => (tk r.2 r.1).bind fun r => (gt r.1.fz r.2).map .nx
theorem vs_asg {L : List Nat} {tg : Expr} {gt : GF} (hM : (M.all fun i => !L.contains i) = true) (he : VE X e fe) (hg : VG X L tg gt) (hs : swapsWithSole [tg] e pos.line X.env = pure false := by rfl) (hw : swappedStores [tg] e X.env = pure none := by rfl)
    (h1 : (assignEach [tg] X.env).map (·.2) = [assign tg X.env] := by rfl) : VX X M (.Assign [tg] e pos) (sAsg gt fe) := PSi (ps_asg he hg hs hw h1) fun D σ H ⟨g, Z, δ, S, T, r, st, hf, post⟩ => by
  simp only [sAsg, Option.bind_eq_some_iff, Option.map_eq_some_iff] at hf
  obtain ⟨⟨ev, δ1⟩, h1, ⟨o, δ2⟩, h2, δ3, h3, rfl⟩ := hf
  refine ⟨g, Z, δ, S, T, _, st, h1, fun v Z1 H1 st1 al1 => ?_⟩
  obtain ⟨Z2, st2, rd⟩ := st1.tkD al1 h2
  exact ⟨g, Z2, δ2, S, T, o.fz, δ3, st2, h3, fun σ' Z' H' st' ou => post σ' Z' H' st' (ou.agree hM)⟩
/-- a, b = x, y -/
def sPar (i j : Nat) (fs : BF) : SF := fun δ => (fs δ).bind fun r => match r.1 with
  | [o1, o2] => some (.nx ((r.2.set j (some o2)).set i (some o1)))
  | _ => none
theorem vs_par {i j : Nat} {x y : Str} {a b : Expr} {fs : BF} {px py pt : Pos} {kt k2 pt2} (hM : (M.all fun k => ![i, j].contains k) = true) (hc : X.calm = true) (hN : X.N.Nodup) (hi : X.N[i]? = some x) (hj : X.N[j]? = some y) (hij : i ≠ j)
    (hx : X.env.scope.names.lookup x = some .local) (hy : X.env.scope.names.lookup y = some .local) (ha : VB X [a, b] fs)
    (hw : swappedStores [.Tuple [.Name x px, .Name y py] kt pt] (.Tuple [a, b] k2 pt2) X.env = pure (some [x, y]))
    (hs : swapsWithSole [.Tuple [.Name x px, .Name y py] kt pt] (.Tuple [a, b] k2 pt2) pos.line X.env = pure false := by rfl) :
    VX X M (.Assign [.Tuple [.Name x px, .Name y py] kt pt] (.Tuple [a, b] k2 pt2) pos) (sPar i j fs) := PSi (ps_par hc hN hi hj hij hx hy ha hw hs) fun D σ H ⟨g, Z, δ, S, T, r, st, hf, post⟩ => by
  simp only [sPar, Option.bind_eq_some_iff] at hf
  obtain ⟨⟨os, δ1⟩, h1, h2⟩ := hf
  refine ⟨g, Z, δ, S, T, _, st, h1, fun vs Z1 H1 st1 hl => ?_⟩
  split at h2
  · rename_i o1 o2 q
    have q' : os = [o1, o2] := q
    subst q'
    cases h2
    obtain ⟨v, w, rfl⟩ : ∃ v w, vs = [v, w] := by
      match vs, hl with
      | [v, w], _ => exact ⟨v, w, rfl⟩
    have st2 : StV X.K g Z1 H1 δ1 σ (some o2 :: some o1 :: S) (some w :: some v :: T) := st1
    have st3 := (st2.asgY (i := j)).asgY (i := i)
    refine ⟨v, w, rfl, post _ Z1 H1 (by rw [List.set_comm _ _ hij]; exact st3) ?_⟩
    have o3 := (Out.set σ i (some v)).trans (Out.set (σ.set i (some v)) j (some w))
    exact o3.agree hM
  · cases h2
end
end VS

namespace VS
open PySem PySem.Spec L2
/-! ### what is walked -/
structure ItW (K : PySem.W.Frag) (g : Gx) (J : It) (ds : List D) (U : DS) (W : L2.St) : Prop where
  go : ∀ Z H δ σ S T, StV K g Z H δ σ (U ++ S) (W ++ T) → ∀ i d, ds[i]? = some d → J.go i H ∧ ∀ x H2, J.yld i H x H2 → Res K Z H (.sh d) x H2
  stop : ∀ Z H δ σ S T, StV K g Z H δ σ (U ++ S) (W ++ T) → J.stop ds.length H
abbrev IF := DS → Option (List D × DS)
def rdI (K : PySem.W.Frag) (f : IF) : TI := fun σ H R => ∃ g Z δ S T r, StV K g Z H δ σ S T ∧ f δ = some r ∧
  ∀ J U W Z' H', U.length = W.length → StV K g Z' H' r.2 σ (U ++ S) (W ++ T) → ItW K g J r.1 U W → R J H'
section
variable {X : Cx} {tg e : Expr}
theorem PIi {t t' : TI} (h : PI X tg e t) (k : ∀ σ H R, t' σ H R → t σ H R) : PI X tg e t' := ⟨fun pins s σ H R I q => h.run pins s σ H R I (k σ H R q)⟩
abbrev VI (X : Cx) (tg e : Expr) (f : IF) : Prop := PI X tg e (rdI X.K f)
def iAny (K : PySem.W.Frag) (tl : TE) : TI := fun σ H R => tl σ H fun x H1 => (∃ a, x = .ref a ∧ (∃ xs, SqL K H1 a xs) ∧ R (Itl K a) H1) ∨ (∃ a, x = .ref a ∧ (∃ xs, SqT K H1 a xs) ∧ R (Itt K a) H1) ∨ ∃ z, x = .str z ∧ R (Its z) H1
theorem pi_any {l : Expr} {tl : TE} (hl : PE X l tl) : PI X tg l (iAny X.K tl) := by
  refine ⟨fun pins s σ H R I h => ?_⟩
  refine thn (hl.run pins s σ H _ I h) fun v s1 ⟨x, H1, I1, r1, q1⟩ => ?_
  rcases q1 with ⟨a, e, ⟨xs, hq⟩, q⟩ | ⟨a, e, ⟨xs, hq⟩, q⟩ | ⟨x, ex, q⟩
  · subst e
    cases r1
    obtain ⟨its, rv, p, hz⟩ := I1.list hq
    refine wpAny_pyIter_list p.isList ?_
    refine ⟨s1.heap.objs.size, [s1.heap.objs.size], _, _, H1, rfl, I1.kept (t' := s1.toks) fun b o e => Heap.get?_push_of_some _ e, turn_list a _, ⟨_, Heap.get?_push_size _ rfl, rfl, rfl⟩, fun b hb => ?_, q⟩
    have e : b = s1.heap.objs.size := by simpa using hb
    subst e
    exact I1.fpOk (Nat.le_refl _) (I1.hok.fresh (Nat.le_refl _))
  · subst e
    cases r1
    obtain ⟨its, rv, p, hz⟩ := I1.tuple hq
    refine wpAny_pyIter_tuple (show s1.heap.IsTuple a its.toArray from p) ?_
    refine ⟨s1.heap.objs.size, [s1.heap.objs.size], _, _, H1, rfl, I1.kept (t' := s1.toks) fun b o e => Heap.get?_push_of_some _ e, turn_tuple a _, ⟨_, Heap.get?_push_size _ rfl, rfl, rfl⟩, fun b hb => ?_, q⟩
    have e : b = s1.heap.objs.size := by simpa using hb
    subst e
    exact I1.fpOk (Nat.le_refl _) (I1.hok.fresh (Nat.le_refl _))
  · subst ex
    obtain ⟨t, rfl⟩ := r1
    cases ha : x.cps.all (· < 128)
    · exact wpAny_pyIter_wide ha (pi_one (tk := s1.toks) I1 _ (turn_str _ x t "str_iterator" (.inr rfl)) ⟨_, Heap.get?_push_size _ rfl, rfl, rfl⟩ q)
    · exact wpAny_pyIter_ascii ha (pi_one (tk := s1.toks) I1 _ (turn_str _ x t "str_ascii_iterator" (.inl rfl)) ⟨_, Heap.get?_push_size _ rfl, rfl, rfl⟩ q)
/-- the items of a list, a tuple, a text -/
def itemsOf : D → Option (List D)
  | .lst ds => some ds
  | .tup ds => some ds
  | .scr ns => some (ns.map .int)
  | .str z => some (z.cps.toList.map fun c => .str ⟨#[c]⟩)
  | _ => none
def iSeq (fe : XF) : IF := fun δ => (fe δ).bind fun r => (tk r.2 r.1).bind fun r => (itemsOf r.1.fz).map fun ds => (ds, r.2)
theorem topD {K : PySem.W.Frag} {g : Gx} {Z : Addr → Prop} {H : Hp} {δ S : DS} {σ T : L2.St} {d : D} {v : V} (s : StV K g Z H δ σ (some (.sh d) :: S) (some v :: T)) : RepD K Z H d v := by
  obtain ⟨F, ro⟩ := s.top
  simp only [RepO] at ro
  exact ro.2
theorem vi_seq (he : VE X e fe) : VI X tg e (iSeq fe) := PIi (pi_any he) fun σ H R ⟨g, Z, δ, S, T, r, st, hf, post⟩ => by
  simp only [iSeq, Option.bind_eq_some_iff, Option.map_eq_some_iff] at hf
  obtain ⟨⟨ev, δ1⟩, h1, ⟨o, δ2⟩, h2, ds, h3, rfl⟩ := hf
  refine ⟨g, Z, δ, S, T, _, st, h1, fun v Z1 H1 st1 al1 => ?_⟩
  obtain ⟨Z2, st2, rd⟩ := st1.tkD al1 h2
  generalize hd : o.fz = d at h3 st2 rd
  cases d <;> simp only [itemsOf, reduceCtorEq] at h3
  · rename_i z
    cases h3
    have rd' : v = .str z := by simpa only [RepD] using rd
    refine .inr (.inr ⟨z, rd', post _ [some (.sh (.str z))] [some v] Z2 H1 rfl st2 ⟨fun Z H δ σ S T s i d e => ?_, fun Z H δ σ S T s => ?_⟩⟩)
    · rw [List.getElem?_map] at e
      obtain ⟨c, e1, e2⟩ := Option.map_eq_some_iff.mp e
      have e1' : z.cps[i]? = some c := by simpa using e1
      refine ⟨(Array.getElem?_eq_some_iff.mp e1').1, fun x H2 ⟨q1, c', q2, q3⟩ => ?_⟩
      rw [e1'] at q2
      cases q2
      subst q1 q3 e2
      exact Res.str
    · show z.cps.size ≤ _
      simp
  · rename_i es
    cases h3
    have rd' := rd
    simp only [RepD] at rd'
    obtain ⟨a, vs, rfl, ha, ra⟩ := rd'
    refine .inr (.inl ⟨a, rfl, ⟨vs, SqT.of ha⟩, post _ [some (.sh (.tup ds))] [some (.ref a)] Z2 H1 rfl st2 ⟨fun Z H δ σ S T s i d e => ?_, fun Z H δ σ S T s => ?_⟩⟩)
    · have q := topD s
      simp only [RepD] at q
      obtain ⟨b, ws, eb, hb, rb⟩ := q
      cases eb
      obtain ⟨x, e1, r1⟩ := rb.get e
      exact ⟨⟨ws, x, SqT.of hb, e1⟩, fun y H2 ⟨q1, q2⟩ => by
        have q3 := q2 ws (SqT.of hb)
        rw [e1] at q3
        cases q3
        subst q1
        exact Res.sc r1⟩
    · have q := topD s
      simp only [RepD] at q
      obtain ⟨b, ws, eb, hb, rb⟩ := q
      cases eb
      exact ⟨ws, SqT.of hb, Nat.le_of_eq rb.length.symm⟩
  · rename_i es
    cases h3
    have rd' := rd
    simp only [RepD] at rd'
    obtain ⟨a, vs, rfl, _, ha, ra⟩ := rd'
    refine .inl ⟨a, rfl, ⟨vs, SqL.of ha⟩, post _ [some (.sh (.lst ds))] [some (.ref a)] Z2 H1 rfl st2 ⟨fun Z H δ σ S T s i d e => ?_, fun Z H δ σ S T s => ?_⟩⟩
    · have q := topD s
      simp only [RepD] at q
      obtain ⟨b, ws, eb, _, hb, rb⟩ := q
      cases eb
      obtain ⟨x, e1, r1⟩ := rb.get e
      exact ⟨⟨ws, x, SqL.of hb, e1⟩, fun y H2 ⟨q1, q2⟩ => by
        have q3 := q2 ws (SqL.of hb)
        rw [e1] at q3
        cases q3
        subst q1
        exact Res.sc r1⟩
    · have q := topD s
      simp only [RepD] at q
      obtain ⟨b, ws, eb, _, hb, rb⟩ := q
      cases eb
      exact ⟨ws, SqL.of hb, Nat.le_of_eq rb.length.symm⟩
  · rename_i ns
    cases h3
    obtain ⟨a, ea, hq⟩ := scr_seq rd
    subst ea
    refine .inl ⟨a, rfl, ⟨_, hq⟩, post _ [some (.sh (.scr ns))] [some (.ref a)] Z2 H1 rfl st2 ⟨fun Z H δ σ S T s i d e => ?_, fun Z H δ σ S T s => ?_⟩⟩
    · obtain ⟨b, eb, hb⟩ := scr_seq (topD s)
      cases eb
      rw [List.getElem?_map] at e
      obtain ⟨n, e1, e2⟩ := Option.map_eq_some_iff.mp e
      have e3 : (ns.map V.int)[i]? = some (.int n) := by rw [List.getElem?_map, e1]; rfl
      exact ⟨⟨_, _, hb, e3⟩, fun y H2 ⟨q1, q2⟩ => by
        have q3 := q2 _ hb
        rw [e3] at q3
        cases q3
        subst q1 e2
        exact Res.int⟩
    · obtain ⟨b, eb, hb⟩ := scr_seq (topD s)
      cases eb
      exact ⟨_, hb, by simp⟩
/-! range -/
def rngD (lo : Int) (n : Nat) : List D := (List.range n).map fun (i : Nat) => D.int (lo + (i : Int))
theorem itw_range {K : PySem.W.Frag} {g : Gx} (lo : Int) (n : Nat) : ItW K g (Itr lo n) (rngD lo n) [] [] := ⟨fun Z H δ σ S T s i d e => by
    unfold rngD at e
    rw [List.getElem?_map] at e
    obtain ⟨j, e1, e2⟩ := Option.map_eq_some_iff.mp e
    have hi : i < n := by
      have := (List.getElem?_eq_some_iff.mp e1).1
      simpa using this
    have e3 : j = i := by
      rw [List.getElem?_range hi] at e1
      exact (Option.some.inj e1).symm
    subst e3
    exact ⟨hi, fun x H2 ⟨q1, q2⟩ => by
      subst q1 q2 e2
      exact Res.int⟩, fun Z H δ σ S T s => by
    show n ≤ _
    simp [rngD]⟩
def inR (i : Int) : Bool := decide (-(2 ^ 62) ≤ i) && decide (i < 2 ^ 62)
def iRg1 (fs : BF) : IF := fun δ => (fs δ).bind fun r => match r.1 with
  | [.sh (.int j)] => if inR j then some (rngD 0 j.toNat, r.2) else none
  | _ => none
def iRg2 (fs : BF) : IF := fun δ => (fs δ).bind fun r => match r.1 with
  | [.sh (.int i), .sh (.int j)] => if inR i && inR j then some (rngD i (j - i).toNat, r.2) else none
  | _ => none
theorem topI {K : PySem.W.Frag} {g : Gx} {Z : Addr → Prop} {H : Hp} {δ S : DS} {σ T : L2.St} {i : Int} {v : V} (s : StV K g Z H δ σ (some (.sh (.int i)) :: S) (some v :: T)) : v = .int i := by
  have q := topD s
  simpa only [RepD] using q
theorem one_of {vs : List V} {n : Nat} (h : 1 = vs.length) : ∃ v, vs = [v] := by
  match vs, h with
  | [v], _ => exact ⟨v, rfl⟩
theorem two_of {vs : List V} (h : 2 = vs.length) : ∃ v w, vs = [v, w] := by
  match vs, h with
  | [v, w], _ => exact ⟨v, w, rfl⟩
theorem three_of {vs : List V} (h : 3 = vs.length) : ∃ v w u, vs = [v, w, u] := by
  match vs, h with
  | [v, w, u], _ => exact ⟨v, w, u, rfl⟩
theorem vi_range1 {a : Expr} {fs : BF} {p pos : Pos} (hg : Gl X "range") (hm : X.mg "range" = none) (ha : VB X [a] fs) (hs : starEach [a] X.env = [(false, eval a X.env)] := by rfl) : VI X tg (.Call (.Name "range" p) [a] [] pos) (iRg1 fs) :=
  PIi (pi_range1 hg hm ha hs) fun σ H R ⟨g, Z, δ, S, T, r, st, hf, post⟩ => by
  simp only [iRg1, Option.bind_eq_some_iff] at hf
  obtain ⟨⟨os, δ1⟩, h1, h2⟩ := hf
  refine ⟨g, Z, δ, S, T, _, st, h1, fun vs Z1 H1 st1 hl => ?_⟩
  split at h2
  · rename_i j q
    have q' : os = [.sh (.int j)] := q
    subst q'
    obtain ⟨v, rfl⟩ := one_of (n := 0) hl
    split at h2
    · rename_i hr
      cases h2
      unfold inR at hr
      simp only [Bool.and_eq_true, decide_eq_true_eq] at hr
      cases topI st1
      exact ⟨j, rfl, hr.1, hr.2, post _ [] [] Z1 H1 rfl st1.pop (itw_range 0 _)⟩
    · cases h2
  · cases h2
theorem vi_range2 {a b : Expr} {fs : BF} {p pos : Pos} (hg : Gl X "range") (hm : X.mg "range" = none) (ha : VB X [a, b] fs) (hs : starEach [a, b] X.env = [(false, eval a X.env), (false, eval b X.env)] := by rfl) (hs2 : starEach [b] X.env = [(false, eval b X.env)] := by rfl) :
    VI X tg (.Call (.Name "range" p) [a, b] [] pos) (iRg2 fs) :=
  PIi (pi_range2 hg hm ha hs hs2) fun σ H R ⟨g, Z, δ, S, T, r, st, hf, post⟩ => by
  simp only [iRg2, Option.bind_eq_some_iff] at hf
  obtain ⟨⟨os, δ1⟩, h1, h2⟩ := hf
  refine ⟨g, Z, δ, S, T, _, st, h1, fun vs Z1 H1 st1 hl => ?_⟩
  split at h2
  · rename_i i j q
    have q' : os = [.sh (.int i), .sh (.int j)] := q
    subst q'
    obtain ⟨v, w, rfl⟩ := two_of hl
    split at h2
    · rename_i hr
      cases h2
      unfold inR at hr
      simp only [Bool.and_eq_true, decide_eq_true_eq] at hr
      have st2 : StV X.K g Z1 H1 δ1 σ (some (.sh (.int j)) :: some (.sh (.int i)) :: S) (some w :: some v :: T) := st1
      cases topI st2
      cases topI st2.pop
      exact ⟨i, j, rfl, ⟨hr.1.1, hr.1.2, hr.2.1, hr.2.2⟩, post _ [] [] Z1 H1 rfl st2.drop2 (itw_range i _)⟩
    · cases h2
  · cases h2
/-- range(a, b, -1) -/
def iRg3 (fs : BF) : IF := fun δ => (fs δ).bind fun r => match r.1 with
  | [.sh (.int i), .sh (.int j), .sh (.int (-1))] => if inR i && inR j then some ((List.range (i - j).toNat).map fun (k : Nat) => D.int (i - (k : Int)), r.2) else none
  | _ => none
theorem vi_range3 {a b c : Expr} {fs : BF} {p pos : Pos} (hg : Gl X "range") (hm : X.mg "range" = none) (ha : VB X [a, b, c] fs)
    (hs : starEach [a, b, c] X.env = (false, eval a X.env) :: starEach [b, c] X.env := by rfl) (hpl : (backTo pos (starEach [b, c] X.env)).any (·.1) = false := by rfl) :
    VI X tg (.Call (.Name "range" p) [a, b, c] [] pos) (iRg3 fs) :=
  PIi (pi_range3 hg hm ha hs hpl) fun σ H R ⟨g, Z, δ, S, T, r, st, hf, post⟩ => by
  simp only [iRg3, Option.bind_eq_some_iff] at hf
  obtain ⟨⟨os, δ1⟩, h1, h2⟩ := hf
  refine ⟨g, Z, δ, S, T, _, st, h1, fun vs Z1 H1 st1 hl => ?_⟩
  split at h2
  · rename_i i j q
    have q' : os = [.sh (.int i), .sh (.int j), .sh (.int (-1))] := q
    subst q'
    obtain ⟨v, w, u, rfl⟩ := three_of hl
    split at h2
    · rename_i hr
      cases h2
      unfold inR at hr
      simp only [Bool.and_eq_true, decide_eq_true_eq] at hr
      have st2 : StV X.K g Z1 H1 δ1 σ (some (.sh (.int (-1))) :: some (.sh (.int j)) :: some (.sh (.int i)) :: S) (some u :: some w :: some v :: T) := st1
      cases topI st2
      cases topI st2.pop
      cases topI st2.pop.pop
      refine ⟨i, j, -1, (i - j).toNat, rfl, RgC.neg hr.1.1 hr.1.2 hr.2.1 hr.2.2, post _ [] [] Z1 H1 rfl st2.pop.drop2 ⟨fun Z H δ σ S T s k d e => ?_, fun Z H δ σ S T s => ?_⟩⟩
      · rw [List.getElem?_map] at e
        obtain ⟨m, e1, e2⟩ := Option.map_eq_some_iff.mp e
        have hk : k < (i - j).toNat := by
          have := (List.getElem?_eq_some_iff.mp e1).1
          simpa using this
        have e3 : m = k := by
          rw [List.getElem?_range hk] at e1
          exact (Option.some.inj e1).symm
        subst e3
        refine ⟨hk, fun x H2 ⟨q1, q2⟩ => ?_⟩
        have q3 : x = .int (i - (m : Int)) := by rw [q2]; congr 1; omega
        subst q1 q3 e2
        exact Res.int
      · show (i - j).toNat ≤ _
        simp
    · cases h2
  · cases h2
/-! enumerate, zip -/
def enumD : Nat → List D → List D
  | _, [] => []
  | n, d :: ds => .tup [.int n, d] :: enumD (n + 1) ds
theorem enumD_get : ∀ (n : Nat) (ds : List D) (i : Nat), (enumD n ds)[i]? = ds[i]?.map fun d => .tup [.int ((n + i : Nat) : Int), d]
  | n, [], i => by simp [enumD]
  | n, d :: ds, 0 => by simp [enumD]
  | n, d :: ds, i + 1 => by
    simp only [enumD, List.getElem?_cons_succ]
    rw [enumD_get (n + 1) ds i]
    have e : n + 1 + i = n + (i + 1) := by omega
    rw [e]
theorem enumD_length : ∀ (n : Nat) (ds : List D), (enumD n ds).length = ds.length
  | n, [] => rfl
  | n, d :: ds => by simp [enumD, enumD_length (n + 1) ds]
def iEnm (fs : BF) : IF := fun δ => (fs δ).bind fun r => match r.1 with
  | [o] => match o.fz with
    | .lst ds => some (enumD 0 ds, r.2)
    | _ => none
  | _ => none
theorem vi_enum {p pos tpos : Pos} {elts : List Expr} {kk : Nat} {fs : BF} (hg : Gl X "enumerate") (hm : X.mg "enumerate" = none) (ha : VB X [e] fs) (hs : starEach [e] X.env = [(false, eval e X.env)] := by rfl) :
    VI X (.Tuple elts kk tpos) (.Call (.Name "enumerate" p) [e] [] pos) (iEnm fs) := PIi (pi_enum hg hm ha hs) fun σ H R ⟨g, Z, δ, S, T, r, st, hf, post⟩ => by
  simp only [iEnm, Option.bind_eq_some_iff] at hf
  obtain ⟨⟨os, δ1⟩, h1, h2⟩ := hf
  refine ⟨g, Z, δ, S, T, _, st, h1, fun vs Z1 H1 st1 hl => ?_⟩
  split at h2
  · rename_i o q
    have q' : os = [o] := q
    subst q'
    obtain ⟨v, rfl⟩ := one_of (n := 0) hl
    split at h2
    · rename_i es q2
      cases h2
      obtain ⟨Z2, st2, rd⟩ := StV.frzT st1
      rw [q2] at st2 rd
      simp only [RepD] at rd
      obtain ⟨a, ws, rfl, _, ha, ra⟩ := rd
      refine ⟨a, ws, rfl, SqL.of ha, post _ [some (.sh (.lst es))] [some (.ref a)] Z2 H1 rfl st2 ⟨fun Z H δ σ S T s i d e => ?_, fun Z H δ σ S T s => ?_⟩⟩
      · have q := topD s
        simp only [RepD] at q
        obtain ⟨b, ws, eb, _, hb, rb⟩ := q
        cases eb
        rw [enumD_get] at e
        obtain ⟨x, e1, e2⟩ := Option.map_eq_some_iff.mp e
        obtain ⟨y, e3, r1⟩ := rb.get e1
        refine ⟨⟨ws, y, SqL.of hb, e3⟩, fun z H2 ⟨P, x', q1, q2, q3, q4⟩ => ?_⟩
        have q5 := q4 ws (SqL.of hb)
        rw [e3] at q5
        cases q5
        subst q1 q3 e2
        refine Res.tup q2 ?_
        simp only [RepL, RepD]
        exact ⟨_, _, rfl, by rw [Nat.zero_add], _, _, rfl, r1, rfl⟩
      · have q := topD s
        simp only [RepD] at q
        obtain ⟨b, ws, eb, _, hb, rb⟩ := q
        cases eb
        exact ⟨ws, SqL.of hb, by rw [enumD_length, rb.length]; exact Nat.le_refl _⟩
    · cases h2
  · cases h2
def zipD : List D → List D → List D
  | a :: as, b :: bs => .tup [a, b] :: zipD as bs
  | _, _ => []
theorem zipD_get : ∀ (as bs : List D) (i : Nat) (d : D), (zipD as bs)[i]? = some d → ∃ a b, as[i]? = some a ∧ bs[i]? = some b ∧ d = .tup [a, b]
  | a :: as, b :: bs, 0, d, h => by
    simp only [zipD, List.getElem?_cons_zero, Option.some.injEq] at h
    exact ⟨a, b, rfl, rfl, h.symm⟩
  | a :: as, b :: bs, i + 1, d, h => by
    simp only [zipD, List.getElem?_cons_succ] at h
    simpa using zipD_get as bs i d h
  | [], bs, i, d, h => by simp [zipD] at h
  | a :: as, [], i, d, h => by simp [zipD] at h
theorem zipD_length : ∀ (as bs : List D), as.length ≤ (zipD as bs).length ∨ bs.length ≤ (zipD as bs).length
  | a :: as, b :: bs => by
    rcases zipD_length as bs with h | h
    · exact .inl (by simp [zipD, h])
    · exact .inr (by simp [zipD, h])
  | [], bs => .inl (by simp [zipD])
  | a :: as, [] => .inr (by simp [zipD])
def iZp (fs : BF) : IF := fun δ => (fs δ).bind fun r => match r.1 with
  | [o1, o2] => match o1.fz, o2.fz with
    | .lst ds, .lst es => some (zipD ds es, r.2)
    | _, _ => none
  | _ => none
theorem vi_zip {a b : Expr} {p pos tpos : Pos} {elts : List Expr} {kk : Nat} {fs : BF} (hg : Gl X "zip") (hm : X.mg "zip" = none) (ha : VB X [a, b] fs)
    (hs : starEach [a, b] X.env = (false, eval a X.env) :: starEach [b] X.env := by rfl) (hpl : (backTo pos (starEach [b] X.env)).any (·.1) = false := by rfl) :
    VI X (.Tuple elts kk tpos) (.Call (.Name "zip" p) [a, b] [] pos) (iZp fs) := PIi (pi_zip hg hm ha hs hpl) fun σ H R ⟨g, Z, δ, S, T, r, st, hf, post⟩ => by
  simp only [iZp, Option.bind_eq_some_iff] at hf
  obtain ⟨⟨os, δ1⟩, h1, h2⟩ := hf
  refine ⟨g, Z, δ, S, T, _, st, h1, fun vs Z1 H1 st1 hl => ?_⟩
  split at h2
  · rename_i o1 o2 q
    have q' : os = [o1, o2] := q
    subst q'
    obtain ⟨v, w, rfl⟩ := two_of hl
    split at h2
    · rename_i ds es q1 q2
      cases h2
      have st2 : StV X.K g Z1 H1 δ1 σ (some o2 :: some o1 :: S) (some w :: some v :: T) := st1
      obtain ⟨Z2, st3, rl⟩ := StV.frzL (os := [o1, o2]) (vs := [v, w]) rfl st2
      simp only [List.map_cons, List.map_nil, q1, q2, RepL] at rl
      obtain ⟨_, _, e1, r1, _, _, e2, r2, e3⟩ := rl
      cases e1
      cases e2
      have st4 := (st3.pushD r1).pushD r2
      have r1' := r1
      have r2' := r2
      simp only [RepD] at r1' r2'
      obtain ⟨a, xs, rfl, _, ha, ra⟩ := r1'
      obtain ⟨b, ys, rfl, _, hb, rb⟩ := r2'
      refine ⟨a, b, xs, ys, rfl, SqL.of ha, SqL.of hb, post _ [some (.sh (.lst es)), some (.sh (.lst ds))] [some (.ref b), some (.ref a)] Z2 H1 rfl st4 ⟨fun Z H δ σ S T s i d e => ?_, fun Z H δ σ S T s => ?_⟩⟩
      · have s' : StV X.K g Z H δ σ (some (.sh (.lst es)) :: some (.sh (.lst ds)) :: S) (some (.ref b) :: some (.ref a) :: T) := s
        have p1 := topD s'
        have p2 := topD s'.pop
        simp only [RepD] at p1 p2
        obtain ⟨b', ws, eb, _, hb, rb⟩ := p1
        cases eb
        obtain ⟨a', zs, ea, _, ha, ra⟩ := p2
        cases ea
        obtain ⟨x, y, g1, g2, g3⟩ := zipD_get _ _ _ _ e
        obtain ⟨x', f1, rx⟩ := ra.get g1
        obtain ⟨y', f2, ry⟩ := rb.get g2
        refine ⟨⟨zs, ws, x', y', SqL.of ha, SqL.of hb, f1, f2⟩, fun z H2 ⟨P, x2, y2, q1, q2, q3, q4, q5⟩ => ?_⟩
        have q6 := q4 zs (SqL.of ha)
        have q7 := q5 ws (SqL.of hb)
        rw [f1] at q6
        rw [f2] at q7
        cases q6
        cases q7
        subst q1 q3 g3
        refine Res.tup q2 ?_
        simp only [RepL]
        exact ⟨_, _, rfl, rx, _, _, rfl, ry, rfl⟩
      · have s' : StV X.K g Z H δ σ (some (.sh (.lst es)) :: some (.sh (.lst ds)) :: S) (some (.ref b) :: some (.ref a) :: T) := s
        have p1 := topD s'
        have p2 := topD s'.pop
        simp only [RepD] at p1 p2
        obtain ⟨b', ws, eb, _, hb, rb⟩ := p1
        cases eb
        obtain ⟨a', zs, ea, _, ha, ra⟩ := p2
        cases ea
        refine ⟨zs, ws, SqL.of ha, SqL.of hb, ?_⟩
        rw [← ra.length, ← rb.length]
        exact zipD_length ds es
    · cases h2
  · cases h2
end
/-! ### for -/
def forL (gt : GF) (body : SF) : List D → DS → Option Fl
  | [], δ => some (.nx δ)
  | d :: ds, δ => (gt d δ).bind fun δ1 => (body δ1).bind fun fl => match fl with
    | .nx δ2 => forL gt body ds δ2
    | .ct δ2 => forL gt body ds δ2
    | .bk δ2 => some (.nx δ2)
    | .rt o δ2 => some (.rt o δ2)
def sFor (fi : IF) (gt : GF) (body : SF) : SF := fun δ => (fi δ).bind fun r => forL gt body r.1 r.2
section
variable {X : Cx} {M : List Nat}
theorem for_coreG {wi : TI} {L : List Nat} {gt : GF} {body : SF} {D : Ends} {g : Gx} {δ1 : DS} {S : DS} {σ T : L2.St} {H : Hp} {ds : List VS.D} {r : Fl} (hM : (M.all fun i => !L.contains i) = true)
    (hi : ∀ R : It → Hp → Prop, (∀ J U W Z' H', U.length = W.length → StV X.K g Z' H' δ1 σ (U ++ S) (W ++ T) → ItW X.K g J ds U W → R J H') → wi σ H R)
    (h2 : forL gt body ds δ1 = some r) (post : PostS X.K M g σ S T D r) : tFor wi (rdG X.K L gt) (rdS X.K M body) D σ H := by
  refine hi _ fun J U W Z1 H1 hU st1 iw => ?_
  refine ⟨fun i m σ' H' => m = ds.length - i ∧ i ≤ ds.length ∧ ∃ Z' δ', StV X.K g Z' H' δ' σ' (U ++ S) (W ++ T) ∧ forL gt body (ds.drop i) δ' = some r ∧ Agree M σ σ', ⟨_, rfl, Nat.zero_le _, Z1, δ1, st1, by simpa using h2, Agree.refl _ _⟩, ?_⟩
  rintro i m σ' H' ⟨rfl, hle, Z', δ', st', hl, ag⟩
  by_cases hlt : i < ds.length
  · have e : ds[i]? = some ds[i] := by simp [hlt]
    obtain ⟨go, yld⟩ := iw.go Z' H' δ' σ' S T st' i _ e
    have dr : ds.drop i = ds[i] :: ds.drop (i + 1) := List.drop_eq_getElem_cons hlt
    rw [dr] at hl
    simp only [forL, Option.bind_eq_some_iff] at hl
    obtain ⟨δ2, g1, fl, g2, g3⟩ := hl
    refine .inr ⟨go, fun σ3 H3 => ∃ Z3 δ3, StV X.K g Z3 H3 δ3 σ3 (U ++ S) (W ++ T) ∧ forL gt body (ds.drop (i + 1)) δ3 = some r ∧ Agree M σ σ3, fun σ3 H3 ⟨Z3, δ3, q1, q2, q3⟩ => ⟨ds.length - (i + 1), by omega, rfl, hlt, Z3, δ3, q1, q2, q3⟩, fun x H2 y => ?_⟩
    have rs := yld x H2 y
    refine ⟨g, Z', δ', U ++ S, W ++ T, ds[i], δ2, st'.push rs, g1, fun σ4 Z4 H4 st4 ou => ?_⟩
    have ag4 : Agree M σ σ4 := ag.trans (ou.agree hM)
    refine ⟨g, Z4, δ2, U ++ S, W ++ T, fl, st4, g2, ?_⟩
    cases fl with
    | nx δ5 => exact fun σ5 Z5 H5 st5 ag5 => ⟨Z5, δ5, st5, g3, ag4.trans ag5⟩
    | ct δ5 => exact fun σ5 Z5 H5 st5 ag5 => ⟨Z5, δ5, st5, g3, ag4.trans ag5⟩
    | bk δ5 =>
      cases g3
      exact fun σ5 Z5 H5 st5 ag5 => post σ5 Z5 H5 (st5.popN hU) (ag4.trans ag5)
    | rt o δ5 =>
      cases g3
      exact fun v σ5 Z5 H5 st5 ag5 => post v σ5 Z5 H5 (StV.mid (A := [some o]) (B := [some v]) rfl hU st5) (ag4.trans ag5)
  · have e : i = ds.length := by omega
    subst e
    refine .inl ⟨iw.stop Z' H' δ' σ' S T st', ?_⟩
    rw [List.drop_length] at hl
    cases hl
    exact post σ' Z' H' (st'.popN hU) ag
theorem for_core {wi : TI} {L : List Nat} {fi : IF} {gt : GF} {body : SF} {D : Ends} {σ : L2.St} {H : Hp} (hM : (M.all fun i => !L.contains i) = true) (hi : ∀ σ H R, rdI X.K fi σ H R → wi σ H R) (h : rdS X.K M (sFor fi gt body) D σ H) : tFor wi (rdG X.K L gt) (rdS X.K M body) D σ H := by
  obtain ⟨g, Z, δ, S, T, r, st, hf, post⟩ := h
  simp only [sFor, Option.bind_eq_some_iff] at hf
  obtain ⟨⟨ds, δ1⟩, h1, h2⟩ := hf
  exact for_coreG hM (fun R q => hi _ _ _ ⟨g, Z, δ, S, T, _, st, h1, q⟩) h2 post
theorem vs_for {L : List Nat} {tg iter : Expr} {sts : List Stmt} {fi : IF} {gt : GF} {body : SF} {pos : Pos} (hM : (M.all fun i => !L.contains i) = true) (hp : PassesOwn (model X.prog X.w) X.A X.env X.xe) (hc : X.calm = true) (hi : VI X tg iter fi) (hg : VG X L tg gt) (hb : VXs X M sts body)
    (hs : ∀ x, foldedSetIterable iter X.env x = pure x := by intro _; rfl) : VX X M (.For tg iter sts [] pos) (sFor fi gt body) :=
  PSi (ps_for hp hc hi hg hb hs) fun D σ H h => for_core hM (fun _ _ _ q => q) h
/-! ### while -/
def whN (tc : TF) (body : SF) : Nat → DS → Option Fl
  | 0, _ => none
  | n + 1, δ => (tc δ).bind fun r => if r.1 then (body r.2).bind fun fl => match fl with
      | .nx δ2 => whN tc body n δ2
      | .ct δ2 => whN tc body n δ2
      | .bk δ2 => some (.nx δ2)
      | .rt o δ2 => some (.rt o δ2)
    else some (.nx r.2)
open Classical in
noncomputable def sWh (tc : TF) (body : SF) : SF := fun δ => if h : ∃ n, (whN tc body n δ).isSome then whN tc body h.choose δ else none
theorem whN_mono {tc : TF} {body : SF} : ∀ {n m : Nat} {δ : DS} {r : Fl}, whN tc body n δ = some r → n ≤ m → whN tc body m δ = some r
  | 0, m, δ, r, h, l => by cases h
  | n + 1, 0, δ, r, h, l => by omega
  | n + 1, m + 1, δ, r, h, l => by
    simp only [whN, Option.bind_eq_some_iff] at h ⊢
    obtain ⟨⟨k, δ1⟩, h1, h2⟩ := h
    refine ⟨_, h1, ?_⟩
    cases k with
    | false => exact h2
    | true =>
      simp only [if_true, Option.bind_eq_some_iff] at h2 ⊢
      obtain ⟨fl, h3, h4⟩ := h2
      refine ⟨fl, h3, ?_⟩
      cases fl with
      | nx δ2 => exact whN_mono h4 (by omega)
      | ct δ2 => exact whN_mono h4 (by omega)
      | bk δ2 => exact h4
      | rt o δ2 => exact h4
theorem sWh_of {tc : TF} {body : SF} {n : Nat} {δ : DS} {r : Fl} (h : whN tc body n δ = some r) : sWh tc body δ = some r := by
  unfold sWh
  have ex : ∃ n, (whN tc body n δ).isSome := ⟨n, by rw [h]; rfl⟩
  rw [dif_pos ex]
  obtain ⟨r', hr⟩ := Option.isSome_iff_exists.mp ex.choose_spec
  have a := whN_mono hr (Nat.le_max_left ex.choose n)
  have b := whN_mono h (Nat.le_max_right ex.choose n)
  rw [hr]
  rw [a] at b
  exact b
theorem of_sWh {tc : TF} {body : SF} {δ : DS} {r : Fl} (h : sWh tc body δ = some r) : ∃ n, whN tc body n δ = some r := by
  unfold sWh at h
  split at h
  · exact ⟨_, h⟩
  · cases h
theorem vs_while {c : Expr} {sts : List Stmt} {tc : TF} {body : SF} {pos : Pos} (hp : PassesOwn (model X.prog X.w) X.A X.env X.xe) (hc : VT X c tc) (hb : VXs X M sts body) : VX X M (.While c sts [] pos) (sWh tc body) :=
  PSi (ps_while hp hc hb) fun D σ H ⟨g, Z, δ, S, T, r, st, hf, post⟩ => by
  obtain ⟨n, hn⟩ := of_sWh hf
  refine ⟨fun m σ' H' => ∃ Z' δ', StV X.K g Z' H' δ' σ' S T ∧ whN tc body m δ' = some r ∧ Agree M σ σ', ⟨n, Z, δ, st, hn, Agree.refl _ _⟩, ?_⟩
  rintro m σ' H' ⟨Z', δ', st', hw, ag⟩
  cases m with
  | zero => cases hw
  | succ m =>
    simp only [whN, Option.bind_eq_some_iff] at hw
    obtain ⟨⟨k, δ1⟩, h1, h2⟩ := hw
    refine ⟨g, Z', δ', S, T, _, st', h1, fun Z1 H1 st1 => ?_⟩
    cases k with
    | false =>
      cases h2
      exact post σ' Z1 H1 st1 ag
    | true =>
      simp only [if_true, Option.bind_eq_some_iff] at h2
      obtain ⟨fl, h3, h4⟩ := h2
      refine ⟨fun σ3 H3 => ∃ Z3 δ3, StV X.K g Z3 H3 δ3 σ3 S T ∧ whN tc body m δ3 = some r ∧ Agree M σ σ3, fun σ3 H3 q => ⟨m, Nat.lt_succ_self m, q⟩, g, Z1, δ1, S, T, fl, st1, h3, ?_⟩
      cases fl with
      | nx δ5 => exact fun σ5 Z5 H5 st5 ag5 => ⟨Z5, δ5, st5, h4, ag.trans ag5⟩
      | ct δ5 => exact fun σ5 Z5 H5 st5 ag5 => ⟨Z5, δ5, st5, h4, ag.trans ag5⟩
      | bk δ5 =>
        cases h4
        exact fun σ5 Z5 H5 st5 ag5 => post σ5 Z5 H5 st5 (ag.trans ag5)
      | rt o δ5 =>
        cases h4
        exact fun v σ5 Z5 H5 st5 ag5 => post v σ5 Z5 H5 st5 (ag.trans ag5)
end
end VS

namespace VS
open PySem PySem.Spec L2
section
variable {K : PySem.W.Frag} {g : Gx} {Z Z' : Addr → Prop} {H H' : Hp} {δ S U : DS} {σ T W : L2.St} {o : O} {v : V}
/-- a temporary is changed where it stands -/
theorem StV.mutT {i : Nat} {o' : O} (s : StV K g Z H δ σ S T) (h : S[i]? = some (some o)) (hv : T[i]? = some (some v))
    (m : ∀ F, RepO K Z H o v F → F.Nodup → (∀ a ∈ F, ¬ Z a) → (∀ b, b ∉ F → H' b = H b) ∧ (∀ b, (∃ u, H b = some u) → ∃ u, H' b = some u) ∧ (∀ b xs, H b = some (.tup xs) → H' b = some (.tup xs)) ∧ (Keep Z Z H H' → RepO K Z H' o' v F)) :
    StV K g Z H' δ σ (S.set i (some o')) T ∧ Keep Z Z H H' := by
  obtain ⟨Fs, Ft, h1, h2, w⟩ := s
  obtain ⟨y, Fi, Fr, e, p, q, put⟩ := h2.at h
  rw [hv] at e
  cases e
  have q1 : RepO K Z H o v Fi := q
  have p2 : (Fs ++ Ft).Perm (Fi ++ (Fr ++ Fs)) := by
    rw [← List.append_assoc]
    exact (List.perm_append_comm).trans (List.Perm.append_right _ p)
  have w2 := w.perm p2
  have nd := List.nodup_append.mp w2.nd
  obtain ⟨m1, m2, m3, m4⟩ := m Fi q1 nd.1 fun a ha => (w2.own a (List.mem_append_left _ ha)).1
  have kp : Keep Z Z H H' := Keep.of (fun _ z => z) (fun a u z e => by
    rw [m1 a fun hf => (w2.own a (List.mem_append_left _ hf)).1 z]
    exact e) m3
  have other : ∀ a ∈ Fr ++ Fs, ∀ u, H a = some u → H' a = some u := fun a ha u e => by
    rw [m1 a fun hf => nd.2.2 a hf a ha rfl]
    exact e
  obtain ⟨F', s1, s2⟩ := put Z H' (some o') (some v) Fi kp (fun a ha => other a (List.mem_append_left _ ha)) (m4 kp)
  rw [set_self hv] at s1
  refine ⟨⟨Fs, F', RepS.keep kp (fun a ha => other a (List.mem_append_right _ ha)) h1, s1, ?_⟩, kp⟩
  have w3 : Wd g Z H (Fs ++ F') := w2.perm (by
    rw [← List.append_assoc]
    exact (List.Perm.append_right _ s2.symm).trans List.perm_append_comm)
  exact ⟨w3.nd, w3.own, w3.z0, fun a z => ⟨m2 a (w3.zh a z).1, (w3.zh a z).2⟩, fun a u e => by
    rw [m1 a fun hf => by
      have := (w2.own a (List.mem_append_left _ hf)).2
      rw [this] at e
      cases e]
    exact w3.gh a u e⟩
/-- what a change at one's own object asks -/
theorem mut_at {a : Addr} {u u' : HO} (h : H a = some u) (ht : ∀ xs, u ≠ .tup xs) : (∀ b, b ∉ [a] → L2.upd H a u' b = H b) ∧ (∀ b, (∃ u, H b = some u) → ∃ u, L2.upd H a u' b = some u) ∧ (∀ b xs, H b = some (.tup xs) → L2.upd H a u' b = some (.tup xs)) :=
  ⟨fun b hb => upd_ne fun e => hb (by rw [e]; exact List.mem_singleton_self _), fun b ⟨w, e⟩ => by
    by_cases hb : b = a
    · exact ⟨u', by rw [hb]; exact upd_same⟩
    · exact ⟨w, by rw [upd_ne hb]; exact e⟩, fun b xs e => by
    rw [upd_ne fun z => by
      rw [z, h] at e
      exact ht xs (Option.some.inj e)]
    exact e⟩
/-- the list among the temporaries grows by the top one -/
theorem StV.appT {A : DS} {B : L2.St} {ds : List D} {d : D} {w : V} {a : Addr} (hA : A.length = B.length) (s : StV K g Z H δ σ (some (.sh d) :: (A ++ some (.lst ds) :: S)) (some w :: (B ++ some (.ref a) :: T))) :
    ∃ vs, H a = some (.lst vs) ∧ vs.length = ds.length ∧ StV K g Z (L2.upd H a (.lst (vs ++ [w]))) δ σ (A ++ some (.lst (ds ++ [d])) :: S) (B ++ some (.ref a) :: T) := by
  have rd := topD s
  have s1 := s.pop
  have e1 : (A ++ some (O.lst ds) :: S)[A.length]? = some (some (O.lst ds)) := by simp
  have e2 : (B ++ some (V.ref a) :: T)[A.length]? = some (some (V.ref a)) := by rw [hA]; simp
  have ex : ∃ vs, H a = some (.lst vs) ∧ RepL K Z H ds vs := by
    obtain ⟨Fs, Ft, h1, h2, w⟩ := s1
    obtain ⟨y, Fi, Fr, e, p, q, put⟩ := h2.at e1
    rw [e2] at e
    cases e
    have q' : RepO K Z H (.lst ds) (.ref a) Fi := q
    simp only [RepO] at q'
    obtain ⟨b, vs, eb, _, hb, rb⟩ := q'
    cases eb
    exact ⟨vs, hb, rb⟩
  obtain ⟨vs, hb, rb⟩ := ex
  refine ⟨vs, hb, rb.length.symm, ?_⟩
  have r := (s1.mutT (o' := .lst (ds ++ [d])) (H' := L2.upd H a (.lst (vs ++ [w]))) e1 e2 fun F q nd nz => by
    simp only [RepO] at q
    obtain ⟨b, ws, eb, ef, _, _⟩ := q
    cases eb
    subst ef
    obtain ⟨m1, m2, m3⟩ := mut_at (u' := .lst (vs ++ [w])) hb (fun _ => by simp)
    refine ⟨m1, m2, m3, fun k => ?_⟩
    simp only [RepO]
    refine ⟨a, vs ++ [w], rfl, rfl, upd_same, ?_⟩
    refine RepL.append (RepL.keep k ds vs rb) ?_
    simp only [RepL]
    exact ⟨w, [], rfl, RepD.keep k d w rd, rfl⟩).1
  have e3 : (A ++ some (O.lst ds) :: S).set A.length (some (O.lst (ds ++ [d]))) = A ++ some (O.lst (ds ++ [d])) :: S := by simp
  rw [e3] at r
  exact r
end
/-! ### the block's own slots -/
def wipeD (δ : DS) : List Nat → DS
  | [] => δ
  | v :: vs => (wipeD δ vs).set v none
def savD (δ : DS) : List Nat → DS
  | [] => []
  | v :: vs => ((wipeD δ vs)[v]?).join :: savD δ vs
def savV (σ : L2.St) : List Nat → L2.St
  | [] => []
  | v :: vs => ((wipe σ vs)[v]?).join :: savV σ vs
def unwD (δ : DS) : List Nat → DS → DS
  | v :: vs, x :: xs => unwD (δ.set v x) vs xs
  | _, _ => δ
section
variable {K : PySem.W.Frag} {g : Gx} {Z Z' : Addr → Prop} {H H' : Hp} {δ S U : DS} {σ T W : L2.St} {o : O} {v : V}
theorem sav_length (δ : DS) (σ : L2.St) : ∀ vs, (savD δ vs).length = vs.length ∧ (savV σ vs).length = vs.length
  | [] => ⟨rfl, rfl⟩
  | v :: vs => by
    obtain ⟨h1, h2⟩ := sav_length δ σ vs
    simp [savD, savV, h1, h2]
theorem StV.wipe (s : StV K g Z H δ σ S T) : ∀ vs, StV K g Z H (wipeD δ vs) (L2.wipe σ vs) (savD δ vs ++ S) (savV σ vs ++ T)
  | [] => s
  | v :: vs => (StV.wipe s vs).save v
theorem StV.wipeOff (s : StV K g Z H δ σ S T) : ∀ vs, StV K g Z H (wipeD δ vs) (L2.wipe σ vs) S T
  | [] => s
  | v :: vs => (StV.wipeOff s vs).forget none
theorem StV.unwipe : ∀ {vs : List Nat} {xs : DS} {δ : DS}, xs.length = vs.length → StV K g Z H δ (L2.wipe σ vs) (xs ++ S) (savV σ vs ++ T) → StV K g Z H (unwD δ vs xs) σ S T
  | [], [], δ, _, s => s
  | [], _ :: _, δ, h, s => by simp at h
  | _ :: _, [], δ, h, s => by simp at h
  | v :: vs, x :: xs, δ, h, s => by
    have s1 : StV K g Z H (δ.set v x) (((L2.wipe σ vs).set v none).set v ((L2.wipe σ vs)[v]?).join) (xs ++ S) (savV σ vs ++ T) := StV.asgY (s : StV K g Z H δ ((L2.wipe σ vs).set v none) (x :: (xs ++ S)) (((L2.wipe σ vs)[v]?).join :: (savV σ vs ++ T)))
    have e : ((L2.wipe σ vs).set v none).set v ((L2.wipe σ vs)[v]?).join = L2.wipe σ vs := by
      rw [List.set_set]
      cases q : (L2.wipe σ vs)[v]? with
      | none => rw [List.set_eq_of_length_le (List.getElem?_eq_none_iff.mp q)]
      | some y => exact set_self q
    rw [e] at s1
    exact StV.unwipe (vs := vs) (xs := xs) (by simpa using h) s1
end
/-! ### list comprehensions -/
def lcL (gt : GF) (tt : TF) (fe : XF) (own : List Nat) : List D → DS → List D → Option (List D × DS)
  | [], δ, acc => some (acc, δ)
  | d :: ds, δ, acc => (gt d δ).bind fun δ1 => (tt δ1).bind fun r => if r.1 then (fe r.2).bind fun r => (tk r.2 r.1).bind fun r => lcL gt tt fe own ds (wipeD r.2 own) (acc ++ [r.1.fz])
      else lcL gt tt fe own ds (wipeD r.2 own) acc
def xLc (fi : IF) (gt : GF) (tt : TF) (fe : XF) (own : List Nat) : XF := fun δ => (fi δ).bind fun r => if r.1.length ≤ sizeLine then (lcL gt tt fe own r.1 (wipeD r.2 own) []).map fun q => (.val (.lst q.1), unwD q.2 own (savD r.2 own)) else none
def tY : TF := fun δ => some (true, δ)
abbrev VTs (X : Cx) (ifs : List Expr) (f : TF) : Prop := PTs X ifs (rdT X.K f)
section
variable {X : Cx}
theorem PTsi {ifs : List Expr} {t t' : TT} (h : PTs X ifs t) (k : ∀ σ H Q, t' σ H Q → t σ H Q) : PTs X ifs t' := ⟨fun pins s σ H Q I q => h.run pins s σ H Q I (k σ H Q q)⟩
theorem vts_nil : VTs X [] tY := PTsi pts_nil fun σ H Q ⟨g, Z, δ, S, T, r, st, hf, post⟩ => by
  cases hf
  exact post Z H st
theorem vts_one {c : Expr} {tc : TF} (h : VT X c tc) : VTs X [c] tc := pts_one h
theorem Out.wipe {L vs : List Nat} {σ σ' : L2.St} (o : Out L (L2.wipe σ vs) σ') (h : (L.all fun i => vs.contains i) = true) : L2.wipe σ' vs = L2.wipe σ vs := by
  refine List.ext_getElem? fun j => ?_
  by_cases hj : j ∈ vs
  · have w1 : ∀ (τ : L2.St), τ.length = σ.length → (L2.wipe τ vs)[j]? = if j < σ.length then some none else none := fun τ ht => by
      have aux : ∀ (vs : List Nat), j ∈ vs → (L2.wipe τ vs)[j]? = if j < σ.length then some none else none := by
        intro vs
        induction vs with
        | nil => intro h; cases h
        | cons v vs ih =>
          intro hm
          show ((L2.wipe τ vs).set v none)[j]? = _
          by_cases e : v = j
          · subst e
            by_cases hl : v < σ.length
            · rw [if_pos hl, List.getElem?_set_self (by rw [wipe_length, ht]; exact hl)]
            · rw [if_neg hl, List.getElem?_eq_none]
              rw [List.length_set, wipe_length, ht]
              omega
          · rw [List.getElem?_set_ne e]
            rcases List.mem_cons.mp hm with z | z
            · exact absurd z.symm e
            · exact ih z
      exact aux vs hj
    rw [w1 σ' (by rw [o.1, wipe_length]), w1 σ rfl]
  · rw [wipe_out hj, wipe_out hj, o.2 j fun hl => hj (by
      have := List.all_eq_true.mp h j hl
      simpa using this), wipe_out hj]
theorem lc_coreG {wi : TI} {L own : List Nat} {gt : GF} {tt : TF} {fe : XF} {g : Gx} {Z : Addr → Prop} {δ1 : DS} {S : DS} {σ T : L2.St} {H : Hp} {Q : VK} {ds : List D} {r : Ev × DS} (hL : (L.all fun i => own.contains i) = true)
    (hi : ∀ R : It → Hp → Prop, (∀ J U W Z' H', U.length = W.length → StV X.K g Z' H' δ1 σ (U ++ S) (W ++ T) → ItW X.K g J ds U W → R J H') → wi σ H R)
    (h2 : (if ds.length ≤ sizeLine then (lcL gt tt fe own ds (wipeD δ1 own) []).map fun q => ((.val (.lst q.1) : Ev), unwD q.2 own (savD δ1 own)) else none) = some r) (post : PostE X.K g σ S T Q r) :
    tLc wi (rdG X.K L gt) (rdT X.K tt) (rdE X.K fe) own σ H Q := by
  split at h2
  · rename_i hz0
    have hz : ds.length ≤ sizeLine := hz0
    obtain ⟨⟨accF, δF⟩, h3, h4⟩ := Option.map_eq_some_iff.mp h2
    subst h4
    refine hi _ fun J U W Z1 H1 hU st1 iw Da hDa => ?_
    have sl := sav_length δ1 σ own
    have st2 : StV X.K g Z1 (L2.upd H1 Da (.lst [])) δ1 σ (some (.lst []) :: (U ++ S)) (some (.ref Da) :: (W ++ T)) := st1.push (Res.lst hDa (by simp only [RepL]))
    have st3 := st2.wipe own
    refine ⟨fun i m H' => m = ds.length - i ∧ i ≤ ds.length ∧ ∃ Z' δ' acc, StV X.K g Z' H' δ' (L2.wipe σ own) (savD δ1 own ++ some (.lst acc) :: (U ++ S)) (savV σ own ++ some (.ref Da) :: (W ++ T)) ∧ lcL gt tt fe own (ds.drop i) δ' acc = some (accF, δF) ∧ acc.length ≤ i,
      ⟨_, rfl, Nat.zero_le _, Z1, _, [], st3, by simpa using h3, Nat.le_refl _⟩, ?_⟩
    rintro i m H' ⟨rfl, hle, Z', δ', acc, st', hl, ha⟩
    -- the iterator's own part is the last
    have stI : StV X.K g Z' H' δ' (L2.wipe σ own) (U ++ S) (W ++ T) := by
      have e1 : savD δ1 own ++ some (O.lst acc) :: (U ++ S) = (savD δ1 own ++ [some (O.lst acc)]) ++ (U ++ S) := by simp
      have e2 : savV σ own ++ some (V.ref Da) :: (W ++ T) = (savV σ own ++ [some (V.ref Da)]) ++ (W ++ T) := by simp
      rw [e1, e2] at st'
      exact st'.popN (by simp [sl.1, sl.2])
    by_cases hlt : i < ds.length
    · have e : ds[i]? = some ds[i] := by simp [hlt]
      obtain ⟨go, yld⟩ := iw.go Z' H' δ' (L2.wipe σ own) S T stI i _ e
      have dr : ds.drop i = ds[i] :: ds.drop (i + 1) := List.drop_eq_getElem_cons hlt
      rw [dr] at hl
      simp only [lcL, Option.bind_eq_some_iff] at hl
      obtain ⟨δ2, g1, ⟨b, δ3⟩, g2, g3⟩ := hl
      refine .inr ⟨go, fun H3 => ∃ Z3 δ3 acc3, StV X.K g Z3 H3 δ3 (L2.wipe σ own) (savD δ1 own ++ some (.lst acc3) :: (U ++ S)) (savV σ own ++ some (.ref Da) :: (W ++ T)) ∧ lcL gt tt fe own (ds.drop (i + 1)) δ3 acc3 = some (accF, δF) ∧ acc3.length ≤ i + 1,
        fun H3 q => ⟨ds.length - (i + 1), by omega, rfl, hlt, q⟩, fun x H2 y => ?_⟩
      have rs := yld x H2 y
      refine ⟨g, Z', δ', _, _, ds[i], δ2, st'.push rs, g1, fun σ4 Z4 H4 st4 ou => ?_⟩
      have ew := ou.wipe hL
      refine ⟨ew, g, Z4, δ2, _, _, _, st4, g2, fun Z5 H5 st5 => ?_⟩
      cases b with
      | false =>
        have st6 := st5.wipeOff own
        rw [ew] at st6
        exact ⟨Z5, _, acc, st6, g3, by omega⟩
      | true =>
        rw [if_pos rfl]
        rw [if_pos rfl] at g3
        obtain ⟨⟨ev, δ6⟩, g4, g5⟩ := Option.bind_eq_some_iff.mp g3
        obtain ⟨⟨ov, δ7⟩, g6, g7⟩ := Option.bind_eq_some_iff.mp g5
        refine ⟨g, Z5, δ3, _, _, _, st5, g4, fun w Z6 H6 st6 al6 => ?_⟩
        obtain ⟨Z7, st7, rd⟩ := st6.tkD al6 g6
        obtain ⟨vs, hv, hvl, st8⟩ := StV.appT (by rw [sl.1, sl.2]) st7
        refine ⟨vs, hv, by omega, Z7, _, acc ++ [ov.fz], ?_, g7, by simp; omega⟩
        have st9 := st8.wipeOff own
        rw [ew] at st9
        exact st9
    · have e : i = ds.length := by omega
      subst e
      refine .inl ⟨iw.stop Z' H' δ' (L2.wipe σ own) S T stI, ?_⟩
      rw [List.drop_length] at hl
      cases hl
      have st4 := StV.unwipe (xs := savD δ1 own) (by rw [sl.1]) st'
      exact post (.ref Da) Z' H' (StV.mid (A := [some (.lst accF)]) (B := [some (.ref Da)]) rfl hU st4) trivial
  · cases h2
theorem lc_coreV {wi : TI} {L own : List Nat} {fi : IF} {gt : GF} {tt : TF} {fe : XF} {σ : L2.St} {H : Hp} {Q : VK} (hL : (L.all fun i => own.contains i) = true) (hi : ∀ σ H R, rdI X.K fi σ H R → wi σ H R) (h : rdE X.K (xLc fi gt tt fe own) σ H Q) :
    tLc wi (rdG X.K L gt) (rdT X.K tt) (rdE X.K fe) own σ H Q := by
  obtain ⟨g, Z, δ, S, T, r, st, hf, post⟩ := h
  simp only [xLc, Option.bind_eq_some_iff] at hf
  obtain ⟨⟨ds, δ1⟩, h1, h2⟩ := hf
  exact lc_coreG (Z := Z) hL (fun R q => hi _ _ _ ⟨g, Z, δ, S, T, _, st, h1, q⟩) h2 post
theorem ve_lc {elt tg iter : Expr} {ifs : List Expr} {scope : Scope} {own : List (Str × Nat)} {pos : Pos} {L : List Nat} {fi : IF} {gt : GF} {tt : TF} {fe : XF} (hL : (L.all fun i => (own.map (·.2)).contains i) = true)
    (hc : X.calm = true) (hN : X.N.Nodup) (hi : VI X tg iter fi) (ok : BlkOk X.N X.env.scope scope own)
    (hg : ∀ (s : Shared) (H : Hp) (C : Addr) (cl : List (Str × Addr)) (fp : List Addr), VG (X.blk s H scope (compEnvC scope cl C X.env) fp) L tg gt) (ht : ∀ (s : Shared) (H : Hp) (C : Addr) (cl : List (Str × Addr)) (fp : List Addr), VTs (X.blk s H scope (compEnvC scope cl C X.env) fp) ifs tt)
    (he : ∀ (s : Shared) (H : Hp) (C : Addr) (cl : List (Str × Addr)) (fp : List Addr), VE (X.blk s H scope (compEnvC scope cl C X.env) fp) elt fe) (hs : ∀ x, foldedSetIterable iter X.env x = pure x := by intro _; rfl) :
    VE X (.ListComp elt [⟨tg, iter, ifs, 0⟩] scope pos) (xLc fi gt tt fe (own.map (·.2))) := PEi (pe_lc hc hN hi ok hg ht he hs) fun σ H Q h => lc_coreV hL (fun _ _ _ q => q) h
theorem vs_setLc {M : List Nat} {i : Nat} {y : Str} {py : Pos} {elt tg iter : Expr} {ifs : List Expr} {scope : Scope} {own : List (Str × Nat)} {pos spos : Pos} {L : List Nat} {fi : IF} {gt : GF} {tt : TF} {fe : XF} (hL : (L.all fun i => (own.map (·.2)).contains i) = true) (hM : M.contains i = false)
    (hc : X.calm = true) (hN : X.N.Nodup) (hy : X.N[i]? = some y) (hyl : X.env.scope.names.lookup y = some .local)
    (hsw : swapsWith (.ListComp elt [⟨tg, iter, ifs, 0⟩] scope pos) (some (.Name y py)) spos.line X.env = pure true) (hi : VI X tg iter fi) (ok : BlkOk X.N X.env.scope scope own)
    (hg : ∀ (s : Shared) (H : Hp) (C : Addr) (cl : List (Str × Addr)) (fp : List Addr), VG (X.blk s H scope (compEnvC scope cl C X.env) fp) L tg gt) (ht : ∀ (s : Shared) (H : Hp) (C : Addr) (cl : List (Str × Addr)) (fp : List Addr), VTs (X.blk s H scope (compEnvC scope cl C X.env) fp) ifs tt)
    (he : ∀ (s : Shared) (H : Hp) (C : Addr) (cl : List (Str × Addr)) (fp : List Addr), VE (X.blk s H scope (compEnvC scope cl C X.env) fp) elt fe) (hs : ∀ x, foldedSetIterable iter X.env x = pure x := by intro _; rfl) :
    VX X M (.Assign [.Name y py] (.ListComp elt [⟨tg, iter, ifs, 0⟩] scope pos) spos) (sSet i (xLc fi gt tt fe (own.map (·.2)))) :=
  PSi (ps_setLc hc hN hy hyl hsw hi ok hg ht he hs) fun D σ H h => set_core hM (fun _ _ _ q => lc_coreV hL (fun _ _ _ q => q) q) h
end
end VS

namespace VS
open PySem PySem.Spec L2
/-! ### what a def promises -/
structure PostC (K : PySem.W.Frag) (Z : Addr → Prop) (H : Hp) (Fa : List Addr) (vs : List V) (r : O) (fin : DS) (v : V) (Z' : Addr → Prop) (H' : Hp) (F1 F2 : List Addr) : Prop where
  z : ∀ a, Z a → Z' a
  zh : ∀ a, Z' a → (∃ o, H' a = some o) ∧ (Z a ∨ a ∈ Fa ∨ H a = none)
  keep : ∀ a o, H a = some o → a ∉ Fa → H' a = some o
  rf : RepS K Z' H' fin (vs.map some) F1
  rr : RepO K Z' H' r v F2
  nd : (F1 ++ F2).Nodup
  own : ∀ a ∈ F1 ++ F2, ¬ Z' a ∧ (a ∈ Fa ∨ H a = none)
abbrev FF := List O → Option (O × DS)
def spV (K : PySem.W.Frag) (n : Nat) (F : FF) : Sp := fun vs H Q _ => ∃ Z os Fa r fin, vs.length = n ∧ RepS K Z H (os.map some) (vs.map some) Fa ∧ Fa.Nodup ∧ (∀ a ∈ Fa, ¬ Z a) ∧ (∀ a, Z a → ∃ o, H a = some o) ∧ F os = some (r, fin) ∧
  ∀ v Z' H' F1 F2, PostC K Z H Fa vs r fin v Z' H' F1 F2 → Q v H'
/-! ### arguments by modes: true: lent, where it is one's own; false: taken -/
abbrev AF := DS → Option (List Ev × DS)
def aNil : AF := fun δ => some ([], δ)
def aCons (m : Bool) (fa : XF) (fr : AF) : AF := fun δ => (fa δ).bind fun r1 => (if m then some (r1.1, r1.2) else (tk r1.2 r1.1).map fun r => (.val r.1, r.2)).bind fun r2 => (fr r2.2).map fun r3 => (r2.1 :: r3.1, r3.2)
abbrev VA (X : Cx) (es : List Expr) (f : AF) : Prop := PA X es (rdA X.K f)
section
variable {X : Cx} {e : Expr} {es : List Expr} {fa : XF} {fr : AF}
theorem va_nil : VA X [] aNil := PAi pa_nil fun σ H Q ⟨g, Z, δ, S, T, r, st, hf, post⟩ => by
  cases hf
  exact post [] Z H st rfl
theorem va_cons (m : Bool) (ha : VE X e fa) (hr : VA X es fr) (hs : starEach (e :: es) X.env = (false, eval e X.env) :: starEach es X.env := by rfl) : VA X (e :: es) (aCons m fa fr) := PAi (pa_cons ha hr hs) fun σ H Q ⟨g, Z, δ, S, T, r, st, hf, post⟩ => by
  simp only [aCons, Option.bind_eq_some_iff, Option.map_eq_some_iff] at hf
  obtain ⟨⟨e1, δ1⟩, h1, ⟨e2, δ2⟩, h2, ⟨es', δ3⟩, h3, rfl⟩ := hf
  refine ⟨g, Z, δ, S, T, _, st, h1, fun x Z1 H1 st1 al1 => ?_⟩
  have mid : ∃ Z2, StV X.K g Z2 H1 δ2 σ (e2.tmp :: S) (some x :: T) ∧ Al σ e2 x := by
    cases m with
    | true =>
      cases h2
      exact ⟨Z1, st1, al1⟩
    | false =>
      simp only [Bool.false_eq_true, if_false, Option.map_eq_some_iff] at h2
      obtain ⟨⟨o, δ4⟩, h4, h5⟩ := h2
      cases h5
      obtain ⟨Z2, st2, _⟩ := st1.tk al1 h4
      exact ⟨Z2, st2, trivial⟩
  obtain ⟨Z2, st2, al2⟩ := mid
  refine ⟨g, Z2, δ2, _, _, _, st2, h3, fun vs Z3 H3 st3 al3 => ?_⟩
  refine post (x :: vs) Z3 H3 ?_ ⟨x, vs, rfl, al2, al3⟩
  have e3 : tmps (e2 :: es') ++ S = tmps es' ++ (e2.tmp :: S) := by simp [tmps]
  have e4 : vtmps (x :: vs) ++ T = vtmps vs ++ (some x :: T) := by simp [vtmps]
  show StV _ _ _ _ _ _ (tmps (e2 :: es') ++ S) (vtmps (x :: vs) ++ T)
  rw [e3, e4]
  exact st3
end
/-! ### lent, and given back -/
def outs : List Ev → DS → Option (List O × DS)
  | [], δ => some ([], δ)
  | .val o :: es, δ => (outs es δ).map fun r => (o :: r.1, r.2)
  | .at i :: es, δ => match δ[i]? with
    | some (some o) => (outs es (δ.set i none)).map fun r => (o :: r.1, r.2)
    | _ => none
def ins : List Ev → DS → DS → DS
  | .at i :: es, x :: xs, δ => ins es xs (δ.set i x)
  | .val _ :: es, _ :: xs, δ => ins es xs δ
  | _, _, δ => δ
section
variable {K : PySem.W.Frag} {g : Gx} {Z Z' : Addr → Prop} {H H' : Hp} {δ S U : DS} {σ T W : L2.St} {o : O} {v : V}
theorem StV.mvT {i k : Nat} (s : StV K g Z H δ σ S T) (h : δ[i]? = some (some o)) (hv : σ[i]? = some (some v)) (hk : S[k]? = some none) (hk2 : T[k]? = some (some v)) : StV K g Z H (δ.set i none) σ (S.set k (some o)) T := by
  obtain ⟨Fs, Ft, h1, h2, w⟩ := s
  obtain ⟨y0, Fi, Fr, e, p, q, put⟩ := h1.at h
  rw [hv] at e
  cases e
  obtain ⟨F', s1, s2⟩ := put Z H none (some v) [] (Keep.refl Z H) (fun _ _ _ h => h) rfl
  rw [set_self hv] at s1
  obtain ⟨y1, Gi, Gr, e1, p1, q1, put1⟩ := h2.at hk
  rw [hk2] at e1
  cases e1
  have eG : Gi = [] := q1
  subst eG
  obtain ⟨G', t1, t2⟩ := put1 Z H (some o) (some v) Fi (Keep.refl Z H) (fun _ _ _ h => h) q
  rw [set_self hk2] at t1
  refine ⟨F', G', s1, t1, w.perm ?_⟩
  -- Fs ++ Ft ~ (Fi ++ Fr) ++ Gr ~ Fr ++ (Fi ++ Gr) ~ F' ++ G'
  have a1 : (Fs ++ Ft).Perm ((Fi ++ Fr) ++ Gr) := List.Perm.append p (by simpa using p1)
  have a2 : ((Fi ++ Fr) ++ Gr).Perm (Fr ++ (Fi ++ Gr)) := by
    rw [← List.append_assoc]
    exact List.Perm.append_right _ List.perm_append_comm
  have a3 : (Fr ++ (Fi ++ Gr)).Perm (F' ++ G') := List.Perm.append (by simpa using s2.symm) t2.symm
  exact (a1.trans a2).trans a3
theorem tmps_len (es : List Ev) : (tmps es).length = es.length := by simp [tmps]
theorem Als.length : ∀ {es : List Ev} {vs : List V}, Als σ es vs → es.length = vs.length
  | [], vs, h => by
    have e : vs = [] := h
    rw [e]
    all_goals rfl
  | e :: es, vs, ⟨v, r, ev, _, h⟩ => by
    rw [ev, List.length_cons, List.length_cons, Als.length h]
theorem StV.outs : ∀ {es : List Ev} {vs : List V} {δ δ1 : DS} {os : List O} {S : DS} {T : L2.St}, StV K g Z H δ σ (tmps es ++ S) (vtmps vs ++ T) → Als σ es vs → VS.outs es δ = some (os, δ1) → StV K g Z H δ1 σ ((os.map some).reverse ++ S) (vtmps vs ++ T) ∧ os.length = vs.length
  | [], vs, δ, δ1, os, S, T, s, al, h => by
    have e : vs = [] := al
    subst e
    cases h
    exact ⟨s, rfl⟩
  | .val o :: es, vs, δ, δ1, os, S, T, s, ⟨v, r, ev, a1, a2⟩, h => by
    subst ev
    simp only [VS.outs, Option.map_eq_some_iff] at h
    obtain ⟨⟨os', δ2⟩, h1, h2⟩ := h
    cases h2
    have e1 : tmps (.val o :: es) ++ S = tmps es ++ (some o :: S) := by simp [tmps, Ev.tmp]
    have e2 : vtmps (v :: r) ++ T = vtmps r ++ (some v :: T) := by simp [vtmps]
    rw [e1, e2] at s
    obtain ⟨q, l⟩ := StV.outs s a2 h1
    have e3 : ((o :: os').map some).reverse ++ S = (os'.map some).reverse ++ (some o :: S) := by simp
    rw [e3, e2]
    exact ⟨q, by simp [l]⟩
  | .at i :: es, vs, δ, δ1, os, S, T, s, ⟨v, r, ev, a1, a2⟩, h => by
    subst ev
    simp only [VS.outs] at h
    split at h
    · rename_i o hi
      simp only [Option.map_eq_some_iff] at h
      obtain ⟨⟨os', δ2⟩, h1, h2⟩ := h
      cases h2
      have e1 : tmps (.at i :: es) ++ S = tmps es ++ (none :: S) := by simp [tmps, Ev.tmp]
      have e2 : vtmps (v :: r) ++ T = vtmps r ++ (some v :: T) := by simp [vtmps]
      rw [e1, e2] at s
      have hl := Als.length a2
      have s' := s.mvT (k := es.length) hi a1 (by rw [List.getElem?_append_right (by rw [tmps_len]; exact Nat.le_refl _), tmps_len]; simp) (by rw [hl, List.getElem?_append_right (by simp [vtmps])]; simp [vtmps])
      have e4 : (tmps es ++ none :: S).set es.length (some o) = tmps es ++ some o :: S := by
        rw [List.set_append_right _ _ (by rw [tmps_len]; exact Nat.le_refl _), tmps_len]
        simp
      rw [e4] at s'
      obtain ⟨q, l⟩ := StV.outs s' a2 h1
      have e3 : ((o :: os').map some).reverse ++ S = (os'.map some).reverse ++ (some o :: S) := by simp
      rw [e3, e2]
      exact ⟨q, by simp [l]⟩
    · cases h
theorem StV.ins : ∀ {es : List Ev} {vs : List V} {fin : DS} {δ : DS} {S : DS} {T : L2.St}, fin.length = es.length → StV K g Z H δ σ (fin ++ S) (vs.map some ++ T) → Als σ es vs → StV K g Z H (VS.ins es fin δ) σ S T
  | [], vs, [], δ, S, T, hl, s, al => by
    have e : vs = [] := al
    subst e
    exact s
  | [], vs, _ :: _, δ, S, T, hl, s, al => by simp at hl
  | _ :: _, vs, [], δ, S, T, hl, s, al => by simp at hl
  | .val o :: es, vs, x :: xs, δ, S, T, hl, s, ⟨v, r, ev, a1, a2⟩ => by
    subst ev
    exact StV.ins (es := es) (fin := xs) (by simpa using hl) (StV.pop s) a2
  | .at i :: es, vs, x :: xs, δ, S, T, hl, s, ⟨v, r, ev, a1, a2⟩ => by
    subst ev
    have s' : StV K g Z H (δ.set i x) (σ.set i (some v)) (xs ++ S) (r.map some ++ T) := StV.asgY s
    rw [set_self a1] at s'
    exact StV.ins (es := es) (fin := xs) (by simpa using hl) s' a2
end
/-- a call of an own def -/
def xCall (F : FF) (fs : AF) : XF := fun δ => (fs δ).bind fun r => (outs r.1 r.2).bind fun r2 => (F r2.1).bind fun r3 => if r3.2.length = r.1.length then some (.val r3.1, ins r.1 r3.2 r2.2) else none
theorem call_coreM {K : PySem.W.Frag} {g : Gx} {Z : Addr → Prop} {H : Hp} {δ1 S : DS} {σ T : L2.St} {vs : List V} {os : List O} {F : FF} {r : O} {fin : DS} {Q : VK} {E : XK} {n : Nat} (s1 : StV K g Z H δ1 σ ((os.map some).reverse ++ S) (vtmps vs ++ T)) (l1 : os.length = vs.length) (hF : F os = some (r, fin)) (hl : fin.length = vs.length) (hn : vs.length = n)
    (post : ∀ v Z' H', StV K g Z' H' δ1 σ (fin ++ some r :: S) (vs.map some ++ some v :: T) → Q v H') : spV K n F vs H Q E := by
  obtain ⟨Fs, Ft, h1, h2, w⟩ := s1
  obtain ⟨G1, G2, f, a1, a2⟩ := RepS.append (by simp [vtmps, l1]) h2
  obtain ⟨Fa, b1, b2⟩ := a1.reverse
  unfold vtmps at b1
  rw [List.reverse_reverse, List.reverse_reverse] at b1
  have p : (Fs ++ Ft).Perm (Fa ++ (Fs ++ G2)) := by
    rw [f, ← List.append_assoc, ← List.append_assoc]
    exact List.Perm.append_right _ ((List.perm_append_comm).trans (List.Perm.append_right _ b2.symm))
  have w2 := w.perm p
  have nd := List.nodup_append.mp w2.nd
  refine ⟨Z, os, Fa, r, fin, hn, b1, nd.1, fun a ha => (w2.own a (List.mem_append_left _ ha)).1, fun a z => (w.zh a z).1, hF, fun v Z' H' F1 F2 P => post v Z' H' ?_⟩
  have restIn : ∀ a ∈ Fs ++ G2, (∃ u, H a = some u) := fun a ha => (List.mem_append.mp ha).elim (h1.dom a) (a2.dom a)
  have restNot : ∀ a ∈ Fs ++ G2, a ∉ Fa := fun a ha hf => nd.2.2 a hf a ha rfl
  have kp : Keep Z Z' H H' := by
    refine Keep.of P.z (fun a o z e => P.keep a o e fun hf => (w2.own a (List.mem_append_left _ hf)).1 z) fun a xs e => P.keep a _ e fun hf => ?_
    -- one's own objects are no tuples
    have noT : ∀ (os : List O) (vs : List V) (F : List Addr), RepS K Z H (os.map some) (vs.map some) F → ∀ a ∈ F, ∀ xs, H a ≠ some (.tup xs) := by
      intro os
      induction os with
      | nil =>
        intro vs F h a ha
        have e : F = [] := h.2
        rw [e] at ha
        cases ha
      | cons o os ih =>
        intro vs F h a ha xs e
        obtain ⟨y, r, F1, F2, e1, e2, q1, q2⟩ := h
        cases vs with
        | nil => simp at e1
        | cons v vs =>
          rw [List.map_cons] at e1
          injection e1 with e3 e4
          subst e3 e4 e2
          rcases List.mem_append.mp ha with ha | ha
          · have noO : ∀ (o : O) (v : V) (F : List Addr), RepO K Z H o v F → ∀ a ∈ F, ∀ xs, H a ≠ some (.tup xs) := by
              intro o
              refine O.rec (motive_1 := fun o => ∀ (v : V) (F : List Addr), RepO K Z H o v F → ∀ a ∈ F, ∀ xs, H a ≠ some (.tup xs)) (motive_2 := fun fs => ∀ (vs : List (Str × V)) (F : List Addr), RepOF K Z H fs vs F → ∀ a ∈ F, ∀ xs, H a ≠ some (.tup xs)) (motive_3 := fun p => ∀ (v : V) (F : List Addr), RepO K Z H p.2 v F → ∀ a ∈ F, ∀ xs, H a ≠ some (.tup xs)) ?_ ?_ ?_ ?_ ?_ ?_ ?_ ?_ o
              · intro d v F h a ha
                simp only [RepO] at h
                rw [h.1] at ha
                cases ha
              · intro ds v F h a ha xs e
                simp only [RepO] at h
                obtain ⟨b, vs, _, ef, hb, _⟩ := h
                rw [ef] at ha
                have : a = b := by simpa using ha
                rw [this, hb] at e
                cases e
              · intro ds v F h a ha xs e
                simp only [RepO] at h
                obtain ⟨b, vs, _, ef, hb, _⟩ := h
                rw [ef] at ha
                have : a = b := by simpa using ha
                rw [this, hb] at e
                cases e
              · intro ds v F h a ha xs e
                simp only [RepO] at h
                obtain ⟨b, vs, _, ef, hb, _⟩ := h
                rw [ef] at ha
                have : a = b := by simpa using ha
                rw [this, hb] at e
                cases e
              · intro c fs ih v F h a ha xs e
                simp only [RepO] at h
                obtain ⟨b, dx, vs, G, _, ef, hb, hG⟩ := h
                rw [ef] at ha
                rcases List.mem_cons.mp ha with ha | ha
                · rw [ha, hb] at e
                  cases e
                · exact ih vs G hG a ha xs e
              · intro vs F h a ha
                simp only [RepOF] at h
                rw [h.2] at ha
                cases ha
              · intro p fs ih1 ih2 vs F h a ha xs e
                obtain ⟨k, o⟩ := p
                simp only [RepOF] at h
                obtain ⟨v, r', F1, F2, _, ef, q1, q2⟩ := h
                rw [ef] at ha
                rcases List.mem_append.mp ha with ha | ha
                · exact ih1 v F1 q1 a ha xs e
                · exact ih2 r' F2 q2 a ha xs e
              · intro k o ih
                exact ih
            exact noO o v F1 q1 a ha xs e
          · exact ih vs F2 q2 a ha xs e
    exact noT os vs Fa b1 a hf xs e
  have keepRest : ∀ a ∈ Fs ++ G2, ∀ u, H a = some u → H' a = some u := fun a ha u e => P.keep a u e (restNot a ha)
  have d1 : RepS K Z' H' δ1 σ Fs := RepS.keep kp (fun a ha => keepRest a (List.mem_append_left _ ha)) h1
  have d2 : RepS K Z' H' S T G2 := RepS.keep kp (fun a ha => keepRest a (List.mem_append_right _ ha)) a2
  have app : ∀ {A : DS} {B : L2.St} {F : List Addr} {S : DS} {T : L2.St} {G : List Addr}, RepS K Z' H' S T G → RepS K Z' H' A B F → RepS K Z' H' (A ++ S) (B ++ T) (F ++ G) := by
    intro A
    induction A with
    | nil =>
      intro B F S T G hS h
      obtain ⟨e1, e2⟩ : B = [] ∧ F = [] := h
      subst e1 e2
      exact hS
    | cons x A ih =>
      intro B F S T G hS ⟨y, r, G1, G2, e, f, q1, q2⟩
      subst e f
      exact ⟨y, r ++ T, G1, G2 ++ G, rfl, by rw [List.append_assoc], q1, ih hS q2⟩
  have d3 : RepS K Z' H' (fin ++ some r :: S) (vs.map some ++ some v :: T) (F1 ++ (F2 ++ G2)) := app ⟨some v, T, F2, G2, rfl, rfl, P.rr, d2⟩ P.rf
  have st : StV K g Z' H' δ1 σ (fin ++ some r :: S) (vs.map some ++ some v :: T) := by
    refine ⟨Fs, _, d1, d3, ?_⟩
    have pp : ((F1 ++ F2) ++ (Fs ++ G2)).Perm (Fs ++ (F1 ++ (F2 ++ G2))) := by
      have e1 : (F1 ++ F2) ++ (Fs ++ G2) = ((F1 ++ F2) ++ Fs) ++ G2 := by simp
      have e2 : Fs ++ (F1 ++ (F2 ++ G2)) = (Fs ++ (F1 ++ F2)) ++ G2 := by simp
      rw [e1, e2]
      exact List.Perm.append_right _ List.perm_append_comm
    refine Wd.perm ?_ pp
    have disj : ∀ a ∈ F1 ++ F2, ∀ b ∈ Fs ++ G2, a ≠ b := fun a ha b hb e => by
      subst e
      rcases (P.own a ha).2 with q | q
      · exact restNot a hb q
      · obtain ⟨u, e⟩ := restIn a hb
        rw [q] at e
        cases e
    refine ⟨List.nodup_append.mpr ⟨P.nd, nd.2.1, disj⟩, fun a ha => ?_, fun a z => P.z a (w.z0 a z), fun a z => ?_, fun a u e => ?_⟩
    · rcases List.mem_append.mp ha with ha | ha
      · obtain ⟨q1, q2⟩ := P.own a ha
        refine ⟨q1, ?_⟩
        rcases q2 with q2 | q2
        · exact (w2.own a (List.mem_append_left _ q2)).2
        · cases q : g.G a with
          | none => rfl
          | some u =>
            have := w.gh a u q
            rw [q2] at this
            cases this
      · refine ⟨fun z => ?_, (w2.own a (List.mem_append_right _ ha)).2⟩
        rcases (P.zh a z).2 with q | q | q
        · exact (w2.own a (List.mem_append_right _ ha)).1 q
        · exact restNot a ha q
        · obtain ⟨u, e⟩ := restIn a ha
          rw [q] at e
          cases e
    · obtain ⟨q1, q2⟩ := P.zh a z
      refine ⟨q1, ?_⟩
      rcases q2 with q | q | q
      · exact (w.zh a q).2
      · exact .inr (w2.own a (List.mem_append_left _ q)).2
      · refine .inr ?_
        cases qq : g.G a with
        | none => rfl
        | some u =>
          have := w.gh a u qq
          rw [q] at this
          cases this
    · refine P.keep a u (w.gh a u e) fun hf => ?_
      have := (w2.own a (List.mem_append_left _ hf)).2
      rw [this] at e
      cases e
  exact st
theorem call_core {K : PySem.W.Frag} {g : Gx} {Z : Addr → Prop} {H : Hp} {δ δ1 S : DS} {σ T : L2.St} {es : List Ev} {vs : List V} {os : List O} {F : FF} {r : O} {fin : DS} {Q : VK} {E : XK} {n : Nat} (s : StV K g Z H δ σ (tmps es ++ S) (vtmps vs ++ T)) (al : Als σ es vs) (ho : outs es δ = some (os, δ1)) (hF : F os = some (r, fin)) (hl : fin.length = es.length) (hn : vs.length = n)
    (post : ∀ v Z' H', StV K g Z' H' (ins es fin δ1) σ (some r :: S) (some v :: T) → Q v H') : spV K n F vs H Q E := by
  obtain ⟨s1, l1⟩ := s.outs al ho
  exact call_coreM s1 l1 hF (by rw [hl, al.length]) hn fun v Z' H' st => post v Z' H' (StV.ins hl st al)
section
variable {X : Cx} {x m : Str} {p pos apos : Pos} {e o : Expr} {es : List Expr} {k n : Nat} {f C : Addr} {fd : FuncData} {ps : List Str} {F : FF} {fs : AF} {fo : XF}
theorem vs_call_core {σ : L2.St} {H : Hp} {Q : VK} (h : rdE X.K (xCall F fs) σ H Q) (hn : ∀ δ r, fs δ = some r → r.1.length = n) : tCall (spV X.K n F) [] E0 (rdA X.K fs) σ H Q := by
  obtain ⟨g, Z, δ, S, T, r, st, hf, post⟩ := h
  simp only [xCall, Option.bind_eq_some_iff] at hf
  obtain ⟨⟨es, δ1⟩, h1, ⟨os, δ2⟩, h2, ⟨r0, fin⟩, h3, h4⟩ := hf
  split at h4
  · rename_i hl
    cases h4
    refine ⟨g, Z, δ, S, T, _, st, h1, fun vs Z1 H1 st1 al1 => ?_⟩
    show spV X.K n F (vs ++ []) H1 Q E0
    rw [List.append_nil]
    exact call_core st1 al1 h2 h3 hl (by rw [← al1.length]; exact hn _ _ h1) fun v Z' H' st2 => post v Z' H' st2 trivial
  · cases h4
theorem ve_call (G : FnOk X.prog X.w X.K X.mg X.base CX0 k f fd ps (spV X.K n F)) (hn : ∀ δ r, fs δ = some r → r.1.length = n) (hr : Room k X.A) (hg : Gl X x) (hm : X.mg x = some (.ref f)) (hk : PySem.W.keepIn X.K (.ref f) = true) (hb : Binds X.K fd ps [])
    (ha : VA X (e :: es) fs) (hdb : (x == ("__debug__" : Str)) = false := by decide) (he : starEach (e :: es) X.env = (false, eval e X.env) :: starEach es X.env := by rfl) (hpl : (backTo pos (starEach es X.env)).any (·.1) = false := by rfl) :
    VE X (.Call (.Name x p) (e :: es) [] pos) (xCall F fs) := PEi (pe_call G hr hg hm hk hb .nil pass0 ha hdb he hpl) fun σ H Q h => vs_call_core h hn
end
/-- how many arguments -/
theorem aNil_len : ∀ δ r, aNil δ = some r → r.1.length = 0 := fun δ r h => by cases h; rfl
theorem aCons_len {m : Bool} {fa : XF} {fr : AF} {n : Nat} (h : ∀ δ r, fr δ = some r → r.1.length = n) : ∀ δ r, aCons m fa fr δ = some r → r.1.length = n + 1 := fun δ r hf => by
  simp only [aCons, Option.bind_eq_some_iff, Option.map_eq_some_iff] at hf
  obtain ⟨_, _, _, _, ⟨es', δ3⟩, h3, rfl⟩ := hf
  show es'.length + 1 = n + 1
  rw [h _ _ h3]
end VS

namespace VS
open PySem PySem.Spec L2
open PyProof.Rows (envOfC)
/-! ### a def by its body -/
def selM (M : List Nat) (δ : DS) : Nat → Nat → DS
  | _, 0 => []
  | i, n + 1 => (if M.contains i then (δ[i]?).join else none) :: selM M δ (i + 1) n
/-- n parameters, N names in all -/
def defF (n N : Nat) (M : List Nat) (fb : SF) : FF := fun os => if os.length = n then (fb (os.map some ++ List.replicate (N - n) none)).bind fun fl => match fl with
  | .rt o δ => some (o, selM M δ 0 n)
  | .nx δ => some (.sh .non, selM M δ 0 n)
  | _ => none
  else none
theorem selM_length (M : List Nat) (δ : DS) : ∀ (i n : Nat), (selM M δ i n).length = n
  | i, 0 => rfl
  | i, n + 1 => by simp [selM, selM_length M δ (i + 1) n]
section
variable {K : PySem.W.Frag} {g : Gx} {Z Z' : Addr → Prop} {H H' : Hp} {S U : DS} {T W : L2.St}
theorem sel_rep {M : List Nat} : ∀ {δ : DS} {σ : L2.St} {F : List Addr} {vs : List V} (i n : Nat) (δ0 : DS), RepS K Z H δ σ F → n = vs.length → (∀ j, (δ0[i + j]?) = δ[j]?) → n ≤ δ.length → (∀ j, j < n → i + j ∈ M → σ[j]? = some (vs[j]?)) →
    ∃ F', RepS K Z H (selM M δ0 i n) (vs.map some) F' ∧ F'.Sublist F
  | δ, σ, F, [], i, n, δ0, h, hn, hd, hl, ha => by
    have e : n = 0 := hn
    subst e
    exact ⟨[], ⟨rfl, rfl⟩, List.nil_sublist _⟩
  | [], σ, F, v :: vs, i, n, δ0, h, hn, hd, hl, ha => by simp at hl; subst hl; simp at hn
  | x :: δ, σ, F, v :: vs, i, n, δ0, ⟨y, r, F1, F2, e, f, h1, h2⟩, hn, hd, hl, ha => by
    have e0 : n = vs.length + 1 := hn
    subst e0 e f
    obtain ⟨F', q1, q2⟩ := sel_rep (M := M) (vs := vs) (i + 1) vs.length δ0 h2 rfl (fun j => by
      have := hd (j + 1)
      rw [show i + (j + 1) = i + 1 + j by omega] at this
      simpa using this) (by simp at hl; omega) (fun j hj hm => by
      have := ha (j + 1) (by simp; omega) (by rw [show i + (j + 1) = i + 1 + j by omega]; exact hm)
      simpa using this)
    by_cases hm : M.contains i
    · have hx : δ0[i]? = some x := by
        have := hd 0
        simpa using this
      have hy : y = some v := by
        have := ha 0 (by simp) (by simpa using hm)
        simpa using this
      subst hy
      refine ⟨F1 ++ F', ⟨some v, vs.map some, F1, F', rfl, rfl, ?_, q1⟩, List.Sublist.append (List.Sublist.refl _) q2⟩
      rw [if_pos hm, hx]
      exact h1
    · refine ⟨F', ⟨some v, vs.map some, [], F', rfl, rfl, ?_, q1⟩, q2.trans (List.sublist_append_right _ _)⟩
      rw [if_neg hm]
      exact rfl
end
section
variable {P : Program} {w : World} {K : PySem.W.Frag} {mg : Str → Option Value} {base : Heap}
theorem start_eq {N : List Str} {vs : List V} : start N vs = vs.map some ++ List.replicate (N.length - vs.length) none := rfl
/-- THE RULE for a def -/
theorem fnV {x qual : Str} {params : Arguments} {body : List Stmt} {scope : Scope} {f : Addr} {fd : FuncData} {N ps : List Str} {k : Nat} {M : List Nat} {fb : SF} (F : FunD K x qual params body scope [] [] f fd) (S : FnScope N ps scope)
    (hb : ∀ (cdv : Value) (A : Around) (outer : List Env) (s : Shared) (H : Hp) (E : XK), Room k (A.deeper (envOfC qual scope s.heap.objs.size f cdv)) → VXs (cxOf CX0 P w K mg base N qual scope f cdv A outer s H E).nox M body fb) :
    FnOk P w K mg base CX0 (k + 1) f fd ps (spV K ps.length (defF ps.length N.length M fb)) := by
  refine FunD.ok F S (fun vs H Q E h => ?_) (fun cdv A outer s H vs Q E hr h => ?_)
  · obtain ⟨_, _, _, _, _, hn, _⟩ := h
    exact hn
  · have hpl : ps.length ≤ N.length := by have := congrArg List.length S.pre; rw [List.length_take] at this; omega
    obtain ⟨Z, os, Fa, r, fin, hn, rs, nd, nz, zh, hF, post⟩ := h
    have hol : os.length = ps.length := by
      have := rs.length
      simp at this
      omega
    simp only [defF, if_pos hol, Option.bind_eq_some_iff] at hF
    obtain ⟨fl, h1, h2⟩ := hF
    refine ⟨rdS K M fb, (hb cdv A outer s H E hr).nox, ?_⟩
    refine ⟨⟨Z, fun a => if a ∈ Fa then none else H a⟩, Z, _, [], [], fl, ?_, h1, ?_⟩
    · -- the state at the entry
      have repN : ∀ m : Nat, RepS K Z H (List.replicate m (none : Option O)) (List.replicate m (none : Option V)) [] := by
        intro m
        induction m with
        | zero => exact ⟨rfl, rfl⟩
        | succ m ih => exact ⟨none, _, [], [], rfl, rfl, rfl, ih⟩
      have app : ∀ {A : DS} {B : L2.St} {F : List Addr}, RepS K Z H A B F → RepS K Z H (A ++ List.replicate (N.length - ps.length) none) (B ++ List.replicate (N.length - vs.length) none) F := by
        intro A
        induction A with
        | nil =>
          intro B F h
          obtain ⟨e1, e2⟩ : B = [] ∧ F = [] := h
          subst e1 e2
          rw [hn]
          exact repN _
        | cons x A ih =>
          intro B F ⟨y, r, G1, G2, e, f, q1, q2⟩
          subst e f
          exact ⟨y, r ++ _, G1, G2, rfl, rfl, q1, ih q2⟩
      rw [start_eq]
      refine ⟨Fa, [], app rs, ⟨rfl, rfl⟩, by simpa using nd, fun a ha => ?_, fun a z => z, fun a z => ⟨zh a z, .inl z⟩, fun a o e => ?_⟩
      · have ha' : a ∈ Fa := by simpa using ha
        exact ⟨nz a ha', by show (if a ∈ Fa then none else H a) = none; rw [if_pos ha']⟩
      · have e' : (if a ∈ Fa then none else H a) = some o := e
        split at e'
        · cases e'
        · exact e'
    · -- the end
      have fin' : ∀ {o : O} {δ' : DS} {v : V} {σ' : L2.St} {Z' : Addr → Prop} {H' : Hp}, o = r → selM M δ' 0 ps.length = fin → StV K ⟨Z, fun a => if a ∈ Fa then none else H a⟩ Z' H' δ' σ' [some o] [some v] → Agree M (start N vs) σ' → Q v H' := by
        intro o δ' v σ' Z' H' eo ef st ag
        have hdl : ps.length ≤ δ'.length := by
          rw [st.len, ag.1, start_eq, List.length_append, List.length_map, List.length_replicate]
          omega
        subst eo ef
        obtain ⟨Fs, Ft, q1, ⟨y', r', G1, G2, e1, e2, q2, ⟨e4, e5⟩⟩, w⟩ := st
        cases e1
        subst e5 e2
        obtain ⟨F1, s1, s2⟩ := sel_rep (M := M) (vs := vs) 0 ps.length δ' q1 hn.symm (fun j => by rw [Nat.zero_add]) (by omega) (fun j hj hm => by
          rw [ag.2 j (by simpa using hm), start_eq, List.getElem?_append_left (by simp; omega)]
          rw [List.getElem?_map]
          have : j < vs.length := by omega
          simp [this])
        have w2 : Wd ⟨Z, fun a => if a ∈ Fa then none else H a⟩ Z' H' (F1 ++ G1) := w.sub (List.Sublist.append s2 (by simp))
        refine post v Z' H' F1 G1 ⟨w2.z0, fun a z => ?_, fun a o e hf => ?_, s1, q2, w2.nd, fun a ha => ?_⟩
        · obtain ⟨p1, p2⟩ := w2.zh a z
          refine ⟨p1, ?_⟩
          rcases p2 with p2 | p2
          · exact .inl p2
          · have p2' : (if a ∈ Fa then none else H a) = none := p2
            by_cases hf : a ∈ Fa
            · exact .inr (.inl hf)
            · rw [if_neg hf] at p2'
              exact .inr (.inr p2')
        · exact w2.gh a o (by show (if a ∈ Fa then none else H a) = some o; rw [if_neg hf]; exact e)
        · obtain ⟨p1, p2⟩ := w2.own a ha
          refine ⟨p1, ?_⟩
          have p2' : (if a ∈ Fa then none else H a) = none := p2
          by_cases hf : a ∈ Fa
          · exact .inl hf
          · rw [if_neg hf] at p2'
            exact .inr p2'
      cases fl with
      | rt o δ' =>
        cases h2
        exact fun v σ' Z' H' st ag => fin' rfl rfl st ag
      | nx δ' =>
        cases h2
        exact fun σ' Z' H' st ag => fin' rfl rfl (st.push Res.non) ag
      | bk δ' => cases h2
      | ct δ' => cases h2
end
end VS

namespace VS
open PySem PySem.Spec L2
/-! ### attributes -/
section
variable {K : PySem.W.Frag} {Z : Addr → Prop} {H : Hp} {v : V}
theorem RepF.lookup {f : Str} : ∀ {fs : List (Str × D)} {vs : List (Str × V)}, RepF K Z H fs vs → (∀ d, fs.lookup f = some d → ∃ w, vs.lookup f = some w ∧ RepD K Z H d w) ∧ (fs.lookup f = none → vs.lookup f = none)
  | [], vs, h => by
    simp only [RepF] at h
    subst h
    exact ⟨fun d e => (nomatch (show (none : Option D) = some d from e)), fun _ => rfl⟩
  | (k, d0) :: r, vs, h => by
    simp only [RepF] at h
    obtain ⟨w, r', rfl, h1, h2⟩ := h
    have ih := RepF.lookup (f := f) h2
    by_cases e : (f == k) = true
    · simp only [List.lookup, e]
      exact ⟨fun d q => by cases q; exact ⟨w, rfl, h1⟩, fun q => by cases q⟩
    · have e' : (f == k) = false := by simpa using e
      simp only [List.lookup, e']
      exact ih
theorem RepOF.lookup {f : Str} : ∀ {fs : List (Str × O)} {vs : List (Str × V)} {F : List Addr}, RepOF K Z H fs vs F → (∀ o, fs.lookup f = some o → ∃ w G, vs.lookup f = some w ∧ RepO K Z H o w G) ∧ (fs.lookup f = none → vs.lookup f = none)
  | [], vs, F, h => by
    simp only [RepOF] at h
    rw [h.1]
    exact ⟨fun d e => (nomatch (show (none : Option O) = some d from e)), fun _ => rfl⟩
  | (k, d0) :: r, vs, F, h => by
    simp only [RepOF] at h
    obtain ⟨w, r', F1, F2, rfl, ef, h1, h2⟩ := h
    have ih := RepOF.lookup (f := f) h2
    by_cases e : (f == k) = true
    · simp only [List.lookup, e]
      exact ⟨fun d q => by cases q; exact ⟨w, F1, rfl, h1⟩, fun q => by cases q⟩
    · have e' : (f == k) = false := by simpa using e
      simp only [List.lookup, e']
      exact ih
end
/-- e.f of an instance of the class c; what is one's own there is not handed out -/
def fldO (c f : Str) : O → Option D
  | .sh (.obj c' fs) => if c' = c then fs.lookup f else none
  | .obj c' fs => if c' = c then match fs.lookup f with
    | some (.sh d) => some d
    | _ => none
    else none
  | _ => none
def xFld (c f : Str) (fe : XF) : XF := fun δ => (fe δ).bind fun r => (look r.2 r.1).bind fun o => (fldO c f o).map fun d => (.val (.sh d), r.2)
section
variable {X : Cx} {e : Expr} {fe : XF} {pos : Pos}
theorem ve_fld {c f : Str} (cl : Cls X.K (He.ga X.K c)) (na : NoAttr X.K (He.ga X.K c) f) (he : VE X e fe) (hb : attributeBase e f X.env (eval e X.env) = eval e X.env) : VE X (.Attribute e f pos) (xFld c f fe) := PEi (pe_fld he hb) fun σ H Q ⟨g, Z, δ, S, T, r, st, hf, post⟩ => by
  simp only [xFld, Option.bind_eq_some_iff, Option.map_eq_some_iff] at hf
  obtain ⟨⟨ev, δ1⟩, h1, o, h2, d, h3, rfl⟩ := hf
  refine ⟨g, Z, δ, S, T, _, st, h1, fun v Z1 H1 st1 al1 => ?_⟩
  obtain ⟨F, ro⟩ := st1.look al1 h2
  cases o <;> simp only [fldO, reduceCtorEq] at h3
  · rename_i d0
    cases d0 <;> simp only [fldO, reduceCtorEq] at h3
    rename_i c' fs
    split at h3
    · rename_i ec
      subst ec
      simp only [RepO, RepD] at ro
      obtain ⟨_, a, dx, vs, rfl, _, ha, rf⟩ := ro
      obtain ⟨w, q1, q2⟩ := rf.lookup.1 d h3
      exact ⟨a, _, dx, vs, w, rfl, ha, cl, na, q1, post w Z1 H1 (st1.pop.pushD q2) trivial⟩
    · cases h3
  · rename_i c' fs
    split at h3
    · rename_i ec
      subst ec
      split at h3
      · rename_i d' q
        cases h3
        simp only [RepO] at ro
        obtain ⟨a, dx, vs, G, rfl, _, ha, rf⟩ := ro
        obtain ⟨w, G', q1, q2⟩ := rf.lookup.1 _ q
        simp only [RepO] at q2
        exact ⟨a, _, dx, vs, w, rfl, ha, cl, na, q1, post w Z1 H1 (st1.pop.pushD q2.2) trivial⟩
      · cases h3
    · cases h3
end
/-! ### self.f = e -/
def putO (f : Str) (o : O) : List (Str × O) → List (Str × O)
  | [] => [(f, o)]
  | (k, x) :: r => if k = f then (k, o) :: r else (k, x) :: putO f o r
def sAttr (i : Nat) (c f : Str) (fe : XF) : SF := fun δ => (fe δ).bind fun r => (tk r.2 r.1).bind fun r => match r.2[i]? with
  | some (some (.obj c' fs)) => if c' = c ∧ fs.length < 1000 then some (.nx (r.2.set i (some (.obj c' (putO f r.1 fs))))) else none
  | _ => none
section
variable {K : PySem.W.Frag} {g : Gx} {Z Z' : Addr → Prop} {H H' : Hp} {δ S U : DS} {σ T W : L2.St} {o : O} {v : V}
theorem RepOF.put {f : Str} {Fo : List Addr} (ho : RepO K Z H o v Fo) : ∀ {fs : List (Str × O)} {vs : List (Str × V)} {F : List Addr}, RepOF K Z H fs vs F → ∃ F' Fd, RepOF K Z H (putO f o fs) (putF f v vs) F' ∧ (Fo ++ F).Perm (F' ++ Fd)
  | [], vs, F, h => by
    simp only [RepOF] at h
    obtain ⟨h1, h2⟩ := h
    subst h1 h2
    refine ⟨Fo, [], ?_, by simp⟩
    simp only [putO, RepOF]
    exact ⟨v, [], Fo, [], rfl, by simp, ho, rfl, rfl⟩
  | (k, x) :: r, vs, F, h => by
    simp only [RepOF] at h
    obtain ⟨w, r', F1, F2, rfl, ef, h1, h2⟩ := h
    subst ef
    by_cases e : k = f
    · refine ⟨Fo ++ F2, F1, ?_, ?_⟩
      · simp only [putO, if_pos e, putF, RepOF]
        exact ⟨v, r', Fo, F2, rfl, rfl, ho, h2⟩
      · rw [List.append_assoc]
        exact List.Perm.append_left _ List.perm_append_comm
    · obtain ⟨F', Fd, q1, q2⟩ := RepOF.put (f := f) ho h2
      refine ⟨F1 ++ F', Fd, ?_, ?_⟩
      · simp only [putO, if_neg e, putF, RepOF]
        exact ⟨w, _, F1, F', rfl, rfl, h1, q1⟩
      · rw [List.append_assoc]
        refine List.Perm.trans ?_ (List.Perm.append_left F1 q2)
        rw [← List.append_assoc, ← List.append_assoc]
        exact List.Perm.append_right _ List.perm_append_comm
theorem StV.attr {i : Nat} {c f : Str} {fs : List (Str × O)} {w : V} (s : StV K g Z H δ σ (some o :: S) (some w :: T)) (h : δ[i]? = some (some (.obj c fs))) (hv : σ[i]? = some (some v)) :
    ∃ a dx vs, v = .ref a ∧ H a = some (.ins (He.ga K c) dx vs) ∧ vs.length = fs.length ∧ StV K g Z (L2.upd H a (.ins (He.ga K c) dx (putF f w vs))) (δ.set i (some (.obj c (putO f o fs)))) σ S T := by
  obtain ⟨Fs, Ft, h1, ⟨y', r, G1, G2, e, ef, h3, h4⟩, w1⟩ := s
  cases e
  subst ef
  obtain ⟨y, Fi, Fr, e, p, q, put⟩ := h1.at h
  rw [hv] at e
  cases e
  have q1 : RepO K Z H (.obj c fs) v Fi := q
  simp only [RepO] at q1
  obtain ⟨a, dx, vs, G, rfl, eFi, ha, rf⟩ := q1
  subst eFi
  have len : ∀ {fs : List (Str × O)} {vs : List (Str × V)} {F : List Addr}, RepOF K Z H fs vs F → vs.length = fs.length := by
    intro fs
    induction fs with
    | nil =>
      intro vs F h
      simp only [RepOF] at h
      rw [h.1]
      rfl
    | cons p fs ih =>
      intro vs F h
      obtain ⟨k, o⟩ := p
      simp only [RepOF] at h
      obtain ⟨w, r', F1, F2, rfl, _, _, h2⟩ := h
      simp [ih h2]
  refine ⟨a, dx, vs, rfl, ha, len rf, ?_⟩
  have p2 : (Fs ++ (G1 ++ G2)).Perm ((a :: (G1 ++ G)) ++ (Fr ++ G2)) := by
    have x1 : (Fs ++ (G1 ++ G2)).Perm ((a :: G) ++ Fr ++ (G1 ++ G2)) := List.Perm.append_right _ p
    refine x1.trans ?_
    have x2 : ((a :: G) ++ Fr ++ (G1 ++ G2)).Perm (G1 ++ ((a :: G) ++ Fr ++ G2)) := by
      have y1 : (a :: G) ++ Fr ++ (G1 ++ G2) = ((a :: G) ++ Fr ++ G1) ++ G2 := by simp
      have y2 : G1 ++ ((a :: G) ++ Fr ++ G2) = (G1 ++ ((a :: G) ++ Fr)) ++ G2 := by simp
      rw [y1, y2]
      exact List.Perm.append_right _ List.perm_append_comm
    refine x2.trans ?_
    have y3 : G1 ++ ((a :: G) ++ Fr ++ G2) = (G1 ++ [a]) ++ (G ++ Fr ++ G2) := by simp
    have y4 : (a :: (G1 ++ G)) ++ (Fr ++ G2) = ([a] ++ G1) ++ (G ++ Fr ++ G2) := by simp
    rw [y3, y4]
    exact List.Perm.append_right _ List.perm_append_comm
  have w2 := w1.perm p2
  have nd := List.nodup_append.mp w2.nd
  have nda := List.nodup_cons.mp nd.1
  have za : ¬ Z a := (w2.own a (List.mem_append_left _ List.mem_cons_self)).1
  have ga : g.G a = none := (w2.own a (List.mem_append_left _ List.mem_cons_self)).2
  have kp : Keep Z Z H (L2.upd H a (.ins (He.ga K c) dx (putF f w vs))) := Keep.of (fun _ z => z) (fun b u z e => by
    rw [upd_ne fun q : b = a => za (by rw [← q]; exact z)]
    exact e) fun b xs e => by
    rw [upd_ne fun q => by rw [q, ha] at e; cases e]
    exact e
  have ot : ∀ b, b ≠ a → ∀ u, H b = some u → L2.upd H a (.ins (He.ga K c) dx (putF f w vs)) b = some u := fun b hb u e => by rw [upd_ne hb]; exact e
  have h3' : RepO K Z H o w G1 := h3
  have ho2 := RepO.keep kp o w G1 (fun b hb => ot b fun q : b = a => nda.1 (by rw [← q]; exact List.mem_append_left _ hb)) h3'
  have hf2 := RepOF.keep kp fs vs G (fun b hb => ot b fun q : b = a => nda.1 (by rw [← q]; exact List.mem_append_right _ hb)) rf
  obtain ⟨F', Fd, r1, r2⟩ := RepOF.put (f := f) ho2 hf2
  have ro : RepO K Z (L2.upd H a (.ins (He.ga K c) dx (putF f w vs))) (.obj c (putO f o fs)) (.ref a) (a :: F') := by
    simp only [RepO]
    exact ⟨a, dx, putF f w vs, F', rfl, rfl, upd_same, r1⟩
  obtain ⟨Fn, s1, s2⟩ := put Z _ (some (.obj c (putO f o fs))) (some (.ref a)) (a :: F') kp (fun b hb => ot b fun q => nd.2.2 a List.mem_cons_self b (List.mem_append_left _ hb) q.symm) ro
  rw [set_self hv] at s1
  have h4' : RepS K Z (L2.upd H a (.ins (He.ga K c) dx (putF f w vs))) S T G2 := RepS.keep kp (fun b hb => ot b fun q => nd.2.2 a List.mem_cons_self b (List.mem_append_right _ hb) q.symm) h4
  have w3 : Wd g Z H (Fn ++ G2) := by
    have x1 : ((a :: (G1 ++ G)) ++ (Fr ++ G2)).Perm (Fd ++ (Fn ++ G2)) := by
      have x2 : (a :: (G1 ++ G)).Perm (a :: (F' ++ Fd)) := List.Perm.cons a r2
      have x3 : (a :: (F' ++ Fd)).Perm (Fd ++ (a :: F')) := by
        have : a :: (F' ++ Fd) = (a :: F') ++ Fd := rfl
        rw [this]
        exact List.perm_append_comm
      have x4 : (Fd ++ (a :: F') ++ (Fr ++ G2)).Perm (Fd ++ (Fn ++ G2)) := by
        rw [List.append_assoc]
        refine List.Perm.append_left _ ?_
        rw [← List.append_assoc]
        exact List.Perm.append_right _ s2.symm
      exact (List.Perm.append_right _ (x2.trans x3)).trans x4
    exact (w2.perm x1).sub (List.sublist_append_right _ _)
  refine ⟨Fn, G2, s1, h4', w3.nd, w3.own, w3.z0, fun b z => ⟨?_, (w3.zh b z).2⟩, fun b u e => ?_⟩
  · obtain ⟨u, e⟩ := (w3.zh b z).1
    exact ⟨u, ot b (fun q : b = a => za (by rw [← q]; exact z)) u e⟩
  · rw [upd_ne fun q => by rw [q, ga] at e; cases e]
    exact w3.gh b u e
end
section
variable {X : Cx} {e : Expr} {fe : XF} {pos pos' : Pos} {M : List Nat} {ob : Expr}
theorem vs_attr {i : Nat} {c f : Str} (cl : Cls X.K (He.ga X.K c)) (na : NoAttr X.K (He.ga X.K c) f) (ho : PE X ob (tVar i)) (he : VE X e fe) (hs : swapsWith e (some (.Attribute ob f pos')) pos.line X.env = pure false := by rfl) :
    VX X M (.Assign [.Attribute ob f pos'] e pos) (sAttr i c f fe) := PSi (ps_fld ho he hs) fun D σ H ⟨g, Z, δ, S, T, r, st, hf, post⟩ => by
  simp only [sAttr, Option.bind_eq_some_iff] at hf
  obtain ⟨⟨ev, δ1⟩, h1, ⟨o, δ2⟩, h2, h3⟩ := hf
  refine ⟨g, Z, δ, S, T, _, st, h1, fun w Z1 H1 st1 al1 => ?_⟩
  obtain ⟨Z2, st2, _⟩ := st1.tk al1 h2
  split at h3
  · rename_i c' fs q
    split at h3
    · rename_i hh
      obtain ⟨ec, hlen⟩ := hh
      subst ec
      cases h3
      obtain ⟨v, F, e1, _⟩ := st2.slot q
      obtain ⟨a, dx, vs, ev', ha, hl, st3⟩ := st2.attr (f := f) q e1
      subst ev'
      exact ⟨.ref a, e1, a, _, dx, vs, rfl, ha, cl, na, by omega, post σ Z2 _ st3 (Agree.refl _ _)⟩
    · cases h3
  · cases h3
end
/-! ### methods of an own class, and its making -/
def noFld (c m : Str) : O → Bool
  | .sh (.obj c' fs) => decide (c' = c) && (fs.lookup m).isNone
  | .obj c' fs => decide (c' = c) && (fs.lookup m).isNone
  | _ => false
def xMeth (c m : Str) (F : FF) (fo : XF) (fs : AF) : XF := fun δ => (fo δ).bind fun r0 => (look r0.2 r0.1).bind fun o => if noFld c m o then
  (fs r0.2).bind fun r => (outs (r0.1 :: r.1) r.2).bind fun r2 => (F r2.1).bind fun r3 => if r3.2.length = r.1.length + 1 then some (.val r3.1, ins (r0.1 :: r.1) r3.2 r2.2) else none
  else none
section
variable {X : Cx} {x m c : Str} {p pos apos : Pos} {e o : Expr} {es : List Expr} {k n : Nat} {f : Addr} {fd : FuncData} {ps : List Str} {F : FF} {fs : AF} {fo : XF}
theorem meth_core {σ : L2.St} {H : Hp} {Q : VK} (h : rdE X.K (xMeth c m F fo fs) σ H Q) (hn : ∀ δ r, fs δ = some r → r.1.length + 1 = n) : tMeth (He.ga X.K c) m (spV X.K n F) [] E0 (rdE X.K fo) (rdA X.K fs) σ H Q := by
  obtain ⟨g, Z, δ, S, T, r, st, hf, post⟩ := h
  simp only [xMeth, Option.bind_eq_some_iff] at hf
  obtain ⟨⟨e0, δ0⟩, h1, ob, h2, h3⟩ := hf
  split at h3
  · rename_i hno
    simp only [Option.bind_eq_some_iff] at h3
    obtain ⟨⟨es, δ1⟩, h4, ⟨os, δ2⟩, h5, ⟨r0, fin⟩, h6, h7⟩ := h3
    split at h7
    · rename_i hl
      cases h7
      refine ⟨g, Z, δ, S, T, _, st, h1, fun v Z1 H1 st1 al1 => ?_⟩
      obtain ⟨Fo, ro⟩ := st1.look al1 h2
      have inst : ∃ a dx vs, v = .ref a ∧ H1 a = some (.ins (He.ga X.K c) dx vs) ∧ vs.lookup m = none := by
        cases ob <;> simp only [noFld, Bool.false_eq_true, reduceCtorEq] at hno
        · rename_i d
          cases d <;> simp only [noFld, Bool.false_eq_true, reduceCtorEq] at hno
          rename_i c' fs
          simp only [Bool.and_eq_true, decide_eq_true_eq, Option.isNone_iff_eq_none] at hno
          obtain ⟨ec, hm⟩ := hno
          subst ec
          simp only [RepO, RepD] at ro
          obtain ⟨_, a, dx, vs, rfl, _, ha, rf⟩ := ro
          exact ⟨a, dx, vs, rfl, ha, rf.lookup.2 hm⟩
        · rename_i c' fs
          simp only [Bool.and_eq_true, decide_eq_true_eq, Option.isNone_iff_eq_none] at hno
          obtain ⟨ec, hm⟩ := hno
          subst ec
          simp only [RepO] at ro
          obtain ⟨a, dx, vs, G, rfl, _, ha, rf⟩ := ro
          exact ⟨a, dx, vs, rfl, ha, rf.lookup.2 hm⟩
      obtain ⟨a, dx, vs, rfl, ha, hm⟩ := inst
      refine ⟨a, dx, vs, rfl, ha, hm, g, Z1, δ0, _, _, _, st1, h4, fun ws Z2 H2 st2 al2 => ?_⟩
      show spV X.K n F (V.ref a :: (ws ++ [])) H2 Q E0
      rw [List.append_nil]
      have e1 : tmps es ++ (e0.tmp :: S) = tmps (e0 :: es) ++ S := by simp [tmps]
      have e2 : vtmps ws ++ (some (V.ref a) :: T) = vtmps (V.ref a :: ws) ++ T := by simp [vtmps]
      have st3 : StV X.K g Z2 H2 δ1 σ (tmps es ++ (e0.tmp :: S)) (vtmps ws ++ (some (V.ref a) :: T)) := st2
      rw [e1, e2] at st3
      exact call_core st3 ⟨_, ws, rfl, al1, al2⟩ h5 h6 hl (by rw [List.length_cons, ← al2.length]; exact hn _ _ h4) fun v Z' H' st4 => post v Z' H' st4 trivial
    · cases h7
  · cases h3
theorem ve_meth {pl : Sem Bool} (cl : Cls X.K (He.ga X.K c)) (hm : Meth X.K (He.ga X.K c) m f) (G : FnOk X.prog X.w X.K X.mg X.base CX0 k f fd ps (spV X.K n F)) (hn : ∀ δ r, fs δ = some r → r.1.length + 1 = n) (hr : Room k X.A) (hb : Binds X.K fd ps []) (he : VE X o fo) (ha : VA X (e :: es) fs)
    (hst : starEach (e :: es) X.env = (false, eval e X.env) :: starEach es X.env := by rfl) (hpl : (backTo pos (starEach es X.env)).any (·.1) = false := by rfl)
    (ht : eval (.Call (.Attribute o m apos) (e :: es) [] pos) X.env = (do
      let ov ← eval o X.env
      standAt apos.atName
      let (f, first) ← holding [ov] (getMethod ov m pl)
      callWith pos f first (backTo pos (starEach (e :: es) X.env)) (backToKw pos (keywordEach [] X.env))) := by rfl) :
    VE X (.Call (.Attribute o m apos) (e :: es) [] pos) (xMeth c m F fo fs) := PEi (pe_meth he cl hm G hr hb .nil pass0 ha hst hpl ht) fun σ H Q h => meth_core h hn
theorem ve_meth0 {pl : Sem Bool} (cl : Cls X.K (He.ga X.K c)) (hm : Meth X.K (He.ga X.K c) m f) (G : FnOk X.prog X.w X.K X.mg X.base CX0 k f fd ps (spV X.K 1 F)) (hr : Room k X.A) (hb : Binds X.K fd ps []) (he : VE X o fo)
    (ht : eval (.Call (.Attribute o m apos) [] [] pos) X.env = (do
      let ov ← eval o X.env
      standAt apos.atName
      let (f, first) ← holding [ov] (getMethod ov m pl)
      callWith pos f first (backTo pos (starEach [] X.env)) (backToKw pos (keywordEach [] X.env))) := by rfl) :
    VE X (.Call (.Attribute o m apos) [] [] pos) (xMeth c m F fo aNil) := PEi (pe_meth0 he cl hm G hr hb .nil pass0 ht) fun σ H Q h => by
  have q := meth_core (X := X) h (n := 1) fun δ r hr => by cases hr; rfl
  obtain ⟨g, Z, δ, S, T, r, st, hf, post⟩ := q
  refine ⟨g, Z, δ, S, T, r, st, hf, fun v Z1 H1 st1 al1 => ?_⟩
  obtain ⟨a, dx, fs, e1, e2, e3, g', Z', δ', S', T', r', st', hf', post'⟩ := post v Z1 H1 st1 al1
  cases hf'
  exact ⟨a, dx, fs, e1, e2, e3, post' [] Z' H1 st' rfl⟩
/-- C(..): one's own, or frozen at once -/
def xMake (c : Str) (F : FF) (frz : Bool) (fs : BF) : XF := fun δ => (fs δ).bind fun r => (F (.obj c [] :: r.1)).bind fun r3 => match r3.1, r3.2 with
  | .sh .non, some self :: rest => if rest.length = r.1.length then some (.val (if frz then .sh self.fz else self), r.2) else none
  | _, _ => none
theorem make_core {σ : L2.St} {H : Hp} {Q : VK} {frz : Bool} {fs : BF} (h : rdE X.K (xMake c F frz fs) σ H Q) (hn : ∀ δ r, fs δ = some r → r.1.length + 1 = n) : tMake (He.ga X.K c) (spV X.K n F) [] E0 (rdB X.K fs) σ H Q := by
  obtain ⟨g, Z, δ, S, T, r, st, hf, post⟩ := h
  simp only [xMake, Option.bind_eq_some_iff] at hf
  obtain ⟨⟨os, δ1⟩, h1, ⟨r0, fin⟩, h2, h3⟩ := hf
  split at h3
  · rename_i self rest q1 q2
    split at h3
    · rename_i hl
      cases h3
      have q1' : r0 = .sh .non := q1
      have q2' : fin = some self :: rest := q2
      subst q1' q2'
      refine ⟨g, Z, δ, S, T, _, st, h1, fun vs Z1 H1 st1 hvl x dx hx hdx hne => ?_⟩
      show spV X.K n F (V.ref x :: (vs ++ [])) _ _ E0
      rw [List.append_nil]
      -- the new instance among the temporaries
      have sm1 : Same H1 (L2.upd H1 dx (.own x)) := Same.upd hdx
      have hx2 : L2.upd H1 dx (.own x) x = none := by rw [upd_ne (Ne.symm hne)]; exact hx
      have rs : Res X.K Z1 H1 (.obj c []) (.ref x) (L2.upd (L2.upd H1 dx (.own x)) x (.ins (He.ga X.K c) dx [])) := by
        refine ⟨[x], sm1.trans (Same.upd hx2), ?_, by simp, fun a ha => ?_⟩
        · simp only [RepO, RepOF]
          exact ⟨x, dx, [], [], rfl, rfl, upd_same, rfl, rfl⟩
        · have e : a = x := by simpa using ha
          rw [e]; exact hx
      -- beneath the arguments: as the first one
      have st2 : StV X.K g Z1 (L2.upd (L2.upd H1 dx (.own x)) x (.ins (He.ga X.K c) dx [])) δ1 σ ((os.map some).reverse ++ (some (.obj c []) :: S)) (vtmps vs ++ (some (.ref x) :: T)) := by
        obtain ⟨Fs, Ft, a1, ⟨y', r', G1, G2, e1, e2, a2, a3⟩, w⟩ := st1.push rs
        cases e1
        subst e2
        have hol : (os.map some).length = (vtmps vs).length := by
          have : os.length = vs.length := hvl
          simp [vtmps, this]
        obtain ⟨U1, U2, f, b1, b2⟩ := RepS.append (A := (os.map some).reverse) (C := vtmps vs) (by simpa using hol) a3
        subst f
        have app : ∀ {A : DS} {B : L2.St} {F : List Addr} {S : DS} {T : L2.St} {G : List Addr}, RepS X.K Z1 (L2.upd (L2.upd H1 dx (.own x)) x (.ins (He.ga X.K c) dx [])) S T G → RepS X.K Z1 (L2.upd (L2.upd H1 dx (.own x)) x (.ins (He.ga X.K c) dx [])) A B F → RepS X.K Z1 (L2.upd (L2.upd H1 dx (.own x)) x (.ins (He.ga X.K c) dx [])) (A ++ S) (B ++ T) (F ++ G) := by
          intro A
          induction A with
          | nil =>
            intro B F S T G hS h
            obtain ⟨e1, e2⟩ : B = [] ∧ F = [] := h
            subst e1 e2
            exact hS
          | cons x A ih =>
            intro B F S T G hS ⟨y, r, G1, G2, e, f, q1, q2⟩
            subst e f
            exact ⟨y, r ++ T, G1, G2 ++ G, rfl, by rw [List.append_assoc], q1, ih hS q2⟩
        refine ⟨Fs, _, a1, app ⟨some (.ref x), T, G1, U2, rfl, rfl, a2, b2⟩ b1, w.perm ?_⟩
        refine List.Perm.append_left _ ?_
        rw [← List.append_assoc, ← List.append_assoc]
        exact List.Perm.append_right _ List.perm_append_comm
      have e1 : (os.map some).reverse ++ (some (O.obj c []) :: S) = tmps ((O.obj c [] :: os).map Ev.val) ++ S := by
        simp [tmps, Ev.tmp, Function.comp_def]
      have e2 : vtmps vs ++ (some (V.ref x) :: T) = vtmps (V.ref x :: vs) ++ T := by simp [vtmps]
      rw [e1, e2] at st2
      have al : ∀ (os : List O) (vs : List V), os.length = vs.length → Als σ (os.map Ev.val) vs := by
        intro os
        induction os with
        | nil =>
          intro vs h
          exact List.eq_nil_of_length_eq_zero h.symm
        | cons o os ih =>
          intro vs h
          match vs, h with
          | v :: vs, h => exact ⟨v, vs, rfl, trivial, ih vs (by simpa using h)⟩
      have ou : ∀ (os : List O) (δ : DS), outs (os.map Ev.val) δ = some (os, δ) := by
        intro os
        induction os with
        | nil => intro δ; rfl
        | cons o os ih => intro δ; simp [outs, ih]
      have hvl' : os.length = vs.length := hvl
      -- the call; its self comes back beside the result: done by hand
      obtain ⟨s1, l1⟩ := st2.outs (al (O.obj c [] :: os) (V.ref x :: vs) (by simp [hvl'])) (ou _ _)
      refine call_coreM s1 l1 h2 (by show rest.length + 1 = vs.length + 1; rw [show rest.length = os.length from hl, hvl']) (by rw [List.length_cons, ← hvl']; exact hn _ _ h1) fun v Z' H' st5 => ?_
      have st6 : StV X.K g Z' H' δ1 σ (some self :: (rest ++ some (.sh .non) :: S)) (some (.ref x) :: (vs.map some ++ some v :: T)) := st5
      have hv : v = .non := by
        have e3 : rest.length = (vs.map some).length := by
          have : rest.length = os.length := hl
          simp [this, hvl']
        have := StV.popN (U := rest) (W := vs.map some) e3 st6.pop
        have q := topD this
        simpa only [RepD] using q
      refine ⟨hv, ?_⟩
      have e3 : (rest ++ [some (O.sh .non)]).length = (vs.map some ++ [some v]).length := by
        have : rest.length = os.length := hl
        simp [this, hvl']
      have st7 : StV X.K g Z' H' δ1 σ (some self :: S) (some (.ref x) :: T) := StV.mid (A := [some self]) (B := [some (.ref x)]) (U := rest ++ [some (.sh .non)]) (W := vs.map some ++ [some v]) rfl e3 (by simpa using st6)
      cases frz with
      | false => exact post (.ref x) Z' H' st7 trivial
      | true =>
        obtain ⟨Z'', st8, _⟩ := st7.frzT
        exact post (.ref x) Z'' H' st8 trivial
    · cases h3
  · cases h3
end
end VS

namespace VS
open PySem PySem.Spec L2
section
variable {X : Cx} {x : Str} {p pos : Pos} {e : Expr} {es : List Expr} {k n : Nat} {f : Addr} {fd : FuncData} {ps : List Str} {c : Str} {F : FF} {fs : BF} {frz : Bool}
theorem ve_make (M : Mk X.K (He.ga X.K c) f) (G : FnOk X.prog X.w X.K X.mg X.base CX0 k f fd ps (spV X.K n F)) (hn : ∀ δ r, fs δ = some r → r.1.length + 1 = n) (hr : Room (k + 1) X.A) (hg : Gl X x) (hm : X.mg x = some (.ref (He.ga X.K c))) (hb : Binds X.K fd ps [])
    (ha : VB X (e :: es) fs) (hdb : (x == ("__debug__" : Str)) = false := by decide) (he : starEach (e :: es) X.env = (false, eval e X.env) :: starEach es X.env := by rfl) (hpl : (backTo pos (starEach es X.env)).any (·.1) = false := by rfl) :
    VE X (.Call (.Name x p) (e :: es) [] pos) (xMake c F frz fs) := PEi (pe_make M G hr hg hm hb .nil pass0 ha hdb he hpl) fun σ H Q h => make_core h hn
theorem bNil_len : ∀ δ r, bNil δ = some r → r.1.length = 0 := fun δ r h => by cases h; rfl
theorem bCons_len {fa : XF} {fr : BF} {n : Nat} (h : ∀ δ r, fr δ = some r → r.1.length = n) : ∀ δ r, bCons fa fr δ = some r → r.1.length = n + 1 := fun δ r hf => by
  simp only [bCons, Option.bind_eq_some_iff, Option.map_eq_some_iff] at hf
  obtain ⟨_, _, _, _, ⟨os, δ3⟩, h3, rfl⟩ := hf
  show os.length + 1 = n + 1
  rw [h _ _ h3]
end
/-! ### built-in functions: what is handed in is looked at -/
def LkL (K : PySem.W.Frag) (Z : Addr → Prop) (H : Hp) : List D → List V → Prop
  | [], vs => vs = []
  | d :: ds, vs => ∃ v r, vs = v :: r ∧ Lk K Z H d v ∧ LkL K Z H ds r
def rBi (K : PySem.W.Frag) (m : List D → Option O) : List V → Hp → VK → Prop := fun xs H Q => ∃ Z ds o, LkL K Z H ds xs ∧ m ds = some o ∧ ∀ v H', Res K Z H o v H' → Q v H'
def CV (X : Cx) (f : Value) (m : List D → Option O) : Prop := CallR X f (rBi X.K m)
def rdvs (δ : DS) : List Ev → Option (List D)
  | [] => some []
  | e :: es => (rdv δ e).bind fun d => (rdvs δ es).map fun ds => d :: ds
def xBi (m : List D → Option O) (fs : AF) : XF := fun δ => (fs δ).bind fun r => (rdvs r.2 r.1).bind fun ds => (m ds).map fun o => (.val o, r.2)
section
variable {K : PySem.W.Frag} {g : Gx} {Z Z' : Addr → Prop} {H H' : Hp} {δ S U : DS} {σ T W : L2.St} {o : O} {v : V}
theorem vtmps_len (vs : List V) : (vtmps vs).length = vs.length := by simp [vtmps]
theorem StV.lks : ∀ {es : List Ev} {vs : List V} {ds : List D} {S : DS} {T : L2.St}, StV K g Z H δ σ (tmps es ++ S) (vtmps vs ++ T) → Als σ es vs → rdvs δ es = some ds → LkL K Z H ds vs
  | [], vs, ds, S, T, s, al, h => by
    cases h
    exact al
  | e :: es, vs, ds, S, T, s, ⟨v, r, ev, a1, a2⟩, h => by
    subst ev
    simp only [rdvs, Option.bind_eq_some_iff, Option.map_eq_some_iff] at h
    obtain ⟨d, h1, ds', h2, h3⟩ := h
    subst h3
    have e1 : tmps (e :: es) ++ S = tmps es ++ (e.tmp :: S) := by simp [tmps]
    have e2 : vtmps (v :: r) ++ T = vtmps r ++ (some v :: T) := by simp [vtmps]
    rw [e1, e2] at s
    exact ⟨v, r, rfl, (s.popN (by rw [tmps_len, vtmps_len, a2.length])).lk a1 h1, StV.lks s a2 h2⟩
end
section
variable {X : Cx} {x : Str} {p pos : Pos} {e : Expr} {es : List Expr} {fs : AF} {m : List D → Option O} {id T : String}
theorem bi_core {σ : L2.St} {H : Hp} {Q : VK} (h : rdE X.K (xBi m fs) σ H Q) : tCB (rBi X.K m) (rdA X.K fs) σ H Q := by
  obtain ⟨g, Z, δ, S, T, r, st, hf, post⟩ := h
  simp only [xBi, Option.bind_eq_some_iff, Option.map_eq_some_iff] at hf
  obtain ⟨⟨es, δ1⟩, h1, ds, h2, o, h3, rfl⟩ := hf
  exact ⟨g, Z, δ, S, T, _, st, h1, fun vs Z1 H1 st1 al1 => ⟨Z1, ds, o, st1.lks al1 h2, h3, fun v H' rs => post v Z1 H' ((st1.popN (by rw [tmps_len, vtmps_len, al1.length])).push rs) trivial⟩⟩
theorem ve_bi (hc : CV X (.builtin id) m) (hg : Gl X x) (hm : X.mg x = none) (hv : bootBuiltins x = some (.builtin id)) (ha : VA X (e :: es) fs) (hn : x ≠ "__name__" := by decide) (hdb : (x == ("__debug__" : Str)) = false := by decide)
    (he : starEach (e :: es) X.env = (false, eval e X.env) :: starEach es X.env := by rfl) (hpl : (backTo pos (starEach es X.env)).any (·.1) = false := by rfl) : VE X (.Call (.Name x p) (e :: es) [] pos) (xBi m fs) :=
  PEi (pe_callB hc hg hm hv ha hn hdb he hpl) fun σ H Q h => bi_core h
theorem ve_ty (hc : CV X (.type T) m) (hg : Gl X x) (hm : X.mg x = none) (hv : bootBuiltins x = some (.type T)) (ha : VA X (e :: es) fs) (hn : x ≠ "__name__" := by decide) (hdb : (x == ("__debug__" : Str)) = false := by decide)
    (he : starEach (e :: es) X.env = (false, eval e X.env) :: starEach es X.env := by rfl) (hpl : (backTo pos (starEach es X.env)).any (·.1) = false := by rfl) : VE X (.Call (.Name x p) (e :: es) [] pos) (xBi m fs) :=
  PEi (pe_callTy hc hg hm hv ha hn hdb he hpl) fun σ H Q h => bi_core h
/-! len, int, sum, max, min, all, any, list, tuple -/
def mLen : List D → Option O
  | [.lst ds] => some (.sh (.int ds.length))
  | [.tup ds] => some (.sh (.int ds.length))
  | [.scr ns] => some (.sh (.int ns.length))
  | [.str z] => if z.length ≤ sizeLine then some (.sh (.int z.length)) else none
  | _ => none
theorem cv_len : CV X (.builtin "len") mLen := by
  intro pins s σ H xs us Q I r ⟨Z, ds, o, l, h, q⟩
  unfold mLen at h
  split at h
  · obtain ⟨v, r', rfl, l1, l2⟩ := l
    have e2 : r' = [] := l2
    subst e2
    cases h
    obtain ⟨a, vs, rfl, ha, ra⟩ := l1.lst
    exact call_len pins s σ H _ us Q I r ⟨_, vs.length, rfl, .inl ⟨vs, SqL.of ha, rfl⟩, by rw [← ra.length]; exact q _ _ Res.int⟩
  · obtain ⟨v, r', rfl, l1, l2⟩ := l
    have e2 : r' = [] := l2
    subst e2
    cases h
    obtain ⟨a, vs, rfl, ha, ra⟩ := l1.tup
    exact call_len pins s σ H _ us Q I r ⟨_, vs.length, rfl, .inr ⟨vs, SqT.of ha, rfl⟩, by rw [← ra.length]; exact q _ _ Res.int⟩
  · obtain ⟨v, r', rfl, l1, l2⟩ := l
    have e2 : r' = [] := l2
    subst e2
    cases h
    obtain ⟨a, rfl, ha⟩ := scr_seq l1
    exact call_len pins s σ H _ us Q I r ⟨_, _, rfl, .inl ⟨_, ha, rfl⟩, by rw [List.length_map]; exact q _ _ Res.int⟩
  · obtain ⟨v, r', rfl, l1, l2⟩ := l
    have e2 : r' = [] := l2
    subst e2
    split at h
    · rename_i hz
      cases h
      cases l1.str
      exact call_len pins s σ H _ us Q I r ⟨_, _, rfl, ⟨hz, rfl⟩, q _ _ Res.int⟩
    · cases h
  · cases h
def mInt : List D → Option O
  | [.int i] => some (.sh (.int i))
  | [.bl b] => some (.sh (.int (if b then 1 else 0)))
  | _ => none
theorem cv_int : CV X (.type "int") mInt := by
  intro pins s σ H xs us Q I r ⟨Z, ds, o, l, h, q⟩
  unfold mInt at h
  split at h
  · obtain ⟨v, r', rfl, l1, l2⟩ := l
    have e2 : r' = [] := l2
    subst e2
    cases h
    cases l1.int
    exact call_int1 pins s σ H _ us Q I r (.inl ⟨_, rfl, q _ _ Res.int⟩)
  · obtain ⟨v, r', rfl, l1, l2⟩ := l
    have e2 : r' = [] := l2
    subst e2
    cases h
    cases l1.bl
    exact call_int1 pins s σ H _ us Q I r (.inr ⟨_, rfl, q _ _ Res.int⟩)
  · cases h
def intsOf : List D → Option (List Int)
  | [] => some []
  | .int i :: ds => (intsOf ds).map (i :: ·)
  | _ :: _ => none
def blsOf : List D → Option (List Bool)
  | [] => some []
  | .bl i :: ds => (blsOf ds).map (i :: ·)
  | _ :: _ => none
theorem ints_rep {K : PySem.W.Frag} {Z : Addr → Prop} {H : Hp} : ∀ {ds : List D} {ns : List Int} {vs : List V}, intsOf ds = some ns → RepL K Z H ds vs → vs = ns.map V.int
  | [], ns, vs, h, r => by
    cases h
    simp only [RepL] at r
    rw [r]
    all_goals rfl
  | d :: ds, ns, vs, h, r => by
    cases d <;> simp only [intsOf, reduceCtorEq] at h
    obtain ⟨ms, h1, h2⟩ := Option.map_eq_some_iff.mp h
    subst h2
    simp only [RepL, RepD] at r
    obtain ⟨v, r', rfl, r1, r2⟩ := r
    rw [r1, ints_rep h1 r2]
    all_goals rfl
theorem bls_rep {K : PySem.W.Frag} {Z : Addr → Prop} {H : Hp} : ∀ {ds : List D} {ns : List Bool} {vs : List V}, blsOf ds = some ns → RepL K Z H ds vs → vs = ns.map V.bl
  | [], ns, vs, h, r => by
    cases h
    simp only [RepL] at r
    rw [r]
    all_goals rfl
  | d :: ds, ns, vs, h, r => by
    cases d <;> simp only [blsOf, reduceCtorEq] at h
    obtain ⟨ms, h1, h2⟩ := Option.map_eq_some_iff.mp h
    subst h2
    simp only [RepL, RepD] at r
    obtain ⟨v, r', rfl, r1, r2⟩ := r
    rw [r1, bls_rep h1 r2]
    all_goals rfl
def mSum : List D → Option O
  | [.lst ds] => (intsOf ds).map fun ns => .sh (.int ns.sum)
  | _ => none
def mAll : List D → Option O
  | [.lst ds] => (blsOf ds).map fun ns => .sh (.bl (ns.all _root_.id))
  | _ => none
def mAny : List D → Option O
  | [.lst ds] => (blsOf ds).map fun ns => .sh (.bl (ns.any _root_.id))
  | _ => none
theorem one_lst {K : PySem.W.Frag} {Z : Addr → Prop} {H : Hp} {ds : List D} {xs : List V} (l : LkL K Z H [.lst ds] xs) : ∃ a vs, xs = [.ref a] ∧ H a = some (.lst vs) ∧ RepL K Z H ds vs := by
  obtain ⟨v, r', rfl, l1, l2⟩ := l
  have e2 : r' = [] := l2
  subst e2
  obtain ⟨a, vs, rfl, ha, ra⟩ := l1.lst
  exact ⟨a, vs, rfl, ha, ra⟩
theorem cv_sum (hc : X.calm = true) : CV X (.builtin "sum") mSum := by
  intro pins s σ H xs us Q I r ⟨Z, ds, o, l, h, q⟩
  unfold mSum at h
  split at h
  · obtain ⟨a, vs, rfl, ha, ra⟩ := one_lst l
    obtain ⟨ns, h1, h2⟩ := Option.map_eq_some_iff.mp h
    subst h2
    have ev := ints_rep h1 ra
    subst ev
    exact cr_sum hc pins s σ H _ us Q I r ⟨a, ns, rfl, SqL.of ha, q _ _ Res.int⟩
  · cases h
theorem cv_all (hc : X.calm = true) : CV X (.builtin "all") mAll := by
  intro pins s σ H xs us Q I r ⟨Z, ds, o, l, h, q⟩
  unfold mAll at h
  split at h
  · obtain ⟨a, vs, rfl, ha, ra⟩ := one_lst l
    obtain ⟨ns, h1, h2⟩ := Option.map_eq_some_iff.mp h
    subst h2
    have ev := bls_rep h1 ra
    subst ev
    exact cr_all hc pins s σ H _ us Q I r ⟨a, ns, rfl, SqL.of ha, q _ _ Res.bl⟩
  · cases h
theorem cv_any (hc : X.calm = true) : CV X (.builtin "any") mAny := by
  intro pins s σ H xs us Q I r ⟨Z, ds, o, l, h, q⟩
  unfold mAny at h
  split at h
  · obtain ⟨a, vs, rfl, ha, ra⟩ := one_lst l
    obtain ⟨ns, h1, h2⟩ := Option.map_eq_some_iff.mp h
    subst h2
    have ev := bls_rep h1 ra
    subst ev
    exact cr_any hc pins s σ H _ us Q I r ⟨a, ns, rfl, SqL.of ha, q _ _ Res.bl⟩
  · cases h
def maxI : List Int → Option Int
  | [] => none
  | i :: ns => some (ns.foldl (fun a b => if a < b then b else a) i)
def minI : List Int → Option Int
  | [] => none
  | i :: ns => some (ns.foldl (fun a b => if b < a then b else a) i)
theorem maxI_fold : ∀ (ns : List Int) (i : Int), (ns.foldl (fun a b => if a < b then b else a) i = i ∨ ns.foldl (fun a b => if a < b then b else a) i ∈ ns) ∧ i ≤ ns.foldl (fun a b => if a < b then b else a) i ∧ ∀ y ∈ ns, y ≤ ns.foldl (fun a b => if a < b then b else a) i
  | [], i => ⟨.inl rfl, Int.le_refl i, fun y h => by cases h⟩
  | n :: ns, i => by
    simp only [List.foldl_cons]
    obtain ⟨h1, h2, h3⟩ := maxI_fold ns (if i < n then n else i)
    have hi : i ≤ (if i < n then n else i) := by split <;> omega
    have hn : n ≤ (if i < n then n else i) := by split <;> omega
    refine ⟨?_, Int.le_trans hi h2, fun y hy => ?_⟩
    · rcases h1 with h1 | h1
      · rw [h1]
        by_cases q : i < n
        · rw [if_pos q]; exact .inr List.mem_cons_self
        · rw [if_neg q]; exact .inl rfl
      · exact .inr (List.mem_cons_of_mem _ h1)
    · rcases List.mem_cons.mp hy with e | hy
      · subst e; exact Int.le_trans hn h2
      · exact h3 y hy
theorem minI_fold : ∀ (ns : List Int) (i : Int), (ns.foldl (fun a b => if b < a then b else a) i = i ∨ ns.foldl (fun a b => if b < a then b else a) i ∈ ns) ∧ ns.foldl (fun a b => if b < a then b else a) i ≤ i ∧ ∀ y ∈ ns, ns.foldl (fun a b => if b < a then b else a) i ≤ y
  | [], i => ⟨.inl rfl, Int.le_refl i, fun y h => by cases h⟩
  | n :: ns, i => by
    simp only [List.foldl_cons]
    obtain ⟨h1, h2, h3⟩ := minI_fold ns (if n < i then n else i)
    have hi : (if n < i then n else i) ≤ i := by split <;> omega
    have hn : (if n < i then n else i) ≤ n := by split <;> omega
    refine ⟨?_, Int.le_trans h2 hi, fun y hy => ?_⟩
    · rcases h1 with h1 | h1
      · rw [h1]
        by_cases q : n < i
        · rw [if_pos q]; exact .inr List.mem_cons_self
        · rw [if_neg q]; exact .inl rfl
      · exact .inr (List.mem_cons_of_mem _ h1)
    · rcases List.mem_cons.mp hy with e | hy
      · subst e; exact Int.le_trans h2 hn
      · exact h3 y hy
theorem maxI_ok {ns : List Int} {m : Int} (h : maxI ns = some m) : m ∈ ns ∧ ∀ y ∈ ns, y ≤ m := by
  cases ns with
  | nil => cases h
  | cons i ns =>
    cases h
    obtain ⟨h1, h2, h3⟩ := maxI_fold ns i
    refine ⟨?_, fun y hy => ?_⟩
    · rcases h1 with h1 | h1
      · rw [h1]; exact List.mem_cons_self
      · exact List.mem_cons_of_mem _ h1
    · rcases List.mem_cons.mp hy with e | hy
      · subst e; exact h2
      · exact h3 y hy
theorem minI_ok {ns : List Int} {m : Int} (h : minI ns = some m) : m ∈ ns ∧ ∀ y ∈ ns, m ≤ y := by
  cases ns with
  | nil => cases h
  | cons i ns =>
    cases h
    obtain ⟨h1, h2, h3⟩ := minI_fold ns i
    refine ⟨?_, fun y hy => ?_⟩
    · rcases h1 with h1 | h1
      · rw [h1]; exact List.mem_cons_self
      · exact List.mem_cons_of_mem _ h1
    · rcases List.mem_cons.mp hy with e | hy
      · subst e; exact h2
      · exact h3 y hy
def mMax : List D → Option O
  | [.lst ds] => (intsOf ds).bind fun ns => (maxI ns).map fun m => .sh (.int m)
  | [.int i, .int j] => some (.sh (.int (if j > i then j else i)))
  | _ => none
def mMin : List D → Option O
  | [.lst ds] => (intsOf ds).bind fun ns => (minI ns).map fun m => .sh (.int m)
  | [.int i, .int j] => some (.sh (.int (if j < i then j else i)))
  | _ => none
theorem two_int {K : PySem.W.Frag} {Z : Addr → Prop} {H : Hp} {i j : Int} {xs : List V} (l : LkL K Z H [.int i, .int j] xs) : xs = [.int i, .int j] := by
  obtain ⟨v, r', rfl, l1, w, r2, rfl, l2, l3⟩ := l
  have e2 : r2 = [] := l3
  subst e2
  rw [l1.int, l2.int]
theorem cv_max (hc : X.calm = true) : CV X (.builtin "max") mMax := by
  intro pins s σ H xs us Q I r ⟨Z, ds, o, l, h, q⟩
  unfold mMax at h
  split at h
  · obtain ⟨a, vs, rfl, ha, ra⟩ := one_lst l
    obtain ⟨ns, h1, h2⟩ := Option.bind_eq_some_iff.mp h
    obtain ⟨m, h3, h4⟩ := Option.map_eq_some_iff.mp h2
    subst h4
    have ev := ints_rep h1 ra
    subst ev
    obtain ⟨m1, m2⟩ := maxI_ok h3
    refine cr_max hc pins s σ H _ us Q I r ⟨a, ns, rfl, SqL.of ha, List.length_pos_of_mem m1, fun y hy hle => ?_⟩
    have e : y = m := by
      have a1 := m2 y hy
      have a2 := hle m m1
      omega
    rw [e]
    exact q _ _ Res.int
  · have e := two_int l
    subst e
    cases h
    exact call_max2 hc pins s σ H _ us Q I r ⟨_, _, rfl, q _ _ Res.int⟩
  · cases h
theorem cv_min (hc : X.calm = true) : CV X (.builtin "min") mMin := by
  intro pins s σ H xs us Q I r ⟨Z, ds, o, l, h, q⟩
  unfold mMin at h
  split at h
  · obtain ⟨a, vs, rfl, ha, ra⟩ := one_lst l
    obtain ⟨ns, h1, h2⟩ := Option.bind_eq_some_iff.mp h
    obtain ⟨m, h3, h4⟩ := Option.map_eq_some_iff.mp h2
    subst h4
    have ev := ints_rep h1 ra
    subst ev
    obtain ⟨m1, m2⟩ := minI_ok h3
    refine cr_min hc pins s σ H _ us Q I r ⟨a, ns, rfl, SqL.of ha, List.length_pos_of_mem m1, fun y hy hle => ?_⟩
    have e : y = m := by
      have a1 := m2 y hy
      have a2 := hle m m1
      omega
    rw [e]
    exact q _ _ Res.int
  · have e := two_int l
    subst e
    cases h
    exact call_min2 hc pins s σ H _ us Q I r ⟨_, _, rfl, q _ _ Res.int⟩
  · cases h
def mList : List D → Option O
  | [.lst ds] => some (.lst ds)
  | [.tup ds] => some (.lst ds)
  | _ => none
theorem cv_list : CV X (.type "list") mList := by
  intro pins s σ H xs us Q I r ⟨Z, ds, o, l, h, q⟩
  unfold mList at h
  split at h
  · obtain ⟨a, vs, rfl, ha, ra⟩ := one_lst l
    cases h
    exact call_list_of pins s σ H _ us Q I r ⟨a, vs, rfl, .inl (SqL.of ha), fun p hp => q _ _ (Res.lst hp ra)⟩
  · obtain ⟨v, r', rfl, l1, l2⟩ := l
    have e2 : r' = [] := l2
    subst e2
    cases h
    obtain ⟨a, vs, rfl, ha, ra⟩ := l1.tup
    exact call_list_of pins s σ H _ us Q I r ⟨a, vs, rfl, .inr (SqT.of ha), fun p hp => q _ _ (Res.lst hp ra)⟩
  · cases h
def mTup : List D → Option O
  | [.lst ds] => some (.sh (.tup ds))
  | [.tup ds] => some (.sh (.tup ds))
  | _ => none
theorem cv_tup : CV X (.type "tuple") mTup := by
  intro pins s σ H xs us Q I r ⟨Z, ds, o, l, h, q⟩
  unfold mTup at h
  split at h
  · obtain ⟨a, vs, rfl, ha, ra⟩ := one_lst l
    cases h
    exact call_tuple_of pins s σ H _ us Q I r ⟨a, vs, rfl, .inl ⟨SqL.of ha, fun p hp => q _ _ (Res.tup hp ra)⟩⟩
  · obtain ⟨v, r', rfl, l1, l2⟩ := l
    have e2 : r' = [] := l2
    subst e2
    cases h
    obtain ⟨a, vs, rfl, ha, ra⟩ := l1.tup
    refine call_tuple_of pins s σ H _ us Q I r ⟨a, vs, rfl, .inr ⟨SqT.of ha, q _ _ (Res.sc ?_)⟩⟩
    simp only [RepD]
    exact ⟨a, vs, rfl, ha, ra⟩
  · cases h
end
/-! ### isinstance(e, T) -/
def D.tyS : D → Option String
  | .non => some "NoneType"
  | .bl _ => some "bool"
  | .int _ => some "int"
  | .str _ => some "str"
  | .tup _ => some "tuple"
  | .lst _ => some "list"
  | .dK _ => some "dict"
  | _ => none
/-- T a built-in class -/
def isiB (T : String) (d : D) : Option O := (D.tyS d).bind fun t => (kitB t T).map fun b => .sh (.bl b)
theorem Lk.ty {K : PySem.W.Frag} {Z : Addr → Prop} {H : Hp} {d : D} {v : V} {t : String} (h : Lk K Z H d v) (e : D.tyS d = some t) : TyX K H v (.type t) := by
  cases d <;> simp only [D.tyS, reduceCtorEq, Option.some.injEq] at e <;> subst e
  · cases h.non; exact .base .non
  · cases h.bl; exact .base (.bl _)
  · cases h.int; exact .base (.int _)
  · cases h.str; exact .base (.str _)
  · obtain ⟨a, vs, rfl, ha, _⟩ := h.tup; exact .base (.tup ha)
  · obtain ⟨a, vs, rfl, ha, _⟩ := h.lst; exact .base (.lst ha)
  · obtain ⟨a, vs, rfl, ha, _⟩ := h
    rcases ha with ha | ⟨o, ha⟩
    · exact .base (.dK ha)
    · exact .fDict ha
section
variable {X : Cx} {x : Str} {p p2 pos : Pos} {e : Expr} {fe : XF} {T : String} {Tn : Str}
theorem ve_isi (hg : Gl X "isinstance") (hm : X.mg "isinstance" = none) (hgT : Gl X Tn) (hmT : X.mg Tn = none) (hv : bootBuiltins Tn = some (.type T)) (he : VE X e fe) (hnT : Tn ≠ "__name__" := by decide) (hdT : (Tn == ("__debug__" : Str)) = false := by decide)
    (hs : starEach [e, .Name Tn p2] X.env = (false, eval e X.env) :: starEach [.Name Tn p2] X.env := by rfl) (hs2 : starEach [.Name Tn p2] X.env = [(false, eval (.Name Tn p2) X.env)] := by rfl) (hpl : (backTo pos (starEach [.Name Tn p2] X.env)).any (·.1) = false := by rfl) :
    VE X (.Call (.Name "isinstance" p) [e, .Name Tn p2] [] pos) (x1 (isiB T) fe) :=
  PEi (pe_callB call_isi hg hm (by decide +kernel) (pa_cons he (pa_cons (pe_bltn (v := .ty T) hgT hmT hv rfl hnT hdT) pa_nil hs2) hs) (by decide) (by decide) hs hpl) fun σ H Q ⟨g, Z, δ, S, T', r, st, hf, post⟩ => by
    simp only [x1, Option.bind_eq_some_iff, Option.map_eq_some_iff] at hf
    obtain ⟨⟨ev, δ1⟩, h1, d, h2, o, h3, rfl⟩ := hf
    simp only [isiB, Option.bind_eq_some_iff, Option.map_eq_some_iff] at h3
    obtain ⟨t, h4, b, h5, rfl⟩ := h3
    refine ⟨g, Z, δ, S, T', _, st, h1, fun v Z1 H1 st1 al1 => ?_⟩
    show rIsi X.K [v, .ty T] H1 Q
    exact ⟨v, .ty T, _, _, b, rfl, .ty T, (st1.lk al1 h2).ty h4, kit_ty h5, post _ Z1 H1 (st1.pop.push Res.bl) trivial⟩
end
/-! ### one's own list in a slot: its methods -/
def mApp : O → List D → Option (O × O)
  | .lst xs, [d] => if xs.length < sizeLine then some (.lst (xs ++ [d]), .sh .non) else none
  | _, _ => none
def mExt : O → List D → Option (O × O)
  | .lst xs, [.lst es] => if xs.length + es.length ≤ sizeLine then some (.lst (xs ++ es), .sh .non) else none
  | _, _ => none
def mPop : O → List D → Option (O × O)
  | .lst xs, [] => (xs[xs.length - 1]?).map fun d => (.lst xs.dropLast, .sh d)
  | .lst xs, [.int i] => if inR i then (seqIndex? i xs.length).bind fun k => (xs[k]?).map fun d => (.lst (xs.eraseIdx k), .sh d) else none
  | _, _ => none
def mPop1 : O → List D → Option (O × O) := fun o ds => match ds with | [d] => mPop o [d] | _ => none
def mPop0 : O → List D → Option (O × O) := fun o ds => match ds with | [] => mPop o [] | _ => none
def isLst : O → Bool
  | .lst _ => true
  | _ => false
def xMut (mt : O → List D → Option (O × O)) (i : Nat) (fs : BF) : XF := fun δ => match δ[i]? with
  | some (some o0) => if isLst o0 then (fs δ).bind fun r => match r.2[i]? with
    | some (some o) => (mt o (r.1.map O.fz)).map fun q => (.val q.2, r.2.set i (some q.1))
    | _ => none
    else none
  | _ => none
/-- a method of lists keeps to mt -/
def MutV (X : Cx) (id : String) (mt : O → List D → Option (O × O)) : Prop := ∃ r : V → List V → Hp → VK → Prop, MtR X id r ∧
  ∀ Z H a vs ds xs es (o' res : O) (Q : VK), H a = some (.lst vs) → RepL X.K Z H ds vs → RepL X.K Z H es xs → mt (.lst ds) es = some (o', res) →
    (∀ w ds' vs', o' = .lst ds' → RepL X.K Z H ds' vs' → (∃ d, res = .sh d ∧ RepD X.K Z H d w) → Q w (L2.upd H a (.lst vs'))) → r (.ref a) xs H Q
section
variable {X : Cx} {x : Str} {p pos apos : Pos} {e o : Expr} {es : List Expr} {fs : BF} {mt : O → List D → Option (O × O)} {id : String} {name : Str} {i : Nat}
theorem mut_core {r : V → List V → Hp → VK → Prop} {σ : L2.St} {H : Hp} {Q : VK} (hr : ∀ Z H a vs ds xs es (o' res : O) (Q : VK), H a = some (.lst vs) → RepL X.K Z H ds vs → RepL X.K Z H es xs → mt (.lst ds) es = some (o', res) →
    (∀ w ds' vs', o' = .lst ds' → RepL X.K Z H ds' vs' → (∃ d, res = .sh d ∧ RepD X.K Z H d w) → Q w (L2.upd H a (.lst vs'))) → r (.ref a) xs H Q) (hl : ∀ o es q, mt o es = some q → ∃ ds, o = .lst ds)
    (h : rdE X.K (xMut mt i fs) σ H Q) : tBM X.K "list" r (tVar i) (rdB X.K fs) σ H Q := by
  obtain ⟨g, Z, δ, S, T, rr, st, hf, post⟩ := h
  simp only [xMut] at hf
  split at hf
  · rename_i o0 hi
    split at hf
    · rename_i hol
      obtain ⟨⟨os, δ1⟩, h1, h2⟩ := Option.bind_eq_some_iff.mp hf
      split at h2
      · rename_i o1 hi1
        obtain ⟨⟨o', res⟩, h3, h4⟩ := Option.map_eq_some_iff.mp h2
        subst h4
        obtain ⟨v, F, e1, ro⟩ := st.slot hi
        refine ⟨v, e1, ?_, g, Z, δ, S, T, _, st, h1, fun vs Z1 H1 st1 hvl => ?_⟩
        · cases o0 <;> simp only [isLst, Bool.false_eq_true, reduceCtorEq] at hol
          simp only [RepO] at ro
          obtain ⟨a, ws, rfl, _, ha, _⟩ := ro
          exact .inl ⟨rfl, _, SqL.of ha⟩
        · obtain ⟨Z2, st2, rl⟩ := StV.frzL hvl st1
          obtain ⟨ds, e2⟩ := hl _ _ _ h3
          subst e2
          obtain ⟨v', F', e3, ro'⟩ := st2.slot hi1
          rw [e1] at e3
          cases e3
          have ro2 := ro'
          simp only [RepO] at ro2
          obtain ⟨a, ws, rfl, _, ha, ra⟩ := ro2
          refine hr Z2 H1 a ws ds vs _ o' res Q ha ra rl h3 fun w ds' vs' eo rd ⟨d, ed, rw'⟩ => ?_
          subst eo ed
          obtain ⟨st3, kp⟩ := st2.mut (o' := .lst ds') (H' := L2.upd H1 a (.lst vs')) hi1 e1 fun F q nd nz => by
            simp only [RepO] at q
            obtain ⟨b, ws', eb, ef, _, _⟩ := q
            cases eb
            subst ef
            obtain ⟨m1, m2, m3⟩ := mut_at (u' := .lst vs') ha (fun _ => by simp)
            refine ⟨m1, m2, m3, fun k => ?_⟩
            simp only [RepO]
            exact ⟨a, vs', rfl, rfl, upd_same, RepL.keep k _ _ rd⟩
          exact post w Z2 _ (st3.pushD (RepD.keep kp _ _ rw')) trivial
      · cases h2
    · cases hf
  · cases hf
theorem ve_app (hi : PE X o (tVar i)) (ha : VB X (e :: es) fs) (hbase : attributeBase o "append" X.env (eval o X.env) = eval o X.env := by rfl)
    (hfew : ((backTo pos (starEach (e :: es) X.env)).all (fun x => !x.1) && (backToKw pos (keywordEach [] X.env)).all (fun x => x.1.isSome)
      && decide ((e :: es).length + ([] : List Keyword).length + (if ([] : List Keyword).isEmpty then 0 else 1) < 30)) = true := by rfl)
    (hline : (apos.endLine == pos.line) = true := by rfl) (hs : starEach (e :: es) X.env = (false, eval e X.env) :: starEach es X.env := by rfl) (hplain : (backTo pos (starEach es X.env)).any (·.1) = false := by rfl) :
    VE X (.Call (.Attribute o "append" apos) (e :: es) [] pos) (xMut mApp i fs) :=
  PEi (pe_bm PySem.F.plainAttrs_list PySem.F.slot_list_append PySem.F.type_list_append mt_append hi ha hbase hfew hline hs hplain) fun σ H Q h => mut_core (fun Z H a vs ds xs es o' res Q ha ra rl hm k => by
    unfold mApp at hm
    split at hm
    · rename_i xs0 d heq
      cases heq
      split at hm
      · rename_i hz
        cases hm
        simp only [RepL] at rl
        obtain ⟨w, r', rfl, r1, rfl⟩ := rl
        refine ⟨a, vs, w, rfl, rfl, ha, by rw [← ra.length]; exact hz, k .non _ _ rfl (ra.append ?_) ⟨.non, rfl, by simp only [RepD]⟩⟩
        simp only [RepL]
        exact ⟨w, [], rfl, r1, rfl⟩
      · cases hm
    · cases hm) (fun o es q hm => by
    unfold mApp at hm
    split at hm
    · exact ⟨_, rfl⟩
    · cases hm) h
theorem ve_ext (hi : PE X o (tVar i)) (ha : VB X (e :: es) fs) (hbase : attributeBase o "extend" X.env (eval o X.env) = eval o X.env := by rfl)
    (hfew : ((backTo pos (starEach (e :: es) X.env)).all (fun x => !x.1) && (backToKw pos (keywordEach [] X.env)).all (fun x => x.1.isSome)
      && decide ((e :: es).length + ([] : List Keyword).length + (if ([] : List Keyword).isEmpty then 0 else 1) < 30)) = true := by rfl)
    (hline : (apos.endLine == pos.line) = true := by rfl) (hs : starEach (e :: es) X.env = (false, eval e X.env) :: starEach es X.env := by rfl) (hplain : (backTo pos (starEach es X.env)).any (·.1) = false := by rfl) :
    VE X (.Call (.Attribute o "extend" apos) (e :: es) [] pos) (xMut mExt i fs) :=
  PEi (pe_bm PySem.F.plainAttrs_list PySem.F.slot_list_extend PySem.F.type_list_extend mt_extend hi ha hbase hfew hline hs hplain) fun σ H Q h => mut_core (fun Z H a vs ds xs es o' res Q ha ra rl hm k => by
    unfold mExt at hm
    split at hm
    · rename_i xs0 es0 heq
      cases heq
      split at hm
      · rename_i hz
        cases hm
        simp only [RepL] at rl
        obtain ⟨w, r', rfl, r1, rfl⟩ := rl
        simp only [RepD] at r1
        obtain ⟨b, ws, rfl, _, hb, rb⟩ := r1
        exact ⟨a, b, vs, ws, rfl, rfl, ha, hb, by rw [← ra.length, ← rb.length]; exact hz, k .non _ _ rfl (ra.append rb) ⟨.non, rfl, by simp only [RepD]⟩⟩
      · cases hm
    · cases hm) (fun o es q hm => by
    unfold mExt at hm
    split at hm
    · exact ⟨_, rfl⟩
    · cases hm) h
theorem RepL.dropLast {K : PySem.W.Frag} {Z : Addr → Prop} {H : Hp} {ds : List D} {vs : List V} (h : RepL K Z H ds vs) : RepL K Z H ds.dropLast vs.dropLast := by
  rw [List.dropLast_eq_take, List.dropLast_eq_take, h.length]
  exact h.take
theorem RepL.eraseIdx {K : PySem.W.Frag} {Z : Addr → Prop} {H : Hp} : ∀ {ds : List D} {vs : List V} (i : Nat), RepL K Z H ds vs → RepL K Z H (ds.eraseIdx i) (vs.eraseIdx i)
  | [], vs, i, h => by
    simp only [RepL] at h
    subst h
    simp [RepL]
  | d :: ds, vs, 0, h => by
    simp only [RepL] at h
    obtain ⟨v, r, rfl, _, h2⟩ := h
    simpa using h2
  | d :: ds, vs, i + 1, h => by
    simp only [RepL] at h
    obtain ⟨v, r, rfl, h1, h2⟩ := h
    simp only [List.eraseIdx_cons_succ, RepL]
    exact ⟨v, _, rfl, h1, RepL.eraseIdx i h2⟩
theorem ve_pop1 (hi : PE X o (tVar i)) (ha : VB X (e :: es) fs) (hbase : attributeBase o "pop" X.env (eval o X.env) = eval o X.env := by rfl)
    (hfew : ((backTo pos (starEach (e :: es) X.env)).all (fun x => !x.1) && (backToKw pos (keywordEach [] X.env)).all (fun x => x.1.isSome)
      && decide ((e :: es).length + ([] : List Keyword).length + (if ([] : List Keyword).isEmpty then 0 else 1) < 30)) = true := by rfl)
    (hline : (apos.endLine == pos.line) = true := by rfl) (hs : starEach (e :: es) X.env = (false, eval e X.env) :: starEach es X.env := by rfl) (hplain : (backTo pos (starEach es X.env)).any (·.1) = false := by rfl) :
    VE X (.Call (.Attribute o "pop" apos) (e :: es) [] pos) (xMut mPop1 i fs) :=
  PEi (pe_bm PySem.F.plainAttrs_list PySem.F.slot_list_pop PySem.F.type_list_pop mt_popAt hi ha hbase hfew hline hs hplain) fun σ H Q h => mut_core (fun Z H a vs ds xs es o' res Q ha ra rl hm k => by
    unfold mPop1 at hm
    split at hm
    · rename_i d
      cases d <;> simp only [mPop, reduceCtorEq] at hm
      rename_i j
      split at hm
      · rename_i hz
        unfold inR at hz
        simp only [Bool.and_eq_true, decide_eq_true_eq] at hz
        obtain ⟨m, h1, h2⟩ := Option.bind_eq_some_iff.mp hm
        obtain ⟨y, h3, h4⟩ := Option.map_eq_some_iff.mp h2
        cases h4
        simp only [RepL, RepD] at rl
        obtain ⟨w, r', rfl, rfl, rfl⟩ := rl
        obtain ⟨z, q1, q2⟩ := ra.get h3
        exact ⟨a, vs, j, m, z, rfl, rfl, ha, by omega, by omega, by rw [← ra.length]; exact h1, q1, k z _ _ rfl (ra.eraseIdx m) ⟨y, rfl, q2⟩⟩
      · cases hm
    · cases hm) (fun o es q hm => by
    unfold mPop1 at hm
    split at hm
    · rename_i d
      cases d <;> cases o <;> simp only [mPop, reduceCtorEq] at hm
      exact ⟨_, rfl⟩
    · cases hm) h
theorem ve_pop0 (hi : PE X o (tVar i)) (hbase : attributeBase o "pop" X.env (eval o X.env) = eval o X.env := by rfl) (hline : (apos.endLine == pos.line) = true := by rfl) :
    VE X (.Call (.Attribute o "pop" apos) [] [] pos) (xMut mPop0 i bNil) :=
  PEi (pe_bm0 PySem.F.plainAttrs_list PySem.F.slot_list_pop PySem.F.type_list_pop mt_pop hi hbase hline) fun σ H Q h => by
    have q := mut_core (X := X) (r := rPop) (fun Z H a vs ds xs es o' res Q ha ra rl hm k => by
      unfold mPop0 at hm
      split at hm
      · simp only [mPop] at hm
        obtain ⟨y, h3, h4⟩ := Option.map_eq_some_iff.mp hm
        cases h4
        have e : xs = [] := by simpa only [RepL] using rl
        subst e
        obtain ⟨z, q1, q2⟩ := ra.get h3
        exact ⟨a, vs, z, rfl, rfl, ha, by rw [← ra.length]; exact q1, k z _ _ rfl ra.dropLast ⟨y, rfl, q2⟩⟩
      · cases hm) (fun o es q hm => by
      unfold mPop0 at hm
      split at hm
      · cases o <;> simp only [mPop, reduceCtorEq] at hm
        exact ⟨_, rfl⟩
      · cases hm) h
    obtain ⟨v, e1, ty, g, Z, δ, S, T, r, st, hf, post⟩ := q
    cases hf
    exact ⟨v, e1, ty, post [] Z H st rfl⟩
end
end VS

namespace VS
open PySem PySem.Spec L2
/-! ### slices -/
def cutL {α : Type} (xs : List α) (lo hi : Option Int) : List α := (xs.drop (HT.sIx xs.length 0 lo)).take (HT.sIx xs.length xs.length hi - HT.sIx xs.length 0 lo)
abbrev OF := DS → Option (Option Int × DS)
def rdO (K : PySem.W.Frag) (f : OF) : TO := fun σ H Q => ∃ g Z δ S T r, StV K g Z H δ σ S T ∧ f δ = some r ∧ ∀ Z' H', StV K g Z' H' r.2 σ S T → Q r.1 H'
def oN : OF := fun δ => some (none, δ)
def oE (fe : XF) : OF := fun δ => (fe δ).bind fun r => match r.1 with
  | .val (.sh (.int i)) => some (some i, r.2)
  | _ => none
def opSl : D → Option Int → Option Int → Option O
  | .lst xs, lo, hi => some (.lst (cutL xs lo hi))
  | .tup xs, lo, hi => some (.sh (.tup (cutL xs lo hi)))
  | .scr ns, lo, hi => some (.lst ((cutL ns lo hi).map .int))
  | .str z, lo, hi => if z.length ≤ sizeLine then some (.sh (.str (cutS z lo hi))) else none
  | _, _, _ => none
def xSl (fe : XF) (fl fh : OF) : XF := fun δ => (fe δ).bind fun r1 => (fl r1.2).bind fun r2 => (fh r2.2).bind fun r3 => (rdv r3.2 r1.1).bind fun d => (opSl d r2.1 r3.1).map fun o => (.val o, r3.2)
def revD : D → Option O
  | .lst xs => some (.lst xs.reverse)
  | .scr ns => some (.lst (ns.map .int).reverse)
  | _ => none
theorem RepL.cut {K : PySem.W.Frag} {Z : Addr → Prop} {H : Hp} {ds : List D} {vs : List V} (r : RepL K Z H ds vs) (lo hi : Option Int) : RepL K Z H (cutL ds lo hi) (cutV vs lo hi) := by
  unfold cutL cutV
  rw [r.length]
  exact (r.drop).take
theorem cut_scr (ns : List Int) (lo hi : Option Int) : cutV (ns.map V.int) lo hi = (cutL ns lo hi).map V.int := by
  unfold cutL cutV
  rw [List.length_map, List.map_take, List.map_drop]
theorem RepL.ints {K : PySem.W.Frag} {Z : Addr → Prop} {H : Hp} : ∀ ns : List Int, RepL K Z H (ns.map D.int) (ns.map V.int)
  | [] => by simp only [List.map_nil, RepL]
  | n :: ns => by
    simp only [List.map_cons, RepL, RepD]
    exact ⟨_, _, rfl, rfl, RepL.ints ns⟩
section
variable {X : Cx} {e : Expr} {fe : XF} {lo hi : Option Expr} {fl fh : OF} {pos p2 : Pos}
abbrev VO (X : Cx) (e : Option Expr) (f : OF) : Prop := PO X e (rdO X.K f)
theorem POi {e : Option Expr} {t t' : TO} (h : PO X e t) (k : ∀ σ H Q, t' σ H Q → t σ H Q) : PO X e t' := ⟨fun pins s σ H Q I q => h.run pins s σ H Q I (k σ H Q q)⟩
theorem vo_none : VO X none oN := POi po_none fun σ H Q ⟨g, Z, δ, S, T, r, st, hf, post⟩ => by
  cases hf
  exact post Z H st
theorem vo_some (he : VE X e fe) : VO X (some e) (oE fe) := POi (po_some he) fun σ H Q ⟨g, Z, δ, S, T, r, st, hf, post⟩ => by
  simp only [oE, Option.bind_eq_some_iff] at hf
  obtain ⟨⟨ev, δ1⟩, h1, h2⟩ := hf
  refine ⟨g, Z, δ, S, T, _, st, h1, fun v Z1 H1 st1 al1 => ?_⟩
  split at h2
  · rename_i i q
    have q' : ev = .val (.sh (.int i)) := q
    subst q'
    cases h2
    cases topI st1
    exact ⟨i, rfl, post Z1 H1 st1.pop⟩
  · cases h2
theorem ve_sl (he : VE X e fe) (hl : VO X lo fl) (hh : VO X hi fh) : VE X (.Subscript e (.Slice lo hi none p2) pos) (xSl fe fl fh) :=
  PEi (pe_slice ((sl_list.or sl_tupA).or sl_str) he hl hh) fun σ H Q ⟨g, Z, δ, S, T, r, st, hf, post⟩ => by
  simp only [xSl, Option.bind_eq_some_iff, Option.map_eq_some_iff] at hf
  obtain ⟨⟨ev, δ1⟩, h1, ⟨l, δ2⟩, h2, ⟨u, δ3⟩, h3, d, h4, o, h5, rfl⟩ := hf
  refine ⟨g, Z, δ, S, T, _, st, h1, fun x Z1 H1 st1 al1 => ⟨g, Z1, δ1, _, _, _, st1, h2, fun Z2 H2 st2 => ⟨g, Z2, δ2, _, _, _, st2, h3, fun Z3 H3 st3 => ?_⟩⟩⟩
  have lk := st3.lk al1 h4
  cases d <;> simp only [opSl, reduceCtorEq] at h5
  · rename_i z
    split at h5
    · rename_i hz
      cases h5
      cases lk.str
      exact .inr ⟨z, rfl, hz, post _ Z3 H3 (st3.pop.push Res.str) trivial⟩
    · cases h5
  · rename_i xs
    cases h5
    obtain ⟨a, vs, rfl, ha, ra⟩ := lk.tup
    refine .inl (.inr ⟨a, vs, rfl, SqT.of ha, fun ⟨e1, e2⟩ => ?_, fun _ p hp => post _ Z3 _ (st3.pop.push (Res.tup hp (ra.cut l u))) trivial⟩)
    refine post _ Z3 H3 (st3.pop.push (Res.sc ?_)) trivial
    have ec : cutL xs l u = xs := by
      unfold cutL
      rw [ra.length, e1, e2, List.drop_zero, Nat.sub_zero, ← ra.length, List.take_length]
    rw [ec]
    simp only [RepD]
    exact ⟨a, vs, rfl, ha, ra⟩
  · rename_i xs
    cases h5
    obtain ⟨a, vs, rfl, ha, ra⟩ := lk.lst
    exact .inl (.inl ⟨a, vs, rfl, SqL.of ha, fun p hp => post _ Z3 _ (st3.pop.push (Res.lst hp (ra.cut l u))) trivial⟩)
  · rename_i ns
    cases h5
    obtain ⟨a, rfl, ha⟩ := scr_seq lk
    refine .inl (.inl ⟨a, _, rfl, ha, fun p hp => post _ Z3 _ (st3.pop.push (Res.lst hp ?_)) trivial⟩)
    rw [cut_scr]
    exact RepL.ints _
theorem ve_rev {k : Nat} {p1 p3 p4 : Pos} (he : VE X e fe) : VE X (.Subscript e (.Slice none none (some (.UnaryOp .USub (.Constant (.int 1) k p1) p3)) p4) pos) (x1 revD fe) := PEi (pe_revL he) fun σ H Q ⟨g, Z, δ, S, T, r, st, hf, post⟩ => by
  simp only [x1, Option.bind_eq_some_iff, Option.map_eq_some_iff] at hf
  obtain ⟨⟨ev, δ1⟩, h1, d, h3, o, h5, rfl⟩ := hf
  refine ⟨g, Z, δ, S, T, _, st, h1, fun x Z1 H1 st1 al1 => ?_⟩
  have lk := st1.lk al1 h3
  cases d <;> simp only [revD, reduceCtorEq] at h5
  · cases h5
    obtain ⟨a, vs, rfl, ha, ra⟩ := lk.lst
    exact ⟨a, vs, rfl, SqL.of ha, fun p hp => post _ Z1 _ (st1.pop.push (Res.lst hp ra.reverse)) trivial⟩
  · cases h5
    obtain ⟨a, rfl, ha⟩ := scr_seq lk
    exact ⟨a, _, rfl, ha, fun p hp => post _ Z1 _ (st1.pop.push (Res.lst hp (RepL.reverse (RepL.ints _)))) trivial⟩
end
/-! ### x[i] = e -/
def putD : O → D → D → Option O
  | .lst xs, .int i, d => (ixN xs.length i).map fun j => .lst (xs.set j d)
  | .dK ks, k, d => if ks.length < sizeLine then (keyOf k).map fun k => .dK (dput ks k d) else none
  | .dT ks, .tup k, d => if ks.length < sizeLine then (keysOf k).map fun k => .dT (dput ks k d) else none
  | _, _, _ => none
def sSub (j : Nat) (fe fi : XF) : SF := fun δ => (fe δ).bind fun r => (tk r.2 r.1).bind fun r => if ((r.2[j]?).join).isSome then (fi r.2).bind fun r2 => (rdv r2.2 r2.1).bind fun k => ((r2.2[j]?).join).bind fun o =>
  (putD o k r.1.fz).map fun o' => .nx (r2.2.set j (some o')) else none
section
variable {K : PySem.W.Frag} {g : Gx} {Z Z' : Addr → Prop} {H H' : Hp} {δ S U : DS} {σ T W : L2.St} {o : O} {v : V}
theorem RepL.setAt {d : D} {w : V} (rd : RepD K Z H d w) : ∀ {ds : List D} {vs : List V} (j : Nat), RepL K Z H ds vs → RepL K Z H (ds.set j d) (vs.set j w)
  | [], vs, j, h => by
    simp only [RepL] at h
    subst h
    simp [RepL]
  | d0 :: ds, vs, 0, h => by
    simp only [RepL] at h
    obtain ⟨v, r, rfl, h1, h2⟩ := h
    simp only [List.set_cons_zero, RepL]
    exact ⟨w, r, rfl, rd, h2⟩
  | d0 :: ds, vs, j + 1, h => by
    simp only [RepL] at h
    obtain ⟨v, r, rfl, h1, h2⟩ := h
    simp only [List.set_cons_succ, RepL]
    exact ⟨v, _, rfl, h1, RepL.setAt rd j h2⟩
theorem dput_nil {κ : Type} [DecidableEq κ] (k : κ) (d : D) : dput [] k d = [(k, d)] := by simp [dput]
theorem dput_cons {κ : Type} [DecidableEq κ] (x k : κ) (d0 d : D) (ks : List (κ × D)) : dput ((x, d0) :: ks) k d = if x = k then (x, d) :: ks.map (fun kv => if kv.1 = k then (kv.1, d) else kv) else (x, d0) :: dput ks k d := by
  unfold dput
  by_cases e : x = k
  · simp [e]
  · simp only [List.any_cons, e, decide_false, Bool.false_or, if_false, List.map_cons]
    split <;> simp [*]
end
section
variable {K : PySem.W.Frag} {g : Gx} {Z Z' : Addr → Prop} {H H' : Hp} {δ S U : DS} {σ T W : L2.St} {o : O} {v : V}
theorem RepK.any {k : Key} : ∀ {ds : List (Key × D)} {vs : List (Key × V)}, RepK K Z H ds vs → (ds.any fun kv => decide (kv.1 = k)) = (vs.any fun kv => decide (kv.1 = k))
  | [], vs, h => by
    simp only [RepK] at h
    subst h
    rfl
  | (x, d0) :: ds, vs, h => by
    simp only [RepK] at h
    obtain ⟨v, r, rfl, h1, h2⟩ := h
    simp only [List.any_cons, RepK.any (k := k) h2]
theorem RepK.mapPut {k : Key} {d : D} {w : V} (rd : RepD K Z H d w) : ∀ {ds : List (Key × D)} {vs : List (Key × V)}, RepK K Z H ds vs → RepK K Z H (ds.map fun kv => if kv.1 = k then (kv.1, d) else kv) (vs.map fun kv => if kv.1 = k then (kv.1, w) else kv)
  | [], vs, h => by
    simp only [RepK] at h
    subst h
    simp only [List.map_nil, RepK]
  | (x, d0) :: ds, vs, h => by
    simp only [RepK] at h
    obtain ⟨v, r, rfl, h1, h2⟩ := h
    have ih := RepK.mapPut (k := k) rd h2
    by_cases e : x = k
    · simp only [List.map_cons, e, if_true, RepK]
      exact ⟨w, _, rfl, rd, ih⟩
    · simp only [List.map_cons, e, if_false, RepK]
      exact ⟨v, _, rfl, h1, ih⟩
theorem RepK.snoc {k : Key} {d : D} {w : V} (rd : RepD K Z H d w) : ∀ {ds : List (Key × D)} {vs : List (Key × V)}, RepK K Z H ds vs → RepK K Z H (ds ++ [(k, d)]) (vs ++ [(k, w)])
  | [], vs, h => by
    simp only [RepK] at h
    subst h
    simp only [List.nil_append, RepK]
    exact ⟨w, [], rfl, rd, rfl⟩
  | (x, d0) :: ds, vs, h => by
    simp only [RepK] at h
    obtain ⟨v, r, rfl, h1, h2⟩ := h
    simp only [List.cons_append, RepK]
    exact ⟨v, _, rfl, h1, RepK.snoc rd h2⟩
theorem RepK.put {k : Key} {d : D} {w : V} (rd : RepD K Z H d w) {ds : List (Key × D)} {vs : List (Key × V)} (h : RepK K Z H ds vs) : RepK K Z H (dput ds k d) (putK vs k w) := by
  unfold dput putK
  rw [RepK.any h]
  split
  · exact h.mapPut rd
  · exact h.snoc rd
theorem RepK.length : ∀ {ds : List (Key × D)} {vs : List (Key × V)}, RepK K Z H ds vs → ds.length = vs.length
  | [], vs, h => by
    simp only [RepK] at h
    rw [h]
    rfl
  | (x, d) :: ds, vs, h => by
    simp only [RepK] at h
    obtain ⟨v, r, e, _, h2⟩ := h
    rw [e, List.length_cons, List.length_cons, RepK.length h2]
theorem RepT.any {k : List Key} : ∀ {ds : List (List Key × D)} {vs : List (List Key × V)}, RepT K Z H ds vs → (ds.any fun kv => decide (kv.1 = k)) = (vs.any fun kv => decide (kv.1 = k))
  | [], vs, h => by
    simp only [RepT] at h
    subst h
    rfl
  | (x, d0) :: ds, vs, h => by
    simp only [RepT] at h
    obtain ⟨v, r, rfl, h1, h2⟩ := h
    simp only [List.any_cons, RepT.any (k := k) h2]
theorem RepT.mapPut {k : List Key} {d : D} {w : V} (rd : RepD K Z H d w) : ∀ {ds : List (List Key × D)} {vs : List (List Key × V)}, RepT K Z H ds vs → RepT K Z H (ds.map fun kv => if kv.1 = k then (kv.1, d) else kv) (vs.map fun kv => if kv.1 = k then (kv.1, w) else kv)
  | [], vs, h => by
    simp only [RepT] at h
    subst h
    simp only [List.map_nil, RepT]
  | (x, d0) :: ds, vs, h => by
    simp only [RepT] at h
    obtain ⟨v, r, rfl, h1, h2⟩ := h
    have ih := RepT.mapPut (k := k) rd h2
    by_cases e : x = k
    · simp only [List.map_cons, e, if_true, RepT]
      exact ⟨w, _, rfl, rd, ih⟩
    · simp only [List.map_cons, e, if_false, RepT]
      exact ⟨v, _, rfl, h1, ih⟩
theorem RepT.snoc {k : List Key} {d : D} {w : V} (rd : RepD K Z H d w) : ∀ {ds : List (List Key × D)} {vs : List (List Key × V)}, RepT K Z H ds vs → RepT K Z H (ds ++ [(k, d)]) (vs ++ [(k, w)])
  | [], vs, h => by
    simp only [RepT] at h
    subst h
    simp only [List.nil_append, RepT]
    exact ⟨w, [], rfl, rd, rfl⟩
  | (x, d0) :: ds, vs, h => by
    simp only [RepT] at h
    obtain ⟨v, r, rfl, h1, h2⟩ := h
    simp only [List.cons_append, RepT]
    exact ⟨v, _, rfl, h1, RepT.snoc rd h2⟩
theorem RepT.put {k : List Key} {d : D} {w : V} (rd : RepD K Z H d w) {ds : List (List Key × D)} {vs : List (List Key × V)} (h : RepT K Z H ds vs) : RepT K Z H (dput ds k d) (putK vs k w) := by
  unfold dput putK
  rw [RepT.any h]
  split
  · exact h.mapPut rd
  · exact h.snoc rd
theorem RepT.length : ∀ {ds : List (List Key × D)} {vs : List (List Key × V)}, RepT K Z H ds vs → ds.length = vs.length
  | [], vs, h => by
    simp only [RepT] at h
    rw [h]
    rfl
  | (x, d) :: ds, vs, h => by
    simp only [RepT] at h
    obtain ⟨v, r, e, _, h2⟩ := h
    rw [e, List.length_cons, List.length_cons, RepT.length h2]
/-- the place after a store -/
theorem StV.put {i : Nat} {k d : D} {o' : O} {kv w : V} (s : StV K g Z H δ σ S T) (h : δ[i]? = some (some o)) (hv : σ[i]? = some (some v)) (lk : Lk K Z H k kv) (rd : RepD K Z H d w) (hp : putD o k d = some o') :
    (∃ p xs m j, v = .ref p ∧ kv = .int m ∧ H p = some (.lst xs) ∧ ixN xs.length m = some j ∧ StV K g Z (L2.upd H p (.lst (xs.set j w))) (δ.set i (some o')) σ S T) ∨
    (∃ a H', v = .ref a ∧ DPut H a kv w H' ∧ StV K g Z H' (δ.set i (some o')) σ S T) := by
  obtain ⟨v', F, e1, ro⟩ := s.slot h
  rw [hv] at e1
  cases e1
  cases o <;> simp only [putD, reduceCtorEq] at hp
  · rename_i xs
    cases k <;> simp only [putD, reduceCtorEq] at hp
    rename_i m
    obtain ⟨j, h1, h2⟩ := Option.map_eq_some_iff.mp hp
    subst h2
    have ro2 := ro
    simp only [RepO] at ro2
    obtain ⟨a, vs, rfl, _, ha, ra⟩ := ro2
    refine .inl ⟨a, vs, m, j, rfl, lk.int, ha, by rw [← ra.length]; exact h1, ?_⟩
    exact (s.mut (o' := .lst (xs.set j d)) (H' := L2.upd H a (.lst (vs.set j w))) h hv fun F q nd nz => by
      simp only [RepO] at q
      obtain ⟨b, ws', eb, ef, _, _⟩ := q
      cases eb
      subst ef
      obtain ⟨m1, m2, m3⟩ := mut_at (u' := .lst (vs.set j w)) ha (fun _ => by simp)
      refine ⟨m1, m2, m3, fun kp => ?_⟩
      simp only [RepO]
      exact ⟨a, _, rfl, rfl, upd_same, RepL.setAt (RepD.keep kp _ _ rd) j (RepL.keep kp _ _ ra)⟩).1
  · rename_i ks
    split at hp
    · rename_i hz
      obtain ⟨kk, h1, h2⟩ := Option.map_eq_some_iff.mp hp
      subst h2
      have ro2 := ro
      simp only [RepO] at ro2
      obtain ⟨a, vs, rfl, _, ha, ra⟩ := ro2
      have ek : kv = kV kk := by
        refine key_rep (Z := Z) (K := K) (H := H) h1 ?_
        cases k <;> simp only [keyOf, reduceCtorEq] at h1 <;> exact lk
      subst ek
      refine .inr ⟨a, _, rfl, DPut.k ha (by rw [← ra.length]; exact hz), ?_⟩
      exact (s.mut (o' := .dK (dput ks kk d)) (H' := L2.upd H a (.dK (putK vs kk w))) h hv fun F q nd nz => by
        simp only [RepO] at q
        obtain ⟨b, ws', eb, ef, _, _⟩ := q
        cases eb
        subst ef
        obtain ⟨m1, m2, m3⟩ := mut_at (u' := .dK (putK vs kk w)) ha (fun _ => by simp)
        refine ⟨m1, m2, m3, fun kp => ?_⟩
        simp only [RepO]
        exact ⟨a, _, rfl, rfl, upd_same, RepK.put (RepD.keep kp _ _ rd) (RepK.keep kp _ _ ra)⟩).1
    · cases hp
  · rename_i ks
    cases k <;> simp only [putD, reduceCtorEq] at hp
    rename_i kd
    split at hp
    · rename_i hz
      obtain ⟨kk, h1, h2⟩ := Option.map_eq_some_iff.mp hp
      subst h2
      have ro2 := ro
      simp only [RepO] at ro2
      obtain ⟨a, vs, rfl, _, ha, ra⟩ := ro2
      obtain ⟨b, ws, rfl, hb, rb⟩ := lk.tup
      have ek := keys_rep h1 rb
      subst ek
      refine .inr ⟨a, _, rfl, DPut.t ha hb (by rw [← ra.length]; exact hz), ?_⟩
      exact (s.mut (o' := .dT (dput ks kk d)) (H' := L2.upd H a (.dT (putK vs kk w))) h hv fun F q nd nz => by
        simp only [RepO] at q
        obtain ⟨b, ws', eb, ef, _, _⟩ := q
        cases eb
        subst ef
        obtain ⟨m1, m2, m3⟩ := mut_at (u' := .dT (putK vs kk w)) ha (fun _ => by simp)
        refine ⟨m1, m2, m3, fun kp => ?_⟩
        simp only [RepO]
        exact ⟨a, _, rfl, rfl, upd_same, RepT.put (RepD.keep kp _ _ rd) (RepT.keep kp _ _ ra)⟩).1
    · cases hp
end
theorem PSet.or {X : Cx} {t t' : TSet} (h : PSet X t) (h' : PSet X t') : PSet X fun o i v H Q => t o i v H Q ∨ t' o i v H Q := by
  intro pins s σ H o i v ov iv u Q I ro ri rv q
  rcases q with q | q
  · exact h pins s σ H o i v ov iv u Q I ro ri rv q
  · exact h' pins s σ H o i v ov iv u Q I ro ri rv q
section
variable {X : Cx} {M : List Nat} {e i o : Expr} {fe fi : XF} {pos pos' : Pos}
theorem vs_sub {j : Nat} (hu : X.A.units + 1 < cLine) (ho : PE X o (tVar j)) (hi : VE X i fi) (he : VE X e fe)
    (ha : ∀ v, assign (.Subscript o i pos') X.env v = (do
      let ov ← holding [v] (eval o X.env)
      let iv ← holding [v, ov] (eval i X.env)
      standAt pos'
      holding [v, ov, iv] (setItem ov iv v)
      release [v, ov, iv] []) := by intro _; rfl)
    (hs : swapsWithSole [.Subscript o i pos'] e pos.line X.env = pure false := by rfl) (hw : swappedStores [.Subscript o i pos'] e X.env = pure none := by rfl)
    (h1 : (assignEach [.Subscript o i pos'] X.env).map (·.2) = [assign (.Subscript o i pos') X.env] := by rfl) :
    VX X M (.Assign [.Subscript o i pos'] e pos) (sSub j fe fi) := PSi (ps_asg he (pg_sub ho hi (PSet.or set_list (set_dict hu)) ha) hs hw h1) fun D σ H ⟨g, Z, δ, S, T, r, st, hf, post⟩ => by
  simp only [sSub, Option.bind_eq_some_iff] at hf
  obtain ⟨⟨ev, δ1⟩, h1, ⟨ov, δ2⟩, h2, h3⟩ := hf
  split at h3
  · rename_i hj
    simp only [Option.bind_eq_some_iff, Option.map_eq_some_iff] at h3
    obtain ⟨⟨ei, δ3⟩, h4, k, h5, o1, h6, o', h7, rfl⟩ := h3
    refine ⟨g, Z, δ, S, T, _, st, h1, fun w Z1 H1 st1 al1 => ?_⟩
    obtain ⟨Z2, st2, rd⟩ := st1.tkD al1 h2
    have hj' : ∃ o0, δ2[j]? = some (some o0) := by
      have hj2 : ((δ2[j]?).join).isSome = true := hj
      cases q : δ2[j]? with
      | none => rw [q] at hj2; cases hj2
      | some x => cases x with
        | none => rw [q] at hj2; cases hj2
        | some o0 => exact ⟨o0, rfl⟩
    obtain ⟨o0, hj0⟩ := hj'
    obtain ⟨v, F, e1, _⟩ := st2.slot hj0
    refine ⟨v, e1, g, Z2, δ2, _, _, _, st2, h4, fun kv Z3 H3 st3 al3 => ?_⟩
    have h6' : δ3[j]? = some (some o1) := by
      have h62 : (δ3[j]?).join = some o1 := h6
      cases q : δ3[j]? with
      | none => rw [q] at h62; cases h62
      | some x =>
        rw [q] at h62
        have : x = some o1 := h62
        rw [this]
    have lk := st3.lk al3 h5
    have rd3 := topD st3.pop
    rcases st3.put h6' e1 lk rd3 h7 with ⟨p, xs, m, jj, ev, ek, hp, hx, st4⟩ | ⟨a, H', ev, dp, st4⟩
    · exact .inl ⟨p, xs, m, jj, ev, ek, hp, hx, post σ Z3 _ st4.drop2 (Agree.refl _ _)⟩
    · exact .inr ⟨a, H', ev, dp, post σ Z3 _ st4.drop2 (Agree.refl _ _)⟩
  · cases h3
end
end VS

namespace VS
open PySem PySem.Spec L2
/-! ### dict comprehensions -/
theorem dput_length {κ : Type} [DecidableEq κ] (ks : List (κ × D)) (k : κ) (d : D) : (dput ks k d).length ≤ ks.length + 1 := by
  unfold dput
  split
  · simp
  · simp
def dcL (gt : GF) (tt : TF) (fk fv : XF) (own : List Nat) : List D → DS → List (Key × D) → Option (List (Key × D) × DS)
  | [], δ, acc => some (acc, δ)
  | d :: ds, δ, acc => (gt d δ).bind fun δ1 => (tt δ1).bind fun r => if r.1 then (fk r.2).bind fun r => (tk r.2 r.1).bind fun rk => (fv rk.2).bind fun r => (tk r.2 r.1).bind fun rv => (keyOf rk.1.fz).bind fun k => dcL gt tt fk fv own ds (wipeD rv.2 own) (dput acc k rv.1.fz)
      else dcL gt tt fk fv own ds (wipeD r.2 own) acc
def xDc (fi : IF) (gt : GF) (tt : TF) (fk fv : XF) (own : List Nat) : XF := fun δ => (fi δ).bind fun r => if r.1.length ≤ sizeLine then (dcL gt tt fk fv own r.1 (wipeD r.2 own) []).map fun q => (.val (.dK q.1), unwD q.2 own (savD r.2 own)) else none
section
variable {K : PySem.W.Frag} {g : Gx} {Z Z' : Addr → Prop} {H H' : Hp} {δ S U : DS} {σ T W : L2.St} {o : O} {v : V}
/-- the dict among the temporaries gets an entry -/
theorem StV.putT {A : DS} {B : L2.St} {ds : List (Key × D)} {d : D} {k : Key} {w : V} {a : Addr} (hA : A.length = B.length) (s : StV K g Z H δ σ (some (.sh d) :: (A ++ some (.dK ds) :: S)) (some w :: (B ++ some (.ref a) :: T))) :
    ∃ vs, H a = some (.dK vs) ∧ vs.length = ds.length ∧ StV K g Z (L2.upd H a (.dK (putK vs k w))) δ σ (A ++ some (.dK (dput ds k d)) :: S) (B ++ some (.ref a) :: T) := by
  have rd := topD s
  have s1 := s.pop
  have e1 : (A ++ some (O.dK ds) :: S)[A.length]? = some (some (O.dK ds)) := by simp
  have e2 : (B ++ some (V.ref a) :: T)[A.length]? = some (some (V.ref a)) := by rw [hA]; simp
  have ex : ∃ vs, H a = some (.dK vs) ∧ RepK K Z H ds vs := by
    obtain ⟨Fs, Ft, h1, h2, w⟩ := s1
    obtain ⟨y, Fi, Fr, e, p, q, put⟩ := h2.at e1
    rw [e2] at e
    cases e
    have q' : RepO K Z H (.dK ds) (.ref a) Fi := q
    simp only [RepO] at q'
    obtain ⟨b, vs, eb, _, hb, rb⟩ := q'
    cases eb
    exact ⟨vs, hb, rb⟩
  obtain ⟨vs, hb, rb⟩ := ex
  refine ⟨vs, hb, rb.length.symm, ?_⟩
  have r := (s1.mutT (o' := .dK (dput ds k d)) (H' := L2.upd H a (.dK (putK vs k w))) e1 e2 fun F q nd nz => by
    simp only [RepO] at q
    obtain ⟨b, ws, eb, ef, _, _⟩ := q
    cases eb
    subst ef
    obtain ⟨m1, m2, m3⟩ := mut_at (u' := .dK (putK vs k w)) hb (fun _ => by simp)
    refine ⟨m1, m2, m3, fun kp => ?_⟩
    simp only [RepO]
    exact ⟨a, _, rfl, rfl, upd_same, RepK.put (RepD.keep kp d w rd) (RepK.keep kp ds vs rb)⟩).1
  have e3 : (A ++ some (O.dK ds) :: S).set A.length (some (O.dK (dput ds k d))) = A ++ some (O.dK (dput ds k d)) :: S := by simp
  rw [e3] at r
  exact r
end
section
variable {X : Cx}
theorem dc_coreG {wi : TI} {L own : List Nat} {gt : GF} {tt : TF} {fk fv : XF} {g : Gx} {Z : Addr → Prop} {δ1 : DS} {S : DS} {σ T : L2.St} {H : Hp} {Q : VK} {ds : List D} {r : Ev × DS} (hL : (L.all fun i => own.contains i) = true)
    (hi : ∀ R : It → Hp → Prop, (∀ J U W Z' H', U.length = W.length → StV X.K g Z' H' δ1 σ (U ++ S) (W ++ T) → ItW X.K g J ds U W → R J H') → wi σ H R)
    (h2 : (if ds.length ≤ sizeLine then (dcL gt tt fk fv own ds (wipeD δ1 own) []).map fun q => ((.val (.dK q.1) : Ev), unwD q.2 own (savD δ1 own)) else none) = some r) (post : PostE X.K g σ S T Q r) :
    tDc wi (rdG X.K L gt) (rdT X.K tt) (rdE X.K fk) (rdE X.K fv) own σ H Q := by
  split at h2
  · rename_i hz0
    have hz : ds.length ≤ sizeLine := hz0
    obtain ⟨⟨accF, δF⟩, h3, h4⟩ := Option.map_eq_some_iff.mp h2
    subst h4
    refine hi _ fun J U W Z1 H1 hU st1 iw Da hDa => ?_
    have sl := sav_length δ1 σ own
    have st2 : StV X.K g Z1 (L2.upd H1 Da (.dK [])) δ1 σ (some (.dK []) :: (U ++ S)) (some (.ref Da) :: (W ++ T)) := st1.push (Res.dK hDa (by simp only [RepK]))
    have st3 := st2.wipe own
    refine ⟨fun i m H' => m = ds.length - i ∧ i ≤ ds.length ∧ ∃ Z' δ' acc, StV X.K g Z' H' δ' (L2.wipe σ own) (savD δ1 own ++ some (.dK acc) :: (U ++ S)) (savV σ own ++ some (.ref Da) :: (W ++ T)) ∧ dcL gt tt fk fv own (ds.drop i) δ' acc = some (accF, δF) ∧ acc.length ≤ i,
      ⟨_, rfl, Nat.zero_le _, Z1, _, [], st3, by simpa using h3, Nat.le_refl _⟩, ?_⟩
    rintro i m H' ⟨rfl, hle, Z', δ', acc, st', hl, ha⟩
    have stI : StV X.K g Z' H' δ' (L2.wipe σ own) (U ++ S) (W ++ T) := by
      have e1 : savD δ1 own ++ some (O.dK acc) :: (U ++ S) = (savD δ1 own ++ [some (O.dK acc)]) ++ (U ++ S) := by simp
      have e2 : savV σ own ++ some (V.ref Da) :: (W ++ T) = (savV σ own ++ [some (V.ref Da)]) ++ (W ++ T) := by simp
      rw [e1, e2] at st'
      exact st'.popN (by simp [sl.1, sl.2])
    by_cases hlt : i < ds.length
    · have e : ds[i]? = some ds[i] := by simp [hlt]
      obtain ⟨go, yld⟩ := iw.go Z' H' δ' (L2.wipe σ own) S T stI i _ e
      have dr : ds.drop i = ds[i] :: ds.drop (i + 1) := List.drop_eq_getElem_cons hlt
      rw [dr] at hl
      simp only [dcL, Option.bind_eq_some_iff] at hl
      obtain ⟨δ2, g1, ⟨b, δ3⟩, g2, g3⟩ := hl
      refine .inr ⟨go, fun H3 => ∃ Z3 δ3 acc3, StV X.K g Z3 H3 δ3 (L2.wipe σ own) (savD δ1 own ++ some (.dK acc3) :: (U ++ S)) (savV σ own ++ some (.ref Da) :: (W ++ T)) ∧ dcL gt tt fk fv own (ds.drop (i + 1)) δ3 acc3 = some (accF, δF) ∧ acc3.length ≤ i + 1,
        fun H3 q => ⟨ds.length - (i + 1), by omega, rfl, hlt, q⟩, fun x H2 y => ?_⟩
      have rs := yld x H2 y
      refine ⟨g, Z', δ', _, _, ds[i], δ2, st'.push rs, g1, fun σ4 Z4 H4 st4 ou => ?_⟩
      have ew := ou.wipe hL
      refine ⟨ew, g, Z4, δ2, _, _, _, st4, g2, fun Z5 H5 st5 => ?_⟩
      cases b with
      | false =>
        have st6 := st5.wipeOff own
        rw [ew] at st6
        exact ⟨Z5, _, acc, st6, g3, by omega⟩
      | true =>
        rw [if_pos rfl]
        rw [if_pos rfl] at g3
        obtain ⟨⟨ek, δ6⟩, g4, g5⟩ := Option.bind_eq_some_iff.mp g3
        obtain ⟨⟨ok, δ7⟩, g6, g7⟩ := Option.bind_eq_some_iff.mp g5
        obtain ⟨⟨ev, δ8⟩, g8, g9⟩ := Option.bind_eq_some_iff.mp g7
        obtain ⟨⟨ov, δ9⟩, g10, g11⟩ := Option.bind_eq_some_iff.mp g9
        obtain ⟨kk, g12, g13⟩ := Option.bind_eq_some_iff.mp g11
        refine ⟨g, Z5, δ3, _, _, _, st5, g4, fun kv Z6 H6 st6 al6 => ?_⟩
        obtain ⟨Z7, st7, rdk⟩ := st6.tkD al6 g6
        have ekv := key_rep g12 rdk
        subst ekv
        refine ⟨g, Z7, δ7, _, _, _, st7, g8, fun w Z8 H8 st8 al8 => ?_⟩
        obtain ⟨Z9, st9, rd⟩ := st8.tkD al8 g10
        have st10 := StV.mid (A := [some (.sh ov.fz)]) (B := [some w]) (U := [some (.sh ok.fz)]) (W := [some (kV kk)]) rfl rfl st9
        obtain ⟨vs, hv, hvl, st11⟩ := StV.putT (k := kk) (by rw [sl.1, sl.2]) st10
        refine ⟨vs, kk, rfl, hv, by omega, Z9, _, dput acc kk ov.fz, ?_, g13, by have := dput_length acc kk ov.fz; omega⟩
        have st12 := st11.wipeOff own
        rw [ew] at st12
        exact st12
    · have e : i = ds.length := by omega
      subst e
      refine .inl ⟨iw.stop Z' H' δ' (L2.wipe σ own) S T stI, ?_⟩
      rw [List.drop_length] at hl
      cases hl
      have st4 := StV.unwipe (xs := savD δ1 own) (by rw [sl.1]) st'
      exact post (.ref Da) Z' H' (StV.mid (A := [some (.dK accF)]) (B := [some (.ref Da)]) rfl hU st4) trivial
  · cases h2
theorem dc_coreV {wi : TI} {L own : List Nat} {fi : IF} {gt : GF} {tt : TF} {fk fv : XF} {σ : L2.St} {H : Hp} {Q : VK} (hL : (L.all fun i => own.contains i) = true) (hi : ∀ σ H R, rdI X.K fi σ H R → wi σ H R) (h : rdE X.K (xDc fi gt tt fk fv own) σ H Q) :
    tDc wi (rdG X.K L gt) (rdT X.K tt) (rdE X.K fk) (rdE X.K fv) own σ H Q := by
  obtain ⟨g, Z, δ, S, T, r, st, hf, post⟩ := h
  simp only [xDc, Option.bind_eq_some_iff] at hf
  obtain ⟨⟨ds, δ1⟩, h1, h2⟩ := hf
  exact dc_coreG (Z := Z) hL (fun R q => hi _ _ _ ⟨g, Z, δ, S, T, _, st, h1, q⟩) h2 post
theorem ve_dc {kx vx tg iter : Expr} {ifs : List Expr} {scope : Scope} {own : List (Str × Nat)} {pos : Pos} {L : List Nat} {fi : IF} {gt : GF} {tt : TF} {fk fv : XF} (hL : (L.all fun i => (own.map (·.2)).contains i) = true)
    (hc : X.calm = true) (hN : X.N.Nodup) (hi : VI X tg iter fi) (ok : BlkOk X.N X.env.scope scope own)
    (hg : ∀ (s : Shared) (H : Hp) (C : Addr) (cl : List (Str × Addr)) (fp : List Addr), VG (X.blk s H scope (compEnvC scope cl C X.env) fp) L tg gt) (ht : ∀ (s : Shared) (H : Hp) (C : Addr) (cl : List (Str × Addr)) (fp : List Addr), VTs (X.blk s H scope (compEnvC scope cl C X.env) fp) ifs tt)
    (hk : ∀ (s : Shared) (H : Hp) (C : Addr) (cl : List (Str × Addr)) (fp : List Addr), VE (X.blk s H scope (compEnvC scope cl C X.env) fp) kx fk)
    (he : ∀ (s : Shared) (H : Hp) (C : Addr) (cl : List (Str × Addr)) (fp : List Addr), VE (X.blk s H scope (compEnvC scope cl C X.env) fp) vx fv) (hs : ∀ x, foldedSetIterable iter X.env x = pure x := by intro _; rfl) :
    VE X (.DictComp kx vx [⟨tg, iter, ifs, 0⟩] scope pos) (xDc fi gt tt fk fv (own.map (·.2))) := PEi (pe_dc hc hN hi ok hg ht hk he hs) fun σ H Q h => dc_coreV hL (fun _ _ _ q => q) h
end
end VS

namespace VS
open PySem PySem.Spec L2
/-! ### walks over a dict: it is locked meanwhile -/
/-- an expression that only reads -/
def Pur (X : Cx) (e : Expr) (fp : DS → Option (D × DS)) : Prop := ∃ t : TE, PE X e t ∧ ∀ g Z δ S T σ H d δ', StV X.K g Z H δ σ S T → fp δ = some (d, δ') → ∃ v Z', StV X.K g Z' H δ' σ S T ∧ RepD X.K Z' H d v ∧
  ∀ H', (∀ a o, H a = some o → dcO o = false → H' a = some o) → ∀ Q : VK, Q v H' → t σ H' Q
def pV (i : Nat) : DS → Option (D × DS) := fun δ => match (δ[i]?).join with
  | some o => some (o.fz, δ.set i (some (.sh o.fz)))
  | none => none
def pF (c f : Str) (fp : DS → Option (D × DS)) : DS → Option (D × DS) := fun δ => (fp δ).bind fun r => match r.1 with
  | .obj c' fs => if c' = c then (fs.lookup f).map fun d => (d, r.2) else none
  | _ => none
section
variable {X : Cx} {e : Expr} {pos : Pos}
theorem pur_name {i : Nat} (h : PE X e (tVar i)) : Pur X e (pV i) := ⟨_, h, fun g Z δ S T σ H d δ' st hf => by
  unfold pV at hf
  split at hf
  · rename_i o q
    cases hf
    have q' : δ[i]? = some (some o) := by
      cases q2 : δ[i]? with
      | none => rw [q2] at q; cases q
      | some x =>
        rw [q2] at q
        have : x = some o := q
        rw [this]
    obtain ⟨v, Z', e1, st', _⟩ := st.frzS q'
    exact ⟨v, Z', st'.pop, topD st', fun H' _ Q hQ => ⟨v, e1, hQ⟩⟩
  · cases hf⟩
theorem pur_fld {c f : Str} {fp : DS → Option (D × DS)} (cl : Cls X.K (He.ga X.K c)) (na : NoAttr X.K (He.ga X.K c) f) (h : Pur X e fp) (hb : attributeBase e f X.env (eval e X.env) = eval e X.env) : Pur X (.Attribute e f pos) (pF c f fp) := by
  obtain ⟨t, ht, hp⟩ := h
  refine ⟨_, pe_fld ht hb, fun g Z δ S T σ H d δ' st hf => ?_⟩
  simp only [pF, Option.bind_eq_some_iff] at hf
  obtain ⟨⟨d0, δ0⟩, h1, h2⟩ := hf
  obtain ⟨v, Z', st', rd, k⟩ := hp g Z δ S T σ H d0 δ0 st h1
  split at h2
  · rename_i c' fs q
    have q' : d0 = .obj c' fs := q
    subst q'
    split at h2
    · rename_i ec
      subst ec
      obtain ⟨d1, h3, h4⟩ := Option.map_eq_some_iff.mp h2
      cases h4
      simp only [RepD] at rd
      obtain ⟨a, dx, vs, rfl, _, ha, rf⟩ := rd
      obtain ⟨w, q1, q2⟩ := rf.lookup.1 d h3
      exact ⟨w, Z', st', q2, fun H' kp Q hQ => k H' kp _ ⟨a, _, dx, vs, w, rfl, kp a _ ha rfl, cl, na, q1, hQ⟩⟩
    · cases h2
  · cases h2
end
def Gx.lk (g : Gx) (d : Addr) (u : HO) : Gx := ⟨fun a => g.Z0 a ∨ a = d, fun a => if a = d then some u else g.G a⟩
section
variable {K : PySem.W.Frag} {g : Gx} {Z Z' : Addr → Prop} {H H' : Hp} {δ S U : DS} {σ T W : L2.St} {o : O} {v : V}
theorem StV.zg (s : StV K g Z H δ σ S T) {d : Addr} (z : Z d) : g.Z0 d ∨ g.G d = none := by
  obtain ⟨Fs, Ft, h1, h2, w⟩ := s
  exact (w.zh d z).2
theorem StV.gh (s : StV K g Z H δ σ S T) {d : Addr} {o : HO} (z : g.G d = some o) : H d = some o := by
  obtain ⟨Fs, Ft, h1, h2, w⟩ := s
  exact w.gh d o z
/-- dict d is locked: its content stays -/
theorem StV.lock {d : Addr} {u : HO} {od : Obj} (hu : (∃ vs, u = .dK vs) ∨ ∃ vs, u = .dT vs) (s : StV K g Z H δ σ S T) (z : Z d) (h : H d = some u) : StV K (g.lk d (.frz od u)) Z (L2.upd H d (.frz od u)) δ σ S T ∧ Keep Z Z H (L2.upd H d (.frz od u)) := by
  obtain ⟨Fs, Ft, h1, h2, w⟩ := s
  have nf : ∀ a, a ≠ d → L2.upd H d (.frz od u) a = H a := fun a ha => upd_ne ha
  have dcu : dcO u = true := by rcases hu with ⟨vs, rfl⟩ | ⟨vs, rfl⟩ <;> rfl
  have kp : Keep Z Z H (L2.upd H d (.frz od u)) := by
    refine ⟨fun _ z => z, fun a o _ e f => ?_, fun a x _ e => ?_, fun a x _ e => ?_, fun a xs e => ?_⟩
    · rw [nf a fun q => by
        rw [q, h] at e
        cases e
        rw [dcu] at f
        cases f]
      exact e
    · by_cases q : a = d
      · subst q
        rcases e with e | ⟨o, e⟩
        · rw [h] at e
          cases e
          exact .inr ⟨od, upd_same⟩
        · rw [h] at e
          rcases hu with ⟨vs, rfl⟩ | ⟨vs, rfl⟩ <;> cases e
      · rcases e with e | ⟨o, e⟩
        · exact .inl (by rw [nf a q]; exact e)
        · exact .inr ⟨o, by rw [nf a q]; exact e⟩
    · by_cases q : a = d
      · subst q
        rcases e with e | ⟨o, e⟩
        · rw [h] at e
          cases e
          exact .inr ⟨od, upd_same⟩
        · rw [h] at e
          rcases hu with ⟨vs, rfl⟩ | ⟨vs, rfl⟩ <;> cases e
      · rcases e with e | ⟨o, e⟩
        · exact .inl (by rw [nf a q]; exact e)
        · exact .inr ⟨o, by rw [nf a q]; exact e⟩
    · rw [nf a fun q => by
        rw [q, h] at e
        rcases hu with ⟨vs, rfl⟩ | ⟨vs, rfl⟩ <;> cases e]
      exact e
  have ow : ∀ a ∈ Fs ++ Ft, ∀ x, H a = some x → L2.upd H d (.frz od u) a = some x := fun a ha x e => by
    rw [nf a fun q => (w.own a ha).1 (by rw [q]; exact z)]
    exact e
  refine ⟨⟨Fs, Ft, h1.keep kp fun a ha => ow a (List.mem_append_left _ ha), h2.keep kp fun a ha => ow a (List.mem_append_right _ ha), w.nd, fun a ha => ⟨(w.own a ha).1, ?_⟩, fun a q => ?_, fun a za => ?_, fun a x e => ?_⟩, kp⟩
  · show (if a = d then _ else g.G a) = none
    rw [if_neg fun q => (w.own a ha).1 (by rw [q]; exact z)]
    exact (w.own a ha).2
  · rcases q with q | q
    · exact w.z0 a q
    · rw [q]; exact z
  · by_cases q : a = d
    · exact ⟨⟨_, by rw [q]; exact upd_same⟩, .inl (.inr q)⟩
    · obtain ⟨e1, e2⟩ := w.zh a za
      refine ⟨by rw [nf a q]; exact e1, ?_⟩
      rcases e2 with e2 | e2
      · exact .inl (.inl e2)
      · exact .inr (by show (if a = d then _ else g.G a) = none; rw [if_neg q]; exact e2)
  · have e' : (if a = d then some (.frz od u) else g.G a) = some x := e
    split at e'
    · rename_i q
      cases e'
      rw [q]
      exact upd_same
    · rename_i q
      rw [nf a q]
      exact w.gh a x e'
/-- .. it was locked before -/
theorem StV.lock' {d : Addr} {u : HO} (s : StV K g Z H δ σ S T) (z : Z d) (h : H d = some u) : StV K (g.lk d u) Z H δ σ S T := by
  obtain ⟨Fs, Ft, h1, h2, w⟩ := s
  refine ⟨Fs, Ft, h1, h2, w.nd, fun a ha => ⟨(w.own a ha).1, ?_⟩, fun a q => ?_, fun a za => ?_, fun a x e => ?_⟩
  · show (if a = d then _ else g.G a) = none
    rw [if_neg fun q => (w.own a ha).1 (by rw [q]; exact z)]
    exact (w.own a ha).2
  · rcases q with q | q
    · exact w.z0 a q
    · rw [q]; exact z
  · obtain ⟨e1, e2⟩ := w.zh a za
    refine ⟨e1, ?_⟩
    by_cases q : a = d
    · exact .inl (.inr q)
    · rcases e2 with e2 | e2
      · exact .inl (.inl e2)
      · exact .inr (by show (if a = d then _ else g.G a) = none; rw [if_neg q]; exact e2)
  · have e' : (if a = d then some u else g.G a) = some x := e
    split at e'
    · rename_i q
      cases e'
      rw [q]
      exact h
    · exact w.gh a x e'
theorem StV.lkd {d : Addr} {u : HO} (s : StV K (g.lk d u) Z H δ σ S T) : H d = some u := by
  refine s.gh (d := d) ?_
  show (if d = d then some u else g.G d) = some u
  rw [if_pos rfl]
theorem StV.unlock' {d : Addr} {u : HO} (s : StV K (g.lk d u) Z H δ σ S T) (hz : g.Z0 d ∨ g.G d = none) (hg : ∀ o, g.G d = some o → o = u) : StV K g Z H δ σ S T := by
  have hd := s.lkd
  obtain ⟨Fs, Ft, h1, h2, w⟩ := s
  have za : Z d := w.z0 d (.inr rfl)
  refine ⟨Fs, Ft, h1, h2, w.nd, fun a ha => ⟨(w.own a ha).1, ?_⟩, fun a q => w.z0 a (.inl q), fun a za => ?_, fun a x e => ?_⟩
  · have e := (w.own a ha).2
    have e' : (if a = d then some u else g.G a) = none := e
    rw [if_neg fun q => (w.own a ha).1 (by rw [q]; exact za)] at e'
    exact e'
  · obtain ⟨e1, e2⟩ := w.zh a za
    refine ⟨e1, ?_⟩
    by_cases q : a = d
    · rw [q]; exact hz
    · rcases e2 with (e2 | e2) | e2
      · exact .inl e2
      · exact absurd e2 q
      · have e' : (if a = d then some u else g.G a) = none := e2
        rw [if_neg q] at e'
        exact .inr e'
  · by_cases q : a = d
    · subst q
      rw [hg x e]
      exact hd
    · refine w.gh a x ?_
      show (if a = d then some u else g.G a) = some x
      rw [if_neg q]
      exact e
theorem StV.unlock {d : Addr} {u : HO} {od : Obj} (hu : (∃ vs, u = .dK vs) ∨ ∃ vs, u = .dT vs) (s : StV K (g.lk d (.frz od u)) Z H δ σ S T) (hz : g.Z0 d ∨ g.G d = none) (hg : ∀ o, g.G d = some o → o = u) : StV K g Z (L2.upd H d u) δ σ S T := by
  have hd := s.lkd
  obtain ⟨Fs, Ft, h1, h2, w⟩ := s
  have za : Z d := w.z0 d (.inr rfl)
  have nf : ∀ a, a ≠ d → L2.upd H d u a = H a := fun a ha => upd_ne ha
  have dcu : dcO (.frz od u) = true := by rcases hu with ⟨vs, rfl⟩ | ⟨vs, rfl⟩ <;> rfl
  have kp : Keep Z Z H (L2.upd H d u) := by
    refine ⟨fun _ z => z, fun a o _ e f => ?_, fun a x _ e => ?_, fun a x _ e => ?_, fun a xs e => ?_⟩
    · rw [nf a fun q => by
        rw [q, hd] at e
        cases e
        rw [dcu] at f
        cases f]
      exact e
    · by_cases q : a = d
      · subst q
        rcases e with e | ⟨o, e⟩
        · rw [hd] at e
          cases e
        · rw [hd] at e
          cases e
          exact .inl upd_same
      · rcases e with e | ⟨o, e⟩
        · exact .inl (by rw [nf a q]; exact e)
        · exact .inr ⟨o, by rw [nf a q]; exact e⟩
    · by_cases q : a = d
      · subst q
        rcases e with e | ⟨o, e⟩
        · rw [hd] at e
          cases e
        · rw [hd] at e
          cases e
          exact .inl upd_same
      · rcases e with e | ⟨o, e⟩
        · exact .inl (by rw [nf a q]; exact e)
        · exact .inr ⟨o, by rw [nf a q]; exact e⟩
    · rw [nf a fun q => by
        rw [q, hd] at e
        cases e]
      exact e
  have ow : ∀ a ∈ Fs ++ Ft, ∀ x, H a = some x → L2.upd H d u a = some x := fun a ha x e => by
    rw [nf a fun q => (w.own a ha).1 (by rw [q]; exact za)]
    exact e
  refine ⟨Fs, Ft, h1.keep kp fun a ha => ow a (List.mem_append_left _ ha), h2.keep kp fun a ha => ow a (List.mem_append_right _ ha), w.nd, fun a ha => ⟨(w.own a ha).1, ?_⟩, fun a q => w.z0 a (.inl q), fun a z => ?_, fun a x e => ?_⟩
  · have e := (w.own a ha).2
    have e' : (if a = d then some (.frz od u) else g.G a) = none := e
    rw [if_neg fun q => (w.own a ha).1 (by rw [q]; exact za)] at e'
    exact e'
  · by_cases q : a = d
    · exact ⟨⟨_, by rw [q]; exact upd_same⟩, by rw [q]; exact hz⟩
    · obtain ⟨e1, e2⟩ := w.zh a z
      refine ⟨by rw [nf a q]; exact e1, ?_⟩
      rcases e2 with (e2 | e2) | e2
      · exact .inl e2
      · exact absurd e2 q
      · have e' : (if a = d then some (.frz od u) else g.G a) = none := e2
        rw [if_neg q] at e'
        exact .inr e'
  · by_cases q : a = d
    · subst q
      rw [hg x e]
      exact upd_same
    · rw [nf a q]
      refine w.gh a x ?_
      show (if a = d then some (.frz od u) else g.G a) = some x
      rw [if_neg q]
      exact e
end
/-! the walks -/
def keyD : Key → D
  | .inl i => .int i
  | .inr x => .str x
inductive Vw where
  | keys | vals | items
def Vw.of : Vw → List (Key × D) → List D
  | .keys, ks => ks.map fun p => keyD p.1
  | .vals, ks => ks.map fun p => p.2
  | .items, ks => ks.map fun p => .tup [keyD p.1, p.2]
def Vw.it : Vw → Addr → Obj → List (Key × V) → It
  | .keys => Itk
  | .vals => Itd
  | .items => Iti
section
variable {K : PySem.W.Frag} {g : Gx} {Z Z' : Addr → Prop} {H H' : Hp} {δ S U : DS} {σ T W : L2.St} {o : O} {v : V}
theorem keyD_rep (k : Key) : RepD K Z H (keyD k) (kV k) := by
  cases k <;> simp only [keyD, RepD, kV]
theorem RepK.at : ∀ {ds : List (Key × D)} {vs : List (Key × V)} {i : Nat} {k : Key} {d : D}, RepK K Z H ds vs → ds[i]? = some (k, d) → ∃ v, vs[i]? = some (k, v) ∧ RepD K Z H d v
  | [], vs, i, k, d, h, e => by simp at e
  | (x, d0) :: ds, vs, 0, k, d, h, e => by
    simp only [RepK] at h
    obtain ⟨v, r, rfl, h1, h2⟩ := h
    have e' : x = k ∧ d0 = d := by simpa using e
    obtain ⟨rfl, rfl⟩ := e'
    exact ⟨v, rfl, h1⟩
  | (x, d0) :: ds, vs, i + 1, k, d, h, e => by
    simp only [RepK] at h
    obtain ⟨v, r, rfl, h1, h2⟩ := h
    obtain ⟨w, q1, q2⟩ := RepK.at (i := i) (k := k) (d := d) h2 (by simpa using e)
    exact ⟨w, by simpa using q1, q2⟩
theorem itw_dict (w : Vw) {a : Addr} {od : Obj} {vs : List (Key × V)} {ks : List (Key × D)} : ItW K (g.lk a (.frz od (.dK vs))) (w.it a od vs) (w.of ks) [some (.sh (.dK ks))] [some (.ref a)] := by
  have key : ∀ {Z H δ σ S T}, StV K (g.lk a (.frz od (.dK vs))) Z H δ σ ([some (.sh (.dK ks))] ++ S) ([some (.ref a)] ++ T) → H a = some (.frz od (.dK vs)) ∧ RepK K Z H ks vs := by
    intro Z H δ σ S T s
    have hd := s.lkd
    refine ⟨hd, ?_⟩
    have rd := topD (show StV K _ Z H δ σ (some (.sh (.dK ks)) :: S) (some (.ref a) :: T) from s)
    simp only [RepD] at rd
    obtain ⟨b, ws, eb, _, hb, rb⟩ := rd
    cases eb
    rcases hb with hb | ⟨o, hb⟩
    · rw [hd] at hb; cases hb
    · rw [hd] at hb; cases hb; exact rb
  refine ⟨fun Z H δ σ S T s i d e => ?_, fun Z H δ σ S T s => ?_⟩
  · obtain ⟨hd, rk⟩ := key s
    have hk : ∃ p, ks[i]? = some p := by
      cases q : ks[i]? with
      | none => cases w <;> simp [Vw.of, List.getElem?_map, q] at e
      | some p => exact ⟨p, rfl⟩
    obtain ⟨⟨k, d0⟩, hk⟩ := hk
    obtain ⟨v, hv, rv⟩ := rk.at hk
    have hi : i < vs.length := (List.getElem?_eq_some_iff.mp hv).1
    cases w with
    | keys =>
      have ed : d = keyD k := by simpa [Vw.of, List.getElem?_map, hk] using e.symm
      subst ed
      refine ⟨⟨hd, hi⟩, fun x H2 ⟨q1, k', v', q2, q3⟩ => ?_⟩
      rw [hv] at q2
      cases q2
      subst q1 q3
      exact Res.sc (keyD_rep _)
    | vals =>
      have ed : d = d0 := by simpa [Vw.of, List.getElem?_map, hk] using e.symm
      subst ed
      refine ⟨⟨hd, hi⟩, fun x H2 ⟨q1, k', q2⟩ => ?_⟩
      rw [hv] at q2
      cases q2
      subst q1
      exact Res.sc rv
    | items =>
      have ed : d = .tup [keyD k, d0] := by simpa [Vw.of, List.getElem?_map, hk] using e.symm
      subst ed
      refine ⟨⟨hd, hi⟩, fun x H2 ⟨p, k', v', q2, q3, q4, q5⟩ => ?_⟩
      rw [hv] at q2
      cases q2
      subst q3 q5
      refine Res.tup q4 ?_
      simp only [RepL]
      exact ⟨_, _, rfl, keyD_rep _, _, _, rfl, rv, rfl⟩
  · obtain ⟨hd, rk⟩ := key s
    have hl : vs.length ≤ (w.of ks).length := by
      rw [← rk.length]
      cases w <;> simp [Vw.of]
    cases w <;> exact ⟨hd, hl⟩
end
section
variable {X : Cx} {e e0 tg : Expr}
theorem PE.or {t t' : TE} (h : PE X e t) (h' : PE X e t') : PE X e fun σ H Q => t σ H Q ∨ t' σ H Q := ⟨fun pins s σ H Q I q => q.elim (h.run pins s σ H Q I) (h'.run pins s σ H Q I)⟩
theorem PS.or {st : Stmt} {t t' : TS} (h : PS X st t) (h' : PS X st t') : PS X st fun D σ H => t D σ H ∨ t' D σ H := ⟨fun pins s σ H D I q => q.elim (h.run pins s σ H D I) (h'.run pins s σ H D I)⟩
/-- an iterator over a dict that td gives, locked -/
def WkI (X : Cx) (tg iter : Expr) (w : Vw) (td : TE) : Prop := ∃ wi : TI, PI X tg iter wi ∧ ∀ σ H (R : It → Hp → Prop), td σ H (fun x H1 => ∃ d o kvs, x = .ref d ∧ H1 d = some (.frz o (.dK kvs)) ∧ R (w.it d o kvs) H1) → wi σ H R
/-- .. over a dict that e0 reads -/
def WkE (X : Cx) (tg iter : Expr) (w : Vw) (fp : DS → Option (D × DS)) : Prop := ∃ t : TE, WkI X tg iter w t ∧ ∀ g Z δ S T σ H d δ', StV X.K g Z H δ σ S T → fp δ = some (d, δ') → ∃ v Z', StV X.K g Z' H δ' σ S T ∧ RepD X.K Z' H d v ∧
  ∀ H', (∀ a o, H a = some o → dcO o = false → H' a = some o) → ∀ Q : VK, Q v H' → t σ H' Q
theorem wk_items {fp : DS → Option (D × DS)} {elts : List Expr} {kk : Nat} {tpos apos cpos : Pos} (h : Pur X e fp) (hbase : attributeBase e "items" X.env (eval e X.env) = eval e X.env := by rfl) (hline : (apos.endLine == cpos.line) = true := by rfl) :
    WkE X (.Tuple elts kk tpos) (.Call (.Attribute e "items" apos) [] [] cpos) .items fp := by
  obtain ⟨t, ht, hp⟩ := h
  exact ⟨t, ⟨_, pi_items ht hbase hline, fun σ H R q => q⟩, hp⟩
theorem wk_vals {fp : DS → Option (D × DS)} {apos cpos : Pos} (h : Pur X e fp) (hbase : attributeBase e "values" X.env (eval e X.env) = eval e X.env := by rfl) (hline : (apos.endLine == cpos.line) = true := by rfl) :
    WkE X tg (.Call (.Attribute e "values" apos) [] [] cpos) .vals fp := by
  obtain ⟨t, ht, hp⟩ := h
  exact ⟨t, ⟨_, pi_values ht hbase hline, fun σ H R q => q⟩, hp⟩
theorem PE.mono {t : TE} (h : PE X e t) : PE X e fun σ H Q => ∃ Q' : VK, t σ H Q' ∧ ∀ x H', Q' x H' → Q x H' := ⟨fun pins s σ H Q I ⟨Q', h1, h2⟩ => thn (h.run pins s σ H Q' I h1) fun v s1 ⟨x, H1, I1, r, q⟩ => ⟨x, H1, I1, r, h2 x H1 q⟩⟩
/-- how a reading begins: lock, or go on -/
theorem lock_split {g : Gx} {Z : Addr → Prop} {δ δ1 S : DS} {σ T : L2.St} {H : Hp} {fp : DS → Option (D × DS)} {ks : List (Key × D)} {w : Vw} {t : TE} {wi : TI}
    (hR : ∀ σ H (R : It → Hp → Prop), t σ H (fun x H1 => ∃ d o kvs, x = .ref d ∧ H1 d = some (.frz o (.dK kvs)) ∧ R (w.it d o kvs) H1) → wi σ H R)
    (hp : ∀ g Z δ S T σ H d δ', StV X.K g Z H δ σ S T → fp δ = some (d, δ') → ∃ v Z', StV X.K g Z' H δ' σ S T ∧ RepD X.K Z' H d v ∧ ∀ H', (∀ a o, H a = some o → dcO o = false → H' a = some o) → ∀ Q : VK, Q v H' → t σ H' Q)
    (st : StV X.K g Z H δ σ S T) (hf : fp δ = some (.dK ks, δ1)) :
    ∃ (a : Addr) (vs : List (Key × V)) (Z1 : Addr → Prop), (g.Z0 a ∨ g.G a = none) ∧
      (((∀ o, g.G a = some o → o = .dK vs) ∧ H a = some (.dK vs) ∧ ∀ od, StV X.K (g.lk a (.frz od (.dK vs))) Z1 (L2.upd H a (.frz od (.dK vs))) δ1 σ S T ∧
        ∀ Rr : It → Hp → Prop, (∀ J U W Z' H', U.length = W.length → StV X.K (g.lk a (.frz od (.dK vs))) Z' H' δ1 σ (U ++ S) (W ++ T) → ItW X.K (g.lk a (.frz od (.dK vs))) J (w.of ks) U W → Rr J H') → wi σ (L2.upd H a (.frz od (.dK vs))) Rr) ∨
      ∃ od, (∀ o, g.G a = some o → o = .frz od (.dK vs)) ∧ StV X.K (g.lk a (.frz od (.dK vs))) Z1 H δ1 σ S T ∧
        ∀ Rr : It → Hp → Prop, (∀ J U W Z' H', U.length = W.length → StV X.K (g.lk a (.frz od (.dK vs))) Z' H' δ1 σ (U ++ S) (W ++ T) → ItW X.K (g.lk a (.frz od (.dK vs))) J (w.of ks) U W → Rr J H') → wi σ H Rr) := by
  obtain ⟨v, Z1, st1, rd, k⟩ := hp g Z δ S T σ H _ δ1 st hf
  have rd' := rd
  simp only [RepD] at rd
  obtain ⟨a, vs, rfl, za, ha, rk⟩ := rd
  refine ⟨a, vs, Z1, st1.zg za, ?_⟩
  rcases ha with ha | ⟨od, ha⟩
  · refine .inl ⟨fun o e => ?_, ha, fun od => ?_⟩
    · have := st1.gh e
      rw [ha] at this
      cases this
      rfl
    · obtain ⟨st2, kp⟩ := st1.lock (od := od) (.inl ⟨vs, rfl⟩) za ha
      refine ⟨st2, fun Rr hRr => hR _ _ _ (k _ (fun b o e f => ?_) _ ⟨a, od, vs, rfl, upd_same, ?_⟩)⟩
      · rw [upd_ne fun q => by
          rw [q, ha] at e
          cases e
          cases f]
        exact e
      · exact hRr _ [some (.sh (.dK ks))] [some (.ref a)] Z1 _ rfl (st2.pushD (RepD.keep kp _ _ rd')) (itw_dict w)
  · refine .inr ⟨od, fun o e => ?_, st1.lock' za ha, fun Rr hRr => hR _ _ _ (k _ (fun b o e f => e) _ ⟨a, od, vs, rfl, ha, ?_⟩)⟩
    · have := st1.gh e
      rw [ha] at this
      cases this
      rfl
    · exact hRr _ [some (.sh (.dK ks))] [some (.ref a)] Z1 _ rfl ((st1.lock' za ha).pushD rd') (itw_dict w)
end
def xLcI (w : Vw) (fp : DS → Option (D × DS)) (gt : GF) (tt : TF) (fe : XF) (own : List Nat) : XF := fun δ => (fp δ).bind fun r => match r.1 with
  | .dK ks => if (w.of ks).length ≤ sizeLine then (lcL gt tt fe own (w.of ks) (wipeD r.2 own) []).map fun q => (.val (.lst q.1), unwD q.2 own (savD r.2 own)) else none
  | _ => none
def xDcI (w : Vw) (fp : DS → Option (D × DS)) (gt : GF) (tt : TF) (fk fv : XF) (own : List Nat) : XF := fun δ => (fp δ).bind fun r => match r.1 with
  | .dK ks => if (w.of ks).length ≤ sizeLine then (dcL gt tt fk fv own (w.of ks) (wipeD r.2 own) []).map fun q => (.val (.dK q.1), unwD q.2 own (savD r.2 own)) else none
  | _ => none
def sForI (w : Vw) (fp : DS → Option (D × DS)) (gt : GF) (body : SF) : SF := fun δ => (fp δ).bind fun r => match r.1 with
  | .dK ks => forL gt body (w.of ks) r.2
  | _ => none
section
variable {X : Cx} {M : List Nat}
theorem ve_lcI {w : Vw} {fp : DS → Option (D × DS)} {elt tg iter : Expr} {ifs : List Expr} {scope : Scope} {own : List (Str × Nat)} {pos : Pos} {L : List Nat} {gt : GF} {tt : TF} {fe : XF} (hL : (L.all fun i => (own.map (·.2)).contains i) = true)
    (hc : X.calm = true) (hN : X.N.Nodup) (hw : WkE X tg iter w fp) (ok : BlkOk X.N X.env.scope scope own)
    (hg : ∀ (s : Shared) (H : Hp) (C : Addr) (cl : List (Str × Addr)) (fp : List Addr), VG (X.blk s H scope (compEnvC scope cl C X.env) fp) L tg gt) (ht : ∀ (s : Shared) (H : Hp) (C : Addr) (cl : List (Str × Addr)) (fp : List Addr), VTs (X.blk s H scope (compEnvC scope cl C X.env) fp) ifs tt)
    (he : ∀ (s : Shared) (H : Hp) (C : Addr) (cl : List (Str × Addr)) (fp : List Addr), VE (X.blk s H scope (compEnvC scope cl C X.env) fp) elt fe) (hs : ∀ x, foldedSetIterable iter X.env x = pure x := by intro _; rfl) :
    VE X (.ListComp elt [⟨tg, iter, ifs, 0⟩] scope pos) (xLcI w fp gt tt fe (own.map (·.2))) := by
  obtain ⟨t, ⟨wi, hwi, hR⟩, hp⟩ := hw
  have base : PE X (.ListComp elt [⟨tg, iter, ifs, 0⟩] scope pos) (tLc wi (rdG X.K L gt) (rdT X.K tt) (rdE X.K fe) (own.map (·.2))) := pe_lc hc hN hwi ok hg ht he hs
  refine PEi (PE.or (pe_lock base) base) fun σ H Q ⟨g, Z, δ, S, T, r, st, hf, post⟩ => ?_
  simp only [xLcI, Option.bind_eq_some_iff] at hf
  obtain ⟨⟨d, δ1⟩, h1, h2⟩ := hf
  split at h2
  · rename_i ks q
    have q' : d = .dK ks := q
    subst q'
    obtain ⟨a, vs, Z1, hz, sp⟩ := lock_split hR hp st h1
    rcases sp with ⟨hG, hH, all⟩ | ⟨od, hG, st1, hI⟩
    · refine .inl ⟨a, _, hH, trivial, fun od => ?_⟩
      obtain ⟨st1, hI⟩ := all od
      exact lc_coreG (Z := Z1) hL hI h2 fun v Z' H' st' al => ⟨st'.lkd, post v Z' _ (st'.unlock (.inl ⟨vs, rfl⟩) hz hG) al⟩
    · exact .inr (lc_coreG (Z := Z1) hL hI h2 fun v Z' H' st' al => post v Z' H' (st'.unlock' hz hG) al)
  · cases h2
theorem ve_dcI {w : Vw} {fp : DS → Option (D × DS)} {kx vx tg iter : Expr} {ifs : List Expr} {scope : Scope} {own : List (Str × Nat)} {pos : Pos} {L : List Nat} {gt : GF} {tt : TF} {fk fv : XF} (hL : (L.all fun i => (own.map (·.2)).contains i) = true)
    (hc : X.calm = true) (hN : X.N.Nodup) (hw : WkE X tg iter w fp) (ok : BlkOk X.N X.env.scope scope own)
    (hg : ∀ (s : Shared) (H : Hp) (C : Addr) (cl : List (Str × Addr)) (fp : List Addr), VG (X.blk s H scope (compEnvC scope cl C X.env) fp) L tg gt) (ht : ∀ (s : Shared) (H : Hp) (C : Addr) (cl : List (Str × Addr)) (fp : List Addr), VTs (X.blk s H scope (compEnvC scope cl C X.env) fp) ifs tt)
    (hk : ∀ (s : Shared) (H : Hp) (C : Addr) (cl : List (Str × Addr)) (fp : List Addr), VE (X.blk s H scope (compEnvC scope cl C X.env) fp) kx fk)
    (he : ∀ (s : Shared) (H : Hp) (C : Addr) (cl : List (Str × Addr)) (fp : List Addr), VE (X.blk s H scope (compEnvC scope cl C X.env) fp) vx fv) (hs : ∀ x, foldedSetIterable iter X.env x = pure x := by intro _; rfl) :
    VE X (.DictComp kx vx [⟨tg, iter, ifs, 0⟩] scope pos) (xDcI w fp gt tt fk fv (own.map (·.2))) := by
  obtain ⟨t, ⟨wi, hwi, hR⟩, hp⟩ := hw
  have base : PE X (.DictComp kx vx [⟨tg, iter, ifs, 0⟩] scope pos) (tDc wi (rdG X.K L gt) (rdT X.K tt) (rdE X.K fk) (rdE X.K fv) (own.map (·.2))) := pe_dc hc hN hwi ok hg ht hk he hs
  refine PEi (PE.or (pe_lock base) base) fun σ H Q ⟨g, Z, δ, S, T, r, st, hf, post⟩ => ?_
  simp only [xDcI, Option.bind_eq_some_iff] at hf
  obtain ⟨⟨d, δ1⟩, h1, h2⟩ := hf
  split at h2
  · rename_i ks q
    have q' : d = .dK ks := q
    subst q'
    obtain ⟨a, vs, Z1, hz, sp⟩ := lock_split hR hp st h1
    rcases sp with ⟨hG, hH, all⟩ | ⟨od, hG, st1, hI⟩
    · refine .inl ⟨a, _, hH, trivial, fun od => ?_⟩
      obtain ⟨st1, hI⟩ := all od
      exact dc_coreG (Z := Z1) hL hI h2 fun v Z' H' st' al => ⟨st'.lkd, post v Z' _ (st'.unlock (.inl ⟨vs, rfl⟩) hz hG) al⟩
    · exact .inr (dc_coreG (Z := Z1) hL hI h2 fun v Z' H' st' al => post v Z' H' (st'.unlock' hz hG) al)
  · cases h2
theorem vs_forI {w : Vw} {fp : DS → Option (D × DS)} {L : List Nat} {tg iter : Expr} {sts : List Stmt} {gt : GF} {body : SF} {pos : Pos} (hM : (M.all fun i => !L.contains i) = true) (hps : PassesOwn (model X.prog X.w) X.A X.env X.xe) (hc : X.calm = true) (hw : WkE X tg iter w fp) (hg : VG X L tg gt) (hb : VXs X M sts body)
    (hs : ∀ x, foldedSetIterable iter X.env x = pure x := by intro _; rfl) : VX X M (.For tg iter sts [] pos) (sForI w fp gt body) := by
  obtain ⟨t, ⟨wi, hwi, hR⟩, hp⟩ := hw
  have base : PS X (.For tg iter sts [] pos) (tFor wi (rdG X.K L gt) (rdS X.K M body)) := ps_for hps hc hwi hg hb hs
  refine PSi (PS.or (ps_lock base) base) fun De σ H ⟨g, Z, δ, S, T, r, st, hf, post⟩ => ?_
  simp only [sForI, Option.bind_eq_some_iff] at hf
  obtain ⟨⟨d, δ1⟩, h1, h2⟩ := hf
  split at h2
  · rename_i ks q
    have q' : d = .dK ks := q
    subst q'
    obtain ⟨a, vs, Z1, hz, sp⟩ := lock_split hR hp st h1
    rcases sp with ⟨hG, hH, all⟩ | ⟨od, hG, st1, hI⟩
    · refine .inl ⟨a, _, hH, trivial, fun od => ?_⟩
      obtain ⟨st1, hI⟩ := all od
      refine for_coreG hM hI h2 ?_
      cases r with
      | nx δ' => exact fun σ' Z' H' st' ag => ⟨st'.lkd, post σ' Z' _ (st'.unlock (.inl ⟨vs, rfl⟩) hz hG) ag⟩
      | rt o δ' => exact fun v σ' Z' H' st' ag => ⟨st'.lkd, post v σ' Z' _ (st'.unlock (.inl ⟨vs, rfl⟩) hz hG) ag⟩
      | bk δ' => exact fun σ' Z' H' st' ag => ⟨st'.lkd, post σ' Z' _ (st'.unlock (.inl ⟨vs, rfl⟩) hz hG) ag⟩
      | ct δ' => exact fun σ' Z' H' st' ag => ⟨st'.lkd, post σ' Z' _ (st'.unlock (.inl ⟨vs, rfl⟩) hz hG) ag⟩
    · refine .inr (for_coreG hM hI h2 ?_)
      cases r with
      | nx δ' => exact fun σ' Z' H' st' ag => post σ' Z' _ (st'.unlock' hz hG) ag
      | rt o δ' => exact fun v σ' Z' H' st' ag => post v σ' Z' _ (st'.unlock' hz hG) ag
      | bk δ' => exact fun σ' Z' H' st' ag => post σ' Z' _ (st'.unlock' hz hG) ag
      | ct δ' => exact fun σ' Z' H' st' ag => post σ' Z' _ (st'.unlock' hz hG) ag
  · cases h2
end
end VS

namespace VS
open PySem PySem.Spec L2
open PySem.W (Frag)
open PyProof.Rows
/-! ### operators of an own class -/
section
variable {X : Cx} {k : Nat} {f : Addr} {fd : FuncData} {ps : List Str} {sp : Sp} {pins : List (Addr × Obj)} {σ : L2.St} {H : Hp} {s : Shared} {Q : VK} {A : Around}
theorem own_run {vs : List V} {us : List Value} (F : FnOk X.prog X.w X.K X.mg X.base CX0 k f fd ps sp) (hb : Binds X.K fd ps []) (hr : Room k A) (fr : A.frames = X.A.frames) (I : Inv X pins σ H s) (r : Vals vs us) (h : sp vs H Q E0) :
    wpAny (model X.prog X.w) A (call (.ref f) us) (EP X pins σ Q) X.xe s := by
  have e0 : Env0 X.prog X.w X.K X.mg X.base A X.stack s H := by
    have e := I.env0
    exact ⟨by rw [fr]; exact e.frames, e.mod, e.bs, e.bsz, e.funs, e.frf, e.hok, e.bare⟩
  have hl := F.len _ _ _ _ h
  refine wpAny_call (codeAny_mono (F.run A X.stack s H ⟨us, []⟩ us vs _ E0 hr e0 (by
    have := hb s us I.kIn (by simpa using (show us.length = ps.length by rw [← r.length]; exact hl))
    simpa using this) r h) fun r s' hq => ?_)
  cases r with
  | error e => exact (show False from hq).elim
  | ok fl =>
    cases fl with
    | ret w => exact I.after hq
    | next => exact False.elim hq
    | brk => exact False.elim hq
    | cont => exact False.elim hq
def insAt (H : Hp) (C : Addr) (x : V) : Prop := ∃ a dx fs, x = .ref a ∧ H a = some (.ins C dx fs)
theorem insAt.get {C : Addr} {x : V} {u : Value} (h : insAt H C x) (I : Inv X pins σ H s) (r : RelV x u) : ∃ a ox od, u = .ref a ∧ PySem.W.InstAt s.heap a ox C od := by
  obtain ⟨a, dx, fs, rfl, ha⟩ := h
  obtain ⟨mA, J, _⟩ := ins_get I.hok ha
  obtain ⟨od, J, _⟩ := J.look
  cases (show u = Value.ref a from r)
  exact ⟨a, _, _, rfl, J⟩
theorem op_eqO {C : Addr} (F : FnOk X.prog X.w X.K X.mg X.base CX0 k f fd ps sp) (hb : Binds X.K fd ps []) (hr : Room k X.A) (hs : PySem.W.findIn X.K (.ref C) "__eq__" = some (some (.ref f))) (hf : PySem.W.isFn X.K (.ref f) = true) :
    OpR X (compareOp .Eq) fun x y H Q => insAt H C x ∧ insAt H C y ∧ sp [x, y] H Q E0 := by
  intro pins s σ H x y v u Q I rx ry ⟨hx, hy, q⟩
  obtain ⟨a, ox, od, rfl, J⟩ := hx.get I rx
  obtain ⟨b, oy, oe, rfl, J'⟩ := hy.get I ry
  obtain ⟨m, hF⟩ := I.fr
  show wpAny _ _ (richCompare .Eq (.ref a) (.ref b)) _ _ _
  refine PySem.W.cmp_K (op := .Eq) (tb := .ref C) hr.units0 hF I.ok.mod.kin J J'.type (by simp [PySem.W.notFirst]) hs hf ?_
  refine wpAny_mono (own_run F hb hr rfl I (.cons rx (.cons ry .nil)) q) (fun w s' z => ?_) fun _ _ x => x
  obtain ⟨z', H', I', rz, qz⟩ := z
  exact SlX.cmpback rz ⟨z', H', I', rz, qz⟩
end
/-! object.__ne__ -/
theorem on_bind (self : Value) : bindSpecial (.builtin "object.__ne__") self = pure (.builtin "object.__ne__", [self]) :=
  (Slot.of (T := "object") (name := "__ne__") (owner := "object") (n := "__ne__") (by rw [typeLookup_type, builtinLookup_eq_fast]; kernel_rfl) (by decide +kernel) (by decide +kernel) (by decide +kernel)
    (.inl (by decide +kernel)) (by rw [isSubtype_type]; kernel_rfl)).bind self
theorem entry_on : entryFor table "object.__ne__" = some Builtin.«object.__ne__» := entryFor_of_tree (by kernel_rfl)
theorem on_plain : plainId "object.__ne__" = true := by decide +kernel
theorem on_kind : builtinKind "object.__ne__" = some .slot := by decide +kernel
theorem on_split : splitId "object.__ne__" = some ("object", "__ne__") := by decide +kernel
theorem on_args (a b : Value) : argsOk "object.__ne__" ⟨[a, b], []⟩ := by unfold argsOk; kernel_rfl
section
variable {X : Cx} {k : Nat} {f : Addr} {fd : FuncData} {ps : List Str} {sp : Sp} {pins : List (Addr × Obj)} {σ : L2.St} {H : Hp} {s : Shared} {Q : VK} {A : Around}
open PySem.W in
theorem op_neO {C : Addr} (F : FnOk X.prog X.w X.K X.mg X.base CX0 k f fd ps sp) (hb : Binds X.K fd ps []) (hr : Room (k + 1) X.A) (hs : PySem.W.findIn X.K (.ref C) "__eq__" = some (some (.ref f))) (hf : PySem.W.isFn X.K (.ref f) = true)
    (hn : PySem.W.findIn X.K (.ref C) "__ne__" = some (some (.builtin "object.__ne__"))) (hm : PySem.W.mroIn X.K C (.type "object") = some true) :
    OpR X (compareOp .NotEq) fun x y H Q => insAt H C x ∧ insAt H C y ∧ sp [x, y] H (fun v H' => ∃ b, v = .bl b ∧ Q (.bl (!b)) H') E0 := by
  intro pins s σ H x y v u Q I rx ry ⟨hx, hy, q⟩
  obtain ⟨a, ox, od, rfl, J⟩ := hx.get I rx
  obtain ⟨b, oy, oe, rfl, J'⟩ := hy.get I ry
  have Xk := I.kIn
  have one : wpAny (model X.prog X.w) X.A (tryCompare (.ref a) "__ne__" (.ref b)) (fun r s' => ∃ v, r = some v ∧ EP X pins σ Q v s') X.xe s := by
    have body : wpAny (model X.prog X.w) X.A (call (.builtin "object.__ne__") [.ref a, .ref b]) (EP X pins σ Q) X.xe s := by
      have t2 : Looks (model X.prog X.w) s.heap (isInstance (.ref a) (.type "object")) true := J.type.andThen (looks_mroIn Xk hm)
      refine wpAny_call (codeAny_call_builtin on_plain entry_on (@check_slot (model X.prog X.w) _ _ _ "object.__ne__" "object" "__ne__" (.ref a) [.ref b] [] _ on_kind on_split t2 (on_args (.ref a) (.ref b)) ?_))
      have hr1 : Room k X.A.in1 := Room.in1 hr
      show wpAny (model X.prog X.w) X.A.in1 (cRoomFor "comparison" [.ref a, .ref b] >>= fun _ => _) _ _ _
      refine wpAny_bind (wpAny_cRoomFor hr1.units0 ?_)
      refine wpAny_bind (ifBound_K Xk J hs hf ?_)
      refine wpAny_mono (own_run F hb hr1 rfl I (.cons rx (.cons ry .nil)) q) (fun w s' z => ?_) fun _ _ x => x
      obtain ⟨z', H', I', rz, bb, eb, qz⟩ := z
      subst eb
      cases (show w = Value.bool bb from rz)
      exact wpAny_bind (wpAny_truthy_bool (wpAny_pure ⟨.bl (!bb), H', I', rfl, qz⟩))
    unfold tryCompare
    refine wpAny_bind (wpAny_mono (Q := fun r s' => ∃ v, r = some v ∧ EP X pins σ Q v s') ?_ (fun r s' z => ?_) fun _ _ x => x)
    · simp only [callSpecialIfBound?, bindSpecialIfBound?]
      refine wpAny_holding (wpAny_bind (wpAny_bind (wpAny_bind (J.type.here ((looks_findIn Xk hn).here ?_)))))
      refine wpAny_bind (wpAny_askSetting (wpAny_ite ?_))
      have fin : wpAny (model X.prog X.w) X.A (call (.builtin "object.__ne__") ([.ref a] ++ [.ref b]) >>= fun v => pure (some v)) (fun r s' => ∃ v, r = some v ∧ EP X pins σ Q v s') X.xe s := wpAny_bind (wpAny_mono body (fun v s' h' => wpAny_pure ⟨v, rfl, h'⟩) fun _ _ h' => h')
      rw [on_bind]
      split
      · exact wpAny_bind (wpAny_pure (wpAny_pure (by exact fin)))
      · exact wpAny_tryCatch (wpAny_bind (wpAny_pure (wpAny_pure (by exact fin))))
    · obtain ⟨v, rfl, hv⟩ := z
      obtain ⟨z', H', I', rz, qz⟩ := hv
      have nb : v ≠ .notImplemented := by
        intro e
        subst e
        cases z' <;> first | (obtain ⟨t, e⟩ := rz; cases e; done) | cases rz
      split
      · rename_i e
        exact absurd (Option.some.inj e) nb
      · rename_i e
        cases e
      · rename_i w _ e
        cases e
        exact wpAny_pure ⟨_, rfl, z', H', I', rz, qz⟩
  show wpAny _ _ (richCompare .NotEq (.ref a) (.ref b)) _ _ _
  unfold richCompare
  simp only [oneThing_ref]
  refine wpAny_holding (wpAny_bind (wpAny_cRoomFor (Room.units0 hr) ?_))
  refine wpAny_bind (J.type.here (wpAny_bind (J'.type.here ?_)))
  simp only [bne_self_eq_false, Bool.false_eq_true, if_false]
  refine wpAny_bind (wpAny_pure ?_)
  simp only [Bool.false_eq_true, if_false]
  refine wpAny_bind (wpAny_mono one (fun r s' z => ?_) fun _ _ e => e)
  obtain ⟨v, rfl, hq⟩ := z
  exact wpAny_pure hq
end
section
variable {X : Cx} {k : Nat} {f : Addr} {fd : FuncData} {ps : List Str} {sp : Sp} {pins : List (Addr × Obj)} {σ : L2.St} {H : Hp} {s : Shared} {Q : VK} {A : Around}
theorem op_inO {C : Addr} (F : FnOk X.prog X.w X.K X.mg X.base CX0 k f fd ps sp) (hb : Binds X.K fd ps []) (hr : Room k X.A) (hs : PySem.W.findIn X.K (.ref C) "__contains__" = some (some (.ref f))) (hf : PySem.W.isFn X.K (.ref f) = true) :
    OpR X (compareOp .In) fun x y H Q => insAt H C y ∧ sp [y, x] H (fun v H' => ∃ b, v = .bl b ∧ Q (.bl b) H') E0 := by
  intro pins s σ H x y v u Q I rx ry ⟨hy, q⟩
  obtain ⟨b, oy, oe, rfl, J⟩ := hy.get I ry
  obtain ⟨m, hF⟩ := I.fr
  refine PySem.W.in_K hF I.ok.mod.kin J hs hf (wpAny_mono (own_run F hb hr rfl I (.cons ry (.cons rx .nil)) q) (fun w s' z => ?_) fun _ _ x => x)
  obtain ⟨z', H', I', rz, bb, eb, qz⟩ := z
  subst eb
  cases (show w = Value.bool bb from rz)
  exact wpAny_truthy_bool ⟨.bl bb, H', I', rfl, qz⟩
theorem op_ninO {C : Addr} (F : FnOk X.prog X.w X.K X.mg X.base CX0 k f fd ps sp) (hb : Binds X.K fd ps []) (hr : Room k X.A) (hs : PySem.W.findIn X.K (.ref C) "__contains__" = some (some (.ref f))) (hf : PySem.W.isFn X.K (.ref f) = true) :
    OpR X (compareOp .NotIn) fun x y H Q => insAt H C y ∧ sp [y, x] H (fun v H' => ∃ b, v = .bl b ∧ Q (.bl (!b)) H') E0 := by
  intro pins s σ H x y v u Q I rx ry ⟨hy, q⟩
  obtain ⟨b, oy, oe, rfl, J⟩ := hy.get I ry
  obtain ⟨m, hF⟩ := I.fr
  refine PySem.W.notIn_K hF I.ok.mod.kin J hs hf (wpAny_mono (own_run F hb hr rfl I (.cons ry (.cons rx .nil)) q) (fun w s' z => ?_) fun _ _ x => x)
  obtain ⟨z', H', I', rz, bb, eb, qz⟩ := z
  subst eb
  cases (show w = Value.bool bb from rz)
  exact wpAny_truthy_bool ⟨.bl (!bb), H', I', rfl, qz⟩
theorem pe_ixO {C : Addr} {a b : Expr} {ta tb : TE} {pos : Pos} (F : FnOk X.prog X.w X.K X.mg X.base CX0 k f fd ps sp) (hb : Binds X.K fd ps []) (hr : Room (k + 1) X.A) (hs : PySem.W.findIn X.K (.ref C) "__getitem__" = some (some (.ref f))) (hf : PySem.W.isFn X.K (.ref f) = true) (hfn : PySem.W.fnIn X.K f = true)
    (ha : PE X a ta) (hbb : PE X b tb) (hsl : ∀ v i, subscripted b true v i = runValue (.builtin "lifetime.subscript" ⟨[v, i], []⟩)) :
    PE X (.Subscript a b pos) (tOp (fun x y H Q => insAt H C x ∧ sp [x, y] H Q E0) ta tb) := by
  refine ⟨fun pins s σ H Q I h => ?_⟩
  refine Subscript_ (binT ha hbb I h fun v u s2 x y H2 I2 rx ry q => ?_)
  obtain ⟨hx, q⟩ := q
  obtain ⟨a, ox, od, rfl, J⟩ := hx.get I2 rx
  obtain ⟨m, hF⟩ := I2.fr
  exact PySem.W.sub_K hF I2.ok.mod.kin J hs hfn hf (own_run F hb (Room.in1 hr) rfl I2 (.cons rx (.cons ry .nil)) q) (hsl _ _)
theorem op_binO {C : Addr} {op : Operator} (F : FnOk X.prog X.w X.K X.mg X.base CX0 k f fd ps sp) (hb : Binds X.K fd ps []) (hr : Room k X.A) (hs : PySem.W.findIn X.K (.ref C) (PySem.dunder op.info.2) = some (some (.ref f))) (hf : PySem.W.isFn X.K (.ref f) = true)
    (hc : PySem.W.selfFirst X.K C = true) : OpR X (binaryOp op) fun x y H Q => insAt H C x ∧ insAt H C y ∧ sp [x, y] H Q E0 := by
  intro pins s σ H x y v u Q I rx ry ⟨hx, hy, q⟩
  obtain ⟨a, ox, od, rfl, J⟩ := hx.get I rx
  obtain ⟨b, oy, oe, rfl, J'⟩ := hy.get I ry
  obtain ⟨m, hF⟩ := I.fr
  refine PySem.W.binop_K hF I.ok.mod.kin J J'.type hc hs hf ?_
  refine wpAny_mono (own_run F hb hr rfl I (.cons rx (.cons ry .nil)) q) (fun w s' z => ?_) fun _ _ x => x
  obtain ⟨z', H', I', rz, qz⟩ := z
  exact SlX.cmpback rz ⟨z', H', I', rz, qz⟩
end
/-! engine -/
def isO (c : Str) : O → Bool
  | .sh (.obj c' _) => decide (c' = c)
  | .obj c' _ => decide (c' = c)
  | _ => false
/-- a op b by a def of the class c; sw: the second one is the receiver -/
def xO2 (k1 k2 : O → Bool) (F : FF) (po : O → Option O) (sw : Bool) (fa fb : XF) : XF := fun δ => (fa δ).bind fun r1 => (tk r1.2 r1.1).bind fun t1 => (fb t1.2).bind fun r2 => (tk r2.2 r2.1).bind fun t2 =>
  if k1 t1.1 && k2 t2.1 then (F (if sw then [t2.1, t1.1] else [t1.1, t2.1])).bind fun r3 => if r3.2.length = 2 then (po r3.1).map fun o => (.val o, t2.2) else none else none
def yes : O → Bool := fun _ => true
def poB : O → Option O
  | .sh (.bl b) => some (.sh (.bl b))
  | _ => none
def poN : O → Option O
  | .sh (.bl b) => some (.sh (.bl (!b)))
  | _ => none
section
variable {K : PySem.W.Frag} {g : Gx} {Z Z' : Addr → Prop} {H H' : Hp} {δ S U : DS} {σ T W : L2.St} {o : O} {v : V}
theorem RepO.ins {c : Str} {F : List Addr} (h : RepO K Z H o v F) (e : isO c o = true) : insAt H (He.ga K c) v := by
  cases o <;> simp only [isO, Bool.false_eq_true] at e
  · rename_i d
    cases d <;> simp only [isO, Bool.false_eq_true, decide_eq_true_eq] at e
    subst e
    simp only [RepO, RepD] at h
    obtain ⟨_, a, dx, vs, rfl, _, ha, _⟩ := h
    exact ⟨a, dx, vs, rfl, ha⟩
  · simp only [decide_eq_true_eq] at e
    subst e
    simp only [RepO] at h
    obtain ⟨a, dx, vs, G, rfl, _, ha, _⟩ := h
    exact ⟨a, dx, vs, rfl, ha⟩
theorem StV.swap {x y : Option O} {p q : Option V} (s : StV K g Z H δ σ (x :: y :: S) (p :: q :: T)) : StV K g Z H δ σ (y :: x :: S) (q :: p :: T) := by
  obtain ⟨Fs, Ft, h1, ⟨y1, r1, F1, F2, e1, f1, h2, ⟨y2, r2, F3, F4, e2, f2, h3, h4⟩⟩, w⟩ := s
  cases e1
  cases e2
  subst f1 f2
  refine ⟨Fs, F3 ++ (F1 ++ F4), h1, ⟨_, _, F3, F1 ++ F4, rfl, rfl, h3, ⟨_, _, F1, F4, rfl, rfl, h2, h4⟩⟩, w.perm ?_⟩
  refine List.Perm.append_left _ ?_
  rw [← List.append_assoc, ← List.append_assoc]
  exact List.Perm.append_right _ List.perm_append_comm
end
section
variable {X : Cx} {fa fb : XF} {k1 k2 : O → Bool} {F : FF} {po : O → Option O} {sw : Bool}
theorem call2 {K : Frag} {g : Gx} {Z : Addr → Prop} {H : Hp} {δ S : DS} {σ T : L2.St} {o1 o2 r : O} {x y : V} {fin : DS} {Q : VK} (s : StV K g Z H δ σ (some o2 :: some o1 :: S) (some y :: some x :: T)) (hF : F (if sw then [o2, o1] else [o1, o2]) = some (r, fin)) (hl : fin.length = 2)
    (post : ∀ v Z' H', StV K g Z' H' δ σ (some r :: S) (some v :: T) → Q v H') : spV K 2 F (if sw then [y, x] else [x, y]) H Q E0 := by
  have go : ∀ (p q : O) (u w : V), StV K g Z H δ σ (some q :: some p :: S) (some w :: some u :: T) → F [p, q] = some (r, fin) → spV K 2 F [u, w] H Q E0 := fun p q u w st hf =>
    call_coreM (os := [p, q]) (vs := [u, w]) (by simpa [vtmps] using st) rfl hf hl rfl fun v Z' H' st' => post v Z' H' (st'.popN (by rw [hl]; rfl))
  cases sw with
  | true => exact go o2 o1 y x s.swap hF
  | false => exact go o1 o2 x y s hF
theorem o2_core {r : R2} {Wr : VK → VK} {σ : L2.St} {H : Hp} {Q : VK}
    (hr : ∀ x y H Q, (∃ Z o1 o2 F1 F2, k1 o1 = true ∧ k2 o2 = true ∧ RepO X.K Z H o1 x F1 ∧ RepO X.K Z H o2 y F2) → spV X.K 2 F (if sw then [y, x] else [x, y]) H (Wr Q) E0 → r x y H Q)
    (hW : ∀ (Q : VK) g Z H δ σ S T (o o' : O) v, StV X.K g Z H δ σ (some o :: S) (some v :: T) → po o = some o' → (∀ v', StV X.K g Z H δ σ (some o' :: S) (some v' :: T) → Q v' H) → Wr Q v H)
    (h : rdE X.K (xO2 k1 k2 F po sw fa fb) σ H Q) : tOp r (rdE X.K fa) (rdE X.K fb) σ H Q := by
  obtain ⟨g, Z, δ, S, T, rr, st, hf, post⟩ := h
  simp only [xO2, Option.bind_eq_some_iff] at hf
  obtain ⟨⟨ea, δ1⟩, h1, ⟨o1, δ2⟩, h2, ⟨eb, δ3⟩, h3, ⟨o2, δ4⟩, h4, h5⟩ := hf
  split at h5
  · rename_i hk
    obtain ⟨hk1, hk2⟩ : k1 o1 = true ∧ k2 o2 = true := by simpa using hk
    obtain ⟨⟨r0, fin⟩, h6, h7⟩ := Option.bind_eq_some_iff.mp h5
    split at h7
    · rename_i hl
      obtain ⟨o', h8, h9⟩ := Option.map_eq_some_iff.mp h7
      subst h9
      refine ⟨g, Z, δ, S, T, _, st, h1, fun x Z1 H1 st1 al1 => ?_⟩
      obtain ⟨Z2, st2, _⟩ := st1.tk al1 h2
      refine ⟨g, Z2, δ2, _, _, _, st2, h3, fun y Z3 H3 st3 al3 => ?_⟩
      obtain ⟨Z4, st4, _⟩ := st3.tk al3 h4
      obtain ⟨F2, ro2⟩ := st4.top
      obtain ⟨F1, ro1⟩ := st4.pop.top
      exact hr x y H3 Q ⟨Z4, o1, o2, F1, F2, hk1, hk2, ro1, ro2⟩ (call2 st4 h6 hl fun v Z' H' st5 => hW Q _ _ _ _ _ _ _ _ _ _ st5 h8 fun v' st6 => post v' Z' H' st6 trivial)
    · cases h7
  · cases h5
def WrB (m : Bool → Bool) : VK → VK := fun Q v H' => ∃ b, v = .bl b ∧ Q (.bl (m b)) H'
theorem wr_id {K : Frag} (Q : VK) (g : Gx) (Z : Addr → Prop) (H : Hp) (δ : DS) (σ : L2.St) (S : DS) (T : L2.St) (o o' : O) (v : V) (st : StV K g Z H δ σ (some o :: S) (some v :: T)) (h : (some o : Option O) = some o') (q : ∀ v', StV K g Z H δ σ (some o' :: S) (some v' :: T) → Q v' H) : (fun Q : VK => Q) Q v H := by
  cases h
  exact q v st
theorem wr_B {K : Frag} (Q : VK) (g : Gx) (Z : Addr → Prop) (H : Hp) (δ : DS) (σ : L2.St) (S : DS) (T : L2.St) (o o' : O) (v : V) (st : StV K g Z H δ σ (some o :: S) (some v :: T)) (h : poB o = some o') (q : ∀ v', StV K g Z H δ σ (some o' :: S) (some v' :: T) → Q v' H) : WrB (fun b => b) Q v H := by
  unfold poB at h
  split at h
  · rename_i b
    cases h
    have e : v = .bl b := by simpa only [RepD] using topD st
    exact ⟨b, e, by rw [← e]; exact q v st⟩
  · cases h
theorem wr_N {K : Frag} (Q : VK) (g : Gx) (Z : Addr → Prop) (H : Hp) (δ : DS) (σ : L2.St) (S : DS) (T : L2.St) (o o' : O) (v : V) (st : StV K g Z H δ σ (some o :: S) (some v :: T)) (h : poN o = some o') (q : ∀ v', StV K g Z H δ σ (some o' :: S) (some v' :: T) → Q v' H) : WrB (fun b => !b) Q v H := by
  unfold poN at h
  split at h
  · rename_i b
    cases h
    have e : v = .bl b := by simpa only [RepD] using topD st
    exact ⟨b, e, q (.bl (!b)) (st.pop.push Res.bl)⟩
  · cases h
end
/-- what the class c has: == and the other operators -/
structure OpF (K : Frag) (c m : Str) (f : Addr) : Prop where
  at_ : PySem.W.findIn K (.ref (He.ga K c)) m = some (some (.ref f))
  fn : PySem.W.isFn K (.ref f) = true
section
variable {X : Cx} {fa fb : XF} {F : FF} {a b : Expr} {pos : Pos} {c : Str} {k : Nat} {f : Addr} {fd : FuncData} {ps : List Str}
theorem ve_eqO (G : FnOk X.prog X.w X.K X.mg X.base CX0 k f fd ps (spV X.K 2 F)) (hb : Binds X.K fd ps []) (hr : Room k X.A) (o : OpF X.K c "__eq__" f) (ha : VE X a fa) (hbb : VE X b fb) (hm : behindInMarks .Eq b = false) :
    VE X (.Compare a [.Eq] [b] pos) (xO2 (isO c) (isO c) F some false fa fb) := PEi (pe_cmpR (op_eqO G hb hr o.at_ o.fn) ha hbb hm) fun σ H Q h =>
  o2_core (Wr := fun Q => Q) (fun x y H Q ⟨Z, o1, o2, F1, F2, h1, h2, r1, r2⟩ q => ⟨r1.ins h1, r2.ins h2, q⟩) wr_id h
theorem ve_neO (G : FnOk X.prog X.w X.K X.mg X.base CX0 k f fd ps (spV X.K 2 F)) (hb : Binds X.K fd ps []) (hr : Room (k + 1) X.A) (o : OpF X.K c "__eq__" f) (hn : PySem.W.findIn X.K (.ref (He.ga X.K c)) "__ne__" = some (some (.builtin "object.__ne__"))) (hob : PySem.W.mroIn X.K (He.ga X.K c) (.type "object") = some true)
    (ha : VE X a fa) (hbb : VE X b fb) (hm : behindInMarks .NotEq b = false) :
    VE X (.Compare a [.NotEq] [b] pos) (xO2 (isO c) (isO c) F poN false fa fb) := PEi (pe_cmpR (op_neO G hb hr o.at_ o.fn hn hob) ha hbb hm) fun σ H Q h =>
  o2_core (Wr := WrB fun b => !b) (fun x y H Q ⟨Z, o1, o2, F1, F2, h1, h2, r1, r2⟩ q => ⟨r1.ins h1, r2.ins h2, q⟩) wr_N h
theorem ve_inO (G : FnOk X.prog X.w X.K X.mg X.base CX0 k f fd ps (spV X.K 2 F)) (hb : Binds X.K fd ps []) (hr : Room k X.A) (o : OpF X.K c "__contains__" f) (ha : VE X a fa) (hbb : VE X b fb) (hm : behindInMarks .In b = false) :
    VE X (.Compare a [.In] [b] pos) (xO2 yes (isO c) F poB true fa fb) := PEi (pe_cmpR (op_inO G hb hr o.at_ o.fn) ha hbb hm) fun σ H Q h =>
  o2_core (Wr := WrB fun b => b) (fun x y H Q ⟨Z, o1, o2, F1, F2, h1, h2, r1, r2⟩ q => ⟨r2.ins h2, q⟩) wr_B h
theorem ve_ninO (G : FnOk X.prog X.w X.K X.mg X.base CX0 k f fd ps (spV X.K 2 F)) (hb : Binds X.K fd ps []) (hr : Room k X.A) (o : OpF X.K c "__contains__" f) (ha : VE X a fa) (hbb : VE X b fb) (hm : behindInMarks .NotIn b = false) :
    VE X (.Compare a [.NotIn] [b] pos) (xO2 yes (isO c) F poN true fa fb) := PEi (pe_cmpR (op_ninO G hb hr o.at_ o.fn) ha hbb hm) fun σ H Q h =>
  o2_core (Wr := WrB fun b => !b) (fun x y H Q ⟨Z, o1, o2, F1, F2, h1, h2, r1, r2⟩ q => ⟨r2.ins h2, q⟩) wr_N h
theorem ve_ixO (G : FnOk X.prog X.w X.K X.mg X.base CX0 k f fd ps (spV X.K 2 F)) (hb : Binds X.K fd ps []) (hr : Room (k + 1) X.A) (o : OpF X.K c "__getitem__" f) (hfn : PySem.W.fnIn X.K f = true) (ha : VE X a fa) (hbb : VE X b fb)
    (hsl : ∀ v i, subscripted b true v i = runValue (.builtin "lifetime.subscript" ⟨[v, i], []⟩) := by intro _ _; with_unfolding_all rfl) :
    VE X (.Subscript a b pos) (xO2 (isO c) yes F some false fa fb) := PEi (pe_ixO G hb hr o.at_ o.fn hfn ha hbb hsl) fun σ H Q h =>
  o2_core (Wr := fun Q => Q) (fun x y H Q ⟨Z, o1, o2, F1, F2, h1, h2, r1, r2⟩ q => ⟨r1.ins h1, q⟩) wr_id h
theorem ve_addO (G : FnOk X.prog X.w X.K X.mg X.base CX0 k f fd ps (spV X.K 2 F)) (hb : Binds X.K fd ps []) (hr : Room k X.A) (o : OpF X.K c "__add__" f) (hc : PySem.W.selfFirst X.K (He.ga X.K c) = true) (ha : VE X a fa) (hbb : VE X b fb) :
    VE X (.BinOp a .Add b pos) (xO2 (isO c) (isO c) F some false fa fb) := PEi (pe_op (op_binO G hb hr o.at_ o.fn hc) ha hbb) fun σ H Q h =>
  o2_core (Wr := fun Q => Q) (fun x y H Q ⟨Z, o1, o2, F1, F2, h1, h2, r1, r2⟩ q => ⟨r1.ins h1, r2.ins h2, q⟩) wr_id h
end
/-! isinstance(e, C), C an own class -/
def tyAll : List String := ["NoneType", "bool", "int", "str", "tuple", "list", "dict"]
structure IsiF (K : Frag) (c : Str) : Prop where
  cl : Cls K (He.ga K c)
  ha : PySem.W.findIn K (.ref (He.ga K c)) "__class__" = some (some (.builtin "object.__class__"))
  hn : PySem.W.specialIn K (.builtin "object.__class__") "__get__" = some (some (.builtin "getset_descriptor.__get__"))
  htk : PySem.W.takesIn K (.builtin "object.__class__") = some true
  hm : PySem.W.mroIn K (He.ga K c) (.type "object") = some true
  ty : ∀ t ∈ tyAll, PySem.W.kitOne K (.type t) (.ref (He.ga K c)) = some false
def D.tyS' : D → Option String
  | .dT _ => none
  | d => D.tyS d
def isiO (c : Str) : D → Option O
  | .obj c' _ => if c' = c then some (.sh (.bl true)) else none
  | d => (D.tyS d).map fun _ => .sh (.bl false)
theorem D.tyS_mem {d : D} {t : String} (h : D.tyS d = some t) : t ∈ tyAll := by
  cases d <;> simp only [D.tyS, reduceCtorEq, Option.some.injEq] at h <;> subst h <;> simp [tyAll]
section
variable {X : Cx} {p p2 pos : Pos} {e : Expr} {fe : XF} {Tn c : Str}
theorem ve_isiO (If : IsiF X.K c) (hg : Gl X "isinstance") (hm : X.mg "isinstance" = none) (hgT : Gl X Tn) (hmT : X.mg Tn = some (.ref (He.ga X.K c))) (he : VE X e fe) (hdT : (Tn == ("__debug__" : Str)) = false := by decide)
    (hs : starEach [e, .Name Tn p2] X.env = (false, eval e X.env) :: starEach [.Name Tn p2] X.env := by rfl) (hs2 : starEach [.Name Tn p2] X.env = [(false, eval (.Name Tn p2) X.env)] := by rfl) (hpl : (backTo pos (starEach [.Name Tn p2] X.env)).any (·.1) = false := by rfl) :
    VE X (.Call (.Name "isinstance" p) [e, .Name Tn p2] [] pos) (x1 (isiO c) fe) :=
  PEi (pe_callB call_isi hg hm (by decide +kernel) (pa_cons he (pa_cons (pe_glob (v := .ref (He.ga X.K c)) hgT hmT rfl hdT) pa_nil hs2) hs) (by decide) (by decide) hs hpl) fun σ H Q ⟨g, Z, δ, S, T', r, st, hf, post⟩ => by
    simp only [x1, Option.bind_eq_some_iff, Option.map_eq_some_iff] at hf
    obtain ⟨⟨ev, δ1⟩, h1, d, h2, o, h3, rfl⟩ := hf
    refine ⟨g, Z, δ, S, T', _, st, h1, fun v Z1 H1 st1 al1 => ?_⟩
    have lk := st1.lk al1 h2
    show rIsi X.K [v, .ref (He.ga X.K c)] H1 Q
    have prim : (D.tyS d).map (fun _ => O.sh (.bl false)) = some o → rIsi X.K [v, .ref (He.ga X.K c)] H1 Q := fun h3 => by
      obtain ⟨t, h4, rfl⟩ := Option.map_eq_some_iff.mp h3
      exact ⟨v, _, _, _, false, rfl, .own _, lk.ty h4, If.ty t (D.tyS_mem h4), post _ Z1 H1 (st1.pop.push Res.bl) trivial⟩
    cases d with
    | obj c' fs =>
      simp only [isiO] at h3
      split at h3
      · rename_i ec
        subst ec
        cases h3
        obtain ⟨a, dx, vs, rfl, ha⟩ := lk
        exact ⟨_, _, _, _, true, rfl, .own _, .base (.ins ha If.cl If.ha If.hn If.htk If.hm), by unfold PySem.W.kitOne; rw [if_pos (by simp)], post _ Z1 H1 (st1.pop.push Res.bl) trivial⟩
      · cases h3
    | _ => exact prim h3
end
end VS

namespace VS
open PySem PySem.Spec L2 He
open PySem.W (Frag)
/-! ### a hook with further facts -/
abbrev AlX : Type := Bool × AlD
def obsX (ex : List (Frag → Bool)) (fa : List Fa) (fn : List DefD) (K : Frag) : AlX := (ex.all fun f => f K, obsD fa fn K)
def SaysX (ex : List (Frag → Bool)) (fa : List Fa) (fn : List DefD) (K : Frag) : Prop := obsX ex fa fn K = (true, valD fn)
def obsXG (n : Nat) (ex : List (Frag → Bool)) (fa : List Fa) (fn : List DefD) (g : Addr → Option Obj) : AlX := obsX ex fa fn (frG g (asD g n))
def hookX (n : Nat) (ex : List (Frag → Bool)) (fa : List Fa) (fn : List DefD) : PySem.W.Hook where
  α := AlX
  obs := fun s => obsXG n ex fa fn s.heap.get?
  val := fun _ => (true, valD fn)
  says := fun _ h => ∃ K : Frag, K.In h ∧ SaysX ex fa fn K
  of := fun _ _ e => ⟨_, frG_in, e⟩
  keeps := fun _ _ _ ⟨K, hK, c⟩ k => ⟨K, PySem.W.Frag.In.keeps hK k, c⟩
theorem obsXG_eq {n : Nat} {ex : List (Frag → Bool)} {fa : List Fa} {fn : List DefD} {g : Addr → Option Obj} {s : Shared} (h : ∀ a, g a = s.heap.get? a) : obsXG n ex fa fn g = (hookX n ex fa fn).obs s := by
  have e : g = s.heap.get? := funext h
  rw [e] <;> rfl
section
variable {ex : List (Frag → Bool)} {fa : List Fa} {fn : List DefD} {K : Frag}
theorem SaysX.d (c : SaysX ex fa fn K) : SaysD fa fn K := congrArg (fun z : AlX => z.2) c
theorem SaysX.x (c : SaysX ex fa fn K) (i : Nat) {f : Frag → Bool} (h : ex[i]? = some f := by rfl) : f K = true := by
  have c1 : (ex.all fun f => f K) = true := congrArg (fun z : AlX => z.1) c
  exact List.all_eq_true.mp c1 f (List.mem_of_getElem? h)
end
/-- isinstance -/
def exIsi (c : Str) (K : Frag) : Bool := eqO (PySem.W.findIn K (.ref (ga K c)) "__class__") (some (some (.builtin "object.__class__"))) &&
  (eqO (PySem.W.specialIn K (.builtin "object.__class__") "__get__") (some (some (.builtin "getset_descriptor.__get__"))) &&
  (decide (PySem.W.takesIn K (.builtin "object.__class__") = some true) && (decide (PySem.W.mroIn K (ga K c) (.type "object") = some true) && tyAll.all fun t => decide (PySem.W.kitOne K (.type t) (.ref (ga K c)) = some false))))
theorem exIsi_ok {c : Str} {K : Frag} (cl : Cls K (ga K c)) (h : exIsi c K = true) : IsiF K c := by
  obtain ⟨h1, h⟩ := ba h
  obtain ⟨h2, h⟩ := ba h
  obtain ⟨h3, h⟩ := ba h
  obtain ⟨h4, h5⟩ := ba h
  exact ⟨cl, eqO_ok h1, eqO_ok h2, of_decide_eq_true h3, of_decide_eq_true h4, fun t ht => of_decide_eq_true (List.all_eq_true.mp h5 t ht)⟩
/-- != is the inherited one -/
def exNe (c : Str) (K : Frag) : Bool := eqO (PySem.W.findIn K (.ref (ga K c)) "__ne__") (some (some (.builtin "object.__ne__")))
theorem exNe_ok {c : Str} {K : Frag} (h : exNe c K = true) : PySem.W.findIn K (.ref (ga K c)) "__ne__" = some (some (.builtin "object.__ne__")) := eqO_ok h
def exFn (c m : Str) (K : Frag) : Bool := PySem.W.fnIn K (ma K (ga K c) m)
def exSelf (c : Str) (K : Frag) : Bool := PySem.W.selfFirst K (ga K c)
/-- an operator's def -/
theorem opF_of {c m : Str} {K : Frag} (h : (Fa.meth c m).ok K = true) : OpF K c m (ma K (ga K c) m) := by
  obtain ⟨h1, h2⟩ := ba (show (eqO (PySem.W.findIn K (.ref (ga K c)) m) (some (some (.ref (ma K (ga K c) m)))) && (PySem.W.isFn K (.ref (ma K (ga K c) m)) && PySem.W.keepIn K (.ref (ma K (ga K c) m)))) = true from h)
  exact ⟨eqO_ok h1, (ba h2).1⟩
end VS

namespace VS
open PySem PySem.Spec L2 He
open PySem.W (Frag)
/-! ### facts and defs, as the walk asks for them -/
structure Fx (ex : List (Frag → Bool)) (fa : List Fa) (fn : List DefD) (K : Frag) (mg : Str → Option Value) : Prop where
  s : SaysX ex fa fn K
  X : ∃ h : Heap, K.In h ∧ h.Ns mainGlobals mg
section
variable {ex : List (Frag → Bool)} {fa : List Fa} {fn : List DefD} {K : Frag} {mg : Str → Option Value} (c : Fx ex fa fn K mg)
include c
theorem Fx.glo (i : Nat) {x : Str} (h : fa[i]? = some (.glo x) := by rfl) : mg x = some (.ref (ga K x)) := let ⟨_, X, G⟩ := c.X; glo_ok X G (c.s.d.fact i h)
theorem Fx.free (i : Nat) {x : Str} (h : fa[i]? = some (.free x) := by rfl) : mg x = none := let ⟨_, X, G⟩ := c.X; free_ok X G (c.s.d.fact i h)
theorem Fx.int (i : Nat) {x : Str} {n : Int} (h : fa[i]? = some (.int x n) := by rfl) : ∃ t, mg x = some (.int n t) := let ⟨_, X, G⟩ := c.X; int_ok X G (c.s.d.fact i h)
theorem Fx.str (i : Nat) {x z : Str} (h : fa[i]? = some (.str x z) := by rfl) : ∃ t, mg x = some (.str z t) := let ⟨_, X, G⟩ := c.X; str_ok X G (c.s.d.fact i h)
theorem Fx.cls (i : Nat) {x : Str} (h : fa[i]? = some (.cls x) := by rfl) : Cls K (ga K x) := cls_ok (c.s.d.fact i h)
theorem Fx.noat (i : Nat) {x f : Str} (h : fa[i]? = some (.noat x f) := by rfl) : NoAttr K (ga K x) f := noat_ok (c.s.d.fact i h)
theorem Fx.meth (i : Nat) {x m : Str} (h : fa[i]? = some (.meth x m) := by rfl) : Meth K (ga K x) m (ma K (ga K x) m) := meth_ok (c.s.d.fact i h)
theorem Fx.mkr (i : Nat) {x : Str} (h : fa[i]? = some (.mkr x) := by rfl) : Mk K (ga K x) (ma K (ga K x) "__init__") := mkr_ok (c.s.d.fact i h)
theorem Fx.opf (i : Nat) {x m : Str} (h : fa[i]? = some (.meth x m) := by rfl) : OpF K x m (ma K (ga K x) m) := opF_of (c.s.d.fact i h)
theorem Fx.isi (i : Nat) {x : Str} (cl : Cls K (ga K x)) (h : ex[i]? = some (exIsi x) := by rfl) : IsiF K x := exIsi_ok cl (c.s.x i h)
theorem Fx.ne (i : Nat) {x : Str} (h : ex[i]? = some (exNe x) := by rfl) : PySem.W.findIn K (.ref (ga K x)) "__ne__" = some (some (.builtin "object.__ne__")) := exNe_ok (c.s.x i h)
theorem Fx.fni (i : Nat) {x m : Str} (h : ex[i]? = some (exFn x m) := by rfl) : PySem.W.fnIn K (ma K (ga K x) m) = true := c.s.x i h
theorem Fx.self (i : Nat) {x : Str} (h : ex[i]? = some (exSelf x) := by rfl) : PySem.W.selfFirst K (ga K x) = true := c.s.x i h
end
/-- a def, for its callers -/
def FnP (P : Program) (w : World) (K : Frag) (mg : Str → Option Value) (base : Heap) (k : Nat) (f : Addr) (n : Nat) (F : FF) : Prop := ∃ fd ps, FnOk P w K mg base CX0 k f fd ps (spV K n F) ∧ Binds K fd ps [] ∧ PySem.W.keepIn K (.ref f) = true
section
variable {X : Cx} {x m : Str} {p pos apos : Pos} {e o a b : Expr} {es : List Expr} {k n : Nat} {f : Addr} {F : FF} {fs : AF} {fb : BF} {fo fa fb' : XF} {c : Str}
theorem ve_callF (G : FnP X.prog X.w X.K X.mg X.base k f n F) (hn : ∀ δ r, fs δ = some r → r.1.length = n) (hr : Room k X.A) (hg : Gl X x) (hm : X.mg x = some (.ref f))
    (ha : VA X (e :: es) fs) (hdb : (x == ("__debug__" : Str)) = false := by decide) (he : starEach (e :: es) X.env = (false, eval e X.env) :: starEach es X.env := by rfl) (hpl : (backTo pos (starEach es X.env)).any (·.1) = false := by rfl) :
    VE X (.Call (.Name x p) (e :: es) [] pos) (xCall F fs) := let ⟨fd, ps, G, B, kp⟩ := G; ve_call G hn hr hg hm kp B ha hdb he hpl
theorem ve_methF {pl : Sem Bool} (G : FnP X.prog X.w X.K X.mg X.base k f n F) (cl : Cls X.K (ga X.K c)) (hm : Meth X.K (ga X.K c) m f) (hn : ∀ δ r, fs δ = some r → r.1.length + 1 = n) (hr : Room k X.A) (he : VE X o fo) (ha : VA X (e :: es) fs)
    (hst : starEach (e :: es) X.env = (false, eval e X.env) :: starEach es X.env := by rfl) (hpl : (backTo pos (starEach es X.env)).any (·.1) = false := by rfl)
    (ht : eval (.Call (.Attribute o m apos) (e :: es) [] pos) X.env = (do
      let ov ← eval o X.env
      standAt apos.atName
      let (f, first) ← holding [ov] (getMethod ov m pl)
      callWith pos f first (backTo pos (starEach (e :: es) X.env)) (backToKw pos (keywordEach [] X.env))) := by rfl) :
    VE X (.Call (.Attribute o m apos) (e :: es) [] pos) (xMeth c m F fo fs) := let ⟨fd, ps, G, B, kp⟩ := G; ve_meth cl hm G hn hr B he ha hst hpl ht
theorem ve_methF0 {pl : Sem Bool} (G : FnP X.prog X.w X.K X.mg X.base k f 1 F) (cl : Cls X.K (ga X.K c)) (hm : Meth X.K (ga X.K c) m f) (hr : Room k X.A) (he : VE X o fo)
    (ht : eval (.Call (.Attribute o m apos) [] [] pos) X.env = (do
      let ov ← eval o X.env
      standAt apos.atName
      let (f, first) ← holding [ov] (getMethod ov m pl)
      callWith pos f first (backTo pos (starEach [] X.env)) (backToKw pos (keywordEach [] X.env))) := by rfl) :
    VE X (.Call (.Attribute o m apos) [] [] pos) (xMeth c m F fo aNil) := let ⟨fd, ps, G, B, kp⟩ := G; ve_meth0 cl hm G hr B he ht
theorem ve_makeF (frz : Bool) (M : Mk X.K (ga X.K c) f) (G : FnP X.prog X.w X.K X.mg X.base k f n F) (hn : ∀ δ r, fb δ = some r → r.1.length + 1 = n) (hr : Room (k + 1) X.A) (hg : Gl X x) (hm : X.mg x = some (.ref (ga X.K c)))
    (ha : VB X (e :: es) fb) (hdb : (x == ("__debug__" : Str)) = false := by decide) (he : starEach (e :: es) X.env = (false, eval e X.env) :: starEach es X.env := by rfl) (hpl : (backTo pos (starEach es X.env)).any (·.1) = false := by rfl) :
    VE X (.Call (.Name x p) (e :: es) [] pos) (xMake c F frz fb) := let ⟨fd, ps, G, B, kp⟩ := G; ve_make M G hn hr hg hm B ha hdb he hpl
theorem ve_eqOF (G : FnP X.prog X.w X.K X.mg X.base k f 2 F) (hr : Room k X.A) (o : OpF X.K c "__eq__" f) (ha : VE X a fa) (hbb : VE X b fb') (hm : behindInMarks .Eq b = false) :
    VE X (.Compare a [.Eq] [b] pos) (xO2 (isO c) (isO c) F some false fa fb') := let ⟨fd, ps, G, B, kp⟩ := G; ve_eqO G B hr o ha hbb hm
theorem ve_neOF (G : FnP X.prog X.w X.K X.mg X.base k f 2 F) (hr : Room (k + 1) X.A) (o : OpF X.K c "__eq__" f) (hn : PySem.W.findIn X.K (.ref (ga X.K c)) "__ne__" = some (some (.builtin "object.__ne__"))) (If : IsiF X.K c) (ha : VE X a fa) (hbb : VE X b fb') (hm : behindInMarks .NotEq b = false) :
    VE X (.Compare a [.NotEq] [b] pos) (xO2 (isO c) (isO c) F poN false fa fb') := let ⟨fd, ps, G, B, kp⟩ := G; ve_neO G B hr o hn If.hm ha hbb hm
theorem ve_inOF (G : FnP X.prog X.w X.K X.mg X.base k f 2 F) (hr : Room k X.A) (o : OpF X.K c "__contains__" f) (ha : VE X a fa) (hbb : VE X b fb') (hm : behindInMarks .In b = false) :
    VE X (.Compare a [.In] [b] pos) (xO2 yes (isO c) F poB true fa fb') := let ⟨fd, ps, G, B, kp⟩ := G; ve_inO G B hr o ha hbb hm
theorem ve_ninOF (G : FnP X.prog X.w X.K X.mg X.base k f 2 F) (hr : Room k X.A) (o : OpF X.K c "__contains__" f) (ha : VE X a fa) (hbb : VE X b fb') (hm : behindInMarks .NotIn b = false) :
    VE X (.Compare a [.NotIn] [b] pos) (xO2 yes (isO c) F poN true fa fb') := let ⟨fd, ps, G, B, kp⟩ := G; ve_ninO G B hr o ha hbb hm
theorem ve_ixOF (G : FnP X.prog X.w X.K X.mg X.base k f 2 F) (hr : Room (k + 1) X.A) (o : OpF X.K c "__getitem__" f) (hfn : PySem.W.fnIn X.K f = true) (ha : VE X a fa) (hbb : VE X b fb')
    (hsl : ∀ v i, subscripted b true v i = runValue (.builtin "lifetime.subscript" ⟨[v, i], []⟩) := by intro _ _; with_unfolding_all rfl) :
    VE X (.Subscript a b pos) (xO2 (isO c) yes F some false fa fb') := let ⟨fd, ps, G, B, kp⟩ := G; ve_ixO G B hr o hfn ha hbb hsl
theorem ve_addOF (G : FnP X.prog X.w X.K X.mg X.base k f 2 F) (hr : Room k X.A) (o : OpF X.K c "__add__" f) (hc : PySem.W.selfFirst X.K (ga X.K c) = true) (ha : VE X a fa) (hbb : VE X b fb') :
    VE X (.BinOp a .Add b pos) (xO2 (isO c) (isO c) F some false fa fb') := let ⟨fd, ps, G, B, kp⟩ := G; ve_addO G B hr o hc ha hbb
theorem vt_eqOF (G : FnP X.prog X.w X.K X.mg X.base k f 2 F) (hr : Room k X.A) (o : OpF X.K c "__eq__" f) (ha : VE X a fa) (hbb : VE X b fb') (hm : behindInMarks .Eq b = false) :
    VT X (.Compare a [.Eq] [b] pos) (VS.tB (xO2 (isO c) (isO c) F some false fa fb')) := let ⟨fd, ps, G, B, kp⟩ := G; PTi (pt_cmpR (op_eqO G B hr o.at_ o.fn) ha hbb hm) fun σ H Q h =>
  test_core (fun _ _ _ q => o2_core (Wr := fun Q => Q) (fun x y H Q ⟨Z, o1, o2, F1, F2, h1, h2, r1, r2⟩ q => ⟨r1.ins h1, r2.ins h2, q⟩) wr_id q) h
theorem vt_neOF (G : FnP X.prog X.w X.K X.mg X.base k f 2 F) (hr : Room (k + 1) X.A) (o : OpF X.K c "__eq__" f) (hn : PySem.W.findIn X.K (.ref (ga X.K c)) "__ne__" = some (some (.builtin "object.__ne__"))) (If : IsiF X.K c) (ha : VE X a fa) (hbb : VE X b fb') (hm : behindInMarks .NotEq b = false) :
    VT X (.Compare a [.NotEq] [b] pos) (VS.tB (xO2 (isO c) (isO c) F poN false fa fb')) := let ⟨fd, ps, G, B, kp⟩ := G; PTi (pt_cmpR (op_neO G B hr o.at_ o.fn hn If.hm) ha hbb hm) fun σ H Q h =>
  test_core (fun _ _ _ q => o2_core (Wr := WrB fun b => !b) (fun x y H Q ⟨Z, o1, o2, F1, F2, h1, h2, r1, r2⟩ q => ⟨r1.ins h1, r2.ins h2, q⟩) wr_N q) h
theorem vt_inOF (G : FnP X.prog X.w X.K X.mg X.base k f 2 F) (hr : Room k X.A) (o : OpF X.K c "__contains__" f) (ha : VE X a fa) (hbb : VE X b fb') (hm : behindInMarks .In b = false) :
    VT X (.Compare a [.In] [b] pos) (VS.tB (xO2 yes (isO c) F poB true fa fb')) := let ⟨fd, ps, G, B, kp⟩ := G; PTi (pt_cmpR (op_inO G B hr o.at_ o.fn) ha hbb hm) fun σ H Q h =>
  test_core (fun _ _ _ q => o2_core (Wr := WrB fun b => b) (fun x y H Q ⟨Z, o1, o2, F1, F2, h1, h2, r1, r2⟩ q => ⟨r2.ins h2, q⟩) wr_B q) h
theorem vt_ninOF (G : FnP X.prog X.w X.K X.mg X.base k f 2 F) (hr : Room k X.A) (o : OpF X.K c "__contains__" f) (ha : VE X a fa) (hbb : VE X b fb') (hm : behindInMarks .NotIn b = false) :
    VT X (.Compare a [.NotIn] [b] pos) (VS.tB (xO2 yes (isO c) F poN true fa fb')) := let ⟨fd, ps, G, B, kp⟩ := G; PTi (pt_cmpR (op_ninO G B hr o.at_ o.fn) ha hbb hm) fun σ H Q h =>
  test_core (fun _ _ _ q => o2_core (Wr := WrB fun b => !b) (fun x y H Q ⟨Z, o1, o2, F1, F2, h1, h2, r1, r2⟩ q => ⟨r2.ins h2, q⟩) wr_N q) h
theorem aNil_len1 : ∀ δ r, aNil δ = some r → r.1.length + 1 = 1 := fun δ r h => by rw [aNil_len δ r h]
theorem len_up {α : Type} {fs : DS → Option (List α × DS)} {n : Nat} (h : ∀ δ r, fs δ = some r → r.1.length = n) : ∀ δ r, fs δ = some r → r.1.length + 1 = n + 1 := fun δ r e => by rw [h δ r e]
end
section
variable {P : Program} {w : World} {K : Frag} {mg : Str → Option Value} {base : Heap}
/-- THE RULE for a def, with all that its callers want -/
theorem fnW' {x qual : Str} {params : Arguments} {body : List Stmt} {scope : Scope} {f : Addr} {N ps : List Str} {k : Nat} {M : List Nat} {fb : SF} (F : ∃ fd, FunD K x qual params body scope [] [] f fd) (S : FnScope N ps scope)
    (hB : ∀ (kV doc pm : Value) (an : Option Addr) (cdv ct : Value) (us : List Value), us.length = ps.length → bindArgs (PySem.W.fnOf x qual params body scope .none kV doc pm an cdv ct) ⟨us, []⟩ = pure (ps.zip us))
    (hb : ∀ (cdv : Value) (A : Around) (outer : List Env) (s : Shared) (H : Hp) (E : XK), Room k (A.deeper (PyProof.Rows.envOfC qual scope s.heap.objs.size f cdv)) → VXs (cxOf CX0 P w K mg base N qual scope f cdv A outer s H E).nox M body fb) :
    FnP P w K mg base (k + 1) f ps.length (defF ps.length N.length M fb) := by
  obtain ⟨fd, F⟩ := F
  exact ⟨fd, ps, fnV F S hb, F.bindsN hB, F.kp⟩
end
end VS
namespace VS
open PySem
theorem bo_len : bootBuiltins "len" = some (.builtin "len") := by decide +kernel
theorem bo_sum : bootBuiltins "sum" = some (.builtin "sum") := by decide +kernel
theorem bo_min : bootBuiltins "min" = some (.builtin "min") := by decide +kernel
theorem bo_max : bootBuiltins "max" = some (.builtin "max") := by decide +kernel
theorem bo_all : bootBuiltins "all" = some (.builtin "all") := by decide +kernel
theorem bo_any : bootBuiltins "any" = some (.builtin "any") := by decide +kernel
theorem bo_int : bootBuiltins "int" = some (.type "int") := by decide +kernel
theorem bo_list : bootBuiltins "list" = some (.type "list") := by decide +kernel
theorem bo_tuple : bootBuiltins "tuple" = some (.type "tuple") := by decide +kernel
theorem bo_str : bootBuiltins "str" = some (.type "str") := by decide +kernel
theorem bo_bool : bootBuiltins "bool" = some (.type "bool") := by decide +kernel
theorem bo_dict : bootBuiltins "dict" = some (.type "dict") := by decide +kernel
end VS
namespace VS
open PySem PySem.Spec L2 He
open PySem.W (Frag)
theorem hu1_of {k : Nat} {A : Around} (r : Room k A) : A.units + 1 < cLine := by have := r.un; omega
theorem hu64_of {k : Nat} {A : Around} (r : Room k A) : A.units + 64 < cLine := by have := r.un; omega
theorem hu65_of {k : Nat} {A : Around} (r : Room k A) : A.units + 65 < cLine := by have := r.un; omega
/-- the law's own promise, at the script -/
theorem law_sp {K : Frag} {F : FF} {n : Nat} (h : ∀ ns : List Int, ns.length ≤ n → ∃ fin, F [.sh (.scr ns)] = some (.sh (.bl true), fin)) (H : Hp) (a : Addr) (ns : List Int) (hn : ns.length ≤ n) (hO : Only H) (hS : SqL K H a (ns.map V.int)) :
    spV K 1 F [.ref a] H (fun v _ => v = .bl true) fun _ _ _ => False := by
  obtain ⟨fin, hF⟩ := h ns hn
  have hd : (∃ o, H a = some (.frz o (.lst (ns.map V.int)))) ∨ SqL K (fun _ => none) a (ns.map V.int) := by
    rcases hS with (hS | ⟨o, hS⟩) | hS
    · rcases hO a with e | ⟨o, xs, e⟩
      · rw [hS] at e; cases e
      · rw [hS] at e; cases e
    · exact .inl ⟨o, hS⟩
    · exact .inr (.inr hS)
  refine ⟨fun b => ∃ o, H b = some o, [.sh (.scr ns)], [], _, fin, rfl, ?_, List.nodup_nil, fun b hb => absurd hb (by simp), fun b z => z, hF, fun v Z' H' F1 F2 P => ?_⟩
  · refine ⟨some (.ref a), [], [], [], rfl, rfl, ?_, rfl, rfl⟩
    show RepO K _ H (.sh (.scr ns)) (.ref a) []
    simp only [RepO, RepD]
    refine ⟨trivial, a, rfl, ?_⟩
    rcases hd with ⟨o, hd⟩ | hd
    · exact .inl ⟨⟨_, hd⟩, o, hd⟩
    · exact .inr hd
  · have r := P.rr
    simp only [RepO, RepD] at r
    exact r.2
end VS

namespace VS
open PySem PySem.Spec L2
/-! ### the mirrors, run: what they give, by a word about it -/
def RX (f : XF) (δ : DS) (P : Ev → DS → Prop) : Prop := ∃ e δ', f δ = some (e, δ') ∧ P e δ'
def RB (f : BF) (δ : DS) (P : List O → DS → Prop) : Prop := ∃ e δ', f δ = some (e, δ') ∧ P e δ'
def RA (f : AF) (δ : DS) (P : List Ev → DS → Prop) : Prop := ∃ e δ', f δ = some (e, δ') ∧ P e δ'
def RT (f : TF) (δ : DS) (P : Bool → DS → Prop) : Prop := ∃ e δ', f δ = some (e, δ') ∧ P e δ'
def RI (f : IF) (δ : DS) (P : List D → DS → Prop) : Prop := ∃ e δ', f δ = some (e, δ') ∧ P e δ'
def RO (f : OF) (δ : DS) (P : Option Int → DS → Prop) : Prop := ∃ e δ', f δ = some (e, δ') ∧ P e δ'
def RS (f : SF) (δ : DS) (P : Fl → Prop) : Prop := ∃ r, f δ = some r ∧ P r
def RF (F : FF) (os : List O) (P : O → DS → Prop) : Prop := ∃ r fin, F os = some (r, fin) ∧ P r fin
/-- what an evaluated operand is -/
def RV (δ : DS) (e : Ev) (P : D → Prop) : Prop := ∃ d, rdv δ e = some d ∧ P d
def RK (δ : DS) (e : Ev) (P : O → DS → Prop) : Prop := ∃ o δ', tk δ e = some (o, δ') ∧ P o δ'
/-- by cases of a test -/
def CB (b : Bool) (A B : Prop) : Prop := (b = true → A) ∧ (b = false → B)
theorem CB_t {A B : Prop} (h : A) : CB true A B := ⟨fun _ => h, fun z => (nomatch z)⟩
theorem CB_f {A B : Prop} (h : B) : CB false A B := ⟨fun z => (nomatch z), fun _ => h⟩
theorem CB_d {p : Prop} {_ : Decidable p} {A B : Prop} (h : p → A) (k : ¬ p → B) : CB (decide p) A B := ⟨fun z => h (of_decide_eq_true z), fun z => k (of_decide_eq_false z)⟩
theorem CB_n {b : Bool} {A B : Prop} (h : CB b B A) : CB (!b) A B := by
  cases b with
  | true => exact CB_f (h.1 rfl)
  | false => exact CB_t (h.2 rfl)
theorem CB_yes {b : Bool} {A B : Prop} (e : b = true) (h : A) : CB b A B := by subst e; exact CB_t h
theorem CB_no {b : Bool} {A B : Prop} (e : b = false) (h : B) : CB b A B := by subst e; exact CB_f h
def R1 (x : Option O) (P : O → Prop) : Prop := ∃ o, x = some o ∧ P o
section
variable {δ δ' : DS} {i j n : Nat} {d : D} {o : O} {e : Ev} {fa fb fc fe : XF} {f2 f2' : D → D → Option O} {f1 : D → Option O} {P : Ev → DS → Prop} {ta tb tc : TF} {F : FF}
theorem RX_C (h : P (.val (.sh d)) δ) : RX (xC d) δ P := ⟨_, _, rfl, h⟩
theorem RX_Vs (h : δ[i]? = some (some (.sh d))) (k : P (.val (.sh d)) δ) : RX (xV i) δ P := ⟨_, _, by unfold xV; rw [h], k⟩
def nSh : O → Bool
  | .sh _ => false
  | _ => true
theorem RX_Va (h : δ[i]? = some (some o)) (hn : nSh o = true) (k : P (.at i) δ) : RX (xV i) δ P := by
  refine ⟨_, _, ?_, k⟩
  unfold xV
  rw [h]
  cases o <;> first | rfl | cases hn
theorem RX_dK (h : P (.val (.dK [])) δ) : RX (fun δ => some (.val (.dK []), δ)) δ P := ⟨_, _, rfl, h⟩
theorem RX_x2 (h : RX fa δ fun e1 δ1 => RX fb δ1 fun e2 δ2 => RV δ2 e1 fun d1 => RV δ2 e2 fun d2 => R1 (f2 d1 d2) fun o => P (.val o) δ2) : RX (x2 f2 fa fb) δ P := by
  obtain ⟨e1, δ1, h1, e2, δ2, h2, d1, h3, d2, h4, o, h5, p⟩ := h
  exact ⟨_, _, by simp [x2, h1, h2, h3, h4, h5], p⟩
theorem RX_x1 (h : RX fa δ fun e1 δ1 => RV δ1 e1 fun d1 => R1 (f1 d1) fun o => P (.val o) δ1) : RX (x1 f1 fa) δ P := by
  obtain ⟨e1, δ1, h1, d1, h3, o, h5, p⟩ := h
  exact ⟨_, _, by simp [x1, h1, h3, h5], p⟩
theorem RV_val (P : D → Prop) (h : P o.fz) : RV δ (.val o) P := ⟨_, rfl, h⟩
theorem RV_sh (P : D → Prop) (h : P d) : RV δ (.val (.sh d)) P := ⟨_, rfl, h⟩
theorem RV_at (P : D → Prop) (h : δ[i]? = some (some o)) (k : P o.fz) : RV δ (.at i) P := ⟨_, by simp [rdv, look, h], k⟩
theorem RK_val (P : O → DS → Prop) (h : P o δ) : RK δ (.val o) P := ⟨_, _, rfl, h⟩
theorem RK_at (P : O → DS → Prop) (h : δ[i]? = some (some o)) (he : δ.set i (some (.sh o.fz)) = δ') (k : P (.sh o.fz) δ') : RK δ (.at i) P := ⟨_, _, by simp [tk, h, he], k⟩
theorem R1_of {x : Option O} (P : O → Prop) (h : x = some o) (k : P o) : R1 x P := ⟨o, h, k⟩
theorem RT_tB {P : Bool → DS → Prop} (h : RX fe δ fun e δ1 => ∃ b, e = .val (.sh (.bl b)) ∧ P b δ1) : RT (tB fe) δ P := by
  obtain ⟨e, δ1, h1, b, rfl, p⟩ := h
  exact ⟨_, _, by simp [tB, h1], p⟩
theorem RT_not {P : Bool → DS → Prop} (h : RT ta δ fun b δ1 => P (!b) δ1) : RT (tNot' ta) δ P := by
  obtain ⟨b, δ1, h1, p⟩ := h
  exact ⟨_, _, by simp [tNot', h1], p⟩
theorem RT_and {P : Bool → DS → Prop} (h : RT ta δ fun b δ1 => CB b (RT tb δ1 P) (P false δ1)) : RT (tAnd' ta tb) δ P := by
  obtain ⟨b, δ1, h1, p⟩ := h
  cases b with
  | true =>
    obtain ⟨c, δ2, h2, q⟩ := p.1 rfl
    exact ⟨_, _, by simp [tAnd', h1, h2], q⟩
  | false => exact ⟨_, _, by simp [tAnd', h1], p.2 rfl⟩
theorem RT_or {P : Bool → DS → Prop} (h : RT ta δ fun b δ1 => CB b (P true δ1) (RT tb δ1 P)) : RT (tOr' ta tb) δ P := by
  obtain ⟨b, δ1, h1, p⟩ := h
  cases b with
  | false =>
    obtain ⟨c, δ2, h2, q⟩ := p.2 rfl
    exact ⟨_, _, by simp [tOr', h1, h2], q⟩
  | true => exact ⟨_, _, by simp [tOr', h1], p.1 rfl⟩
theorem RX_and (h : RT (tB fa) δ fun b δ1 => CB b (RX fb δ1 P) (P (.val (.sh (.bl false))) δ1)) : RX (xAnd fa fb) δ P := by
  obtain ⟨b, δ1, h1, p⟩ := h
  cases b with
  | true =>
    obtain ⟨c, δ2, h2, q⟩ := p.1 rfl
    exact ⟨_, _, by simp [xAnd, h1, h2], q⟩
  | false => exact ⟨_, _, by simp [xAnd, h1], p.2 rfl⟩
theorem RX_or (h : RT (tB fa) δ fun b δ1 => CB b (P (.val (.sh (.bl true))) δ1) (RX fb δ1 P)) : RX (xOr fa fb) δ P := by
  obtain ⟨b, δ1, h1, p⟩ := h
  cases b with
  | false =>
    obtain ⟨c, δ2, h2, q⟩ := p.2 rfl
    exact ⟨_, _, by simp [xOr, h1, h2], q⟩
  | true => exact ⟨_, _, by simp [xOr, h1], p.1 rfl⟩
theorem RX_not (h : RT (tB fa) δ fun b δ1 => P (.val (.sh (.bl (!b)))) δ1) : RX (xNot fa) δ P := by
  obtain ⟨b, δ1, h1, p⟩ := h
  exact ⟨_, _, by simp [xNot, h1], p⟩
theorem RX_if (h : RT ta δ fun b δ1 => CB b (RX fa δ1 P) (RX fb δ1 P)) : RX (xIf ta fa fb) δ P := by
  obtain ⟨b, δ1, h1, p⟩ := h
  cases b with
  | true =>
    obtain ⟨c, δ2, h2, q⟩ := p.1 rfl
    exact ⟨_, _, by simp [xIf, h1, h2], q⟩
  | false =>
    obtain ⟨c, δ2, h2, q⟩ := p.2 rfl
    exact ⟨_, _, by simp [xIf, h1, h2], q⟩
theorem RX_ch (h : RX fa δ fun e1 δ1 => RX fb δ1 fun e2 δ2 => RV δ2 e1 fun d1 => RV δ2 e2 fun d2 => ∃ b, f2 d1 d2 = some (.sh (.bl b)) ∧ CB b (RX fc δ2 fun e3 δ3 => RV δ3 e2 fun d2 => RV δ3 e3 fun d3 => R1 (f2' d2 d3) fun o => P (.val o) δ3) (P (.val (.sh (.bl false))) δ2)) :
    RX (xCh f2 f2' fa fb fc) δ P := by
  obtain ⟨e1, δ1, h1, e2, δ2, h2, d1, h3, d2, h4, b, h5, p⟩ := h
  cases b with
  | true =>
    obtain ⟨e3, δ3, h6, d2', h7, d3, h8, o, h9, q⟩ := p.1 rfl
    exact ⟨_, _, by simp [xCh, h1, h2, h3, h4, h5, h6, h7, h8, h9], q⟩
  | false => exact ⟨_, _, by simp [xCh, h1, h2, h3, h4, h5], p.2 rfl⟩
/-! arguments -/
theorem RB_nil {P : List O → DS → Prop} (h : P [] δ) : RB bNil δ P := ⟨_, _, rfl, h⟩
theorem RB_cons {fs : BF} {P : List O → DS → Prop} (h : RX fa δ fun e δ1 => RK δ1 e fun o δ2 => RB fs δ2 fun os δ3 => P (o :: os) δ3) : RB (bCons fa fs) δ P := by
  obtain ⟨e, δ1, h1, o, δ2, h2, os, δ3, h3, p⟩ := h
  exact ⟨_, _, by simp [bCons, h1, h2, h3], p⟩
theorem RA_nil {P : List Ev → DS → Prop} (h : P [] δ) : RA aNil δ P := ⟨_, _, rfl, h⟩
theorem RA_t {fs : AF} {P : List Ev → DS → Prop} (h : RX fa δ fun e δ1 => RA fs δ1 fun es δ2 => P (e :: es) δ2) : RA (aCons true fa fs) δ P := by
  obtain ⟨e, δ1, h1, es, δ2, h2, p⟩ := h
  exact ⟨_, _, by simp [aCons, h1, h2], p⟩
theorem RA_f {fs : AF} {P : List Ev → DS → Prop} (h : RX fa δ fun e δ1 => RK δ1 e fun o δ2 => RA fs δ2 fun es δ3 => P (.val o :: es) δ3) : RA (aCons false fa fs) δ P := by
  obtain ⟨e, δ1, h1, o, δ2, h2, es, δ3, h3, p⟩ := h
  exact ⟨_, _, by simp [aCons, h1, h2, h3], p⟩
theorem RX_tup {fs : BF} (h : RB fs δ fun os δ1 => os.length ≤ sizeLine ∧ P (.val (.sh (.tup (os.map O.fz)))) δ1) : RX (xTup fs) δ P := by
  obtain ⟨os, δ1, h1, h2, p⟩ := h
  exact ⟨_, _, by simp [xTup, h1, h2], p⟩
theorem RX_lst {fs : BF} (h : RB fs δ fun os δ1 => os.length ≤ sizeLine ∧ P (.val (.lst (os.map O.fz))) δ1) : RX (xLst fs) δ P := by
  obtain ⟨os, δ1, h1, h2, p⟩ := h
  exact ⟨_, _, by simp [xLst, h1, h2], p⟩
/-! calls -/
def Rout (es : List Ev) (δ : DS) (P : List O → DS → Prop) : Prop := ∃ os δ', outs es δ = some (os, δ') ∧ P os δ'
theorem RX_call {fs : AF} (h : RA fs δ fun es δ1 => Rout es δ1 fun os δ2 => RF F os fun r fin => fin.length = es.length ∧ P (.val r) (ins es fin δ2)) : RX (xCall F fs) δ P := by
  obtain ⟨es, δ1, h1, os, δ2, h2, r, fin, h3, h4, p⟩ := h
  exact ⟨_, _, by simp [xCall, h1, h2, h3, h4], p⟩
theorem RX_bi {m : List D → Option O} {fs : AF} (h : RA fs δ fun es δ1 => ∃ ds, rdvs δ1 es = some ds ∧ R1 (m ds) fun o => P (.val o) δ1) : RX (xBi m fs) δ P := by
  obtain ⟨es, δ1, h1, ds, h2, o, h3, p⟩ := h
  exact ⟨_, _, by simp [xBi, h1, h2, h3], p⟩
theorem RX_fld {c f : Str} (h : RX fe δ fun e δ1 => ∃ o, look δ1 e = some o ∧ ∃ d, fldO c f o = some d ∧ P (.val (.sh d)) δ1) : RX (xFld c f fe) δ P := by
  obtain ⟨e, δ1, h1, o, h2, d, h3, p⟩ := h
  exact ⟨_, _, by simp [xFld, h1, h2, h3], p⟩
theorem RX_meth {c m : Str} {fs : AF} (h : RX fe δ fun e0 δ0 => ∃ o, look δ0 e0 = some o ∧ noFld c m o = true ∧ RA fs δ0 fun es δ1 => Rout (e0 :: es) δ1 fun os δ2 => RF F os fun r fin => fin.length = es.length + 1 ∧ P (.val r) (ins (e0 :: es) fin δ2)) : RX (xMeth c m F fe fs) δ P := by
  obtain ⟨e0, δ0, h1, o, h2, h3, es, δ1, h4, os, δ2, h5, r, fin, h6, h7, p⟩ := h
  exact ⟨_, _, by simp [xMeth, h1, h2, h3, h4, h5, h6, h7], p⟩
theorem RX_make {c : Str} {frz : Bool} {fs : BF} (h : RB fs δ fun os δ1 => RF F (.obj c [] :: os) fun r fin => r = .sh .non ∧ ∃ self rest, fin = some self :: rest ∧ rest.length = os.length ∧ P (.val (if frz then .sh self.fz else self)) δ1) : RX (xMake c F frz fs) δ P := by
  obtain ⟨os, δ1, h1, r, fin, h2, rfl, self, rest, rfl, h3, p⟩ := h
  exact ⟨_, _, by simp [xMake, h1, h2, h3], p⟩
theorem RX_o2 {k1 k2 : O → Bool} {po : O → Option O} {sw : Bool} (h : RX fa δ fun e1 δ1 => RK δ1 e1 fun o1 δ2 => RX fb δ2 fun e2 δ3 => RK δ3 e2 fun o2 δ4 => k1 o1 = true ∧ k2 o2 = true ∧ RF F (if sw then [o2, o1] else [o1, o2]) fun r fin => fin.length = 2 ∧ R1 (po r) fun o => P (.val o) δ4) : RX (xO2 k1 k2 F po sw fa fb) δ P := by
  obtain ⟨e1, δ1, h1, o1, δ2, h2, e2, δ3, h3, o2, δ4, h4, h5, h6, r, fin, h7, h8, o, h9, p⟩ := h
  refine ⟨_, _, ?_, p⟩
  simp only [xO2, h1, h2, h3, h4, h5, h6, Option.bind_some, Bool.and_self, if_true]
  rw [h7]
  simp [h8, h9]
/-! slices -/
theorem RO_N {P : Option Int → DS → Prop} (h : P none δ) : RO oN δ P := ⟨_, _, rfl, h⟩
theorem RO_E {P : Option Int → DS → Prop} (h : RX fe δ fun e δ1 => ∃ n, e = .val (.sh (.int n)) ∧ P (some n) δ1) : RO (oE fe) δ P := by
  obtain ⟨e, δ1, h1, n, rfl, p⟩ := h
  exact ⟨_, _, by simp [oE, h1], p⟩
theorem RX_sl {fl fh : OF} (h : RX fe δ fun e δ1 => RO fl δ1 fun lo δ2 => RO fh δ2 fun hi δ3 => RV δ3 e fun d => R1 (opSl d lo hi) fun o => P (.val o) δ3) : RX (xSl fe fl fh) δ P := by
  obtain ⟨e, δ1, h1, lo, δ2, h2, hi, δ3, h3, d, h4, o, h5, p⟩ := h
  exact ⟨_, _, by simp [xSl, h1, h2, h3, h4, h5], p⟩
/-! a method of one's own list -/
theorem RX_mut {mt : O → List D → Option (O × O)} {fs : BF} {o0 : O} (hi : δ[i]? = some (some o0)) (hl : isLst o0 = true) (h : RB fs δ fun os δ1 => ∃ o, δ1[i]? = some (some o) ∧ ∃ q, mt o (os.map O.fz) = some q ∧ ∃ δ2, δ1.set i (some q.1) = δ2 ∧ P (.val q.2) δ2) : RX (xMut mt i fs) δ P := by
  obtain ⟨os, δ1, h1, o, h2, q, h3, δ2, rfl, p⟩ := h
  exact ⟨_, _, by simp [xMut, hi, hl, h1, h2, h3], p⟩
end
/-! statements -/
section
variable {δ δ' : DS} {i j n : Nat} {d : D} {o : O} {e : Ev} {fa fb fc fe fi : XF} {P : Fl → Prop} {ta tb tc : TF} {F : FF} {f fr : SF}
theorem RS_nil (h : P (.nx δ)) : RS sNil δ P := ⟨_, rfl, h⟩
def thenS (fr : SF) (P : Fl → Prop) : Fl → Prop
  | .nx δ1 => RS fr δ1 P
  | .rt o δ1 => P (.rt o δ1)
  | .bk δ1 => P (.bk δ1)
  | .ct δ1 => P (.ct δ1)
theorem thenS_nx (h : RS fr δ P) : thenS fr P (.nx δ) := h
theorem thenS_rt (h : P (.rt o δ)) : thenS fr P (.rt o δ) := h
theorem thenS_bk (h : P (.bk δ)) : thenS fr P (.bk δ) := h
theorem thenS_ct (h : P (.ct δ)) : thenS fr P (.ct δ) := h
theorem RS_seq (h : RS f δ (thenS fr P)) : RS (sSeq f fr) δ P := by
  obtain ⟨r, h1, p⟩ := h
  cases r with
  | nx δ1 =>
    obtain ⟨r2, h2, q⟩ := p
    exact ⟨_, by simp [sSeq, h1, h2], q⟩
  | rt o δ1 => exact ⟨_, by simp [sSeq, h1], p⟩
  | bk δ1 => exact ⟨_, by simp [sSeq, h1], p⟩
  | ct δ1 => exact ⟨_, by simp [sSeq, h1], p⟩
theorem RS_expr (h : RX fe δ fun _ δ1 => P (.nx δ1)) : RS (sExpr fe) δ P := by
  obtain ⟨e, δ1, h1, p⟩ := h
  exact ⟨_, by simp [sExpr, h1], p⟩
theorem RS_ret (h : RX fe δ fun e δ1 => ∃ o δ2, mvE n δ1 e = some (o, δ2) ∧ P (.rt o δ2)) : RS (sRet n fe) δ P := by
  obtain ⟨e, δ1, h1, o, δ2, h2, p⟩ := h
  exact ⟨_, by simp [sRet, h1, h2], p⟩
theorem RS_if (h : RT ta δ fun b δ1 => CB b (RS f δ1 P) (RS fr δ1 P)) : RS (sIf ta f fr) δ P := by
  obtain ⟨b, δ1, h1, p⟩ := h
  cases b with
  | true =>
    obtain ⟨r, h2, q⟩ := p.1 rfl
    exact ⟨_, by simp [sIf, h1, h2], q⟩
  | false =>
    obtain ⟨r, h2, q⟩ := p.2 rfl
    exact ⟨_, by simp [sIf, h1, h2], q⟩
theorem RS_set (h : RX fe δ fun e δ1 => RK δ1 e fun o δ2 => ∃ δ3, δ2.set i (some o) = δ3 ∧ P (.nx δ3)) : RS (sSet i fe) δ P := by
  obtain ⟨e, δ1, h1, o, δ2, h2, δ3, rfl, p⟩ := h
  exact ⟨_, by simp [sSet, h1, h2], p⟩
theorem RS_asg {gt : GF} (h : RX fe δ fun e δ1 => RK δ1 e fun o δ2 => ∃ δ3, gt o.fz δ2 = some δ3 ∧ P (.nx δ3)) : RS (sAsg gt fe) δ P := by
  obtain ⟨e, δ1, h1, o, δ2, h2, δ3, h3, p⟩ := h
  exact ⟨_, by simp [sAsg, h1, h2, h3], p⟩
theorem RS_par {fs : BF} (h : RB fs δ fun os δ1 => ∃ o1 o2, os = [o1, o2] ∧ ∃ δ3, (δ1.set j (some o2)).set i (some o1) = δ3 ∧ P (.nx δ3)) : RS (sPar i j fs) δ P := by
  obtain ⟨os, δ1, h1, o1, o2, rfl, δ3, rfl, p⟩ := h
  exact ⟨_, by simp [sPar, h1], p⟩
theorem RS_sub (h : RX fe δ fun e δ1 => RK δ1 e fun o δ2 => ((δ2[j]?).join).isSome = true ∧ RX fi δ2 fun ei δ3 => RV δ3 ei fun k => ∃ oj, (δ3[j]?).join = some oj ∧ R1 (putD oj k o.fz) fun o' => ∃ δ4, δ3.set j (some o') = δ4 ∧ P (.nx δ4)) : RS (sSub j fe fi) δ P := by
  obtain ⟨e, δ1, h1, o, δ2, h2, h3, ei, δ3, h4, k, h5, oj, h6, o', h7, δ4, rfl, p⟩ := h
  exact ⟨_, by simp [sSub, h1, h2, h3, h4, h5, h6, h7], p⟩
theorem RS_attr {c f : Str} (h : RX fe δ fun e δ1 => RK δ1 e fun o δ2 => ∃ fs, δ2[i]? = some (some (.obj c fs)) ∧ fs.length < 1000 ∧ ∃ δ3, δ2.set i (some (.obj c (putO f o fs))) = δ3 ∧ P (.nx δ3)) : RS (sAttr i c f fe) δ P := by
  obtain ⟨e, δ1, h1, o, δ2, h2, fs, h3, h4, δ3, rfl, p⟩ := h
  exact ⟨_, by simp [sAttr, h1, h2, h3, h4], p⟩
/-! loops -/
def RL (gt : GF) (body : SF) (ds : List D) (δ : DS) (P : Fl → Prop) : Prop := ∃ r, forL gt body ds δ = some r ∧ P r
theorem RS_for {it : IF} {gt : GF} {body : SF} (h : RI it δ fun ds δ1 => RL gt body ds δ1 P) : RS (sFor it gt body) δ P := by
  obtain ⟨ds, δ1, h1, r, h2, p⟩ := h
  exact ⟨_, by simp [sFor, h1, h2], p⟩
def loopS (I : DS → Prop) (P : Fl → Prop) : Fl → Prop
  | .nx δ2 => I δ2
  | .ct δ2 => I δ2
  | .bk δ2 => P (.nx δ2)
  | .rt o δ2 => P (.rt o δ2)
theorem loopS_nx {I : DS → Prop} (h : I δ) : loopS I P (.nx δ) := h
theorem loopS_ct {I : DS → Prop} (h : I δ) : loopS I P (.ct δ) := h
theorem loopS_bk {I : DS → Prop} (h : P (.nx δ)) : loopS I P (.bk δ) := h
theorem loopS_rt {I : DS → Prop} (h : P (.rt o δ)) : loopS I P (.rt o δ) := h
/-- by a word about what is done -/
theorem RL_inv {α : Type} {enc : α → D} {gt : GF} {body : SF} {l : List α} {P : Fl → Prop} (Inv : List α → DS → Prop) {δ : DS} (h0 : Inv [] δ)
    (step : ∀ done x rest δ, l = done ++ x :: rest → Inv done δ → ∃ δ1, gt (enc x) δ = some δ1 ∧ RS body δ1 (loopS (Inv (done ++ [x])) P)) (fin : ∀ δ, Inv l δ → P (.nx δ)) : RL gt body (l.map enc) δ P := by
  suffices H : ∀ (rest done : List α) (δ : DS), l = done ++ rest → Inv done δ → RL gt body (rest.map enc) δ P from H l [] δ rfl h0
  intro rest
  induction rest with
  | nil =>
    intro done δ e h
    rw [List.append_nil] at e
    subst e
    exact ⟨_, rfl, fin δ h⟩
  | cons x rest ih =>
    intro done δ e h
    obtain ⟨δ1, h1, r, h2, p⟩ := step done x rest δ e h
    have go : ∀ δ2, Inv (done ++ [x]) δ2 → RL gt body (rest.map enc) δ2 P := fun δ2 q => ih (done ++ [x]) δ2 (by rw [e]; simp) q
    cases r with
    | nx δ2 =>
      obtain ⟨r, h3, q⟩ := go δ2 p
      exact ⟨r, by simp [forL, h1, h2, h3], q⟩
    | ct δ2 =>
      obtain ⟨r, h3, q⟩ := go δ2 p
      exact ⟨r, by simp [forL, h1, h2, h3], q⟩
    | bk δ2 => exact ⟨_, by simp [forL, h1, h2], p⟩
    | rt o δ2 => exact ⟨_, by simp [forL, h1, h2], p⟩
def RC (gt : GF) (tt : TF) (fe : XF) (own : List Nat) (ds : List D) (δ : DS) (acc : List D) (P : List D → DS → Prop) : Prop := ∃ r δ', lcL gt tt fe own ds δ acc = some (r, δ') ∧ P r δ'
theorem RX_lc {it : IF} {gt : GF} {tt : TF} {own : List Nat} {P : Ev → DS → Prop} (h : RI it δ fun ds δ1 => ds.length ≤ sizeLine ∧ RC gt tt fe own ds (wipeD δ1 own) [] fun acc δ2 => P (.val (.lst acc)) (unwD δ2 own (savD δ1 own))) : RX (xLc it gt tt fe own) δ P := by
  obtain ⟨ds, δ1, h1, h2, r, δ2, h3, p⟩ := h
  exact ⟨_, _, by simp [xLc, h1, h2, h3], p⟩
theorem RC_inv {α : Type} {enc : α → D} {gt : GF} {tt : TF} {own : List Nat} {l : List α} {P : List D → DS → Prop} (Inv : List α → List D → DS → Prop) {δ : DS} {acc : List D} (h0 : Inv [] acc δ)
    (step : ∀ done x rest acc δ, l = done ++ x :: rest → Inv done acc δ → ∃ δ1, gt (enc x) δ = some δ1 ∧ RT tt δ1 fun b δ2 => CB b (RX fe δ2 fun e δ3 => RK δ3 e fun o δ4 => Inv (done ++ [x]) (acc ++ [o.fz]) (wipeD δ4 own)) (Inv (done ++ [x]) acc (wipeD δ2 own)))
    (fin : ∀ acc δ, Inv l acc δ → P acc δ) : RC gt tt fe own (l.map enc) δ acc P := by
  suffices H : ∀ (rest done : List α) (acc : List D) (δ : DS), l = done ++ rest → Inv done acc δ → RC gt tt fe own (rest.map enc) δ acc P from H l [] acc δ rfl h0
  intro rest
  induction rest with
  | nil =>
    intro done acc δ e h
    rw [List.append_nil] at e
    subst e
    exact ⟨_, _, rfl, fin acc δ h⟩
  | cons x rest ih =>
    intro done acc δ e h
    obtain ⟨δ1, h1, b, δ2, h2, p⟩ := step done x rest acc δ e h
    cases b with
    | true =>
      obtain ⟨ev, δ3, h3, o, δ4, h4, q⟩ := p.1 rfl
      obtain ⟨r, δ', h5, q2⟩ := ih (done ++ [x]) _ _ (by rw [e]; simp) q
      exact ⟨r, δ', by simp [lcL, h1, h2, h3, h4, h5], q2⟩
    | false =>
      obtain ⟨r, δ', h5, q2⟩ := ih (done ++ [x]) _ _ (by rw [e]; simp) (p.2 rfl)
      exact ⟨r, δ', by simp [lcL, h1, h2, h5], q2⟩
/-- each item by itself: the places stay -/
theorem RC_map {α : Type} {enc : α → D} {g : α → D} {gt : GF} {tt : TF} {own : List Nat} {l : List α} {P : List D → DS → Prop} {δ : DS}
    (step : ∀ x ∈ l, ∃ δ1, gt (enc x) δ = some δ1 ∧ RT tt δ1 fun b δ2 => b = true ∧ RX fe δ2 fun e δ3 => RK δ3 e fun o δ4 => o.fz = g x ∧ wipeD δ4 own = δ)
    (fin : P (l.map g) δ) : RC gt tt fe own (l.map enc) δ [] P := by
  refine RC_inv (fun done acc δ' => acc = done.map g ∧ δ' = δ) ⟨rfl, rfl⟩ (fun done x rest acc δ' e ⟨h1, h2⟩ => ?_) fun acc δ' ⟨h1, h2⟩ => by rw [h1, h2]; exact fin
  subst h1 h2
  obtain ⟨δ1, h3, b, δ2, h4, hb, ev, δ3, h5, o, δ4, h6, h7, h8⟩ := step x (by rw [e]; simp)
  subst hb
  exact ⟨δ1, h3, true, δ2, h4, fun _ => ⟨ev, δ3, h5, o, δ4, h6, by rw [h7]; simp, h8⟩, fun z => by cases z⟩
theorem opMul_int {i j : Int} (h : mulOk i j = true) : opMul (.int i) (.int j) = some (.sh (.int (i * j))) := by simp [opMul, h]
theorem opMul_l {i j : Int} (h : -18446744073709551616 < i ∧ i < 18446744073709551616) : opMul (.int i) (.int j) = some (.sh (.int (i * j))) := opMul_int (by
  unfold mulOk
  have e : (2 : Int) ^ 64 = 18446744073709551616 := by decide
  rw [e]
  simp [h.1, h.2])
theorem opMul_r {i j : Int} (h : -18446744073709551616 < j ∧ j < 18446744073709551616) : opMul (.int i) (.int j) = some (.sh (.int (i * j))) := opMul_int (by
  unfold mulOk
  have e : (2 : Int) ^ 64 = 18446744073709551616 := by decide
  rw [e]
  simp [h.1, h.2])
theorem opDiv_int {i j : Int} (h : divOk j = true) : opDiv (.int i) (.int j) = some (.sh (.int (i / j))) := by simp [opDiv, h]
theorem opMod_int {i j : Int} (h : 0 < j) : opMod (.int i) (.int j) = some (.sh (.int (i % j))) := by simp [opMod, h]
theorem opPow_int {i j : Int} (h1 : 0 ≤ j) (h2 : j ≤ 1000000) (h3 : i.natAbs < 2 ^ 64) : opPow (.int i) (.int j) = some (.sh (.int (i ^ j.toNat))) := by simp [opPow, h1, h2, h3]
theorem opPow_ok {i j : Int} (h : (0 ≤ j ∧ j ≤ 1000000) ∧ (-18446744073709551616 < i ∧ i < 18446744073709551616)) : opPow (.int i) (.int j) = some (.sh (.int (i ^ j.toNat))) := opPow_int h.1.1 h.1.2 (by
  have e : (2 : Nat) ^ 64 = 18446744073709551616 := by decide
  rw [e]
  omega)
/-! iterators -/
theorem RI_seq {P : List D → DS → Prop} (h : RX fe δ fun e δ1 => RK δ1 e fun o δ2 => ∃ ds, itemsOf o.fz = some ds ∧ P ds δ2) : RI (iSeq fe) δ P := by
  obtain ⟨e, δ1, h1, o, δ2, h2, ds, h3, p⟩ := h
  exact ⟨_, _, by simp [iSeq, h1, h2, h3], p⟩
theorem RI_rg1 {fs : BF} {P : List D → DS → Prop} (h : RB fs δ fun os δ1 => ∃ j, os = [.sh (.int j)] ∧ inR j = true ∧ P (rngD 0 j.toNat) δ1) : RI (iRg1 fs) δ P := by
  obtain ⟨os, δ1, h1, j, rfl, h2, p⟩ := h
  exact ⟨_, _, by simp [iRg1, h1, h2], p⟩
theorem RI_enm {fs : BF} {P : List D → DS → Prop} (h : RB fs δ fun os δ1 => ∃ o ds, os = [o] ∧ o.fz = .lst ds ∧ P (enumD 0 ds) δ1) : RI (iEnm fs) δ P := by
  obtain ⟨os, δ1, h1, o, ds, rfl, h2, p⟩ := h
  exact ⟨_, _, by simp [iEnm, h1, h2], p⟩
/-! defs -/
def endF (np : Nat) (M : List Nat) (P : O → DS → Prop) : Fl → Prop
  | .rt o δ1 => P o (selM M δ1 0 np)
  | .nx δ1 => P (.sh .non) (selM M δ1 0 np)
  | _ => False
theorem endF_rt {np : Nat} {M : List Nat} {P : O → DS → Prop} {fin : DS} (e : selM M δ 0 np = fin) (h : P o fin) : endF np M P (.rt o δ) := by subst e; exact h
theorem endF_nx {np : Nat} {M : List Nat} {P : O → DS → Prop} {fin : DS} (e : selM M δ 0 np = fin) (h : P (.sh .non) fin) : endF np M P (.nx δ) := by subst e; exact h
theorem RF_def {np N : Nat} {M : List Nat} {fb : SF} {os : List O} {P : O → DS → Prop} {δ0 : DS} (hl : os.length = np) (e : os.map some ++ List.replicate (N - np) none = δ0) (h : RS fb δ0 (endF np M P)) : RF (defF np N M fb) os P := by
  subst e
  obtain ⟨r, h1, p⟩ := h
  cases r with
  | rt o δ1 => exact ⟨_, _, by simp only [defF, hl, if_true, h1]; rfl, p⟩
  | nx δ1 => exact ⟨_, _, by simp only [defF, hl, if_true, h1]; rfl, p⟩
  | bk δ1 => exact p.elim
  | ct δ1 => exact p.elim
theorem RF_eq {os : List O} {r : O} {fin : DS} {P : O → DS → Prop} (h : F os = some (r, fin)) (k : P r fin) : RF F os P := ⟨r, fin, h, k⟩
theorem RF.mono {os : List O} {P P' : O → DS → Prop} (h : RF F os P') (k : ∀ r fin, P' r fin → P r fin) : RF F os P := let ⟨r, fin, e, p⟩ := h; ⟨r, fin, e, k r fin p⟩
theorem RF.eq {os : List O} {r : O} {fin : DS} (h : RF F os fun r' fin' => r' = r ∧ fin' = fin) : F os = some (r, fin) := by
  obtain ⟨r', fin', e, rfl, rfl⟩ := h
  exact e
end
end VS

namespace VS
open PySem PySem.Spec L2
/-! ### dict(pairs), displays of dicts -/
def pairsOf : List D → Option (List (Key × D))
  | [] => some []
  | .tup [k, d] :: r => (keyOf k).bind fun x => (pairsOf r).map fun y => (x, d) :: y
  | _ :: _ => none
def mergeD (acc : List (Key × D)) (ps : List (Key × D)) : List (Key × D) := ps.foldl (fun a p => dput a p.1 p.2) acc
def mDict : List D → Option O
  | [.lst ds] => (pairsOf ds).map fun ps => .dK (mergeD [] ps)
  | [.dK ks] => some (.dK ks)
  | _ => none
section
variable {K : PySem.W.Frag} {Z : Addr → Prop} {H : Hp}
theorem pairs_rep : ∀ {ds : List D} {ps : List (Key × D)} {vs : List V}, pairsOf ds = some ps → RepL K Z H ds vs →
    ∃ as kvs, vs = as.map V.ref ∧ Paired (fun p (kv : Key × V) => SqT K H p [kV kv.1, kv.2]) as kvs ∧ RepK K Z H ps kvs
  | [], ps, vs, h, r => by
    simp only [pairsOf] at h
    cases h
    simp only [RepL] at r
    subst r
    exact ⟨[], [], rfl, .nil, by simp only [RepK]⟩
  | d0 :: ds, ps, vs, h, r => by
    unfold pairsOf at h
    split at h
    · rename_i e; cases e
    · rename_i k d r' e
      cases e
      simp only [Option.bind_eq_some_iff, Option.map_eq_some_iff] at h
      obtain ⟨x, hx, y, hy, rfl⟩ := h
      simp only [RepL] at r
      obtain ⟨v, r1, rfl, hv, hr⟩ := r
      obtain ⟨as, kvs, rfl, hp, hk⟩ := pairs_rep hy hr
      simp only [RepD, RepL] at hv
      obtain ⟨a, ws, rfl, ha, v1, r2, rfl, h1, v2, r3, rfl, h2, rfl⟩ := hv
      have e1 := key_rep hx h1
      subst e1
      exact ⟨a :: as, (x, v2) :: kvs, rfl, .cons (SqT.of ha) hp, by simp only [RepK]; exact ⟨v2, kvs, rfl, h2, hk⟩⟩
    · cases h
theorem RepK.merge : ∀ {ps : List (Key × D)} {kvs : List (Key × V)}, RepK K Z H ps kvs → ∀ {acc : List (Key × D)} {av : List (Key × V)}, RepK K Z H acc av → RepK K Z H (mergeD acc ps) (mergeK av kvs)
  | [], kvs, h, acc, av, ha => by
    simp only [RepK] at h
    subst h
    exact ha
  | (k, d) :: ps, kvs, h, acc, av, ha => by
    simp only [RepK] at h
    obtain ⟨v, r, rfl, h1, h2⟩ := h
    exact RepK.merge h2 (RepK.put h1 ha)
theorem RepK.zip : ∀ {ps : List (Key × D)} {kvs : List (Key × V)}, kvs.map (·.1) = ps.map (·.1) → RepL K Z H (ps.map (·.2)) (kvs.map (·.2)) → RepK K Z H ps kvs
  | [], [], _, _ => by simp only [RepK]
  | [], _ :: _, e, _ => by simp at e
  | _ :: _, [], e, _ => by simp at e
  | (k, d) :: ps, (x, w) :: kvs, e, h => by
    simp only [List.map_cons, List.cons.injEq] at e
    simp only [List.map_cons, RepL] at h
    obtain ⟨v, r, e2, h1, h2⟩ := h
    simp only [List.cons.injEq] at e2
    obtain ⟨rfl, rfl⟩ := e2
    have ex : x = k := e.1
    subst ex
    simp only [RepK]
    exact ⟨w, kvs, rfl, h1, RepK.zip e.2 h2⟩
end
section
variable {X : Cx}
theorem cv_dict (hc : X.calm = true) : CV X (.type "dict") mDict := by
  intro pins s σ H xs us Q I r ⟨Z, ds, o, l, h, q⟩
  unfold mDict at h
  split at h
  · obtain ⟨a, vs, rfl, ha, ra⟩ := one_lst l
    obtain ⟨ps, hp, rfl⟩ := Option.map_eq_some_iff.mp h
    obtain ⟨as, kvs, rfl, hpp, hk⟩ := pairs_rep hp ra
    exact call_dictP hc pins s σ H _ us Q I r ⟨a, as, kvs, rfl, SqL.of ha, hpp, fun p hp => q _ _ (Res.dK hp (RepK.merge hk (by simp only [RepK])))⟩
  · obtain ⟨v, r', rfl, l1, l2⟩ := l
    have e2 : r' = [] := l2
    subst e2
    cases h
    obtain ⟨a, vs, rfl, ha, ra⟩ := l1
    exact call_dictD pins s σ H _ us Q I r ⟨a, vs, rfl, ha, fun p hp => q _ _ (Res.dK hp ra)⟩
  · cases h
/-! displays -/
def dpL : List (XF × XF) → DS → Option (List (Key × D) × DS)
  | [], δ => some ([], δ)
  | (fk, fv) :: r, δ => (fk δ).bind fun r1 => (tk r1.2 r1.1).bind fun r2 => (keyOf r2.1.fz).bind fun k => (fv r2.2).bind fun r3 => (tk r3.2 r3.1).bind fun r4 => (dpL r r4.2).map fun r5 => ((k, r4.1.fz) :: r5.1, r5.2)
def xDisp (fs : List (XF × XF)) : XF := fun δ => (dpL fs δ).map fun r => (.val (.dK (mergeD [] r.1)), r.2)
abbrev VPs (X : Cx) (pos : Pos) (keys : List (Option Expr)) (values : List Expr) (fs : List (XF × XF)) : Prop := PPs X pos keys values (fs.map fun p => (rdE X.K p.1, rdE X.K p.2))
theorem vps_nil {pos : Pos} : VPs X pos [] [] [] := pps_nil
theorem vps_cons {pos : Pos} {k v : Expr} {ks : List (Option Expr)} {vs : List Expr} {fk fv : XF} {fs : List (XF × XF)} (hk : VE X k fk) (hv : VE X v fv) (hr : VPs X pos ks vs fs) : VPs X pos (some k :: ks) (v :: vs) ((fk, fv) :: fs) := pps_cons hk hv hr
theorem disp_core {g : Gx} {σ : L2.St} : ∀ (fs : List (XF × XF)) {Z : Addr → Prop} {H : Hp} {δ δ' S : DS} {T : L2.St} {ps : List (Key × D)} {Q : List (V × V) → Hp → Prop}, StV X.K g Z H δ σ S T → dpL fs δ = some (ps, δ') →
    (∀ Z' H' (kvs : List (Key × V)), kvs.map (·.1) = ps.map (·.1) → StV X.K g Z' H' δ' σ (((ps.map fun p => O.sh p.2).map some).reverse ++ S) (((kvs.map (·.2)).map some).reverse ++ T) → Q (kvs.map fun kv => (kV kv.1, kv.2)) H') →
    tPairs (fs.map fun p => (rdE X.K p.1, rdE X.K p.2)) σ H Q
  | [], Z, H, δ, δ', S, T, ps, Q, st, h, post => by
    cases h
    exact post Z H [] rfl st
  | (fk, fv) :: fs, Z, H, δ, δ', S, T, ps, Q, st, h, post => by
    simp only [dpL, Option.bind_eq_some_iff, Option.map_eq_some_iff] at h
    obtain ⟨⟨e1, δ1⟩, h1, ⟨o1, δ2⟩, h2, k, h3, ⟨e2, δ3⟩, h4, ⟨o2, δ4⟩, h5, ⟨ps5, δ5⟩, h6, h7⟩ := h
    simp only [Prod.mk.injEq] at h7
    obtain ⟨rfl, rfl⟩ := h7
    refine ⟨g, Z, δ, S, T, _, st, h1, fun x Z1 H1 st1 al1 => ?_⟩
    obtain ⟨Z2, st2, rd⟩ := st1.tkD al1 h2
    have ek := key_rep h3 rd
    subst ek
    refine ⟨g, Z2, δ2, _, _, _, st2.pop, h4, fun y Z3 H3 st3 al3 => ?_⟩
    obtain ⟨Z4, st4, rd4⟩ := st3.tkD al3 h5
    refine disp_core fs st4 h6 fun Z' H' kvs ek st' => post Z' H' ((k, y) :: kvs) (by simp [ek]) ?_
    have q1 : (((((k, o2.fz) :: ps5).map fun p => O.sh p.2).map some).reverse ++ S) = (((ps5.map fun p => O.sh p.2).map some).reverse ++ (some (.sh o2.fz) :: S)) := by simp
    have q2 : (((((k, y) :: kvs).map (·.2)).map some).reverse ++ T) = (((kvs.map (·.2)).map some).reverse ++ (some y :: T)) := by simp
    rw [q1, q2]
    exact st'
theorem ve_disp {pos : Pos} {keys : List (Option Expr)} {values : List Expr} {fs : List (XF × XF)} (h : VPs X pos keys values fs) (hn : fs.length ≤ 15) (hall : keys.all (·.isSome) = true) (hl : keys.length = values.length) (h0 : keys ≠ []) (h15 : keys.length ≤ 15) :
    VE X (.Dict keys values pos) (xDisp fs) := PEi (pe_disp h hall hl h0 h15) fun σ H Q ⟨g, Z, δ, S, T, r, st, hf, post⟩ => by
  simp only [xDisp, Option.map_eq_some_iff] at hf
  obtain ⟨⟨ps, δ'⟩, h1, rfl⟩ := hf
  intro p hp
  refine disp_core fs (st.push (Res.dK hp (ds := []) (by simp only [RepK]))) h1 fun Z' H' kvs ek st' => ?_
  obtain ⟨Z2, st2, rl⟩ := StV.frzL (by simpa using (congrArg List.length ek).symm) st'
  have rk : RepK X.K Z2 H' ps kvs := RepK.zip ek (by simpa [List.map_map, Function.comp_def, O.fz] using rl)
  have hH : H' p = some (.dK []) := by
    obtain ⟨F, ro⟩ := st2.top
    simp only [RepO] at ro
    obtain ⟨a, vs, ea, _, ha, rv⟩ := ro
    cases ea
    simp only [RepK] at rv
    subst rv
    exact ha
  have hkl : kvs.length ≤ 15 := by
    have a1 := congrArg List.length ek
    have a2 : ∀ (fs : List (XF × XF)) (δ δ' : DS) (ps : List (Key × D)), dpL fs δ = some (ps, δ') → ps.length = fs.length := by
      intro fs
      induction fs with
      | nil => intro δ δ' ps h; cases h; rfl
      | cons q fs ih =>
        intro δ δ' ps h
        obtain ⟨fk, fv⟩ := q
        simp only [dpL, Option.bind_eq_some_iff, Option.map_eq_some_iff] at h
        obtain ⟨⟨e1, δ1⟩, h1, ⟨o1, δ2⟩, h2, k, h3, ⟨e2, δ3⟩, h4, ⟨o2, δ4⟩, h5, ⟨ps5, δ5⟩, h6, h7⟩ := h
        simp only [Prod.mk.injEq] at h7
        obtain ⟨rfl, rfl⟩ := h7
        simp [ih _ _ _ h6]
    have a3 := a2 fs _ _ _ h1
    simp at a1
    omega
  refine ⟨hH, kvs, rfl, hkl, post _ Z2 _ ?_ trivial⟩
  have r := (st2.mutT (i := 0) (o' := .dK (mergeD [] ps)) (H' := L2.upd H' p (.dK (mergeK [] kvs))) rfl rfl fun F q nd nz => by
    simp only [RepO] at q
    obtain ⟨b, ws, eb, ef, _, _⟩ := q
    cases eb
    subst ef
    obtain ⟨m1, m2, m3⟩ := mut_at (u' := .dK (mergeK [] kvs)) hH (fun _ => by simp)
    refine ⟨m1, m2, m3, fun kp => ?_⟩
    simp only [RepO]
    exact ⟨p, _, rfl, rfl, upd_same, RepK.keep kp _ _ (RepK.merge rk (by simp only [RepK]))⟩).1
  exact r
end
end VS

namespace VS
open PySem PySem.Spec L2
/-! ### x in (..): a tuple of plain values -/
def flatD : D → Bool
  | .non => true
  | .bl _ => true
  | .int _ => true
  | .str _ => true
  | _ => false
def vOf : D → V
  | .bl b => .bl b
  | .int i => .int i
  | .str x => .str x
  | _ => .non
def opInT (x : D) : D → Option O
  | .tup ds => if flatD x && ds.all flatD then some (.sh (.bl (ds.any fun z => z.eqD x))) else none
  | _ => none
def opNinT (x : D) : D → Option O
  | .tup ds => if flatD x && ds.all flatD then some (.sh (.bl !(ds.any fun z => z.eqD x))) else none
  | _ => none
section
variable {K : PySem.W.Frag} {Z : Addr → Prop} {H : Hp} {v : V}
theorem RepD.flat {d : D} (h : flatD d = true) (r : RepD K Z H d v) : v = vOf d := by
  cases d <;> simp only [flatD, reduceCtorEq] at h <;> simpa only [RepD, vOf] using r
theorem Lk.flat {d : D} (h : flatD d = true) (r : Lk K Z H d v) : v = vOf d := by
  cases d <;> simp only [flatD, reduceCtorEq] at h <;> simpa only [Lk, RepD, vOf] using r
theorem flat_vOf {d : D} (h : flatD d = true) : flatV (vOf d) = true := by
  cases d <;> simp only [flatD, reduceCtorEq] at h <;> rfl
theorem eqV_vOf {d e : D} (h : flatD d = true) (k : flatD e = true) : eqV (vOf d) (vOf e) = d.eqD e := by
  cases d <;> simp only [flatD, reduceCtorEq] at h <;> cases e <;> simp only [flatD, reduceCtorEq] at k <;> simp only [vOf, eqV, D.eqD]
theorem RepL.flat : ∀ {ds : List D} {vs : List V}, ds.all flatD = true → RepL K Z H ds vs → vs = ds.map vOf
  | [], vs, _, r => by
    simp only [RepL] at r
    rw [r]
    rfl
  | d :: ds, vs, h, r => by
    simp only [List.all_cons, Bool.and_eq_true] at h
    simp only [RepL] at r
    obtain ⟨v, r', rfl, h1, h2⟩ := r
    rw [RepD.flat h.1 h1, RepL.flat h.2 h2]
    rfl
theorem any_flat {x : D} (hx : flatD x = true) : ∀ {ds : List D}, ds.all flatD = true → ((ds.map vOf).any fun y => eqV y (vOf x)) = ds.any fun z => z.eqD x
  | [], _ => rfl
  | d :: ds, h => by
    simp only [List.all_cons, Bool.and_eq_true] at h
    simp only [List.map_cons, List.any_cons, eqV_vOf h.1 hx, any_flat hx h.2]
theorem all_flat : ∀ {ds : List D}, ds.all flatD = true → (ds.map vOf).all flatV = true
  | [], _ => rfl
  | d :: ds, h => by
    simp only [List.all_cons, Bool.and_eq_true] at h
    simp only [List.map_cons, List.all_cons, flat_vOf h.1, all_flat h.2, Bool.and_self]
end
section
variable {X : Cx}
theorem ov_inT : OpV X (compareOp .In) opInT := by
  intro pins s σ H x y v u Q I rx ry ⟨Z, d1, d2, o, l1, l2, h, q⟩
  unfold opInT at h
  split at h
  · rename_i ds
    split at h
    · rename_i hk
      simp only [Bool.and_eq_true] at hk
      cases h
      obtain ⟨a, vs, rfl, ha, rl⟩ := l2.tup
      have e1 := Lk.flat hk.1 l1
      have e2 := RepL.flat hk.2 rl
      subst e1 e2
      refine op_in_seq pins s σ H _ _ v u Q I rx ry ⟨a, _, rfl, .inr (SqT.of ha), flat_vOf hk.1, all_flat hk.2, ?_⟩
      show Q (.bl (inV _ _)) H
      unfold inV
      rw [any_flat hk.1 hk.2]
      exact q _ _ Res.bl
    · cases h
  · cases h
theorem ov_ninT : OpV X (compareOp .NotIn) opNinT := by
  intro pins s σ H x y v u Q I rx ry ⟨Z, d1, d2, o, l1, l2, h, q⟩
  unfold opNinT at h
  split at h
  · rename_i ds
    split at h
    · rename_i hk
      simp only [Bool.and_eq_true] at hk
      cases h
      obtain ⟨a, vs, rfl, ha, rl⟩ := l2.tup
      have e1 := Lk.flat hk.1 l1
      have e2 := RepL.flat hk.2 rl
      subst e1 e2
      refine op_notIn_seq pins s σ H _ _ v u Q I rx ry ⟨a, _, rfl, .inr (SqT.of ha), flat_vOf hk.1, all_flat hk.2, ?_⟩
      show Q (.bl (!inV _ _)) H
      unfold inV
      rw [any_flat hk.1 hk.2]
      exact q _ _ Res.bl
    · cases h
  · cases h
end
end VS

/-! ### enumerate(t), t a tuple -/
namespace VS
open PySem PySem.Spec L2 PyProof.Rows
open PySem.AutoSeq1 (wpAny_loadPart')
theorem enumT_new (tp : Addr) (vs : Array Value) (n : Nat) (dc : Option Addr) (so : Array (Option Value)) : Meets (Builtin.«enumerate.__new__» ⟨[.type "enumerate", .ref tp], []⟩) (fun _ R s => s.heap.get? tp = some { cls := .type "tuple", dict := dc, data := .seq vs n, slots := so } ∧
      R (.ok (.ret (.ref (s.heap.push { cls := .type "tuple_iterator", data := .fields #[.ref tp, .int 0 0] }).objs.size)))
        { s with heap := (s.heap.push { cls := .type "tuple_iterator", data := .fields #[.ref tp, .int 0 0] }).push { cls := .type "enumerate", data := .fields #[.none, .bool false, .ref s.heap.objs.size, rawInt 0, .none, .none] } }) := .of_wp fun prog w A R s h => by
  obtain ⟨hp0, g0, d0, tk0, os0⟩ := s
  obtain ⟨ht, h⟩ := h
  have hsub := sub_enumerate
  have hT : Heap.IsTuple (Shared.heap ⟨hp0, g0, d0, tk0, os0⟩) tp vs := ⟨_, ht, rfl, n, rfl⟩
  wp_walk using wpAny_loadPart' ht
  refine wpAny_stack_any fun st0 => wpAny_pure ?_
  split
  · rename_i c0 _ _ _ _ _
    cases (c0 == Value.type "enumerate")
    · (wp_walk using wpAny_loadPart' ht, wpAny_pyIter_tuple hT); exact ⟨_, rfl, h⟩
    · (wp_walk using wpAny_loadPart' ht, wpAny_pyIter_tuple hT); exact ⟨_, rfl, h⟩
  · (wp_walk using wpAny_loadPart' ht, wpAny_pyIter_tuple hT); exact ⟨_, rfl, h⟩
section
variable {prog : Program} {w : World} {A : Around} {E : Value → Shared → Prop} {s : Shared}
theorem call_enumT {tp : Addr} {vs : Array Value} {Q : Value → Shared → Prop} (hT : IsTup s.heap tp vs)
    (h : ∀ h', IsEnum h' (s.heap.objs.size + 1) s.heap.objs.size 0 .none → IsTupIter h' s.heap.objs.size tp 0 → h'.objs.size = s.heap.objs.size + 2 → (∀ b o, s.heap.get? b = some o → h'.get? b = some o) → Q (.ref (s.heap.objs.size + 1)) { s with heap := h' }) :
    wpAny (model prog w) A (call (.type "enumerate") [.ref tp]) Q E s := by
  obtain ⟨⟨c0, dc, dt, so⟩, ht, hc, n, hd⟩ := hT
  replace hc : c0 = .type "tuple" := hc
  replace hd : dt = .seq vs n := hd
  subst hc hd
  refine callType_new F.called_enumerate (by decide) (F.typeCall_enumerate_1 _) (F.newCall_enumerate_1 _) (fun ob => F.args_object_init_2 ob _) F.entry_enumerate_new (enumT_new tp vs n dc so) ⟨ht, ?_⟩
  have hz : (s.heap.push { cls := .type "tuple_iterator", data := .fields #[.ref tp, .int 0 0] }).objs.size = s.heap.objs.size + 1 := Heap.size_push ..
  show _ ∧ _
  rw [hz]
  have he : IsEnum ((s.heap.push { cls := .type "tuple_iterator", data := .fields #[.ref tp, .int 0 0] }).push { cls := .type "enumerate", data := .fields #[.none, .bool false, .ref s.heap.objs.size, rawInt 0, .none, .none] }) (s.heap.objs.size + 1) s.heap.objs.size 0 .none := by
    have q := Heap.get?_push_size (s.heap.push { cls := .type "tuple_iterator", data := .fields #[.ref tp, .int 0 0] }) (o := { cls := .type "enumerate", data := .fields #[.none, .bool false, .ref s.heap.objs.size, rawInt 0, .none, .none] }) rfl
    rwa [hz] at q
  exact ⟨⟨_, he, rfl⟩, h _ he ⟨_, Heap.get?_push_of_some _ (Heap.get?_push_size _ rfl), rfl, rfl⟩ (by rw [Heap.size_push, hz]) fun b ob y => Heap.get?_push_of_some _ (Heap.get?_push_of_some _ y)⟩
theorem drawsT (hh : A.handled = none) {jt tp : Addr} {vs : Array Value} (hne : tp ≠ jt) : Draws prog w A jt [jt, tp] vs.size (fun i x => vs[i]? = some x) (fun i h => IsTupIter h jt tp i ∧ IsTup h tp vs) where
  live := fun i h st => let ⟨⟨o, ho, _⟩, _⟩ := st; ⟨o, ho⟩
  frame := fun i h h' st k => let ⟨⟨o, ho, r⟩, o2, ho2, r2⟩ := st; ⟨⟨o, k jt (by simp) o ho, r⟩, o2, k tp (by simp) o2 ho2, r2⟩
  item := fun i s Q E hi st hQ => by
    unfold Builtin.SmallTypes.nextOf
    have hx : vs[i]? = some vs[i] := by simp [hi]
    exact wpAny_bind (special_tup_item st.1 st.2 hx fun h' q1 sb => wpAny_pure (hQ _ h' s.toks hx ⟨q1, st.2.extBut sb.extBut hne⟩ sb))
  done := fun s Q E st hE => by
    unfold Builtin.SmallTypes.nextOf
    refine wpAny_bind (special_tup_end hh st.1 st.2 (by simp) fun e h' sx eb => ?_)
    obtain ⟨a, o, vs', rfl, ho, hc, _⟩ := sx
    exact hE h' a eb ⟨o, ho, hc⟩
end
/-- the tuple at a, each item in a new pair -/
def IteT (K : PySem.W.Frag) (a : Addr) : It :=
  ⟨fun i H => ∃ (xs : List V) (x : V), SqT K H a xs ∧ xs[i]? = some x, fun i H v H' => ∃ T x, v = .ref T ∧ H T = none ∧ H' = upd H T (.tup [.int (i : Nat), x]) ∧ ∀ xs, SqT K H a xs → xs[i]? = some x, fun i H => ∃ xs : List V, SqT K H a xs ∧ xs.length ≤ i⟩
theorem turn_enumT {P : Program} {w : World} {K : PySem.W.Frag} {elts : List Expr} {kk : Nat} {tpos : Pos} (a e jt : Addr) :
    Turn P w K (.Tuple elts kk tpos) (IteT K a) [e, jt] e (fun i h => (∃ old, IsEnum h e jt ((i : Nat) : Int) old) ∧ IsTupIter h jt a i ∧ e ≠ jt ∧ a ≠ jt) where
  mem := by simp
  obj := fun i h st b hb => by
    obtain ⟨⟨old, he⟩, ⟨o, ho, hc, hd⟩, _⟩ := st
    rcases (show b = e ∨ b = jt by simpa using hb) with rfl | rfl
    · exact ⟨_, he, fun v q => nomatch q⟩
    · exact ⟨o, ho, fun v q => by rw [hd] at q; cases q⟩
  keep := fun i h h' st k => let ⟨⟨old, he⟩, ⟨o, ho, r⟩, hn⟩ := st; ⟨⟨old, k e (by simp) _ he⟩, ⟨o, k jt (by simp) o ho, r⟩, hn⟩
  item := by
    intro X hP hw hK hc i pins s σ H E I hf st hg
    subst hP hw hK
    obtain ⟨⟨old, he⟩, hjt, hne, hna⟩ := st
    obtain ⟨xs, x, hq, hx⟩ := hg
    obtain ⟨its, rv, pl, hz⟩ := I.tuple hq
    obtain ⟨u, hu, ru⟩ := rv.get hx
    have hel : e < s.heap.objs.size := Heap.lt_size he
    have hil : jt < s.heap.objs.size := by obtain ⟨_, q, _⟩ := hjt; exact Heap.lt_size q
    have hea : e ∉ [jt, a] := by
      intro hm
      rcases (show e = jt ∨ e = a by simpa using hm) with z | z
      · exact hne z
      · obtain ⟨o, ho, hcl, _⟩ := pl
        rw [← z, he] at ho
        cases ho
        exact absurd (show Value.type "enumerate" = Value.type "tuple" from hcl) (by intro z; injection z with z; exact absurd z (by decide))
    have hlt : i < its.toArray.size := by
      have := (List.getElem?_eq_some_iff.mp hu).1
      simpa using this
    have hiu : its.toArray[i]? = some u := by simpa using hu
    refine wpAny_pyNext_enum_itemD (drawsT (A := X.A.in1) (I.ok.hd hc) hna) he ⟨hjt, pl⟩ hlt hne hea fun x' h' tk hP ho st' hT hsz hk => ?_
    have ex : x' = u := by
      have q : some x' = some u := hP.symm.trans hiu
      exact Option.some.inj q
    subst ex
    refine ⟨_, rfl, wpAny_letOwnedTupleGo_enum (s := { s with heap := h', toks := tk + 1 }) ho fun h2 he2 sb => ?_⟩
    have hT2 := (sb.2 _ (Nat.ne_of_gt hel)).trans hT
    have new : ObjOk X.prog X.w (upd H s.heap.objs.size (.tup [.int (i : Nat), x])) h2 s.heap.objs.size (.tup [.int (i : Nat), x]) := ⟨by show 2 ≤ sizeLine; decide, [.int i tk, x'], .cons ⟨_, rfl⟩ (.cons ru .nil), ⟨_, hT2, rfl, _, rfl⟩⟩
    have I1 : Inv X pins σ (upd H s.heap.objs.size (.tup [.int (i : Nat), x])) { s with heap := h2, toks := tk + 1 } := I.turnedNew (ch := [e, jt]) (fun b ob hb q => (sb.2 b (fun z => hb (by simp [z]))).trans (hk b ob (fun z => hb (by simp [z])) (fun z => hb (by simp [z])) q)) hf (Nat.le_refl _) new
    refine ⟨.ref s.heap.objs.size, _, I1, rfl, ⟨_, x, rfl, I.hok.fresh (Nat.le_refl _), rfl, fun ys hy => by rw [I.tuple_inj hy hq]; exact hx⟩, ⟨⟨x', by rw [show ((i + 1 : Nat) : Int) = (i : Int) + 1 by omega]; exact he2⟩, ?_, hne, hna⟩, fun b hb => ?_⟩
    · obtain ⟨⟨o, ho2, r⟩, _⟩ := st'
      exact ⟨o, (sb.2 jt (Ne.symm hne)).trans ho2, r⟩
    · have hb2 : b < s.heap.objs.size := by rcases (show b = e ∨ b = jt by simpa using hb) with rfl | rfl <;> assumption
      rw [upd_ne (Nat.ne_of_lt hb2)]
      exact (hf b hb).1
  done := by
    intro X hP hw hK hc i pins s σ H E I hf st hg
    subst hP hw hK
    obtain ⟨⟨old, he⟩, hjt, hne, hna⟩ := st
    obtain ⟨xs, hq, hx⟩ := hg
    obtain ⟨its, rv, pl, hz⟩ := I.tuple hq
    obtain ⟨f0, f1, f2, f3, f4, f5⟩ := hf jt (by simp)
    have hl := rv.length
    have hT : s.TypeIs (.ref e) "enumerate" := ⟨_, he, rfl⟩
    unfold pyNext
    refine wpAny_bind (wpAny_attempt (wpAny_callSpecial?_slot (name := Str.ofString "__next__") hT F.slot_enumerate_next (wpAny_call_entry F.slot_enumerate_next hT F.entry_enumerate_next ?_ (F.args_enumerate_next_1 _))))
    show wpAny _ _ ((field (.ref e) 2) >>= _) _ _ _
    refine wpAny_bind (wpAny_field he rfl (x := .ref jt) rfl ?_)
    unfold Builtin.SmallTypes.nextOf
    refine wpAny_bind (wpAny_bind (special_tup_end (A := X.A.in1) (I.ok.hd hc) hjt pl (by simp; omega) fun ev h' sx eb => ?_))
    obtain ⟨b0, ob0, vs', rfl, ho, hcl, _⟩ := sx
    refine wpAny_bind (wpAny_isInstance (T := "StopIteration") (b := true) ⟨ob0, ho, hcl⟩ isSubtype_stop (wpAny_pure ?_))
    exact ⟨rfl, I.turned (t' := s.toks) (fun b o hb q => eb b o hb q) f0 f1 f3 f4 f5⟩
  self := fun A i s Q E st h => let ⟨⟨_, he⟩, _⟩ := st; wpAny_pyIter_enum he h
/-- of a list or a tuple -/
def iEnumU (K : PySem.W.Frag) (ta : TA) : TI := fun σ H R => ta σ H fun vs H1 => ∃ a xs, vs = [.ref a] ∧ ((SqL K H1 a xs ∧ R (Ite K a) H1) ∨ (SqT K H1 a xs ∧ R (IteT K a) H1))
theorem pi_enumU {X : Cx} {e : Expr} {ta : TA} {p pos tpos : Pos} {elts : List Expr} {kk : Nat} (hg : Gl X "enumerate") (hm : X.mg "enumerate" = none) (ha : PA X [e] ta) (hs : starEach [e] X.env = [(false, eval e X.env)] := by rfl) : PI X (.Tuple elts kk tpos) (.Call (.Name "enumerate" p) [e] [] pos) (iEnumU X.K ta) := by
  refine ⟨fun pins s σ H R I h => ?_⟩
  refine Call_ (ld_blt I hg hm boot_enumerate (callWith_type1 (thn (ha.run pos pins s σ H _ I h) fun us s1 ⟨vs, H1, I1, r1, q1⟩ => ?_) hs rfl))
  obtain ⟨a, xs, rfl, q⟩ := q1
  cases r1 with
  | cons r rr =>
    cases rr
    cases r
    have fresh : ∀ b ∈ [s1.heap.objs.size + 1, s1.heap.objs.size], FpOk X pins H1 b := fun b hb => by
      have hle : s1.heap.objs.size ≤ b := by rcases (show b = s1.heap.objs.size + 1 ∨ b = s1.heap.objs.size by simpa using hb) with rfl | rfl <;> omega
      exact I1.fpOk hle (I1.hok.fresh hle)
    rcases q with ⟨hq, q⟩ | ⟨hq, q⟩
    · obtain ⟨its, rv, pl, hz⟩ := I1.list hq
      exact call_enumerate_list pl.isList fun h' he hit hsz hk => wpAny_pyIter_enum he ⟨_, _, _, _, H1, rfl, I1.kept (t' := s1.toks) hk, turn_enum a _ _, ⟨⟨.none, he⟩, hit, Nat.succ_ne_self _⟩, fresh, q⟩
    · obtain ⟨its, rv, pl, hz⟩ := I1.tuple hq
      exact call_enumT pl fun h' he hit hsz hk => wpAny_pyIter_enum he ⟨_, _, _, _, H1, rfl, I1.kept (t' := s1.toks) hk, turn_enumT a _ _, ⟨⟨.none, he⟩, hit, Nat.succ_ne_self _, Nat.ne_of_lt pl.lt⟩, fresh, q⟩
def seqOf : D → Option (List D)
  | .lst ds => some ds
  | .tup ds => some ds
  | _ => none
def iEnmU (fs : BF) : IF := fun δ => (fs δ).bind fun r => match r.1 with
  | [o] => (seqOf o.fz).map fun ds => (enumD 0 ds, r.2)
  | _ => none
section
variable {X : Cx} {e : Expr}
theorem vi_enumU {p pos tpos : Pos} {elts : List Expr} {kk : Nat} {fs : BF} (hg : Gl X "enumerate") (hm : X.mg "enumerate" = none) (ha : VB X [e] fs) (hs : starEach [e] X.env = [(false, eval e X.env)] := by rfl) :
    VI X (.Tuple elts kk tpos) (.Call (.Name "enumerate" p) [e] [] pos) (iEnmU fs) := PIi (pi_enumU hg hm ha hs) fun σ H R ⟨g, Z, δ, S, T, r, st, hf, post⟩ => by
  simp only [iEnmU, Option.bind_eq_some_iff] at hf
  obtain ⟨⟨os, δ1⟩, h1, h2⟩ := hf
  refine ⟨g, Z, δ, S, T, _, st, h1, fun vs Z1 H1 st1 hl => ?_⟩
  split at h2
  · rename_i o q
    have q' : os = [o] := q
    subst q'
    obtain ⟨v, rfl⟩ := one_of (n := 0) hl
    obtain ⟨ds, q2, h3⟩ := Option.map_eq_some_iff.mp h2
    cases h3
    obtain ⟨Z2, st2, rd⟩ := StV.frzT st1
    generalize o.fz = dd at q2 st2 rd
    cases dd <;> simp only [seqOf, reduceCtorEq, Option.some.injEq] at q2 <;> subst q2
    · simp only [RepD] at rd
      obtain ⟨a, ws, rfl, ha, ra⟩ := rd
      refine ⟨a, ws, rfl, .inr ⟨SqT.of ha, post _ [some (.sh (.tup _))] [some (.ref a)] Z2 H1 rfl st2 ⟨fun Z H δ σ S T s i d e => ?_, fun Z H δ σ S T s => ?_⟩⟩⟩
      · have q := topD s
        simp only [RepD] at q
        obtain ⟨b, ws, eb, hb, rb⟩ := q
        cases eb
        rw [enumD_get] at e
        obtain ⟨x, e1, e2⟩ := Option.map_eq_some_iff.mp e
        obtain ⟨y, e3, r1⟩ := rb.get e1
        refine ⟨⟨ws, y, SqT.of hb, e3⟩, fun z H2 ⟨P, x', q1, q2, q3, q4⟩ => ?_⟩
        have q5 := q4 ws (SqT.of hb)
        rw [e3] at q5
        cases q5
        subst q1 q3 e2
        refine Res.tup q2 ?_
        simp only [RepL, RepD]
        exact ⟨_, _, rfl, by rw [Nat.zero_add], _, _, rfl, r1, rfl⟩
      · have q := topD s
        simp only [RepD] at q
        obtain ⟨b, ws, eb, hb, rb⟩ := q
        cases eb
        exact ⟨ws, SqT.of hb, by rw [enumD_length, rb.length]; exact Nat.le_refl _⟩
    · simp only [RepD] at rd
      obtain ⟨a, ws, rfl, _, ha, ra⟩ := rd
      refine ⟨a, ws, rfl, .inl ⟨SqL.of ha, post _ [some (.sh (.lst _))] [some (.ref a)] Z2 H1 rfl st2 ⟨fun Z H δ σ S T s i d e => ?_, fun Z H δ σ S T s => ?_⟩⟩⟩
      · have q := topD s
        simp only [RepD] at q
        obtain ⟨b, ws, eb, _, hb, rb⟩ := q
        cases eb
        rw [enumD_get] at e
        obtain ⟨x, e1, e2⟩ := Option.map_eq_some_iff.mp e
        obtain ⟨y, e3, r1⟩ := rb.get e1
        refine ⟨⟨ws, y, SqL.of hb, e3⟩, fun z H2 ⟨P, x', q1, q2, q3, q4⟩ => ?_⟩
        have q5 := q4 ws (SqL.of hb)
        rw [e3] at q5
        cases q5
        subst q1 q3 e2
        refine Res.tup q2 ?_
        simp only [RepL, RepD]
        exact ⟨_, _, rfl, by rw [Nat.zero_add], _, _, rfl, r1, rfl⟩
      · have q := topD s
        simp only [RepD] at q
        obtain ⟨b, ws, eb, _, hb, rb⟩ := q
        cases eb
        exact ⟨ws, SqL.of hb, by rw [enumD_length, rb.length]; exact Nat.le_refl _⟩
  · cases h2
theorem RI_enmU {fs : BF} {δ : DS} {P : List D → DS → Prop} (h : RB fs δ fun os δ1 => ∃ o ds, os = [o] ∧ seqOf o.fz = some ds ∧ P (enumD 0 ds) δ1) : RI (iEnmU fs) δ P := by
  obtain ⟨os, δ1, h1, o, ds, rfl, h2, p⟩ := h
  exact ⟨_, _, by simp [iEnmU, h1, h2], p⟩
end
end VS

namespace VS
open PySem PySem.Spec L2
/-! ### str * int -/
def opMulS : D → D → Option O
  | .str x, .int k => if decide (0 ≤ k) && decide (k ≤ 1000) && decide (x.length ≤ 1000) then some (.sh (.str (Txt.mul x k))) else none
  | _, _ => none
theorem mulOk_small {x : Str} {k : Int} (h0 : 0 ≤ k) (h1 : k ≤ 1000) (h2 : x.length ≤ 1000) : MulOk x k := by
  have z63 : (2 : Int) ^ 63 = 9223372036854775808 := by decide
  refine ⟨?_, fun hk _ => ?_, fun hk _ => ?_⟩
  · rw [z63, decide_eq_false (by omega), decide_eq_false (by omega)]
    rfl
  · rw [z63]
    have h3 : (9223372036854775808 - 1 : Int) / 1000 ≤ (9223372036854775808 - 1 : Int) / k := by
      rw [Int.le_ediv_iff_mul_le (by omega)]
      have : (9223372036854775808 - 1 : Int) / 1000 * k ≤ (9223372036854775808 - 1 : Int) / 1000 * 1000 := Int.mul_le_mul_of_nonneg_left h1 (by decide)
      omega
    have : (9223372036854775808 - 1 : Int) / 1000 = 9223372036854775 := by decide
    omega
  · have hm : x.length * k.toNat ≤ 1000 * 1000 := Nat.mul_le_mul h2 (by omega)
    show decide (x.length * k.toNat > sizeLine) = false
    refine decide_eq_false ?_
    have : (1000 * 1000 : Nat) ≤ sizeLine := by decide
    omega
section
variable {X : Cx}
theorem ov_mulS : OpV X (binaryOp .Mult) opMulS := by
  intro pins s σ H x y v u Q I rx ry ⟨Z, d1, d2, o, l1, l2, h, q⟩
  unfold opMulS at h
  split at h
  · rename_i a k
    split at h
    · rename_i hk
      simp only [Bool.and_eq_true, decide_eq_true_eq] at hk
      cases h
      cases l1.str; cases l2.int
      obtain ⟨t, rfl⟩ := rx
      obtain ⟨t', rfl⟩ := ry
      exact SB.mul (mulOk_small hk.1.1 hk.1.2 hk.2) fun t2 tk => ⟨.str (Txt.mul a k), H, I.tok _, ⟨_, rfl⟩, q _ _ Res.str⟩
    · cases h
  · cases h
end
end VS

namespace VS
open PySem PySem.Spec L2
/-! ### the order of tuples -/
def isTup : D → Bool
  | .tup _ => true
  | _ => false
def ltOk (a b : D) : Bool := a.okE 30 && b.okE 30 && isTup a && PySem.W.alike a.toP b.toP
def opLtT (a b : D) : Option O := if ltOk a b then some (.sh (.bl (PySem.W.dataLt a.toP b.toP))) else none
def opGtT (a b : D) : Option O := if ltOk a b then some (.sh (.bl (PySem.W.dataLt b.toP a.toP))) else none
theorem ltOk_room {X : Cx} {a b : D} (hu : X.A.units + 64 < cLine) (k : a.okE 30 = true) : X.A.units + min a.toP.depth b.toP.depth < cLine := by
  have q := (D.shaped_toP 30 a k).2
  have := Nat.min_le_left a.toP.depth b.toP.depth
  omega
section
variable {X : Cx}
theorem ov_ltT (hu : X.A.units + 64 < cLine) : OpV X (compareOp .Lt) opLtT := by
  intro pins s σ H x y v u Q I rx ry ⟨Z, d1, d2, o, l1, l2, h, q⟩
  unfold opLtT at h
  split at h
  · rename_i hk
    simp only [ltOk, Bool.and_eq_true] at hk
    obtain ⟨⟨⟨k1, k2⟩, k3⟩, k4⟩ := hk
    cases h
    obtain ⟨as, r1⟩ := Dp.reads I _ x v (l1.dp k1) rx
    obtain ⟨bs, r2⟩ := Dp.reads I _ y u (l2.dp k2) ry
    exact PySem.W.lt_data r1 r2 k4 (by cases d1 <;> simp [isTup] at k3; simp [D.toP]) (ltOk_room hu k1) ⟨.bl _, H, I, rfl, q _ _ Res.bl⟩
  · cases h
theorem ov_gtT (hu : X.A.units + 64 < cLine) : OpV X (compareOp .Gt) opGtT := by
  intro pins s σ H x y v u Q I rx ry ⟨Z, d1, d2, o, l1, l2, h, q⟩
  unfold opGtT at h
  split at h
  · rename_i hk
    simp only [ltOk, Bool.and_eq_true] at hk
    obtain ⟨⟨⟨k1, k2⟩, k3⟩, k4⟩ := hk
    cases h
    obtain ⟨as, r1⟩ := Dp.reads I _ x v (l1.dp k1) rx
    obtain ⟨bs, r2⟩ := Dp.reads I _ y u (l2.dp k2) ry
    exact PySem.W.gt_data r1 r2 k4 (by cases d1 <;> simp [isTup] at k3; simp [D.toP]) (ltOk_room hu k1) ⟨.bl _, H, I, rfl, q _ _ Res.bl⟩
  · cases h
end
end VS

/-! ### zip(t, u), both tuples -/
namespace VS
open PySem PySem.Spec L2 PyProof.Rows PySem.W
abbrev tit (tp : Addr) : Obj := { cls := .type "tuple_iterator", data := .fields #[.ref tp, .int 0 0] }
abbrev zt1 (h : Heap) (p1 : Addr) : Heap := h.push (tit p1)
abbrev zt2 (h : Heap) (p1 p2 : Addr) : Heap := (zt1 h p1).push (tit p2)
abbrev zt3 (h : Heap) (p1 p2 : Addr) : Heap := (zt2 h p1 p2).push { cls := .type "tuple", data := .seq #[.ref h.objs.size, .ref (zt1 h p1).objs.size] }
abbrev zt4 (h : Heap) (p1 p2 : Addr) : Heap := (zt3 h p1 p2).push { cls := .type "tuple", data := .seq #[.none, .none] }
abbrev zt5 (h : Heap) (p1 p2 : Addr) : Heap := (zt4 h p1 p2).push { cls := .type "zip", data := .fields #[.none, .bool false, .bool false, .ref (zt2 h p1 p2).objs.size, .ref (zt3 h p1 p2).objs.size] }
theorem zipT_new (p1 p2 : Addr) (us ws : Array Value) : Meets (Builtin.«zip.__new__» ⟨[.type "zip", .ref p1, .ref p2], []⟩) (fun _ R s => s.heap.IsTuple p1 us ∧ s.heap.IsTuple p2 ws ∧ R (.ok (.ret (.ref (zt4 s.heap p1 p2).objs.size))) { s with heap := zt5 s.heap p1 p2 }) := .of_wp fun prog w A R s h => by
  obtain ⟨hp0, g0, d0, tk0, os0⟩ := s
  obtain ⟨ht1, ht2, h⟩ := h
  have hsub := sub_zip
  have hT1 : Heap.IsTuple (Shared.heap ⟨hp0, g0, d0, tk0, os0⟩) p1 us := ht1
  have hT2 : Heap.IsTuple (Shared.heap ⟨hp0.push (tit p1), g0, d0, tk0, os0⟩) p2 ws := Heap.IsTuple.push ht2 _
  wp_walk using wpAny_pyIter_tuple hT1, wpAny_pyIter_tuple hT2
  exact ⟨_, rfl, h⟩
section
variable {prog : Program} {w : World} {A : Around} {E : Value → Shared → Prop} {s : Shared}
theorem call_zipT {p1 p2 : Addr} {us ws : Array Value} {Q : Value → Shared → Prop} (ht1 : IsTup s.heap p1 us) (ht2 : IsTup s.heap p2 ws)
    (h : ∀ h', IsZip h' (s.heap.objs.size + 4) (s.heap.objs.size + 2) (s.heap.objs.size + 3) .none → IsTupOf2 h' (s.heap.objs.size + 2) (.ref s.heap.objs.size) (.ref (s.heap.objs.size + 1)) → IsTupOf2 h' (s.heap.objs.size + 3) .none .none →
      IsTupIter h' s.heap.objs.size p1 0 → IsTupIter h' (s.heap.objs.size + 1) p2 0 → (∀ c o, s.heap.get? c = some o → h'.get? c = some o) → Q (.ref (s.heap.objs.size + 4)) { s with heap := h' }) :
    wpAny (model prog w) A (call (.type "zip") [.ref p1, .ref p2]) Q E s := by
  refine callType_new F.called_zip (by decide) (F.typeCall_zip_2 _ _) (F.newCall_zip_2 _ _) (fun ob => F.args_object_init_3 ob _ _) F.entry_zip_new (zipT_new p1 p2 us ws) ⟨ht1, ht2, ?_⟩
  have z1 : (zt1 s.heap p1).objs.size = s.heap.objs.size + 1 := Heap.size_push ..
  have z2 : (zt2 s.heap p1 p2).objs.size = s.heap.objs.size + 2 := by rw [Heap.size_push, z1]
  have z3 : (zt3 s.heap p1 p2).objs.size = s.heap.objs.size + 3 := by rw [Heap.size_push, z2]
  have z4 : (zt4 s.heap p1 p2).objs.size = s.heap.objs.size + 4 := by rw [Heap.size_push, z3]
  have g5 : (zt5 s.heap p1 p2).get? (zt4 s.heap p1 p2).objs.size = some _ := Heap.get?_push_size _ rfl
  have g4 : (zt5 s.heap p1 p2).get? (zt3 s.heap p1 p2).objs.size = some _ := Heap.get?_push_of_some _ (Heap.get?_push_size _ rfl)
  have g3 : (zt5 s.heap p1 p2).get? (zt2 s.heap p1 p2).objs.size = some _ := Heap.get?_push_of_some _ (Heap.get?_push_of_some _ (Heap.get?_push_size _ rfl))
  have g2 : (zt5 s.heap p1 p2).get? (zt1 s.heap p1).objs.size = some _ := Heap.get?_push_of_some _ (Heap.get?_push_of_some _ (Heap.get?_push_of_some _ (Heap.get?_push_size _ rfl)))
  have g1 : (zt5 s.heap p1 p2).get? s.heap.objs.size = some _ := Heap.get?_push_of_some _ (Heap.get?_push_of_some _ (Heap.get?_push_of_some _ (Heap.get?_push_of_some _ (Heap.get?_push_size _ rfl))))
  show _ ∧ _
  (rw [z2, z3, z4] at g5); (rw [z1, z2] at g3); (rw [z3] at g4); (rw [z1] at g2); (rw [z4])
  exact ⟨⟨_, g5, rfl⟩, h _ g5 g3 g4 ⟨_, g1, rfl, rfl⟩ ⟨_, g2, rfl, rfl⟩ fun c ob y => Heap.get?_push_of_some _ (Heap.get?_push_of_some _ (Heap.get?_push_of_some _ (Heap.get?_push_of_some _ (Heap.get?_push_of_some _ y))))⟩
end
/-- two tuples of known lengths, the items in new pairs -/
def ItzT (K : PySem.W.Frag) (a b : Addr) (n m : Nat) : It :=
  ⟨fun i H => ∃ (xs ys : List V) (x y : V), SqT K H a xs ∧ SqT K H b ys ∧ xs.length = n ∧ ys.length = m ∧ xs[i]? = some x ∧ ys[i]? = some y,
    fun i H v H' => ∃ T x y, v = .ref T ∧ H T = none ∧ H' = upd H T (.tup [x, y]) ∧ (∀ xs, SqT K H a xs → xs[i]? = some x) ∧ ∀ ys, SqT K H b ys → ys[i]? = some y,
    fun i H => ∃ xs ys : List V, SqT K H a xs ∧ SqT K H b ys ∧ xs.length = n ∧ ys.length = m ∧ (n ≤ i ∨ m ≤ i)⟩
theorem drawsTn {prog : Program} {w : World} {A : Around} (hh : A.handled = none) {jt tp : Addr} {vs : Array Value} {n : Nat} (hn : vs.size = n) (hne : tp ≠ jt) : Draws prog w A jt [jt, tp] n (fun i x => vs[i]? = some x) (fun i h => IsTupIter h jt tp i ∧ IsTup h tp vs) := by
  subst hn
  exact drawsT hh hne
structure ZAp (z TI TO i1 i2 a b : Addr) : Prop where
  s : ZipSep2 z TI TO i1 i2 [i1, a] [i2, b]
  a1 : a ≠ i1
  b2 : b ≠ i2
theorem turn_zipT {P : Program} {w : World} {K : PySem.W.Frag} {elts : List Expr} {kk : Nat} {tpos : Pos} {a b z TI TO i1 i2 : Addr} {n m : Nat} (D : ZAp z TI TO i1 i2 a b) :
    Turn P w K (.Tuple elts kk tpos) (ItzT K a b n m) [z, TI, TO, i1, i2] z (fun i h => IsZip h z TI TO .none ∧ IsTupOf2 h TI (.ref i1) (.ref i2) ∧ (∃ x y, IsTupOf2 h TO x y) ∧ IsTupIter h i1 a i ∧ IsTupIter h i2 b i ∧ i ≤ n ∧ i ≤ m) where
  mem := by simp
  obj := fun i h st c hc => by
    obtain ⟨hz, hTI, ⟨x, y, hTO⟩, ⟨o1, e1, _, d1⟩, ⟨o2, e2, _, d2⟩, _⟩ := st
    rcases (show c = z ∨ c = TI ∨ c = TO ∨ c = i1 ∨ c = i2 by simpa using hc) with q | q | q | q | q <;> rw [q]
    · exact ⟨_, hz, fun v q => nomatch q⟩
    · exact ⟨_, hTI, fun v q => nomatch q⟩
    · exact ⟨_, hTO, fun v q => nomatch q⟩
    · exact ⟨o1, e1, fun v q => by rw [d1] at q; cases q⟩
    · exact ⟨o2, e2, fun v q => by rw [d2] at q; cases q⟩
  keep := fun i h h' st k => by
    obtain ⟨hz, hTI, ⟨x, y, hTO⟩, ⟨o1, e1, r1⟩, ⟨o2, e2, r2⟩, le⟩ := st
    exact ⟨k z (by simp) _ hz, k TI (by simp) _ hTI, ⟨x, y, k TO (by simp) _ hTO⟩, ⟨o1, k i1 (by simp) o1 e1, r1⟩, ⟨o2, k i2 (by simp) o2 e2, r2⟩, le⟩
  item := by
    intro X hP hw hK hc i pins s σ H E I hf st hg
    subst hP hw hK
    obtain ⟨hz, hTI, ⟨x0, y0, hTO⟩, h1, h2, le1, le2⟩ := st
    obtain ⟨xs, ys, x, y, hqx, hqy, hxn, hym, hx, hy⟩ := hg
    obtain ⟨its, rv, pl, _⟩ := I.tuple hqx
    obtain ⟨its2, rv2, pl2, _⟩ := I.tuple hqy
    obtain ⟨u, hu, ru⟩ := rv.get hx
    obtain ⟨u2, hu2, ru2⟩ := rv2.get hy
    have hzl : z < s.heap.objs.size := Heap.lt_size hz
    have l1 := rv.length
    have l2 := rv2.length
    have hin : i < n := by have := (List.getElem?_eq_some_iff.mp hx).1; omega
    have him : i < m := by have := (List.getElem?_eq_some_iff.mp hy).1; omega
    have hiu : its.toArray[i]? = some u := by simpa using hu
    have hiu2 : its2.toArray[i]? = some u2 := by simpa using hu2
    refine wpAny_pyNext_zipD2_item D.s (drawsTn (A := X.A.in1) (n := n) (I.ok.hd hc) (by simp; omega) D.a1) (drawsTn (A := X.A.in1) (n := m) (I.ok.hd hc) (by simp; omega) D.b2) hz hTI hTO ⟨h1, pl⟩ ⟨h2, pl2⟩ hin him fun x1 x2 h' tk P1 P2 z' TO' st1 st2 hT hsz hk => ?_
    have ex1 : x1 = u := Option.some.inj (show some x1 = some u from P1.symm.trans hiu)
    have ex2 : x2 = u2 := Option.some.inj (show some x2 = some u2 from P2.symm.trans hiu2)
    subst ex1 ex2
    refine ⟨_, rfl, wpAny_letOwnedTupleGo_zip (s := { s with heap := h', toks := tk }) z' fun h2' z2 sb => ?_⟩
    have hT2 := (sb.2 _ (Nat.ne_of_gt hzl)).trans hT
    have new : ObjOk X.prog X.w (upd H s.heap.objs.size (.tup [x, y])) h2' s.heap.objs.size (.tup [x, y]) := ⟨by show 2 ≤ sizeLine; decide, [x1, x2], .cons ru (.cons ru2 .nil), ⟨_, hT2, rfl, _, rfl⟩⟩
    have I1 : Inv X pins σ (upd H s.heap.objs.size (.tup [x, y])) { s with heap := h2', toks := tk } := I.turnedNew (t' := tk) (ch := [z, TI, TO, i1, i2]) (fun c o hb q => (sb.2 c (fun q' => hb (by simp [q']))).trans (hk c o (fun q' => hb (by simp [q'])) (fun q' => hb (by simp [q'])) (fun q' => hb (by simp [q'])) (fun q' => hb (by simp [q'])) q)) hf (Nat.le_refl _) new
    have i1z : i1 ≠ z := fun e => D.s.zf1 (by rw [← e]; simp)
    have i2z : i2 ≠ z := fun e => D.s.zf2 (by rw [← e]; simp)
    refine ⟨.ref s.heap.objs.size, _, I1, rfl, ⟨_, x, y, rfl, I.hok.fresh (Nat.le_refl _), rfl, fun l hl => by rw [I.tuple_inj hl hqx]; exact hx, fun l hl => by rw [I.tuple_inj hl hqy]; exact hy⟩, ⟨z2, ?_, ⟨x1, x2, ?_⟩, ?_, ?_, hin, him⟩, fun c hcm => ?_⟩
    · exact (sb.2 _ D.s.TIz).trans (hk _ _ D.s.TIz D.s.TITO D.s.TIi1 D.s.TIi2 hTI)
    · exact (sb.2 _ D.s.TOz).trans TO'
    · obtain ⟨⟨o, ho, r⟩, _⟩ := st1
      exact ⟨o, (sb.2 _ i1z).trans ho, r⟩
    · obtain ⟨⟨o, ho, r⟩, _⟩ := st2
      exact ⟨o, (sb.2 _ i2z).trans ho, r⟩
    · have hlt : c < s.heap.objs.size := by
        rcases (show c = z ∨ c = TI ∨ c = TO ∨ c = i1 ∨ c = i2 by simpa using hcm) with q | q | q | q | q <;> rw [q]
        · exact hzl
        · exact Heap.lt_size hTI
        · exact Heap.lt_size hTO
        · exact let ⟨_, e1, _⟩ := h1; Heap.lt_size e1
        · exact let ⟨_, e2, _⟩ := h2; Heap.lt_size e2
      rw [upd_ne (Nat.ne_of_lt hlt)]
      exact (hf c hcm).1
  done := by
    intro X hP hw hK hc i pins s σ H E I hf st hg
    subst hP hw hK
    obtain ⟨hz, hTI, ⟨x0, y0, hTO⟩, h1, h2, le1, le2⟩ := st
    obtain ⟨xs, ys, hqx, hqy, hxn, hym, hend⟩ := hg
    obtain ⟨its, rv, pl, _⟩ := I.tuple hqx
    obtain ⟨its2, rv2, pl2, _⟩ := I.tuple hqy
    have l1 := rv.length
    have l2 := rv2.length
    exact wpAny_pyNext_zipD2_end D.s (drawsTn (A := X.A.in1) (n := n) (I.ok.hd hc) (by simp; omega) D.a1) (drawsTn (A := X.A.in1) (n := m) (I.ok.hd hc) (by simp; omega) D.b2) hz hTI hTO ⟨h1, pl⟩ ⟨h2, pl2⟩ le1 le2 (by omega) fun h' tk hk => ⟨rfl, I.turnedL (t' := tk) (ch := [z, TI, TO, i1, i2]) (fun c o hb q => hk c o (fun q' => hb (by simp [q'])) (fun q' => hb (by simp [q'])) (fun q' => hb (by simp [q'])) (fun q' => hb (by simp [q'])) q) hf⟩
  self := fun A i s Q E st h => wpAny_pyIter_zip st.1 h
def iZipT (K : PySem.W.Frag) (ta : TA) : TI := fun σ H R => ta σ H fun vs H1 => ∃ a b xs ys, vs = [.ref a, .ref b] ∧ SqT K H1 a xs ∧ SqT K H1 b ys ∧ R (ItzT K a b xs.length ys.length) H1
theorem zap_new {N a b : Nat} (ha : a < N) (hb : b < N) : ZAp (N + 4) (N + 2) (N + 3) N (N + 1) a b := by
  have ne : ∀ {x y : Nat}, (x < y ∨ y < x) → ¬ (x = y) := fun h e => by omega
  refine ⟨⟨ne (by omega), ne (by omega), ne (by omega), ne (by omega), by simp, ?_, ?_, ne (by omega), by simp, ?_, ?_, ?_, ?_⟩, ne (by omega), ne (by omega)⟩
  all_goals
    intro hm
    simp only [List.mem_cons, List.not_mem_nil, or_false] at hm
    rcases hm with e | e
    · exact ne (by omega) e
    · exact ne (by omega) e
theorem pi_zipT {X : Cx} {e e2 : Expr} {ta : TA} {p pos tpos : Pos} {elts : List Expr} {kk : Nat} (hg : Gl X "zip") (hm : X.mg "zip" = none) (ha : PA X [e, e2] ta) (hs : starEach [e, e2] X.env = (false, eval e X.env) :: starEach [e2] X.env := by rfl) (hpl : (backTo pos (starEach [e2] X.env)).any (·.1) = false := by rfl) :
    PI X (.Tuple elts kk tpos) (.Call (.Name "zip" p) [e, e2] [] pos) (iZipT X.K ta) := by
  refine ⟨fun pins s σ H R I h => ?_⟩
  refine Call_ (ld_blt I hg hm boot_zip (callWith_type1 (thn (ha.run pos pins s σ H _ I h) fun us s1 ⟨vs, H1, I1, r1, q1⟩ => ?_) hs hpl))
  obtain ⟨a, b, xs, ys, rfl, hqx, hqy, q⟩ := q1
  cases r1 with
  | cons r rr =>
    cases rr with
    | cons r' rr =>
      cases rr
      cases r
      cases r'
      obtain ⟨its, rv, pl, _⟩ := I1.tuple hqx
      obtain ⟨its2, rv2, pl2, _⟩ := I1.tuple hqy
      refine call_zipT pl pl2 fun h' hz hTI hTO h1 h2 hk => wpAny_pyIter_zip hz ?_
      refine ⟨_, [s1.heap.objs.size + 4, s1.heap.objs.size + 2, s1.heap.objs.size + 3, s1.heap.objs.size, s1.heap.objs.size + 1], _, _, H1, rfl, I1.kept (t' := s1.toks) hk, turn_zipT (zap_new pl.lt pl2.lt), ⟨hz, hTI, ⟨_, _, hTO⟩, h1, h2, Nat.zero_le _, Nat.zero_le _⟩, fun c hcm => ?_, q⟩
      have hle : s1.heap.objs.size ≤ c := by
        simp only [List.mem_cons, List.not_mem_nil, or_false] at hcm
        rcases hcm with z | z | z | z | z <;> rw [z] <;> first | exact Nat.le_add_right _ _ | exact Nat.le_refl _
      exact I1.fpOk hle (I1.hok.fresh hle)
def iZpT (fs : BF) : IF := fun δ => (fs δ).bind fun r => match r.1 with
  | [o1, o2] => match o1.fz, o2.fz with
    | .tup ds, .tup es => some (zipD ds es, r.2)
    | _, _ => none
  | _ => none
section
variable {X : Cx}
theorem vi_zipT {a b : Expr} {p pos tpos : Pos} {elts : List Expr} {kk : Nat} {fs : BF} (hg : Gl X "zip") (hm : X.mg "zip" = none) (ha : VB X [a, b] fs) (hs : starEach [a, b] X.env = (false, eval a X.env) :: starEach [b] X.env := by rfl) (hpl : (backTo pos (starEach [b] X.env)).any (·.1) = false := by rfl) :
    VI X (.Tuple elts kk tpos) (.Call (.Name "zip" p) [a, b] [] pos) (iZpT fs) := PIi (pi_zipT hg hm ha hs hpl) fun σ H R ⟨g, Z, δ, S, T, r, st, hf, post⟩ => by
  simp only [iZpT, Option.bind_eq_some_iff] at hf
  obtain ⟨⟨os, δ1⟩, h1, h2⟩ := hf
  refine ⟨g, Z, δ, S, T, _, st, h1, fun vs Z1 H1 st1 hl => ?_⟩
  split at h2
  · rename_i o1 o2 q
    have q' : os = [o1, o2] := q
    subst q'
    obtain ⟨v, w, rfl⟩ := two_of hl
    split at h2
    · rename_i ds es q1 q2
      cases h2
      have st2 : StV X.K g Z1 H1 δ1 σ (some o2 :: some o1 :: S) (some w :: some v :: T) := st1
      obtain ⟨Z2, st3, rl⟩ := StV.frzL (os := [o1, o2]) (vs := [v, w]) rfl st2
      simp only [List.map_cons, List.map_nil, q1, q2, RepL] at rl
      obtain ⟨_, _, e1, r1, _, _, e2, r2, e3⟩ := rl
      cases e1
      cases e2
      have st4 := (st3.pushD r1).pushD r2
      have r1' := r1
      have r2' := r2
      simp only [RepD] at r1' r2'
      obtain ⟨a, xs, rfl, ha, ra⟩ := r1'
      obtain ⟨b, ys, rfl, hb, rb⟩ := r2'
      have lx := ra.length
      have ly := rb.length
      refine ⟨a, b, xs, ys, rfl, SqT.of ha, SqT.of hb, post _ [some (.sh (.tup es)), some (.sh (.tup ds))] [some (.ref b), some (.ref a)] Z2 H1 rfl st4 ⟨fun Z H δ σ S T s i d e => ?_, fun Z H δ σ S T s => ?_⟩⟩
      · have s' : StV X.K g Z H δ σ (some (.sh (.tup es)) :: some (.sh (.tup ds)) :: S) (some (.ref b) :: some (.ref a) :: T) := s
        have p1 := topD s'
        have p2 := topD s'.pop
        simp only [RepD] at p1 p2
        obtain ⟨b', ws, eb, hb, rb⟩ := p1
        cases eb
        obtain ⟨a', zs, ea, ha, ra⟩ := p2
        cases ea
        obtain ⟨x, y, g1, g2, g3⟩ := zipD_get _ _ _ _ e
        obtain ⟨x', f1, rx⟩ := ra.get g1
        obtain ⟨y', f2, ry⟩ := rb.get g2
        refine ⟨⟨zs, ws, x', y', SqT.of ha, SqT.of hb, by rw [← lx, ra.length], by rw [← ly, rb.length], f1, f2⟩, fun z H2 ⟨P, x2, y2, q1, q2, q3, q4, q5⟩ => ?_⟩
        have q6 := q4 zs (SqT.of ha)
        have q7 := q5 ws (SqT.of hb)
        rw [f1] at q6
        rw [f2] at q7
        cases q6
        cases q7
        subst q1 q3 g3
        refine Res.tup q2 ?_
        simp only [RepL]
        exact ⟨_, _, rfl, rx, _, _, rfl, ry, rfl⟩
      · have s' : StV X.K g Z H δ σ (some (.sh (.tup es)) :: some (.sh (.tup ds)) :: S) (some (.ref b) :: some (.ref a) :: T) := s
        have p1 := topD s'
        have p2 := topD s'.pop
        simp only [RepD] at p1 p2
        obtain ⟨b', ws, eb, hb, rb⟩ := p1
        cases eb
        obtain ⟨a', zs, ea, ha, ra⟩ := p2
        cases ea
        refine ⟨zs, ws, SqT.of ha, SqT.of hb, by rw [← lx, ra.length], by rw [← ly, rb.length], ?_⟩
        show xs.length ≤ (zipD ds es).length ∨ ys.length ≤ (zipD ds es).length
        rw [← lx, ← ly]
        exact zipD_length ds es
    · cases h2
  · cases h2
theorem RI_zpT {fs : BF} {δ : DS} {P : List D → DS → Prop} (h : RB fs δ fun os δ1 => ∃ o1 o2 ds es, os = [o1, o2] ∧ o1.fz = .tup ds ∧ o2.fz = .tup es ∧ P (zipD ds es) δ1) : RI (iZpT fs) δ P := by
  obtain ⟨os, δ1, h1, o1, o2, ds, es, rfl, h2, h3, p⟩ := h
  exact ⟨_, _, by simp [iZpT, h1, h2, h3], p⟩
end
end VS

namespace VS
open PySem PySem.Spec L2
/-! ### repr of a whole number or a truth value; list(range(..)) -/
theorem bo_repr : bootBuiltins "repr" = some (.builtin "repr") := by decide +kernel
def mRepr : List D → Option O
  | [.int i] => if i.natAbs.log2 < 1920 then some (.sh (.str (toString i))) else none
  | [.bl b] => some (.sh (.str (if b then "True" else "False")))
  | _ => none
def xLRg (f : XF) : XF := fun δ => (f δ).bind fun r => (rdv r.2 r.1).bind fun d => match d with
  | .int j => if 0 ≤ j ∧ j ≤ 16777216 then some (.val (.lst (rngD 0 j.toNat)), r.2) else none
  | _ => none
section
variable {X : Cx}
theorem cv_repr : CV X (.builtin "repr") mRepr := by
  intro pins s σ H xs us Q I r ⟨Z, ds, o, l, h, q⟩
  unfold mRepr at h
  split at h
  · obtain ⟨v, r', rfl, l1, l2⟩ := l
    have e2 : r' = [] := l2
    subst e2
    split at h
    · rename_i hz
      cases h
      cases l1.int
      obtain ⟨u, rfl, t, rfl⟩ := vals1 r
      exact PySem.P.repr_of_int hz ⟨.str _, H, I.tok _, ⟨_, rfl⟩, q _ _ Res.str⟩
    · cases h
  · obtain ⟨v, r', rfl, l1, l2⟩ := l
    have e2 : r' = [] := l2
    subst e2
    cases h
    cases l1.bl
    obtain ⟨u, rfl, t⟩ := vals1 r
    obtain rfl := t
    exact PySem.P.repr_of_bool ⟨.str _, H, I.tok _, ⟨_, rfl⟩, q _ _ Res.str⟩
  · cases h
theorem rgD_rep {K : PySem.W.Frag} {Z : Addr → Prop} {H : Hp} (n : Nat) : RepL K Z H (rngD 0 n) (rgV 0 n) := by
  unfold rgV rngD
  have e : ((n : Int) - 0).toNat = n := by omega
  rw [e]
  generalize List.range n = l
  induction l with
  | nil => simp only [List.map_nil, RepL]
  | cons a l ih =>
    simp only [List.map_cons, RepL]
    exact ⟨_, _, rfl, by simp only [RepD], ih⟩
theorem ve_lrg {e : Expr} {fe : XF} {p p2 pos pos2 : Pos} (hc : X.calm = true) (hg : Gl X "list") (hm : X.mg "list" = none) (hgr : Gl X "range") (hmr : X.mg "range" = none) (he : VE X e fe)
    (na : starEach [e] X.env = (false, eval e X.env) :: starEach [] X.env := by rfl)
    (na2 : starEach [.Call (.Name "range" p2) [e] [] pos2] X.env = (false, eval (.Call (.Name "range" p2) [e] [] pos2) X.env) :: starEach [] X.env := by rfl) :
    VE X (.Call (.Name "list" p) [.Call (.Name "range" p2) [e] [] pos2] [] pos) (xLRg fe) :=
  PEi (pe_listRg hc hg hm (prg_1 hgr hmr he na) na2) fun σ H Q ⟨g, Z, δ, S, T, r, st, hf, post⟩ => by
    simp only [xLRg, Option.bind_eq_some_iff] at hf
    obtain ⟨⟨ev, δ1⟩, h1, d, h2, h3⟩ := hf
    split at h3
    · rename_i j
      split at h3
      · rename_i hj
        cases h3
        refine ⟨g, Z, δ, S, T, _, st, h1, fun v Z1 H1 st1 al1 => ?_⟩
        have hv := (st1.lk al1 h2).int
        refine ⟨j, hv, RgOk.of_le (by omega) hj.2 (by omega) hj.1, fun q hq => ?_⟩
        have ej : j = ((j.toNat : Nat) : Int) := by omega
        have := rgD_rep (K := X.K) (Z := Z1) (H := H1) j.toNat
        rw [← ej] at this
        exact post _ Z1 _ (st1.pop.push (Res.lst hq this)) trivial
      · cases h3
    · cases h3
theorem RX_lrg {f : XF} {δ : DS} {P : Ev → DS → Prop} (h : RX f δ fun e δ1 => RV δ1 e fun d => ∃ j, d = .int j ∧ 0 ≤ j ∧ j ≤ 16777216 ∧ P (.val (.lst (rngD 0 j.toNat))) δ1) : RX (xLRg f) δ P := by
  obtain ⟨e, δ1, h1, d, h2, j, rfl, h3, h4, p⟩ := h
  exact ⟨_, _, by simp [xLRg, h1, h2, h3, h4], p⟩
end
end VS

namespace VS
open PySem PySem.Spec L2
/-! ### sorted(a list of whole numbers) -/
theorem bo_sorted : bootBuiltins "sorted" = some (.builtin "sorted") := by decide +kernel
def insI (x : Int) : List Int → List Int
  | [] => [x]
  | y :: l => if x ≤ y then x :: y :: l else y :: insI x l
def srtI : List Int → List Int
  | [] => []
  | x :: l => insI x (srtI l)
theorem insI_perm (x : Int) : ∀ l : List Int, (insI x l).Perm (x :: l)
  | [] => .refl _
  | y :: l => by
    unfold insI
    split
    · exact .refl _
    · exact ((insI_perm x l).cons y).trans (.swap _ _ _)
theorem srtI_perm : ∀ l : List Int, (srtI l).Perm l
  | [] => .refl _
  | x :: l => (insI_perm x _).trans ((srtI_perm l).cons x)
theorem insI_grow {x : Int} : ∀ {l : List Int}, l.Pairwise (· ≤ ·) → (insI x l).Pairwise (· ≤ ·)
  | [], _ => by simp [insI]
  | y :: l, h => by
    have h' := List.pairwise_cons.mp h
    unfold insI
    split
    · rename_i c
      refine List.pairwise_cons.mpr ⟨fun z hz => ?_, h⟩
      rcases List.mem_cons.mp hz with e | e
      · subst e; exact c
      · have := h'.1 z e; omega
    · rename_i c
      refine List.pairwise_cons.mpr ⟨fun z hz => ?_, insI_grow h'.2⟩
      rcases List.mem_cons.mp ((insI_perm x l).mem_iff.mp hz) with e | e
      · subst e; omega
      · exact h'.1 z e
theorem srtI_grow : ∀ l : List Int, (srtI l).Pairwise (· ≤ ·)
  | [] => .nil
  | x :: l => insI_grow (srtI_grow l)
theorem srt_one : ∀ {a b : List Int}, a.Pairwise (· ≤ ·) → b.Pairwise (· ≤ ·) → a.Perm b → a = b
  | [], b, _, _, p => p.nil_eq
  | x :: a, [], _, _, p => absurd p.length_eq (by simp)
  | x :: a, y :: b, ha, hb, p => by
    have ha' := List.pairwise_cons.mp ha
    have hb' := List.pairwise_cons.mp hb
    have h1 : x ≤ y := by
      rcases List.mem_cons.mp (p.mem_iff.mpr (List.mem_cons_self (a := y) (l := b))) with e | e
      · omega
      · exact ha'.1 y e
    have h2 : y ≤ x := by
      rcases List.mem_cons.mp (p.mem_iff.mp (List.mem_cons_self (a := x) (l := a))) with e | e
      · omega
      · exact hb'.1 x e
    have e : x = y := by omega
    subst e
    rw [srt_one ha'.2 hb'.2 p.cons_inv]
def mSort : List D → Option O
  | [.lst ds] => (intsOf ds).map fun ns => .lst ((srtI ns).map .int)
  | _ => none
theorem ints_of_rep {K : PySem.W.Frag} {Z : Addr → Prop} {H : Hp} : ∀ ns : List Int, RepL K Z H (ns.map D.int) (ns.map V.int)
  | [] => by simp only [List.map_nil, RepL]
  | n :: ns => by
    simp only [List.map_cons, RepL]
    exact ⟨_, _, rfl, by simp only [RepD], ints_of_rep ns⟩
theorem cv_sort {X : Cx} : CV X (.builtin "sorted") mSort := by
  intro pins s σ H xs us Q I r ⟨Z, ds, o, l, h, q⟩
  unfold mSort at h
  split at h
  · obtain ⟨a, vs, rfl, ha, ra⟩ := one_lst l
    obtain ⟨ns, h1, h2⟩ := Option.map_eq_some_iff.mp h
    subst h2
    have ev := ints_rep h1 ra
    subst ev
    refine cr_sortedI pins s σ H _ us Q I r ⟨a, ns, rfl, SqL.of ha, fun ys p hp hs hf => ?_⟩
    have e : ys = srtI ns := srt_one hs (srtI_grow ns) (hp.trans (srtI_perm ns).symm)
    subst e
    exact q _ _ (Res.lst hf (ints_of_rep _))
  · cases h
end VS

namespace PM
section
variable {α : Type} [DecidableEq α]
/-! ### forests of kinds: plain numbers -/
abbrev Es (α : Type) := List (α × Int)
abbrev Ks (α : Type) := List (α × List (α × Int))
def sumE (f : α → Int) : Es α → Int
  | [] => 0
  | e :: r => e.2 * f e.1 + sumE f r
def desc : Ks α → α → Nat → Int
  | [], _, _ => 0
  | k :: r, s, d => if k.1 = s then (match d with
    | 0 => 1
    | d + 1 => sumE (fun c => desc r c d) k.2) else desc r s d
def ents : Ks α → α → Es α
  | [], _ => []
  | k :: r, s => if k.1 = s then k.2 else ents r s
def maxL : List Nat → Nat
  | [] => 0
  | a :: r => max a (maxL r)
/-- how many levels the tree of a kind has -/
def lev : Ks α → α → Nat
  | [], _ => 0
  | k :: r, s => if k.1 = s then 1 + maxL (k.2.map fun e => lev r e.1) else lev r s
def size : Ks α → α → Int
  | [], _ => 0
  | k :: r, s => if k.1 = s then 1 + sumE (size r) k.2 else size r s
def Ok : Ks α → Prop
  | [] => True
  | k :: r => k.1 ∉ r.map (·.1) ∧ (∀ e ∈ k.2, e.1 ∈ r.map (·.1) ∧ 1 ≤ e.2) ∧ Ok r
/-- entries of a forest -/
def OkE (K : Ks α) (es : Es α) : Prop := ∀ e ∈ es, e.1 ∈ K.map (·.1) ∧ 1 ≤ e.2
theorem sumE_congr {f g : α → Int} : ∀ {es : Es α}, (∀ e ∈ es, f e.1 = g e.1) → sumE f es = sumE g es
  | [], _ => rfl
  | e :: r, h => by
    simp only [sumE]
    rw [h e (by simp), sumE_congr fun x hx => h x (by simp [hx])]
theorem sumE_nonneg {f : α → Int} : ∀ {es : Es α}, (∀ e ∈ es, 0 ≤ f e.1 ∧ 0 ≤ e.2) → 0 ≤ sumE f es
  | [], _ => Int.le_refl 0
  | e :: r, h => by
    simp only [sumE]
    have := sumE_nonneg fun x hx => h x (List.mem_cons_of_mem e hx)
    have := Int.mul_nonneg (h e (by simp)).2 (h e (by simp)).1
    omega
theorem sumE_append {f : α → Int} : ∀ {a b : Es α}, sumE f (a ++ b) = sumE f a + sumE f b
  | [], b => by simp [sumE]
  | e :: a, b => by
    simp only [List.cons_append, sumE, sumE_append (a := a)]
    omega
theorem sumE_add {f g : α → Int} : ∀ {es : Es α}, sumE (fun c => f c + g c) es = sumE f es + sumE g es
  | [] => rfl
  | e :: r => by
    simp only [sumE, sumE_add (es := r), Int.mul_add]
    omega
theorem sumE_zero : ∀ {es : Es α}, sumE (fun _ => (0 : Int)) es = 0
  | [] => rfl
  | e :: r => by simp [sumE, sumE_zero (es := r)]
theorem le_maxL {a : Nat} : ∀ {l : List Nat}, a ∈ l → a ≤ maxL l
  | b :: l, h => by
    simp only [maxL]
    rcases List.mem_cons.mp h with rfl | h
    · omega
    · have := le_maxL h; omega
theorem maxL_congr {β : Type} {f g : β → Nat} : ∀ {l : List β}, (∀ x ∈ l, f x = g x) → maxL (l.map f) = maxL (l.map g)
  | [], _ => rfl
  | a :: l, h => by
    simp only [List.map_cons, maxL]
    rw [h a (by simp), maxL_congr fun x hx => h x (by simp [hx])]
theorem OkE.tl {K : Ks α} {e : α × Int} {es : Es α} (h : OkE K (e :: es)) : OkE K es := fun x hx => h x (by simp [hx])
theorem ne_of_mem {k : α × Es α} {K : Ks α} {s : α} (h : Ok (k :: K)) (hs : s ∈ K.map (·.1)) : ¬ k.1 = s := fun e => h.1 (by rw [e]; exact hs)
section
variable {k : α × Es α} {K : Ks α} {s : α}
theorem desc_skip (h : Ok (k :: K)) (hs : s ∈ K.map (·.1)) (d : Nat) : desc (k :: K) s d = desc K s d := by simp only [desc]; rw [if_neg (ne_of_mem h hs)]
theorem ents_skip (h : Ok (k :: K)) (hs : s ∈ K.map (·.1)) : ents (k :: K) s = ents K s := by simp only [ents]; rw [if_neg (ne_of_mem h hs)]
theorem lev_skip (h : Ok (k :: K)) (hs : s ∈ K.map (·.1)) : lev (k :: K) s = lev K s := by simp only [lev]; rw [if_neg (ne_of_mem h hs)]
theorem size_skip (h : Ok (k :: K)) (hs : s ∈ K.map (·.1)) : size (k :: K) s = size K s := by simp only [size]; rw [if_neg (ne_of_mem h hs)]
end
theorem ents_ok : ∀ {K : Ks α}, Ok K → ∀ s, OkE K (ents K s)
  | [], _, s => by simp [ents, OkE]
  | k :: K, h, s => by
    simp only [ents]
    by_cases e : k.1 = s
    · rw [if_pos e]
      exact fun x hx => ⟨List.mem_cons_of_mem _ (h.2.1 x hx).1, (h.2.1 x hx).2⟩
    · rw [if_neg e]
      exact fun x hx => ⟨List.mem_cons_of_mem _ (ents_ok h.2.2 s x hx).1, (ents_ok h.2.2 s x hx).2⟩
theorem desc_zero : ∀ {K : Ks α} {s : α}, s ∈ K.map (·.1) → desc K s 0 = 1
  | k :: K, s, h => by
    simp only [desc]
    by_cases e : k.1 = s
    · rw [if_pos e]
    · rw [if_neg e]
      exact desc_zero (by rcases List.mem_cons.mp h with h | h; exact absurd h.symm e; exact h)
theorem mem_tl {k : α × Es α} {K : Ks α} {s : α} (h : s ∈ (k :: K).map (·.1)) (e : ¬ k.1 = s) : s ∈ K.map (·.1) := by
  rcases List.mem_cons.mp h with h | h
  · exact absurd h.symm e
  · exact h
theorem desc_succ : ∀ {K : Ks α}, Ok K → ∀ (s : α) (d : Nat), desc K s (d + 1) = sumE (fun c => desc K c d) (ents K s)
  | [], _, s, d => rfl
  | k :: K, h, s, d => by
    simp only [desc, ents]
    by_cases e : k.1 = s
    · rw [if_pos e, if_pos e]
      exact sumE_congr fun x hx => by rw [if_neg (ne_of_mem h (h.2.1 x hx).1)]
    · rw [if_neg e, if_neg e, desc_succ h.2.2]
      exact sumE_congr fun x hx => by rw [if_neg (ne_of_mem h (ents_ok h.2.2 s x hx).1)]
theorem size_eq : ∀ {K : Ks α}, Ok K → ∀ {s : α}, s ∈ K.map (·.1) → size K s = 1 + sumE (size K) (ents K s)
  | k :: K, h, s, hs => by
    simp only [ents]
    by_cases e : k.1 = s
    · rw [if_pos e]
      simp only [size]
      rw [if_pos e]
      congr 1
      exact sumE_congr fun x hx => by rw [if_neg (ne_of_mem h (h.2.1 x hx).1)]
    · rw [if_neg e]
      have := size_eq h.2.2 (mem_tl hs e)
      simp only [size]
      rw [if_neg e, this]
      congr 1
      exact sumE_congr fun x hx => by rw [if_neg (ne_of_mem h (ents_ok h.2.2 s x hx).1)]
theorem lev_eq : ∀ {K : Ks α}, Ok K → ∀ {s : α}, s ∈ K.map (·.1) → lev K s = 1 + maxL ((ents K s).map fun e => lev K e.1)
  | k :: K, h, s, hs => by
    simp only [ents]
    by_cases e : k.1 = s
    · rw [if_pos e]
      simp only [lev]
      rw [if_pos e]
      congr 1
      exact maxL_congr fun x hx => by rw [if_neg (ne_of_mem h (h.2.1 x hx).1)]
    · rw [if_neg e]
      have := lev_eq h.2.2 (mem_tl hs e)
      simp only [lev]
      rw [if_neg e, this]
      congr 1
      exact maxL_congr fun x hx => by rw [if_neg (ne_of_mem h (ents_ok h.2.2 s x hx).1)]
theorem lev_pos {K : Ks α} (h : Ok K) {s : α} (hs : s ∈ K.map (·.1)) : 1 ≤ lev K s := by rw [lev_eq h hs]; omega
theorem lev_le : ∀ {K : Ks α}, Ok K → ∀ {s : α}, s ∈ K.map (·.1) → lev K s ≤ K.length
  | k :: K, h, s, hs => by
    have key : ∀ {l : List Nat} {n : Nat}, (∀ x ∈ l, x ≤ n) → maxL l ≤ n := by
      intro l
      induction l with
      | nil => intro n _; exact Nat.zero_le n
      | cons a l ih =>
        intro n q
        simp only [maxL]
        have := q a (by simp)
        have := ih fun x hx => q x (by simp [hx])
        omega
    simp only [lev]
    by_cases e : k.1 = s
    · rw [if_pos e]
      have : maxL (k.2.map fun e => lev K e.1) ≤ K.length := key fun x hx => by
        obtain ⟨y, hy, rfl⟩ := List.mem_map.mp hx
        exact lev_le h.2.2 (h.2.1 y hy).1
      simp only [List.length_cons]
      omega
    · rw [if_neg e]
      have := lev_le h.2.2 (mem_tl hs e)
      simp only [List.length_cons]
      omega
theorem desc_nonneg : ∀ {K : Ks α}, Ok K → ∀ (s : α) (d : Nat), 0 ≤ desc K s d
  | [], _, s, d => Int.le_refl 0
  | k :: K, h, s, d => by
    simp only [desc]
    split
    · cases d with
      | zero => exact Int.zero_le_ofNat 1
      | succ d => exact sumE_nonneg fun e he => ⟨desc_nonneg h.2.2 e.1 d, by have := (h.2.1 e he).2; omega⟩
    · exact desc_nonneg h.2.2 s d
theorem size_nonneg : ∀ {K : Ks α}, Ok K → ∀ (s : α), 0 ≤ size K s
  | [], _, s => Int.le_refl 0
  | k :: K, h, s => by
    simp only [size]
    split
    · have : 0 ≤ sumE (size K) k.2 := sumE_nonneg fun e he => ⟨size_nonneg h.2.2 e.1, by have := (h.2.1 e he).2; omega⟩
      omega
    · exact size_nonneg h.2.2 s
theorem OkE.nn {K : Ks α} {es : Es α} (h : OkE K es) {e : α × Int} (he : e ∈ es) : 0 ≤ e.2 := by have := (h e he).2; omega
theorem size_pos {K : Ks α} (h : Ok K) {s : α} (hs : s ∈ K.map (·.1)) : 1 ≤ size K s := by
  rw [size_eq h hs]
  have : 0 ≤ sumE (size K) (ents K s) := sumE_nonneg fun e he => ⟨size_nonneg h _, (ents_ok h s).nn he⟩
  omega
theorem desc_big : ∀ {K : Ks α}, Ok K → ∀ (s : α) (d : Nat), s ∈ K.map (·.1) → lev K s ≤ d → desc K s d = 0
  | [], _, s, d, hs, _ => by simp at hs
  | k :: K, h, s, d, hs, hd => by
    simp only [lev] at hd
    simp only [desc]
    by_cases e : k.1 = s
    · rw [if_pos e] at hd ⊢
      cases d with
      | zero => omega
      | succ d =>
        show sumE (fun c => desc K c d) k.2 = 0
        rw [← sumE_zero (es := k.2)]
        refine sumE_congr fun x hx => ?_
        refine desc_big h.2.2 x.1 d (h.2.1 x hx).1 ?_
        have := le_maxL (List.mem_map_of_mem (f := fun e : α × Int => lev K e.1) hx)
        omega
    · rw [if_neg e] at hd ⊢
      exact desc_big h.2.2 s d (mem_tl hs e) hd
theorem mem_maxL : ∀ {l : List Nat}, 0 < maxL l → maxL l ∈ l
  | a :: l, h => by
    simp only [maxL] at h ⊢
    rcases Nat.le_total a (maxL l) with q | q
    · rw [Nat.max_eq_right q] at h ⊢
      exact List.mem_cons_of_mem _ (mem_maxL h)
    · rw [Nat.max_eq_left q]
      exact List.mem_cons_self
theorem sumE_pos {f : α → Int} : ∀ {es : Es α} {x : α × Int}, x ∈ es → (∀ e ∈ es, 0 ≤ f e.1 ∧ 1 ≤ e.2) → 1 ≤ f x.1 → 1 ≤ sumE f es
  | e :: r, x, hx, h, h1 => by
    simp only [sumE]
    have hr : 0 ≤ sumE f r := sumE_nonneg fun y hy => ⟨(h y (by simp [hy])).1, by have := (h y (by simp [hy])).2; omega⟩
    have he := Int.mul_nonneg (show 0 ≤ e.2 by have := (h e (by simp)).2; omega) (h e (by simp)).1
    rcases List.mem_cons.mp hx with rfl | hx
    · have a1 := (h x (by simp)).2
      have : 1 * 1 ≤ x.2 * f x.1 := Int.mul_le_mul a1 h1 (by decide) (by omega)
      omega
    · have := sumE_pos hx (fun y hy => h y (by simp [hy])) h1
      omega
theorem desc_pos : ∀ {K : Ks α}, Ok K → ∀ (s : α) (d : Nat), s ∈ K.map (·.1) → d < lev K s → 1 ≤ desc K s d
  | [], _, s, d, hs, _ => by simp at hs
  | k :: K, h, s, d, hs, hd => by
    simp only [lev] at hd
    simp only [desc]
    by_cases e : k.1 = s
    · rw [if_pos e] at hd ⊢
      cases d with
      | zero => exact Int.le_refl 1
      | succ d =>
        show 1 ≤ sumE (fun c => desc K c d) k.2
        have hm : 0 < maxL (k.2.map fun e => lev K e.1) := by omega
        obtain ⟨x, hx, ex⟩ := List.mem_map.mp (mem_maxL hm)
        refine sumE_pos hx (fun y hy => ⟨desc_nonneg h.2.2 _ _, (h.2.1 y hy).2⟩) ?_
        refine desc_pos h.2.2 x.1 d (h.2.1 x hx).1 ?_
        have ex' : lev K x.1 = maxL (k.2.map fun e => lev K e.1) := ex
        omega
    · rw [if_neg e] at hd ⊢
      exact desc_pos h.2.2 s d (mem_tl hs e) hd
/-! sums over levels -/
def sumN (f : Nat → Int) : Nat → Int
  | 0 => 0
  | n + 1 => sumN f n + f n
theorem sumN_congr {f g : Nat → Int} : ∀ {n : Nat}, (∀ i, i < n → f i = g i) → sumN f n = sumN g n
  | 0, _ => rfl
  | n + 1, h => by simp only [sumN]; rw [sumN_congr fun i hi => h i (by omega), h n (by omega)]
theorem sumN_shift {f : Nat → Int} : ∀ {n : Nat}, sumN f (n + 1) = f 0 + sumN (fun i => f (i + 1)) n
  | 0 => by simp [sumN]
  | n + 1 => by
    rw [sumN, sumN_shift (n := n)]
    simp only [sumN]
    omega
theorem sumN_more {f : Nat → Int} {n m : Nat} (h : n ≤ m) (hz : ∀ i, n ≤ i → f i = 0) : sumN f m = sumN f n := by
  induction m with
  | zero =>
    have : n = 0 := by omega
    rw [this]
  | succ m ih =>
    by_cases e : n = m + 1
    · rw [e]
    · simp only [sumN]
      rw [ih (by omega), hz m (by omega)]
      omega
theorem sumN_sumE {f : α → Nat → Int} {es : Es α} : ∀ {n : Nat}, sumN (fun d => sumE (fun c => f c d) es) n = sumE (fun c => sumN (f c) n) es
  | 0 => by simp only [sumN]; exact sumE_zero.symm
  | n + 1 => by
    simp only [sumN]
    rw [sumN_sumE (n := n), ← sumE_add]
/-- the size is the sum over the levels -/
theorem size_sum : ∀ {K : Ks α}, Ok K → ∀ (s : α) (n : Nat), s ∈ K.map (·.1) → lev K s ≤ n → sumN (desc K s) n = size K s
  | [], _, s, n, hs, _ => by simp at hs
  | k :: K, h, s, n, hs, hn => by
    by_cases e : k.1 = s
    · have hn' : 1 + maxL (k.2.map fun e => lev K e.1) ≤ n := by simpa only [lev, if_pos e] using hn
      obtain ⟨m, rfl⟩ : ∃ m, n = m + 1 := ⟨n - 1, by omega⟩
      rw [sumN_shift, desc_zero hs]
      have : (fun i => desc (k :: K) s (i + 1)) = fun i => sumE (fun c => desc K c i) k.2 := by
        funext i
        simp only [desc]
        rw [if_pos e]
      rw [this, sumN_sumE]
      simp only [size]
      rw [if_pos e]
      congr 1
      refine sumE_congr fun x hx => size_sum h.2.2 x.1 m (h.2.1 x hx).1 ?_
      have := le_maxL (List.mem_map_of_mem (f := fun e : α × Int => lev K e.1) hx)
      omega
    · have hs' := mem_tl hs e
      rw [size_skip h hs', ← size_sum h.2.2 s n hs' (by rwa [lev_skip h hs'] at hn)]
      exact sumN_congr fun i _ => desc_skip h hs' i
end
end PM

namespace PM
section
variable {α : Type} [DecidableEq α]
/-! ### paths -/
abbrev Pa := List (Nat × Int)
def Val (K : Ks α) : Es α → Pa → Prop
  | _, [] => True
  | rows, (p, i) :: q => ∃ e, rows[p]? = some e ∧ 0 ≤ i ∧ i < e.2 ∧ Val K (ents K e.1) q
/-- the kind of a task; its entries -/
def kindP (K : Ks α) : Es α → Pa → Option α
  | _, [] => none
  | rows, (p, _) :: q => match rows[p]? with
    | none => none
    | some e => match q with
      | [] => some e.1
      | _ :: _ => kindP K (ents K e.1) q
def rowsP (K : Ks α) : Es α → Pa → Es α
  | rows, [] => rows
  | rows, (p, _) :: q => match rows[p]? with
    | none => []
    | some e => rowsP K (ents K e.1) q
/-- how many tasks of its level are before a task -/
def rkL (K : Ks α) : Es α → Pa → Int
  | _, [] => 0
  | rows, (p, i) :: q => match rows[p]? with
    | none => 0
    | some e => sumE (fun c => desc K c q.length) (rows.take p) + i * desc K e.1 q.length + rkL K (ents K e.1) q
/-- how many tasks start before it if the last one put is taken first -/
def rkD (K : Ks α) : Es α → Pa → Int
  | _, [] => -1
  | rows, (p, i) :: q => match rows[p]? with
    | none => 0
    | some e => sumE (size K) (rows.drop (p + 1)) + (e.2 - 1 - i) * size K e.1 + (rkD K (ents K e.1) q + 1)
section
variable {K : Ks α}
theorem mem_at {rows : Es α} {p : Nat} {e : α × Int} (h : rows[p]? = some e) : e ∈ rows := List.mem_of_getElem? h
theorem split_at {rows : Es α} {p : Nat} {e : α × Int} (h : rows[p]? = some e) : rows = rows.take p ++ e :: rows.drop (p + 1) := by
  have hp := (List.getElem?_eq_some_iff.mp h).1
  have he := (List.getElem?_eq_some_iff.mp h).2
  have q := List.drop_eq_getElem_cons hp
  rw [he] at q
  rw [← q, List.take_append_drop]
theorem sum_split {f : α → Int} {rows : Es α} {p : Nat} {e : α × Int} (h : rows[p]? = some e) : sumE f rows = sumE f (rows.take p) + e.2 * f e.1 + sumE f (rows.drop (p + 1)) := by
  have e1 := congrArg (sumE f) (split_at h)
  rw [sumE_append] at e1
  simp only [sumE] at e1
  omega
theorem OkE.take {es : Es α} (h : OkE K es) (n : Nat) : OkE K (es.take n) := fun x hx => h x (List.mem_of_mem_take hx)
theorem OkE.drop {es : Es α} (h : OkE K es) (n : Nat) : OkE K (es.drop n) := fun x hx => h x (List.mem_of_mem_drop hx)
theorem OkE.sumL (hK : Ok K) {es : Es α} (h : OkE K es) (d : Nat) : 0 ≤ sumE (fun c => desc K c d) es := sumE_nonneg fun e he => ⟨desc_nonneg hK _ _, h.nn he⟩
theorem OkE.sumS (hK : Ok K) {es : Es α} (h : OkE K es) : 0 ≤ sumE (size K) es := sumE_nonneg fun e he => ⟨size_nonneg hK _, h.nn he⟩
theorem mul_step {i k D : Int} (hi : i < k) (hD : 0 ≤ D) : i * D + D ≤ k * D := by
  have : (i + 1) * D ≤ k * D := Int.mul_le_mul_of_nonneg_right (by omega) hD
  rw [Int.add_mul, Int.one_mul] at this
  exact this
/-- the rank in the level lies in its range -/
theorem rkL_range (hK : Ok K) : ∀ (q : Pa) {rows : Es α} {p : Nat} {i : Int}, OkE K rows → Val K rows ((p, i) :: q) → 0 ≤ rkL K rows ((p, i) :: q) ∧ rkL K rows ((p, i) :: q) < sumE (fun c => desc K c q.length) rows := by
  intro q
  induction q with
  | nil =>
    intro rows p i hr ⟨e, he, h0, h1, _⟩
    have h1' := desc_zero (K := K) (hr e (mem_at he)).1
    have s := sum_split (f := fun c => desc K c 0) he
    have a1 := (hr.take p).sumL hK 0
    have a2 := (hr.drop (p + 1)).sumL hK 0
    simp only [rkL, he, List.length_nil]
    simp only [h1'] at s ⊢
    omega
  | cons x q ih =>
    intro rows p i hr ⟨e, he, h0, h1, hv⟩
    obtain ⟨p', i'⟩ := x
    have g := ih (ents_ok hK e.1) hv
    have hD := desc_succ hK e.1 q.length
    have s := sum_split (f := fun c => desc K c (q.length + 1)) he
    have a1 := (hr.take p).sumL hK (q.length + 1)
    have a2 := (hr.drop (p + 1)).sumL hK (q.length + 1)
    have a3 := desc_nonneg hK e.1 (q.length + 1)
    have a4 := mul_step h1 a3
    have a5 := Int.mul_nonneg h0 a3
    rw [rkL]
    simp only [he, List.length_cons]
    simp only [← hD] at g
    omega
theorem rkD_range (hK : Ok K) : ∀ (q : Pa) {rows : Es α} {p : Nat} {i : Int}, OkE K rows → Val K rows ((p, i) :: q) → 0 ≤ rkD K rows ((p, i) :: q) ∧ rkD K rows ((p, i) :: q) < sumE (size K) rows := by
  intro q
  induction q with
  | nil =>
    intro rows p i hr ⟨e, he, h0, h1, _⟩
    have hs := size_pos hK (hr e (mem_at he)).1
    have s := sum_split (f := size K) he
    have a1 := (hr.take p).sumS hK
    have a2 := (hr.drop (p + 1)).sumS hK
    have a3 := mul_step (show e.2 - 1 - i < e.2 by omega) (show 0 ≤ size K e.1 by omega)
    have a4 := Int.mul_nonneg (show 0 ≤ e.2 - 1 - i by omega) (show 0 ≤ size K e.1 by omega)
    simp only [rkD, he]
    omega
  | cons x q ih =>
    intro rows p i hr ⟨e, he, h0, h1, hv⟩
    obtain ⟨p', i'⟩ := x
    have g := ih (ents_ok hK e.1) hv
    have hs := size_eq hK (hr e (mem_at he)).1
    have s := sum_split (f := size K) he
    have a1 := (hr.take p).sumS hK
    have a2 := (hr.drop (p + 1)).sumS hK
    have a3 := mul_step (show e.2 - 1 - i < e.2 by omega) (size_nonneg hK e.1)
    have a4 := Int.mul_nonneg (show 0 ≤ e.2 - 1 - i by omega) (size_nonneg hK e.1)
    rw [rkD]
    simp only [he]
    omega
/-! orders -/
/-- the lesser path, of equal lengths -/
def ltL : Pa → Pa → Prop
  | (p, i) :: q, (p', i') :: q' => p < p' ∨ p = p' ∧ (i < i' ∨ i = i' ∧ ltL q q')
  | _, _ => False
/-- a beginning, or the greater pair where the paths part -/
def ltD : Pa → Pa → Prop
  | [], _ :: _ => True
  | (p, i) :: q, (p', i') :: q' => p' < p ∨ p = p' ∧ (i' < i ∨ i = i' ∧ ltD q q')
  | _, _ => False
theorem ltL_tri : ∀ (x y : Pa), x.length = y.length → ltL x y ∨ x = y ∨ ltL y x
  | [], [], _ => .inr (.inl rfl)
  | [], _ :: _, h => by simp at h
  | _ :: _, [], h => by simp at h
  | (p, i) :: q, (p', i') :: q', h => by
    simp only [ltL]
    have ih := ltL_tri q q' (by simpa using h)
    by_cases a : p < p'
    · exact .inl (.inl a)
    · by_cases b : p' < p
      · exact .inr (.inr (.inl b))
      · have e : p = p' := by omega
        subst e
        by_cases a : i < i'
        · exact .inl (.inr ⟨rfl, .inl a⟩)
        · by_cases b : i' < i
          · exact .inr (.inr (.inr ⟨rfl, .inl b⟩))
          · have e : i = i' := by omega
            subst e
            rcases ih with c | c | c
            · exact .inl (.inr ⟨rfl, .inr ⟨rfl, c⟩⟩)
            · subst c; exact .inr (.inl rfl)
            · exact .inr (.inr (.inr ⟨rfl, .inr ⟨rfl, c⟩⟩))
theorem ltD_tri : ∀ (x y : Pa), ltD x y ∨ x = y ∨ ltD y x
  | [], [] => .inr (.inl rfl)
  | [], _ :: _ => .inl trivial
  | _ :: _, [] => .inr (.inr trivial)
  | (p, i) :: q, (p', i') :: q' => by
    simp only [ltD]
    have ih := ltD_tri q q'
    by_cases a : p < p'
    · exact .inr (.inr (.inl a))
    · by_cases b : p' < p
      · exact .inl (.inl b)
      · have e : p = p' := by omega
        subst e
        by_cases a : i < i'
        · exact .inr (.inr (.inr ⟨rfl, .inl a⟩))
        · by_cases b : i' < i
          · exact .inl (.inr ⟨rfl, .inl b⟩)
          · have e : i = i' := by omega
            subst e
            rcases ih with c | c | c
            · exact .inl (.inr ⟨rfl, .inr ⟨rfl, c⟩⟩)
            · subst c; exact .inr (.inl rfl)
            · exact .inr (.inr (.inr ⟨rfl, .inr ⟨rfl, c⟩⟩))
/-- the rest of a task's rank, below its place -/
theorem rkL_rest (hK : Ok K) {s : α} (hs : s ∈ K.map (·.1)) {q : Pa} (hv : Val K (ents K s) q) : 0 ≤ rkL K (ents K s) q ∧ rkL K (ents K s) q < desc K s q.length := by
  cases q with
  | nil => simp only [rkL, List.length_nil, desc_zero hs]; omega
  | cons x q =>
    obtain ⟨p, i⟩ := x
    rw [List.length_cons, desc_succ hK]
    exact rkL_range hK q (ents_ok hK s) hv
theorem rkD_rest (hK : Ok K) {s : α} (hs : s ∈ K.map (·.1)) {q : Pa} (hv : Val K (ents K s) q) : -1 ≤ rkD K (ents K s) q ∧ rkD K (ents K s) q + 1 < size K s := by
  cases q with
  | nil => have := size_pos hK hs; simp only [rkD]; omega
  | cons x q =>
    obtain ⟨p, i⟩ := x
    have := rkD_range hK q (ents_ok hK s) hv
    rw [size_eq hK hs]
    omega
theorem take_le {f : α → Int} {rows : Es α} (h : ∀ e ∈ rows, 0 ≤ f e.1 ∧ 0 ≤ e.2) {p p' : Nat} {e : α × Int} (he : rows[p]? = some e) (hp : p < p') : sumE f (rows.take p) + e.2 * f e.1 ≤ sumE f (rows.take p') := by
  have hp' := (List.getElem?_eq_some_iff.mp he).1
  have e1 : (rows.take p')[p]? = some e := by rw [List.getElem?_take, if_pos hp, he]
  have s := sum_split (f := f) e1
  have e2 : (rows.take p').take p = rows.take p := by rw [List.take_take, Nat.min_eq_left (by omega)]
  rw [e2] at s
  have : 0 ≤ sumE f ((rows.take p').drop (p + 1)) := sumE_nonneg fun x hx => h x (List.mem_of_mem_take (List.mem_of_mem_drop hx))
  omega
theorem drop_le {f : α → Int} {rows : Es α} (h : ∀ e ∈ rows, 0 ≤ f e.1 ∧ 0 ≤ e.2) {p p' : Nat} {e : α × Int} (he : rows[p]? = some e) (hp : p' < p) : sumE f (rows.drop (p + 1)) + e.2 * f e.1 ≤ sumE f (rows.drop (p' + 1)) := by
  have e1 : (rows.drop (p' + 1))[p - (p' + 1)]? = some e := by rw [List.getElem?_drop, show p' + 1 + (p - (p' + 1)) = p by omega, he]
  have s := sum_split (f := f) e1
  have e2 : (rows.drop (p' + 1)).drop (p - (p' + 1) + 1) = rows.drop (p + 1) := by rw [List.drop_drop]; congr 1; omega
  rw [e2] at s
  have : 0 ≤ sumE f ((rows.drop (p' + 1)).take (p - (p' + 1))) := sumE_nonneg fun x hx => h x (List.mem_of_mem_drop (List.mem_of_mem_take hx))
  omega
theorem rkL_lt (hK : Ok K) : ∀ {x y : Pa} {rows : Es α}, OkE K rows → Val K rows x → Val K rows y → x.length = y.length → ltL x y → rkL K rows x < rkL K rows y
  | [], _, _, _, _, _, _, h => by simp [ltL] at h
  | _ :: _, [], _, _, _, _, _, h => by simp [ltL] at h
  | (p, i) :: q, (p', i') :: q', rows, hr, ⟨e, he, h0, h1, hv⟩, ⟨e', he', h0', h1', hv'⟩, hl, h => by
    have hq : q.length = q'.length := by simpa using hl
    have g := rkL_rest hK (hr e (mem_at he)).1 hv
    have g' := rkL_rest hK (hr e' (mem_at he')).1 hv'
    have a3 := desc_nonneg hK e.1 q.length
    have a3' := desc_nonneg hK e'.1 q.length
    rw [rkL, rkL]
    simp only [he, he']
    rw [← hq] at g' ⊢
    simp only [ltL] at h
    rcases h with h | ⟨rfl, h⟩
    · have t : sumE (fun c => desc K c q.length) (rows.take p) + e.2 * desc K e.1 q.length ≤ sumE (fun c => desc K c q.length) (rows.take p') := take_le (f := fun c => desc K c q.length) (rows := rows) (fun x hx => ⟨desc_nonneg hK _ _, hr.nn hx⟩) he h
      have m := mul_step h1 a3
      have a5 := Int.mul_nonneg h0' a3'
      omega
    · rw [he] at he'
      cases he'
      rcases h with h | ⟨rfl, h⟩
      · have m := mul_step h a3
        omega
      · have := rkL_lt hK (ents_ok hK e.1) hv hv' hq h
        omega
theorem rkD_lt (hK : Ok K) : ∀ {x y : Pa} {rows : Es α}, OkE K rows → Val K rows x → Val K rows y → ltD x y → rkD K rows x < rkD K rows y
  | [], [], _, _, _, _, h => by simp [ltD] at h
  | _ :: _, [], _, _, _, _, h => by simp [ltD] at h
  | [], (p', i') :: q', rows, hr, _, hv', _ => by
    have := rkD_range hK q' hr hv'
    simp only [rkD] at this ⊢
    omega
  | (p, i) :: q, (p', i') :: q', rows, hr, ⟨e, he, h0, h1, hv⟩, ⟨e', he', h0', h1', hv'⟩, h => by
    have g := rkD_rest hK (hr e (mem_at he)).1 hv
    have g' := rkD_rest hK (hr e' (mem_at he')).1 hv'
    have a3 := size_nonneg hK e.1
    have a3' := size_nonneg hK e'.1
    rw [rkD, rkD]
    simp only [he, he']
    simp only [ltD] at h
    rcases h with h | ⟨rfl, h⟩
    · have t := drop_le (f := size K) (rows := rows) (fun x hx => ⟨size_nonneg hK _, hr.nn hx⟩) he h
      have m := mul_step (show e.2 - 1 - i < e.2 by omega) a3
      have a5 := Int.mul_nonneg (show 0 ≤ e'.2 - 1 - i' by omega) a3'
      omega
    · rw [he] at he'
      cases he'
      rcases h with h | ⟨rfl, h⟩
      · have m := mul_step (show e.2 - 1 - i < e.2 - 1 - i' by omega) a3
        omega
      · have := rkD_lt hK (ents_ok hK e.1) hv hv' h
        omega
theorem rkL_inj (hK : Ok K) {x y : Pa} {rows : Es α} (hr : OkE K rows) (hx : Val K rows x) (hy : Val K rows y) (hl : x.length = y.length) (h : rkL K rows x = rkL K rows y) : x = y := by
  rcases ltL_tri x y hl with c | c | c
  · have := rkL_lt hK hr hx hy hl c; omega
  · exact c
  · have := rkL_lt hK hr hy hx hl.symm c; omega
theorem rkD_inj (hK : Ok K) {x y : Pa} {rows : Es α} (hr : OkE K rows) (hx : Val K rows x) (hy : Val K rows y) (h : rkD K rows x = rkD K rows y) : x = y := by
  rcases ltD_tri x y with c | c | c
  · have := rkD_lt hK hr hx hy c; omega
  · exact c
  · have := rkD_lt hK hr hy hx c; omega
/-! back from a number -/
def pick (f : α → Int) : Es α → Nat → Int → Option (Nat × (α × Int) × Int)
  | [], _, _ => none
  | e :: r, at_, n => if e.2 * f e.1 ≤ n then pick f r (at_ + 1) (n - e.2 * f e.1) else some (at_, e, n)
theorem pick_ok {f : α → Int} : ∀ {rows : Es α} {n : Int} {at0 : Nat}, 0 ≤ n → n < sumE f rows → ∃ j e m, pick f rows at0 n = some (at0 + j, e, m) ∧ rows[j]? = some e ∧ 0 ≤ m ∧ m < e.2 * f e.1 ∧ n = sumE f (rows.take j) + m
  | [], n, at0, h0, h1 => by simp [sumE] at h1; omega
  | e :: r, n, at0, h0, h1 => by
    simp only [sumE] at h1
    simp only [pick]
    by_cases c : e.2 * f e.1 ≤ n
    · rw [if_pos c]
      obtain ⟨j, e', m, a1, a2, a3, a4, a5⟩ := pick_ok (f := f) (rows := r) (n := n - e.2 * f e.1) (at0 := at0 + 1) (by omega) (by omega)
      refine ⟨j + 1, e', m, by rw [a1]; congr 2; omega, by simpa using a2, a3, a4, ?_⟩
      simp only [List.take_succ_cons, sumE]
      omega
    · rw [if_neg c]
      exact ⟨0, e, n, by simp, by simp, h0, by omega, by simp [sumE]⟩
theorem div_split {m D : Int} (hD : 0 < D) : m = m / D * D + m % D ∧ 0 ≤ m % D ∧ m % D < D := by
  refine ⟨?_, Int.emod_nonneg _ (by omega), Int.emod_lt_of_pos _ hD⟩
  have := Int.mul_ediv_add_emod m D
  rw [Int.mul_comm] at this
  omega
theorem pos_of_mul {m k D : Int} (h0 : 0 ≤ m) (h : m < k * D) (hD : 0 ≤ D) : 0 < D := by
  rcases Int.lt_or_eq_of_le hD with h1 | h1
  · exact h1
  · rw [← h1, Int.mul_zero] at h
    omega
end
end
end PM

namespace PM
section
variable {α : Type} [DecidableEq α]
/-! ### inner descendants; tables; bounds -/
def inn (es : Es α) : Int := if (!es.isEmpty) = true then 1 else 0
def idesc : Ks α → α → Nat → Int
  | [], _, _ => 0
  | k :: r, s, d => if k.1 = s then (match d with
    | 0 => inn k.2
    | d + 1 => sumE (fun c => idesc r c d) k.2) else idesc r s d
theorem idesc_zero : ∀ {K : Ks α} {s : α}, s ∈ K.map (·.1) → idesc K s 0 = inn (ents K s)
  | k :: K, s, h => by
    simp only [idesc, ents]
    by_cases e : k.1 = s
    · rw [if_pos e, if_pos e]
    · rw [if_neg e, if_neg e]
      exact idesc_zero (mem_tl h e)
theorem idesc_succ : ∀ {K : Ks α}, Ok K → ∀ (s : α) (d : Nat), idesc K s (d + 1) = sumE (fun c => idesc K c d) (ents K s)
  | [], _, s, d => rfl
  | k :: K, h, s, d => by
    simp only [idesc, ents]
    by_cases e : k.1 = s
    · rw [if_pos e, if_pos e]
      exact sumE_congr fun x hx => by rw [if_neg (ne_of_mem h (h.2.1 x hx).1)]
    · rw [if_neg e, if_neg e, idesc_succ h.2.2]
      exact sumE_congr fun x hx => by rw [if_neg (ne_of_mem h (ents_ok h.2.2 s x hx).1)]
theorem idesc_big : ∀ {K : Ks α}, Ok K → ∀ (s : α) (d : Nat), s ∈ K.map (·.1) → lev K s ≤ d → idesc K s d = 0
  | [], _, s, d, hs, _ => by simp at hs
  | k :: K, h, s, d, hs, hd => by
    simp only [lev] at hd
    simp only [idesc]
    by_cases e : k.1 = s
    · rw [if_pos e] at hd ⊢
      cases d with
      | zero => omega
      | succ d =>
        show sumE (fun c => idesc K c d) k.2 = 0
        rw [← sumE_zero (es := k.2)]
        refine sumE_congr fun x hx => ?_
        refine idesc_big h.2.2 x.1 d (h.2.1 x hx).1 ?_
        have := le_maxL (List.mem_map_of_mem (f := fun e : α × Int => lev K e.1) hx)
        omega
    · rw [if_neg e] at hd ⊢
      exact idesc_big h.2.2 s d (mem_tl hs e) hd
/-- a table's numbers -/
def pr (K : Ks α) (s : α) (d : Nat) : Int × Int := (desc K s d, idesc K s d)
def tabF {β : Type} (f : Nat → β) (n : Nat) : List β := (List.range n).map f
theorem tabF_len {β : Type} (f : Nat → β) (n : Nat) : (tabF f n).length = n := by simp [tabF]
theorem tabF_get {β : Type} {f : Nat → β} {n i : Nat} (h : i < n) : (tabF f n)[i]? = some (f i) := by simp [tabF, h]
theorem tabF_congr {β : Type} {f g : Nat → β} {n : Nat} (h : ∀ i, i < n → f i = g i) : tabF f n = tabF g n := by
  unfold tabF
  exact List.map_congr_left fun i hi => h i (List.mem_range.mp hi)
theorem tabF_succ {β : Type} (f : Nat → β) (n : Nat) : tabF f (n + 1) = tabF f n ++ [f n] := by simp [tabF, List.range_succ]
theorem tabF_set {β : Type} {f : Nat → β} {n i : Nat} {v : β} : (tabF f n).set i v = tabF (fun j => if j = i then v else f j) n := by
  refine List.ext_getElem? fun j => ?_
  by_cases hj : j < n
  · rw [tabF_get hj, List.getElem?_set]
    by_cases e : i = j
    · subst e
      simp [tabF_len, hj]
    · rw [if_neg e, tabF_get hj, if_neg fun z => e z.symm]
  · rw [List.getElem?_eq_none (by rw [List.length_set, tabF_len]; omega), List.getElem?_eq_none (by rw [tabF_len]; omega)]
/-- what a table is while entries are added -/
def fT (K : Ks α) (a0 : Int × Int) (es : Es α) : Nat → Int × Int
  | 0 => a0
  | d + 1 => (sumE (fun c => desc K c d) es, sumE (fun c => idesc K c d) es)
def mxl (K : Ks α) (es : Es α) : Nat := maxL (es.map fun e => lev K e.1)
theorem maxL_snoc : ∀ (l : List Nat) (a : Nat), maxL (l ++ [a]) = max (maxL l) a
  | [], a => by simp [maxL]
  | b :: l, a => by
    simp only [List.cons_append, maxL, maxL_snoc l a]
    omega
theorem mxl_snoc (K : Ks α) (es : Es α) (x : α × Int) : mxl K (es ++ [x]) = max (mxl K es) (lev K x.1) := by
  unfold mxl
  rw [List.map_append]
  exact maxL_snoc _ _
theorem sumE_snoc {f : α → Int} {es : Es α} {x : α × Int} : sumE f (es ++ [x]) = sumE f es + x.2 * f x.1 := by
  rw [sumE_append]
  simp [sumE]
theorem fT_big {K : Ks α} (hK : Ok K) {es : Es α} (he : OkE K es) {a0 : Int × Int} {d : Nat} (h : mxl K es ≤ d) : fT K a0 es (d + 1) = (0, 0) := by
  have q : ∀ e ∈ es, lev K e.1 ≤ d := fun e h' => by
    have := le_maxL (List.mem_map_of_mem (f := fun e : α × Int => lev K e.1) h')
    unfold mxl at h
    omega
  simp only [fT]
  rw [← sumE_zero (es := es)]
  congr 1
  · exact sumE_congr fun e h' => desc_big hK _ _ (he e h').1 (q e h')
  · exact sumE_congr fun e h' => idesc_big hK _ _ (he e h').1 (q e h')
theorem fT_ents {K : Ks α} (hK : Ok K) {s : α} (hs : s ∈ K.map (·.1)) : fT K (1, inn (ents K s)) (ents K s) = pr K s := by
  funext d
  cases d with
  | zero => simp only [fT, pr, desc_zero hs, idesc_zero hs]
  | succ d => simp only [fT, pr, desc_succ hK, idesc_succ hK]
theorem pr_big {K : Ks α} (hK : Ok K) {s : α} (hs : s ∈ K.map (·.1)) {d : Nat} (h : lev K s ≤ d) : pr K s d = (0, 0) := by
  simp only [pr, desc_big hK s d hs h, idesc_big hK s d hs h]
/-! how great the numbers are -/
def OkB (B : Int) : Ks α → Prop
  | [] => True
  | k :: r => sumE (fun _ => 1) k.2 ≤ B ∧ OkB B r
theorem sumE_le {f : α → Int} {M : Int} : ∀ {es : Es α}, (∀ e ∈ es, f e.1 ≤ M ∧ 0 ≤ e.2) → sumE f es ≤ sumE (fun _ => 1) es * M
  | [], _ => by simp [sumE]
  | e :: r, h => by
    simp only [sumE]
    have h1 := Int.mul_le_mul_of_nonneg_left (h e (by simp)).1 (h e (by simp)).2
    have h2 := sumE_le (M := M) fun x hx => h x (List.mem_cons_of_mem e hx)
    rw [Int.mul_one, Int.add_mul]
    omega
theorem one_le_pow {b : Int} (h : 1 ≤ b) : ∀ n : Nat, 1 ≤ b ^ n
  | 0 => by rw [Int.pow_zero]; decide
  | n + 1 => by
    have a := one_le_pow h n
    have := Int.mul_le_mul_of_nonneg_left h (show 0 ≤ b ^ n by omega)
    rw [Int.pow_succ]
    omega
theorem desc_le {B : Int} (hB : 1 ≤ B) : ∀ {K : Ks α}, Ok K → OkB B K → ∀ (s : α) (d : Nat), desc K s d ≤ B ^ K.length
  | [], _, _, s, d => by simp only [desc, List.length_nil]; rw [Int.pow_zero]; decide
  | k :: K, h, hb, s, d => by
    have p1 : 1 ≤ B ^ K.length := one_le_pow hB _
    have p2 : B ^ K.length ≤ B ^ (k :: K).length := by
      rw [List.length_cons, Int.pow_succ]
      have := Int.mul_le_mul_of_nonneg_left hB (show 0 ≤ B ^ K.length by omega)
      omega
    simp only [desc]
    split
    · cases d with
      | zero => show (1 : Int) ≤ _; omega
      | succ d =>
        show sumE (fun c => desc K c d) k.2 ≤ _
        have h1 := sumE_le (f := fun c => desc K c d) (M := B ^ K.length) (es := k.2) fun e he => ⟨desc_le hB h.2.2 hb.2 e.1 d, by have := (h.2.1 e he).2; omega⟩
        have h2 := Int.mul_le_mul_of_nonneg_right hb.1 (show 0 ≤ B ^ K.length by omega)
        rw [List.length_cons, Int.pow_succ, Int.mul_comm (B ^ K.length)]
        omega
    · have := desc_le hB h.2.2 hb.2 s d
      omega
theorem size_le {B : Int} (hB : 1 ≤ B) : ∀ {K : Ks α}, Ok K → OkB B K → ∀ (s : α), size K s ≤ (B + 1) ^ K.length
  | [], _, _, s => by simp only [size, List.length_nil]; rw [Int.pow_zero]; decide
  | k :: K, h, hb, s => by
    have p1 : 1 ≤ (B + 1) ^ K.length := one_le_pow (by omega) _
    have p3 : (B + 1) ^ (k :: K).length = B * (B + 1) ^ K.length + (B + 1) ^ K.length := by
      rw [List.length_cons, Int.pow_succ, Int.mul_comm, Int.add_mul, Int.one_mul]
    have p4 : 0 ≤ B * (B + 1) ^ K.length := Int.mul_nonneg (by omega) (by omega)
    simp only [size]
    split
    · have h1 := sumE_le (f := size K) (M := (B + 1) ^ K.length) (es := k.2) fun e he => ⟨size_le hB h.2.2 hb.2 e.1, by have := (h.2.1 e he).2; omega⟩
      have h2 := Int.mul_le_mul_of_nonneg_right hb.1 (show 0 ≤ (B + 1) ^ K.length by omega)
      omega
    · have := size_le hB h.2.2 hb.2 s
      omega
end
end PM

namespace PM
section
variable {α : Type} [DecidableEq α] {K : Ks α}
/-! ### paths put together -/
theorem val_app : ∀ {a b : Pa} {rows : Es α}, Val K rows (a ++ b) → Val K rows a ∧ Val K (rowsP K rows a) b
  | [], b, rows, h => ⟨trivial, h⟩
  | (p, i) :: a, b, rows, ⟨e, he, h0, h1, hv⟩ => by
    have := val_app hv
    refine ⟨⟨e, he, h0, h1, this.1⟩, ?_⟩
    simp only [rowsP, he]
    exact this.2
theorem app_val : ∀ {a b : Pa} {rows : Es α}, Val K rows a → Val K (rowsP K rows a) b → Val K rows (a ++ b)
  | [], b, rows, _, h => h
  | (p, i) :: a, b, rows, ⟨e, he, h0, h1, hv⟩, h => by
    simp only [rowsP, he] at h
    exact ⟨e, he, h0, h1, app_val hv h⟩
theorem rowsP_app : ∀ {a b : Pa} {rows : Es α}, Val K rows a → rowsP K rows (a ++ b) = rowsP K (rowsP K rows a) b
  | [], b, rows, _ => rfl
  | (p, i) :: a, b, rows, ⟨e, he, h0, h1, hv⟩ => by
    simp only [List.cons_append, rowsP, he]
    exact rowsP_app hv
theorem rowsP_one {p : Nat} {i : Int} {rows : Es α} {e : α × Int} (he : rows[p]? = some e) : rowsP K rows [(p, i)] = ents K e.1 := by simp only [rowsP, he]
theorem rowsP_snoc {a : Pa} {p : Nat} {i : Int} {rows : Es α} {e : α × Int} (ha : Val K rows a) (he : (rowsP K rows a)[p]? = some e) : rowsP K rows (a ++ [(p, i)]) = ents K e.1 := by
  rw [rowsP_app ha, rowsP_one he]
theorem kindP_snoc : ∀ {a : Pa} {p : Nat} {i : Int} {rows : Es α} {e : α × Int}, Val K rows a → (rowsP K rows a)[p]? = some e → kindP K rows (a ++ [(p, i)]) = some e.1
  | [], p, i, rows, e, _, he => by
    have he' : rows[p]? = some e := he
    simp only [List.nil_append, kindP, he']
  | (p', i') :: a, p, i, rows, e, ⟨e', he', h0, h1, hv⟩, he => by
    simp only [rowsP, he'] at he
    have ih := kindP_snoc (i := i) hv he
    cases a with
    | nil =>
      simp only [List.cons_append, List.nil_append, kindP, he'] at ih ⊢
      exact ih
    | cons y a =>
      simp only [List.cons_append, kindP, he'] at ih ⊢
      exact ih
theorem rowsP_ok (hK : Ok K) : ∀ {a : Pa} {rows : Es α}, OkE K rows → OkE K (rowsP K rows a)
  | [], rows, h => h
  | (p, i) :: a, rows, h => by
    simp only [rowsP]
    cases rows[p]? with
    | none => intro x hx; cases hx
    | some e => exact rowsP_ok hK (ents_ok hK e.1)
theorem val_snoc {a : Pa} {p : Nat} {i : Int} {rows : Es α} {e : α × Int} (ha : Val K rows a) (he : (rowsP K rows a)[p]? = some e) (h0 : 0 ≤ i) (h1 : i < e.2) : Val K rows (a ++ [(p, i)]) := app_val ha ⟨e, he, h0, h1, trivial⟩
/-- the rank of a beginning with r further steps -/
def rkLn (K : Ks α) (r : Nat) : Es α → Pa → Int
  | _, [] => 0
  | rows, (p, i) :: q => match rows[p]? with
    | none => 0
    | some e => sumE (fun c => desc K c (q.length + r)) (rows.take p) + i * desc K e.1 (q.length + r) + rkLn K r (ents K e.1) q
def rkDn (K : Ks α) : Es α → Pa → Int
  | _, [] => 0
  | rows, (p, i) :: q => match rows[p]? with
    | none => 0
    | some e => sumE (size K) (rows.drop (p + 1)) + (e.2 - 1 - i) * size K e.1 + (rkDn K (ents K e.1) q + 1)
theorem rkLn_zero : ∀ {a : Pa} {rows : Es α}, rkLn K 0 rows a = rkL K rows a
  | [], rows => rfl
  | (p, i) :: q, rows => by
    simp only [rkLn, rkL]
    cases rows[p]? with
    | none => rfl
    | some e => simp only [Nat.add_zero, rkLn_zero (a := q)]
theorem rkLn_app {r : Nat} : ∀ {a b : Pa} {rows : Es α}, Val K rows a → rkLn K r rows (a ++ b) = rkLn K (b.length + r) rows a + rkLn K r (rowsP K rows a) b
  | [], b, rows, _ => by simp [rkLn, rowsP]
  | (p, i) :: a, b, rows, ⟨e, he, h0, h1, hv⟩ => by
    simp only [List.cons_append, rkLn, he, rowsP, List.length_append, rkLn_app (b := b) hv]
    rw [Nat.add_assoc]
    omega
theorem rkLn_snoc {r : Nat} {a : Pa} {p : Nat} {i : Int} {rows : Es α} {e : α × Int} (ha : Val K rows a) (he : (rowsP K rows a)[p]? = some e) :
    rkLn K r rows (a ++ [(p, i)]) = rkLn K (r + 1) rows a + (sumE (fun c => desc K c r) ((rowsP K rows a).take p) + i * desc K e.1 r) := by
  rw [rkLn_app ha]
  simp only [rkLn, he, List.length_cons, List.length_nil, Nat.zero_add, Nat.add_comm 1 r]
  omega
theorem rkD_app : ∀ {a b : Pa} {rows : Es α}, Val K rows a → rkD K rows (a ++ b) = rkDn K rows a + rkD K (rowsP K rows a) b
  | [], b, rows, _ => by simp [rkDn, rowsP]
  | (p, i) :: a, b, rows, ⟨e, he, h0, h1, hv⟩ => by
    simp only [List.cons_append, rkD, rkDn, he, rowsP, rkD_app (b := b) hv]
    omega
theorem rkDn_app : ∀ {a b : Pa} {rows : Es α}, Val K rows a → rkDn K rows (a ++ b) = rkDn K rows a + rkDn K (rowsP K rows a) b
  | [], b, rows, _ => by simp [rkDn, rowsP]
  | (p, i) :: a, b, rows, ⟨e, he, h0, h1, hv⟩ => by
    simp only [List.cons_append, rkDn, he, rowsP, rkDn_app (b := b) hv]
    omega
theorem rkDn_snoc {a : Pa} {p : Nat} {i : Int} {rows : Es α} {e : α × Int} (ha : Val K rows a) (he : (rowsP K rows a)[p]? = some e) :
    rkDn K rows (a ++ [(p, i)]) = rkDn K rows a + (sumE (size K) ((rowsP K rows a).drop (p + 1)) + (e.2 - 1 - i) * size K e.1 + 1) := by
  rw [rkDn_app ha]
  simp only [rkDn, he]
  omega
theorem rkD_all {a : Pa} {rows : Es α} (ha : Val K rows a) : rkD K rows a = rkDn K rows a - 1 := by
  have := rkD_app (b := []) ha
  rw [List.append_nil] at this
  rw [this]
  simp only [rkD]
  omega
/-! numbers of starts -/
def ltot (K : Ks α) (rows : Es α) (d : Nat) : Int := sumE (fun c => desc K c d) rows
def numL (K : Ks α) (rows : Es α) (q : Pa) : Int := sumN (ltot K rows) (q.length - 1) + rkL K rows q
theorem ltot_nonneg (hK : Ok K) {rows : Es α} (h : OkE K rows) (d : Nat) : 0 ≤ ltot K rows d := h.sumL hK d
theorem ltot_big (hK : Ok K) {rows : Es α} (h : OkE K rows) {d : Nat} (hd : mxl K rows ≤ d) : ltot K rows d = 0 := by
  unfold ltot
  rw [← sumE_zero (es := rows)]
  refine sumE_congr fun e he => desc_big hK _ _ (h e he).1 ?_
  have := le_maxL (List.mem_map_of_mem (f := fun e : α × Int => lev K e.1) he)
  unfold mxl at hd
  omega
/-- all tasks, level by level -/
theorem total_levels (hK : Ok K) {rows : Es α} (h : OkE K rows) {n : Nat} (hn : mxl K rows ≤ n) : sumN (ltot K rows) n = sumE (size K) rows := by
  unfold ltot
  rw [sumN_sumE]
  refine sumE_congr fun e he => size_sum hK _ _ (h e he).1 ?_
  have := le_maxL (List.mem_map_of_mem (f := fun e : α × Int => lev K e.1) he)
  unfold mxl at hn
  omega
theorem sumN_mono {f : Nat → Int} (h : ∀ i, 0 ≤ f i) {n m : Nat} (hnm : n ≤ m) : sumN f n ≤ sumN f m := by
  induction m with
  | zero =>
    have : n = 0 := by omega
    rw [this]
    exact Int.le_refl _
  | succ m ih =>
    by_cases e : n = m + 1
    · rw [e]; exact Int.le_refl _
    · have := ih (by omega)
      have := h m
      simp only [sumN]
      omega
theorem sumN_nonneg {f : Nat → Int} (h : ∀ i, 0 ≤ f i) (n : Nat) : 0 ≤ sumN f n := by
  have := sumN_mono h (Nat.zero_le n)
  simpa [sumN] using this
/-- a level has tasks where a path of its length lies -/
theorem val_lev (hK : Ok K) {rows : Es α} (h : OkE K rows) {q : Pa} (hq : q ≠ []) (hv : Val K rows q) : q.length ≤ mxl K rows := by
  rcases Nat.lt_or_ge (mxl K rows) q.length with c | c
  · exfalso
    obtain ⟨x, q', rfl⟩ := List.exists_cons_of_ne_nil hq
    obtain ⟨p, i⟩ := x
    have r := rkL_range hK q' h hv
    have z := ltot_big hK h (d := q'.length) (by simp at c; omega)
    unfold ltot at z
    omega
  · exact c
theorem numL_range (hK : Ok K) {rows : Es α} (h : OkE K rows) {q : Pa} (hq : q ≠ []) (hv : Val K rows q) :
    sumN (ltot K rows) (q.length - 1) ≤ numL K rows q ∧ numL K rows q < sumN (ltot K rows) q.length ∧ 0 ≤ numL K rows q ∧ numL K rows q < sumE (size K) rows := by
  have hl := val_lev hK h hq hv
  obtain ⟨x, q', rfl⟩ := List.exists_cons_of_ne_nil hq
  obtain ⟨p, i⟩ := x
  have r := rkL_range hK q' h hv
  have t := total_levels hK h (Nat.le_refl (mxl K rows))
  have m := sumN_mono (ltot_nonneg hK h) (show q'.length + 1 ≤ mxl K rows by simpa using hl)
  have m0 := sumN_nonneg (ltot_nonneg hK h) q'.length
  have e : sumN (ltot K rows) (q'.length + 1) = sumN (ltot K rows) q'.length + sumE (fun c => desc K c q'.length) rows := rfl
  unfold numL
  simp only [List.length_cons, Nat.add_sub_cancel]
  omega
theorem numL_inj (hK : Ok K) {rows : Es α} (h : OkE K rows) {x y : Pa} (hx : x ≠ []) (hy : y ≠ []) (vx : Val K rows x) (vy : Val K rows y) (e : numL K rows x = numL K rows y) : x = y := by
  have rx := numL_range hK h hx vx
  have ry := numL_range hK h hy vy
  have nn := ltot_nonneg hK h
  have lx := List.length_pos_iff.mpr hx
  have ly := List.length_pos_iff.mpr hy
  rcases Nat.lt_trichotomy x.length y.length with c | c | c
  · have := sumN_mono nn (show x.length ≤ y.length - 1 by omega)
    omega
  · refine rkL_inj hK h vx vy c ?_
    unfold numL at e
    rw [c] at e
    omega
  · have := sumN_mono nn (show y.length ≤ x.length - 1 by omega)
    omega
end
end PM

namespace PM
section
variable {α : Type} [DecidableEq α] {K : Ks α}
/-! ### a queue played -/
/-- the tasks below a task, listed -/
def kids (a : Pa) : Nat → Es α → List Pa
  | _, [] => []
  | n, e :: r => ((List.range e.2.toNat).map fun (i : Nat) => a ++ [(n, (i : Int))]) ++ kids a (n + 1) r
theorem kids_snoc {a : Pa} : ∀ {rows : Es α} {n : Nat} {e : α × Int}, kids a n (rows ++ [e]) = kids a n rows ++ (List.range e.2.toNat).map fun (i : Nat) => a ++ [(n + rows.length, (i : Int))]
  | [], n, e => by simp [kids]
  | x :: rows, n, e => by
    simp only [List.cons_append, kids, kids_snoc (rows := rows), List.append_assoc, List.length_cons]
    rw [show n + 1 + rows.length = n + (rows.length + 1) by omega]
theorem mem_kids {a q : Pa} : ∀ {rows : Es α} {n : Nat}, q ∈ kids a n rows ↔ ∃ p i e, rows[p]? = some e ∧ 0 ≤ i ∧ i < e.2 ∧ q = a ++ [(n + p, i)]
  | [], n => by simp [kids]
  | x :: rows, n => by
    simp only [kids, List.mem_append, List.mem_map, List.mem_range, mem_kids (rows := rows)]
    constructor
    · rintro (⟨i, hi, rfl⟩ | ⟨p, i, e, he, h0, h1, rfl⟩)
      · exact ⟨0, i, x, rfl, by omega, by omega, rfl⟩
      · exact ⟨p + 1, i, e, he, h0, h1, by rw [show n + 1 + p = n + (p + 1) by omega]⟩
    · rintro ⟨p, i, e, he, h0, h1, rfl⟩
      cases p with
      | zero =>
        have : x = e := by simpa using he
        subst this
        exact .inl ⟨i.toNat, by omega, by rw [Int.toNat_of_nonneg h0]; rfl⟩
      | succ p => exact .inr ⟨p, i, e, by simpa using he, h0, h1, by rw [show n + 1 + p = n + (p + 1) by omega]⟩
/-- steps in order -/
def sib (a x y : Pa) : Prop := ∃ p i p' i', x = a ++ [(p, i)] ∧ y = a ++ [(p', i')] ∧ (p < p' ∨ p = p' ∧ i < i')
theorem kids_sib {a : Pa} : ∀ {rows : Es α} {n : Nat}, (kids a n rows).Pairwise (sib a)
  | [], n => by simp [kids]
  | x :: rows, n => by
    simp only [kids]
    refine List.pairwise_append.mpr ⟨?_, kids_sib, ?_⟩
    · rw [List.pairwise_map]
      exact List.pairwise_lt_range.imp fun {i j} h => ⟨_, _, _, _, rfl, rfl, .inr ⟨rfl, by omega⟩⟩
    · intro y hy z hz
      obtain ⟨i, _, rfl⟩ := List.mem_map.mp hy
      obtain ⟨p, j, e, _, _, _, rfl⟩ := mem_kids.mp hz
      exact ⟨_, _, _, _, rfl, rfl, .inl (by omega)⟩
theorem sib_ltL {a x y : Pa} (h : sib a x y) : ltL x y := by
  obtain ⟨p, i, p', i', rfl, rfl, h⟩ := h
  induction a with
  | nil => rcases h with h | ⟨h, h2⟩; exact .inl h; exact .inr ⟨h, .inl h2⟩
  | cons s a ih => exact .inr ⟨rfl, .inr ⟨rfl, ih⟩⟩
theorem ltL_ext : ∀ {x y : Pa} (u v : Pa), ltL x y → ltL (x ++ u) (y ++ v)
  | [], _, u, v, h => absurd h (by simp [ltL])
  | _ :: _, [], u, v, h => absurd h (by simp [ltL])
  | (p, i) :: q, (p', i') :: q', u, v, h => by
    rcases h with h | ⟨rfl, h | ⟨rfl, h⟩⟩
    · exact .inl h
    · exact .inr ⟨rfl, .inl h⟩
    · exact .inr ⟨rfl, .inr ⟨rfl, ltL_ext u v h⟩⟩
/-- the branch of one is before that of the other -/
def brD : Pa → Pa → Prop
  | (p, i) :: q, (p', i') :: q' => p' < p ∨ p = p' ∧ (i' < i ∨ i = i' ∧ brD q q')
  | _, _ => False
theorem brD_ext : ∀ {x y : Pa} (u : Pa), brD x y → brD (x ++ u) y
  | [], _, u, h => absurd h (by simp [brD])
  | _ :: _, [], u, h => absurd h (by simp [brD])
  | (p, i) :: q, (p', i') :: q', u, h => by
    rcases h with h | ⟨rfl, h | ⟨rfl, h⟩⟩
    · exact .inl h
    · exact .inr ⟨rfl, .inl h⟩
    · exact .inr ⟨rfl, .inr ⟨rfl, brD_ext u h⟩⟩
theorem brD_lt : ∀ {x y : Pa}, brD x y → ltD x y
  | [], _, h => absurd h (by simp [brD])
  | _ :: _, [], h => absurd h (by simp [brD])
  | (p, i) :: q, (p', i') :: q', h => by
    rcases h with h | ⟨rfl, h | ⟨rfl, h⟩⟩
    · exact .inl h
    · exact .inr ⟨rfl, .inl h⟩
    · exact .inr ⟨rfl, .inr ⟨rfl, brD_lt h⟩⟩
theorem sib_brD {a x y : Pa} (h : sib a x y) : brD y x := by
  obtain ⟨p, i, p', i', rfl, rfl, h⟩ := h
  induction a with
  | nil => rcases h with h | ⟨h, h2⟩; exact .inl h; exact .inr ⟨h.symm, .inl h2⟩
  | cons s a ih => exact .inr ⟨rfl, .inr ⟨rfl, ih⟩⟩
theorem ltD_snoc : ∀ (a : Pa) (x : Nat × Int), ltD a (a ++ [x])
  | [], x => trivial
  | y :: a, x => .inr ⟨rfl, .inr ⟨rfl, ltD_snoc a x⟩⟩
/-- a list of growing whole numbers with every number of a range -/
theorem grow_at : ∀ {l : List Int} {a b : Int}, l.Pairwise (· < ·) → (∀ x ∈ l, a ≤ x ∧ x < b) → (∀ n, a ≤ n → n < b → n ∈ l) → a ≤ b → (l.length : Int) = b - a ∧ ∀ (j : Nat) x, l[j]? = some x → x = a + j
  | [], a, b, _, _, hall, hab => by
    refine ⟨?_, fun j x e => by simp at e⟩
    by_cases c : a < b
    · exact absurd (hall a (Int.le_refl a) c) (by simp)
    · simp; omega
  | h :: l, a, b, hp, hr, hall, hab => by
    have hh := hr h (by simp)
    rw [List.pairwise_cons] at hp
    have e : h = a := by
      rcases List.mem_cons.mp (hall a (Int.le_refl a) (by omega)) with c | c
      · exact c.symm
      · have := hp.1 a c
        omega
    subst e
    have ih := grow_at (l := l) (a := h + 1) (b := b) hp.2 (fun x hx => ⟨by have := hp.1 x hx; omega, (hr x (by simp [hx])).2⟩) (fun n h0 h1 => by
      rcases List.mem_cons.mp (hall n (by omega) h1) with c | c
      · omega
      · exact c) (by omega)
    refine ⟨by rw [List.length_cons]; omega, fun j x hx => ?_⟩
    cases j with
    | zero => simp at hx; omega
    | succ j =>
      have := ih.2 j x (by simpa using hx)
      omega
/-- growing numbers of a range are no more than it has -/
theorem grow_len : ∀ {l : List Int} {a b : Int}, l.Pairwise (· < ·) → (∀ x ∈ l, a ≤ x ∧ x < b) → a ≤ b → (l.length : Int) ≤ b - a
  | [], a, b, _, _, hab => by simp; omega
  | h :: l, a, b, hp, hr, hab => by
    have hh := hr h (by simp)
    rw [List.pairwise_cons] at hp
    have ih := grow_len (l := l) (a := h + 1) (b := b) hp.2 (fun x hx => ⟨by have := hp.1 x hx; omega, (hr x (by simp [hx])).2⟩) (by omega)
    rw [List.length_cons]
    omega
end
section
variable {α : Type} [DecidableEq α] {K : Ks α} {rows : Es α}
/-- what a queue keeps: R have started, S wait, in the order of their leaving -/
structure Que (K : Ks α) (rows : Es α) (lt wt : Pa → Pa → Prop) (R S : List Pa) : Prop where
  rr : R.Pairwise lt
  rs : ∀ x ∈ R, ∀ y ∈ S, lt x y
  ss : S.Pairwise wt
  ok : ∀ x ∈ R ++ S, x ≠ [] ∧ Val K rows x
  top : ∀ x ∈ kids [] 0 rows, x ∈ R ++ S
  low : ∀ x ∈ R, ∀ y ∈ kids x 0 (rowsP K rows x), y ∈ R ++ S
theorem kids_ok {a : Pa} (ha : Val K rows a) {x : Pa} (h : x ∈ kids a 0 (rowsP K rows a)) : x ≠ [] ∧ Val K rows x := by
  obtain ⟨p, i, e, he, h0, h1, rfl⟩ := mem_kids.mp h
  exact ⟨by simp, val_snoc ha (by simpa using he) h0 h1⟩
theorem Que.all {lt wt : Pa → Pa → Prop} {R : List Pa} (q : Que K rows lt wt R []) : ∀ (n : Nat) (x : Pa), x.length = n → x ≠ [] → Val K rows x → x ∈ R
  | 0, x, hl, hx, _ => absurd (List.length_eq_zero_iff.mp hl) hx
  | n + 1, x, hl, hx, hv => by
    have e := List.dropLast_concat_getLast hx
    generalize hy : x.dropLast = y at e
    generalize x.getLast hx = s at e
    obtain ⟨p, i⟩ := s
    rw [← e] at hv hl ⊢
    have hv2 := val_app hv
    obtain ⟨e2, he, h0, h1, _⟩ := hv2.2
    have hk : y ++ [(p, i)] ∈ kids y 0 (rowsP K rows y) := mem_kids.mpr ⟨p, i, e2, he, h0, h1, by simp⟩
    by_cases hn : y = []
    · subst hn
      have := q.top _ hk
      simpa using this
    · have hyR := q.all n y (by simpa using hl) hn hv2.1
      have := q.low y hyR _ hk
      simpa using this
def dueL (K : Ks α) (rows : Es α) (x y : Pa) : Prop := numL K rows x < numL K rows y
def dueD (K : Ks α) (rows : Es α) (x y : Pa) : Prop := rkD K rows x < rkD K rows y
theorem dueL_len (hK : Ok K) (h : OkE K rows) {x y : Pa} (hx : x ≠ []) (hy : y ≠ []) (vx : Val K rows x) (vy : Val K rows y) (hl : x.length < y.length) : dueL K rows x y := by
  have rx := numL_range hK h hx vx
  have ry := numL_range hK h hy vy
  have := sumN_mono (ltot_nonneg hK h) (show x.length ≤ y.length - 1 by omega)
  unfold dueL
  omega
theorem dueL_lt (hK : Ok K) (h : OkE K rows) {x y : Pa} (vx : Val K rows x) (vy : Val K rows y) (hl : x.length = y.length) (q : ltL x y) : dueL K rows x y := by
  have := rkL_lt hK h vx vy hl q
  unfold dueL numL
  rw [hl]
  omega
/-- children in the order of their parents -/
theorem dueL_kids (hK : Ok K) (h : OkE K rows) {x y : Pa} (hx : x ≠ []) (hy : y ≠ []) (vx : Val K rows x) (vy : Val K rows y) (q : dueL K rows x y) {u v : Pa}
    (hu : u ∈ kids x 0 (rowsP K rows x)) (hv : v ∈ kids y 0 (rowsP K rows y)) : dueL K rows u v := by
  have ou := kids_ok vx hu
  have ov := kids_ok vy hv
  obtain ⟨p, i, e, _, _, _, rfl⟩ := mem_kids.mp hu
  obtain ⟨p', i', e', _, _, _, rfl⟩ := mem_kids.mp hv
  rcases Nat.lt_trichotomy x.length y.length with c | c | c
  · exact dueL_len hK h ou.1 ov.1 ou.2 ov.2 (by simpa using c)
  · rcases ltL_tri x y c with d | d | d
    · exact dueL_lt hK h ou.2 ov.2 (by simpa using c) (ltL_ext _ _ d)
    · subst d
      exact absurd q (by unfold dueL; omega)
    · have := dueL_lt hK h vy vx c.symm d
      unfold dueL at q this
      omega
  · have := dueL_len hK h hy hx vy vx c
    unfold dueL at q this
    omega
/-- what waits first came first: every waiting one is a root or the child of a started one -/
def From (K : Ks α) (rows : Es α) (R S : List Pa) : Prop := ∀ x ∈ R ++ S, x.length = 1 ∨ ∃ r ∈ R, x ∈ kids r 0 (rowsP K rows r)
theorem kids_dueL (hK : Ok K) (h : OkE K rows) {a : Pa} (ha : Val K rows a) : (kids a 0 (rowsP K rows a)).Pairwise (dueL K rows) :=
  List.Pairwise.imp_of_mem (fun {x y} hx hy s => by
    have ox := kids_ok ha hx
    have oy := kids_ok ha hy
    refine dueL_lt hK h ox.2 oy.2 ?_ (sib_ltL s)
    obtain ⟨p, i, p', i', rfl, rfl, _⟩ := s
    simp) kids_sib
theorem Que.fifo0 (hK : Ok K) (h : OkE K rows) : Que K rows (dueL K rows) (dueL K rows) [] (kids [] 0 rows) ∧ From K rows [] (kids [] 0 rows) :=
  ⟨⟨.nil, fun x hx => by simp at hx, kids_dueL hK h (a := []) trivial, fun x hx => kids_ok (a := []) trivial (by simpa [rowsP] using hx), fun x hx => by simpa using hx, fun x hx => by simp at hx⟩,
   fun x hx => by
    obtain ⟨p, i, e, _, _, _, rfl⟩ := mem_kids.mp (by simpa using hx : x ∈ kids [] 0 rows)
    exact .inl (by simp)⟩
theorem Que.fifo (hK : Ok K) (h : OkE K rows) {R S : List Pa} {q : Pa} (Q : Que K rows (dueL K rows) (dueL K rows) R (q :: S)) (F : From K rows R (q :: S)) :
    Que K rows (dueL K rows) (dueL K rows) (R ++ [q]) (S ++ kids q 0 (rowsP K rows q)) ∧ From K rows (R ++ [q]) (S ++ kids q 0 (rowsP K rows q)) := by
  have oq := Q.ok q (by simp)
  have ss := List.pairwise_cons.mp Q.ss
  -- what is there is before the new ones
  have bef : ∀ x ∈ R ++ q :: S, ∀ y ∈ kids q 0 (rowsP K rows q), dueL K rows x y := fun x hx y hy => by
    have ox := Q.ok x hx
    have oy := kids_ok oq.2 hy
    rcases F x hx with l1 | ⟨r, hr, hk⟩
    · refine dueL_len hK h ox.1 oy.1 ox.2 oy.2 ?_
      obtain ⟨p, i, e, _, _, _, rfl⟩ := mem_kids.mp hy
      have := List.length_pos_iff.mpr oq.1
      simp; omega
    · have or := Q.ok r (by simp [hr])
      exact dueL_kids hK h or.1 oq.1 or.2 oq.2 (Q.rs r hr q (by simp)) hk hy
  have mem : ∀ x, x ∈ R ++ q :: S → x ∈ R ++ [q] ++ (S ++ kids q 0 (rowsP K rows q)) := fun x hx => by
    simp only [List.mem_append, List.mem_cons, List.not_mem_nil, or_false] at hx ⊢
    rcases hx with a | a | a
    · exact .inl (.inl a)
    · exact .inl (.inr a)
    · exact .inr (.inl a)
  refine ⟨⟨?_, ?_, ?_, ?_, fun x hx => mem x (Q.top x hx), ?_⟩, ?_⟩
  · exact List.pairwise_append.mpr ⟨Q.rr, by simp, fun x hx y hy => by simp at hy; subst hy; exact Q.rs x hx y (by simp)⟩
  · intro x hx y hy
    rcases List.mem_append.mp hy with b | b
    · rcases List.mem_append.mp hx with a | a
      · exact Q.rs x a y (by simp [b])
      · simp at a; subst a; exact ss.1 y b
    · exact bef x (by simp only [List.mem_append, List.mem_cons, List.not_mem_nil, or_false] at hx ⊢; rcases hx with a | a; exact .inl a; exact .inr (.inl a)) y b
  · exact List.pairwise_append.mpr ⟨ss.2, kids_dueL hK h oq.2, fun x hx y hy => bef x (by simp [hx]) y hy⟩
  · intro x hx
    simp only [List.mem_append, List.mem_cons, List.not_mem_nil, or_false] at hx
    rcases hx with (a | a) | a | a
    · exact Q.ok x (by simp [a])
    · exact Q.ok x (by simp [a])
    · exact Q.ok x (by simp [a])
    · exact kids_ok oq.2 a
  · intro x hx y hy
    rcases List.mem_append.mp hx with a | a
    · exact mem y (Q.low x a y hy)
    · simp at a
      subst a
      simp [hy]
  · intro x hx
    simp only [List.mem_append, List.mem_cons, List.not_mem_nil, or_false] at hx
    have old : x ∈ R ++ q :: S → x.length = 1 ∨ ∃ r ∈ R ++ [q], x ∈ kids r 0 (rowsP K rows r) := fun z => by
      rcases F x z with c | ⟨r, hr, hk⟩
      · exact .inl c
      · exact .inr ⟨r, by simp [hr], hk⟩
    rcases hx with (a | a) | a | a
    · exact old (by simp [a])
    · exact old (by simp [a])
    · exact old (by simp [a])
    · exact .inr ⟨q, by simp, a⟩
theorem kids_brD {a : Pa} : (kids a 0 (rowsP K rows a)).reverse.Pairwise brD := by
  rw [List.pairwise_reverse]
  exact kids_sib.imp fun {x y} s => sib_brD s
theorem Que.lifo0 (hK : Ok K) (h : OkE K rows) : Que K rows (dueD K rows) brD [] (kids [] 0 rows).reverse :=
  ⟨.nil, fun x hx => by simp at hx, kids_brD (K := K) (rows := rows) (a := []), fun x hx => kids_ok (a := []) trivial (by simpa [rowsP] using hx), fun x hx => by simpa using hx, fun x hx => by simp at hx⟩
theorem Que.lifo (hK : Ok K) (h : OkE K rows) {R S : List Pa} {q : Pa} (Q : Que K rows (dueD K rows) brD R (q :: S)) :
    Que K rows (dueD K rows) brD (R ++ [q]) ((kids q 0 (rowsP K rows q)).reverse ++ S) := by
  have oq := Q.ok q (by simp)
  have ss := List.pairwise_cons.mp Q.ss
  have low : ∀ y ∈ kids q 0 (rowsP K rows q), dueD K rows q y := fun y hy => by
    have oy := kids_ok oq.2 hy
    refine rkD_lt hK h oq.2 oy.2 ?_
    obtain ⟨p, i, e, _, _, _, rfl⟩ := mem_kids.mp hy
    exact ltD_snoc _ _
  have mem : ∀ x, x ∈ R ++ q :: S → x ∈ R ++ [q] ++ ((kids q 0 (rowsP K rows q)).reverse ++ S) := fun x hx => by
    simp only [List.mem_append, List.mem_cons, List.not_mem_nil, or_false] at hx ⊢
    rcases hx with a | a | a
    · exact .inl (.inl a)
    · exact .inl (.inr a)
    · exact .inr (.inr a)
  refine ⟨?_, ?_, ?_, ?_, fun x hx => mem x (Q.top x hx), ?_⟩
  · exact List.pairwise_append.mpr ⟨Q.rr, by simp, fun x hx y hy => by simp at hy; subst hy; exact Q.rs x hx y (by simp)⟩
  · intro x hx y hy
    rcases List.mem_append.mp hy with b | b
    · have l := low y (List.mem_reverse.mp b)
      rcases List.mem_append.mp hx with a | a
      · have := Q.rs x a q (by simp)
        unfold dueD at l this ⊢
        omega
      · simp at a; subst a; exact l
    · rcases List.mem_append.mp hx with a | a
      · exact Q.rs x a y (by simp [b])
      · simp at a
        subst a
        exact rkD_lt hK h oq.2 (Q.ok y (by simp [b])).2 (brD_lt (ss.1 y b))
  · refine List.pairwise_append.mpr ⟨kids_brD, ss.2, fun x hx y hy => ?_⟩
    obtain ⟨p, i, e, _, _, _, rfl⟩ := mem_kids.mp (List.mem_reverse.mp hx)
    exact brD_ext _ (ss.1 y hy)
  · intro x hx
    simp only [List.mem_append, List.mem_cons, List.not_mem_nil, or_false] at hx
    rcases hx with (a | a) | a | a
    · exact Q.ok x (by simp [a])
    · exact Q.ok x (by simp [a])
    · exact kids_ok oq.2 (List.mem_reverse.mp a)
    · exact Q.ok x (by simp [a])
  · intro x hx y hy
    rcases List.mem_append.mp hx with a | a
    · exact mem y (Q.low x a y hy)
    · simp at a
      subst a
      simp [hy]
end
end PM

namespace Pg
open PySem PySem.Spec L2 VS
def m_is_integer : FF := defF 1 1 [0] (sRet 1 (xAnd (x1 (isiB "int") (xV 0)) (xNot (x1 (isiB "bool") (xV 0)))))
def m_is_between : FF := defF 3 3 [0, 1, 2] (sRet 3 (xAnd (xCall m_is_integer (aCons true (xV 0) aNil)) (xCh opLe opLe (xV 1) (xV 0) (xV 2))))
def m_check_least : FF := defF 3 3 [0, 1, 2] (sIf (tOr' (tNot' (tB (xCall m_is_integer (aCons true (xV 1) aNil)))) (tB (x2 opLt (xV 1) (xV 2)))) sNev sNil)
def m_is_name : FF := defF 1 2 [0] (sSeq (sIf (tOr' (tNot' (tB (x1 (isiB "str") (xV 0)))) (tNot' (tB (xCh opLe opLe (xC (.int 1)) (xBi mLen (aCons true (xV 0) aNil)) (xC (.int 12)))))) (sRet 1 (xC (.bl false))) sNil) (sRet 1 (xBi mAll (aCons true (xLc (iSeq (xV 0)) (gN 1) tY (xCh opLe opLe (xC (.str "a")) (xV 1) (xC (.str "z"))) [1]) aNil))))
def m_is_entry : FF := defF 1 1 [0] (sSeq (sIf (tOr' (tNot' (tB (x1 (isiB "tuple") (xV 0)))) (tB (x2 opNe (xBi mLen (aCons true (xV 0) aNil)) (xC (.int 2))))) (sRet 1 (xC (.bl false))) sNil) (sRet 1 (xAnd (xCall m_is_name (aCons false (x2 opIx (xV 0) (xC (.int 0))) aNil)) (xCall m_is_between (aCons false (x2 opIx (xV 0) (xC (.int 1))) (aCons false (xC (.int 1)) (aCons false (xC (.int 1000000000000)) aNil)))))))
def m_is_type : FF := defF 1 2 [0] (sSeq (sIf (tOr' (tNot' (tB (x1 (isiB "tuple") (xV 0)))) (tOr' (tB (x2 opNe (xBi mLen (aCons true (xV 0) aNil)) (xC (.int 2)))) (tNot' (tB (xCall m_is_name (aCons false (x2 opIx (xV 0) (xC (.int 0))) aNil)))))) (sRet 1 (xC (.bl false))) sNil) (sSeq (sIf (tOr' (tNot' (tB (x1 (isiB "list") (x2 opIx (xV 0) (xC (.int 1)))))) (tB (x2 opGt (xBi mLen (aCons true (x2 opIx (xV 0) (xC (.int 1))) aNil)) (xC (.int 20))))) (sRet 1 (xC (.bl false))) sNil) (sRet 1 (xBi mAll (aCons true (xLc (iSeq (x2 opIx (xV 0) (xC (.int 1)))) (gN 1) tY (xCall m_is_entry (aCons true (xV 1) aNil)) [1]) aNil)))))
def m_check_types : FF := defF 1 6 [0] (sSeq (sIf (tOr' (tNot' (tB (x1 (isiB "list") (xV 0)))) (tNot' (tB (xCh opLe opLe (xC (.int 1)) (xBi mLen (aCons true (xV 0) aNil)) (xC (.int 40)))))) sNev sNil) (sSeq (sSet 1 (xLst bNil)) (sSeq (sFor (iEnmU (bCons (xV 0) bNil)) (gT 2 (gsCons (gN 2) (gsCons (gN 3) gsNil))) (sSeq (sIf (tOr' (tNot' (tB (xCall m_is_type (aCons true (xV 3) aNil)))) (tB (x2 opInV (x2 opIx (xV 3) (xC (.int 0))) (xV 1)))) sNev sNil) (sExpr (xMut mApp 1 (bCons (x2 opIx (xV 3) (xC (.int 0))) bNil))))) (sFor (iEnmU (bCons (xV 0) bNil)) (gT 2 (gsCons (gN 2) (gsCons (gN 3) gsNil))) (sIf (tNot' (tB (xBi mAll (aCons true (xLc (iSeq (x2 opIx (xV 3) (xC (.int 1)))) (gT 2 (gsCons (gN 4) (gsCons (gN 5) gsNil))) tY (x2 opInV (xV 4) (xSl (xV 1) (oE (x2 opAdd (xV 2) (xC (.int 1)))) oN)) [4, 5]) aNil)))) sNev sNil)))))
def m_check_roots : FF := defF 2 4 [0, 1] (sSeq (sIf (tOr' (tNot' (tB (x1 (isiB "list") (xV 0)))) (tB (x2 opGt (xBi mLen (aCons true (xV 0) aNil)) (xC (.int 20))))) sNev sNil) (sFor (iEnmU (bCons (xV 0) bNil)) (gT 2 (gsCons (gN 2) (gsCons (gN 3) gsNil))) (sIf (tOr' (tNot' (tB (xCall m_is_entry (aCons true (xV 3) aNil)))) (tB (x2 opNinV (x2 opIx (xV 3) (xC (.int 0))) (xV 1)))) sNev sNil)))
def m_table_of : FF := defF 2 8 [0, 1] (sSeq (sSet 2 (xLst (bCons (xTup (bCons (xC (.int 1)) (bCons (xBi mInt (aCons true (x2 opNe (xV 0) (xLst bNil)) aNil)) bNil))) bNil))) (sSeq (sFor (iSeq (xV 0)) (gT 2 (gsCons (gN 3) (gsCons (gN 4) gsNil))) (sFor (iEnmU (bCons (x2 opIx (xV 1) (xV 3)) bNil)) (gT 2 (gsCons (gN 5) (gsCons (gT 2 (gsCons (gN 6) (gsCons (gN 7) gsNil))) gsNil))) (sSeq (sIf (tB (x2 opEq (x2 opAdd (xV 5) (xC (.int 1))) (xBi mLen (aCons true (xV 2) aNil)))) (sExpr (xMut mApp 2 (bCons (xTup (bCons (xC (.int 0)) (bCons (xC (.int 0)) bNil))) bNil))) sNil) (sSub 2 (xTup (bCons (x2 opAdd (x2 opIx (x2 opIx (xV 2) (x2 opAdd (xV 5) (xC (.int 1)))) (xC (.int 0))) (x2 opMul (xV 4) (xV 6))) (bCons (x2 opAdd (x2 opIx (x2 opIx (xV 2) (x2 opAdd (xV 5) (xC (.int 1)))) (xC (.int 1))) (x2 opMul (xV 4) (xV 7))) bNil))) (x2 opAdd (xV 5) (xC (.int 1))))))) (sRet 2 (xV 2))))
def m_all_tables : FF := defF 1 4 [0] (sSeq (sSet 1 (fun δ => some (.val (.dK []), δ))) (sSeq (sFor (iSeq (x1 revD (xV 0))) (gT 2 (gsCons (gN 2) (gsCons (gN 3) gsNil))) (sSub 1 (xCall m_table_of (aCons true (xV 3) (aCons true (xV 1) aNil))) (xV 2))) (sRet 1 (xV 1))))
def m_listed : FF := defF 1 3 [0] (sRet 1 (xLcI .items (pV 0) (gT 2 (gsCons (gN 1) (gsCons (gN 2) gsNil))) tY (xTup (bCons (xV 1) (bCons (xBi mList (aCons true (xV 2) aNil)) bNil))) [1, 2]))
def m_Plan___init__ : FF := defF 3 5 [0, 1, 2] (sSeq (sExpr (xCall m_check_types (aCons true (xV 1) aNil))) (sSeq (sExpr (xCall m_check_roots (aCons true (xV 2) (aCons false (xLc (iSeq (xV 1)) (gT 2 (gsCons (gN 3) (gsCons (gN 4) gsNil))) tY (xV 3) [3, 4]) aNil)))) (sSeq (sAttr 0 "Plan" "kinds" (xDc (iSeq (xV 1)) (gT 2 (gsCons (gN 3) (gsCons (gN 4) gsNil))) tY (xV 3) (xBi mList (aCons true (xV 4) aNil)) [3, 4])) (sSeq (sAttr 0 "Plan" "first_ones" (xBi mList (aCons true (xV 2) aNil))) (sAttr 0 "Plan" "tables" (xCall m_all_tables (aCons true (xV 1) aNil)))))))
def m_Plan_type_list : FF := defF 1 1 [0] (sRet 1 (xCall m_listed (aCons false (xFld "Plan" "kinds" (xV 0)) aNil)))
def m_Plan_parts : FF := defF 1 1 [0] (sRet 1 (xTup (bCons (xMeth "Plan" "type_list" m_Plan_type_list (xV 0) aNil) (bCons (xFld "Plan" "first_ones" (xV 0)) bNil))))
def m_Plan___eq__ : FF := defF 2 2 [0, 1] (sRet 2 (xAnd (x1 (isiO "Plan") (xV 1)) (x2 opEq (xMeth "Plan" "parts" m_Plan_parts (xV 0) aNil) (xMeth "Plan" "parts" m_Plan_parts (xV 1) aNil))))
def m_Plan___contains__ : FF := defF 2 2 [0, 1] (sRet 2 (xAnd (x1 (isiB "str") (xV 1)) (x2 opInV (xV 1) (xFld "Plan" "kinds" (xV 0)))))
def m_Plan_check_name : FF := defF 2 2 [0, 1] (sIf (tB (xO2 yes (isO "Plan") m_Plan___contains__ poN true (xV 1) (xV 0))) sNev sNil)
def m_Plan_entries_of : FF := defF 2 2 [0, 1] (sSeq (sExpr (xMeth "Plan" "check_name" m_Plan_check_name (xV 0) (aCons true (xV 1) aNil))) (sRet 2 (xBi mList (aCons true (x2 opIx (xFld "Plan" "kinds" (xV 0)) (xV 1)) aNil))))
def m_Plan___getitem__ : FF := defF 2 2 [0, 1] (sRet 2 (xMeth "Plan" "entries_of" m_Plan_entries_of (xV 0) (aCons true (xV 1) aNil)))
def m_Plan___iter__ : FF := defF 1 1 [0] sNev
def m_Plan___add__ : FF := defF 2 2 [0, 1] (sSeq (sIf (tOr' (tNot' (tB (x1 (isiO "Plan") (xV 1)))) (tB (x2 opNe (xCall m_listed (aCons false (xFld "Plan" "kinds" (xV 1)) aNil)) (xCall m_listed (aCons false (xFld "Plan" "kinds" (xV 0)) aNil))))) sNev sNil) (sRet 2 (xMake "Plan" m_Plan___init__ true (bCons (xCall m_listed (aCons false (xFld "Plan" "kinds" (xV 0)) aNil)) (bCons (x2 opAdd (xFld "Plan" "first_ones" (xV 0)) (xFld "Plan" "first_ones" (xV 1))) bNil)))))
def m_Plan___mul__ : FF := defF 2 4 [0, 1] (sSeq (sIf (tOr' (tNot' (tB (xCall m_is_integer (aCons true (xV 1) aNil)))) (tB (x2 opLt (xV 1) (xC (.int 1))))) sNev sNil) (sRet 2 (xMake "Plan" m_Plan___init__ true (bCons (xCall m_listed (aCons false (xFld "Plan" "kinds" (xV 0)) aNil)) (bCons (xLc (iSeq (xFld "Plan" "first_ones" (xV 0))) (gT 2 (gsCons (gN 2) (gsCons (gN 3) gsNil))) tY (xTup (bCons (xV 2) (bCons (x2 opMul (xV 3) (xV 1)) bNil))) [2, 3]) bNil)))))
def m_Plan_type_names : FF := defF 1 1 [0] (sRet 1 (xBi mList (aCons true (xFld "Plan" "kinds" (xV 0)) aNil)))
def m_Plan_root_entries : FF := defF 1 1 [0] (sRet 1 (xBi mList (aCons true (xFld "Plan" "first_ones" (xV 0)) aNil)))
def m_Plan_is_inner : FF := defF 2 2 [0, 1] (sRet 2 (x2 opNe (xMeth "Plan" "entries_of" m_Plan_entries_of (xV 0) (aCons true (xV 1) aNil)) (xLst bNil)))
def m_Plan_height_of : FF := defF 2 2 [0, 1] (sSeq (sExpr (xMeth "Plan" "check_name" m_Plan_check_name (xV 0) (aCons true (xV 1) aNil))) (sRet 2 (x2 opSub (xBi mLen (aCons true (x2 opIx (xFld "Plan" "tables" (xV 0)) (xV 1)) aNil)) (xC (.int 1)))))
def m_Plan_level_count : FF := defF 1 3 [0] (sRet 1 (xBi mMax (aCons true (x2 opAdd (xLst (bCons (xC (.int 0)) bNil)) (xLc (iSeq (xFld "Plan" "first_ones" (xV 0))) (gT 2 (gsCons (gN 1) (gsCons (gN 2) gsNil))) tY (xBi mLen (aCons true (x2 opIx (xFld "Plan" "tables" (xV 0)) (xV 1)) aNil)) [1, 2])) aNil)))
def m_Plan_pair_at : FF := defF 3 4 [0, 1, 2] (sSeq (sSet 3 (x2 opIx (xFld "Plan" "tables" (xV 0)) (xV 1))) (sRet 3 (xIf (tB (x2 opLt (xV 2) (xBi mLen (aCons true (xV 3) aNil)))) (x2 opIx (xV 3) (xV 2)) (xTup (bCons (xC (.int 0)) (bCons (xC (.int 0)) bNil))))))
def m_Plan_level_total : FF := defF 2 4 [0, 1] (sSeq (sExpr (xCall m_check_least (aCons false (xC (.str "level")) (aCons true (xV 1) (aCons false (xC (.int 0)) aNil))))) (sRet 2 (xBi mSum (aCons true (xLc (iSeq (xFld "Plan" "first_ones" (xV 0))) (gT 2 (gsCons (gN 2) (gsCons (gN 3) gsNil))) tY (x2 opMul (xV 3) (x2 opIx (xMeth "Plan" "pair_at" m_Plan_pair_at (xV 0) (aCons true (xV 2) (aCons true (xV 1) aNil))) (xC (.int 0)))) [2, 3]) aNil))))
def m_Plan_descendants : FF := defF 3 3 [0, 1, 2] (sSeq (sExpr (xMeth "Plan" "check_name" m_Plan_check_name (xV 0) (aCons true (xV 1) aNil))) (sSeq (sExpr (xCall m_check_least (aCons false (xC (.str "distance")) (aCons true (xV 2) (aCons false (xC (.int 0)) aNil))))) (sRet 3 (x2 opIx (xMeth "Plan" "pair_at" m_Plan_pair_at (xV 0) (aCons true (xV 1) (aCons true (xV 2) aNil))) (xC (.int 0))))))
def m_Plan_inner_descendants : FF := defF 3 3 [0, 1, 2] (sSeq (sExpr (xMeth "Plan" "check_name" m_Plan_check_name (xV 0) (aCons true (xV 1) aNil))) (sSeq (sExpr (xCall m_check_least (aCons false (xC (.str "distance")) (aCons true (xV 2) (aCons false (xC (.int 0)) aNil))))) (sRet 3 (x2 opIx (xMeth "Plan" "pair_at" m_Plan_pair_at (xV 0) (aCons true (xV 1) (aCons true (xV 2) aNil))) (xC (.int 1))))))
def m_Plan_tree_size : FF := defF 2 4 [0, 1] (sSeq (sExpr (xMeth "Plan" "check_name" m_Plan_check_name (xV 0) (aCons true (xV 1) aNil))) (sRet 2 (xBi mSum (aCons true (xLc (iSeq (x2 opIx (xFld "Plan" "tables" (xV 0)) (xV 1))) (gT 2 (gsCons (gN 2) (gsCons (gN 3) gsNil))) tY (xV 2) [2, 3]) aNil))))
def m_Plan_task_total : FF := defF 1 3 [0] (sRet 1 (xBi mSum (aCons true (xLc (iSeq (xFld "Plan" "first_ones" (xV 0))) (gT 2 (gsCons (gN 1) (gsCons (gN 2) gsNil))) tY (x2 opMul (xV 2) (xMeth "Plan" "tree_size" m_Plan_tree_size (xV 0) (aCons true (xV 1) aNil))) [1, 2]) aNil)))
def m_Plan_task_count : FF := defF 2 8 [0, 1] (sSeq (sExpr (xMeth "Plan" "check_name" m_Plan_check_name (xV 0) (aCons true (xV 1) aNil))) (sSeq (sSet 2 (xDc (iSeq (xFld "Plan" "kinds" (xV 0))) (gN 3) tY (xV 3) (xC (.int 0)) [3])) (sSeq (sFor (iSeq (xFld "Plan" "first_ones" (xV 0))) (gT 2 (gsCons (gN 4) (gsCons (gN 5) gsNil))) (sSub 2 (x2 opAdd (x2 opIx (xV 2) (xV 4)) (xV 5)) (xV 4))) (sSeq (sForI .items (pF "Plan" "kinds" (pV 0)) (gT 2 (gsCons (gN 3) (gsCons (gN 6) gsNil))) (sFor (iSeq (xV 6)) (gT 2 (gsCons (gN 7) (gsCons (gN 5) gsNil))) (sSub 2 (x2 opAdd (x2 opIx (xV 2) (xV 7)) (x2 opMul (x2 opIx (xV 2) (xV 3)) (xV 5))) (xV 7)))) (sRet 2 (x2 opIx (xV 2) (xV 1)))))))
def m_is_step : FF := defF 2 2 [0, 1] (sSeq (sIf (tOr' (tNot' (tB (x1 (isiB "tuple") (xV 0)))) (tOr' (tB (x2 opNe (xBi mLen (aCons true (xV 0) aNil)) (xC (.int 2)))) (tOr' (tNot' (tB (xCall m_is_integer (aCons false (x2 opIx (xV 0) (xC (.int 0))) aNil)))) (tNot' (tB (xCall m_is_integer (aCons false (x2 opIx (xV 0) (xC (.int 1))) aNil))))))) (sRet 2 (xC (.bl false))) sNil) (sRet 2 (xAnd (xCh opLe opLt (xC (.int 0)) (x2 opIx (xV 0) (xC (.int 0))) (xBi mLen (aCons true (xV 1) aNil))) (xCh opLe opLt (xC (.int 0)) (x2 opIx (xV 0) (xC (.int 1))) (x2 opIx (x2 opIx (xV 1) (x2 opIx (xV 0) (xC (.int 0)))) (xC (.int 1)))))))
def m_kind_at : FF := defF 2 5 [0, 1] (sSeq (sIf (tNot' (tB (x1 (isiB "tuple") (xV 1)))) (sRet 2 (xC .non)) sNil) (sSeq (sPar 2 3 (bCons (xC .non) (bCons (xMeth "Plan" "root_entries" m_Plan_root_entries (xV 0) aNil) bNil))) (sSeq (sFor (iSeq (xV 1)) (gN 4) (sSeq (sIf (tNot' (tB (xCall m_is_step (aCons true (xV 4) (aCons true (xV 3) aNil))))) (sRet 2 (xC .non)) sNil) (sSeq (sSet 2 (x2 opIx (x2 opIx (xV 3) (x2 opIx (xV 4) (xC (.int 0)))) (xC (.int 0)))) (sSet 3 (xMeth "Plan" "entries_of" m_Plan_entries_of (xV 0) (aCons true (xV 2) aNil)))))) (sRet 2 (xV 2)))))
def m_type_of : FF := defF 2 3 [0, 1] (sSeq (sSet 2 (xCall m_kind_at (aCons true (xV 0) (aCons true (xV 1) aNil)))) (sSeq (sIf (tB (x2 opIsN (xV 2) (xC .non))) sNev sNil) (sRet 2 (xV 2))))
def m_parent_of : FF := defF 2 2 [0, 1] (sSeq (sExpr (xCall m_type_of (aCons true (xV 0) (aCons true (xV 1) aNil)))) (sRet 2 (xIf (tB (x2 opGt (xBi mLen (aCons true (xV 1) aNil)) (xC (.int 1)))) (xSl (xV 1) oN (oE (x1 negD (xC (.int 1))))) (xC .non))))
def m_child_total : FF := defF 2 4 [0, 1] (sRet 2 (xBi mSum (aCons true (xLc (iSeq (xMeth "Plan" "entries_of" m_Plan_entries_of (xV 0) (aCons false (xCall m_type_of (aCons true (xV 0) (aCons true (xV 1) aNil))) aNil))) (gT 2 (gsCons (gN 2) (gsCons (gN 3) gsNil))) tY (xV 3) [2, 3]) aNil)))
noncomputable def m_child_at : FF := defF 3 5 [0, 1] (sSeq (sSet 3 (xMeth "Plan" "entries_of" m_Plan_entries_of (xV 0) (aCons false (xCall m_type_of (aCons true (xV 0) (aCons true (xV 1) aNil))) aNil))) (sSeq (sIf (tNot' (tB (xCall m_is_between (aCons true (xV 2) (aCons false (xC (.int 0)) (aCons false (x2 opSub (xCall m_child_total (aCons true (xV 0) (aCons true (xV 1) aNil))) (xC (.int 1))) aNil)))))) sNev sNil) (sSeq (sSet 4 (xC (.int 0))) (sSeq (sWh (tB (x2 opGe (xV 2) (x2 opIx (x2 opIx (xV 3) (xV 4)) (xC (.int 1))))) (sSeq (sSet 2 (x2 opSub (xV 2) (x2 opIx (x2 opIx (xV 3) (xV 4)) (xC (.int 1))))) (sSet 4 (x2 opAdd (xV 4) (xC (.int 1)))))) (sRet 3 (x2 opAdd (xV 1) (xTup (bCons (xTup (bCons (xV 4) (bCons (xV 2) bNil))) bNil))))))))
def m_check_discipline : FF := defF 1 1 [0] (sIf (tOr' (tNot' (tB (x1 (isiB "str") (xV 0)))) (tB (x2 opNinT (xV 0) (xTup (bCons (xC (.str "fifo")) (bCons (xC (.str "lifo")) bNil)))))) sNev sNil)
def m_rank_in_level : FF := defF 2 10 [0, 1] (sSeq (sPar 2 3 (bCons (xC (.int 0)) (bCons (xMeth "Plan" "root_entries" m_Plan_root_entries (xV 0) aNil) bNil))) (sSeq (sFor (iEnmU (bCons (xV 1) bNil)) (gT 2 (gsCons (gN 4) (gsCons (gT 2 (gsCons (gN 5) (gsCons (gN 6) gsNil))) gsNil))) (sSeq (sSet 7 (x2 opSub (x2 opSub (xBi mLen (aCons true (xV 1) aNil)) (xC (.int 1))) (xV 4))) (sSeq (sSet 2 (x2 opAdd (xV 2) (xBi mSum (aCons true (xLc (iSeq (xSl (xV 3) oN (oE (xV 5)))) (gT 2 (gsCons (gN 8) (gsCons (gN 9) gsNil))) tY (x2 opMul (xV 9) (xMeth "Plan" "descendants" m_Plan_descendants (xV 0) (aCons true (xV 8) (aCons true (xV 7) aNil)))) [8, 9]) aNil)))) (sSeq (sSet 2 (x2 opAdd (xV 2) (x2 opMul (xV 6) (xMeth "Plan" "descendants" m_Plan_descendants (xV 0) (aCons false (x2 opIx (x2 opIx (xV 3) (xV 5)) (xC (.int 0))) (aCons true (xV 7) aNil)))))) (sSet 3 (xMeth "Plan" "entries_of" m_Plan_entries_of (xV 0) (aCons false (x2 opIx (x2 opIx (xV 3) (xV 5)) (xC (.int 0))) aNil))))))) (sRet 2 (xV 2))))
def m_rank_in_depth : FF := defF 2 10 [0, 1] (sSeq (sPar 2 3 (bCons (x2 opSub (xBi mLen (aCons true (xV 1) aNil)) (xC (.int 1))) (bCons (xMeth "Plan" "root_entries" m_Plan_root_entries (xV 0) aNil) bNil))) (sSeq (sFor (iSeq (xV 1)) (gT 2 (gsCons (gN 4) (gsCons (gN 5) gsNil))) (sSeq (sAsg (gT 2 (gsCons (gN 6) (gsCons (gN 7) gsNil))) (x2 opIx (xV 3) (xV 4))) (sSeq (sSet 2 (x2 opAdd (xV 2) (xBi mSum (aCons true (xLc (iSeq (xSl (xV 3) (oE (x2 opAdd (xV 4) (xC (.int 1)))) oN)) (gT 2 (gsCons (gN 8) (gsCons (gN 9) gsNil))) tY (x2 opMul (xV 9) (xMeth "Plan" "tree_size" m_Plan_tree_size (xV 0) (aCons true (xV 8) aNil))) [8, 9]) aNil)))) (sSeq (sSet 2 (x2 opAdd (xV 2) (x2 opMul (x2 opSub (x2 opSub (xV 7) (xC (.int 1))) (xV 5)) (xMeth "Plan" "tree_size" m_Plan_tree_size (xV 0) (aCons true (xV 6) aNil))))) (sSet 3 (xMeth "Plan" "entries_of" m_Plan_entries_of (xV 0) (aCons true (xV 6) aNil))))))) (sRet 2 (xV 2))))
def m_first_of_level : FF := defF 2 3 [0, 1] (sRet 2 (xBi mSum (aCons true (xLc (iRg1 (bCons (xV 1) bNil)) (gN 2) tY (xMeth "Plan" "level_total" m_Plan_level_total (xV 0) (aCons true (xV 2) aNil)) [2]) aNil)))
def m_number_of : FF := defF 3 3 [0, 1, 2] (sSeq (sIf (tB (x2 opEq (xV 1) (xC (.str "fifo")))) (sRet 3 (x2 opAdd (xCall m_first_of_level (aCons true (xV 0) (aCons false (x2 opSub (xBi mLen (aCons true (xV 2) aNil)) (xC (.int 1))) aNil))) (xCall m_rank_in_level (aCons true (xV 0) (aCons true (xV 2) aNil))))) sNil) (sRet 3 (xCall m_rank_in_depth (aCons true (xV 0) (aCons true (xV 2) aNil)))))
def m_start_number : FF := defF 3 3 [0, 1, 2] (sSeq (sExpr (xCall m_check_discipline (aCons true (xV 1) aNil))) (sSeq (sExpr (xCall m_type_of (aCons true (xV 0) (aCons true (xV 2) aNil)))) (sRet 3 (xCall m_number_of (aCons true (xV 0) (aCons true (xV 1) (aCons true (xV 2) aNil)))))))
noncomputable def m_task_in_levels : FF := defF 2 8 [0] (sSeq (sSet 2 (xC (.int 0))) (sSeq (sWh (tB (x2 opGe (xV 1) (xMeth "Plan" "level_total" m_Plan_level_total (xV 0) (aCons true (xV 2) aNil)))) (sSeq (sSet 1 (x2 opSub (xV 1) (xMeth "Plan" "level_total" m_Plan_level_total (xV 0) (aCons true (xV 2) aNil)))) (sSet 2 (x2 opAdd (xV 2) (xC (.int 1)))))) (sSeq (sPar 3 4 (bCons (xTup bNil) (bCons (xMeth "Plan" "root_entries" m_Plan_root_entries (xV 0) aNil) bNil))) (sSeq (sFor (iRg3 (bCons (xV 2) (bCons (x1 negD (xC (.int 1))) (bCons (x1 negD (xC (.int 1))) bNil)))) (gN 5) (sSeq (sSet 6 (xC (.int 0))) (sSeq (sWh (tB (x2 opGe (xV 1) (x2 opMul (x2 opIx (x2 opIx (xV 4) (xV 6)) (xC (.int 1))) (xMeth "Plan" "descendants" m_Plan_descendants (xV 0) (aCons false (x2 opIx (x2 opIx (xV 4) (xV 6)) (xC (.int 0))) (aCons true (xV 5) aNil)))))) (sSeq (sSet 1 (x2 opSub (xV 1) (x2 opMul (x2 opIx (x2 opIx (xV 4) (xV 6)) (xC (.int 1))) (xMeth "Plan" "descendants" m_Plan_descendants (xV 0) (aCons false (x2 opIx (x2 opIx (xV 4) (xV 6)) (xC (.int 0))) (aCons true (xV 5) aNil)))))) (sSet 6 (x2 opAdd (xV 6) (xC (.int 1)))))) (sSeq (sSet 7 (xMeth "Plan" "descendants" m_Plan_descendants (xV 0) (aCons false (x2 opIx (x2 opIx (xV 4) (xV 6)) (xC (.int 0))) (aCons true (xV 5) aNil)))) (sSeq (sSet 3 (x2 opAdd (xV 3) (xTup (bCons (xTup (bCons (xV 6) (bCons (x2 opDiv (xV 1) (xV 7)) bNil))) bNil)))) (sSeq (sSet 1 (x2 opMod (xV 1) (xV 7))) (sSet 4 (xMeth "Plan" "entries_of" m_Plan_entries_of (xV 0) (aCons false (x2 opIx (x2 opIx (xV 4) (xV 6)) (xC (.int 0))) aNil))))))))) (sRet 2 (xV 3))))))
noncomputable def m_task_in_depth : FF := defF 2 7 [0] (sSeq (sPar 2 3 (bCons (xTup bNil) (bCons (xMeth "Plan" "root_entries" m_Plan_root_entries (xV 0) aNil) bNil))) (sSeq (sWh (tB (x2 opGe (xV 1) (xC (.int 0)))) (sSeq (sSet 4 (x2 opSub (xBi mLen (aCons true (xV 3) aNil)) (xC (.int 1)))) (sSeq (sWh (tB (x2 opGe (xV 1) (x2 opMul (x2 opIx (x2 opIx (xV 3) (xV 4)) (xC (.int 1))) (xMeth "Plan" "tree_size" m_Plan_tree_size (xV 0) (aCons false (x2 opIx (x2 opIx (xV 3) (xV 4)) (xC (.int 0))) aNil))))) (sSeq (sSet 1 (x2 opSub (xV 1) (x2 opMul (x2 opIx (x2 opIx (xV 3) (xV 4)) (xC (.int 1))) (xMeth "Plan" "tree_size" m_Plan_tree_size (xV 0) (aCons false (x2 opIx (x2 opIx (xV 3) (xV 4)) (xC (.int 0))) aNil))))) (sSet 4 (x2 opSub (xV 4) (xC (.int 1)))))) (sSeq (sAsg (gT 2 (gsCons (gN 5) (gsCons (gN 6) gsNil))) (x2 opIx (xV 3) (xV 4))) (sSeq (sSet 2 (x2 opAdd (xV 2) (xTup (bCons (xTup (bCons (xV 4) (bCons (x2 opSub (x2 opSub (xV 6) (xC (.int 1))) (x2 opDiv (xV 1) (xMeth "Plan" "tree_size" m_Plan_tree_size (xV 0) (aCons true (xV 5) aNil)))) bNil))) bNil)))) (sSeq (sSet 1 (x2 opSub (x2 opMod (xV 1) (xMeth "Plan" "tree_size" m_Plan_tree_size (xV 0) (aCons true (xV 5) aNil))) (xC (.int 1)))) (sSet 3 (xMeth "Plan" "entries_of" m_Plan_entries_of (xV 0) (aCons true (xV 5) aNil))))))))) (sRet 2 (xV 2))))
noncomputable def m_task_at : FF := defF 3 3 [0, 1, 2] (sSeq (sExpr (xCall m_check_discipline (aCons true (xV 1) aNil))) (sSeq (sIf (tNot' (tB (xCall m_is_between (aCons true (xV 2) (aCons false (xC (.int 0)) (aCons false (x2 opSub (xMeth "Plan" "task_total" m_Plan_task_total (xV 0) aNil) (xC (.int 1))) aNil)))))) sNev sNil) (sRet 3 (xIf (tB (x2 opEq (xV 1) (xC (.str "fifo")))) (xCall m_task_in_levels (aCons true (xV 0) (aCons false (xV 2) aNil))) (xCall m_task_in_depth (aCons true (xV 0) (aCons false (xV 2) aNil)))))))
def m_entries_at : FF := defF 2 2 [0, 1] (sRet 2 (xIf (tB (x2 opIsN (xV 1) (xC .non))) (xMeth "Plan" "root_entries" m_Plan_root_entries (xV 0) aNil) (xMeth "Plan" "entries_of" m_Plan_entries_of (xV 0) (aCons true (xV 1) aNil))))
def m_with_entries : FF := defF 3 6 [0, 1, 2] (sSeq (sSet 3 (xLc (iSeq (xMeth "Plan" "type_list" m_Plan_type_list (xV 0) aNil)) (gT 2 (gsCons (gN 4) (gsCons (gN 5) gsNil))) tY (xTup (bCons (xV 4) (bCons (xIf (tB (x2 opEq (xV 4) (xV 1))) (xV 2) (xV 5)) bNil))) [4, 5])) (sRet 3 (xMake "Plan" m_Plan___init__ true (bCons (xV 3) (bCons (xIf (tB (x2 opIsN (xV 1) (xC .non))) (xV 2) (xMeth "Plan" "root_entries" m_Plan_root_entries (xV 0) aNil)) bNil)))))
noncomputable def m_next_task : FF := defF 3 4 [0, 1, 2] (sSeq (sSet 3 (x2 opAdd (xCall m_start_number (aCons true (xV 0) (aCons true (xV 1) (aCons true (xV 2) aNil)))) (xC (.int 1)))) (sRet 3 (xIf (tB (x2 opLt (xV 3) (xMeth "Plan" "task_total" m_Plan_task_total (xV 0) aNil))) (xCall m_task_at (aCons true (xV 0) (aCons true (xV 1) (aCons true (xV 3) aNil)))) (xC .non))))
def m_starts_before : FF := defF 4 4 [0, 1, 2, 3] (sRet 4 (x2 opLt (xCall m_start_number (aCons true (xV 0) (aCons true (xV 1) (aCons true (xV 2) aNil)))) (xCall m_start_number (aCons true (xV 0) (aCons true (xV 1) (aCons true (xV 3) aNil))))))
def m_level_starts : FF := defF 2 3 [0, 1] (sSeq (sExpr (xCall m_check_least (aCons false (xC (.str "level")) (aCons true (xV 1) (aCons false (xC (.int 0)) aNil))))) (sSeq (sSet 2 (xCall m_first_of_level (aCons true (xV 0) (aCons false (xBi mMin (aCons true (xV 1) (aCons true (xMeth "Plan" "level_count" m_Plan_level_count (xV 0) aNil) aNil))) aNil)))) (sRet 2 (xTup (bCons (xV 2) (bCons (x2 opAdd (xV 2) (xMeth "Plan" "level_total" m_Plan_level_total (xV 0) (aCons true (xV 1) aNil))) bNil))))))
noncomputable def m_last_start : FF := defF 3 10 [0, 1] (sSeq (sExpr (xCall m_check_discipline (aCons true (xV 1) aNil))) (sSeq (sSet 3 (xCall m_type_of (aCons true (xV 0) (aCons true (xV 2) aNil)))) (sSeq (sIf (tB (x2 opNe (xV 1) (xC (.str "fifo")))) (sRet 3 (x2 opSub (x2 opAdd (xCall m_number_of (aCons true (xV 0) (aCons true (xV 1) (aCons true (xV 2) aNil)))) (xMeth "Plan" "tree_size" m_Plan_tree_size (xV 0) (aCons true (xV 3) aNil))) (xC (.int 1)))) sNil) (sSeq (sWh (tB (xMeth "Plan" "is_inner" m_Plan_is_inner (xV 0) (aCons true (xV 3) aNil))) (sSeq (sSet 4 (x2 opSub (xMeth "Plan" "height_of" m_Plan_height_of (xV 0) (aCons true (xV 3) aNil)) (xC (.int 1)))) (sSeq (sSet 5 (xMeth "Plan" "entries_of" m_Plan_entries_of (xV 0) (aCons true (xV 3) aNil))) (sSeq (sSet 6 (xBi mMax (aCons true (xLc (iEnmU (bCons (xV 5) bNil)) (gT 2 (gsCons (gN 7) (gsCons (gT 2 (gsCons (gN 8) (gsCons (gN 9) gsNil))) gsNil))) (tB (x2 opEq (xMeth "Plan" "height_of" m_Plan_height_of (xV 0) (aCons true (xV 8) aNil)) (xV 4))) (xV 7) [7, 8, 9]) aNil))) (sSeq (sSet 2 (x2 opAdd (xV 2) (xTup (bCons (xTup (bCons (xV 6) (bCons (x2 opSub (x2 opIx (x2 opIx (xV 5) (xV 6)) (xC (.int 1))) (xC (.int 1))) bNil))) bNil)))) (sSet 3 (x2 opIx (x2 opIx (xV 5) (xV 6)) (xC (.int 0))))))))) (sRet 3 (xCall m_number_of (aCons true (xV 0) (aCons true (xV 1) (aCons true (xV 2) aNil)))))))))
def m_check_start : FF := defF 2 2 [0, 1] (sIf (tOr' (tNot' (tB (xCall m_is_integer (aCons true (xV 1) aNil)))) (tNot' (tB (xCh opLe opLt (xC (.int 0)) (xV 1) (xMeth "Plan" "task_total" m_Plan_task_total (xV 0) aNil))))) sNev sNil)
noncomputable def m_is_open : FF := defF 4 5 [0, 1, 2, 3] (sSeq (sSet 4 (xCall m_last_start (aCons true (xV 0) (aCons true (xV 1) (aCons false (xV 2) aNil))))) (sSeq (sExpr (xCall m_check_start (aCons true (xV 0) (aCons true (xV 3) aNil)))) (sRet 4 (xCh opLt opLe (xCall m_number_of (aCons true (xV 0) (aCons true (xV 1) (aCons true (xV 2) aNil)))) (xV 3) (xV 4)))))
def m_Reach___init__ : FF := defF 2 2 [0, 1] (sSeq (sAttr 0 "Reach" "plan" (xV 1)) (sAttr 0 "Reach" "known" (fun δ => some (.val (.dK []), δ))))
def m_repeated : FF := defF 2 6 [0, 1] (sSeq (sIf (tB (x2 opIsN (xV 0) (xC .non))) (sRet 2 (xC .non)) sNil) (sSeq (sAsg (gT 4 (gsCons (gN 2) (gsCons (gN 3) (gsCons (gN 4) (gsCons (gN 5) gsNil))))) (xV 0)) (sSeq (sIf (tB (x2 opGt (xV 3) (xC (.int 0)))) (sPar 4 5 (bCons (x2 opAdd (xV 4) (x2 opMul (x2 opSub (xV 1) (xC (.int 1))) (xV 3))) (bCons (x2 opAdd (xV 5) (x2 opMul (x2 opSub (xV 1) (xC (.int 1))) (xV 2))) bNil))) sNil) (sRet 2 (xTup (bCons (x2 opMul (xV 1) (xV 2)) (bCons (x2 opMul (xV 1) (xV 3)) (bCons (xV 4) (bCons (xV 5) bNil)))))))))
def m_behind : FF := defF 2 4 [0, 1] (sSeq (sPar 2 3 (bCons (x2 opIx (xV 0) (xC (.int 2))) (bCons (x2 opIx (xV 0) (xC (.int 3))) bNil))) (sSeq (sIf (tB (x2 opGt (x2 opAdd (x2 opIx (xV 0) (xC (.int 1))) (x2 opIx (xV 1) (xC (.int 2)))) (xV 2))) (sPar 2 3 (bCons (x2 opAdd (x2 opIx (xV 0) (xC (.int 1))) (x2 opIx (xV 1) (xC (.int 2)))) (bCons (x2 opAdd (x2 opIx (xV 0) (xC (.int 0))) (x2 opIx (xV 1) (xC (.int 3)))) bNil))) sNil) (sRet 2 (xTup (bCons (x2 opAdd (x2 opIx (xV 0) (xC (.int 0))) (x2 opIx (xV 1) (xC (.int 0)))) (bCons (x2 opAdd (x2 opIx (xV 0) (xC (.int 1))) (x2 opIx (xV 1) (xC (.int 1)))) (bCons (xV 2) (bCons (xV 3) bNil))))))))
def m_Waves___init__ : FF := defF 2 2 [0, 1] (sSeq (sAttr 0 "Waves" "plan" (xV 1)) (sAttr 0 "Waves" "known" (fun δ => some (.val (.dK []), δ))))
def m_check_entry : FF := defF 3 3 [0, 1, 2] (sIf (tNot' (tB (xCall m_is_between (aCons true (xV 2) (aCons false (xC (.int 0)) (aCons false (x2 opSub (xBi mLen (aCons true (xCall m_entries_at (aCons true (xV 0) (aCons true (xV 1) aNil))) aNil)) (xC (.int 1))) aNil)))))) sNev sNil)
def m_replaced : FF := defF 4 5 [0, 1, 2, 3] (sSeq (sSet 4 (xCall m_entries_at (aCons true (xV 0) (aCons true (xV 1) aNil)))) (sSeq (sSub 4 (xTup (bCons (x2 opIx (x2 opIx (xV 4) (xV 2)) (xC (.int 0))) (bCons (xV 3) bNil))) (xV 2)) (sRet 4 (xCall m_with_entries (aCons true (xV 0) (aCons true (xV 1) (aCons true (xV 4) aNil)))))))
def m_with_count : FF := defF 4 4 [0, 1, 2, 3] (sSeq (sExpr (xCall m_check_entry (aCons true (xV 0) (aCons true (xV 1) (aCons true (xV 2) aNil))))) (sSeq (sIf (tNot' (tB (xCall m_is_between (aCons true (xV 3) (aCons false (xC (.int 1)) (aCons false (xC (.int 1000000000000)) aNil)))))) sNev sNil) (sRet 4 (xCall m_replaced (aCons true (xV 0) (aCons true (xV 1) (aCons true (xV 2) (aCons true (xV 3) aNil))))))))
def m_check_threads : FF := defF 1 1 [0] (sIf (tOr' (tNot' (tB (xCall m_is_integer (aCons true (xV 0) aNil)))) (tB (x2 opLt (xV 0) (xC (.int 1))))) sNev sNil)
def m_first_copy : FF := defF 4 5 [0, 1, 2, 3] (sSeq (sIf (tB (x2 opIsN (xV 0) (xC .non))) (sRet 4 (xC .non)) sNil) (sSeq (sSet 4 (x2 opSub (x2 opSub (xV 2) (xV 1)) (x2 opIx (xV 0) (xC (.int 2))))) (sSeq (sIf (tB (x2 opLe (xV 4) (xC (.int 0)))) (sRet 4 (xC (.int 0))) sNil) (sSeq (sIf (tOr' (tB (x2 opLe (x2 opIx (xV 0) (xC (.int 1))) (xC (.int 0)))) (tB (x2 opGt (xV 4) (x2 opMul (x2 opSub (xV 3) (xC (.int 1))) (x2 opIx (xV 0) (xC (.int 1))))))) (sRet 4 (xC .non)) sNil) (sRet 4 (x2 opDiv (x2 opSub (x2 opAdd (xV 4) (x2 opIx (xV 0) (xC (.int 1)))) (xC (.int 1))) (x2 opIx (xV 0) (xC (.int 1)))))))))
noncomputable def m_waiting_before : FF := defF 3 14 [0, 1, 2] (sSeq (sExpr (xCall m_check_discipline (aCons true (xV 1) aNil))) (sSeq (sExpr (xCall m_check_start (aCons true (xV 0) (aCons true (xV 2) aNil)))) (sSeq (sSet 3 (xCall m_task_at (aCons true (xV 0) (aCons true (xV 1) (aCons true (xV 2) aNil))))) (sSeq (sPar 4 5 (bCons (xC (.int 0)) (bCons (xMeth "Plan" "root_entries" m_Plan_root_entries (xV 0) aNil) bNil))) (sSeq (sFor (iEnmU (bCons (xV 3) bNil)) (gT 2 (gsCons (gN 6) (gsCons (gT 2 (gsCons (gN 7) (gsCons (gN 8) gsNil))) gsNil))) (sSeq (sSet 9 (x2 opSub (x2 opSub (xBi mLen (aCons true (xV 3) aNil)) (xC (.int 1))) (xV 6))) (sSeq (sFor (iEnmU (bCons (xV 5) bNil)) (gT 2 (gsCons (gN 10) (gsCons (gT 2 (gsCons (gN 11) (gsCons (gN 12) gsNil))) gsNil))) (sSeq (sSet 13 (xIf (tB (x2 opLt (xV 10) (xV 7))) (xV 12) (xIf (tB (x2 opEq (xV 10) (xV 7))) (xV 8) (xC (.int 0))))) (sIf (tB (x2 opEq (xV 1) (xC (.str "fifo")))) (sSeq (sSet 4 (x2 opAdd (xV 4) (x2 opMul (xV 13) (xMeth "Plan" "descendants" m_Plan_descendants (xV 0) (aCons true (xV 11) (aCons false (x2 opAdd (xV 9) (xC (.int 1))) aNil)))))) (sSet 4 (x2 opAdd (xV 4) (x2 opMul (x2 opSub (x2 opSub (xV 12) (xV 13)) (xBi mInt (aCons true (x2 opEq (xV 10) (xV 7)) aNil))) (xMeth "Plan" "descendants" m_Plan_descendants (xV 0) (aCons true (xV 11) (aCons true (xV 9) aNil))))))) (sSet 4 (x2 opAdd (xV 4) (xV 13)))))) (sSet 5 (xMeth "Plan" "entries_of" m_Plan_entries_of (xV 0) (aCons false (x2 opIx (x2 opIx (xV 5) (xV 7)) (xC (.int 0))) aNil)))))) (sRet 3 (x2 opAdd (xV 4) (xC (.int 1)))))))))
def m_check_small : FF := defF 1 1 [0] (sIf (tB (x2 opGt (xMeth "Plan" "task_total" m_Plan_task_total (xV 0) aNil) (xC (.int 2000)))) sNev sNil)
def m_Line_in_order : FF := defF 1 1 [0] (sRet 1 (xIf (tB (xFld "Line" "takes_first" (xV 0))) (xBi mList (aCons true (xFld "Line" "waiting" (xV 0)) aNil)) (x1 revD (xFld "Line" "waiting" (xV 0)))))
def m_Running_waiting_tasks : FF := defF 1 1 [0] (sRet 1 (xMeth "Line" "in_order" m_Line_in_order (xFld "Running" "line" (xV 0)) aNil))
def m_Running_thread_tasks : FF := defF 1 1 [0] (sRet 1 (xBi mList (aCons true (xFld "Running" "holders" (xV 0)) aNil)))
def m_Running_is_done : FF := defF 1 1 [0] (sRet 1 (xAnd (x2 opEq (xFld "Line" "waiting" (xFld "Running" "line" (xV 0))) (xLst bNil)) (x2 opEq (xFld "Line" "unfinished" (xFld "Running" "line" (xV 0))) (fun δ => some (.val (.dK []), δ)))))
def m_Running_event_list : FF := defF 1 1 [0] (sRet 1 (xBi mList (aCons true (xFld "Running" "done" (xV 0)) aNil)))
def m_check_list : FF := defF 1 1 [0] (sIf (tOr' (tNot' (tB (x1 (isiB "list") (xV 0)))) (tB (x2 opGt (xBi mLen (aCons true (xV 0) aNil)) (xC (.int 4000))))) sNev sNil)
def m_check_priorities : FF := defF 2 3 [0, 1] (sSeq (sIf (tB (x2 opGt (xMeth "Plan" "task_total" m_Plan_task_total (xV 0) aNil) (xC (.int 2000)))) sNev sNil) (sSeq (sIf (tOr' (tNot' (tB (x1 (isiB "dict") (xV 1)))) (tB (x2 opNe (xBi mLen (aCons true (xV 1) aNil)) (xBi mLen (aCons true (xMeth "Plan" "type_names" m_Plan_type_names (xV 0) aNil) aNil))))) sNev sNil) (sIf (tNot' (tB (xBi mAll (aCons true (xLc (iSeq (xMeth "Plan" "type_names" m_Plan_type_names (xV 0) aNil)) (gN 2) tY (xAnd (x2 opInV (xV 2) (xV 1)) (xCall m_is_integer (aCons false (x2 opIx (xV 1) (xV 2)) aNil))) [2]) aNil)))) sNev sNil)))
def m_Task___init__ : FF := defF 4 4 [0, 1, 2, 3] (sSeq (sAttr 0 "Task" "kind" (xV 1)) (sSeq (sAttr 0 "Task" "parent" (xV 2)) (sAttr 0 "Task" "left" (xV 3))))
def m_children_of : FF := defF 3 7 [0, 1, 2] (sSeq (sSet 3 (xLst bNil)) (sSeq (sFor (iSeq (xV 1)) (gT 2 (gsCons (gN 4) (gsCons (gN 5) gsNil))) (sExpr (xMut mExt 3 (bCons (xLc (iRg1 (bCons (xV 5) bNil)) (gN 6) tY (xMake "Task" m_Task___init__ true (bCons (xV 4) (bCons (xV 2) (bCons (xMeth "Plan" "tree_size" m_Plan_tree_size (xV 0) (aCons true (xV 4) aNil)) bNil)))) [6]) bNil)))) (sRet 3 (xV 3))))
noncomputable def m_note_start : FF := defF 1 3 [0] (sSeq (sAttr 0 "Task" "left" (x2 opSub (xFld "Task" "left" (xV 0)) (xC (.int 1)))) (sSeq (sSet 1 (xBi mInt (aCons true (x2 opGt (xFld "Task" "left" (xV 0)) (xC (.int 0))) aNil))) (sSeq (sSet 2 (xFld "Task" "parent" (xV 0))) (sSeq (sWh (tB (x2 opIsnN (xV 2) (xC .non))) (sSeq (sAttr 2 "Task" "left" (x2 opSub (xFld "Task" "left" (xV 2)) (xC (.int 1)))) (sSeq (sIf (tB (x2 opEq (xFld "Task" "left" (xV 2)) (xC (.int 0)))) (sSet 1 (x2 opSub (xV 1) (xC (.int 1)))) sNil) (sSet 2 (xFld "Task" "parent" (xV 2)))))) (sRet 1 (xV 1))))))
def m_grouped : FF := defF 1 4 [0] (sSeq (sSet 1 (xLst bNil)) (sSeq (sFor (iSeq (xV 0)) (gT 2 (gsCons (gN 2) (gsCons (gN 3) gsNil))) (sIf (tAnd' (tB (x2 opNe (xV 1) (xLst bNil))) (tB (x2 opEq (x2 opIx (x2 opIx (xV 1) (x1 negD (xC (.int 1)))) (xC (.int 0))) (xV 2)))) (sSub 1 (xTup (bCons (xV 2) (bCons (x2 opAdd (x2 opIx (x2 opIx (xV 1) (x1 negD (xC (.int 1)))) (xC (.int 1))) (xV 3)) bNil))) (x1 negD (xC (.int 1)))) (sExpr (xMut mApp 1 (bCons (xTup (bCons (xV 2) (bCons (xV 3) bNil))) bNil))))) (sRet 1 (xV 1))))
noncomputable def m_letters : FF := defF 1 2 [] (sSeq (sSet 1 (xC (.str ""))) (sSeq (sSet 0 (x2 opAdd (xV 0) (xC (.int 1)))) (sSeq (sWh (tB (x2 opGt (xV 0) (xC (.int 0)))) (sSeq (sSet 1 (x2 opAdd (x2 opIx (xC (.str "abcdefghijklmnopqrstuvwxyz")) (x2 opMod (x2 opSub (xV 0) (xC (.int 1))) (xC (.int 26)))) (xV 1))) (sSet 0 (x2 opDiv (x2 opSub (xV 0) (xC (.int 1))) (xC (.int 26)))))) (sRet 1 (xV 1)))))
end Pg

namespace Pg
open PySem PySem.Spec L2 VS
theorem RT_Y {δ : DS} {P : Bool → DS → Prop} (h : P true δ) : RT tY δ P := ⟨_, _, rfl, h⟩
theorem RX_dc {it : IF} {gt : GF} {tt : TF} {fk fv : XF} {own : List Nat} {δ : DS} {P : Ev → DS → Prop} (h : RI it δ fun ds δ1 => ds.length ≤ sizeLine ∧ ∃ r δ2, dcL gt tt fk fv own ds (wipeD δ1 own) [] = some (r, δ2) ∧ P (.val (.dK r)) (unwD δ2 own (savD δ1 own))) : RX (xDc it gt tt fk fv own) δ P := by
  obtain ⟨ds, δ1, h1, h2, r, δ2, h3, p⟩ := h
  exact ⟨_, _, by simp [xDc, h1, h2, h3], p⟩
theorem divOk_of {m : Int} (h : 0 < m ∧ m < 18446744073709551616) : divOk m = true := by
  unfold divOk
  have : m.natAbs.log2 < 9000 := by
    by_cases h0 : m.natAbs = 0
    · rw [h0]; decide
    · have h1 : m.natAbs < 2 ^ 64 := by omega
      have h2 := (Nat.log2_lt h0).mpr h1
      omega
  simp [h.1, this]
/-- a loop by a measure -/
theorem RS_wh {tc : TF} {body : SF} {P : Fl → Prop} (Inv : Nat → DS → Prop) {m : Nat} {δ : DS} (h0 : Inv m δ)
    (step : ∀ m δ, Inv m δ → RT tc δ fun b δ1 => CB b (RS body δ1 (loopS (fun δ' => ∃ m', m' < m ∧ Inv m' δ') P)) (P (.nx δ1))) : RS (sWh tc body) δ P := by
  suffices H : ∀ (n m : Nat), m ≤ n → ∀ δ, Inv m δ → ∃ k r, whN tc body k δ = some r ∧ P r by
    obtain ⟨k, r, h, p⟩ := H m m (Nat.le_refl m) δ h0
    exact ⟨r, sWh_of h, p⟩
  intro n
  induction n with
  | zero =>
    intro m hm δ hi
    obtain ⟨b, δ1, h1, p⟩ := step m δ hi
    cases b with
    | false => exact ⟨1, _, by simp [whN, h1], p.2 rfl⟩
    | true =>
      obtain ⟨r, h2, q⟩ := p.1 rfl
      cases r with
      | nx δ2 => obtain ⟨m', hm', _⟩ := q; omega
      | ct δ2 => obtain ⟨m', hm', _⟩ := q; omega
      | bk δ2 => exact ⟨1, _, by simp [whN, h1, h2], q⟩
      | rt o δ2 => exact ⟨1, _, by simp [whN, h1, h2], q⟩
  | succ n ih =>
    intro m hm δ hi
    obtain ⟨b, δ1, h1, p⟩ := step m δ hi
    cases b with
    | false => exact ⟨1, _, by simp [whN, h1], p.2 rfl⟩
    | true =>
      obtain ⟨r, h2, q⟩ := p.1 rfl
      cases r with
      | nx δ2 =>
        obtain ⟨m', hm', q⟩ := q
        obtain ⟨k, r, h3, q⟩ := ih m' (by omega) δ2 q
        exact ⟨k + 1, r, by simp [whN, h1, h2, h3], q⟩
      | ct δ2 =>
        obtain ⟨m', hm', q⟩ := q
        obtain ⟨k, r, h3, q⟩ := ih m' (by omega) δ2 q
        exact ⟨k + 1, r, by simp [whN, h1, h2, h3], q⟩
      | bk δ2 => exact ⟨1, _, by simp [whN, h1, h2], q⟩
      | rt o δ2 => exact ⟨1, _, by simp [whN, h1, h2], q⟩
local macro_rules | `(tactic| walk_at "gt") => `(tactic| (simp only [gT, gsCons, gN, gsNil, Option.bind_some, List.length_cons, List.length_nil, List.set_cons_zero, List.set_cons_succ, Nat.reduceAdd, if_true] <;> exact rfl))
local macro_rules | `(tactic| walk_at "nrm") => `(tactic| (simp only [List.set_cons_zero, List.set_cons_succ, List.map_cons, List.map_nil, List.length_cons, List.length_nil, List.replicate, List.cons_append, List.nil_append, Nat.reduceSub, selM, ins, O.fz, wipeD, savD, unwD, List.getElem?_cons_zero, List.getElem?_cons_succ, Option.join_some, Option.join_none] <;> exact rfl))
local macro_rules | `(tactic| walk_at "vs") => `(tactic| first
  | with_reducible refine RX_x2 ?_ | with_reducible refine RX_C ?_ | with_reducible refine RX_Vs rfl ?_ | with_reducible refine RX_Va rfl rfl ?_
  | with_reducible refine RV_sh _ ?_ | with_reducible refine RV_val _ ?_ | with_reducible refine RV_at _ rfl ?_
  | with_reducible refine RK_val _ ?_ | with_reducible refine RK_at _ rfl (by walk_at "nrm") ?_
  | with_reducible refine RS_seq ?_ | with_reducible refine thenS_nx ?_ | with_reducible refine thenS_rt ?_ | with_reducible refine loopS_nx ?_ | with_reducible refine loopS_rt ?_ | with_reducible refine loopS_ct ?_ | with_reducible refine loopS_bk ?_ | with_reducible refine thenS_bk ?_ | with_reducible refine thenS_ct ?_ | with_reducible refine endF_rt (by walk_at "nrm") ?_ | with_reducible refine endF_nx (by walk_at "nrm") ?_
  | with_reducible refine RS_set ?_ | with_reducible refine RS_ret ?_ | with_reducible refine RS_if ?_ | with_reducible refine RS_expr ?_ | with_reducible refine RS_sub ?_ | with_reducible refine RS_attr ?_ | with_reducible refine RS_nil ?_ | with_reducible refine RS_par ?_ | with_reducible refine RS_asg ?_
  | with_reducible refine RX_call ?_ | with_reducible refine RX_bi ?_ | with_reducible refine RX_x1 ?_ | with_reducible refine RX_tup ?_ | with_reducible refine RX_lst ?_
  | with_reducible refine RA_f ?_ | with_reducible refine RA_t ?_ | with_reducible refine RA_nil ?_ | with_reducible refine RB_cons ?_ | with_reducible refine RB_nil ?_
  | with_reducible refine RT_Y ?_ | with_reducible refine RT_tB ?_ | with_reducible refine RT_not ?_ | with_reducible refine RT_and ?_ | with_reducible refine RT_or ?_ | with_reducible refine RX_and ?_ | with_reducible refine RX_or ?_ | with_reducible refine RX_not ?_ | with_reducible refine RX_if ?_ | with_reducible refine RX_ch ?_
  | with_reducible refine CB_t ?_ | with_reducible refine CB_f ?_ | with_reducible refine CB_n ?_
  | with_reducible refine RX_mut rfl rfl ?_ | with_reducible refine RS_for ?_ | with_reducible refine RI_enmU ?_ | with_reducible refine RI_seq ?_ | with_reducible refine RI_rg1 ?_ | with_reducible refine RX_lc ?_ | with_reducible refine RX_dc ?_ | with_reducible refine RX_dK ?_ | with_reducible refine RX_sl ?_ | with_reducible refine RO_N ?_ | with_reducible refine RO_E ?_ | with_reducible refine RX_fld ?_ | with_reducible refine RX_meth ?_ | with_reducible refine RX_make ?_ | with_reducible refine RX_o2 ?_
  | with_reducible refine R1_of _ (opMod_int (by decide)) ?_ | with_reducible refine R1_of _ (opDiv_int (by decide)) ?_ | with_reducible refine R1_of _ (opMul_l (by first | decide | omega)) ?_ | with_reducible refine R1_of _ (opMul_r (by first | decide | omega)) ?_ | with_reducible refine R1_of _ (opPow_ok (by first | decide | omega)) ?_
  | refine R1_of _ rfl ?_
  | (fail_if_success (with_reducible refine RF_id ?_)); (fail_if_success (with_reducible refine RL_id ?_)); (fail_if_success (with_reducible refine inR_id ?_)); first | refine ⟨_, by walk_at "nrm", ?_⟩ | refine ⟨_, _, rfl, ?_⟩ | refine ⟨_, rfl, ?_⟩ | refine ⟨rfl, ?_⟩ | refine ⟨Nat.le_of_ble_eq_true rfl, ?_⟩ | refine ⟨_, _, rfl, rfl, ?_⟩)
theorem RL_enum {α : Type} {enc : α → D} {gt : GF} {body : SF} {l : List α} {P : Fl → Prop} (Inv : List α → DS → Prop) {δ : DS} (h0 : Inv [] δ)
    (step : ∀ done x rest δ, l = done ++ x :: rest → Inv done δ → ∃ δ1, gt (.tup [.int (done.length : Nat), enc x]) δ = some δ1 ∧ RS body δ1 (loopS (Inv (done ++ [x])) P)) (fin : ∀ δ, Inv l δ → P (.nx δ)) : RL gt body (enumD 0 (l.map enc)) δ P := by
  suffices H : ∀ (rest done : List α) (δ : DS), l = done ++ rest → Inv done δ → RL gt body (enumD done.length (rest.map enc)) δ P from H l [] δ rfl h0
  intro rest
  induction rest with
  | nil =>
    intro done δ e h
    rw [List.append_nil] at e
    subst e
    exact ⟨_, rfl, fin δ h⟩
  | cons x rest ih =>
    intro done δ e h
    obtain ⟨δ1, h1, r, h2, p⟩ := step done x rest δ e h
    have go : ∀ δ2, Inv (done ++ [x]) δ2 → RL gt body (enumD (done.length + 1) (rest.map enc)) δ2 P := fun δ2 q => by
      have := ih (done ++ [x]) δ2 (by rw [e]; simp) q
      rwa [List.length_append] at this
    cases r with
    | nx δ2 =>
      obtain ⟨r, h3, q⟩ := go δ2 p
      exact ⟨r, by simp [enumD, forL, h1, h2, h3], q⟩
    | ct δ2 =>
      obtain ⟨r, h3, q⟩ := go δ2 p
      exact ⟨r, by simp [enumD, forL, h1, h2, h3], q⟩
    | bk δ2 => exact ⟨_, by simp [enumD, forL, h1, h2], p⟩
    | rt o δ2 => exact ⟨_, by simp [enumD, forL, h1, h2], p⟩
theorem okL_map {α : Type} {f : α → D} {n : Nat} : ∀ {l : List α}, (∀ x ∈ l, (f x).okE n = true) → D.okL n (l.map f) = true
  | [], _ => by simp [D.okL]
  | x :: l, h => by
    simp only [List.map_cons, D.okL, Bool.and_eq_true]
    exact ⟨h x (by simp), okL_map fun y hy => h y (by simp [hy])⟩
mutual
theorem eqD_refl : ∀ (n : Nat) (d : D), d.okE n = true → d.eqD d = true
  | n, .non, h => by simp [D.eqD]
  | n, .bl b, h => by simp [D.eqD]
  | n, .int b, h => by simp [D.eqD]
  | n, .str b, h => by simp [D.eqD]
  | 0, .lst xs, h => by simp [D.okE] at h
  | 0, .tup xs, h => by simp [D.okE] at h
  | n + 1, .lst xs, h => by
    simp only [D.okE] at h
    simp only [D.eqD]
    exact eqL_refl n xs h
  | n + 1, .tup xs, h => by
    simp only [D.okE] at h
    simp only [D.eqD]
    exact eqL_refl n xs h
  | n, .dK _, h => by cases n <;> simp [D.okE] at h
  | n, .dT _, h => by cases n <;> simp [D.okE] at h
  | n, .obj _ _, h => by cases n <;> simp [D.okE] at h
  | n, .scr _, h => by cases n <;> simp [D.okE] at h
theorem eqL_refl : ∀ (n : Nat) (ds : List D), D.okL n ds = true → D.eqL ds ds = true
  | n, [], h => by simp [D.eqL]
  | n, d :: ds, h => by
    simp only [D.okL, Bool.and_eq_true] at h
    simp only [D.eqL, Bool.and_eq_true]
    exact ⟨eqD_refl n d h.1, eqL_refl n ds h.2⟩
end
theorem deq_refl {d : D} (h : d.okE 30 = true) : deq d d = some true := by simp [deq, h, eqD_refl 30 d h]
theorem sIx_pos (n d : Nat) {m : Int} (h : 0 ≤ m) : HT.sIx n d (some m) = min m.toNat n := by
  show (if m < 0 then (m + (n : Int)).toNat else min m.toNat n) = _
  rw [if_neg (by omega)]
theorem cutL_take {α : Type} (l : List α) {m : Int} (h : 0 ≤ m) : cutL l none (some m) = l.take m.toNat := by
  unfold cutL
  rw [sIx_pos _ _ h, HT.sIx_none, List.drop_zero, Nat.sub_zero]
  rcases Nat.le_total m.toNat l.length with e | e
  · rw [Nat.min_eq_left e]
  · rw [Nat.min_eq_right e, List.take_length, List.take_of_length_le e]
theorem cutL_drop {α : Type} (l : List α) {m : Int} (h : 0 ≤ m) : cutL l (some m) none = l.drop m.toNat := by
  unfold cutL
  rw [sIx_pos _ _ h, HT.sIx_none]
  rcases Nat.le_total m.toNat l.length with e | e
  · rw [Nat.min_eq_left e, List.take_of_length_le (by simp)]
  · rw [Nat.min_eq_right e, List.drop_length, List.drop_of_length_le e]
    simp
theorem sl_le {n : Nat} (h : n ≤ 16777216) : n ≤ sizeLine := h
theorem mApp_ok {xs : List D} {d : D} (h : xs.length < 16777216) : mApp (.lst xs) [d] = some (.lst (xs ++ [d]), .sh .non) := if_pos (show xs.length < sizeLine from h)
theorem rng_map (n : Nat) : rngD 0 n = (List.range n).map fun (i : Nat) => D.int (0 + (i : Int)) := rfl
theorem atI_some {α : Type} {l : List α} {v : Int} (h0 : 0 ≤ v) (h1 : v < l.length) : ∃ x, atI l v = some x ∧ x ∈ l := by
  have hl : v.toNat < l.length := by omega
  refine ⟨l[v.toNat], ?_, List.getElem_mem hl⟩
  unfold atI ixN
  rw [if_pos h0, if_pos h1]
  simp [hl]
theorem atI_map {α : Type} {f : α → D} {l : List α} {v : Int} (h0 : 0 ≤ v) (h1 : v < l.length) : ∃ x, atI (l.map f) v = some (f x) ∧ x ∈ l := by
  obtain ⟨d, e, hd⟩ := atI_some (l := l.map f) h0 (by rw [List.length_map]; exact h1)
  obtain ⟨x, hx, rfl⟩ := List.mem_map.mp hd
  exact ⟨x, e, hx⟩
theorem opIx_lst {xs : List D} {v : Int} {d : D} (h : atI xs v = some d) : opIx (.lst xs) (.int v) = some (.sh d) := by
  show (atI xs v).map O.sh = _
  rw [h]
  rfl
theorem all_true {α : Type} (l : List α) : mAll [.lst (l.map fun _ => D.bl true)] = some (.sh (.bl true)) := by
  have : blsOf (l.map fun _ => D.bl true) = some (l.map fun _ => true) := by
    induction l with
    | nil => rfl
    | cons a l ih =>
      simp only [List.map_cons, blsOf, ih, Option.map_some]
  unfold mAll
  simp only [this, Option.map_some]
  simp
theorem mLen_lst {ds : List D} : mLen [.lst ds] = some (.sh (.int ds.length)) := rfl
theorem opIx_dk {tb : List (Key × D)} {s : Str} {d : D} (h : dget tb (.inr s) = some d) : opIx (.dK tb) (.str s) = some (.sh d) := by
  simp [opIx, opDG, keyOf, h]
theorem opEq_int {i j : Int} : opEq (.int i) (.int j) = some (.sh (.bl (i == j))) := by
  simp [opEq, deq, D.okE, D.eqD]
theorem putD_lst {xs : List D} {m : Int} {d : D} (h0 : 0 ≤ m) (h1 : m < xs.length) : putD (.lst xs) (.int m) d = some (.lst (xs.set m.toNat d)) := by
  simp only [putD, ixN]
  rw [if_pos h0, if_pos h1]
  rfl
theorem dput_new {ks : List (Key × D)} {k : Key} {d : D} (h : k ∉ ks.map (·.1)) : dput ks k d = ks ++ [(k, d)] := by
  unfold dput
  rw [if_neg]
  simp only [List.any_eq_true, decide_eq_true_eq, not_exists, not_and]
  intro x hx e
  exact h (List.mem_map.mpr ⟨x, hx, e⟩)
/-- new keys, each item by itself -/
theorem dc_new {α : Type} {enc : α → D} {key : α → Key} {g : α → D} {gt : GF} {tt : TF} {fk fv : XF} {own : List Nat} {l : List α} {δ : DS} (hnd : (l.map key).Nodup)
    (step : ∀ x ∈ l, ∃ δ1, gt (enc x) δ = some δ1 ∧ RT tt δ1 fun b δ2 => b = true ∧ RX fk δ2 fun e δ3 => RK δ3 e fun ok δ4 => RX fv δ4 fun e δ5 => RK δ5 e fun o δ6 => keyOf ok.fz = some (key x) ∧ o.fz = g x ∧ wipeD δ6 own = δ) :
    dcL gt tt fk fv own (l.map enc) δ [] = some (l.map fun x => (key x, g x), δ) := by
  suffices H : ∀ (rest done : List α), l = done ++ rest → dcL gt tt fk fv own (rest.map enc) δ (done.map fun x => (key x, g x)) = some (l.map fun x => (key x, g x), δ) from H l [] rfl
  intro rest
  induction rest with
  | nil =>
    intro done e
    rw [List.append_nil] at e
    subst e
    rfl
  | cons x rest ih =>
    intro done e
    obtain ⟨δ1, h1, b, δ2, h2, hb, ek, δ3, h3, ok, δ4, h4, ev, δ5, h5, o, δ6, h6, h7, h8, h9⟩ := step x (by rw [e]; simp)
    subst hb
    have nk : key x ∉ (done.map fun x => (key x, g x)).map (·.1) := by
      rw [e, List.map_append] at hnd
      have q := (List.nodup_append.mp hnd).2.2
      rw [List.map_map]
      intro hm
      exact q (key x) (by simpa using hm) (key x) (by simp) rfl
    have := ih (done ++ [x]) (by rw [e]; simp)
    simp only [List.map_cons, dcL, h1, h2, h3, h4, h5, h6, h7, h8, Option.bind_some, if_true]
    rw [dput_new nk, h9]
    rw [List.map_append] at this
    exact this
theorem dget_cons {κ : Type} [DecidableEq κ] (x k : κ) (v : D) (ks : List (κ × D)) : dget ((x, v) :: ks) k = if x = k then some v else dget ks k := by
  unfold dget
  by_cases e : x = k
  · simp [List.find?_cons, e]
  · simp [List.find?_cons, e]
theorem dget_put {κ : Type} [DecidableEq κ] (k k' : κ) (d : D) : ∀ ks : List (κ × D), (dget (ks.map fun kv => if kv.1 = k then (kv.1, d) else kv) k' = if k = k' then (dget ks k').map (fun _ => d) else dget ks k') ∧
    (dget (ks ++ [(k, d)]) k' = match dget ks k' with | some v => some v | none => if k = k' then some d else none) ∧ ((ks.any fun kv => decide (kv.1 = k)) = (dget ks k).isSome)
  | [] => by simp [dget]
  | (x, v) :: ks => by
    obtain ⟨h1, h2, h3⟩ := dget_put k k' d ks
    refine ⟨?_, ?_, ?_⟩
    · rw [List.map_cons]
      by_cases e : x = k
      · subst e
        simp only [if_true]
        rw [dget_cons, dget_cons, h1]
        by_cases e2 : x = k'
        · simp [e2]
        · simp [e2]
      · simp only [e, if_false]
        rw [dget_cons, dget_cons, h1]
        by_cases e2 : x = k'
        · subst e2
          have : ¬ k = x := fun z => e z.symm
          simp [this]
        · simp [e2]
    · rw [List.cons_append, dget_cons, dget_cons, h2]
      by_cases e2 : x = k'
      · simp [e2]
      · simp [e2]
    · rw [List.any_cons, h3, dget_cons]
      by_cases e : x = k
      · simp [e]
      · simp [e]
theorem dget_dput {κ : Type} [DecidableEq κ] (ks : List (κ × D)) (k k' : κ) (d : D) : dget (dput ks k d) k' = if k = k' then some d else dget ks k' := by
  obtain ⟨h1, h2, h3⟩ := dget_put k k' d ks
  unfold dput
  split
  · rename_i ha
    rw [h1]
    rw [h3] at ha
    by_cases e : k = k'
    · subst e
      obtain ⟨v, hv⟩ := Option.isSome_iff_exists.mp ha
      simp [hv]
    · simp [e]
  · rename_i ha
    rw [h2]
    rw [h3] at ha
    by_cases e : k = k'
    · subst e
      have : dget ks k = none := by cases q : dget ks k with | none => rfl | some v => rw [q] at ha; simp at ha
      simp [this]
    · simp only [e, if_false]
      cases dget ks k' <;> rfl
theorem RX_lcI {w : Vw} {fp : DS → Option (D × DS)} {gt : GF} {tt : TF} {fe : XF} {own : List Nat} {δ δ1 : DS} {ks : List (Key × D)} {P : Ev → DS → Prop} (hf : fp δ = some (.dK ks, δ1)) (h : (w.of ks).length ≤ sizeLine ∧ RC gt tt fe own (w.of ks) (wipeD δ1 own) [] fun acc δ2 => P (.val (.lst acc)) (unwD δ2 own (savD δ1 own))) : RX (xLcI w fp gt tt fe own) δ P := by
  obtain ⟨h2, r, δ2, h3, p⟩ := h
  exact ⟨_, _, by simp [xLcI, hf, h2, h3], p⟩

theorem enumD_zip {α : Type} (enc : α → D) : ∀ (l : List α) (n : Nat), enumD n (l.map enc) = (l.zipIdx n).map fun p => .tup [.int (p.2 : Nat), enc p.1]
  | [], n => rfl
  | x :: l, n => by
    rw [List.map_cons, List.zipIdx_cons, List.map_cons, ← enumD_zip enc l (n + 1)]
    rfl
/-! ### plans as data -/
abbrev En := Str × Int
abbrev Ty := Str × List En
def encE (e : En) : D := .tup [.str e.1, .int e.2]
def encT (t : Ty) : D := .tup [.str t.1, .lst (t.2.map encE)]
def GoodN (s : Str) : Prop := RF m_is_name [.sh (.str s)] fun r fin => r = .sh (.bl true) ∧ fin = [some (.sh (.str s))]
/-- a name -/
def NOk (s : Str) : Prop := GoodN s ∧ PyData.strOk s = true
def cntOk (k : Int) : Prop := 1 ≤ k ∧ k ≤ 1000000000000
def eOk (e : En) : Prop := NOk e.1 ∧ cntOk e.2
def tOk (t : Ty) : Prop := NOk t.1 ∧ t.2.length ≤ 20 ∧ ∀ e ∈ t.2, eOk e
theorem int_ok {v : Int} : RF m_is_integer [.sh (.int v)] fun r fin => r = .sh (.bl true) ∧ fin = [some (.sh (.int v))] := ⟨_, _, rfl, rfl, rfl⟩
theorem between_ok {v lo hi : Int} (h : lo ≤ v ∧ v ≤ hi) : RF m_is_between [.sh (.int v), .sh (.int lo), .sh (.int hi)] fun r fin => r = .sh (.bl true) ∧ fin = [some (.sh (.int v)), some (.sh (.int lo)), some (.sh (.int hi))] := by
  refine RF_def rfl (by walk_at "nrm") ?_
  refine RS_ret (RX_and (RT_tB (RX_call (RA_t (RX_Vs rfl (RA_nil ?_))))))
  refine ⟨_, _, rfl, ?_⟩
  refine RF.mono int_ok ?_
  rintro r fin ⟨rfl, rfl⟩
  repeat walk_at "vs"
  refine CB_yes (decide_eq_true h.1) ?_
  repeat walk_at "vs"
  rw [decide_eq_true h.2]
  exact ⟨rfl, rfl⟩
theorem entry_ok {e : En} (h : eOk e) : RF m_is_entry [.sh (encE e)] fun r fin => r = .sh (.bl true) ∧ fin = [some (.sh (encE e))] := by
  unfold encE
  refine RF_def rfl (by walk_at "nrm") ?_
  repeat walk_at "vs"
  refine CB_yes (by simp [D.eqD]) ?_
  repeat walk_at "vs"
  refine RF.mono (h.1.1) ?_
  rintro r fin ⟨rfl, rfl⟩
  repeat walk_at "vs"
  refine RF.mono (between_ok ⟨h.2.1, h.2.2⟩) ?_
  rintro r fin ⟨rfl, rfl⟩
  repeat walk_at "vs"
  rfl
theorem type_ok {t : Ty} (h : tOk t) : RF m_is_type [.sh (encT t)] fun r fin => r = .sh (.bl true) ∧ fin = [some (.sh (encT t))] := by
  unfold encT
  refine RF_def rfl (by walk_at "nrm") ?_
  repeat walk_at "vs"
  refine CB_yes (by simp [D.eqD]) ?_
  repeat walk_at "vs"
  refine RF.mono (h.1.1) ?_
  rintro r fin ⟨rfl, rfl⟩
  repeat walk_at "vs"
  refine CB_no (by have := h.2.1; simp; omega) ?_
  repeat walk_at "vs"
  refine ⟨by rw [List.length_map]; exact sl_le (by have := h.2.1; omega), ?_⟩
  refine RC_map (g := fun _ => D.bl true) (fun e he => ?_) ?_
  · refine ⟨_, by walk_at "gt", ?_⟩
    repeat walk_at "vs"
    refine RF.mono (entry_ok (h.2.2 e he)) ?_
    rintro r fin ⟨rfl, rfl⟩
    repeat walk_at "vs"
    walk_at "nrm"
  · repeat walk_at "vs"
    refine R1_of _ (all_true _) ?_
    repeat walk_at "vs"
    rfl
theorem in_strs {s : Str} {l : List Str} (hs : NOk s) (hl : ∀ x ∈ l, NOk x) : opIn (.str s) (.lst (l.map D.str)) = some (decide (s ∈ l)) := by
  have h1 : (D.str s).okE 29 = true := by simp only [D.okE]; exact hs.2
  have h2 : D.okL 29 (l.map D.str) = true := okL_map fun x hx => by simp only [D.okE]; exact (hl x hx).2
  show (if (D.str s).okE 29 && D.okL 29 (l.map D.str) then some ((l.map D.str).any fun z => z.eqD (.str s)) else none) = _
  rw [h1, h2]
  simp only [Bool.and_self, if_true, Option.some.injEq]
  induction l with
  | nil => rfl
  | cons a l ih =>
    have ih := ih (fun x hx => hl x (by simp [hx])) (okL_map fun x hx => by simp only [D.okE]; exact (hl x (by simp [hx])).2)
    simp only [List.map_cons, List.any_cons, ih, D.eqD, List.mem_cons]
    by_cases e : a = s
    · subst e
      simp
    · have : ¬ s = a := fun z => e z.symm
      simp [e, this]
theorem opInV_strs {s : Str} {l : List Str} (hs : NOk s) (hl : ∀ x ∈ l, NOk x) : opInV (.str s) (.lst (l.map D.str)) = some (.sh (.bl (decide (s ∈ l)))) := by
  unfold opInV
  rw [in_strs hs hl]
  rfl
theorem opNinV_strs {s : Str} {l : List Str} (hs : NOk s) (hl : ∀ x ∈ l, NOk x) : opNinV (.str s) (.lst (l.map D.str)) = some (.sh (.bl (!decide (s ∈ l)))) := by
  unfold opNinV
  rw [in_strs hs hl]
  rfl
/-- what a Plan asks of its types and roots -/
structure PP (kinds : List Ty) (tops : List En) : Prop where
  l1 : 1 ≤ kinds.length
  l2 : kinds.length ≤ 40
  tk : ∀ t ∈ kinds, tOk t
  nd : (kinds.map (·.1)).Nodup
  ent : ∀ i t, kinds[i]? = some t → ∀ e ∈ t.2, e.1 ∈ (kinds.map (·.1)).drop (i + 1)
  tl : tops.length ≤ 20
  te : ∀ e ∈ tops, e.1 ∈ kinds.map (·.1) ∧ eOk e
theorem check_types_ok {kinds : List Ty} {tops : List En} (h : PP kinds tops) : RF m_check_types [.sh (.lst (kinds.map encT))] fun r fin => r = .sh .non ∧ fin = [some (.sh (.lst (kinds.map encT)))] := by
  have hn : ∀ s ∈ kinds.map (·.1), NOk s := fun s hs => by obtain ⟨t, ht, rfl⟩ := List.mem_map.mp hs; exact (h.tk t ht).1
  refine RF_def rfl (by walk_at "nrm") ?_
  repeat walk_at "vs"
  refine CB_yes (by have := h.l1; simp; omega) ?_
  repeat walk_at "vs"
  refine CB_yes (by have := h.l2; simp; omega) ?_
  repeat walk_at "vs"
  refine RL_enum (fun done δ => ∃ j2 j3, δ = [some (.sh (.lst (kinds.map encT))), some (.lst ((done.map (·.1)).map D.str)), j2, j3, none, none]) ⟨_, _, rfl⟩ ?_ ?_
  · rintro done x rest δ hl ⟨j2, j3, rfl⟩
    have hx : x ∈ kinds := by rw [hl]; simp
    refine ⟨_, by walk_at "gt", ?_⟩
    repeat walk_at "vs"
    refine RF.mono (type_ok (h.tk x hx)) ?_
    rintro r fin ⟨rfl, rfl⟩
    repeat walk_at "vs"
    refine R1_of _ (opInV_strs (h.tk x hx).1 fun s hs => hn s (by rw [hl]; simp at hs ⊢; exact .inl hs)) ?_
    repeat walk_at "vs"
    refine CB_no ?_ ?_
    · have q := h.nd
      rw [hl, List.map_append] at q
      have := (List.nodup_append.mp q).2.2
      simp only [decide_eq_false_iff_not]
      intro hm
      exact this x.1 hm x.1 (by simp) rfl
    repeat walk_at "vs"
    have hdl : done.length < 40 := by have a1 := congrArg List.length hl; have a2 := h.l2; simp at a1; omega
    refine ⟨_, mApp_ok (by simp; omega), ?_⟩
    repeat walk_at "vs"
    exact ⟨_, _, by rw [List.map_append, List.map_append]; rfl⟩
  · rintro δ ⟨j2, j3, rfl⟩
    repeat walk_at "vs"
    refine RL_enum (fun done δ => ∃ j2 j3, δ = [some (.sh (.lst (kinds.map encT))), some (.lst ((kinds.map (·.1)).map D.str)), j2, j3, none, none]) ⟨_, _, rfl⟩ ?_ ?_
    · rintro done x rest δ hl ⟨j2, j3, rfl⟩
      have hx : x ∈ kinds := by rw [hl]; simp
      refine ⟨_, by walk_at "gt", ?_⟩
      repeat walk_at "vs"
      refine ⟨by rw [List.length_map]; exact sl_le (by have := (h.tk x hx).2.1; omega), ?_⟩
      have hL : cutL ((kinds.map (·.1)).map D.str) (some ((done.length : Int) + 1)) none = ((kinds.map (·.1)).drop (done.length + 1)).map D.str := by
        rw [cutL_drop _ (by omega), ← List.map_drop]
        congr 2
      refine RC_map (g := fun _ => D.bl true) (fun e he => ?_) ?_
      · refine ⟨_, by walk_at "gt", ?_⟩
        repeat walk_at "vs"
        rw [hL]
        refine R1_of _ (opInV_strs ((h.tk x hx).2.2 e he).1 fun s hs => hn s (List.mem_of_mem_drop hs)) ?_
        have hxi : kinds[done.length]? = some x := by rw [hl]; simp
        rw [decide_eq_true (h.ent _ x hxi e he)]
        repeat walk_at "vs"
        walk_at "nrm"
      · repeat walk_at "vs"
        refine R1_of _ (all_true _) ?_
        repeat walk_at "vs"
        exact ⟨_, _, rfl⟩
    · rintro δ ⟨j2, j3, rfl⟩
      repeat walk_at "vs"
      rfl

theorem check_roots_ok {kinds : List Ty} {tops : List En} (h : PP kinds tops) {o : O} (ho : o = .lst (tops.map encE) ∨ o = .sh (.lst (tops.map encE))) : RF m_check_roots [o, .lst ((kinds.map (·.1)).map D.str)] fun r fin => r = .sh .non ∧ ∃ j, fin = [some (.sh (.lst (tops.map encE))), j] := by
  have hn : ∀ s ∈ kinds.map (·.1), NOk s := fun s hs => by obtain ⟨t, ht, rfl⟩ := List.mem_map.mp hs; exact (h.tk t ht).1
  rcases ho with rfl | rfl <;>
  · refine RF_def rfl (by walk_at "nrm") ?_
    repeat walk_at "vs"
    refine CB_no (by have := h.tl; simp; omega) ?_
    repeat walk_at "vs"
    refine RL_enum (fun done δ => ∃ j2 j3, δ = [some (.sh (.lst (tops.map encE))), some (.lst ((kinds.map (·.1)).map D.str)), j2, j3]) ⟨_, _, rfl⟩ ?_ ?_
    · rintro done x rest δ hl ⟨j2, j3, rfl⟩
      have hx : x ∈ tops := by rw [hl]; simp
      refine ⟨_, by walk_at "gt", ?_⟩
      repeat walk_at "vs"
      refine RF.mono (entry_ok (h.te x hx).2) ?_
      rintro r fin ⟨rfl, rfl⟩
      repeat walk_at "vs"
      refine R1_of _ (opNinV_strs (h.te x hx).2.1 hn) ?_
      rw [decide_eq_true (h.te x hx).1]
      repeat walk_at "vs"
      exact ⟨_, _, rfl⟩
    · rintro δ ⟨j2, j3, rfl⟩
      repeat walk_at "vs"
      exact ⟨_, rfl⟩
abbrev Pr := Int × Int
def encP (p : Pr) : D := .tup [.int p.1, .int p.2]
theorem opNe_ents {es : List En} (h : ∀ e ∈ es, eOk e) : opNe (.lst (es.map encE)) (.lst []) = some (.sh (.bl (!es.isEmpty))) := by
  have h1 : (D.lst (es.map encE)).okE 30 = true := by
    simp only [D.okE]
    exact okL_map fun x hx => by simp only [encE, D.okE, D.okL, (h x hx).1.2, Bool.and_self]
  have h2 : (D.lst []).okE 30 = true := by simp [D.okE, D.okL]
  unfold opNe deq
  rw [h1, h2]
  cases es <;> simp [D.eqD, D.eqL]
end Pg

namespace Pg
open PySem PySem.Spec L2 VS
local macro_rules | `(tactic| walk_at "gt") => `(tactic| (simp only [gT, gsCons, gN, gsNil, Option.bind_some, List.length_cons, List.length_nil, List.set_cons_zero, List.set_cons_succ, Nat.reduceAdd, if_true] <;> exact rfl))
local macro_rules | `(tactic| walk_at "nrm") => `(tactic| (simp only [List.set_cons_zero, List.set_cons_succ, List.map_cons, List.map_nil, List.length_cons, List.length_nil, List.replicate, List.cons_append, List.nil_append, Nat.reduceSub, selM, ins, O.fz, wipeD, savD, unwD, List.getElem?_cons_zero, List.getElem?_cons_succ, Option.join_some, Option.join_none] <;> exact rfl))
local macro_rules | `(tactic| walk_at "vs") => `(tactic| first
  | with_reducible refine RX_x2 ?_ | with_reducible refine RX_C ?_ | with_reducible refine RX_Vs rfl ?_ | with_reducible refine RX_Va rfl rfl ?_
  | with_reducible refine RV_sh _ ?_ | with_reducible refine RV_val _ ?_ | with_reducible refine RV_at _ rfl ?_
  | with_reducible refine RK_val _ ?_ | with_reducible refine RK_at _ rfl (by walk_at "nrm") ?_
  | with_reducible refine RS_seq ?_ | with_reducible refine thenS_nx ?_ | with_reducible refine thenS_rt ?_ | with_reducible refine loopS_nx ?_ | with_reducible refine loopS_rt ?_ | with_reducible refine loopS_ct ?_ | with_reducible refine loopS_bk ?_ | with_reducible refine thenS_bk ?_ | with_reducible refine thenS_ct ?_ | with_reducible refine endF_rt (by walk_at "nrm") ?_ | with_reducible refine endF_nx (by walk_at "nrm") ?_
  | with_reducible refine RS_set ?_ | with_reducible refine RS_ret ?_ | with_reducible refine RS_if ?_ | with_reducible refine RS_expr ?_ | with_reducible refine RS_sub ?_ | with_reducible refine RS_attr ?_ | with_reducible refine RS_nil ?_ | with_reducible refine RS_par ?_ | with_reducible refine RS_asg ?_
  | with_reducible refine RX_call ?_ | with_reducible refine RX_bi ?_ | with_reducible refine RX_x1 ?_ | with_reducible refine RX_tup ?_ | with_reducible refine RX_lst ?_
  | with_reducible refine RA_f ?_ | with_reducible refine RA_t ?_ | with_reducible refine RA_nil ?_ | with_reducible refine RB_cons ?_ | with_reducible refine RB_nil ?_
  | with_reducible refine RT_Y ?_ | with_reducible refine RT_tB ?_ | with_reducible refine RT_not ?_ | with_reducible refine RT_and ?_ | with_reducible refine RT_or ?_ | with_reducible refine RX_and ?_ | with_reducible refine RX_or ?_ | with_reducible refine RX_not ?_ | with_reducible refine RX_if ?_ | with_reducible refine RX_ch ?_
  | with_reducible refine CB_t ?_ | with_reducible refine CB_f ?_ | with_reducible refine CB_n ?_
  | with_reducible refine RX_mut rfl rfl ?_ | with_reducible refine RS_for ?_ | with_reducible refine RI_enmU ?_ | with_reducible refine RI_seq ?_ | with_reducible refine RI_rg1 ?_ | with_reducible refine RX_lc ?_ | with_reducible refine RX_dc ?_ | with_reducible refine RX_dK ?_ | with_reducible refine RX_sl ?_ | with_reducible refine RO_N ?_ | with_reducible refine RO_E ?_ | with_reducible refine RX_fld ?_ | with_reducible refine RX_meth ?_ | with_reducible refine RX_make ?_ | with_reducible refine RX_o2 ?_
  | with_reducible refine R1_of _ (opMod_int (by decide)) ?_ | with_reducible refine R1_of _ (opDiv_int (by decide)) ?_ | with_reducible refine R1_of _ (opMul_l (by first | decide | omega)) ?_ | with_reducible refine R1_of _ (opMul_r (by first | decide | omega)) ?_ | with_reducible refine R1_of _ (opPow_ok (by first | decide | omega)) ?_
  | refine R1_of _ rfl ?_
  | (fail_if_success (with_reducible refine RF_id ?_)); (fail_if_success (with_reducible refine RL_id ?_)); (fail_if_success (with_reducible refine inR_id ?_)); first | refine ⟨_, by walk_at "nrm", ?_⟩ | refine ⟨_, _, rfl, ?_⟩ | refine ⟨_, rfl, ?_⟩ | refine ⟨rfl, ?_⟩ | refine ⟨Nat.le_of_ble_eq_true rfl, ?_⟩ | refine ⟨_, _, rfl, rfl, ?_⟩)
open PM in
def tabD (K : List Ty) (s : Str) : D := .lst ((tabF (pr K s) (lev K s)).map encP)
theorem atI_nat {α : Type} {l : List α} {i : Nat} {x : α} (h : l[i]? = some x) : atI l (i : Int) = some x := by
  have hi := (List.getElem?_eq_some_iff.mp h).1
  unfold atI ixN
  rw [if_pos (by omega), if_pos (by omega)]
  simpa using h
theorem ok_of : ∀ {kinds : List Ty}, (kinds.map (·.1)).Nodup → (∀ t ∈ kinds, ∀ e ∈ t.2, 1 ≤ e.2) → (∀ i t, kinds[i]? = some t → ∀ e ∈ t.2, e.1 ∈ (kinds.map (·.1)).drop (i + 1)) → PM.Ok kinds
  | [], _, _, _ => trivial
  | k :: r, h1, h2, h3 => by
    rw [List.map_cons, List.nodup_cons] at h1
    refine ⟨h1.1, fun e he => ⟨by have := h3 0 k rfl e he; simpa using this, h2 k (by simp) e he⟩, ok_of h1.2 (fun t ht => h2 t (by simp [ht])) fun i t e => ?_⟩
    have := h3 (i + 1) t (by simpa using e)
    simpa using this
theorem PP.ok {kinds : List Ty} {tops : List En} (h : PP kinds tops) : PM.Ok kinds := ok_of h.nd (fun t ht e he => ((h.tk t ht).2.2 e he).2.1) h.ent
theorem PP.okE {kinds : List Ty} {tops : List En} (h : PP kinds tops) : PM.OkE kinds tops := fun e he => ⟨(h.te e he).1, (h.te e he).2.2.1⟩
theorem tab_sub {o0 o1 o3 : Option O} {f : Nat → Pr} {n L : Nat} {cnt ev inn : Int} {P : Fl → Prop} (hc : 1 ≤ cnt ∧ cnt ≤ 1000000000000) (hi : n + 1 < L)
    (k : P (.nx [o0, o1, some (.lst ((PM.tabF (fun j => if j = n + 1 then ((f (n + 1)).1 + cnt * ev, (f (n + 1)).2 + cnt * inn) else f j) L).map encP)), o3, some (.sh (.int cnt)), some (.sh (.int (n : Nat))), some (.sh (.int ev)), some (.sh (.int inn))])) :
    RS (sSub 2 (xTup (bCons (x2 opAdd (x2 opIx (x2 opIx (xV 2) (x2 opAdd (xV 5) (xC (.int 1)))) (xC (.int 0))) (x2 opMul (xV 4) (xV 6))) (bCons (x2 opAdd (x2 opIx (x2 opIx (xV 2) (x2 opAdd (xV 5) (xC (.int 1)))) (xC (.int 1))) (x2 opMul (xV 4) (xV 7))) bNil))) (x2 opAdd (xV 5) (xC (.int 1))))
      [o0, o1, some (.lst ((PM.tabF f L).map encP)), o3, some (.sh (.int cnt)), some (.sh (.int (n : Nat))), some (.sh (.int ev)), some (.sh (.int inn))] P := by
  have hp : atI ((PM.tabF f L).map encP) ((n : Int) + 1) = some (encP (f (n + 1))) := by
    have := atI_nat (l := (PM.tabF f L).map encP) (i := n + 1) (x := encP (f (n + 1))) (by rw [List.getElem?_map, PM.tabF_get hi]; rfl)
    simpa using this
  repeat walk_at "vs"
  refine R1_of _ (opIx_lst hp) ?_
  repeat walk_at "vs"
  refine R1_of _ (opIx_lst hp) ?_
  repeat walk_at "vs"
  refine R1_of _ (putD_lst (by omega) (by rw [List.length_map, PM.tabF_len]; omega)) ?_
  repeat walk_at "vs"
  rw [show (D.tup [D.int ((f (n + 1)).1 + cnt * ev), D.int ((f (n + 1)).2 + cnt * inn)]) = encP ((f (n + 1)).1 + cnt * ev, (f (n + 1)).2 + cnt * inn) from rfl, ← List.map_set, show ((n : Int) + 1).toNat = n + 1 by omega, PM.tabF_set]
  exact k
open PM in
theorem table_ok {K : List Ty} {tb : List (Key × D)} {es : List En} (hK : PM.Ok K) (hl40 : K.length ≤ 40) (he : ∀ e ∈ es, e.1 ∈ K.map (·.1) ∧ eOk e ∧ dget tb (.inr e.1) = some (tabD K e.1)) :
    RF m_table_of [.sh (.lst (es.map encE)), .dK tb] fun r fin => r = .lst ((tabF (fT K (1, PM.inn es) es) (1 + mxl K es)).map encP) ∧ fin = [some (.sh (.lst (es.map encE))), some (.dK tb)] := by
  refine RF_def rfl (by walk_at "nrm") ?_
  repeat walk_at "vs"
  refine R1_of _ (opNe_ents fun e h => (he e h).2.1) ?_
  repeat walk_at "vs"
  refine RL_inv (fun done δ => ∃ (t : List Pr) (j3 j4 j5 j6 j7 : Option O), δ = [some (.sh (.lst (es.map encE))), some (.dK tb), some (.lst (t.map encP)), j3, j4, j5, j6, j7] ∧ t = tabF (fT K (1, PM.inn es) done) (1 + mxl K done))
    ⟨[(1, PM.inn es)], _, _, _, _, _, rfl, rfl⟩ ?_ ?_
  · rintro done x rest δ hl ⟨t, j3, j4, j5, j6, j7, rfl, ht⟩
    have hx : x ∈ es := by rw [hl]; simp
    have hd : OkE K done := fun e h => by
      have q := he e (by rw [hl]; simp [h])
      exact ⟨q.1, q.2.1.2.1⟩
    have hxl := lev_le hK (he x hx).1
    have hml : mxl K done ≤ 40 := by
      unfold mxl
      have key : ∀ {l : List Nat}, (∀ y ∈ l, y ≤ 40) → maxL l ≤ 40 := by
        intro l
        induction l with
        | nil => intro _; exact Nat.zero_le _
        | cons a l ih =>
          intro q
          simp only [maxL]
          have := q a (by simp)
          have := ih fun x hx => q x (by simp [hx])
          omega
      refine key fun y hy => ?_
      obtain ⟨e, he', rfl⟩ := List.mem_map.mp hy
      have := lev_le hK (hd e he').1
      omega
    refine ⟨_, by unfold encE; walk_at "gt", ?_⟩
    repeat walk_at "vs"
    refine R1_of _ (opIx_dk (he x hx).2.2) ?_
    repeat walk_at "vs"
    refine RL_enum (l := tabF (pr K x.1) (lev K x.1)) (enc := encP) (fun done2 δ => ∃ (t : List Pr) (j5 j6 j7 : Option O), δ = [some (.sh (.lst (es.map encE))), some (.dK tb), some (.lst (t.map encP)), some (.sh (.str x.1)), some (.sh (.int x.2)), j5, j6, j7] ∧ t = tabF (fun d => if d ≤ done2.length then fT K (1, PM.inn es) (done ++ [x]) d else fT K (1, PM.inn es) done d) (max (1 + mxl K done) (done2.length + 1)))
      ⟨t, _, _, _, rfl, ?_⟩ ?_ ?_
    · have e1 : tabF (fun d => if d ≤ ([] : List Pr).length then fT K (1, PM.inn es) (done ++ [x]) d else fT K (1, PM.inn es) done d) (max (1 + mxl K done) (([] : List Pr).length + 1)) = tabF (fT K (1, PM.inn es) done) (1 + mxl K done) := by
        rw [show max (1 + mxl K done) (([] : List Pr).length + 1) = 1 + mxl K done by simp]
        refine tabF_congr fun i _ => ?_
        cases i with
        | zero => simp [fT]
        | succ i => simp
      rw [e1, ht]
    · rintro d2 y r2 δ hl2 ⟨t, j5, j6, j7, rfl, rfl⟩
      have hd2 : d2.length < lev K x.1 := by have := congrArg List.length hl2; rw [tabF_len] at this; simp at this; omega
      have hy : y = pr K x.1 d2.length := by
        have q := tabF_get (f := pr K x.1) hd2
        rw [hl2] at q
        simpa using q
      subst hy
      refine ⟨_, by rw [show encP (pr K x.1 d2.length) = .tup [.int (pr K x.1 d2.length).1, .int (pr K x.1 d2.length).2] from rfl]; walk_at "gt", ?_⟩
      have hc := (he x hx).2.1.2
      unfold cntOk at hc
      have upd : ∀ L, tabF (fun j => if j = d2.length + 1 then ((if d2.length + 1 ≤ d2.length then fT K (1, PM.inn es) (done ++ [x]) (d2.length + 1) else fT K (1, PM.inn es) done (d2.length + 1)).1 + x.2 * (pr K x.1 d2.length).1, (if d2.length + 1 ≤ d2.length then fT K (1, PM.inn es) (done ++ [x]) (d2.length + 1) else fT K (1, PM.inn es) done (d2.length + 1)).2 + x.2 * (pr K x.1 d2.length).2)
          else if j ≤ d2.length then fT K (1, PM.inn es) (done ++ [x]) j else fT K (1, PM.inn es) done j) L = tabF (fun d => if d ≤ (d2 ++ [pr K x.1 d2.length]).length then fT K (1, PM.inn es) (done ++ [x]) d else fT K (1, PM.inn es) done d) L := fun L => by
        refine tabF_congr fun i _ => ?_
        rw [if_neg (show ¬ d2.length + 1 ≤ d2.length by omega)]
        by_cases e : i = d2.length + 1
        · rw [if_pos e, if_pos (by simp; omega), e]
          simp only [fT, pr, sumE_snoc]
        · rw [if_neg e]
          by_cases e2 : i ≤ d2.length
          · rw [if_pos e2, if_pos (by simp; omega)]
          · rw [if_neg e2, if_neg (by simp; omega)]
      repeat walk_at "vs"
      by_cases hlen : mxl K done ≤ d2.length
      · have hmx : max (1 + mxl K done) (d2.length + 1) = d2.length + 1 := by omega
        refine CB_yes (by rw [List.length_map, tabF_len, hmx]; simp [D.eqD]) ?_
        repeat walk_at "vs"
        refine ⟨_, mApp_ok (by rw [List.length_map, tabF_len]; omega), ?_⟩
        refine ⟨_, by walk_at "nrm", ?_⟩
        refine thenS_nx ?_
        have e : ((tabF (fun d => if d ≤ d2.length then fT K (1, PM.inn es) (done ++ [x]) d else fT K (1, PM.inn es) done d) (max (1 + mxl K done) (d2.length + 1))).map encP) ++ [D.tup [D.int 0, D.int 0]] = (tabF (fun d => if d ≤ d2.length then fT K (1, PM.inn es) (done ++ [x]) d else fT K (1, PM.inn es) done d) (d2.length + 1 + 1)).map encP := by
          rw [hmx, tabF_succ _ (d2.length + 1), List.map_append, if_neg (show ¬ d2.length + 1 ≤ d2.length by omega), fT_big hK hd hlen]
          rfl
        rw [e]
        refine tab_sub (n := d2.length) hc (by omega) ?_
        rw [upd]
        refine loopS_nx ⟨_, _, _, _, rfl, ?_⟩
        rw [show max (1 + mxl K done) ((d2 ++ [pr K x.1 d2.length]).length + 1) = d2.length + 1 + 1 by simp; omega]
      · have hmx : max (1 + mxl K done) (d2.length + 1) = 1 + mxl K done := by omega
        refine CB_no (by rw [List.length_map, tabF_len, hmx]; simp [D.eqD]; omega) ?_
        refine RS_nil (thenS_nx ?_)
        refine tab_sub (n := d2.length) hc (by omega) ?_
        rw [upd]
        refine loopS_nx ⟨_, _, _, _, rfl, ?_⟩
        rw [show max (1 + mxl K done) ((d2 ++ [pr K x.1 d2.length]).length + 1) = max (1 + mxl K done) (d2.length + 1) by simp; omega]
    · rintro δ ⟨t, j5, j6, j7, rfl, rfl⟩
      refine loopS_nx ⟨_, _, _, _, _, _, rfl, ?_⟩
      have e : tabF (fun d => if d ≤ (tabF (pr K x.1) (lev K x.1)).length then fT K (1, PM.inn es) (done ++ [x]) d else fT K (1, PM.inn es) done d) (max (1 + mxl K done) ((tabF (pr K x.1) (lev K x.1)).length + 1)) = tabF (fT K (1, PM.inn es) (done ++ [x])) (1 + mxl K (done ++ [x])) := by
        rw [tabF_len, mxl_snoc, show max (1 + mxl K done) (lev K x.1 + 1) = 1 + max (mxl K done) (lev K x.1) by omega]
        refine tabF_congr fun i _ => ?_
        by_cases e : i ≤ lev K x.1
        · rw [if_pos e]
        · rw [if_neg e]
          obtain ⟨j, rfl⟩ : ∃ j, i = j + 1 := ⟨i - 1, by omega⟩
          have z := pr_big hK (he x hx).1 (d := j) (by omega)
          simp only [pr, Prod.mk.injEq] at z
          simp only [fT, sumE_snoc, z.1, z.2, Int.mul_zero, Int.add_zero]
      exact e
  · rintro δ ⟨t, j3, j4, j5, j6, j7, rfl, rfl⟩
    repeat walk_at "vs"
    rfl
end Pg

namespace Pg
open PySem PySem.Spec L2 VS
local macro_rules | `(tactic| walk_at "gt") => `(tactic| (simp only [gT, gsCons, gN, gsNil, Option.bind_some, List.length_cons, List.length_nil, List.set_cons_zero, List.set_cons_succ, Nat.reduceAdd, if_true] <;> exact rfl))
local macro_rules | `(tactic| walk_at "nrm") => `(tactic| (simp only [List.set_cons_zero, List.set_cons_succ, List.map_cons, List.map_nil, List.length_cons, List.length_nil, List.replicate, List.cons_append, List.nil_append, Nat.reduceSub, selM, ins, O.fz, wipeD, savD, unwD, List.getElem?_cons_zero, List.getElem?_cons_succ, Option.join_some, Option.join_none] <;> exact rfl))
local macro_rules | `(tactic| walk_at "vs") => `(tactic| first
  | with_reducible refine RX_x2 ?_ | with_reducible refine RX_C ?_ | with_reducible refine RX_Vs rfl ?_ | with_reducible refine RX_Va rfl rfl ?_
  | with_reducible refine RV_sh _ ?_ | with_reducible refine RV_val _ ?_ | with_reducible refine RV_at _ rfl ?_
  | with_reducible refine RK_val _ ?_ | with_reducible refine RK_at _ rfl (by walk_at "nrm") ?_
  | with_reducible refine RS_seq ?_ | with_reducible refine thenS_nx ?_ | with_reducible refine thenS_rt ?_ | with_reducible refine loopS_nx ?_ | with_reducible refine loopS_rt ?_ | with_reducible refine loopS_ct ?_ | with_reducible refine loopS_bk ?_ | with_reducible refine thenS_bk ?_ | with_reducible refine thenS_ct ?_ | with_reducible refine endF_rt (by walk_at "nrm") ?_ | with_reducible refine endF_nx (by walk_at "nrm") ?_
  | with_reducible refine RS_set ?_ | with_reducible refine RS_ret ?_ | with_reducible refine RS_if ?_ | with_reducible refine RS_expr ?_ | with_reducible refine RS_sub ?_ | with_reducible refine RS_attr ?_ | with_reducible refine RS_nil ?_ | with_reducible refine RS_par ?_ | with_reducible refine RS_asg ?_
  | with_reducible refine RX_call ?_ | with_reducible refine RX_bi ?_ | with_reducible refine RX_x1 ?_ | with_reducible refine RX_tup ?_ | with_reducible refine RX_lst ?_
  | with_reducible refine RA_f ?_ | with_reducible refine RA_t ?_ | with_reducible refine RA_nil ?_ | with_reducible refine RB_cons ?_ | with_reducible refine RB_nil ?_
  | with_reducible refine RT_Y ?_ | with_reducible refine RT_tB ?_ | with_reducible refine RT_not ?_ | with_reducible refine RT_and ?_ | with_reducible refine RT_or ?_ | with_reducible refine RX_and ?_ | with_reducible refine RX_or ?_ | with_reducible refine RX_not ?_ | with_reducible refine RX_if ?_ | with_reducible refine RX_ch ?_
  | with_reducible refine CB_t ?_ | with_reducible refine CB_f ?_ | with_reducible refine CB_n ?_
  | with_reducible refine RX_mut rfl rfl ?_ | with_reducible refine RS_for ?_ | with_reducible refine RI_enmU ?_ | with_reducible refine RI_seq ?_ | with_reducible refine RI_rg1 ?_ | with_reducible refine RX_lc ?_ | with_reducible refine RX_dc ?_ | with_reducible refine RX_dK ?_ | with_reducible refine RX_sl ?_ | with_reducible refine RO_N ?_ | with_reducible refine RO_E ?_ | with_reducible refine RX_fld ?_ | with_reducible refine RX_meth ?_ | with_reducible refine RX_make ?_ | with_reducible refine RX_o2 ?_
  | with_reducible refine R1_of _ (opMod_int (by decide)) ?_ | with_reducible refine R1_of _ (opDiv_int (by decide)) ?_ | with_reducible refine R1_of _ (opMul_l (by first | decide | omega)) ?_ | with_reducible refine R1_of _ (opMul_r (by first | decide | omega)) ?_ | with_reducible refine R1_of _ (opPow_ok (by first | decide | omega)) ?_
  | refine R1_of _ rfl ?_
  | (fail_if_success (with_reducible refine RF_id ?_)); (fail_if_success (with_reducible refine RL_id ?_)); (fail_if_success (with_reducible refine inR_id ?_)); first | refine ⟨_, by walk_at "nrm", ?_⟩ | refine ⟨_, _, rfl, ?_⟩ | refine ⟨_, rfl, ?_⟩ | refine ⟨rfl, ?_⟩ | refine ⟨Nat.le_of_ble_eq_true rfl, ?_⟩ | refine ⟨_, _, rfl, rfl, ?_⟩)
def encK (t : Ty) : Key × D := (.inr t.1, .lst (t.2.map encE))
def planD (kinds : List Ty) (tops : List En) (tb : List (Key × D)) : D := .obj "Plan" [("kinds", .dK (kinds.map encK)), ("first_ones", .lst (tops.map encE)), ("tables", .dK tb)]
/-- the tables -/
def tbOf (kinds : List Ty) : List (Key × D) := kinds.reverse.map fun t => (.inr t.1, tabD kinds t.1)
def planV (kinds : List Ty) (tops : List En) : D := planD kinds tops (tbOf kinds)
theorem dget_tb {K done : List Ty} {s : Str} (h : s ∈ done.map (·.1)) : dget (done.map fun t : Ty => ((.inr t.1, tabD K t.1) : Key × D)) (.inr s) = some (tabD K s) := by
  induction done with
  | nil => simp at h
  | cons a l ih =>
    rw [List.map_cons, dget_cons]
    by_cases e : a.1 = s
    · rw [if_pos (by rw [e]), e]
    · rw [if_neg (fun z => e (Sum.inr.inj z))]
      refine ih ?_
      rcases List.mem_cons.mp h with h | h
      · exact absurd h.symm e
      · exact h
theorem tb_get {kinds : List Ty} {s : Str} (h : s ∈ kinds.map (·.1)) : dget (tbOf kinds) (.inr s) = some (tabD kinds s) := dget_tb (by simpa using h)
theorem ents_mem : ∀ {kinds : List Ty}, (kinds.map (·.1)).Nodup → ∀ {t : Ty}, t ∈ kinds → PM.ents kinds t.1 = t.2
  | k :: K, hn, t, h => by
    rw [List.map_cons, List.nodup_cons] at hn
    simp only [PM.ents]
    rcases List.mem_cons.mp h with rfl | h
    · rw [if_pos rfl]
    · rw [if_neg fun e => hn.1 (by rw [e]; exact List.mem_map_of_mem h)]
      exact ents_mem hn.2 h
theorem tables_ok {kinds : List Ty} {tops : List En} (h : PP kinds tops) : RF m_all_tables [.sh (.lst (kinds.map encT))] fun r fin => r = .dK (tbOf kinds) ∧ fin = [some (.sh (.lst (kinds.map encT)))] := by
  have hK := h.ok
  refine RF_def rfl (by walk_at "nrm") ?_
  repeat walk_at "vs"
  rw [← List.map_reverse]
  refine RL_inv (fun done δ => ∃ (j2 j3 : Option O), δ = [some (.sh (.lst (kinds.map encT))), some (.dK (done.map fun t : Ty => (.inr t.1, tabD kinds t.1))), j2, j3]) ⟨none, none, rfl⟩ ?_ ?_
  · rintro done x rest δ hl ⟨j2, j3, rfl⟩
    have hx : x ∈ kinds := by have : x ∈ kinds.reverse := by rw [hl]; simp
                              simpa using this
    have hdl : done.length < 40 := by have a1 := congrArg List.length hl; have a2 := h.l2; simp at a1; omega
    refine ⟨_, by rw [show encT x = .tup [.str x.1, .lst (x.2.map encE)] from rfl]; walk_at "gt", ?_⟩
    have hks : kinds = rest.reverse ++ x :: done.reverse := by
      have := congrArg List.reverse hl
      simpa using this
    have hxi : kinds[rest.length]? = some x := by
      rw [hks, List.getElem?_append_right (by simp)]
      simp
    have hent : ∀ e ∈ x.2, e.1 ∈ done.map (·.1) := fun e he => by
      have q := h.ent _ x hxi e he
      have e2 : kinds = (rest.reverse ++ [x]) ++ done.reverse := by rw [hks]; simp
      rw [e2, List.map_append, List.drop_left' (by simp)] at q
      simpa using q
    have hsub : ∀ s, s ∈ done.map (·.1) → s ∈ kinds.map (·.1) := fun s hs => by rw [hks]; simp at hs ⊢; exact .inr (.inr hs)
    have hnew : (Sum.inr x.1 : Key) ∉ (done.map fun t : Ty => ((.inr t.1, tabD kinds t.1) : Key × D)).map (·.1) := by
      have q := h.nd
      rw [hks, List.map_append, List.map_cons] at q
      have q2 := (List.nodup_cons.mp (List.nodup_append.mp q).2.1).1
      intro hm
      simp only [List.map_map, List.mem_map, Function.comp] at hm
      obtain ⟨t, ht, e⟩ := hm
      exact q2 (by rw [← Sum.inr.inj e]; simp; exact ⟨t.2, ht⟩)
    repeat walk_at "vs"
    refine RF.mono (table_ok hK h.l2 fun e he => ⟨hsub _ (hent e he), (h.tk x hx).2.2 e he, dget_tb (hent e he)⟩) ?_
    rintro r fin ⟨rfl, rfl⟩
    repeat walk_at "vs"
    have hz : (done.map fun t : Ty => ((.inr t.1, tabD kinds t.1) : Key × D)).length < sizeLine := by
      rw [List.length_map]
      exact Nat.lt_of_lt_of_le (show done.length < 41 by omega) (sl_le (by decide))
    refine ⟨_, by simp only [putD, keyOf, hz, if_true, Option.map_some]; exact rfl, ?_⟩
    repeat walk_at "vs"
    rw [dput_new hnew]
    have hxm : x.1 ∈ kinds.map (·.1) := List.mem_map_of_mem hx
    have e1 := ents_mem h.nd hx
    have e2 := PM.fT_ents hK hxm
    have e3 := PM.lev_eq hK hxm
    rw [e1] at e2 e3
    have e4 : (O.lst (List.map encP (PM.tabF (PM.fT kinds (1, PM.inn x.2) x.2) (1 + PM.mxl kinds x.2)))).fz = tabD kinds x.1 := by
      unfold tabD
      rw [← e2, e3]
      rfl
    refine ⟨some (.sh (.str x.1)), some (.sh (.lst (x.2.map encE))), ?_⟩
    show [_, some (O.dK (List.map (fun t : Ty => ((.inr t.1, tabD kinds t.1) : Key × D)) done ++ [((.inr x.1, (O.lst (List.map encP (PM.tabF (PM.fT kinds (1, PM.inn x.2) x.2) (1 + PM.mxl kinds x.2)))).fz) : Key × D)])), _, _] = _
    rw [e4, List.map_append]
    rfl
  · rintro δ ⟨j2, j3, rfl⟩
    repeat walk_at "vs"
    rfl
theorem init_ok {kinds : List Ty} {tops : List En} (h : PP kinds tops) {o : O} (ho : o = .lst (tops.map encE) ∨ o = .sh (.lst (tops.map encE))) :
    RF m_Plan___init__ [.obj "Plan" [], .sh (.lst (kinds.map encT)), o] fun r fin => r = .sh .non ∧ ∃ self rest, fin = some self :: rest ∧ rest.length = 2 ∧ self.fz = planV kinds tops := by
  have hkk : (kinds.map fun t : Ty => (Sum.inr t.1 : Key)).Nodup := by
    have := h.nd
    rw [List.Nodup, List.pairwise_map] at this ⊢
    exact this.imp fun {a b} q e => q (Sum.inr.inj e)
  rcases ho with rfl | rfl <;>
  · refine RF_def rfl (by walk_at "nrm") ?_
    repeat walk_at "vs"
    refine RF.mono (check_types_ok h) ?_
    rintro r fin ⟨rfl, rfl⟩
    repeat walk_at "vs"
    refine ⟨by rw [List.length_map]; exact sl_le (by have := h.l2; omega), ?_⟩
    refine RC_map (g := fun t : Ty => D.str t.1) (fun t ht => ?_) ?_
    · refine ⟨_, by rw [show encT t = .tup [.str t.1, .lst (t.2.map encE)] from rfl]; walk_at "gt", ?_⟩
      repeat walk_at "vs"
      walk_at "nrm"
    rw [show (kinds.map fun t : Ty => D.str t.1) = (kinds.map (·.1)).map D.str by rw [List.map_map]; rfl]
    repeat walk_at "vs"
    refine RF.mono (check_roots_ok h (by first | exact .inl rfl | exact .inr rfl)) ?_
    rintro r fin ⟨rfl, j, rfl⟩
    repeat walk_at "vs"
    refine ⟨by rw [List.length_map]; exact sl_le (by have := h.l2; omega), _, _, dc_new (key := fun t : Ty => .inr t.1) (g := fun t : Ty => .lst (t.2.map encE)) hkk (fun t ht => ?_), ?_⟩
    · refine ⟨_, by rw [show encT t = .tup [.str t.1, .lst (t.2.map encE)] from rfl]; walk_at "gt", ?_⟩
      repeat walk_at "vs"
      first | exact ⟨rfl, rfl, by walk_at "nrm"⟩ | exact ⟨rfl, by walk_at "nrm"⟩ | walk_at "nrm"
    repeat walk_at "vs"
    refine RF.mono (tables_ok h) ?_
    rintro r fin ⟨rfl, rfl⟩
    repeat walk_at "vs"
    first | exact ⟨_, _, rfl, rfl, rfl⟩ | rfl

theorem root_ok {kinds : List Ty} {tops : List En} {tb : List (Key × D)} : RF m_Plan_root_entries [.sh (planD kinds tops tb)] fun r fin => r = .lst (tops.map encE) ∧ fin = [some (.sh (planD kinds tops tb))] := by
  refine RF_def rfl (by walk_at "nrm") ?_
  repeat walk_at "vs"
  rfl
theorem items_enc (kinds : List Ty) : Vw.items.of (kinds.map encK) = kinds.map encT := by
  simp only [Vw.of, List.map_map]
  rfl
theorem listed_ok {kinds : List Ty} (h : kinds.length ≤ 40) : RF m_listed [.sh (.dK (kinds.map encK))] fun r fin => r = .lst (kinds.map encT) ∧ fin = [some (.sh (.dK (kinds.map encK)))] := by
  refine RF_def rfl (by walk_at "nrm") ?_
  refine RS_ret (RX_lcI (ks := kinds.map encK) (δ1 := [some (.sh (.dK (kinds.map encK))), none, none]) rfl ?_)
  rw [items_enc]
  refine ⟨by rw [List.length_map]; exact sl_le (by omega), ?_⟩
  refine RC_map (g := encT) (fun t ht => ?_) ?_
  · refine ⟨_, by rw [show encT t = .tup [.str t.1, .lst (t.2.map encE)] from rfl]; walk_at "gt", ?_⟩
    repeat walk_at "vs"
    first | exact ⟨rfl, by walk_at "nrm"⟩ | walk_at "nrm"
  repeat walk_at "vs"
  rfl
theorem tlist_ok {kinds : List Ty} {tops : List En} {tb : List (Key × D)} (h : kinds.length ≤ 40) : RF m_Plan_type_list [.sh (planD kinds tops tb)] fun r fin => r = .lst (kinds.map encT) ∧ fin = [some (.sh (planD kinds tops tb))] := by
  refine RF_def rfl (by walk_at "nrm") ?_
  refine RS_ret (RX_call (RA_f (RX_fld (RX_Vs rfl ⟨_, rfl, _, rfl, RK_val _ (RA_nil ⟨_, _, rfl, ?_⟩)⟩))))
  refine RF.mono (listed_ok h) ?_
  rintro r fin ⟨rfl, rfl⟩
  repeat walk_at "vs"
  rfl
theorem parts_ok {kinds : List Ty} {tops : List En} {tb : List (Key × D)} (h : kinds.length ≤ 40) : RF m_Plan_parts [.sh (planD kinds tops tb)] fun r fin => r = .sh (.tup [.lst (kinds.map encT), .lst (tops.map encE)]) ∧ fin = [some (.sh (planD kinds tops tb))] := by
  refine RF_def rfl (by walk_at "nrm") ?_
  refine RS_ret (RX_tup (RB_cons (RX_meth (RX_Vs rfl ⟨_, rfl, rfl, RA_nil ⟨_, _, rfl, ?_⟩⟩))))
  refine RF.mono (tlist_ok h) ?_
  rintro r fin ⟨rfl, rfl⟩
  repeat walk_at "vs"
  rfl
theorem okE_parts {kinds : List Ty} {tops : List En} (h : PP kinds tops) : (D.tup [.lst (kinds.map encT), .lst (tops.map encE)]).okE 30 = true := by
  have e1 : ∀ n, ∀ e : En, eOk e → (encE e).okE (n + 1) = true := fun n e he => by simp only [encE, D.okE, D.okL, he.1.2, Bool.and_self]
  have h1 : D.okL 28 (kinds.map encT) = true := okL_map fun t ht => by
    simp only [encT, D.okE, D.okL, (h.tk t ht).1.2, Bool.and_true, Bool.true_and]
    exact okL_map fun e he => e1 _ e ((h.tk t ht).2.2 e he)
  have h2 : D.okL 28 (tops.map encE) = true := okL_map fun e he => e1 _ e (h.te e he).2
  simp only [D.okE, D.okL, h1, h2, Bool.and_self]
theorem eq_ok {kinds : List Ty} {tops : List En} {tb tb' : List (Key × D)} (h : PP kinds tops) : RF m_Plan___eq__ [.sh (planD kinds tops tb), .sh (planD kinds tops tb')] fun r fin => r = .sh (.bl true) ∧ fin.length = 2 := by
  refine RF_def rfl (by walk_at "nrm") ?_
  refine RS_ret (RX_and (RT_tB (RX_x1 (RX_Vs rfl (RV_sh _ (R1_of (o := .sh (.bl true)) _ rfl ⟨_, rfl, CB_t ?_⟩))))))
  refine RX_x2 (RX_meth (RX_Vs rfl ⟨_, rfl, rfl, RA_nil ⟨_, _, rfl, ?_⟩⟩))
  refine RF.mono (parts_ok h.l2) ?_
  rintro r fin ⟨rfl, rfl⟩
  refine ⟨rfl, RX_meth (RX_Vs rfl ⟨_, rfl, rfl, RA_nil ⟨_, _, rfl, ?_⟩⟩)⟩
  refine RF.mono (parts_ok h.l2) ?_
  rintro r fin ⟨rfl, rfl⟩
  refine ⟨rfl, RV_sh _ (RV_sh _ (R1_of (o := .sh (.bl true)) _ ?_ ?_))⟩
  · unfold opEq
    rw [deq_refl (okE_parts h)]
    rfl
  repeat walk_at "vs"
  rfl
theorem dget_enc {kinds : List Ty} (hnd : (kinds.map (·.1)).Nodup) {t : Ty} (ht : t ∈ kinds) : dget (kinds.map encK) (.inr t.1) = some (.lst (t.2.map encE)) := by
  induction kinds with
  | nil => cases ht
  | cons a l ih =>
    rw [List.map_cons, show encK a = (.inr a.1, .lst (a.2.map encE)) from rfl, dget_cons]
    rw [List.map_cons, List.nodup_cons] at hnd
    rcases List.mem_cons.mp ht with e | ht
    · subst e
      simp
    · have : ¬ a.1 = t.1 := fun e => hnd.1 (by rw [e]; exact List.mem_map_of_mem ht)
      rw [if_neg (by simpa using this)]
      exact ih hnd.2 ht
theorem opDG_enc {kinds : List Ty} {s : Str} : opDG (.dK (kinds.map encK)) (.str s) = some (dget (kinds.map encK) (.inr s)) := rfl
theorem contains_ok {kinds : List Ty} {tops : List En} {tb : List (Key × D)} (hn : (kinds.map (·.1)).Nodup) {s : Str} (hs : s ∈ kinds.map (·.1)) :
    RF m_Plan___contains__ [.sh (planD kinds tops tb), .sh (.str s)] fun r fin => r = .sh (.bl true) ∧ fin.length = 2 := by
  obtain ⟨t, ht, rfl⟩ := List.mem_map.mp hs
  refine RF_def rfl (by walk_at "nrm") ?_
  refine RS_ret (RX_and (RT_tB (RX_x1 (RX_Vs rfl (RV_sh _ (R1_of (o := .sh (.bl true)) _ rfl ⟨_, rfl, CB_t ?_⟩))))))
  refine RX_x2 (RX_Vs rfl (RX_fld (RX_Vs rfl ⟨_, rfl, _, rfl, RV_sh _ (RV_sh _ (R1_of (o := .sh (.bl true)) _ ?_ ?_))⟩)))
  · show ((opDG (.dK (kinds.map encK)) (.str t.1)).map Option.isSome).map _ = _
    rw [opDG_enc, dget_enc hn ht]
    rfl
  repeat walk_at "vs"
  rfl
theorem check_name_ok {kinds : List Ty} {tops : List En} {tb : List (Key × D)} (hn : (kinds.map (·.1)).Nodup) {s : Str} (hs : s ∈ kinds.map (·.1)) :
    RF m_Plan_check_name [.sh (planD kinds tops tb), .sh (.str s)] fun r fin => r = .sh .non ∧ fin = [some (.sh (planD kinds tops tb)), some (.sh (.str s))] := by
  refine RF_def rfl (by walk_at "nrm") ?_
  refine RS_if (RT_tB (RX_o2 (RX_Vs rfl (RK_val _ (RX_Vs rfl (RK_val _ ⟨rfl, rfl, ?_⟩))))))
  refine RF.mono (contains_ok hn hs) ?_
  rintro r fin ⟨rfl, hl⟩
  refine ⟨hl, R1_of (o := .sh (.bl false)) _ rfl ⟨_, rfl, CB_f ?_⟩⟩
  repeat walk_at "vs"
  rfl
theorem entries_ok {kinds : List Ty} {tops : List En} {tb : List (Key × D)} (hn : (kinds.map (·.1)).Nodup) {s : Str} (hs : s ∈ kinds.map (·.1)) :
    RF m_Plan_entries_of [.sh (planD kinds tops tb), .sh (.str s)] fun r fin => r = .lst ((PM.ents kinds s).map encE) ∧ fin = [some (.sh (planD kinds tops tb)), some (.sh (.str s))] := by
  obtain ⟨t, ht, rfl⟩ := List.mem_map.mp hs
  rw [ents_mem hn ht]
  refine RF_def rfl (by walk_at "nrm") ?_
  refine RS_seq (RS_expr (RX_meth (RX_Vs rfl ⟨_, rfl, rfl, RA_t (RX_Vs rfl (RA_nil ⟨_, _, rfl, ?_⟩))⟩)))
  refine RF.mono (check_name_ok hn hs) ?_
  rintro r fin ⟨rfl, rfl⟩
  refine ⟨rfl, thenS_nx (RS_ret (RX_bi (RA_t (RX_x2 (RX_fld (RX_Vs rfl ⟨_, rfl, _, rfl, RX_Vs rfl (RV_sh _ (RV_sh _ (R1_of _ (opIx_dk (dget_enc hn ht)) ?_)))⟩))))))⟩
  repeat walk_at "vs"
  rfl
theorem getitem_ok {kinds : List Ty} {tops : List En} {tb : List (Key × D)} (hn : (kinds.map (·.1)).Nodup) {s : Str} (hs : s ∈ kinds.map (·.1)) :
    RF m_Plan___getitem__ [.sh (planD kinds tops tb), .sh (.str s)] fun r fin => r = .lst ((PM.ents kinds s).map encE) ∧ fin.length = 2 := by
  refine RF_def rfl (by walk_at "nrm") ?_
  refine RS_ret (RX_meth (RX_Vs rfl ⟨_, rfl, rfl, RA_t (RX_Vs rfl (RA_nil ⟨_, _, rfl, ?_⟩))⟩))
  refine RF.mono (entries_ok hn hs) ?_
  rintro r fin ⟨rfl, rfl⟩
  repeat walk_at "vs"
  rfl
end Pg

namespace Pg
open PySem PySem.Spec L2 VS
local macro_rules | `(tactic| walk_at "gt") => `(tactic| (simp only [gT, gsCons, gN, gsNil, Option.bind_some, List.length_cons, List.length_nil, List.set_cons_zero, List.set_cons_succ, Nat.reduceAdd, if_true] <;> exact rfl))
local macro_rules | `(tactic| walk_at "nrm") => `(tactic| (simp only [List.set_cons_zero, List.set_cons_succ, List.map_cons, List.map_nil, List.length_cons, List.length_nil, List.replicate, List.cons_append, List.nil_append, Nat.reduceSub, selM, ins, O.fz, wipeD, savD, unwD, List.getElem?_cons_zero, List.getElem?_cons_succ, Option.join_some, Option.join_none] <;> exact rfl))
local macro_rules | `(tactic| walk_at "vs") => `(tactic| first
  | with_reducible refine RX_x2 ?_ | with_reducible refine RX_C ?_ | with_reducible refine RX_Vs rfl ?_ | with_reducible refine RX_Va rfl rfl ?_
  | with_reducible refine RV_sh _ ?_ | with_reducible refine RV_val _ ?_ | with_reducible refine RV_at _ rfl ?_
  | with_reducible refine RK_val _ ?_ | with_reducible refine RK_at _ rfl (by walk_at "nrm") ?_
  | with_reducible refine RS_seq ?_ | with_reducible refine thenS_nx ?_ | with_reducible refine thenS_rt ?_ | with_reducible refine loopS_nx ?_ | with_reducible refine loopS_rt ?_ | with_reducible refine loopS_ct ?_ | with_reducible refine loopS_bk ?_ | with_reducible refine thenS_bk ?_ | with_reducible refine thenS_ct ?_ | with_reducible refine endF_rt (by walk_at "nrm") ?_ | with_reducible refine endF_nx (by walk_at "nrm") ?_
  | with_reducible refine RS_set ?_ | with_reducible refine RS_ret ?_ | with_reducible refine RS_if ?_ | with_reducible refine RS_expr ?_ | with_reducible refine RS_sub ?_ | with_reducible refine RS_attr ?_ | with_reducible refine RS_nil ?_ | with_reducible refine RS_par ?_ | with_reducible refine RS_asg ?_
  | with_reducible refine RX_call ?_ | with_reducible refine RX_bi ?_ | with_reducible refine RX_x1 ?_ | with_reducible refine RX_tup ?_ | with_reducible refine RX_lst ?_
  | with_reducible refine RA_f ?_ | with_reducible refine RA_t ?_ | with_reducible refine RA_nil ?_ | with_reducible refine RB_cons ?_ | with_reducible refine RB_nil ?_
  | with_reducible refine RT_Y ?_ | with_reducible refine RT_tB ?_ | with_reducible refine RT_not ?_ | with_reducible refine RT_and ?_ | with_reducible refine RT_or ?_ | with_reducible refine RX_and ?_ | with_reducible refine RX_or ?_ | with_reducible refine RX_not ?_ | with_reducible refine RX_if ?_ | with_reducible refine RX_ch ?_
  | with_reducible refine CB_t ?_ | with_reducible refine CB_f ?_ | with_reducible refine CB_n ?_
  | with_reducible refine RX_mut rfl rfl ?_ | with_reducible refine RS_for ?_ | with_reducible refine RI_enmU ?_ | with_reducible refine RI_seq ?_ | with_reducible refine RI_rg1 ?_ | with_reducible refine RX_lc ?_ | with_reducible refine RX_dc ?_ | with_reducible refine RX_dK ?_ | with_reducible refine RX_sl ?_ | with_reducible refine RO_N ?_ | with_reducible refine RO_E ?_ | with_reducible refine RX_fld ?_ | with_reducible refine RX_meth ?_ | with_reducible refine RX_make ?_ | with_reducible refine RX_o2 ?_
  | with_reducible refine R1_of _ (opMod_int (by decide)) ?_ | with_reducible refine R1_of _ (opDiv_int (by decide)) ?_ | with_reducible refine R1_of _ (opMul_l (by first | decide | omega)) ?_ | with_reducible refine R1_of _ (opMul_r (by first | decide | omega)) ?_ | with_reducible refine R1_of _ (opPow_ok (by first | decide | omega)) ?_
  | refine R1_of _ rfl ?_
  | (fail_if_success (with_reducible refine RF_id ?_)); (fail_if_success (with_reducible refine RL_id ?_)); (fail_if_success (with_reducible refine inR_id ?_)); first | refine ⟨_, by walk_at "nrm", ?_⟩ | refine ⟨_, _, rfl, ?_⟩ | refine ⟨_, rfl, ?_⟩ | refine ⟨rfl, ?_⟩ | refine ⟨Nat.le_of_ble_eq_true rfl, ?_⟩ | refine ⟨_, _, rfl, rfl, ?_⟩)
/-! numbers -/
theorem intsOf_map {α : Type} (f : α → Int) : ∀ l : List α, intsOf (l.map fun x => D.int (f x)) = some (l.map f)
  | [] => rfl
  | a :: l => by simp only [List.map_cons, intsOf, intsOf_map f l, Option.map_some]
theorem sum_map_E (f : Str → Int) : ∀ es : List En, (es.map fun e => e.2 * f e.1).sum = PM.sumE f es
  | [] => rfl
  | e :: r => by simp only [List.map_cons, List.sum_cons, PM.sumE, sum_map_E f r]
theorem mSum_E (f : Str → Int) (es : List En) : mSum [.lst (es.map fun e => D.int (e.2 * f e.1))] = some (.sh (.int (PM.sumE f es))) := by
  show (intsOf (es.map fun e => D.int (e.2 * f e.1))).map _ = _
  rw [intsOf_map (fun e : En => e.2 * f e.1) es]
  simp only [Option.map_some, sum_map_E]
theorem sum_tab (f : Nat → Int) : ∀ n : Nat, ((List.range n).map f).sum = PM.sumN f n
  | 0 => rfl
  | n + 1 => by
    rw [List.range_succ, List.map_append, List.sum_append, sum_tab f n]
    simp [PM.sumN]
theorem opMul_cnt {i j : Int} (h : cntOk i) : opMul (.int i) (.int j) = some (.sh (.int (i * j))) := opMul_l (by have := h.1; have := h.2; omega)
theorem height_ok {kinds : List Ty} {tops : List En} (hK : PM.Ok kinds) (hn : (kinds.map (·.1)).Nodup) {s : Str} (hs : s ∈ kinds.map (·.1)) :
    RF m_Plan_height_of [.sh (planV kinds tops), .sh (.str s)] fun r fin => r = .sh (.int ((PM.lev kinds s : Int) - 1)) ∧ fin = [some (.sh (planV kinds tops)), some (.sh (.str s))] := by
  refine RF_def rfl (by walk_at "nrm") ?_
  refine RS_seq (RS_expr (RX_meth (RX_Vs rfl ⟨_, rfl, rfl, RA_t (RX_Vs rfl (RA_nil ⟨_, _, rfl, ?_⟩))⟩)))
  refine RF.mono (check_name_ok hn hs) ?_
  rintro r fin ⟨rfl, rfl⟩
  refine ⟨rfl, thenS_nx (RS_ret (RX_x2 (RX_bi (RA_t (RX_x2 (RX_fld (RX_Vs rfl ⟨_, rfl, _, rfl, RX_Vs rfl (RV_sh _ (RV_sh _ (R1_of _ (opIx_dk (tb_get hs)) ?_)))⟩)))))))⟩
  unfold tabD
  repeat walk_at "vs"
  rw [List.length_map, PM.tabF_len]
  exact ⟨rfl, rfl⟩
/-- a number of levels -/
def levs (kinds : List Ty) (rows : List En) : Nat := PM.mxl kinds rows
theorem foldl_maxI : ∀ (ns : List Nat) (a : Nat), (ns.map (Nat.cast : Nat → Int)).foldl (fun a b => if a < b then b else a) (a : Int) = ((max a (PM.maxL ns) : Nat) : Int)
  | [], a => by simp [PM.maxL]
  | n :: ns, a => by
    simp only [List.map_cons, List.foldl_cons, PM.maxL]
    have : (if (a : Int) < (n : Int) then (n : Int) else (a : Int)) = ((max a n : Nat) : Int) := by split <;> omega
    rw [this, foldl_maxI ns]
    congr 1
    omega
theorem mMax_levs {kinds : List Ty} {rows : List En} : mMax [.lst ([D.int 0] ++ rows.map fun e => D.int (PM.lev kinds e.1 : Nat))] = some (.sh (.int (levs kinds rows : Nat))) := by
  show (intsOf (D.int 0 :: rows.map fun e => D.int (PM.lev kinds e.1 : Nat))).bind _ = _
  rw [intsOf, intsOf_map (fun e : En => (PM.lev kinds e.1 : Int)) rows]
  simp only [Option.map_some, Option.bind_some, maxI]
  have := foldl_maxI (rows.map fun e => PM.lev kinds e.1) 0
  rw [List.map_map] at this
  have e : ((fun e : En => ((PM.lev kinds e.1 : Nat) : Int))) = (Nat.cast : Nat → Int) ∘ fun e : En => PM.lev kinds e.1 := rfl
  rw [e]
  rw [show (0 : Int) = ((0 : Nat) : Int) from rfl, this]
  simp only [levs, PM.mxl, Nat.zero_max]
theorem level_count_ok {kinds : List Ty} {tops : List En} (ht : ∀ e ∈ tops, e.1 ∈ kinds.map (·.1)) (hl : tops.length ≤ 1000) :
    RF m_Plan_level_count [.sh (planV kinds tops)] fun r fin => r = .sh (.int (levs kinds tops : Nat)) ∧ fin = [some (.sh (planV kinds tops))] := by
  refine RF_def rfl (by walk_at "nrm") ?_
  refine RS_ret (RX_bi (RA_t ?_))
  refine RX_x2 (RX_lst (RB_cons (RX_C (RK_val _ (RB_nil ⟨Nat.le_of_ble_eq_true rfl, ?_⟩)))))
  refine RX_lc (RI_seq (RX_fld (RX_Vs rfl ⟨_, rfl, _, rfl, RK_val _ ⟨_, rfl, ?_⟩⟩)))
  refine ⟨by rw [List.length_map]; exact sl_le (by omega), ?_⟩
  refine RC_map (enc := encE) (g := fun e : En => D.int (PM.lev kinds e.1 : Nat)) (fun e he => ?_) ?_
  · refine ⟨_, by rw [show encE e = .tup [.str e.1, .int e.2] from rfl]; walk_at "gt", ?_⟩
    refine RT_Y ⟨rfl, ?_⟩
    refine RX_bi (RA_t (RX_x2 (RX_fld (RX_Vs rfl ⟨_, rfl, _, rfl, RX_Vs rfl (RV_sh _ (RV_sh _ (R1_of _ (opIx_dk (tb_get (ht e he))) ?_)))⟩))))
    unfold tabD
    repeat walk_at "vs"
    exact ⟨by rw [List.length_map, PM.tabF_len]; rfl, by walk_at "nrm"⟩
  refine RV_val _ (RV_val _ (R1_of (o := .lst ([D.int 0] ++ tops.map fun e => D.int (PM.lev kinds e.1 : Nat))) _ ?_ ?_))
  · simp only [O.fz, opAdd, List.length_append, List.length_map, List.map_cons, List.map_nil]
    rw [if_pos (sl_le (by simp; omega))]
  refine RA_nil ⟨_, rfl, R1_of _ mMax_levs ?_⟩
  repeat walk_at "vs"
  rfl
end Pg

namespace Pg
open PySem PySem.Spec L2 VS
local macro_rules | `(tactic| walk_at "gt") => `(tactic| (simp only [gT, gsCons, gN, gsNil, Option.bind_some, List.length_cons, List.length_nil, List.set_cons_zero, List.set_cons_succ, Nat.reduceAdd, if_true] <;> exact rfl))
local macro_rules | `(tactic| walk_at "nrm") => `(tactic| (simp only [List.set_cons_zero, List.set_cons_succ, List.map_cons, List.map_nil, List.length_cons, List.length_nil, List.replicate, List.cons_append, List.nil_append, Nat.reduceSub, selM, ins, O.fz, wipeD, savD, unwD, List.getElem?_cons_zero, List.getElem?_cons_succ, Option.join_some, Option.join_none] <;> exact rfl))
local macro_rules | `(tactic| walk_at "vs") => `(tactic| first
  | with_reducible refine RX_x2 ?_ | with_reducible refine RX_C ?_ | with_reducible refine RX_Vs rfl ?_ | with_reducible refine RX_Va rfl rfl ?_
  | with_reducible refine RV_sh _ ?_ | with_reducible refine RV_val _ ?_ | with_reducible refine RV_at _ rfl ?_
  | with_reducible refine RK_val _ ?_ | with_reducible refine RK_at _ rfl (by walk_at "nrm") ?_
  | with_reducible refine RS_seq ?_ | with_reducible refine thenS_nx ?_ | with_reducible refine thenS_rt ?_ | with_reducible refine loopS_nx ?_ | with_reducible refine loopS_rt ?_ | with_reducible refine loopS_ct ?_ | with_reducible refine loopS_bk ?_ | with_reducible refine thenS_bk ?_ | with_reducible refine thenS_ct ?_ | with_reducible refine endF_rt (by walk_at "nrm") ?_ | with_reducible refine endF_nx (by walk_at "nrm") ?_
  | with_reducible refine RS_set ?_ | with_reducible refine RS_ret ?_ | with_reducible refine RS_if ?_ | with_reducible refine RS_expr ?_ | with_reducible refine RS_sub ?_ | with_reducible refine RS_attr ?_ | with_reducible refine RS_nil ?_ | with_reducible refine RS_par ?_ | with_reducible refine RS_asg ?_
  | with_reducible refine RX_call ?_ | with_reducible refine RX_bi ?_ | with_reducible refine RX_x1 ?_ | with_reducible refine RX_tup ?_ | with_reducible refine RX_lst ?_
  | with_reducible refine RA_f ?_ | with_reducible refine RA_t ?_ | with_reducible refine RA_nil ?_ | with_reducible refine RB_cons ?_ | with_reducible refine RB_nil ?_
  | with_reducible refine RT_Y ?_ | with_reducible refine RT_tB ?_ | with_reducible refine RT_not ?_ | with_reducible refine RT_and ?_ | with_reducible refine RT_or ?_ | with_reducible refine RX_and ?_ | with_reducible refine RX_or ?_ | with_reducible refine RX_not ?_ | with_reducible refine RX_if ?_ | with_reducible refine RX_ch ?_
  | with_reducible refine CB_t ?_ | with_reducible refine CB_f ?_ | with_reducible refine CB_n ?_
  | with_reducible refine RX_mut rfl rfl ?_ | with_reducible refine RS_for ?_ | with_reducible refine RI_enmU ?_ | with_reducible refine RI_seq ?_ | with_reducible refine RI_rg1 ?_ | with_reducible refine RX_lc ?_ | with_reducible refine RX_dc ?_ | with_reducible refine RX_dK ?_ | with_reducible refine RX_sl ?_ | with_reducible refine RO_N ?_ | with_reducible refine RO_E ?_ | with_reducible refine RX_fld ?_ | with_reducible refine RX_meth ?_ | with_reducible refine RX_make ?_ | with_reducible refine RX_o2 ?_
  | with_reducible refine R1_of _ (opMod_int (by decide)) ?_ | with_reducible refine R1_of _ (opDiv_int (by decide)) ?_ | with_reducible refine R1_of _ (opMul_l (by first | decide | omega)) ?_ | with_reducible refine R1_of _ (opMul_r (by first | decide | omega)) ?_ | with_reducible refine R1_of _ (opPow_ok (by first | decide | omega)) ?_
  | refine R1_of _ rfl ?_
  | (fail_if_success (with_reducible refine RF_id ?_)); (fail_if_success (with_reducible refine RL_id ?_)); (fail_if_success (with_reducible refine inR_id ?_)); first | refine ⟨_, by walk_at "nrm", ?_⟩ | refine ⟨_, _, rfl, ?_⟩ | refine ⟨_, rfl, ?_⟩ | refine ⟨rfl, ?_⟩ | refine ⟨Nat.le_of_ble_eq_true rfl, ?_⟩ | refine ⟨_, _, rfl, rfl, ?_⟩)
theorem pair_at_ok {kinds : List Ty} {tops : List En} (hK : PM.Ok kinds) {s : Str} (hs : s ∈ kinds.map (·.1)) (d : Nat) :
    RF m_Plan_pair_at [.sh (planV kinds tops), .sh (.str s), .sh (.int d)] fun r fin => r = .sh (encP (PM.pr kinds s d)) ∧ fin = [some (.sh (planV kinds tops)), some (.sh (.str s)), some (.sh (.int d))] := by
  refine RF_def rfl (by walk_at "nrm") ?_
  refine RS_seq (RS_set (RX_x2 (RX_fld (RX_Vs rfl ⟨_, rfl, _, rfl, RX_Vs rfl (RV_sh _ (RV_sh _ (R1_of _ (opIx_dk (tb_get hs)) ?_)))⟩))))
  unfold tabD
  repeat walk_at "vs"
  by_cases h : d < PM.lev kinds s
  · refine CB_yes (by rw [List.length_map, PM.tabF_len]; simp; omega) ?_
    repeat walk_at "vs"
    refine R1_of _ (opIx_lst (atI_nat (x := encP (PM.pr kinds s d)) (by rw [List.getElem?_map, PM.tabF_get h]; rfl))) ?_
    repeat walk_at "vs"
    rfl
  · refine CB_no (by rw [List.length_map, PM.tabF_len]; simp; omega) ?_
    repeat walk_at "vs"
    exact ⟨by rw [PM.pr_big hK hs (by omega)]; rfl, rfl⟩
theorem least_ok {p : Str} {v lo : Int} (h : lo ≤ v) : RF m_check_least [.sh (.str p), .sh (.int v), .sh (.int lo)] fun r fin => r = .sh .non ∧ fin = [some (.sh (.str p)), some (.sh (.int v)), some (.sh (.int lo))] := by
  refine RF_def rfl (by walk_at "nrm") ?_
  refine RS_if (RT_or (RT_not (RT_tB (RX_call (RA_t (RX_Vs rfl (RA_nil ⟨_, _, rfl, ?_⟩)))))))
  refine RF.mono int_ok ?_
  rintro r fin ⟨rfl, rfl⟩
  repeat walk_at "vs"
  rw [decide_eq_false (show ¬ v < lo by omega)]
  repeat walk_at "vs"
  rfl
theorem encP0 (p : Pr) : opIx (encP p) (.int 0) = some (.sh (.int p.1)) := rfl
theorem encP1 (p : Pr) : opIx (encP p) (.int 1) = some (.sh (.int p.2)) := rfl
theorem descendants_ok {kinds : List Ty} {tops : List En} (hK : PM.Ok kinds) (hn : (kinds.map (·.1)).Nodup) {s : Str} (hs : s ∈ kinds.map (·.1)) (d : Nat) :
    RF m_Plan_descendants [.sh (planV kinds tops), .sh (.str s), .sh (.int d)] fun r fin => r = .sh (.int (PM.desc kinds s d)) ∧ fin = [some (.sh (planV kinds tops)), some (.sh (.str s)), some (.sh (.int d))] := by
  refine RF_def rfl (by walk_at "nrm") ?_
  refine RS_seq (RS_expr (RX_meth (RX_Vs rfl ⟨_, rfl, rfl, RA_t (RX_Vs rfl (RA_nil ⟨_, _, rfl, ?_⟩))⟩)))
  refine RF.mono (check_name_ok hn hs) ?_
  rintro r fin ⟨rfl, rfl⟩
  refine ⟨rfl, thenS_nx ?_⟩
  refine RS_seq (RS_expr (RX_call (RA_f (RX_C (RK_val _ (RA_t (RX_Vs rfl (RA_f (RX_C (RK_val _ (RA_nil ⟨_, _, rfl, ?_⟩))))))))))) 
  refine RF.mono (least_ok (by omega)) ?_
  rintro r fin ⟨rfl, rfl⟩
  refine ⟨rfl, thenS_nx ?_⟩
  refine RS_ret (RX_x2 (RX_meth (RX_Vs rfl ⟨_, rfl, rfl, RA_t (RX_Vs rfl (RA_t (RX_Vs rfl (RA_nil ⟨_, _, rfl, ?_⟩))))⟩)))
  refine RF.mono (pair_at_ok hK hs d) ?_
  rintro r fin ⟨rfl, rfl⟩
  refine ⟨rfl, RX_C (RV_sh _ (RV_sh _ (R1_of _ (encP0 _) ?_)))⟩
  repeat walk_at "vs"
  rfl
theorem idescendants_ok {kinds : List Ty} {tops : List En} (hK : PM.Ok kinds) (hn : (kinds.map (·.1)).Nodup) {s : Str} (hs : s ∈ kinds.map (·.1)) (d : Nat) :
    RF m_Plan_inner_descendants [.sh (planV kinds tops), .sh (.str s), .sh (.int d)] fun r fin => r = .sh (.int (PM.idesc kinds s d)) ∧ fin = [some (.sh (planV kinds tops)), some (.sh (.str s)), some (.sh (.int d))] := by
  refine RF_def rfl (by walk_at "nrm") ?_
  refine RS_seq (RS_expr (RX_meth (RX_Vs rfl ⟨_, rfl, rfl, RA_t (RX_Vs rfl (RA_nil ⟨_, _, rfl, ?_⟩))⟩)))
  refine RF.mono (check_name_ok hn hs) ?_
  rintro r fin ⟨rfl, rfl⟩
  refine ⟨rfl, thenS_nx ?_⟩
  refine RS_seq (RS_expr (RX_call (RA_f (RX_C (RK_val _ (RA_t (RX_Vs rfl (RA_f (RX_C (RK_val _ (RA_nil ⟨_, _, rfl, ?_⟩))))))))))) 
  refine RF.mono (least_ok (by omega)) ?_
  rintro r fin ⟨rfl, rfl⟩
  refine ⟨rfl, thenS_nx ?_⟩
  refine RS_ret (RX_x2 (RX_meth (RX_Vs rfl ⟨_, rfl, rfl, RA_t (RX_Vs rfl (RA_t (RX_Vs rfl (RA_nil ⟨_, _, rfl, ?_⟩))))⟩)))
  refine RF.mono (pair_at_ok hK hs d) ?_
  rintro r fin ⟨rfl, rfl⟩
  refine ⟨rfl, RX_C (RV_sh _ (RV_sh _ (R1_of _ (encP1 _) ?_)))⟩
  repeat walk_at "vs"
  rfl
theorem level_total_ok {kinds : List Ty} {tops : List En} (h : PP kinds tops) (d : Nat) :
    RF m_Plan_level_total [.sh (planV kinds tops), .sh (.int d)] fun r fin => r = .sh (.int (PM.sumE (fun c => PM.desc kinds c d) tops)) ∧ fin = [some (.sh (planV kinds tops)), some (.sh (.int d))] := by
  refine RF_def rfl (by walk_at "nrm") ?_
  refine RS_seq (RS_expr (RX_call (RA_f (RX_C (RK_val _ (RA_t (RX_Vs rfl (RA_f (RX_C (RK_val _ (RA_nil ⟨_, _, rfl, ?_⟩))))))))))) 
  refine RF.mono (least_ok (by omega)) ?_
  rintro r fin ⟨rfl, rfl⟩
  refine ⟨rfl, thenS_nx ?_⟩
  refine RS_ret (RX_bi (RA_t ?_))
  refine RX_lc (RI_seq (RX_fld (RX_Vs rfl ⟨_, rfl, _, rfl, RK_val _ ⟨_, rfl, ?_⟩⟩)))
  refine ⟨by rw [List.length_map]; exact sl_le (by have := h.tl; omega), ?_⟩
  refine RC_map (enc := encE) (g := fun e : En => D.int (e.2 * PM.desc kinds e.1 d)) (fun e he => ?_) ?_
  · refine ⟨_, by rw [show encE e = .tup [.str e.1, .int e.2] from rfl]; walk_at "gt", ?_⟩
    refine RT_Y ⟨rfl, ?_⟩
    refine RX_x2 (RX_Vs rfl (RX_x2 (RX_meth (RX_Vs rfl ⟨_, rfl, rfl, RA_t (RX_Vs rfl (RA_t (RX_Vs rfl (RA_nil ⟨_, _, rfl, ?_⟩))))⟩))))
    refine RF.mono (pair_at_ok h.ok (h.te e he).1 d) ?_
    rintro r fin ⟨rfl, rfl⟩
    refine ⟨rfl, RX_C (RV_sh _ (RV_sh _ (R1_of _ (encP0 _) (RV_sh _ (RV_sh _ (R1_of _ (opMul_cnt (h.te e he).2.2) (RK_val _ ⟨rfl, ?_⟩))))))) ⟩
    walk_at "nrm"
  refine RA_nil ⟨_, rfl, R1_of _ (mSum_E (fun c => PM.desc kinds c d) tops) ?_⟩
  repeat walk_at "vs"
  rfl
theorem tree_size_ok {kinds : List Ty} {tops : List En} (h : PP kinds tops) {s : Str} (hs : s ∈ kinds.map (·.1)) :
    RF m_Plan_tree_size [.sh (planV kinds tops), .sh (.str s)] fun r fin => r = .sh (.int (PM.size kinds s)) ∧ fin = [some (.sh (planV kinds tops)), some (.sh (.str s))] := by
  have hlv := PM.lev_le h.ok hs
  refine RF_def rfl (by walk_at "nrm") ?_
  refine RS_seq (RS_expr (RX_meth (RX_Vs rfl ⟨_, rfl, rfl, RA_t (RX_Vs rfl (RA_nil ⟨_, _, rfl, ?_⟩))⟩)))
  refine RF.mono (check_name_ok h.nd hs) ?_
  rintro r fin ⟨rfl, rfl⟩
  refine ⟨rfl, thenS_nx ?_⟩
  refine RS_ret (RX_bi (RA_t ?_))
  refine RX_lc (RI_seq (RX_x2 (RX_fld (RX_Vs rfl ⟨_, rfl, _, rfl, RX_Vs rfl (RV_sh _ (RV_sh _ (R1_of _ (opIx_dk (tb_get hs)) (RK_val _ ⟨_, rfl, ?_⟩))))⟩))))
  refine ⟨by rw [List.length_map, PM.tabF_len]; exact sl_le (by have := h.l2; omega), ?_⟩
  refine RC_map (enc := encP) (g := fun p : Pr => D.int p.1) (fun p hp => ?_) ?_
  · refine ⟨_, by rw [show encP p = .tup [.int p.1, .int p.2] from rfl]; walk_at "gt", ?_⟩
    repeat walk_at "vs"
    walk_at "nrm"
  have e1 : mSum [.lst ((PM.tabF (PM.pr kinds s) (PM.lev kinds s)).map fun p : Pr => D.int p.1)] = some (.sh (.int (PM.size kinds s))) := by
    show (intsOf ((PM.tabF (PM.pr kinds s) (PM.lev kinds s)).map fun p : Pr => D.int p.1)).map _ = _
    rw [intsOf_map (fun p : Pr => p.1), Option.map_some]
    unfold PM.tabF
    rw [List.map_map]
    have := sum_tab (PM.desc kinds s) (PM.lev kinds s)
    rw [PM.size_sum h.ok s _ hs (Nat.le_refl _)] at this
    rw [← this]
    rfl
  refine RA_nil ⟨_, rfl, R1_of _ e1 ?_⟩
  repeat walk_at "vs"
  rfl
theorem task_total_ok {kinds : List Ty} {tops : List En} (h : PP kinds tops) :
    RF m_Plan_task_total [.sh (planV kinds tops)] fun r fin => r = .sh (.int (PM.sumE (PM.size kinds) tops)) ∧ fin = [some (.sh (planV kinds tops))] := by
  refine RF_def rfl (by walk_at "nrm") ?_
  refine RS_ret (RX_bi (RA_t ?_))
  refine RX_lc (RI_seq (RX_fld (RX_Vs rfl ⟨_, rfl, _, rfl, RK_val _ ⟨_, rfl, ?_⟩⟩)))
  refine ⟨by rw [List.length_map]; exact sl_le (by have := h.tl; omega), ?_⟩
  refine RC_map (enc := encE) (g := fun e : En => D.int (e.2 * PM.size kinds e.1)) (fun e he => ?_) ?_
  · refine ⟨_, by rw [show encE e = .tup [.str e.1, .int e.2] from rfl]; walk_at "gt", ?_⟩
    refine RT_Y ⟨rfl, ?_⟩
    refine RX_x2 (RX_Vs rfl (RX_meth (RX_Vs rfl ⟨_, rfl, rfl, RA_t (RX_Vs rfl (RA_nil ⟨_, _, rfl, ?_⟩))⟩)))
    refine RF.mono (tree_size_ok h (h.te e he).1) ?_
    rintro r fin ⟨rfl, rfl⟩
    refine ⟨rfl, RV_sh _ (RV_sh _ (R1_of _ (opMul_cnt (h.te e he).2.2) (RK_val _ ⟨rfl, ?_⟩)))⟩
    walk_at "nrm"
  refine RA_nil ⟨_, rfl, R1_of _ (mSum_E (PM.size kinds) tops) ?_⟩
  repeat walk_at "vs"
  rfl
end Pg

namespace Pg
open PySem PySem.Spec L2 VS
theorem RF_id {F : FF} {os : List O} {P : O → DS → Prop} (h : RF F os P) : RF F os P := h
theorem RL_id {gt : GF} {body : SF} {ds : List D} {δ : DS} {P : Fl → Prop} (h : RL gt body ds δ P) : RL gt body ds δ P := h
theorem inR_id {j : Int} {A : Prop} (h : inR j = true ∧ A) : inR j = true ∧ A := h
theorem RS_whid {tc : TF} {body : SF} {δ : DS} {P : Fl → Prop} (h : RS (sWh tc body) δ P) : RS (sWh tc body) δ P := h
theorem RI_rg3 {fs : BF} {δ : DS} {P : List D → DS → Prop} (h : RB fs δ fun os δ1 => ∃ i j, os = [.sh (.int i), .sh (.int j), .sh (.int (-1))] ∧ inR i = true ∧ inR j = true ∧ P ((List.range (i - j).toNat).map fun (k : Nat) => D.int (i - (k : Int))) δ1) : RI (iRg3 fs) δ P := by
  obtain ⟨os, δ1, h1, i, j, rfl, h2, h3, p⟩ := h
  exact ⟨_, _, by simp [iRg3, h1, h2, h3], p⟩
local macro_rules | `(tactic| walk_at "gt") => `(tactic| (simp only [gT, gsCons, gN, gsNil, Option.bind_some, List.length_cons, List.length_nil, List.set_cons_zero, List.set_cons_succ, Nat.reduceAdd, if_true] <;> exact rfl))
local macro_rules | `(tactic| walk_at "nrm") => `(tactic| (simp only [List.set_cons_zero, List.set_cons_succ, List.map_cons, List.map_nil, List.length_cons, List.length_nil, List.replicate, List.cons_append, List.nil_append, Nat.reduceSub, selM, ins, O.fz, wipeD, savD, unwD, List.getElem?_cons_zero, List.getElem?_cons_succ, Option.join_some, Option.join_none] <;> exact rfl))
local macro_rules | `(tactic| walk_at "vw") => `(tactic| first
  | with_reducible refine RX_x2 ?_ | with_reducible refine RX_C ?_ | with_reducible refine RX_Vs rfl ?_ | with_reducible refine RX_Va rfl rfl ?_
  | with_reducible refine RV_sh _ ?_ | with_reducible refine RV_val _ ?_ | with_reducible refine RV_at _ rfl ?_
  | with_reducible refine RK_val _ ?_ | with_reducible refine RK_at _ rfl (by walk_at "nrm") ?_
  | with_reducible refine RS_seq ?_ | with_reducible refine thenS_nx ?_ | with_reducible refine thenS_rt ?_ | with_reducible refine loopS_nx ?_ | with_reducible refine loopS_rt ?_ | with_reducible refine loopS_ct ?_ | with_reducible refine loopS_bk ?_ | with_reducible refine thenS_bk ?_ | with_reducible refine thenS_ct ?_ | with_reducible refine endF_rt (by walk_at "nrm") ?_ | with_reducible refine endF_nx (by walk_at "nrm") ?_
  | with_reducible refine RS_set ?_ | with_reducible refine RS_ret ?_ | with_reducible refine RS_if ?_ | with_reducible refine RS_expr ?_ | with_reducible refine RS_sub ?_ | with_reducible refine RS_attr ?_ | with_reducible refine RS_nil ?_ | with_reducible refine RS_par ?_ | with_reducible refine RS_asg ?_
  | with_reducible refine RX_call ?_ | with_reducible refine RX_bi ?_ | with_reducible refine RX_x1 ?_ | with_reducible refine RX_tup ?_ | with_reducible refine RX_lst ?_
  | with_reducible refine RA_f ?_ | with_reducible refine RA_t ?_ | with_reducible refine RA_nil ?_ | with_reducible refine RB_cons ?_ | with_reducible refine RB_nil ?_
  | with_reducible refine RT_Y ?_ | with_reducible refine RT_tB ?_ | with_reducible refine RT_not ?_ | with_reducible refine RT_and ?_ | with_reducible refine RT_or ?_ | with_reducible refine RX_and ?_ | with_reducible refine RX_or ?_ | with_reducible refine RX_not ?_ | with_reducible refine RX_if ?_ | with_reducible refine RX_ch ?_
  | with_reducible refine CB_t ?_ | with_reducible refine CB_f ?_ | with_reducible refine CB_n ?_
  | with_reducible refine RX_mut rfl rfl ?_ | with_reducible refine RS_for ?_ | with_reducible refine RI_enmU ?_ | with_reducible refine RI_seq ?_ | with_reducible refine RI_rg1 ?_ | with_reducible refine RI_rg3 ?_ | with_reducible refine RX_lc ?_ | with_reducible refine RX_dc ?_ | with_reducible refine RX_dK ?_ | with_reducible refine RX_sl ?_ | with_reducible refine RO_N ?_ | with_reducible refine RO_E ?_ | with_reducible refine RX_fld ?_ | with_reducible refine RX_meth ?_ | with_reducible refine RX_make ?_ | with_reducible refine RX_o2 ?_
  | with_reducible refine R1_of _ (opMod_int (by decide)) ?_ | with_reducible refine R1_of _ (opDiv_int (by decide)) ?_ | with_reducible refine R1_of _ (opMul_l (by first | decide | omega)) ?_ | with_reducible refine R1_of _ (opMul_r (by first | decide | omega)) ?_ | with_reducible refine R1_of _ (opPow_ok (by first | decide | omega)) ?_
  | refine R1_of _ rfl ?_
  | (fail_if_success (with_reducible refine RF_id ?_)); (fail_if_success (with_reducible refine RL_id ?_)); (fail_if_success (with_reducible refine RS_whid ?_)); (fail_if_success (with_reducible refine inR_id ?_)); first | refine ⟨_, by walk_at "nrm", ?_⟩ | refine ⟨_, _, rfl, ?_⟩ | refine ⟨_, rfl, ?_⟩ | refine ⟨rfl, ?_⟩ | refine ⟨Nat.le_of_ble_eq_true rfl, ?_⟩ | refine ⟨_, _, rfl, rfl, ?_⟩)
/-! ### paths as data -/
def encS (p : Nat × Int) : D := .tup [.int (p.1 : Nat), .int p.2]
def encA (q : PM.Pa) : D := .tup (q.map encS)
def kdD : Option Str → D
  | none => .non
  | some s => .str s
theorem step_ok {rows : List En} {p : Nat} {i : Int} {e : En} (he : rows[p]? = some e) (h0 : 0 ≤ i) (h1 : i < e.2) :
    RF m_is_step [.sh (encS (p, i)), .lst (rows.map encE)] fun r fin => r = .sh (.bl true) ∧ fin = [some (.sh (encS (p, i))), some (.lst (rows.map encE))] := by
  have hp := (List.getElem?_eq_some_iff.mp he).1
  have ha : atI (rows.map encE) (p : Int) = some (encE e) := atI_nat (by rw [List.getElem?_map, he]; rfl)
  unfold encS
  refine RF_def rfl (by walk_at "nrm") ?_
  repeat walk_at "vw"
  refine CB_yes (by simp [D.eqD]) ?_
  repeat walk_at "vw"
  refine RF.mono int_ok ?_
  rintro r fin ⟨rfl, rfl⟩
  repeat walk_at "vw"
  refine RF.mono int_ok ?_
  rintro r fin ⟨rfl, rfl⟩
  repeat walk_at "vw"
  refine CB_yes (by simp) ?_
  repeat walk_at "vw"
  rw [List.length_map, decide_eq_true (show (p : Int) < (rows.length : Int) by omega)]
  repeat walk_at "vw"
  refine CB_yes (by simp [h0]) ?_
  repeat walk_at "vw"
  refine R1_of _ (opIx_lst ha) ?_
  repeat walk_at "vw"
  exact ⟨congrArg (fun b => O.sh (D.bl b)) (decide_eq_true h1), rfl⟩
theorem kind_at_ok {kinds : List Ty} {tops : List En} (h : PP kinds tops) {q : PM.Pa} (hv : PM.Val kinds tops q) :
    RF m_kind_at [.sh (planV kinds tops), .sh (encA q)] fun r fin => r = .sh (kdD (PM.kindP kinds tops q)) ∧ fin = [some (.sh (planV kinds tops)), some (.sh (encA q))] := by
  refine RF_def rfl (by walk_at "nrm") ?_
  unfold encA
  repeat walk_at "vw"
  refine RF.mono root_ok ?_
  rintro r fin ⟨rfl, rfl⟩
  repeat walk_at "vw"
  refine RL_inv (enc := encS) (fun done δ => ∃ (kd : Option Str) (rows : List En) (j4 : Option O), δ = [some (.sh (planV kinds tops)), some (.sh (.tup (q.map encS))), some (.sh (kdD kd)), some (.lst (rows.map encE)), j4] ∧ kd = PM.kindP kinds tops done ∧ rows = PM.rowsP kinds tops done)
    ⟨none, tops, _, rfl, rfl, rfl⟩ ?_ ?_
  · rintro done x rest δ hl ⟨kd, rows, j4, rfl, hkd, hrw⟩
    obtain ⟨p, i⟩ := x
    rw [hl] at hv
    have hv1 := PM.val_app hv
    rw [← hrw] at hv1
    obtain ⟨hvd, e, he, h0, h1, _⟩ := hv1
    have ha : atI (rows.map encE) (p : Int) = some (encE e) := atI_nat (by rw [List.getElem?_map, he]; rfl)
    have hes : e.1 ∈ kinds.map (·.1) := by
      have := PM.rowsP_ok h.ok (a := done) h.okE
      rw [← hrw] at this
      exact (this e (PM.mem_at he)).1
    refine ⟨_, by walk_at "gt", ?_⟩
    repeat walk_at "vw"
    refine RF.mono (step_ok he h0 h1) ?_
    rintro r fin ⟨rfl, rfl⟩
    repeat walk_at "vw"
    refine R1_of _ (opIx_lst ha) ?_
    repeat walk_at "vw"
    refine RF.mono (entries_ok h.nd hes) ?_
    rintro r fin ⟨rfl, rfl⟩
    repeat walk_at "vw"
    refine ⟨some e.1, PM.ents kinds e.1, _, rfl, ?_, ?_⟩
    · rw [PM.kindP_snoc hvd (by rw [← hrw]; exact he)]
    · rw [PM.rowsP_snoc hvd (by rw [← hrw]; exact he)]
  · rintro δ ⟨kd, rows, j4, rfl, rfl, rfl⟩
    repeat walk_at "vw"
    rfl
theorem kind_some : ∀ {kinds : List Ty} {tops : List En} {q : PM.Pa}, q ≠ [] → PM.Val kinds tops q → ∃ s, PM.kindP kinds tops q = some s := by
  intro kinds tops q hq hv
  have e := List.dropLast_concat_getLast hq
  generalize q.dropLast = a at e
  generalize q.getLast hq = x at e
  subst e
  obtain ⟨p, i⟩ := x
  obtain ⟨h1, e, he, _⟩ := PM.val_app hv
  exact ⟨e.1, PM.kindP_snoc h1 he⟩
theorem type_of_ok {kinds : List Ty} {tops : List En} (h : PP kinds tops) {q : PM.Pa} (hq : q ≠ []) (hv : PM.Val kinds tops q) :
    RF m_type_of [.sh (planV kinds tops), .sh (encA q)] fun r fin => r = .sh (kdD (PM.kindP kinds tops q)) ∧ fin = [some (.sh (planV kinds tops)), some (.sh (encA q))] := by
  obtain ⟨s, hs⟩ := kind_some hq hv
  refine RF_def rfl (by walk_at "nrm") ?_
  repeat walk_at "vw"
  refine RF.mono (kind_at_ok h hv) ?_
  rintro r fin ⟨rfl, rfl⟩
  simp only [hs, kdD]
  repeat walk_at "vw"
  refine CB_no rfl ?_
  repeat walk_at "vw"
  rfl
def modeD (m : Bool) : D := .str (if m then "fifo" else "lifo")
theorem disc_ok (m : Bool) : RF m_check_discipline [.sh (modeD m)] fun r fin => r = .sh .non ∧ fin = [some (.sh (modeD m))] := by
  cases m <;> exact ⟨_, _, by kernel_rfl, rfl, rfl⟩
theorem parent_ok {kinds : List Ty} {tops : List En} (h : PP kinds tops) {q : PM.Pa} (hq : q ≠ []) (hl : q.length ≤ 1000) (hv : PM.Val kinds tops q) :
    RF m_parent_of [.sh (planV kinds tops), .sh (encA q)] fun r fin => r = .sh (if 1 < q.length then encA q.dropLast else .non) ∧ fin = [some (.sh (planV kinds tops)), some (.sh (encA q))] := by
  refine RF_def rfl (by walk_at "nrm") ?_
  repeat walk_at "vw"
  refine RF.mono (type_of_ok h hq hv) ?_
  rintro r fin ⟨rfl, rfl⟩
  unfold encA
  repeat walk_at "vw"
  by_cases hc : 1 < q.length
  · refine CB_yes (by rw [List.length_map]; simp; omega) ?_
    repeat walk_at "vw"
    rw [if_pos hc]
    refine ⟨?_, rfl⟩
    have : cutL (q.map encS) none (some (-1)) = q.dropLast.map encS := by
      have hz : HT.sIx q.length q.length (some (-1)) = q.length - 1 := by
        show (if (-1 : Int) < 0 then ((-1 : Int) + (q.length : Int)).toNat else min (-1 : Int).toNat q.length) = _
        rw [if_pos (by decide)]
        omega
      unfold cutL
      rw [HT.sIx_none, List.length_map, hz, List.drop_zero, Nat.sub_zero, ← List.map_take, List.dropLast_eq_take]
    rw [← this]
  · refine CB_no (by rw [List.length_map]; simp; omega) ?_
    repeat walk_at "vw"
    all_goals first | rfl | (rw [if_neg hc]; exact ⟨rfl, rfl⟩) | (rw [if_neg hc]; rfl)
end Pg

namespace Pg
open PySem PySem.Spec L2 VS
local macro_rules | `(tactic| walk_at "gt") => `(tactic| (simp only [gT, gsCons, gN, gsNil, Option.bind_some, List.length_cons, List.length_nil, List.set_cons_zero, List.set_cons_succ, Nat.reduceAdd, if_true] <;> exact rfl))
local macro_rules | `(tactic| walk_at "nrm") => `(tactic| (simp only [List.set_cons_zero, List.set_cons_succ, List.map_cons, List.map_nil, List.length_cons, List.length_nil, List.replicate, List.cons_append, List.nil_append, Nat.reduceSub, selM, ins, O.fz, wipeD, savD, unwD, List.getElem?_cons_zero, List.getElem?_cons_succ, Option.join_some, Option.join_none] <;> exact rfl))
local macro_rules | `(tactic| walk_at "vw") => `(tactic| first
  | with_reducible refine RX_x2 ?_ | with_reducible refine RX_C ?_ | with_reducible refine RX_Vs rfl ?_ | with_reducible refine RX_Va rfl rfl ?_
  | with_reducible refine RV_sh _ ?_ | with_reducible refine RV_val _ ?_ | with_reducible refine RV_at _ rfl ?_
  | with_reducible refine RK_val _ ?_ | with_reducible refine RK_at _ rfl (by walk_at "nrm") ?_
  | with_reducible refine RS_seq ?_ | with_reducible refine thenS_nx ?_ | with_reducible refine thenS_rt ?_ | with_reducible refine loopS_nx ?_ | with_reducible refine loopS_rt ?_ | with_reducible refine loopS_ct ?_ | with_reducible refine loopS_bk ?_ | with_reducible refine thenS_bk ?_ | with_reducible refine thenS_ct ?_ | with_reducible refine endF_rt (by walk_at "nrm") ?_ | with_reducible refine endF_nx (by walk_at "nrm") ?_
  | with_reducible refine RS_set ?_ | with_reducible refine RS_ret ?_ | with_reducible refine RS_if ?_ | with_reducible refine RS_expr ?_ | with_reducible refine RS_sub ?_ | with_reducible refine RS_attr ?_ | with_reducible refine RS_nil ?_ | with_reducible refine RS_par ?_ | with_reducible refine RS_asg ?_
  | with_reducible refine RX_call ?_ | with_reducible refine RX_bi ?_ | with_reducible refine RX_x1 ?_ | with_reducible refine RX_tup ?_ | with_reducible refine RX_lst ?_
  | with_reducible refine RA_f ?_ | with_reducible refine RA_t ?_ | with_reducible refine RA_nil ?_ | with_reducible refine RB_cons ?_ | with_reducible refine RB_nil ?_
  | with_reducible refine RT_Y ?_ | with_reducible refine RT_tB ?_ | with_reducible refine RT_not ?_ | with_reducible refine RT_and ?_ | with_reducible refine RT_or ?_ | with_reducible refine RX_and ?_ | with_reducible refine RX_or ?_ | with_reducible refine RX_not ?_ | with_reducible refine RX_if ?_ | with_reducible refine RX_ch ?_
  | with_reducible refine CB_t ?_ | with_reducible refine CB_f ?_ | with_reducible refine CB_n ?_
  | with_reducible refine RX_mut rfl rfl ?_ | with_reducible refine RS_for ?_ | with_reducible refine RI_enmU ?_ | with_reducible refine RI_seq ?_ | with_reducible refine RI_rg1 ?_ | with_reducible refine RI_rg3 ?_ | with_reducible refine RX_lc ?_ | with_reducible refine RX_dc ?_ | with_reducible refine RX_dK ?_ | with_reducible refine RX_sl ?_ | with_reducible refine RO_N ?_ | with_reducible refine RO_E ?_ | with_reducible refine RX_fld ?_ | with_reducible refine RX_meth ?_ | with_reducible refine RX_make ?_ | with_reducible refine RX_o2 ?_
  | with_reducible refine R1_of _ (opMod_int (by decide)) ?_ | with_reducible refine R1_of _ (opDiv_int (by decide)) ?_ | with_reducible refine R1_of _ (opMul_l (by first | decide | omega)) ?_ | with_reducible refine R1_of _ (opMul_r (by first | decide | omega)) ?_ | with_reducible refine R1_of _ (opPow_ok (by first | decide | omega)) ?_
  | refine R1_of _ rfl ?_
  | (fail_if_success (with_reducible refine RF_id ?_)); (fail_if_success (with_reducible refine RL_id ?_)); (fail_if_success (with_reducible refine RS_whid ?_)); (fail_if_success (with_reducible refine inR_id ?_)); first | refine ⟨_, by walk_at "nrm", ?_⟩ | refine ⟨_, _, rfl, ?_⟩ | refine ⟨_, rfl, ?_⟩ | refine ⟨rfl, ?_⟩ | refine ⟨Nat.le_of_ble_eq_true rfl, ?_⟩ | refine ⟨_, _, rfl, rfl, ?_⟩)
theorem cutL_takeN {α : Type} (l : List α) (n : Nat) : cutL l none (some (n : Int)) = l.take n := by rw [cutL_take _ (by omega)]; rfl
theorem cutL_dropN {α : Type} (l : List α) (n : Nat) : cutL l (some ((n : Int) + 1)) none = l.drop (n + 1) := by rw [cutL_drop _ (by omega)]; congr 1
theorem opMul_b {i j : Int} (h0 : 0 ≤ i) (h1 : i < 18446744073709551616) : opMul (.int i) (.int j) = some (.sh (.int (i * j))) := opMul_l (by omega)
theorem PP.row {kinds : List Ty} {tops : List En} (h : PP kinds tops) (q : PM.Pa) : ∀ e ∈ PM.rowsP kinds tops q, e.1 ∈ kinds.map (·.1) ∧ eOk e := by
  have key : ∀ (q : PM.Pa) (rows : List En), (∀ e ∈ rows, e.1 ∈ kinds.map (·.1) ∧ eOk e) → ∀ e ∈ PM.rowsP kinds rows q, e.1 ∈ kinds.map (·.1) ∧ eOk e := by
    intro q
    induction q with
    | nil => intro rows hr; exact hr
    | cons x q ih =>
      intro rows hr
      obtain ⟨p, i⟩ := x
      simp only [PM.rowsP]
      cases hp : rows[p]? with
      | none => intro e he; cases he
      | some e0 =>
        refine ih _ fun e he => ?_
        have hs := (hr e0 (List.mem_of_getElem? hp)).1
        obtain ⟨t, ht, et⟩ := List.mem_map.mp hs
        rw [← et, ents_mem h.nd ht] at he
        have q1 := (h.tk t ht).2.2 e he
        have q2 := PM.ents_ok h.ok t.1 e (by rw [ents_mem h.nd ht]; exact he)
        exact ⟨q2.1, q1⟩
  exact key q tops h.te
theorem PP.rowl {kinds : List Ty} {tops : List En} (h : PP kinds tops) (q : PM.Pa) : (PM.rowsP kinds tops q).length ≤ 20 := by
  have key : ∀ (q : PM.Pa) (rows : List En), (∀ e ∈ rows, e.1 ∈ kinds.map (·.1)) → rows.length ≤ 20 → (PM.rowsP kinds rows q).length ≤ 20 := by
    intro q
    induction q with
    | nil => intro rows _ hr; exact hr
    | cons x q ih =>
      intro rows hr hl
      obtain ⟨p, i⟩ := x
      simp only [PM.rowsP]
      cases hp : rows[p]? with
      | none => simp
      | some e0 =>
        obtain ⟨t, ht, et⟩ := List.mem_map.mp (hr e0 (List.mem_of_getElem? hp))
        refine ih _ (fun e he => (PM.ents_ok h.ok e0.1 e he).1) ?_
        rw [← et, ents_mem h.nd ht]
        exact (h.tk t ht).2.1
  exact key q tops (fun e he => (h.te e he).1) h.tl
theorem val_cnt {kinds : List Ty} {tops : List En} (h : PP kinds tops) {done : PM.Pa} {p : Nat} {e : En} (he : (PM.rowsP kinds tops done)[p]? = some e) : e.1 ∈ kinds.map (·.1) ∧ cntOk e.2 := by
  have := h.row done e (List.mem_of_getElem? he)
  exact ⟨this.1, this.2.2⟩
theorem rank_level_ok {kinds : List Ty} {tops : List En} (h : PP kinds tops) {q : PM.Pa} (hql : q.length ≤ 1000) (hv : PM.Val kinds tops q) :
    RF m_rank_in_level [.sh (planV kinds tops), .sh (encA q)] fun r fin => r = .sh (.int (PM.rkL kinds tops q)) ∧ fin = [some (.sh (planV kinds tops)), some (.sh (encA q))] := by
  refine RF_def rfl (by walk_at "nrm") ?_
  unfold encA
  repeat walk_at "vw"
  refine RF.mono root_ok ?_
  rintro r fin ⟨rfl, rfl⟩
  repeat walk_at "vw"
  refine RL_enum (enc := encS) (fun done δ => ∃ (rest : PM.Pa) (found : Int) (rows : List En) (j4 j5 j6 j7 j8 j9 : Option O), δ = [some (.sh (planV kinds tops)), some (.sh (.tup (q.map encS))), some (.sh (.int found)), some (.lst (rows.map encE)), j4, j5, j6, j7, j8, j9] ∧ q = done ++ rest ∧ rows = PM.rowsP kinds tops done ∧ found + PM.rkL kinds rows rest = PM.rkL kinds tops q)
    ⟨q, 0, tops, _, _, _, _, _, _, rfl, rfl, rfl, by omega⟩ ?_ ?_
  · rintro done x rest δ hl ⟨rest', found, rows, j4, j5, j6, j7, j8, j9, rfl, hl2, hrw, hf⟩
    obtain ⟨p, i⟩ := x
    have er : rest' = (p, i) :: rest := List.append_cancel_left (hl2.symm.trans hl)
    subst er
    rw [hl] at hv
    obtain ⟨hvd, hv1⟩ := PM.val_app hv
    obtain ⟨e, he, h0, h1, _⟩ := hv1
    obtain ⟨hes, hec⟩ := val_cnt h he
    have hrr := h.row done
    have hrl := h.rowl done
    rw [← hrw] at he hrr hrl
    have ha : atI (rows.map encE) (p : Int) = some (encE e) := atI_nat (by rw [List.getElem?_map, he]; rfl)
    have hlen : q.length = done.length + rest.length + 1 := by rw [hl]; simp; omega
    refine ⟨_, by rw [show encS (p, i) = .tup [.int (p : Nat), .int i] from rfl]; walk_at "gt", ?_⟩
    repeat walk_at "vw"
    have hb : ((q.map encS).length : Int) - 1 - (done.length : Nat) = ((rest.length : Nat) : Int) := by rw [List.length_map, hlen]; omega
    rw [hb]
    rw [cutL_takeN, ← List.map_take]
    refine ⟨by rw [List.length_map, List.length_take]; exact sl_le (by omega), ?_⟩
    refine RC_map (enc := encE) (g := fun e : En => D.int (e.2 * PM.desc kinds e.1 rest.length)) (fun e' he' => ?_) ?_
    · have he2 := hrr e' (List.mem_of_mem_take he')
      refine ⟨_, by rw [show encE e' = .tup [.str e'.1, .int e'.2] from rfl]; walk_at "gt", ?_⟩
      repeat walk_at "vw"
      refine RF.mono (descendants_ok h.ok h.nd he2.1 rest.length) ?_
      rintro r fin ⟨rfl, rfl⟩
      repeat walk_at "vw"
      refine R1_of _ (opMul_cnt he2.2.2) ?_
      repeat walk_at "vw"
      walk_at "nrm"
    refine RA_nil ⟨_, rfl, R1_of _ (mSum_E (fun c => PM.desc kinds c rest.length) (rows.take p)) ?_⟩
    repeat walk_at "vw"
    refine R1_of _ (opIx_lst ha) ?_
    repeat walk_at "vw"
    refine RF.mono (descendants_ok h.ok h.nd hes rest.length) ?_
    rintro r fin ⟨rfl, rfl⟩
    repeat walk_at "vw"
    refine R1_of _ (opMul_b h0 (by have := hec.2; omega)) ?_
    repeat walk_at "vw"
    refine R1_of _ (opIx_lst ha) ?_
    repeat walk_at "vw"
    refine RF.mono (entries_ok h.nd hes) ?_
    rintro r fin ⟨rfl, rfl⟩
    repeat walk_at "vw"
    refine ⟨rest, _, _, _, _, _, _, _, _, rfl, by rw [hl]; simp, ?_, ?_⟩
    · rw [PM.rowsP_snoc hvd (by rw [← hrw]; exact he)]
    · rw [PM.rkL] at hf
      simp only [he] at hf
      omega
  · rintro δ ⟨rest', found, rows, j4, j5, j6, j7, j8, j9, rfl, hl2, hrw, hf⟩
    have er : rest' = [] := by
      have : q ++ [] = q ++ rest' := by rw [List.append_nil]; exact hl2
      exact (List.append_cancel_left this).symm
    subst er
    simp only [PM.rkL, Int.add_zero] at hf
    rw [hf]
    repeat walk_at "vw"
    rfl
theorem rank_depth_ok {kinds : List Ty} {tops : List En} (h : PP kinds tops) {q : PM.Pa} (hql : q.length ≤ 1000) (hv : PM.Val kinds tops q) :
    RF m_rank_in_depth [.sh (planV kinds tops), .sh (encA q)] fun r fin => r = .sh (.int (PM.rkD kinds tops q)) ∧ fin = [some (.sh (planV kinds tops)), some (.sh (encA q))] := by
  refine RF_def rfl (by walk_at "nrm") ?_
  unfold encA
  repeat walk_at "vw"
  refine RF.mono root_ok ?_
  rintro r fin ⟨rfl, rfl⟩
  repeat walk_at "vw"
  refine RL_inv (enc := encS) (fun done δ => ∃ (rest : PM.Pa) (found : Int) (rows : List En) (j4 j5 j6 j7 j8 j9 : Option O), δ = [some (.sh (planV kinds tops)), some (.sh (.tup (q.map encS))), some (.sh (.int found)), some (.lst (rows.map encE)), j4, j5, j6, j7, j8, j9] ∧ q = done ++ rest ∧ rows = PM.rowsP kinds tops done ∧ found + (PM.rkD kinds rows rest - rest.length + 1) = PM.rkD kinds tops q)
    ⟨q, _, tops, _, _, _, _, _, _, rfl, rfl, rfl, by rw [List.length_map]; omega⟩ ?_ ?_
  · rintro done x rest δ hl ⟨rest', found, rows, j4, j5, j6, j7, j8, j9, rfl, hl2, hrw, hf⟩
    obtain ⟨p, i⟩ := x
    have er : rest' = (p, i) :: rest := List.append_cancel_left (hl2.symm.trans hl)
    subst er
    rw [hl] at hv
    obtain ⟨hvd, hv1⟩ := PM.val_app hv
    obtain ⟨e, he, h0, h1, _⟩ := hv1
    obtain ⟨hes, hec⟩ := val_cnt h he
    have hrr := h.row done
    have hrl := h.rowl done
    rw [← hrw] at he hrr hrl
    have ha : atI (rows.map encE) (p : Int) = some (.tup [.str e.1, .int e.2]) := atI_nat (by rw [List.getElem?_map, he]; rfl)
    refine ⟨_, by rw [show encS (p, i) = .tup [.int (p : Nat), .int i] from rfl]; walk_at "gt", ?_⟩
    repeat walk_at "vw"
    refine R1_of _ (opIx_lst ha) ?_
    repeat walk_at "vw"
    rw [cutL_dropN, ← List.map_drop]
    refine ⟨by rw [List.length_map, List.length_drop]; exact sl_le (by omega), ?_⟩
    refine RC_map (enc := encE) (g := fun e : En => D.int (e.2 * PM.size kinds e.1)) (fun e' he' => ?_) ?_
    · have he2 := hrr e' (List.mem_of_mem_drop he')
      refine ⟨_, by rw [show encE e' = .tup [.str e'.1, .int e'.2] from rfl]; walk_at "gt", ?_⟩
      repeat walk_at "vw"
      refine RF.mono (tree_size_ok h he2.1) ?_
      rintro r fin ⟨rfl, rfl⟩
      repeat walk_at "vw"
      refine R1_of _ (opMul_cnt he2.2.2) ?_
      repeat walk_at "vw"
      walk_at "nrm"
    refine RA_nil ⟨_, rfl, R1_of _ (mSum_E (PM.size kinds) (rows.drop (p + 1))) ?_⟩
    repeat walk_at "vw"
    refine RF.mono (tree_size_ok h hes) ?_
    rintro r fin ⟨rfl, rfl⟩
    repeat walk_at "vw"
    refine R1_of _ (opMul_b (by omega) (by have := hec.2; omega)) ?_
    repeat walk_at "vw"
    refine RF.mono (entries_ok h.nd hes) ?_
    rintro r fin ⟨rfl, rfl⟩
    repeat walk_at "vw"
    refine ⟨rest, _, _, _, _, _, _, _, _, rfl, by rw [hl]; simp, ?_, ?_⟩
    · rw [PM.rowsP_snoc hvd (by rw [← hrw]; exact he)]
    · rw [PM.rkD] at hf
      simp only [he, List.length_cons] at hf
      omega
  · rintro δ ⟨rest', found, rows, j4, j5, j6, j7, j8, j9, rfl, hl2, hrw, hf⟩
    have er : rest' = [] := by
      have : q ++ [] = q ++ rest' := by rw [List.append_nil]; exact hl2
      exact (List.append_cancel_left this).symm
    subst er
    have hf' : found = PM.rkD kinds tops q := by
      simp only [PM.rkD, List.length_nil] at hf
      omega
    rw [hf']
    repeat walk_at "vw"
    rfl
theorem first_of_ok {kinds : List Ty} {tops : List En} (h : PP kinds tops) {l : Nat} (hl : l ≤ 1000) :
    RF m_first_of_level [.sh (planV kinds tops), .sh (.int l)] fun r fin => r = .sh (.int (PM.sumN (PM.ltot kinds tops) l)) ∧ fin = [some (.sh (planV kinds tops)), some (.sh (.int l))] := by
  refine RF_def rfl (by walk_at "nrm") ?_
  repeat walk_at "vw"
  refine ⟨by simp [inR]; omega, ?_⟩
  rw [rng_map, Int.toNat_natCast]
  refine ⟨by rw [List.length_map, List.length_range]; exact sl_le (by omega), ?_⟩
  refine RC_map (g := fun i : Nat => D.int (PM.ltot kinds tops i)) (fun i hi => ?_) ?_
  · refine ⟨_, by walk_at "gt", ?_⟩
    rw [Int.zero_add]
    repeat walk_at "vw"
    refine RF.mono (level_total_ok h i) ?_
    rintro r fin ⟨rfl, rfl⟩
    repeat walk_at "vw"
    walk_at "nrm"
  have e1 : mSum [.lst ((List.range l).map fun i : Nat => D.int (PM.ltot kinds tops i))] = some (.sh (.int (PM.sumN (PM.ltot kinds tops) l))) := by
    show (intsOf ((List.range l).map fun i : Nat => D.int (PM.ltot kinds tops i))).map _ = _
    rw [intsOf_map (PM.ltot kinds tops), Option.map_some, sum_tab]
  refine RA_nil ⟨_, rfl, R1_of _ e1 ?_⟩
  repeat walk_at "vw"
  rfl
end Pg

namespace Pg
open PySem PySem.Spec L2 VS
local macro_rules | `(tactic| walk_at "gt") => `(tactic| (simp only [gT, gsCons, gN, gsNil, Option.bind_some, List.length_cons, List.length_nil, List.set_cons_zero, List.set_cons_succ, Nat.reduceAdd, if_true] <;> exact rfl))
local macro_rules | `(tactic| walk_at "nrm") => `(tactic| (simp only [List.set_cons_zero, List.set_cons_succ, List.map_cons, List.map_nil, List.length_cons, List.length_nil, List.replicate, List.cons_append, List.nil_append, Nat.reduceSub, selM, ins, O.fz, wipeD, savD, unwD, List.getElem?_cons_zero, List.getElem?_cons_succ, Option.join_some, Option.join_none] <;> exact rfl))
local macro_rules | `(tactic| walk_at "vw") => `(tactic| first
  | with_reducible refine RX_x2 ?_ | with_reducible refine RX_C ?_ | with_reducible refine RX_Vs rfl ?_ | with_reducible refine RX_Va rfl rfl ?_
  | with_reducible refine RV_sh _ ?_ | with_reducible refine RV_val _ ?_ | with_reducible refine RV_at _ rfl ?_
  | with_reducible refine RK_val _ ?_ | with_reducible refine RK_at _ rfl (by walk_at "nrm") ?_
  | with_reducible refine RS_seq ?_ | with_reducible refine thenS_nx ?_ | with_reducible refine thenS_rt ?_ | with_reducible refine loopS_nx ?_ | with_reducible refine loopS_rt ?_ | with_reducible refine loopS_ct ?_ | with_reducible refine loopS_bk ?_ | with_reducible refine thenS_bk ?_ | with_reducible refine thenS_ct ?_ | with_reducible refine endF_rt (by walk_at "nrm") ?_ | with_reducible refine endF_nx (by walk_at "nrm") ?_
  | with_reducible refine RS_set ?_ | with_reducible refine RS_ret ?_ | with_reducible refine RS_if ?_ | with_reducible refine RS_expr ?_ | with_reducible refine RS_sub ?_ | with_reducible refine RS_attr ?_ | with_reducible refine RS_nil ?_ | with_reducible refine RS_par ?_ | with_reducible refine RS_asg ?_
  | with_reducible refine RX_call ?_ | with_reducible refine RX_bi ?_ | with_reducible refine RX_x1 ?_ | with_reducible refine RX_tup ?_ | with_reducible refine RX_lst ?_
  | with_reducible refine RA_f ?_ | with_reducible refine RA_t ?_ | with_reducible refine RA_nil ?_ | with_reducible refine RB_cons ?_ | with_reducible refine RB_nil ?_
  | with_reducible refine RT_Y ?_ | with_reducible refine RT_tB ?_ | with_reducible refine RT_not ?_ | with_reducible refine RT_and ?_ | with_reducible refine RT_or ?_ | with_reducible refine RX_and ?_ | with_reducible refine RX_or ?_ | with_reducible refine RX_not ?_ | with_reducible refine RX_if ?_ | with_reducible refine RX_ch ?_
  | with_reducible refine CB_t ?_ | with_reducible refine CB_f ?_ | with_reducible refine CB_n ?_
  | with_reducible refine RX_mut rfl rfl ?_ | with_reducible refine RS_for ?_ | with_reducible refine RI_enmU ?_ | with_reducible refine RI_seq ?_ | with_reducible refine RI_rg1 ?_ | with_reducible refine RI_rg3 ?_ | with_reducible refine RX_lc ?_ | with_reducible refine RX_dc ?_ | with_reducible refine RX_dK ?_ | with_reducible refine RX_sl ?_ | with_reducible refine RO_N ?_ | with_reducible refine RO_E ?_ | with_reducible refine RX_fld ?_ | with_reducible refine RX_meth ?_ | with_reducible refine RX_make ?_ | with_reducible refine RX_o2 ?_
  | with_reducible refine R1_of _ (opMod_int (by decide)) ?_ | with_reducible refine R1_of _ (opDiv_int (by decide)) ?_ | with_reducible refine R1_of _ (opMul_l (by first | decide | omega)) ?_ | with_reducible refine R1_of _ (opMul_r (by first | decide | omega)) ?_ | with_reducible refine R1_of _ (opPow_ok (by first | decide | omega)) ?_
  | refine R1_of _ rfl ?_
  | (fail_if_success (with_reducible refine RF_id ?_)); (fail_if_success (with_reducible refine RL_id ?_)); (fail_if_success (with_reducible refine RS_whid ?_)); (fail_if_success (with_reducible refine inR_id ?_)); first | refine ⟨_, by walk_at "nrm", ?_⟩ | refine ⟨_, _, rfl, ?_⟩ | refine ⟨_, rfl, ?_⟩ | refine ⟨rfl, ?_⟩ | refine ⟨Nat.le_of_ble_eq_true rfl, ?_⟩ | refine ⟨_, _, rfl, rfl, ?_⟩)
theorem pow_up {b : Int} (hb : 1 ≤ b) {n m : Nat} (h : n ≤ m) : b ^ n ≤ b ^ m := by
  obtain ⟨k, rfl⟩ := Nat.exists_eq_add_of_le h
  rw [Int.pow_add]
  have h1 := PM.one_le_pow hb k
  have h2 := PM.one_le_pow hb n
  have := Int.mul_le_mul_of_nonneg_left h1 (show 0 ≤ b ^ n by omega)
  omega
theorem pow_lim : (20000000000001 : Nat) ^ 40 < 2 ^ 9000 := by decide +kernel
theorem divOk_big {m : Int} (h0 : 0 < m) (h1 : m ≤ (20000000000001 : Int) ^ 40) : divOk m = true := by
  have h2 : m.natAbs < 2 ^ 9000 := by
    refine Nat.lt_of_le_of_lt ?_ pow_lim
    have : ((20000000000001 ^ 40 : Nat) : Int) = (20000000000001 : Int) ^ 40 := by simp
    omega
  unfold divOk
  have : m.natAbs.log2 < 9000 := (Nat.log2_lt (by omega)).mpr h2
  simp [h0, this]
theorem cnt_sum : ∀ {es : List En}, (∀ e ∈ es, cntOk e.2) → PM.sumE (fun _ => 1) es ≤ es.length * 1000000000000
  | [], _ => by simp [PM.sumE]
  | e :: r, h => by
    have h1 := cnt_sum (es := r) fun x hx => h x (by simp [hx])
    have h2 := (h e (by simp)).2
    simp only [PM.sumE, List.length_cons, Int.mul_one]
    omega
theorem okB_of : ∀ {kinds : List Ty}, (∀ t ∈ kinds, tOk t) → PM.OkB 20000000000000 kinds
  | [], _ => trivial
  | k :: r, h => by
    refine ⟨?_, okB_of fun t ht => h t (by simp [ht])⟩
    have h1 := cnt_sum (es := k.2) fun e he => ((h k (by simp)).2.2 e he).2
    have h2 := (h k (by simp)).2.1
    omega
theorem PP.div {kinds : List Ty} {tops : List En} (h : PP kinds tops) {s : Str} {d : Nat} (hp : 0 < PM.desc kinds s d) : divOk (PM.desc kinds s d) = true := by
  have h1 := PM.desc_le (B := 20000000000000) (by decide) h.ok (okB_of h.tk) s d
  have h2 := pow_up (b := 20000000000000) (by decide) h.l2
  have h3 : (20000000000000 : Int) ^ 40 ≤ (20000000000001 : Int) ^ 40 := by decide +kernel
  exact divOk_big hp (by omega)
theorem PP.divS {kinds : List Ty} {tops : List En} (h : PP kinds tops) {s : Str} (hp : 0 < PM.size kinds s) : divOk (PM.size kinds s) = true := by
  have h1 := PM.size_le (B := 20000000000000) (by decide) h.ok (okB_of h.tk) s
  have h2 := pow_up (b := (20000000000000 : Int) + 1) (by decide) h.l2
  have h3 : ((20000000000000 : Int) + 1) ^ 40 = (20000000000001 : Int) ^ 40 := by decide +kernel
  exact divOk_big hp (by omega)
theorem PP.levs {kinds : List Ty} {tops : List En} (h : PP kinds tops) : PM.mxl kinds tops ≤ 40 := by
  unfold PM.mxl
  have key : ∀ {l : List Nat}, (∀ y ∈ l, y ≤ 40) → PM.maxL l ≤ 40 := by
    intro l
    induction l with
    | nil => intro _; exact Nat.zero_le _
    | cons a l ih =>
      intro q
      simp only [PM.maxL]
      have := q a (by simp)
      have := ih fun x hx => q x (by simp [hx])
      omega
  refine key fun y hy => ?_
  obtain ⟨e, he, rfl⟩ := List.mem_map.mp hy
  have := PM.lev_le h.ok (h.te e he).1
  have := h.l2
  omega
theorem take_at {rows : List En} {j : Nat} {e : En} (f : Str → Int) (he : rows[j]? = some e) : PM.sumE f (rows.take (j + 1)) = PM.sumE f (rows.take j) + e.2 * f e.1 := by
  have := PM.sum_split (f := f) (rows := rows.take (j + 1)) (p := j) (e := e) (by rw [List.getElem?_take, if_pos (by omega), he])
  rw [List.take_take, Nat.min_eq_left (by omega), List.drop_take, Nat.sub_self, List.take_zero] at this
  simp only [PM.sumE] at this
  omega
open PM in
theorem task_levels_ok {kinds : List Ty} {tops : List En} (h : PP kinds tops) {n : Int} (h0 : 0 ≤ n) (h1 : n < sumE (size kinds) tops) :
    RF m_task_in_levels [.sh (planV kinds tops), .sh (.int n)] fun r fin => ∃ q : Pa, r = .sh (encA q) ∧ q ≠ [] ∧ q.length ≤ 40 ∧ Val kinds tops q ∧ numL kinds tops q = n ∧ fin = [some (.sh (planV kinds tops)), none] := by
  have hK := h.ok
  have hlv := h.levs
  have htot := total_levels hK h.okE (Nat.le_refl (mxl kinds tops))
  refine RF_def rfl (by walk_at "nrm") ?_
  repeat walk_at "vw"
  refine RS_wh (m := mxl kinds tops) (fun m δ => ∃ L : Nat, δ = [some (.sh (planV kinds tops)), some (.sh (.int (n - sumN (ltot kinds tops) L))), some (.sh (.int (L : Nat))), none, none, none, none, none] ∧ m + L = mxl kinds tops ∧ 0 ≤ n - sumN (ltot kinds tops) L) ⟨0, by simp [sumN], by omega, by simp [sumN]; omega⟩ ?_
  rintro m δ ⟨L, rfl, hm, hL⟩
  repeat walk_at "vw"
  refine RF.mono (level_total_ok h L) ?_
  rintro r fin ⟨rfl, rfl⟩
  repeat walk_at "vw"
  refine CB_d (fun hge => ?_) (fun hlt => ?_)
  · have hLl : L < mxl kinds tops := by
      rcases Nat.lt_or_ge L (mxl kinds tops) with c | c
      · exact c
      · have : L = mxl kinds tops := by omega
        rw [this, htot] at hL
        omega
    repeat walk_at "vw"
    refine RF.mono (level_total_ok h L) ?_
    rintro r fin ⟨rfl, rfl⟩
    repeat walk_at "vw"
    refine ⟨m - 1, by omega, L + 1, ?_, by omega, ?_⟩
    · have : n - sumN (ltot kinds tops) L - sumE (fun c => desc kinds c L) tops = n - sumN (ltot kinds tops) (L + 1) := by simp only [sumN, ltot]; omega
      rw [this]
      rfl
    · have : n - sumN (ltot kinds tops) (L + 1) = n - sumN (ltot kinds tops) L - sumE (fun c => desc kinds c L) tops := by simp only [sumN, ltot]; omega
      rw [this]
      omega
  have hLl : L < mxl kinds tops := by
    rcases Nat.lt_or_ge L (mxl kinds tops) with c | c
    · exact c
    · have e : L = mxl kinds tops := by omega
      have := ltot_nonneg hK h.okE L
      unfold ltot at this
      rw [e, htot] at hL
      omega
  generalize hn' : n - sumN (ltot kinds tops) L = n' at hL hlt
  repeat walk_at "vw"
  refine RF.mono root_ok ?_
  rintro r fin ⟨rfl, rfl⟩
  repeat walk_at "vw"
  refine ⟨by simp [inR]; omega, by decide, ?_⟩
  rw [show ((L : Int) - -1).toNat = L + 1 by omega]
  refine RL_inv (fun done δ => ∃ (m : Int) (q : Pa) (rows : List En) (j5 j6 j7 : Option O), δ = [some (.sh (planV kinds tops)), some (.sh (.int m)), some (.sh (.int (L : Nat))), some (.sh (.tup (q.map encS))), some (.lst (rows.map encE)), j5, j6, j7] ∧
      q.length = done.length ∧ Val kinds tops q ∧ rows = rowsP kinds tops q ∧ m + rkLn kinds (L + 1 - done.length) tops q = n' ∧ 0 ≤ m ∧ (done.length ≤ L → m < sumE (fun c => desc kinds c (L - done.length)) rows) ∧ (done.length = L + 1 → m = 0))
    ⟨n', [], tops, _, _, _, rfl, rfl, trivial, rfl, by simp [rkLn], hL, fun _ => by simp only [List.length_nil, Nat.sub_zero]; omega, fun z => by simp at z⟩ ?_ ?_
  · rintro done k rest δ hl ⟨m, q, rows, j5, j6, j7, rfl, hql, hqv, hrw, hmr, hm0, hm1, _⟩
    have hdl : done.length ≤ L := by have := congrArg List.length hl; simp at this; omega
    have hk : k = done.length := by
      have e1 := congrArg (fun l => l[done.length]?) hl
      simp only [List.getElem?_append_right (Nat.le_refl _), Nat.sub_self, List.getElem?_cons_zero] at e1
      rw [List.getElem?_range (by omega)] at e1
      exact (Option.some.inj e1).symm
    subst hk
    have hm1 := hm1 hdl
    have hbel : ((L : Nat) : Int) - (done.length : Nat) = ((L - done.length : Nat) : Int) := by omega
    have hrr := h.row q
    have hrl := h.rowl q
    rw [← hrw] at hrr hrl
    obtain ⟨j, e, m', _, he, hm0', hm1', hms⟩ := pick_ok (at0 := 0) hm0 hm1
    have hes := (hrr e (mem_at he)).1
    have hec := (hrr e (mem_at he)).2.2
    have hD0 := desc_nonneg hK e.1 (L - done.length)
    have hD := pos_of_mul hm0' hm1' hD0
    refine ⟨_, by walk_at "gt", ?_⟩
    rw [hbel]
    repeat walk_at "vw"
    have hjl := (List.getElem?_eq_some_iff.mp he).1
    refine RS_wh (m := j) (fun w δ => ∃ a : Nat, δ = [some (.sh (planV kinds tops)), some (.sh (.int (m - sumE (fun c => desc kinds c (L - done.length)) (rows.take a)))), some (.sh (.int (L : Nat))), some (.sh (.tup (q.map encS))), some (.lst (rows.map encE)), some (.sh (.int ((L - done.length : Nat) : Int))), some (.sh (.int (a : Nat))), j7] ∧ w + a = j)
      ⟨0, by simp [sumE], by omega⟩ ?_
    rintro w δ ⟨a, rfl, hwa⟩
    obtain ⟨ea, hea⟩ : ∃ ea, rows[a]? = some ea := ⟨rows[a]'(by omega), by simp⟩
    have hax : atI (rows.map encE) (a : Int) = some (encE ea) := atI_nat (by rw [List.getElem?_map, hea]; rfl)
    have heas := hrr ea (mem_at hea)
    have hta := take_at (fun c => desc kinds c (L - done.length)) hea
    repeat walk_at "vw"
    refine R1_of _ (opIx_lst hax) ?_
    repeat walk_at "vw"
    refine R1_of _ (opIx_lst hax) ?_
    repeat walk_at "vw"
    refine RF.mono (descendants_ok hK h.nd heas.1 (L - done.length)) ?_
    rintro r fin ⟨rfl, rfl⟩
    repeat walk_at "vw"
    refine R1_of _ (opMul_cnt heas.2.2) ?_
    repeat walk_at "vw"
    by_cases haj : a < j
    · have hle := take_le (f := fun c => desc kinds c (L - done.length)) (rows := rows) (p := a) (p' := j) (fun x hx => ⟨desc_nonneg hK _ _, by have := (hrr x hx).2.2.1; omega⟩) hea haj
      refine CB_yes (decide_eq_true (by omega)) ?_
      repeat walk_at "vw"
      refine R1_of _ (opIx_lst hax) ?_
      repeat walk_at "vw"
      refine R1_of _ (opIx_lst hax) ?_
      repeat walk_at "vw"
      refine RF.mono (descendants_ok hK h.nd heas.1 (L - done.length)) ?_
      rintro r fin ⟨rfl, rfl⟩
      repeat walk_at "vw"
      refine R1_of _ (opMul_cnt heas.2.2) ?_
      repeat walk_at "vw"
      refine ⟨w - 1, by omega, a + 1, ?_, by omega⟩
      have e1 : m - sumE (fun c => desc kinds c (L - done.length)) (rows.take a) - ea.2 * desc kinds ea.1 (L - done.length) = m - sumE (fun c => desc kinds c (L - done.length)) (rows.take (a + 1)) := by omega
      rw [e1]
      rfl
    · have haj' : a = j := by omega
      subst haj'
      rw [he] at hea
      cases hea
      have e1 : m - sumE (fun c => desc kinds c (L - done.length)) (rows.take a) = m' := by omega
      rw [e1]
      refine CB_no (decide_eq_false (by omega)) ?_
      repeat walk_at "vw"
      refine R1_of _ (opIx_lst hax) ?_
      repeat walk_at "vw"
      refine RF.mono (descendants_ok hK h.nd hes (L - done.length)) ?_
      rintro r fin ⟨rfl, rfl⟩
      repeat walk_at "vw"
      refine R1_of _ (opDiv_int (h.div hD)) ?_
      repeat walk_at "vw"
      refine R1_of (o := .sh (.tup ((q ++ [(a, m' / desc kinds e.1 (L - done.length))]).map encS))) _ ?_ ?_
      · show (if _ then _ else _) = _
        rw [if_pos (by rw [List.length_map]; exact sl_le (by simp; omega)), List.map_append]
        rfl
      repeat walk_at "vw"
      refine R1_of _ (opMod_int hD) ?_
      repeat walk_at "vw"
      refine R1_of _ (opIx_lst hax) ?_
      repeat walk_at "vw"
      refine RF.mono (entries_ok h.nd hes) ?_
      rintro r fin ⟨rfl, rfl⟩
      repeat walk_at "vw"
      have ds := div_split (m := m') hD
      have hi1 : m' / desc kinds e.1 (L - done.length) < e.2 := Int.ediv_lt_of_lt_mul hD hm1'
      have hi0 : 0 ≤ m' / desc kinds e.1 (L - done.length) := Int.ediv_nonneg hm0' (by omega)
      have hq' : (rowsP kinds tops q)[a]? = some e := by rw [← hrw]; exact he
      refine ⟨_, q ++ [(a, m' / desc kinds e.1 (L - done.length))], _, _, _, _, rfl, by simp [hql], val_snoc hqv hq' hi0 hi1, (rowsP_snoc hqv hq').symm, ?_, ds.2.1, fun hd => ?_, fun hd => ?_⟩
      · have r1 : L + 1 - (done ++ [done.length]).length = L - done.length := by simp <;> omega
        rw [r1, rkLn_snoc hqv hq', ← hrw, show L - done.length + 1 = L + 1 - done.length by omega]
        omega
      · have r1 : L - done.length = (L - (done ++ [done.length]).length) + 1 := by simp at hd ⊢; omega
        rw [← desc_succ hK, ← r1]
        exact ds.2.2
      · have r1 : L - done.length = 0 := by simp at hd; omega
        have := ds.2
        rw [r1, desc_zero hes] at this ⊢
        omega
  · rintro δ ⟨m, q, rows, j5, j6, j7, rfl, hql, hqv, hrw, hmr, hm0, _, hmz⟩
    simp only [List.length_range] at hql hmr hmz
    have hmz := hmz (by first | exact rfl | exact trivial)
    subst hmz
    repeat walk_at "vw"
    refine ⟨fun z => by rw [z] at hql; simp at hql, by omega, hqv, ?_, rfl⟩
    unfold numL
    rw [hql, Nat.add_sub_cancel, ← rkLn_zero]
    rw [Nat.sub_self] at hmr
    omega
end Pg

namespace Pg
open PySem PySem.Spec L2 VS
local macro_rules | `(tactic| walk_at "gt") => `(tactic| (simp only [gT, gsCons, gN, gsNil, Option.bind_some, List.length_cons, List.length_nil, List.set_cons_zero, List.set_cons_succ, Nat.reduceAdd, if_true] <;> exact rfl))
local macro_rules | `(tactic| walk_at "nrm") => `(tactic| (simp only [List.set_cons_zero, List.set_cons_succ, List.map_cons, List.map_nil, List.length_cons, List.length_nil, List.replicate, List.cons_append, List.nil_append, Nat.reduceSub, selM, ins, O.fz, wipeD, savD, unwD, List.getElem?_cons_zero, List.getElem?_cons_succ, Option.join_some, Option.join_none] <;> exact rfl))
local macro_rules | `(tactic| walk_at "vw") => `(tactic| first
  | with_reducible refine RX_x2 ?_ | with_reducible refine RX_C ?_ | with_reducible refine RX_Vs rfl ?_ | with_reducible refine RX_Va rfl rfl ?_
  | with_reducible refine RV_sh _ ?_ | with_reducible refine RV_val _ ?_ | with_reducible refine RV_at _ rfl ?_
  | with_reducible refine RK_val _ ?_ | with_reducible refine RK_at _ rfl (by walk_at "nrm") ?_
  | with_reducible refine RS_seq ?_ | with_reducible refine thenS_nx ?_ | with_reducible refine thenS_rt ?_ | with_reducible refine loopS_nx ?_ | with_reducible refine loopS_rt ?_ | with_reducible refine loopS_ct ?_ | with_reducible refine loopS_bk ?_ | with_reducible refine thenS_bk ?_ | with_reducible refine thenS_ct ?_ | with_reducible refine endF_rt (by walk_at "nrm") ?_ | with_reducible refine endF_nx (by walk_at "nrm") ?_
  | with_reducible refine RS_set ?_ | with_reducible refine RS_ret ?_ | with_reducible refine RS_if ?_ | with_reducible refine RS_expr ?_ | with_reducible refine RS_sub ?_ | with_reducible refine RS_attr ?_ | with_reducible refine RS_nil ?_ | with_reducible refine RS_par ?_ | with_reducible refine RS_asg ?_
  | with_reducible refine RX_call ?_ | with_reducible refine RX_bi ?_ | with_reducible refine RX_x1 ?_ | with_reducible refine RX_tup ?_ | with_reducible refine RX_lst ?_
  | with_reducible refine RA_f ?_ | with_reducible refine RA_t ?_ | with_reducible refine RA_nil ?_ | with_reducible refine RB_cons ?_ | with_reducible refine RB_nil ?_
  | with_reducible refine RT_Y ?_ | with_reducible refine RT_tB ?_ | with_reducible refine RT_not ?_ | with_reducible refine RT_and ?_ | with_reducible refine RT_or ?_ | with_reducible refine RX_and ?_ | with_reducible refine RX_or ?_ | with_reducible refine RX_not ?_ | with_reducible refine RX_if ?_ | with_reducible refine RX_ch ?_
  | with_reducible refine CB_t ?_ | with_reducible refine CB_f ?_ | with_reducible refine CB_n ?_
  | with_reducible refine RX_mut rfl rfl ?_ | with_reducible refine RS_for ?_ | with_reducible refine RI_enmU ?_ | with_reducible refine RI_seq ?_ | with_reducible refine RI_rg1 ?_ | with_reducible refine RI_rg3 ?_ | with_reducible refine RX_lc ?_ | with_reducible refine RX_dc ?_ | with_reducible refine RX_dK ?_ | with_reducible refine RX_sl ?_ | with_reducible refine RO_N ?_ | with_reducible refine RO_E ?_ | with_reducible refine RX_fld ?_ | with_reducible refine RX_meth ?_ | with_reducible refine RX_make ?_ | with_reducible refine RX_o2 ?_
  | with_reducible refine R1_of _ (opMod_int (by decide)) ?_ | with_reducible refine R1_of _ (opDiv_int (by decide)) ?_ | with_reducible refine R1_of _ (opMul_l (by first | decide | omega)) ?_ | with_reducible refine R1_of _ (opMul_r (by first | decide | omega)) ?_ | with_reducible refine R1_of _ (opPow_ok (by first | decide | omega)) ?_
  | refine R1_of _ rfl ?_
  | (fail_if_success (with_reducible refine RF_id ?_)); (fail_if_success (with_reducible refine RL_id ?_)); (fail_if_success (with_reducible refine RS_whid ?_)); (fail_if_success (with_reducible refine inR_id ?_)); first | refine ⟨_, by walk_at "nrm", ?_⟩ | refine ⟨_, _, rfl, ?_⟩ | refine ⟨_, rfl, ?_⟩ | refine ⟨rfl, ?_⟩ | refine ⟨Nat.le_of_ble_eq_true rfl, ?_⟩ | refine ⟨_, _, rfl, rfl, ?_⟩)
theorem drop_at {rows : List En} {j : Nat} {e : En} (f : Str → Int) (he : rows[j]? = some e) : PM.sumE f (rows.drop j) = e.2 * f e.1 + PM.sumE f (rows.drop (j + 1)) := by
  have hj := (List.getElem?_eq_some_iff.mp he)
  rw [List.drop_eq_getElem_cons hj.1, hj.2]
  rfl
theorem drop_ge {rows : List En} {f : Str → Int} (h : ∀ e ∈ rows, 0 ≤ f e.1 ∧ 0 ≤ e.2) (j : Nat) : 0 ≤ PM.sumE f (rows.drop j) := PM.sumE_nonneg fun e he => h e (List.mem_of_mem_drop he)
open PM in
theorem task_depth_ok {kinds : List Ty} {tops : List En} (h : PP kinds tops) {n : Int} (h0 : 0 ≤ n) (h1 : n < sumE (size kinds) tops) :
    RF m_task_in_depth [.sh (planV kinds tops), .sh (.int n)] fun r fin => ∃ q : Pa, r = .sh (encA q) ∧ q ≠ [] ∧ q.length ≤ 40 ∧ Val kinds tops q ∧ rkD kinds tops q = n ∧ fin = [some (.sh (planV kinds tops)), none] := by
  have hK := h.ok
  have hlv := h.levs
  refine RF_def rfl (by walk_at "nrm") ?_
  repeat walk_at "vw"
  refine RF.mono root_ok ?_
  rintro r fin ⟨rfl, rfl⟩
  repeat walk_at "vw"
  refine RS_wh (m := (n + 1).toNat) (fun w δ => ∃ (m : Int) (q : Pa) (rows : List En) (j4 j5 j6 : Option O), δ = [some (.sh (planV kinds tops)), some (.sh (.int m)), some (.sh (.tup (q.map encS))), some (.lst (rows.map encE)), j4, j5, j6] ∧
      Val kinds tops q ∧ rows = rowsP kinds tops q ∧ m + rkDn kinds tops q = n ∧ -1 ≤ m ∧ m < sumE (size kinds) rows ∧ w = (m + 1).toNat)
    ⟨n, [], tops, _, _, _, rfl, trivial, rfl, by simp [rkDn], by omega, h1, rfl⟩ ?_
  rintro w δ ⟨m, q, rows, j4, j5, j6, rfl, hqv, hrw, hmr, hm0, hm1, hw⟩
  repeat walk_at "vw"
  refine CB_d (fun hge => ?_) (fun hlt => ?_)
  · have hge : 0 ≤ m := hge
    have hrr := h.row q
    have hrl := h.rowl q
    rw [← hrw] at hrr hrl
    have hnn : ∀ e ∈ rows, 0 ≤ size kinds e.1 ∧ 0 ≤ e.2 := fun e he => ⟨size_nonneg hK _, by have := (hrr e he).2.2.1; omega⟩
    have hql : q.length < 40 := by
      rcases Nat.lt_or_ge q.length 40 with c | c
      · exact c
      · exfalso
        have hq0 : q ≠ [] := fun z => by rw [z] at c; simp at c
        have hl := val_lev hK h.okE hq0 hqv
        -- a row left would lie deeper than the levels reach
        have hne : rows ≠ [] := fun z => by rw [z] at hm1; simp [sumE] at hm1; omega
        obtain ⟨e0, r0, e1⟩ := List.exists_cons_of_ne_nil hne
        have he0 : rows[0]? = some e0 := by rw [e1]; rfl
        have hc0 := (hrr e0 (by rw [e1]; simp)).2.2.1
        have hv2 := val_snoc (i := 0) hqv (by rw [← hrw]; exact he0) (by omega) (by omega)
        have := val_lev hK h.okE (by simp) hv2
        simp at this
        omega
    repeat walk_at "vw"
    have hrn : rows.length ≠ 0 := fun z => by
      have : rows = [] := List.eq_nil_of_length_eq_zero z
      rw [this] at hm1
      simp [sumE] at hm1
      omega
    have hlen : ((rows.map encE).length : Int) - 1 = ((rows.length - 1 : Nat) : Int) := by rw [List.length_map]; omega
    rw [hlen]
    refine RS_wh (m := rows.length) (fun w δ => ∃ a : Nat, δ = [some (.sh (planV kinds tops)), some (.sh (.int (m - sumE (size kinds) (rows.drop (a + 1))))), some (.sh (.tup (q.map encS))), some (.lst (rows.map encE)), some (.sh (.int (a : Nat))), j5, j6] ∧ w = a + 1 ∧ a < rows.length ∧ 0 ≤ m - sumE (size kinds) (rows.drop (a + 1)))
      ⟨rows.length - 1, by rw [show rows.length - 1 + 1 = rows.length by omega, List.drop_length]; simp [sumE], by omega, by omega, by rw [show rows.length - 1 + 1 = rows.length by omega, List.drop_length]; simp [sumE]; omega⟩ ?_
    rintro w2 δ ⟨a, rfl, hwa, hal, ham⟩
    obtain ⟨ea, hea⟩ : ∃ ea, rows[a]? = some ea := ⟨rows[a]'(by omega), by simp⟩
    have hax : atI (rows.map encE) (a : Int) = some (.tup [.str ea.1, .int ea.2]) := atI_nat (by rw [List.getElem?_map, hea]; rfl)
    have heas := hrr ea (mem_at hea)
    have hda := drop_at (size kinds) hea
    have hsz := size_pos hK heas.1
    repeat walk_at "vw"
    refine R1_of _ (opIx_lst hax) ?_
    repeat walk_at "vw"
    refine R1_of _ (opIx_lst hax) ?_
    repeat walk_at "vw"
    refine RF.mono (tree_size_ok h heas.1) ?_
    rintro r fin ⟨rfl, rfl⟩
    repeat walk_at "vw"
    refine R1_of _ (opMul_cnt heas.2.2) ?_
    repeat walk_at "vw"
    refine CB_d (fun hge2 => ?_) (fun hlt2 => ?_)
    · have hge2 : ea.2 * size kinds ea.1 ≤ m - sumE (size kinds) (rows.drop (a + 1)) := hge2
      have ha0 : 0 < a := by
        rcases Nat.eq_zero_or_pos a with c | c
        · subst c
          rw [List.drop_zero] at hda
          omega
        · exact c
      repeat walk_at "vw"
      refine R1_of _ (opIx_lst hax) ?_
      repeat walk_at "vw"
      refine R1_of _ (opIx_lst hax) ?_
      repeat walk_at "vw"
      refine RF.mono (tree_size_ok h heas.1) ?_
      rintro r fin ⟨rfl, rfl⟩
      repeat walk_at "vw"
      refine R1_of _ (opMul_cnt heas.2.2) ?_
      repeat walk_at "vw"
      refine ⟨w2 - 1, by omega, a - 1, ?_, by omega, by omega, ?_⟩
      · rw [show a - 1 + 1 = a by omega, hda, show m - sumE (size kinds) (rows.drop (a + 1)) - ea.2 * size kinds ea.1 = m - (ea.2 * size kinds ea.1 + sumE (size kinds) (rows.drop (a + 1))) by omega, show ((a : Nat) : Int) - 1 = ((a - 1 : Nat) : Int) by omega]
      · rw [show a - 1 + 1 = a by omega, hda]
        omega
    · have hlt2 : m - sumE (size kinds) (rows.drop (a + 1)) < ea.2 * size kinds ea.1 := by omega
      generalize hm' : m - sumE (size kinds) (rows.drop (a + 1)) = m' at ham hlt2
      repeat walk_at "vw"
      refine R1_of _ (opIx_lst hax) ?_
      repeat walk_at "vw"
      refine RF.mono (tree_size_ok h heas.1) ?_
      rintro r fin ⟨rfl, rfl⟩
      repeat walk_at "vw"
      refine R1_of _ (opDiv_int (h.divS hsz)) ?_
      repeat walk_at "vw"
      refine R1_of (o := .sh (.tup ((q ++ [(a, ea.2 - 1 - m' / size kinds ea.1)]).map encS))) _ ?_ ?_
      · show (if _ then _ else _) = _
        rw [if_pos (by rw [List.length_map]; exact sl_le (by simp; omega)), List.map_append]
        rfl
      repeat walk_at "vw"
      refine RF.mono (tree_size_ok h heas.1) ?_
      rintro r fin ⟨rfl, rfl⟩
      repeat walk_at "vw"
      refine R1_of _ (opMod_int hsz) ?_
      repeat walk_at "vw"
      refine RF.mono (entries_ok h.nd heas.1) ?_
      rintro r fin ⟨rfl, rfl⟩
      repeat walk_at "vw"
      have ds := div_split (m := m') (D := size kinds ea.1) (by omega)
      have hi1 : m' / size kinds ea.1 < ea.2 := Int.ediv_lt_of_lt_mul (by omega) hlt2
      have hi0 : 0 ≤ m' / size kinds ea.1 := Int.ediv_nonneg ham (by omega)
      have hq' : (rowsP kinds tops q)[a]? = some ea := by rw [← hrw]; exact hea
      have hmm : m' % size kinds ea.1 ≤ m' := by
        have := Int.mul_nonneg hi0 (show 0 ≤ size kinds ea.1 by omega)
        have := ds.1
        omega
      have hdn := drop_ge hnn (a + 1)
      refine ⟨_, by rw [hw]; omega, _, q ++ [(a, ea.2 - 1 - m' / size kinds ea.1)], _, _, _, _, rfl, val_snoc hqv hq' (by omega) (by omega), (rowsP_snoc hqv hq').symm, ?_, by omega, ?_, rfl⟩
      · rw [rkDn_snoc hqv hq', ← hrw, show ea.2 - 1 - (ea.2 - 1 - m' / size kinds ea.1) = m' / size kinds ea.1 by omega]
        omega
      · have := size_eq hK heas.1
        omega
  · have hm : m = -1 := by
      have : ¬ (0 ≤ m) := hlt
      omega
    subst hm
    repeat walk_at "vw"
    have hq0 : q ≠ [] := fun z => by
      rw [z] at hmr
      simp only [rkDn] at hmr
      omega
    have := val_lev hK h.okE hq0 hqv
    refine ⟨hq0, by omega, hqv, ?_, rfl⟩
    rw [rkD_all hqv]
    omega
end Pg

namespace Pg
open PySem PySem.Spec L2 VS
local macro_rules | `(tactic| walk_at "gt") => `(tactic| (simp only [gT, gsCons, gN, gsNil, Option.bind_some, List.length_cons, List.length_nil, List.set_cons_zero, List.set_cons_succ, Nat.reduceAdd, if_true] <;> exact rfl))
local macro_rules | `(tactic| walk_at "nrm") => `(tactic| (simp only [List.set_cons_zero, List.set_cons_succ, List.map_cons, List.map_nil, List.length_cons, List.length_nil, List.replicate, List.cons_append, List.nil_append, Nat.reduceSub, selM, ins, O.fz, wipeD, savD, unwD, List.getElem?_cons_zero, List.getElem?_cons_succ, Option.join_some, Option.join_none] <;> exact rfl))
local macro_rules | `(tactic| walk_at "vw") => `(tactic| first
  | with_reducible refine RX_x2 ?_ | with_reducible refine RX_C ?_ | with_reducible refine RX_Vs rfl ?_ | with_reducible refine RX_Va rfl rfl ?_
  | with_reducible refine RV_sh _ ?_ | with_reducible refine RV_val _ ?_ | with_reducible refine RV_at _ rfl ?_
  | with_reducible refine RK_val _ ?_ | with_reducible refine RK_at _ rfl (by walk_at "nrm") ?_
  | with_reducible refine RS_seq ?_ | with_reducible refine thenS_nx ?_ | with_reducible refine thenS_rt ?_ | with_reducible refine loopS_nx ?_ | with_reducible refine loopS_rt ?_ | with_reducible refine loopS_ct ?_ | with_reducible refine loopS_bk ?_ | with_reducible refine thenS_bk ?_ | with_reducible refine thenS_ct ?_ | with_reducible refine endF_rt (by walk_at "nrm") ?_ | with_reducible refine endF_nx (by walk_at "nrm") ?_
  | with_reducible refine RS_set ?_ | with_reducible refine RS_ret ?_ | with_reducible refine RS_if ?_ | with_reducible refine RS_expr ?_ | with_reducible refine RS_sub ?_ | with_reducible refine RS_attr ?_ | with_reducible refine RS_nil ?_ | with_reducible refine RS_par ?_ | with_reducible refine RS_asg ?_
  | with_reducible refine RX_call ?_ | with_reducible refine RX_bi ?_ | with_reducible refine RX_x1 ?_ | with_reducible refine RX_tup ?_ | with_reducible refine RX_lst ?_
  | with_reducible refine RA_f ?_ | with_reducible refine RA_t ?_ | with_reducible refine RA_nil ?_ | with_reducible refine RB_cons ?_ | with_reducible refine RB_nil ?_
  | with_reducible refine RT_Y ?_ | with_reducible refine RT_tB ?_ | with_reducible refine RT_not ?_ | with_reducible refine RT_and ?_ | with_reducible refine RT_or ?_ | with_reducible refine RX_and ?_ | with_reducible refine RX_or ?_ | with_reducible refine RX_not ?_ | with_reducible refine RX_if ?_ | with_reducible refine RX_ch ?_
  | with_reducible refine CB_t ?_ | with_reducible refine CB_f ?_ | with_reducible refine CB_n ?_
  | with_reducible refine RX_mut rfl rfl ?_ | with_reducible refine RS_for ?_ | with_reducible refine RI_enmU ?_ | with_reducible refine RI_seq ?_ | with_reducible refine RI_rg1 ?_ | with_reducible refine RI_rg3 ?_ | with_reducible refine RX_lc ?_ | with_reducible refine RX_dc ?_ | with_reducible refine RX_dK ?_ | with_reducible refine RX_sl ?_ | with_reducible refine RO_N ?_ | with_reducible refine RO_E ?_ | with_reducible refine RX_fld ?_ | with_reducible refine RX_meth ?_ | with_reducible refine RX_make ?_ | with_reducible refine RX_o2 ?_
  | with_reducible refine R1_of _ (opMod_int (by decide)) ?_ | with_reducible refine R1_of _ (opDiv_int (by decide)) ?_ | with_reducible refine R1_of _ (opMul_l (by first | decide | omega)) ?_ | with_reducible refine R1_of _ (opMul_r (by first | decide | omega)) ?_ | with_reducible refine R1_of _ (opPow_ok (by first | decide | omega)) ?_
  | refine R1_of _ rfl ?_
  | (fail_if_success (with_reducible refine RF_id ?_)); (fail_if_success (with_reducible refine RL_id ?_)); (fail_if_success (with_reducible refine RS_whid ?_)); (fail_if_success (with_reducible refine inR_id ?_)); first | refine ⟨_, by walk_at "nrm", ?_⟩ | refine ⟨_, _, rfl, ?_⟩ | refine ⟨_, rfl, ?_⟩ | refine ⟨rfl, ?_⟩ | refine ⟨Nat.le_of_ble_eq_true rfl, ?_⟩ | refine ⟨_, _, rfl, rfl, ?_⟩)
/-- the number of a start -/
def numM (kinds : List Ty) (tops : List En) (m : Bool) (q : PM.Pa) : Int := if m then PM.numL kinds tops q else PM.rkD kinds tops q
theorem numM_range {kinds : List Ty} {tops : List En} (h : PP kinds tops) (m : Bool) {q : PM.Pa} (hq : q ≠ []) (hv : PM.Val kinds tops q) : 0 ≤ numM kinds tops m q ∧ numM kinds tops m q < PM.sumE (PM.size kinds) tops := by
  cases m with
  | true =>
    have := PM.numL_range h.ok h.okE hq hv
    exact ⟨this.2.2.1, this.2.2.2⟩
  | false =>
    obtain ⟨x, q', rfl⟩ := List.exists_cons_of_ne_nil hq
    obtain ⟨p, i⟩ := x
    exact PM.rkD_range h.ok q' h.okE hv
theorem numM_inj {kinds : List Ty} {tops : List En} (h : PP kinds tops) (m : Bool) {x y : PM.Pa} (hx : x ≠ []) (hy : y ≠ []) (vx : PM.Val kinds tops x) (vy : PM.Val kinds tops y) (e : numM kinds tops m x = numM kinds tops m y) : x = y := by
  cases m with
  | true => exact PM.numL_inj h.ok h.okE hx hy vx vy e
  | false => exact PM.rkD_inj h.ok h.okE vx vy e
theorem path_len {kinds : List Ty} {tops : List En} (h : PP kinds tops) {q : PM.Pa} (hv : PM.Val kinds tops q) : q.length ≤ 40 := by
  by_cases hq : q = []
  · rw [hq]; simp
  · have := PM.val_lev h.ok h.okE hq hv
    have := h.levs
    omega
theorem number_of_ok {kinds : List Ty} {tops : List En} (h : PP kinds tops) (m : Bool) {q : PM.Pa} (hq : q ≠ []) (hv : PM.Val kinds tops q) :
    RF m_number_of [.sh (planV kinds tops), .sh (modeD m), .sh (encA q)] fun r fin => r = .sh (.int (numM kinds tops m q)) ∧ fin = [some (.sh (planV kinds tops)), some (.sh (modeD m)), some (.sh (encA q))] := by
  have hl := path_len h hv
  have hp := List.length_pos_iff.mpr hq
  cases m with
  | true =>
    have he : opEq (modeD true) (.str "fifo") = some (.sh (.bl true)) := by kernel_rfl
    refine RF_def rfl (by walk_at "nrm") ?_
    repeat walk_at "vw"
    refine R1_of _ he ?_
    repeat walk_at "vw"
    unfold encA
    repeat walk_at "vw"
    rw [List.length_map, show (q.length : Int) - 1 = ((q.length - 1 : Nat) : Int) by omega]
    refine RF.mono (first_of_ok h (by omega)) ?_
    rintro r fin ⟨rfl, rfl⟩
    repeat walk_at "vw"
    refine RF.mono (rank_level_ok h (by omega) hv) ?_
    rintro r fin ⟨rfl, rfl⟩
    repeat walk_at "vw"
    rfl
  | false =>
    have he : opEq (modeD false) (.str "fifo") = some (.sh (.bl false)) := by kernel_rfl
    refine RF_def rfl (by walk_at "nrm") ?_
    repeat walk_at "vw"
    refine R1_of _ he ?_
    repeat walk_at "vw"
    refine RF.mono (rank_depth_ok h (by omega) hv) ?_
    rintro r fin ⟨rfl, rfl⟩
    repeat walk_at "vw"
    rfl
theorem start_number_ok {kinds : List Ty} {tops : List En} (h : PP kinds tops) (m : Bool) {q : PM.Pa} (hq : q ≠ []) (hv : PM.Val kinds tops q) :
    RF m_start_number [.sh (planV kinds tops), .sh (modeD m), .sh (encA q)] fun r fin => r = .sh (.int (numM kinds tops m q)) ∧ fin = [some (.sh (planV kinds tops)), some (.sh (modeD m)), some (.sh (encA q))] := by
  refine RF_def rfl (by walk_at "nrm") ?_
  repeat walk_at "vw"
  refine RF.mono (disc_ok m) ?_
  rintro r fin ⟨rfl, rfl⟩
  repeat walk_at "vw"
  refine RF.mono (type_of_ok h hq hv) ?_
  rintro r fin ⟨rfl, rfl⟩
  repeat walk_at "vw"
  refine RF.mono (number_of_ok h m hq hv) ?_
  rintro r fin ⟨rfl, rfl⟩
  repeat walk_at "vw"
  rfl
theorem task_at_ok {kinds : List Ty} {tops : List En} (h : PP kinds tops) (m : Bool) {n : Int} (h0 : 0 ≤ n) (h1 : n < PM.sumE (PM.size kinds) tops) :
    RF m_task_at [.sh (planV kinds tops), .sh (modeD m), .sh (.int n)] fun r fin => ∃ q : PM.Pa, r = .sh (encA q) ∧ q ≠ [] ∧ q.length ≤ 40 ∧ PM.Val kinds tops q ∧ numM kinds tops m q = n ∧ fin = [some (.sh (planV kinds tops)), some (.sh (modeD m)), some (.sh (.int n))] := by
  have ho : opEq (modeD m) (.str "fifo") = some (.sh (.bl m)) := by cases m <;> kernel_rfl
  refine RF_def rfl (by walk_at "nrm") ?_
  repeat walk_at "vw"
  refine RF.mono (disc_ok m) ?_
  rintro r fin ⟨rfl, rfl⟩
  repeat walk_at "vw"
  refine RF.mono (task_total_ok h) ?_
  rintro r fin ⟨rfl, rfl⟩
  repeat walk_at "vw"
  refine RF.mono (between_ok ⟨h0, by omega⟩) ?_
  rintro r fin ⟨rfl, rfl⟩
  repeat walk_at "vw"
  refine R1_of _ ho ?_
  repeat walk_at "vw"
  cases m with
  | true =>
    refine CB_t ?_
    repeat walk_at "vw"
    refine RF.mono (task_levels_ok h h0 h1) ?_
    rintro r fin ⟨q, rfl, hq, hl, hv, hn, rfl⟩
    repeat walk_at "vw"
    exact ⟨hq, hl, hv, hn, rfl⟩
  | false =>
    refine CB_f ?_
    repeat walk_at "vw"
    refine RF.mono (task_depth_ok h h0 h1) ?_
    rintro r fin ⟨q, rfl, hq, hl, hv, hn, rfl⟩
    repeat walk_at "vw"
    exact ⟨hq, hl, hv, hn, rfl⟩
theorem starts_before_ok {kinds : List Ty} {tops : List En} (h : PP kinds tops) (m : Bool) {x y : PM.Pa} (hx : x ≠ []) (hy : y ≠ []) (vx : PM.Val kinds tops x) (vy : PM.Val kinds tops y) :
    RF m_starts_before [.sh (planV kinds tops), .sh (modeD m), .sh (encA x), .sh (encA y)] fun r fin => r = .sh (.bl (decide (numM kinds tops m x < numM kinds tops m y))) ∧ fin = [some (.sh (planV kinds tops)), some (.sh (modeD m)), some (.sh (encA x)), some (.sh (encA y))] := by
  refine RF_def rfl (by walk_at "nrm") ?_
  repeat walk_at "vw"
  refine RF.mono (start_number_ok h m hx vx) ?_
  rintro r fin ⟨rfl, rfl⟩
  repeat walk_at "vw"
  refine RF.mono (start_number_ok h m hy vy) ?_
  rintro r fin ⟨rfl, rfl⟩
  repeat walk_at "vw"
  rfl
/-- task_at of a known number -/
theorem task_at_num {kinds : List Ty} {tops : List En} (h : PP kinds tops) (m : Bool) {q : PM.Pa} (hq : q ≠ []) (hv : PM.Val kinds tops q) :
    RF m_task_at [.sh (planV kinds tops), .sh (modeD m), .sh (.int (numM kinds tops m q))] fun r fin => r = .sh (encA q) ∧ fin = [some (.sh (planV kinds tops)), some (.sh (modeD m)), some (.sh (.int (numM kinds tops m q)))] := by
  have hr := numM_range h m hq hv
  refine RF.mono (task_at_ok h m hr.1 hr.2) ?_
  rintro r fin ⟨q', rfl, hq', _, hv', hn, rfl⟩
  rw [numM_inj h m hq' hq hv' hv hn]
  exact ⟨rfl, rfl⟩
end Pg

namespace Pg
open PySem PySem.Spec L2 VS
local macro_rules | `(tactic| walk_at "gt") => `(tactic| (simp only [gT, gsCons, gN, gsNil, Option.bind_some, List.length_cons, List.length_nil, List.set_cons_zero, List.set_cons_succ, Nat.reduceAdd, if_true] <;> exact rfl))
local macro_rules | `(tactic| walk_at "nrm") => `(tactic| (simp only [List.set_cons_zero, List.set_cons_succ, List.map_cons, List.map_nil, List.length_cons, List.length_nil, List.replicate, List.cons_append, List.nil_append, Nat.reduceSub, selM, ins, O.fz, wipeD, savD, unwD, List.getElem?_cons_zero, List.getElem?_cons_succ, Option.join_some, Option.join_none] <;> exact rfl))
local macro_rules | `(tactic| walk_at "vw") => `(tactic| first
  | with_reducible refine RX_x2 ?_ | with_reducible refine RX_C ?_ | with_reducible refine RX_Vs rfl ?_ | with_reducible refine RX_Va rfl rfl ?_
  | with_reducible refine RV_sh _ ?_ | with_reducible refine RV_val _ ?_ | with_reducible refine RV_at _ rfl ?_
  | with_reducible refine RK_val _ ?_ | with_reducible refine RK_at _ rfl (by walk_at "nrm") ?_
  | with_reducible refine RS_seq ?_ | with_reducible refine thenS_nx ?_ | with_reducible refine thenS_rt ?_ | with_reducible refine loopS_nx ?_ | with_reducible refine loopS_rt ?_ | with_reducible refine loopS_ct ?_ | with_reducible refine loopS_bk ?_ | with_reducible refine thenS_bk ?_ | with_reducible refine thenS_ct ?_ | with_reducible refine endF_rt (by walk_at "nrm") ?_ | with_reducible refine endF_nx (by walk_at "nrm") ?_
  | with_reducible refine RS_set ?_ | with_reducible refine RS_ret ?_ | with_reducible refine RS_if ?_ | with_reducible refine RS_expr ?_ | with_reducible refine RS_sub ?_ | with_reducible refine RS_attr ?_ | with_reducible refine RS_nil ?_ | with_reducible refine RS_par ?_ | with_reducible refine RS_asg ?_
  | with_reducible refine RX_call ?_ | with_reducible refine RX_bi ?_ | with_reducible refine RX_x1 ?_ | with_reducible refine RX_tup ?_ | with_reducible refine RX_lst ?_
  | with_reducible refine RA_f ?_ | with_reducible refine RA_t ?_ | with_reducible refine RA_nil ?_ | with_reducible refine RB_cons ?_ | with_reducible refine RB_nil ?_
  | with_reducible refine RT_Y ?_ | with_reducible refine RT_tB ?_ | with_reducible refine RT_not ?_ | with_reducible refine RT_and ?_ | with_reducible refine RT_or ?_ | with_reducible refine RX_and ?_ | with_reducible refine RX_or ?_ | with_reducible refine RX_not ?_ | with_reducible refine RX_if ?_ | with_reducible refine RX_ch ?_
  | with_reducible refine CB_t ?_ | with_reducible refine CB_f ?_ | with_reducible refine CB_n ?_
  | with_reducible refine RX_mut rfl rfl ?_ | with_reducible refine RS_for ?_ | with_reducible refine RI_enmU ?_ | with_reducible refine RI_seq ?_ | with_reducible refine RI_rg1 ?_ | with_reducible refine RI_rg3 ?_ | with_reducible refine RX_lc ?_ | with_reducible refine RX_dc ?_ | with_reducible refine RX_dK ?_ | with_reducible refine RX_sl ?_ | with_reducible refine RO_N ?_ | with_reducible refine RO_E ?_ | with_reducible refine RX_fld ?_ | with_reducible refine RX_meth ?_ | with_reducible refine RX_make ?_ | with_reducible refine RX_o2 ?_
  | with_reducible refine R1_of _ (opMod_int (by decide)) ?_ | with_reducible refine R1_of _ (opDiv_int (by decide)) ?_ | with_reducible refine R1_of _ (opMul_l (by first | decide | omega)) ?_ | with_reducible refine R1_of _ (opMul_r (by first | decide | omega)) ?_ | with_reducible refine R1_of _ (opPow_ok (by first | decide | omega)) ?_
  | refine R1_of _ rfl ?_
  | (fail_if_success (with_reducible refine RF_id ?_)); (fail_if_success (with_reducible refine RL_id ?_)); (fail_if_success (with_reducible refine RS_whid ?_)); (fail_if_success (with_reducible refine inR_id ?_)); first | refine ⟨_, by walk_at "nrm", ?_⟩ | refine ⟨_, _, rfl, ?_⟩ | refine ⟨_, rfl, ?_⟩ | refine ⟨rfl, ?_⟩ | refine ⟨Nat.le_of_ble_eq_true rfl, ?_⟩ | refine ⟨_, _, rfl, rfl, ?_⟩)
theorem mMin2 (i j : Int) : mMin [.int i, .int j] = some (.sh (.int (if j < i then j else i))) := rfl
theorem level_starts_ok {kinds : List Ty} {tops : List En} (h : PP kinds tops) {l : Nat} (hl : l ≤ 1000) :
    RF m_level_starts [.sh (planV kinds tops), .sh (.int l)] fun r fin => r = .sh (.tup [.int (PM.sumN (PM.ltot kinds tops) l), .int (PM.sumN (PM.ltot kinds tops) (l + 1))]) ∧ fin = [some (.sh (planV kinds tops)), some (.sh (.int l))] := by
  have hlv := h.levs
  refine RF_def rfl (by walk_at "nrm") ?_
  repeat walk_at "vw"
  refine RF.mono (least_ok (by omega)) ?_
  rintro r fin ⟨rfl, rfl⟩
  repeat walk_at "vw"
  refine RF.mono (level_count_ok (fun e he => (h.te e he).1) (by have := h.tl; omega)) ?_
  rintro r fin ⟨rfl, rfl⟩
  repeat walk_at "vw"
  obtain ⟨m, hm, hm2, hm3⟩ : ∃ m : Nat, (if ((levs kinds tops : Nat) : Int) < (l : Int) then ((levs kinds tops : Nat) : Int) else (l : Int)) = (m : Int) ∧ m ≤ 1000 ∧ PM.sumN (PM.ltot kinds tops) m = PM.sumN (PM.ltot kinds tops) l := by
    by_cases c : levs kinds tops < l
    · refine ⟨levs kinds tops, by rw [if_pos (by omega)], ?_, (PM.sumN_more (Nat.le_of_lt c) fun i hi => PM.ltot_big h.ok h.okE hi).symm⟩
      unfold levs
      omega
    · exact ⟨l, by rw [if_neg (by omega)], hl, rfl⟩
  rw [hm]
  refine RF.mono (first_of_ok h hm2) ?_
  rintro r fin ⟨rfl, rfl⟩
  repeat walk_at "vw"
  refine RF.mono (level_total_ok h l) ?_
  rintro r fin ⟨rfl, rfl⟩
  repeat walk_at "vw"
  rw [hm3]
  exact ⟨rfl, rfl⟩
end Pg

namespace Pg
open PySem PySem.Spec L2 VS
local macro_rules | `(tactic| walk_at "gt") => `(tactic| (simp only [gT, gsCons, gN, gsNil, Option.bind_some, List.length_cons, List.length_nil, List.set_cons_zero, List.set_cons_succ, Nat.reduceAdd, if_true] <;> exact rfl))
local macro_rules | `(tactic| walk_at "nrm") => `(tactic| (simp only [List.set_cons_zero, List.set_cons_succ, List.map_cons, List.map_nil, List.length_cons, List.length_nil, List.replicate, List.cons_append, List.nil_append, Nat.reduceSub, selM, ins, O.fz, wipeD, savD, unwD, List.getElem?_cons_zero, List.getElem?_cons_succ, Option.join_some, Option.join_none] <;> exact rfl))
local macro_rules | `(tactic| walk_at "vw") => `(tactic| first
  | with_reducible refine RX_x2 ?_ | with_reducible refine RX_C ?_ | with_reducible refine RX_Vs rfl ?_ | with_reducible refine RX_Va rfl rfl ?_
  | with_reducible refine RV_sh _ ?_ | with_reducible refine RV_val _ ?_ | with_reducible refine RV_at _ rfl ?_
  | with_reducible refine RK_val _ ?_ | with_reducible refine RK_at _ rfl (by walk_at "nrm") ?_
  | with_reducible refine RS_seq ?_ | with_reducible refine thenS_nx ?_ | with_reducible refine thenS_rt ?_ | with_reducible refine loopS_nx ?_ | with_reducible refine loopS_rt ?_ | with_reducible refine loopS_ct ?_ | with_reducible refine loopS_bk ?_ | with_reducible refine thenS_bk ?_ | with_reducible refine thenS_ct ?_ | with_reducible refine endF_rt (by walk_at "nrm") ?_ | with_reducible refine endF_nx (by walk_at "nrm") ?_
  | with_reducible refine RS_set ?_ | with_reducible refine RS_ret ?_ | with_reducible refine RS_if ?_ | with_reducible refine RS_expr ?_ | with_reducible refine RS_sub ?_ | with_reducible refine RS_attr ?_ | with_reducible refine RS_nil ?_ | with_reducible refine RS_par ?_ | with_reducible refine RS_asg ?_
  | with_reducible refine RX_call ?_ | with_reducible refine RX_bi ?_ | with_reducible refine RX_x1 ?_ | with_reducible refine RX_tup ?_ | with_reducible refine RX_lst ?_
  | with_reducible refine RA_f ?_ | with_reducible refine RA_t ?_ | with_reducible refine RA_nil ?_ | with_reducible refine RB_cons ?_ | with_reducible refine RB_nil ?_
  | with_reducible refine RT_Y ?_ | with_reducible refine RT_tB ?_ | with_reducible refine RT_not ?_ | with_reducible refine RT_and ?_ | with_reducible refine RT_or ?_ | with_reducible refine RX_and ?_ | with_reducible refine RX_or ?_ | with_reducible refine RX_not ?_ | with_reducible refine RX_if ?_ | with_reducible refine RX_ch ?_
  | with_reducible refine CB_t ?_ | with_reducible refine CB_f ?_ | with_reducible refine CB_n ?_
  | with_reducible refine RX_mut rfl rfl ?_ | with_reducible refine RS_for ?_ | with_reducible refine RI_enmU ?_ | with_reducible refine RI_seq ?_ | with_reducible refine RI_rg1 ?_ | with_reducible refine RI_rg3 ?_ | with_reducible refine RX_lc ?_ | with_reducible refine RX_dc ?_ | with_reducible refine RX_dK ?_ | with_reducible refine RX_sl ?_ | with_reducible refine RO_N ?_ | with_reducible refine RO_E ?_ | with_reducible refine RX_fld ?_ | with_reducible refine RX_meth ?_ | with_reducible refine RX_make ?_ | with_reducible refine RX_o2 ?_
  | with_reducible refine R1_of _ (opMod_int (by decide)) ?_ | with_reducible refine R1_of _ (opDiv_int (by decide)) ?_ | with_reducible refine R1_of _ (opMul_l (by first | decide | omega)) ?_ | with_reducible refine R1_of _ (opMul_r (by first | decide | omega)) ?_ | with_reducible refine R1_of _ (opPow_ok (by first | decide | omega)) ?_
  | refine R1_of _ rfl ?_
  | (fail_if_success (with_reducible refine RF_id ?_)); (fail_if_success (with_reducible refine RL_id ?_)); (fail_if_success (with_reducible refine RS_whid ?_)); (fail_if_success (with_reducible refine inR_id ?_)); first | refine ⟨_, by walk_at "nrm", ?_⟩ | refine ⟨_, _, rfl, ?_⟩ | refine ⟨_, rfl, ?_⟩ | refine ⟨rfl, ?_⟩ | refine ⟨Nat.le_of_ble_eq_true rfl, ?_⟩ | refine ⟨_, _, rfl, rfl, ?_⟩)
theorem check_types2_ok {kinds : List Ty} {tops : List En} (h : PP kinds tops) : RF m_check_types [.lst (kinds.map encT)] fun r fin => r = .sh .non ∧ fin = [some (.sh (.lst (kinds.map encT)))] := by
  have hn : ∀ s ∈ kinds.map (·.1), NOk s := fun s hs => by obtain ⟨t, ht, rfl⟩ := List.mem_map.mp hs; exact (h.tk t ht).1
  refine RF_def rfl (by walk_at "nrm") ?_
  repeat walk_at "vw"
  refine CB_yes (by have := h.l1; simp; omega) ?_
  repeat walk_at "vw"
  refine CB_yes (by have := h.l2; simp; omega) ?_
  repeat walk_at "vw"
  refine RL_enum (fun done δ => ∃ j2 j3, δ = [some (.sh (.lst (kinds.map encT))), some (.lst ((done.map (·.1)).map D.str)), j2, j3, none, none]) ⟨_, _, rfl⟩ ?_ ?_
  · rintro done x rest δ hl ⟨j2, j3, rfl⟩
    have hx : x ∈ kinds := by rw [hl]; simp
    refine ⟨_, by walk_at "gt", ?_⟩
    repeat walk_at "vw"
    refine RF.mono (type_ok (h.tk x hx)) ?_
    rintro r fin ⟨rfl, rfl⟩
    repeat walk_at "vw"
    refine R1_of _ (opInV_strs (h.tk x hx).1 fun s hs => hn s (by rw [hl]; simp at hs ⊢; exact .inl hs)) ?_
    repeat walk_at "vw"
    refine CB_no ?_ ?_
    · have q := h.nd
      rw [hl, List.map_append] at q
      have := (List.nodup_append.mp q).2.2
      simp only [decide_eq_false_iff_not]
      intro hm
      exact this x.1 hm x.1 (by simp) rfl
    repeat walk_at "vw"
    have hdl : done.length < 40 := by have a1 := congrArg List.length hl; have a2 := h.l2; simp at a1; omega
    refine ⟨_, mApp_ok (by simp; omega), ?_⟩
    repeat walk_at "vw"
    exact ⟨_, _, by rw [List.map_append, List.map_append]; rfl⟩
  · rintro δ ⟨j2, j3, rfl⟩
    repeat walk_at "vw"
    refine RL_enum (fun done δ => ∃ j2 j3, δ = [some (.sh (.lst (kinds.map encT))), some (.lst ((kinds.map (·.1)).map D.str)), j2, j3, none, none]) ⟨_, _, rfl⟩ ?_ ?_
    · rintro done x rest δ hl ⟨j2, j3, rfl⟩
      have hx : x ∈ kinds := by rw [hl]; simp
      refine ⟨_, by walk_at "gt", ?_⟩
      repeat walk_at "vw"
      refine ⟨by rw [List.length_map]; exact sl_le (by have := (h.tk x hx).2.1; omega), ?_⟩
      have hL : cutL ((kinds.map (·.1)).map D.str) (some ((done.length : Int) + 1)) none = ((kinds.map (·.1)).drop (done.length + 1)).map D.str := by
        rw [cutL_drop _ (by omega), ← List.map_drop]
        congr 2
      refine RC_map (g := fun _ => D.bl true) (fun e he => ?_) ?_
      · refine ⟨_, by walk_at "gt", ?_⟩
        repeat walk_at "vw"
        rw [hL]
        refine R1_of _ (opInV_strs ((h.tk x hx).2.2 e he).1 fun s hs => hn s (List.mem_of_mem_drop hs)) ?_
        have hxi : kinds[done.length]? = some x := by rw [hl]; simp
        rw [decide_eq_true (h.ent _ x hxi e he)]
        repeat walk_at "vw"
        walk_at "nrm"
      · repeat walk_at "vw"
        refine R1_of _ (all_true _) ?_
        repeat walk_at "vw"
        exact ⟨_, _, rfl⟩
    · rintro δ ⟨j2, j3, rfl⟩
      repeat walk_at "vw"
      rfl

theorem init2_ok {kinds : List Ty} {tops : List En} (h : PP kinds tops) {o : O} (ho : o = .lst (tops.map encE) ∨ o = .sh (.lst (tops.map encE))) :
    RF m_Plan___init__ [.obj "Plan" [], .lst (kinds.map encT), o] fun r fin => r = .sh .non ∧ ∃ self rest, fin = some self :: rest ∧ rest.length = 2 ∧ self.fz = planV kinds tops := by
  have hkk : (kinds.map fun t : Ty => (Sum.inr t.1 : Key)).Nodup := by
    have := h.nd
    rw [List.Nodup, List.pairwise_map] at this ⊢
    exact this.imp fun {a b} q e => q (Sum.inr.inj e)
  rcases ho with rfl | rfl <;>
  · refine RF_def rfl (by walk_at "nrm") ?_
    repeat walk_at "vw"
    refine RF.mono (check_types2_ok h) ?_
    rintro r fin ⟨rfl, rfl⟩
    repeat walk_at "vw"
    refine ⟨by rw [List.length_map]; exact sl_le (by have := h.l2; omega), ?_⟩
    refine RC_map (g := fun t : Ty => D.str t.1) (fun t ht => ?_) ?_
    · refine ⟨_, by rw [show encT t = .tup [.str t.1, .lst (t.2.map encE)] from rfl]; walk_at "gt", ?_⟩
      repeat walk_at "vw"
      walk_at "nrm"
    rw [show (kinds.map fun t : Ty => D.str t.1) = (kinds.map (·.1)).map D.str by rw [List.map_map]; rfl]
    repeat walk_at "vw"
    refine RF.mono (check_roots_ok h (by first | exact .inl rfl | exact .inr rfl)) ?_
    rintro r fin ⟨rfl, j, rfl⟩
    repeat walk_at "vw"
    refine ⟨by rw [List.length_map]; exact sl_le (by have := h.l2; omega), _, _, dc_new (key := fun t : Ty => .inr t.1) (g := fun t : Ty => .lst (t.2.map encE)) hkk (fun t ht => ?_), ?_⟩
    · refine ⟨_, by rw [show encT t = .tup [.str t.1, .lst (t.2.map encE)] from rfl]; walk_at "gt", ?_⟩
      repeat walk_at "vw"
      first | exact ⟨rfl, rfl, by walk_at "nrm"⟩ | exact ⟨rfl, by walk_at "nrm"⟩ | walk_at "nrm"
    repeat walk_at "vw"
    refine RF.mono (tables_ok h) ?_
    rintro r fin ⟨rfl, rfl⟩
    repeat walk_at "vw"
    first | exact ⟨_, _, rfl, rfl, rfl⟩ | rfl

end Pg

namespace Pg
open PySem PySem.Spec L2 VS
/-! ### a queue played: its order is that of the numbers -/
/-- every number is that of a task -/
theorem num_onto {kinds : List Ty} {tops : List En} (h : PP kinds tops) (m : Bool) {n : Int} (h0 : 0 ≤ n) (h1 : n < PM.sumE (PM.size kinds) tops) : ∃ q : PM.Pa, q ≠ [] ∧ PM.Val kinds tops q ∧ numM kinds tops m q = n := by
  obtain ⟨r, fin, _, q, _, hq, _, hv, hn, _⟩ := task_at_ok h m h0 h1
  exact ⟨q, hq, hv, hn⟩
/-- R have started, W wait -/
def QI (kinds : List Ty) (tops : List En) : Bool → List PM.Pa → List PM.Pa → Prop
  | true, R, W => PM.Que kinds tops (PM.dueL kinds tops) (PM.dueL kinds tops) R W ∧ PM.From kinds tops R W
  | false, R, W => PM.Que kinds tops (PM.dueD kinds tops) PM.brD R W.reverse
theorem QI_0 {kinds : List Ty} {tops : List En} (h : PP kinds tops) (m : Bool) : QI kinds tops m [] (PM.kids [] 0 tops) := by
  cases m with
  | true => exact PM.Que.fifo0 h.ok h.okE
  | false => exact PM.Que.lifo0 h.ok h.okE
/-- the next one to leave, and the rest -/
def popQ (m : Bool) (q : PM.Pa) (S : List PM.Pa) : List PM.Pa := if m then q :: S else S ++ [q]
theorem QI_step {kinds : List Ty} {tops : List En} (h : PP kinds tops) {m : Bool} {R S : List PM.Pa} {q : PM.Pa} (Q : QI kinds tops m R (popQ m q S)) : QI kinds tops m (R ++ [q]) (S ++ PM.kids q 0 (PM.rowsP kinds tops q)) := by
  cases m with
  | true => exact PM.Que.fifo h.ok h.okE Q.1 Q.2
  | false =>
    have Q2 : PM.Que kinds tops (PM.dueD kinds tops) PM.brD R (q :: S.reverse) := by
      have : PM.Que kinds tops (PM.dueD kinds tops) PM.brD R (S ++ [q]).reverse := Q
      simpa using this
    have := PM.Que.lifo h.ok h.okE Q2
    show PM.Que kinds tops (PM.dueD kinds tops) PM.brD (R ++ [q]) (S ++ PM.kids q 0 (PM.rowsP kinds tops q)).reverse
    rw [List.reverse_append]
    exact this
theorem QI_val {kinds : List Ty} {tops : List En} {m : Bool} {R W : List PM.Pa} (Q : QI kinds tops m R W) {q : PM.Pa} (hq : q ∈ R ∨ q ∈ W) : q ≠ [] ∧ PM.Val kinds tops q := by
  cases m with
  | true => exact Q.1.ok q (by simpa using hq)
  | false => exact PM.Que.ok Q q (by simpa using hq)
theorem Que_num {kinds : List Ty} {tops : List En} (h : PP kinds tops) {m : Bool} {lt wt : PM.Pa → PM.Pa → Prop} {R S : List PM.Pa} (Q : PM.Que kinds tops lt wt R S) (h1 : ∀ x y, lt x y → numM kinds tops m x < numM kinds tops m y) (h2 : ∀ x y, PM.Val kinds tops x → PM.Val kinds tops y → wt x y → numM kinds tops m x < numM kinds tops m y) :
    ((R ++ S).map (numM kinds tops m)).Pairwise (· < ·) := by
  rw [List.pairwise_map]
  refine List.pairwise_append.mpr ⟨Q.rr.imp fun {a b} => h1 a b, ?_, fun x hx y hy => h1 x y (Q.rs x hx y hy)⟩
  exact List.Pairwise.imp_of_mem (fun {a b} ha hb => h2 a b (Q.ok a (by simp [ha])).2 (Q.ok b (by simp [hb])).2) Q.ss
theorem total_nn {kinds : List Ty} {tops : List En} (h : PP kinds tops) : 0 ≤ PM.sumE (PM.size kinds) tops := h.okE.sumS h.ok
theorem QI_num {kinds : List Ty} {tops : List En} (h : PP kinds tops) {m : Bool} {R W : List PM.Pa} (Q : QI kinds tops m R W) : ((R ++ if m then W else W.reverse).map (numM kinds tops m)).Pairwise (· < ·) := by
  cases m with
  | true => exact Que_num h Q.1 (fun x y q => q) fun x y _ _ q => q
  | false => exact Que_num h (S := W.reverse) Q (fun x y q => q) fun x y vx vy q => PM.rkD_lt h.ok h.okE vx vy (PM.brD_lt q)
theorem QI_len {kinds : List Ty} {tops : List En} (h : PP kinds tops) {m : Bool} {R W : List PM.Pa} (Q : QI kinds tops m R W) : (R.length : Int) + W.length ≤ PM.sumE (PM.size kinds) tops := by
  have g := PM.grow_len (a := 0) (b := PM.sumE (PM.size kinds) tops) (QI_num h Q) (fun x hx => by
    obtain ⟨q, hq, rfl⟩ := List.mem_map.mp hx
    have o := QI_val Q (q := q) (by cases m <;> simpa using hq)
    exact numM_range h m o.1 o.2) (total_nn h)
  cases m <;> simp at g <;> omega
theorem QI_end {kinds : List Ty} {tops : List En} (h : PP kinds tops) {m : Bool} {R : List PM.Pa} (Q : QI kinds tops m R []) : (R.length : Int) = PM.sumE (PM.size kinds) tops ∧ ∀ (j : Nat) q, R[j]? = some q → q ≠ [] ∧ PM.Val kinds tops q ∧ numM kinds tops m q = j := by
  have hp := QI_num h Q
  have e : (R ++ if m then ([] : List PM.Pa) else [].reverse) = R := by cases m <;> simp
  rw [e] at hp
  have hall : ∀ q : PM.Pa, q ≠ [] → PM.Val kinds tops q → q ∈ R := fun q hq hv => by
    cases m with
    | true => exact Q.1.all q.length q rfl hq hv
    | false => exact PM.Que.all Q q.length q rfl hq hv
  have g := PM.grow_at (a := 0) (b := PM.sumE (PM.size kinds) tops) hp (fun x hx => by
    obtain ⟨q, hq, rfl⟩ := List.mem_map.mp hx
    have o := QI_val Q (.inl hq)
    exact numM_range h m o.1 o.2) (fun n h0 h1 => by
    obtain ⟨q, hq, hv, rfl⟩ := num_onto h m h0 h1
    exact List.mem_map_of_mem (hall q hq hv)) (total_nn h)
  refine ⟨by have := g.1; rw [List.length_map] at this; omega, fun j q hq => ?_⟩
  have o := QI_val Q (.inl (List.mem_of_getElem? hq))
  have := g.2 j (numM kinds tops m q) (by rw [List.getElem?_map, hq]; rfl)
  exact ⟨o.1, o.2, by omega⟩
end Pg

namespace Pg
open PySem PySem.Spec L2 VS
/-- a list of all tasks in the order of their starts -/
structure Ord (kinds : List Ty) (tops : List En) (m : Bool) (R : List PM.Pa) : Prop where
  len : (R.length : Int) = PM.sumE (PM.size kinds) tops
  at_ : ∀ (j : Nat) q, R[j]? = some q → q ≠ [] ∧ PM.Val kinds tops q ∧ numM kinds tops m q = j
theorem Ord.ok {kinds : List Ty} {tops : List En} {m : Bool} {R : List PM.Pa} (o : Ord kinds tops m R) {q : PM.Pa} (hq : q ∈ R) : q ≠ [] ∧ PM.Val kinds tops q := by
  obtain ⟨j, hj⟩ := List.getElem?_of_mem hq
  exact ⟨(o.at_ j q hj).1, (o.at_ j q hj).2.1⟩
theorem Ord.get {kinds : List Ty} {tops : List En} (h : PP kinds tops) {m : Bool} {R : List PM.Pa} (o : Ord kinds tops m R) {q : PM.Pa} (hq : q ≠ []) (hv : PM.Val kinds tops q) {j : Nat} (hn : numM kinds tops m q = j) : R[j]? = some q := by
  have r := numM_range h m hq hv
  have l := o.len
  have hj : j < R.length := by omega
  have e : R[j]? = some R[j] := List.getElem?_eq_getElem hj
  have a := o.at_ j _ e
  rw [e, numM_inj h m a.1 hq a.2.1 hv (by rw [a.2.2, hn])]
theorem Ord.all {kinds : List Ty} {tops : List En} (h : PP kinds tops) {m : Bool} {R : List PM.Pa} (o : Ord kinds tops m R) {q : PM.Pa} (hq : q ≠ []) (hv : PM.Val kinds tops q) : q ∈ R := by
  have r := numM_range h m hq hv
  exact List.mem_of_getElem? (o.get h hq hv (j := (numM kinds tops m q).toNat) (by omega))
theorem Ord.nodup {kinds : List Ty} {tops : List En} {m : Bool} {R : List PM.Pa} (o : Ord kinds tops m R) : R.Nodup := by
  rw [List.Nodup, List.pairwise_iff_getElem]
  intro i j hi hj hij e
  have a := (o.at_ i _ (List.getElem?_eq_getElem hi)).2.2
  have b := (o.at_ j _ (List.getElem?_eq_getElem hj)).2.2
  rw [e] at a
  omega
theorem len_of_all {l : List Int} {b : Int} (hn : l.Nodup) (hr : ∀ x ∈ l, 0 ≤ x ∧ x < b) (ha : ∀ n, 0 ≤ n → n < b → n ∈ l) (hb : 0 ≤ b) : (l.length : Int) = b := by
  have hp : l.Perm ((List.range b.toNat).map fun i : Nat => (i : Int)) := by
    refine (List.perm_ext_iff_of_nodup hn ?_).mpr fun x => ⟨fun hx => ?_, fun hx => ?_⟩
    · rw [List.Nodup, List.pairwise_map]
      exact List.nodup_range.imp fun {a b} q e => q (Int.ofNat_inj.mp e)
    · have := hr x hx
      exact List.mem_map.mpr ⟨x.toNat, List.mem_range.mpr (by omega), by omega⟩
    · obtain ⟨i, hi, rfl⟩ := List.mem_map.mp hx
      have := List.mem_range.mp hi
      exact ha _ (by omega) (by omega)
  have := hp.length_eq
  rw [List.length_map, List.length_range] at this
  omega
/-- the tasks of the first levels -/
theorem Ord.levels {kinds : List Ty} {tops : List En} (h : PP kinds tops) {m : Bool} {R : List PM.Pa} (o : Ord kinds tops m R) (d : Nat) : (((R.filter fun q => decide (q.length ≤ d)).length : Nat) : Int) = PM.sumN (PM.ltot kinds tops) d := by
  have nn := PM.ltot_nonneg h.ok h.okE
  have key := len_of_all (l := (R.filter fun q => decide (q.length ≤ d)).map (PM.numL kinds tops)) (b := PM.sumN (PM.ltot kinds tops) d) ?_ ?_ ?_ (PM.sumN_nonneg nn d)
  · rwa [List.length_map] at key
  · rw [List.Nodup, List.pairwise_map]
    have nd : (R.filter fun q => decide (q.length ≤ d)).Nodup := o.nodup.filter _
    exact List.Pairwise.imp_of_mem (fun {a b} ha hb q e => by
      have oa := o.ok (List.mem_filter.mp ha).1
      have ob := o.ok (List.mem_filter.mp hb).1
      exact q (PM.numL_inj h.ok h.okE oa.1 ob.1 oa.2 ob.2 e)) nd
  · intro x hx
    obtain ⟨q, hq, rfl⟩ := List.mem_map.mp hx
    have hq2 := List.mem_filter.mp hq
    have oq := o.ok hq2.1
    have r := PM.numL_range h.ok h.okE oq.1 oq.2
    have := PM.sumN_mono nn (show q.length ≤ d from of_decide_eq_true hq2.2)
    omega
  · intro n h0 h1
    have t := PM.total_levels h.ok h.okE (n := max d (PM.mxl kinds tops)) (by omega)
    have := PM.sumN_mono nn (show d ≤ max d (PM.mxl kinds tops) by omega)
    obtain ⟨q, hq, hv, hn⟩ := num_onto h true h0 (by omega)
    have hn2 : PM.numL kinds tops q = n := hn
    refine List.mem_map.mpr ⟨q, List.mem_filter.mpr ⟨o.all h hq hv, decide_eq_true ?_⟩, hn2⟩
    rcases Nat.lt_or_ge d q.length with c | c
    · have r := PM.numL_range h.ok h.okE hq hv
      have := PM.sumN_mono nn (show d ≤ q.length - 1 by omega)
      omega
    · exact c
end Pg

namespace Lk11
open PySem PySem.Spec PyProof.Rows L2 VS Pg
def top (i : Nat) : Stmt := PySem.Challenge.pw_stuckpools_k11_next_starts_and_levels.main.body.getD i (.Pass ⟨0, 0, 0, 0⟩)
abbrev s__law_cell_at : Stmt := top 46
def d__law_cell_at : He.DefD := ⟨("_law_cell_at", none), "_law_cell_at", "_law_cell_at", defArgs s__law_cell_at, defBody s__law_cell_at, defScope s__law_cell_at, [], []⟩
abbrev s__law_source_of : Stmt := top 47
def d__law_source_of : He.DefD := ⟨("_law_source_of", none), "_law_source_of", "_law_source_of", defArgs s__law_source_of, defBody s__law_source_of, defScope s__law_source_of, [], []⟩
abbrev s__law_draw : Stmt := top 48
def d__law_draw : He.DefD := ⟨("_law_draw", none), "_law_draw", "_law_draw", defArgs s__law_draw, defBody s__law_draw, defScope s__law_draw, [], []⟩
abbrev s__law_shuffled : Stmt := top 50
def d__law_shuffled : He.DefD := ⟨("_law_shuffled", none), "_law_shuffled", "_law_shuffled", defArgs s__law_shuffled, defBody s__law_shuffled, defScope s__law_shuffled, [], []⟩
abbrev s__law_choice : Stmt := top 49
def d__law_choice : He.DefD := ⟨("_law_choice", none), "_law_choice", "_law_choice", defArgs s__law_choice, defBody s__law_choice, defScope s__law_choice, [], []⟩
abbrev s__law_size : Stmt := top 51
def d__law_size : He.DefD := ⟨("_law_size", none), "_law_size", "_law_size", defArgs s__law_size, defBody s__law_size, defScope s__law_size, [], []⟩
abbrev s__law_parts : Stmt := top 52
def d__law_parts : He.DefD := ⟨("_law_parts", none), "_law_parts", "_law_parts", defArgs s__law_parts, defBody s__law_parts, defScope s__law_parts, [], []⟩
abbrev s_is_name : Stmt := top 36
def d_is_name : He.DefD := ⟨("is_name", none), "is_name", "is_name", defArgs s_is_name, defBody s_is_name, defScope s_is_name, [], []⟩
abbrev s_is_integer : Stmt := top 10
def d_is_integer : He.DefD := ⟨("is_integer", none), "is_integer", "is_integer", defArgs s_is_integer, defBody s_is_integer, defScope s_is_integer, [], []⟩
abbrev s_is_between : Stmt := top 11
def d_is_between : He.DefD := ⟨("is_between", none), "is_between", "is_between", defArgs s_is_between, defBody s_is_between, defScope s_is_between, [], []⟩
abbrev s_is_entry : Stmt := top 37
def d_is_entry : He.DefD := ⟨("is_entry", none), "is_entry", "is_entry", defArgs s_is_entry, defBody s_is_entry, defScope s_is_entry, [], []⟩
abbrev s_is_type : Stmt := top 38
def d_is_type : He.DefD := ⟨("is_type", none), "is_type", "is_type", defArgs s_is_type, defBody s_is_type, defScope s_is_type, [], []⟩
abbrev s_check_types : Stmt := top 39
def d_check_types : He.DefD := ⟨("check_types", none), "check_types", "check_types", defArgs s_check_types, defBody s_check_types, defScope s_check_types, [], []⟩
abbrev s_check_roots : Stmt := top 40
def d_check_roots : He.DefD := ⟨("check_roots", none), "check_roots", "check_roots", defArgs s_check_roots, defBody s_check_roots, defScope s_check_roots, [], []⟩
abbrev s_table_of : Stmt := top 41
def d_table_of : He.DefD := ⟨("table_of", none), "table_of", "table_of", defArgs s_table_of, defBody s_table_of, defScope s_table_of, [], []⟩
abbrev s_all_tables : Stmt := top 42
def d_all_tables : He.DefD := ⟨("all_tables", none), "all_tables", "all_tables", defArgs s_all_tables, defBody s_all_tables, defScope s_all_tables, [], []⟩
abbrev s_Plan___init__ : Stmt := inClass (top 44) 0
def d_Plan___init__ : He.DefD := ⟨("Plan", some "__init__"), "__init__", "Plan.__init__", defArgs s_Plan___init__, defBody s_Plan___init__, defScope s_Plan___init__, [], []⟩
abbrev s__law_listed : Stmt := top 53
def d__law_listed : He.DefD := ⟨("_law_listed", none), "_law_listed", "_law_listed", defArgs s__law_listed, defBody s__law_listed, defScope s__law_listed, [], []⟩
abbrev s__law_name : Stmt := top 54
def d__law_name : He.DefD := ⟨("_law_name", none), "_law_name", "_law_name", defArgs s__law_name, defBody s__law_name, defScope s__law_name, [], []⟩
abbrev s__law_below : Stmt := top 55
def d__law_below : He.DefD := ⟨("_law_below", none), "_law_below", "_law_below", defArgs s__law_below, defBody s__law_below, defScope s__law_below, [], []⟩
abbrev s__law_order : Stmt := top 56
def d__law_order : He.DefD := ⟨("_law_order", none), "_law_order", "_law_order", defArgs s__law_order, defBody s__law_order, defScope s__law_order, [], []⟩
abbrev s_check_discipline : Stmt := top 16
def d_check_discipline : He.DefD := ⟨("check_discipline", none), "check_discipline", "check_discipline", defArgs s_check_discipline, defBody s_check_discipline, defScope s_check_discipline, [], []⟩
abbrev s_Plan_root_entries : Stmt := inClass (top 44) 10
def d_Plan_root_entries : He.DefD := ⟨("Plan", some "root_entries"), "root_entries", "Plan.root_entries", defArgs s_Plan_root_entries, defBody s_Plan_root_entries, defScope s_Plan_root_entries, [], []⟩
abbrev s_is_step : Stmt := top 17
def d_is_step : He.DefD := ⟨("is_step", none), "is_step", "is_step", defArgs s_is_step, defBody s_is_step, defScope s_is_step, [], []⟩
abbrev s_Plan___contains__ : Stmt := inClass (top 44) 4
def d_Plan___contains__ : He.DefD := ⟨("Plan", some "__contains__"), "__contains__", "Plan.__contains__", defArgs s_Plan___contains__, defBody s_Plan___contains__, defScope s_Plan___contains__, [], []⟩
abbrev s_Plan_check_name : Stmt := inClass (top 44) 11
def d_Plan_check_name : He.DefD := ⟨("Plan", some "check_name"), "check_name", "Plan.check_name", defArgs s_Plan_check_name, defBody s_Plan_check_name, defScope s_Plan_check_name, [], []⟩
abbrev s_Plan_entries_of : Stmt := inClass (top 44) 12
def d_Plan_entries_of : He.DefD := ⟨("Plan", some "entries_of"), "entries_of", "Plan.entries_of", defArgs s_Plan_entries_of, defBody s_Plan_entries_of, defScope s_Plan_entries_of, [], []⟩
abbrev s_kind_at : Stmt := top 18
def d_kind_at : He.DefD := ⟨("kind_at", none), "kind_at", "kind_at", defArgs s_kind_at, defBody s_kind_at, defScope s_kind_at, [], []⟩
abbrev s_type_of : Stmt := top 19
def d_type_of : He.DefD := ⟨("type_of", none), "type_of", "type_of", defArgs s_type_of, defBody s_type_of, defScope s_type_of, [], []⟩
abbrev s_check_least : Stmt := top 12
def d_check_least : He.DefD := ⟨("check_least", none), "check_least", "check_least", defArgs s_check_least, defBody s_check_least, defScope s_check_least, [], []⟩
abbrev s_Plan_pair_at : Stmt := inClass (top 44) 17
def d_Plan_pair_at : He.DefD := ⟨("Plan", some "pair_at"), "pair_at", "Plan.pair_at", defArgs s_Plan_pair_at, defBody s_Plan_pair_at, defScope s_Plan_pair_at, [], []⟩
abbrev s_Plan_level_total : Stmt := inClass (top 44) 16
def d_Plan_level_total : He.DefD := ⟨("Plan", some "level_total"), "level_total", "Plan.level_total", defArgs s_Plan_level_total, defBody s_Plan_level_total, defScope s_Plan_level_total, [], []⟩
abbrev s_first_of_level : Stmt := top 22
def d_first_of_level : He.DefD := ⟨("first_of_level", none), "first_of_level", "first_of_level", defArgs s_first_of_level, defBody s_first_of_level, defScope s_first_of_level, [], []⟩
abbrev s_Plan_descendants : Stmt := inClass (top 44) 18
def d_Plan_descendants : He.DefD := ⟨("Plan", some "descendants"), "descendants", "Plan.descendants", defArgs s_Plan_descendants, defBody s_Plan_descendants, defScope s_Plan_descendants, [], []⟩
abbrev s_rank_in_level : Stmt := top 20
def d_rank_in_level : He.DefD := ⟨("rank_in_level", none), "rank_in_level", "rank_in_level", defArgs s_rank_in_level, defBody s_rank_in_level, defScope s_rank_in_level, [], []⟩
abbrev s_Plan_tree_size : Stmt := inClass (top 44) 20
def d_Plan_tree_size : He.DefD := ⟨("Plan", some "tree_size"), "tree_size", "Plan.tree_size", defArgs s_Plan_tree_size, defBody s_Plan_tree_size, defScope s_Plan_tree_size, [], []⟩
abbrev s_rank_in_depth : Stmt := top 21
def d_rank_in_depth : He.DefD := ⟨("rank_in_depth", none), "rank_in_depth", "rank_in_depth", defArgs s_rank_in_depth, defBody s_rank_in_depth, defScope s_rank_in_depth, [], []⟩
abbrev s_number_of : Stmt := top 23
def d_number_of : He.DefD := ⟨("number_of", none), "number_of", "number_of", defArgs s_number_of, defBody s_number_of, defScope s_number_of, [], []⟩
abbrev s_start_number : Stmt := top 24
def d_start_number : He.DefD := ⟨("start_number", none), "start_number", "start_number", defArgs s_start_number, defBody s_start_number, defScope s_start_number, [], []⟩
abbrev s_Plan_task_total : Stmt := inClass (top 44) 21
def d_Plan_task_total : He.DefD := ⟨("Plan", some "task_total"), "task_total", "Plan.task_total", defArgs s_Plan_task_total, defBody s_Plan_task_total, defScope s_Plan_task_total, [], []⟩
abbrev s_task_in_levels : Stmt := top 25
def d_task_in_levels : He.DefD := ⟨("task_in_levels", none), "task_in_levels", "task_in_levels", defArgs s_task_in_levels, defBody s_task_in_levels, defScope s_task_in_levels, [], []⟩
abbrev s_task_in_depth : Stmt := top 26
def d_task_in_depth : He.DefD := ⟨("task_in_depth", none), "task_in_depth", "task_in_depth", defArgs s_task_in_depth, defBody s_task_in_depth, defScope s_task_in_depth, [], []⟩
abbrev s_task_at : Stmt := top 27
def d_task_at : He.DefD := ⟨("task_at", none), "task_at", "task_at", defArgs s_task_at, defBody s_task_at, defScope s_task_at, [], []⟩
abbrev s_next_task : Stmt := top 28
def d_next_task : He.DefD := ⟨("next_task", none), "next_task", "next_task", defArgs s_next_task, defBody s_next_task, defScope s_next_task, [], []⟩
abbrev s_starts_before : Stmt := top 29
def d_starts_before : He.DefD := ⟨("starts_before", none), "starts_before", "starts_before", defArgs s_starts_before, defBody s_starts_before, defScope s_starts_before, [], []⟩
abbrev s_Plan_level_count : Stmt := inClass (top 44) 15
def d_Plan_level_count : He.DefD := ⟨("Plan", some "level_count"), "level_count", "Plan.level_count", defArgs s_Plan_level_count, defBody s_Plan_level_count, defScope s_Plan_level_count, [], []⟩
abbrev s_level_starts : Stmt := top 30
def d_level_starts : He.DefD := ⟨("level_starts", none), "level_starts", "level_starts", defArgs s_level_starts, defBody s_level_starts, defScope s_level_starts, [], []⟩
abbrev s__law_levels_right : Stmt := top 57
def d__law_levels_right : He.DefD := ⟨("_law_levels_right", none), "_law_levels_right", "_law_levels_right", defArgs s__law_levels_right, defBody s__law_levels_right, defScope s__law_levels_right, [], []⟩
abbrev s_law : Stmt := top 58
def d_law : He.DefD := ⟨("law", none), "law", "law", defArgs s_law, defBody s_law, defScope s_law, [], []⟩
def fn : List He.DefD := [d__law_cell_at, d__law_source_of, d__law_draw, d__law_shuffled, d__law_choice, d__law_size, d__law_parts, d_is_name, d_is_integer, d_is_between, d_is_entry, d_is_type, d_check_types, d_check_roots, d_table_of, d_all_tables, d_Plan___init__, d__law_listed, d__law_name, d__law_below, d__law_order, d_check_discipline, d_Plan_root_entries, d_is_step, d_Plan___contains__, d_Plan_check_name, d_Plan_entries_of, d_kind_at, d_type_of, d_check_least, d_Plan_pair_at, d_Plan_level_total, d_first_of_level, d_Plan_descendants, d_rank_in_level, d_Plan_tree_size, d_rank_in_depth, d_number_of, d_start_number, d_Plan_task_total, d_task_in_levels, d_task_in_depth, d_task_at, d_next_task, d_starts_before, d_Plan_level_count, d_level_starts, d__law_levels_right, d_law]
def fa : List He.Fa := [.free "len", .glo "_law_cell_at", .free "int", .glo "_law_source_of", .free "list", .glo "_law_draw", .glo "_law_shuffled", .free "enumerate", .free "range", .glo "_law_choice", .free "sum", .glo "_law_size", .glo "_law_parts", .free "isinstance", .int "MOST_TYPES" 40, .free "tuple", .free "str", .int "MOST_LETTERS" 12, .free "all", .glo "is_name", .int "MOST_ENTRIES" 20, .free "bool", .glo "is_integer", .int "MOST_COUNT" 1000000000000, .glo "is_between", .glo "is_entry", .glo "is_type", .glo "check_types", .glo "check_roots", .cls "Plan", .noat "Plan" "kinds", .noat "Plan" "first_ones", .glo "table_of", .glo "all_tables", .noat "Plan" "tables", .mkr "Plan", .glo "Plan", .glo "_law_listed", .free "dict", .glo "_law_name", .glo "_law_below", .glo "_law_order", .str "LIFO" "lifo", .str "FIFO" "fifo", .glo "check_discipline", .meth "Plan" "root_entries", .glo "is_step", .meth "Plan" "__contains__", .meth "Plan" "check_name", .meth "Plan" "entries_of", .glo "kind_at", .glo "type_of", .glo "check_least", .meth "Plan" "pair_at", .meth "Plan" "level_total", .glo "first_of_level", .meth "Plan" "descendants", .glo "rank_in_level", .meth "Plan" "tree_size", .glo "rank_in_depth", .glo "number_of", .glo "start_number", .meth "Plan" "task_total", .glo "task_in_levels", .glo "task_in_depth", .glo "task_at", .glo "next_task", .glo "starts_before", .free "repr", .free "max", .meth "Plan" "level_count", .free "min", .glo "level_starts", .glo "_law_levels_right", .glo "law"]
def ex : List (PySem.W.Frag → Bool) := []
/-! ### the mirrors -/
def m__law_cell_at : FF := defF 2 2 [0, 1] (sSeq (sIf (tB (x2 opLt (xV 1) (xBi mLen (aCons true (xV 0) aNil)))) (sRet 2 (x2 opIx (xV 0) (xV 1))) sNil) (sRet 2 (xC (.int 0))))
def m__law_source_of : FF := defF 1 1 [0] (sRet 1 (xLst (bCons (x2 opMul (xV 0) (xBi mInt (aCons true (x2 opGe (xV 0) (x2 opPow (xC (.int 10)) (xC (.int 18)))) aNil))) (bCons (x2 opMod (xV 0) (xC (.int 2147483647))) (bCons (xC (.int 0)) bNil)))))
noncomputable def m__law_draw : FF := defF 2 6 [0, 1] (sSeq (sIf (tB (x2 opGt (x2 opIx (xV 0) (xC (.int 0))) (xC (.int 0)))) (sSeq (sSet 2 (x2 opMod (x2 opIx (xV 0) (xC (.int 0))) (xV 1))) (sSeq (sSub 0 (x2 opDiv (x2 opIx (xV 0) (xC (.int 0))) (xV 1)) (xC (.int 0))) (sRet 2 (xV 2)))) sNil) (sSeq (sAsg (gT 2 (gsCons (gN 2) (gsCons (gN 3) gsNil))) (xTup (bCons (xC (.int 0)) (bCons (xC (.int 1)) bNil)))) (sSeq (sWh (tB (x2 opLt (xV 3) (xV 1))) (sSeq (sSub 0 (x2 opAdd (x2 opIx (xV 0) (xC (.int 2))) (xC (.int 1))) (xC (.int 2))) (sSeq (sSet 4 (x2 opIx (xLst (bCons (xC (.int 2147483647)) (bCons (xC (.int 2147483629)) (bCons (xC (.int 2147483587)) (bCons (xC (.int 2147483579)) (bCons (xC (.int 2147483563)) (bCons (xC (.int 2147483549)) (bCons (xC (.int 2147483543)) bNil)))))))) (x2 opMod (x2 opIx (xV 0) (xC (.int 2))) (xC (.int 7))))) (sSeq (sSet 5 (x2 opMod (x2 opPow (x2 opAdd (x2 opAdd (x2 opIx (xV 0) (xC (.int 1))) (x2 opMul (xC (.int 7919)) (x2 opIx (xV 0) (xC (.int 2))))) (xC (.int 1))) (xC (.int 5))) (xV 4))) (sSeq (sSet 5 (x2 opMod (x2 opMul (x2 opAdd (xV 5) (x2 opIx (xV 0) (xC (.int 2)))) (x2 opAdd (x2 opDiv (xV 5) (xC (.int 1009))) (xC (.int 69621)))) (xV 4))) (sPar 2 3 (bCons (x2 opAdd (x2 opMul (xV 2) (xC (.int 300000007))) (x2 opDiv (xV 5) (xC (.int 7)))) (bCons (x2 opMul (xV 3) (xC (.int 300000007))) bNil)))))))) (sRet 2 (x2 opMod (xV 2) (xV 1))))))
noncomputable def m__law_shuffled : FF := defF 2 4 [0, 1] (sSeq (sSet 2 (xBi mList (aCons true (xV 1) aNil))) (sSeq (sSet 3 (xLst bNil)) (sSeq (sWh (tB (x2 opNe (xV 2) (xLst bNil))) (sExpr (xMut mApp 3 (bCons (xMut mPop1 2 (bCons (xCall m__law_draw (aCons true (xV 0) (aCons false (xBi mLen (aCons true (xV 2) aNil)) aNil))) bNil)) bNil)))) (sRet 2 (xV 3)))))
noncomputable def m__law_choice : FF := defF 2 2 [0, 1] (sRet 2 (x2 opIx (xV 1) (xCall m__law_draw (aCons true (xV 0) (aCons false (xBi mLen (aCons true (xV 1) aNil)) aNil)))))
def m__law_size : FF := defF 2 7 [0, 1] (sSeq (sSet 2 (fun δ => some (.val (.dK []), δ))) (sSeq (sFor (iSeq (x1 revD (xV 0))) (gT 2 (gsCons (gN 3) (gsCons (gN 4) gsNil))) (sSub 2 (x2 opAdd (xC (.int 1)) (xBi mSum (aCons true (xLc (iSeq (xV 4)) (gT 2 (gsCons (gN 5) (gsCons (gN 6) gsNil))) tY (x2 opMul (xV 6) (x2 opIx (xV 2) (xV 5))) [5, 6]) aNil))) (xV 3))) (sRet 2 (xBi mSum (aCons true (xLc (iSeq (xV 1)) (gT 2 (gsCons (gN 5) (gsCons (gN 6) gsNil))) tY (x2 opMul (xV 6) (x2 opIx (xV 2) (xV 5))) [5, 6]) aNil)))))
noncomputable def m__law_parts : FF := defF 3 11 [0, 1, 2] (sSeq (sSet 3 (xSl (xCall m__law_shuffled (aCons true (xV 0) (aCons false (xLst (bCons (xC (.str "job")) (bCons (xC (.str "part")) (bCons (xC (.str "step")) (bCons (xC (.str "a")) (bCons (xC (.str "leaf")) (bCons (xC (.str "zzzzzzzzzzzz")) bNil))))))) aNil))) oN (oE (x2 opAdd (xC (.int 1)) (xCall m__law_draw (aCons true (xV 0) (aCons false (xC (.int 6)) aNil))))))) (sSeq (sSet 4 (xLst bNil)) (sSeq (sFor (iEnmU (bCons (xV 3) bNil)) (gT 2 (gsCons (gN 5) (gsCons (gN 6) gsNil))) (sSeq (sSet 7 (xSl (xV 3) (oE (x2 opAdd (xV 5) (xC (.int 1)))) oN)) (sSeq (sSet 8 (xLst bNil)) (sSeq (sFor (iRg1 (bCons (x2 opMul (xCall m__law_draw (aCons true (xV 0) (aCons false (xC (.int 4)) aNil))) (xBi mInt (aCons true (x2 opNe (xV 7) (xLst bNil)) aNil))) bNil)) (gN 9) (sExpr (xMut mApp 8 (bCons (xTup (bCons (xCall m__law_choice (aCons true (xV 0) (aCons true (xV 7) aNil))) (bCons (x2 opAdd (xC (.int 1)) (xCall m__law_draw (aCons true (xV 0) (aCons true (xV 1) aNil)))) bNil))) bNil)))) (sExpr (xMut mApp 4 (bCons (xTup (bCons (xV 6) (bCons (xV 8) bNil))) bNil))))))) (sSeq (sSet 10 (xLc (iRg1 (bCons (xCall m__law_draw (aCons true (xV 0) (aCons false (xC (.int 4)) aNil))) bNil)) (gN 9) tY (xTup (bCons (xCall m__law_choice (aCons true (xV 0) (aCons false (xSl (xV 3) oN (oE (xC (.int 2)))) aNil))) (bCons (x2 opAdd (xC (.int 1)) (xCall m__law_draw (aCons true (xV 0) (aCons true (xV 1) aNil)))) bNil))) [9])) (sSeq (sWh (tB (x2 opGt (xCall m__law_size (aCons true (xV 4) (aCons true (xV 10) aNil))) (xV 2))) (sSet 10 (xIf (tB (x2 opGt (xBi mLen (aCons true (xV 10) aNil)) (xC (.int 1)))) (xSl (xV 10) oN (oE (x1 negD (xC (.int 1))))) (xLst (bCons (xTup (bCons (x2 opIx (xV 3) (x1 negD (xC (.int 1)))) (bCons (x2 opAdd (xC (.int 1)) (xCall m__law_draw (aCons true (xV 0) (aCons true (xV 2) aNil)))) bNil))) bNil))))) (sRet 3 (xTup (bCons (xV 4) (bCons (xV 10) bNil)))))))))
def m__law_listed : FF := defF 2 7 [0, 1] (sSeq (sSet 2 (xLst bNil)) (sSeq (sFor (iEnmU (bCons (xV 0) bNil)) (gT 2 (gsCons (gN 3) (gsCons (gT 2 (gsCons (gN 4) (gsCons (gN 5) gsNil))) gsNil))) (sExpr (xMut mExt 2 (bCons (xLc (iRg1 (bCons (xV 5) bNil)) (gN 6) tY (x2 opAdd (xV 1) (xTup (bCons (xTup (bCons (xV 3) (bCons (xV 6) bNil))) bNil))) [6]) bNil)))) (sRet 2 (xV 2))))
def m__law_name : FF := defF 3 7 [0, 2] (sSeq (sSet 3 (xBi mDict (aCons true (xV 0) aNil))) (sSeq (sSet 4 (xC (.str ""))) (sSeq (sFor (iSeq (xV 2)) (gT 2 (gsCons (gN 5) (gsCons (gN 6) gsNil))) (sSeq (sSet 4 (x2 opIx (x2 opIx (xV 1) (xV 5)) (xC (.int 0)))) (sSet 1 (x2 opIx (xV 3) (xV 4))))) (sRet 3 (xV 4)))))
def m__law_below : FF := defF 3 3 [0, 1, 2] (sRet 3 (xCall m__law_listed (aCons false (x2 opIx (xBi mDict (aCons true (xV 0) aNil)) (xCall m__law_name (aCons true (xV 0) (aCons false (xV 1) (aCons true (xV 2) aNil))))) (aCons true (xV 2) aNil))))
noncomputable def m__law_order : FF := defF 3 5 [0, 1, 2] (sSeq (sSet 3 (xCall m__law_listed (aCons true (xV 1) (aCons false (xTup bNil) aNil)))) (sSeq (sSet 4 (xLst bNil)) (sSeq (sWh (tB (x2 opNe (xV 3) (xLst bNil))) (sSeq (sExpr (xMut mApp 4 (bCons (xIf (tB (xV 2)) (xMut mPop1 3 (bCons (xC (.int 0)) bNil)) (xMut mPop0 3 bNil)) bNil))) (sExpr (xMut mExt 3 (bCons (xCall m__law_below (aCons true (xV 0) (aCons true (xV 1) (aCons false (x2 opIx (xV 4) (x1 negD (xC (.int 1)))) aNil)))) bNil))))) (sRet 3 (xV 4)))))
noncomputable def m__law_levels_right : FF := defF 3 7 [0, 1, 2] (sSeq (sFor (iSeq (x2 opAdd (xLRg (xC (.int 8))) (xLst (bCons (xCall m__law_draw (aCons true (xV 0) (aCons false (x2 opPow (xC (.int 10)) (xC (.int 20))) aNil))) bNil)))) (gN 3) (sSeq (sSet 4 (xBi mLen (aCons true (xLc (iSeq (xV 2)) (gN 5) (tB (x2 opLe (xBi mLen (aCons true (xV 5) aNil)) (xV 3))) (xV 5) [5]) aNil))) (sSeq (sSet 6 (xBi mLen (aCons true (xLc (iSeq (xV 2)) (gN 5) (tB (x2 opLe (xBi mLen (aCons true (xV 5) aNil)) (x2 opAdd (xV 3) (xC (.int 1))))) (xV 5) [5]) aNil))) (sIf (tB (x2 opNe (xCall m_level_starts (aCons true (xV 1) (aCons true (xV 3) aNil))) (xTup (bCons (xV 4) (bCons (xV 6) bNil))))) (sRet 3 (xC (.bl false))) sNil)))) (sRet 3 (xC (.bl true))))
noncomputable def m_law : FF := defF 1 14 [0] (sSeq (sFor (iSeq (x2 opAdd (xLst (bCons (xCall m__law_cell_at (aCons true (xV 0) (aCons false (xC (.int 0)) aNil))) bNil)) (xSl (xV 0) (oE (xC (.int 1))) (oE (xC (.int 4)))))) (gN 1) (sSeq (sSet 2 (xCall m__law_source_of (aCons true (xV 1) aNil))) (sSeq (sAsg (gT 2 (gsCons (gN 3) (gsCons (gN 4) gsNil))) (xCall m__law_parts (aCons true (xV 2) (aCons false (xC (.int 4)) (aCons false (xC (.int 150)) aNil))))) (sSeq (sSet 5 (xMake "Plan" m_Plan___init__ true (bCons (xV 3) (bCons (xV 4) bNil)))) (sFor (iSeq (xTup (bCons (xC (.str "fifo")) (bCons (xC (.str "lifo")) bNil)))) (gN 6) (sSeq (sSet 7 (xCall m__law_order (aCons true (xV 3) (aCons true (xV 4) (aCons false (x2 opEq (xV 6) (xC (.str "fifo"))) aNil))))) (sSeq (sFor (iEnmU (bCons (xV 7) bNil)) (gT 2 (gsCons (gN 8) (gsCons (gN 9) gsNil))) (sIf (tB (x2 opNe (xCall m_next_task (aCons true (xV 5) (aCons true (xV 6) (aCons true (xV 9) aNil)))) (x2 opIx (x2 opAdd (xV 7) (xLst (bCons (xC .non) bNil))) (x2 opAdd (xV 8) (xC (.int 1)))))) (sRet 1 (xC (.bl false))) sNil)) (sSeq (sFor (iRg1 (bCons (x2 opMul (xC (.int 10)) (xBi mInt (aCons true (x2 opNe (xV 7) (xLst bNil)) aNil))) bNil)) (gN 10) (sSeq (sSet 11 (xLc (iRg1 (bCons (xC (.int 2)) bNil)) (gN 12) tY (xCall m__law_draw (aCons true (xV 2) (aCons false (xBi mLen (aCons true (xV 7) aNil)) aNil))) [12])) (sSeq (sSet 13 (xCall m_starts_before (aCons true (xV 5) (aCons true (xV 6) (aCons false (x2 opIx (xV 7) (x2 opIx (xV 11) (xC (.int 0)))) (aCons false (x2 opIx (xV 7) (x2 opIx (xV 11) (xC (.int 1)))) aNil)))))) (sIf (tB (x2 opNe (xBi mRepr (aCons true (xV 13) aNil)) (xBi mRepr (aCons true (x2 opLt (x2 opIx (xV 11) (xC (.int 0))) (x2 opIx (xV 11) (xC (.int 1)))) aNil)))) (sRet 1 (xC (.bl false))) sNil)))) (sIf (tNot' (tB (xCall m__law_levels_right (aCons true (xV 2) (aCons true (xV 5) (aCons true (xV 7) aNil)))))) (sRet 1 (xC (.bl false))) sNil))))))))) (sRet 1 (xC (.bl true))))
/-! ### the walk -/
section
variable {P : Program} {w : World} {K : PySem.W.Frag} {mg : Str → Option Value} {base : Heap}
theorem sc__law_cell_at : FnScope ["_law_script", "_law_place"] ["_law_script", "_law_place"] (defScope s__law_cell_at) := ⟨rfl, rfl, rfl, by decide +kernel, rfl, by decide +kernel, by decide +kernel⟩
theorem ok__law_cell_at (c : Fx ex fa fn K mg) : FnP P w K mg base 1 (He.ga K "_law_cell_at") 2 m__law_cell_at :=
  fnW' (k := 0) (c.s.d.def_ 0 (d := d__law_cell_at) rfl) sc__law_cell_at (fun _ _ _ _ _ _ us hl => match us, hl with | [_, _], _ => rfl) fun cdv A outer s H E hr =>
    have hu1 := hu1_of hr
    have hu64 := hu64_of hr
    have hu65 := hu65_of hr
    (vs_cons (vs_if (vt_cmp ov_lt (ve_name (pe_var (i := 1) rfl (.inl rfl))) (ve_bi cv_len rfl (c.free 0) bo_len (va_cons true (ve_name (pe_var (i := 0) rfl (.inl rfl))) va_nil)) (nomark _)) (vs_one (vs_ret 2 (ve_ix hu1 (ve_name (pe_var (i := 0) rfl (.inl rfl))) (ve_name (pe_var (i := 1) rfl (.inl rfl))) (fun _ _ => rfl)))) vs_nil) (vs_one (vs_ret 2 ve_int)))

theorem sc__law_source_of : FnScope ["_law_cell"] ["_law_cell"] (defScope s__law_source_of) := ⟨rfl, rfl, rfl, by decide +kernel, rfl, by decide +kernel, by decide +kernel⟩
theorem ok__law_source_of (c : Fx ex fa fn K mg) : FnP P w K mg base 1 (He.ga K "_law_source_of") 1 m__law_source_of :=
  fnW' (k := 0) (c.s.d.def_ 1 (d := d__law_source_of) rfl) sc__law_source_of (fun _ _ _ _ _ _ us hl => match us, hl with | [_], _ => rfl) fun cdv A outer s H E hr =>
    have hu1 := hu1_of hr
    have hu64 := hu64_of hr
    have hu65 := hu65_of hr
    (vs_one (vs_ret 1 (ve_lst (vb_cons (ve_op ov_mul (ve_name (pe_var (i := 0) rfl (.inl rfl))) (ve_ty cv_int rfl (c.free 2) bo_int (va_cons true (ve_cmp ov_ge (ve_name (pe_var (i := 0) rfl (.inl rfl))) (ve_op ov_pow ve_int ve_int) (nomark _)) va_nil))) (vb_cons (ve_op ov_mod (ve_name (pe_var (i := 0) rfl (.inl rfl))) ve_int) (vb_cons ve_int vb_nil))))))

theorem sc__law_draw : FnScope ["_law_source", "_law_bound", "_law_result", "_law_reach", "_law_prime", "_law_mixed"] ["_law_source", "_law_bound"] (defScope s__law_draw) := ⟨rfl, rfl, rfl, by decide +kernel, rfl, by decide +kernel, by decide +kernel⟩
theorem ok__law_draw (c : Fx ex fa fn K mg) : FnP P w K mg base 1 (He.ga K "_law_draw") 2 m__law_draw :=
  fnW' (k := 0) (c.s.d.def_ 2 (d := d__law_draw) rfl) sc__law_draw (fun _ _ _ _ _ _ us hl => match us, hl with | [_, _], _ => rfl) fun cdv A outer s H E hr =>
    have hu1 := hu1_of hr
    have hu64 := hu64_of hr
    have hu65 := hu65_of hr
    (vs_cons (vs_if (vt_cmp ov_gt (ve_ix hu1 (ve_name (pe_var (i := 0) rfl (.inl rfl))) ve_int (fun _ _ => rfl)) ve_int (nomark _)) (vs_cons (vs_set (i := 2) rfl sc__law_draw.nd rfl (.inl rfl) (ve_op ov_mod (ve_ix hu1 (ve_name (pe_var (i := 0) rfl (.inl rfl))) ve_int (fun _ _ => rfl)) (ve_name (pe_var (i := 1) rfl (.inl rfl))))) (vs_cons (vs_sub hu1 (pe_var (i := 0) rfl (.inl rfl)) ve_int (ve_op ov_div (ve_ix hu1 (ve_name (pe_var (i := 0) rfl (.inl rfl))) ve_int (fun _ _ => rfl)) (ve_name (pe_var (i := 1) rfl (.inl rfl))))) (vs_one (vs_ret 2 (ve_name (pe_var (i := 2) rfl (.inl rfl))))))) vs_nil) (vs_cons (vs_asg rfl (ve_tup (vb_cons ve_int (vb_cons ve_int vb_nil))) (vg_tup rfl (vgs_cons (vg_name (pg_name sc__law_draw.nd rfl (.inl rfl))) (vgs_cons (vg_name (pg_name sc__law_draw.nd rfl (.inl rfl))) vgs_nil)))) (vs_cons (vs_while PassesOwn.never (vt_cmp ov_lt (ve_name (pe_var (i := 3) rfl (.inl rfl))) (ve_name (pe_var (i := 1) rfl (.inl rfl))) (nomark _)) (vs_cons (vs_sub hu1 (pe_var (i := 0) rfl (.inl rfl)) ve_int (ve_op ov_add (ve_ix hu1 (ve_name (pe_var (i := 0) rfl (.inl rfl))) ve_int (fun _ _ => rfl)) ve_int)) (vs_cons (vs_set (i := 4) rfl sc__law_draw.nd rfl (.inl rfl) (ve_ix hu1 (ve_lst (vb_cons ve_int (vb_cons ve_int (vb_cons ve_int (vb_cons ve_int (vb_cons ve_int (vb_cons ve_int (vb_cons ve_int vb_nil)))))))) (ve_op ov_mod (ve_ix hu1 (ve_name (pe_var (i := 0) rfl (.inl rfl))) ve_int (fun _ _ => rfl)) ve_int) (fun _ _ => rfl))) (vs_cons (vs_set (i := 5) rfl sc__law_draw.nd rfl (.inl rfl) (ve_op ov_mod (ve_op ov_pow (ve_op ov_add (ve_op ov_add (ve_ix hu1 (ve_name (pe_var (i := 0) rfl (.inl rfl))) ve_int (fun _ _ => rfl)) (ve_op ov_mul ve_int (ve_ix hu1 (ve_name (pe_var (i := 0) rfl (.inl rfl))) ve_int (fun _ _ => rfl)))) ve_int) ve_int) (ve_name (pe_var (i := 4) rfl (.inl rfl))))) (vs_cons (vs_set (i := 5) rfl sc__law_draw.nd rfl (.inl rfl) (ve_op ov_mod (ve_op ov_mul (ve_op ov_add (ve_name (pe_var (i := 5) rfl (.inl rfl))) (ve_ix hu1 (ve_name (pe_var (i := 0) rfl (.inl rfl))) ve_int (fun _ _ => rfl))) (ve_op ov_add (ve_op ov_div (ve_name (pe_var (i := 5) rfl (.inl rfl))) ve_int) ve_int)) (ve_name (pe_var (i := 4) rfl (.inl rfl))))) (vs_one (vs_par (i := 2) (j := 3) rfl rfl sc__law_draw.nd rfl rfl (by decide) rfl rfl (vb_cons (ve_op ov_add (ve_op ov_mul (ve_name (pe_var (i := 2) rfl (.inl rfl))) ve_int) (ve_op ov_div (ve_name (pe_var (i := 5) rfl (.inl rfl))) ve_int)) (vb_cons (ve_op ov_mul (ve_name (pe_var (i := 3) rfl (.inl rfl))) ve_int) vb_nil)) rfl))))))) (vs_one (vs_ret 2 (ve_op ov_mod (ve_name (pe_var (i := 2) rfl (.inl rfl))) (ve_name (pe_var (i := 1) rfl (.inl rfl)))))))))

theorem sc__law_shuffled : FnScope ["_law_source", "_law_items", "_law_left", "_law_result"] ["_law_source", "_law_items"] (defScope s__law_shuffled) := ⟨rfl, rfl, rfl, by decide +kernel, rfl, by decide +kernel, by decide +kernel⟩
theorem ok__law_shuffled (c : Fx ex fa fn K mg) : FnP P w K mg base 2 (He.ga K "_law_shuffled") 2 m__law_shuffled :=
  fnW' (k := 1) (c.s.d.def_ 3 (d := d__law_shuffled) rfl) sc__law_shuffled (fun _ _ _ _ _ _ us hl => match us, hl with | [_, _], _ => rfl) fun cdv A outer s H E hr =>
    have hu1 := hu1_of hr
    have hu64 := hu64_of hr
    have hu65 := hu65_of hr
    (vs_cons (vs_set (i := 2) rfl sc__law_shuffled.nd rfl (.inl rfl) (ve_ty cv_list rfl (c.free 4) bo_list (va_cons true (ve_name (pe_var (i := 1) rfl (.inl rfl))) va_nil))) (vs_cons (vs_set (i := 3) rfl sc__law_shuffled.nd rfl (.inl rfl) (ve_lst vb_nil)) (vs_cons (vs_while PassesOwn.never (vt_cmp (ov_ne hu64) (ve_name (pe_var (i := 2) rfl (.inl rfl))) (ve_lst vb_nil) (nomark _)) (vs_one (vs_expr (ve_app (pe_var (i := 3) rfl (.inl rfl)) (vb_cons (ve_pop1 (pe_var (i := 2) rfl (.inl rfl)) (vb_cons (ve_callF (ok__law_draw (P := P) (w := w) (base := base) c) (aCons_len (aCons_len aNil_len)) (hr.mono (by decide)) rfl (c.glo 5) (va_cons true (ve_name (pe_var (i := 0) rfl (.inl rfl))) (va_cons false (ve_bi cv_len rfl (c.free 0) bo_len (va_cons true (ve_name (pe_var (i := 2) rfl (.inl rfl))) va_nil)) va_nil))) vb_nil)) vb_nil))))) (vs_one (vs_ret 2 (ve_name (pe_var (i := 3) rfl (.inl rfl))))))))

theorem sc__law_choice : FnScope ["_law_source", "_law_options"] ["_law_source", "_law_options"] (defScope s__law_choice) := ⟨rfl, rfl, rfl, by decide +kernel, rfl, by decide +kernel, by decide +kernel⟩
theorem ok__law_choice (c : Fx ex fa fn K mg) : FnP P w K mg base 2 (He.ga K "_law_choice") 2 m__law_choice :=
  fnW' (k := 1) (c.s.d.def_ 4 (d := d__law_choice) rfl) sc__law_choice (fun _ _ _ _ _ _ us hl => match us, hl with | [_, _], _ => rfl) fun cdv A outer s H E hr =>
    have hu1 := hu1_of hr
    have hu64 := hu64_of hr
    have hu65 := hu65_of hr
    (vs_one (vs_ret 2 (ve_ix hu1 (ve_name (pe_var (i := 1) rfl (.inl rfl))) (ve_callF (ok__law_draw (P := P) (w := w) (base := base) c) (aCons_len (aCons_len aNil_len)) (hr.mono (by decide)) rfl (c.glo 5) (va_cons true (ve_name (pe_var (i := 0) rfl (.inl rfl))) (va_cons false (ve_bi cv_len rfl (c.free 0) bo_len (va_cons true (ve_name (pe_var (i := 1) rfl (.inl rfl))) va_nil)) va_nil))) (fun _ _ => rfl))))

theorem sc__law_size : FnScope ["_law_kinds", "_law_rows", "_law_sizes", "_law_name_here", "_law_entries", "_law_child", "_law_many"] ["_law_kinds", "_law_rows"] (defScope s__law_size) := ⟨rfl, rfl, rfl, by decide +kernel, rfl, by decide +kernel, by decide +kernel⟩
theorem ok__law_size (c : Fx ex fa fn K mg) : FnP P w K mg base 1 (He.ga K "_law_size") 2 m__law_size :=
  fnW' (k := 0) (c.s.d.def_ 5 (d := d__law_size) rfl) sc__law_size (fun _ _ _ _ _ _ us hl => match us, hl with | [_, _], _ => rfl) fun cdv A outer s H E hr =>
    have hu1 := hu1_of hr
    have hu64 := hu64_of hr
    have hu65 := hu65_of hr
    (vs_cons (vs_set (i := 2) rfl sc__law_size.nd rfl (.inr rfl) ve_dK) (vs_cons (vs_for rfl PassesOwn.never rfl (vi_seq (ve_rev (ve_name (pe_var (i := 0) rfl (.inl rfl))))) (vg_tup rfl (vgs_cons (vg_name (pg_name sc__law_size.nd rfl (.inl rfl))) (vgs_cons (vg_name (pg_name sc__law_size.nd rfl (.inl rfl))) vgs_nil))) (vs_one (vs_sub hu1 (pe_var (i := 2) rfl (.inr (.inl rfl))) (ve_name (pe_var (i := 3) rfl (.inl rfl))) (ve_op ov_add ve_int (ve_bi (cv_sum rfl) rfl (c.free 10) bo_sum (va_cons true (ve_lc (own := [("_law_child", 5), ("_law_many", 6)]) rfl rfl sc__law_size.nd (vi_seq (ve_name (pe_var (i := 4) rfl (.inl rfl)))) (blkOk_by (own := [("_law_child", 5), ("_law_many", 6)]) (by kernel_rfl)) (fun _ _ _ _ _ => (vg_tup rfl (vgs_cons (vg_name (pg_name sc__law_size.nd rfl (.inl rfl))) (vgs_cons (vg_name (pg_name sc__law_size.nd rfl (.inl rfl))) vgs_nil)))) (fun _ _ _ _ _ => vts_nil) (fun _ _ _ _ _ => (ve_op ov_mul (ve_name (pe_var (i := 6) rfl (.inl rfl))) (ve_ix hu1 (ve_name (pe_var (i := 2) rfl (.inr (.inl rfl)))) (ve_name (pe_var (i := 5) rfl (.inl rfl))) (fun _ _ => rfl))))) va_nil)))))) (vs_one (vs_ret 2 (ve_bi (cv_sum rfl) rfl (c.free 10) bo_sum (va_cons true (ve_lc (own := [("_law_child", 5), ("_law_many", 6)]) rfl rfl sc__law_size.nd (vi_seq (ve_name (pe_var (i := 1) rfl (.inl rfl)))) (blkOk_by (own := [("_law_child", 5), ("_law_many", 6)]) (by kernel_rfl)) (fun _ _ _ _ _ => (vg_tup rfl (vgs_cons (vg_name (pg_name sc__law_size.nd rfl (.inl rfl))) (vgs_cons (vg_name (pg_name sc__law_size.nd rfl (.inl rfl))) vgs_nil)))) (fun _ _ _ _ _ => vts_nil) (fun _ _ _ _ _ => (ve_op ov_mul (ve_name (pe_var (i := 6) rfl (.inl rfl))) (ve_ix hu1 (ve_name (pe_var (i := 2) rfl (.inr (.inl rfl)))) (ve_name (pe_var (i := 5) rfl (.inl rfl))) (fun _ _ => rfl))))) va_nil))))))

theorem sc__law_parts : FnScope ["_law_source", "_law_most", "_law_limit", "_law_names", "_law_kinds", "_law_at", "_law_name_here", "_law_later", "_law_entries", "_law_entry", "_law_rows"] ["_law_source", "_law_most", "_law_limit"] (defScope s__law_parts) := ⟨rfl, rfl, rfl, by decide +kernel, rfl, by decide +kernel, by decide +kernel⟩
theorem ok__law_parts (c : Fx ex fa fn K mg) : FnP P w K mg base 3 (He.ga K "_law_parts") 3 m__law_parts :=
  fnW' (k := 2) (c.s.d.def_ 6 (d := d__law_parts) rfl) sc__law_parts (fun _ _ _ _ _ _ us hl => match us, hl with | [_, _, _], _ => rfl) fun cdv A outer s H E hr =>
    have hu1 := hu1_of hr
    have hu64 := hu64_of hr
    have hu65 := hu65_of hr
    (vs_cons (vs_set (i := 3) rfl sc__law_parts.nd rfl (.inr rfl) (ve_sl (ve_callF (ok__law_shuffled (P := P) (w := w) (base := base) c) (aCons_len (aCons_len aNil_len)) (hr.mono (by decide)) rfl (c.glo 6) (va_cons true (ve_name (pe_var (i := 0) rfl (.inr (.inl rfl)))) (va_cons false (ve_lst (vb_cons ve_str (vb_cons ve_str (vb_cons ve_str (vb_cons ve_str (vb_cons ve_str (vb_cons ve_str vb_nil))))))) va_nil))) vo_none (vo_some (ve_op ov_add ve_int (ve_callF (ok__law_draw (P := P) (w := w) (base := base) c) (aCons_len (aCons_len aNil_len)) (hr.mono (by decide)) rfl (c.glo 5) (va_cons true (ve_name (pe_var (i := 0) rfl (.inr (.inl rfl)))) (va_cons false ve_int va_nil))))))) (vs_cons (vs_set (i := 4) rfl sc__law_parts.nd rfl (.inl rfl) (ve_lst vb_nil)) (vs_cons (vs_for rfl PassesOwn.never rfl (vi_enumU rfl (c.free 7) (vb_cons (ve_name (pe_var (i := 3) rfl (.inr (.inl rfl)))) vb_nil)) (vg_tup rfl (vgs_cons (vg_name (pg_name sc__law_parts.nd rfl (.inl rfl))) (vgs_cons (vg_name (pg_name sc__law_parts.nd rfl (.inl rfl))) vgs_nil))) (vs_cons (vs_set (i := 7) rfl sc__law_parts.nd rfl (.inl rfl) (ve_sl (ve_name (pe_var (i := 3) rfl (.inr (.inl rfl)))) (vo_some (ve_op ov_add (ve_name (pe_var (i := 5) rfl (.inl rfl))) ve_int)) vo_none)) (vs_cons (vs_set (i := 8) rfl sc__law_parts.nd rfl (.inl rfl) (ve_lst vb_nil)) (vs_cons (vs_for rfl PassesOwn.never rfl (vi_range1 rfl (c.free 8) (vb_cons (ve_op ov_mul (ve_callF (ok__law_draw (P := P) (w := w) (base := base) c) (aCons_len (aCons_len aNil_len)) (hr.mono (by decide)) rfl (c.glo 5) (va_cons true (ve_name (pe_var (i := 0) rfl (.inr (.inl rfl)))) (va_cons false ve_int va_nil))) (ve_ty cv_int rfl (c.free 2) bo_int (va_cons true (ve_cmp (ov_ne hu64) (ve_name (pe_var (i := 7) rfl (.inl rfl))) (ve_lst vb_nil) (nomark _)) va_nil))) vb_nil)) (vg_name (pg_name sc__law_parts.nd rfl (.inl rfl))) (vs_one (vs_expr (ve_app (pe_var (i := 8) rfl (.inl rfl)) (vb_cons (ve_tup (vb_cons (ve_callF (ok__law_choice (P := P) (w := w) (base := base) c) (aCons_len (aCons_len aNil_len)) (hr.mono (by decide)) rfl (c.glo 9) (va_cons true (ve_name (pe_var (i := 0) rfl (.inr (.inl rfl)))) (va_cons true (ve_name (pe_var (i := 7) rfl (.inl rfl))) va_nil))) (vb_cons (ve_op ov_add ve_int (ve_callF (ok__law_draw (P := P) (w := w) (base := base) c) (aCons_len (aCons_len aNil_len)) (hr.mono (by decide)) rfl (c.glo 5) (va_cons true (ve_name (pe_var (i := 0) rfl (.inr (.inl rfl)))) (va_cons true (ve_name (pe_var (i := 1) rfl (.inr (.inl rfl)))) va_nil)))) vb_nil))) vb_nil))))) (vs_one (vs_expr (ve_app (pe_var (i := 4) rfl (.inl rfl)) (vb_cons (ve_tup (vb_cons (ve_name (pe_var (i := 6) rfl (.inl rfl))) (vb_cons (ve_name (pe_var (i := 8) rfl (.inl rfl))) vb_nil))) vb_nil)))))))) (vs_cons (vs_setLc (i := 10) (own := [("_law_entry", 9)]) rfl rfl rfl sc__law_parts.nd rfl rfl (sw_true rfl rfl rfl rfl) (vi_range1 rfl (c.free 8) (vb_cons (ve_callF (ok__law_draw (P := P) (w := w) (base := base) c) (aCons_len (aCons_len aNil_len)) (hr.mono (by decide)) rfl (c.glo 5) (va_cons true (ve_name (pe_var (i := 0) rfl (.inr (.inl rfl)))) (va_cons false ve_int va_nil))) vb_nil)) (blkOk_by (own := [("_law_entry", 9)]) (by kernel_rfl)) (fun _ _ _ _ _ => (vg_name (pg_name sc__law_parts.nd rfl (.inl rfl)))) (fun _ _ _ _ _ => vts_nil) (fun _ _ _ _ _ => (ve_tup (vb_cons (ve_callF (ok__law_choice (P := P) (w := w) (base := base) c) (aCons_len (aCons_len aNil_len)) (hr.mono (by decide)) rfl (c.glo 9) (va_cons true (ve_name (pe_var (i := 0) rfl (.inr (.inl rfl)))) (va_cons false (ve_sl (ve_name (pe_var (i := 3) rfl (.inr (.inl rfl)))) vo_none (vo_some ve_int)) va_nil))) (vb_cons (ve_op ov_add ve_int (ve_callF (ok__law_draw (P := P) (w := w) (base := base) c) (aCons_len (aCons_len aNil_len)) (hr.mono (by decide)) rfl (c.glo 5) (va_cons true (ve_name (pe_var (i := 0) rfl (.inr (.inl rfl)))) (va_cons true (ve_name (pe_var (i := 1) rfl (.inr (.inl rfl)))) va_nil)))) vb_nil))))) (vs_cons (vs_while PassesOwn.never (vt_cmp ov_gt (ve_callF (ok__law_size (P := P) (w := w) (base := base) c) (aCons_len (aCons_len aNil_len)) (hr.mono (by decide)) rfl (c.glo 11) (va_cons true (ve_name (pe_var (i := 4) rfl (.inl rfl))) (va_cons true (ve_name (pe_var (i := 10) rfl (.inl rfl))) va_nil))) (ve_name (pe_var (i := 2) rfl (.inl rfl))) (nomark _)) (vs_one (vs_set (i := 10) rfl sc__law_parts.nd rfl (.inl rfl) (ve_if (vt_cmp ov_gt (ve_bi cv_len rfl (c.free 0) bo_len (va_cons true (ve_name (pe_var (i := 10) rfl (.inl rfl))) va_nil)) ve_int (nomark _)) (ve_sl (ve_name (pe_var (i := 10) rfl (.inl rfl))) vo_none (vo_some (ve_neg ve_int))) (ve_lst (vb_cons (ve_tup (vb_cons (ve_ix hu1 (ve_name (pe_var (i := 3) rfl (.inr (.inl rfl)))) (ve_neg ve_int) (fun _ _ => rfl)) (vb_cons (ve_op ov_add ve_int (ve_callF (ok__law_draw (P := P) (w := w) (base := base) c) (aCons_len (aCons_len aNil_len)) (hr.mono (by decide)) rfl (c.glo 5) (va_cons true (ve_name (pe_var (i := 0) rfl (.inr (.inl rfl)))) (va_cons true (ve_name (pe_var (i := 2) rfl (.inl rfl))) va_nil)))) vb_nil))) vb_nil)))))) (vs_one (vs_ret 3 (ve_tup (vb_cons (ve_name (pe_var (i := 4) rfl (.inl rfl))) (vb_cons (ve_name (pe_var (i := 10) rfl (.inl rfl))) vb_nil))))))))))

theorem sc_is_name : FnScope ["value", "letter"] ["value"] (defScope s_is_name) := ⟨rfl, rfl, rfl, by decide +kernel, rfl, by decide +kernel, by decide +kernel⟩
theorem ok_is_name (c : Fx ex fa fn K mg) : FnP P w K mg base 1 (He.ga K "is_name") 1 m_is_name :=
  fnW' (k := 0) (c.s.d.def_ 7 (d := d_is_name) rfl) sc_is_name (fun _ _ _ _ _ _ us hl => match us, hl with | [_], _ => rfl) fun cdv A outer s H E hr =>
    have hu1 := hu1_of hr
    have hu64 := hu64_of hr
    have hu65 := hu65_of hr
    (vs_cons (vs_if (PW.pt (vw_or (vt_not (vt_val (ve_isi rfl (c.free 13) rfl (c.free 16) bo_str (ve_name (pe_var (i := 0) rfl (.inl rfl)))))) (vw_or1 (vt_not (vt_chain ov_le ov_le ve_int (ve_bi cv_len rfl (c.free 0) bo_len (va_cons true (ve_name (pe_var (i := 0) rfl (.inl rfl))) va_nil)) (ve_gint rfl (c.int 17))))))) (vs_one (vs_ret 1 ve_bl)) vs_nil) (vs_one (vs_ret 1 (ve_bi (cv_all rfl) rfl (c.free 18) bo_all (va_cons true (ve_lc (own := [("letter", 1)]) rfl rfl sc_is_name.nd (vi_seq (ve_name (pe_var (i := 0) rfl (.inl rfl)))) (blkOk_by (own := [("letter", 1)]) (by kernel_rfl)) (fun _ _ _ _ _ => (vg_name (pg_name sc_is_name.nd rfl (.inl rfl)))) (fun _ _ _ _ _ => vts_nil) (fun _ _ _ _ _ => (ve_chain ov_le ov_le ve_str (ve_name (pe_var (i := 1) rfl (.inl rfl))) ve_str))) va_nil)))))

theorem sc_is_integer : FnScope ["value"] ["value"] (defScope s_is_integer) := ⟨rfl, rfl, rfl, by decide +kernel, rfl, by decide +kernel, by decide +kernel⟩
theorem ok_is_integer (c : Fx ex fa fn K mg) : FnP P w K mg base 1 (He.ga K "is_integer") 1 m_is_integer :=
  fnW' (k := 0) (c.s.d.def_ 8 (d := d_is_integer) rfl) sc_is_integer (fun _ _ _ _ _ _ us hl => match us, hl with | [_], _ => rfl) fun cdv A outer s H E hr =>
    have hu1 := hu1_of hr
    have hu64 := hu64_of hr
    have hu65 := hu65_of hr
    (vs_one (vs_ret 1 (ve_and (ve_isi rfl (c.free 13) rfl (c.free 2) bo_int (ve_name (pe_var (i := 0) rfl (.inl rfl)))) (ve_one (ve_not (ve_isi rfl (c.free 13) rfl (c.free 21) bo_bool (ve_name (pe_var (i := 0) rfl (.inl rfl)))))))))

theorem sc_is_between : FnScope ["value", "low", "high"] ["value", "low", "high"] (defScope s_is_between) := ⟨rfl, rfl, rfl, by decide +kernel, rfl, by decide +kernel, by decide +kernel⟩
theorem ok_is_between (c : Fx ex fa fn K mg) : FnP P w K mg base 2 (He.ga K "is_between") 3 m_is_between :=
  fnW' (k := 1) (c.s.d.def_ 9 (d := d_is_between) rfl) sc_is_between (fun _ _ _ _ _ _ us hl => match us, hl with | [_, _, _], _ => rfl) fun cdv A outer s H E hr =>
    have hu1 := hu1_of hr
    have hu64 := hu64_of hr
    have hu65 := hu65_of hr
    (vs_one (vs_ret 3 (ve_and (ve_callF (ok_is_integer (P := P) (w := w) (base := base) c) (aCons_len aNil_len) (hr.mono (by decide)) rfl (c.glo 22) (va_cons true (ve_name (pe_var (i := 0) rfl (.inl rfl))) va_nil)) (ve_one (ve_chain ov_le ov_le (ve_name (pe_var (i := 1) rfl (.inl rfl))) (ve_name (pe_var (i := 0) rfl (.inl rfl))) (ve_name (pe_var (i := 2) rfl (.inl rfl))))))))

theorem sc_is_entry : FnScope ["value"] ["value"] (defScope s_is_entry) := ⟨rfl, rfl, rfl, by decide +kernel, rfl, by decide +kernel, by decide +kernel⟩
theorem ok_is_entry (c : Fx ex fa fn K mg) : FnP P w K mg base 3 (He.ga K "is_entry") 1 m_is_entry :=
  fnW' (k := 2) (c.s.d.def_ 10 (d := d_is_entry) rfl) sc_is_entry (fun _ _ _ _ _ _ us hl => match us, hl with | [_], _ => rfl) fun cdv A outer s H E hr =>
    have hu1 := hu1_of hr
    have hu64 := hu64_of hr
    have hu65 := hu65_of hr
    (vs_cons (vs_if (PW.pt (vw_or (vt_not (vt_val (ve_isi rfl (c.free 13) rfl (c.free 15) bo_tuple (ve_name (pe_var (i := 0) rfl (.inl rfl)))))) (vw_or1 (vt_cmp (ov_ne hu64) (ve_bi cv_len rfl (c.free 0) bo_len (va_cons true (ve_name (pe_var (i := 0) rfl (.inl rfl))) va_nil)) ve_int (nomark _))))) (vs_one (vs_ret 1 ve_bl)) vs_nil) (vs_one (vs_ret 1 (ve_and (ve_callF (ok_is_name (P := P) (w := w) (base := base) c) (aCons_len aNil_len) (hr.mono (by decide)) rfl (c.glo 19) (va_cons false (ve_ix hu1 (ve_name (pe_var (i := 0) rfl (.inl rfl))) ve_int (fun _ _ => rfl)) va_nil)) (ve_one (ve_callF (ok_is_between (P := P) (w := w) (base := base) c) (aCons_len (aCons_len (aCons_len aNil_len))) (hr.mono (by decide)) rfl (c.glo 24) (va_cons false (ve_ix hu1 (ve_name (pe_var (i := 0) rfl (.inl rfl))) ve_int (fun _ _ => rfl)) (va_cons false ve_int (va_cons false (ve_gint rfl (c.int 23)) va_nil)))))))))

theorem sc_is_type : FnScope ["value", "entry"] ["value"] (defScope s_is_type) := ⟨rfl, rfl, rfl, by decide +kernel, rfl, by decide +kernel, by decide +kernel⟩
theorem ok_is_type (c : Fx ex fa fn K mg) : FnP P w K mg base 4 (He.ga K "is_type") 1 m_is_type :=
  fnW' (k := 3) (c.s.d.def_ 11 (d := d_is_type) rfl) sc_is_type (fun _ _ _ _ _ _ us hl => match us, hl with | [_], _ => rfl) fun cdv A outer s H E hr =>
    have hu1 := hu1_of hr
    have hu64 := hu64_of hr
    have hu65 := hu65_of hr
    (vs_cons (vs_if (PW.pt (vw_or (vt_not (vt_val (ve_isi rfl (c.free 13) rfl (c.free 15) bo_tuple (ve_name (pe_var (i := 0) rfl (.inl rfl)))))) (vw_or (vt_cmp (ov_ne hu64) (ve_bi cv_len rfl (c.free 0) bo_len (va_cons true (ve_name (pe_var (i := 0) rfl (.inl rfl))) va_nil)) ve_int (nomark _)) (vw_or1 (vt_not (vt_val (ve_callF (ok_is_name (P := P) (w := w) (base := base) c) (aCons_len aNil_len) (hr.mono (by decide)) rfl (c.glo 19) (va_cons false (ve_ix hu1 (ve_name (pe_var (i := 0) rfl (.inl rfl))) ve_int (fun _ _ => rfl)) va_nil)))))))) (vs_one (vs_ret 1 ve_bl)) vs_nil) (vs_cons (vs_if (PW.pt (vw_or (vt_not (vt_val (ve_isi rfl (c.free 13) rfl (c.free 4) bo_list (ve_ix hu1 (ve_name (pe_var (i := 0) rfl (.inl rfl))) ve_int (fun _ _ => rfl))))) (vw_or1 (vt_cmp ov_gt (ve_bi cv_len rfl (c.free 0) bo_len (va_cons true (ve_ix hu1 (ve_name (pe_var (i := 0) rfl (.inl rfl))) ve_int (fun _ _ => rfl)) va_nil)) (ve_gint rfl (c.int 20)) (nomark _))))) (vs_one (vs_ret 1 ve_bl)) vs_nil) (vs_one (vs_ret 1 (ve_bi (cv_all rfl) rfl (c.free 18) bo_all (va_cons true (ve_lc (own := [("entry", 1)]) rfl rfl sc_is_type.nd (vi_seq (ve_ix hu1 (ve_name (pe_var (i := 0) rfl (.inl rfl))) ve_int (fun _ _ => rfl))) (blkOk_by (own := [("entry", 1)]) (by kernel_rfl)) (fun _ _ _ _ _ => (vg_name (pg_name sc_is_type.nd rfl (.inl rfl)))) (fun _ _ _ _ _ => vts_nil) (fun _ _ _ _ _ => (ve_callF (ok_is_entry (P := P) (w := w) (base := base) c) (aCons_len aNil_len) (hr.mono (by decide)) rfl (c.glo 25) (va_cons true (ve_name (pe_var (i := 1) rfl (.inl rfl))) va_nil)))) va_nil))))))

theorem sc_check_types : FnScope ["types", "known", "at", "some", "name", "many"] ["types"] (defScope s_check_types) := ⟨rfl, rfl, rfl, by decide +kernel, rfl, by decide +kernel, by decide +kernel⟩
theorem ok_check_types (c : Fx ex fa fn K mg) : FnP P w K mg base 5 (He.ga K "check_types") 1 m_check_types :=
  fnW' (k := 4) (c.s.d.def_ 12 (d := d_check_types) rfl) sc_check_types (fun _ _ _ _ _ _ us hl => match us, hl with | [_], _ => rfl) fun cdv A outer s H E hr =>
    have hu1 := hu1_of hr
    have hu64 := hu64_of hr
    have hu65 := hu65_of hr
    (vs_cons (vs_if (PW.pt (vw_or (vt_not (vt_val (ve_isi rfl (c.free 13) rfl (c.free 4) bo_list (ve_name (pe_var (i := 0) rfl (.inl rfl)))))) (vw_or1 (vt_not (vt_chain ov_le ov_le ve_int (ve_bi cv_len rfl (c.free 0) bo_len (va_cons true (ve_name (pe_var (i := 0) rfl (.inl rfl))) va_nil)) (ve_gint rfl (c.int 14))))))) (vs_one vs_never) vs_nil) (vs_cons (vs_set (i := 1) rfl sc_check_types.nd rfl (.inr rfl) (ve_lst vb_nil)) (vs_cons (vs_for rfl PassesOwn.never rfl (vi_enumU rfl (c.free 7) (vb_cons (ve_name (pe_var (i := 0) rfl (.inl rfl))) vb_nil)) (vg_tup rfl (vgs_cons (vg_name (pg_name sc_check_types.nd rfl (.inr rfl))) (vgs_cons (vg_name (pg_name sc_check_types.nd rfl (.inl rfl))) vgs_nil))) (vs_cons (vs_if (PW.pt (vw_or (vt_not (vt_val (ve_callF (ok_is_type (P := P) (w := w) (base := base) c) (aCons_len aNil_len) (hr.mono (by decide)) rfl (c.glo 26) (va_cons true (ve_name (pe_var (i := 3) rfl (.inl rfl))) va_nil)))) (vw_or1 (vt_cmp (ov_in hu65) (ve_ix hu1 (ve_name (pe_var (i := 3) rfl (.inl rfl))) ve_int (fun _ _ => rfl)) (ve_name (pe_var (i := 1) rfl (.inr (.inl rfl)))) (by with_unfolding_all rfl))))) (vs_one vs_never) vs_nil) (vs_one (vs_expr (ve_app (pe_var (i := 1) rfl (.inr (.inl rfl))) (vb_cons (ve_ix hu1 (ve_name (pe_var (i := 3) rfl (.inl rfl))) ve_int (fun _ _ => rfl)) vb_nil)))))) (vs_one (vs_for rfl PassesOwn.never rfl (vi_enumU rfl (c.free 7) (vb_cons (ve_name (pe_var (i := 0) rfl (.inl rfl))) vb_nil)) (vg_tup rfl (vgs_cons (vg_name (pg_name sc_check_types.nd rfl (.inr rfl))) (vgs_cons (vg_name (pg_name sc_check_types.nd rfl (.inl rfl))) vgs_nil))) (vs_one (vs_if (vt_not (vt_val (ve_bi (cv_all rfl) rfl (c.free 18) bo_all (va_cons true (ve_lc (own := [("name", 4), ("many", 5)]) rfl rfl sc_check_types.nd (vi_seq (ve_ix hu1 (ve_name (pe_var (i := 3) rfl (.inl rfl))) ve_int (fun _ _ => rfl))) (blkOk_by (own := [("name", 4), ("many", 5)]) (by kernel_rfl)) (fun _ _ _ _ _ => (vg_tup rfl (vgs_cons (vg_name (pg_name sc_check_types.nd rfl (.inl rfl))) (vgs_cons (vg_name (pg_name sc_check_types.nd rfl (.inl rfl))) vgs_nil)))) (fun _ _ _ _ _ => vts_nil) (fun _ _ _ _ _ => (ve_cmp (ov_in hu65) (ve_name (pe_var (i := 4) rfl (.inl rfl))) (ve_sl (ve_name (pe_var (i := 1) rfl (.inr (.inl rfl)))) (vo_some (ve_op ov_add (ve_name (pe_var (i := 2) rfl (.inr (.inl rfl)))) ve_int)) vo_none) (by with_unfolding_all rfl)))) va_nil)))) (vs_one vs_never) vs_nil)))))))

theorem sc_check_roots : FnScope ["roots", "names", "at", "root"] ["roots", "names"] (defScope s_check_roots) := ⟨rfl, rfl, rfl, by decide +kernel, rfl, by decide +kernel, by decide +kernel⟩
theorem ok_check_roots (c : Fx ex fa fn K mg) : FnP P w K mg base 4 (He.ga K "check_roots") 2 m_check_roots :=
  fnW' (k := 3) (c.s.d.def_ 13 (d := d_check_roots) rfl) sc_check_roots (fun _ _ _ _ _ _ us hl => match us, hl with | [_, _], _ => rfl) fun cdv A outer s H E hr =>
    have hu1 := hu1_of hr
    have hu64 := hu64_of hr
    have hu65 := hu65_of hr
    (vs_cons (vs_if (PW.pt (vw_or (vt_not (vt_val (ve_isi rfl (c.free 13) rfl (c.free 4) bo_list (ve_name (pe_var (i := 0) rfl (.inl rfl)))))) (vw_or1 (vt_cmp ov_gt (ve_bi cv_len rfl (c.free 0) bo_len (va_cons true (ve_name (pe_var (i := 0) rfl (.inl rfl))) va_nil)) (ve_gint rfl (c.int 20)) (nomark _))))) (vs_one vs_never) vs_nil) (vs_one (vs_for rfl PassesOwn.never rfl (vi_enumU rfl (c.free 7) (vb_cons (ve_name (pe_var (i := 0) rfl (.inl rfl))) vb_nil)) (vg_tup rfl (vgs_cons (vg_name (pg_name sc_check_roots.nd rfl (.inl rfl))) (vgs_cons (vg_name (pg_name sc_check_roots.nd rfl (.inl rfl))) vgs_nil))) (vs_one (vs_if (PW.pt (vw_or (vt_not (vt_val (ve_callF (ok_is_entry (P := P) (w := w) (base := base) c) (aCons_len aNil_len) (hr.mono (by decide)) rfl (c.glo 25) (va_cons true (ve_name (pe_var (i := 3) rfl (.inl rfl))) va_nil)))) (vw_or1 (vt_cmp (ov_nin hu65) (ve_ix hu1 (ve_name (pe_var (i := 3) rfl (.inl rfl))) ve_int (fun _ _ => rfl)) (ve_name (pe_var (i := 1) rfl (.inl rfl))) (by with_unfolding_all rfl))))) (vs_one vs_never) vs_nil)))))

theorem sc_table_of : FnScope ["entries", "tables", "found", "child", "count", "at", "every", "inner"] ["entries", "tables"] (defScope s_table_of) := ⟨rfl, rfl, rfl, by decide +kernel, rfl, by decide +kernel, by decide +kernel⟩
theorem ok_table_of (c : Fx ex fa fn K mg) : FnP P w K mg base 1 (He.ga K "table_of") 2 m_table_of :=
  fnW' (k := 0) (c.s.d.def_ 14 (d := d_table_of) rfl) sc_table_of (fun _ _ _ _ _ _ us hl => match us, hl with | [_, _], _ => rfl) fun cdv A outer s H E hr =>
    have hu1 := hu1_of hr
    have hu64 := hu64_of hr
    have hu65 := hu65_of hr
    (vs_cons (vs_set (i := 2) rfl sc_table_of.nd rfl (.inl rfl) (ve_lst (vb_cons (ve_tup (vb_cons ve_int (vb_cons (ve_ty cv_int rfl (c.free 2) bo_int (va_cons true (ve_cmp (ov_ne hu64) (ve_name (pe_var (i := 0) rfl (.inl rfl))) (ve_lst vb_nil) (nomark _)) va_nil)) vb_nil))) vb_nil))) (vs_cons (vs_for rfl PassesOwn.never rfl (vi_seq (ve_name (pe_var (i := 0) rfl (.inl rfl)))) (vg_tup rfl (vgs_cons (vg_name (pg_name sc_table_of.nd rfl (.inl rfl))) (vgs_cons (vg_name (pg_name sc_table_of.nd rfl (.inl rfl))) vgs_nil))) (vs_one (vs_for rfl PassesOwn.never rfl (vi_enumU rfl (c.free 7) (vb_cons (ve_ix hu1 (ve_name (pe_var (i := 1) rfl (.inl rfl))) (ve_name (pe_var (i := 3) rfl (.inl rfl))) (fun _ _ => rfl)) vb_nil)) (vg_tup rfl (vgs_cons (vg_name (pg_name sc_table_of.nd rfl (.inl rfl))) (vgs_cons (vg_tup rfl (vgs_cons (vg_name (pg_name sc_table_of.nd rfl (.inl rfl))) (vgs_cons (vg_name (pg_name sc_table_of.nd rfl (.inl rfl))) vgs_nil))) vgs_nil))) (vs_cons (vs_if (vt_cmp (ov_eq hu64) (ve_op ov_add (ve_name (pe_var (i := 5) rfl (.inl rfl))) ve_int) (ve_bi cv_len rfl (c.free 0) bo_len (va_cons true (ve_name (pe_var (i := 2) rfl (.inl rfl))) va_nil)) (nomark _)) (vs_one (vs_expr (ve_app (pe_var (i := 2) rfl (.inl rfl)) (vb_cons (ve_tup (vb_cons ve_int (vb_cons ve_int vb_nil))) vb_nil)))) vs_nil) (vs_one (vs_sub hu1 (pe_var (i := 2) rfl (.inl rfl)) (ve_op ov_add (ve_name (pe_var (i := 5) rfl (.inl rfl))) ve_int) (ve_tup (vb_cons (ve_op ov_add (ve_ix hu1 (ve_ix hu1 (ve_name (pe_var (i := 2) rfl (.inl rfl))) (ve_op ov_add (ve_name (pe_var (i := 5) rfl (.inl rfl))) ve_int) (fun _ _ => rfl)) ve_int (fun _ _ => rfl)) (ve_op ov_mul (ve_name (pe_var (i := 4) rfl (.inl rfl))) (ve_name (pe_var (i := 6) rfl (.inl rfl))))) (vb_cons (ve_op ov_add (ve_ix hu1 (ve_ix hu1 (ve_name (pe_var (i := 2) rfl (.inl rfl))) (ve_op ov_add (ve_name (pe_var (i := 5) rfl (.inl rfl))) ve_int) (fun _ _ => rfl)) ve_int (fun _ _ => rfl)) (ve_op ov_mul (ve_name (pe_var (i := 4) rfl (.inl rfl))) (ve_name (pe_var (i := 7) rfl (.inl rfl))))) vb_nil))))))))) (vs_one (vs_ret 2 (ve_name (pe_var (i := 2) rfl (.inl rfl)))))))

theorem sc_all_tables : FnScope ["types", "found", "name", "entries"] ["types"] (defScope s_all_tables) := ⟨rfl, rfl, rfl, by decide +kernel, rfl, by decide +kernel, by decide +kernel⟩
theorem ok_all_tables (c : Fx ex fa fn K mg) : FnP P w K mg base 2 (He.ga K "all_tables") 1 m_all_tables :=
  fnW' (k := 1) (c.s.d.def_ 15 (d := d_all_tables) rfl) sc_all_tables (fun _ _ _ _ _ _ us hl => match us, hl with | [_], _ => rfl) fun cdv A outer s H E hr =>
    have hu1 := hu1_of hr
    have hu64 := hu64_of hr
    have hu65 := hu65_of hr
    (vs_cons (vs_set (i := 1) rfl sc_all_tables.nd rfl (.inl rfl) ve_dK) (vs_cons (vs_for rfl PassesOwn.never rfl (vi_seq (ve_rev (ve_name (pe_var (i := 0) rfl (.inl rfl))))) (vg_tup rfl (vgs_cons (vg_name (pg_name sc_all_tables.nd rfl (.inl rfl))) (vgs_cons (vg_name (pg_name sc_all_tables.nd rfl (.inl rfl))) vgs_nil))) (vs_one (vs_sub hu1 (pe_var (i := 1) rfl (.inl rfl)) (ve_name (pe_var (i := 2) rfl (.inl rfl))) (ve_callF (ok_table_of (P := P) (w := w) (base := base) c) (aCons_len (aCons_len aNil_len)) (hr.mono (by decide)) rfl (c.glo 32) (va_cons true (ve_name (pe_var (i := 3) rfl (.inl rfl))) (va_cons true (ve_name (pe_var (i := 1) rfl (.inl rfl))) va_nil)))))) (vs_one (vs_ret 1 (ve_name (pe_var (i := 1) rfl (.inl rfl)))))))

theorem sc_Plan___init__ : FnScope ["self", "types", "roots", "name", "entries"] ["self", "types", "roots"] (defScope s_Plan___init__) := ⟨rfl, rfl, rfl, by decide +kernel, rfl, by decide +kernel, by decide +kernel⟩
theorem ok_Plan___init__ (c : Fx ex fa fn K mg) : FnP P w K mg base 6 (He.ma K (He.ga K "Plan") "__init__") 3 m_Plan___init__ :=
  fnW' (k := 5) (c.s.d.def_ 16 (d := d_Plan___init__) rfl) sc_Plan___init__ (fun _ _ _ _ _ _ us hl => match us, hl with | [_, _, _], _ => rfl) fun cdv A outer s H E hr =>
    have hu1 := hu1_of hr
    have hu64 := hu64_of hr
    have hu65 := hu65_of hr
    (vs_cons (vs_expr (ve_callF (ok_check_types (P := P) (w := w) (base := base) c) (aCons_len aNil_len) (hr.mono (by decide)) rfl (c.glo 27) (va_cons true (ve_name (pe_var (i := 1) rfl (.inl rfl))) va_nil))) (vs_cons (vs_expr (ve_callF (ok_check_roots (P := P) (w := w) (base := base) c) (aCons_len (aCons_len aNil_len)) (hr.mono (by decide)) rfl (c.glo 28) (va_cons true (ve_name (pe_var (i := 2) rfl (.inl rfl))) (va_cons false (ve_lc (own := [("name", 3), ("entries", 4)]) rfl rfl sc_Plan___init__.nd (vi_seq (ve_name (pe_var (i := 1) rfl (.inl rfl)))) (blkOk_by (own := [("name", 3), ("entries", 4)]) (by kernel_rfl)) (fun _ _ _ _ _ => (vg_tup rfl (vgs_cons (vg_name (pg_name sc_Plan___init__.nd rfl (.inl rfl))) (vgs_cons (vg_name (pg_name sc_Plan___init__.nd rfl (.inl rfl))) vgs_nil)))) (fun _ _ _ _ _ => vts_nil) (fun _ _ _ _ _ => (ve_name (pe_var (i := 3) rfl (.inl rfl))))) va_nil)))) (vs_cons (vs_attr (c.cls 29) (c.noat 30) (pe_var (i := 0) rfl (.inl rfl)) (ve_dc (own := [("name", 3), ("entries", 4)]) rfl rfl sc_Plan___init__.nd (vi_seq (ve_name (pe_var (i := 1) rfl (.inl rfl)))) (blkOk_by (own := [("name", 3), ("entries", 4)]) (by kernel_rfl)) (fun _ _ _ _ _ => (vg_tup rfl (vgs_cons (vg_name (pg_name sc_Plan___init__.nd rfl (.inl rfl))) (vgs_cons (vg_name (pg_name sc_Plan___init__.nd rfl (.inl rfl))) vgs_nil)))) (fun _ _ _ _ _ => vts_nil) (fun _ _ _ _ _ => (ve_name (pe_var (i := 3) rfl (.inl rfl)))) (fun _ _ _ _ _ => (ve_ty cv_list rfl (c.free 4) bo_list (va_cons true (ve_name (pe_var (i := 4) rfl (.inl rfl))) va_nil))))) (vs_cons (vs_attr (c.cls 29) (c.noat 31) (pe_var (i := 0) rfl (.inl rfl)) (ve_ty cv_list rfl (c.free 4) bo_list (va_cons true (ve_name (pe_var (i := 2) rfl (.inl rfl))) va_nil))) (vs_one (vs_attr (c.cls 29) (c.noat 34) (pe_var (i := 0) rfl (.inl rfl)) (ve_callF (ok_all_tables (P := P) (w := w) (base := base) c) (aCons_len aNil_len) (hr.mono (by decide)) rfl (c.glo 33) (va_cons true (ve_name (pe_var (i := 1) rfl (.inl rfl))) va_nil))))))))

theorem sc__law_listed : FnScope ["_law_rows", "_law_before", "_law_result", "_law_entry", "_law_name_here", "_law_many", "_law_index"] ["_law_rows", "_law_before"] (defScope s__law_listed) := ⟨rfl, rfl, rfl, by decide +kernel, rfl, by decide +kernel, by decide +kernel⟩
theorem ok__law_listed (c : Fx ex fa fn K mg) : FnP P w K mg base 1 (He.ga K "_law_listed") 2 m__law_listed :=
  fnW' (k := 0) (c.s.d.def_ 17 (d := d__law_listed) rfl) sc__law_listed (fun _ _ _ _ _ _ us hl => match us, hl with | [_, _], _ => rfl) fun cdv A outer s H E hr =>
    have hu1 := hu1_of hr
    have hu64 := hu64_of hr
    have hu65 := hu65_of hr
    (vs_cons (vs_set (i := 2) rfl sc__law_listed.nd rfl (.inl rfl) (ve_lst vb_nil)) (vs_cons (vs_for rfl PassesOwn.never rfl (vi_enumU rfl (c.free 7) (vb_cons (ve_name (pe_var (i := 0) rfl (.inl rfl))) vb_nil)) (vg_tup rfl (vgs_cons (vg_name (pg_name sc__law_listed.nd rfl (.inr rfl))) (vgs_cons (vg_tup rfl (vgs_cons (vg_name (pg_name sc__law_listed.nd rfl (.inl rfl))) (vgs_cons (vg_name (pg_name sc__law_listed.nd rfl (.inl rfl))) vgs_nil))) vgs_nil))) (vs_one (vs_expr (ve_ext (pe_var (i := 2) rfl (.inl rfl)) (vb_cons (ve_lc (own := [("_law_index", 6)]) rfl rfl sc__law_listed.nd (vi_range1 rfl (c.free 8) (vb_cons (ve_name (pe_var (i := 5) rfl (.inl rfl))) vb_nil)) (blkOk_by (own := [("_law_index", 6)]) (by kernel_rfl)) (fun _ _ _ _ _ => (vg_name (pg_name sc__law_listed.nd rfl (.inl rfl)))) (fun _ _ _ _ _ => vts_nil) (fun _ _ _ _ _ => (ve_op ov_add (ve_name (pe_var (i := 1) rfl (.inr (.inl rfl)))) (ve_tup (vb_cons (ve_tup (vb_cons (ve_name (pe_var (i := 3) rfl (.inr (.inl rfl)))) (vb_cons (ve_name (pe_var (i := 6) rfl (.inl rfl))) vb_nil))) vb_nil))))) vb_nil))))) (vs_one (vs_ret 2 (ve_name (pe_var (i := 2) rfl (.inl rfl)))))))

theorem sc__law_name : FnScope ["_law_kinds", "_law_rows", "_law_spot", "_law_entries", "_law_name_here", "_law_entry", "_law_index"] ["_law_kinds", "_law_rows", "_law_spot"] (defScope s__law_name) := ⟨rfl, rfl, rfl, by decide +kernel, rfl, by decide +kernel, by decide +kernel⟩
theorem ok__law_name (c : Fx ex fa fn K mg) : FnP P w K mg base 1 (He.ga K "_law_name") 3 m__law_name :=
  fnW' (k := 0) (c.s.d.def_ 18 (d := d__law_name) rfl) sc__law_name (fun _ _ _ _ _ _ us hl => match us, hl with | [_, _, _], _ => rfl) fun cdv A outer s H E hr =>
    have hu1 := hu1_of hr
    have hu64 := hu64_of hr
    have hu65 := hu65_of hr
    (vs_cons (vs_set (i := 3) rfl sc__law_name.nd rfl (.inl rfl) (ve_ty (cv_dict rfl) rfl (c.free 38) bo_dict (va_cons true (ve_name (pe_var (i := 0) rfl (.inl rfl))) va_nil))) (vs_cons (vs_set (i := 4) rfl sc__law_name.nd rfl (.inl rfl) ve_str) (vs_cons (vs_for rfl PassesOwn.never rfl (vi_seq (ve_name (pe_var (i := 2) rfl (.inl rfl)))) (vg_tup rfl (vgs_cons (vg_name (pg_name sc__law_name.nd rfl (.inl rfl))) (vgs_cons (vg_name (pg_name sc__law_name.nd rfl (.inl rfl))) vgs_nil))) (vs_cons (vs_set (i := 4) rfl sc__law_name.nd rfl (.inl rfl) (ve_ix hu1 (ve_ix hu1 (ve_name (pe_var (i := 1) rfl (.inl rfl))) (ve_name (pe_var (i := 5) rfl (.inl rfl))) (fun _ _ => rfl)) ve_int (fun _ _ => rfl))) (vs_one (vs_set (i := 1) rfl sc__law_name.nd rfl (.inl rfl) (ve_ix hu1 (ve_name (pe_var (i := 3) rfl (.inl rfl))) (ve_name (pe_var (i := 4) rfl (.inl rfl))) (fun _ _ => rfl)))))) (vs_one (vs_ret 3 (ve_name (pe_var (i := 4) rfl (.inl rfl))))))))

theorem sc__law_below : FnScope ["_law_kinds", "_law_rows", "_law_spot"] ["_law_kinds", "_law_rows", "_law_spot"] (defScope s__law_below) := ⟨rfl, rfl, rfl, by decide +kernel, rfl, by decide +kernel, by decide +kernel⟩
theorem ok__law_below (c : Fx ex fa fn K mg) : FnP P w K mg base 2 (He.ga K "_law_below") 3 m__law_below :=
  fnW' (k := 1) (c.s.d.def_ 19 (d := d__law_below) rfl) sc__law_below (fun _ _ _ _ _ _ us hl => match us, hl with | [_, _, _], _ => rfl) fun cdv A outer s H E hr =>
    have hu1 := hu1_of hr
    have hu64 := hu64_of hr
    have hu65 := hu65_of hr
    (vs_one (vs_ret 3 (ve_callF (ok__law_listed (P := P) (w := w) (base := base) c) (aCons_len (aCons_len aNil_len)) (hr.mono (by decide)) rfl (c.glo 37) (va_cons false (ve_ix hu1 (ve_ty (cv_dict rfl) rfl (c.free 38) bo_dict (va_cons true (ve_name (pe_var (i := 0) rfl (.inl rfl))) va_nil)) (ve_callF (ok__law_name (P := P) (w := w) (base := base) c) (aCons_len (aCons_len (aCons_len aNil_len))) (hr.mono (by decide)) rfl (c.glo 39) (va_cons true (ve_name (pe_var (i := 0) rfl (.inl rfl))) (va_cons false (ve_name (pe_var (i := 1) rfl (.inl rfl))) (va_cons true (ve_name (pe_var (i := 2) rfl (.inl rfl))) va_nil)))) (fun _ _ => rfl)) (va_cons true (ve_name (pe_var (i := 2) rfl (.inl rfl))) va_nil)))))

theorem sc__law_order : FnScope ["_law_kinds", "_law_rows", "_law_is_first", "_law_waiting", "_law_result"] ["_law_kinds", "_law_rows", "_law_is_first"] (defScope s__law_order) := ⟨rfl, rfl, rfl, by decide +kernel, rfl, by decide +kernel, by decide +kernel⟩
theorem ok__law_order (c : Fx ex fa fn K mg) : FnP P w K mg base 3 (He.ga K "_law_order") 3 m__law_order :=
  fnW' (k := 2) (c.s.d.def_ 20 (d := d__law_order) rfl) sc__law_order (fun _ _ _ _ _ _ us hl => match us, hl with | [_, _, _], _ => rfl) fun cdv A outer s H E hr =>
    have hu1 := hu1_of hr
    have hu64 := hu64_of hr
    have hu65 := hu65_of hr
    (vs_cons (vs_set (i := 3) rfl sc__law_order.nd rfl (.inl rfl) (ve_callF (ok__law_listed (P := P) (w := w) (base := base) c) (aCons_len (aCons_len aNil_len)) (hr.mono (by decide)) rfl (c.glo 37) (va_cons true (ve_name (pe_var (i := 1) rfl (.inl rfl))) (va_cons false (ve_tup vb_nil) va_nil)))) (vs_cons (vs_set (i := 4) rfl sc__law_order.nd rfl (.inl rfl) (ve_lst vb_nil)) (vs_cons (vs_while PassesOwn.never (vt_cmp (ov_ne hu64) (ve_name (pe_var (i := 3) rfl (.inl rfl))) (ve_lst vb_nil) (nomark _)) (vs_cons (vs_expr (ve_app (pe_var (i := 4) rfl (.inl rfl)) (vb_cons (ve_if (vt_val (ve_name (pe_var (i := 2) rfl (.inl rfl)))) (ve_pop1 (pe_var (i := 3) rfl (.inl rfl)) (vb_cons ve_int vb_nil)) (ve_pop0 (pe_var (i := 3) rfl (.inl rfl)))) vb_nil))) (vs_one (vs_expr (ve_ext (pe_var (i := 3) rfl (.inl rfl)) (vb_cons (ve_callF (ok__law_below (P := P) (w := w) (base := base) c) (aCons_len (aCons_len (aCons_len aNil_len))) (hr.mono (by decide)) rfl (c.glo 40) (va_cons true (ve_name (pe_var (i := 0) rfl (.inl rfl))) (va_cons true (ve_name (pe_var (i := 1) rfl (.inl rfl))) (va_cons false (ve_ix hu1 (ve_name (pe_var (i := 4) rfl (.inl rfl))) (ve_neg ve_int) (fun _ _ => rfl)) va_nil)))) vb_nil)))))) (vs_one (vs_ret 3 (ve_name (pe_var (i := 4) rfl (.inl rfl))))))))

theorem sc_check_discipline : FnScope ["value"] ["value"] (defScope s_check_discipline) := ⟨rfl, rfl, rfl, by decide +kernel, rfl, by decide +kernel, by decide +kernel⟩
theorem ok_check_discipline (c : Fx ex fa fn K mg) : FnP P w K mg base 1 (He.ga K "check_discipline") 1 m_check_discipline :=
  fnW' (k := 0) (c.s.d.def_ 21 (d := d_check_discipline) rfl) sc_check_discipline (fun _ _ _ _ _ _ us hl => match us, hl with | [_], _ => rfl) fun cdv A outer s H E hr =>
    have hu1 := hu1_of hr
    have hu64 := hu64_of hr
    have hu65 := hu65_of hr
    (vs_one (vs_if (PW.pt (vw_or (vt_not (vt_val (ve_isi rfl (c.free 13) rfl (c.free 16) bo_str (ve_name (pe_var (i := 0) rfl (.inl rfl)))))) (vw_or1 (vt_cmp ov_ninT (ve_name (pe_var (i := 0) rfl (.inl rfl))) (ve_tup (vb_cons (ve_gstr rfl (c.str 43)) (vb_cons (ve_gstr rfl (c.str 42)) vb_nil))) (by with_unfolding_all rfl))))) (vs_one vs_never) vs_nil))

theorem sc_Plan_root_entries : FnScope ["self"] ["self"] (defScope s_Plan_root_entries) := ⟨rfl, rfl, rfl, by decide +kernel, rfl, by decide +kernel, by decide +kernel⟩
theorem ok_Plan_root_entries (c : Fx ex fa fn K mg) : FnP P w K mg base 1 (He.ma K (He.ga K "Plan") "root_entries") 1 m_Plan_root_entries :=
  fnW' (k := 0) (c.s.d.def_ 22 (d := d_Plan_root_entries) rfl) sc_Plan_root_entries (fun _ _ _ _ _ _ us hl => match us, hl with | [_], _ => rfl) fun cdv A outer s H E hr =>
    have hu1 := hu1_of hr
    have hu64 := hu64_of hr
    have hu65 := hu65_of hr
    (vs_one (vs_ret 1 (ve_ty cv_list rfl (c.free 4) bo_list (va_cons true (ve_fld (c.cls 29) (c.noat 31) (ve_name (pe_var (i := 0) rfl (.inl rfl))) rfl) va_nil))))

theorem sc_is_step : FnScope ["value", "rows"] ["value", "rows"] (defScope s_is_step) := ⟨rfl, rfl, rfl, by decide +kernel, rfl, by decide +kernel, by decide +kernel⟩
theorem ok_is_step (c : Fx ex fa fn K mg) : FnP P w K mg base 2 (He.ga K "is_step") 2 m_is_step :=
  fnW' (k := 1) (c.s.d.def_ 23 (d := d_is_step) rfl) sc_is_step (fun _ _ _ _ _ _ us hl => match us, hl with | [_, _], _ => rfl) fun cdv A outer s H E hr =>
    have hu1 := hu1_of hr
    have hu64 := hu64_of hr
    have hu65 := hu65_of hr
    (vs_cons (vs_if (PW.pt (vw_or (vt_not (vt_val (ve_isi rfl (c.free 13) rfl (c.free 15) bo_tuple (ve_name (pe_var (i := 0) rfl (.inl rfl)))))) (vw_or (vt_cmp (ov_ne hu64) (ve_bi cv_len rfl (c.free 0) bo_len (va_cons true (ve_name (pe_var (i := 0) rfl (.inl rfl))) va_nil)) ve_int (nomark _)) (vw_or (vt_not (vt_val (ve_callF (ok_is_integer (P := P) (w := w) (base := base) c) (aCons_len aNil_len) (hr.mono (by decide)) rfl (c.glo 22) (va_cons false (ve_ix hu1 (ve_name (pe_var (i := 0) rfl (.inl rfl))) ve_int (fun _ _ => rfl)) va_nil)))) (vw_or1 (vt_not (vt_val (ve_callF (ok_is_integer (P := P) (w := w) (base := base) c) (aCons_len aNil_len) (hr.mono (by decide)) rfl (c.glo 22) (va_cons false (ve_ix hu1 (ve_name (pe_var (i := 0) rfl (.inl rfl))) ve_int (fun _ _ => rfl)) va_nil))))))))) (vs_one (vs_ret 2 ve_bl)) vs_nil) (vs_one (vs_ret 2 (ve_and (ve_chain ov_le ov_lt ve_int (ve_ix hu1 (ve_name (pe_var (i := 0) rfl (.inl rfl))) ve_int (fun _ _ => rfl)) (ve_bi cv_len rfl (c.free 0) bo_len (va_cons true (ve_name (pe_var (i := 1) rfl (.inl rfl))) va_nil))) (ve_one (ve_chain ov_le ov_lt ve_int (ve_ix hu1 (ve_name (pe_var (i := 0) rfl (.inl rfl))) ve_int (fun _ _ => rfl)) (ve_ix hu1 (ve_ix hu1 (ve_name (pe_var (i := 1) rfl (.inl rfl))) (ve_ix hu1 (ve_name (pe_var (i := 0) rfl (.inl rfl))) ve_int (fun _ _ => rfl)) (fun _ _ => rfl)) ve_int (fun _ _ => rfl))))))))

theorem sc_Plan___contains__ : FnScope ["self", "name"] ["self", "name"] (defScope s_Plan___contains__) := ⟨rfl, rfl, rfl, by decide +kernel, rfl, by decide +kernel, by decide +kernel⟩
theorem ok_Plan___contains__ (c : Fx ex fa fn K mg) : FnP P w K mg base 1 (He.ma K (He.ga K "Plan") "__contains__") 2 m_Plan___contains__ :=
  fnW' (k := 0) (c.s.d.def_ 24 (d := d_Plan___contains__) rfl) sc_Plan___contains__ (fun _ _ _ _ _ _ us hl => match us, hl with | [_, _], _ => rfl) fun cdv A outer s H E hr =>
    have hu1 := hu1_of hr
    have hu64 := hu64_of hr
    have hu65 := hu65_of hr
    (vs_one (vs_ret 2 (ve_and (ve_isi rfl (c.free 13) rfl (c.free 16) bo_str (ve_name (pe_var (i := 1) rfl (.inl rfl)))) (ve_one (ve_cmp (ov_in hu65) (ve_name (pe_var (i := 1) rfl (.inl rfl))) (ve_fld (c.cls 29) (c.noat 30) (ve_name (pe_var (i := 0) rfl (.inl rfl))) rfl) (by with_unfolding_all rfl))))))

theorem sc_Plan_check_name : FnScope ["self", "name"] ["self", "name"] (defScope s_Plan_check_name) := ⟨rfl, rfl, rfl, by decide +kernel, rfl, by decide +kernel, by decide +kernel⟩
theorem ok_Plan_check_name (c : Fx ex fa fn K mg) : FnP P w K mg base 2 (He.ma K (He.ga K "Plan") "check_name") 2 m_Plan_check_name :=
  fnW' (k := 1) (c.s.d.def_ 25 (d := d_Plan_check_name) rfl) sc_Plan_check_name (fun _ _ _ _ _ _ us hl => match us, hl with | [_, _], _ => rfl) fun cdv A outer s H E hr =>
    have hu1 := hu1_of hr
    have hu64 := hu64_of hr
    have hu65 := hu65_of hr
    (vs_one (vs_if (vt_ninOF (ok_Plan___contains__ (P := P) (w := w) (base := base) c) (hr.mono (by decide)) (c.opf 47) (ve_name (pe_var (i := 1) rfl (.inl rfl))) (ve_name (pe_var (i := 0) rfl (.inl rfl))) (by with_unfolding_all rfl)) (vs_one vs_never) vs_nil))

theorem sc_Plan_entries_of : FnScope ["self", "name"] ["self", "name"] (defScope s_Plan_entries_of) := ⟨rfl, rfl, rfl, by decide +kernel, rfl, by decide +kernel, by decide +kernel⟩
theorem ok_Plan_entries_of (c : Fx ex fa fn K mg) : FnP P w K mg base 3 (He.ma K (He.ga K "Plan") "entries_of") 2 m_Plan_entries_of :=
  fnW' (k := 2) (c.s.d.def_ 26 (d := d_Plan_entries_of) rfl) sc_Plan_entries_of (fun _ _ _ _ _ _ us hl => match us, hl with | [_, _], _ => rfl) fun cdv A outer s H E hr =>
    have hu1 := hu1_of hr
    have hu64 := hu64_of hr
    have hu65 := hu65_of hr
    (vs_cons (vs_expr (ve_methF (ok_Plan_check_name (P := P) (w := w) (base := base) c) (c.cls 29) (c.meth 48) (len_up (aCons_len aNil_len)) (hr.mono (by decide)) (ve_name (pe_var (i := 0) rfl (.inl rfl))) (va_cons true (ve_name (pe_var (i := 1) rfl (.inl rfl))) va_nil))) (vs_one (vs_ret 2 (ve_ty cv_list rfl (c.free 4) bo_list (va_cons true (ve_ix hu1 (ve_fld (c.cls 29) (c.noat 30) (ve_name (pe_var (i := 0) rfl (.inl rfl))) rfl) (ve_name (pe_var (i := 1) rfl (.inl rfl))) (fun _ _ => rfl)) va_nil)))))

theorem sc_kind_at : FnScope ["plan", "path", "kind", "rows", "step"] ["plan", "path"] (defScope s_kind_at) := ⟨rfl, rfl, rfl, by decide +kernel, rfl, by decide +kernel, by decide +kernel⟩
theorem ok_kind_at (c : Fx ex fa fn K mg) : FnP P w K mg base 4 (He.ga K "kind_at") 2 m_kind_at :=
  fnW' (k := 3) (c.s.d.def_ 27 (d := d_kind_at) rfl) sc_kind_at (fun _ _ _ _ _ _ us hl => match us, hl with | [_, _], _ => rfl) fun cdv A outer s H E hr =>
    have hu1 := hu1_of hr
    have hu64 := hu64_of hr
    have hu65 := hu65_of hr
    (vs_cons (vs_if (vt_not (vt_val (ve_isi rfl (c.free 13) rfl (c.free 15) bo_tuple (ve_name (pe_var (i := 1) rfl (.inl rfl)))))) (vs_one (vs_ret 2 ve_non)) vs_nil) (vs_cons (vs_par (i := 2) (j := 3) rfl rfl sc_kind_at.nd rfl rfl (by decide) rfl rfl (vb_cons ve_non (vb_cons (ve_methF0 (ok_Plan_root_entries (P := P) (w := w) (base := base) c) (c.cls 29) (c.meth 45) (hr.mono (by decide)) (ve_name (pe_var (i := 0) rfl (.inl rfl)))) vb_nil)) rfl) (vs_cons (vs_for rfl PassesOwn.never rfl (vi_seq (ve_name (pe_var (i := 1) rfl (.inl rfl)))) (vg_name (pg_name sc_kind_at.nd rfl (.inl rfl))) (vs_cons (vs_if (vt_not (vt_val (ve_callF (ok_is_step (P := P) (w := w) (base := base) c) (aCons_len (aCons_len aNil_len)) (hr.mono (by decide)) rfl (c.glo 46) (va_cons true (ve_name (pe_var (i := 4) rfl (.inl rfl))) (va_cons true (ve_name (pe_var (i := 3) rfl (.inl rfl))) va_nil))))) (vs_one (vs_ret 2 ve_non)) vs_nil) (vs_cons (vs_set (i := 2) rfl sc_kind_at.nd rfl (.inl rfl) (ve_ix hu1 (ve_ix hu1 (ve_name (pe_var (i := 3) rfl (.inl rfl))) (ve_ix hu1 (ve_name (pe_var (i := 4) rfl (.inl rfl))) ve_int (fun _ _ => rfl)) (fun _ _ => rfl)) ve_int (fun _ _ => rfl))) (vs_one (vs_set (i := 3) rfl sc_kind_at.nd rfl (.inl rfl) (ve_methF (ok_Plan_entries_of (P := P) (w := w) (base := base) c) (c.cls 29) (c.meth 49) (len_up (aCons_len aNil_len)) (hr.mono (by decide)) (ve_name (pe_var (i := 0) rfl (.inl rfl))) (va_cons true (ve_name (pe_var (i := 2) rfl (.inl rfl))) va_nil))))))) (vs_one (vs_ret 2 (ve_name (pe_var (i := 2) rfl (.inl rfl))))))))

theorem sc_type_of : FnScope ["plan", "path", "kind"] ["plan", "path"] (defScope s_type_of) := ⟨rfl, rfl, rfl, by decide +kernel, rfl, by decide +kernel, by decide +kernel⟩
theorem ok_type_of (c : Fx ex fa fn K mg) : FnP P w K mg base 5 (He.ga K "type_of") 2 m_type_of :=
  fnW' (k := 4) (c.s.d.def_ 28 (d := d_type_of) rfl) sc_type_of (fun _ _ _ _ _ _ us hl => match us, hl with | [_, _], _ => rfl) fun cdv A outer s H E hr =>
    have hu1 := hu1_of hr
    have hu64 := hu64_of hr
    have hu65 := hu65_of hr
    (vs_cons (vs_set (i := 2) rfl sc_type_of.nd rfl (.inl rfl) (ve_callF (ok_kind_at (P := P) (w := w) (base := base) c) (aCons_len (aCons_len aNil_len)) (hr.mono (by decide)) rfl (c.glo 50) (va_cons true (ve_name (pe_var (i := 0) rfl (.inl rfl))) (va_cons true (ve_name (pe_var (i := 1) rfl (.inl rfl))) va_nil)))) (vs_cons (vs_if (vt_cmp ov_isN (ve_name (pe_var (i := 2) rfl (.inl rfl))) ve_non (nomark _)) (vs_one vs_never) vs_nil) (vs_one (vs_ret 2 (ve_name (pe_var (i := 2) rfl (.inl rfl)))))))

theorem sc_check_least : FnScope ["part", "value", "low"] ["part", "value", "low"] (defScope s_check_least) := ⟨rfl, rfl, rfl, by decide +kernel, rfl, by decide +kernel, by decide +kernel⟩
theorem ok_check_least (c : Fx ex fa fn K mg) : FnP P w K mg base 2 (He.ga K "check_least") 3 m_check_least :=
  fnW' (k := 1) (c.s.d.def_ 29 (d := d_check_least) rfl) sc_check_least (fun _ _ _ _ _ _ us hl => match us, hl with | [_, _, _], _ => rfl) fun cdv A outer s H E hr =>
    have hu1 := hu1_of hr
    have hu64 := hu64_of hr
    have hu65 := hu65_of hr
    (vs_one (vs_if (PW.pt (vw_or (vt_not (vt_val (ve_callF (ok_is_integer (P := P) (w := w) (base := base) c) (aCons_len aNil_len) (hr.mono (by decide)) rfl (c.glo 22) (va_cons true (ve_name (pe_var (i := 1) rfl (.inl rfl))) va_nil)))) (vw_or1 (vt_cmp ov_lt (ve_name (pe_var (i := 1) rfl (.inl rfl))) (ve_name (pe_var (i := 2) rfl (.inl rfl))) (nomark _))))) (vs_one vs_never) vs_nil))

theorem sc_Plan_pair_at : FnScope ["self", "name", "distance", "table"] ["self", "name", "distance"] (defScope s_Plan_pair_at) := ⟨rfl, rfl, rfl, by decide +kernel, rfl, by decide +kernel, by decide +kernel⟩
theorem ok_Plan_pair_at (c : Fx ex fa fn K mg) : FnP P w K mg base 1 (He.ma K (He.ga K "Plan") "pair_at") 3 m_Plan_pair_at :=
  fnW' (k := 0) (c.s.d.def_ 30 (d := d_Plan_pair_at) rfl) sc_Plan_pair_at (fun _ _ _ _ _ _ us hl => match us, hl with | [_, _, _], _ => rfl) fun cdv A outer s H E hr =>
    have hu1 := hu1_of hr
    have hu64 := hu64_of hr
    have hu65 := hu65_of hr
    (vs_cons (vs_set (i := 3) rfl sc_Plan_pair_at.nd rfl (.inl rfl) (ve_ix hu1 (ve_fld (c.cls 29) (c.noat 34) (ve_name (pe_var (i := 0) rfl (.inl rfl))) rfl) (ve_name (pe_var (i := 1) rfl (.inl rfl))) (fun _ _ => rfl))) (vs_one (vs_ret 3 (ve_if (vt_cmp ov_lt (ve_name (pe_var (i := 2) rfl (.inl rfl))) (ve_bi cv_len rfl (c.free 0) bo_len (va_cons true (ve_name (pe_var (i := 3) rfl (.inl rfl))) va_nil)) (nomark _)) (ve_ix hu1 (ve_name (pe_var (i := 3) rfl (.inl rfl))) (ve_name (pe_var (i := 2) rfl (.inl rfl))) (fun _ _ => rfl)) (ve_tup (vb_cons ve_int (vb_cons ve_int vb_nil)))))))

theorem sc_Plan_level_total : FnScope ["self", "level", "name", "count"] ["self", "level"] (defScope s_Plan_level_total) := ⟨rfl, rfl, rfl, by decide +kernel, rfl, by decide +kernel, by decide +kernel⟩
theorem ok_Plan_level_total (c : Fx ex fa fn K mg) : FnP P w K mg base 3 (He.ma K (He.ga K "Plan") "level_total") 2 m_Plan_level_total :=
  fnW' (k := 2) (c.s.d.def_ 31 (d := d_Plan_level_total) rfl) sc_Plan_level_total (fun _ _ _ _ _ _ us hl => match us, hl with | [_, _], _ => rfl) fun cdv A outer s H E hr =>
    have hu1 := hu1_of hr
    have hu64 := hu64_of hr
    have hu65 := hu65_of hr
    (vs_cons (vs_expr (ve_callF (ok_check_least (P := P) (w := w) (base := base) c) (aCons_len (aCons_len (aCons_len aNil_len))) (hr.mono (by decide)) rfl (c.glo 52) (va_cons false ve_str (va_cons true (ve_name (pe_var (i := 1) rfl (.inr (.inl rfl)))) (va_cons false ve_int va_nil))))) (vs_one (vs_ret 2 (ve_bi (cv_sum rfl) rfl (c.free 10) bo_sum (va_cons true (ve_lc (own := [("name", 2), ("count", 3)]) rfl rfl sc_Plan_level_total.nd (vi_seq (ve_fld (c.cls 29) (c.noat 31) (ve_name (pe_var (i := 0) rfl (.inr (.inl rfl)))) rfl)) (blkOk_by (own := [("name", 2), ("count", 3)]) (by kernel_rfl)) (fun _ _ _ _ _ => (vg_tup rfl (vgs_cons (vg_name (pg_name sc_Plan_level_total.nd rfl (.inl rfl))) (vgs_cons (vg_name (pg_name sc_Plan_level_total.nd rfl (.inl rfl))) vgs_nil)))) (fun _ _ _ _ _ => vts_nil) (fun _ _ _ _ _ => (ve_op ov_mul (ve_name (pe_var (i := 3) rfl (.inl rfl))) (ve_ix hu1 (ve_methF (ok_Plan_pair_at (P := P) (w := w) (base := base) c) (c.cls 29) (c.meth 53) (len_up (aCons_len (aCons_len aNil_len))) (hr.mono (by decide)) (ve_name (pe_var (i := 0) rfl (.inr (.inl rfl)))) (va_cons true (ve_name (pe_var (i := 2) rfl (.inl rfl))) (va_cons true (ve_name (pe_var (i := 1) rfl (.inr (.inl rfl)))) va_nil))) ve_int (fun _ _ => rfl))))) va_nil)))))

theorem sc_first_of_level : FnScope ["plan", "level", "one"] ["plan", "level"] (defScope s_first_of_level) := ⟨rfl, rfl, rfl, by decide +kernel, rfl, by decide +kernel, by decide +kernel⟩
theorem ok_first_of_level (c : Fx ex fa fn K mg) : FnP P w K mg base 4 (He.ga K "first_of_level") 2 m_first_of_level :=
  fnW' (k := 3) (c.s.d.def_ 32 (d := d_first_of_level) rfl) sc_first_of_level (fun _ _ _ _ _ _ us hl => match us, hl with | [_, _], _ => rfl) fun cdv A outer s H E hr =>
    have hu1 := hu1_of hr
    have hu64 := hu64_of hr
    have hu65 := hu65_of hr
    (vs_one (vs_ret 2 (ve_bi (cv_sum rfl) rfl (c.free 10) bo_sum (va_cons true (ve_lc (own := [("one", 2)]) rfl rfl sc_first_of_level.nd (vi_range1 rfl (c.free 8) (vb_cons (ve_name (pe_var (i := 1) rfl (.inl rfl))) vb_nil)) (blkOk_by (own := [("one", 2)]) (by kernel_rfl)) (fun _ _ _ _ _ => (vg_name (pg_name sc_first_of_level.nd rfl (.inl rfl)))) (fun _ _ _ _ _ => vts_nil) (fun _ _ _ _ _ => (ve_methF (ok_Plan_level_total (P := P) (w := w) (base := base) c) (c.cls 29) (c.meth 54) (len_up (aCons_len aNil_len)) (hr.mono (by decide)) (ve_name (pe_var (i := 0) rfl (.inr (.inl rfl)))) (va_cons true (ve_name (pe_var (i := 2) rfl (.inl rfl))) va_nil)))) va_nil))))

theorem sc_Plan_descendants : FnScope ["self", "name", "distance"] ["self", "name", "distance"] (defScope s_Plan_descendants) := ⟨rfl, rfl, rfl, by decide +kernel, rfl, by decide +kernel, by decide +kernel⟩
theorem ok_Plan_descendants (c : Fx ex fa fn K mg) : FnP P w K mg base 3 (He.ma K (He.ga K "Plan") "descendants") 3 m_Plan_descendants :=
  fnW' (k := 2) (c.s.d.def_ 33 (d := d_Plan_descendants) rfl) sc_Plan_descendants (fun _ _ _ _ _ _ us hl => match us, hl with | [_, _, _], _ => rfl) fun cdv A outer s H E hr =>
    have hu1 := hu1_of hr
    have hu64 := hu64_of hr
    have hu65 := hu65_of hr
    (vs_cons (vs_expr (ve_methF (ok_Plan_check_name (P := P) (w := w) (base := base) c) (c.cls 29) (c.meth 48) (len_up (aCons_len aNil_len)) (hr.mono (by decide)) (ve_name (pe_var (i := 0) rfl (.inl rfl))) (va_cons true (ve_name (pe_var (i := 1) rfl (.inl rfl))) va_nil))) (vs_cons (vs_expr (ve_callF (ok_check_least (P := P) (w := w) (base := base) c) (aCons_len (aCons_len (aCons_len aNil_len))) (hr.mono (by decide)) rfl (c.glo 52) (va_cons false ve_str (va_cons true (ve_name (pe_var (i := 2) rfl (.inl rfl))) (va_cons false ve_int va_nil))))) (vs_one (vs_ret 3 (ve_ix hu1 (ve_methF (ok_Plan_pair_at (P := P) (w := w) (base := base) c) (c.cls 29) (c.meth 53) (len_up (aCons_len (aCons_len aNil_len))) (hr.mono (by decide)) (ve_name (pe_var (i := 0) rfl (.inl rfl))) (va_cons true (ve_name (pe_var (i := 1) rfl (.inl rfl))) (va_cons true (ve_name (pe_var (i := 2) rfl (.inl rfl))) va_nil))) ve_int (fun _ _ => rfl))))))

theorem sc_rank_in_level : FnScope ["plan", "path", "found", "rows", "at", "place", "index", "below", "kind", "many"] ["plan", "path"] (defScope s_rank_in_level) := ⟨rfl, rfl, rfl, by decide +kernel, rfl, by decide +kernel, by decide +kernel⟩
theorem ok_rank_in_level (c : Fx ex fa fn K mg) : FnP P w K mg base 4 (He.ga K "rank_in_level") 2 m_rank_in_level :=
  fnW' (k := 3) (c.s.d.def_ 34 (d := d_rank_in_level) rfl) sc_rank_in_level (fun _ _ _ _ _ _ us hl => match us, hl with | [_, _], _ => rfl) fun cdv A outer s H E hr =>
    have hu1 := hu1_of hr
    have hu64 := hu64_of hr
    have hu65 := hu65_of hr
    (vs_cons (vs_par (i := 2) (j := 3) rfl rfl sc_rank_in_level.nd rfl rfl (by decide) rfl rfl (vb_cons ve_int (vb_cons (ve_methF0 (ok_Plan_root_entries (P := P) (w := w) (base := base) c) (c.cls 29) (c.meth 45) (hr.mono (by decide)) (ve_name (pe_var (i := 0) rfl (.inr (.inl rfl))))) vb_nil)) rfl) (vs_cons (vs_for rfl PassesOwn.never rfl (vi_enumU rfl (c.free 7) (vb_cons (ve_name (pe_var (i := 1) rfl (.inl rfl))) vb_nil)) (vg_tup rfl (vgs_cons (vg_name (pg_name sc_rank_in_level.nd rfl (.inl rfl))) (vgs_cons (vg_tup rfl (vgs_cons (vg_name (pg_name sc_rank_in_level.nd rfl (.inl rfl))) (vgs_cons (vg_name (pg_name sc_rank_in_level.nd rfl (.inl rfl))) vgs_nil))) vgs_nil))) (vs_cons (vs_set (i := 7) rfl sc_rank_in_level.nd rfl (.inr rfl) (ve_op ov_sub (ve_op ov_sub (ve_bi cv_len rfl (c.free 0) bo_len (va_cons true (ve_name (pe_var (i := 1) rfl (.inl rfl))) va_nil)) ve_int) (ve_name (pe_var (i := 4) rfl (.inl rfl))))) (vs_cons (vs_set (i := 2) rfl sc_rank_in_level.nd rfl (.inl rfl) (ve_op ov_add (ve_name (pe_var (i := 2) rfl (.inl rfl))) (ve_bi (cv_sum rfl) rfl (c.free 10) bo_sum (va_cons true (ve_lc (own := [("kind", 8), ("many", 9)]) rfl rfl sc_rank_in_level.nd (vi_seq (ve_sl (ve_name (pe_var (i := 3) rfl (.inl rfl))) vo_none (vo_some (ve_name (pe_var (i := 5) rfl (.inl rfl)))))) (blkOk_by (own := [("kind", 8), ("many", 9)]) (by kernel_rfl)) (fun _ _ _ _ _ => (vg_tup rfl (vgs_cons (vg_name (pg_name sc_rank_in_level.nd rfl (.inl rfl))) (vgs_cons (vg_name (pg_name sc_rank_in_level.nd rfl (.inl rfl))) vgs_nil)))) (fun _ _ _ _ _ => vts_nil) (fun _ _ _ _ _ => (ve_op ov_mul (ve_name (pe_var (i := 9) rfl (.inl rfl))) (ve_methF (ok_Plan_descendants (P := P) (w := w) (base := base) c) (c.cls 29) (c.meth 56) (len_up (aCons_len (aCons_len aNil_len))) (hr.mono (by decide)) (ve_name (pe_var (i := 0) rfl (.inr (.inl rfl)))) (va_cons true (ve_name (pe_var (i := 8) rfl (.inl rfl))) (va_cons true (ve_name (pe_var (i := 7) rfl (.inr (.inl rfl)))) va_nil)))))) va_nil)))) (vs_cons (vs_set (i := 2) rfl sc_rank_in_level.nd rfl (.inl rfl) (ve_op ov_add (ve_name (pe_var (i := 2) rfl (.inl rfl))) (ve_op ov_mul (ve_name (pe_var (i := 6) rfl (.inl rfl))) (ve_methF (ok_Plan_descendants (P := P) (w := w) (base := base) c) (c.cls 29) (c.meth 56) (len_up (aCons_len (aCons_len aNil_len))) (hr.mono (by decide)) (ve_name (pe_var (i := 0) rfl (.inr (.inl rfl)))) (va_cons false (ve_ix hu1 (ve_ix hu1 (ve_name (pe_var (i := 3) rfl (.inl rfl))) (ve_name (pe_var (i := 5) rfl (.inl rfl))) (fun _ _ => rfl)) ve_int (fun _ _ => rfl)) (va_cons true (ve_name (pe_var (i := 7) rfl (.inr (.inl rfl)))) va_nil)))))) (vs_one (vs_set (i := 3) rfl sc_rank_in_level.nd rfl (.inl rfl) (ve_methF (ok_Plan_entries_of (P := P) (w := w) (base := base) c) (c.cls 29) (c.meth 49) (len_up (aCons_len aNil_len)) (hr.mono (by decide)) (ve_name (pe_var (i := 0) rfl (.inr (.inl rfl)))) (va_cons false (ve_ix hu1 (ve_ix hu1 (ve_name (pe_var (i := 3) rfl (.inl rfl))) (ve_name (pe_var (i := 5) rfl (.inl rfl))) (fun _ _ => rfl)) ve_int (fun _ _ => rfl)) va_nil)))))))) (vs_one (vs_ret 2 (ve_name (pe_var (i := 2) rfl (.inl rfl)))))))

theorem sc_Plan_tree_size : FnScope ["self", "name", "every", "inner"] ["self", "name"] (defScope s_Plan_tree_size) := ⟨rfl, rfl, rfl, by decide +kernel, rfl, by decide +kernel, by decide +kernel⟩
theorem ok_Plan_tree_size (c : Fx ex fa fn K mg) : FnP P w K mg base 3 (He.ma K (He.ga K "Plan") "tree_size") 2 m_Plan_tree_size :=
  fnW' (k := 2) (c.s.d.def_ 35 (d := d_Plan_tree_size) rfl) sc_Plan_tree_size (fun _ _ _ _ _ _ us hl => match us, hl with | [_, _], _ => rfl) fun cdv A outer s H E hr =>
    have hu1 := hu1_of hr
    have hu64 := hu64_of hr
    have hu65 := hu65_of hr
    (vs_cons (vs_expr (ve_methF (ok_Plan_check_name (P := P) (w := w) (base := base) c) (c.cls 29) (c.meth 48) (len_up (aCons_len aNil_len)) (hr.mono (by decide)) (ve_name (pe_var (i := 0) rfl (.inl rfl))) (va_cons true (ve_name (pe_var (i := 1) rfl (.inl rfl))) va_nil))) (vs_one (vs_ret 2 (ve_bi (cv_sum rfl) rfl (c.free 10) bo_sum (va_cons true (ve_lc (own := [("every", 2), ("inner", 3)]) rfl rfl sc_Plan_tree_size.nd (vi_seq (ve_ix hu1 (ve_fld (c.cls 29) (c.noat 34) (ve_name (pe_var (i := 0) rfl (.inl rfl))) rfl) (ve_name (pe_var (i := 1) rfl (.inl rfl))) (fun _ _ => rfl))) (blkOk_by (own := [("every", 2), ("inner", 3)]) (by kernel_rfl)) (fun _ _ _ _ _ => (vg_tup rfl (vgs_cons (vg_name (pg_name sc_Plan_tree_size.nd rfl (.inl rfl))) (vgs_cons (vg_name (pg_name sc_Plan_tree_size.nd rfl (.inl rfl))) vgs_nil)))) (fun _ _ _ _ _ => vts_nil) (fun _ _ _ _ _ => (ve_name (pe_var (i := 2) rfl (.inl rfl))))) va_nil)))))

theorem sc_rank_in_depth : FnScope ["plan", "path", "found", "rows", "place", "index", "kind", "many", "other", "more"] ["plan", "path"] (defScope s_rank_in_depth) := ⟨rfl, rfl, rfl, by decide +kernel, rfl, by decide +kernel, by decide +kernel⟩
theorem ok_rank_in_depth (c : Fx ex fa fn K mg) : FnP P w K mg base 4 (He.ga K "rank_in_depth") 2 m_rank_in_depth :=
  fnW' (k := 3) (c.s.d.def_ 36 (d := d_rank_in_depth) rfl) sc_rank_in_depth (fun _ _ _ _ _ _ us hl => match us, hl with | [_, _], _ => rfl) fun cdv A outer s H E hr =>
    have hu1 := hu1_of hr
    have hu64 := hu64_of hr
    have hu65 := hu65_of hr
    (vs_cons (vs_par (i := 2) (j := 3) rfl rfl sc_rank_in_depth.nd rfl rfl (by decide) rfl rfl (vb_cons (ve_op ov_sub (ve_bi cv_len rfl (c.free 0) bo_len (va_cons true (ve_name (pe_var (i := 1) rfl (.inl rfl))) va_nil)) ve_int) (vb_cons (ve_methF0 (ok_Plan_root_entries (P := P) (w := w) (base := base) c) (c.cls 29) (c.meth 45) (hr.mono (by decide)) (ve_name (pe_var (i := 0) rfl (.inr (.inl rfl))))) vb_nil)) rfl) (vs_cons (vs_for rfl PassesOwn.never rfl (vi_seq (ve_name (pe_var (i := 1) rfl (.inl rfl)))) (vg_tup rfl (vgs_cons (vg_name (pg_name sc_rank_in_depth.nd rfl (.inl rfl))) (vgs_cons (vg_name (pg_name sc_rank_in_depth.nd rfl (.inl rfl))) vgs_nil))) (vs_cons (vs_asg rfl (ve_ix hu1 (ve_name (pe_var (i := 3) rfl (.inl rfl))) (ve_name (pe_var (i := 4) rfl (.inl rfl))) (fun _ _ => rfl)) (vg_tup rfl (vgs_cons (vg_name (pg_name sc_rank_in_depth.nd rfl (.inl rfl))) (vgs_cons (vg_name (pg_name sc_rank_in_depth.nd rfl (.inl rfl))) vgs_nil)))) (vs_cons (vs_set (i := 2) rfl sc_rank_in_depth.nd rfl (.inl rfl) (ve_op ov_add (ve_name (pe_var (i := 2) rfl (.inl rfl))) (ve_bi (cv_sum rfl) rfl (c.free 10) bo_sum (va_cons true (ve_lc (own := [("other", 8), ("more", 9)]) rfl rfl sc_rank_in_depth.nd (vi_seq (ve_sl (ve_name (pe_var (i := 3) rfl (.inl rfl))) (vo_some (ve_op ov_add (ve_name (pe_var (i := 4) rfl (.inl rfl))) ve_int)) vo_none)) (blkOk_by (own := [("other", 8), ("more", 9)]) (by kernel_rfl)) (fun _ _ _ _ _ => (vg_tup rfl (vgs_cons (vg_name (pg_name sc_rank_in_depth.nd rfl (.inl rfl))) (vgs_cons (vg_name (pg_name sc_rank_in_depth.nd rfl (.inl rfl))) vgs_nil)))) (fun _ _ _ _ _ => vts_nil) (fun _ _ _ _ _ => (ve_op ov_mul (ve_name (pe_var (i := 9) rfl (.inl rfl))) (ve_methF (ok_Plan_tree_size (P := P) (w := w) (base := base) c) (c.cls 29) (c.meth 58) (len_up (aCons_len aNil_len)) (hr.mono (by decide)) (ve_name (pe_var (i := 0) rfl (.inr (.inl rfl)))) (va_cons true (ve_name (pe_var (i := 8) rfl (.inl rfl))) va_nil))))) va_nil)))) (vs_cons (vs_set (i := 2) rfl sc_rank_in_depth.nd rfl (.inl rfl) (ve_op ov_add (ve_name (pe_var (i := 2) rfl (.inl rfl))) (ve_op ov_mul (ve_op ov_sub (ve_op ov_sub (ve_name (pe_var (i := 7) rfl (.inl rfl))) ve_int) (ve_name (pe_var (i := 5) rfl (.inl rfl)))) (ve_methF (ok_Plan_tree_size (P := P) (w := w) (base := base) c) (c.cls 29) (c.meth 58) (len_up (aCons_len aNil_len)) (hr.mono (by decide)) (ve_name (pe_var (i := 0) rfl (.inr (.inl rfl)))) (va_cons true (ve_name (pe_var (i := 6) rfl (.inl rfl))) va_nil))))) (vs_one (vs_set (i := 3) rfl sc_rank_in_depth.nd rfl (.inl rfl) (ve_methF (ok_Plan_entries_of (P := P) (w := w) (base := base) c) (c.cls 29) (c.meth 49) (len_up (aCons_len aNil_len)) (hr.mono (by decide)) (ve_name (pe_var (i := 0) rfl (.inr (.inl rfl)))) (va_cons true (ve_name (pe_var (i := 6) rfl (.inl rfl))) va_nil)))))))) (vs_one (vs_ret 2 (ve_name (pe_var (i := 2) rfl (.inl rfl)))))))

theorem sc_number_of : FnScope ["plan", "discipline", "path"] ["plan", "discipline", "path"] (defScope s_number_of) := ⟨rfl, rfl, rfl, by decide +kernel, rfl, by decide +kernel, by decide +kernel⟩
theorem ok_number_of (c : Fx ex fa fn K mg) : FnP P w K mg base 5 (He.ga K "number_of") 3 m_number_of :=
  fnW' (k := 4) (c.s.d.def_ 37 (d := d_number_of) rfl) sc_number_of (fun _ _ _ _ _ _ us hl => match us, hl with | [_, _, _], _ => rfl) fun cdv A outer s H E hr =>
    have hu1 := hu1_of hr
    have hu64 := hu64_of hr
    have hu65 := hu65_of hr
    (vs_cons (vs_if (vt_cmp (ov_eq hu64) (ve_name (pe_var (i := 1) rfl (.inl rfl))) (ve_gstr rfl (c.str 43)) (nomark _)) (vs_one (vs_ret 3 (ve_op ov_add (ve_callF (ok_first_of_level (P := P) (w := w) (base := base) c) (aCons_len (aCons_len aNil_len)) (hr.mono (by decide)) rfl (c.glo 55) (va_cons true (ve_name (pe_var (i := 0) rfl (.inl rfl))) (va_cons false (ve_op ov_sub (ve_bi cv_len rfl (c.free 0) bo_len (va_cons true (ve_name (pe_var (i := 2) rfl (.inl rfl))) va_nil)) ve_int) va_nil))) (ve_callF (ok_rank_in_level (P := P) (w := w) (base := base) c) (aCons_len (aCons_len aNil_len)) (hr.mono (by decide)) rfl (c.glo 57) (va_cons true (ve_name (pe_var (i := 0) rfl (.inl rfl))) (va_cons true (ve_name (pe_var (i := 2) rfl (.inl rfl))) va_nil)))))) vs_nil) (vs_one (vs_ret 3 (ve_callF (ok_rank_in_depth (P := P) (w := w) (base := base) c) (aCons_len (aCons_len aNil_len)) (hr.mono (by decide)) rfl (c.glo 59) (va_cons true (ve_name (pe_var (i := 0) rfl (.inl rfl))) (va_cons true (ve_name (pe_var (i := 2) rfl (.inl rfl))) va_nil))))))

theorem sc_start_number : FnScope ["plan", "discipline", "path"] ["plan", "discipline", "path"] (defScope s_start_number) := ⟨rfl, rfl, rfl, by decide +kernel, rfl, by decide +kernel, by decide +kernel⟩
theorem ok_start_number (c : Fx ex fa fn K mg) : FnP P w K mg base 6 (He.ga K "start_number") 3 m_start_number :=
  fnW' (k := 5) (c.s.d.def_ 38 (d := d_start_number) rfl) sc_start_number (fun _ _ _ _ _ _ us hl => match us, hl with | [_, _, _], _ => rfl) fun cdv A outer s H E hr =>
    have hu1 := hu1_of hr
    have hu64 := hu64_of hr
    have hu65 := hu65_of hr
    (vs_cons (vs_expr (ve_callF (ok_check_discipline (P := P) (w := w) (base := base) c) (aCons_len aNil_len) (hr.mono (by decide)) rfl (c.glo 44) (va_cons true (ve_name (pe_var (i := 1) rfl (.inl rfl))) va_nil))) (vs_cons (vs_expr (ve_callF (ok_type_of (P := P) (w := w) (base := base) c) (aCons_len (aCons_len aNil_len)) (hr.mono (by decide)) rfl (c.glo 51) (va_cons true (ve_name (pe_var (i := 0) rfl (.inl rfl))) (va_cons true (ve_name (pe_var (i := 2) rfl (.inl rfl))) va_nil)))) (vs_one (vs_ret 3 (ve_callF (ok_number_of (P := P) (w := w) (base := base) c) (aCons_len (aCons_len (aCons_len aNil_len))) (hr.mono (by decide)) rfl (c.glo 60) (va_cons true (ve_name (pe_var (i := 0) rfl (.inl rfl))) (va_cons true (ve_name (pe_var (i := 1) rfl (.inl rfl))) (va_cons true (ve_name (pe_var (i := 2) rfl (.inl rfl))) va_nil))))))))

theorem sc_Plan_task_total : FnScope ["self", "name", "count"] ["self"] (defScope s_Plan_task_total) := ⟨rfl, rfl, rfl, by decide +kernel, rfl, by decide +kernel, by decide +kernel⟩
theorem ok_Plan_task_total (c : Fx ex fa fn K mg) : FnP P w K mg base 4 (He.ma K (He.ga K "Plan") "task_total") 1 m_Plan_task_total :=
  fnW' (k := 3) (c.s.d.def_ 39 (d := d_Plan_task_total) rfl) sc_Plan_task_total (fun _ _ _ _ _ _ us hl => match us, hl with | [_], _ => rfl) fun cdv A outer s H E hr =>
    have hu1 := hu1_of hr
    have hu64 := hu64_of hr
    have hu65 := hu65_of hr
    (vs_one (vs_ret 1 (ve_bi (cv_sum rfl) rfl (c.free 10) bo_sum (va_cons true (ve_lc (own := [("name", 1), ("count", 2)]) rfl rfl sc_Plan_task_total.nd (vi_seq (ve_fld (c.cls 29) (c.noat 31) (ve_name (pe_var (i := 0) rfl (.inr (.inl rfl)))) rfl)) (blkOk_by (own := [("name", 1), ("count", 2)]) (by kernel_rfl)) (fun _ _ _ _ _ => (vg_tup rfl (vgs_cons (vg_name (pg_name sc_Plan_task_total.nd rfl (.inl rfl))) (vgs_cons (vg_name (pg_name sc_Plan_task_total.nd rfl (.inl rfl))) vgs_nil)))) (fun _ _ _ _ _ => vts_nil) (fun _ _ _ _ _ => (ve_op ov_mul (ve_name (pe_var (i := 2) rfl (.inl rfl))) (ve_methF (ok_Plan_tree_size (P := P) (w := w) (base := base) c) (c.cls 29) (c.meth 58) (len_up (aCons_len aNil_len)) (hr.mono (by decide)) (ve_name (pe_var (i := 0) rfl (.inr (.inl rfl)))) (va_cons true (ve_name (pe_var (i := 1) rfl (.inl rfl))) va_nil))))) va_nil))))

theorem sc_task_in_levels : FnScope ["plan", "number", "level", "path", "rows", "below", "at", "every"] ["plan", "number"] (defScope s_task_in_levels) := ⟨rfl, rfl, rfl, by decide +kernel, rfl, by decide +kernel, by decide +kernel⟩
theorem ok_task_in_levels (c : Fx ex fa fn K mg) : FnP P w K mg base 4 (He.ga K "task_in_levels") 2 m_task_in_levels :=
  fnW' (k := 3) (c.s.d.def_ 40 (d := d_task_in_levels) rfl) sc_task_in_levels (fun _ _ _ _ _ _ us hl => match us, hl with | [_, _], _ => rfl) fun cdv A outer s H E hr =>
    have hu1 := hu1_of hr
    have hu64 := hu64_of hr
    have hu65 := hu65_of hr
    (vs_cons (vs_set (i := 2) rfl sc_task_in_levels.nd rfl (.inl rfl) ve_int) (vs_cons (vs_while PassesOwn.never (vt_cmp ov_ge (ve_name (pe_var (i := 1) rfl (.inl rfl))) (ve_methF (ok_Plan_level_total (P := P) (w := w) (base := base) c) (c.cls 29) (c.meth 54) (len_up (aCons_len aNil_len)) (hr.mono (by decide)) (ve_name (pe_var (i := 0) rfl (.inl rfl))) (va_cons true (ve_name (pe_var (i := 2) rfl (.inl rfl))) va_nil)) (nomark _)) (vs_cons (vs_set (i := 1) rfl sc_task_in_levels.nd rfl (.inl rfl) (ve_op ov_sub (ve_name (pe_var (i := 1) rfl (.inl rfl))) (ve_methF (ok_Plan_level_total (P := P) (w := w) (base := base) c) (c.cls 29) (c.meth 54) (len_up (aCons_len aNil_len)) (hr.mono (by decide)) (ve_name (pe_var (i := 0) rfl (.inl rfl))) (va_cons true (ve_name (pe_var (i := 2) rfl (.inl rfl))) va_nil)))) (vs_one (vs_set (i := 2) rfl sc_task_in_levels.nd rfl (.inl rfl) (ve_op ov_add (ve_name (pe_var (i := 2) rfl (.inl rfl))) ve_int))))) (vs_cons (vs_par (i := 3) (j := 4) rfl rfl sc_task_in_levels.nd rfl rfl (by decide) rfl rfl (vb_cons (ve_tup vb_nil) (vb_cons (ve_methF0 (ok_Plan_root_entries (P := P) (w := w) (base := base) c) (c.cls 29) (c.meth 45) (hr.mono (by decide)) (ve_name (pe_var (i := 0) rfl (.inl rfl)))) vb_nil)) rfl) (vs_cons (vs_for rfl PassesOwn.never rfl (vi_range3 rfl (c.free 8) (vb_cons (ve_name (pe_var (i := 2) rfl (.inl rfl))) (vb_cons (ve_neg ve_int) (vb_cons (ve_neg ve_int) vb_nil)))) (vg_name (pg_name sc_task_in_levels.nd rfl (.inl rfl))) (vs_cons (vs_set (i := 6) rfl sc_task_in_levels.nd rfl (.inl rfl) ve_int) (vs_cons (vs_while PassesOwn.never (vt_cmp ov_ge (ve_name (pe_var (i := 1) rfl (.inl rfl))) (ve_op ov_mul (ve_ix hu1 (ve_ix hu1 (ve_name (pe_var (i := 4) rfl (.inl rfl))) (ve_name (pe_var (i := 6) rfl (.inl rfl))) (fun _ _ => rfl)) ve_int (fun _ _ => rfl)) (ve_methF (ok_Plan_descendants (P := P) (w := w) (base := base) c) (c.cls 29) (c.meth 56) (len_up (aCons_len (aCons_len aNil_len))) (hr.mono (by decide)) (ve_name (pe_var (i := 0) rfl (.inl rfl))) (va_cons false (ve_ix hu1 (ve_ix hu1 (ve_name (pe_var (i := 4) rfl (.inl rfl))) (ve_name (pe_var (i := 6) rfl (.inl rfl))) (fun _ _ => rfl)) ve_int (fun _ _ => rfl)) (va_cons true (ve_name (pe_var (i := 5) rfl (.inl rfl))) va_nil)))) (nomark _)) (vs_cons (vs_set (i := 1) rfl sc_task_in_levels.nd rfl (.inl rfl) (ve_op ov_sub (ve_name (pe_var (i := 1) rfl (.inl rfl))) (ve_op ov_mul (ve_ix hu1 (ve_ix hu1 (ve_name (pe_var (i := 4) rfl (.inl rfl))) (ve_name (pe_var (i := 6) rfl (.inl rfl))) (fun _ _ => rfl)) ve_int (fun _ _ => rfl)) (ve_methF (ok_Plan_descendants (P := P) (w := w) (base := base) c) (c.cls 29) (c.meth 56) (len_up (aCons_len (aCons_len aNil_len))) (hr.mono (by decide)) (ve_name (pe_var (i := 0) rfl (.inl rfl))) (va_cons false (ve_ix hu1 (ve_ix hu1 (ve_name (pe_var (i := 4) rfl (.inl rfl))) (ve_name (pe_var (i := 6) rfl (.inl rfl))) (fun _ _ => rfl)) ve_int (fun _ _ => rfl)) (va_cons true (ve_name (pe_var (i := 5) rfl (.inl rfl))) va_nil)))))) (vs_one (vs_set (i := 6) rfl sc_task_in_levels.nd rfl (.inl rfl) (ve_op ov_add (ve_name (pe_var (i := 6) rfl (.inl rfl))) ve_int))))) (vs_cons (vs_set (i := 7) rfl sc_task_in_levels.nd rfl (.inl rfl) (ve_methF (ok_Plan_descendants (P := P) (w := w) (base := base) c) (c.cls 29) (c.meth 56) (len_up (aCons_len (aCons_len aNil_len))) (hr.mono (by decide)) (ve_name (pe_var (i := 0) rfl (.inl rfl))) (va_cons false (ve_ix hu1 (ve_ix hu1 (ve_name (pe_var (i := 4) rfl (.inl rfl))) (ve_name (pe_var (i := 6) rfl (.inl rfl))) (fun _ _ => rfl)) ve_int (fun _ _ => rfl)) (va_cons true (ve_name (pe_var (i := 5) rfl (.inl rfl))) va_nil)))) (vs_cons (vs_set (i := 3) rfl sc_task_in_levels.nd rfl (.inl rfl) (ve_op ov_add (ve_name (pe_var (i := 3) rfl (.inl rfl))) (ve_tup (vb_cons (ve_tup (vb_cons (ve_name (pe_var (i := 6) rfl (.inl rfl))) (vb_cons (ve_op ov_div (ve_name (pe_var (i := 1) rfl (.inl rfl))) (ve_name (pe_var (i := 7) rfl (.inl rfl)))) vb_nil))) vb_nil)))) (vs_cons (vs_set (i := 1) rfl sc_task_in_levels.nd rfl (.inl rfl) (ve_op ov_mod (ve_name (pe_var (i := 1) rfl (.inl rfl))) (ve_name (pe_var (i := 7) rfl (.inl rfl))))) (vs_one (vs_set (i := 4) rfl sc_task_in_levels.nd rfl (.inl rfl) (ve_methF (ok_Plan_entries_of (P := P) (w := w) (base := base) c) (c.cls 29) (c.meth 49) (len_up (aCons_len aNil_len)) (hr.mono (by decide)) (ve_name (pe_var (i := 0) rfl (.inl rfl))) (va_cons false (ve_ix hu1 (ve_ix hu1 (ve_name (pe_var (i := 4) rfl (.inl rfl))) (ve_name (pe_var (i := 6) rfl (.inl rfl))) (fun _ _ => rfl)) ve_int (fun _ _ => rfl)) va_nil)))))))))) (vs_one (vs_ret 2 (ve_name (pe_var (i := 3) rfl (.inl rfl)))))))))

theorem sc_task_in_depth : FnScope ["plan", "number", "path", "rows", "at", "kind", "many"] ["plan", "number"] (defScope s_task_in_depth) := ⟨rfl, rfl, rfl, by decide +kernel, rfl, by decide +kernel, by decide +kernel⟩
theorem ok_task_in_depth (c : Fx ex fa fn K mg) : FnP P w K mg base 4 (He.ga K "task_in_depth") 2 m_task_in_depth :=
  fnW' (k := 3) (c.s.d.def_ 41 (d := d_task_in_depth) rfl) sc_task_in_depth (fun _ _ _ _ _ _ us hl => match us, hl with | [_, _], _ => rfl) fun cdv A outer s H E hr =>
    have hu1 := hu1_of hr
    have hu64 := hu64_of hr
    have hu65 := hu65_of hr
    (vs_cons (vs_par (i := 2) (j := 3) rfl rfl sc_task_in_depth.nd rfl rfl (by decide) rfl rfl (vb_cons (ve_tup vb_nil) (vb_cons (ve_methF0 (ok_Plan_root_entries (P := P) (w := w) (base := base) c) (c.cls 29) (c.meth 45) (hr.mono (by decide)) (ve_name (pe_var (i := 0) rfl (.inl rfl)))) vb_nil)) rfl) (vs_cons (vs_while PassesOwn.never (vt_cmp ov_ge (ve_name (pe_var (i := 1) rfl (.inl rfl))) ve_int (nomark _)) (vs_cons (vs_set (i := 4) rfl sc_task_in_depth.nd rfl (.inl rfl) (ve_op ov_sub (ve_bi cv_len rfl (c.free 0) bo_len (va_cons true (ve_name (pe_var (i := 3) rfl (.inl rfl))) va_nil)) ve_int)) (vs_cons (vs_while PassesOwn.never (vt_cmp ov_ge (ve_name (pe_var (i := 1) rfl (.inl rfl))) (ve_op ov_mul (ve_ix hu1 (ve_ix hu1 (ve_name (pe_var (i := 3) rfl (.inl rfl))) (ve_name (pe_var (i := 4) rfl (.inl rfl))) (fun _ _ => rfl)) ve_int (fun _ _ => rfl)) (ve_methF (ok_Plan_tree_size (P := P) (w := w) (base := base) c) (c.cls 29) (c.meth 58) (len_up (aCons_len aNil_len)) (hr.mono (by decide)) (ve_name (pe_var (i := 0) rfl (.inl rfl))) (va_cons false (ve_ix hu1 (ve_ix hu1 (ve_name (pe_var (i := 3) rfl (.inl rfl))) (ve_name (pe_var (i := 4) rfl (.inl rfl))) (fun _ _ => rfl)) ve_int (fun _ _ => rfl)) va_nil))) (nomark _)) (vs_cons (vs_set (i := 1) rfl sc_task_in_depth.nd rfl (.inl rfl) (ve_op ov_sub (ve_name (pe_var (i := 1) rfl (.inl rfl))) (ve_op ov_mul (ve_ix hu1 (ve_ix hu1 (ve_name (pe_var (i := 3) rfl (.inl rfl))) (ve_name (pe_var (i := 4) rfl (.inl rfl))) (fun _ _ => rfl)) ve_int (fun _ _ => rfl)) (ve_methF (ok_Plan_tree_size (P := P) (w := w) (base := base) c) (c.cls 29) (c.meth 58) (len_up (aCons_len aNil_len)) (hr.mono (by decide)) (ve_name (pe_var (i := 0) rfl (.inl rfl))) (va_cons false (ve_ix hu1 (ve_ix hu1 (ve_name (pe_var (i := 3) rfl (.inl rfl))) (ve_name (pe_var (i := 4) rfl (.inl rfl))) (fun _ _ => rfl)) ve_int (fun _ _ => rfl)) va_nil))))) (vs_one (vs_set (i := 4) rfl sc_task_in_depth.nd rfl (.inl rfl) (ve_op ov_sub (ve_name (pe_var (i := 4) rfl (.inl rfl))) ve_int))))) (vs_cons (vs_asg rfl (ve_ix hu1 (ve_name (pe_var (i := 3) rfl (.inl rfl))) (ve_name (pe_var (i := 4) rfl (.inl rfl))) (fun _ _ => rfl)) (vg_tup rfl (vgs_cons (vg_name (pg_name sc_task_in_depth.nd rfl (.inl rfl))) (vgs_cons (vg_name (pg_name sc_task_in_depth.nd rfl (.inl rfl))) vgs_nil)))) (vs_cons (vs_set (i := 2) rfl sc_task_in_depth.nd rfl (.inl rfl) (ve_op ov_add (ve_name (pe_var (i := 2) rfl (.inl rfl))) (ve_tup (vb_cons (ve_tup (vb_cons (ve_name (pe_var (i := 4) rfl (.inl rfl))) (vb_cons (ve_op ov_sub (ve_op ov_sub (ve_name (pe_var (i := 6) rfl (.inl rfl))) ve_int) (ve_op ov_div (ve_name (pe_var (i := 1) rfl (.inl rfl))) (ve_methF (ok_Plan_tree_size (P := P) (w := w) (base := base) c) (c.cls 29) (c.meth 58) (len_up (aCons_len aNil_len)) (hr.mono (by decide)) (ve_name (pe_var (i := 0) rfl (.inl rfl))) (va_cons true (ve_name (pe_var (i := 5) rfl (.inl rfl))) va_nil)))) vb_nil))) vb_nil)))) (vs_cons (vs_set (i := 1) rfl sc_task_in_depth.nd rfl (.inl rfl) (ve_op ov_sub (ve_op ov_mod (ve_name (pe_var (i := 1) rfl (.inl rfl))) (ve_methF (ok_Plan_tree_size (P := P) (w := w) (base := base) c) (c.cls 29) (c.meth 58) (len_up (aCons_len aNil_len)) (hr.mono (by decide)) (ve_name (pe_var (i := 0) rfl (.inl rfl))) (va_cons true (ve_name (pe_var (i := 5) rfl (.inl rfl))) va_nil))) ve_int)) (vs_one (vs_set (i := 3) rfl sc_task_in_depth.nd rfl (.inl rfl) (ve_methF (ok_Plan_entries_of (P := P) (w := w) (base := base) c) (c.cls 29) (c.meth 49) (len_up (aCons_len aNil_len)) (hr.mono (by decide)) (ve_name (pe_var (i := 0) rfl (.inl rfl))) (va_cons true (ve_name (pe_var (i := 5) rfl (.inl rfl))) va_nil)))))))))) (vs_one (vs_ret 2 (ve_name (pe_var (i := 2) rfl (.inl rfl)))))))

theorem sc_task_at : FnScope ["plan", "discipline", "number"] ["plan", "discipline", "number"] (defScope s_task_at) := ⟨rfl, rfl, rfl, by decide +kernel, rfl, by decide +kernel, by decide +kernel⟩
theorem ok_task_at (c : Fx ex fa fn K mg) : FnP P w K mg base 5 (He.ga K "task_at") 3 m_task_at :=
  fnW' (k := 4) (c.s.d.def_ 42 (d := d_task_at) rfl) sc_task_at (fun _ _ _ _ _ _ us hl => match us, hl with | [_, _, _], _ => rfl) fun cdv A outer s H E hr =>
    have hu1 := hu1_of hr
    have hu64 := hu64_of hr
    have hu65 := hu65_of hr
    (vs_cons (vs_expr (ve_callF (ok_check_discipline (P := P) (w := w) (base := base) c) (aCons_len aNil_len) (hr.mono (by decide)) rfl (c.glo 44) (va_cons true (ve_name (pe_var (i := 1) rfl (.inl rfl))) va_nil))) (vs_cons (vs_if (vt_not (vt_val (ve_callF (ok_is_between (P := P) (w := w) (base := base) c) (aCons_len (aCons_len (aCons_len aNil_len))) (hr.mono (by decide)) rfl (c.glo 24) (va_cons true (ve_name (pe_var (i := 2) rfl (.inl rfl))) (va_cons false ve_int (va_cons false (ve_op ov_sub (ve_methF0 (ok_Plan_task_total (P := P) (w := w) (base := base) c) (c.cls 29) (c.meth 62) (hr.mono (by decide)) (ve_name (pe_var (i := 0) rfl (.inl rfl)))) ve_int) va_nil)))))) (vs_one vs_never) vs_nil) (vs_one (vs_ret 3 (ve_if (vt_cmp (ov_eq hu64) (ve_name (pe_var (i := 1) rfl (.inl rfl))) (ve_gstr rfl (c.str 43)) (nomark _)) (ve_callF (ok_task_in_levels (P := P) (w := w) (base := base) c) (aCons_len (aCons_len aNil_len)) (hr.mono (by decide)) rfl (c.glo 63) (va_cons true (ve_name (pe_var (i := 0) rfl (.inl rfl))) (va_cons false (ve_name (pe_var (i := 2) rfl (.inl rfl))) va_nil))) (ve_callF (ok_task_in_depth (P := P) (w := w) (base := base) c) (aCons_len (aCons_len aNil_len)) (hr.mono (by decide)) rfl (c.glo 64) (va_cons true (ve_name (pe_var (i := 0) rfl (.inl rfl))) (va_cons false (ve_name (pe_var (i := 2) rfl (.inl rfl))) va_nil))))))))

theorem sc_next_task : FnScope ["plan", "discipline", "path", "number"] ["plan", "discipline", "path"] (defScope s_next_task) := ⟨rfl, rfl, rfl, by decide +kernel, rfl, by decide +kernel, by decide +kernel⟩
theorem ok_next_task (c : Fx ex fa fn K mg) : FnP P w K mg base 7 (He.ga K "next_task") 3 m_next_task :=
  fnW' (k := 6) (c.s.d.def_ 43 (d := d_next_task) rfl) sc_next_task (fun _ _ _ _ _ _ us hl => match us, hl with | [_, _, _], _ => rfl) fun cdv A outer s H E hr =>
    have hu1 := hu1_of hr
    have hu64 := hu64_of hr
    have hu65 := hu65_of hr
    (vs_cons (vs_set (i := 3) rfl sc_next_task.nd rfl (.inl rfl) (ve_op ov_add (ve_callF (ok_start_number (P := P) (w := w) (base := base) c) (aCons_len (aCons_len (aCons_len aNil_len))) (hr.mono (by decide)) rfl (c.glo 61) (va_cons true (ve_name (pe_var (i := 0) rfl (.inl rfl))) (va_cons true (ve_name (pe_var (i := 1) rfl (.inl rfl))) (va_cons true (ve_name (pe_var (i := 2) rfl (.inl rfl))) va_nil)))) ve_int)) (vs_one (vs_ret 3 (ve_if (vt_cmp ov_lt (ve_name (pe_var (i := 3) rfl (.inl rfl))) (ve_methF0 (ok_Plan_task_total (P := P) (w := w) (base := base) c) (c.cls 29) (c.meth 62) (hr.mono (by decide)) (ve_name (pe_var (i := 0) rfl (.inl rfl)))) (nomark _)) (ve_callF (ok_task_at (P := P) (w := w) (base := base) c) (aCons_len (aCons_len (aCons_len aNil_len))) (hr.mono (by decide)) rfl (c.glo 65) (va_cons true (ve_name (pe_var (i := 0) rfl (.inl rfl))) (va_cons true (ve_name (pe_var (i := 1) rfl (.inl rfl))) (va_cons true (ve_name (pe_var (i := 3) rfl (.inl rfl))) va_nil)))) ve_non))))

theorem sc_starts_before : FnScope ["plan", "discipline", "one", "other"] ["plan", "discipline", "one", "other"] (defScope s_starts_before) := ⟨rfl, rfl, rfl, by decide +kernel, rfl, by decide +kernel, by decide +kernel⟩
theorem ok_starts_before (c : Fx ex fa fn K mg) : FnP P w K mg base 7 (He.ga K "starts_before") 4 m_starts_before :=
  fnW' (k := 6) (c.s.d.def_ 44 (d := d_starts_before) rfl) sc_starts_before (fun _ _ _ _ _ _ us hl => match us, hl with | [_, _, _, _], _ => rfl) fun cdv A outer s H E hr =>
    have hu1 := hu1_of hr
    have hu64 := hu64_of hr
    have hu65 := hu65_of hr
    (vs_one (vs_ret 4 (ve_cmp ov_lt (ve_callF (ok_start_number (P := P) (w := w) (base := base) c) (aCons_len (aCons_len (aCons_len aNil_len))) (hr.mono (by decide)) rfl (c.glo 61) (va_cons true (ve_name (pe_var (i := 0) rfl (.inl rfl))) (va_cons true (ve_name (pe_var (i := 1) rfl (.inl rfl))) (va_cons true (ve_name (pe_var (i := 2) rfl (.inl rfl))) va_nil)))) (ve_callF (ok_start_number (P := P) (w := w) (base := base) c) (aCons_len (aCons_len (aCons_len aNil_len))) (hr.mono (by decide)) rfl (c.glo 61) (va_cons true (ve_name (pe_var (i := 0) rfl (.inl rfl))) (va_cons true (ve_name (pe_var (i := 1) rfl (.inl rfl))) (va_cons true (ve_name (pe_var (i := 3) rfl (.inl rfl))) va_nil)))) (nomark _))))

theorem sc_Plan_level_count : FnScope ["self", "name", "count"] ["self"] (defScope s_Plan_level_count) := ⟨rfl, rfl, rfl, by decide +kernel, rfl, by decide +kernel, by decide +kernel⟩
theorem ok_Plan_level_count (c : Fx ex fa fn K mg) : FnP P w K mg base 1 (He.ma K (He.ga K "Plan") "level_count") 1 m_Plan_level_count :=
  fnW' (k := 0) (c.s.d.def_ 45 (d := d_Plan_level_count) rfl) sc_Plan_level_count (fun _ _ _ _ _ _ us hl => match us, hl with | [_], _ => rfl) fun cdv A outer s H E hr =>
    have hu1 := hu1_of hr
    have hu64 := hu64_of hr
    have hu65 := hu65_of hr
    (vs_one (vs_ret 1 (ve_bi (cv_max rfl) rfl (c.free 69) bo_max (va_cons true (ve_op ov_add (ve_lst (vb_cons ve_int vb_nil)) (ve_lc (own := [("name", 1), ("count", 2)]) rfl rfl sc_Plan_level_count.nd (vi_seq (ve_fld (c.cls 29) (c.noat 31) (ve_name (pe_var (i := 0) rfl (.inr (.inl rfl)))) rfl)) (blkOk_by (own := [("name", 1), ("count", 2)]) (by kernel_rfl)) (fun _ _ _ _ _ => (vg_tup rfl (vgs_cons (vg_name (pg_name sc_Plan_level_count.nd rfl (.inl rfl))) (vgs_cons (vg_name (pg_name sc_Plan_level_count.nd rfl (.inl rfl))) vgs_nil)))) (fun _ _ _ _ _ => vts_nil) (fun _ _ _ _ _ => (ve_bi cv_len rfl (c.free 0) bo_len (va_cons true (ve_ix hu1 (ve_fld (c.cls 29) (c.noat 34) (ve_name (pe_var (i := 0) rfl (.inr (.inl rfl)))) rfl) (ve_name (pe_var (i := 1) rfl (.inl rfl))) (fun _ _ => rfl)) va_nil))))) va_nil))))

theorem sc_level_starts : FnScope ["plan", "level", "first"] ["plan", "level"] (defScope s_level_starts) := ⟨rfl, rfl, rfl, by decide +kernel, rfl, by decide +kernel, by decide +kernel⟩
theorem ok_level_starts (c : Fx ex fa fn K mg) : FnP P w K mg base 5 (He.ga K "level_starts") 2 m_level_starts :=
  fnW' (k := 4) (c.s.d.def_ 46 (d := d_level_starts) rfl) sc_level_starts (fun _ _ _ _ _ _ us hl => match us, hl with | [_, _], _ => rfl) fun cdv A outer s H E hr =>
    have hu1 := hu1_of hr
    have hu64 := hu64_of hr
    have hu65 := hu65_of hr
    (vs_cons (vs_expr (ve_callF (ok_check_least (P := P) (w := w) (base := base) c) (aCons_len (aCons_len (aCons_len aNil_len))) (hr.mono (by decide)) rfl (c.glo 52) (va_cons false ve_str (va_cons true (ve_name (pe_var (i := 1) rfl (.inl rfl))) (va_cons false ve_int va_nil))))) (vs_cons (vs_set (i := 2) rfl sc_level_starts.nd rfl (.inl rfl) (ve_callF (ok_first_of_level (P := P) (w := w) (base := base) c) (aCons_len (aCons_len aNil_len)) (hr.mono (by decide)) rfl (c.glo 55) (va_cons true (ve_name (pe_var (i := 0) rfl (.inl rfl))) (va_cons false (ve_bi (cv_min rfl) rfl (c.free 71) bo_min (va_cons true (ve_name (pe_var (i := 1) rfl (.inl rfl))) (va_cons true (ve_methF0 (ok_Plan_level_count (P := P) (w := w) (base := base) c) (c.cls 29) (c.meth 70) (hr.mono (by decide)) (ve_name (pe_var (i := 0) rfl (.inl rfl)))) va_nil))) va_nil)))) (vs_one (vs_ret 2 (ve_tup (vb_cons (ve_name (pe_var (i := 2) rfl (.inl rfl))) (vb_cons (ve_op ov_add (ve_name (pe_var (i := 2) rfl (.inl rfl))) (ve_methF (ok_Plan_level_total (P := P) (w := w) (base := base) c) (c.cls 29) (c.meth 54) (len_up (aCons_len aNil_len)) (hr.mono (by decide)) (ve_name (pe_var (i := 0) rfl (.inl rfl))) (va_cons true (ve_name (pe_var (i := 1) rfl (.inl rfl))) va_nil))) vb_nil)))))))

theorem sc__law_levels_right : FnScope ["_law_source", "_law_book", "_law_everything", "_law_depth", "_law_before", "_law_spot", "_law_after_it"] ["_law_source", "_law_book", "_law_everything"] (defScope s__law_levels_right) := ⟨rfl, rfl, rfl, by decide +kernel, rfl, by decide +kernel, by decide +kernel⟩
theorem ok__law_levels_right (c : Fx ex fa fn K mg) : FnP P w K mg base 6 (He.ga K "_law_levels_right") 3 m__law_levels_right :=
  fnW' (k := 5) (c.s.d.def_ 47 (d := d__law_levels_right) rfl) sc__law_levels_right (fun _ _ _ _ _ _ us hl => match us, hl with | [_, _, _], _ => rfl) fun cdv A outer s H E hr =>
    have hu1 := hu1_of hr
    have hu64 := hu64_of hr
    have hu65 := hu65_of hr
    (vs_cons (vs_for rfl PassesOwn.never rfl (vi_seq (ve_op ov_add (ve_lrg rfl rfl (c.free 4) rfl (c.free 8) ve_int) (ve_lst (vb_cons (ve_callF (ok__law_draw (P := P) (w := w) (base := base) c) (aCons_len (aCons_len aNil_len)) (hr.mono (by decide)) rfl (c.glo 5) (va_cons true (ve_name (pe_var (i := 0) rfl (.inl rfl))) (va_cons false (ve_op ov_pow ve_int ve_int) va_nil))) vb_nil)))) (vg_name (pg_name sc__law_levels_right.nd rfl (.inr rfl))) (vs_cons (vs_set (i := 4) rfl sc__law_levels_right.nd rfl (.inl rfl) (ve_bi cv_len rfl (c.free 0) bo_len (va_cons true (ve_lc (own := [("_law_spot", 5)]) rfl rfl sc__law_levels_right.nd (vi_seq (ve_name (pe_var (i := 2) rfl (.inl rfl)))) (blkOk_by (own := [("_law_spot", 5)]) (by kernel_rfl)) (fun _ _ _ _ _ => (vg_name (pg_name sc__law_levels_right.nd rfl (.inl rfl)))) (fun _ _ _ _ _ => (vts_one (vt_cmp ov_le (ve_bi cv_len rfl (c.free 0) bo_len (va_cons true (ve_name (pe_var (i := 5) rfl (.inl rfl))) va_nil)) (ve_name (pe_var (i := 3) rfl (.inr (.inl rfl)))) (nomark _)))) (fun _ _ _ _ _ => (ve_name (pe_var (i := 5) rfl (.inl rfl))))) va_nil))) (vs_cons (vs_set (i := 6) rfl sc__law_levels_right.nd rfl (.inl rfl) (ve_bi cv_len rfl (c.free 0) bo_len (va_cons true (ve_lc (own := [("_law_spot", 5)]) rfl rfl sc__law_levels_right.nd (vi_seq (ve_name (pe_var (i := 2) rfl (.inl rfl)))) (blkOk_by (own := [("_law_spot", 5)]) (by kernel_rfl)) (fun _ _ _ _ _ => (vg_name (pg_name sc__law_levels_right.nd rfl (.inl rfl)))) (fun _ _ _ _ _ => (vts_one (vt_cmp ov_le (ve_bi cv_len rfl (c.free 0) bo_len (va_cons true (ve_name (pe_var (i := 5) rfl (.inl rfl))) va_nil)) (ve_op ov_add (ve_name (pe_var (i := 3) rfl (.inr (.inl rfl)))) ve_int) (nomark _)))) (fun _ _ _ _ _ => (ve_name (pe_var (i := 5) rfl (.inl rfl))))) va_nil))) (vs_one (vs_if (vt_cmp (ov_ne hu64) (ve_callF (ok_level_starts (P := P) (w := w) (base := base) c) (aCons_len (aCons_len aNil_len)) (hr.mono (by decide)) rfl (c.glo 72) (va_cons true (ve_name (pe_var (i := 1) rfl (.inl rfl))) (va_cons true (ve_name (pe_var (i := 3) rfl (.inr (.inl rfl)))) va_nil))) (ve_tup (vb_cons (ve_name (pe_var (i := 4) rfl (.inl rfl))) (vb_cons (ve_name (pe_var (i := 6) rfl (.inl rfl))) vb_nil))) (nomark _)) (vs_one (vs_ret 3 ve_bl)) vs_nil))))) (vs_one (vs_ret 3 ve_bl)))

theorem sc_law : FnScope ["_law_script", "_law_cell", "_law_source", "_law_kinds", "_law_rows", "_law_book", "_law_mode", "_law_everything", "_law_at", "_law_spot", "_law_repeat", "_law_places", "_law_side", "_law_told"] ["_law_script"] (defScope s_law) := ⟨rfl, rfl, rfl, by decide +kernel, rfl, by decide +kernel, by decide +kernel⟩
theorem okl (c : Fx ex fa fn K mg) {fd : FuncData} {f : Addr} (F : FunD K "law" "law" (defArgs s_law) (defBody s_law) (defScope s_law) [] [] f fd) : FnOk P w K mg base CX0 8 f fd ["_law_script"] (spV K 1 m_law) :=
  fnV (k := 7) F sc_law fun cdv A outer s H E hr =>
    have hu1 := hu1_of hr
    have hu64 := hu64_of hr
    have hu65 := hu65_of hr
    (vs_cons (vs_for rfl PassesOwn.never rfl (vi_seq (ve_op ov_add (ve_lst (vb_cons (ve_callF (ok__law_cell_at (P := P) (w := w) (base := base) c) (aCons_len (aCons_len aNil_len)) (hr.mono (by decide)) rfl (c.glo 1) (va_cons true (ve_name (pe_var (i := 0) rfl (.inl rfl))) (va_cons false ve_int va_nil))) vb_nil)) (ve_sl (ve_name (pe_var (i := 0) rfl (.inl rfl))) (vo_some ve_int) (vo_some ve_int)))) (vg_name (pg_name sc_law.nd rfl (.inl rfl))) (vs_cons (vs_set (i := 2) rfl sc_law.nd rfl (.inr rfl) (ve_callF (ok__law_source_of (P := P) (w := w) (base := base) c) (aCons_len aNil_len) (hr.mono (by decide)) rfl (c.glo 3) (va_cons true (ve_name (pe_var (i := 1) rfl (.inl rfl))) va_nil))) (vs_cons (vs_asg rfl (ve_callF (ok__law_parts (P := P) (w := w) (base := base) c) (aCons_len (aCons_len (aCons_len aNil_len))) (hr.mono (by decide)) rfl (c.glo 12) (va_cons true (ve_name (pe_var (i := 2) rfl (.inr (.inl rfl)))) (va_cons false ve_int (va_cons false ve_int va_nil)))) (vg_tup rfl (vgs_cons (vg_name (pg_name sc_law.nd rfl (.inl rfl))) (vgs_cons (vg_name (pg_name sc_law.nd rfl (.inl rfl))) vgs_nil)))) (vs_cons (vs_set (i := 5) rfl sc_law.nd rfl (.inl rfl) (ve_makeF true (c.mkr 35) (ok_Plan___init__ (P := P) (w := w) (base := base) c) (len_up (bCons_len (bCons_len bNil_len))) (hr.mono (by decide)) rfl (c.glo 36) (vb_cons (ve_name (pe_var (i := 3) rfl (.inl rfl))) (vb_cons (ve_name (pe_var (i := 4) rfl (.inl rfl))) vb_nil)))) (vs_one (vs_for rfl PassesOwn.never rfl (vi_seq (ve_tup (vb_cons ve_str (vb_cons ve_str vb_nil)))) (vg_name (pg_name sc_law.nd rfl (.inl rfl))) (vs_cons (vs_set (i := 7) rfl sc_law.nd rfl (.inr rfl) (ve_callF (ok__law_order (P := P) (w := w) (base := base) c) (aCons_len (aCons_len (aCons_len aNil_len))) (hr.mono (by decide)) rfl (c.glo 41) (va_cons true (ve_name (pe_var (i := 3) rfl (.inl rfl))) (va_cons true (ve_name (pe_var (i := 4) rfl (.inl rfl))) (va_cons false (ve_cmp (ov_eq hu64) (ve_name (pe_var (i := 6) rfl (.inl rfl))) ve_str (nomark _)) va_nil))))) (vs_cons (vs_for rfl PassesOwn.never rfl (vi_enumU rfl (c.free 7) (vb_cons (ve_name (pe_var (i := 7) rfl (.inr (.inl rfl)))) vb_nil)) (vg_tup rfl (vgs_cons (vg_name (pg_name sc_law.nd rfl (.inl rfl))) (vgs_cons (vg_name (pg_name sc_law.nd rfl (.inl rfl))) vgs_nil))) (vs_one (vs_if (vt_cmp (ov_ne hu64) (ve_callF (ok_next_task (P := P) (w := w) (base := base) c) (aCons_len (aCons_len (aCons_len aNil_len))) (hr.mono (by decide)) rfl (c.glo 66) (va_cons true (ve_name (pe_var (i := 5) rfl (.inl rfl))) (va_cons true (ve_name (pe_var (i := 6) rfl (.inl rfl))) (va_cons true (ve_name (pe_var (i := 9) rfl (.inl rfl))) va_nil)))) (ve_ix hu1 (ve_op ov_add (ve_name (pe_var (i := 7) rfl (.inr (.inl rfl)))) (ve_lst (vb_cons ve_non vb_nil))) (ve_op ov_add (ve_name (pe_var (i := 8) rfl (.inl rfl))) ve_int) (fun _ _ => rfl)) (nomark _)) (vs_one (vs_ret 1 ve_bl)) vs_nil))) (vs_cons (vs_for rfl PassesOwn.never rfl (vi_range1 rfl (c.free 8) (vb_cons (ve_op ov_mul ve_int (ve_ty cv_int rfl (c.free 2) bo_int (va_cons true (ve_cmp (ov_ne hu64) (ve_name (pe_var (i := 7) rfl (.inr (.inl rfl)))) (ve_lst vb_nil) (nomark _)) va_nil))) vb_nil)) (vg_name (pg_name sc_law.nd rfl (.inl rfl))) (vs_cons (vs_setLc (i := 11) (own := [("_law_side", 12)]) rfl rfl rfl sc_law.nd rfl rfl (sw_true rfl rfl rfl rfl) (vi_range1 rfl (c.free 8) (vb_cons ve_int vb_nil)) (blkOk_by (own := [("_law_side", 12)]) (by kernel_rfl)) (fun _ _ _ _ _ => (vg_name (pg_name sc_law.nd rfl (.inl rfl)))) (fun _ _ _ _ _ => vts_nil) (fun _ _ _ _ _ => (ve_callF (ok__law_draw (P := P) (w := w) (base := base) c) (aCons_len (aCons_len aNil_len)) (hr.mono (by decide)) rfl (c.glo 5) (va_cons true (ve_name (pe_var (i := 2) rfl (.inr (.inl rfl)))) (va_cons false (ve_bi cv_len rfl (c.free 0) bo_len (va_cons true (ve_name (pe_var (i := 7) rfl (.inr (.inl rfl)))) va_nil)) va_nil))))) (vs_cons (vs_set (i := 13) rfl sc_law.nd rfl (.inl rfl) (ve_callF (ok_starts_before (P := P) (w := w) (base := base) c) (aCons_len (aCons_len (aCons_len (aCons_len aNil_len)))) (hr.mono (by decide)) rfl (c.glo 67) (va_cons true (ve_name (pe_var (i := 5) rfl (.inl rfl))) (va_cons true (ve_name (pe_var (i := 6) rfl (.inl rfl))) (va_cons false (ve_ix hu1 (ve_name (pe_var (i := 7) rfl (.inr (.inl rfl)))) (ve_ix hu1 (ve_name (pe_var (i := 11) rfl (.inl rfl))) ve_int (fun _ _ => rfl)) (fun _ _ => rfl)) (va_cons false (ve_ix hu1 (ve_name (pe_var (i := 7) rfl (.inr (.inl rfl)))) (ve_ix hu1 (ve_name (pe_var (i := 11) rfl (.inl rfl))) ve_int (fun _ _ => rfl)) (fun _ _ => rfl)) va_nil)))))) (vs_one (vs_if (vt_cmp (ov_ne hu64) (ve_bi cv_repr rfl (c.free 68) bo_repr (va_cons true (ve_name (pe_var (i := 13) rfl (.inl rfl))) va_nil)) (ve_bi cv_repr rfl (c.free 68) bo_repr (va_cons true (ve_cmp ov_lt (ve_ix hu1 (ve_name (pe_var (i := 11) rfl (.inl rfl))) ve_int (fun _ _ => rfl)) (ve_ix hu1 (ve_name (pe_var (i := 11) rfl (.inl rfl))) ve_int (fun _ _ => rfl)) (nomark _)) va_nil)) (nomark _)) (vs_one (vs_ret 1 ve_bl)) vs_nil))))) (vs_one (vs_if (vt_not (vt_val (ve_callF (ok__law_levels_right (P := P) (w := w) (base := base) c) (aCons_len (aCons_len (aCons_len aNil_len))) (hr.mono (by decide)) rfl (c.glo 73) (va_cons true (ve_name (pe_var (i := 2) rfl (.inr (.inl rfl)))) (va_cons true (ve_name (pe_var (i := 5) rfl (.inl rfl))) (va_cons true (ve_name (pe_var (i := 7) rfl (.inr (.inl rfl)))) va_nil)))))) (vs_one (vs_ret 1 ve_bl)) vs_nil))))))))))) (vs_one (vs_ret 1 ve_bl)))

end
def loose0 : List Str := ["_wall", "PoolError", "InvalidPlan", "InvalidName", "InvalidTask", "InvalidNumber", "InvalidDiscipline", "InvalidBound", "is_integer", "is_between", "check_least", "FIFO", "LIFO", "check_discipline", "is_step", "kind_at", "type_of", "rank_in_level", "rank_in_depth", "first_of_level", "number_of", "start_number", "task_in_levels", "task_in_depth", "task_at", "next_task", "starts_before", "level_starts", "MOST_TYPES", "MOST_ENTRIES"]
def loose1 : List Str := ["MOST_COUNT", "MOST_LETTERS", "is_name", "is_entry", "is_type", "check_types", "check_roots", "table_of", "all_tables", "listed", "Plan", "_law_cell_at", "_law_source_of", "_law_draw", "_law_choice", "_law_shuffled", "_law_size", "_law_parts", "_law_listed", "_law_name", "_law_below", "_law_order", "_law_levels_right"]
def loose : List Str := loose0 ++ loose1
/-! ### the head -/
abbrev R : PySem.W.OpenRow := PySem.W.OpenLaw.row PySem.Challenge.rw_stuckpools_k11_next_starts_and_levels
abbrev hk : PySem.W.Hook := hookX 4 ex fa fn
def ob (s : PySem.W.SharedT) : AlX := obsXG 4 ex fa fn (HandSHeadRun.getT s)
theorem ob_eq (s : PySem.W.SharedT) : ob s = hk.obs s.abs := obsXG_eq (HandSHeadRun.getT_eq s)
theorem run (w : World) : HandSHeadRun.RunEq R (PySem.W.view R.prog [58]) hk ob 4000 loose w := by
  intro os
  kernel_rfl
open PySem.W PySem.Calls in
theorem holds_of (hlaw : ∀ ns : List Int, ns.length ≤ 63 → ∃ fin, m_law [.sh (.scr ns)] = some (.sh (.bl true), fin)) : PySem.Challenge.rw_stuckpools_k11_next_starts_and_levels.Holds := by
  w_on; o_law
  refine HandSHeadRun.head_any (r := OpenLaw.row PySem.Challenge.rw_stuckpools_k11_next_starts_and_levels) (q := view (OpenLaw.row PySem.Challenge.rw_stuckpools_k11_next_starts_and_levels).prog [58]) (H := hk) (ob := ob) (M := 4000) (loose := loose) (d := HandSHeadRun.topDef (OpenLaw.row PySem.Challenge.rw_stuckpools_k11_next_starts_and_levels).prog 58) (kwd := []) ob_eq
    (by kernel_rfl) (fun s => by kernel_rfl) run (by kernel_rfl) (by kernel_rfl) (by kernel_rfl) (by rfl) (by first | assumption | decide +kernel) (by decide +kernel) ⟨rfl, rfl, rfl, rfl, rfl, by decide +kernel⟩ ?hw ?hc
  case hw => w_witness2
  case hc =>
    refine L2.walk_ofE (l := PySem.Challenge.rw_stuckpools_k11_next_starts_and_levels) (n := 63) (k := 8) (x := "_law_script") (CX := L2.CX0) rfl (by decide) (by kernel_rfl) ⟨rfl, by decide, by decide⟩ ?F (fun _ _ _ _ z => z)
    intro w mg fa' h Y G hmg0
    obtain ⟨K, KX, c⟩ := Y
    have hmg : mg ("law" : PySem.Str) = some (.ref fa') := by
      have e : (HandSHeadRun.topDef (OpenLaw.row PySem.Challenge.rw_stuckpools_k11_next_starts_and_levels).prog 58).name = ("law" : PySem.Str) := by kernel_rfl
      rw [← e]
      exact hmg0
    have cx : Fx ex fa fn K mg := ⟨c, h, KX, G⟩
    obtain ⟨fd, F⟩ := cx.s.d.def_ 48 (d := d_law) rfl
    have e := hmg.symm.trans (cx.glo 74)
    cases e
    have b := FunD.bindsA (ps := ["_law_script"]) F fun _ _ _ _ _ _ us hl => match us, hl with | [_], _ => rfl
    exact ⟨K, fd, spV K 1 m_law, KX, fun s v => b s [v] rfl, fun H a ns hl hO hS => law_sp hlaw H a ns hl hO hS, fun base _ _ => okl cx F⟩
end Lk11

namespace Lk11
open PySem PySem.Spec L2 VS Pg
local macro_rules | `(tactic| walk_at "gt") => `(tactic| (simp only [gT, gsCons, gN, gsNil, Option.bind_some, List.length_cons, List.length_nil, List.set_cons_zero, List.set_cons_succ, Nat.reduceAdd, if_true] <;> exact rfl))
local macro_rules | `(tactic| walk_at "nrm") => `(tactic| (simp only [List.set_cons_zero, List.set_cons_succ, List.map_cons, List.map_nil, List.length_cons, List.length_nil, List.replicate, List.cons_append, List.nil_append, Nat.reduceSub, selM, ins, O.fz, wipeD, savD, unwD, List.getElem?_cons_zero, List.getElem?_cons_succ, Option.join_some, Option.join_none] <;> exact rfl))
local macro_rules | `(tactic| walk_at "vw") => `(tactic| first
  | with_reducible refine RX_x2 ?_ | with_reducible refine RX_C ?_ | with_reducible refine RX_Vs rfl ?_ | with_reducible refine RX_Va rfl rfl ?_
  | with_reducible refine RV_sh _ ?_ | with_reducible refine RV_val _ ?_ | with_reducible refine RV_at _ rfl ?_
  | with_reducible refine RK_val _ ?_ | with_reducible refine RK_at _ rfl (by walk_at "nrm") ?_
  | with_reducible refine RS_seq ?_ | with_reducible refine thenS_nx ?_ | with_reducible refine thenS_rt ?_ | with_reducible refine loopS_nx ?_ | with_reducible refine loopS_rt ?_ | with_reducible refine loopS_ct ?_ | with_reducible refine loopS_bk ?_ | with_reducible refine thenS_bk ?_ | with_reducible refine thenS_ct ?_ | with_reducible refine endF_rt (by walk_at "nrm") ?_ | with_reducible refine endF_nx (by walk_at "nrm") ?_
  | with_reducible refine RS_set ?_ | with_reducible refine RS_ret ?_ | with_reducible refine RS_if ?_ | with_reducible refine RS_expr ?_ | with_reducible refine RS_sub ?_ | with_reducible refine RS_attr ?_ | with_reducible refine RS_nil ?_ | with_reducible refine RS_par ?_ | with_reducible refine RS_asg ?_
  | with_reducible refine RX_call ?_ | with_reducible refine RX_bi ?_ | with_reducible refine RX_x1 ?_ | with_reducible refine RX_tup ?_ | with_reducible refine RX_lst ?_
  | with_reducible refine RA_f ?_ | with_reducible refine RA_t ?_ | with_reducible refine RA_nil ?_ | with_reducible refine RB_cons ?_ | with_reducible refine RB_nil ?_
  | with_reducible refine RT_Y ?_ | with_reducible refine RT_tB ?_ | with_reducible refine RT_not ?_ | with_reducible refine RT_and ?_ | with_reducible refine RT_or ?_ | with_reducible refine RX_and ?_ | with_reducible refine RX_or ?_ | with_reducible refine RX_not ?_ | with_reducible refine RX_if ?_ | with_reducible refine RX_ch ?_
  | with_reducible refine CB_t ?_ | with_reducible refine CB_f ?_ | with_reducible refine CB_n ?_
  | with_reducible refine RX_mut rfl rfl ?_ | with_reducible refine RS_for ?_ | with_reducible refine RI_enmU ?_ | with_reducible refine RI_seq ?_ | with_reducible refine RI_rg1 ?_ | with_reducible refine RI_rg3 ?_ | with_reducible refine RX_lc ?_ | with_reducible refine RX_dc ?_ | with_reducible refine RX_dK ?_ | with_reducible refine RX_sl ?_ | with_reducible refine RO_N ?_ | with_reducible refine RO_E ?_ | with_reducible refine RX_fld ?_ | with_reducible refine RX_meth ?_ | with_reducible refine RX_make ?_ | with_reducible refine RX_o2 ?_
  | with_reducible refine R1_of _ (opMod_int (by decide)) ?_ | with_reducible refine R1_of _ (opDiv_int (by decide)) ?_ | with_reducible refine R1_of _ (opMul_l (by first | decide | omega)) ?_ | with_reducible refine R1_of _ (opMul_r (by first | decide | omega)) ?_ | with_reducible refine R1_of _ (opPow_ok (by first | decide | omega)) ?_
  | refine R1_of _ rfl ?_
  | (fail_if_success (with_reducible refine RF_id ?_)); (fail_if_success (with_reducible refine RL_id ?_)); (fail_if_success (with_reducible refine RS_whid ?_)); (fail_if_success (with_reducible refine inR_id ?_)); first | refine ⟨_, by walk_at "nrm", ?_⟩ | refine ⟨_, _, rfl, ?_⟩ | refine ⟨_, rfl, ?_⟩ | refine ⟨rfl, ?_⟩ | refine ⟨Nat.le_of_ble_eq_true rfl, ?_⟩ | refine ⟨_, _, rfl, rfl, ?_⟩)
/-! ### the law's drawing -/
@[irreducible] def lim : Int := 2 ^ 9000
theorem lim_le {k : Nat} {r : Int} (h : (2 : Int) ^ k ≤ r) (hr : r < lim) : k < 9000 := by
  rcases Nat.lt_or_ge k 9000 with c | c
  · exact c
  · have := pow_up (b := 2) (by decide) c
    unfold lim at hr
    omega
theorem lim_of {k : Nat} {m : Int} (h : m < (2 : Int) ^ k) (hk : k ≤ 9000) : m < lim := by
  have := pow_up (b := 2) (by decide) hk
  unfold lim
  omega
theorem small_lim {m : Int} (h : m ≤ 1000000000000000) : m < lim := lim_of (k := 60) (by
  have : (2 : Int) ^ 60 = 1152921504606846976 := by decide
  omega) (by decide)
theorem natAbs_lt_pow {m : Int} {k : Nat} (h0 : 0 < m) (h : m < (2 : Int) ^ k) : m.natAbs < 2 ^ k := by
  have : ((2 ^ k : Nat) : Int) = (2 : Int) ^ k := Int.natCast_pow 2 k
  omega
theorem divOk_lim {m : Int} (h0 : 0 < m) (h : m < lim) : divOk m = true := by
  unfold lim at h
  have h2 := natAbs_lt_pow h0 h
  unfold divOk
  have : m.natAbs.log2 < 9000 := (Nat.log2_lt (by omega)).mpr h2
  simp [h0, this]
theorem R1_mod {i j : Int} {P : O → Prop} (h : 0 < j) (k : ∀ X, 0 ≤ X → X < j → P (.sh (.int X))) : R1 (opMod (.int i) (.int j)) P := R1_of _ (opMod_int h) (k _ (Int.emod_nonneg _ (by omega)) (Int.emod_lt_of_pos _ h))
def wl (a b c : Int) : O := .lst [.int a, .int b, .int c]
/-- the source stands, not drawn too often -/
def Wl (n : Int) (o : O) : Prop := ∃ a b c, o = wl a b c ∧ 0 ≤ a ∧ 0 ≤ b ∧ b < 2147483647 ∧ 0 ≤ c ∧ c ≤ n
theorem Wl.mono {n m : Int} {o : O} (h : Wl n o) (e : n ≤ m) : Wl m o := let ⟨a, b, c, h1, h2, h3, h4, h5, h6⟩ := h; ⟨a, b, c, h1, h2, h3, h4, h5, Int.le_trans h6 e⟩
def primes : List Int := [2147483647, 2147483629, 2147483587, 2147483579, 2147483563, 2147483549, 2147483543]
theorem prime_at {v : Int} (h0 : 0 ≤ v) (h1 : v < 7) : ∃ p : Int, atI [D.int 2147483647, D.int 2147483629, D.int 2147483587, D.int 2147483579, D.int 2147483563, D.int 2147483549, D.int 2147483543] v = some (.int p) ∧ 0 < p ∧ p ≤ 2147483647 := by
  obtain ⟨p, h2, h3⟩ := atI_map (f := D.int) (l := primes) h0 (by simpa [primes] using h1)
  refine ⟨p, h2, ?_⟩
  simp only [primes, List.mem_cons, List.not_mem_nil, or_false] at h3
  rcases h3 with rfl | rfl | rfl | rfl | rfl | rfl | rfl <;> decide
theorem draw_ok {n m : Int} {w : O} (hw : Wl n w) (hn : n < 100000000) (h0 : 0 < m) (hm : m < lim) : RF m__law_draw [w, .sh (.int m)] fun r fin => ∃ (v : Int) (w' : O), r = .sh (.int v) ∧ 0 ≤ v ∧ v < m ∧ Wl (n + 9000) w' ∧ fin = [some w', some (.sh (.int m))] := by
  obtain ⟨a, b, c, rfl, ha, hb, hb2, hc, hcn⟩ := hw
  unfold wl
  refine RF_def rfl (by walk_at "nrm") ?_
  repeat walk_at "vw"
  refine CB_d (fun hpos => ?_) (fun hneg => ?_)
  · repeat walk_at "vw"
    refine R1_mod h0 fun X hX0 hX1 => ?_
    repeat walk_at "vw"
    refine R1_of _ (opDiv_int (divOk_lim h0 hm)) ?_
    repeat walk_at "vw"
    exact ⟨_, _, rfl, hX0, hX1, ⟨a / m, b, c, rfl, Int.ediv_nonneg ha (by omega), hb, hb2, hc, by omega⟩, rfl⟩
  · repeat walk_at "vw"
    refine RS_wh (m := 9000) (fun w δ => ∃ (k : Nat) (c' res reach : Int) (j4 j5 : Option O), δ = [some (.lst [.int a, .int b, .int c']), some (.sh (.int m)), some (.sh (.int res)), some (.sh (.int reach)), j4, j5] ∧ c' = c + k ∧ w + k = 9000 ∧ (2 : Int) ^ k ≤ reach)
      ⟨0, c, _, _, _, _, rfl, by omega, by omega, by simp⟩ ?_
    rintro w δ ⟨k, c', res, reach, j4, j5, rfl, hc', hwk, hr⟩
    repeat walk_at "vw"
    refine CB_d (fun hlt => ?_) (fun hge => ?_)
    · have hk := lim_le hr (by have : reach < m := hlt; omega)
      repeat walk_at "vw"
      obtain ⟨p, hp1, hp2, hp3⟩ := prime_at (v := (c' + 1) % 7) (Int.emod_nonneg _ (by decide)) (Int.emod_lt_of_pos _ (by decide))
      refine R1_of _ (opIx_lst hp1) ?_
      repeat walk_at "vw"
      refine R1_mod hp2 fun X hX0 hX1 => ?_
      repeat walk_at "vw"
      refine R1_mod hp2 fun Y hY0 hY1 => ?_
      repeat walk_at "vw"
      refine ⟨w - 1, by omega, k + 1, c' + 1, _, _, _, _, rfl, by omega, by omega, ?_⟩
      rw [Int.pow_succ]
      have := PM.one_le_pow (b := 2) (by decide) k
      omega
    · repeat walk_at "vw"
      refine R1_mod h0 fun X hX0 hX1 => ?_
      repeat walk_at "vw"
      exact ⟨_, _, rfl, hX0, hX1, ⟨a, b, c', rfl, ha, hb, hb2, by omega, by omega⟩, rfl⟩
theorem choice_ok {n : Int} {w o : O} {xs : List D} (hw : Wl n w) (hn : n < 100000000) (ho : o = .lst xs ∨ o = .sh (.lst xs)) (hx : xs ≠ []) (hl : xs.length < 1000000) : RF m__law_choice [w, o] fun r fin => ∃ (d : D) (w' : O), r = .sh d ∧ d ∈ xs ∧ Wl (n + 9000) w' ∧ fin = [some w', some o] := by
  have hp : 0 < xs.length := List.length_pos_iff.mpr hx
  obtain ⟨a, b, c, e, _⟩ := id hw
  unfold wl at e
  subst e
  rcases ho with rfl | rfl <;>
  · refine RF_def rfl (by walk_at "nrm") ?_
    repeat walk_at "vw"
    refine RF.mono (draw_ok hw hn (by omega) (small_lim (by omega))) ?_
    rintro r fin ⟨v, w', rfl, hv0, hv1, hw', rfl⟩
    obtain ⟨x, hx1, hx2⟩ := atI_some hv0 hv1
    obtain ⟨a', b', c', e', _⟩ := id hw'
    unfold wl at e'
    subst e'
    repeat walk_at "vw"
    refine R1_of _ (opIx_lst hx1) ?_
    repeat walk_at "vw"
    exact ⟨x, _, rfl, hx2, hw', rfl⟩
end Lk11

namespace Lk11
open PySem PySem.Spec L2 VS Pg
local macro_rules | `(tactic| walk_at "gt") => `(tactic| (simp only [gT, gsCons, gN, gsNil, Option.bind_some, List.length_cons, List.length_nil, List.set_cons_zero, List.set_cons_succ, Nat.reduceAdd, if_true] <;> exact rfl))
local macro_rules | `(tactic| walk_at "nrm") => `(tactic| (simp only [List.set_cons_zero, List.set_cons_succ, List.map_cons, List.map_nil, List.length_cons, List.length_nil, List.replicate, List.cons_append, List.nil_append, Nat.reduceSub, selM, ins, O.fz, wipeD, savD, unwD, List.getElem?_cons_zero, List.getElem?_cons_succ, Option.join_some, Option.join_none] <;> exact rfl))
local macro_rules | `(tactic| walk_at "vw") => `(tactic| first
  | with_reducible refine RX_x2 ?_ | with_reducible refine RX_C ?_ | with_reducible refine RX_Vs rfl ?_ | with_reducible refine RX_Va rfl rfl ?_
  | with_reducible refine RV_sh _ ?_ | with_reducible refine RV_val _ ?_ | with_reducible refine RV_at _ rfl ?_
  | with_reducible refine RK_val _ ?_ | with_reducible refine RK_at _ rfl (by walk_at "nrm") ?_
  | with_reducible refine RS_seq ?_ | with_reducible refine thenS_nx ?_ | with_reducible refine thenS_rt ?_ | with_reducible refine loopS_nx ?_ | with_reducible refine loopS_rt ?_ | with_reducible refine loopS_ct ?_ | with_reducible refine loopS_bk ?_ | with_reducible refine thenS_bk ?_ | with_reducible refine thenS_ct ?_ | with_reducible refine endF_rt (by walk_at "nrm") ?_ | with_reducible refine endF_nx (by walk_at "nrm") ?_
  | with_reducible refine RS_set ?_ | with_reducible refine RS_ret ?_ | with_reducible refine RS_if ?_ | with_reducible refine RS_expr ?_ | with_reducible refine RS_sub ?_ | with_reducible refine RS_attr ?_ | with_reducible refine RS_nil ?_ | with_reducible refine RS_par ?_ | with_reducible refine RS_asg ?_
  | with_reducible refine RX_call ?_ | with_reducible refine RX_bi ?_ | with_reducible refine RX_x1 ?_ | with_reducible refine RX_tup ?_ | with_reducible refine RX_lst ?_
  | with_reducible refine RA_f ?_ | with_reducible refine RA_t ?_ | with_reducible refine RA_nil ?_ | with_reducible refine RB_cons ?_ | with_reducible refine RB_nil ?_
  | with_reducible refine RT_Y ?_ | with_reducible refine RT_tB ?_ | with_reducible refine RT_not ?_ | with_reducible refine RT_and ?_ | with_reducible refine RT_or ?_ | with_reducible refine RX_and ?_ | with_reducible refine RX_or ?_ | with_reducible refine RX_not ?_ | with_reducible refine RX_if ?_ | with_reducible refine RX_ch ?_
  | with_reducible refine CB_t ?_ | with_reducible refine CB_f ?_ | with_reducible refine CB_n ?_
  | with_reducible refine RX_mut rfl rfl ?_ | with_reducible refine RS_for ?_ | with_reducible refine RI_enmU ?_ | with_reducible refine RI_seq ?_ | with_reducible refine RI_rg1 ?_ | with_reducible refine RI_rg3 ?_ | with_reducible refine RX_lc ?_ | with_reducible refine RX_dc ?_ | with_reducible refine RX_dK ?_ | with_reducible refine RX_sl ?_ | with_reducible refine RO_N ?_ | with_reducible refine RO_E ?_ | with_reducible refine RX_fld ?_ | with_reducible refine RX_meth ?_ | with_reducible refine RX_make ?_ | with_reducible refine RX_o2 ?_
  | with_reducible refine R1_of _ (opMod_int (by decide)) ?_ | with_reducible refine R1_of _ (opDiv_int (by decide)) ?_ | with_reducible refine R1_of _ (opMul_l (by first | decide | omega)) ?_ | with_reducible refine R1_of _ (opMul_r (by first | decide | omega)) ?_ | with_reducible refine R1_of _ (opPow_ok (by first | decide | omega)) ?_
  | refine R1_of _ rfl ?_
  | (fail_if_success (with_reducible refine RF_id ?_)); (fail_if_success (with_reducible refine RL_id ?_)); (fail_if_success (with_reducible refine RS_whid ?_)); (fail_if_success (with_reducible refine inR_id ?_)); first | refine ⟨_, by walk_at "nrm", ?_⟩ | refine ⟨_, _, rfl, ?_⟩ | refine ⟨_, rfl, ?_⟩ | refine ⟨rfl, ?_⟩ | refine ⟨Nat.le_of_ble_eq_true rfl, ?_⟩ | refine ⟨_, _, rfl, rfl, ?_⟩)
/-! ### the drawn plans of the queue laws -/
theorem opNe_nilL {ds : List D} (h : D.okL 29 ds = true) : opNe (.lst ds) (.lst []) = some (.sh (.bl (!ds.isEmpty))) := by
  have h1 : (D.lst ds).okE 30 = true := by simpa only [D.okE] using h
  have h2 : (D.lst []).okE 30 = true := by simp [D.okE, D.okL]
  unfold opNe deq
  rw [h1, h2]
  cases ds <;> simp [D.eqD, D.eqL]
theorem mPop_at {xs : List D} {v : Int} {x : D} (h0 : 0 ≤ v) (hs : v < 1000000000) (hx : xs[v.toNat]? = some x) : mPop1 (.lst xs) [.int v] = some (.lst (xs.eraseIdx v.toNat), .sh x) := by
  have hl := (List.getElem?_eq_some_iff.mp hx).1
  have hr : inR v = true := by
    have z : (2 : Int) ^ 62 = 4611686018427387904 := by decide
    unfold inR
    rw [z]
    simp only [Bool.and_eq_true, decide_eq_true_eq]
    omega
  have hq : seqIndex? v xs.length = some v.toNat := by
    unfold seqIndex?
    simp only [if_neg (show ¬ v < 0 by omega)]
    rw [if_pos (by simp; omega)]
  simp [mPop1, mPop, hr, hq, hx]
theorem erase_map {α β : Type} (f : α → β) : ∀ (l : List α) (i : Nat), (l.map f).eraseIdx i = (l.eraseIdx i).map f
  | [], i => by simp
  | x :: l, 0 => by simp
  | x :: l, i + 1 => by simp [List.eraseIdx, erase_map f l i]
theorem erase_perm {α : Type} : ∀ {l : List α} {i : Nat} (h : i < l.length), (l[i] :: l.eraseIdx i).Perm l
  | x :: l, 0, h => by simp
  | x :: l, i + 1, h => by
    have ih := erase_perm (l := l) (i := i) (by simpa using h)
    simp only [List.getElem_cons_succ, List.eraseIdx]
    exact (List.Perm.swap _ _ _).trans (ih.cons x)
theorem shuffled_ok {n : Int} {w : O} {xs : List Str} (hw : Wl n w) (hn : n < 90000000) (hl : xs.length ≤ 1000) (hk : ∀ x ∈ xs, PyData.strOk x = true) :
    RF m__law_shuffled [w, .lst (xs.map D.str)] fun r fin => ∃ (ys : List Str) (w' : O), r = .lst (ys.map D.str) ∧ ys.Perm xs ∧ Wl (n + 9000 * xs.length) w' ∧ fin = [some w', some (.lst (xs.map D.str))] := by
  (obtain ⟨_, _, _, e0, _⟩ := id hw; unfold wl at e0; subst e0)
  refine RF_def rfl (by walk_at "nrm") ?_
  repeat walk_at "vw"
  refine RS_wh (m := xs.length) (fun m δ => ∃ (w : O) (left res : List Str), δ = [some w, some (.lst (xs.map D.str)), some (.lst (left.map D.str)), some (.lst (res.map D.str))] ∧ Wl (n + 9000 * res.length) w ∧ (left ++ res).Perm xs ∧ m = left.length)
    ⟨_, xs, [], rfl, by simpa using hw, by simp, rfl⟩ ?_
  rintro m δ ⟨w, left, res, rfl, hw, hp, rfl⟩
  have hlen := hp.length_eq
  rw [List.length_append] at hlen
  (obtain ⟨_, _, _, e0, _⟩ := id hw; unfold wl at e0; subst e0)
  repeat walk_at "vw"
  refine R1_of _ (opNe_nilL (okL_map fun x hx => by simpa [D.okE] using hk x (hp.mem_iff.mp (by simp [hx])))) ?_
  repeat walk_at "vw"
  by_cases hne : left = []
  · subst hne
    refine CB_yes rfl ?_
    repeat walk_at "vw"
    rw [List.nil_append] at hp
    simp at hlen
    exact ⟨res, _, rfl, hp, hw.mono (by omega), rfl⟩
  · have hpos := List.length_pos_iff.mpr hne
    refine CB_no (by cases left with | nil => exact absurd rfl hne | cons => rfl) ?_
    repeat walk_at "vw"
    refine RF.mono (draw_ok hw (by omega) (by rw [List.length_map]; omega) (small_lim (by rw [List.length_map]; omega))) ?_
    rintro r fin ⟨v, w2, rfl, hv0, hv1, hw2, rfl⟩
    (obtain ⟨_, _, _, e0, _⟩ := id hw2; unfold wl at e0; subst e0)
    rw [List.length_map] at hv1
    have hvl : v.toNat < left.length := by omega
    repeat walk_at "vw"
    refine ⟨_, mPop_at (x := D.str left[v.toNat]) hv0 (by omega) (by rw [List.getElem?_map, List.getElem?_eq_getElem hvl]; rfl), ?_⟩
    repeat walk_at "vw"
    refine ⟨_, mApp_ok (by rw [List.length_map]; omega), ?_⟩
    repeat walk_at "vw"
    refine ⟨left.length - 1, by omega, _, left.eraseIdx v.toNat, res ++ [left[v.toNat]], ?_, hw2.mono (by simp; omega), ?_, by rw [List.length_eraseIdx]; simp [hvl]⟩
    · rw [erase_map, List.map_append]
      rfl
    · refine List.Perm.trans ?_ hp
      have q := erase_perm hvl
      refine List.Perm.trans ?_ (q.append_right res)
      rw [List.cons_append, ← List.append_assoc]
      exact List.perm_append_comm
/-- the plan of the draws -/
theorem size_ok {kinds : List Ty} {rows : List En} (h : PP kinds rows) {o : O} (ho : o = .lst (rows.map encE) ∨ o = .sh (.lst (rows.map encE))) :
    RF m__law_size [.lst (kinds.map encT), o] fun r fin => r = .sh (.int (PM.sumE (PM.size kinds) rows)) ∧ fin = [some (.lst (kinds.map encT)), some (.sh (.lst (rows.map encE)))] := by
  have hK := h.ok
  have dg : ∀ {done : List Ty} {s : Str}, s ∈ done.map (·.1) → dget (done.map fun t : Ty => ((.inr t.1, .int (PM.size kinds t.1)) : Key × D)) (.inr s) = some (.int (PM.size kinds s)) := by
    intro done s h
    induction done with
    | nil => simp at h
    | cons a l ih =>
      rw [List.map_cons, dget_cons]
      by_cases e : a.1 = s
      · rw [if_pos (by rw [e]), e]
      · rw [if_neg (fun z => e (Sum.inr.inj z))]
        refine ih ?_
        rcases List.mem_cons.mp h with h | h
        · exact absurd h.symm e
        · exact h
  refine RF_def rfl (by walk_at "nrm") ?_
  repeat walk_at "vw"
  rw [← List.map_reverse]
  refine RL_inv (fun done δ => ∃ (j3 j4 : Option O), δ = [some (.lst (kinds.map encT)), some o, some (.dK (done.map fun t : Ty => (.inr t.1, .int (PM.size kinds t.1)))), j3, j4, none, none]) ⟨none, none, rfl⟩ ?_ ?_
  · rintro done x rest δ hl ⟨j3, j4, rfl⟩
    have hx : x ∈ kinds := by have : x ∈ kinds.reverse := by rw [hl]; simp
                              simpa using this
    have hdl : done.length < 40 := by have a1 := congrArg List.length hl; have a2 := h.l2; simp at a1; omega
    refine ⟨_, by rw [show encT x = .tup [.str x.1, .lst (x.2.map encE)] from rfl]; walk_at "gt", ?_⟩
    have hks : kinds = rest.reverse ++ x :: done.reverse := by
      have := congrArg List.reverse hl
      simpa using this
    have hxi : kinds[rest.length]? = some x := by
      rw [hks, List.getElem?_append_right (by simp)]
      simp
    have hent : ∀ e ∈ x.2, e.1 ∈ done.map (·.1) := fun e he => by
      have q := h.ent _ x hxi e he
      have e2 : kinds = (rest.reverse ++ [x]) ++ done.reverse := by rw [hks]; simp
      rw [e2, List.map_append, List.drop_left' (by simp)] at q
      simpa using q
    have hnew : (Sum.inr x.1 : Key) ∉ (done.map fun t : Ty => ((.inr t.1, .int (PM.size kinds t.1)) : Key × D)).map (·.1) := by
      have q := h.nd
      rw [hks, List.map_append, List.map_cons] at q
      have q2 := (List.nodup_cons.mp (List.nodup_append.mp q).2.1).1
      intro hm
      simp only [List.map_map, List.mem_map, Function.comp] at hm
      obtain ⟨t, ht, e⟩ := hm
      exact q2 (by rw [← Sum.inr.inj e]; simp; exact ⟨t.2, ht⟩)
    have hxm : x.1 ∈ kinds.map (·.1) := List.mem_map_of_mem hx
    have hxs := PM.size_eq hK hxm
    rw [ents_mem h.nd hx] at hxs
    repeat walk_at "vw"
    refine ⟨by rw [List.length_map]; exact sl_le (by have := (h.tk x hx).2.1; omega), ?_⟩
    refine RC_map (enc := encE) (g := fun e : En => D.int (e.2 * PM.size kinds e.1)) (fun e he => ?_) ?_
    · refine ⟨_, by rw [show encE e = .tup [.str e.1, .int e.2] from rfl]; walk_at "gt", ?_⟩
      repeat walk_at "vw"
      refine R1_of _ (opIx_dk (dg (hent e he))) ?_
      repeat walk_at "vw"
      refine R1_of _ (opMul_cnt ((h.tk x hx).2.2 e he).2) ?_
      repeat walk_at "vw"
      walk_at "nrm"
    repeat walk_at "vw"
    refine R1_of _ (mSum_E (PM.size kinds) x.2) ?_
    repeat walk_at "vw"
    have hz : (done.map fun t : Ty => ((.inr t.1, .int (PM.size kinds t.1)) : Key × D)).length < sizeLine := by
      rw [List.length_map]
      exact Nat.lt_of_lt_of_le (show done.length < 41 by omega) (sl_le (by decide))
    refine ⟨_, by simp only [putD, keyOf, hz, if_true, Option.map_some]; exact rfl, ?_⟩
    repeat walk_at "vw"
    rw [dput_new hnew]
    refine ⟨some (.sh (.str x.1)), some (.sh (.lst (x.2.map encE))), ?_⟩
    rw [List.map_append, ← hxs]
    rfl
  · rintro δ ⟨j3, j4, rfl⟩
    rcases ho with rfl | rfl <;> ((repeat walk_at "vw"); refine ⟨by rw [List.length_map]; exact sl_le (by have := h.tl; omega), ?_⟩)
    all_goals (
      refine RC_map (enc := encE) (g := fun e : En => D.int (e.2 * PM.size kinds e.1)) (fun e he => ?_) ?_
      · refine ⟨_, by rw [show encE e = .tup [.str e.1, .int e.2] from rfl]; walk_at "gt", ?_⟩
        repeat walk_at "vw"
        refine R1_of _ (opIx_dk (dg (by simpa using (h.te e he).1))) ?_
        repeat walk_at "vw"
        refine R1_of _ (opMul_cnt (h.te e he).2.2) ?_
        repeat walk_at "vw"
        walk_at "nrm"
      repeat walk_at "vw"
      refine R1_of _ (mSum_E (PM.size kinds) rows) ?_
      repeat walk_at "vw"
      rfl)
end Lk11

namespace Lk11
open PySem PySem.Spec L2 VS Pg
local macro_rules | `(tactic| walk_at "gt") => `(tactic| (simp only [gT, gsCons, gN, gsNil, Option.bind_some, List.length_cons, List.length_nil, List.set_cons_zero, List.set_cons_succ, Nat.reduceAdd, if_true] <;> exact rfl))
local macro_rules | `(tactic| walk_at "nrm") => `(tactic| (simp only [List.set_cons_zero, List.set_cons_succ, List.map_cons, List.map_nil, List.length_cons, List.length_nil, List.replicate, List.cons_append, List.nil_append, Nat.reduceSub, selM, ins, O.fz, wipeD, savD, unwD, List.getElem?_cons_zero, List.getElem?_cons_succ, Option.join_some, Option.join_none] <;> exact rfl))
local macro_rules | `(tactic| walk_at "vw") => `(tactic| first
  | with_reducible refine RX_x2 ?_ | with_reducible refine RX_C ?_ | with_reducible refine RX_Vs rfl ?_ | with_reducible refine RX_Va rfl rfl ?_
  | with_reducible refine RV_sh _ ?_ | with_reducible refine RV_val _ ?_ | with_reducible refine RV_at _ rfl ?_
  | with_reducible refine RK_val _ ?_ | with_reducible refine RK_at _ rfl (by walk_at "nrm") ?_
  | with_reducible refine RS_seq ?_ | with_reducible refine thenS_nx ?_ | with_reducible refine thenS_rt ?_ | with_reducible refine loopS_nx ?_ | with_reducible refine loopS_rt ?_ | with_reducible refine loopS_ct ?_ | with_reducible refine loopS_bk ?_ | with_reducible refine thenS_bk ?_ | with_reducible refine thenS_ct ?_ | with_reducible refine endF_rt (by walk_at "nrm") ?_ | with_reducible refine endF_nx (by walk_at "nrm") ?_
  | with_reducible refine RS_set ?_ | with_reducible refine RS_ret ?_ | with_reducible refine RS_if ?_ | with_reducible refine RS_expr ?_ | with_reducible refine RS_sub ?_ | with_reducible refine RS_attr ?_ | with_reducible refine RS_nil ?_ | with_reducible refine RS_par ?_ | with_reducible refine RS_asg ?_
  | with_reducible refine RX_call ?_ | with_reducible refine RX_bi ?_ | with_reducible refine RX_x1 ?_ | with_reducible refine RX_tup ?_ | with_reducible refine RX_lst ?_
  | with_reducible refine RA_f ?_ | with_reducible refine RA_t ?_ | with_reducible refine RA_nil ?_ | with_reducible refine RB_cons ?_ | with_reducible refine RB_nil ?_
  | with_reducible refine RT_Y ?_ | with_reducible refine RT_tB ?_ | with_reducible refine RT_not ?_ | with_reducible refine RT_and ?_ | with_reducible refine RT_or ?_ | with_reducible refine RX_and ?_ | with_reducible refine RX_or ?_ | with_reducible refine RX_not ?_ | with_reducible refine RX_if ?_ | with_reducible refine RX_ch ?_
  | with_reducible refine CB_t ?_ | with_reducible refine CB_f ?_ | with_reducible refine CB_n ?_
  | with_reducible refine RX_mut rfl rfl ?_ | with_reducible refine RS_for ?_ | with_reducible refine RI_enmU ?_ | with_reducible refine RI_seq ?_ | with_reducible refine RI_rg1 ?_ | with_reducible refine RI_rg3 ?_ | with_reducible refine RX_lc ?_ | with_reducible refine RX_dc ?_ | with_reducible refine RX_dK ?_ | with_reducible refine RX_sl ?_ | with_reducible refine RO_N ?_ | with_reducible refine RO_E ?_ | with_reducible refine RX_fld ?_ | with_reducible refine RX_meth ?_ | with_reducible refine RX_make ?_ | with_reducible refine RX_o2 ?_
  | with_reducible refine R1_of _ (opMod_int (by decide)) ?_ | with_reducible refine R1_of _ (opDiv_int (by decide)) ?_ | with_reducible refine R1_of _ (opMul_l (by first | decide | omega)) ?_ | with_reducible refine R1_of _ (opMul_r (by first | decide | omega)) ?_ | with_reducible refine R1_of _ (opPow_ok (by first | decide | omega)) ?_
  | refine R1_of _ rfl ?_
  | (fail_if_success (with_reducible refine RF_id ?_)); (fail_if_success (with_reducible refine RL_id ?_)); (fail_if_success (with_reducible refine RS_whid ?_)); (fail_if_success (with_reducible refine inR_id ?_)); first | refine ⟨_, by walk_at "nrm", ?_⟩ | refine ⟨_, _, rfl, ?_⟩ | refine ⟨_, rfl, ?_⟩ | refine ⟨rfl, ?_⟩ | refine ⟨Nat.le_of_ble_eq_true rfl, ?_⟩ | refine ⟨_, _, rfl, rfl, ?_⟩)
/-- the last item -/
theorem atI_last {α : Type} {l : List α} {x : α} (h : l[l.length - 1]? = some x) : atI l (-1) = some x := by
  have hl := (List.getElem?_eq_some_iff.mp h).1
  unfold atI ixN
  rw [if_neg (by decide), if_pos (by omega)]
  rw [show (-1 + (l.length : Int)).toNat = l.length - 1 by omega]
  exact h
theorem cut_last {α : Type} (l : List α) : cutL l none (some (-1)) = l.dropLast := by
  have hz : HT.sIx l.length l.length (some (-1)) = l.length - 1 := by
    show (if (-1 : Int) < 0 then ((-1 : Int) + (l.length : Int)).toNat else min (-1 : Int).toNat l.length) = _
    rw [if_pos (by decide)]
    omega
  unfold cutL
  rw [HT.sIx_none, hz, List.drop_zero, Nat.sub_zero, List.dropLast_eq_take]
def six : List Str := ["job", "part", "step", "a", "leaf", "zzzzzzzzzzzz"]
theorem six_nok : ∀ s ∈ six, NOk s := by
  intro s h
  simp only [six, List.mem_cons, List.not_mem_nil, or_false] at h
  rcases h with rfl | rfl | rfl | rfl | rfl | rfl
  · exact ⟨⟨_, _, by with_unfolding_all rfl, rfl, rfl⟩, by decide +kernel⟩
  · exact ⟨⟨_, _, by with_unfolding_all rfl, rfl, rfl⟩, by decide +kernel⟩
  · exact ⟨⟨_, _, by with_unfolding_all rfl, rfl, rfl⟩, by decide +kernel⟩
  · exact ⟨⟨_, _, by with_unfolding_all rfl, rfl, rfl⟩, by decide +kernel⟩
  · exact ⟨⟨_, _, by with_unfolding_all rfl, rfl, rfl⟩, by decide +kernel⟩
  · exact ⟨⟨_, _, by with_unfolding_all rfl, rfl, rfl⟩, by decide +kernel⟩
theorem six_nodup : six.Nodup := by decide +kernel
theorem opNe_strs {l : List Str} (h : ∀ s ∈ l, NOk s) : opNe (.lst (l.map D.str)) (.lst []) = some (.sh (.bl (!l.isEmpty))) := by
  rw [opNe_nilL (okL_map fun x hx => by simpa [D.okE] using (h x hx).2)]
  cases l <;> rfl
theorem cutL_enc {α : Type} (f : α → D) (l : List α) (a b : Option Int) : cutL (l.map f) a b = (cutL l a b).map f := by
  unfold cutL
  simp
/-- the word about a drawn plan's kinds -/
def QpI (names : List Str) (n : Int) (mo li : Int) (done : List Str) (δ : DS) : Prop := ∃ (w : O) (kinds : List Ty) (j5 j6 j7 j8 j9 : Option O), δ = [some w, some (.sh (.int mo)), some (.sh (.int li)), some (.sh (.lst (names.map .str))), some (.lst (kinds.map encT)), j5, j6, j7, j8, j9, none] ∧
  Wl (n + 100000 * done.length) w ∧ kinds.map (·.1) = done ∧ ∀ i t, kinds[i]? = some t → t.2.length ≤ 3 ∧ ∀ e ∈ t.2, e.1 ∈ names.drop (i + 1) ∧ cntOk e.2
def QpJ (names : List Str) (kinds : List Ty) (at_ : Int) (x : Str) (n : Int) (mo li : Int) (i0 : Nat) (done : List Nat) (δ : DS) : Prop := ∃ (w o7 : O) (rows : List En) (j9 : Option O), δ = [some w, some (.sh (.int mo)), some (.sh (.int li)), some (.sh (.lst (names.map .str))), some (.lst (kinds.map encT)), some (.sh (.int at_)), some (.sh (.str x)), some o7, some (.lst (rows.map encE)), j9, none] ∧
  (o7 = .lst ((names.drop (i0 + 1)).map .str) ∨ o7 = .sh (.lst ((names.drop (i0 + 1)).map .str))) ∧ Wl (n + 27000 * done.length) w ∧ rows.length = done.length ∧ ∀ e ∈ rows, e.1 ∈ names.drop (i0 + 1) ∧ cntOk e.2
theorem cnt_draw {v d : Int} (h0 : 0 ≤ v) (h1 : v < d) (hd : d ≤ 1000000000000) : cntOk (1 + v) := ⟨by omega, by omega⟩
theorem parts_ok {n : Int} {w : O} {mo li : Int} (hw : Wl n w) (hn : n < 10000000) (hm0 : 1 ≤ mo) (hm1 : mo ≤ 1000) (hl0 : 1 ≤ li) (hl1 : li ≤ 1000) :
    RF m__law_parts [w, .sh (.int mo), .sh (.int li)] fun r fin => ∃ kinds tops w', r = .sh (.tup [.lst (kinds.map encT), .lst (tops.map encE)]) ∧ PP kinds tops ∧ tops.length ≤ 3 ∧ PM.sumE (PM.size kinds) tops ≤ li ∧ Wl (n + 5000000) w' ∧ fin = [some w', some (.sh (.int mo)), some (.sh (.int li))] := by
  (obtain ⟨_, _, _, e0, _⟩ := id hw; unfold wl at e0; subst e0)
  refine RF_def rfl (by walk_at "nrm") ?_
  repeat walk_at "vw"
  refine RF.mono (shuffled_ok (xs := six) hw (by omega) (by decide) (fun x hx => (six_nok x hx).2)) ?_
  rintro r fin ⟨ys, w1, rfl, hys, hw1, rfl⟩
  (obtain ⟨_, _, _, e0, _⟩ := id hw1; unfold wl at e0; subst e0)
  repeat walk_at "vw"
  have h6 : six.length = 6 := rfl
  rw [h6] at hw1
  refine RF.mono (draw_ok hw1 (by omega) (by omega) (small_lim (by omega))) ?_
  rintro r fin ⟨v, w2, rfl, hv0, hv1, hw2, rfl⟩
  (obtain ⟨_, _, _, e0, _⟩ := id hw2; unfold wl at e0; subst e0)
  repeat walk_at "vw"
  rw [cutL_enc]
  generalize hnames : cutL ys none (some (1 + v)) = names
  have hyl : ys.length = 6 := by rw [hys.length_eq]; rfl
  have hnt : names = ys.take (1 + v).toNat := by rw [← hnames, cutL_take _ (by omega)]
  have hlen : 1 ≤ names.length ∧ names.length ≤ 6 := by rw [hnt, List.length_take, hyl]; omega
  have hnok : ∀ s ∈ names, NOk s := fun s hs => six_nok s (hys.mem_iff.mp (List.mem_of_mem_take (by rw [← hnt]; exact hs)))
  have hnd : names.Nodup := by rw [hnt]; exact (List.take_sublist _ _).nodup (hys.nodup_iff.mpr six_nodup)
  repeat walk_at "vw"
  refine RL_enum (QpI names (n + 9000 * 6 + 9000) mo li) ⟨_, [], _, _, _, _, _, rfl, by simpa using hw2, rfl, fun i t e => by simp at e⟩ ?_ ?_
  · rintro done x rest δ hl ⟨w, kinds, j5, j6, j7, j8, j9, rfl, hw, hk, hq⟩
    have hdl : done.length < names.length := by rw [hl]; simp
    refine ⟨_, by walk_at "gt", ?_⟩
    (obtain ⟨_, _, _, e0, _⟩ := id hw; unfold wl at e0; subst e0)
    repeat walk_at "vw"
    rw [show ((done.length : Int) + 1) = ((done.length + 1 : Nat) : Int) by omega, cutL_enc, show cutL names (some ((done.length + 1 : Nat) : Int)) none = names.drop (done.length + 1) by rw [cutL_drop _ (by omega), Int.toNat_natCast]]
    repeat walk_at "vw"
    refine RF.mono (draw_ok hw (by omega) (by omega) (small_lim (by omega))) ?_
    rintro r fin ⟨v2, w3, rfl, hv20, hv21, hw3, rfl⟩
    (obtain ⟨_, _, _, e0, _⟩ := id hw3; unfold wl at e0; subst e0)
    repeat walk_at "vw"
    refine R1_of _ (opNe_strs fun s hs => hnok s (List.mem_of_mem_drop hs)) ?_
    repeat walk_at "vw"
    have hj : ∃ m : Nat, v2 * (if (!(names.drop (done.length + 1)).isEmpty) = true then (1 : Int) else 0) = m ∧ m ≤ 3 ∧ (0 < m → names.drop (done.length + 1) ≠ []) := by
      by_cases c : names.drop (done.length + 1) = []
      · exact ⟨0, by rw [c]; simp, by omega, fun z => by omega⟩
      · refine ⟨v2.toNat, ?_, by omega, fun _ => c⟩
        have : (!(names.drop (done.length + 1)).isEmpty) = true := by cases q : names.drop (done.length + 1) with | nil => exact absurd q c | cons => rfl
        rw [if_pos this]
        omega
    obtain ⟨m, hm, hm3, hmp⟩ := hj
    rw [hm]
    refine ⟨by simp [inR]; omega, ?_⟩
    rw [Int.toNat_natCast, rng_map]
    refine RL_inv (QpJ names kinds done.length x (n + 9000 * 6 + 9000 + 100000 * done.length + 9000) mo li done.length) ⟨_, _, [], _, rfl, .inl rfl, by simpa using hw3, rfl, fun e he => by simp at he⟩ ?_ ?_
    · rintro di y ri δ hli ⟨w, o7, rows, j9, rfl, ho7, hw, hrw, hre⟩
      have hdi : di.length < m := by have := congrArg List.length hli; simp at this; omega
      have hne := hmp (by omega)
      have hcl : (names.drop (done.length + 1)).length ≤ 6 := by rw [List.length_drop]; omega
      refine ⟨_, by walk_at "gt", ?_⟩
      (obtain ⟨_, _, _, e0, _⟩ := id hw; unfold wl at e0; subst e0)
      rcases ho7 with rfl | rfl
      all_goals (
        repeat walk_at "vw"
        refine RF.mono (choice_ok hw (by omega) (by first | exact .inl rfl | exact .inr rfl) (by simpa using hne) (by rw [List.length_map]; omega)) ?_
        rintro r fin ⟨d, w4, rfl, hd, hw4, rfl⟩
        (obtain ⟨_, _, _, e0, _⟩ := id hw4; unfold wl at e0; subst e0)
        obtain ⟨s, hs, rfl⟩ := List.mem_map.mp hd
        repeat walk_at "vw"
        refine RF.mono (draw_ok hw4 (by omega) (by omega) (small_lim (by omega))) ?_
        rintro r fin ⟨v5, w5, rfl, hv50, hv51, hw5, rfl⟩
        (obtain ⟨_, _, _, e0, _⟩ := id hw5; unfold wl at e0; subst e0)
        repeat walk_at "vw"
        refine ⟨_, mApp_ok (by simp; omega), ?_⟩
        repeat walk_at "vw"
        refine ⟨_, _, rows ++ [(s, 1 + v5)], _, by rw [List.map_append]; rfl, by first | exact .inl rfl | exact .inr rfl, hw5.mono (by simp; omega), by simp [hrw], fun e he => ?_⟩
        rcases List.mem_append.mp he with he | he
        · exact hre e he
        · have : e = (s, 1 + v5) := by simpa using he
          subst this
          exact ⟨hs, cnt_draw hv50 hv51 (by omega)⟩)
    · rintro δ ⟨w, o7, rows, j9, rfl, ho7, hw, hrw, hre⟩
      have hkl : kinds.length = done.length := by rw [← hk, List.length_map]
      (obtain ⟨_, _, _, e0, _⟩ := id hw; unfold wl at e0; subst e0)
      rw [List.length_range] at hw hrw
      repeat walk_at "vw"
      refine ⟨_, mApp_ok (by simp; omega), ?_⟩
      repeat walk_at "vw"
      refine ⟨_, kinds ++ [(x, rows)], _, _, _, _, _, by rw [List.map_append]; rfl, hw.mono (by simp; omega), by simp [hk], fun i t e => ?_⟩
      by_cases hi : i < kinds.length
      · rw [List.getElem?_append_left hi] at e
        exact hq i t e
      · rw [List.getElem?_append_right (by omega)] at e
        have hi2 : i - kinds.length = 0 := by
          have := (List.getElem?_eq_some_iff.mp e).1
          simp at this
          omega
        rw [hi2] at e
        have et : (x, rows) = t := by simpa using e
        subst et
        have : i = done.length := by omega
        subst this
        exact ⟨by show rows.length ≤ 3; omega, hre⟩
  · rintro δ ⟨w, kinds, j5, j6, j7, j8, j9, rfl, hw, hk, hq⟩
    have hkn : kinds.length = names.length := by rw [← hk, List.length_map]
    have hnn : ∀ t ∈ kinds, NOk t.1 := fun t ht => hnok _ (by rw [← hk]; exact List.mem_map_of_mem ht)
    have mkPP : ∀ {tops : List En}, tops.length ≤ 3 → (∀ e ∈ tops, e.1 ∈ names ∧ cntOk e.2) → PP kinds tops := fun {tops} htl hte =>
      ⟨by omega, by omega, fun t ht => by
        obtain ⟨i, hi, rfl⟩ := List.getElem_of_mem ht
        have q := hq i _ (List.getElem?_eq_getElem hi)
        exact ⟨hnn _ ht, by omega, fun e he => ⟨hnok _ (List.mem_of_mem_drop (q.2 e he).1), (q.2 e he).2⟩⟩,
       by rw [hk]; exact hnd, fun i t e he hee => by rw [hk]; exact ((hq i t e).2 _ hee).1, by omega, fun e he => by
        rw [hk]
        exact ⟨(hte e he).1, hnok _ (hte e he).1, (hte e he).2⟩⟩
    (obtain ⟨_, _, _, e0, _⟩ := id hw; unfold wl at e0; subst e0)
    repeat walk_at "vw"
    refine RF.mono (draw_ok hw (by omega) (by omega) (small_lim (by omega))) ?_
    rintro r fin ⟨v2, w3, rfl, hv20, hv21, hw3, rfl⟩
    (obtain ⟨_, _, _, e0, _⟩ := id hw3; unfold wl at e0; subst e0)
    repeat walk_at "vw"
    refine ⟨by simp [inR]; omega, by rw [rng_map, List.length_map, List.length_range]; exact sl_le (by omega), ?_⟩
    rw [rng_map]
    refine RC_inv (fun done acc δ => ∃ (w : O) (tops : List En), δ = [some w, some (.sh (.int mo)), some (.sh (.int li)), some (.sh (.lst (names.map .str))), some (.lst (kinds.map encT)), j5, j6, j7, j8, none, none] ∧ acc = tops.map encE ∧ Wl (n + 9000 * 6 + 9000 + 100000 * names.length + 9000 + 18000 * done.length) w ∧ tops.length = done.length ∧ ∀ e ∈ tops, e.1 ∈ names ∧ cntOk e.2)
      ⟨_, [], by walk_at "nrm", rfl, by simpa using hw3, rfl, fun e he => by simp at he⟩ ?_ ?_
    · rintro done y rest acc δ hl ⟨w, tops, rfl, rfl, hw, htl, hte⟩
      have hdl : done.length < 3 := by have := congrArg List.length hl; simp at this; omega
      refine ⟨_, by walk_at "gt", ?_⟩
      (obtain ⟨_, _, _, e0, _⟩ := id hw; unfold wl at e0; subst e0)
      repeat walk_at "vw"
      rw [cutL_enc, show cutL names none (some 2) = names.take 2 by rw [cutL_take _ (by omega)]; rfl]
      have h2n : names.take 2 ≠ [] := fun z => by have := congrArg List.length z; rw [List.length_take, List.length_nil] at this; omega
      repeat walk_at "vw"
      refine RF.mono (choice_ok hw (by omega) (.inl rfl) (by simpa using h2n) (by rw [List.length_map, List.length_take]; omega)) ?_
      rintro r fin ⟨d, w4, rfl, hd, hw4, rfl⟩
      (obtain ⟨_, _, _, e0, _⟩ := id hw4; unfold wl at e0; subst e0)
      obtain ⟨s, hs, rfl⟩ := List.mem_map.mp hd
      repeat walk_at "vw"
      refine RF.mono (draw_ok hw4 (by omega) (by omega) (small_lim (by omega))) ?_
      rintro r fin ⟨v5, w5, rfl, hv50, hv51, hw5, rfl⟩
      (obtain ⟨_, _, _, e0, _⟩ := id hw5; unfold wl at e0; subst e0)
      repeat walk_at "vw"
      refine ⟨_, tops ++ [(s, 1 + v5)], by walk_at "nrm", by rw [List.map_append]; rfl, hw5.mono (by simp; omega), by simp [htl], fun e he => ?_⟩
      rcases List.mem_append.mp he with he | he
      · exact hte e he
      · have : e = (s, 1 + v5) := by simpa using he
        subst this
        exact ⟨List.mem_of_mem_take hs, cnt_draw hv50 hv51 (by omega)⟩
    · rintro acc δ ⟨w, tops, rfl, rfl, hw, htl, hte⟩
      repeat walk_at "vw"
      rw [List.length_range] at hw htl
      obtain ⟨ls, hls⟩ : ∃ ls, names[names.length - 1]? = some ls := ⟨names[names.length - 1]'(by omega), by simp⟩
      have hlast : PM.ents kinds ls = [] := by
        have hkl : kinds[kinds.length - 1]? = some (kinds[kinds.length - 1]'(by omega)) := by simp
        generalize kinds[kinds.length - 1]'(by omega) = t at hkl
        have h1 : t.1 = ls := by
          have q : (kinds.map (·.1))[kinds.length - 1]? = some t.1 := by rw [List.getElem?_map, hkl]; rfl
          rw [hk, hkn, hls] at q
          exact (Option.some.inj q).symm
        have h2 := (hq _ t hkl).2
        rw [show kinds.length - 1 + 1 = names.length by omega, List.drop_length] at h2
        have h3 : t.2 = [] := List.eq_nil_iff_forall_not_mem.mpr fun e he => by have := (h2 e he).1; simp at this
        rw [← h1, ents_mem (by rw [hk]; exact hnd) (List.mem_of_getElem? hkl), h3]
      have hlsm : ls ∈ names := List.mem_of_getElem? hls
      refine RS_wh (m := 5) (fun m δ => ∃ (w o : O) (tops : List En), δ = [some w, some (.sh (.int mo)), some (.sh (.int li)), some (.sh (.lst (names.map .str))), some (.lst (kinds.map encT)), j5, j6, j7, j8, j9, some o] ∧ (o = .lst (tops.map encE) ∨ o = .sh (.lst (tops.map encE))) ∧ Wl (n + 9000 * 6 + 9000 + 100000 * 6 + 9000 + 54000 + 9000 * (5 - m)) w ∧ tops.length ≤ 3 ∧ (∀ e ∈ tops, e.1 ∈ names ∧ cntOk e.2) ∧ (tops.length + 1 ≤ m ∧ m ≤ 5 ∨ 1 ≤ m ∧ m ≤ 5 ∧ PM.sumE (PM.size kinds) tops ≤ li))
        ⟨_, _, tops, rfl, .inl rfl, hw.mono (by omega), by omega, hte, .inl ⟨by omega, by omega⟩⟩ ?_
      rintro m δ ⟨w, o, tops, rfl, ho, hw, htl, hte, hmm⟩
      have hPP := mkPP htl hte
      (obtain ⟨_, _, _, e0, _⟩ := id hw; unfold wl at e0; subst e0)
      have hm5 : 1 ≤ m ∧ m ≤ 5 := by omega
      rcases ho with rfl | rfl
      all_goals (
        repeat walk_at "vw"
        refine RF.mono (size_ok hPP (by first | exact .inl rfl | exact .inr rfl)) ?_
        rintro r fin ⟨rfl, rfl⟩
        repeat walk_at "vw"
        refine CB_d (fun hbig => ?_) (fun hsm => ?_)
        · have hbig2 : li < PM.sumE (PM.size kinds) tops := hbig
          have hmt : tops.length + 1 ≤ m := by omega
          repeat walk_at "vw"
          rw [List.length_map]
          refine CB_d (fun hl1 => ?_) (fun hl1 => ?_)
          · have hl2 : (1 : Int) < (tops.length : Int) := hl1
            repeat walk_at "vw"
            rw [cutL_enc, cut_last]
            repeat walk_at "vw"
            exact ⟨m - 1, by omega, _, _, tops.dropLast, rfl, .inl rfl, hw.mono (by omega), by simp; omega, fun e he => hte e (List.dropLast_subset _ he), .inl ⟨by simp; omega, by omega⟩⟩
          · repeat walk_at "vw"
            have hat : atI (names.map D.str) (-1) = some (.str ls) := atI_last (by rw [List.length_map, List.getElem?_map, hls]; rfl)
            refine R1_of _ (opIx_lst hat) ?_
            repeat walk_at "vw"
            refine RF.mono (draw_ok hw (by omega) (by omega) (small_lim (by omega))) ?_
            rintro r fin ⟨v5, w5, rfl, hv50, hv51, hw5, rfl⟩
            (obtain ⟨_, _, _, e0, _⟩ := id hw5; unfold wl at e0; subst e0)
            repeat walk_at "vw"
            refine ⟨m - 1, by omega, _, _, [(ls, 1 + v5)], rfl, .inl rfl, hw5.mono (by omega), by simp, fun e he => ?_, .inr ⟨?_, by omega, ?_⟩⟩
            · have : e = (ls, 1 + v5) := by simpa using he
              subst this
              exact ⟨hlsm, cnt_draw hv50 hv51 (by omega)⟩
            · rcases Nat.eq_zero_or_pos tops.length with z | z
              · have : tops = [] := List.length_eq_zero_iff.mp z
                rw [this] at hbig2
                simp only [PM.sumE] at hbig2
                omega
              · omega
            · simp only [PM.sumE]
              rw [PM.size_eq hPP.ok (by rw [hk]; exact hlsm), hlast]
              simp only [PM.sumE]
              omega
        · have hsm2 : ¬ li < PM.sumE (PM.size kinds) tops := hsm
          repeat walk_at "vw"
          exact ⟨kinds, tops, _, rfl, hPP, htl, by omega, hw.mono (by omega), rfl⟩)
end Lk11

namespace Lk11
open PySem PySem.Spec L2 VS Pg
local macro_rules | `(tactic| walk_at "gt") => `(tactic| (simp only [gT, gsCons, gN, gsNil, Option.bind_some, List.length_cons, List.length_nil, List.set_cons_zero, List.set_cons_succ, Nat.reduceAdd, if_true] <;> exact rfl))
local macro_rules | `(tactic| walk_at "nrm") => `(tactic| (simp only [List.set_cons_zero, List.set_cons_succ, List.map_cons, List.map_nil, List.length_cons, List.length_nil, List.replicate, List.cons_append, List.nil_append, Nat.reduceSub, selM, ins, O.fz, wipeD, savD, unwD, List.getElem?_cons_zero, List.getElem?_cons_succ, Option.join_some, Option.join_none] <;> exact rfl))
local macro_rules | `(tactic| walk_at "vw") => `(tactic| first
  | with_reducible refine RX_x2 ?_ | with_reducible refine RX_C ?_ | with_reducible refine RX_Vs rfl ?_ | with_reducible refine RX_Va rfl rfl ?_
  | with_reducible refine RV_sh _ ?_ | with_reducible refine RV_val _ ?_ | with_reducible refine RV_at _ rfl ?_
  | with_reducible refine RK_val _ ?_ | with_reducible refine RK_at _ rfl (by walk_at "nrm") ?_
  | with_reducible refine RS_seq ?_ | with_reducible refine thenS_nx ?_ | with_reducible refine thenS_rt ?_ | with_reducible refine loopS_nx ?_ | with_reducible refine loopS_rt ?_ | with_reducible refine loopS_ct ?_ | with_reducible refine loopS_bk ?_ | with_reducible refine thenS_bk ?_ | with_reducible refine thenS_ct ?_ | with_reducible refine endF_rt (by walk_at "nrm") ?_ | with_reducible refine endF_nx (by walk_at "nrm") ?_
  | with_reducible refine RS_set ?_ | with_reducible refine RS_ret ?_ | with_reducible refine RS_if ?_ | with_reducible refine RS_expr ?_ | with_reducible refine RS_sub ?_ | with_reducible refine RS_attr ?_ | with_reducible refine RS_nil ?_ | with_reducible refine RS_par ?_ | with_reducible refine RS_asg ?_
  | with_reducible refine RX_call ?_ | with_reducible refine RX_bi ?_ | with_reducible refine RX_x1 ?_ | with_reducible refine RX_tup ?_ | with_reducible refine RX_lst ?_
  | with_reducible refine RA_f ?_ | with_reducible refine RA_t ?_ | with_reducible refine RA_nil ?_ | with_reducible refine RB_cons ?_ | with_reducible refine RB_nil ?_
  | with_reducible refine RT_Y ?_ | with_reducible refine RT_tB ?_ | with_reducible refine RT_not ?_ | with_reducible refine RT_and ?_ | with_reducible refine RT_or ?_ | with_reducible refine RX_and ?_ | with_reducible refine RX_or ?_ | with_reducible refine RX_not ?_ | with_reducible refine RX_if ?_ | with_reducible refine RX_ch ?_
  | with_reducible refine CB_t ?_ | with_reducible refine CB_f ?_ | with_reducible refine CB_n ?_
  | with_reducible refine RX_mut rfl rfl ?_ | with_reducible refine RS_for ?_ | with_reducible refine RI_enmU ?_ | with_reducible refine RI_seq ?_ | with_reducible refine RI_rg1 ?_ | with_reducible refine RI_rg3 ?_ | with_reducible refine RX_lc ?_ | with_reducible refine RX_dc ?_ | with_reducible refine RX_dK ?_ | with_reducible refine RX_sl ?_ | with_reducible refine RO_N ?_ | with_reducible refine RO_E ?_ | with_reducible refine RX_fld ?_ | with_reducible refine RX_meth ?_ | with_reducible refine RX_make ?_ | with_reducible refine RX_o2 ?_
  | with_reducible refine R1_of _ (opMod_int (by decide)) ?_ | with_reducible refine R1_of _ (opDiv_int (by decide)) ?_ | with_reducible refine R1_of _ (opMul_l (by first | decide | omega)) ?_ | with_reducible refine R1_of _ (opMul_r (by first | decide | omega)) ?_ | with_reducible refine R1_of _ (opPow_ok (by first | decide | omega)) ?_
  | refine R1_of _ rfl ?_
  | (fail_if_success (with_reducible refine RF_id ?_)); (fail_if_success (with_reducible refine RL_id ?_)); (fail_if_success (with_reducible refine RS_whid ?_)); (fail_if_success (with_reducible refine inR_id ?_)); first | refine ⟨_, by walk_at "nrm", ?_⟩ | refine ⟨_, _, rfl, ?_⟩ | refine ⟨_, rfl, ?_⟩ | refine ⟨rfl, ?_⟩ | refine ⟨Nat.le_of_ble_eq_true rfl, ?_⟩ | refine ⟨_, _, rfl, rfl, ?_⟩)
theorem pairs_enc : ∀ kinds : List Ty, pairsOf (kinds.map encT) = some (kinds.map encK)
  | [] => rfl
  | t :: r => by
    have ih := pairs_enc r
    simp only [List.map_cons, encT, pairsOf, keyOf, Option.bind_some] at ih ⊢
    rw [ih]
    rfl
theorem merge_new : ∀ {ps acc : List (Key × D)}, ((acc ++ ps).map (·.1)).Nodup → mergeD acc ps = acc ++ ps
  | [], acc, _ => by simp [mergeD]
  | p :: ps, acc, h => by
    have hn : p.1 ∉ acc.map (·.1) := by
      rw [List.map_append, List.map_cons] at h
      intro hm
      exact (List.nodup_append.mp h).2.2 p.1 hm p.1 (by simp) rfl
    show mergeD (dput acc p.1 p.2) ps = _
    rw [dput_new hn]
    rw [merge_new (acc := acc ++ [(p.1, p.2)]) (by simpa using h)]
    simp
theorem merge_enc {kinds : List Ty} (h : (kinds.map (·.1)).Nodup) : mergeD [] (kinds.map encK) = kinds.map encK := by
  have := merge_new (acc := []) (ps := kinds.map encK) (by
    rw [List.nil_append, List.map_map, List.Nodup, List.pairwise_map]
    rw [List.Nodup, List.pairwise_map] at h
    exact h.imp fun {a b} q e => q (Sum.inr.inj e))
  simpa using this
theorem mDict_ok {kinds : List Ty} (h : (kinds.map (·.1)).Nodup) : mDict [.lst (kinds.map encT)] = some (.dK (kinds.map encK)) := by
  show (pairsOf (kinds.map encT)).map _ = _
  rw [pairs_enc, Option.map_some, merge_enc h]
theorem mExt_ok {xs es : List D} (h : xs.length + es.length ≤ 16777216) : mExt (.lst xs) [.lst es] = some (.lst (xs ++ es), .sh .non) := if_pos (show xs.length + es.length ≤ sizeLine from h)
theorem addS {q : PM.Pa} (p : Nat) (i : Int) (hl : q.length ≤ 1000) : opAdd (.tup (q.map encS)) (.tup [.tup [.int (p : Nat), .int i]]) = some (.sh (.tup ((q ++ [(p, i)]).map encS))) := by
  show (if _ then _ else _) = _
  rw [if_pos (by rw [List.length_map]; exact sl_le (by simp; omega)), List.map_append]
  rfl
theorem kids_app {a : PM.Pa} : ∀ {r1 r2 : List En} {n : Nat}, PM.kids a n (r1 ++ r2) = PM.kids a n r1 ++ PM.kids a (n + r1.length) r2
  | [], r2, n => by simp [PM.kids]
  | x :: r1, r2, n => by
    simp only [List.cons_append, PM.kids, kids_app (r1 := r1), List.append_assoc, List.length_cons]
    rw [show n + 1 + r1.length = n + (r1.length + 1) by omega]
theorem listed_ok {rows : List En} {q : PM.Pa} (hr : rows.length ≤ 1000) (hc : ∀ e ∈ rows, cntOk e.2) (hq : q.length ≤ 1000) (hk : (PM.kids q 0 rows).length ≤ 100000) :
    RF m__law_listed [.sh (.lst (rows.map encE)), .sh (.tup (q.map encS))] fun r fin => r = .lst ((PM.kids q 0 rows).map encA) ∧ fin = [some (.sh (.lst (rows.map encE))), some (.sh (.tup (q.map encS)))] := by
  refine RF_def rfl (by walk_at "nrm") ?_
  repeat walk_at "vw"
  refine RL_enum (enc := encE) (fun done δ => ∃ (j3 j4 j5 j6 : Option O), δ = [some (.sh (.lst (rows.map encE))), some (.sh (.tup (q.map encS))), some (.lst ((PM.kids q 0 done).map encA)), j3, j4, j5, j6]) ⟨_, _, _, _, rfl⟩ ?_ ?_
  · rintro done x rest δ hl ⟨j3, j4, j5, j6, rfl⟩
    have hx := hc x (by rw [hl]; simp)
    have hkl : (PM.kids q 0 done).length + x.2.toNat ≤ 100000 := by
      rw [hl, show done ++ x :: rest = (done ++ [x]) ++ rest by simp, kids_app, PM.kids_snoc] at hk
      simp at hk
      omega
    refine ⟨_, by rw [show encE x = .tup [.str x.1, .int x.2] from rfl]; walk_at "gt", ?_⟩
    repeat walk_at "vw"
    have h62 : inR x.2 = true := by
      have z : (2 : Int) ^ 62 = 4611686018427387904 := by decide
      have := hx.1
      have := hx.2
      unfold inR
      rw [z]
      simp only [Bool.and_eq_true, decide_eq_true_eq]
      omega
    refine ⟨h62, by rw [rng_map, List.length_map, List.length_range]; exact sl_le (by omega), ?_⟩
    rw [rng_map]
    refine RC_map (g := fun i : Nat => encA (q ++ [(done.length, (i : Int))])) (fun i hi => ?_) ?_
    · refine ⟨_, by walk_at "gt", ?_⟩
      rw [Int.zero_add]
      repeat walk_at "vw"
      refine R1_of _ (addS done.length (i : Int) hq) ?_
      repeat walk_at "vw"
      walk_at "nrm"
    repeat walk_at "vw"
    refine ⟨_, mExt_ok (by simp only [List.length_map, List.length_range]; omega), ?_⟩
    repeat walk_at "vw"
    refine ⟨some (.sh (.int done.length)), some (.sh (.str x.1)), some (.sh (.int x.2)), j6, ?_⟩
    rw [PM.kids_snoc, List.map_append, List.map_map, Nat.zero_add]
    rfl
  · rintro δ ⟨j3, j4, j5, j6, rfl⟩
    repeat walk_at "vw"
    rfl
theorem name_ok {kinds : List Ty} {tops : List En} (h : PP kinds tops) {q : PM.Pa} (hv : PM.Val kinds tops q) (hq : q ≠ []) :
    RF m__law_name [.sh (.lst (kinds.map encT)), .sh (.lst (tops.map encE)), .sh (encA q)] fun r fin => ∃ (s : Str) (o : Option O), r = .sh (.str s) ∧ PM.kindP kinds tops q = some s ∧ fin = [some (.sh (.lst (kinds.map encT))), o, some (.sh (encA q))] := by
  unfold encA
  refine RF_def rfl (by walk_at "nrm") ?_
  repeat walk_at "vw"
  refine R1_of _ (mDict_ok h.nd) ?_
  repeat walk_at "vw"
  refine RL_inv (enc := encS) (fun done δ => ∃ (nm : Str) (j5 j6 : Option O), δ = [some (.sh (.lst (kinds.map encT))), some (.sh (.lst ((PM.rowsP kinds tops done).map encE))), some (.sh (.tup (q.map encS))), some (.dK (kinds.map encK)), some (.sh (.str nm)), j5, j6] ∧ (done ≠ [] → PM.kindP kinds tops done = some nm))
    ⟨_, _, _, rfl, fun z => absurd rfl z⟩ ?_ ?_
  · rintro done x rest δ hl ⟨nm, j5, j6, rfl, hnm⟩
    rw [hl] at hv
    have hva := PM.val_app hv
    obtain ⟨p, i⟩ := x
    obtain ⟨e, he, h0, h1, _⟩ := hva.2
    refine ⟨_, by unfold encS; walk_at "gt", ?_⟩
    have hat : atI ((PM.rowsP kinds tops done).map encE) (p : Int) = some (.tup [.str e.1, .int e.2]) := Pg.atI_nat (by rw [List.getElem?_map, he]; rfl)
    repeat walk_at "vw"
    refine R1_of _ (opIx_lst hat) ?_
    repeat walk_at "vw"
    obtain ⟨t, htm, hte⟩ := List.mem_map.mp (h.row done e (PM.mem_at he)).1
    have hdg := dget_enc h.nd htm
    rw [hte] at hdg
    refine R1_of _ (opIx_dk hdg) ?_
    repeat walk_at "vw"
    refine ⟨e.1, some (.sh (.int (p : Nat))), some (.sh (.int i)), ?_, fun _ => PM.kindP_snoc hva.1 he⟩
    have e9 : PM.rowsP kinds tops (done ++ [(p, i)]) = t.2 := by rw [PM.rowsP_snoc hva.1 he, ← hte, ents_mem h.nd htm]
    rw [e9]
    rfl
  · rintro δ ⟨nm, j5, j6, rfl, hnm⟩
    repeat walk_at "vw"
    exact ⟨_, _, rfl, hnm hq, rfl⟩
theorem kind_rows {kinds : List Ty} : ∀ {q : PM.Pa} {tops : List En} {s : Str}, PM.kindP kinds tops q = some s → PM.rowsP kinds tops q = PM.ents kinds s
  | [], tops, s, h => by simp [PM.kindP] at h
  | (p, i) :: q, tops, s, h => by
    simp only [PM.kindP] at h
    simp only [PM.rowsP]
    cases he : tops[p]? with
    | none => rw [he] at h; cases h
    | some e =>
      rw [he] at h
      cases q with
      | nil => cases h; rfl
      | cons y q => exact kind_rows h
theorem kind_mem {kinds : List Ty} : ∀ {q : PM.Pa} {tops : List En} {s : Str}, PM.Ok kinds → PM.OkE kinds tops → PM.kindP kinds tops q = some s → s ∈ kinds.map (·.1)
  | [], tops, s, hK, h2, h => by simp [PM.kindP] at h
  | (p, i) :: q, tops, s, hK, h2, h => by
    simp only [PM.kindP] at h
    cases he : tops[p]? with
    | none => rw [he] at h; cases h
    | some e =>
      rw [he] at h
      cases q with
      | nil => cases h; exact (h2 e (PM.mem_at he)).1
      | cons y q => exact kind_mem hK (PM.ents_ok hK e.1) h
theorem below_ok {kinds : List Ty} {tops : List En} (h : PP kinds tops) {q : PM.Pa} (hv : PM.Val kinds tops q) (hq : q ≠ []) (hk : (PM.kids q 0 (PM.rowsP kinds tops q)).length ≤ 100000) :
    RF m__law_below [.sh (.lst (kinds.map encT)), .sh (.lst (tops.map encE)), .sh (encA q)] fun r fin => r = .lst ((PM.kids q 0 (PM.rowsP kinds tops q)).map encA) ∧ fin = [some (.sh (.lst (kinds.map encT))), some (.sh (.lst (tops.map encE))), some (.sh (encA q))] := by
  refine RF_def rfl (by walk_at "nrm") ?_
  repeat walk_at "vw"
  refine R1_of _ (mDict_ok h.nd) ?_
  repeat walk_at "vw"
  refine RF.mono (name_ok h hv hq) ?_
  rintro r fin ⟨s, o, rfl, hs, rfl⟩
  have hkr := kind_rows hs
  obtain ⟨t, htm, hte⟩ := List.mem_map.mp (kind_mem h.ok h.okE hs)
  have hdg := dget_enc h.nd htm
  have hen := ents_mem h.nd htm
  rw [hte] at hdg hen
  rw [hen] at hkr
  repeat walk_at "vw"
  refine R1_of _ (opIx_dk hdg) ?_
  repeat walk_at "vw"
  have hl := path_len h hv
  have hto := h.tk t htm
  rw [hkr] at hk ⊢
  refine RF.mono (listed_ok (by have := hto.2.1; omega) (fun e he => (hto.2.2 e he).2) (by omega) hk) ?_
  rintro r fin ⟨rfl, rfl⟩
  repeat walk_at "vw"
  rfl
theorem opNe_paths (l : List PM.Pa) : opNe (.lst (l.map encA)) (.lst []) = some (.sh (.bl (!l.isEmpty))) := by
  rw [opNe_nilL (okL_map fun q _ => by
    unfold encA
    simp only [D.okE]
    exact okL_map fun x _ => by simp [encS, D.okE, D.okL])]
  cases l <;> rfl
/-- the queue played -/
theorem order_ok {kinds : List Ty} {tops : List En} (h : PP kinds tops) (m : Bool) (hN : PM.sumE (PM.size kinds) tops ≤ 1000) :
    RF m__law_order [.sh (.lst (kinds.map encT)), .sh (.lst (tops.map encE)), .sh (.bl m)] fun r fin => ∃ R : List PM.Pa, r = .lst (R.map encA) ∧ (R.length : Int) = PM.sumE (PM.size kinds) tops ∧ (∀ (j : Nat) q, R[j]? = some q → q ≠ [] ∧ PM.Val kinds tops q ∧ numM kinds tops m q = j) ∧ fin = [some (.sh (.lst (kinds.map encT))), some (.sh (.lst (tops.map encE))), some (.sh (.bl m))] := by
  have h0 := QI_len h (QI_0 h m)
  have hnn := total_nn h
  refine RF_def rfl (by walk_at "nrm") ?_
  repeat walk_at "vw"
  refine RF.mono (listed_ok (q := []) (by have := h.tl; omega) (fun e he => (h.te e he).2.2) (by simp) (by simp at h0; omega)) ?_
  rintro r fin ⟨rfl, rfl⟩
  repeat walk_at "vw"
  refine RS_wh (m := (PM.sumE (PM.size kinds) tops).toNat) (fun w δ => ∃ (R W : List PM.Pa), δ = [some (.sh (.lst (kinds.map encT))), some (.sh (.lst (tops.map encE))), some (.sh (.bl m)), some (.lst (W.map encA)), some (.lst (R.map encA))] ∧ QI kinds tops m R W ∧ (w : Int) + R.length = PM.sumE (PM.size kinds) tops)
    ⟨[], _, rfl, QI_0 h m, by simp; omega⟩ ?_
  rintro w δ ⟨R, W, rfl, hQ, hw⟩
  have hlen := QI_len h hQ
  repeat walk_at "vw"
  refine R1_of _ (opNe_paths W) ?_
  repeat walk_at "vw"
  by_cases hne : W = []
  · subst hne
    refine CB_yes rfl ?_
    repeat walk_at "vw"
    have e := QI_end h hQ
    first | exact ⟨R, rfl, e.1, e.2, rfl⟩ | exact ⟨e.1, e.2, rfl⟩
  · refine CB_no (by cases W with | nil => exact absurd rfl hne | cons => rfl) ?_
    have hpos := List.length_pos_iff.mpr hne
    obtain ⟨q, S, hpop⟩ : ∃ q S, W = popQ m q S := by
      cases m with
      | true => obtain ⟨q, S, e⟩ := List.exists_cons_of_ne_nil hne; exact ⟨q, S, e⟩
      | false => exact ⟨W.getLast hne, W.dropLast, (List.dropLast_concat_getLast hne).symm⟩
    subst hpop
    have hqv := QI_val hQ (q := q) (.inr (by cases m <;> simp [popQ]))
    have hQ2 := QI_step h hQ
    have hlen2 := QI_len h hQ2
    rw [List.length_append, List.length_append, List.length_singleton] at hlen2
    have body : ∀ δ1, δ1 = [some (.sh (.lst (kinds.map encT))), some (.sh (.lst (tops.map encE))), some (.sh (.bl m)), some (.lst (S.map encA)), some (.lst ((R ++ [q]).map encA))] → RS (sExpr (xMut mExt 3 (bCons (xCall m__law_below (aCons true (xV 0) (aCons true (xV 1) (aCons false (x2 opIx (xV 4) (x1 negD (xC (.int 1)))) aNil)))) bNil))) δ1
        (loopS (fun δ' => ∃ m', m' < w ∧ ∃ (R W : List PM.Pa), δ' = [some (.sh (.lst (kinds.map encT))), some (.sh (.lst (tops.map encE))), some (.sh (.bl m)), some (.lst (W.map encA)), some (.lst (R.map encA))] ∧ QI kinds tops m R W ∧ (m' : Int) + R.length = PM.sumE (PM.size kinds) tops)
          (thenS (sRet 3 (xV 4)) (endF 3 [0, 1, 2] fun r fin => ∃ R : List PM.Pa, r = .lst (R.map encA) ∧ (R.length : Int) = PM.sumE (PM.size kinds) tops ∧ (∀ (j : Nat) q, R[j]? = some q → q ≠ [] ∧ PM.Val kinds tops q ∧ numM kinds tops m q = j) ∧ fin = [some (.sh (.lst (kinds.map encT))), some (.sh (.lst (tops.map encE))), some (.sh (.bl m))]))) := by
      rintro δ1 rfl
      repeat walk_at "vw"
      have hat : atI ((R ++ [q]).map encA) (-1) = some (encA q) := atI_last (by rw [List.length_map, List.getElem?_map]; simp)
      refine R1_of _ (opIx_lst hat) ?_
      repeat walk_at "vw"
      refine RF.mono (below_ok h hqv.2 hqv.1 (by omega)) ?_
      rintro r fin ⟨rfl, rfl⟩
      repeat walk_at "vw"
      refine ⟨_, mExt_ok (by simp only [List.length_map]; omega), ?_⟩
      repeat walk_at "vw"
      exact ⟨w - 1, by omega, R ++ [q], _, by rw [← List.map_append], hQ2, by simp; omega⟩
    cases m with
    | true =>
      repeat walk_at "vw"
      refine ⟨_, mPop_at (x := encA q) (by decide) (by decide) rfl, ?_⟩
      repeat walk_at "vw"
      refine ⟨_, mApp_ok (by rw [List.length_map]; omega), ?_⟩
      refine ⟨_, by walk_at "nrm", ?_⟩
      refine thenS_nx (body _ ?_)
      rw [List.map_append]
      rfl
    | false =>
      repeat walk_at "vw"
      refine ⟨(.lst (S.map encA), .sh (encA q)), ?_, ?_⟩
      · show (((popQ false q S).map encA)[((popQ false q S).map encA).length - 1]?).map (fun d => (O.lst ((popQ false q S).map encA).dropLast, O.sh d)) = _
        simp [popQ]
      repeat walk_at "vw"
      refine ⟨_, mApp_ok (by rw [List.length_map]; omega), ?_⟩
      refine ⟨_, by walk_at "nrm", ?_⟩
      refine thenS_nx (body _ ?_)
      rw [List.map_append]
      rfl
end Lk11

namespace Lk11
open PySem PySem.Spec L2 VS Pg
local macro_rules | `(tactic| walk_at "gt") => `(tactic| (simp only [gT, gsCons, gN, gsNil, Option.bind_some, List.length_cons, List.length_nil, List.set_cons_zero, List.set_cons_succ, Nat.reduceAdd, if_true] <;> exact rfl))
local macro_rules | `(tactic| walk_at "nrm") => `(tactic| (simp only [List.set_cons_zero, List.set_cons_succ, List.map_cons, List.map_nil, List.length_cons, List.length_nil, List.replicate, List.cons_append, List.nil_append, Nat.reduceSub, selM, ins, O.fz, wipeD, savD, unwD, List.getElem?_cons_zero, List.getElem?_cons_succ, Option.join_some, Option.join_none] <;> exact rfl))
local macro_rules | `(tactic| walk_at "vw") => `(tactic| first
  | with_reducible refine RX_x2 ?_ | with_reducible refine RX_C ?_ | with_reducible refine RX_Vs rfl ?_ | with_reducible refine RX_Va rfl rfl ?_
  | with_reducible refine RV_sh _ ?_ | with_reducible refine RV_val _ ?_ | with_reducible refine RV_at _ rfl ?_
  | with_reducible refine RK_val _ ?_ | with_reducible refine RK_at _ rfl (by walk_at "nrm") ?_
  | with_reducible refine RS_seq ?_ | with_reducible refine thenS_nx ?_ | with_reducible refine thenS_rt ?_ | with_reducible refine loopS_nx ?_ | with_reducible refine loopS_rt ?_ | with_reducible refine loopS_ct ?_ | with_reducible refine loopS_bk ?_ | with_reducible refine thenS_bk ?_ | with_reducible refine thenS_ct ?_ | with_reducible refine endF_rt (by walk_at "nrm") ?_ | with_reducible refine endF_nx (by walk_at "nrm") ?_
  | with_reducible refine RS_set ?_ | with_reducible refine RS_ret ?_ | with_reducible refine RS_if ?_ | with_reducible refine RS_expr ?_ | with_reducible refine RS_sub ?_ | with_reducible refine RS_attr ?_ | with_reducible refine RS_nil ?_ | with_reducible refine RS_par ?_ | with_reducible refine RS_asg ?_
  | with_reducible refine RX_call ?_ | with_reducible refine RX_bi ?_ | with_reducible refine RX_x1 ?_ | with_reducible refine RX_tup ?_ | with_reducible refine RX_lst ?_
  | with_reducible refine RA_f ?_ | with_reducible refine RA_t ?_ | with_reducible refine RA_nil ?_ | with_reducible refine RB_cons ?_ | with_reducible refine RB_nil ?_
  | with_reducible refine RT_Y ?_ | with_reducible refine RT_tB ?_ | with_reducible refine RT_not ?_ | with_reducible refine RT_and ?_ | with_reducible refine RT_or ?_ | with_reducible refine RX_and ?_ | with_reducible refine RX_or ?_ | with_reducible refine RX_not ?_ | with_reducible refine RX_if ?_ | with_reducible refine RX_ch ?_
  | with_reducible refine CB_t ?_ | with_reducible refine CB_f ?_ | with_reducible refine CB_n ?_
  | with_reducible refine RX_mut rfl rfl ?_ | with_reducible refine RS_for ?_ | with_reducible refine RI_enmU ?_ | with_reducible refine RI_seq ?_ | with_reducible refine RI_rg1 ?_ | with_reducible refine RI_rg3 ?_ | with_reducible refine RX_lc ?_ | with_reducible refine RX_dc ?_ | with_reducible refine RX_dK ?_ | with_reducible refine RX_sl ?_ | with_reducible refine RO_N ?_ | with_reducible refine RO_E ?_ | with_reducible refine RX_fld ?_ | with_reducible refine RX_meth ?_ | with_reducible refine RX_make ?_ | with_reducible refine RX_o2 ?_
  | with_reducible refine R1_of _ (opMod_int (by decide)) ?_ | with_reducible refine R1_of _ (opDiv_int (by decide)) ?_ | with_reducible refine R1_of _ (opMul_l (by first | decide | omega)) ?_ | with_reducible refine R1_of _ (opMul_r (by first | decide | omega)) ?_ | with_reducible refine R1_of _ (opPow_ok (by first | decide | omega)) ?_
  | refine R1_of _ rfl ?_
  | (fail_if_success (with_reducible refine RF_id ?_)); (fail_if_success (with_reducible refine RL_id ?_)); (fail_if_success (with_reducible refine RS_whid ?_)); (fail_if_success (with_reducible refine inR_id ?_)); first | refine ⟨_, by walk_at "nrm", ?_⟩ | refine ⟨_, _, rfl, ?_⟩ | refine ⟨_, rfl, ?_⟩ | refine ⟨rfl, ?_⟩ | refine ⟨Nat.le_of_ble_eq_true rfl, ?_⟩ | refine ⟨_, _, rfl, rfl, ?_⟩)
theorem cell_ok (ns : List Int) : RF m__law_cell_at [.sh (.scr ns), .sh (.int 0)] fun r fin => (∃ c : Int, r = .sh (.int c)) ∧ fin = [some (.sh (.scr ns)), some (.sh (.int 0))] := by
  refine RF_def rfl (by walk_at "nrm") ?_
  repeat walk_at "vw"
  cases ns with
  | nil =>
    refine CB_no rfl ?_
    repeat walk_at "vw"
    exact ⟨⟨_, rfl⟩, rfl⟩
  | cons x xs =>
    refine CB_yes (decide_eq_true (by simp)) ?_
    repeat walk_at "vw"
    refine R1_of (o := .sh (.int x)) _ ?_ ?_
    · show (atI (x :: xs) 0).map _ = _
      rw [show atI (x :: xs) 0 = some x from Pg.atI_nat (i := 0) rfl]
      rfl
    repeat walk_at "vw"
    exact ⟨⟨_, rfl⟩, rfl⟩
theorem source_ok (cell : Int) : RF m__law_source_of [.sh (.int cell)] fun r fin => Wl 0 r ∧ fin = [some (.sh (.int cell))] := by
  refine RF_def rfl (by walk_at "nrm") ?_
  repeat walk_at "vw"
  refine ⟨⟨_, _, _, rfl, ?_, Int.emod_nonneg _ (by decide), Int.emod_lt_of_pos _ (by decide), by decide, by decide⟩, rfl⟩
  have e : (10 : Int) ^ Int.toNat 18 = 1000000000000000000 := by decide
  split
  · rename_i h
    have := of_decide_eq_true h
    rw [e] at this
    omega
  · omega
theorem opAdd_lst {a b : List D} (h : a.length + b.length ≤ 16777216) : opAdd (.lst a) (.lst b) = some (.lst (a ++ b)) := if_pos (show a.length + b.length ≤ sizeLine from h)
theorem cutL_len {α : Type} (l : List α) (a b : Option Int) : (cutL l a b).length ≤ l.length := by
  unfold cutL
  rw [List.length_take, List.length_drop]
  omega
theorem okE_pa (q : PM.Pa) : (encA q).okE 30 = true := by
  unfold encA
  simp only [D.okE]
  exact okL_map fun x _ => by simp [encS, D.okE, D.okL]
theorem opNe_pa (q : PM.Pa) : opNe (encA q) (encA q) = some (.sh (.bl false)) := by
  unfold opNe
  rw [deq_refl (okE_pa q)]
  rfl
theorem next_task_ok {kinds : List Ty} {tops : List En} (h : PP kinds tops) (m : Bool) {q : PM.Pa} (hq : q ≠ []) (hv : PM.Val kinds tops q) :
    RF m_next_task [.sh (planV kinds tops), .sh (modeD m), .sh (encA q)] fun r fin => ((∃ y, r = .sh (encA y) ∧ y ≠ [] ∧ PM.Val kinds tops y ∧ numM kinds tops m y = numM kinds tops m q + 1) ∨ (r = .sh .non ∧ numM kinds tops m q + 1 = PM.sumE (PM.size kinds) tops)) ∧ fin = [some (.sh (planV kinds tops)), some (.sh (modeD m)), some (.sh (encA q))] := by
  have hr := numM_range h m hq hv
  refine RF_def rfl (by walk_at "nrm") ?_
  repeat walk_at "vw"
  refine RF.mono (start_number_ok h m hq hv) ?_
  rintro r fin ⟨rfl, rfl⟩
  repeat walk_at "vw"
  refine RF.mono (task_total_ok h) ?_
  rintro r fin ⟨rfl, rfl⟩
  repeat walk_at "vw"
  by_cases c : numM kinds tops m q + 1 < PM.sumE (PM.size kinds) tops
  · refine CB_yes (decide_eq_true c) ?_
    repeat walk_at "vw"
    refine RF.mono (task_at_ok h m (by omega) c) ?_
    rintro r fin ⟨y, rfl, hy, _, hyv, hyn, rfl⟩
    repeat walk_at "vw"
    exact ⟨.inl ⟨y, rfl, hy, hyv, hyn⟩, rfl⟩
  · refine CB_no (decide_eq_false c) ?_
    repeat walk_at "vw"
    exact ⟨.inr ⟨rfl, by omega⟩, rfl⟩
theorem level_starts2_ok {kinds : List Ty} {tops : List En} (h : PP kinds tops) (l : Nat) :
    RF m_level_starts [.sh (planV kinds tops), .sh (.int l)] fun r fin => r = .sh (.tup [.int (PM.sumN (PM.ltot kinds tops) l), .int (PM.sumN (PM.ltot kinds tops) (l + 1))]) ∧ fin = [some (.sh (planV kinds tops)), some (.sh (.int l))] := by
  have hlv := h.levs
  refine RF_def rfl (by walk_at "nrm") ?_
  repeat walk_at "vw"
  refine RF.mono (least_ok (by omega)) ?_
  rintro r fin ⟨rfl, rfl⟩
  repeat walk_at "vw"
  refine RF.mono (level_count_ok (fun e he => (h.te e he).1) (by have := h.tl; omega)) ?_
  rintro r fin ⟨rfl, rfl⟩
  repeat walk_at "vw"
  obtain ⟨m, hm, hm2, hm3⟩ : ∃ m : Nat, (if ((levs kinds tops : Nat) : Int) < (l : Int) then ((levs kinds tops : Nat) : Int) else (l : Int)) = (m : Int) ∧ m ≤ 1000 ∧ PM.sumN (PM.ltot kinds tops) m = PM.sumN (PM.ltot kinds tops) l := by
    by_cases c : levs kinds tops < l
    · refine ⟨levs kinds tops, by rw [if_pos (by omega)], ?_, (PM.sumN_more (Nat.le_of_lt c) fun i hi => PM.ltot_big h.ok h.okE hi).symm⟩
      unfold levs
      omega
    · refine ⟨l, by rw [if_neg (by omega)], ?_, rfl⟩
      unfold levs at c
      omega
  rw [hm]
  refine RF.mono (first_of_ok h hm2) ?_
  rintro r fin ⟨rfl, rfl⟩
  repeat walk_at "vw"
  refine RF.mono (level_total_ok h l) ?_
  rintro r fin ⟨rfl, rfl⟩
  repeat walk_at "vw"
  rw [hm3]
  exact ⟨rfl, rfl⟩
theorem RC_flt {α : Type} {enc : α → D} {f : α → Bool} {gt : GF} {tt : TF} {fe : XF} {own : List Nat} {l : List α} {P : List D → DS → Prop} {δ : DS}
    (step : ∀ x ∈ l, ∃ δ1, gt (enc x) δ = some δ1 ∧ RT tt δ1 fun b δ2 => b = f x ∧ wipeD δ2 own = δ ∧ RX fe δ2 fun e δ3 => RK δ3 e fun o δ4 => o.fz = enc x ∧ wipeD δ4 own = δ)
    (fin : P ((l.filter f).map enc) δ) : RC gt tt fe own (l.map enc) δ [] P := by
  refine RC_inv (fun done acc δ' => acc = (done.filter f).map enc ∧ δ' = δ) ⟨rfl, rfl⟩ (fun done x rest acc δ' e ⟨h1, h2⟩ => ?_) fun acc δ' ⟨h1, h2⟩ => by rw [h1, h2]; exact fin
  subst h1 h2
  obtain ⟨δ1, h3, b, δ2, h4, hb, hw, ev, δ3, h5, o, δ4, h6, h7, h8⟩ := step x (by rw [e]; simp)
  subst hb
  refine ⟨δ1, h3, f x, δ2, h4, ?_⟩
  cases hf : f x with
  | true => exact CB_yes rfl ⟨ev, δ3, h5, o, δ4, h6, by rw [h7, List.filter_append, List.map_append]; simp [hf], h8⟩
  | false => exact CB_no rfl ⟨by rw [List.filter_append]; simp [hf], hw⟩
theorem opNe_ii {i j : Int} : opNe (.tup [.int i, .int j]) (.tup [.int i, .int j]) = some (.sh (.bl false)) := by
  have : (D.tup [.int i, .int j]).okE 30 = true := by simp [D.okE, D.okL]
  unfold opNe
  rw [deq_refl this]
  rfl
theorem levels_ok {kinds : List Ty} {tops : List En} (h : PP kinds tops) {m : Bool} {R : List PM.Pa} (o : Ord kinds tops m R) (hR : R.length ≤ 1000) {n : Int} {w oR : O} (hw : Wl n w) (hn : n < 90000000) (ho : oR = .lst (R.map encA) ∨ oR = .sh (.lst (R.map encA))) :
    RF m__law_levels_right [w, .sh (planV kinds tops), oR] fun r fin => ∃ w', r = .sh (.bl true) ∧ Wl (n + 9000) w' ∧ fin = [some w', some (.sh (planV kinds tops)), some (.sh (.lst (R.map encA)))] := by
  have hlen : ∀ q ∈ R, q.length ≤ 40 := fun q hq => path_len h (o.ok hq).2
  (obtain ⟨_, _, _, e0, _⟩ := id hw; unfold wl at e0; subst e0)
  refine RF_def rfl (by walk_at "nrm") ?_
  repeat walk_at "vw"
  have e20 : (10 : Int) ^ Int.toNat 20 = 100000000000000000000 := by decide
  rw [e20]
  refine RF.mono (draw_ok hw (by omega) (by omega) (lim_of (k := 70) (by decide) (by decide))) ?_
  rintro r fin ⟨v, w1, rfl, hv0, hv1, hw1, rfl⟩
  (obtain ⟨_, _, _, e0, _⟩ := id hw1; unfold wl at e0; subst e0)
  repeat walk_at "vw"
  have hl : rngD 0 (8 : Int).toNat ++ [D.int v] = (List.range 8 ++ [v.toNat]).map fun i : Nat => D.int (i : Int) := by
    rw [List.map_append, rng_map]
    simp only [List.map_cons, List.map_nil, Int.toNat_of_nonneg hv0]
    congr 1
  simp only [O.fz, List.map_cons, List.map_nil]
  rw [hl]
  refine RL_inv (fun done δ => ∃ (oR j3 j4 j6 : Option O) (j5 : Option O), δ = [some (.lst [.int _, .int _, .int _]), some (.sh (planV kinds tops)), oR, j3, j4, j5, j6] ∧ (oR = some (.lst (R.map encA)) ∧ done = [] ∨ oR = some (.sh (.lst (R.map encA)))))
    ⟨_, _, _, _, _, rfl, by rcases ho with rfl | rfl; exact .inl ⟨rfl, rfl⟩; exact .inr rfl⟩ ?_ ?_
  · rintro done d rest δ hl ⟨oR, j3, j4, j6, j5, rfl, hoR⟩
    refine ⟨_, by walk_at "gt", ?_⟩
    have cnt : ∀ d : Nat, ((((R.filter fun q => decide ((q.length : Int) ≤ (d : Int))).map encA).length : Nat) : Int) = PM.sumN (PM.ltot kinds tops) d := fun d => by
      rw [List.length_map, ← o.levels h d]
      congr 2
      refine List.filter_congr fun q _ => ?_
      simp
    have c1 := cnt d
    have c2 := cnt (d + 1)
    rw [show ((d + 1 : Nat) : Int) = (d : Int) + 1 by omega] at c2
    have hoR2 : ∃ oo, oR = some oo ∧ (oo = .lst (R.map encA) ∨ oo = .sh (.lst (R.map encA))) := by
      rcases hoR with ⟨e, _⟩ | e
      · exact ⟨_, e, .inl rfl⟩
      · exact ⟨_, e, .inr rfl⟩
    obtain ⟨oo, rfl, ho2⟩ := hoR2
    rcases ho2 with rfl | rfl
    all_goals (
      repeat walk_at "vw"
      refine ⟨by rw [List.length_map]; exact sl_le (by omega), ?_⟩
      refine RC_flt (enc := encA) (f := fun q => decide ((q.length : Int) ≤ (d : Int))) (fun q hq => ?_) ?_
      · refine ⟨_, by walk_at "gt", ?_⟩
        unfold encA
        repeat walk_at "vw"
        rw [List.length_map]
        refine ⟨rfl, by walk_at "nrm", ?_⟩
        repeat walk_at "vw"
        walk_at "nrm"
      repeat walk_at "vw"
      refine ⟨by rw [List.length_map]; exact sl_le (by omega), ?_⟩
      refine RC_flt (enc := encA) (f := fun q => decide ((q.length : Int) ≤ (d : Int) + 1)) (fun q hq => ?_) ?_
      · refine ⟨_, by walk_at "gt", ?_⟩
        unfold encA
        repeat walk_at "vw"
        rw [List.length_map]
        refine ⟨rfl, by walk_at "nrm", ?_⟩
        repeat walk_at "vw"
        walk_at "nrm"
      repeat walk_at "vw"
      rw [c1, c2]
      refine RF.mono (level_starts2_ok h d) ?_
      rintro r fin ⟨rfl, rfl⟩
      repeat walk_at "vw"
      refine CB_yes (by simp [D.eqD, D.eqL]) ?_
      repeat walk_at "vw"
      exact ⟨_, _, _, _, _, rfl, .inr rfl⟩)
  · rintro δ ⟨oR, j3, j4, j6, j5, rfl, hoR⟩
    have hoR : oR = some (.sh (.lst (R.map encA))) := by
      rcases hoR with ⟨_, e⟩ | e
      · simp at e
      · exact e
    subst hoR
    repeat walk_at "vw"
    exact ⟨_, rfl, hw1, rfl⟩
end Lk11

namespace Lk11
open PySem PySem.Spec L2 VS Pg
local macro_rules | `(tactic| walk_at "gt") => `(tactic| (simp only [gT, gsCons, gN, gsNil, Option.bind_some, List.length_cons, List.length_nil, List.set_cons_zero, List.set_cons_succ, Nat.reduceAdd, if_true] <;> exact rfl))
local macro_rules | `(tactic| walk_at "nrm") => `(tactic| (simp only [List.set_cons_zero, List.set_cons_succ, List.map_cons, List.map_nil, List.length_cons, List.length_nil, List.replicate, List.cons_append, List.nil_append, Nat.reduceSub, selM, ins, O.fz, wipeD, savD, unwD, List.getElem?_cons_zero, List.getElem?_cons_succ, Option.join_some, Option.join_none] <;> exact rfl))
local macro_rules | `(tactic| walk_at "vw") => `(tactic| first
  | with_reducible refine RX_x2 ?_ | with_reducible refine RX_C ?_ | with_reducible refine RX_Vs rfl ?_ | with_reducible refine RX_Va rfl rfl ?_
  | with_reducible refine RV_sh _ ?_ | with_reducible refine RV_val _ ?_ | with_reducible refine RV_at _ rfl ?_
  | with_reducible refine RK_val _ ?_ | with_reducible refine RK_at _ rfl (by walk_at "nrm") ?_
  | with_reducible refine RS_seq ?_ | with_reducible refine thenS_nx ?_ | with_reducible refine thenS_rt ?_ | with_reducible refine loopS_nx ?_ | with_reducible refine loopS_rt ?_ | with_reducible refine loopS_ct ?_ | with_reducible refine loopS_bk ?_ | with_reducible refine thenS_bk ?_ | with_reducible refine thenS_ct ?_ | with_reducible refine endF_rt (by walk_at "nrm") ?_ | with_reducible refine endF_nx (by walk_at "nrm") ?_
  | with_reducible refine RS_set ?_ | with_reducible refine RS_ret ?_ | with_reducible refine RS_if ?_ | with_reducible refine RS_expr ?_ | with_reducible refine RS_sub ?_ | with_reducible refine RS_attr ?_ | with_reducible refine RS_nil ?_ | with_reducible refine RS_par ?_ | with_reducible refine RS_asg ?_
  | with_reducible refine RX_call ?_ | with_reducible refine RX_bi ?_ | with_reducible refine RX_x1 ?_ | with_reducible refine RX_tup ?_ | with_reducible refine RX_lst ?_
  | with_reducible refine RA_f ?_ | with_reducible refine RA_t ?_ | with_reducible refine RA_nil ?_ | with_reducible refine RB_cons ?_ | with_reducible refine RB_nil ?_
  | with_reducible refine RT_Y ?_ | with_reducible refine RT_tB ?_ | with_reducible refine RT_not ?_ | with_reducible refine RT_and ?_ | with_reducible refine RT_or ?_ | with_reducible refine RX_and ?_ | with_reducible refine RX_or ?_ | with_reducible refine RX_not ?_ | with_reducible refine RX_if ?_ | with_reducible refine RX_ch ?_
  | with_reducible refine CB_t ?_ | with_reducible refine CB_f ?_ | with_reducible refine CB_n ?_
  | with_reducible refine RX_mut rfl rfl ?_ | with_reducible refine RS_for ?_ | with_reducible refine RI_enmU ?_ | with_reducible refine RI_seq ?_ | with_reducible refine RI_rg1 ?_ | with_reducible refine RI_rg3 ?_ | with_reducible refine RX_lc ?_ | with_reducible refine RX_dc ?_ | with_reducible refine RX_dK ?_ | with_reducible refine RX_sl ?_ | with_reducible refine RO_N ?_ | with_reducible refine RO_E ?_ | with_reducible refine RX_fld ?_ | with_reducible refine RX_meth ?_ | with_reducible refine RX_make ?_ | with_reducible refine RX_o2 ?_
  | with_reducible refine R1_of _ (opMod_int (by decide)) ?_ | with_reducible refine R1_of _ (opDiv_int (by decide)) ?_ | with_reducible refine R1_of _ (opMul_l (by first | decide | omega)) ?_ | with_reducible refine R1_of _ (opMul_r (by first | decide | omega)) ?_ | with_reducible refine R1_of _ (opPow_ok (by first | decide | omega)) ?_
  | refine R1_of _ rfl ?_
  | (fail_if_success (with_reducible refine RF_id ?_)); (fail_if_success (with_reducible refine RL_id ?_)); (fail_if_success (with_reducible refine RS_whid ?_)); (fail_if_success (with_reducible refine inR_id ?_)); first | refine ⟨_, by walk_at "nrm", ?_⟩ | refine ⟨_, _, rfl, ?_⟩ | refine ⟨_, rfl, ?_⟩ | refine ⟨rfl, ?_⟩ | refine ⟨Nat.le_of_ble_eq_true rfl, ?_⟩ | refine ⟨_, _, rfl, rfl, ?_⟩)
theorem modes_enc : [D.str "fifo", D.str "lifo"] = [true, false].map modeD := rfl
theorem RS_mono {f : SF} {δ : DS} {P P' : Fl → Prop} (h : RS f δ P) (k : ∀ r, P r → P' r) : RS f δ P' := let ⟨r, e, p⟩ := h; ⟨r, e, k r p⟩
theorem opNe_nons : opNe .non .non = some (.sh (.bl false)) := by kernel_rfl
theorem opNe_tf (b : Bool) : opNe (.str (if b then "True" else "False")) (.str (if b then "True" else "False")) = some (.sh (.bl false)) := by cases b <;> kernel_rfl
theorem law_ok (ns : List Int) (hn : ns.length ≤ 63) : RF m_law [.sh (.scr ns)] fun r fin => r = .sh (.bl true) := by
  refine RF_def rfl (by walk_at "nrm") ?_
  repeat walk_at "vw"
  refine RF.mono (cell_ok ns) ?_
  rintro r fin ⟨⟨c0, rfl⟩, rfl⟩
  repeat walk_at "vw"
  have hcl := cutL_len ns (some 1) (some 4)
  refine R1_of _ (opAdd_lst (by simp; omega)) ?_
  repeat walk_at "vw"
  rw [show (D.int c0 :: (cutL ns (some 1) (some 4)).map D.int) = (c0 :: cutL ns (some 1) (some 4)).map D.int from rfl]
  refine RL_inv (fun _ δ => ∃ j1 j2 j3 j4 j5 j6 j7 j8 j9 j10 j11 j12 j13, δ = [some (.sh (.scr ns)), j1, j2, j3, j4, j5, j6, j7, j8, j9, j10, j11, j12, j13]) ⟨_, _, _, _, _, _, _, _, _, _, _, _, _, rfl⟩ ?_ ?_
  · rintro done cell rest δ hl ⟨j1, j2, j3, j4, j5, j6, j7, j8, j9, j10, j11, j12, j13, rfl⟩
    refine ⟨_, by walk_at "gt", ?_⟩
    repeat walk_at "vw"
    refine RF.mono (source_ok cell) ?_
    rintro r fin ⟨hw, rfl⟩
    (obtain ⟨_, _, _, e0, _⟩ := id hw; unfold wl at e0; subst e0)
    repeat walk_at "vw"
    refine RF.mono (parts_ok hw (by decide) (by decide) (by decide) (by decide) (by decide)) ?_
    rintro r fin ⟨kinds, tops, w2, rfl, h, htl3, hN, hw2, rfl⟩
    (obtain ⟨_, _, _, e0, _⟩ := id hw2; unfold wl at e0; subst e0)
    have hnn := total_nn h
    repeat walk_at "vw"
    refine RF.mono (init_ok h (.inr rfl)) ?_
    rintro r fin ⟨rfl, self, rest1, rfl, hr, hs⟩
    refine ⟨rfl, _, _, rfl, hr, ?_⟩
    rw [if_pos rfl, hs]
    repeat walk_at "vw"
    rw [modes_enc]
    refine RL_inv (fun done δ => ∃ w j6 j7 j8 j9 j10 j11 j12 j13, δ = [some (.sh (.scr ns)), some (.sh (.int cell)), some w, some (.sh (.lst (kinds.map encT))), some (.sh (.lst (tops.map encE))), some (.sh (planV kinds tops)), j6, j7, j8, j9, j10, j11, j12, j13] ∧ Wl (6000000 + 1000000 * done.length) w)
      ⟨_, _, _, _, _, _, _, _, _, rfl, hw2.mono (by simp)⟩ ?_ ?_
    · rintro dm m rm δ hlm ⟨w, j6, j7, j8, j9, j10, j11, j12, j13, rfl, hw⟩
      have hdm : dm.length ≤ 1 := by have := congrArg List.length hlm; simp at this; omega
      have ho : opEq (modeD m) (.str "fifo") = some (.sh (.bl m)) := by cases m <;> kernel_rfl
      refine ⟨_, by walk_at "gt", ?_⟩
      (obtain ⟨_, _, _, e0, _⟩ := id hw; unfold wl at e0; subst e0)
      repeat walk_at "vw"
      refine R1_of _ ho ?_
      repeat walk_at "vw"
      refine RF.mono (order_ok h m (by omega)) ?_
      rintro r fin ⟨R, rfl, hRl, hRa, rfl⟩
      have o : Ord kinds tops m R := ⟨hRl, hRa⟩
      have hR150 : R.length ≤ 150 := by omega
      repeat walk_at "vw"
      refine RL_enum (fun done δ => ∃ j8 j9, δ = [some (.sh (.scr ns)), some (.sh (.int cell)), some (.lst [.int _, .int _, .int _]), some (.sh (.lst (kinds.map encT))), some (.sh (.lst (tops.map encE))), some (.sh (planV kinds tops)), some (.sh (modeD m)), some (.sh (.lst (R.map encA))), j8, j9, j10, j11, j12, j13])
        ⟨_, _, rfl⟩ ?_ ?_
      · rintro dq q rq δ hlq ⟨j8, j9, rfl⟩
        have hqd : R[dq.length]? = some q := by rw [hlq]; simp
        have oq := o.at_ _ q hqd
        refine ⟨_, by walk_at "gt", ?_⟩
        repeat walk_at "vw"
        refine RF.mono (next_task_ok h m oq.1 oq.2.1) ?_
        rintro r fin ⟨hnx, rfl⟩
        rcases hnx with ⟨y, rfl, hy, hyv, hyn⟩ | ⟨rfl, hend⟩
        · have hy1 : R[dq.length + 1]? = some y := o.get h hy hyv (by omega)
          repeat walk_at "vw"
          refine R1_of _ (opAdd_lst (by rw [List.length_map]; simp; omega)) ?_
          repeat walk_at "vw"
          have hat : atI (R.map encA ++ [D.non]) ((dq.length : Int) + 1) = some (encA y) := by
            have hl1 := (List.getElem?_eq_some_iff.mp hy1).1
            rw [show (dq.length : Int) + 1 = ((dq.length + 1 : Nat) : Int) by omega]
            exact Pg.atI_nat (by rw [List.getElem?_append_left (by rw [List.length_map]; exact hl1), List.getElem?_map, hy1]; rfl)
          refine R1_of _ (opIx_lst hat) ?_
          repeat walk_at "vw"
          refine R1_of _ (opNe_pa y) ?_
          repeat walk_at "vw"
          exact ⟨_, _, rfl⟩
        · repeat walk_at "vw"
          refine R1_of _ (opAdd_lst (by rw [List.length_map]; simp; omega)) ?_
          repeat walk_at "vw"
          have hat : atI (R.map encA ++ [D.non]) ((dq.length : Int) + 1) = some D.non := by
            rw [show (dq.length : Int) + 1 = ((dq.length + 1 : Nat) : Int) by omega]
            refine Pg.atI_nat ?_
            have : dq.length + 1 = R.length := by omega
            rw [this, List.getElem?_append_right (by simp)]
            simp
          refine R1_of _ (opIx_lst hat) ?_
          repeat walk_at "vw"
          refine CB_yes (by simp [D.eqD]) ?_
          repeat walk_at "vw"
          exact ⟨_, _, rfl⟩
      · rintro δ ⟨j8, j9, rfl⟩
        repeat walk_at "vw"
        refine R1_of _ (opNe_paths R) ?_
        repeat walk_at "vw"
        have hj : ∃ k : Nat, (10 : Int) * (if (!R.isEmpty) = true then (1 : Int) else 0) = k ∧ k ≤ 10 ∧ (0 < k → 1 ≤ R.length) := by
          cases R with
          | nil => exact ⟨0, by simp, by decide, fun z => by omega⟩
          | cons => exact ⟨10, by simp, by decide, fun _ => by simp⟩
        obtain ⟨k, hk, hk10, hkp⟩ := hj
        rw [hk]
        refine ⟨by simp [inR]; omega, ?_⟩
        rw [Int.toNat_natCast, rng_map]
        refine RL_inv (fun done δ => ∃ w j10 j11 j12 j13, δ = [some (.sh (.scr ns)), some (.sh (.int cell)), some w, some (.sh (.lst (kinds.map encT))), some (.sh (.lst (tops.map encE))), some (.sh (planV kinds tops)), some (.sh (modeD m)), some (.sh (.lst (R.map encA))), j8, j9, j10, j11, j12, j13] ∧ Wl (6000000 + 1000000 * dm.length + 18000 * done.length) w)
          ⟨_, _, _, _, _, rfl, hw.mono (by simp)⟩ ?_ ?_
        · rintro dr x rr δ hlr ⟨w, j10, j11, j12, j13, rfl, hw⟩
          have hdr : dr.length < k := by have := congrArg List.length hlr; simp at this; omega
          have hRp := hkp (by omega)
          refine ⟨_, by walk_at "gt", ?_⟩
          (obtain ⟨_, _, _, e0, _⟩ := id hw; unfold wl at e0; subst e0)
          repeat walk_at "vw"
          refine ⟨by decide, by decide, ?_⟩
          rw [rng_map]
          refine RC_inv (fun done acc δ => ∃ (w : O) (xs : List Int), δ = [some (.sh (.scr ns)), some (.sh (.int cell)), some w, some (.sh (.lst (kinds.map encT))), some (.sh (.lst (tops.map encE))), some (.sh (planV kinds tops)), some (.sh (modeD m)), some (.sh (.lst (R.map encA))), j8, j9, some (.sh (.int _)), j11, none, j13] ∧ acc = xs.map D.int ∧ Wl (6000000 + 1000000 * dm.length + 18000 * dr.length + 9000 * done.length) w ∧ xs.length = done.length ∧ ∀ x ∈ xs, 0 ≤ x ∧ x < R.length)
            ⟨_, [], by walk_at "nrm", rfl, by simpa using hw, rfl, fun e he => by simp at he⟩ ?_ ?_
          · rintro d2 y r2 acc δ hl2 ⟨w, xs, rfl, rfl, hw, hxl, hxs⟩
            have hd2 : d2.length < 2 := by have := congrArg List.length hl2; simp at this; omega
            refine ⟨_, by walk_at "gt", ?_⟩
            (obtain ⟨_, _, _, e0, _⟩ := id hw; unfold wl at e0; subst e0)
            repeat walk_at "vw"
            rw [List.length_map]
            refine RF.mono (draw_ok hw (by omega) (by omega) (small_lim (by omega))) ?_
            rintro r fin ⟨v, w3, rfl, hv0, hv1, hw3, rfl⟩
            (obtain ⟨_, _, _, e0, _⟩ := id hw3; unfold wl at e0; subst e0)
            repeat walk_at "vw"
            refine ⟨_, xs ++ [v], by walk_at "nrm", by rw [List.map_append]; rfl, hw3.mono (by simp; omega), by simp [hxl], fun e he => ?_⟩
            rcases List.mem_append.mp he with he | he
            · exact hxs e he
            · have : e = v := by simpa using he
              subst this
              exact ⟨hv0, hv1⟩
          · rintro acc δ ⟨w, xs, rfl, rfl, hw, hxl, hxs⟩
            have hx2 : xs.length = 2 := by rw [hxl]; rfl
            obtain ⟨a, b, rfl⟩ : ∃ a b, xs = [a, b] := by
              match xs, hx2 with
              | [a, b], _ => exact ⟨a, b, rfl⟩
            have ha := hxs a (by simp)
            have hb := hxs b (by simp)
            obtain ⟨aN, rfl⟩ : ∃ aN : Nat, a = (aN : Int) := ⟨a.toNat, by omega⟩
            obtain ⟨bN, rfl⟩ : ∃ bN : Nat, b = (bN : Int) := ⟨b.toNat, by omega⟩
            obtain ⟨x1, hx1⟩ : ∃ x1, R[aN]? = some x1 := ⟨R[aN]'(by omega), List.getElem?_eq_getElem (by omega)⟩
            obtain ⟨y1, hy1⟩ : ∃ y1, R[bN]? = some y1 := ⟨R[bN]'(by omega), List.getElem?_eq_getElem (by omega)⟩
            have ox := o.at_ _ _ hx1
            have oy := o.at_ _ _ hy1
            have hxa : atI (R.map encA) (aN : Int) = some (encA x1) := Pg.atI_nat (by rw [List.getElem?_map, hx1]; rfl)
            have hya : atI (R.map encA) (bN : Int) = some (encA y1) := Pg.atI_nat (by rw [List.getElem?_map, hy1]; rfl)
            (obtain ⟨_, _, _, e0, _⟩ := id hw; unfold wl at e0; subst e0)
            repeat walk_at "vw"
            refine R1_of _ (opIx_lst hxa) ?_
            repeat walk_at "vw"
            refine R1_of _ (opIx_lst hya) ?_
            repeat walk_at "vw"
            refine RF.mono (starts_before_ok h m ox.1 oy.1 ox.2.1 oy.2.1) ?_
            rintro r fin ⟨rfl, rfl⟩
            rw [ox.2.2, oy.2.2]
            repeat walk_at "vw"
            refine R1_of _ (opNe_tf _) ?_
            repeat walk_at "vw"
            exact ⟨_, _, _, _, _, rfl, hw.mono (by simp; omega)⟩
        · rintro δ ⟨w, j10, j11, j12, j13, rfl, hw⟩
          rw [List.length_range] at hw
          (obtain ⟨_, _, _, e0, _⟩ := id hw; unfold wl at e0; subst e0)
          repeat walk_at "vw"
          refine RF.mono (levels_ok h o (by omega) hw (by omega) (.inr rfl)) ?_
          rintro r fin ⟨w4, rfl, hw4, rfl⟩
          (obtain ⟨_, _, _, e0, _⟩ := id hw4; unfold wl at e0; subst e0)
          repeat walk_at "vw"
          exact ⟨_, _, _, _, _, _, _, _, _, rfl, hw4.mono (by simp; omega)⟩
    · rintro δ ⟨w, j6, j7, j8, j9, j10, j11, j12, j13, rfl, hw⟩
      repeat walk_at "vw"
      exact ⟨_, _, _, _, _, _, _, _, _, _, _, _, _, rfl⟩
  · rintro δ ⟨j1, j2, j3, j4, j5, j6, j7, j8, j9, j10, j11, j12, j13, rfl⟩
    repeat walk_at "vw"
    rfl
theorem hlaw (ns : List Int) (hn : ns.length ≤ 63) : ∃ fin, m_law [.sh (.scr ns)] = some (.sh (.bl true), fin) := by
  obtain ⟨r, fin, e, rfl⟩ := law_ok ns hn
  exact ⟨fin, e⟩
end Lk11

open PySem
theorem PySem.Challenge.cw_stuckpools_k11_next_starts_and_levels_holds : PySem.Challenge.rw_stuckpools_k11_next_starts_and_levels.Holds := by
  exact Lk11.holds_of Lk11.hlaw
