import PyProof.Rows.All
import HandS.ForMost
import HandS.HeadHook2
import KE.KDictKeyed
import HandS.TupAny
import HandS.Wide
import HandS.Style
import HandS.Deep
import HandS.IsInst
import HandS.DictComp
import HandS.More
import HandS.WordsDict
import HandS.Small
import HandS.Text
import HandS.OwnEq
import HandS.SlotsOwn
import HandS.Words
import PyProof.EnumMake
import PyProof.Draws
import HandS.GenYield
import PyProof.StrBlock2
import KE.DatumOrd
import KE.GoesZip
import PyProof.ZipIter
import HandS.Conv
import HandS.RaiseMore
import HandS.SortInts
import HandS.ListItems
import KE.KDictCopyH
import HandS.SortKw
import KE.DataMinMax
import KE.KOpsOwn
import KE.KStateDown
import HandS.Head0
import HandS.Head1
import HandS.Head2
import HandS.HeadEnd
import HandS.HeadHook1
import HandS.HeadWalk
import PySem.Challenge.RW_stuckpools_k17_last_starts_and_open_task
set_option Elab.async false
set_option linter.all false
set_option maxRecDepth 100000
set_option maxHeartbeats 0
namespace VS
open PySem PySem.Spec L2
/-- frozen data -/
inductive D where
  | non | bl (b : Bool) | int (i : Int) | str (x : Str)
  | tup (xs : List D) | lst (xs : List D)
  | dK (kvs : List (Key × D)) | dT (kvs : List (List Key × D))
  /-- a dict whose keys are nested tuples of ints -/
  | dN (kvs : List (NestedKey × D))
  | obj (c : Str) (fs : List (Str × D))
  /-- a dict that owned its values -/
  | dO (kvs : List (Key × D))
  /-- the script: locked -/
  | scr (ns : List Int)
/-- a value with ownership: sh: shared data; else an object that nothing else names -/
inductive O where
  | sh (d : D) | lst (xs : List D) | dK (kvs : List (Key × D)) | dT (kvs : List (List Key × D))
  | dN (kvs : List (NestedKey × D))
  | obj (c : Str) (fs : List (Str × O))
  /-- a dict that owns its values -/
  | dO (kvs : List (Key × O))
/-- the hash of a key without texts -/
def hash0 : NestedKey → Int
  | .none => 0
  | .num i => hashInt i
  | .text _ => 0
  | .tup ks => reduceHash (Builtin.Tuple.tupleHashOf (ks.attach.map fun k => hash0 k.1))
termination_by k => sizeOf k
decreasing_by
  have := List.sizeOf_lt_of_mem k.2
  simp
  omega
mutual
/-- ints and tuples alone -/
def pureK : NestedKey → Bool
  | .none => false
  | .num _ => true
  | .text _ => false
  | .tup ks => pureKs ks
def pureKs : List NestedKey → Bool
  | [] => true
  | k :: ks => pureK k && pureKs ks
end
mutual
def O.fz : O → D
  | .sh d => d
  | .lst xs => .lst xs
  | .dK ks => .dK ks
  | .dT ks => .dT ks
  | .dN ks => .dN ks
  | .obj c fs => .obj c (O.fzF fs)
  | .dO ks => .dO (O.fzK ks)
def O.fzF : List (Str × O) → List (Str × D)
  | [] => []
  | (x, o) :: r => (x, o.fz) :: O.fzF r
def O.fzK : List (Key × O) → List (Key × D)
  | [] => []
  | (x, o) :: r => (x, o.fz) :: O.fzK r
end
/-- at a: a dict with such keys; where the keys stand, what the values are -/
def nd (a : Addr) (xs : List (NestedKey × Addr × V)) : HO := .ext fun h => (a == sysModules) = false ∧ xs.length ≤ sizeLine ∧ (∀ x ∈ xs, pureK x.1 = true ∧ x.1.depth ≤ 8) ∧
  ∃ ys : List (NestedKey × Addr × Value), Paired (fun (p : NestedKey × Addr × V) (q : NestedKey × Addr × Value) => p.1 = q.1 ∧ p.2.1 = q.2.1 ∧ RelV p.2.2 q.2.2) xs ys ∧
  ∃ o es ep, h.get? a = some o ∧ o.ExactDict ∧ o.data = .dict es ep ∧ es.toList = ys.map (fun y => (⟨hash0 y.1, .ref y.2.1, y.2.2⟩ : DictEntry)) ∧ (ys.map (·.1)).Nodup
section
variable (H : Hp)
mutual
def RepNK : NestedKey → V → Prop
  | .none, _ => False
  | .num i, v => v = .int i
  | .text _, _ => False
  | .tup ks, v => ∃ a vs, v = .ref a ∧ H a = some (.tup vs) ∧ RepNKs ks vs
def RepNKs : List NestedKey → List V → Prop
  | [], vs => vs = []
  | k :: ks, vs => ∃ v r, vs = v :: r ∧ RepNK k v ∧ RepNKs ks r
end
end
section
variable (K : PySem.W.Frag) (Z : Addr → Prop) (H : Hp)
mutual
def RepD : D → V → Prop
  | .non, v => v = .non
  | .bl b, v => v = .bl b
  | .int i, v => v = .int i
  | .str x, v => v = .str x
  | .tup ds, v => ∃ a vs, v = .ref a ∧ H a = some (.tup vs) ∧ RepL ds vs
  | .lst ds, v => ∃ a vs, v = .ref a ∧ Z a ∧ H a = some (.lst vs) ∧ RepL ds vs
  | .dK ks, v => ∃ a vs, v = .ref a ∧ Z a ∧ L2.Rd H a (.dK vs) ∧ RepK ks vs
  | .dO ks, v => ∃ a vs, v = .ref a ∧ Z a ∧ L2.Rd H a (.dK vs) ∧ RepK ks vs
  | .dT ks, v => ∃ a vs, v = .ref a ∧ Z a ∧ L2.Rd H a (.dT vs) ∧ RepT ks vs
  | .dN ks, v => ∃ a vs, v = .ref a ∧ Z a ∧ H a = some (nd a vs) ∧ RepN ks vs
  | .obj c fs, v => ∃ a dx vs, v = .ref a ∧ Z a ∧ H a = some (.ins (He.ga K c) dx vs) ∧ RepF fs vs
  | .scr ns, v => ∃ a, v = .ref a ∧ ((Z a ∧ ∃ o, H a = some (.frz o (.lst (ns.map V.int)))) ∨ SqL K (fun _ => none) a (ns.map V.int))
def RepL : List D → List V → Prop
  | [], vs => vs = []
  | d :: ds, vs => ∃ v r, vs = v :: r ∧ RepD d v ∧ RepL ds r
def RepK : List (Key × D) → List (Key × V) → Prop
  | [], vs => vs = []
  | (k, d) :: ds, vs => ∃ v r, vs = (k, v) :: r ∧ RepD d v ∧ RepK ds r
def RepT : List (List Key × D) → List (List Key × V) → Prop
  | [], vs => vs = []
  | (k, d) :: ds, vs => ∃ v r, vs = (k, v) :: r ∧ RepD d v ∧ RepT ds r
def RepN : List (NestedKey × D) → List (NestedKey × Addr × V) → Prop
  | [], vs => vs = []
  | (k, d) :: ds, vs => ∃ b v r, vs = (k, b, v) :: r ∧ RepNK H k (.ref b) ∧ RepD d v ∧ RepN ds r
def RepF : List (Str × D) → List (Str × V) → Prop
  | [], vs => vs = []
  | (k, d) :: ds, vs => ∃ v r, vs = (k, v) :: r ∧ RepD d v ∧ RepF ds r
end
mutual
def RepO : O → V → List Addr → Prop
  | .sh d, v, F => F = [] ∧ RepD K Z H d v
  | .lst ds, v, F => ∃ a vs, v = .ref a ∧ F = [a] ∧ H a = some (.lst vs) ∧ RepL K Z H ds vs
  | .dK ks, v, F => ∃ a vs, v = .ref a ∧ F = [a] ∧ H a = some (.dK vs) ∧ RepK K Z H ks vs
  | .dT ks, v, F => ∃ a vs, v = .ref a ∧ F = [a] ∧ H a = some (.dT vs) ∧ RepT K Z H ks vs
  | .dN ks, v, F => ∃ a vs, v = .ref a ∧ F = [a] ∧ H a = some (nd a vs) ∧ RepN K Z H ks vs
  | .obj c fs, v, F => ∃ a dx vs G, v = .ref a ∧ F = a :: G ∧ H a = some (.ins (He.ga K c) dx vs) ∧ RepOF fs vs G
  | .dO ks, v, F => ∃ a vs G, v = .ref a ∧ F = a :: G ∧ H a = some (.dK vs) ∧ RepOK ks vs G
def RepOF : List (Str × O) → List (Str × V) → List Addr → Prop
  | [], vs, F => vs = [] ∧ F = []
  | (k, o) :: r, vs, F => ∃ v r' F1 F2, vs = (k, v) :: r' ∧ F = F1 ++ F2 ∧ RepO o v F1 ∧ RepOF r r' F2
def RepOK : List (Key × O) → List (Key × V) → List Addr → Prop
  | [], vs, F => vs = [] ∧ F = []
  | (k, o) :: r, vs, F => ∃ v r' F1 F2, vs = (k, v) :: r' ∧ F = F1 ++ F2 ∧ RepO o v F1 ∧ RepOK r r' F2
end
end
/-- a dict, locked or not -/
def dcO : HO → Bool
  | .dK _ => true
  | .dT _ => true
  | .frz _ (.dK _) => true
  | .frz _ (.dT _) => true
  | _ => false
/-- what shared data leans on stays -/
structure Keep (Z Z' : Addr → Prop) (H H' : Hp) : Prop where
  z : ∀ a, Z a → Z' a
  h : ∀ a o, Z a → H a = some o → dcO o = false → H' a = some o
  dk : ∀ a u, Z a → L2.Rd H a (.dK u) → L2.Rd H' a (.dK u)
  dt : ∀ a u, Z a → L2.Rd H a (.dT u) → L2.Rd H' a (.dT u)
  t : ∀ a xs, H a = some (.tup xs) → H' a = some (.tup xs)
section
variable {K : PySem.W.Frag} {Z Z' : Addr → Prop} {H H' : Hp}
theorem Keep.of (z : ∀ a, Z a → Z' a) (h : ∀ a o, Z a → H a = some o → H' a = some o) (t : ∀ a xs, H a = some (.tup xs) → H' a = some (.tup xs)) : Keep Z Z' H H' :=
  ⟨z, fun a o q e _ => h a o q e, fun a u q e => e.imp (h a _ q) (fun ⟨o, e⟩ => ⟨o, h a _ q e⟩), fun a u q e => e.imp (h a _ q) (fun ⟨o, e⟩ => ⟨o, h a _ q e⟩), t⟩
mutual
theorem RepNK.keep (k : Keep Z Z' H H') : ∀ (x : NestedKey) (v : V), RepNK H x v → RepNK H' x v
  | .none, v, h => by simp only [RepNK] at h
  | .num i, v, h => by simpa only [RepNK] using h
  | .text z, v, h => by simp only [RepNK] at h
  | .tup ks, v, h => by
    simp only [RepNK] at h ⊢
    obtain ⟨a, vs, e, h1, h2⟩ := h
    exact ⟨a, vs, e, k.t a vs h1, RepNKs.keep k ks vs h2⟩
theorem RepNKs.keep (k : Keep Z Z' H H') : ∀ (x : List NestedKey) (v : List V), RepNKs H x v → RepNKs H' x v
  | [], v, h => by simpa only [RepNKs] using h
  | x :: xs, v, h => by
    simp only [RepNKs] at h ⊢
    obtain ⟨w, r, e, h1, h2⟩ := h
    exact ⟨w, r, e, RepNK.keep k x w h1, RepNKs.keep k xs r h2⟩
end
mutual
theorem RepD.keep (k : Keep Z Z' H H') : ∀ (d : D) (v : V), RepD K Z H d v → RepD K Z' H' d v
  | .non, v, h => by simpa only [RepD] using h
  | .bl b, v, h => by simpa only [RepD] using h
  | .int i, v, h => by simpa only [RepD] using h
  | .str x, v, h => by simpa only [RepD] using h
  | .tup ds, v, h => by
    simp only [RepD] at h ⊢
    obtain ⟨a, vs, e, h1, h2⟩ := h
    exact ⟨a, vs, e, k.t a vs h1, RepL.keep k ds vs h2⟩
  | .lst ds, v, h => by
    simp only [RepD] at h ⊢
    obtain ⟨a, vs, e, z, h1, h2⟩ := h
    exact ⟨a, vs, e, k.z a z, k.h a _ z h1 rfl, RepL.keep k ds vs h2⟩
  | .dK ks, v, h => by
    simp only [RepD] at h ⊢
    obtain ⟨a, vs, e, z, h1, h2⟩ := h
    exact ⟨a, vs, e, k.z a z, k.dk a _ z h1, RepK.keep k ks vs h2⟩
  | .dT ks, v, h => by
    simp only [RepD] at h ⊢
    obtain ⟨a, vs, e, z, h1, h2⟩ := h
    exact ⟨a, vs, e, k.z a z, k.dt a _ z h1, RepT.keep k ks vs h2⟩
  | .dO ks, v, h => by
    simp only [RepD] at h ⊢
    obtain ⟨a, vs, e, z, h1, h2⟩ := h
    exact ⟨a, vs, e, k.z a z, k.dk a _ z h1, RepK.keep k ks vs h2⟩
  | .dN ks, v, h => by
    simp only [RepD] at h ⊢
    obtain ⟨a, vs, e, z, h1, h2⟩ := h
    exact ⟨a, vs, e, k.z a z, k.h a _ z h1 rfl, RepN.keep k ks vs h2⟩
  | .obj c fs, v, h => by
    simp only [RepD] at h ⊢
    obtain ⟨a, dx, vs, e, z, h1, h2⟩ := h
    exact ⟨a, dx, vs, e, k.z a z, k.h a _ z h1 rfl, RepF.keep k fs vs h2⟩
  | .scr ns, v, h => by
    simp only [RepD] at h ⊢
    obtain ⟨a, e, ⟨z, o, h1⟩ | h1⟩ := h
    · exact ⟨a, e, .inl ⟨k.z a z, o, k.h a _ z h1 rfl⟩⟩
    · exact ⟨a, e, .inr h1⟩
theorem RepL.keep (k : Keep Z Z' H H') : ∀ (ds : List D) (vs : List V), RepL K Z H ds vs → RepL K Z' H' ds vs
  | [], vs, h => by simpa only [RepL] using h
  | d :: ds, vs, h => by
    simp only [RepL] at h ⊢
    obtain ⟨v, r, e, h1, h2⟩ := h
    exact ⟨v, r, e, RepD.keep k d v h1, RepL.keep k ds r h2⟩
theorem RepK.keep (k : Keep Z Z' H H') : ∀ (ds : List (Key × D)) (vs : List (Key × V)), RepK K Z H ds vs → RepK K Z' H' ds vs
  | [], vs, h => by simpa only [RepK] using h
  | (x, d) :: ds, vs, h => by
    simp only [RepK] at h ⊢
    obtain ⟨v, r, e, h1, h2⟩ := h
    exact ⟨v, r, e, RepD.keep k d v h1, RepK.keep k ds r h2⟩
theorem RepT.keep (k : Keep Z Z' H H') : ∀ (ds : List (List Key × D)) (vs : List (List Key × V)), RepT K Z H ds vs → RepT K Z' H' ds vs
  | [], vs, h => by simpa only [RepT] using h
  | (x, d) :: ds, vs, h => by
    simp only [RepT] at h ⊢
    obtain ⟨v, r, e, h1, h2⟩ := h
    exact ⟨v, r, e, RepD.keep k d v h1, RepT.keep k ds r h2⟩
theorem RepN.keep (k : Keep Z Z' H H') : ∀ (ds : List (NestedKey × D)) (vs : List (NestedKey × Addr × V)), RepN K Z H ds vs → RepN K Z' H' ds vs
  | [], vs, h => by simpa only [RepN] using h
  | (x, d) :: ds, vs, h => by
    simp only [RepN] at h ⊢
    obtain ⟨b, v, r, e, h0, h1, h2⟩ := h
    exact ⟨b, v, r, e, RepNK.keep k x _ h0, RepD.keep k d v h1, RepN.keep k ds r h2⟩
theorem RepF.keep (k : Keep Z Z' H H') : ∀ (ds : List (Str × D)) (vs : List (Str × V)), RepF K Z H ds vs → RepF K Z' H' ds vs
  | [], vs, h => by simpa only [RepF] using h
  | (x, d) :: ds, vs, h => by
    simp only [RepF] at h ⊢
    obtain ⟨v, r, e, h1, h2⟩ := h
    exact ⟨v, r, e, RepD.keep k d v h1, RepF.keep k ds r h2⟩
end
end
end VS
namespace VS
open PySem PySem.Spec L2
section
variable {K : PySem.W.Frag} {Z Z' : Addr → Prop} {H H' : Hp}
mutual
theorem RepO.keep (k : Keep Z Z' H H') : ∀ (o : O) (v : V) (F : List Addr), (∀ a ∈ F, ∀ u, H a = some u → H' a = some u) → RepO K Z H o v F → RepO K Z' H' o v F
  | .sh d, v, F, q, h => by
    simp only [RepO] at h ⊢
    exact ⟨h.1, RepD.keep k d v h.2⟩
  | .lst ds, v, F, q, h => by
    simp only [RepO] at h ⊢
    obtain ⟨a, vs, e, f, h1, h2⟩ := h
    exact ⟨a, vs, e, f, q a (by rw [f]; exact List.mem_cons_self) _ h1, RepL.keep k ds vs h2⟩
  | .dK ds, v, F, q, h => by
    simp only [RepO] at h ⊢
    obtain ⟨a, vs, e, f, h1, h2⟩ := h
    exact ⟨a, vs, e, f, q a (by rw [f]; exact List.mem_cons_self) _ h1, RepK.keep k ds vs h2⟩
  | .dT ds, v, F, q, h => by
    simp only [RepO] at h ⊢
    obtain ⟨a, vs, e, f, h1, h2⟩ := h
    exact ⟨a, vs, e, f, q a (by rw [f]; exact List.mem_cons_self) _ h1, RepT.keep k ds vs h2⟩
  | .dN ds, v, F, q, h => by
    simp only [RepO] at h ⊢
    obtain ⟨a, vs, e, f, h1, h2⟩ := h
    exact ⟨a, vs, e, f, q a (by rw [f]; exact List.mem_cons_self) _ h1, RepN.keep k ds vs h2⟩
  | .dO fs, v, F, q, h => by
    simp only [RepO] at h ⊢
    obtain ⟨a, vs, G, e, f, h1, h2⟩ := h
    exact ⟨a, vs, G, e, f, q a (by rw [f]; exact List.mem_cons_self) _ h1, RepOK.keep k fs vs G (fun b hb => q b (by rw [f]; exact List.mem_cons_of_mem _ hb)) h2⟩
  | .obj c fs, v, F, q, h => by
    simp only [RepO] at h ⊢
    obtain ⟨a, dx, vs, G, e, f, h1, h2⟩ := h
    exact ⟨a, dx, vs, G, e, f, q a (by rw [f]; exact List.mem_cons_self) _ h1, RepOF.keep k fs vs G (fun b hb => q b (by rw [f]; exact List.mem_cons_of_mem _ hb)) h2⟩
theorem RepOF.keep (k : Keep Z Z' H H') : ∀ (fs : List (Str × O)) (vs : List (Str × V)) (F : List Addr), (∀ a ∈ F, ∀ u, H a = some u → H' a = some u) → RepOF K Z H fs vs F → RepOF K Z' H' fs vs F
  | [], vs, F, q, h => by
    simp only [RepOF] at h ⊢
    exact h
  | (x, o) :: r, vs, F, q, h => by
    simp only [RepOF] at h ⊢
    obtain ⟨v, r', F1, F2, e, f, h1, h2⟩ := h
    exact ⟨v, r', F1, F2, e, f, RepO.keep k o v F1 (fun b hb => q b (by rw [f]; exact List.mem_append_left _ hb)) h1, RepOF.keep k r r' F2 (fun b hb => q b (by rw [f]; exact List.mem_append_right _ hb)) h2⟩
theorem RepOK.keep (k : Keep Z Z' H H') : ∀ (fs : List (Key × O)) (vs : List (Key × V)) (F : List Addr), (∀ a ∈ F, ∀ u, H a = some u → H' a = some u) → RepOK K Z H fs vs F → RepOK K Z' H' fs vs F
  | [], vs, F, q, h => by
    simp only [RepOK] at h ⊢
    exact h
  | (x, o) :: r, vs, F, q, h => by
    simp only [RepOK] at h ⊢
    obtain ⟨v, r', F1, F2, e, f, h1, h2⟩ := h
    exact ⟨v, r', F1, F2, e, f, RepO.keep k o v F1 (fun b hb => q b (by rw [f]; exact List.mem_append_left _ hb)) h1, RepOK.keep k r r' F2 (fun b hb => q b (by rw [f]; exact List.mem_append_right _ hb)) h2⟩
end
mutual
theorem RepO.dom : ∀ (o : O) (v : V) (F : List Addr), RepO K Z H o v F → ∀ a ∈ F, ∃ u, H a = some u
  | .sh d, v, F, h => by
    simp only [RepO] at h
    rw [h.1]
    exact fun a ha => absurd ha (by simp)
  | .lst ds, v, F, h => by
    simp only [RepO] at h
    obtain ⟨a, vs, e, f, h1, h2⟩ := h
    rw [f]
    intro b hb
    have e : b = a := by simpa using hb
    exact ⟨_, by rw [e]; exact h1⟩
  | .dK ds, v, F, h => by
    simp only [RepO] at h
    obtain ⟨a, vs, e, f, h1, h2⟩ := h
    rw [f]
    intro b hb
    have e : b = a := by simpa using hb
    exact ⟨_, by rw [e]; exact h1⟩
  | .dT ds, v, F, h => by
    simp only [RepO] at h
    obtain ⟨a, vs, e, f, h1, h2⟩ := h
    rw [f]
    intro b hb
    have e : b = a := by simpa using hb
    exact ⟨_, by rw [e]; exact h1⟩
  | .dN ds, v, F, h => by
    simp only [RepO] at h
    obtain ⟨a, vs, e, f, h1, h2⟩ := h
    rw [f]
    intro b hb
    have e : b = a := by simpa using hb
    exact ⟨_, by rw [e]; exact h1⟩
  | .dO fs, v, F, h => by
    simp only [RepO] at h
    obtain ⟨a, vs, G, e, f, h1, h2⟩ := h
    rw [f]
    intro b hb
    rcases List.mem_cons.mp hb with e | hb
    · exact ⟨_, by rw [e]; exact h1⟩
    · exact RepOK.dom fs vs G h2 b hb
  | .obj c fs, v, F, h => by
    simp only [RepO] at h
    obtain ⟨a, dx, vs, G, e, f, h1, h2⟩ := h
    rw [f]
    intro b hb
    rcases List.mem_cons.mp hb with e | hb
    · exact ⟨_, by rw [e]; exact h1⟩
    · exact RepOF.dom fs vs G h2 b hb
theorem RepOF.dom : ∀ (fs : List (Str × O)) (vs : List (Str × V)) (F : List Addr), RepOF K Z H fs vs F → ∀ a ∈ F, ∃ u, H a = some u
  | [], vs, F, h => by
    simp only [RepOF] at h
    rw [h.2]
    exact fun a ha => absurd ha (by simp)
  | (x, o) :: r, vs, F, h => by
    simp only [RepOF] at h
    obtain ⟨v, r', F1, F2, e, f, h1, h2⟩ := h
    rw [f]
    intro b hb
    rcases List.mem_append.mp hb with hb | hb
    · exact RepO.dom o v F1 h1 b hb
    · exact RepOF.dom r r' F2 h2 b hb
theorem RepOK.dom : ∀ (fs : List (Key × O)) (vs : List (Key × V)) (F : List Addr), RepOK K Z H fs vs F → ∀ a ∈ F, ∃ u, H a = some u
  | [], vs, F, h => by
    simp only [RepOK] at h
    rw [h.2]
    exact fun a ha => absurd ha (by simp)
  | (x, o) :: r, vs, F, h => by
    simp only [RepOK] at h
    obtain ⟨v, r', F1, F2, e, f, h1, h2⟩ := h
    rw [f]
    intro b hb
    rcases List.mem_append.mp hb with hb | hb
    · exact RepO.dom o v F1 h1 b hb
    · exact RepOK.dom r r' F2 h2 b hb
end
mutual
theorem RepO.noT : ∀ (o : O) (v : V) (F : List Addr), RepO K Z H o v F → ∀ a ∈ F, ∀ xs, H a ≠ some (.tup xs)
  | .sh d, v, F, h => by
    simp only [RepO] at h
    rw [h.1]
    exact fun a ha => absurd ha (by simp)
  | .lst ds, v, F, h => by
    simp only [RepO] at h
    obtain ⟨b, vs, _, ef, hb, _⟩ := h
    intro a ha xs e
    rw [ef] at ha
    have : a = b := by simpa using ha
    rw [this, hb] at e
    cases e
  | .dK ds, v, F, h => by
    simp only [RepO] at h
    obtain ⟨b, vs, _, ef, hb, _⟩ := h
    intro a ha xs e
    rw [ef] at ha
    have : a = b := by simpa using ha
    rw [this, hb] at e
    cases e
  | .dT ds, v, F, h => by
    simp only [RepO] at h
    obtain ⟨b, vs, _, ef, hb, _⟩ := h
    intro a ha xs e
    rw [ef] at ha
    have : a = b := by simpa using ha
    rw [this, hb] at e
    cases e
  | .dN ds, v, F, h => by
    simp only [RepO] at h
    obtain ⟨b, vs, _, ef, hb, _⟩ := h
    intro a ha xs e
    rw [ef] at ha
    have : a = b := by simpa using ha
    rw [this, hb] at e
    cases e
  | .obj c fs, v, F, h => by
    simp only [RepO] at h
    obtain ⟨b, dx, vs, G, _, ef, hb, hG⟩ := h
    intro a ha xs e
    rw [ef] at ha
    rcases List.mem_cons.mp ha with ha | ha
    · rw [ha, hb] at e
      cases e
    · exact RepOF.noT fs vs G hG a ha xs e
  | .dO fs, v, F, h => by
    simp only [RepO] at h
    obtain ⟨b, vs, G, _, ef, hb, hG⟩ := h
    intro a ha xs e
    rw [ef] at ha
    rcases List.mem_cons.mp ha with ha | ha
    · rw [ha, hb] at e
      cases e
    · exact RepOK.noT fs vs G hG a ha xs e
theorem RepOF.noT : ∀ (fs : List (Str × O)) (vs : List (Str × V)) (F : List Addr), RepOF K Z H fs vs F → ∀ a ∈ F, ∀ xs, H a ≠ some (.tup xs)
  | [], vs, F, h => by
    simp only [RepOF] at h
    rw [h.2]
    exact fun a ha => absurd ha (by simp)
  | (x, o) :: r, vs, F, h => by
    simp only [RepOF] at h
    obtain ⟨v, r', F1, F2, _, ef, q1, q2⟩ := h
    intro a ha xs e
    rw [ef] at ha
    rcases List.mem_append.mp ha with ha | ha
    · exact RepO.noT o v F1 q1 a ha xs e
    · exact RepOF.noT r r' F2 q2 a ha xs e
theorem RepOK.noT : ∀ (fs : List (Key × O)) (vs : List (Key × V)) (F : List Addr), RepOK K Z H fs vs F → ∀ a ∈ F, ∀ xs, H a ≠ some (.tup xs)
  | [], vs, F, h => by
    simp only [RepOK] at h
    rw [h.2]
    exact fun a ha => absurd ha (by simp)
  | (x, o) :: r, vs, F, h => by
    simp only [RepOK] at h
    obtain ⟨v, r', F1, F2, _, ef, q1, q2⟩ := h
    intro a ha xs e
    rw [ef] at ha
    rcases List.mem_append.mp ha with ha | ha
    · exact RepO.noT o v F1 q1 a ha xs e
    · exact RepOK.noT r r' F2 q2 a ha xs e
end
end
/-- one place -/
def RepX (K : PySem.W.Frag) (Z : Addr → Prop) (H : Hp) : Option O → Option V → List Addr → Prop
  | none, _, F => F = []
  | some o, some v, F => RepO K Z H o v F
  | some _, none, _ => False
/-- places -/
def RepS (K : PySem.W.Frag) (Z : Addr → Prop) (H : Hp) : List (Option O) → List (Option V) → List Addr → Prop
  | [], σ, F => σ = [] ∧ F = []
  | x :: δ, σ, F => ∃ y r F1 F2, σ = y :: r ∧ F = F1 ++ F2 ∧ RepX K Z H x y F1 ∧ RepS K Z H δ r F2
section
variable {K : PySem.W.Frag} {Z Z' : Addr → Prop} {H H' : Hp}
theorem RepX.keep (k : Keep Z Z' H H') {x : Option O} {y : Option V} {F : List Addr} (q : ∀ a ∈ F, ∀ u, H a = some u → H' a = some u) (h : RepX K Z H x y F) : RepX K Z' H' x y F := by
  cases x with
  | none => exact h
  | some o => cases y with
    | none => exact h
    | some v => exact RepO.keep k o v F q h
theorem RepX.dom {x : Option O} {y : Option V} {F : List Addr} (h : RepX K Z H x y F) : ∀ a ∈ F, ∃ u, H a = some u := by
  cases x with
  | none =>
    have e : F = [] := h
    rw [e]
    exact fun a ha => absurd ha (by simp)
  | some o => cases y with
    | none => exact (show False from h).elim
    | some v => exact RepO.dom o v F h
theorem RepS.keep (k : Keep Z Z' H H') : ∀ {δ : List (Option O)} {σ : List (Option V)} {F : List Addr}, (∀ a ∈ F, ∀ u, H a = some u → H' a = some u) → RepS K Z H δ σ F → RepS K Z' H' δ σ F
  | [], σ, F, q, h => h
  | x :: δ, σ, F, q, ⟨y, r, F1, F2, e, f, h1, h2⟩ =>
    ⟨y, r, F1, F2, e, f, RepX.keep k (fun b hb => q b (by rw [f]; exact List.mem_append_left _ hb)) h1, RepS.keep k (fun b hb => q b (by rw [f]; exact List.mem_append_right _ hb)) h2⟩
theorem RepS.dom : ∀ {δ : List (Option O)} {σ : List (Option V)} {F : List Addr}, RepS K Z H δ σ F → ∀ a ∈ F, ∃ u, H a = some u
  | [], σ, F, h => by
    have e : F = [] := h.2
    rw [e]
    exact fun a ha => absurd ha (by simp)
  | x :: δ, σ, F, ⟨y, r, F1, F2, e, f, h1, h2⟩ => by
    rw [f]
    intro b hb
    rcases List.mem_append.mp hb with hb | hb
    · exact RepX.dom h1 b hb
    · exact RepS.dom h2 b hb
theorem RepS.length : ∀ {δ : List (Option O)} {σ : List (Option V)} {F : List Addr}, RepS K Z H δ σ F → δ.length = σ.length
  | [], σ, F, h => by
    have e : σ = [] := h.1
    rw [e]
    all_goals rfl
  | x :: δ, σ, F, ⟨y, r, F1, F2, e, f, h1, h2⟩ => by
    rw [e, List.length_cons, List.length_cons, RepS.length h2]
/-- a place taken out, and another put in -/
theorem RepS.at : ∀ {δ : List (Option O)} {σ : List (Option V)} {F : List Addr} {i : Nat} {x : Option O}, RepS K Z H δ σ F → δ[i]? = some x →
    ∃ y Fi Fr, σ[i]? = some y ∧ F.Perm (Fi ++ Fr) ∧ RepX K Z H x y Fi ∧
      ∀ (Z' : Addr → Prop) (H' : Hp) (x' : Option O) (y' : Option V) (Fi' : List Addr), Keep Z Z' H H' → (∀ a ∈ Fr, ∀ u, H a = some u → H' a = some u) → RepX K Z' H' x' y' Fi' → ∃ F', RepS K Z' H' (δ.set i x') (σ.set i y') F' ∧ F'.Perm (Fi' ++ Fr)
  | [], σ, F, i, x, h, e => by simp at e
  | x0 :: δ, σ, F, 0, x, ⟨y, r, F1, F2, e, f, h1, h2⟩, ex => by
    have ex' : x0 = x := by simpa using ex
    subst ex'
    refine ⟨y, F1, F2, by rw [e]; rfl, by rw [f], h1, fun Z' H' x' y' Fi' k q h' => ⟨Fi' ++ F2, ?_, List.Perm.refl _⟩⟩
    rw [e]
    exact ⟨y', r, Fi', F2, rfl, rfl, h', RepS.keep k q h2⟩
  | x0 :: δ, σ, F, i + 1, x, ⟨y, r, F1, F2, e, f, h1, h2⟩, ex => by
    obtain ⟨y1, Fi, Fr, e1, p1, g1, g2⟩ := RepS.at (i := i) (x := x) h2 (by simpa using ex)
    refine ⟨y1, Fi, F1 ++ Fr, by rw [e]; simpa using e1, ?_, g1, fun Z' H' x' y' Fi' k q h' => ?_⟩
    · rw [f]
      exact (List.Perm.append_left F1 p1).trans (by
        rw [← List.append_assoc, ← List.append_assoc]
        exact List.Perm.append_right _ List.perm_append_comm)
    · obtain ⟨F', s1, s2⟩ := g2 Z' H' x' y' Fi' k (fun a ha => q a (List.mem_append_right _ ha)) h'
      refine ⟨F1 ++ F', ?_, ?_⟩
      · rw [e]
        exact ⟨y, _, F1, F', rfl, rfl, RepX.keep k (fun a ha => q a (List.mem_append_left _ ha)) h1, s1⟩
      · exact (List.Perm.append_left F1 s2).trans (by
          rw [← List.append_assoc, ← List.append_assoc]
          exact List.Perm.append_right _ List.perm_append_comm)
end
/-- the frame around: what a def's body leaves as it is -/
structure Gx where
  Z0 : Addr → Prop
  G : Hp
structure Wd (g : Gx) (Z : Addr → Prop) (H : Hp) (F : List Addr) : Prop where
  nd : F.Nodup
  own : ∀ a ∈ F, ¬ Z a ∧ g.G a = none
  z0 : ∀ a, g.Z0 a → Z a
  zh : ∀ a, Z a → (∃ o, H a = some o) ∧ (g.Z0 a ∨ g.G a = none)
  gh : ∀ a o, g.G a = some o → H a = some o
theorem Wd.perm {g : Gx} {Z : Addr → Prop} {H : Hp} {F F' : List Addr} (w : Wd g Z H F) (p : F.Perm F') : Wd g Z H F' :=
  ⟨p.nodup_iff.mp w.nd, fun a ha => w.own a (p.mem_iff.mpr ha), w.z0, w.zh, w.gh⟩
theorem Wd.sub {g : Gx} {Z : Addr → Prop} {H : Hp} {F F' : List Addr} (w : Wd g Z H F) (p : F'.Sublist F) : Wd g Z H F' :=
  ⟨w.nd.sublist p, fun a ha => w.own a (p.subset ha), w.z0, w.zh, w.gh⟩
abbrev DS := List (Option O)
/-- slots (δ beside σ) and temporaries (S beside T) -/
def StV (K : PySem.W.Frag) (g : Gx) (Z : Addr → Prop) (H : Hp) (δ : DS) (σ : St) (S : DS) (T : St) : Prop :=
  ∃ Fs Ft, RepS K Z H δ σ Fs ∧ RepS K Z H S T Ft ∧ Wd g Z H (Fs ++ Ft)
/-- a new value comes: the heap grows -/
def Res (K : PySem.W.Frag) (Z : Addr → Prop) (H : Hp) (o : O) (v : V) (H' : Hp) : Prop :=
  ∃ F, Same H H' ∧ RepO K Z H' o v F ∧ F.Nodup ∧ ∀ a ∈ F, H a = none
section
variable {K : PySem.W.Frag} {g : Gx} {Z Z' : Addr → Prop} {H H' : Hp} {δ S : DS} {σ T : St} {o : O} {v : V}
theorem Same.keep (s : Same H H') : Keep Z Z H H' := Keep.of (fun _ z => z) (fun a o _ q => s a o q) fun a xs q => s a _ q
theorem Keep.refl (Z : Addr → Prop) (H : Hp) : Keep Z Z H H := Keep.of (fun _ z => z) (fun _ _ _ h => h) fun _ _ h => h
theorem Keep.trans {Z Z' Z'' : Addr → Prop} {H H' H'' : Hp} (a : Keep Z Z' H H') (b : Keep Z' Z'' H' H'') : Keep Z Z'' H H'' := ⟨fun c z => b.z c (a.z c z), fun c o z h e => b.h c o (a.z c z) (a.h c o z h e) e, fun c u z h => b.dk c u (a.z c z) (a.dk c u z h), fun c u z h => b.dt c u (a.z c z) (a.dt c u z h), fun c xs h => b.t c xs (a.t c xs h)⟩
theorem StV.push (s : StV K g Z H δ σ S T) (r : Res K Z H o v H') : StV K g Z H' δ σ (some o :: S) (some v :: T) := by
  obtain ⟨Fs, Ft, h1, h2, w⟩ := s
  obtain ⟨F, sm, h3, nd, fr⟩ := r
  have k : Keep Z Z H H' := Same.keep sm
  have hd : ∀ a ∈ Fs ++ Ft, a ∉ F := fun a ha hf => by
    have q := fr a hf
    rcases List.mem_append.mp ha with ha | ha
    · obtain ⟨u, e⟩ := h1.dom a ha
      rw [q] at e; cases e
    · obtain ⟨u, e⟩ := h2.dom a ha
      rw [q] at e; cases e
  refine ⟨Fs, F ++ Ft, RepS.keep k (fun a _ u q => sm a u q) h1, ⟨some v, T, F, Ft, rfl, rfl, h3, RepS.keep k (fun a _ u q => sm a u q) h2⟩, ?_⟩
  have p : (F ++ (Fs ++ Ft)).Perm (Fs ++ (F ++ Ft)) := by
    rw [← List.append_assoc, ← List.append_assoc]
    exact List.Perm.append_right _ List.perm_append_comm
  refine Wd.perm ?_ p
  refine ⟨List.nodup_append.mpr ⟨nd, w.nd, fun a ha b hb e => hd b hb (e ▸ ha)⟩, fun a ha => ?_, w.z0, fun a z => ?_, fun a u q => sm a u (w.gh a u q)⟩
  · rcases List.mem_append.mp ha with ha | ha
    · refine ⟨fun z => ?_, ?_⟩
      · obtain ⟨u, e⟩ := (w.zh a z).1
        rw [fr a ha] at e; cases e
      · cases q : g.G a with
        | none => rfl
        | some u =>
          have e := w.gh a u q
          rw [fr a ha] at e; cases e
    · exact w.own a ha
  · obtain ⟨⟨u, e⟩, q⟩ := w.zh a z
    exact ⟨⟨u, sm a u e⟩, q⟩
theorem StV.pop {x : Option O} {y : Option V} (s : StV K g Z H δ σ (x :: S) (y :: T)) : StV K g Z H δ σ S T := by
  obtain ⟨Fs, Ft, h1, ⟨y', r, F1, F2, e, f, h3, h4⟩, w⟩ := s
  cases e
  refine ⟨Fs, F2, h1, h4, w.sub ?_⟩
  rw [f]
  exact List.Sublist.append (List.Sublist.refl _) (List.sublist_append_right _ _)
theorem StV.top (s : StV K g Z H δ σ (some o :: S) (some v :: T)) : ∃ F, RepO K Z H o v F := by
  obtain ⟨Fs, Ft, h1, ⟨y', r, F1, F2, e, f, h3, h4⟩, w⟩ := s
  cases e
  exact ⟨F1, h3⟩
theorem StV.slot {i : Nat} (s : StV K g Z H δ σ S T) (h : δ[i]? = some (some o)) : ∃ v F, σ[i]? = some (some v) ∧ RepO K Z H o v F := by
  obtain ⟨Fs, Ft, h1, _, w⟩ := s
  obtain ⟨y, Fi, Fr, e, p, q, _⟩ := h1.at h
  cases y with
  | none => exact (show False from q).elim
  | some v => exact ⟨v, Fi, e, q⟩
theorem StV.len (s : StV K g Z H δ σ S T) : δ.length = σ.length := by
  obtain ⟨Fs, Ft, h1, _, w⟩ := s
  exact h1.length
end
end VS
namespace VS
open PySem PySem.Spec L2
def ZF (Z : Addr → Prop) (F : List Addr) : Addr → Prop := fun a => Z a ∨ a ∈ F
section
variable {K : PySem.W.Frag} {g : Gx} {Z Z' : Addr → Prop} {H H' : Hp} {δ S : DS} {σ T : L2.St} {o : O} {v : V}
theorem Keep.zf (Z : Addr → Prop) (H : Hp) (F : List Addr) : Keep Z (ZF Z F) H H := Keep.of (fun _ z => .inl z) (fun _ _ _ h => h) fun _ _ h => h
theorem ZF.mono {Z : Addr → Prop} {H : Hp} {F F' : List Addr} (h : ∀ a ∈ F, a ∈ F') : Keep (ZF Z F) (ZF Z F') H H := Keep.of (fun _ z => z.imp id (h _)) (fun _ _ _ h => h) fun _ _ h => h
mutual
theorem RepO.frz : ∀ (o : O) (v : V) (F : List Addr), RepO K Z H o v F → RepD K (ZF Z F) H o.fz v
  | .sh d, v, F, h => by
    simp only [RepO] at h
    exact RepD.keep (Keep.zf Z H F) d v h.2
  | .lst ds, v, F, h => by
    simp only [RepO] at h
    obtain ⟨a, vs, e, f, h1, h2⟩ := h
    simp only [O.fz, RepD]
    exact ⟨a, vs, e, .inr (by rw [f]; exact List.mem_cons_self), h1, RepL.keep (Keep.zf Z H F) ds vs h2⟩
  | .dK ds, v, F, h => by
    simp only [RepO] at h
    obtain ⟨a, vs, e, f, h1, h2⟩ := h
    simp only [O.fz, RepD]
    exact ⟨a, vs, e, .inr (by rw [f]; exact List.mem_cons_self), .inl h1, RepK.keep (Keep.zf Z H F) ds vs h2⟩
  | .dT ds, v, F, h => by
    simp only [RepO] at h
    obtain ⟨a, vs, e, f, h1, h2⟩ := h
    simp only [O.fz, RepD]
    exact ⟨a, vs, e, .inr (by rw [f]; exact List.mem_cons_self), .inl h1, RepT.keep (Keep.zf Z H F) ds vs h2⟩
  | .dN ds, v, F, h => by
    simp only [RepO] at h
    obtain ⟨a, vs, e, f, h1, h2⟩ := h
    simp only [O.fz, RepD]
    exact ⟨a, vs, e, .inr (by rw [f]; exact List.mem_cons_self), h1, RepN.keep (Keep.zf Z H F) ds vs h2⟩
  | .dO fs, v, F, h => by
    simp only [RepO] at h
    obtain ⟨a, vs, G, e, f, h1, h2⟩ := h
    simp only [O.fz, RepD]
    exact ⟨a, vs, e, .inr (by rw [f]; exact List.mem_cons_self), .inl h1, RepK.keep (ZF.mono (fun b hb => by rw [f]; exact List.mem_cons_of_mem _ hb)) _ _ (RepOK.frz fs vs G h2)⟩
  | .obj c fs, v, F, h => by
    simp only [RepO] at h
    obtain ⟨a, dx, vs, G, e, f, h1, h2⟩ := h
    simp only [O.fz, RepD]
    exact ⟨a, dx, vs, e, .inr (by rw [f]; exact List.mem_cons_self), h1, RepF.keep (ZF.mono (fun b hb => by rw [f]; exact List.mem_cons_of_mem _ hb)) _ _ (RepOF.frz fs vs G h2)⟩
theorem RepOF.frz : ∀ (fs : List (Str × O)) (vs : List (Str × V)) (F : List Addr), RepOF K Z H fs vs F → RepF K (ZF Z F) H (O.fzF fs) vs
  | [], vs, F, h => by
    simp only [RepOF] at h
    simp only [O.fzF, RepF]
    exact h.1
  | (x, o) :: r, vs, F, h => by
    simp only [RepOF] at h
    obtain ⟨v, r', F1, F2, e, f, h1, h2⟩ := h
    simp only [O.fzF, RepF]
    exact ⟨v, r', e, RepD.keep (ZF.mono (fun b hb => by rw [f]; exact List.mem_append_left _ hb)) _ _ (RepO.frz o v F1 h1), RepF.keep (ZF.mono (fun b hb => by rw [f]; exact List.mem_append_right _ hb)) _ _ (RepOF.frz r r' F2 h2)⟩
theorem RepOK.frz : ∀ (fs : List (Key × O)) (vs : List (Key × V)) (F : List Addr), RepOK K Z H fs vs F → RepK K (ZF Z F) H (O.fzK fs) vs
  | [], vs, F, h => by
    simp only [RepOK] at h
    simp only [O.fzK, RepK]
    exact h.1
  | (x, o) :: r, vs, F, h => by
    simp only [RepOK] at h
    obtain ⟨v, r', F1, F2, e, f, h1, h2⟩ := h
    simp only [O.fzK, RepK]
    exact ⟨v, r', e, RepD.keep (ZF.mono (fun b hb => by rw [f]; exact List.mem_append_left _ hb)) _ _ (RepO.frz o v F1 h1), RepK.keep (ZF.mono (fun b hb => by rw [f]; exact List.mem_append_right _ hb)) _ _ (RepOK.frz r r' F2 h2)⟩
end
theorem Wd.frz {F F1 F2 : List Addr} (w : Wd g Z H F) (p : F.Perm (F1 ++ F2)) (hd : ∀ a ∈ F1, ∃ u, H a = some u) : Wd g (ZF Z F1) H F2 := by
  have w' := w.perm p
  have nd := List.nodup_append.mp w'.nd
  refine ⟨nd.2.1, fun a ha => ⟨fun z => ?_, (w'.own a (List.mem_append_right _ ha)).2⟩, fun a z => .inl (w.z0 a z), fun a z => ?_, w.gh⟩
  · rcases z with z | z
    · exact (w'.own a (List.mem_append_right _ ha)).1 z
    · exact nd.2.2 a z a ha rfl
  · rcases z with z | z
    · exact w.zh a z
    · exact ⟨hd a z, .inr (w'.own a (List.mem_append_left _ z)).2⟩
/-- a temporary is frozen -/
theorem StV.frzT (s : StV K g Z H δ σ (some o :: S) (some v :: T)) : ∃ Z', StV K g Z' H δ σ (some (.sh o.fz) :: S) (some v :: T) ∧ RepD K Z' H o.fz v := by
  obtain ⟨Fs, Ft, h1, ⟨y', r, F1, F2, e, f, h3, h4⟩, w⟩ := s
  cases e
  have h3' : RepO K Z H o v F1 := h3
  have q := RepO.frz o v F1 h3'
  have p : (Fs ++ Ft).Perm (F1 ++ (Fs ++ F2)) := by
    rw [f, ← List.append_assoc, ← List.append_assoc]
    exact List.Perm.append_right _ List.perm_append_comm
  have q2 : RepO K (ZF Z F1) H (.sh o.fz) v [] := by
    simp only [RepO]
    exact ⟨trivial, q⟩
  exact ⟨ZF Z F1, ⟨Fs, F2, RepS.keep (Keep.zf Z H F1) (fun _ _ _ h => h) h1, ⟨some v, T, [], F2, rfl, rfl, q2, RepS.keep (Keep.zf Z H F1) (fun _ _ _ h => h) h4⟩, w.frz p (RepO.dom o v F1 h3')⟩, q⟩
/-- a slot is frozen, and read -/
theorem StV.frzS {i : Nat} (s : StV K g Z H δ σ S T) (h : δ[i]? = some (some o)) : ∃ v Z', σ[i]? = some (some v) ∧ StV K g Z' H (δ.set i (some (.sh o.fz))) σ (some (.sh o.fz) :: S) (some v :: T) ∧ Keep Z Z' H H := by
  obtain ⟨Fs, Ft, h1, h2, w⟩ := s
  obtain ⟨y, Fi, Fr, e, p, q, put⟩ := h1.at h
  cases y with
  | none => exact (show False from q).elim
  | some v =>
    have q1 : RepO K Z H o v Fi := q
    have qd := RepO.frz o v Fi q1
    have q2 : RepO K (ZF Z Fi) H (.sh o.fz) v [] := by
      simp only [RepO]
      exact ⟨trivial, qd⟩
    obtain ⟨F', s1, s2⟩ := put (ZF Z Fi) H (some (.sh o.fz)) (some v) [] (Keep.zf Z H Fi) (fun _ _ _ h => h) q2
    have es : σ.set i (some v) = σ := by
      refine List.ext_getElem? fun j => ?_
      by_cases hj : i = j
      · subst hj
        rw [e]
        have hl : i < σ.length := (List.getElem?_eq_some_iff.mp e).1
        rw [List.getElem?_set_self hl]
      · rw [List.getElem?_set_ne hj]
    rw [es] at s1
    have p2 : (Fs ++ Ft).Perm (Fi ++ (Fr ++ Ft)) := by
      rw [← List.append_assoc]
      exact List.Perm.append_right _ p
    have w2 := w.frz p2 (RepO.dom o v Fi q1)
    refine ⟨v, ZF Z Fi, e, ⟨F', Ft, s1, ⟨some v, T, [], Ft, rfl, rfl, q2, RepS.keep (Keep.zf Z H Fi) (fun _ _ _ h => h) h2⟩, w2.perm ?_⟩, Keep.zf Z H Fi⟩
    exact List.Perm.append_right _ s2.symm
theorem RepS.append : ∀ {A : DS} {B : DS} {C D : L2.St} {F : List Addr}, A.length = C.length → RepS K Z H (A ++ B) (C ++ D) F → ∃ F1 F2, F = F1 ++ F2 ∧ RepS K Z H A C F1 ∧ RepS K Z H B D F2
  | [], B, [], D, F, _, h => ⟨[], F, rfl, ⟨rfl, rfl⟩, h⟩
  | x :: A, B, [], D, F, l, h => by simp at l
  | [], B, c :: C, D, F, l, h => by simp at l
  | x :: A, B, c :: C, D, F, l, ⟨y, r, F1, F2, e, f, h1, h2⟩ => by
    have e' : c :: (C ++ D) = y :: r := e
    injection e' with e1 e2
    subst e1 e2
    obtain ⟨G1, G2, g1, g2, g3⟩ := RepS.append (A := A) (C := C) (by simpa using l) h2
    exact ⟨F1 ++ G1, G2, by rw [f, g1, List.append_assoc], ⟨c, C, F1, G1, rfl, rfl, h1, g2⟩, g3⟩
theorem RepS.snoc : ∀ {A : DS} {C : L2.St} {x : Option O} {y : Option V} {F1 F2 : List Addr}, RepS K Z H A C F1 → RepX K Z H x y F2 → RepS K Z H (A ++ [x]) (C ++ [y]) (F1 ++ F2)
  | [], C, x, y, F1, F2, h, q => by
    obtain ⟨h1, h2⟩ : C = [] ∧ F1 = [] := h
    subst h1 h2
    exact ⟨y, [], F2, [], rfl, by simp, q, rfl, rfl⟩
  | z :: A, C, x, y, F1, F2, ⟨y', r, G1, G2, e, f, h1, h2⟩, q => by
    subst e f
    exact ⟨y', r ++ [y], G1, G2 ++ F2, rfl, by rw [List.append_assoc], h1, RepS.snoc h2 q⟩
theorem RepS.reverse : ∀ {A : DS} {C : L2.St} {F : List Addr}, RepS K Z H A C F → ∃ F', RepS K Z H A.reverse C.reverse F' ∧ F'.Perm F
  | [], C, F, h => by
    obtain ⟨h1, h2⟩ : C = [] ∧ F = [] := h
    subst h1 h2
    exact ⟨[], ⟨rfl, rfl⟩, List.Perm.refl _⟩
  | x :: A, C, F, ⟨y, r, F1, F2, e, f, h1, h2⟩ => by
    subst e f
    obtain ⟨F', q1, q2⟩ := RepS.reverse h2
    refine ⟨F' ++ F1, ?_, ?_⟩
    · rw [List.reverse_cons, List.reverse_cons]
      exact RepS.snoc q1 h1
    · exact (List.Perm.append_right _ q2).trans List.perm_append_comm
theorem RepS.frz : ∀ {os : List O} {vs : List V} {F : List Addr}, RepS K Z H (os.map some) (vs.map some) F → RepL K (ZF Z F) H (os.map O.fz) vs
  | [], vs, F, h => by
    have e : vs.map some = [] := h.1
    simp only [List.map_nil, RepL]
    simpa using e
  | o :: os, vs, F, ⟨y, r, F1, F2, e, f, h1, h2⟩ => by
    cases vs with
    | nil => simp at e
    | cons v vs =>
      rw [List.map_cons] at e
      injection e with e1 e2
      subst e1 e2
      have q1 : RepO K Z H o v F1 := h1
      simp only [List.map_cons, RepL]
      refine ⟨v, vs, rfl, RepD.keep (ZF.mono fun a ha => by rw [f]; exact List.mem_append_left _ ha) _ _ (RepO.frz o v F1 q1), RepL.keep (ZF.mono fun a ha => by rw [f]; exact List.mem_append_right _ ha) _ _ (RepS.frz h2)⟩
/-- several temporaries, the last on top, are frozen and taken off -/
theorem StV.frzL {os : List O} {vs : List V} (hl : os.length = vs.length) (s : StV K g Z H δ σ ((os.map some).reverse ++ S) ((vs.map some).reverse ++ T)) : ∃ Z', StV K g Z' H δ σ S T ∧ RepL K Z' H (os.map O.fz) vs := by
  obtain ⟨Fs, Ft, h1, h2, w⟩ := s
  obtain ⟨F1, F2, f, a1, a2⟩ := RepS.append (by simp [hl]) h2
  obtain ⟨F', b1, b2⟩ := a1.reverse
  rw [List.reverse_reverse, List.reverse_reverse] at b1
  have q := RepS.frz b1
  have p : (Fs ++ Ft).Perm (F' ++ (Fs ++ F2)) := by
    rw [f, ← List.append_assoc, ← List.append_assoc]
    exact List.Perm.append_right _ ((List.perm_append_comm).trans (List.Perm.append_right _ b2.symm))
  exact ⟨ZF Z F', ⟨Fs, F2, RepS.keep (Keep.zf Z H F') (fun _ _ _ h => h) h1, RepS.keep (Keep.zf Z H F') (fun _ _ _ h => h) a2, w.frz p b1.dom⟩, q⟩
/-- a place is forgotten -/
theorem StV.forget {i : Nat} (s : StV K g Z H δ σ S T) (y : Option V) : StV K g Z H (δ.set i none) (σ.set i y) S T := by
  obtain ⟨Fs, Ft, h1, h2, w⟩ := s
  cases hi : δ[i]? with
  | none =>
    have hl : δ.length ≤ i := List.getElem?_eq_none_iff.mp hi
    rw [List.set_eq_of_length_le hl, List.set_eq_of_length_le (by rw [← h1.length]; exact hl)]
    exact ⟨Fs, Ft, h1, h2, w⟩
  | some x0 =>
    obtain ⟨y0, Fi, Fr, e, p, q, put⟩ := h1.at hi
    obtain ⟨F', s1, s2⟩ := put Z H none y [] (Keep.refl Z H) (fun _ _ _ h => h) rfl
    refine ⟨F', Ft, s1, h2, ?_⟩
    have p2 : (Fs ++ Ft).Perm (Fi ++ (F' ++ Ft)) := by
      refine (List.Perm.append_right _ p).trans ?_
      rw [List.append_assoc]
      exact List.Perm.append_left _ (List.Perm.append_right _ s2.symm)
    exact (w.perm p2).sub (List.sublist_append_right _ _)
/-- the object at a slot is changed where it stands -/
theorem StV.mut {i : Nat} {o' : O} (s : StV K g Z H δ σ S T) (h : δ[i]? = some (some o)) (hv : σ[i]? = some (some v))
    (m : ∀ F, RepO K Z H o v F → F.Nodup → (∀ a ∈ F, ¬ Z a) → (∀ b, b ∉ F → H' b = H b) ∧ (∀ b, (∃ u, H b = some u) → ∃ u, H' b = some u) ∧ (∀ b xs, H b = some (.tup xs) → H' b = some (.tup xs)) ∧ (Keep Z Z H H' → RepO K Z H' o' v F)) :
    StV K g Z H' (δ.set i (some o')) σ S T ∧ Keep Z Z H H' := by
  obtain ⟨Fs, Ft, h1, h2, w⟩ := s
  obtain ⟨y, Fi, Fr, e, p, q, put⟩ := h1.at h
  rw [hv] at e
  cases e
  have q1 : RepO K Z H o v Fi := q
  have p2 : (Fs ++ Ft).Perm (Fi ++ (Fr ++ Ft)) := by
    rw [← List.append_assoc]
    exact List.Perm.append_right _ p
  have w2 := w.perm p2
  have nd := List.nodup_append.mp w2.nd
  obtain ⟨m1, m2, m3, m4⟩ := m Fi q1 nd.1 fun a ha => (w2.own a (List.mem_append_left _ ha)).1
  have kp : Keep Z Z H H' := Keep.of (fun _ z => z) (fun a u z e => by
    rw [m1 a fun hf => (w2.own a (List.mem_append_left _ hf)).1 z]
    exact e) m3
  have other : ∀ a ∈ Fr ++ Ft, ∀ u, H a = some u → H' a = some u := fun a ha u e => by
    rw [m1 a fun hf => nd.2.2 a hf a ha rfl]
    exact e
  obtain ⟨F', s1, s2⟩ := put Z H' (some o') (some v) Fi kp (fun a ha => other a (List.mem_append_left _ ha)) (m4 kp)
  have es : σ.set i (some v) = σ := by
    refine List.ext_getElem? fun j => ?_
    by_cases hj : i = j
    · subst hj
      rw [hv]
      have hl : i < σ.length := (List.getElem?_eq_some_iff.mp hv).1
      rw [List.getElem?_set_self hl]
    · rw [List.getElem?_set_ne hj]
  rw [es] at s1
  refine ⟨⟨F', Ft, s1, RepS.keep kp (fun a ha => other a (List.mem_append_right _ ha)) h2, ?_⟩, kp⟩
  have w3 : Wd g Z H (F' ++ Ft) := w2.perm (by
    rw [← List.append_assoc]
    exact List.Perm.append_right _ s2.symm)
  exact ⟨w3.nd, w3.own, w3.z0, fun a z => ⟨m2 a (w3.zh a z).1, (w3.zh a z).2⟩, fun a u e => by
    rw [m1 a fun hf => by
      have := (w2.own a (List.mem_append_left _ hf)).2
      rw [this] at e
      cases e]
    exact w3.gh a u e⟩
end
end VS
namespace VS
open PySem PySem.Spec L2
inductive Ev where
  | val (o : O) | at (i : Nat)
def Ev.tmp : Ev → Option O
  | .val o => some o
  | .at _ => none
def Al (σ : L2.St) : Ev → V → Prop
  | .val _, _ => True
  | .at i, v => σ[i]? = some (some v)
def look (δ : DS) : Ev → Option O
  | .val o => some o
  | .at i => (δ[i]?).join
def rdv (δ : DS) (e : Ev) : Option D := (look δ e).map O.fz
def tk (δ : DS) : Ev → Option (O × DS)
  | .val o => some (o, δ)
  | .at i => match (δ[i]?).join with
    | some o => some (.sh o.fz, δ.set i (some (.sh o.fz)))
    | none => none
abbrev XF := DS → Option (Ev × DS)
section
variable (K : PySem.W.Frag)
def PostE (g : Gx) (σ : L2.St) (S : DS) (T : L2.St) (Q : VK) (r : Ev × DS) : Prop := ∀ v Z H, StV K g Z H r.2 σ (r.1.tmp :: S) (some v :: T) → Al σ r.1 v → Q v H
def rdE (f : XF) : TE := fun σ H Q => ∃ g Z δ S T r, StV K g Z H δ σ S T ∧ f δ = some r ∧ PostE K g σ S T Q r
def rdT (f : DS → Option (Bool × DS)) : TT := fun σ H Q => ∃ g Z δ S T r, StV K g Z H δ σ S T ∧ f δ = some r ∧ ∀ Z' H', StV K g Z' H' r.2 σ S T → Q r.1 H'
def tmps (es : List Ev) : DS := (es.map Ev.tmp).reverse
def vtmps (vs : List V) : L2.St := (vs.map some).reverse
def Als (σ : L2.St) : List Ev → List V → Prop
  | [], vs => vs = []
  | e :: es, vs => ∃ v r, vs = v :: r ∧ Al σ e v ∧ Als σ es r
/-- arguments, evaluated; nothing is taken -/
def rdA (f : DS → Option (List Ev × DS)) : TA := fun σ H Q => ∃ g Z δ S T r, StV K g Z H δ σ S T ∧ f δ = some r ∧
  ∀ vs Z' H', StV K g Z' H' r.2 σ (tmps r.1 ++ S) (vtmps vs ++ T) → Als σ r.1 vs → Q vs H'
end
section
variable {X : Cx} {e a b : Expr} {t t' : TE}
theorem PEi (h : PE X e t) (k : ∀ σ H Q, t' σ H Q → t σ H Q) : PE X e t' := ⟨fun pins s σ H Q I q => h.run pins s σ H Q I (k σ H Q q)⟩
theorem PTi {t t' : TT} (h : PT X e t) (k : ∀ σ H Q, t' σ H Q → t σ H Q) : PT X e t' := ⟨fun pins s σ H Q I q => h.run pins s σ H Q I (k σ H Q q)⟩
theorem PWi {t t' : TT} (h : PW X e t) (k : ∀ σ H Q, t' σ H Q → t σ H Q) : PW X e t' := ⟨fun w pins s σ H Q I q => h.run w pins s σ H Q I (k σ H Q q)⟩
theorem PAi {es : List Expr} {t t' : TA} (h : PA X es t) (k : ∀ σ H Q, t' σ H Q → t σ H Q) : PA X es t' := ⟨fun p pins s σ H Q I q => h.run p pins s σ H Q I (k σ H Q q)⟩
end
/-- the root may be one's own, what hangs at it is shared -/
def Lk (K : PySem.W.Frag) (Z : Addr → Prop) (H : Hp) : D → V → Prop
  | .lst ds, v => ∃ a vs, v = .ref a ∧ H a = some (.lst vs) ∧ RepL K Z H ds vs
  | .dK ds, v => ∃ a vs, v = .ref a ∧ L2.Rd H a (.dK vs) ∧ RepK K Z H ds vs
  | .dT ds, v => ∃ a vs, v = .ref a ∧ L2.Rd H a (.dT vs) ∧ RepT K Z H ds vs
  | .dN ds, v => ∃ a vs, v = .ref a ∧ H a = some (nd a vs) ∧ RepN K Z H ds vs
  | .dO ds, v => ∃ a vs, v = .ref a ∧ L2.Rd H a (.dK vs)
  | .obj c fs, v => ∃ a dx vs, v = .ref a ∧ H a = some (.ins (He.ga K c) dx vs)
  | d, v => RepD K Z H d v
section
variable {K : PySem.W.Frag} {g : Gx} {Z Z' : Addr → Prop} {H H' : Hp} {δ S : DS} {σ T : L2.St} {o : O} {v : V}
theorem RepD.lk : ∀ {d : D}, RepD K Z H d v → Lk K Z H d v
  | .lst ds, h => by
    simp only [RepD] at h
    obtain ⟨a, vs, e, z, h1, h2⟩ := h
    exact ⟨a, vs, e, h1, h2⟩
  | .dK ds, h => by
    simp only [RepD] at h
    obtain ⟨a, vs, e, z, h1, h2⟩ := h
    exact ⟨a, vs, e, h1, h2⟩
  | .dT ds, h => by
    simp only [RepD] at h
    obtain ⟨a, vs, e, z, h1, h2⟩ := h
    exact ⟨a, vs, e, h1, h2⟩
  | .dN ds, h => by
    simp only [RepD] at h
    obtain ⟨a, vs, e, z, h1, h2⟩ := h
    exact ⟨a, vs, e, h1, h2⟩
  | .dO ds, h => by
    simp only [RepD] at h
    obtain ⟨a, vs, e, z, h1, h2⟩ := h
    exact ⟨a, vs, e, h1⟩
  | .obj c fs, h => by
    simp only [RepD] at h
    obtain ⟨a, dx, vs, e, z, h1, h2⟩ := h
    exact ⟨a, dx, vs, e, h1⟩
  | .non, h => h
  | .bl _, h => h
  | .int _, h => h
  | .str _, h => h
  | .tup _, h => h
  | .scr _, h => h
theorem RepO.lk : ∀ {o : O} {F : List Addr}, RepO K Z H o v F → Lk K Z H o.fz v
  | .sh d, F, h => by
    simp only [RepO] at h
    exact h.2.lk
  | .lst ds, F, h => by
    simp only [RepO] at h
    obtain ⟨a, vs, e, f, h1, h2⟩ := h
    exact ⟨a, vs, e, h1, h2⟩
  | .dK ds, F, h => by
    simp only [RepO] at h
    obtain ⟨a, vs, e, f, h1, h2⟩ := h
    exact ⟨a, vs, e, .inl h1, h2⟩
  | .dT ds, F, h => by
    simp only [RepO] at h
    obtain ⟨a, vs, e, f, h1, h2⟩ := h
    exact ⟨a, vs, e, .inl h1, h2⟩
  | .obj c fs, F, h => by
    simp only [RepO] at h
    obtain ⟨a, dx, vs, G, e, f, h1, h2⟩ := h
    exact ⟨a, dx, vs, e, h1⟩
  | .dN ds, F, h => by
    simp only [RepO] at h
    obtain ⟨a, vs, e, f, h1, h2⟩ := h
    exact ⟨a, vs, e, h1, h2⟩
  | .dO ds, F, h => by
    simp only [RepO] at h
    obtain ⟨a, vs, G, e, f, h1, h2⟩ := h
    exact ⟨a, vs, e, .inl h1⟩
/-- the value on top, looked at -/
theorem StV.look {e : Ev} {o : O} (s : StV K g Z H δ σ (e.tmp :: S) (some v :: T)) (al : Al σ e v) (h : look δ e = some o) : ∃ F, RepO K Z H o v F := by
  cases e with
  | val o' =>
    have e1 : o' = o := Option.some.inj h
    subst e1
    exact s.top
  | «at» i =>
    have h' : (δ[i]?).join = some o := h
    have hi : δ[i]? = some (some o) := by
      cases q : δ[i]? with
      | none => rw [q] at h'; cases h'
      | some x =>
        rw [q] at h'
        have : x = some o := h'
        rw [this]
    obtain ⟨v', F, e1, r⟩ := s.slot hi
    have al' : σ[i]? = some (some v) := al
    rw [al'] at e1
    cases e1
    exact ⟨F, r⟩
theorem StV.lk {e : Ev} {d : D} (s : StV K g Z H δ σ (e.tmp :: S) (some v :: T)) (al : Al σ e v) (h : rdv δ e = some d) : Lk K Z H d v := by
  unfold rdv at h
  cases q : VS.look δ e with
  | none => rw [q] at h; cases h
  | some o =>
    rw [q] at h
    have e1 : o.fz = d := Option.some.inj h
    rw [← e1]
    obtain ⟨F, r⟩ := s.look al q
    exact r.lk
/-- the value on top is taken -/
theorem StV.tk {e : Ev} {o : O} {δ' : DS} (s : StV K g Z H δ σ (e.tmp :: S) (some v :: T)) (al : Al σ e v) (h : tk δ e = some (o, δ')) : ∃ Z', StV K g Z' H δ' σ (some o :: S) (some v :: T) ∧ Keep Z Z' H H := by
  cases e with
  | val o' =>
    have e1 : (o', δ) = (o, δ') := Option.some.inj h
    cases e1
    exact ⟨Z, s, Keep.refl Z H⟩
  | «at» i =>
    unfold VS.tk at h
    cases q : δ[i]? with
    | none => simp [q] at h
    | some x =>
      cases x with
      | none => simp [q] at h
      | some o1 =>
        simp only [q, Option.join_some, Option.some.injEq, Prod.mk.injEq] at h
        obtain ⟨h1, h2⟩ := h
        obtain ⟨v', Z', e1, s', k⟩ := s.pop.frzS q
        have al' : σ[i]? = some (some v) := al
        rw [al'] at e1
        cases e1
        rw [← h1, ← h2]
        exact ⟨Z', s', k⟩
/-- .. as data -/
theorem StV.tkD {e : Ev} {o : O} {δ' : DS} (s : StV K g Z H δ σ (e.tmp :: S) (some v :: T)) (al : Al σ e v) (h : VS.tk δ e = some (o, δ')) : ∃ Z', StV K g Z' H δ' σ (some (.sh o.fz) :: S) (some v :: T) ∧ RepD K Z' H o.fz v := by
  obtain ⟨Z1, s1, _⟩ := s.tk al h
  exact s1.frzT
theorem StV.drop2 {x y : Option O} {p q : Option V} (s : StV K g Z H δ σ (x :: y :: S) (p :: q :: T)) : StV K g Z H δ σ S T := s.pop.pop
end
def O1 (K : PySem.W.Frag) (f2 : D → D → Option O) : R2 := fun x y H Q => ∃ Z d1 d2 o, Lk K Z H d1 x ∧ Lk K Z H d2 y ∧ f2 d1 d2 = some o ∧ ∀ v H', Res K Z H o v H' → Q v H'
/-- an operation keeps to f2 -/
def OpV (X : Cx) (f : Value → Value → Sem Value) (f2 : D → D → Option O) : Prop := OpR X f (O1 X.K f2)
theorem Res.sc {K : PySem.W.Frag} {Z : Addr → Prop} {H : Hp} {d : D} {v : V} (h : RepD K Z H d v) : Res K Z H (.sh d) v H := ⟨[], Same.refl H, by simp only [RepO]; exact ⟨trivial, h⟩, List.nodup_nil, fun a ha => absurd ha (by simp)⟩
theorem Res.int {K : PySem.W.Frag} {Z : Addr → Prop} {H : Hp} {i : Int} : Res K Z H (.sh (.int i)) (.int i) H := Res.sc (by simp only [RepD])
theorem Res.bl {K : PySem.W.Frag} {Z : Addr → Prop} {H : Hp} {i : Bool} : Res K Z H (.sh (.bl i)) (.bl i) H := Res.sc (by simp only [RepD])
theorem Res.str {K : PySem.W.Frag} {Z : Addr → Prop} {H : Hp} {i : Str} : Res K Z H (.sh (.str i)) (.str i) H := Res.sc (by simp only [RepD])
theorem Res.non {K : PySem.W.Frag} {Z : Addr → Prop} {H : Hp} : Res K Z H (.sh .non) .non H := Res.sc (by simp only [RepD])
theorem Same.upd {H : Hp} {p : Addr} {o : HO} (h : H p = none) : Same H (L2.upd H p o) := fun a u e => by rw [upd_ne (ne_of_none e h)]; exact e
theorem Res.lst {K : PySem.W.Frag} {Z : Addr → Prop} {H : Hp} {p : Addr} {ds : List D} {vs : List V} (h : H p = none) (r : RepL K Z H ds vs) : Res K Z H (.lst ds) (.ref p) (L2.upd H p (.lst vs)) := by
  have s := Same.upd (o := .lst vs) h
  refine ⟨[p], s, ?_, by simp, fun a ha => ?_⟩
  · simp only [RepO]
    exact ⟨p, vs, rfl, rfl, upd_same, RepL.keep (Same.keep s) ds vs r⟩
  · have e : a = p := by simpa using ha
    rw [e]; exact h
theorem Res.tup {K : PySem.W.Frag} {Z : Addr → Prop} {H : Hp} {p : Addr} {ds : List D} {vs : List V} (h : H p = none) (r : RepL K Z H ds vs) : Res K Z H (.sh (.tup ds)) (.ref p) (L2.upd H p (.tup vs)) := by
  have s := Same.upd (o := .tup vs) h
  refine ⟨[], s, ?_, by simp, fun a ha => absurd ha (by simp)⟩
  simp only [RepO, RepD]
  exact ⟨trivial, p, vs, rfl, upd_same, RepL.keep (Same.keep s) ds vs r⟩
theorem Res.dK {K : PySem.W.Frag} {Z : Addr → Prop} {H : Hp} {p : Addr} {ds : List (Key × D)} {vs : List (Key × V)} (h : H p = none) (r : RepK K Z H ds vs) : Res K Z H (.dK ds) (.ref p) (L2.upd H p (.dK vs)) := by
  have s := Same.upd (o := .dK vs) h
  refine ⟨[p], s, ?_, by simp, fun a ha => ?_⟩
  · simp only [RepO]
    exact ⟨p, vs, rfl, rfl, upd_same, RepK.keep (Same.keep s) ds vs r⟩
  · have e : a = p := by simpa using ha
    rw [e]; exact h
section
variable {K : PySem.W.Frag} {Z : Addr → Prop} {H : Hp} {v : V}
theorem Lk.int {i : Int} (h : Lk K Z H (.int i) v) : v = .int i := by simpa only [Lk, RepD] using h
theorem Lk.bl {i : Bool} (h : Lk K Z H (.bl i) v) : v = .bl i := by simpa only [Lk, RepD] using h
theorem Lk.str {i : Str} (h : Lk K Z H (.str i) v) : v = .str i := by simpa only [Lk, RepD] using h
theorem Lk.non (h : Lk K Z H .non v) : v = .non := by simpa only [Lk, RepD] using h
theorem Lk.tup {ds : List D} (h : Lk K Z H (.tup ds) v) : ∃ a vs, v = .ref a ∧ H a = some (.tup vs) ∧ RepL K Z H ds vs := by simpa only [Lk, RepD] using h
theorem Lk.lst {ds : List D} (h : Lk K Z H (.lst ds) v) : ∃ a vs, v = .ref a ∧ H a = some (.lst vs) ∧ RepL K Z H ds vs := h
theorem RepL.length : ∀ {ds : List D} {vs : List V}, RepL K Z H ds vs → ds.length = vs.length
  | [], vs, h => by
    simp only [RepL] at h
    rw [h]
    all_goals rfl
  | d :: ds, vs, h => by
    simp only [RepL] at h
    obtain ⟨v, r, e, _, h2⟩ := h
    rw [e, List.length_cons, List.length_cons, RepL.length h2]
theorem RepL.append : ∀ {ds es : List D} {vs ws : List V}, RepL K Z H ds vs → RepL K Z H es ws → RepL K Z H (ds ++ es) (vs ++ ws)
  | [], es, vs, ws, h, q => by
    simp only [RepL] at h
    subst h
    exact q
  | d :: ds, es, vs, ws, h, q => by
    simp only [RepL] at h
    obtain ⟨v, r, e, h1, h2⟩ := h
    subst e
    simp only [List.cons_append, RepL]
    exact ⟨v, r ++ ws, rfl, h1, RepL.append h2 q⟩
theorem RepL.get : ∀ {ds : List D} {vs : List V} {i : Nat} {d : D}, RepL K Z H ds vs → ds[i]? = some d → ∃ v, vs[i]? = some v ∧ RepD K Z H d v
  | [], vs, i, d, h, e => by simp at e
  | d0 :: ds, vs, 0, d, h, e => by
    simp only [RepL] at h
    obtain ⟨v, r, e1, h1, h2⟩ := h
    have : d0 = d := by simpa using e
    subst this e1
    exact ⟨v, rfl, h1⟩
  | d0 :: ds, vs, i + 1, d, h, e => by
    simp only [RepL] at h
    obtain ⟨v, r, e1, h1, h2⟩ := h
    subst e1
    obtain ⟨w, q1, q2⟩ := RepL.get (i := i) (d := d) h2 (by simpa using e)
    exact ⟨w, by simpa using q1, q2⟩
theorem RepL.nil_iff {ds : List D} {vs : List V} (h : RepL K Z H ds vs) : vs = [] ↔ ds = [] := by
  have e := h.length
  constructor
  · intro z; rw [z] at e; exact List.eq_nil_of_length_eq_zero e
  · intro z; rw [z] at e; exact List.eq_nil_of_length_eq_zero e.symm
theorem RepL.take {n : Nat} : ∀ {ds : List D} {vs : List V}, RepL K Z H ds vs → RepL K Z H (ds.take n) (vs.take n) := by
  induction n with
  | zero => intro ds vs h; simp only [List.take_zero, RepL]
  | succ n ih =>
    intro ds vs h
    cases ds with
    | nil =>
      simp only [RepL] at h
      subst h
      simp only [List.take_nil, RepL]
    | cons d ds =>
      simp only [RepL] at h
      obtain ⟨v, r, e, h1, h2⟩ := h
      subst e
      simp only [List.take_succ_cons, RepL]
      exact ⟨v, r.take n, rfl, h1, ih h2⟩
theorem RepL.drop {n : Nat} : ∀ {ds : List D} {vs : List V}, RepL K Z H ds vs → RepL K Z H (ds.drop n) (vs.drop n) := by
  induction n with
  | zero => intro ds vs h; simpa using h
  | succ n ih =>
    intro ds vs h
    cases ds with
    | nil =>
      simp only [RepL] at h
      subst h
      simp only [List.drop_nil, RepL]
    | cons d ds =>
      simp only [RepL] at h
      obtain ⟨v, r, e, h1, h2⟩ := h
      subst e
      simpa using ih h2
theorem RepL.reverse : ∀ {ds : List D} {vs : List V}, RepL K Z H ds vs → RepL K Z H ds.reverse vs.reverse
  | [], vs, h => by
    simp only [RepL] at h
    subst h
    simp only [List.reverse_nil, RepL]
  | d :: ds, vs, h => by
    simp only [RepL] at h
    obtain ⟨v, r, e, h1, h2⟩ := h
    subst e
    rw [List.reverse_cons, List.reverse_cons]
    refine RepL.append (RepL.reverse h2) ?_
    simp only [RepL]
    exact ⟨v, [], rfl, h1, rfl⟩
end
end VS
namespace VS
open PySem PySem.Spec L2
def mulOk (i j : Int) : Bool := (decide (-(2 ^ 64) < i) && decide (i < 2 ^ 64)) || (decide (-(2 ^ 64) < j) && decide (j < 2 ^ 64)) || decide (i.natAbs.log2 + j.natAbs.log2 < 1000000)
def divOk (j : Int) : Bool := decide (0 < j) && decide (j.natAbs.log2 < 9000)
def opAdd : D → D → Option O
  | .int i, .int j => some (.sh (.int (i + j)))
  | .str i, .str j => if i.length + j.length ≤ sizeLine then some (.sh (.str (i ++ j))) else none
  | .tup a, .tup b => if a.length + b.length ≤ sizeLine then some (.sh (.tup (a ++ b))) else none
  | .lst a, .lst b => if a.length + b.length ≤ sizeLine then some (.lst (a ++ b)) else none
  | _, _ => none
def opSub : D → D → Option O
  | .int i, .int j => some (.sh (.int (i - j)))
  | _, _ => none
def opMul : D → D → Option O
  | .int i, .int j => if mulOk i j then some (.sh (.int (i * j))) else none
  | .lst a, .int k => if decide (-(2 ^ 63) ≤ k) && decide (k < 2 ^ 63) && decide (a.length * k.toNat ≤ sizeLine) then some (.lst (List.replicate k.toNat a).flatten) else none
  | _, _ => none
def opDiv : D → D → Option O
  | .int i, .int j => if divOk j then some (.sh (.int (i / j))) else none
  | _, _ => none
def opMod : D → D → Option O
  | .int i, .int j => if 0 < j then some (.sh (.int (i % j))) else none
  | _, _ => none
def opPow : D → D → Option O
  | .int i, .int j => if decide (0 ≤ j) && decide (j ≤ 1000000) && decide (i.natAbs < 2 ^ 64) then some (.sh (.int (i ^ j.toNat))) else none
  | _, _ => none
section
variable {X : Cx}
theorem ov_add : OpV X (binaryOp .Add) opAdd := by
  intro pins s σ H x y v u Q I rx ry ⟨Z, d1, d2, o, l1, l2, h, q⟩
  cases d1 <;> cases d2 <;> simp only [opAdd, reduceCtorEq] at h
  · rename_i i j
    cases l1.int; cases l2.int; cases h
    exact op_add pins s σ H _ _ v u Q I rx ry ⟨i, j, rfl, rfl, q _ _ Res.int⟩
  · rename_i i j
    split at h
    · cases l1.str; cases l2.str; cases h
      exact op_add_str pins s σ H _ _ v u Q I rx ry ⟨i, j, rfl, rfl, by assumption, q _ _ Res.str⟩
    · cases h
  · rename_i as bs
    split at h
    · rename_i hz
      obtain ⟨a, vs, rfl, ha, ra⟩ := l1.tup
      obtain ⟨b, ws, rfl, hb, rb⟩ := l2.tup
      cases h
      refine op_catA pins s σ H _ _ v u Q I rx ry ⟨a, b, vs, ws, rfl, rfl, SqT.of ha, SqT.of hb, by rw [← ra.length, ← rb.length]; exact hz, fun e => ?_, fun e1 e2 => ?_, fun e1 e2 p hp => ?_⟩
      · have := ra.nil_iff.mp e
        subst this
        refine q _ _ (Res.sc ?_)
        simp only [List.nil_append, RepD]
        exact ⟨b, ws, rfl, hb, rb⟩
      · have := rb.nil_iff.mp e2
        subst this
        refine q _ _ (Res.sc ?_)
        simp only [List.append_nil, RepD]
        exact ⟨a, vs, rfl, ha, ra⟩
      · exact q _ _ (Res.tup hp (ra.append rb))
    · cases h
  · rename_i as bs
    split at h
    · rename_i hz
      obtain ⟨a, vs, rfl, ha, ra⟩ := l1.lst
      obtain ⟨b, ws, rfl, hb, rb⟩ := l2.lst
      cases h
      exact op_cat pins s σ H _ _ v u Q I rx ry ⟨a, b, vs, ws, rfl, rfl, ha, hb, by rw [← ra.length, ← rb.length]; exact hz, fun p hp => q _ _ (Res.lst hp (ra.append rb))⟩
    · cases h
theorem ov_sub : OpV X (binaryOp .Sub) opSub := by
  intro pins s σ H x y v u Q I rx ry ⟨Z, d1, d2, o, l1, l2, h, q⟩
  cases d1 <;> cases d2 <;> simp only [opSub, reduceCtorEq] at h
  rename_i i j
  cases l1.int; cases l2.int; cases h
  exact op_sub pins s σ H _ _ v u Q I rx ry ⟨i, j, rfl, rfl, q _ _ Res.int⟩
theorem RepL.rep {K : PySem.W.Frag} {Z : Addr → Prop} {H : Hp} {ds : List D} {vs : List V} (h : RepL K Z H ds vs) : ∀ k : Nat, RepL K Z H (List.replicate k ds).flatten (List.replicate k vs).flatten
  | 0 => by simp only [List.replicate_zero, List.flatten_nil, RepL]
  | k + 1 => by
    rw [List.replicate_succ, List.replicate_succ, List.flatten_cons, List.flatten_cons]
    exact h.append (RepL.rep h k)
theorem ov_mul : OpV X (binaryOp .Mult) opMul := by
  intro pins s σ H x y v u Q I rx ry ⟨Z, d1, d2, o, l1, l2, h, q⟩
  cases d1 <;> cases d2 <;> simp only [opMul, reduceCtorEq] at h
  · rename_i i j
    split at h
    · rename_i hm
      cases l1.int; cases l2.int; cases h
      unfold mulOk at hm
      simp only [Bool.or_eq_true, Bool.and_eq_true, decide_eq_true_eq] at hm
      rcases hm with (hm | hm) | hm
      · exact op_mul pins s σ H _ _ v u Q I rx ry ⟨i, j, rfl, rfl, .inl hm, q _ _ Res.int⟩
      · exact op_mul pins s σ H _ _ v u Q I rx ry ⟨i, j, rfl, rfl, .inr hm, q _ _ Res.int⟩
      · exact op_mulW pins s σ H _ _ v u Q I rx ry ⟨i, j, rfl, rfl, hm, q _ _ Res.int⟩
    · cases h
  · rename_i as k
    split at h
    · rename_i hm
      simp only [Bool.and_eq_true, decide_eq_true_eq] at hm
      obtain ⟨⟨m1, m2⟩, m3⟩ := hm
      obtain ⟨a, vs, rfl, ha, ra⟩ := l1.lst
      cases l2.int; cases h
      exact op_rep pins s σ H _ _ v u Q I rx ry ⟨a, k, vs, rfl, rfl, ha, m1, m2, by rw [← ra.length]; exact m3, fun p hp => q _ _ (Res.lst hp (ra.rep _))⟩
    · cases h
theorem ov_div : OpV X (binaryOp .FloorDiv) opDiv := by
  intro pins s σ H x y v u Q I rx ry ⟨Z, d1, d2, o, l1, l2, h, q⟩
  cases d1 <;> cases d2 <;> simp only [opDiv, reduceCtorEq] at h
  rename_i i j
  split at h
  · rename_i hm
    cases l1.int; cases l2.int; cases h
    unfold divOk at hm
    simp only [Bool.and_eq_true, decide_eq_true_eq] at hm
    exact op_fdivW pins s σ H _ _ v u Q I rx ry ⟨i, j, rfl, rfl, hm, q _ _ Res.int⟩
  · cases h
theorem ov_mod : OpV X (binaryOp .Mod) opMod := by
  intro pins s σ H x y v u Q I rx ry ⟨Z, d1, d2, o, l1, l2, h, q⟩
  cases d1 <;> cases d2 <;> simp only [opMod, reduceCtorEq] at h
  rename_i i j
  split at h
  · rename_i hm
    cases l1.int; cases l2.int; cases h
    exact op_mod pins s σ H _ _ v u Q I rx ry ⟨i, j, rfl, rfl, hm, q _ _ Res.int⟩
  · cases h
theorem ov_pow : OpV X (binaryOp .Pow) opPow := by
  intro pins s σ H x y v u Q I rx ry ⟨Z, d1, d2, o, l1, l2, h, q⟩
  cases d1 <;> cases d2 <;> simp only [opPow, reduceCtorEq] at h
  rename_i i j
  split at h
  · rename_i hm
    cases l1.int; cases l2.int; cases h
    simp only [Bool.and_eq_true, decide_eq_true_eq] at hm
    exact op_pow pins s σ H _ _ v u Q I rx ry ⟨i, j, rfl, rfl, ⟨hm.1.1, hm.1.2, hm.2⟩, q _ _ Res.int⟩
  · cases h
end
def cmpI (p : Int → Int → Bool) : D → D → Option O
  | .int i, .int j => some (.sh (.bl (p i j)))
  | _, _ => none
def opLt := cmpI fun i j => decide (i < j)
def opLe : D → D → Option O
  | .int i, .int j => some (.sh (.bl (decide (i ≤ j))))
  | .str i, .str j => some (.sh (.bl (!decide (j.cps.toList < i.cps.toList))))
  | _, _ => none
def opGt := cmpI fun i j => decide (j < i)
def opGe := cmpI fun i j => decide (j ≤ i)
def D.isNon : D → Bool
  | .non => true
  | _ => false
def opIsN : D → D → Option O
  | a, .non => some (.sh (.bl a.isNon))
  | _, _ => none
section
variable {X : Cx}
theorem ov_cmpI {op : CmpOp} {p : Int → Int → Bool} (h : OpR X (compareOp op) (rI0 fun i j => .bl (p i j))) : OpV X (compareOp op) (cmpI p) := by
  intro pins s σ H x y v u Q I rx ry ⟨Z, d1, d2, o, l1, l2, h', q⟩
  cases d1 <;> cases d2 <;> simp only [cmpI, reduceCtorEq] at h'
  rename_i i j
  cases l1.int; cases l2.int; cases h'
  exact h pins s σ H _ _ v u Q I rx ry ⟨i, j, rfl, rfl, q _ _ Res.bl⟩
theorem ov_lt : OpV X (compareOp .Lt) opLt := ov_cmpI op_lt
theorem ov_gt : OpV X (compareOp .Gt) opGt := ov_cmpI op_gt
theorem ov_ge : OpV X (compareOp .GtE) opGe := ov_cmpI op_ge
theorem ov_le : OpV X (compareOp .LtE) opLe := by
  intro pins s σ H x y v u Q I rx ry ⟨Z, d1, d2, o, l1, l2, h', q⟩
  cases d1 <;> cases d2 <;> simp only [opLe, reduceCtorEq] at h'
  · rename_i i j
    cases l1.int; cases l2.int; cases h'
    exact op_le pins s σ H _ _ v u Q I rx ry ⟨i, j, rfl, rfl, q _ _ Res.bl⟩
  · rename_i i j
    cases l1.str; cases l2.str; cases h'
    exact op_le_str pins s σ H _ _ v u Q I rx ry ⟨i, j, rfl, rfl, q _ _ Res.bl⟩
theorem Lk.isNon {K : PySem.W.Frag} {Z : Addr → Prop} {H : Hp} {d : D} {v : V} (h : Lk K Z H d v) : decide (v = .non) = d.isNon := by
  cases d with
  | non => cases h.non; rfl
  | bl b => cases h.bl; rfl
  | int b => cases h.int; rfl
  | str b => cases h.str; rfl
  | tup ds => obtain ⟨a, vs, rfl, _⟩ := h.tup; rfl
  | lst ds => obtain ⟨a, vs, rfl, _⟩ := h.lst; rfl
  | dK ds => obtain ⟨a, vs, rfl, _⟩ := h; rfl
  | dT ds => obtain ⟨a, vs, rfl, _⟩ := h; rfl
  | dN ds => obtain ⟨a, vs, rfl, _⟩ := h; rfl
  | dO ds => obtain ⟨a, vs, rfl, _⟩ := h; rfl
  | obj c fs => obtain ⟨a, dx, vs, rfl, _⟩ := h; rfl
  | scr ns =>
    simp only [Lk, RepD] at h
    obtain ⟨a, rfl, _⟩ := h
    rfl
theorem ov_isN : OpV X (compareOp .Is) opIsN := by
  intro pins s σ H x y v u Q I rx ry ⟨Z, d1, d2, o, l1, l2, h', q⟩
  have e2 : d2 = .non := by cases d2 <;> simp only [opIsN, reduceCtorEq] at h' <;> rfl
  subst e2
  cases l2.non
  simp only [opIsN] at h'
  cases h'
  refine op_isN pins s σ H _ _ v u Q I rx ry ⟨rfl, ?_⟩
  rw [l1.isNon]
  exact q _ _ Res.bl
end
mutual
def D.eqD : D → D → Bool
  | .non, .non => true
  | .bl a, .bl b => a == b
  | .bl a, .int j => (if a then 1 else 0) == j
  | .int i, .bl b => i == (if b then 1 else 0)
  | .int i, .int j => i == j
  | .str x, .str y => x == y
  | .lst xs, .lst ys => D.eqL xs ys
  | .tup xs, .tup ys => D.eqL xs ys
  | _, _ => false
def D.eqL : List D → List D → Bool
  | [], [] => true
  | x :: xs, y :: ys => D.eqD x y && D.eqL xs ys
  | _, _ => false
end
mutual
/-- plain data of at most so many levels -/
def D.okE : Nat → D → Bool
  | _, .non => true
  | _, .bl _ => true
  | _, .int _ => true
  | _, .str x => PyData.strOk x
  | n + 1, .lst xs => D.okL n xs
  | n + 1, .tup xs => D.okL n xs
  | _, _ => false
def D.okL : Nat → List D → Bool
  | _, [] => true
  | n, x :: xs => D.okE n x && D.okL n xs
end
mutual
def D.toP : D → PyData
  | .non => .none
  | .bl b => .bool b
  | .int i => .int i
  | .str x => .str x
  | .lst xs => .list (D.toPs xs)
  | .tup xs => .tuple (D.toPs xs)
  | _ => .none
def D.toPs : List D → List PyData
  | [] => []
  | x :: xs => x.toP :: D.toPs xs
end
def deq (a b : D) : Option Bool := if a.okE 30 && b.okE 30 then some (a.eqD b) else none
mutual
theorem D.eqv_toP : ∀ (n : Nat) (a b : D), a.okE n = true → b.okE n = true → PyData.eqv a.toP b.toP = a.eqD b
  | n, .non, b, ha, hb => by cases b <;> first | (simp only [D.toP, PyData.eqv, D.eqD]; done) | (cases n <;> simp [D.okE] at hb)
  | n, .bl i, b, ha, hb => by cases b <;> first | (simp only [D.toP, PyData.eqv, D.eqD]; done) | (cases n <;> simp [D.okE] at hb)
  | n, .int i, b, ha, hb => by cases b <;> first | (simp only [D.toP, PyData.eqv, D.eqD]; done) | (cases n <;> simp [D.okE] at hb)
  | n, .str i, b, ha, hb => by cases b <;> first | (simp only [D.toP, PyData.eqv, D.eqD]; done) | (cases n <;> simp [D.okE] at hb)
  | 0, .lst xs, b, ha, hb => by simp [D.okE] at ha
  | 0, .tup xs, b, ha, hb => by simp [D.okE] at ha
  | n + 1, .lst xs, b, ha, hb => by
    cases b <;> first
      | (simp only [D.toP, PyData.eqv, D.eqD]; done)
      | (simp [D.okE] at hb; done)
      | (rename_i ys
         simp only [D.okE] at ha hb
         simp only [D.toP, PyData.eqv, D.eqD]
         exact D.eqvs_toP n xs ys ha hb)
  | n + 1, .tup xs, b, ha, hb => by
    cases b <;> first
      | (simp only [D.toP, PyData.eqv, D.eqD]; done)
      | (simp [D.okE] at hb; done)
      | (rename_i ys
         simp only [D.okE] at ha hb
         simp only [D.toP, PyData.eqv, D.eqD]
         exact D.eqvs_toP n xs ys ha hb)
  | n, .dK xs, b, ha, hb => by cases n <;> simp [D.okE] at ha
  | n, .dT xs, b, ha, hb => by cases n <;> simp [D.okE] at ha
  | n, .dN xs, b, ha, hb => by cases n <;> simp [D.okE] at ha
  | n, .dO xs, b, ha, hb => by cases n <;> simp [D.okE] at ha
  | n, .obj c xs, b, ha, hb => by cases n <;> simp [D.okE] at ha
  | n, .scr xs, b, ha, hb => by cases n <;> simp [D.okE] at ha
theorem D.eqvs_toP : ∀ (n : Nat) (a b : List D), D.okL n a = true → D.okL n b = true → PyData.eqvAll (D.toPs a) (D.toPs b) = D.eqL a b
  | n, [], [], ha, hb => by simp only [D.toPs, PyData.eqvAll, D.eqL]
  | n, [], y :: ys, ha, hb => by simp only [D.toPs, PyData.eqvAll, D.eqL]
  | n, x :: xs, [], ha, hb => by simp only [D.toPs, PyData.eqvAll, D.eqL]
  | n, x :: xs, y :: ys, ha, hb => by
    simp only [D.okL, Bool.and_eq_true] at ha hb
    simp only [D.toPs, PyData.eqvAll, D.eqL]
    rw [D.eqv_toP n x y ha.1 hb.1, D.eqvs_toP n xs ys ha.2 hb.2]
end
mutual
theorem D.shaped_toP : ∀ (n : Nat) (a : D), a.okE n = true → a.toP.canLay0 = true ∧ a.toP.depth ≤ n
  | n, .non, h => by simp [D.toP, PyData.canLay0, PyData.depth]
  | n, .bl i, h => by simp [D.toP, PyData.canLay0, PyData.depth]
  | n, .int i, h => by simp [D.toP, PyData.canLay0, PyData.depth]
  | n, .str i, h => by
    simp only [D.okE] at h
    simp [D.toP, PyData.canLay0, PyData.depth, h]
  | 0, .lst xs, h => by simp [D.okE] at h
  | 0, .tup xs, h => by simp [D.okE] at h
  | n + 1, .lst xs, h => by
    simp only [D.okE] at h
    have q := D.shapeds_toP n xs h
    simp only [D.toP, PyData.canLay0, PyData.depth]
    exact ⟨q.1, by omega⟩
  | n + 1, .tup xs, h => by
    simp only [D.okE] at h
    have q := D.shapeds_toP n xs h
    simp only [D.toP, PyData.canLay0, PyData.depth]
    exact ⟨q.1, by omega⟩
  | n, .dK xs, ha => by cases n <;> simp [D.okE] at ha
  | n, .dT xs, ha => by cases n <;> simp [D.okE] at ha
  | n, .dN xs, ha => by cases n <;> simp [D.okE] at ha
  | n, .dO xs, ha => by cases n <;> simp [D.okE] at ha
  | n, .obj c xs, ha => by cases n <;> simp [D.okE] at ha
  | n, .scr xs, ha => by cases n <;> simp [D.okE] at ha
theorem D.shapeds_toP : ∀ (n : Nat) (a : List D), D.okL n a = true → PyData.canLayAll0 (D.toPs a) = true ∧ PyData.depthAll (D.toPs a) ≤ n
  | n, [], h => by simp [D.toPs, PyData.canLayAll0, PyData.depthAll]
  | n, x :: xs, h => by
    simp only [D.okL, Bool.and_eq_true] at h
    have q1 := D.shaped_toP n x h.1
    have q2 := D.shapeds_toP n xs h.2
    simp only [D.toPs, PyData.canLayAll0, PyData.depthAll, q1.1, q2.1]
    exact ⟨rfl, by omega⟩
end
section
variable {K : PySem.W.Frag} {Z : Addr → Prop} {H : Hp}
mutual
theorem RepD.dp : ∀ (n : Nat) (d : D) (v : V), d.okE n = true → RepD K Z H d v → Dp K H v d.toP
  | n, .non, v, k, h => by
    simp only [RepD] at h
    subst h
    simp only [D.toP]
    exact .non
  | n, .bl b, v, k, h => by
    simp only [RepD] at h
    subst h
    simp only [D.toP]
    exact .bl b
  | n, .int b, v, k, h => by
    simp only [RepD] at h
    subst h
    simp only [D.toP]
    exact .int b
  | n, .str b, v, k, h => by
    simp only [RepD] at h
    subst h
    simp only [D.toP]
    exact .str b
  | 0, .lst xs, v, k, h => by simp [D.okE] at k
  | 0, .tup xs, v, k, h => by simp [D.okE] at k
  | n + 1, .lst xs, v, k, h => by
    simp only [RepD] at h
    obtain ⟨a, vs, rfl, _, h1, h2⟩ := h
    simp only [D.okE] at k
    simp only [D.toP]
    exact .lst (SqL.of h1) (RepL.dp n xs vs k h2)
  | n + 1, .tup xs, v, k, h => by
    simp only [RepD] at h
    obtain ⟨a, vs, rfl, h1, h2⟩ := h
    simp only [D.okE] at k
    simp only [D.toP]
    exact .tup (SqT.of h1) (RepL.dp n xs vs k h2)
  | n, .dK xs, v, ha, h => by cases n <;> simp [D.okE] at ha
  | n, .dT xs, v, ha, h => by cases n <;> simp [D.okE] at ha
  | n, .dN xs, v, ha, h => by cases n <;> simp [D.okE] at ha
  | n, .dO xs, v, ha, h => by cases n <;> simp [D.okE] at ha
  | n, .obj c xs, v, ha, h => by cases n <;> simp [D.okE] at ha
  | n, .scr xs, v, ha, h => by cases n <;> simp [D.okE] at ha
theorem RepL.dp : ∀ (n : Nat) (ds : List D) (vs : List V), D.okL n ds = true → RepL K Z H ds vs → DpAll K H vs (D.toPs ds)
  | n, [], vs, k, h => by
    simp only [RepL] at h
    subst h
    simp only [D.toPs]
    exact .nil
  | n, d :: ds, vs, k, h => by
    simp only [RepL] at h
    obtain ⟨v, r, rfl, h1, h2⟩ := h
    simp only [D.okL, Bool.and_eq_true] at k
    simp only [D.toPs]
    exact .cons (RepD.dp n d v k.1 h1) (RepL.dp n ds r k.2 h2)
end
theorem Lk.dp {n : Nat} {d : D} {v : V} (k : d.okE n = true) (h : Lk K Z H d v) : Dp K H v d.toP := by
  cases d with
  | lst ds =>
    obtain ⟨a, vs, rfl, h1, h2⟩ := h
    cases n with
    | zero => simp [D.okE] at k
    | succ n =>
      simp only [D.okE] at k
      simp only [D.toP]
      exact .lst (SqL.of h1) (RepL.dp n ds vs k h2)
  | dK _ => cases n <;> simp [D.okE] at k
  | dT _ => cases n <;> simp [D.okE] at k
  | dN _ => cases n <;> simp [D.okE] at k
  | dO _ => cases n <;> simp [D.okE] at k
  | obj _ _ => cases n <;> simp [D.okE] at k
  | scr _ => cases n <;> simp [D.okE] at k
  | non => exact RepD.dp (Z := Z) n _ v k h
  | bl _ => exact RepD.dp (Z := Z) n _ v k h
  | int _ => exact RepD.dp (Z := Z) n _ v k h
  | str _ => exact RepD.dp (Z := Z) n _ v k h
  | tup _ => exact RepD.dp (Z := Z) n _ v k h
theorem shaped_of {d : D} (k : d.okE 30 = true) : SeqAt.shaped d.toP = true := by
  have q := D.shaped_toP 30 d k
  unfold SeqAt.shaped
  rw [q.1]
  simp only [Bool.true_and, decide_eq_true_eq]
  omega
end
def opEq (a b : D) : Option O := (deq a b).map fun r => .sh (.bl r)
def opNe (a b : D) : Option O := (deq a b).map fun r => .sh (.bl !r)
section
variable {X : Cx}
theorem ov_eq (hu : X.A.units + 64 < cLine) : OpV X (compareOp .Eq) opEq := by
  intro pins s σ H x y v u Q I rx ry ⟨Z, d1, d2, o, l1, l2, h, q⟩
  unfold opEq deq at h
  split at h
  · rename_i hk
    simp only [Bool.and_eq_true] at hk
    cases h
    refine op_eqD hu pins s σ H x y v u Q I rx ry ⟨_, _, l1.dp hk.1, l2.dp hk.2, shaped_of hk.1, shaped_of hk.2, ?_⟩
    rw [D.eqv_toP 30 d1 d2 hk.1 hk.2]
    exact q _ _ Res.bl
  · cases h
theorem ov_ne (hu : X.A.units + 64 < cLine) : OpV X (compareOp .NotEq) opNe := by
  intro pins s σ H x y v u Q I rx ry ⟨Z, d1, d2, o, l1, l2, h, q⟩
  unfold opNe deq at h
  split at h
  · rename_i hk
    simp only [Bool.and_eq_true] at hk
    cases h
    refine op_neD hu pins s σ H x y v u Q I rx ry ⟨_, _, l1.dp hk.1, l2.dp hk.2, shaped_of hk.1, shaped_of hk.2, ?_⟩
    rw [D.eqv_toP 30 d1 d2 hk.1 hk.2]
    exact q _ _ Res.bl
  · cases h
end
end VS
namespace VS
open PySem PySem.Spec L2
open PyProof.Rows (tail_any subscriptTail)
section
variable {κ : Type} [DecidableEq κ]
def dget (kvs : List (κ × D)) (k : κ) : Option D := (kvs.find? fun kv => decide (kv.1 = k)).map (·.2)
def dput (kvs : List (κ × D)) (k : κ) (v : D) : List (κ × D) :=
  if (kvs.any fun kv => decide (kv.1 = k)) = true then kvs.map (fun kv => if kv.1 = k then (kv.1, v) else kv) else kvs ++ [(k, v)]
end
def keyOf : D → Option Key
  | .int i => some (.inl i)
  | .str x => some (.inr x)
  | _ => none
def keysOf : List D → Option (List Key)
  | [] => some []
  | d :: ds => (keyOf d).bind fun k => (keysOf ds).bind fun r => some (k :: r)
section
variable {K : PySem.W.Frag} {Z : Addr → Prop} {H : Hp} {v : V}
theorem key_rep {d : D} {k : Key} (h : keyOf d = some k) (r : RepD K Z H d v) : v = kV k := by
  cases d <;> simp only [keyOf, reduceCtorEq] at h
  · rename_i i
    cases h
    have e : v = .int i := by simpa only [RepD] using r
    rw [e]
    all_goals rfl
  · rename_i i
    cases h
    have e : v = .str i := by simpa only [RepD] using r
    rw [e]
    all_goals rfl
theorem keys_rep : ∀ {ds : List D} {ks : List Key} {vs : List V}, keysOf ds = some ks → RepL K Z H ds vs → vs = ks.map kV
  | [], ks, vs, h, r => by
    simp only [keysOf] at h
    cases h
    have e : vs = [] := by simpa only [RepL] using r
    rw [e]
    all_goals rfl
  | d :: ds, ks, vs, h, r => by
    simp only [keysOf, Option.bind_eq_some_iff] at h
    obtain ⟨k, h1, rr, h2, h3⟩ := h
    cases h3
    simp only [RepL] at r
    obtain ⟨v, r', rfl, r1, r2⟩ := r
    rw [key_rep h1 r1, keys_rep h2 r2]
    all_goals rfl
theorem RepK.get {k : Key} : ∀ {ds : List (Key × D)} {vs : List (Key × V)}, RepK K Z H ds vs → (∀ d, dget ds k = some d → ∃ v, valV vs k = some v ∧ RepD K Z H d v) ∧ (dget ds k = none → valV vs k = none)
  | [], vs, h => by
    simp only [RepK] at h
    subst h
    exact ⟨fun d e => (nomatch (show (none : Option D) = some d from e)), fun _ => rfl⟩
  | (x, d0) :: ds, vs, h => by
    simp only [RepK] at h
    obtain ⟨v, r, rfl, h1, h2⟩ := h
    have ih := RepK.get (k := k) h2
    by_cases e : x = k
    · have q1 : dget ((x, d0) :: ds) k = some d0 := by simp [dget, List.find?_cons, e]
      have q2 : valV ((x, v) :: r) k = some v := valV_pos e
      rw [q1, q2]
      exact ⟨fun d e => by cases e; exact ⟨v, rfl, h1⟩, fun z => by cases z⟩
    · have q1 : dget ((x, d0) :: ds) k = dget ds k := by simp [dget, List.find?_cons, e]
      have q2 : valV ((x, v) :: r) k = valV r k := valV_neg e
      rw [q1, q2]
      exact ih
theorem RepT.get {k : List Key} : ∀ {ds : List (List Key × D)} {vs : List (List Key × V)}, RepT K Z H ds vs → (∀ d, dget ds k = some d → ∃ v, valV vs k = some v ∧ RepD K Z H d v) ∧ (dget ds k = none → valV vs k = none)
  | [], vs, h => by
    simp only [RepT] at h
    subst h
    exact ⟨fun d e => (nomatch (show (none : Option D) = some d from e)), fun _ => rfl⟩
  | (x, d0) :: ds, vs, h => by
    simp only [RepT] at h
    obtain ⟨v, r, rfl, h1, h2⟩ := h
    have ih := RepT.get (k := k) h2
    by_cases e : x = k
    · have q1 : dget ((x, d0) :: ds) k = some d0 := by simp [dget, List.find?_cons, e]
      have q2 : valV ((x, v) :: r) k = some v := valV_pos e
      rw [q1, q2]
      exact ⟨fun d e => by cases e; exact ⟨v, rfl, h1⟩, fun z => by cases z⟩
    · have q1 : dget ((x, d0) :: ds) k = dget ds k := by simp [dget, List.find?_cons, e]
      have q2 : valV ((x, v) :: r) k = valV r k := valV_neg e
      rw [q1, q2]
      exact ih
/-- what a dict holds at a key that is data -/
def opDG : D → D → Option (Option D)
  | .dK ks, k => (keyOf k).map fun k => dget ks k
  | .dT ks, .tup k => (keysOf k).map fun k => dget ks k
  | _, _ => none
theorem dget_rep {d k : D} {o : Option D} {x y : V} (h : opDG d k = some o) (l1 : Lk K Z H d x) (l2 : Lk K Z H k y) :
    ∃ a ov, x = .ref a ∧ DGet H a y ov ∧ (∀ d, o = some d → ∃ v, ov = some v ∧ RepD K Z H d v) ∧ (o = none → ov = none) := by
  cases d <;> simp only [opDG, reduceCtorEq] at h
  · rename_i ks
    obtain ⟨kk, h1, h2⟩ := Option.map_eq_some_iff.mp h
    obtain ⟨a, vs, rfl, ha, ra⟩ := l1
    have ey : y = kV kk := by
      refine key_rep (Z := Z) (K := K) (H := H) h1 ?_
      cases k <;> simp only [keyOf, reduceCtorEq] at h1 <;> exact l2
    subst ey h2
    exact ⟨a, _, rfl, (.inl ⟨vs, kk, ha, rfl, rfl⟩), fun d e => (RepK.get ra).1 d e, fun e => (RepK.get ra).2 e⟩
  · rename_i ks
    cases k <;> simp only [opDG, reduceCtorEq] at h
    rename_i kd
    obtain ⟨kk, h1, h2⟩ := Option.map_eq_some_iff.mp h
    obtain ⟨a, vs, rfl, ha, ra⟩ := l1
    obtain ⟨b, ws, rfl, hb, rb⟩ := l2.tup
    have ey := keys_rep h1 rb
    subst ey h2
    exact ⟨a, _, rfl, (.inr ⟨vs, kk, b, ha, rfl, hb, rfl⟩), fun d e => (RepT.get ra).1 d e, fun e => (RepT.get ra).2 e⟩
end
def opIx : D → D → Option O
  | .lst xs, .int i => (atI xs i).map .sh
  | .tup xs, .int i => (atI xs i).map .sh
  | .scr ns, .int i => (atI ns i).map fun n => .sh (.int n)
  | .str z, .int i => if z.length ≤ sizeLine then (atI z.cps.toList i).map fun c => .sh (.str ⟨#[c]⟩) else none
  | d, k => match opDG d k with
    | some (some v) => some (.sh v)
    | _ => none
section
variable {X : Cx}
theorem RepL.atI {K : PySem.W.Frag} {Z : Addr → Prop} {H : Hp} {ds : List D} {vs : List V} {i : Int} {d : D} (r : RepL K Z H ds vs) (h : L2.atI ds i = some d) : ∃ v, L2.atI vs i = some v ∧ RepD K Z H d v := by
  unfold L2.atI at h ⊢
  rw [r.length] at h
  cases e : ixN vs.length i with
  | none => rw [e] at h; cases h
  | some j =>
    rw [e] at h
    obtain ⟨v, e1, e2⟩ := r.get (i := j) (d := d) h
    exact ⟨v, e1, e2⟩
theorem scr_seq {K : PySem.W.Frag} {Z : Addr → Prop} {H : Hp} {ns : List Int} {v : V} (h : RepD K Z H (.scr ns) v) : ∃ a, v = .ref a ∧ SqL K H a (ns.map V.int) := by
  simp only [RepD] at h
  obtain ⟨a, e, h | h⟩ := h
  · obtain ⟨z, o, h⟩ := h
    exact ⟨a, e, .inl (.inr ⟨o, h⟩)⟩
  · refine ⟨a, e, ?_⟩
    rcases h with (h | ⟨o, h⟩) | h
    · cases h
    · cases h
    · exact .inr h
theorem ix_dict (hu : X.A.units + 1 < cLine) : IxR X (fun x y H Q => ∃ a v, x = .ref a ∧ DGet H a y (some v) ∧ Q v H) := by
  intro value slice pins s σ H x y v u Q I rx ry h hs
  obtain ⟨a, w, rfl, g, q⟩ := h
  cases rx
  exact PyProof.Rows.tail_any (dict_typeIs I g) PySem.F.slot_dict_getitem.lookup (d_getItem hu I g ry fun w' s3 I3 rw' => ⟨w, H, I3, rw', q⟩) hs
theorem iv_ix (hu : X.A.units + 1 < cLine) : IxR X (O1 X.K opIx) := by
  intro value slice pins s σ H x y v u Q I rx ry ⟨Z, d1, d2, o, l1, l2, h, q⟩ hs
  have dct : ∀ d, opDG d1 d2 = some (some d) → o = .sh d → wpAny (model X.prog X.w) X.A (subscriptTail value slice v u) (EP X pins σ Q) X.xe s := fun d e eo => by
    obtain ⟨a, ov, rfl, g, g1, _⟩ := dget_rep e l1 l2
    obtain ⟨w, e1, r1⟩ := g1 d rfl
    subst e1 eo
    exact ix_dict hu value slice pins s σ H _ y v u Q I rx ry ⟨a, w, rfl, g, q _ _ (Res.sc r1)⟩ hs
  have dct' : (match opDG d1 d2 with | some (some v) => some (O.sh v) | _ => none) = some o → wpAny (model X.prog X.w) X.A (subscriptTail value slice v u) (EP X pins σ Q) X.xe s := fun e => by
    cases q1 : opDG d1 d2 with
    | none => rw [q1] at e; cases e
    | some ov => cases ov with
      | none => rw [q1] at e; cases e
      | some d =>
        rw [q1] at e
        exact dct d q1 (Option.some.inj e).symm
  cases d1 with
  | lst xs =>
    cases d2 with
    | int i =>
      obtain ⟨d, h1, h2⟩ := Option.map_eq_some_iff.mp (show (atI xs i).map O.sh = some o from h)
      subst h2
      obtain ⟨a, vs, rfl, ha, ra⟩ := l1.lst
      cases l2.int
      obtain ⟨w, e1, r1⟩ := ra.atI h1
      exact ix_list value slice pins s σ H _ _ v u Q I rx ry ⟨a, vs, i, w, rfl, rfl, SqL.of ha, e1, q _ _ (Res.sc r1)⟩ hs
    | _ => exact dct' h
  | tup xs =>
    cases d2 with
    | int i =>
      obtain ⟨d, h1, h2⟩ := Option.map_eq_some_iff.mp (show (atI xs i).map O.sh = some o from h)
      subst h2
      obtain ⟨a, vs, rfl, ha, ra⟩ := l1.tup
      cases l2.int
      obtain ⟨w, e1, r1⟩ := ra.atI h1
      exact ix_tup value slice pins s σ H _ _ v u Q I rx ry ⟨a, vs, i, w, rfl, rfl, SqT.of ha, e1, q _ _ (Res.sc r1)⟩ hs
    | _ => exact dct' h
  | scr ns =>
    cases d2 with
    | int i =>
      obtain ⟨n, h1, h2⟩ := Option.map_eq_some_iff.mp (show (atI ns i).map (fun n => O.sh (.int n)) = some o from h)
      subst h2
      obtain ⟨a, rfl, ha⟩ := scr_seq (show RepD X.K Z H (.scr ns) x from l1)
      cases l2.int
      have e1 : atI (ns.map V.int) i = some (.int n) := by
        unfold atI at h1 ⊢
        rw [List.length_map]
        cases e : ixN ns.length i with
        | none => rw [e] at h1; cases h1
        | some j =>
          rw [e] at h1
          show (ns.map V.int)[j]? = some (.int n)
          rw [List.getElem?_map, show ns[j]? = some n from h1]
          rfl
      exact ix_list value slice pins s σ H _ _ v u Q I rx ry ⟨a, _, i, _, rfl, rfl, ha, e1, q _ _ Res.int⟩ hs
    | _ => exact dct' h
  | str z =>
    cases d2 with
    | int i =>
      have h' : (if z.length ≤ sizeLine then (atI z.cps.toList i).map (fun c => O.sh (.str ⟨#[c]⟩)) else none) = some o := h
      split at h'
      · rename_i hz
        obtain ⟨c, h1, h2⟩ := Option.map_eq_some_iff.mp h'
        subst h2
        cases l1.str
        cases l2.int
        exact ix_str value slice pins s σ H _ _ v u Q I rx ry ⟨z, i, c, rfl, rfl, hz, h1, q _ _ Res.str⟩ hs
      · cases h'
    | _ => exact dct' h
  | dK _ => exact dct' (by cases d2 <;> exact h)
  | dT _ => exact dct' (by cases d2 <;> exact h)
  | dN _ => exact dct' (by cases d2 <;> exact h)
  | dO _ => exact dct' (by cases d2 <;> exact h)
  | non => exact dct' (by cases d2 <;> exact h)
  | bl _ => exact dct' (by cases d2 <;> exact h)
  | int _ => exact dct' (by cases d2 <;> exact h)
  | obj _ _ => exact dct' (by cases d2 <;> exact h)
end
def opIn : D → D → Option Bool
  | x, .lst ds => if x.okE 29 && D.okL 29 ds then some (ds.any fun z => z.eqD x) else none
  | x, d => (opDG d x).map Option.isSome
def opInV (x d : D) : Option O := (opIn x d).map fun r => .sh (.bl r)
def opNinV (x d : D) : Option O := (opIn x d).map fun r => .sh (.bl !r)
section
variable {X : Cx}
mutual
theorem D.okE_mono : ∀ (n m : Nat) (d : D), n ≤ m → d.okE n = true → d.okE m = true
  | n, m, .non, h, k => by cases m <;> simp [D.okE]
  | n, m, .bl _, h, k => by cases m <;> simp [D.okE]
  | n, m, .int _, h, k => by cases m <;> simp [D.okE]
  | n, m, .str x, h, k => by
    simp only [D.okE] at k ⊢
    exact k
  | 0, m, .lst xs, h, k => by simp [D.okE] at k
  | 0, m, .tup xs, h, k => by simp [D.okE] at k
  | n + 1, 0, .lst xs, h, k => by omega
  | n + 1, 0, .tup xs, h, k => by omega
  | n + 1, m + 1, .lst xs, h, k => by
    simp only [D.okE] at k ⊢
    exact D.okL_mono n m xs (by omega) k
  | n + 1, m + 1, .tup xs, h, k => by
    simp only [D.okE] at k ⊢
    exact D.okL_mono n m xs (by omega) k
  | n, m, .dK xs, h, ha => by cases n <;> simp [D.okE] at ha
  | n, m, .dT xs, h, ha => by cases n <;> simp [D.okE] at ha
  | n, m, .dN xs, h, ha => by cases n <;> simp [D.okE] at ha
  | n, m, .dO xs, h, ha => by cases n <;> simp [D.okE] at ha
  | n, m, .obj c xs, h, ha => by cases n <;> simp [D.okE] at ha
  | n, m, .scr xs, h, ha => by cases n <;> simp [D.okE] at ha
theorem D.okL_mono : ∀ (n m : Nat) (ds : List D), n ≤ m → D.okL n ds = true → D.okL m ds = true
  | n, m, [], h, k => by simp [D.okL]
  | n, m, d :: ds, h, k => by
    simp only [D.okL, Bool.and_eq_true] at k ⊢
    exact ⟨D.okE_mono n m d h k.1, D.okL_mono n m ds h k.2⟩
end
theorem any_eqv {x : D} (hx : x.okE 29 = true) : ∀ {ds : List D}, D.okL 29 ds = true → ((D.toPs ds).any fun z => PyData.eqv z x.toP) = ds.any fun z => z.eqD x
  | [], _ => by simp only [D.toPs, List.any_nil]
  | d :: ds, h => by
    simp only [D.okL, Bool.and_eq_true] at h
    simp only [D.toPs, List.any_cons]
    rw [D.eqv_toP 29 d x h.1 hx, any_eqv hx h.2]
theorem in_core {b : Bool} (hu : X.A.units + 65 < cLine) : OpR X (compareOp (if b then .In else .NotIn)) (O1 X.K fun x d => (opIn x d).map fun r => .sh (.bl (if b then r else !r))) := by
  intro pins s σ H x y v u Q I rx ry ⟨Z, d1, d2, o, l1, l2, h, q⟩
  obtain ⟨r, h1, h2⟩ := Option.map_eq_some_iff.mp h
  subst h2
  have dct : ∀ ov, opDG d2 d1 = some ov → r = ov.isSome → wpAny (model X.prog X.w) X.A (compareOp (if b then .In else .NotIn) v u) (EP X pins σ Q) X.xe s := fun ov e er => by
    obtain ⟨a, ow, rfl, g, g1, g2⟩ := dget_rep e l2 l1
    cases ry
    have e2 : ow.isSome = r := by
      subst er
      cases ov with
      | none => rw [g2 rfl]; rfl
      | some d =>
        obtain ⟨w, e1, _⟩ := g1 d rfl
        rw [e1]; rfl
    cases b with
    | true => exact d_in (by omega) I g rx fun s3 I3 => ⟨.bl ow.isSome, H, I3, rfl, by rw [e2]; exact q _ _ Res.bl⟩
    | false => exact d_notIn (by omega) I g rx fun s3 I3 => ⟨.bl (!ow.isSome), H, I3, rfl, by rw [e2]; exact q _ _ Res.bl⟩
  have dct' : (opDG d2 d1).map Option.isSome = some r → wpAny (model X.prog X.w) X.A (compareOp (if b then .In else .NotIn) v u) (EP X pins σ Q) X.xe s := fun e => by
    obtain ⟨ov, e1, e2⟩ := Option.map_eq_some_iff.mp e
    exact dct ov e1 e2.symm
  cases d2 with
  | lst ds =>
    have h' : (if d1.okE 29 && D.okL 29 ds then some (ds.any fun z => z.eqD d1) else none) = some r := h1
    split at h'
    · rename_i hk
      simp only [Bool.and_eq_true] at hk
      cases h'
      have k2 : (D.lst ds).okE 30 = true := by
        simp only [D.okE]
        exact hk.2
      have p2 := l2.dp k2
      simp only [D.toP] at p2
      have s2 := shaped_of k2
      simp only [D.toP] at s2
      have k1 := D.okE_mono 29 30 d1 (by omega) hk.1
      cases b with
      | true => exact op_inD hu pins s σ H x y v u Q I rx ry ⟨_, _, l1.dp k1, p2, shaped_of k1, s2, by rw [any_eqv hk.1 hk.2]; exact q _ _ Res.bl⟩
      | false => exact op_notInD hu pins s σ H x y v u Q I rx ry ⟨_, _, l1.dp k1, p2, shaped_of k1, s2, by rw [any_eqv hk.1 hk.2]; exact q _ _ Res.bl⟩
    · cases h'
  | _ => exact dct' h1
theorem ov_in (hu : X.A.units + 65 < cLine) : OpV X (compareOp .In) opInV := in_core (b := true) hu
theorem ov_nin (hu : X.A.units + 65 < cLine) : OpV X (compareOp .NotIn) opNinV := in_core (b := false) hu
end
end VS
namespace VS
open PySem PySem.Spec L2
section
variable {K : PySem.W.Frag} {g : Gx} {Z Z' : Addr → Prop} {H H' : Hp} {δ S : DS} {σ T : L2.St} {o : O} {v : V}
theorem StV.pushN (s : StV K g Z H δ σ S T) (y : Option V) : StV K g Z H δ σ (none :: S) (y :: T) := by
  obtain ⟨Fs, Ft, h1, h2, w⟩ := s
  exact ⟨Fs, Ft, h1, ⟨y, T, [], Ft, rfl, rfl, rfl, h2⟩, w⟩
theorem StV.pushD {d : D} (s : StV K g Z H δ σ S T) (h : RepD K Z H d v) : StV K g Z H δ σ (some (.sh d) :: S) (some v :: T) := s.push (Res.sc h)
end
def xC (d : D) : XF := fun δ => some (.val (.sh d), δ)
def xV (i : Nat) : XF := fun δ => match δ[i]? with
  | some (some (.sh d)) => some (.val (.sh d), δ)
  | some (some _) => some (.at i, δ)
  | _ => none
section
variable {X : Cx} {g : Gx} {pos : Pos} {e : Expr} {t : TE}
abbrev VE (X : Cx) (e : Expr) (f : XF) : Prop := PE X e (rdE X.K f)
abbrev VT (X : Cx) (e : Expr) (f : DS → Option (Bool × DS)) : Prop := PT X e (rdT X.K f)
theorem ve_name {i : Nat} (h : PE X e (tVar i)) : VE X e (xV i) := PEi h fun σ H Q ⟨g, Z, δ, S, T, r, st, hf, post⟩ => by
  unfold xV at hf
  cases q : δ[i]? with
  | none => rw [q] at hf; cases hf
  | some x => cases x with
    | none => rw [q] at hf; cases hf
    | some o =>
      obtain ⟨v, F, e1, ro⟩ := st.slot q
      refine ⟨v, e1, ?_⟩
      rw [q] at hf
      cases o with
      | sh d =>
        cases hf
        simp only [RepO] at ro
        exact post v Z H (st.pushD ro.2) trivial
      | _ =>
        cases hf
        exact post v Z H (st.pushN _) e1
theorem ve_c {d : D} {v : V} (hv : ∀ Z H, RepD X.K Z H d v) (h : PE X e (tC v)) : VE X e (xC d) := PEi h fun σ H Q ⟨g, Z, δ, S, T, r, st, hf, post⟩ => by
  cases hf
  exact post v Z H (st.pushD (hv Z H)) trivial
theorem ve_int {i j} : VE X (.Constant (.int i) j pos) (xC (.int i)) := ve_c (fun _ _ => by simp only [RepD]) pe_int
theorem ve_str {i j} : VE X (.Constant (.str i) j pos) (xC (.str i)) := ve_c (fun _ _ => by simp only [RepD]) pe_str
theorem ve_bl {i j} : VE X (.Constant (.bool i) j pos) (xC (.bl i)) := ve_c (fun _ _ => by simp only [RepD]) pe_bl
theorem ve_non {j} : VE X (.Constant .none j pos) (xC .non) := ve_c (fun _ _ => by simp only [RepD]) pe_non
/-- a module's whole number -/
theorem ve_gint {x : Str} {i : Int} {pos : Pos} (hg : Gl X x) (hm : ∃ t, X.mg x = some (.int i t)) (hd : (x == ("__debug__" : Str)) = false := by decide) : VE X (.Name x pos) (xC (.int i)) := by
  obtain ⟨t, hm⟩ := hm
  exact ve_c (v := .int i) (fun _ _ => by simp only [RepD]) (pe_glob hg hm ⟨t, rfl⟩ hd)
theorem ve_gstr {x z : Str} {pos : Pos} (hg : Gl X x) (hm : ∃ t, X.mg x = some (.str z t)) (hd : (x == ("__debug__" : Str)) = false := by decide) : VE X (.Name x pos) (xC (.str z)) := by
  obtain ⟨t, hm⟩ := hm
  exact ve_c (v := .str z) (fun _ _ => by simp only [RepD]) (pe_glob hg hm ⟨t, rfl⟩ hd)
end
def x2 (f2 : D → D → Option O) (fa fb : XF) : XF := fun δ =>
  (fa δ).bind fun r1 => (fb r1.2).bind fun r2 => (rdv r2.2 r1.1).bind fun d1 => (rdv r2.2 r2.1).bind fun d2 => (f2 d1 d2).map fun o => (.val o, r2.2)
def negD : D → Option O
  | .int i => some (.sh (.int (-i)))
  | _ => none
def x1 (f1 : D → Option O) (fa : XF) : XF := fun δ => (fa δ).bind fun r1 => (rdv r1.2 r1.1).bind fun d1 => (f1 d1).map fun o => (.val o, r1.2)
/-- a value as a test -/
def tB (f : XF) : DS → Option (Bool × DS) := fun δ => (f δ).bind fun r => match r.1 with
  | .val (.sh (.bl b)) => some (b, r.2)
  | _ => none
section
variable {X : Cx} {g : Gx} {pos : Pos} {a b c e : Expr} {fa fb fc : XF} {rest : List Expr}
theorem op_core {f2 : D → D → Option O} {σ : L2.St} {H : Hp} {Q : VK} (h : rdE X.K (x2 f2 fa fb) σ H Q) : tOp (O1 X.K f2) (rdE X.K fa) (rdE X.K fb) σ H Q := by
  obtain ⟨g, Z, δ, S, T, r, st, hf, post⟩ := h
  simp only [x2, Option.bind_eq_some_iff, Option.map_eq_some_iff] at hf
  obtain ⟨⟨ea, δ1⟩, h1, ⟨eb, δ2⟩, h2, d1, h3, d2, h4, o, h5, rfl⟩ := hf
  exact ⟨g, Z, δ, S, T, _, st, h1, fun x Z1 H1 st1 al1 => ⟨g, Z1, δ1, _, _, _, st1, h2, fun y Z2 H2 st2 al2 => ⟨Z2, d1, d2, o, st2.pop.lk al1 h3, st2.lk al2 h4, h5, fun v H' rs => post v Z2 H' (st2.drop2.push rs) trivial⟩⟩⟩
theorem ve_op {op : Operator} {f2 : D → D → Option O} (ho : OpV X (binaryOp op) f2) (ha : VE X a fa) (hb : VE X b fb) : VE X (.BinOp a op b pos) (x2 f2 fa fb) := PEi (pe_op ho ha hb) fun σ H Q h => op_core h
theorem ve_cmp {op : CmpOp} {f2 : D → D → Option O} (ho : OpV X (compareOp op) f2) (ha : VE X a fa) (hb : VE X b fb) (hm : behindInMarks op b = false) : VE X (.Compare a [op] [b] pos) (x2 f2 fa fb) := PEi (pe_cmpR ho ha hb hm) fun σ H Q h => op_core h
theorem ve_ix (hu : X.A.units + 1 < cLine) (ha : VE X a fa) (hb : VE X b fb) (hs : PlainIx b) : VE X (.Subscript a b pos) (x2 opIx fa fb) := PEi (pe_ix (iv_ix hu) ha hb hs) fun σ H Q h => op_core h
/-- from a value's reading to a test's -/
theorem test_core {f : XF} {t : TE} {σ : L2.St} {H : Hp} {Q : Bool → Hp → Prop} (ht : ∀ σ H Q, rdE X.K f σ H Q → t σ H Q) (h : rdT X.K (VS.tB f) σ H Q) : t σ H (fun x H' => ∃ k, x = .bl k ∧ Q k H') := by
  obtain ⟨g, Z, δ, S, T, r, st, hf, post⟩ := h
  simp only [VS.tB, Option.bind_eq_some_iff] at hf
  obtain ⟨⟨e, δ1⟩, h1, h2⟩ := hf
  refine ht _ _ _ ⟨g, Z, δ, S, T, _, st, h1, fun v Z1 H1 st1 al1 => ?_⟩
  split at h2
  · rename_i bb q
    cases h2
    have q' : e = .val (.sh (.bl bb)) := q
    subst q'
    obtain ⟨F, ro⟩ := st1.top
    simp only [RepO, RepD] at ro
    exact ⟨bb, ro.2, post Z1 H1 st1.pop⟩
  · cases h2
theorem vt_cmp {op : CmpOp} {f2 : D → D → Option O} (ho : OpV X (compareOp op) f2) (ha : VE X a fa) (hb : VE X b fb) (hm : behindInMarks op b = false) : VT X (.Compare a [op] [b] pos) (VS.tB (x2 f2 fa fb)) :=
  PTi (pt_cmpR ho ha hb hm) fun σ H Q h => test_core (fun _ _ _ q => op_core q) h
theorem vt_val {f : XF} (h : VE X e f) (he : ∀ whole, isTrue e X.env whole = (do let v ← whole; standAt e.pos; holding [v] (truthy v)) := by intro _; rfl) : VT X e (VS.tB f) :=
  PTi (pt_val h he) fun σ H Q q => test_core (fun _ _ _ q => q) q
theorem ve_neg (ha : VE X a fa) : VE X (.UnaryOp .USub a pos) (x1 negD fa) := PEi (pe_un un_neg ha) fun σ H Q ⟨g, Z, δ, S, T, r, st, hf, post⟩ => by
  simp only [x1, Option.bind_eq_some_iff, Option.map_eq_some_iff] at hf
  obtain ⟨⟨ea, δ1⟩, h1, d1, h3, o, h5, rfl⟩ := hf
  refine ⟨g, Z, δ, S, T, _, st, h1, fun x Z1 H1 st1 al1 => ?_⟩
  have l := st1.lk al1 h3
  cases d1 <;> simp only [negD, reduceCtorEq] at h5
  cases l.int
  cases h5
  exact ⟨_, rfl, post _ Z1 H1 (st1.pop.push Res.int) trivial⟩
def xCh (f2 f2' : D → D → Option O) (fa fb fc : XF) : XF := fun δ =>
  (fa δ).bind fun r1 => (fb r1.2).bind fun r2 => (rdv r2.2 r1.1).bind fun d1 => (rdv r2.2 r2.1).bind fun d2 => (f2 d1 d2).bind fun o =>
    match o with
    | .sh (.bl true) => (fc r2.2).bind fun r3 => (rdv r3.2 r2.1).bind fun d2' => (rdv r3.2 r3.1).bind fun d3 => (f2' d2' d3).map fun o => (.val o, r3.2)
    | .sh (.bl false) => some (.val (.sh (.bl false)), r2.2)
    | _ => none
theorem chain_core {f2 f2' : D → D → Option O} {σ : L2.St} {H : Hp} {Q : VK} (h : rdE X.K (xCh f2 f2' fa fb fc) σ H Q) : tChain (O1 X.K f2) (O1 X.K f2') (rdE X.K fa) (rdE X.K fb) (rdE X.K fc) σ H Q := by
  obtain ⟨g, Z, δ, S, T, r, st, hf, post⟩ := h
  simp only [xCh, Option.bind_eq_some_iff] at hf
  obtain ⟨⟨ea, δ1⟩, h1, ⟨eb, δ2⟩, h2, d1, h3, d2, h4, o, h5, h6⟩ := hf
  refine ⟨g, Z, δ, S, T, _, st, h1, fun x Z1 H1 st1 al1 => ⟨g, Z1, δ1, _, _, _, st1, h2, fun y Z2 H2 st2 al2 => ⟨Z2, d1, d2, o, st2.pop.lk al1 h3, st2.lk al2 h4, h5, fun v H' rs => ?_⟩⟩⟩
  have st3 := st2.push rs
  split at h6
  · obtain ⟨F, ro⟩ := st3.top
    simp only [RepO, RepD] at ro
    refine ⟨true, ro.2, ?_⟩
    rw [if_pos rfl]
    simp only [Option.bind_eq_some_iff, Option.map_eq_some_iff] at h6
    obtain ⟨⟨ec, δ3⟩, h7, d2', h8, d3, h9, o', h10, rfl⟩ := h6
    exact ⟨g, Z2, δ2, _, _, _, st3.pop, h7, fun w Z4 H4 st4 al4 => ⟨Z4, d2', d3, o', st4.pop.lk al2 h8, st4.lk al4 h9, h10, fun v H' rs => post v Z4 H' (st4.pop.drop2.push rs) trivial⟩⟩
  · obtain ⟨F, ro⟩ := st3.top
    simp only [RepO, RepD] at ro
    refine ⟨false, ro.2, ?_⟩
    rw [if_neg Bool.false_ne_true]
    cases h6
    exact post _ Z2 H' (st3.pop.drop2.push Res.bl) trivial
  · cases h6
theorem ve_chain {op op' : CmpOp} {f2 f2' : D → D → Option O} (ho : OpV X (compareOp op) f2) (ho' : OpV X (compareOp op') f2') (ha : VE X a fa) (hb : VE X b fb) (hc : VE X c fc)
    (hm : lastMarks [op, op'] [b, c] = false := by with_unfolding_all rfl) : VE X (.Compare a [op, op'] [b, c] pos) (xCh f2 f2' fa fb fc) := PEi (pe_chain ho ho' ha hb hc hm) fun σ H Q h => chain_core h
theorem vt_chain {op op' : CmpOp} {f2 f2' : D → D → Option O} (ho : OpV X (compareOp op) f2) (ho' : OpV X (compareOp op') f2') (ha : VE X a fa) (hb : VE X b fb) (hc : VE X c fc)
    (hm : lastMarks [op, op'] [b, c] = false := by with_unfolding_all rfl) : VT X (.Compare a [op, op'] [b, c] pos) (VS.tB (xCh f2 f2' fa fb fc)) := PTi (pt_chain ho ho' ha hb hc hm) fun σ H Q h => test_core (fun _ _ _ q => chain_core q) h
abbrev TF := DS → Option (Bool × DS)
def xAnd (fa fb : XF) : XF := fun δ => (tB fa δ).bind fun r => if r.1 then fb r.2 else some (.val (.sh (.bl false)), r.2)
def xOr (fa fb : XF) : XF := fun δ => (tB fa δ).bind fun r => if r.1 then some (.val (.sh (.bl true)), r.2) else fb r.2
def xNot (fa : XF) : XF := fun δ => (tB fa δ).map fun r => (.val (.sh (.bl (!r.1))), r.2)
def tAnd' (ta tb : TF) : TF := fun δ => (ta δ).bind fun r => if r.1 then tb r.2 else some (false, r.2)
def tOr' (ta tb : TF) : TF := fun δ => (ta δ).bind fun r => if r.1 then some (true, r.2) else tb r.2
def tNot' (ta : TF) : TF := fun δ => (ta δ).map fun r => (!r.1, r.2)
def xIf (t : TF) (fa fb : XF) : XF := fun δ => (t δ).bind fun r => if r.1 then fa r.2 else fb r.2
theorem tB_core {f : XF} {σ : L2.St} {H : Hp} {Q : V → Hp → Prop} {Z : Addr → Prop} {δ : DS} {S : DS} {T : L2.St} {r : Bool × DS} (st : StV X.K g Z H δ σ S T) (h : VS.tB f δ = some r)
    (k : ∀ Z' H', StV X.K g Z' H' r.2 σ S T → Q (.bl r.1) H') : rdE X.K f σ H Q := by
  simp only [VS.tB, Option.bind_eq_some_iff] at h
  obtain ⟨⟨e, δ1⟩, h1, h2⟩ := h
  refine ⟨g, Z, δ, S, T, _, st, h1, fun v Z1 H1 st1 al1 => ?_⟩
  split at h2
  · rename_i bb q
    cases h2
    have q' : e = .val (.sh (.bl bb)) := q
    subst q'
    obtain ⟨F, ro⟩ := st1.top
    simp only [RepO, RepD] at ro
    rw [ro.2]
    exact k Z1 H1 st1.pop
  · cases h2
theorem ve_one {op} (h : VE X a fa) : VE X (.BoolOp op [a] pos) fa := pe_one h
theorem ve_and (ha : VE X a fa) (hb : VE X (.BoolOp .And (b :: rest) pos) fb) : VE X (.BoolOp .And (a :: b :: rest) pos) (xAnd fa fb) := PEi (pe_and ha hb) fun σ H Q ⟨g, Z, δ, S, T, r, st, hf, post⟩ => by
  simp only [xAnd, Option.bind_eq_some_iff] at hf
  obtain ⟨⟨k, δ1⟩, h1, h2⟩ := hf
  refine tB_core st h1 fun Z1 H1 st1 => ⟨k, rfl, ?_⟩
  cases k with
  | true => exact ⟨g, Z1, δ1, S, T, r, st1, h2, post⟩
  | false =>
    cases h2
    exact post _ Z1 H1 (st1.push Res.bl) trivial
theorem ve_not (ha : VE X a fa) : VE X (.UnaryOp .Not a pos) (xNot fa) := PEi (pe_not ha) fun σ H Q ⟨g, Z, δ, S, T, r, st, hf, post⟩ => by
  simp only [xNot, Option.map_eq_some_iff] at hf
  obtain ⟨⟨k, δ1⟩, h1, rfl⟩ := hf
  exact tB_core st h1 fun Z1 H1 st1 => ⟨k, rfl, post _ Z1 H1 (st1.push Res.bl) trivial⟩
theorem vt_not {ta : TF} (ha : VT X a ta) : VT X (.UnaryOp .Not a pos) (tNot' ta) := PTi (pt_not ha) fun σ H Q ⟨g, Z, δ, S, T, r, st, hf, post⟩ => by
  simp only [tNot', Option.map_eq_some_iff] at hf
  obtain ⟨⟨k, δ1⟩, h1, rfl⟩ := hf
  exact ⟨g, Z, δ, S, T, _, st, h1, fun Z1 H1 st1 => post Z1 H1 st1⟩
abbrev VW (X : Cx) (e : Expr) (f : TF) : Prop := PW X e (rdT X.K f)
theorem vw_or1 {ta : TF} (ha : VT X a ta) : VW X (.BoolOp .Or [a] pos) ta := pw_or1 ha
theorem vw_or {ta tb : TF} (ha : VT X a ta) (hb : VW X (.BoolOp .Or (b :: rest) pos) tb) : VW X (.BoolOp .Or (a :: b :: rest) pos) (tOr' ta tb) := PWi (pw_or ha hb) fun σ H Q ⟨g, Z, δ, S, T, r, st, hf, post⟩ => by
  simp only [tOr', Option.bind_eq_some_iff] at hf
  obtain ⟨⟨k, δ1⟩, h1, h2⟩ := hf
  refine ⟨g, Z, δ, S, T, _, st, h1, fun Z1 H1 st1 => ?_⟩
  cases k with
  | false => exact ⟨g, Z1, δ1, S, T, r, st1, h2, post⟩
  | true =>
    cases h2
    exact post Z1 H1 st1
theorem ve_if {tc : TF} (hc : VT X c tc) (ha : VE X a fa) (hb : VE X b fb) : VE X (.IfExp c a b pos) (xIf tc fa fb) := PEi (pe_ifExp hc ha hb) fun σ H Q ⟨g, Z, δ, S, T, r, st, hf, post⟩ => by
  simp only [xIf, Option.bind_eq_some_iff] at hf
  obtain ⟨⟨k, δ1⟩, h1, h2⟩ := hf
  refine ⟨g, Z, δ, S, T, _, st, h1, fun Z1 H1 st1 => ?_⟩
  cases k with
  | true => exact ⟨g, Z1, δ1, S, T, r, st1, h2, post⟩
  | false => exact ⟨g, Z1, δ1, S, T, r, st1, h2, post⟩
end
abbrev BF := DS → Option (List O × DS)
def otmp (os : List O) : DS := (os.map some).reverse
def rdB (K : PySem.W.Frag) (f : BF) : TA := fun σ H Q => ∃ g Z δ S T r, StV K g Z H δ σ S T ∧ f δ = some r ∧
  ∀ vs Z' H', StV K g Z' H' r.2 σ (otmp r.1 ++ S) (vtmps vs ++ T) → r.1.length = vs.length → Q vs H'
def bNil : BF := fun δ => some ([], δ)
def bCons (fa : XF) (fr : BF) : BF := fun δ => (fa δ).bind fun r1 => (tk r1.2 r1.1).bind fun r2 => (fr r2.2).map fun r3 => (r2.1 :: r3.1, r3.2)
section
variable {X : Cx} {g : Gx} {pos : Pos} {a b c e : Expr} {fa fb fc : XF} {es : List Expr} {fs : BF}
abbrev VB (X : Cx) (es : List Expr) (f : BF) : Prop := PA X es (rdB X.K f)
theorem vb_nil : VB X [] bNil := PAi pa_nil fun σ H Q ⟨g, Z, δ, S, T, r, st, hf, post⟩ => by
  cases hf
  exact post [] Z H st rfl
theorem vb_cons (ha : VE X e fa) (hr : VB X es fs) (hs : starEach (e :: es) X.env = (false, eval e X.env) :: starEach es X.env := by rfl) : VB X (e :: es) (bCons fa fs) := PAi (pa_cons ha hr hs) fun σ H Q ⟨g, Z, δ, S, T, r, st, hf, post⟩ => by
  simp only [bCons, Option.bind_eq_some_iff, Option.map_eq_some_iff] at hf
  obtain ⟨⟨e1, δ1⟩, h1, ⟨o, δ2⟩, h2, ⟨os, δ3⟩, h3, rfl⟩ := hf
  refine ⟨g, Z, δ, S, T, _, st, h1, fun x Z1 H1 st1 al1 => ?_⟩
  obtain ⟨Z2, st2, _⟩ := st1.tk al1 h2
  refine ⟨g, Z2, δ2, _, _, _, st2, h3, fun vs Z3 H3 st3 hl => ?_⟩
  refine post (x :: vs) Z3 H3 ?_ (by simp [hl])
  have e1 : otmp (o :: os) ++ S = otmp os ++ (some o :: S) := by simp [otmp]
  have e2 : vtmps (x :: vs) ++ T = vtmps vs ++ (some x :: T) := by simp [vtmps]
  rw [e1, e2]
  exact st3
def xTup (fs : BF) : XF := fun δ => (fs δ).bind fun r => if r.1.length ≤ sizeLine then some (.val (.sh (.tup (r.1.map O.fz))), r.2) else none
def xLst (fs : BF) : XF := fun δ => (fs δ).bind fun r => if r.1.length ≤ sizeLine then some (.val (.lst (r.1.map O.fz)), r.2) else none
theorem ve_tup {x1} (h : VB X es fs) : VE X (.Tuple es x1 pos) (xTup fs) := PEi (pe_tup h) fun σ H Q ⟨g, Z, δ, S, T, r, st, hf, post⟩ => by
  simp only [xTup, Option.bind_eq_some_iff] at hf
  obtain ⟨⟨os, δ1⟩, h1, h2⟩ := hf
  split at h2
  · rename_i hz
    cases h2
    refine ⟨g, Z, δ, S, T, _, st, h1, fun vs Z1 H1 st1 hl => ⟨by rw [← hl]; exact hz, fun p hp => ?_⟩⟩
    obtain ⟨Z2, st2, rl⟩ := StV.frzL hl st1
    exact post _ Z2 _ (st2.push (Res.tup hp rl)) trivial
  · cases h2
theorem ve_lst (h : VB X es fs) : VE X (.List es pos) (xLst fs) := PEi (pe_lst h) fun σ H Q ⟨g, Z, δ, S, T, r, st, hf, post⟩ => by
  simp only [xLst, Option.bind_eq_some_iff] at hf
  obtain ⟨⟨os, δ1⟩, h1, h2⟩ := hf
  split at h2
  · rename_i hz
    cases h2
    refine ⟨g, Z, δ, S, T, _, st, h1, fun vs Z1 H1 st1 hl => ⟨by rw [← hl]; exact hz, fun p hp => ?_⟩⟩
    obtain ⟨Z2, st2, rl⟩ := StV.frzL hl st1
    exact post _ Z2 _ (st2.push (Res.lst hp rl)) trivial
  · cases h2
theorem ve_dK : VE X (.Dict [] [] pos) (fun δ => some (.val (.dK []), δ)) := PEi pe_dnewK fun σ H Q ⟨g, Z, δ, S, T, r, st, hf, post⟩ => by
  cases hf
  exact fun p hp => post _ Z _ (st.push (Res.dK hp (by simp only [RepK]))) trivial
theorem Res.dT {K : PySem.W.Frag} {Z : Addr → Prop} {H : Hp} {p : Addr} {ds : List (List Key × D)} {vs : List (List Key × V)} (h : H p = none) (r : RepT K Z H ds vs) : Res K Z H (.dT ds) (.ref p) (L2.upd H p (.dT vs)) := by
  have s := Same.upd (o := .dT vs) h
  refine ⟨[p], s, ?_, by simp, fun a ha => ?_⟩
  · simp only [RepO]
    exact ⟨p, vs, rfl, rfl, upd_same, RepT.keep (Same.keep s) ds vs r⟩
  · have e : a = p := by simpa using ha
    rw [e]; exact h
end
end VS
namespace VS
open PySem PySem.Spec L2
section
variable {K : PySem.W.Frag} {g : Gx} {Z Z' : Addr → Prop} {H H' : Hp} {δ S U : DS} {σ T W : L2.St} {o : O} {v : V}
theorem set_self {α : Type} {l : List α} {i : Nat} {y : α} (h : l[i]? = some y) : l.set i y = l := by
  refine List.ext_getElem? fun j => ?_
  by_cases hj : i = j
  · subst hj
    rw [h]
    have hl : i < l.length := (List.getElem?_eq_some_iff.mp h).1
    rw [List.getElem?_set_self hl]
  · rw [List.getElem?_set_ne hj]
theorem StV.asgY {i : Nat} {x : Option O} {y : Option V} (s : StV K g Z H δ σ (x :: S) (y :: T)) : StV K g Z H (δ.set i x) (σ.set i y) S T := by
  obtain ⟨Fs, Ft, h1, ⟨y', r, F1, F2, e, f, h3, h4⟩, w⟩ := s
  cases e
  cases hi : δ[i]? with
  | none =>
    have hl : δ.length ≤ i := List.getElem?_eq_none_iff.mp hi
    rw [List.set_eq_of_length_le hl, List.set_eq_of_length_le (by rw [← h1.length]; exact hl)]
    exact ⟨Fs, F2, h1, h4, w.sub (by rw [f]; exact List.Sublist.append (List.Sublist.refl _) (List.sublist_append_right _ _))⟩
  | some x0 =>
    obtain ⟨y0, Fi, Fr, e, p, q, put⟩ := h1.at hi
    obtain ⟨F', s1, s2⟩ := put Z H x y F1 (Keep.refl Z H) (fun _ _ _ h => h) h3
    refine ⟨F', F2, s1, h4, ?_⟩
    have p2 : (Fs ++ Ft).Perm (Fi ++ (F' ++ F2)) := by
      rw [f]
      refine (List.Perm.append_right _ p).trans ?_
      rw [List.append_assoc]
      refine List.Perm.append_left _ ?_
      rw [← List.append_assoc]
      refine List.Perm.append_right _ ?_
      exact (List.perm_append_comm).trans s2.symm
    exact (w.perm p2).sub (List.sublist_append_right _ _)
/-- a slot's content goes to the temporaries -/
theorem StV.save (s : StV K g Z H δ σ S T) (i : Nat) : StV K g Z H (δ.set i none) (σ.set i none) ((δ[i]?).join :: S) ((σ[i]?).join :: T) := by
  obtain ⟨Fs, Ft, h1, h2, w⟩ := s
  cases hi : δ[i]? with
  | none =>
    have hl : δ.length ≤ i := List.getElem?_eq_none_iff.mp hi
    rw [List.set_eq_of_length_le hl, List.set_eq_of_length_le (by rw [← h1.length]; exact hl)]
    exact ⟨Fs, Ft, h1, ⟨_, T, [], Ft, rfl, rfl, rfl, h2⟩, w⟩
  | some x0 =>
    obtain ⟨y0, Fi, Fr, e, p, q, put⟩ := h1.at hi
    obtain ⟨F', s1, s2⟩ := put Z H none none [] (Keep.refl Z H) (fun _ _ _ h => h) rfl
    rw [e]
    refine ⟨F', Fi ++ Ft, s1, ⟨y0, T, Fi, Ft, rfl, rfl, q, h2⟩, w.perm ?_⟩
    refine (List.Perm.append_right _ p).trans ?_
    rw [List.append_assoc]
    refine (List.Perm.append_left _ (List.Perm.append_right _ s2.symm)).trans ?_
    rw [← List.append_assoc, ← List.append_assoc]
    exact List.Perm.append_right _ List.perm_append_comm
theorem StV.mid {A : DS} {B : L2.St} (hA : A.length = B.length) (hU : U.length = W.length) (s : StV K g Z H δ σ (A ++ (U ++ S)) (B ++ (W ++ T))) : StV K g Z H δ σ (A ++ S) (B ++ T) := by
  obtain ⟨Fs, Ft, h1, h2, w⟩ := s
  obtain ⟨F1, F2, f, a1, a2⟩ := RepS.append hA h2
  obtain ⟨F3, F4, f2, a3, a4⟩ := RepS.append hU a2
  have app : ∀ {A : DS} {B : L2.St} {F : List Addr}, RepS K Z H A B F → RepS K Z H (A ++ S) (B ++ T) (F ++ F4) := by
    intro A
    induction A with
    | nil =>
      intro B F h
      obtain ⟨e1, e2⟩ : B = [] ∧ F = [] := h
      subst e1 e2
      exact a4
    | cons x A ih =>
      intro B F ⟨y, r, G1, G2, e, f, q1, q2⟩
      subst e f
      exact ⟨y, r ++ T, G1, G2 ++ F4, rfl, by rw [List.append_assoc], q1, ih q2⟩
  refine ⟨Fs, F1 ++ F4, h1, app a1, w.sub ?_⟩
  rw [f, f2]
  exact List.Sublist.append (List.Sublist.refl _) (List.Sublist.append (List.Sublist.refl _) (List.sublist_append_right _ _))
theorem StV.popN (hU : U.length = W.length) (s : StV K g Z H δ σ (U ++ S) (W ++ T)) : StV K g Z H δ σ S T := StV.mid (A := []) (B := []) rfl hU s
/-- out of its slot -/
theorem StV.mv {i : Nat} (s : StV K g Z H δ σ S T) (h : δ[i]? = some (some o)) (hv : σ[i]? = some (some v)) : StV K g Z H (δ.set i none) σ (some o :: S) (some v :: T) := by
  obtain ⟨Fs, Ft, h1, h2, w⟩ := s
  obtain ⟨y0, Fi, Fr, e, p, q, put⟩ := h1.at h
  rw [hv] at e
  cases e
  obtain ⟨F', s1, s2⟩ := put Z H none (some v) [] (Keep.refl Z H) (fun _ _ _ h => h) rfl
  rw [set_self hv] at s1
  refine ⟨F', Fi ++ Ft, s1, ⟨some v, T, Fi, Ft, rfl, rfl, q, h2⟩, w.perm ?_⟩
  refine (List.Perm.append_right _ p).trans ?_
  rw [List.append_assoc]
  refine (List.Perm.append_left _ (List.Perm.append_right _ s2.symm)).trans ?_
  rw [← List.append_assoc, ← List.append_assoc]
  exact List.Perm.append_right _ List.perm_append_comm
end
inductive Fl where
  | nx (δ : DS) | rt (o : O) (δ : DS) | bk (δ : DS) | ct (δ : DS)
abbrev SF := DS → Option Fl
/-- the slots of M hold what they held -/
def Agree (M : List Nat) (σ σ' : L2.St) : Prop := σ'.length = σ.length ∧ ∀ i ∈ M, σ'[i]? = σ[i]?
theorem Agree.refl (M : List Nat) (σ : L2.St) : Agree M σ σ := ⟨rfl, fun _ _ => rfl⟩
theorem Agree.trans {M : List Nat} {σ σ' σ'' : L2.St} (a : Agree M σ σ') (b : Agree M σ' σ'') : Agree M σ σ'' := ⟨b.1.trans a.1, fun i hi => (b.2 i hi).trans (a.2 i hi)⟩
def PostS (K : PySem.W.Frag) (M : List Nat) (g : Gx) (σ : L2.St) (S : DS) (T : L2.St) (D : Ends) : Fl → Prop
  | .nx δ' => ∀ σ' Z' H', StV K g Z' H' δ' σ' S T → Agree M σ σ' → D.nx σ' H'
  | .rt o δ' => ∀ v σ' Z' H', StV K g Z' H' δ' σ' (some o :: S) (some v :: T) → Agree M σ σ' → D.rt v H'
  | .bk δ' => ∀ σ' Z' H', StV K g Z' H' δ' σ' S T → Agree M σ σ' → D.bk σ' H'
  | .ct δ' => ∀ σ' Z' H', StV K g Z' H' δ' σ' S T → Agree M σ σ' → D.ct σ' H'
def rdS (K : PySem.W.Frag) (M : List Nat) (f : SF) : TS := fun D σ H => ∃ g Z δ S T r, StV K g Z H δ σ S T ∧ f δ = some r ∧ PostS K M g σ S T D r
theorem PostS.agree {K : PySem.W.Frag} {M : List Nat} {g : Gx} {σ σ1 : L2.St} {S : DS} {T : L2.St} {D : Ends} {fl : Fl} (p : PostS K M g σ S T D fl) (a : Agree M σ σ1) : PostS K M g σ1 S T D fl := by
  cases fl with
  | nx δ' => exact fun σ' Z' H' st ag => p σ' Z' H' st (a.trans ag)
  | rt o δ' => exact fun v σ' Z' H' st ag => p v σ' Z' H' st (a.trans ag)
  | bk δ' => exact fun σ' Z' H' st ag => p σ' Z' H' st (a.trans ag)
  | ct δ' => exact fun σ' Z' H' st ag => p σ' Z' H' st (a.trans ag)
section
variable {X : Cx} {M : List Nat} {pos : Pos} {st : Stmt} {rest : List Stmt} {e : Expr} {f fr : SF} {fe : XF}
theorem PSi {t t' : TS} (h : PS X st t) (k : ∀ D σ H, t' D σ H → t D σ H) : PS X st t' := ⟨fun pins s σ H D I q => h.run pins s σ H D I (k D σ H q)⟩
theorem PSsi {sts : List Stmt} {t t' : TS} (h : PSs X sts t) (k : ∀ D σ H, t' D σ H → t D σ H) : PSs X sts t' := ⟨fun pins s σ H D I q => h.run pins s σ H D I (k D σ H q)⟩
abbrev VX (X : Cx) (M : List Nat) (st : Stmt) (f : SF) : Prop := PS X st (rdS X.K M f)
abbrev VXs (X : Cx) (M : List Nat) (st : List Stmt) (f : SF) : Prop := PSs X st (rdS X.K M f)
def sNil : SF := fun δ => some (.nx δ)
def sNev : SF := fun _ => none
def sSeq (f fr : SF) : SF := fun δ => (f δ).bind fun r => match r with
  | .nx δ' => fr δ'
  | r => some r
theorem vs_nil : VXs X M [] sNil := PSsi pss_nil fun D σ H ⟨g, Z, δ, S, T, r, st, hf, post⟩ => by
  cases hf
  exact post σ Z H st (Agree.refl _ _)
theorem vs_never : VX X M st sNev := PSi ps_never fun D σ H ⟨g, Z, δ, S, T, r, st, hf, post⟩ => by cases hf
theorem vs_cons (h1 : VX X M st f) (h2 : VXs X M rest fr) : VXs X M (st :: rest) (sSeq f fr) := PSsi (pss_cons h1 h2) fun D σ H ⟨g, Z, δ, S, T, r, st, hf, post⟩ => by
  simp only [sSeq, Option.bind_eq_some_iff] at hf
  obtain ⟨fl, h3, h4⟩ := hf
  refine ⟨g, Z, δ, S, T, fl, st, h3, ?_⟩
  cases fl with
  | nx δ' => exact fun σ' Z' H' st' ag => ⟨g, Z', δ', S, T, r, st', h4, post.agree ag⟩
  | rt o δ' => cases h4; exact post
  | bk δ' => cases h4; exact post
  | ct δ' => cases h4; exact post
theorem vs_one (h1 : VX X M st f) : VXs X M [st] f := pss_one h1
/-- an expression, dropped -/
def sExpr (fe : XF) : SF := fun δ => (fe δ).map fun r => .nx r.2
theorem vs_expr (he : VE X e fe) (hs : swapsWith e none pos.line X.env = pure false := by rfl) : VX X M (.Expr e pos) (sExpr fe) := PSi (ps_expr he hs) fun D σ H ⟨g, Z, δ, S, T, r, st, hf, post⟩ => by
  simp only [sExpr, Option.map_eq_some_iff] at hf
  obtain ⟨⟨ev, δ1⟩, h1, rfl⟩ := hf
  exact ⟨g, Z, δ, S, T, _, st, h1, fun v Z1 H1 st1 al1 => post σ Z1 H1 st1.pop (Agree.refl _ _)⟩
/-- return: what stands in a slot that is no parameter leaves as it is -/
def mvE (n : Nat) (δ : DS) : Ev → Option (O × DS)
  | .val o => some (o, δ)
  | .at i => if i < n then tk δ (.at i) else match δ[i]? with
    | some (some o) => some (o, δ.set i none)
    | _ => none
def sRet (n : Nat) (fe : XF) : SF := fun δ => (fe δ).bind fun r => (mvE n r.2 r.1).map fun r => .rt r.1 r.2
theorem vs_ret (n : Nat) (he : VE X e fe) : VX X M (.Return (some e) pos) (sRet n fe) := PSi (ps_ret he) fun D σ H ⟨g, Z, δ, S, T, r, st, hf, post⟩ => by
  simp only [sRet, Option.bind_eq_some_iff, Option.map_eq_some_iff] at hf
  obtain ⟨⟨ev, δ1⟩, h1, ⟨o, δ2⟩, h2, rfl⟩ := hf
  refine ⟨g, Z, δ, S, T, _, st, h1, fun v Z1 H1 st1 al1 => ?_⟩
  cases ev with
  | val o' =>
    cases h2
    exact post v σ Z1 H1 st1 (Agree.refl _ _)
  | «at» i =>
    simp only [mvE] at h2
    split at h2
    · obtain ⟨Z2, st2, _⟩ := st1.tk al1 h2
      exact post v σ Z2 H1 st2 (Agree.refl _ _)
    · split at h2
      · rename_i o' q
        cases h2
        exact post v σ Z1 H1 (st1.pop.mv q al1) (Agree.refl _ _)
      · cases h2
def sIf (t : TF) (fa fb : SF) : SF := fun δ => (t δ).bind fun r => if r.1 then fa r.2 else fb r.2
theorem vs_if {c : Expr} {a b : List Stmt} {tc : TF} {fa fb : SF} (hc : VT X c tc) (ha : VXs X M a fa) (hb : VXs X M b fb) : VX X M (.If c a b pos) (sIf tc fa fb) := PSi (ps_if hc ha hb) fun D σ H ⟨g, Z, δ, S, T, r, st, hf, post⟩ => by
  simp only [sIf, Option.bind_eq_some_iff] at hf
  obtain ⟨⟨k, δ1⟩, h1, h2⟩ := hf
  refine ⟨g, Z, δ, S, T, _, st, h1, fun Z1 H1 st1 => ?_⟩
  cases k with
  | true => exact ⟨g, Z1, δ1, S, T, r, st1, h2, post⟩
  | false => exact ⟨g, Z1, δ1, S, T, r, st1, h2, post⟩
abbrev GF := D → DS → Option DS
def Out (L : List Nat) (σ σ' : L2.St) : Prop := σ'.length = σ.length ∧ ∀ j, j ∉ L → σ'[j]? = σ[j]?
def rdG (K : PySem.W.Frag) (L : List Nat) (gt : GF) : TG := fun v σ H Q => ∃ g Z δ S T d δ', StV K g Z H δ σ (some (.sh d) :: S) (some v :: T) ∧ gt d δ = some δ' ∧
  ∀ σ' Z' H', StV K g Z' H' δ' σ' S T → Out L σ σ' → Q σ' H'
def rdGs (K : PySem.W.Frag) (L : List Nat) (gt : List D → DS → Option DS) : TGs := fun vs σ H Q => ∃ g Z δ S T ds δ', ds.length = vs.length ∧ StV K g Z H δ σ (ds.map (fun d => some (.sh d)) ++ S) (vs.map some ++ T) ∧ gt ds δ = some δ' ∧
  ∀ σ' Z' H', StV K g Z' H' δ' σ' S T → Out L σ σ' → Q σ' H'
theorem PGi {t t' : TG} (h : PG X e t) (k : ∀ v σ H Q, t' v σ H Q → t v σ H Q) : PG X e t' := ⟨fun pins s σ H v u Q I r q => h.run pins s σ H v u Q I r (k v σ H Q q)⟩
theorem PGsi {es : List Expr} {t t' : TGs} (h : PGs X es t) (k : ∀ v σ H Q, t' v σ H Q → t v σ H Q) : PGs X es t' := ⟨fun pins s σ H v u Q I r q => h.run pins s σ H v u Q I r (k v σ H Q q)⟩
abbrev VG (X : Cx) (L : List Nat) (e : Expr) (gt : GF) : Prop := PG X e (rdG X.K L gt)
abbrev VGs (X : Cx) (L : List Nat) (es : List Expr) (gt : List D → DS → Option DS) : Prop := PGs X es (rdGs X.K L gt)
def gN (i : Nat) : GF := fun d δ => some (δ.set i (some (.sh d)))
def gsNil : List D → DS → Option DS
  | [], δ => some δ
  | _, _ => none
def gsCons (gt : GF) (gr : List D → DS → Option DS) : List D → DS → Option DS
  | d :: ds, δ => (gt d δ).bind (gr ds)
  | _, _ => none
def gT (n : Nat) (gts : List D → DS → Option DS) : GF
  | .tup ds, δ => if ds.length = n then gts ds δ else none
  | _, _ => none
theorem Out.set (σ : L2.St) (i : Nat) (y : Option V) : Out [i] σ (σ.set i y) := ⟨by simp, fun j hj => by
  rw [List.getElem?_set_ne]
  exact fun h => hj (by rw [h]; exact List.mem_singleton_self _)⟩
theorem vg_name {i : Nat} (h : PG X e (gName i)) : VG X [i] e (gN i) := PGi h fun v σ H Q ⟨g, Z, δ, S, T, d, δ', st, hf, post⟩ => by
  cases hf
  exact post _ Z H st.asgY (Out.set _ _ _)
theorem vgs_nil : VGs X [] [] gsNil := PGsi pgs_nil fun vs σ H Q ⟨g, Z, δ, S, T, ds, δ', hl, st, hf, post⟩ => by
  cases ds with
  | nil =>
    cases hf
    have e : vs = [] := List.eq_nil_of_length_eq_zero hl.symm
    subst e
    exact ⟨rfl, post σ Z H st ⟨rfl, fun _ _ => rfl⟩⟩
  | cons _ _ => cases hf
theorem Out.trans {L L' : List Nat} {σ σ' σ'' : L2.St} (a : Out L σ σ') (b : Out L' σ' σ'') : Out (L ++ L') σ σ'' := ⟨b.1.trans a.1, fun j hj => (b.2 j fun h => hj (List.mem_append_right _ h)).trans (a.2 j fun h => hj (List.mem_append_left _ h))⟩
theorem vgs_cons {L L' : List Nat} {es : List Expr} {gt : GF} {gr : List D → DS → Option DS} (h1 : VG X L e gt) (h2 : VGs X L' es gr)
    (hs : (assignEach (e :: es) X.env).map (·.2) = assign e X.env :: (assignEach es X.env).map (·.2) := by rfl) : VGs X (L ++ L') (e :: es) (gsCons gt gr) := PGsi (pgs_cons h1 h2 hs) fun vs σ H Q ⟨g, Z, δ, S, T, ds, δ', hl, st, hf, post⟩ => by
  cases ds with
  | nil => cases hf
  | cons d ds =>
    cases vs with
    | nil => simp at hl
    | cons v vs =>
      simp only [gsCons, Option.bind_eq_some_iff] at hf
      obtain ⟨δ1, q1, q2⟩ := hf
      refine ⟨v, vs, rfl, g, Z, δ, _, _, d, δ1, st, q1, fun σ1 Z1 H1 st1 o1 => ?_⟩
      exact ⟨g, Z1, δ1, S, T, ds, δ', by simpa using hl, st1, q2, fun σ2 Z2 H2 st2 o2 => post σ2 Z2 H2 st2 (o1.trans o2)⟩
theorem RepL.toS {K : PySem.W.Frag} {Z : Addr → Prop} {H : Hp} {S : DS} {T : L2.St} {F : List Addr} (h : RepS K Z H S T F) : ∀ {ds : List D} {vs : List V}, RepL K Z H ds vs → RepS K Z H (ds.map (fun d => some (.sh d)) ++ S) (vs.map some ++ T) F
  | [], vs, r => by
    simp only [RepL] at r
    subst r
    exact h
  | d :: ds, vs, r => by
    simp only [RepL] at r
    obtain ⟨v, r', rfl, r1, r2⟩ := r
    refine ⟨some v, _, [], F, rfl, rfl, ?_, RepL.toS h r2⟩
    show RepO K Z H (.sh d) v []
    simp only [RepO]
    exact ⟨trivial, r1⟩
theorem vg_tup {L : List Nat} {es : List Expr} {k : Nat} {gts : List D → DS → Option DS} {n : Nat} (hc : X.calm = true) (h : VGs X L es gts)
    (hn : (assignEach es X.env).length = n := by rfl) (hst : (assignEach es X.env).findIdx? (·.1) = none := by rfl) : VG X L (.Tuple es k pos) (gT n gts) := PGi (pg_tup hc h hn hst) fun v σ H Q ⟨g, Z, δ, S, T, d, δ', st, hf, post⟩ => by
  cases d <;> simp only [gT, reduceCtorEq] at hf
  rename_i ds
  split at hf
  · rename_i hd
    obtain ⟨F, ro⟩ := st.top
    simp only [RepO, RepD] at ro
    obtain ⟨_, a, vs, rfl, ha, ra⟩ := ro
    refine ⟨a, vs, rfl, SqT.of ha, by rw [← ra.length]; exact hd, g, Z, δ, S, T, ds, δ', ra.length, ?_, hf, post⟩
    obtain ⟨Fs, Ft, h1, h2, w⟩ := st.pop
    exact ⟨Fs, Ft, h1, RepL.toS h2 ra, w⟩
  · cases hf
theorem Out.agree {L M : List Nat} {σ σ' : L2.St} (o : Out L σ σ') (h : (M.all fun i => !L.contains i) = true) : Agree M σ σ' := ⟨o.1, fun i hi => o.2 i fun hl => by
  have q := List.all_eq_true.mp h i hi
  simp at q
  exact q hl⟩
def sSet (i : Nat) (fe : XF) : SF := fun δ => (fe δ).bind fun r => (tk r.2 r.1).map fun r => .nx (r.2.set i (some r.1))
theorem set_core {te : TE} {i : Nat} {fe : XF} {D : Ends} {σ : L2.St} {H : Hp} (hM : M.contains i = false) (ht : ∀ σ H Q, rdE X.K fe σ H Q → te σ H Q) (h : rdS X.K M (sSet i fe) D σ H) : tAsg te (gName i) D σ H := by
  obtain ⟨g, Z, δ, S, T, r, st, hf, post⟩ := h
  simp only [sSet, Option.bind_eq_some_iff, Option.map_eq_some_iff] at hf
  obtain ⟨⟨ev, δ1⟩, h1, ⟨o, δ2⟩, h2, rfl⟩ := hf
  refine ht _ _ _ ⟨g, Z, δ, S, T, _, st, h1, fun v Z1 H1 st1 al1 => ?_⟩
  obtain ⟨Z2, st2, _⟩ := st1.tk al1 h2
  refine post _ Z2 H1 st2.asgY ((Out.set σ i (some v)).agree ?_)
  rw [List.all_eq_true]
  intro j hj
  simp only [List.contains_cons, List.contains_nil, Bool.or_false, Bool.not_eq_true', beq_eq_false_iff_ne]
  intro e
  subst e
  have : M.contains j = true := by simpa using hj
  rw [this] at hM
  cases hM
theorem vs_set {i : Nat} {x : Str} {pos' : Pos} (hM : M.contains i = false) (hN : X.N.Nodup) (hi : X.N[i]? = some x) (hx : Loc X.env.scope x) (he : VE X e fe) (hs : swapsWith e (some (.Name x pos')) pos.line X.env = pure false := by rfl)
    (hf : X.fn x = true ∨ X.env.scope.names.lookup x = some .local := by first | exact .inl rfl | exact .inr rfl | assumption) : VX X M (.Assign [.Name x pos'] e pos) (sSet i fe) :=
  PSi (ps_set hN hi hx he hs hf) fun D σ H h => set_core hM (fun _ _ _ q => q) h
def sAsg (gt : GF) (fe : XF) : SF := fun δ => (fe δ).bind fun r => (tk r.2 r.1).bind fun r => (gt r.1.fz r.2).map .nx
theorem vs_asg {L : List Nat} {tg : Expr} {gt : GF} (hM : (M.all fun i => !L.contains i) = true) (he : VE X e fe) (hg : VG X L tg gt) (hs : swapsWithSole [tg] e pos.line X.env = pure false := by rfl) (hw : swappedStores [tg] e X.env = pure none := by rfl)
    (h1 : (assignEach [tg] X.env).map (·.2) = [assign tg X.env] := by rfl) : VX X M (.Assign [tg] e pos) (sAsg gt fe) := PSi (ps_asg he hg hs hw h1) fun D σ H ⟨g, Z, δ, S, T, r, st, hf, post⟩ => by
  simp only [sAsg, Option.bind_eq_some_iff, Option.map_eq_some_iff] at hf
  obtain ⟨⟨ev, δ1⟩, h1, ⟨o, δ2⟩, h2, δ3, h3, rfl⟩ := hf
  refine ⟨g, Z, δ, S, T, _, st, h1, fun v Z1 H1 st1 al1 => ?_⟩
  obtain ⟨Z2, st2, rd⟩ := st1.tkD al1 h2
  exact ⟨g, Z2, δ2, S, T, o.fz, δ3, st2, h3, fun σ' Z' H' st' ou => post σ' Z' H' st' (ou.agree hM)⟩
/-- a, b = x, y -/
def sPar (i j : Nat) (fs : BF) : SF := fun δ => (fs δ).bind fun r => match r.1 with
  | [o1, o2] => some (.nx ((r.2.set j (some o2)).set i (some o1)))
  | _ => none
theorem vs_par {i j : Nat} {x y : Str} {a b : Expr} {fs : BF} {px py pt : Pos} {kt k2 pt2} (hM : (M.all fun k => ![i, j].contains k) = true) (hc : X.calm = true) (hN : X.N.Nodup) (hi : X.N[i]? = some x) (hj : X.N[j]? = some y) (hij : i ≠ j)
    (hx : X.env.scope.names.lookup x = some .local) (hy : X.env.scope.names.lookup y = some .local) (ha : VB X [a, b] fs)
    (hw : swappedStores [.Tuple [.Name x px, .Name y py] kt pt] (.Tuple [a, b] k2 pt2) X.env = pure (some [x, y]))
    (hs : swapsWithSole [.Tuple [.Name x px, .Name y py] kt pt] (.Tuple [a, b] k2 pt2) pos.line X.env = pure false := by rfl) :
    VX X M (.Assign [.Tuple [.Name x px, .Name y py] kt pt] (.Tuple [a, b] k2 pt2) pos) (sPar i j fs) := PSi (ps_par hc hN hi hj hij hx hy ha hw hs) fun D σ H ⟨g, Z, δ, S, T, r, st, hf, post⟩ => by
  simp only [sPar, Option.bind_eq_some_iff] at hf
  obtain ⟨⟨os, δ1⟩, h1, h2⟩ := hf
  refine ⟨g, Z, δ, S, T, _, st, h1, fun vs Z1 H1 st1 hl => ?_⟩
  split at h2
  · rename_i o1 o2 q
    have q' : os = [o1, o2] := q
    subst q'
    cases h2
    obtain ⟨v, w, rfl⟩ : ∃ v w, vs = [v, w] := by
      match vs, hl with
      | [v, w], _ => exact ⟨v, w, rfl⟩
    have st2 : StV X.K g Z1 H1 δ1 σ (some o2 :: some o1 :: S) (some w :: some v :: T) := st1
    have st3 := (st2.asgY (i := j)).asgY (i := i)
    refine ⟨v, w, rfl, post _ Z1 H1 (by rw [List.set_comm _ _ hij]; exact st3) ?_⟩
    have o3 := (Out.set σ i (some v)).trans (Out.set (σ.set i (some v)) j (some w))
    exact o3.agree hM
  · cases h2
end
end VS
namespace VS
open PySem PySem.Spec L2
structure ItW (K : PySem.W.Frag) (g : Gx) (J : It) (ds : List D) (U : DS) (W : L2.St) : Prop where
  go : ∀ Z H δ σ S T, StV K g Z H δ σ (U ++ S) (W ++ T) → ∀ i d, ds[i]? = some d → J.go i H ∧ ∀ x H2, J.yld i H x H2 → Res K Z H (.sh d) x H2
  stop : ∀ Z H δ σ S T, StV K g Z H δ σ (U ++ S) (W ++ T) → J.stop ds.length H
abbrev IF := DS → Option (List D × DS)
def rdI (K : PySem.W.Frag) (f : IF) : TI := fun σ H R => ∃ g Z δ S T r, StV K g Z H δ σ S T ∧ f δ = some r ∧
  ∀ J U W Z' H', U.length = W.length → StV K g Z' H' r.2 σ (U ++ S) (W ++ T) → ItW K g J r.1 U W → R J H'
section
variable {X : Cx} {tg e : Expr}
theorem PIi {t t' : TI} (h : PI X tg e t) (k : ∀ σ H R, t' σ H R → t σ H R) : PI X tg e t' := ⟨fun pins s σ H R I q => h.run pins s σ H R I (k σ H R q)⟩
abbrev VI (X : Cx) (tg e : Expr) (f : IF) : Prop := PI X tg e (rdI X.K f)
def iAny (K : PySem.W.Frag) (tl : TE) : TI := fun σ H R => tl σ H fun x H1 => (∃ a, x = .ref a ∧ (∃ xs, SqL K H1 a xs) ∧ R (Itl K a) H1) ∨ (∃ a, x = .ref a ∧ (∃ xs, SqT K H1 a xs) ∧ R (Itt K a) H1) ∨ ∃ z, x = .str z ∧ R (Its z) H1
theorem pi_any {l : Expr} {tl : TE} (hl : PE X l tl) : PI X tg l (iAny X.K tl) := by
  refine ⟨fun pins s σ H R I h => ?_⟩
  refine thn (hl.run pins s σ H _ I h) fun v s1 ⟨x, H1, I1, r1, q1⟩ => ?_
  rcases q1 with ⟨a, e, ⟨xs, hq⟩, q⟩ | ⟨a, e, ⟨xs, hq⟩, q⟩ | ⟨x, ex, q⟩
  · subst e
    cases r1
    obtain ⟨its, rv, p, hz⟩ := I1.list hq
    refine wpAny_pyIter_list p.isList ?_
    refine ⟨s1.heap.objs.size, [s1.heap.objs.size], _, _, H1, rfl, I1.kept (t' := s1.toks) fun b o e => Heap.get?_push_of_some _ e, turn_list a _, ⟨_, Heap.get?_push_size _ rfl, rfl, rfl⟩, fun b hb => ?_, q⟩
    have e : b = s1.heap.objs.size := by simpa using hb
    subst e
    exact I1.fpOk (Nat.le_refl _) (I1.hok.fresh (Nat.le_refl _))
  · subst e
    cases r1
    obtain ⟨its, rv, p, hz⟩ := I1.tuple hq
    refine wpAny_pyIter_tuple (show s1.heap.IsTuple a its.toArray from p) ?_
    refine ⟨s1.heap.objs.size, [s1.heap.objs.size], _, _, H1, rfl, I1.kept (t' := s1.toks) fun b o e => Heap.get?_push_of_some _ e, turn_tuple a _, ⟨_, Heap.get?_push_size _ rfl, rfl, rfl⟩, fun b hb => ?_, q⟩
    have e : b = s1.heap.objs.size := by simpa using hb
    subst e
    exact I1.fpOk (Nat.le_refl _) (I1.hok.fresh (Nat.le_refl _))
  · subst ex
    obtain ⟨t, rfl⟩ := r1
    cases ha : x.cps.all (· < 128)
    · exact wpAny_pyIter_wide ha (pi_one (tk := s1.toks) I1 _ (turn_str _ x t "str_iterator" (.inr rfl)) ⟨_, Heap.get?_push_size _ rfl, rfl, rfl⟩ q)
    · exact wpAny_pyIter_ascii ha (pi_one (tk := s1.toks) I1 _ (turn_str _ x t "str_ascii_iterator" (.inl rfl)) ⟨_, Heap.get?_push_size _ rfl, rfl, rfl⟩ q)
/-- the items of a list, a tuple, a text -/
def itemsOf : D → Option (List D)
  | .lst ds => some ds
  | .tup ds => some ds
  | .scr ns => some (ns.map .int)
  | .str z => some (z.cps.toList.map fun c => .str ⟨#[c]⟩)
  | _ => none
def iSeq (fe : XF) : IF := fun δ => (fe δ).bind fun r => (tk r.2 r.1).bind fun r => (itemsOf r.1.fz).map fun ds => (ds, r.2)
theorem topD {K : PySem.W.Frag} {g : Gx} {Z : Addr → Prop} {H : Hp} {δ S : DS} {σ T : L2.St} {d : D} {v : V} (s : StV K g Z H δ σ (some (.sh d) :: S) (some v :: T)) : RepD K Z H d v := by
  obtain ⟨F, ro⟩ := s.top
  simp only [RepO] at ro
  exact ro.2
theorem vi_seq (he : VE X e fe) : VI X tg e (iSeq fe) := PIi (pi_any he) fun σ H R ⟨g, Z, δ, S, T, r, st, hf, post⟩ => by
  simp only [iSeq, Option.bind_eq_some_iff, Option.map_eq_some_iff] at hf
  obtain ⟨⟨ev, δ1⟩, h1, ⟨o, δ2⟩, h2, ds, h3, rfl⟩ := hf
  refine ⟨g, Z, δ, S, T, _, st, h1, fun v Z1 H1 st1 al1 => ?_⟩
  obtain ⟨Z2, st2, rd⟩ := st1.tkD al1 h2
  generalize hd : o.fz = d at h3 st2 rd
  cases d <;> simp only [itemsOf, reduceCtorEq] at h3
  · rename_i z
    cases h3
    have rd' : v = .str z := by simpa only [RepD] using rd
    refine .inr (.inr ⟨z, rd', post _ [some (.sh (.str z))] [some v] Z2 H1 rfl st2 ⟨fun Z H δ σ S T s i d e => ?_, fun Z H δ σ S T s => ?_⟩⟩)
    · rw [List.getElem?_map] at e
      obtain ⟨c, e1, e2⟩ := Option.map_eq_some_iff.mp e
      have e1' : z.cps[i]? = some c := by simpa using e1
      refine ⟨(Array.getElem?_eq_some_iff.mp e1').1, fun x H2 ⟨q1, c', q2, q3⟩ => ?_⟩
      rw [e1'] at q2
      cases q2
      subst q1 q3 e2
      exact Res.str
    · show z.cps.size ≤ _
      simp
  · rename_i es
    cases h3
    have rd' := rd
    simp only [RepD] at rd'
    obtain ⟨a, vs, rfl, ha, ra⟩ := rd'
    refine .inr (.inl ⟨a, rfl, ⟨vs, SqT.of ha⟩, post _ [some (.sh (.tup ds))] [some (.ref a)] Z2 H1 rfl st2 ⟨fun Z H δ σ S T s i d e => ?_, fun Z H δ σ S T s => ?_⟩⟩)
    · have q := topD s
      simp only [RepD] at q
      obtain ⟨b, ws, eb, hb, rb⟩ := q
      cases eb
      obtain ⟨x, e1, r1⟩ := rb.get e
      exact ⟨⟨ws, x, SqT.of hb, e1⟩, fun y H2 ⟨q1, q2⟩ => by
        have q3 := q2 ws (SqT.of hb)
        rw [e1] at q3
        cases q3
        subst q1
        exact Res.sc r1⟩
    · have q := topD s
      simp only [RepD] at q
      obtain ⟨b, ws, eb, hb, rb⟩ := q
      cases eb
      exact ⟨ws, SqT.of hb, Nat.le_of_eq rb.length.symm⟩
  · rename_i es
    cases h3
    have rd' := rd
    simp only [RepD] at rd'
    obtain ⟨a, vs, rfl, _, ha, ra⟩ := rd'
    refine .inl ⟨a, rfl, ⟨vs, SqL.of ha⟩, post _ [some (.sh (.lst ds))] [some (.ref a)] Z2 H1 rfl st2 ⟨fun Z H δ σ S T s i d e => ?_, fun Z H δ σ S T s => ?_⟩⟩
    · have q := topD s
      simp only [RepD] at q
      obtain ⟨b, ws, eb, _, hb, rb⟩ := q
      cases eb
      obtain ⟨x, e1, r1⟩ := rb.get e
      exact ⟨⟨ws, x, SqL.of hb, e1⟩, fun y H2 ⟨q1, q2⟩ => by
        have q3 := q2 ws (SqL.of hb)
        rw [e1] at q3
        cases q3
        subst q1
        exact Res.sc r1⟩
    · have q := topD s
      simp only [RepD] at q
      obtain ⟨b, ws, eb, _, hb, rb⟩ := q
      cases eb
      exact ⟨ws, SqL.of hb, Nat.le_of_eq rb.length.symm⟩
  · rename_i ns
    cases h3
    obtain ⟨a, ea, hq⟩ := scr_seq rd
    subst ea
    refine .inl ⟨a, rfl, ⟨_, hq⟩, post _ [some (.sh (.scr ns))] [some (.ref a)] Z2 H1 rfl st2 ⟨fun Z H δ σ S T s i d e => ?_, fun Z H δ σ S T s => ?_⟩⟩
    · obtain ⟨b, eb, hb⟩ := scr_seq (topD s)
      cases eb
      rw [List.getElem?_map] at e
      obtain ⟨n, e1, e2⟩ := Option.map_eq_some_iff.mp e
      have e3 : (ns.map V.int)[i]? = some (.int n) := by rw [List.getElem?_map, e1]; rfl
      exact ⟨⟨_, _, hb, e3⟩, fun y H2 ⟨q1, q2⟩ => by
        have q3 := q2 _ hb
        rw [e3] at q3
        cases q3
        subst q1 e2
        exact Res.int⟩
    · obtain ⟨b, eb, hb⟩ := scr_seq (topD s)
      cases eb
      exact ⟨_, hb, by simp⟩
def rngD (lo : Int) (n : Nat) : List D := (List.range n).map fun (i : Nat) => D.int (lo + (i : Int))
theorem itw_range {K : PySem.W.Frag} {g : Gx} (lo : Int) (n : Nat) : ItW K g (Itr lo n) (rngD lo n) [] [] := ⟨fun Z H δ σ S T s i d e => by
    unfold rngD at e
    rw [List.getElem?_map] at e
    obtain ⟨j, e1, e2⟩ := Option.map_eq_some_iff.mp e
    have hi : i < n := by
      have := (List.getElem?_eq_some_iff.mp e1).1
      simpa using this
    have e3 : j = i := by
      rw [List.getElem?_range hi] at e1
      exact (Option.some.inj e1).symm
    subst e3
    exact ⟨hi, fun x H2 ⟨q1, q2⟩ => by
      subst q1 q2 e2
      exact Res.int⟩, fun Z H δ σ S T s => by
    show n ≤ _
    simp [rngD]⟩
def inR (i : Int) : Bool := decide (-(2 ^ 62) ≤ i) && decide (i < 2 ^ 62)
def iRg1 (fs : BF) : IF := fun δ => (fs δ).bind fun r => match r.1 with
  | [.sh (.int j)] => if inR j then some (rngD 0 j.toNat, r.2) else none
  | _ => none
def iRg2 (fs : BF) : IF := fun δ => (fs δ).bind fun r => match r.1 with
  | [.sh (.int i), .sh (.int j)] => if inR i && inR j then some (rngD i (j - i).toNat, r.2) else none
  | _ => none
theorem topI {K : PySem.W.Frag} {g : Gx} {Z : Addr → Prop} {H : Hp} {δ S : DS} {σ T : L2.St} {i : Int} {v : V} (s : StV K g Z H δ σ (some (.sh (.int i)) :: S) (some v :: T)) : v = .int i := by
  have q := topD s
  simpa only [RepD] using q
theorem one_of {vs : List V} {n : Nat} (h : 1 = vs.length) : ∃ v, vs = [v] := by
  match vs, h with
  | [v], _ => exact ⟨v, rfl⟩
theorem two_of {vs : List V} (h : 2 = vs.length) : ∃ v w, vs = [v, w] := by
  match vs, h with
  | [v, w], _ => exact ⟨v, w, rfl⟩
theorem three_of {vs : List V} (h : 3 = vs.length) : ∃ v w u, vs = [v, w, u] := by
  match vs, h with
  | [v, w, u], _ => exact ⟨v, w, u, rfl⟩
theorem vi_range1 {a : Expr} {fs : BF} {p pos : Pos} (hg : Gl X "range") (hm : X.mg "range" = none) (ha : VB X [a] fs) (hs : starEach [a] X.env = [(false, eval a X.env)] := by rfl) : VI X tg (.Call (.Name "range" p) [a] [] pos) (iRg1 fs) :=
  PIi (pi_range1 hg hm ha hs) fun σ H R ⟨g, Z, δ, S, T, r, st, hf, post⟩ => by
  simp only [iRg1, Option.bind_eq_some_iff] at hf
  obtain ⟨⟨os, δ1⟩, h1, h2⟩ := hf
  refine ⟨g, Z, δ, S, T, _, st, h1, fun vs Z1 H1 st1 hl => ?_⟩
  split at h2
  · rename_i j q
    have q' : os = [.sh (.int j)] := q
    subst q'
    obtain ⟨v, rfl⟩ := one_of (n := 0) hl
    split at h2
    · rename_i hr
      cases h2
      unfold inR at hr
      simp only [Bool.and_eq_true, decide_eq_true_eq] at hr
      cases topI st1
      exact ⟨j, rfl, hr.1, hr.2, post _ [] [] Z1 H1 rfl st1.pop (itw_range 0 _)⟩
    · cases h2
  · cases h2
theorem vi_range2 {a b : Expr} {fs : BF} {p pos : Pos} (hg : Gl X "range") (hm : X.mg "range" = none) (ha : VB X [a, b] fs) (hs : starEach [a, b] X.env = [(false, eval a X.env), (false, eval b X.env)] := by rfl) (hs2 : starEach [b] X.env = [(false, eval b X.env)] := by rfl) :
    VI X tg (.Call (.Name "range" p) [a, b] [] pos) (iRg2 fs) :=
  PIi (pi_range2 hg hm ha hs hs2) fun σ H R ⟨g, Z, δ, S, T, r, st, hf, post⟩ => by
  simp only [iRg2, Option.bind_eq_some_iff] at hf
  obtain ⟨⟨os, δ1⟩, h1, h2⟩ := hf
  refine ⟨g, Z, δ, S, T, _, st, h1, fun vs Z1 H1 st1 hl => ?_⟩
  split at h2
  · rename_i i j q
    have q' : os = [.sh (.int i), .sh (.int j)] := q
    subst q'
    obtain ⟨v, w, rfl⟩ := two_of hl
    split at h2
    · rename_i hr
      cases h2
      unfold inR at hr
      simp only [Bool.and_eq_true, decide_eq_true_eq] at hr
      have st2 : StV X.K g Z1 H1 δ1 σ (some (.sh (.int j)) :: some (.sh (.int i)) :: S) (some w :: some v :: T) := st1
      cases topI st2
      cases topI st2.pop
      exact ⟨i, j, rfl, ⟨hr.1.1, hr.1.2, hr.2.1, hr.2.2⟩, post _ [] [] Z1 H1 rfl st2.drop2 (itw_range i _)⟩
    · cases h2
  · cases h2
/-- range(a, b, -1) -/
def iRg3 (fs : BF) : IF := fun δ => (fs δ).bind fun r => match r.1 with
  | [.sh (.int i), .sh (.int j), .sh (.int (-1))] => if inR i && inR j then some ((List.range (i - j).toNat).map fun (k : Nat) => D.int (i - (k : Int)), r.2) else none
  | _ => none
def enumD : Nat → List D → List D
  | _, [] => []
  | n, d :: ds => .tup [.int n, d] :: enumD (n + 1) ds
theorem enumD_get : ∀ (n : Nat) (ds : List D) (i : Nat), (enumD n ds)[i]? = ds[i]?.map fun d => .tup [.int ((n + i : Nat) : Int), d]
  | n, [], i => by simp [enumD]
  | n, d :: ds, 0 => by simp [enumD]
  | n, d :: ds, i + 1 => by
    simp only [enumD, List.getElem?_cons_succ]
    rw [enumD_get (n + 1) ds i]
    have e : n + 1 + i = n + (i + 1) := by omega
    rw [e]
theorem enumD_length : ∀ (n : Nat) (ds : List D), (enumD n ds).length = ds.length
  | n, [] => rfl
  | n, d :: ds => by simp [enumD, enumD_length (n + 1) ds]
def zipD : List D → List D → List D
  | a :: as, b :: bs => .tup [a, b] :: zipD as bs
  | _, _ => []
def iZp (fs : BF) : IF := fun δ => (fs δ).bind fun r => match r.1 with
  | [o1, o2] => match o1.fz, o2.fz with
    | .lst ds, .lst es => some (zipD ds es, r.2)
    | _, _ => none
  | _ => none
end
def forL (gt : GF) (body : SF) : List D → DS → Option Fl
  | [], δ => some (.nx δ)
  | d :: ds, δ => (gt d δ).bind fun δ1 => (body δ1).bind fun fl => match fl with
    | .nx δ2 => forL gt body ds δ2
    | .ct δ2 => forL gt body ds δ2
    | .bk δ2 => some (.nx δ2)
    | .rt o δ2 => some (.rt o δ2)
def sFor (fi : IF) (gt : GF) (body : SF) : SF := fun δ => (fi δ).bind fun r => forL gt body r.1 r.2
section
variable {X : Cx} {M : List Nat}
theorem for_coreG {wi : TI} {L : List Nat} {gt : GF} {body : SF} {D : Ends} {g : Gx} {δ1 : DS} {S : DS} {σ T : L2.St} {H : Hp} {ds : List VS.D} {r : Fl} (hM : (M.all fun i => !L.contains i) = true)
    (hi : ∀ R : It → Hp → Prop, (∀ J U W Z' H', U.length = W.length → StV X.K g Z' H' δ1 σ (U ++ S) (W ++ T) → ItW X.K g J ds U W → R J H') → wi σ H R)
    (h2 : forL gt body ds δ1 = some r) (post : PostS X.K M g σ S T D r) : tFor wi (rdG X.K L gt) (rdS X.K M body) D σ H := by
  refine hi _ fun J U W Z1 H1 hU st1 iw => ?_
  refine ⟨fun i m σ' H' => m = ds.length - i ∧ i ≤ ds.length ∧ ∃ Z' δ', StV X.K g Z' H' δ' σ' (U ++ S) (W ++ T) ∧ forL gt body (ds.drop i) δ' = some r ∧ Agree M σ σ', ⟨_, rfl, Nat.zero_le _, Z1, δ1, st1, by simpa using h2, Agree.refl _ _⟩, ?_⟩
  rintro i m σ' H' ⟨rfl, hle, Z', δ', st', hl, ag⟩
  by_cases hlt : i < ds.length
  · have e : ds[i]? = some ds[i] := by simp [hlt]
    obtain ⟨go, yld⟩ := iw.go Z' H' δ' σ' S T st' i _ e
    have dr : ds.drop i = ds[i] :: ds.drop (i + 1) := List.drop_eq_getElem_cons hlt
    rw [dr] at hl
    simp only [forL, Option.bind_eq_some_iff] at hl
    obtain ⟨δ2, g1, fl, g2, g3⟩ := hl
    refine .inr ⟨go, fun σ3 H3 => ∃ Z3 δ3, StV X.K g Z3 H3 δ3 σ3 (U ++ S) (W ++ T) ∧ forL gt body (ds.drop (i + 1)) δ3 = some r ∧ Agree M σ σ3, fun σ3 H3 ⟨Z3, δ3, q1, q2, q3⟩ => ⟨ds.length - (i + 1), by omega, rfl, hlt, Z3, δ3, q1, q2, q3⟩, fun x H2 y => ?_⟩
    have rs := yld x H2 y
    refine ⟨g, Z', δ', U ++ S, W ++ T, ds[i], δ2, st'.push rs, g1, fun σ4 Z4 H4 st4 ou => ?_⟩
    have ag4 : Agree M σ σ4 := ag.trans (ou.agree hM)
    refine ⟨g, Z4, δ2, U ++ S, W ++ T, fl, st4, g2, ?_⟩
    cases fl with
    | nx δ5 => exact fun σ5 Z5 H5 st5 ag5 => ⟨Z5, δ5, st5, g3, ag4.trans ag5⟩
    | ct δ5 => exact fun σ5 Z5 H5 st5 ag5 => ⟨Z5, δ5, st5, g3, ag4.trans ag5⟩
    | bk δ5 =>
      cases g3
      exact fun σ5 Z5 H5 st5 ag5 => post σ5 Z5 H5 (st5.popN hU) (ag4.trans ag5)
    | rt o δ5 =>
      cases g3
      exact fun v σ5 Z5 H5 st5 ag5 => post v σ5 Z5 H5 (StV.mid (A := [some o]) (B := [some v]) rfl hU st5) (ag4.trans ag5)
  · have e : i = ds.length := by omega
    subst e
    refine .inl ⟨iw.stop Z' H' δ' σ' S T st', ?_⟩
    rw [List.drop_length] at hl
    cases hl
    exact post σ' Z' H' (st'.popN hU) ag
theorem for_core {wi : TI} {L : List Nat} {fi : IF} {gt : GF} {body : SF} {D : Ends} {σ : L2.St} {H : Hp} (hM : (M.all fun i => !L.contains i) = true) (hi : ∀ σ H R, rdI X.K fi σ H R → wi σ H R) (h : rdS X.K M (sFor fi gt body) D σ H) : tFor wi (rdG X.K L gt) (rdS X.K M body) D σ H := by
  obtain ⟨g, Z, δ, S, T, r, st, hf, post⟩ := h
  simp only [sFor, Option.bind_eq_some_iff] at hf
  obtain ⟨⟨ds, δ1⟩, h1, h2⟩ := hf
  exact for_coreG hM (fun R q => hi _ _ _ ⟨g, Z, δ, S, T, _, st, h1, q⟩) h2 post
theorem vs_for {L : List Nat} {tg iter : Expr} {sts : List Stmt} {fi : IF} {gt : GF} {body : SF} {pos : Pos} (hM : (M.all fun i => !L.contains i) = true) (hp : PassesOwn (model X.prog X.w) X.A X.env X.xe) (hc : X.calm = true) (hi : VI X tg iter fi) (hg : VG X L tg gt) (hb : VXs X M sts body)
    (hs : ∀ x, foldedSetIterable iter X.env x = pure x := by intro _; rfl) : VX X M (.For tg iter sts [] pos) (sFor fi gt body) :=
  PSi (ps_for hp hc hi hg hb hs) fun D σ H h => for_core hM (fun _ _ _ q => q) h
def whN (tc : TF) (body : SF) : Nat → DS → Option Fl
  | 0, _ => none
  | n + 1, δ => (tc δ).bind fun r => if r.1 then (body r.2).bind fun fl => match fl with
      | .nx δ2 => whN tc body n δ2
      | .ct δ2 => whN tc body n δ2
      | .bk δ2 => some (.nx δ2)
      | .rt o δ2 => some (.rt o δ2)
    else some (.nx r.2)
open Classical in
noncomputable def sWh (tc : TF) (body : SF) : SF := fun δ => if h : ∃ n, (whN tc body n δ).isSome then whN tc body h.choose δ else none
theorem whN_mono {tc : TF} {body : SF} : ∀ {n m : Nat} {δ : DS} {r : Fl}, whN tc body n δ = some r → n ≤ m → whN tc body m δ = some r
  | 0, m, δ, r, h, l => by cases h
  | n + 1, 0, δ, r, h, l => by omega
  | n + 1, m + 1, δ, r, h, l => by
    simp only [whN, Option.bind_eq_some_iff] at h ⊢
    obtain ⟨⟨k, δ1⟩, h1, h2⟩ := h
    refine ⟨_, h1, ?_⟩
    cases k with
    | false => exact h2
    | true =>
      simp only [if_true, Option.bind_eq_some_iff] at h2 ⊢
      obtain ⟨fl, h3, h4⟩ := h2
      refine ⟨fl, h3, ?_⟩
      cases fl with
      | nx δ2 => exact whN_mono h4 (by omega)
      | ct δ2 => exact whN_mono h4 (by omega)
      | bk δ2 => exact h4
      | rt o δ2 => exact h4
theorem sWh_of {tc : TF} {body : SF} {n : Nat} {δ : DS} {r : Fl} (h : whN tc body n δ = some r) : sWh tc body δ = some r := by
  unfold sWh
  have ex : ∃ n, (whN tc body n δ).isSome := ⟨n, by rw [h]; rfl⟩
  rw [dif_pos ex]
  obtain ⟨r', hr⟩ := Option.isSome_iff_exists.mp ex.choose_spec
  have a := whN_mono hr (Nat.le_max_left ex.choose n)
  have b := whN_mono h (Nat.le_max_right ex.choose n)
  rw [hr]
  rw [a] at b
  exact b
theorem of_sWh {tc : TF} {body : SF} {δ : DS} {r : Fl} (h : sWh tc body δ = some r) : ∃ n, whN tc body n δ = some r := by
  unfold sWh at h
  split at h
  · exact ⟨_, h⟩
  · cases h
theorem vs_while {c : Expr} {sts : List Stmt} {tc : TF} {body : SF} {pos : Pos} (hp : PassesOwn (model X.prog X.w) X.A X.env X.xe) (hc : VT X c tc) (hb : VXs X M sts body) : VX X M (.While c sts [] pos) (sWh tc body) :=
  PSi (ps_while hp hc hb) fun D σ H ⟨g, Z, δ, S, T, r, st, hf, post⟩ => by
  obtain ⟨n, hn⟩ := of_sWh hf
  refine ⟨fun m σ' H' => ∃ Z' δ', StV X.K g Z' H' δ' σ' S T ∧ whN tc body m δ' = some r ∧ Agree M σ σ', ⟨n, Z, δ, st, hn, Agree.refl _ _⟩, ?_⟩
  rintro m σ' H' ⟨Z', δ', st', hw, ag⟩
  cases m with
  | zero => cases hw
  | succ m =>
    simp only [whN, Option.bind_eq_some_iff] at hw
    obtain ⟨⟨k, δ1⟩, h1, h2⟩ := hw
    refine ⟨g, Z', δ', S, T, _, st', h1, fun Z1 H1 st1 => ?_⟩
    cases k with
    | false =>
      cases h2
      exact post σ' Z1 H1 st1 ag
    | true =>
      simp only [if_true, Option.bind_eq_some_iff] at h2
      obtain ⟨fl, h3, h4⟩ := h2
      refine ⟨fun σ3 H3 => ∃ Z3 δ3, StV X.K g Z3 H3 δ3 σ3 S T ∧ whN tc body m δ3 = some r ∧ Agree M σ σ3, fun σ3 H3 q => ⟨m, Nat.lt_succ_self m, q⟩, g, Z1, δ1, S, T, fl, st1, h3, ?_⟩
      cases fl with
      | nx δ5 => exact fun σ5 Z5 H5 st5 ag5 => ⟨Z5, δ5, st5, h4, ag.trans ag5⟩
      | ct δ5 => exact fun σ5 Z5 H5 st5 ag5 => ⟨Z5, δ5, st5, h4, ag.trans ag5⟩
      | bk δ5 =>
        cases h4
        exact fun σ5 Z5 H5 st5 ag5 => post σ5 Z5 H5 st5 (ag.trans ag5)
      | rt o δ5 =>
        cases h4
        exact fun v σ5 Z5 H5 st5 ag5 => post v σ5 Z5 H5 st5 (ag.trans ag5)
end
end VS
namespace VS
open PySem PySem.Spec L2
section
variable {K : PySem.W.Frag} {g : Gx} {Z Z' : Addr → Prop} {H H' : Hp} {δ S U : DS} {σ T W : L2.St} {o : O} {v : V}
/-- a temporary is changed where it stands -/
theorem StV.mutT {i : Nat} {o' : O} (s : StV K g Z H δ σ S T) (h : S[i]? = some (some o)) (hv : T[i]? = some (some v))
    (m : ∀ F, RepO K Z H o v F → F.Nodup → (∀ a ∈ F, ¬ Z a) → (∀ b, b ∉ F → H' b = H b) ∧ (∀ b, (∃ u, H b = some u) → ∃ u, H' b = some u) ∧ (∀ b xs, H b = some (.tup xs) → H' b = some (.tup xs)) ∧ (Keep Z Z H H' → RepO K Z H' o' v F)) :
    StV K g Z H' δ σ (S.set i (some o')) T ∧ Keep Z Z H H' := by
  obtain ⟨Fs, Ft, h1, h2, w⟩ := s
  obtain ⟨y, Fi, Fr, e, p, q, put⟩ := h2.at h
  rw [hv] at e
  cases e
  have q1 : RepO K Z H o v Fi := q
  have p2 : (Fs ++ Ft).Perm (Fi ++ (Fr ++ Fs)) := by
    rw [← List.append_assoc]
    exact (List.perm_append_comm).trans (List.Perm.append_right _ p)
  have w2 := w.perm p2
  have nd := List.nodup_append.mp w2.nd
  obtain ⟨m1, m2, m3, m4⟩ := m Fi q1 nd.1 fun a ha => (w2.own a (List.mem_append_left _ ha)).1
  have kp : Keep Z Z H H' := Keep.of (fun _ z => z) (fun a u z e => by
    rw [m1 a fun hf => (w2.own a (List.mem_append_left _ hf)).1 z]
    exact e) m3
  have other : ∀ a ∈ Fr ++ Fs, ∀ u, H a = some u → H' a = some u := fun a ha u e => by
    rw [m1 a fun hf => nd.2.2 a hf a ha rfl]
    exact e
  obtain ⟨F', s1, s2⟩ := put Z H' (some o') (some v) Fi kp (fun a ha => other a (List.mem_append_left _ ha)) (m4 kp)
  rw [set_self hv] at s1
  refine ⟨⟨Fs, F', RepS.keep kp (fun a ha => other a (List.mem_append_right _ ha)) h1, s1, ?_⟩, kp⟩
  have w3 : Wd g Z H (Fs ++ F') := w2.perm (by
    rw [← List.append_assoc]
    exact (List.Perm.append_right _ s2.symm).trans List.perm_append_comm)
  exact ⟨w3.nd, w3.own, w3.z0, fun a z => ⟨m2 a (w3.zh a z).1, (w3.zh a z).2⟩, fun a u e => by
    rw [m1 a fun hf => by
      have := (w2.own a (List.mem_append_left _ hf)).2
      rw [this] at e
      cases e]
    exact w3.gh a u e⟩
/-- what a change at one's own object asks -/
theorem mut_at {a : Addr} {u u' : HO} (h : H a = some u) (ht : ∀ xs, u ≠ .tup xs) : (∀ b, b ∉ [a] → L2.upd H a u' b = H b) ∧ (∀ b, (∃ u, H b = some u) → ∃ u, L2.upd H a u' b = some u) ∧ (∀ b xs, H b = some (.tup xs) → L2.upd H a u' b = some (.tup xs)) :=
  ⟨fun b hb => upd_ne fun e => hb (by rw [e]; exact List.mem_singleton_self _), fun b ⟨w, e⟩ => by
    by_cases hb : b = a
    · exact ⟨u', by rw [hb]; exact upd_same⟩
    · exact ⟨w, by rw [upd_ne hb]; exact e⟩, fun b xs e => by
    rw [upd_ne fun z => by
      rw [z, h] at e
      exact ht xs (Option.some.inj e)]
    exact e⟩
/-- the list among the temporaries grows by the top one -/
theorem StV.appT {A : DS} {B : L2.St} {ds : List D} {d : D} {w : V} {a : Addr} (hA : A.length = B.length) (s : StV K g Z H δ σ (some (.sh d) :: (A ++ some (.lst ds) :: S)) (some w :: (B ++ some (.ref a) :: T))) :
    ∃ vs, H a = some (.lst vs) ∧ vs.length = ds.length ∧ StV K g Z (L2.upd H a (.lst (vs ++ [w]))) δ σ (A ++ some (.lst (ds ++ [d])) :: S) (B ++ some (.ref a) :: T) := by
  have rd := topD s
  have s1 := s.pop
  have e1 : (A ++ some (O.lst ds) :: S)[A.length]? = some (some (O.lst ds)) := by simp
  have e2 : (B ++ some (V.ref a) :: T)[A.length]? = some (some (V.ref a)) := by rw [hA]; simp
  have ex : ∃ vs, H a = some (.lst vs) ∧ RepL K Z H ds vs := by
    obtain ⟨Fs, Ft, h1, h2, w⟩ := s1
    obtain ⟨y, Fi, Fr, e, p, q, put⟩ := h2.at e1
    rw [e2] at e
    cases e
    have q' : RepO K Z H (.lst ds) (.ref a) Fi := q
    simp only [RepO] at q'
    obtain ⟨b, vs, eb, _, hb, rb⟩ := q'
    cases eb
    exact ⟨vs, hb, rb⟩
  obtain ⟨vs, hb, rb⟩ := ex
  refine ⟨vs, hb, rb.length.symm, ?_⟩
  have r := (s1.mutT (o' := .lst (ds ++ [d])) (H' := L2.upd H a (.lst (vs ++ [w]))) e1 e2 fun F q nd nz => by
    simp only [RepO] at q
    obtain ⟨b, ws, eb, ef, _, _⟩ := q
    cases eb
    subst ef
    obtain ⟨m1, m2, m3⟩ := mut_at (u' := .lst (vs ++ [w])) hb (fun _ => by simp)
    refine ⟨m1, m2, m3, fun k => ?_⟩
    simp only [RepO]
    refine ⟨a, vs ++ [w], rfl, rfl, upd_same, ?_⟩
    refine RepL.append (RepL.keep k ds vs rb) ?_
    simp only [RepL]
    exact ⟨w, [], rfl, RepD.keep k d w rd, rfl⟩).1
  have e3 : (A ++ some (O.lst ds) :: S).set A.length (some (O.lst (ds ++ [d]))) = A ++ some (O.lst (ds ++ [d])) :: S := by simp
  rw [e3] at r
  exact r
end
def wipeD (δ : DS) : List Nat → DS
  | [] => δ
  | v :: vs => (wipeD δ vs).set v none
def savD (δ : DS) : List Nat → DS
  | [] => []
  | v :: vs => ((wipeD δ vs)[v]?).join :: savD δ vs
def savV (σ : L2.St) : List Nat → L2.St
  | [] => []
  | v :: vs => ((wipe σ vs)[v]?).join :: savV σ vs
def unwD (δ : DS) : List Nat → DS → DS
  | v :: vs, x :: xs => unwD (δ.set v x) vs xs
  | _, _ => δ
section
variable {K : PySem.W.Frag} {g : Gx} {Z Z' : Addr → Prop} {H H' : Hp} {δ S U : DS} {σ T W : L2.St} {o : O} {v : V}
theorem sav_length (δ : DS) (σ : L2.St) : ∀ vs, (savD δ vs).length = vs.length ∧ (savV σ vs).length = vs.length
  | [] => ⟨rfl, rfl⟩
  | v :: vs => by
    obtain ⟨h1, h2⟩ := sav_length δ σ vs
    simp [savD, savV, h1, h2]
theorem StV.wipe (s : StV K g Z H δ σ S T) : ∀ vs, StV K g Z H (wipeD δ vs) (L2.wipe σ vs) (savD δ vs ++ S) (savV σ vs ++ T)
  | [] => s
  | v :: vs => (StV.wipe s vs).save v
theorem StV.wipeOff (s : StV K g Z H δ σ S T) : ∀ vs, StV K g Z H (wipeD δ vs) (L2.wipe σ vs) S T
  | [] => s
  | v :: vs => (StV.wipeOff s vs).forget none
theorem StV.unwipe : ∀ {vs : List Nat} {xs : DS} {δ : DS}, xs.length = vs.length → StV K g Z H δ (L2.wipe σ vs) (xs ++ S) (savV σ vs ++ T) → StV K g Z H (unwD δ vs xs) σ S T
  | [], [], δ, _, s => s
  | [], _ :: _, δ, h, s => by simp at h
  | _ :: _, [], δ, h, s => by simp at h
  | v :: vs, x :: xs, δ, h, s => by
    have s1 : StV K g Z H (δ.set v x) (((L2.wipe σ vs).set v none).set v ((L2.wipe σ vs)[v]?).join) (xs ++ S) (savV σ vs ++ T) := StV.asgY (s : StV K g Z H δ ((L2.wipe σ vs).set v none) (x :: (xs ++ S)) (((L2.wipe σ vs)[v]?).join :: (savV σ vs ++ T)))
    have e : ((L2.wipe σ vs).set v none).set v ((L2.wipe σ vs)[v]?).join = L2.wipe σ vs := by
      rw [List.set_set]
      cases q : (L2.wipe σ vs)[v]? with
      | none => rw [List.set_eq_of_length_le (List.getElem?_eq_none_iff.mp q)]
      | some y => exact set_self q
    rw [e] at s1
    exact StV.unwipe (vs := vs) (xs := xs) (by simpa using h) s1
end
def lcL (gt : GF) (tt : TF) (fe : XF) (own : List Nat) : List D → DS → List D → Option (List D × DS)
  | [], δ, acc => some (acc, δ)
  | d :: ds, δ, acc => (gt d δ).bind fun δ1 => (tt δ1).bind fun r => if r.1 then (fe r.2).bind fun r => (tk r.2 r.1).bind fun r => lcL gt tt fe own ds (wipeD r.2 own) (acc ++ [r.1.fz])
      else lcL gt tt fe own ds (wipeD r.2 own) acc
def xLc (fi : IF) (gt : GF) (tt : TF) (fe : XF) (own : List Nat) : XF := fun δ => (fi δ).bind fun r => if r.1.length ≤ sizeLine then (lcL gt tt fe own r.1 (wipeD r.2 own) []).map fun q => (.val (.lst q.1), unwD q.2 own (savD r.2 own)) else none
def tY : TF := fun δ => some (true, δ)
abbrev VTs (X : Cx) (ifs : List Expr) (f : TF) : Prop := PTs X ifs (rdT X.K f)
section
variable {X : Cx}
theorem PTsi {ifs : List Expr} {t t' : TT} (h : PTs X ifs t) (k : ∀ σ H Q, t' σ H Q → t σ H Q) : PTs X ifs t' := ⟨fun pins s σ H Q I q => h.run pins s σ H Q I (k σ H Q q)⟩
theorem vts_nil : VTs X [] tY := PTsi pts_nil fun σ H Q ⟨g, Z, δ, S, T, r, st, hf, post⟩ => by
  cases hf
  exact post Z H st
theorem vts_one {c : Expr} {tc : TF} (h : VT X c tc) : VTs X [c] tc := pts_one h
theorem Out.wipe {L vs : List Nat} {σ σ' : L2.St} (o : Out L (L2.wipe σ vs) σ') (h : (L.all fun i => vs.contains i) = true) : L2.wipe σ' vs = L2.wipe σ vs := by
  refine List.ext_getElem? fun j => ?_
  by_cases hj : j ∈ vs
  · have w1 : ∀ (τ : L2.St), τ.length = σ.length → (L2.wipe τ vs)[j]? = if j < σ.length then some none else none := fun τ ht => by
      have aux : ∀ (vs : List Nat), j ∈ vs → (L2.wipe τ vs)[j]? = if j < σ.length then some none else none := by
        intro vs
        induction vs with
        | nil => intro h; cases h
        | cons v vs ih =>
          intro hm
          show ((L2.wipe τ vs).set v none)[j]? = _
          by_cases e : v = j
          · subst e
            by_cases hl : v < σ.length
            · rw [if_pos hl, List.getElem?_set_self (by rw [wipe_length, ht]; exact hl)]
            · rw [if_neg hl, List.getElem?_eq_none]
              rw [List.length_set, wipe_length, ht]
              omega
          · rw [List.getElem?_set_ne e]
            rcases List.mem_cons.mp hm with z | z
            · exact absurd z.symm e
            · exact ih z
      exact aux vs hj
    rw [w1 σ' (by rw [o.1, wipe_length]), w1 σ rfl]
  · rw [wipe_out hj, wipe_out hj, o.2 j fun hl => hj (by
      have := List.all_eq_true.mp h j hl
      simpa using this), wipe_out hj]
theorem lc_coreG {wi : TI} {L own : List Nat} {gt : GF} {tt : TF} {fe : XF} {g : Gx} {Z : Addr → Prop} {δ1 : DS} {S : DS} {σ T : L2.St} {H : Hp} {Q : VK} {ds : List D} {r : Ev × DS} (hL : (L.all fun i => own.contains i) = true)
    (hi : ∀ R : It → Hp → Prop, (∀ J U W Z' H', U.length = W.length → StV X.K g Z' H' δ1 σ (U ++ S) (W ++ T) → ItW X.K g J ds U W → R J H') → wi σ H R)
    (h2 : (if ds.length ≤ sizeLine then (lcL gt tt fe own ds (wipeD δ1 own) []).map fun q => ((.val (.lst q.1) : Ev), unwD q.2 own (savD δ1 own)) else none) = some r) (post : PostE X.K g σ S T Q r) :
    tLc wi (rdG X.K L gt) (rdT X.K tt) (rdE X.K fe) own σ H Q := by
  split at h2
  · rename_i hz0
    have hz : ds.length ≤ sizeLine := hz0
    obtain ⟨⟨accF, δF⟩, h3, h4⟩ := Option.map_eq_some_iff.mp h2
    subst h4
    refine hi _ fun J U W Z1 H1 hU st1 iw Da hDa => ?_
    have sl := sav_length δ1 σ own
    have st2 : StV X.K g Z1 (L2.upd H1 Da (.lst [])) δ1 σ (some (.lst []) :: (U ++ S)) (some (.ref Da) :: (W ++ T)) := st1.push (Res.lst hDa (by simp only [RepL]))
    have st3 := st2.wipe own
    refine ⟨fun i m H' => m = ds.length - i ∧ i ≤ ds.length ∧ ∃ Z' δ' acc, StV X.K g Z' H' δ' (L2.wipe σ own) (savD δ1 own ++ some (.lst acc) :: (U ++ S)) (savV σ own ++ some (.ref Da) :: (W ++ T)) ∧ lcL gt tt fe own (ds.drop i) δ' acc = some (accF, δF) ∧ acc.length ≤ i,
      ⟨_, rfl, Nat.zero_le _, Z1, _, [], st3, by simpa using h3, Nat.le_refl _⟩, ?_⟩
    rintro i m H' ⟨rfl, hle, Z', δ', acc, st', hl, ha⟩
    -- the iterator's own part is the last
    have stI : StV X.K g Z' H' δ' (L2.wipe σ own) (U ++ S) (W ++ T) := by
      have e1 : savD δ1 own ++ some (O.lst acc) :: (U ++ S) = (savD δ1 own ++ [some (O.lst acc)]) ++ (U ++ S) := by simp
      have e2 : savV σ own ++ some (V.ref Da) :: (W ++ T) = (savV σ own ++ [some (V.ref Da)]) ++ (W ++ T) := by simp
      rw [e1, e2] at st'
      exact st'.popN (by simp [sl.1, sl.2])
    by_cases hlt : i < ds.length
    · have e : ds[i]? = some ds[i] := by simp [hlt]
      obtain ⟨go, yld⟩ := iw.go Z' H' δ' (L2.wipe σ own) S T stI i _ e
      have dr : ds.drop i = ds[i] :: ds.drop (i + 1) := List.drop_eq_getElem_cons hlt
      rw [dr] at hl
      simp only [lcL, Option.bind_eq_some_iff] at hl
      obtain ⟨δ2, g1, ⟨b, δ3⟩, g2, g3⟩ := hl
      refine .inr ⟨go, fun H3 => ∃ Z3 δ3 acc3, StV X.K g Z3 H3 δ3 (L2.wipe σ own) (savD δ1 own ++ some (.lst acc3) :: (U ++ S)) (savV σ own ++ some (.ref Da) :: (W ++ T)) ∧ lcL gt tt fe own (ds.drop (i + 1)) δ3 acc3 = some (accF, δF) ∧ acc3.length ≤ i + 1,
        fun H3 q => ⟨ds.length - (i + 1), by omega, rfl, hlt, q⟩, fun x H2 y => ?_⟩
      have rs := yld x H2 y
      refine ⟨g, Z', δ', _, _, ds[i], δ2, st'.push rs, g1, fun σ4 Z4 H4 st4 ou => ?_⟩
      have ew := ou.wipe hL
      refine ⟨ew, g, Z4, δ2, _, _, _, st4, g2, fun Z5 H5 st5 => ?_⟩
      cases b with
      | false =>
        have st6 := st5.wipeOff own
        rw [ew] at st6
        exact ⟨Z5, _, acc, st6, g3, by omega⟩
      | true =>
        rw [if_pos rfl]
        rw [if_pos rfl] at g3
        obtain ⟨⟨ev, δ6⟩, g4, g5⟩ := Option.bind_eq_some_iff.mp g3
        obtain ⟨⟨ov, δ7⟩, g6, g7⟩ := Option.bind_eq_some_iff.mp g5
        refine ⟨g, Z5, δ3, _, _, _, st5, g4, fun w Z6 H6 st6 al6 => ?_⟩
        obtain ⟨Z7, st7, rd⟩ := st6.tkD al6 g6
        obtain ⟨vs, hv, hvl, st8⟩ := StV.appT (by rw [sl.1, sl.2]) st7
        refine ⟨vs, hv, by omega, Z7, _, acc ++ [ov.fz], ?_, g7, by simp; omega⟩
        have st9 := st8.wipeOff own
        rw [ew] at st9
        exact st9
    · have e : i = ds.length := by omega
      subst e
      refine .inl ⟨iw.stop Z' H' δ' (L2.wipe σ own) S T stI, ?_⟩
      rw [List.drop_length] at hl
      cases hl
      have st4 := StV.unwipe (xs := savD δ1 own) (by rw [sl.1]) st'
      exact post (.ref Da) Z' H' (StV.mid (A := [some (.lst accF)]) (B := [some (.ref Da)]) rfl hU st4) trivial
  · cases h2
theorem lc_coreV {wi : TI} {L own : List Nat} {fi : IF} {gt : GF} {tt : TF} {fe : XF} {σ : L2.St} {H : Hp} {Q : VK} (hL : (L.all fun i => own.contains i) = true) (hi : ∀ σ H R, rdI X.K fi σ H R → wi σ H R) (h : rdE X.K (xLc fi gt tt fe own) σ H Q) :
    tLc wi (rdG X.K L gt) (rdT X.K tt) (rdE X.K fe) own σ H Q := by
  obtain ⟨g, Z, δ, S, T, r, st, hf, post⟩ := h
  simp only [xLc, Option.bind_eq_some_iff] at hf
  obtain ⟨⟨ds, δ1⟩, h1, h2⟩ := hf
  exact lc_coreG (Z := Z) hL (fun R q => hi _ _ _ ⟨g, Z, δ, S, T, _, st, h1, q⟩) h2 post
theorem ve_lc {elt tg iter : Expr} {ifs : List Expr} {scope : Scope} {own : List (Str × Nat)} {pos : Pos} {L : List Nat} {fi : IF} {gt : GF} {tt : TF} {fe : XF} (hL : (L.all fun i => (own.map (·.2)).contains i) = true)
    (hc : X.calm = true) (hN : X.N.Nodup) (hi : VI X tg iter fi) (ok : BlkOk X.N X.env.scope scope own)
    (hg : ∀ (s : Shared) (H : Hp) (C : Addr) (cl : List (Str × Addr)) (fp : List Addr), VG (X.blk s H scope (compEnvC scope cl C X.env) fp) L tg gt) (ht : ∀ (s : Shared) (H : Hp) (C : Addr) (cl : List (Str × Addr)) (fp : List Addr), VTs (X.blk s H scope (compEnvC scope cl C X.env) fp) ifs tt)
    (he : ∀ (s : Shared) (H : Hp) (C : Addr) (cl : List (Str × Addr)) (fp : List Addr), VE (X.blk s H scope (compEnvC scope cl C X.env) fp) elt fe) (hs : ∀ x, foldedSetIterable iter X.env x = pure x := by intro _; rfl) :
    VE X (.ListComp elt [⟨tg, iter, ifs, 0⟩] scope pos) (xLc fi gt tt fe (own.map (·.2))) := PEi (pe_lc hc hN hi ok hg ht he hs) fun σ H Q h => lc_coreV hL (fun _ _ _ q => q) h
theorem vs_setLc {M : List Nat} {i : Nat} {y : Str} {py : Pos} {elt tg iter : Expr} {ifs : List Expr} {scope : Scope} {own : List (Str × Nat)} {pos spos : Pos} {L : List Nat} {fi : IF} {gt : GF} {tt : TF} {fe : XF} (hL : (L.all fun i => (own.map (·.2)).contains i) = true) (hM : M.contains i = false)
    (hc : X.calm = true) (hN : X.N.Nodup) (hy : X.N[i]? = some y) (hyl : X.env.scope.names.lookup y = some .local)
    (hsw : swapsWith (.ListComp elt [⟨tg, iter, ifs, 0⟩] scope pos) (some (.Name y py)) spos.line X.env = pure true) (hi : VI X tg iter fi) (ok : BlkOk X.N X.env.scope scope own)
    (hg : ∀ (s : Shared) (H : Hp) (C : Addr) (cl : List (Str × Addr)) (fp : List Addr), VG (X.blk s H scope (compEnvC scope cl C X.env) fp) L tg gt) (ht : ∀ (s : Shared) (H : Hp) (C : Addr) (cl : List (Str × Addr)) (fp : List Addr), VTs (X.blk s H scope (compEnvC scope cl C X.env) fp) ifs tt)
    (he : ∀ (s : Shared) (H : Hp) (C : Addr) (cl : List (Str × Addr)) (fp : List Addr), VE (X.blk s H scope (compEnvC scope cl C X.env) fp) elt fe) (hs : ∀ x, foldedSetIterable iter X.env x = pure x := by intro _; rfl) :
    VX X M (.Assign [.Name y py] (.ListComp elt [⟨tg, iter, ifs, 0⟩] scope pos) spos) (sSet i (xLc fi gt tt fe (own.map (·.2)))) :=
  PSi (ps_setLc hc hN hy hyl hsw hi ok hg ht he hs) fun D σ H h => set_core hM (fun _ _ _ q => lc_coreV hL (fun _ _ _ q => q) q) h
end
end VS
namespace VS
open PySem PySem.Spec L2
structure PostC (K : PySem.W.Frag) (Z : Addr → Prop) (H : Hp) (Fa : List Addr) (vs : List V) (r : O) (fin : DS) (v : V) (Z' : Addr → Prop) (H' : Hp) (F1 F2 : List Addr) : Prop where
  z : ∀ a, Z a → Z' a
  zh : ∀ a, Z' a → (∃ o, H' a = some o) ∧ (Z a ∨ a ∈ Fa ∨ H a = none)
  keep : ∀ a o, H a = some o → a ∉ Fa → H' a = some o
  rf : RepS K Z' H' fin (vs.map some) F1
  rr : RepO K Z' H' r v F2
  nd : (F1 ++ F2).Nodup
  own : ∀ a ∈ F1 ++ F2, ¬ Z' a ∧ (a ∈ Fa ∨ H a = none)
abbrev FF := List O → Option (O × DS)
def spV (K : PySem.W.Frag) (n : Nat) (F : FF) : Sp := fun vs H Q _ => ∃ Z os Fa r fin, vs.length = n ∧ RepS K Z H (os.map some) (vs.map some) Fa ∧ Fa.Nodup ∧ (∀ a ∈ Fa, ¬ Z a) ∧ (∀ a, Z a → ∃ o, H a = some o) ∧ F os = some (r, fin) ∧
  ∀ v Z' H' F1 F2, PostC K Z H Fa vs r fin v Z' H' F1 F2 → Q v H'
abbrev AF := DS → Option (List Ev × DS)
def aNil : AF := fun δ => some ([], δ)
def aCons (m : Bool) (fa : XF) (fr : AF) : AF := fun δ => (fa δ).bind fun r1 => (if m then some (r1.1, r1.2) else (tk r1.2 r1.1).map fun r => (.val r.1, r.2)).bind fun r2 => (fr r2.2).map fun r3 => (r2.1 :: r3.1, r3.2)
abbrev VA (X : Cx) (es : List Expr) (f : AF) : Prop := PA X es (rdA X.K f)
section
variable {X : Cx} {e : Expr} {es : List Expr} {fa : XF} {fr : AF}
theorem va_nil : VA X [] aNil := PAi pa_nil fun σ H Q ⟨g, Z, δ, S, T, r, st, hf, post⟩ => by
  cases hf
  exact post [] Z H st rfl
theorem va_cons (m : Bool) (ha : VE X e fa) (hr : VA X es fr) (hs : starEach (e :: es) X.env = (false, eval e X.env) :: starEach es X.env := by rfl) : VA X (e :: es) (aCons m fa fr) := PAi (pa_cons ha hr hs) fun σ H Q ⟨g, Z, δ, S, T, r, st, hf, post⟩ => by
  simp only [aCons, Option.bind_eq_some_iff, Option.map_eq_some_iff] at hf
  obtain ⟨⟨e1, δ1⟩, h1, ⟨e2, δ2⟩, h2, ⟨es', δ3⟩, h3, rfl⟩ := hf
  refine ⟨g, Z, δ, S, T, _, st, h1, fun x Z1 H1 st1 al1 => ?_⟩
  have mid : ∃ Z2, StV X.K g Z2 H1 δ2 σ (e2.tmp :: S) (some x :: T) ∧ Al σ e2 x := by
    cases m with
    | true =>
      cases h2
      exact ⟨Z1, st1, al1⟩
    | false =>
      simp only [Bool.false_eq_true, if_false, Option.map_eq_some_iff] at h2
      obtain ⟨⟨o, δ4⟩, h4, h5⟩ := h2
      cases h5
      obtain ⟨Z2, st2, _⟩ := st1.tk al1 h4
      exact ⟨Z2, st2, trivial⟩
  obtain ⟨Z2, st2, al2⟩ := mid
  refine ⟨g, Z2, δ2, _, _, _, st2, h3, fun vs Z3 H3 st3 al3 => ?_⟩
  refine post (x :: vs) Z3 H3 ?_ ⟨x, vs, rfl, al2, al3⟩
  have e3 : tmps (e2 :: es') ++ S = tmps es' ++ (e2.tmp :: S) := by simp [tmps]
  have e4 : vtmps (x :: vs) ++ T = vtmps vs ++ (some x :: T) := by simp [vtmps]
  show StV _ _ _ _ _ _ (tmps (e2 :: es') ++ S) (vtmps (x :: vs) ++ T)
  rw [e3, e4]
  exact st3
end
def outs : List Ev → DS → Option (List O × DS)
  | [], δ => some ([], δ)
  | .val o :: es, δ => (outs es δ).map fun r => (o :: r.1, r.2)
  | .at i :: es, δ => match δ[i]? with
    | some (some o) => (outs es (δ.set i none)).map fun r => (o :: r.1, r.2)
    | _ => none
def ins : List Ev → DS → DS → DS
  | .at i :: es, x :: xs, δ => ins es xs (δ.set i x)
  | .val _ :: es, _ :: xs, δ => ins es xs δ
  | _, _, δ => δ
section
variable {K : PySem.W.Frag} {g : Gx} {Z Z' : Addr → Prop} {H H' : Hp} {δ S U : DS} {σ T W : L2.St} {o : O} {v : V}
theorem StV.mvT {i k : Nat} (s : StV K g Z H δ σ S T) (h : δ[i]? = some (some o)) (hv : σ[i]? = some (some v)) (hk : S[k]? = some none) (hk2 : T[k]? = some (some v)) : StV K g Z H (δ.set i none) σ (S.set k (some o)) T := by
  obtain ⟨Fs, Ft, h1, h2, w⟩ := s
  obtain ⟨y0, Fi, Fr, e, p, q, put⟩ := h1.at h
  rw [hv] at e
  cases e
  obtain ⟨F', s1, s2⟩ := put Z H none (some v) [] (Keep.refl Z H) (fun _ _ _ h => h) rfl
  rw [set_self hv] at s1
  obtain ⟨y1, Gi, Gr, e1, p1, q1, put1⟩ := h2.at hk
  rw [hk2] at e1
  cases e1
  have eG : Gi = [] := q1
  subst eG
  obtain ⟨G', t1, t2⟩ := put1 Z H (some o) (some v) Fi (Keep.refl Z H) (fun _ _ _ h => h) q
  rw [set_self hk2] at t1
  refine ⟨F', G', s1, t1, w.perm ?_⟩
  -- Fs ++ Ft ~ (Fi ++ Fr) ++ Gr ~ Fr ++ (Fi ++ Gr) ~ F' ++ G'
  have a1 : (Fs ++ Ft).Perm ((Fi ++ Fr) ++ Gr) := List.Perm.append p (by simpa using p1)
  have a2 : ((Fi ++ Fr) ++ Gr).Perm (Fr ++ (Fi ++ Gr)) := by
    rw [← List.append_assoc]
    exact List.Perm.append_right _ List.perm_append_comm
  have a3 : (Fr ++ (Fi ++ Gr)).Perm (F' ++ G') := List.Perm.append (by simpa using s2.symm) t2.symm
  exact (a1.trans a2).trans a3
theorem tmps_len (es : List Ev) : (tmps es).length = es.length := by simp [tmps]
theorem Als.length : ∀ {es : List Ev} {vs : List V}, Als σ es vs → es.length = vs.length
  | [], vs, h => by
    have e : vs = [] := h
    rw [e]
    all_goals rfl
  | e :: es, vs, ⟨v, r, ev, _, h⟩ => by
    rw [ev, List.length_cons, List.length_cons, Als.length h]
theorem StV.outs : ∀ {es : List Ev} {vs : List V} {δ δ1 : DS} {os : List O} {S : DS} {T : L2.St}, StV K g Z H δ σ (tmps es ++ S) (vtmps vs ++ T) → Als σ es vs → VS.outs es δ = some (os, δ1) → StV K g Z H δ1 σ ((os.map some).reverse ++ S) (vtmps vs ++ T) ∧ os.length = vs.length
  | [], vs, δ, δ1, os, S, T, s, al, h => by
    have e : vs = [] := al
    subst e
    cases h
    exact ⟨s, rfl⟩
  | .val o :: es, vs, δ, δ1, os, S, T, s, ⟨v, r, ev, a1, a2⟩, h => by
    subst ev
    simp only [VS.outs, Option.map_eq_some_iff] at h
    obtain ⟨⟨os', δ2⟩, h1, h2⟩ := h
    cases h2
    have e1 : tmps (.val o :: es) ++ S = tmps es ++ (some o :: S) := by simp [tmps, Ev.tmp]
    have e2 : vtmps (v :: r) ++ T = vtmps r ++ (some v :: T) := by simp [vtmps]
    rw [e1, e2] at s
    obtain ⟨q, l⟩ := StV.outs s a2 h1
    have e3 : ((o :: os').map some).reverse ++ S = (os'.map some).reverse ++ (some o :: S) := by simp
    rw [e3, e2]
    exact ⟨q, by simp [l]⟩
  | .at i :: es, vs, δ, δ1, os, S, T, s, ⟨v, r, ev, a1, a2⟩, h => by
    subst ev
    simp only [VS.outs] at h
    split at h
    · rename_i o hi
      simp only [Option.map_eq_some_iff] at h
      obtain ⟨⟨os', δ2⟩, h1, h2⟩ := h
      cases h2
      have e1 : tmps (.at i :: es) ++ S = tmps es ++ (none :: S) := by simp [tmps, Ev.tmp]
      have e2 : vtmps (v :: r) ++ T = vtmps r ++ (some v :: T) := by simp [vtmps]
      rw [e1, e2] at s
      have hl := Als.length a2
      have s' := s.mvT (k := es.length) hi a1 (by rw [List.getElem?_append_right (by rw [tmps_len]; exact Nat.le_refl _), tmps_len]; simp) (by rw [hl, List.getElem?_append_right (by simp [vtmps])]; simp [vtmps])
      have e4 : (tmps es ++ none :: S).set es.length (some o) = tmps es ++ some o :: S := by
        rw [List.set_append_right _ _ (by rw [tmps_len]; exact Nat.le_refl _), tmps_len]
        simp
      rw [e4] at s'
      obtain ⟨q, l⟩ := StV.outs s' a2 h1
      have e3 : ((o :: os').map some).reverse ++ S = (os'.map some).reverse ++ (some o :: S) := by simp
      rw [e3, e2]
      exact ⟨q, by simp [l]⟩
    · cases h
theorem StV.ins : ∀ {es : List Ev} {vs : List V} {fin : DS} {δ : DS} {S : DS} {T : L2.St}, fin.length = es.length → StV K g Z H δ σ (fin ++ S) (vs.map some ++ T) → Als σ es vs → StV K g Z H (VS.ins es fin δ) σ S T
  | [], vs, [], δ, S, T, hl, s, al => by
    have e : vs = [] := al
    subst e
    exact s
  | [], vs, _ :: _, δ, S, T, hl, s, al => by simp at hl
  | _ :: _, vs, [], δ, S, T, hl, s, al => by simp at hl
  | .val o :: es, vs, x :: xs, δ, S, T, hl, s, ⟨v, r, ev, a1, a2⟩ => by
    subst ev
    exact StV.ins (es := es) (fin := xs) (by simpa using hl) (StV.pop s) a2
  | .at i :: es, vs, x :: xs, δ, S, T, hl, s, ⟨v, r, ev, a1, a2⟩ => by
    subst ev
    have s' : StV K g Z H (δ.set i x) (σ.set i (some v)) (xs ++ S) (r.map some ++ T) := StV.asgY s
    rw [set_self a1] at s'
    exact StV.ins (es := es) (fin := xs) (by simpa using hl) s' a2
end
/-- a call of an own def -/
def xCall (F : FF) (fs : AF) : XF := fun δ => (fs δ).bind fun r => (outs r.1 r.2).bind fun r2 => (F r2.1).bind fun r3 => if r3.2.length = r.1.length then some (.val r3.1, ins r.1 r3.2 r2.2) else none
theorem call_coreM {K : PySem.W.Frag} {g : Gx} {Z : Addr → Prop} {H : Hp} {δ1 S : DS} {σ T : L2.St} {vs : List V} {os : List O} {F : FF} {r : O} {fin : DS} {Q : VK} {E : XK} {n : Nat} (s1 : StV K g Z H δ1 σ ((os.map some).reverse ++ S) (vtmps vs ++ T)) (l1 : os.length = vs.length) (hF : F os = some (r, fin)) (hl : fin.length = vs.length) (hn : vs.length = n)
    (post : ∀ v Z' H', StV K g Z' H' δ1 σ (fin ++ some r :: S) (vs.map some ++ some v :: T) → Q v H') : spV K n F vs H Q E := by
  obtain ⟨Fs, Ft, h1, h2, w⟩ := s1
  obtain ⟨G1, G2, f, a1, a2⟩ := RepS.append (by simp [vtmps, l1]) h2
  obtain ⟨Fa, b1, b2⟩ := a1.reverse
  unfold vtmps at b1
  rw [List.reverse_reverse, List.reverse_reverse] at b1
  have p : (Fs ++ Ft).Perm (Fa ++ (Fs ++ G2)) := by
    rw [f, ← List.append_assoc, ← List.append_assoc]
    exact List.Perm.append_right _ ((List.perm_append_comm).trans (List.Perm.append_right _ b2.symm))
  have w2 := w.perm p
  have nd := List.nodup_append.mp w2.nd
  refine ⟨Z, os, Fa, r, fin, hn, b1, nd.1, fun a ha => (w2.own a (List.mem_append_left _ ha)).1, fun a z => (w.zh a z).1, hF, fun v Z' H' F1 F2 P => post v Z' H' ?_⟩
  have restIn : ∀ a ∈ Fs ++ G2, (∃ u, H a = some u) := fun a ha => (List.mem_append.mp ha).elim (h1.dom a) (a2.dom a)
  have restNot : ∀ a ∈ Fs ++ G2, a ∉ Fa := fun a ha hf => nd.2.2 a hf a ha rfl
  have kp : Keep Z Z' H H' := by
    refine Keep.of P.z (fun a o z e => P.keep a o e fun hf => (w2.own a (List.mem_append_left _ hf)).1 z) fun a xs e => P.keep a _ e fun hf => ?_
    -- one's own objects are no tuples
    have noT : ∀ (os : List O) (vs : List V) (F : List Addr), RepS K Z H (os.map some) (vs.map some) F → ∀ a ∈ F, ∀ xs, H a ≠ some (.tup xs) := by
      intro os
      induction os with
      | nil =>
        intro vs F h a ha
        have e : F = [] := h.2
        rw [e] at ha
        cases ha
      | cons o os ih =>
        intro vs F h a ha xs e
        obtain ⟨y, r, F1, F2, e1, e2, q1, q2⟩ := h
        cases vs with
        | nil => simp at e1
        | cons v vs =>
          rw [List.map_cons] at e1
          injection e1 with e3 e4
          subst e3 e4 e2
          rcases List.mem_append.mp ha with ha | ha
          · exact RepO.noT o v F1 q1 a ha xs e
          · exact ih vs F2 q2 a ha xs e
    exact noT os vs Fa b1 a hf xs e
  have keepRest : ∀ a ∈ Fs ++ G2, ∀ u, H a = some u → H' a = some u := fun a ha u e => P.keep a u e (restNot a ha)
  have d1 : RepS K Z' H' δ1 σ Fs := RepS.keep kp (fun a ha => keepRest a (List.mem_append_left _ ha)) h1
  have d2 : RepS K Z' H' S T G2 := RepS.keep kp (fun a ha => keepRest a (List.mem_append_right _ ha)) a2
  have app : ∀ {A : DS} {B : L2.St} {F : List Addr} {S : DS} {T : L2.St} {G : List Addr}, RepS K Z' H' S T G → RepS K Z' H' A B F → RepS K Z' H' (A ++ S) (B ++ T) (F ++ G) := by
    intro A
    induction A with
    | nil =>
      intro B F S T G hS h
      obtain ⟨e1, e2⟩ : B = [] ∧ F = [] := h
      subst e1 e2
      exact hS
    | cons x A ih =>
      intro B F S T G hS ⟨y, r, G1, G2, e, f, q1, q2⟩
      subst e f
      exact ⟨y, r ++ T, G1, G2 ++ G, rfl, by rw [List.append_assoc], q1, ih hS q2⟩
  have d3 : RepS K Z' H' (fin ++ some r :: S) (vs.map some ++ some v :: T) (F1 ++ (F2 ++ G2)) := app ⟨some v, T, F2, G2, rfl, rfl, P.rr, d2⟩ P.rf
  have st : StV K g Z' H' δ1 σ (fin ++ some r :: S) (vs.map some ++ some v :: T) := by
    refine ⟨Fs, _, d1, d3, ?_⟩
    have pp : ((F1 ++ F2) ++ (Fs ++ G2)).Perm (Fs ++ (F1 ++ (F2 ++ G2))) := by
      have e1 : (F1 ++ F2) ++ (Fs ++ G2) = ((F1 ++ F2) ++ Fs) ++ G2 := by simp
      have e2 : Fs ++ (F1 ++ (F2 ++ G2)) = (Fs ++ (F1 ++ F2)) ++ G2 := by simp
      rw [e1, e2]
      exact List.Perm.append_right _ List.perm_append_comm
    refine Wd.perm ?_ pp
    have disj : ∀ a ∈ F1 ++ F2, ∀ b ∈ Fs ++ G2, a ≠ b := fun a ha b hb e => by
      subst e
      rcases (P.own a ha).2 with q | q
      · exact restNot a hb q
      · obtain ⟨u, e⟩ := restIn a hb
        rw [q] at e
        cases e
    refine ⟨List.nodup_append.mpr ⟨P.nd, nd.2.1, disj⟩, fun a ha => ?_, fun a z => P.z a (w.z0 a z), fun a z => ?_, fun a u e => ?_⟩
    · rcases List.mem_append.mp ha with ha | ha
      · obtain ⟨q1, q2⟩ := P.own a ha
        refine ⟨q1, ?_⟩
        rcases q2 with q2 | q2
        · exact (w2.own a (List.mem_append_left _ q2)).2
        · cases q : g.G a with
          | none => rfl
          | some u =>
            have := w.gh a u q
            rw [q2] at this
            cases this
      · refine ⟨fun z => ?_, (w2.own a (List.mem_append_right _ ha)).2⟩
        rcases (P.zh a z).2 with q | q | q
        · exact (w2.own a (List.mem_append_right _ ha)).1 q
        · exact restNot a ha q
        · obtain ⟨u, e⟩ := restIn a ha
          rw [q] at e
          cases e
    · obtain ⟨q1, q2⟩ := P.zh a z
      refine ⟨q1, ?_⟩
      rcases q2 with q | q | q
      · exact (w.zh a q).2
      · exact .inr (w2.own a (List.mem_append_left _ q)).2
      · refine .inr ?_
        cases qq : g.G a with
        | none => rfl
        | some u =>
          have := w.gh a u qq
          rw [q] at this
          cases this
    · refine P.keep a u (w.gh a u e) fun hf => ?_
      have := (w2.own a (List.mem_append_left _ hf)).2
      rw [this] at e
      cases e
  exact st
theorem call_core {K : PySem.W.Frag} {g : Gx} {Z : Addr → Prop} {H : Hp} {δ δ1 S : DS} {σ T : L2.St} {es : List Ev} {vs : List V} {os : List O} {F : FF} {r : O} {fin : DS} {Q : VK} {E : XK} {n : Nat} (s : StV K g Z H δ σ (tmps es ++ S) (vtmps vs ++ T)) (al : Als σ es vs) (ho : outs es δ = some (os, δ1)) (hF : F os = some (r, fin)) (hl : fin.length = es.length) (hn : vs.length = n)
    (post : ∀ v Z' H', StV K g Z' H' (ins es fin δ1) σ (some r :: S) (some v :: T) → Q v H') : spV K n F vs H Q E := by
  obtain ⟨s1, l1⟩ := s.outs al ho
  exact call_coreM s1 l1 hF (by rw [hl, al.length]) hn fun v Z' H' st => post v Z' H' (StV.ins hl st al)
section
variable {X : Cx} {x m : Str} {p pos apos : Pos} {e o : Expr} {es : List Expr} {k n : Nat} {f C : Addr} {fd : FuncData} {ps : List Str} {F : FF} {fs : AF} {fo : XF}
theorem vs_call_core {σ : L2.St} {H : Hp} {Q : VK} (h : rdE X.K (xCall F fs) σ H Q) (hn : ∀ δ r, fs δ = some r → r.1.length = n) : tCall (spV X.K n F) [] E0 (rdA X.K fs) σ H Q := by
  obtain ⟨g, Z, δ, S, T, r, st, hf, post⟩ := h
  simp only [xCall, Option.bind_eq_some_iff] at hf
  obtain ⟨⟨es, δ1⟩, h1, ⟨os, δ2⟩, h2, ⟨r0, fin⟩, h3, h4⟩ := hf
  split at h4
  · rename_i hl
    cases h4
    refine ⟨g, Z, δ, S, T, _, st, h1, fun vs Z1 H1 st1 al1 => ?_⟩
    show spV X.K n F (vs ++ []) H1 Q E0
    rw [List.append_nil]
    exact call_core st1 al1 h2 h3 hl (by rw [← al1.length]; exact hn _ _ h1) fun v Z' H' st2 => post v Z' H' st2 trivial
  · cases h4
theorem ve_call (G : FnOk X.prog X.w X.K X.mg X.base CX0 k f fd ps (spV X.K n F)) (hn : ∀ δ r, fs δ = some r → r.1.length = n) (hr : Room k X.A) (hg : Gl X x) (hm : X.mg x = some (.ref f)) (hk : PySem.W.keepIn X.K (.ref f) = true) (hb : Binds X.K fd ps [])
    (ha : VA X (e :: es) fs) (hdb : (x == ("__debug__" : Str)) = false := by decide) (he : starEach (e :: es) X.env = (false, eval e X.env) :: starEach es X.env := by rfl) (hpl : (backTo pos (starEach es X.env)).any (·.1) = false := by rfl) :
    VE X (.Call (.Name x p) (e :: es) [] pos) (xCall F fs) := PEi (pe_call G hr hg hm hk hb .nil pass0 ha hdb he hpl) fun σ H Q h => vs_call_core h hn
end
/-- how many arguments -/
theorem aNil_len : ∀ δ r, aNil δ = some r → r.1.length = 0 := fun δ r h => by cases h; rfl
theorem aCons_len {m : Bool} {fa : XF} {fr : AF} {n : Nat} (h : ∀ δ r, fr δ = some r → r.1.length = n) : ∀ δ r, aCons m fa fr δ = some r → r.1.length = n + 1 := fun δ r hf => by
  simp only [aCons, Option.bind_eq_some_iff, Option.map_eq_some_iff] at hf
  obtain ⟨_, _, _, _, ⟨es', δ3⟩, h3, rfl⟩ := hf
  show es'.length + 1 = n + 1
  rw [h _ _ h3]
end VS
namespace VS
open PySem PySem.Spec L2
open PyProof.Rows (envOfC)
def selM (M : List Nat) (δ : DS) : Nat → Nat → DS
  | _, 0 => []
  | i, n + 1 => (if M.contains i then (δ[i]?).join else none) :: selM M δ (i + 1) n
/-- n parameters, N names in all -/
def defF (n N : Nat) (M : List Nat) (fb : SF) : FF := fun os => if os.length = n then (fb (os.map some ++ List.replicate (N - n) none)).bind fun fl => match fl with
  | .rt o δ => some (o, selM M δ 0 n)
  | .nx δ => some (.sh .non, selM M δ 0 n)
  | _ => none
  else none
section
variable {K : PySem.W.Frag} {g : Gx} {Z Z' : Addr → Prop} {H H' : Hp} {S U : DS} {T W : L2.St}
theorem sel_rep {M : List Nat} : ∀ {δ : DS} {σ : L2.St} {F : List Addr} {vs : List V} (i n : Nat) (δ0 : DS), RepS K Z H δ σ F → n = vs.length → (∀ j, (δ0[i + j]?) = δ[j]?) → n ≤ δ.length → (∀ j, j < n → i + j ∈ M → σ[j]? = some (vs[j]?)) →
    ∃ F', RepS K Z H (selM M δ0 i n) (vs.map some) F' ∧ F'.Sublist F
  | δ, σ, F, [], i, n, δ0, h, hn, hd, hl, ha => by
    have e : n = 0 := hn
    subst e
    exact ⟨[], ⟨rfl, rfl⟩, List.nil_sublist _⟩
  | [], σ, F, v :: vs, i, n, δ0, h, hn, hd, hl, ha => by simp at hl; subst hl; simp at hn
  | x :: δ, σ, F, v :: vs, i, n, δ0, ⟨y, r, F1, F2, e, f, h1, h2⟩, hn, hd, hl, ha => by
    have e0 : n = vs.length + 1 := hn
    subst e0 e f
    obtain ⟨F', q1, q2⟩ := sel_rep (M := M) (vs := vs) (i + 1) vs.length δ0 h2 rfl (fun j => by
      have := hd (j + 1)
      rw [show i + (j + 1) = i + 1 + j by omega] at this
      simpa using this) (by simp at hl; omega) (fun j hj hm => by
      have := ha (j + 1) (by simp; omega) (by rw [show i + (j + 1) = i + 1 + j by omega]; exact hm)
      simpa using this)
    by_cases hm : M.contains i
    · have hx : δ0[i]? = some x := by
        have := hd 0
        simpa using this
      have hy : y = some v := by
        have := ha 0 (by simp) (by simpa using hm)
        simpa using this
      subst hy
      refine ⟨F1 ++ F', ⟨some v, vs.map some, F1, F', rfl, rfl, ?_, q1⟩, List.Sublist.append (List.Sublist.refl _) q2⟩
      rw [if_pos hm, hx]
      exact h1
    · refine ⟨F', ⟨some v, vs.map some, [], F', rfl, rfl, ?_, q1⟩, q2.trans (List.sublist_append_right _ _)⟩
      rw [if_neg hm]
      exact rfl
end
section
variable {P : Program} {w : World} {K : PySem.W.Frag} {mg : Str → Option Value} {base : Heap}
theorem start_eq {N : List Str} {vs : List V} : start N vs = vs.map some ++ List.replicate (N.length - vs.length) none := rfl
/-- THE RULE for a def -/
theorem fnV {x qual : Str} {params : Arguments} {body : List Stmt} {scope : Scope} {f : Addr} {fd : FuncData} {N ps : List Str} {k : Nat} {M : List Nat} {fb : SF} (F : FunD K x qual params body scope [] [] f fd) (S : FnScope N ps scope)
    (hb : ∀ (cdv : Value) (A : Around) (outer : List Env) (s : Shared) (H : Hp) (E : XK), Room k (A.deeper (envOfC qual scope s.heap.objs.size f cdv)) → VXs (cxOf CX0 P w K mg base N qual scope f cdv A outer s H E).nox M body fb) :
    FnOk P w K mg base CX0 (k + 1) f fd ps (spV K ps.length (defF ps.length N.length M fb)) := by
  refine FunD.ok F S (fun vs H Q E h => ?_) (fun cdv A outer s H vs Q E hr h => ?_)
  · obtain ⟨_, _, _, _, _, hn, _⟩ := h
    exact hn
  · have hpl : ps.length ≤ N.length := by have := congrArg List.length S.pre; rw [List.length_take] at this; omega
    obtain ⟨Z, os, Fa, r, fin, hn, rs, nd, nz, zh, hF, post⟩ := h
    have hol : os.length = ps.length := by
      have := rs.length
      simp at this
      omega
    simp only [defF, if_pos hol, Option.bind_eq_some_iff] at hF
    obtain ⟨fl, h1, h2⟩ := hF
    refine ⟨rdS K M fb, (hb cdv A outer s H E hr).nox, ?_⟩
    refine ⟨⟨Z, fun a => if a ∈ Fa then none else H a⟩, Z, _, [], [], fl, ?_, h1, ?_⟩
    · -- the state at the entry
      have repN : ∀ m : Nat, RepS K Z H (List.replicate m (none : Option O)) (List.replicate m (none : Option V)) [] := by
        intro m
        induction m with
        | zero => exact ⟨rfl, rfl⟩
        | succ m ih => exact ⟨none, _, [], [], rfl, rfl, rfl, ih⟩
      have app : ∀ {A : DS} {B : L2.St} {F : List Addr}, RepS K Z H A B F → RepS K Z H (A ++ List.replicate (N.length - ps.length) none) (B ++ List.replicate (N.length - vs.length) none) F := by
        intro A
        induction A with
        | nil =>
          intro B F h
          obtain ⟨e1, e2⟩ : B = [] ∧ F = [] := h
          subst e1 e2
          rw [hn]
          exact repN _
        | cons x A ih =>
          intro B F ⟨y, r, G1, G2, e, f, q1, q2⟩
          subst e f
          exact ⟨y, r ++ _, G1, G2, rfl, rfl, q1, ih q2⟩
      rw [start_eq]
      refine ⟨Fa, [], app rs, ⟨rfl, rfl⟩, by simpa using nd, fun a ha => ?_, fun a z => z, fun a z => ⟨zh a z, .inl z⟩, fun a o e => ?_⟩
      · have ha' : a ∈ Fa := by simpa using ha
        exact ⟨nz a ha', by show (if a ∈ Fa then none else H a) = none; rw [if_pos ha']⟩
      · have e' : (if a ∈ Fa then none else H a) = some o := e
        split at e'
        · cases e'
        · exact e'
    · -- the end
      have fin' : ∀ {o : O} {δ' : DS} {v : V} {σ' : L2.St} {Z' : Addr → Prop} {H' : Hp}, o = r → selM M δ' 0 ps.length = fin → StV K ⟨Z, fun a => if a ∈ Fa then none else H a⟩ Z' H' δ' σ' [some o] [some v] → Agree M (start N vs) σ' → Q v H' := by
        intro o δ' v σ' Z' H' eo ef st ag
        have hdl : ps.length ≤ δ'.length := by
          rw [st.len, ag.1, start_eq, List.length_append, List.length_map, List.length_replicate]
          omega
        subst eo ef
        obtain ⟨Fs, Ft, q1, ⟨y', r', G1, G2, e1, e2, q2, ⟨e4, e5⟩⟩, w⟩ := st
        cases e1
        subst e5 e2
        obtain ⟨F1, s1, s2⟩ := sel_rep (M := M) (vs := vs) 0 ps.length δ' q1 hn.symm (fun j => by rw [Nat.zero_add]) (by omega) (fun j hj hm => by
          rw [ag.2 j (by simpa using hm), start_eq, List.getElem?_append_left (by simp; omega)]
          rw [List.getElem?_map]
          have : j < vs.length := by omega
          simp [this])
        have w2 : Wd ⟨Z, fun a => if a ∈ Fa then none else H a⟩ Z' H' (F1 ++ G1) := w.sub (List.Sublist.append s2 (by simp))
        refine post v Z' H' F1 G1 ⟨w2.z0, fun a z => ?_, fun a o e hf => ?_, s1, q2, w2.nd, fun a ha => ?_⟩
        · obtain ⟨p1, p2⟩ := w2.zh a z
          refine ⟨p1, ?_⟩
          rcases p2 with p2 | p2
          · exact .inl p2
          · have p2' : (if a ∈ Fa then none else H a) = none := p2
            by_cases hf : a ∈ Fa
            · exact .inr (.inl hf)
            · rw [if_neg hf] at p2'
              exact .inr (.inr p2')
        · exact w2.gh a o (by show (if a ∈ Fa then none else H a) = some o; rw [if_neg hf]; exact e)
        · obtain ⟨p1, p2⟩ := w2.own a ha
          refine ⟨p1, ?_⟩
          have p2' : (if a ∈ Fa then none else H a) = none := p2
          by_cases hf : a ∈ Fa
          · exact .inl hf
          · rw [if_neg hf] at p2'
            exact .inr p2'
      cases fl with
      | rt o δ' =>
        cases h2
        exact fun v σ' Z' H' st ag => fin' rfl rfl st ag
      | nx δ' =>
        cases h2
        exact fun σ' Z' H' st ag => fin' rfl rfl (st.push Res.non) ag
      | bk δ' => cases h2
      | ct δ' => cases h2
end
end VS
namespace VS
open PySem PySem.Spec L2
section
variable {K : PySem.W.Frag} {Z : Addr → Prop} {H : Hp} {v : V}
theorem RepF.lookup {f : Str} : ∀ {fs : List (Str × D)} {vs : List (Str × V)}, RepF K Z H fs vs → (∀ d, fs.lookup f = some d → ∃ w, vs.lookup f = some w ∧ RepD K Z H d w) ∧ (fs.lookup f = none → vs.lookup f = none)
  | [], vs, h => by
    simp only [RepF] at h
    subst h
    exact ⟨fun d e => (nomatch (show (none : Option D) = some d from e)), fun _ => rfl⟩
  | (k, d0) :: r, vs, h => by
    simp only [RepF] at h
    obtain ⟨w, r', rfl, h1, h2⟩ := h
    have ih := RepF.lookup (f := f) h2
    by_cases e : (f == k) = true
    · simp only [List.lookup, e]
      exact ⟨fun d q => by cases q; exact ⟨w, rfl, h1⟩, fun q => by cases q⟩
    · have e' : (f == k) = false := by simpa using e
      simp only [List.lookup, e']
      exact ih
theorem RepOF.lookup {f : Str} : ∀ {fs : List (Str × O)} {vs : List (Str × V)} {F : List Addr}, RepOF K Z H fs vs F → (∀ o, fs.lookup f = some o → ∃ w G, vs.lookup f = some w ∧ RepO K Z H o w G) ∧ (fs.lookup f = none → vs.lookup f = none)
  | [], vs, F, h => by
    simp only [RepOF] at h
    rw [h.1]
    exact ⟨fun d e => (nomatch (show (none : Option O) = some d from e)), fun _ => rfl⟩
  | (k, d0) :: r, vs, F, h => by
    simp only [RepOF] at h
    obtain ⟨w, r', F1, F2, rfl, ef, h1, h2⟩ := h
    have ih := RepOF.lookup (f := f) h2
    by_cases e : (f == k) = true
    · simp only [List.lookup, e]
      exact ⟨fun d q => by cases q; exact ⟨w, F1, rfl, h1⟩, fun q => by cases q⟩
    · have e' : (f == k) = false := by simpa using e
      simp only [List.lookup, e']
      exact ih
end
/-- e.f of an instance of the class c; what is one's own there is not handed out -/
def fldO (c f : Str) : O → Option D
  | .sh (.obj c' fs) => if c' = c then fs.lookup f else none
  | .obj c' fs => if c' = c then match fs.lookup f with
    | some (.sh d) => some d
    | _ => none
    else none
  | _ => none
def xFld (c f : Str) (fe : XF) : XF := fun δ => (fe δ).bind fun r => (look r.2 r.1).bind fun o => (fldO c f o).map fun d => (.val (.sh d), r.2)
section
variable {X : Cx} {e : Expr} {fe : XF} {pos : Pos}
theorem ve_fld {c f : Str} (cl : Cls X.K (He.ga X.K c)) (na : NoAttr X.K (He.ga X.K c) f) (he : VE X e fe) (hb : attributeBase e f X.env (eval e X.env) = eval e X.env) : VE X (.Attribute e f pos) (xFld c f fe) := PEi (pe_fld he hb) fun σ H Q ⟨g, Z, δ, S, T, r, st, hf, post⟩ => by
  simp only [xFld, Option.bind_eq_some_iff, Option.map_eq_some_iff] at hf
  obtain ⟨⟨ev, δ1⟩, h1, o, h2, d, h3, rfl⟩ := hf
  refine ⟨g, Z, δ, S, T, _, st, h1, fun v Z1 H1 st1 al1 => ?_⟩
  obtain ⟨F, ro⟩ := st1.look al1 h2
  cases o <;> simp only [fldO, reduceCtorEq] at h3
  · rename_i d0
    cases d0 <;> simp only [fldO, reduceCtorEq] at h3
    rename_i c' fs
    split at h3
    · rename_i ec
      subst ec
      simp only [RepO, RepD] at ro
      obtain ⟨_, a, dx, vs, rfl, _, ha, rf⟩ := ro
      obtain ⟨w, q1, q2⟩ := rf.lookup.1 d h3
      exact ⟨a, _, dx, vs, w, rfl, ha, cl, na, q1, post w Z1 H1 (st1.pop.pushD q2) trivial⟩
    · cases h3
  · rename_i c' fs
    split at h3
    · rename_i ec
      subst ec
      split at h3
      · rename_i d' q
        cases h3
        simp only [RepO] at ro
        obtain ⟨a, dx, vs, G, rfl, _, ha, rf⟩ := ro
        obtain ⟨w, G', q1, q2⟩ := rf.lookup.1 _ q
        simp only [RepO] at q2
        exact ⟨a, _, dx, vs, w, rfl, ha, cl, na, q1, post w Z1 H1 (st1.pop.pushD q2.2) trivial⟩
      · cases h3
    · cases h3
end
def putO (f : Str) (o : O) : List (Str × O) → List (Str × O)
  | [] => [(f, o)]
  | (k, x) :: r => if k = f then (k, o) :: r else (k, x) :: putO f o r
def sAttr (i : Nat) (c f : Str) (fe : XF) : SF := fun δ => (fe δ).bind fun r => (tk r.2 r.1).bind fun r => match r.2[i]? with
  | some (some (.obj c' fs)) => if c' = c ∧ fs.length < 1000 then some (.nx (r.2.set i (some (.obj c' (putO f r.1 fs))))) else none
  | _ => none
section
variable {K : PySem.W.Frag} {g : Gx} {Z Z' : Addr → Prop} {H H' : Hp} {δ S U : DS} {σ T W : L2.St} {o : O} {v : V}
theorem RepOF.put {f : Str} {Fo : List Addr} (ho : RepO K Z H o v Fo) : ∀ {fs : List (Str × O)} {vs : List (Str × V)} {F : List Addr}, RepOF K Z H fs vs F → ∃ F' Fd, RepOF K Z H (putO f o fs) (putF f v vs) F' ∧ (Fo ++ F).Perm (F' ++ Fd)
  | [], vs, F, h => by
    simp only [RepOF] at h
    obtain ⟨h1, h2⟩ := h
    subst h1 h2
    refine ⟨Fo, [], ?_, by simp⟩
    simp only [putO, RepOF]
    exact ⟨v, [], Fo, [], rfl, by simp, ho, rfl, rfl⟩
  | (k, x) :: r, vs, F, h => by
    simp only [RepOF] at h
    obtain ⟨w, r', F1, F2, rfl, ef, h1, h2⟩ := h
    subst ef
    by_cases e : k = f
    · refine ⟨Fo ++ F2, F1, ?_, ?_⟩
      · simp only [putO, if_pos e, putF, RepOF]
        exact ⟨v, r', Fo, F2, rfl, rfl, ho, h2⟩
      · rw [List.append_assoc]
        exact List.Perm.append_left _ List.perm_append_comm
    · obtain ⟨F', Fd, q1, q2⟩ := RepOF.put (f := f) ho h2
      refine ⟨F1 ++ F', Fd, ?_, ?_⟩
      · simp only [putO, if_neg e, putF, RepOF]
        exact ⟨w, _, F1, F', rfl, rfl, h1, q1⟩
      · rw [List.append_assoc]
        refine List.Perm.trans ?_ (List.Perm.append_left F1 q2)
        rw [← List.append_assoc, ← List.append_assoc]
        exact List.Perm.append_right _ List.perm_append_comm
theorem StV.attr {i : Nat} {c f : Str} {fs : List (Str × O)} {w : V} (s : StV K g Z H δ σ (some o :: S) (some w :: T)) (h : δ[i]? = some (some (.obj c fs))) (hv : σ[i]? = some (some v)) :
    ∃ a dx vs, v = .ref a ∧ H a = some (.ins (He.ga K c) dx vs) ∧ vs.length = fs.length ∧ StV K g Z (L2.upd H a (.ins (He.ga K c) dx (putF f w vs))) (δ.set i (some (.obj c (putO f o fs)))) σ S T := by
  obtain ⟨Fs, Ft, h1, ⟨y', r, G1, G2, e, ef, h3, h4⟩, w1⟩ := s
  cases e
  subst ef
  obtain ⟨y, Fi, Fr, e, p, q, put⟩ := h1.at h
  rw [hv] at e
  cases e
  have q1 : RepO K Z H (.obj c fs) v Fi := q
  simp only [RepO] at q1
  obtain ⟨a, dx, vs, G, rfl, eFi, ha, rf⟩ := q1
  subst eFi
  have len : ∀ {fs : List (Str × O)} {vs : List (Str × V)} {F : List Addr}, RepOF K Z H fs vs F → vs.length = fs.length := by
    intro fs
    induction fs with
    | nil =>
      intro vs F h
      simp only [RepOF] at h
      rw [h.1]
      rfl
    | cons p fs ih =>
      intro vs F h
      obtain ⟨k, o⟩ := p
      simp only [RepOF] at h
      obtain ⟨w, r', F1, F2, rfl, _, _, h2⟩ := h
      simp [ih h2]
  refine ⟨a, dx, vs, rfl, ha, len rf, ?_⟩
  have p2 : (Fs ++ (G1 ++ G2)).Perm ((a :: (G1 ++ G)) ++ (Fr ++ G2)) := by
    have x1 : (Fs ++ (G1 ++ G2)).Perm ((a :: G) ++ Fr ++ (G1 ++ G2)) := List.Perm.append_right _ p
    refine x1.trans ?_
    have x2 : ((a :: G) ++ Fr ++ (G1 ++ G2)).Perm (G1 ++ ((a :: G) ++ Fr ++ G2)) := by
      have y1 : (a :: G) ++ Fr ++ (G1 ++ G2) = ((a :: G) ++ Fr ++ G1) ++ G2 := by simp
      have y2 : G1 ++ ((a :: G) ++ Fr ++ G2) = (G1 ++ ((a :: G) ++ Fr)) ++ G2 := by simp
      rw [y1, y2]
      exact List.Perm.append_right _ List.perm_append_comm
    refine x2.trans ?_
    have y3 : G1 ++ ((a :: G) ++ Fr ++ G2) = (G1 ++ [a]) ++ (G ++ Fr ++ G2) := by simp
    have y4 : (a :: (G1 ++ G)) ++ (Fr ++ G2) = ([a] ++ G1) ++ (G ++ Fr ++ G2) := by simp
    rw [y3, y4]
    exact List.Perm.append_right _ List.perm_append_comm
  have w2 := w1.perm p2
  have nd := List.nodup_append.mp w2.nd
  have nda := List.nodup_cons.mp nd.1
  have za : ¬ Z a := (w2.own a (List.mem_append_left _ List.mem_cons_self)).1
  have ga : g.G a = none := (w2.own a (List.mem_append_left _ List.mem_cons_self)).2
  have kp : Keep Z Z H (L2.upd H a (.ins (He.ga K c) dx (putF f w vs))) := Keep.of (fun _ z => z) (fun b u z e => by
    rw [upd_ne fun q : b = a => za (by rw [← q]; exact z)]
    exact e) fun b xs e => by
    rw [upd_ne fun q => by rw [q, ha] at e; cases e]
    exact e
  have ot : ∀ b, b ≠ a → ∀ u, H b = some u → L2.upd H a (.ins (He.ga K c) dx (putF f w vs)) b = some u := fun b hb u e => by rw [upd_ne hb]; exact e
  have h3' : RepO K Z H o w G1 := h3
  have ho2 := RepO.keep kp o w G1 (fun b hb => ot b fun q : b = a => nda.1 (by rw [← q]; exact List.mem_append_left _ hb)) h3'
  have hf2 := RepOF.keep kp fs vs G (fun b hb => ot b fun q : b = a => nda.1 (by rw [← q]; exact List.mem_append_right _ hb)) rf
  obtain ⟨F', Fd, r1, r2⟩ := RepOF.put (f := f) ho2 hf2
  have ro : RepO K Z (L2.upd H a (.ins (He.ga K c) dx (putF f w vs))) (.obj c (putO f o fs)) (.ref a) (a :: F') := by
    simp only [RepO]
    exact ⟨a, dx, putF f w vs, F', rfl, rfl, upd_same, r1⟩
  obtain ⟨Fn, s1, s2⟩ := put Z _ (some (.obj c (putO f o fs))) (some (.ref a)) (a :: F') kp (fun b hb => ot b fun q => nd.2.2 a List.mem_cons_self b (List.mem_append_left _ hb) q.symm) ro
  rw [set_self hv] at s1
  have h4' : RepS K Z (L2.upd H a (.ins (He.ga K c) dx (putF f w vs))) S T G2 := RepS.keep kp (fun b hb => ot b fun q => nd.2.2 a List.mem_cons_self b (List.mem_append_right _ hb) q.symm) h4
  have w3 : Wd g Z H (Fn ++ G2) := by
    have x1 : ((a :: (G1 ++ G)) ++ (Fr ++ G2)).Perm (Fd ++ (Fn ++ G2)) := by
      have x2 : (a :: (G1 ++ G)).Perm (a :: (F' ++ Fd)) := List.Perm.cons a r2
      have x3 : (a :: (F' ++ Fd)).Perm (Fd ++ (a :: F')) := by
        have : a :: (F' ++ Fd) = (a :: F') ++ Fd := rfl
        rw [this]
        exact List.perm_append_comm
      have x4 : (Fd ++ (a :: F') ++ (Fr ++ G2)).Perm (Fd ++ (Fn ++ G2)) := by
        rw [List.append_assoc]
        refine List.Perm.append_left _ ?_
        rw [← List.append_assoc]
        exact List.Perm.append_right _ s2.symm
      exact (List.Perm.append_right _ (x2.trans x3)).trans x4
    exact (w2.perm x1).sub (List.sublist_append_right _ _)
  refine ⟨Fn, G2, s1, h4', w3.nd, w3.own, w3.z0, fun b z => ⟨?_, (w3.zh b z).2⟩, fun b u e => ?_⟩
  · obtain ⟨u, e⟩ := (w3.zh b z).1
    exact ⟨u, ot b (fun q : b = a => za (by rw [← q]; exact z)) u e⟩
  · rw [upd_ne fun q => by rw [q, ga] at e; cases e]
    exact w3.gh b u e
end
section
variable {X : Cx} {e : Expr} {fe : XF} {pos pos' : Pos} {M : List Nat} {ob : Expr}
theorem vs_attr {i : Nat} {c f : Str} (cl : Cls X.K (He.ga X.K c)) (na : NoAttr X.K (He.ga X.K c) f) (ho : PE X ob (tVar i)) (he : VE X e fe) (hs : swapsWith e (some (.Attribute ob f pos')) pos.line X.env = pure false := by rfl) :
    VX X M (.Assign [.Attribute ob f pos'] e pos) (sAttr i c f fe) := PSi (ps_fld ho he hs) fun D σ H ⟨g, Z, δ, S, T, r, st, hf, post⟩ => by
  simp only [sAttr, Option.bind_eq_some_iff] at hf
  obtain ⟨⟨ev, δ1⟩, h1, ⟨o, δ2⟩, h2, h3⟩ := hf
  refine ⟨g, Z, δ, S, T, _, st, h1, fun w Z1 H1 st1 al1 => ?_⟩
  obtain ⟨Z2, st2, _⟩ := st1.tk al1 h2
  split at h3
  · rename_i c' fs q
    split at h3
    · rename_i hh
      obtain ⟨ec, hlen⟩ := hh
      subst ec
      cases h3
      obtain ⟨v, F, e1, _⟩ := st2.slot q
      obtain ⟨a, dx, vs, ev', ha, hl, st3⟩ := st2.attr (f := f) q e1
      subst ev'
      exact ⟨.ref a, e1, a, _, dx, vs, rfl, ha, cl, na, by omega, post σ Z2 _ st3 (Agree.refl _ _)⟩
    · cases h3
  · cases h3
end
def noFld (c m : Str) : O → Bool
  | .sh (.obj c' fs) => decide (c' = c) && (fs.lookup m).isNone
  | .obj c' fs => decide (c' = c) && (fs.lookup m).isNone
  | _ => false
def xMeth (c m : Str) (F : FF) (fo : XF) (fs : AF) : XF := fun δ => (fo δ).bind fun r0 => (look r0.2 r0.1).bind fun o => if noFld c m o then
  (fs r0.2).bind fun r => (outs (r0.1 :: r.1) r.2).bind fun r2 => (F r2.1).bind fun r3 => if r3.2.length = r.1.length + 1 then some (.val r3.1, ins (r0.1 :: r.1) r3.2 r2.2) else none
  else none
section
variable {X : Cx} {x m c : Str} {p pos apos : Pos} {e o : Expr} {es : List Expr} {k n : Nat} {f : Addr} {fd : FuncData} {ps : List Str} {F : FF} {fs : AF} {fo : XF}
theorem meth_core {σ : L2.St} {H : Hp} {Q : VK} (h : rdE X.K (xMeth c m F fo fs) σ H Q) (hn : ∀ δ r, fs δ = some r → r.1.length + 1 = n) : tMeth (He.ga X.K c) m (spV X.K n F) [] E0 (rdE X.K fo) (rdA X.K fs) σ H Q := by
  obtain ⟨g, Z, δ, S, T, r, st, hf, post⟩ := h
  simp only [xMeth, Option.bind_eq_some_iff] at hf
  obtain ⟨⟨e0, δ0⟩, h1, ob, h2, h3⟩ := hf
  split at h3
  · rename_i hno
    simp only [Option.bind_eq_some_iff] at h3
    obtain ⟨⟨es, δ1⟩, h4, ⟨os, δ2⟩, h5, ⟨r0, fin⟩, h6, h7⟩ := h3
    split at h7
    · rename_i hl
      cases h7
      refine ⟨g, Z, δ, S, T, _, st, h1, fun v Z1 H1 st1 al1 => ?_⟩
      obtain ⟨Fo, ro⟩ := st1.look al1 h2
      have inst : ∃ a dx vs, v = .ref a ∧ H1 a = some (.ins (He.ga X.K c) dx vs) ∧ vs.lookup m = none := by
        cases ob <;> simp only [noFld, Bool.false_eq_true, reduceCtorEq] at hno
        · rename_i d
          cases d <;> simp only [noFld, Bool.false_eq_true, reduceCtorEq] at hno
          rename_i c' fs
          simp only [Bool.and_eq_true, decide_eq_true_eq, Option.isNone_iff_eq_none] at hno
          obtain ⟨ec, hm⟩ := hno
          subst ec
          simp only [RepO, RepD] at ro
          obtain ⟨_, a, dx, vs, rfl, _, ha, rf⟩ := ro
          exact ⟨a, dx, vs, rfl, ha, rf.lookup.2 hm⟩
        · rename_i c' fs
          simp only [Bool.and_eq_true, decide_eq_true_eq, Option.isNone_iff_eq_none] at hno
          obtain ⟨ec, hm⟩ := hno
          subst ec
          simp only [RepO] at ro
          obtain ⟨a, dx, vs, G, rfl, _, ha, rf⟩ := ro
          exact ⟨a, dx, vs, rfl, ha, rf.lookup.2 hm⟩
      obtain ⟨a, dx, vs, rfl, ha, hm⟩ := inst
      refine ⟨a, dx, vs, rfl, ha, hm, g, Z1, δ0, _, _, _, st1, h4, fun ws Z2 H2 st2 al2 => ?_⟩
      show spV X.K n F (V.ref a :: (ws ++ [])) H2 Q E0
      rw [List.append_nil]
      have e1 : tmps es ++ (e0.tmp :: S) = tmps (e0 :: es) ++ S := by simp [tmps]
      have e2 : vtmps ws ++ (some (V.ref a) :: T) = vtmps (V.ref a :: ws) ++ T := by simp [vtmps]
      have st3 : StV X.K g Z2 H2 δ1 σ (tmps es ++ (e0.tmp :: S)) (vtmps ws ++ (some (V.ref a) :: T)) := st2
      rw [e1, e2] at st3
      exact call_core st3 ⟨_, ws, rfl, al1, al2⟩ h5 h6 hl (by rw [List.length_cons, ← al2.length]; exact hn _ _ h4) fun v Z' H' st4 => post v Z' H' st4 trivial
    · cases h7
  · cases h3
theorem ve_meth {pl : Sem Bool} (cl : Cls X.K (He.ga X.K c)) (hm : Meth X.K (He.ga X.K c) m f) (G : FnOk X.prog X.w X.K X.mg X.base CX0 k f fd ps (spV X.K n F)) (hn : ∀ δ r, fs δ = some r → r.1.length + 1 = n) (hr : Room k X.A) (hb : Binds X.K fd ps []) (he : VE X o fo) (ha : VA X (e :: es) fs)
    (hst : starEach (e :: es) X.env = (false, eval e X.env) :: starEach es X.env := by rfl) (hpl : (backTo pos (starEach es X.env)).any (·.1) = false := by rfl)
    (ht : eval (.Call (.Attribute o m apos) (e :: es) [] pos) X.env = (do
      let ov ← eval o X.env
      standAt apos.atName
      let (f, first) ← holding [ov] (getMethod ov m pl)
      callWith pos f first (backTo pos (starEach (e :: es) X.env)) (backToKw pos (keywordEach [] X.env))) := by rfl) :
    VE X (.Call (.Attribute o m apos) (e :: es) [] pos) (xMeth c m F fo fs) := PEi (pe_meth he cl hm G hr hb .nil pass0 ha hst hpl ht) fun σ H Q h => meth_core h hn
theorem ve_meth0 {pl : Sem Bool} (cl : Cls X.K (He.ga X.K c)) (hm : Meth X.K (He.ga X.K c) m f) (G : FnOk X.prog X.w X.K X.mg X.base CX0 k f fd ps (spV X.K 1 F)) (hr : Room k X.A) (hb : Binds X.K fd ps []) (he : VE X o fo)
    (ht : eval (.Call (.Attribute o m apos) [] [] pos) X.env = (do
      let ov ← eval o X.env
      standAt apos.atName
      let (f, first) ← holding [ov] (getMethod ov m pl)
      callWith pos f first (backTo pos (starEach [] X.env)) (backToKw pos (keywordEach [] X.env))) := by rfl) :
    VE X (.Call (.Attribute o m apos) [] [] pos) (xMeth c m F fo aNil) := PEi (pe_meth0 he cl hm G hr hb .nil pass0 ht) fun σ H Q h => by
  have q := meth_core (X := X) h (n := 1) fun δ r hr => by cases hr; rfl
  obtain ⟨g, Z, δ, S, T, r, st, hf, post⟩ := q
  refine ⟨g, Z, δ, S, T, r, st, hf, fun v Z1 H1 st1 al1 => ?_⟩
  obtain ⟨a, dx, fs, e1, e2, e3, g', Z', δ', S', T', r', st', hf', post'⟩ := post v Z1 H1 st1 al1
  cases hf'
  exact ⟨a, dx, fs, e1, e2, e3, post' [] Z' H1 st' rfl⟩
/-- C(..): one's own, or frozen at once -/
def xMake (c : Str) (F : FF) (frz : Bool) (fs : BF) : XF := fun δ => (fs δ).bind fun r => (F (.obj c [] :: r.1)).bind fun r3 => match r3.1, r3.2 with
  | .sh .non, some self :: rest => if rest.length = r.1.length then some (.val (if frz then .sh self.fz else self), r.2) else none
  | _, _ => none
theorem make_core {σ : L2.St} {H : Hp} {Q : VK} {frz : Bool} {fs : BF} (h : rdE X.K (xMake c F frz fs) σ H Q) (hn : ∀ δ r, fs δ = some r → r.1.length + 1 = n) : tMake (He.ga X.K c) (spV X.K n F) [] E0 (rdB X.K fs) σ H Q := by
  obtain ⟨g, Z, δ, S, T, r, st, hf, post⟩ := h
  simp only [xMake, Option.bind_eq_some_iff] at hf
  obtain ⟨⟨os, δ1⟩, h1, ⟨r0, fin⟩, h2, h3⟩ := hf
  split at h3
  · rename_i self rest q1 q2
    split at h3
    · rename_i hl
      cases h3
      have q1' : r0 = .sh .non := q1
      have q2' : fin = some self :: rest := q2
      subst q1' q2'
      refine ⟨g, Z, δ, S, T, _, st, h1, fun vs Z1 H1 st1 hvl x dx hx hdx hne => ?_⟩
      show spV X.K n F (V.ref x :: (vs ++ [])) _ _ E0
      rw [List.append_nil]
      -- the new instance among the temporaries
      have sm1 : Same H1 (L2.upd H1 dx (.own x)) := Same.upd hdx
      have hx2 : L2.upd H1 dx (.own x) x = none := by rw [upd_ne (Ne.symm hne)]; exact hx
      have rs : Res X.K Z1 H1 (.obj c []) (.ref x) (L2.upd (L2.upd H1 dx (.own x)) x (.ins (He.ga X.K c) dx [])) := by
        refine ⟨[x], sm1.trans (Same.upd hx2), ?_, by simp, fun a ha => ?_⟩
        · simp only [RepO, RepOF]
          exact ⟨x, dx, [], [], rfl, rfl, upd_same, rfl, rfl⟩
        · have e : a = x := by simpa using ha
          rw [e]; exact hx
      -- beneath the arguments: as the first one
      have st2 : StV X.K g Z1 (L2.upd (L2.upd H1 dx (.own x)) x (.ins (He.ga X.K c) dx [])) δ1 σ ((os.map some).reverse ++ (some (.obj c []) :: S)) (vtmps vs ++ (some (.ref x) :: T)) := by
        obtain ⟨Fs, Ft, a1, ⟨y', r', G1, G2, e1, e2, a2, a3⟩, w⟩ := st1.push rs
        cases e1
        subst e2
        have hol : (os.map some).length = (vtmps vs).length := by
          have : os.length = vs.length := hvl
          simp [vtmps, this]
        obtain ⟨U1, U2, f, b1, b2⟩ := RepS.append (A := (os.map some).reverse) (C := vtmps vs) (by simpa using hol) a3
        subst f
        have app : ∀ {A : DS} {B : L2.St} {F : List Addr} {S : DS} {T : L2.St} {G : List Addr}, RepS X.K Z1 (L2.upd (L2.upd H1 dx (.own x)) x (.ins (He.ga X.K c) dx [])) S T G → RepS X.K Z1 (L2.upd (L2.upd H1 dx (.own x)) x (.ins (He.ga X.K c) dx [])) A B F → RepS X.K Z1 (L2.upd (L2.upd H1 dx (.own x)) x (.ins (He.ga X.K c) dx [])) (A ++ S) (B ++ T) (F ++ G) := by
          intro A
          induction A with
          | nil =>
            intro B F S T G hS h
            obtain ⟨e1, e2⟩ : B = [] ∧ F = [] := h
            subst e1 e2
            exact hS
          | cons x A ih =>
            intro B F S T G hS ⟨y, r, G1, G2, e, f, q1, q2⟩
            subst e f
            exact ⟨y, r ++ T, G1, G2 ++ G, rfl, by rw [List.append_assoc], q1, ih hS q2⟩
        refine ⟨Fs, _, a1, app ⟨some (.ref x), T, G1, U2, rfl, rfl, a2, b2⟩ b1, w.perm ?_⟩
        refine List.Perm.append_left _ ?_
        rw [← List.append_assoc, ← List.append_assoc]
        exact List.Perm.append_right _ List.perm_append_comm
      have e1 : (os.map some).reverse ++ (some (O.obj c []) :: S) = tmps ((O.obj c [] :: os).map Ev.val) ++ S := by
        simp [tmps, Ev.tmp, Function.comp_def]
      have e2 : vtmps vs ++ (some (V.ref x) :: T) = vtmps (V.ref x :: vs) ++ T := by simp [vtmps]
      rw [e1, e2] at st2
      have al : ∀ (os : List O) (vs : List V), os.length = vs.length → Als σ (os.map Ev.val) vs := by
        intro os
        induction os with
        | nil =>
          intro vs h
          exact List.eq_nil_of_length_eq_zero h.symm
        | cons o os ih =>
          intro vs h
          match vs, h with
          | v :: vs, h => exact ⟨v, vs, rfl, trivial, ih vs (by simpa using h)⟩
      have ou : ∀ (os : List O) (δ : DS), outs (os.map Ev.val) δ = some (os, δ) := by
        intro os
        induction os with
        | nil => intro δ; rfl
        | cons o os ih => intro δ; simp [outs, ih]
      have hvl' : os.length = vs.length := hvl
      -- the call; its self comes back beside the result: done by hand
      obtain ⟨s1, l1⟩ := st2.outs (al (O.obj c [] :: os) (V.ref x :: vs) (by simp [hvl'])) (ou _ _)
      refine call_coreM s1 l1 h2 (by show rest.length + 1 = vs.length + 1; rw [show rest.length = os.length from hl, hvl']) (by rw [List.length_cons, ← hvl']; exact hn _ _ h1) fun v Z' H' st5 => ?_
      have st6 : StV X.K g Z' H' δ1 σ (some self :: (rest ++ some (.sh .non) :: S)) (some (.ref x) :: (vs.map some ++ some v :: T)) := st5
      have hv : v = .non := by
        have e3 : rest.length = (vs.map some).length := by
          have : rest.length = os.length := hl
          simp [this, hvl']
        have := StV.popN (U := rest) (W := vs.map some) e3 st6.pop
        have q := topD this
        simpa only [RepD] using q
      refine ⟨hv, ?_⟩
      have e3 : (rest ++ [some (O.sh .non)]).length = (vs.map some ++ [some v]).length := by
        have : rest.length = os.length := hl
        simp [this, hvl']
      have st7 : StV X.K g Z' H' δ1 σ (some self :: S) (some (.ref x) :: T) := StV.mid (A := [some self]) (B := [some (.ref x)]) (U := rest ++ [some (.sh .non)]) (W := vs.map some ++ [some v]) rfl e3 (by simpa using st6)
      cases frz with
      | false => exact post (.ref x) Z' H' st7 trivial
      | true =>
        obtain ⟨Z'', st8, _⟩ := st7.frzT
        exact post (.ref x) Z'' H' st8 trivial
    · cases h3
  · cases h3
end
end VS
namespace VS
open PySem PySem.Spec L2
section
variable {X : Cx} {x : Str} {p pos : Pos} {e : Expr} {es : List Expr} {k n : Nat} {f : Addr} {fd : FuncData} {ps : List Str} {c : Str} {F : FF} {fs : BF} {frz : Bool}
theorem ve_make (M : Mk X.K (He.ga X.K c) f) (G : FnOk X.prog X.w X.K X.mg X.base CX0 k f fd ps (spV X.K n F)) (hn : ∀ δ r, fs δ = some r → r.1.length + 1 = n) (hr : Room (k + 1) X.A) (hg : Gl X x) (hm : X.mg x = some (.ref (He.ga X.K c))) (hb : Binds X.K fd ps [])
    (ha : VB X (e :: es) fs) (hdb : (x == ("__debug__" : Str)) = false := by decide) (he : starEach (e :: es) X.env = (false, eval e X.env) :: starEach es X.env := by rfl) (hpl : (backTo pos (starEach es X.env)).any (·.1) = false := by rfl) :
    VE X (.Call (.Name x p) (e :: es) [] pos) (xMake c F frz fs) := PEi (pe_make M G hr hg hm hb .nil pass0 ha hdb he hpl) fun σ H Q h => make_core h hn
theorem bNil_len : ∀ δ r, bNil δ = some r → r.1.length = 0 := fun δ r h => by cases h; rfl
theorem bCons_len {fa : XF} {fr : BF} {n : Nat} (h : ∀ δ r, fr δ = some r → r.1.length = n) : ∀ δ r, bCons fa fr δ = some r → r.1.length = n + 1 := fun δ r hf => by
  simp only [bCons, Option.bind_eq_some_iff, Option.map_eq_some_iff] at hf
  obtain ⟨_, _, _, _, ⟨os, δ3⟩, h3, rfl⟩ := hf
  show os.length + 1 = n + 1
  rw [h _ _ h3]
end
def LkL (K : PySem.W.Frag) (Z : Addr → Prop) (H : Hp) : List D → List V → Prop
  | [], vs => vs = []
  | d :: ds, vs => ∃ v r, vs = v :: r ∧ Lk K Z H d v ∧ LkL K Z H ds r
def rBi (K : PySem.W.Frag) (m : List D → Option O) : List V → Hp → VK → Prop := fun xs H Q => ∃ Z ds o, LkL K Z H ds xs ∧ m ds = some o ∧ ∀ v H', Res K Z H o v H' → Q v H'
def CV (X : Cx) (f : Value) (m : List D → Option O) : Prop := CallR X f (rBi X.K m)
def rdvs (δ : DS) : List Ev → Option (List D)
  | [] => some []
  | e :: es => (rdv δ e).bind fun d => (rdvs δ es).map fun ds => d :: ds
def xBi (m : List D → Option O) (fs : AF) : XF := fun δ => (fs δ).bind fun r => (rdvs r.2 r.1).bind fun ds => (m ds).map fun o => (.val o, r.2)
section
variable {K : PySem.W.Frag} {g : Gx} {Z Z' : Addr → Prop} {H H' : Hp} {δ S U : DS} {σ T W : L2.St} {o : O} {v : V}
theorem vtmps_len (vs : List V) : (vtmps vs).length = vs.length := by simp [vtmps]
theorem StV.lks : ∀ {es : List Ev} {vs : List V} {ds : List D} {S : DS} {T : L2.St}, StV K g Z H δ σ (tmps es ++ S) (vtmps vs ++ T) → Als σ es vs → rdvs δ es = some ds → LkL K Z H ds vs
  | [], vs, ds, S, T, s, al, h => by
    cases h
    exact al
  | e :: es, vs, ds, S, T, s, ⟨v, r, ev, a1, a2⟩, h => by
    subst ev
    simp only [rdvs, Option.bind_eq_some_iff, Option.map_eq_some_iff] at h
    obtain ⟨d, h1, ds', h2, h3⟩ := h
    subst h3
    have e1 : tmps (e :: es) ++ S = tmps es ++ (e.tmp :: S) := by simp [tmps]
    have e2 : vtmps (v :: r) ++ T = vtmps r ++ (some v :: T) := by simp [vtmps]
    rw [e1, e2] at s
    exact ⟨v, r, rfl, (s.popN (by rw [tmps_len, vtmps_len, a2.length])).lk a1 h1, StV.lks s a2 h2⟩
end
section
variable {X : Cx} {x : Str} {p pos : Pos} {e : Expr} {es : List Expr} {fs : AF} {m : List D → Option O} {id T : String}
theorem bi_core {σ : L2.St} {H : Hp} {Q : VK} (h : rdE X.K (xBi m fs) σ H Q) : tCB (rBi X.K m) (rdA X.K fs) σ H Q := by
  obtain ⟨g, Z, δ, S, T, r, st, hf, post⟩ := h
  simp only [xBi, Option.bind_eq_some_iff, Option.map_eq_some_iff] at hf
  obtain ⟨⟨es, δ1⟩, h1, ds, h2, o, h3, rfl⟩ := hf
  exact ⟨g, Z, δ, S, T, _, st, h1, fun vs Z1 H1 st1 al1 => ⟨Z1, ds, o, st1.lks al1 h2, h3, fun v H' rs => post v Z1 H' ((st1.popN (by rw [tmps_len, vtmps_len, al1.length])).push rs) trivial⟩⟩
theorem ve_bi (hc : CV X (.builtin id) m) (hg : Gl X x) (hm : X.mg x = none) (hv : bootBuiltins x = some (.builtin id)) (ha : VA X (e :: es) fs) (hn : x ≠ "__name__" := by decide) (hdb : (x == ("__debug__" : Str)) = false := by decide)
    (he : starEach (e :: es) X.env = (false, eval e X.env) :: starEach es X.env := by rfl) (hpl : (backTo pos (starEach es X.env)).any (·.1) = false := by rfl) : VE X (.Call (.Name x p) (e :: es) [] pos) (xBi m fs) :=
  PEi (pe_callB hc hg hm hv ha hn hdb he hpl) fun σ H Q h => bi_core h
theorem ve_ty (hc : CV X (.type T) m) (hg : Gl X x) (hm : X.mg x = none) (hv : bootBuiltins x = some (.type T)) (ha : VA X (e :: es) fs) (hn : x ≠ "__name__" := by decide) (hdb : (x == ("__debug__" : Str)) = false := by decide)
    (he : starEach (e :: es) X.env = (false, eval e X.env) :: starEach es X.env := by rfl) (hpl : (backTo pos (starEach es X.env)).any (·.1) = false := by rfl) : VE X (.Call (.Name x p) (e :: es) [] pos) (xBi m fs) :=
  PEi (pe_callTy hc hg hm hv ha hn hdb he hpl) fun σ H Q h => bi_core h
def mLen : List D → Option O
  | [.lst ds] => some (.sh (.int ds.length))
  | [.tup ds] => some (.sh (.int ds.length))
  | [.scr ns] => some (.sh (.int ns.length))
  | [.str z] => if z.length ≤ sizeLine then some (.sh (.int z.length)) else none
  | _ => none
theorem cv_len : CV X (.builtin "len") mLen := by
  intro pins s σ H xs us Q I r ⟨Z, ds, o, l, h, q⟩
  unfold mLen at h
  split at h
  · obtain ⟨v, r', rfl, l1, l2⟩ := l
    have e2 : r' = [] := l2
    subst e2
    cases h
    obtain ⟨a, vs, rfl, ha, ra⟩ := l1.lst
    exact call_len pins s σ H _ us Q I r ⟨_, vs.length, rfl, .inl ⟨vs, SqL.of ha, rfl⟩, by rw [← ra.length]; exact q _ _ Res.int⟩
  · obtain ⟨v, r', rfl, l1, l2⟩ := l
    have e2 : r' = [] := l2
    subst e2
    cases h
    obtain ⟨a, vs, rfl, ha, ra⟩ := l1.tup
    exact call_len pins s σ H _ us Q I r ⟨_, vs.length, rfl, .inr ⟨vs, SqT.of ha, rfl⟩, by rw [← ra.length]; exact q _ _ Res.int⟩
  · obtain ⟨v, r', rfl, l1, l2⟩ := l
    have e2 : r' = [] := l2
    subst e2
    cases h
    obtain ⟨a, rfl, ha⟩ := scr_seq l1
    exact call_len pins s σ H _ us Q I r ⟨_, _, rfl, .inl ⟨_, ha, rfl⟩, by rw [List.length_map]; exact q _ _ Res.int⟩
  · obtain ⟨v, r', rfl, l1, l2⟩ := l
    have e2 : r' = [] := l2
    subst e2
    split at h
    · rename_i hz
      cases h
      cases l1.str
      exact call_len pins s σ H _ us Q I r ⟨_, _, rfl, ⟨hz, rfl⟩, q _ _ Res.int⟩
    · cases h
  · cases h
def mInt : List D → Option O
  | [.int i] => some (.sh (.int i))
  | [.bl b] => some (.sh (.int (if b then 1 else 0)))
  | _ => none
theorem cv_int : CV X (.type "int") mInt := by
  intro pins s σ H xs us Q I r ⟨Z, ds, o, l, h, q⟩
  unfold mInt at h
  split at h
  · obtain ⟨v, r', rfl, l1, l2⟩ := l
    have e2 : r' = [] := l2
    subst e2
    cases h
    cases l1.int
    exact call_int1 pins s σ H _ us Q I r (.inl ⟨_, rfl, q _ _ Res.int⟩)
  · obtain ⟨v, r', rfl, l1, l2⟩ := l
    have e2 : r' = [] := l2
    subst e2
    cases h
    cases l1.bl
    exact call_int1 pins s σ H _ us Q I r (.inr ⟨_, rfl, q _ _ Res.int⟩)
  · cases h
def intsOf : List D → Option (List Int)
  | [] => some []
  | .int i :: ds => (intsOf ds).map (i :: ·)
  | _ :: _ => none
def blsOf : List D → Option (List Bool)
  | [] => some []
  | .bl i :: ds => (blsOf ds).map (i :: ·)
  | _ :: _ => none
theorem ints_rep {K : PySem.W.Frag} {Z : Addr → Prop} {H : Hp} : ∀ {ds : List D} {ns : List Int} {vs : List V}, intsOf ds = some ns → RepL K Z H ds vs → vs = ns.map V.int
  | [], ns, vs, h, r => by
    cases h
    simp only [RepL] at r
    rw [r]
    all_goals rfl
  | d :: ds, ns, vs, h, r => by
    cases d <;> simp only [intsOf, reduceCtorEq] at h
    obtain ⟨ms, h1, h2⟩ := Option.map_eq_some_iff.mp h
    subst h2
    simp only [RepL, RepD] at r
    obtain ⟨v, r', rfl, r1, r2⟩ := r
    rw [r1, ints_rep h1 r2]
    all_goals rfl
theorem bls_rep {K : PySem.W.Frag} {Z : Addr → Prop} {H : Hp} : ∀ {ds : List D} {ns : List Bool} {vs : List V}, blsOf ds = some ns → RepL K Z H ds vs → vs = ns.map V.bl
  | [], ns, vs, h, r => by
    cases h
    simp only [RepL] at r
    rw [r]
    all_goals rfl
  | d :: ds, ns, vs, h, r => by
    cases d <;> simp only [blsOf, reduceCtorEq] at h
    obtain ⟨ms, h1, h2⟩ := Option.map_eq_some_iff.mp h
    subst h2
    simp only [RepL, RepD] at r
    obtain ⟨v, r', rfl, r1, r2⟩ := r
    rw [r1, bls_rep h1 r2]
    all_goals rfl
def mSum : List D → Option O
  | [.lst ds] => (intsOf ds).map fun ns => .sh (.int ns.sum)
  | _ => none
def mAll : List D → Option O
  | [.lst ds] => (blsOf ds).map fun ns => .sh (.bl (ns.all _root_.id))
  | _ => none
theorem one_lst {K : PySem.W.Frag} {Z : Addr → Prop} {H : Hp} {ds : List D} {xs : List V} (l : LkL K Z H [.lst ds] xs) : ∃ a vs, xs = [.ref a] ∧ H a = some (.lst vs) ∧ RepL K Z H ds vs := by
  obtain ⟨v, r', rfl, l1, l2⟩ := l
  have e2 : r' = [] := l2
  subst e2
  obtain ⟨a, vs, rfl, ha, ra⟩ := l1.lst
  exact ⟨a, vs, rfl, ha, ra⟩
theorem cv_sum (hc : X.calm = true) : CV X (.builtin "sum") mSum := by
  intro pins s σ H xs us Q I r ⟨Z, ds, o, l, h, q⟩
  unfold mSum at h
  split at h
  · obtain ⟨a, vs, rfl, ha, ra⟩ := one_lst l
    obtain ⟨ns, h1, h2⟩ := Option.map_eq_some_iff.mp h
    subst h2
    have ev := ints_rep h1 ra
    subst ev
    exact cr_sum hc pins s σ H _ us Q I r ⟨a, ns, rfl, SqL.of ha, q _ _ Res.int⟩
  · cases h
theorem cv_all (hc : X.calm = true) : CV X (.builtin "all") mAll := by
  intro pins s σ H xs us Q I r ⟨Z, ds, o, l, h, q⟩
  unfold mAll at h
  split at h
  · obtain ⟨a, vs, rfl, ha, ra⟩ := one_lst l
    obtain ⟨ns, h1, h2⟩ := Option.map_eq_some_iff.mp h
    subst h2
    have ev := bls_rep h1 ra
    subst ev
    exact cr_all hc pins s σ H _ us Q I r ⟨a, ns, rfl, SqL.of ha, q _ _ Res.bl⟩
  · cases h
def maxI : List Int → Option Int
  | [] => none
  | i :: ns => some (ns.foldl (fun a b => if a < b then b else a) i)
def minI : List Int → Option Int
  | [] => none
  | i :: ns => some (ns.foldl (fun a b => if b < a then b else a) i)
theorem maxI_fold : ∀ (ns : List Int) (i : Int), (ns.foldl (fun a b => if a < b then b else a) i = i ∨ ns.foldl (fun a b => if a < b then b else a) i ∈ ns) ∧ i ≤ ns.foldl (fun a b => if a < b then b else a) i ∧ ∀ y ∈ ns, y ≤ ns.foldl (fun a b => if a < b then b else a) i
  | [], i => ⟨.inl rfl, Int.le_refl i, fun y h => by cases h⟩
  | n :: ns, i => by
    simp only [List.foldl_cons]
    obtain ⟨h1, h2, h3⟩ := maxI_fold ns (if i < n then n else i)
    have hi : i ≤ (if i < n then n else i) := by split <;> omega
    have hn : n ≤ (if i < n then n else i) := by split <;> omega
    refine ⟨?_, Int.le_trans hi h2, fun y hy => ?_⟩
    · rcases h1 with h1 | h1
      · rw [h1]
        by_cases q : i < n
        · rw [if_pos q]; exact .inr List.mem_cons_self
        · rw [if_neg q]; exact .inl rfl
      · exact .inr (List.mem_cons_of_mem _ h1)
    · rcases List.mem_cons.mp hy with e | hy
      · subst e; exact Int.le_trans hn h2
      · exact h3 y hy
theorem minI_fold : ∀ (ns : List Int) (i : Int), (ns.foldl (fun a b => if b < a then b else a) i = i ∨ ns.foldl (fun a b => if b < a then b else a) i ∈ ns) ∧ ns.foldl (fun a b => if b < a then b else a) i ≤ i ∧ ∀ y ∈ ns, ns.foldl (fun a b => if b < a then b else a) i ≤ y
  | [], i => ⟨.inl rfl, Int.le_refl i, fun y h => by cases h⟩
  | n :: ns, i => by
    simp only [List.foldl_cons]
    obtain ⟨h1, h2, h3⟩ := minI_fold ns (if n < i then n else i)
    have hi : (if n < i then n else i) ≤ i := by split <;> omega
    have hn : (if n < i then n else i) ≤ n := by split <;> omega
    refine ⟨?_, Int.le_trans h2 hi, fun y hy => ?_⟩
    · rcases h1 with h1 | h1
      · rw [h1]
        by_cases q : n < i
        · rw [if_pos q]; exact .inr List.mem_cons_self
        · rw [if_neg q]; exact .inl rfl
      · exact .inr (List.mem_cons_of_mem _ h1)
    · rcases List.mem_cons.mp hy with e | hy
      · subst e; exact Int.le_trans h2 hn
      · exact h3 y hy
theorem maxI_ok {ns : List Int} {m : Int} (h : maxI ns = some m) : m ∈ ns ∧ ∀ y ∈ ns, y ≤ m := by
  cases ns with
  | nil => cases h
  | cons i ns =>
    cases h
    obtain ⟨h1, h2, h3⟩ := maxI_fold ns i
    refine ⟨?_, fun y hy => ?_⟩
    · rcases h1 with h1 | h1
      · rw [h1]; exact List.mem_cons_self
      · exact List.mem_cons_of_mem _ h1
    · rcases List.mem_cons.mp hy with e | hy
      · subst e; exact h2
      · exact h3 y hy
theorem minI_ok {ns : List Int} {m : Int} (h : minI ns = some m) : m ∈ ns ∧ ∀ y ∈ ns, m ≤ y := by
  cases ns with
  | nil => cases h
  | cons i ns =>
    cases h
    obtain ⟨h1, h2, h3⟩ := minI_fold ns i
    refine ⟨?_, fun y hy => ?_⟩
    · rcases h1 with h1 | h1
      · rw [h1]; exact List.mem_cons_self
      · exact List.mem_cons_of_mem _ h1
    · rcases List.mem_cons.mp hy with e | hy
      · subst e; exact h2
      · exact h3 y hy
def mMax : List D → Option O
  | [.lst ds] => (intsOf ds).bind fun ns => (maxI ns).map fun m => .sh (.int m)
  | [.int i, .int j] => some (.sh (.int (if j > i then j else i)))
  | _ => none
def mMin : List D → Option O
  | [.lst ds] => (intsOf ds).bind fun ns => (minI ns).map fun m => .sh (.int m)
  | [.int i, .int j] => some (.sh (.int (if j < i then j else i)))
  | _ => none
theorem two_int {K : PySem.W.Frag} {Z : Addr → Prop} {H : Hp} {i j : Int} {xs : List V} (l : LkL K Z H [.int i, .int j] xs) : xs = [.int i, .int j] := by
  obtain ⟨v, r', rfl, l1, w, r2, rfl, l2, l3⟩ := l
  have e2 : r2 = [] := l3
  subst e2
  rw [l1.int, l2.int]
theorem cv_max (hc : X.calm = true) : CV X (.builtin "max") mMax := by
  intro pins s σ H xs us Q I r ⟨Z, ds, o, l, h, q⟩
  unfold mMax at h
  split at h
  · obtain ⟨a, vs, rfl, ha, ra⟩ := one_lst l
    obtain ⟨ns, h1, h2⟩ := Option.bind_eq_some_iff.mp h
    obtain ⟨m, h3, h4⟩ := Option.map_eq_some_iff.mp h2
    subst h4
    have ev := ints_rep h1 ra
    subst ev
    obtain ⟨m1, m2⟩ := maxI_ok h3
    refine cr_max hc pins s σ H _ us Q I r ⟨a, ns, rfl, SqL.of ha, List.length_pos_of_mem m1, fun y hy hle => ?_⟩
    have e : y = m := by
      have a1 := m2 y hy
      have a2 := hle m m1
      omega
    rw [e]
    exact q _ _ Res.int
  · have e := two_int l
    subst e
    cases h
    exact call_max2 hc pins s σ H _ us Q I r ⟨_, _, rfl, q _ _ Res.int⟩
  · cases h
theorem cv_min (hc : X.calm = true) : CV X (.builtin "min") mMin := by
  intro pins s σ H xs us Q I r ⟨Z, ds, o, l, h, q⟩
  unfold mMin at h
  split at h
  · obtain ⟨a, vs, rfl, ha, ra⟩ := one_lst l
    obtain ⟨ns, h1, h2⟩ := Option.bind_eq_some_iff.mp h
    obtain ⟨m, h3, h4⟩ := Option.map_eq_some_iff.mp h2
    subst h4
    have ev := ints_rep h1 ra
    subst ev
    obtain ⟨m1, m2⟩ := minI_ok h3
    refine cr_min hc pins s σ H _ us Q I r ⟨a, ns, rfl, SqL.of ha, List.length_pos_of_mem m1, fun y hy hle => ?_⟩
    have e : y = m := by
      have a1 := m2 y hy
      have a2 := hle m m1
      omega
    rw [e]
    exact q _ _ Res.int
  · have e := two_int l
    subst e
    cases h
    exact call_min2 hc pins s σ H _ us Q I r ⟨_, _, rfl, q _ _ Res.int⟩
  · cases h
def mList : List D → Option O
  | [.lst ds] => some (.lst ds)
  | [.tup ds] => some (.lst ds)
  | _ => none
theorem cv_list : CV X (.type "list") mList := by
  intro pins s σ H xs us Q I r ⟨Z, ds, o, l, h, q⟩
  unfold mList at h
  split at h
  · obtain ⟨a, vs, rfl, ha, ra⟩ := one_lst l
    cases h
    exact call_list_of pins s σ H _ us Q I r ⟨a, vs, rfl, .inl (SqL.of ha), fun p hp => q _ _ (Res.lst hp ra)⟩
  · obtain ⟨v, r', rfl, l1, l2⟩ := l
    have e2 : r' = [] := l2
    subst e2
    cases h
    obtain ⟨a, vs, rfl, ha, ra⟩ := l1.tup
    exact call_list_of pins s σ H _ us Q I r ⟨a, vs, rfl, .inr (SqT.of ha), fun p hp => q _ _ (Res.lst hp ra)⟩
  · cases h
end
def D.tyS : D → Option String
  | .non => some "NoneType"
  | .bl _ => some "bool"
  | .int _ => some "int"
  | .str _ => some "str"
  | .tup _ => some "tuple"
  | .lst _ => some "list"
  | .dK _ => some "dict"
  | _ => none
/-- T a built-in class -/
def isiB (T : String) (d : D) : Option O := (D.tyS d).bind fun t => (kitB t T).map fun b => .sh (.bl b)
theorem Lk.ty {K : PySem.W.Frag} {Z : Addr → Prop} {H : Hp} {d : D} {v : V} {t : String} (h : Lk K Z H d v) (e : D.tyS d = some t) : TyX K H v (.type t) := by
  cases d <;> simp only [D.tyS, reduceCtorEq, Option.some.injEq] at e <;> subst e
  · cases h.non; exact .base .non
  · cases h.bl; exact .base (.bl _)
  · cases h.int; exact .base (.int _)
  · cases h.str; exact .base (.str _)
  · obtain ⟨a, vs, rfl, ha, _⟩ := h.tup; exact .base (.tup ha)
  · obtain ⟨a, vs, rfl, ha, _⟩ := h.lst; exact .base (.lst ha)
  · obtain ⟨a, vs, rfl, ha, _⟩ := h
    rcases ha with ha | ⟨o, ha⟩
    · exact .base (.dK ha)
    · exact .fDict ha
section
variable {X : Cx} {x : Str} {p p2 pos : Pos} {e : Expr} {fe : XF} {T : String} {Tn : Str}
theorem ve_isi (hg : Gl X "isinstance") (hm : X.mg "isinstance" = none) (hgT : Gl X Tn) (hmT : X.mg Tn = none) (hv : bootBuiltins Tn = some (.type T)) (he : VE X e fe) (hnT : Tn ≠ "__name__" := by decide) (hdT : (Tn == ("__debug__" : Str)) = false := by decide)
    (hs : starEach [e, .Name Tn p2] X.env = (false, eval e X.env) :: starEach [.Name Tn p2] X.env := by rfl) (hs2 : starEach [.Name Tn p2] X.env = [(false, eval (.Name Tn p2) X.env)] := by rfl) (hpl : (backTo pos (starEach [.Name Tn p2] X.env)).any (·.1) = false := by rfl) :
    VE X (.Call (.Name "isinstance" p) [e, .Name Tn p2] [] pos) (x1 (isiB T) fe) :=
  PEi (pe_callB call_isi hg hm (by decide +kernel) (pa_cons he (pa_cons (pe_bltn (v := .ty T) hgT hmT hv rfl hnT hdT) pa_nil hs2) hs) (by decide) (by decide) hs hpl) fun σ H Q ⟨g, Z, δ, S, T', r, st, hf, post⟩ => by
    simp only [x1, Option.bind_eq_some_iff, Option.map_eq_some_iff] at hf
    obtain ⟨⟨ev, δ1⟩, h1, d, h2, o, h3, rfl⟩ := hf
    simp only [isiB, Option.bind_eq_some_iff, Option.map_eq_some_iff] at h3
    obtain ⟨t, h4, b, h5, rfl⟩ := h3
    refine ⟨g, Z, δ, S, T', _, st, h1, fun v Z1 H1 st1 al1 => ?_⟩
    show rIsi X.K [v, .ty T] H1 Q
    exact ⟨v, .ty T, _, _, b, rfl, .ty T, (st1.lk al1 h2).ty h4, kit_ty h5, post _ Z1 H1 (st1.pop.push Res.bl) trivial⟩
end
def mApp : O → List D → Option (O × O)
  | .lst xs, [d] => if xs.length < sizeLine then some (.lst (xs ++ [d]), .sh .non) else none
  | _, _ => none
def mExt : O → List D → Option (O × O)
  | .lst xs, [.lst es] => if xs.length + es.length ≤ sizeLine then some (.lst (xs ++ es), .sh .non) else none
  | _, _ => none
def mPop : O → List D → Option (O × O)
  | .lst xs, [] => (xs[xs.length - 1]?).map fun d => (.lst xs.dropLast, .sh d)
  | .lst xs, [.int i] => if inR i then (seqIndex? i xs.length).bind fun k => (xs[k]?).map fun d => (.lst (xs.eraseIdx k), .sh d) else none
  | _, _ => none
def mPop1 : O → List D → Option (O × O) := fun o ds => match ds with | [d] => mPop o [d] | _ => none
def mPop0 : O → List D → Option (O × O) := fun o ds => match ds with | [] => mPop o [] | _ => none
def isLst : O → Bool
  | .lst _ => true
  | _ => false
def xMut (mt : O → List D → Option (O × O)) (i : Nat) (fs : BF) : XF := fun δ => match δ[i]? with
  | some (some o0) => if isLst o0 then (fs δ).bind fun r => match r.2[i]? with
    | some (some o) => (mt o (r.1.map O.fz)).map fun q => (.val q.2, r.2.set i (some q.1))
    | _ => none
    else none
  | _ => none
section
variable {X : Cx} {x : Str} {p pos apos : Pos} {e o : Expr} {es : List Expr} {fs : BF} {mt : O → List D → Option (O × O)} {id : String} {name : Str} {i : Nat}
theorem mut_core {r : V → List V → Hp → VK → Prop} {σ : L2.St} {H : Hp} {Q : VK} (hr : ∀ Z H a vs ds xs es (o' res : O) (Q : VK), H a = some (.lst vs) → RepL X.K Z H ds vs → RepL X.K Z H es xs → mt (.lst ds) es = some (o', res) →
    (∀ w ds' vs', o' = .lst ds' → RepL X.K Z H ds' vs' → (∃ d, res = .sh d ∧ RepD X.K Z H d w) → Q w (L2.upd H a (.lst vs'))) → r (.ref a) xs H Q) (hl : ∀ o es q, mt o es = some q → ∃ ds, o = .lst ds)
    (h : rdE X.K (xMut mt i fs) σ H Q) : tBM X.K "list" r (tVar i) (rdB X.K fs) σ H Q := by
  obtain ⟨g, Z, δ, S, T, rr, st, hf, post⟩ := h
  simp only [xMut] at hf
  split at hf
  · rename_i o0 hi
    split at hf
    · rename_i hol
      obtain ⟨⟨os, δ1⟩, h1, h2⟩ := Option.bind_eq_some_iff.mp hf
      split at h2
      · rename_i o1 hi1
        obtain ⟨⟨o', res⟩, h3, h4⟩ := Option.map_eq_some_iff.mp h2
        subst h4
        obtain ⟨v, F, e1, ro⟩ := st.slot hi
        refine ⟨v, e1, ?_, g, Z, δ, S, T, _, st, h1, fun vs Z1 H1 st1 hvl => ?_⟩
        · cases o0 <;> simp only [isLst, Bool.false_eq_true, reduceCtorEq] at hol
          simp only [RepO] at ro
          obtain ⟨a, ws, rfl, _, ha, _⟩ := ro
          exact .inl ⟨rfl, _, SqL.of ha⟩
        · obtain ⟨Z2, st2, rl⟩ := StV.frzL hvl st1
          obtain ⟨ds, e2⟩ := hl _ _ _ h3
          subst e2
          obtain ⟨v', F', e3, ro'⟩ := st2.slot hi1
          rw [e1] at e3
          cases e3
          have ro2 := ro'
          simp only [RepO] at ro2
          obtain ⟨a, ws, rfl, _, ha, ra⟩ := ro2
          refine hr Z2 H1 a ws ds vs _ o' res Q ha ra rl h3 fun w ds' vs' eo rd ⟨d, ed, rw'⟩ => ?_
          subst eo ed
          obtain ⟨st3, kp⟩ := st2.mut (o' := .lst ds') (H' := L2.upd H1 a (.lst vs')) hi1 e1 fun F q nd nz => by
            simp only [RepO] at q
            obtain ⟨b, ws', eb, ef, _, _⟩ := q
            cases eb
            subst ef
            obtain ⟨m1, m2, m3⟩ := mut_at (u' := .lst vs') ha (fun _ => by simp)
            refine ⟨m1, m2, m3, fun k => ?_⟩
            simp only [RepO]
            exact ⟨a, vs', rfl, rfl, upd_same, RepL.keep k _ _ rd⟩
          exact post w Z2 _ (st3.pushD (RepD.keep kp _ _ rw')) trivial
      · cases h2
    · cases hf
  · cases hf
theorem ve_app (hi : PE X o (tVar i)) (ha : VB X (e :: es) fs) (hbase : attributeBase o "append" X.env (eval o X.env) = eval o X.env := by rfl)
    (hfew : ((backTo pos (starEach (e :: es) X.env)).all (fun x => !x.1) && (backToKw pos (keywordEach [] X.env)).all (fun x => x.1.isSome)
      && decide ((e :: es).length + ([] : List Keyword).length + (if ([] : List Keyword).isEmpty then 0 else 1) < 30)) = true := by rfl)
    (hline : (apos.endLine == pos.line) = true := by rfl) (hs : starEach (e :: es) X.env = (false, eval e X.env) :: starEach es X.env := by rfl) (hplain : (backTo pos (starEach es X.env)).any (·.1) = false := by rfl) :
    VE X (.Call (.Attribute o "append" apos) (e :: es) [] pos) (xMut mApp i fs) :=
  PEi (pe_bm PySem.F.plainAttrs_list PySem.F.slot_list_append PySem.F.type_list_append mt_append hi ha hbase hfew hline hs hplain) fun σ H Q h => mut_core (fun Z H a vs ds xs es o' res Q ha ra rl hm k => by
    unfold mApp at hm
    split at hm
    · rename_i xs0 d heq
      cases heq
      split at hm
      · rename_i hz
        cases hm
        simp only [RepL] at rl
        obtain ⟨w, r', rfl, r1, rfl⟩ := rl
        refine ⟨a, vs, w, rfl, rfl, ha, by rw [← ra.length]; exact hz, k .non _ _ rfl (ra.append ?_) ⟨.non, rfl, by simp only [RepD]⟩⟩
        simp only [RepL]
        exact ⟨w, [], rfl, r1, rfl⟩
      · cases hm
    · cases hm) (fun o es q hm => by
    unfold mApp at hm
    split at hm
    · exact ⟨_, rfl⟩
    · cases hm) h
theorem ve_ext (hi : PE X o (tVar i)) (ha : VB X (e :: es) fs) (hbase : attributeBase o "extend" X.env (eval o X.env) = eval o X.env := by rfl)
    (hfew : ((backTo pos (starEach (e :: es) X.env)).all (fun x => !x.1) && (backToKw pos (keywordEach [] X.env)).all (fun x => x.1.isSome)
      && decide ((e :: es).length + ([] : List Keyword).length + (if ([] : List Keyword).isEmpty then 0 else 1) < 30)) = true := by rfl)
    (hline : (apos.endLine == pos.line) = true := by rfl) (hs : starEach (e :: es) X.env = (false, eval e X.env) :: starEach es X.env := by rfl) (hplain : (backTo pos (starEach es X.env)).any (·.1) = false := by rfl) :
    VE X (.Call (.Attribute o "extend" apos) (e :: es) [] pos) (xMut mExt i fs) :=
  PEi (pe_bm PySem.F.plainAttrs_list PySem.F.slot_list_extend PySem.F.type_list_extend mt_extend hi ha hbase hfew hline hs hplain) fun σ H Q h => mut_core (fun Z H a vs ds xs es o' res Q ha ra rl hm k => by
    unfold mExt at hm
    split at hm
    · rename_i xs0 es0 heq
      cases heq
      split at hm
      · rename_i hz
        cases hm
        simp only [RepL] at rl
        obtain ⟨w, r', rfl, r1, rfl⟩ := rl
        simp only [RepD] at r1
        obtain ⟨b, ws, rfl, _, hb, rb⟩ := r1
        exact ⟨a, b, vs, ws, rfl, rfl, ha, hb, by rw [← ra.length, ← rb.length]; exact hz, k .non _ _ rfl (ra.append rb) ⟨.non, rfl, by simp only [RepD]⟩⟩
      · cases hm
    · cases hm) (fun o es q hm => by
    unfold mExt at hm
    split at hm
    · exact ⟨_, rfl⟩
    · cases hm) h
theorem RepL.dropLast {K : PySem.W.Frag} {Z : Addr → Prop} {H : Hp} {ds : List D} {vs : List V} (h : RepL K Z H ds vs) : RepL K Z H ds.dropLast vs.dropLast := by
  rw [List.dropLast_eq_take, List.dropLast_eq_take, h.length]
  exact h.take
theorem RepL.eraseIdx {K : PySem.W.Frag} {Z : Addr → Prop} {H : Hp} : ∀ {ds : List D} {vs : List V} (i : Nat), RepL K Z H ds vs → RepL K Z H (ds.eraseIdx i) (vs.eraseIdx i)
  | [], vs, i, h => by
    simp only [RepL] at h
    subst h
    simp [RepL]
  | d :: ds, vs, 0, h => by
    simp only [RepL] at h
    obtain ⟨v, r, rfl, _, h2⟩ := h
    simpa using h2
  | d :: ds, vs, i + 1, h => by
    simp only [RepL] at h
    obtain ⟨v, r, rfl, h1, h2⟩ := h
    simp only [List.eraseIdx_cons_succ, RepL]
    exact ⟨v, _, rfl, h1, RepL.eraseIdx i h2⟩
theorem ve_pop1 (hi : PE X o (tVar i)) (ha : VB X (e :: es) fs) (hbase : attributeBase o "pop" X.env (eval o X.env) = eval o X.env := by rfl)
    (hfew : ((backTo pos (starEach (e :: es) X.env)).all (fun x => !x.1) && (backToKw pos (keywordEach [] X.env)).all (fun x => x.1.isSome)
      && decide ((e :: es).length + ([] : List Keyword).length + (if ([] : List Keyword).isEmpty then 0 else 1) < 30)) = true := by rfl)
    (hline : (apos.endLine == pos.line) = true := by rfl) (hs : starEach (e :: es) X.env = (false, eval e X.env) :: starEach es X.env := by rfl) (hplain : (backTo pos (starEach es X.env)).any (·.1) = false := by rfl) :
    VE X (.Call (.Attribute o "pop" apos) (e :: es) [] pos) (xMut mPop1 i fs) :=
  PEi (pe_bm PySem.F.plainAttrs_list PySem.F.slot_list_pop PySem.F.type_list_pop mt_popAt hi ha hbase hfew hline hs hplain) fun σ H Q h => mut_core (fun Z H a vs ds xs es o' res Q ha ra rl hm k => by
    unfold mPop1 at hm
    split at hm
    · rename_i d
      cases d <;> simp only [mPop, reduceCtorEq] at hm
      rename_i j
      split at hm
      · rename_i hz
        unfold inR at hz
        simp only [Bool.and_eq_true, decide_eq_true_eq] at hz
        obtain ⟨m, h1, h2⟩ := Option.bind_eq_some_iff.mp hm
        obtain ⟨y, h3, h4⟩ := Option.map_eq_some_iff.mp h2
        cases h4
        simp only [RepL, RepD] at rl
        obtain ⟨w, r', rfl, rfl, rfl⟩ := rl
        obtain ⟨z, q1, q2⟩ := ra.get h3
        exact ⟨a, vs, j, m, z, rfl, rfl, ha, by omega, by omega, by rw [← ra.length]; exact h1, q1, k z _ _ rfl (ra.eraseIdx m) ⟨y, rfl, q2⟩⟩
      · cases hm
    · cases hm) (fun o es q hm => by
    unfold mPop1 at hm
    split at hm
    · rename_i d
      cases d <;> cases o <;> simp only [mPop, reduceCtorEq] at hm
      exact ⟨_, rfl⟩
    · cases hm) h
theorem ve_pop0 (hi : PE X o (tVar i)) (hbase : attributeBase o "pop" X.env (eval o X.env) = eval o X.env := by rfl) (hline : (apos.endLine == pos.line) = true := by rfl) :
    VE X (.Call (.Attribute o "pop" apos) [] [] pos) (xMut mPop0 i bNil) :=
  PEi (pe_bm0 PySem.F.plainAttrs_list PySem.F.slot_list_pop PySem.F.type_list_pop mt_pop hi hbase hline) fun σ H Q h => by
    have q := mut_core (X := X) (r := rPop) (fun Z H a vs ds xs es o' res Q ha ra rl hm k => by
      unfold mPop0 at hm
      split at hm
      · simp only [mPop] at hm
        obtain ⟨y, h3, h4⟩ := Option.map_eq_some_iff.mp hm
        cases h4
        have e : xs = [] := by simpa only [RepL] using rl
        subst e
        obtain ⟨z, q1, q2⟩ := ra.get h3
        exact ⟨a, vs, z, rfl, rfl, ha, by rw [← ra.length]; exact q1, k z _ _ rfl ra.dropLast ⟨y, rfl, q2⟩⟩
      · cases hm) (fun o es q hm => by
      unfold mPop0 at hm
      split at hm
      · cases o <;> simp only [mPop, reduceCtorEq] at hm
        exact ⟨_, rfl⟩
      · cases hm) h
    obtain ⟨v, e1, ty, g, Z, δ, S, T, r, st, hf, post⟩ := q
    cases hf
    exact ⟨v, e1, ty, post [] Z H st rfl⟩
end
end VS
namespace VS
open PySem PySem.Spec L2
def cutL {α : Type} (xs : List α) (lo hi : Option Int) : List α := (xs.drop (HT.sIx xs.length 0 lo)).take (HT.sIx xs.length xs.length hi - HT.sIx xs.length 0 lo)
abbrev OF := DS → Option (Option Int × DS)
def rdO (K : PySem.W.Frag) (f : OF) : TO := fun σ H Q => ∃ g Z δ S T r, StV K g Z H δ σ S T ∧ f δ = some r ∧ ∀ Z' H', StV K g Z' H' r.2 σ S T → Q r.1 H'
def oN : OF := fun δ => some (none, δ)
def oE (fe : XF) : OF := fun δ => (fe δ).bind fun r => match r.1 with
  | .val (.sh (.int i)) => some (some i, r.2)
  | _ => none
def opSl : D → Option Int → Option Int → Option O
  | .lst xs, lo, hi => some (.lst (cutL xs lo hi))
  | .tup xs, lo, hi => some (.sh (.tup (cutL xs lo hi)))
  | .scr ns, lo, hi => some (.lst ((cutL ns lo hi).map .int))
  | .str z, lo, hi => if z.length ≤ sizeLine then some (.sh (.str (cutS z lo hi))) else none
  | _, _, _ => none
def xSl (fe : XF) (fl fh : OF) : XF := fun δ => (fe δ).bind fun r1 => (fl r1.2).bind fun r2 => (fh r2.2).bind fun r3 => (rdv r3.2 r1.1).bind fun d => (opSl d r2.1 r3.1).map fun o => (.val o, r3.2)
def revD : D → Option O
  | .lst xs => some (.lst xs.reverse)
  | .scr ns => some (.lst (ns.map .int).reverse)
  | _ => none
theorem RepL.cut {K : PySem.W.Frag} {Z : Addr → Prop} {H : Hp} {ds : List D} {vs : List V} (r : RepL K Z H ds vs) (lo hi : Option Int) : RepL K Z H (cutL ds lo hi) (cutV vs lo hi) := by
  unfold cutL cutV
  rw [r.length]
  exact (r.drop).take
theorem cut_scr (ns : List Int) (lo hi : Option Int) : cutV (ns.map V.int) lo hi = (cutL ns lo hi).map V.int := by
  unfold cutL cutV
  rw [List.length_map, List.map_take, List.map_drop]
theorem RepL.ints {K : PySem.W.Frag} {Z : Addr → Prop} {H : Hp} : ∀ ns : List Int, RepL K Z H (ns.map D.int) (ns.map V.int)
  | [] => by simp only [List.map_nil, RepL]
  | n :: ns => by
    simp only [List.map_cons, RepL, RepD]
    exact ⟨_, _, rfl, rfl, RepL.ints ns⟩
section
variable {X : Cx} {e : Expr} {fe : XF} {lo hi : Option Expr} {fl fh : OF} {pos p2 : Pos}
abbrev VO (X : Cx) (e : Option Expr) (f : OF) : Prop := PO X e (rdO X.K f)
theorem POi {e : Option Expr} {t t' : TO} (h : PO X e t) (k : ∀ σ H Q, t' σ H Q → t σ H Q) : PO X e t' := ⟨fun pins s σ H Q I q => h.run pins s σ H Q I (k σ H Q q)⟩
theorem vo_none : VO X none oN := POi po_none fun σ H Q ⟨g, Z, δ, S, T, r, st, hf, post⟩ => by
  cases hf
  exact post Z H st
theorem vo_some (he : VE X e fe) : VO X (some e) (oE fe) := POi (po_some he) fun σ H Q ⟨g, Z, δ, S, T, r, st, hf, post⟩ => by
  simp only [oE, Option.bind_eq_some_iff] at hf
  obtain ⟨⟨ev, δ1⟩, h1, h2⟩ := hf
  refine ⟨g, Z, δ, S, T, _, st, h1, fun v Z1 H1 st1 al1 => ?_⟩
  split at h2
  · rename_i i q
    have q' : ev = .val (.sh (.int i)) := q
    subst q'
    cases h2
    cases topI st1
    exact ⟨i, rfl, post Z1 H1 st1.pop⟩
  · cases h2
theorem ve_sl (he : VE X e fe) (hl : VO X lo fl) (hh : VO X hi fh) : VE X (.Subscript e (.Slice lo hi none p2) pos) (xSl fe fl fh) :=
  PEi (pe_slice ((sl_list.or sl_tupA).or sl_str) he hl hh) fun σ H Q ⟨g, Z, δ, S, T, r, st, hf, post⟩ => by
  simp only [xSl, Option.bind_eq_some_iff, Option.map_eq_some_iff] at hf
  obtain ⟨⟨ev, δ1⟩, h1, ⟨l, δ2⟩, h2, ⟨u, δ3⟩, h3, d, h4, o, h5, rfl⟩ := hf
  refine ⟨g, Z, δ, S, T, _, st, h1, fun x Z1 H1 st1 al1 => ⟨g, Z1, δ1, _, _, _, st1, h2, fun Z2 H2 st2 => ⟨g, Z2, δ2, _, _, _, st2, h3, fun Z3 H3 st3 => ?_⟩⟩⟩
  have lk := st3.lk al1 h4
  cases d <;> simp only [opSl, reduceCtorEq] at h5
  · rename_i z
    split at h5
    · rename_i hz
      cases h5
      cases lk.str
      exact .inr ⟨z, rfl, hz, post _ Z3 H3 (st3.pop.push Res.str) trivial⟩
    · cases h5
  · rename_i xs
    cases h5
    obtain ⟨a, vs, rfl, ha, ra⟩ := lk.tup
    refine .inl (.inr ⟨a, vs, rfl, SqT.of ha, fun ⟨e1, e2⟩ => ?_, fun _ p hp => post _ Z3 _ (st3.pop.push (Res.tup hp (ra.cut l u))) trivial⟩)
    refine post _ Z3 H3 (st3.pop.push (Res.sc ?_)) trivial
    have ec : cutL xs l u = xs := by
      unfold cutL
      rw [ra.length, e1, e2, List.drop_zero, Nat.sub_zero, ← ra.length, List.take_length]
    rw [ec]
    simp only [RepD]
    exact ⟨a, vs, rfl, ha, ra⟩
  · rename_i xs
    cases h5
    obtain ⟨a, vs, rfl, ha, ra⟩ := lk.lst
    exact .inl (.inl ⟨a, vs, rfl, SqL.of ha, fun p hp => post _ Z3 _ (st3.pop.push (Res.lst hp (ra.cut l u))) trivial⟩)
  · rename_i ns
    cases h5
    obtain ⟨a, rfl, ha⟩ := scr_seq lk
    refine .inl (.inl ⟨a, _, rfl, ha, fun p hp => post _ Z3 _ (st3.pop.push (Res.lst hp ?_)) trivial⟩)
    rw [cut_scr]
    exact RepL.ints _
theorem ve_rev {k : Nat} {p1 p3 p4 : Pos} (he : VE X e fe) : VE X (.Subscript e (.Slice none none (some (.UnaryOp .USub (.Constant (.int 1) k p1) p3)) p4) pos) (x1 revD fe) := PEi (pe_revL he) fun σ H Q ⟨g, Z, δ, S, T, r, st, hf, post⟩ => by
  simp only [x1, Option.bind_eq_some_iff, Option.map_eq_some_iff] at hf
  obtain ⟨⟨ev, δ1⟩, h1, d, h3, o, h5, rfl⟩ := hf
  refine ⟨g, Z, δ, S, T, _, st, h1, fun x Z1 H1 st1 al1 => ?_⟩
  have lk := st1.lk al1 h3
  cases d <;> simp only [revD, reduceCtorEq] at h5
  · cases h5
    obtain ⟨a, vs, rfl, ha, ra⟩ := lk.lst
    exact ⟨a, vs, rfl, SqL.of ha, fun p hp => post _ Z1 _ (st1.pop.push (Res.lst hp ra.reverse)) trivial⟩
  · cases h5
    obtain ⟨a, rfl, ha⟩ := scr_seq lk
    exact ⟨a, _, rfl, ha, fun p hp => post _ Z1 _ (st1.pop.push (Res.lst hp (RepL.reverse (RepL.ints _)))) trivial⟩
end
def putD : O → D → D → Option O
  | .lst xs, .int i, d => (ixN xs.length i).map fun j => .lst (xs.set j d)
  | .dK ks, k, d => if ks.length < sizeLine then (keyOf k).map fun k => .dK (dput ks k d) else none
  | .dT ks, .tup k, d => if ks.length < sizeLine then (keysOf k).map fun k => .dT (dput ks k d) else none
  | _, _, _ => none
def sSub (j : Nat) (fe fi : XF) : SF := fun δ => (fe δ).bind fun r => (tk r.2 r.1).bind fun r => if ((r.2[j]?).join).isSome then (fi r.2).bind fun r2 => (rdv r2.2 r2.1).bind fun k => ((r2.2[j]?).join).bind fun o =>
  (putD o k r.1.fz).map fun o' => .nx (r2.2.set j (some o')) else none
section
variable {K : PySem.W.Frag} {g : Gx} {Z Z' : Addr → Prop} {H H' : Hp} {δ S U : DS} {σ T W : L2.St} {o : O} {v : V}
theorem RepL.setAt {d : D} {w : V} (rd : RepD K Z H d w) : ∀ {ds : List D} {vs : List V} (j : Nat), RepL K Z H ds vs → RepL K Z H (ds.set j d) (vs.set j w)
  | [], vs, j, h => by
    simp only [RepL] at h
    subst h
    simp [RepL]
  | d0 :: ds, vs, 0, h => by
    simp only [RepL] at h
    obtain ⟨v, r, rfl, h1, h2⟩ := h
    simp only [List.set_cons_zero, RepL]
    exact ⟨w, r, rfl, rd, h2⟩
  | d0 :: ds, vs, j + 1, h => by
    simp only [RepL] at h
    obtain ⟨v, r, rfl, h1, h2⟩ := h
    simp only [List.set_cons_succ, RepL]
    exact ⟨v, _, rfl, h1, RepL.setAt rd j h2⟩
end
section
variable {K : PySem.W.Frag} {g : Gx} {Z Z' : Addr → Prop} {H H' : Hp} {δ S U : DS} {σ T W : L2.St} {o : O} {v : V}
theorem RepK.any {k : Key} : ∀ {ds : List (Key × D)} {vs : List (Key × V)}, RepK K Z H ds vs → (ds.any fun kv => decide (kv.1 = k)) = (vs.any fun kv => decide (kv.1 = k))
  | [], vs, h => by
    simp only [RepK] at h
    subst h
    rfl
  | (x, d0) :: ds, vs, h => by
    simp only [RepK] at h
    obtain ⟨v, r, rfl, h1, h2⟩ := h
    simp only [List.any_cons, RepK.any (k := k) h2]
theorem RepK.mapPut {k : Key} {d : D} {w : V} (rd : RepD K Z H d w) : ∀ {ds : List (Key × D)} {vs : List (Key × V)}, RepK K Z H ds vs → RepK K Z H (ds.map fun kv => if kv.1 = k then (kv.1, d) else kv) (vs.map fun kv => if kv.1 = k then (kv.1, w) else kv)
  | [], vs, h => by
    simp only [RepK] at h
    subst h
    simp only [List.map_nil, RepK]
  | (x, d0) :: ds, vs, h => by
    simp only [RepK] at h
    obtain ⟨v, r, rfl, h1, h2⟩ := h
    have ih := RepK.mapPut (k := k) rd h2
    by_cases e : x = k
    · simp only [List.map_cons, e, if_true, RepK]
      exact ⟨w, _, rfl, rd, ih⟩
    · simp only [List.map_cons, e, if_false, RepK]
      exact ⟨v, _, rfl, h1, ih⟩
theorem RepK.snoc {k : Key} {d : D} {w : V} (rd : RepD K Z H d w) : ∀ {ds : List (Key × D)} {vs : List (Key × V)}, RepK K Z H ds vs → RepK K Z H (ds ++ [(k, d)]) (vs ++ [(k, w)])
  | [], vs, h => by
    simp only [RepK] at h
    subst h
    simp only [List.nil_append, RepK]
    exact ⟨w, [], rfl, rd, rfl⟩
  | (x, d0) :: ds, vs, h => by
    simp only [RepK] at h
    obtain ⟨v, r, rfl, h1, h2⟩ := h
    simp only [List.cons_append, RepK]
    exact ⟨v, _, rfl, h1, RepK.snoc rd h2⟩
theorem RepK.put {k : Key} {d : D} {w : V} (rd : RepD K Z H d w) {ds : List (Key × D)} {vs : List (Key × V)} (h : RepK K Z H ds vs) : RepK K Z H (dput ds k d) (putK vs k w) := by
  unfold dput putK
  rw [RepK.any h]
  split
  · exact h.mapPut rd
  · exact h.snoc rd
theorem RepK.length : ∀ {ds : List (Key × D)} {vs : List (Key × V)}, RepK K Z H ds vs → ds.length = vs.length
  | [], vs, h => by
    simp only [RepK] at h
    rw [h]
    rfl
  | (x, d) :: ds, vs, h => by
    simp only [RepK] at h
    obtain ⟨v, r, e, _, h2⟩ := h
    rw [e, List.length_cons, List.length_cons, RepK.length h2]
theorem RepT.any {k : List Key} : ∀ {ds : List (List Key × D)} {vs : List (List Key × V)}, RepT K Z H ds vs → (ds.any fun kv => decide (kv.1 = k)) = (vs.any fun kv => decide (kv.1 = k))
  | [], vs, h => by
    simp only [RepT] at h
    subst h
    rfl
  | (x, d0) :: ds, vs, h => by
    simp only [RepT] at h
    obtain ⟨v, r, rfl, h1, h2⟩ := h
    simp only [List.any_cons, RepT.any (k := k) h2]
theorem RepT.mapPut {k : List Key} {d : D} {w : V} (rd : RepD K Z H d w) : ∀ {ds : List (List Key × D)} {vs : List (List Key × V)}, RepT K Z H ds vs → RepT K Z H (ds.map fun kv => if kv.1 = k then (kv.1, d) else kv) (vs.map fun kv => if kv.1 = k then (kv.1, w) else kv)
  | [], vs, h => by
    simp only [RepT] at h
    subst h
    simp only [List.map_nil, RepT]
  | (x, d0) :: ds, vs, h => by
    simp only [RepT] at h
    obtain ⟨v, r, rfl, h1, h2⟩ := h
    have ih := RepT.mapPut (k := k) rd h2
    by_cases e : x = k
    · simp only [List.map_cons, e, if_true, RepT]
      exact ⟨w, _, rfl, rd, ih⟩
    · simp only [List.map_cons, e, if_false, RepT]
      exact ⟨v, _, rfl, h1, ih⟩
theorem RepT.snoc {k : List Key} {d : D} {w : V} (rd : RepD K Z H d w) : ∀ {ds : List (List Key × D)} {vs : List (List Key × V)}, RepT K Z H ds vs → RepT K Z H (ds ++ [(k, d)]) (vs ++ [(k, w)])
  | [], vs, h => by
    simp only [RepT] at h
    subst h
    simp only [List.nil_append, RepT]
    exact ⟨w, [], rfl, rd, rfl⟩
  | (x, d0) :: ds, vs, h => by
    simp only [RepT] at h
    obtain ⟨v, r, rfl, h1, h2⟩ := h
    simp only [List.cons_append, RepT]
    exact ⟨v, _, rfl, h1, RepT.snoc rd h2⟩
theorem RepT.put {k : List Key} {d : D} {w : V} (rd : RepD K Z H d w) {ds : List (List Key × D)} {vs : List (List Key × V)} (h : RepT K Z H ds vs) : RepT K Z H (dput ds k d) (putK vs k w) := by
  unfold dput putK
  rw [RepT.any h]
  split
  · exact h.mapPut rd
  · exact h.snoc rd
theorem RepT.length : ∀ {ds : List (List Key × D)} {vs : List (List Key × V)}, RepT K Z H ds vs → ds.length = vs.length
  | [], vs, h => by
    simp only [RepT] at h
    rw [h]
    rfl
  | (x, d) :: ds, vs, h => by
    simp only [RepT] at h
    obtain ⟨v, r, e, _, h2⟩ := h
    rw [e, List.length_cons, List.length_cons, RepT.length h2]
/-- the place after a store -/
theorem StV.put {i : Nat} {k d : D} {o' : O} {kv w : V} (s : StV K g Z H δ σ S T) (h : δ[i]? = some (some o)) (hv : σ[i]? = some (some v)) (lk : Lk K Z H k kv) (rd : RepD K Z H d w) (hp : putD o k d = some o') :
    (∃ p xs m j, v = .ref p ∧ kv = .int m ∧ H p = some (.lst xs) ∧ ixN xs.length m = some j ∧ StV K g Z (L2.upd H p (.lst (xs.set j w))) (δ.set i (some o')) σ S T) ∨
    (∃ a H', v = .ref a ∧ DPut H a kv w H' ∧ StV K g Z H' (δ.set i (some o')) σ S T) := by
  obtain ⟨v', F, e1, ro⟩ := s.slot h
  rw [hv] at e1
  cases e1
  cases o <;> simp only [putD, reduceCtorEq] at hp
  · rename_i xs
    cases k <;> simp only [putD, reduceCtorEq] at hp
    rename_i m
    obtain ⟨j, h1, h2⟩ := Option.map_eq_some_iff.mp hp
    subst h2
    have ro2 := ro
    simp only [RepO] at ro2
    obtain ⟨a, vs, rfl, _, ha, ra⟩ := ro2
    refine .inl ⟨a, vs, m, j, rfl, lk.int, ha, by rw [← ra.length]; exact h1, ?_⟩
    exact (s.mut (o' := .lst (xs.set j d)) (H' := L2.upd H a (.lst (vs.set j w))) h hv fun F q nd nz => by
      simp only [RepO] at q
      obtain ⟨b, ws', eb, ef, _, _⟩ := q
      cases eb
      subst ef
      obtain ⟨m1, m2, m3⟩ := mut_at (u' := .lst (vs.set j w)) ha (fun _ => by simp)
      refine ⟨m1, m2, m3, fun kp => ?_⟩
      simp only [RepO]
      exact ⟨a, _, rfl, rfl, upd_same, RepL.setAt (RepD.keep kp _ _ rd) j (RepL.keep kp _ _ ra)⟩).1
  · rename_i ks
    split at hp
    · rename_i hz
      obtain ⟨kk, h1, h2⟩ := Option.map_eq_some_iff.mp hp
      subst h2
      have ro2 := ro
      simp only [RepO] at ro2
      obtain ⟨a, vs, rfl, _, ha, ra⟩ := ro2
      have ek : kv = kV kk := by
        refine key_rep (Z := Z) (K := K) (H := H) h1 ?_
        cases k <;> simp only [keyOf, reduceCtorEq] at h1 <;> exact lk
      subst ek
      refine .inr ⟨a, _, rfl, DPut.k ha (by rw [← ra.length]; exact hz), ?_⟩
      exact (s.mut (o' := .dK (dput ks kk d)) (H' := L2.upd H a (.dK (putK vs kk w))) h hv fun F q nd nz => by
        simp only [RepO] at q
        obtain ⟨b, ws', eb, ef, _, _⟩ := q
        cases eb
        subst ef
        obtain ⟨m1, m2, m3⟩ := mut_at (u' := .dK (putK vs kk w)) ha (fun _ => by simp)
        refine ⟨m1, m2, m3, fun kp => ?_⟩
        simp only [RepO]
        exact ⟨a, _, rfl, rfl, upd_same, RepK.put (RepD.keep kp _ _ rd) (RepK.keep kp _ _ ra)⟩).1
    · cases hp
  · rename_i ks
    cases k <;> simp only [putD, reduceCtorEq] at hp
    rename_i kd
    split at hp
    · rename_i hz
      obtain ⟨kk, h1, h2⟩ := Option.map_eq_some_iff.mp hp
      subst h2
      have ro2 := ro
      simp only [RepO] at ro2
      obtain ⟨a, vs, rfl, _, ha, ra⟩ := ro2
      obtain ⟨b, ws, rfl, hb, rb⟩ := lk.tup
      have ek := keys_rep h1 rb
      subst ek
      refine .inr ⟨a, _, rfl, DPut.t ha hb (by rw [← ra.length]; exact hz), ?_⟩
      exact (s.mut (o' := .dT (dput ks kk d)) (H' := L2.upd H a (.dT (putK vs kk w))) h hv fun F q nd nz => by
        simp only [RepO] at q
        obtain ⟨b, ws', eb, ef, _, _⟩ := q
        cases eb
        subst ef
        obtain ⟨m1, m2, m3⟩ := mut_at (u' := .dT (putK vs kk w)) ha (fun _ => by simp)
        refine ⟨m1, m2, m3, fun kp => ?_⟩
        simp only [RepO]
        exact ⟨a, _, rfl, rfl, upd_same, RepT.put (RepD.keep kp _ _ rd) (RepT.keep kp _ _ ra)⟩).1
    · cases hp
end
theorem PSet.or {X : Cx} {t t' : TSet} (h : PSet X t) (h' : PSet X t') : PSet X fun o i v H Q => t o i v H Q ∨ t' o i v H Q := by
  intro pins s σ H o i v ov iv u Q I ro ri rv q
  rcases q with q | q
  · exact h pins s σ H o i v ov iv u Q I ro ri rv q
  · exact h' pins s σ H o i v ov iv u Q I ro ri rv q
section
variable {X : Cx} {M : List Nat} {e i o : Expr} {fe fi : XF} {pos pos' : Pos}
theorem vs_sub {j : Nat} (hu : X.A.units + 1 < cLine) (ho : PE X o (tVar j)) (hi : VE X i fi) (he : VE X e fe)
    (ha : ∀ v, assign (.Subscript o i pos') X.env v = (do
      let ov ← holding [v] (eval o X.env)
      let iv ← holding [v, ov] (eval i X.env)
      standAt pos'
      holding [v, ov, iv] (setItem ov iv v)
      release [v, ov, iv] []) := by intro _; rfl)
    (hs : swapsWithSole [.Subscript o i pos'] e pos.line X.env = pure false := by rfl) (hw : swappedStores [.Subscript o i pos'] e X.env = pure none := by rfl)
    (h1 : (assignEach [.Subscript o i pos'] X.env).map (·.2) = [assign (.Subscript o i pos') X.env] := by rfl) :
    VX X M (.Assign [.Subscript o i pos'] e pos) (sSub j fe fi) := PSi (ps_asg he (pg_sub ho hi (PSet.or set_list (set_dict hu)) ha) hs hw h1) fun D σ H ⟨g, Z, δ, S, T, r, st, hf, post⟩ => by
  simp only [sSub, Option.bind_eq_some_iff] at hf
  obtain ⟨⟨ev, δ1⟩, h1, ⟨ov, δ2⟩, h2, h3⟩ := hf
  split at h3
  · rename_i hj
    simp only [Option.bind_eq_some_iff, Option.map_eq_some_iff] at h3
    obtain ⟨⟨ei, δ3⟩, h4, k, h5, o1, h6, o', h7, rfl⟩ := h3
    refine ⟨g, Z, δ, S, T, _, st, h1, fun w Z1 H1 st1 al1 => ?_⟩
    obtain ⟨Z2, st2, rd⟩ := st1.tkD al1 h2
    have hj' : ∃ o0, δ2[j]? = some (some o0) := by
      have hj2 : ((δ2[j]?).join).isSome = true := hj
      cases q : δ2[j]? with
      | none => rw [q] at hj2; cases hj2
      | some x => cases x with
        | none => rw [q] at hj2; cases hj2
        | some o0 => exact ⟨o0, rfl⟩
    obtain ⟨o0, hj0⟩ := hj'
    obtain ⟨v, F, e1, _⟩ := st2.slot hj0
    refine ⟨v, e1, g, Z2, δ2, _, _, _, st2, h4, fun kv Z3 H3 st3 al3 => ?_⟩
    have h6' : δ3[j]? = some (some o1) := by
      have h62 : (δ3[j]?).join = some o1 := h6
      cases q : δ3[j]? with
      | none => rw [q] at h62; cases h62
      | some x =>
        rw [q] at h62
        have : x = some o1 := h62
        rw [this]
    have lk := st3.lk al3 h5
    have rd3 := topD st3.pop
    rcases st3.put h6' e1 lk rd3 h7 with ⟨p, xs, m, jj, ev, ek, hp, hx, st4⟩ | ⟨a, H', ev, dp, st4⟩
    · exact .inl ⟨p, xs, m, jj, ev, ek, hp, hx, post σ Z3 _ st4.drop2 (Agree.refl _ _)⟩
    · exact .inr ⟨a, H', ev, dp, post σ Z3 _ st4.drop2 (Agree.refl _ _)⟩
  · cases h3
end
end VS
namespace VS
open PySem PySem.Spec L2
theorem dput_length {κ : Type} [DecidableEq κ] (ks : List (κ × D)) (k : κ) (d : D) : (dput ks k d).length ≤ ks.length + 1 := by
  unfold dput
  split
  · simp
  · simp
def dcL (gt : GF) (tt : TF) (fk fv : XF) (own : List Nat) : List D → DS → List (Key × D) → Option (List (Key × D) × DS)
  | [], δ, acc => some (acc, δ)
  | d :: ds, δ, acc => (gt d δ).bind fun δ1 => (tt δ1).bind fun r => if r.1 then (fk r.2).bind fun r => (tk r.2 r.1).bind fun rk => (fv rk.2).bind fun r => (tk r.2 r.1).bind fun rv => (keyOf rk.1.fz).bind fun k => dcL gt tt fk fv own ds (wipeD rv.2 own) (dput acc k rv.1.fz)
      else dcL gt tt fk fv own ds (wipeD r.2 own) acc
def xDc (fi : IF) (gt : GF) (tt : TF) (fk fv : XF) (own : List Nat) : XF := fun δ => (fi δ).bind fun r => if r.1.length ≤ sizeLine then (dcL gt tt fk fv own r.1 (wipeD r.2 own) []).map fun q => (.val (.dK q.1), unwD q.2 own (savD r.2 own)) else none
section
variable {K : PySem.W.Frag} {g : Gx} {Z Z' : Addr → Prop} {H H' : Hp} {δ S U : DS} {σ T W : L2.St} {o : O} {v : V}
/-- the dict among the temporaries gets an entry -/
theorem StV.putT {A : DS} {B : L2.St} {ds : List (Key × D)} {d : D} {k : Key} {w : V} {a : Addr} (hA : A.length = B.length) (s : StV K g Z H δ σ (some (.sh d) :: (A ++ some (.dK ds) :: S)) (some w :: (B ++ some (.ref a) :: T))) :
    ∃ vs, H a = some (.dK vs) ∧ vs.length = ds.length ∧ StV K g Z (L2.upd H a (.dK (putK vs k w))) δ σ (A ++ some (.dK (dput ds k d)) :: S) (B ++ some (.ref a) :: T) := by
  have rd := topD s
  have s1 := s.pop
  have e1 : (A ++ some (O.dK ds) :: S)[A.length]? = some (some (O.dK ds)) := by simp
  have e2 : (B ++ some (V.ref a) :: T)[A.length]? = some (some (V.ref a)) := by rw [hA]; simp
  have ex : ∃ vs, H a = some (.dK vs) ∧ RepK K Z H ds vs := by
    obtain ⟨Fs, Ft, h1, h2, w⟩ := s1
    obtain ⟨y, Fi, Fr, e, p, q, put⟩ := h2.at e1
    rw [e2] at e
    cases e
    have q' : RepO K Z H (.dK ds) (.ref a) Fi := q
    simp only [RepO] at q'
    obtain ⟨b, vs, eb, _, hb, rb⟩ := q'
    cases eb
    exact ⟨vs, hb, rb⟩
  obtain ⟨vs, hb, rb⟩ := ex
  refine ⟨vs, hb, rb.length.symm, ?_⟩
  have r := (s1.mutT (o' := .dK (dput ds k d)) (H' := L2.upd H a (.dK (putK vs k w))) e1 e2 fun F q nd nz => by
    simp only [RepO] at q
    obtain ⟨b, ws, eb, ef, _, _⟩ := q
    cases eb
    subst ef
    obtain ⟨m1, m2, m3⟩ := mut_at (u' := .dK (putK vs k w)) hb (fun _ => by simp)
    refine ⟨m1, m2, m3, fun kp => ?_⟩
    simp only [RepO]
    exact ⟨a, _, rfl, rfl, upd_same, RepK.put (RepD.keep kp d w rd) (RepK.keep kp ds vs rb)⟩).1
  have e3 : (A ++ some (O.dK ds) :: S).set A.length (some (O.dK (dput ds k d))) = A ++ some (O.dK (dput ds k d)) :: S := by simp
  rw [e3] at r
  exact r
end
section
variable {X : Cx}
theorem dc_coreG {wi : TI} {L own : List Nat} {gt : GF} {tt : TF} {fk fv : XF} {g : Gx} {Z : Addr → Prop} {δ1 : DS} {S : DS} {σ T : L2.St} {H : Hp} {Q : VK} {ds : List D} {r : Ev × DS} (hL : (L.all fun i => own.contains i) = true)
    (hi : ∀ R : It → Hp → Prop, (∀ J U W Z' H', U.length = W.length → StV X.K g Z' H' δ1 σ (U ++ S) (W ++ T) → ItW X.K g J ds U W → R J H') → wi σ H R)
    (h2 : (if ds.length ≤ sizeLine then (dcL gt tt fk fv own ds (wipeD δ1 own) []).map fun q => ((.val (.dK q.1) : Ev), unwD q.2 own (savD δ1 own)) else none) = some r) (post : PostE X.K g σ S T Q r) :
    tDc wi (rdG X.K L gt) (rdT X.K tt) (rdE X.K fk) (rdE X.K fv) own σ H Q := by
  split at h2
  · rename_i hz0
    have hz : ds.length ≤ sizeLine := hz0
    obtain ⟨⟨accF, δF⟩, h3, h4⟩ := Option.map_eq_some_iff.mp h2
    subst h4
    refine hi _ fun J U W Z1 H1 hU st1 iw Da hDa => ?_
    have sl := sav_length δ1 σ own
    have st2 : StV X.K g Z1 (L2.upd H1 Da (.dK [])) δ1 σ (some (.dK []) :: (U ++ S)) (some (.ref Da) :: (W ++ T)) := st1.push (Res.dK hDa (by simp only [RepK]))
    have st3 := st2.wipe own
    refine ⟨fun i m H' => m = ds.length - i ∧ i ≤ ds.length ∧ ∃ Z' δ' acc, StV X.K g Z' H' δ' (L2.wipe σ own) (savD δ1 own ++ some (.dK acc) :: (U ++ S)) (savV σ own ++ some (.ref Da) :: (W ++ T)) ∧ dcL gt tt fk fv own (ds.drop i) δ' acc = some (accF, δF) ∧ acc.length ≤ i,
      ⟨_, rfl, Nat.zero_le _, Z1, _, [], st3, by simpa using h3, Nat.le_refl _⟩, ?_⟩
    rintro i m H' ⟨rfl, hle, Z', δ', acc, st', hl, ha⟩
    have stI : StV X.K g Z' H' δ' (L2.wipe σ own) (U ++ S) (W ++ T) := by
      have e1 : savD δ1 own ++ some (O.dK acc) :: (U ++ S) = (savD δ1 own ++ [some (O.dK acc)]) ++ (U ++ S) := by simp
      have e2 : savV σ own ++ some (V.ref Da) :: (W ++ T) = (savV σ own ++ [some (V.ref Da)]) ++ (W ++ T) := by simp
      rw [e1, e2] at st'
      exact st'.popN (by simp [sl.1, sl.2])
    by_cases hlt : i < ds.length
    · have e : ds[i]? = some ds[i] := by simp [hlt]
      obtain ⟨go, yld⟩ := iw.go Z' H' δ' (L2.wipe σ own) S T stI i _ e
      have dr : ds.drop i = ds[i] :: ds.drop (i + 1) := List.drop_eq_getElem_cons hlt
      rw [dr] at hl
      simp only [dcL, Option.bind_eq_some_iff] at hl
      obtain ⟨δ2, g1, ⟨b, δ3⟩, g2, g3⟩ := hl
      refine .inr ⟨go, fun H3 => ∃ Z3 δ3 acc3, StV X.K g Z3 H3 δ3 (L2.wipe σ own) (savD δ1 own ++ some (.dK acc3) :: (U ++ S)) (savV σ own ++ some (.ref Da) :: (W ++ T)) ∧ dcL gt tt fk fv own (ds.drop (i + 1)) δ3 acc3 = some (accF, δF) ∧ acc3.length ≤ i + 1,
        fun H3 q => ⟨ds.length - (i + 1), by omega, rfl, hlt, q⟩, fun x H2 y => ?_⟩
      have rs := yld x H2 y
      refine ⟨g, Z', δ', _, _, ds[i], δ2, st'.push rs, g1, fun σ4 Z4 H4 st4 ou => ?_⟩
      have ew := ou.wipe hL
      refine ⟨ew, g, Z4, δ2, _, _, _, st4, g2, fun Z5 H5 st5 => ?_⟩
      cases b with
      | false =>
        have st6 := st5.wipeOff own
        rw [ew] at st6
        exact ⟨Z5, _, acc, st6, g3, by omega⟩
      | true =>
        rw [if_pos rfl]
        rw [if_pos rfl] at g3
        obtain ⟨⟨ek, δ6⟩, g4, g5⟩ := Option.bind_eq_some_iff.mp g3
        obtain ⟨⟨ok, δ7⟩, g6, g7⟩ := Option.bind_eq_some_iff.mp g5
        obtain ⟨⟨ev, δ8⟩, g8, g9⟩ := Option.bind_eq_some_iff.mp g7
        obtain ⟨⟨ov, δ9⟩, g10, g11⟩ := Option.bind_eq_some_iff.mp g9
        obtain ⟨kk, g12, g13⟩ := Option.bind_eq_some_iff.mp g11
        refine ⟨g, Z5, δ3, _, _, _, st5, g4, fun kv Z6 H6 st6 al6 => ?_⟩
        obtain ⟨Z7, st7, rdk⟩ := st6.tkD al6 g6
        have ekv := key_rep g12 rdk
        subst ekv
        refine ⟨g, Z7, δ7, _, _, _, st7, g8, fun w Z8 H8 st8 al8 => ?_⟩
        obtain ⟨Z9, st9, rd⟩ := st8.tkD al8 g10
        have st10 := StV.mid (A := [some (.sh ov.fz)]) (B := [some w]) (U := [some (.sh ok.fz)]) (W := [some (kV kk)]) rfl rfl st9
        obtain ⟨vs, hv, hvl, st11⟩ := StV.putT (k := kk) (by rw [sl.1, sl.2]) st10
        refine ⟨vs, kk, rfl, hv, by omega, Z9, _, dput acc kk ov.fz, ?_, g13, by have := dput_length acc kk ov.fz; omega⟩
        have st12 := st11.wipeOff own
        rw [ew] at st12
        exact st12
    · have e : i = ds.length := by omega
      subst e
      refine .inl ⟨iw.stop Z' H' δ' (L2.wipe σ own) S T stI, ?_⟩
      rw [List.drop_length] at hl
      cases hl
      have st4 := StV.unwipe (xs := savD δ1 own) (by rw [sl.1]) st'
      exact post (.ref Da) Z' H' (StV.mid (A := [some (.dK accF)]) (B := [some (.ref Da)]) rfl hU st4) trivial
  · cases h2
theorem dc_coreV {wi : TI} {L own : List Nat} {fi : IF} {gt : GF} {tt : TF} {fk fv : XF} {σ : L2.St} {H : Hp} {Q : VK} (hL : (L.all fun i => own.contains i) = true) (hi : ∀ σ H R, rdI X.K fi σ H R → wi σ H R) (h : rdE X.K (xDc fi gt tt fk fv own) σ H Q) :
    tDc wi (rdG X.K L gt) (rdT X.K tt) (rdE X.K fk) (rdE X.K fv) own σ H Q := by
  obtain ⟨g, Z, δ, S, T, r, st, hf, post⟩ := h
  simp only [xDc, Option.bind_eq_some_iff] at hf
  obtain ⟨⟨ds, δ1⟩, h1, h2⟩ := hf
  exact dc_coreG (Z := Z) hL (fun R q => hi _ _ _ ⟨g, Z, δ, S, T, _, st, h1, q⟩) h2 post
theorem ve_dc {kx vx tg iter : Expr} {ifs : List Expr} {scope : Scope} {own : List (Str × Nat)} {pos : Pos} {L : List Nat} {fi : IF} {gt : GF} {tt : TF} {fk fv : XF} (hL : (L.all fun i => (own.map (·.2)).contains i) = true)
    (hc : X.calm = true) (hN : X.N.Nodup) (hi : VI X tg iter fi) (ok : BlkOk X.N X.env.scope scope own)
    (hg : ∀ (s : Shared) (H : Hp) (C : Addr) (cl : List (Str × Addr)) (fp : List Addr), VG (X.blk s H scope (compEnvC scope cl C X.env) fp) L tg gt) (ht : ∀ (s : Shared) (H : Hp) (C : Addr) (cl : List (Str × Addr)) (fp : List Addr), VTs (X.blk s H scope (compEnvC scope cl C X.env) fp) ifs tt)
    (hk : ∀ (s : Shared) (H : Hp) (C : Addr) (cl : List (Str × Addr)) (fp : List Addr), VE (X.blk s H scope (compEnvC scope cl C X.env) fp) kx fk)
    (he : ∀ (s : Shared) (H : Hp) (C : Addr) (cl : List (Str × Addr)) (fp : List Addr), VE (X.blk s H scope (compEnvC scope cl C X.env) fp) vx fv) (hs : ∀ x, foldedSetIterable iter X.env x = pure x := by intro _; rfl) :
    VE X (.DictComp kx vx [⟨tg, iter, ifs, 0⟩] scope pos) (xDc fi gt tt fk fv (own.map (·.2))) := PEi (pe_dc hc hN hi ok hg ht hk he hs) fun σ H Q h => dc_coreV hL (fun _ _ _ q => q) h
end
end VS
namespace VS
open PySem PySem.Spec L2
def pV (i : Nat) : DS → Option (D × DS) := fun δ => match (δ[i]?).join with
  | some o => some (o.fz, δ.set i (some (.sh o.fz)))
  | none => none
def Gx.lk (g : Gx) (d : Addr) (u : HO) : Gx := ⟨fun a => g.Z0 a ∨ a = d, fun a => if a = d then some u else g.G a⟩
section
variable {K : PySem.W.Frag} {g : Gx} {Z Z' : Addr → Prop} {H H' : Hp} {δ S U : DS} {σ T W : L2.St} {o : O} {v : V}
theorem StV.gh (s : StV K g Z H δ σ S T) {d : Addr} {o : HO} (z : g.G d = some o) : H d = some o := by
  obtain ⟨Fs, Ft, h1, h2, w⟩ := s
  exact w.gh d o z
end
def keyD : Key → D
  | .inl i => .int i
  | .inr x => .str x
inductive Vw where
  | keys | vals | items
def Vw.of : Vw → List (Key × D) → List D
  | .keys, ks => ks.map fun p => keyD p.1
  | .vals, ks => ks.map fun p => p.2
  | .items, ks => ks.map fun p => .tup [keyD p.1, p.2]
section
variable {K : PySem.W.Frag} {g : Gx} {Z Z' : Addr → Prop} {H H' : Hp} {δ S U : DS} {σ T W : L2.St} {o : O} {v : V}
theorem RepK.at : ∀ {ds : List (Key × D)} {vs : List (Key × V)} {i : Nat} {k : Key} {d : D}, RepK K Z H ds vs → ds[i]? = some (k, d) → ∃ v, vs[i]? = some (k, v) ∧ RepD K Z H d v
  | [], vs, i, k, d, h, e => by simp at e
  | (x, d0) :: ds, vs, 0, k, d, h, e => by
    simp only [RepK] at h
    obtain ⟨v, r, rfl, h1, h2⟩ := h
    have e' : x = k ∧ d0 = d := by simpa using e
    obtain ⟨rfl, rfl⟩ := e'
    exact ⟨v, rfl, h1⟩
  | (x, d0) :: ds, vs, i + 1, k, d, h, e => by
    simp only [RepK] at h
    obtain ⟨v, r, rfl, h1, h2⟩ := h
    obtain ⟨w, q1, q2⟩ := RepK.at (i := i) (k := k) (d := d) h2 (by simpa using e)
    exact ⟨w, by simpa using q1, q2⟩
end
section
variable {X : Cx} {e e0 tg : Expr}
theorem PE.or {t t' : TE} (h : PE X e t) (h' : PE X e t') : PE X e fun σ H Q => t σ H Q ∨ t' σ H Q := ⟨fun pins s σ H Q I q => q.elim (h.run pins s σ H Q I) (h'.run pins s σ H Q I)⟩
theorem PS.or {st : Stmt} {t t' : TS} (h : PS X st t) (h' : PS X st t') : PS X st fun D σ H => t D σ H ∨ t' D σ H := ⟨fun pins s σ H D I q => q.elim (h.run pins s σ H D I) (h'.run pins s σ H D I)⟩
theorem PE.mono {t : TE} (h : PE X e t) : PE X e fun σ H Q => ∃ Q' : VK, t σ H Q' ∧ ∀ x H', Q' x H' → Q x H' := ⟨fun pins s σ H Q I ⟨Q', h1, h2⟩ => thn (h.run pins s σ H Q' I h1) fun v s1 ⟨x, H1, I1, r, q⟩ => ⟨x, H1, I1, r, h2 x H1 q⟩⟩
end
def sForI (w : Vw) (fp : DS → Option (D × DS)) (gt : GF) (body : SF) : SF := fun δ => (fp δ).bind fun r => match r.1 with
  | .dK ks => forL gt body (w.of ks) r.2
  | _ => none
end VS
namespace VS
open PySem PySem.Spec L2
open PySem.W (Frag)
open PyProof.Rows
section
variable {X : Cx} {k : Nat} {f : Addr} {fd : FuncData} {ps : List Str} {sp : Sp} {pins : List (Addr × Obj)} {σ : L2.St} {H : Hp} {s : Shared} {Q : VK} {A : Around}
theorem own_run {vs : List V} {us : List Value} (F : FnOk X.prog X.w X.K X.mg X.base CX0 k f fd ps sp) (hb : Binds X.K fd ps []) (hr : Room k A) (fr : A.frames = X.A.frames) (I : Inv X pins σ H s) (r : Vals vs us) (h : sp vs H Q E0) :
    wpAny (model X.prog X.w) A (call (.ref f) us) (EP X pins σ Q) X.xe s := by
  have e0 : Env0 X.prog X.w X.K X.mg X.base A X.stack s H := by
    have e := I.env0
    exact ⟨by rw [fr]; exact e.frames, e.mod, e.bs, e.bsz, e.funs, e.frf, e.hok, e.bare⟩
  have hl := F.len _ _ _ _ h
  refine wpAny_call (codeAny_mono (F.run A X.stack s H ⟨us, []⟩ us vs _ E0 hr e0 (by
    have := hb s us I.kIn (by simpa using (show us.length = ps.length by rw [← r.length]; exact hl))
    simpa using this) r h) fun r s' hq => ?_)
  cases r with
  | error e => exact (show False from hq).elim
  | ok fl =>
    cases fl with
    | ret w => exact I.after hq
    | next => exact False.elim hq
    | brk => exact False.elim hq
    | cont => exact False.elim hq
def insAt (H : Hp) (C : Addr) (x : V) : Prop := ∃ a dx fs, x = .ref a ∧ H a = some (.ins C dx fs)
theorem insAt.get {C : Addr} {x : V} {u : Value} (h : insAt H C x) (I : Inv X pins σ H s) (r : RelV x u) : ∃ a ox od, u = .ref a ∧ PySem.W.InstAt s.heap a ox C od := by
  obtain ⟨a, dx, fs, rfl, ha⟩ := h
  obtain ⟨mA, J, _⟩ := ins_get I.hok ha
  obtain ⟨od, J, _⟩ := J.look
  cases (show u = Value.ref a from r)
  exact ⟨a, _, _, rfl, J⟩
end
section
variable {X : Cx} {k : Nat} {f : Addr} {fd : FuncData} {ps : List Str} {sp : Sp} {pins : List (Addr × Obj)} {σ : L2.St} {H : Hp} {s : Shared} {Q : VK} {A : Around}
theorem op_ninO {C : Addr} (F : FnOk X.prog X.w X.K X.mg X.base CX0 k f fd ps sp) (hb : Binds X.K fd ps []) (hr : Room k X.A) (hs : PySem.W.findIn X.K (.ref C) "__contains__" = some (some (.ref f))) (hf : PySem.W.isFn X.K (.ref f) = true) :
    OpR X (compareOp .NotIn) fun x y H Q => insAt H C y ∧ sp [y, x] H (fun v H' => ∃ b, v = .bl b ∧ Q (.bl (!b)) H') E0 := by
  intro pins s σ H x y v u Q I rx ry ⟨hy, q⟩
  obtain ⟨b, oy, oe, rfl, J⟩ := hy.get I ry
  obtain ⟨m, hF⟩ := I.fr
  refine PySem.W.notIn_K hF I.ok.mod.kin J hs hf (wpAny_mono (own_run F hb hr rfl I (.cons ry (.cons rx .nil)) q) (fun w s' z => ?_) fun _ _ x => x)
  obtain ⟨z', H', I', rz, bb, eb, qz⟩ := z
  subst eb
  cases (show w = Value.bool bb from rz)
  exact wpAny_truthy_bool ⟨.bl (!bb), H', I', rfl, qz⟩
end
def isO (c : Str) : O → Bool
  | .sh (.obj c' _) => decide (c' = c)
  | .obj c' _ => decide (c' = c)
  | _ => false
/-- a op b by a def of the class c; sw: the second one is the receiver -/
def xO2 (k1 k2 : O → Bool) (F : FF) (po : O → Option O) (sw : Bool) (fa fb : XF) : XF := fun δ => (fa δ).bind fun r1 => (tk r1.2 r1.1).bind fun t1 => (fb t1.2).bind fun r2 => (tk r2.2 r2.1).bind fun t2 =>
  if k1 t1.1 && k2 t2.1 then (F (if sw then [t2.1, t1.1] else [t1.1, t2.1])).bind fun r3 => if r3.2.length = 2 then (po r3.1).map fun o => (.val o, t2.2) else none else none
def yes : O → Bool := fun _ => true
def poN : O → Option O
  | .sh (.bl b) => some (.sh (.bl (!b)))
  | _ => none
section
variable {K : PySem.W.Frag} {g : Gx} {Z Z' : Addr → Prop} {H H' : Hp} {δ S U : DS} {σ T W : L2.St} {o : O} {v : V}
theorem RepO.ins {c : Str} {F : List Addr} (h : RepO K Z H o v F) (e : isO c o = true) : insAt H (He.ga K c) v := by
  cases o <;> simp only [isO, Bool.false_eq_true] at e
  · rename_i d
    cases d <;> simp only [isO, Bool.false_eq_true, decide_eq_true_eq] at e
    subst e
    simp only [RepO, RepD] at h
    obtain ⟨_, a, dx, vs, rfl, _, ha, _⟩ := h
    exact ⟨a, dx, vs, rfl, ha⟩
  · simp only [decide_eq_true_eq] at e
    subst e
    simp only [RepO] at h
    obtain ⟨a, dx, vs, G, rfl, _, ha, _⟩ := h
    exact ⟨a, dx, vs, rfl, ha⟩
theorem StV.swap {x y : Option O} {p q : Option V} (s : StV K g Z H δ σ (x :: y :: S) (p :: q :: T)) : StV K g Z H δ σ (y :: x :: S) (q :: p :: T) := by
  obtain ⟨Fs, Ft, h1, ⟨y1, r1, F1, F2, e1, f1, h2, ⟨y2, r2, F3, F4, e2, f2, h3, h4⟩⟩, w⟩ := s
  cases e1
  cases e2
  subst f1 f2
  refine ⟨Fs, F3 ++ (F1 ++ F4), h1, ⟨_, _, F3, F1 ++ F4, rfl, rfl, h3, ⟨_, _, F1, F4, rfl, rfl, h2, h4⟩⟩, w.perm ?_⟩
  refine List.Perm.append_left _ ?_
  rw [← List.append_assoc, ← List.append_assoc]
  exact List.Perm.append_right _ List.perm_append_comm
end
section
variable {X : Cx} {fa fb : XF} {k1 k2 : O → Bool} {F : FF} {po : O → Option O} {sw : Bool}
theorem call2 {K : Frag} {g : Gx} {Z : Addr → Prop} {H : Hp} {δ S : DS} {σ T : L2.St} {o1 o2 r : O} {x y : V} {fin : DS} {Q : VK} (s : StV K g Z H δ σ (some o2 :: some o1 :: S) (some y :: some x :: T)) (hF : F (if sw then [o2, o1] else [o1, o2]) = some (r, fin)) (hl : fin.length = 2)
    (post : ∀ v Z' H', StV K g Z' H' δ σ (some r :: S) (some v :: T) → Q v H') : spV K 2 F (if sw then [y, x] else [x, y]) H Q E0 := by
  have go : ∀ (p q : O) (u w : V), StV K g Z H δ σ (some q :: some p :: S) (some w :: some u :: T) → F [p, q] = some (r, fin) → spV K 2 F [u, w] H Q E0 := fun p q u w st hf =>
    call_coreM (os := [p, q]) (vs := [u, w]) (by simpa [vtmps] using st) rfl hf hl rfl fun v Z' H' st' => post v Z' H' (st'.popN (by rw [hl]; rfl))
  cases sw with
  | true => exact go o2 o1 y x s.swap hF
  | false => exact go o1 o2 x y s hF
theorem o2_core {r : R2} {Wr : VK → VK} {σ : L2.St} {H : Hp} {Q : VK}
    (hr : ∀ x y H Q, (∃ Z o1 o2 F1 F2, k1 o1 = true ∧ k2 o2 = true ∧ RepO X.K Z H o1 x F1 ∧ RepO X.K Z H o2 y F2) → spV X.K 2 F (if sw then [y, x] else [x, y]) H (Wr Q) E0 → r x y H Q)
    (hW : ∀ (Q : VK) g Z H δ σ S T (o o' : O) v, StV X.K g Z H δ σ (some o :: S) (some v :: T) → po o = some o' → (∀ v', StV X.K g Z H δ σ (some o' :: S) (some v' :: T) → Q v' H) → Wr Q v H)
    (h : rdE X.K (xO2 k1 k2 F po sw fa fb) σ H Q) : tOp r (rdE X.K fa) (rdE X.K fb) σ H Q := by
  obtain ⟨g, Z, δ, S, T, rr, st, hf, post⟩ := h
  simp only [xO2, Option.bind_eq_some_iff] at hf
  obtain ⟨⟨ea, δ1⟩, h1, ⟨o1, δ2⟩, h2, ⟨eb, δ3⟩, h3, ⟨o2, δ4⟩, h4, h5⟩ := hf
  split at h5
  · rename_i hk
    obtain ⟨hk1, hk2⟩ : k1 o1 = true ∧ k2 o2 = true := by simpa using hk
    obtain ⟨⟨r0, fin⟩, h6, h7⟩ := Option.bind_eq_some_iff.mp h5
    split at h7
    · rename_i hl
      obtain ⟨o', h8, h9⟩ := Option.map_eq_some_iff.mp h7
      subst h9
      refine ⟨g, Z, δ, S, T, _, st, h1, fun x Z1 H1 st1 al1 => ?_⟩
      obtain ⟨Z2, st2, _⟩ := st1.tk al1 h2
      refine ⟨g, Z2, δ2, _, _, _, st2, h3, fun y Z3 H3 st3 al3 => ?_⟩
      obtain ⟨Z4, st4, _⟩ := st3.tk al3 h4
      obtain ⟨F2, ro2⟩ := st4.top
      obtain ⟨F1, ro1⟩ := st4.pop.top
      exact hr x y H3 Q ⟨Z4, o1, o2, F1, F2, hk1, hk2, ro1, ro2⟩ (call2 st4 h6 hl fun v Z' H' st5 => hW Q _ _ _ _ _ _ _ _ _ _ st5 h8 fun v' st6 => post v' Z' H' st6 trivial)
    · cases h7
  · cases h5
def WrB (m : Bool → Bool) : VK → VK := fun Q v H' => ∃ b, v = .bl b ∧ Q (.bl (m b)) H'
theorem wr_N {K : Frag} (Q : VK) (g : Gx) (Z : Addr → Prop) (H : Hp) (δ : DS) (σ : L2.St) (S : DS) (T : L2.St) (o o' : O) (v : V) (st : StV K g Z H δ σ (some o :: S) (some v :: T)) (h : poN o = some o') (q : ∀ v', StV K g Z H δ σ (some o' :: S) (some v' :: T) → Q v' H) : WrB (fun b => !b) Q v H := by
  unfold poN at h
  split at h
  · rename_i b
    cases h
    have e : v = .bl b := by simpa only [RepD] using topD st
    exact ⟨b, e, q (.bl (!b)) (st.pop.push Res.bl)⟩
  · cases h
end
/-- what the class c has: == and the other operators -/
structure OpF (K : Frag) (c m : Str) (f : Addr) : Prop where
  at_ : PySem.W.findIn K (.ref (He.ga K c)) m = some (some (.ref f))
  fn : PySem.W.isFn K (.ref f) = true
end VS
namespace VS
open PySem PySem.Spec L2 He
open PySem.W (Frag)
abbrev AlX : Type := Bool × AlD
def obsX (ex : List (Frag → Bool)) (fa : List Fa) (fn : List DefD) (K : Frag) : AlX := (ex.all fun f => f K, obsD fa fn K)
def SaysX (ex : List (Frag → Bool)) (fa : List Fa) (fn : List DefD) (K : Frag) : Prop := obsX ex fa fn K = (true, valD fn)
def obsXG (n : Nat) (ex : List (Frag → Bool)) (fa : List Fa) (fn : List DefD) (g : Addr → Option Obj) : AlX := obsX ex fa fn (frG g (asD g n))
def hookX (n : Nat) (ex : List (Frag → Bool)) (fa : List Fa) (fn : List DefD) : PySem.W.Hook where
  α := AlX
  obs := fun s => obsXG n ex fa fn s.heap.get?
  val := fun _ => (true, valD fn)
  says := fun _ h => ∃ K : Frag, K.In h ∧ SaysX ex fa fn K
  of := fun _ _ e => ⟨_, frG_in, e⟩
  keeps := fun _ _ _ ⟨K, hK, c⟩ k => ⟨K, PySem.W.Frag.In.keeps hK k, c⟩
theorem obsXG_eq {n : Nat} {ex : List (Frag → Bool)} {fa : List Fa} {fn : List DefD} {g : Addr → Option Obj} {s : Shared} (h : ∀ a, g a = s.heap.get? a) : obsXG n ex fa fn g = (hookX n ex fa fn).obs s := by
  have e : g = s.heap.get? := funext h
  rw [e] <;> rfl
section
variable {ex : List (Frag → Bool)} {fa : List Fa} {fn : List DefD} {K : Frag}
theorem SaysX.d (c : SaysX ex fa fn K) : SaysD fa fn K := congrArg (fun z : AlX => z.2) c
end
/-- an operator's def -/
theorem opF_of {c m : Str} {K : Frag} (h : (Fa.meth c m).ok K = true) : OpF K c m (ma K (ga K c) m) := by
  obtain ⟨h1, h2⟩ := ba (show (eqO (PySem.W.findIn K (.ref (ga K c)) m) (some (some (.ref (ma K (ga K c) m)))) && (PySem.W.isFn K (.ref (ma K (ga K c) m)) && PySem.W.keepIn K (.ref (ma K (ga K c) m)))) = true from h)
  exact ⟨eqO_ok h1, (ba h2).1⟩
end VS
namespace VS
open PySem PySem.Spec L2 He
open PySem.W (Frag)
structure Fx (ex : List (Frag → Bool)) (fa : List Fa) (fn : List DefD) (K : Frag) (mg : Str → Option Value) : Prop where
  s : SaysX ex fa fn K
  X : ∃ h : Heap, K.In h ∧ h.Ns mainGlobals mg
section
variable {ex : List (Frag → Bool)} {fa : List Fa} {fn : List DefD} {K : Frag} {mg : Str → Option Value} (c : Fx ex fa fn K mg)
include c
theorem Fx.glo (i : Nat) {x : Str} (h : fa[i]? = some (.glo x) := by rfl) : mg x = some (.ref (ga K x)) := let ⟨_, X, G⟩ := c.X; glo_ok X G (c.s.d.fact i h)
theorem Fx.free (i : Nat) {x : Str} (h : fa[i]? = some (.free x) := by rfl) : mg x = none := let ⟨_, X, G⟩ := c.X; free_ok X G (c.s.d.fact i h)
theorem Fx.int (i : Nat) {x : Str} {n : Int} (h : fa[i]? = some (.int x n) := by rfl) : ∃ t, mg x = some (.int n t) := let ⟨_, X, G⟩ := c.X; int_ok X G (c.s.d.fact i h)
theorem Fx.str (i : Nat) {x z : Str} (h : fa[i]? = some (.str x z) := by rfl) : ∃ t, mg x = some (.str z t) := let ⟨_, X, G⟩ := c.X; str_ok X G (c.s.d.fact i h)
theorem Fx.cls (i : Nat) {x : Str} (h : fa[i]? = some (.cls x) := by rfl) : Cls K (ga K x) := cls_ok (c.s.d.fact i h)
theorem Fx.noat (i : Nat) {x f : Str} (h : fa[i]? = some (.noat x f) := by rfl) : NoAttr K (ga K x) f := noat_ok (c.s.d.fact i h)
theorem Fx.meth (i : Nat) {x m : Str} (h : fa[i]? = some (.meth x m) := by rfl) : Meth K (ga K x) m (ma K (ga K x) m) := meth_ok (c.s.d.fact i h)
theorem Fx.mkr (i : Nat) {x : Str} (h : fa[i]? = some (.mkr x) := by rfl) : Mk K (ga K x) (ma K (ga K x) "__init__") := mkr_ok (c.s.d.fact i h)
theorem Fx.opf (i : Nat) {x m : Str} (h : fa[i]? = some (.meth x m) := by rfl) : OpF K x m (ma K (ga K x) m) := opF_of (c.s.d.fact i h)
end
/-- a def, for its callers -/
def FnP (P : Program) (w : World) (K : Frag) (mg : Str → Option Value) (base : Heap) (k : Nat) (f : Addr) (n : Nat) (F : FF) : Prop := ∃ fd ps, FnOk P w K mg base CX0 k f fd ps (spV K n F) ∧ Binds K fd ps [] ∧ PySem.W.keepIn K (.ref f) = true
section
variable {X : Cx} {x m : Str} {p pos apos : Pos} {e o a b : Expr} {es : List Expr} {k n : Nat} {f : Addr} {F : FF} {fs : AF} {fb : BF} {fo fa fb' : XF} {c : Str}
theorem ve_callF (G : FnP X.prog X.w X.K X.mg X.base k f n F) (hn : ∀ δ r, fs δ = some r → r.1.length = n) (hr : Room k X.A) (hg : Gl X x) (hm : X.mg x = some (.ref f))
    (ha : VA X (e :: es) fs) (hdb : (x == ("__debug__" : Str)) = false := by decide) (he : starEach (e :: es) X.env = (false, eval e X.env) :: starEach es X.env := by rfl) (hpl : (backTo pos (starEach es X.env)).any (·.1) = false := by rfl) :
    VE X (.Call (.Name x p) (e :: es) [] pos) (xCall F fs) := let ⟨fd, ps, G, B, kp⟩ := G; ve_call G hn hr hg hm kp B ha hdb he hpl
theorem ve_methF {pl : Sem Bool} (G : FnP X.prog X.w X.K X.mg X.base k f n F) (cl : Cls X.K (ga X.K c)) (hm : Meth X.K (ga X.K c) m f) (hn : ∀ δ r, fs δ = some r → r.1.length + 1 = n) (hr : Room k X.A) (he : VE X o fo) (ha : VA X (e :: es) fs)
    (hst : starEach (e :: es) X.env = (false, eval e X.env) :: starEach es X.env := by rfl) (hpl : (backTo pos (starEach es X.env)).any (·.1) = false := by rfl)
    (ht : eval (.Call (.Attribute o m apos) (e :: es) [] pos) X.env = (do
      let ov ← eval o X.env
      standAt apos.atName
      let (f, first) ← holding [ov] (getMethod ov m pl)
      callWith pos f first (backTo pos (starEach (e :: es) X.env)) (backToKw pos (keywordEach [] X.env))) := by rfl) :
    VE X (.Call (.Attribute o m apos) (e :: es) [] pos) (xMeth c m F fo fs) := let ⟨fd, ps, G, B, kp⟩ := G; ve_meth cl hm G hn hr B he ha hst hpl ht
theorem ve_methF0 {pl : Sem Bool} (G : FnP X.prog X.w X.K X.mg X.base k f 1 F) (cl : Cls X.K (ga X.K c)) (hm : Meth X.K (ga X.K c) m f) (hr : Room k X.A) (he : VE X o fo)
    (ht : eval (.Call (.Attribute o m apos) [] [] pos) X.env = (do
      let ov ← eval o X.env
      standAt apos.atName
      let (f, first) ← holding [ov] (getMethod ov m pl)
      callWith pos f first (backTo pos (starEach [] X.env)) (backToKw pos (keywordEach [] X.env))) := by rfl) :
    VE X (.Call (.Attribute o m apos) [] [] pos) (xMeth c m F fo aNil) := let ⟨fd, ps, G, B, kp⟩ := G; ve_meth0 cl hm G hr B he ht
theorem ve_makeF (frz : Bool) (M : Mk X.K (ga X.K c) f) (G : FnP X.prog X.w X.K X.mg X.base k f n F) (hn : ∀ δ r, fb δ = some r → r.1.length + 1 = n) (hr : Room (k + 1) X.A) (hg : Gl X x) (hm : X.mg x = some (.ref (ga X.K c)))
    (ha : VB X (e :: es) fb) (hdb : (x == ("__debug__" : Str)) = false := by decide) (he : starEach (e :: es) X.env = (false, eval e X.env) :: starEach es X.env := by rfl) (hpl : (backTo pos (starEach es X.env)).any (·.1) = false := by rfl) :
    VE X (.Call (.Name x p) (e :: es) [] pos) (xMake c F frz fb) := let ⟨fd, ps, G, B, kp⟩ := G; ve_make M G hn hr hg hm B ha hdb he hpl
theorem vt_ninOF (G : FnP X.prog X.w X.K X.mg X.base k f 2 F) (hr : Room k X.A) (o : OpF X.K c "__contains__" f) (ha : VE X a fa) (hbb : VE X b fb') (hm : behindInMarks .NotIn b = false) :
    VT X (.Compare a [.NotIn] [b] pos) (VS.tB (xO2 yes (isO c) F poN true fa fb')) := let ⟨fd, ps, G, B, kp⟩ := G; PTi (pt_cmpR (op_ninO G B hr o.at_ o.fn) ha hbb hm) fun σ H Q h =>
  test_core (fun _ _ _ q => o2_core (Wr := WrB fun b => !b) (fun x y H Q ⟨Z, o1, o2, F1, F2, h1, h2, r1, r2⟩ q => ⟨r2.ins h2, q⟩) wr_N q) h
theorem len_up {α : Type} {fs : DS → Option (List α × DS)} {n : Nat} (h : ∀ δ r, fs δ = some r → r.1.length = n) : ∀ δ r, fs δ = some r → r.1.length + 1 = n + 1 := fun δ r e => by rw [h δ r e]
end
section
variable {P : Program} {w : World} {K : Frag} {mg : Str → Option Value} {base : Heap}
/-- THE RULE for a def, with all that its callers want -/
theorem fnW' {x qual : Str} {params : Arguments} {body : List Stmt} {scope : Scope} {f : Addr} {N ps : List Str} {k : Nat} {M : List Nat} {fb : SF} (F : ∃ fd, FunD K x qual params body scope [] [] f fd) (S : FnScope N ps scope)
    (hB : ∀ (kV doc pm : Value) (an : Option Addr) (cdv ct : Value) (us : List Value), us.length = ps.length → bindArgs (PySem.W.fnOf x qual params body scope .none kV doc pm an cdv ct) ⟨us, []⟩ = pure (ps.zip us))
    (hb : ∀ (cdv : Value) (A : Around) (outer : List Env) (s : Shared) (H : Hp) (E : XK), Room k (A.deeper (PyProof.Rows.envOfC qual scope s.heap.objs.size f cdv)) → VXs (cxOf CX0 P w K mg base N qual scope f cdv A outer s H E).nox M body fb) :
    FnP P w K mg base (k + 1) f ps.length (defF ps.length N.length M fb) := by
  obtain ⟨fd, F⟩ := F
  exact ⟨fd, ps, fnV F S hb, F.bindsN hB, F.kp⟩
end
end VS
namespace VS
open PySem
theorem bo_len : bootBuiltins "len" = some (.builtin "len") := by decide +kernel
theorem bo_sum : bootBuiltins "sum" = some (.builtin "sum") := by decide +kernel
theorem bo_min : bootBuiltins "min" = some (.builtin "min") := by decide +kernel
theorem bo_max : bootBuiltins "max" = some (.builtin "max") := by decide +kernel
theorem bo_all : bootBuiltins "all" = some (.builtin "all") := by decide +kernel
theorem bo_int : bootBuiltins "int" = some (.type "int") := by decide +kernel
theorem bo_list : bootBuiltins "list" = some (.type "list") := by decide +kernel
theorem bo_tuple : bootBuiltins "tuple" = some (.type "tuple") := by decide +kernel
theorem bo_str : bootBuiltins "str" = some (.type "str") := by decide +kernel
theorem bo_bool : bootBuiltins "bool" = some (.type "bool") := by decide +kernel
theorem bo_dict : bootBuiltins "dict" = some (.type "dict") := by decide +kernel
end VS
namespace VS
open PySem PySem.Spec L2 He
open PySem.W (Frag)
theorem hu1_of {k : Nat} {A : Around} (r : Room k A) : A.units + 1 < cLine := by have := r.un; omega
theorem hu64_of {k : Nat} {A : Around} (r : Room k A) : A.units + 64 < cLine := by have := r.un; omega
theorem hu65_of {k : Nat} {A : Around} (r : Room k A) : A.units + 65 < cLine := by have := r.un; omega
/-- the law's own promise, at the script -/
theorem law_sp {K : Frag} {F : FF} {n : Nat} (h : ∀ ns : List Int, ns.length ≤ n → ∃ fin, F [.sh (.scr ns)] = some (.sh (.bl true), fin)) (H : Hp) (a : Addr) (ns : List Int) (hn : ns.length ≤ n) (hO : Only H) (hS : SqL K H a (ns.map V.int)) :
    spV K 1 F [.ref a] H (fun v _ => v = .bl true) fun _ _ _ => False := by
  obtain ⟨fin, hF⟩ := h ns hn
  have hd : (∃ o, H a = some (.frz o (.lst (ns.map V.int)))) ∨ SqL K (fun _ => none) a (ns.map V.int) := by
    rcases hS with (hS | ⟨o, hS⟩) | hS
    · rcases hO a with e | ⟨o, xs, e⟩
      · rw [hS] at e; cases e
      · rw [hS] at e; cases e
    · exact .inl ⟨o, hS⟩
    · exact .inr (.inr hS)
  refine ⟨fun b => ∃ o, H b = some o, [.sh (.scr ns)], [], _, fin, rfl, ?_, List.nodup_nil, fun b hb => absurd hb (by simp), fun b z => z, hF, fun v Z' H' F1 F2 P => ?_⟩
  · refine ⟨some (.ref a), [], [], [], rfl, rfl, ?_, rfl, rfl⟩
    show RepO K _ H (.sh (.scr ns)) (.ref a) []
    simp only [RepO, RepD]
    refine ⟨trivial, a, rfl, ?_⟩
    rcases hd with ⟨o, hd⟩ | hd
    · exact .inl ⟨⟨_, hd⟩, o, hd⟩
    · exact .inr hd
  · have r := P.rr
    simp only [RepO, RepD] at r
    exact r.2
end VS
namespace VS
open PySem PySem.Spec L2
def RX (f : XF) (δ : DS) (P : Ev → DS → Prop) : Prop := ∃ e δ', f δ = some (e, δ') ∧ P e δ'
def RB (f : BF) (δ : DS) (P : List O → DS → Prop) : Prop := ∃ e δ', f δ = some (e, δ') ∧ P e δ'
def RA (f : AF) (δ : DS) (P : List Ev → DS → Prop) : Prop := ∃ e δ', f δ = some (e, δ') ∧ P e δ'
def RT (f : TF) (δ : DS) (P : Bool → DS → Prop) : Prop := ∃ e δ', f δ = some (e, δ') ∧ P e δ'
def RI (f : IF) (δ : DS) (P : List D → DS → Prop) : Prop := ∃ e δ', f δ = some (e, δ') ∧ P e δ'
def RO (f : OF) (δ : DS) (P : Option Int → DS → Prop) : Prop := ∃ e δ', f δ = some (e, δ') ∧ P e δ'
def RS (f : SF) (δ : DS) (P : Fl → Prop) : Prop := ∃ r, f δ = some r ∧ P r
def RF (F : FF) (os : List O) (P : O → DS → Prop) : Prop := ∃ r fin, F os = some (r, fin) ∧ P r fin
/-- what an evaluated operand is -/
def RV (δ : DS) (e : Ev) (P : D → Prop) : Prop := ∃ d, rdv δ e = some d ∧ P d
def RK (δ : DS) (e : Ev) (P : O → DS → Prop) : Prop := ∃ o δ', tk δ e = some (o, δ') ∧ P o δ'
/-- by cases of a test -/
def CB (b : Bool) (A B : Prop) : Prop := (b = true → A) ∧ (b = false → B)
theorem CB_t {A B : Prop} (h : A) : CB true A B := ⟨fun _ => h, fun z => (nomatch z)⟩
theorem CB_f {A B : Prop} (h : B) : CB false A B := ⟨fun z => (nomatch z), fun _ => h⟩
theorem CB_d {p : Prop} {_ : Decidable p} {A B : Prop} (h : p → A) (k : ¬ p → B) : CB (decide p) A B := ⟨fun z => h (of_decide_eq_true z), fun z => k (of_decide_eq_false z)⟩
theorem CB_n {b : Bool} {A B : Prop} (h : CB b B A) : CB (!b) A B := by
  cases b with
  | true => exact CB_f (h.1 rfl)
  | false => exact CB_t (h.2 rfl)
theorem CB_yes {b : Bool} {A B : Prop} (e : b = true) (h : A) : CB b A B := by subst e; exact CB_t h
theorem CB_no {b : Bool} {A B : Prop} (e : b = false) (h : B) : CB b A B := by subst e; exact CB_f h
def R1 (x : Option O) (P : O → Prop) : Prop := ∃ o, x = some o ∧ P o
section
variable {δ δ' : DS} {i j n : Nat} {d : D} {o : O} {e : Ev} {fa fb fc fe : XF} {f2 f2' : D → D → Option O} {f1 : D → Option O} {P : Ev → DS → Prop} {ta tb tc : TF} {F : FF}
theorem RX_C (h : P (.val (.sh d)) δ) : RX (xC d) δ P := ⟨_, _, rfl, h⟩
theorem RX_Vs (h : δ[i]? = some (some (.sh d))) (k : P (.val (.sh d)) δ) : RX (xV i) δ P := ⟨_, _, by unfold xV; rw [h], k⟩
def nSh : O → Bool
  | .sh _ => false
  | _ => true
theorem RX_Va (h : δ[i]? = some (some o)) (hn : nSh o = true) (k : P (.at i) δ) : RX (xV i) δ P := by
  refine ⟨_, _, ?_, k⟩
  unfold xV
  rw [h]
  cases o <;> first | rfl | cases hn
theorem RX_dK (h : P (.val (.dK [])) δ) : RX (fun δ => some (.val (.dK []), δ)) δ P := ⟨_, _, rfl, h⟩
theorem RX_x2 (h : RX fa δ fun e1 δ1 => RX fb δ1 fun e2 δ2 => RV δ2 e1 fun d1 => RV δ2 e2 fun d2 => R1 (f2 d1 d2) fun o => P (.val o) δ2) : RX (x2 f2 fa fb) δ P := by
  obtain ⟨e1, δ1, h1, e2, δ2, h2, d1, h3, d2, h4, o, h5, p⟩ := h
  exact ⟨_, _, by simp [x2, h1, h2, h3, h4, h5], p⟩
theorem RX_x1 (h : RX fa δ fun e1 δ1 => RV δ1 e1 fun d1 => R1 (f1 d1) fun o => P (.val o) δ1) : RX (x1 f1 fa) δ P := by
  obtain ⟨e1, δ1, h1, d1, h3, o, h5, p⟩ := h
  exact ⟨_, _, by simp [x1, h1, h3, h5], p⟩
theorem RV_val (P : D → Prop) (h : P o.fz) : RV δ (.val o) P := ⟨_, rfl, h⟩
theorem RV_sh (P : D → Prop) (h : P d) : RV δ (.val (.sh d)) P := ⟨_, rfl, h⟩
theorem RV_at (P : D → Prop) (h : δ[i]? = some (some o)) (k : P o.fz) : RV δ (.at i) P := ⟨_, by simp [rdv, look, h], k⟩
theorem RK_val (P : O → DS → Prop) (h : P o δ) : RK δ (.val o) P := ⟨_, _, rfl, h⟩
theorem RK_at (P : O → DS → Prop) (h : δ[i]? = some (some o)) (he : δ.set i (some (.sh o.fz)) = δ') (k : P (.sh o.fz) δ') : RK δ (.at i) P := ⟨_, _, by simp [tk, h, he], k⟩
theorem R1_of {x : Option O} (P : O → Prop) (h : x = some o) (k : P o) : R1 x P := ⟨o, h, k⟩
theorem RT_tB {P : Bool → DS → Prop} (h : RX fe δ fun e δ1 => ∃ b, e = .val (.sh (.bl b)) ∧ P b δ1) : RT (tB fe) δ P := by
  obtain ⟨e, δ1, h1, b, rfl, p⟩ := h
  exact ⟨_, _, by simp [tB, h1], p⟩
theorem RT_not {P : Bool → DS → Prop} (h : RT ta δ fun b δ1 => P (!b) δ1) : RT (tNot' ta) δ P := by
  obtain ⟨b, δ1, h1, p⟩ := h
  exact ⟨_, _, by simp [tNot', h1], p⟩
theorem RT_and {P : Bool → DS → Prop} (h : RT ta δ fun b δ1 => CB b (RT tb δ1 P) (P false δ1)) : RT (tAnd' ta tb) δ P := by
  obtain ⟨b, δ1, h1, p⟩ := h
  cases b with
  | true =>
    obtain ⟨c, δ2, h2, q⟩ := p.1 rfl
    exact ⟨_, _, by simp [tAnd', h1, h2], q⟩
  | false => exact ⟨_, _, by simp [tAnd', h1], p.2 rfl⟩
theorem RT_or {P : Bool → DS → Prop} (h : RT ta δ fun b δ1 => CB b (P true δ1) (RT tb δ1 P)) : RT (tOr' ta tb) δ P := by
  obtain ⟨b, δ1, h1, p⟩ := h
  cases b with
  | false =>
    obtain ⟨c, δ2, h2, q⟩ := p.2 rfl
    exact ⟨_, _, by simp [tOr', h1, h2], q⟩
  | true => exact ⟨_, _, by simp [tOr', h1], p.1 rfl⟩
theorem RX_and (h : RT (tB fa) δ fun b δ1 => CB b (RX fb δ1 P) (P (.val (.sh (.bl false))) δ1)) : RX (xAnd fa fb) δ P := by
  obtain ⟨b, δ1, h1, p⟩ := h
  cases b with
  | true =>
    obtain ⟨c, δ2, h2, q⟩ := p.1 rfl
    exact ⟨_, _, by simp [xAnd, h1, h2], q⟩
  | false => exact ⟨_, _, by simp [xAnd, h1], p.2 rfl⟩
theorem RX_or (h : RT (tB fa) δ fun b δ1 => CB b (P (.val (.sh (.bl true))) δ1) (RX fb δ1 P)) : RX (xOr fa fb) δ P := by
  obtain ⟨b, δ1, h1, p⟩ := h
  cases b with
  | false =>
    obtain ⟨c, δ2, h2, q⟩ := p.2 rfl
    exact ⟨_, _, by simp [xOr, h1, h2], q⟩
  | true => exact ⟨_, _, by simp [xOr, h1], p.1 rfl⟩
theorem RX_not (h : RT (tB fa) δ fun b δ1 => P (.val (.sh (.bl (!b)))) δ1) : RX (xNot fa) δ P := by
  obtain ⟨b, δ1, h1, p⟩ := h
  exact ⟨_, _, by simp [xNot, h1], p⟩
theorem RX_if (h : RT ta δ fun b δ1 => CB b (RX fa δ1 P) (RX fb δ1 P)) : RX (xIf ta fa fb) δ P := by
  obtain ⟨b, δ1, h1, p⟩ := h
  cases b with
  | true =>
    obtain ⟨c, δ2, h2, q⟩ := p.1 rfl
    exact ⟨_, _, by simp [xIf, h1, h2], q⟩
  | false =>
    obtain ⟨c, δ2, h2, q⟩ := p.2 rfl
    exact ⟨_, _, by simp [xIf, h1, h2], q⟩
theorem RX_ch (h : RX fa δ fun e1 δ1 => RX fb δ1 fun e2 δ2 => RV δ2 e1 fun d1 => RV δ2 e2 fun d2 => ∃ b, f2 d1 d2 = some (.sh (.bl b)) ∧ CB b (RX fc δ2 fun e3 δ3 => RV δ3 e2 fun d2 => RV δ3 e3 fun d3 => R1 (f2' d2 d3) fun o => P (.val o) δ3) (P (.val (.sh (.bl false))) δ2)) :
    RX (xCh f2 f2' fa fb fc) δ P := by
  obtain ⟨e1, δ1, h1, e2, δ2, h2, d1, h3, d2, h4, b, h5, p⟩ := h
  cases b with
  | true =>
    obtain ⟨e3, δ3, h6, d2', h7, d3, h8, o, h9, q⟩ := p.1 rfl
    exact ⟨_, _, by simp [xCh, h1, h2, h3, h4, h5, h6, h7, h8, h9], q⟩
  | false => exact ⟨_, _, by simp [xCh, h1, h2, h3, h4, h5], p.2 rfl⟩
theorem RB_nil {P : List O → DS → Prop} (h : P [] δ) : RB bNil δ P := ⟨_, _, rfl, h⟩
theorem RB_cons {fs : BF} {P : List O → DS → Prop} (h : RX fa δ fun e δ1 => RK δ1 e fun o δ2 => RB fs δ2 fun os δ3 => P (o :: os) δ3) : RB (bCons fa fs) δ P := by
  obtain ⟨e, δ1, h1, o, δ2, h2, os, δ3, h3, p⟩ := h
  exact ⟨_, _, by simp [bCons, h1, h2, h3], p⟩
theorem RA_nil {P : List Ev → DS → Prop} (h : P [] δ) : RA aNil δ P := ⟨_, _, rfl, h⟩
theorem RA_t {fs : AF} {P : List Ev → DS → Prop} (h : RX fa δ fun e δ1 => RA fs δ1 fun es δ2 => P (e :: es) δ2) : RA (aCons true fa fs) δ P := by
  obtain ⟨e, δ1, h1, es, δ2, h2, p⟩ := h
  exact ⟨_, _, by simp [aCons, h1, h2], p⟩
theorem RA_f {fs : AF} {P : List Ev → DS → Prop} (h : RX fa δ fun e δ1 => RK δ1 e fun o δ2 => RA fs δ2 fun es δ3 => P (.val o :: es) δ3) : RA (aCons false fa fs) δ P := by
  obtain ⟨e, δ1, h1, o, δ2, h2, es, δ3, h3, p⟩ := h
  exact ⟨_, _, by simp [aCons, h1, h2, h3], p⟩
theorem RX_tup {fs : BF} (h : RB fs δ fun os δ1 => os.length ≤ sizeLine ∧ P (.val (.sh (.tup (os.map O.fz)))) δ1) : RX (xTup fs) δ P := by
  obtain ⟨os, δ1, h1, h2, p⟩ := h
  exact ⟨_, _, by simp [xTup, h1, h2], p⟩
theorem RX_lst {fs : BF} (h : RB fs δ fun os δ1 => os.length ≤ sizeLine ∧ P (.val (.lst (os.map O.fz))) δ1) : RX (xLst fs) δ P := by
  obtain ⟨os, δ1, h1, h2, p⟩ := h
  exact ⟨_, _, by simp [xLst, h1, h2], p⟩
def Rout (es : List Ev) (δ : DS) (P : List O → DS → Prop) : Prop := ∃ os δ', outs es δ = some (os, δ') ∧ P os δ'
theorem RX_call {fs : AF} (h : RA fs δ fun es δ1 => Rout es δ1 fun os δ2 => RF F os fun r fin => fin.length = es.length ∧ P (.val r) (ins es fin δ2)) : RX (xCall F fs) δ P := by
  obtain ⟨es, δ1, h1, os, δ2, h2, r, fin, h3, h4, p⟩ := h
  exact ⟨_, _, by simp [xCall, h1, h2, h3, h4], p⟩
theorem RX_bi {m : List D → Option O} {fs : AF} (h : RA fs δ fun es δ1 => ∃ ds, rdvs δ1 es = some ds ∧ R1 (m ds) fun o => P (.val o) δ1) : RX (xBi m fs) δ P := by
  obtain ⟨es, δ1, h1, ds, h2, o, h3, p⟩ := h
  exact ⟨_, _, by simp [xBi, h1, h2, h3], p⟩
theorem RX_fld {c f : Str} (h : RX fe δ fun e δ1 => ∃ o, look δ1 e = some o ∧ ∃ d, fldO c f o = some d ∧ P (.val (.sh d)) δ1) : RX (xFld c f fe) δ P := by
  obtain ⟨e, δ1, h1, o, h2, d, h3, p⟩ := h
  exact ⟨_, _, by simp [xFld, h1, h2, h3], p⟩
theorem RX_meth {c m : Str} {fs : AF} (h : RX fe δ fun e0 δ0 => ∃ o, look δ0 e0 = some o ∧ noFld c m o = true ∧ RA fs δ0 fun es δ1 => Rout (e0 :: es) δ1 fun os δ2 => RF F os fun r fin => fin.length = es.length + 1 ∧ P (.val r) (ins (e0 :: es) fin δ2)) : RX (xMeth c m F fe fs) δ P := by
  obtain ⟨e0, δ0, h1, o, h2, h3, es, δ1, h4, os, δ2, h5, r, fin, h6, h7, p⟩ := h
  exact ⟨_, _, by simp [xMeth, h1, h2, h3, h4, h5, h6, h7], p⟩
theorem RX_make {c : Str} {frz : Bool} {fs : BF} (h : RB fs δ fun os δ1 => RF F (.obj c [] :: os) fun r fin => r = .sh .non ∧ ∃ self rest, fin = some self :: rest ∧ rest.length = os.length ∧ P (.val (if frz then .sh self.fz else self)) δ1) : RX (xMake c F frz fs) δ P := by
  obtain ⟨os, δ1, h1, r, fin, h2, rfl, self, rest, rfl, h3, p⟩ := h
  exact ⟨_, _, by simp [xMake, h1, h2, h3], p⟩
theorem RX_o2 {k1 k2 : O → Bool} {po : O → Option O} {sw : Bool} (h : RX fa δ fun e1 δ1 => RK δ1 e1 fun o1 δ2 => RX fb δ2 fun e2 δ3 => RK δ3 e2 fun o2 δ4 => k1 o1 = true ∧ k2 o2 = true ∧ RF F (if sw then [o2, o1] else [o1, o2]) fun r fin => fin.length = 2 ∧ R1 (po r) fun o => P (.val o) δ4) : RX (xO2 k1 k2 F po sw fa fb) δ P := by
  obtain ⟨e1, δ1, h1, o1, δ2, h2, e2, δ3, h3, o2, δ4, h4, h5, h6, r, fin, h7, h8, o, h9, p⟩ := h
  refine ⟨_, _, ?_, p⟩
  simp only [xO2, h1, h2, h3, h4, h5, h6, Option.bind_some, Bool.and_self, if_true]
  rw [h7]
  simp [h8, h9]
theorem RO_N {P : Option Int → DS → Prop} (h : P none δ) : RO oN δ P := ⟨_, _, rfl, h⟩
theorem RO_E {P : Option Int → DS → Prop} (h : RX fe δ fun e δ1 => ∃ n, e = .val (.sh (.int n)) ∧ P (some n) δ1) : RO (oE fe) δ P := by
  obtain ⟨e, δ1, h1, n, rfl, p⟩ := h
  exact ⟨_, _, by simp [oE, h1], p⟩
theorem RX_sl {fl fh : OF} (h : RX fe δ fun e δ1 => RO fl δ1 fun lo δ2 => RO fh δ2 fun hi δ3 => RV δ3 e fun d => R1 (opSl d lo hi) fun o => P (.val o) δ3) : RX (xSl fe fl fh) δ P := by
  obtain ⟨e, δ1, h1, lo, δ2, h2, hi, δ3, h3, d, h4, o, h5, p⟩ := h
  exact ⟨_, _, by simp [xSl, h1, h2, h3, h4, h5], p⟩
theorem RX_mut {mt : O → List D → Option (O × O)} {fs : BF} {o0 : O} (hi : δ[i]? = some (some o0)) (hl : isLst o0 = true) (h : RB fs δ fun os δ1 => ∃ o, δ1[i]? = some (some o) ∧ ∃ q, mt o (os.map O.fz) = some q ∧ ∃ δ2, δ1.set i (some q.1) = δ2 ∧ P (.val q.2) δ2) : RX (xMut mt i fs) δ P := by
  obtain ⟨os, δ1, h1, o, h2, q, h3, δ2, rfl, p⟩ := h
  exact ⟨_, _, by simp [xMut, hi, hl, h1, h2, h3], p⟩
end
section
variable {δ δ' : DS} {i j n : Nat} {d : D} {o : O} {e : Ev} {fa fb fc fe fi : XF} {P : Fl → Prop} {ta tb tc : TF} {F : FF} {f fr : SF}
theorem RS_nil (h : P (.nx δ)) : RS sNil δ P := ⟨_, rfl, h⟩
def thenS (fr : SF) (P : Fl → Prop) : Fl → Prop
  | .nx δ1 => RS fr δ1 P
  | .rt o δ1 => P (.rt o δ1)
  | .bk δ1 => P (.bk δ1)
  | .ct δ1 => P (.ct δ1)
theorem thenS_nx (h : RS fr δ P) : thenS fr P (.nx δ) := h
theorem thenS_rt (h : P (.rt o δ)) : thenS fr P (.rt o δ) := h
theorem thenS_bk (h : P (.bk δ)) : thenS fr P (.bk δ) := h
theorem thenS_ct (h : P (.ct δ)) : thenS fr P (.ct δ) := h
theorem RS_seq (h : RS f δ (thenS fr P)) : RS (sSeq f fr) δ P := by
  obtain ⟨r, h1, p⟩ := h
  cases r with
  | nx δ1 =>
    obtain ⟨r2, h2, q⟩ := p
    exact ⟨_, by simp [sSeq, h1, h2], q⟩
  | rt o δ1 => exact ⟨_, by simp [sSeq, h1], p⟩
  | bk δ1 => exact ⟨_, by simp [sSeq, h1], p⟩
  | ct δ1 => exact ⟨_, by simp [sSeq, h1], p⟩
theorem RS_expr (h : RX fe δ fun _ δ1 => P (.nx δ1)) : RS (sExpr fe) δ P := by
  obtain ⟨e, δ1, h1, p⟩ := h
  exact ⟨_, by simp [sExpr, h1], p⟩
theorem RS_ret (h : RX fe δ fun e δ1 => ∃ o δ2, mvE n δ1 e = some (o, δ2) ∧ P (.rt o δ2)) : RS (sRet n fe) δ P := by
  obtain ⟨e, δ1, h1, o, δ2, h2, p⟩ := h
  exact ⟨_, by simp [sRet, h1, h2], p⟩
theorem RS_if (h : RT ta δ fun b δ1 => CB b (RS f δ1 P) (RS fr δ1 P)) : RS (sIf ta f fr) δ P := by
  obtain ⟨b, δ1, h1, p⟩ := h
  cases b with
  | true =>
    obtain ⟨r, h2, q⟩ := p.1 rfl
    exact ⟨_, by simp [sIf, h1, h2], q⟩
  | false =>
    obtain ⟨r, h2, q⟩ := p.2 rfl
    exact ⟨_, by simp [sIf, h1, h2], q⟩
theorem RS_set (h : RX fe δ fun e δ1 => RK δ1 e fun o δ2 => ∃ δ3, δ2.set i (some o) = δ3 ∧ P (.nx δ3)) : RS (sSet i fe) δ P := by
  obtain ⟨e, δ1, h1, o, δ2, h2, δ3, rfl, p⟩ := h
  exact ⟨_, by simp [sSet, h1, h2], p⟩
theorem RS_asg {gt : GF} (h : RX fe δ fun e δ1 => RK δ1 e fun o δ2 => ∃ δ3, gt o.fz δ2 = some δ3 ∧ P (.nx δ3)) : RS (sAsg gt fe) δ P := by
  obtain ⟨e, δ1, h1, o, δ2, h2, δ3, h3, p⟩ := h
  exact ⟨_, by simp [sAsg, h1, h2, h3], p⟩
theorem RS_par {fs : BF} (h : RB fs δ fun os δ1 => ∃ o1 o2, os = [o1, o2] ∧ ∃ δ3, (δ1.set j (some o2)).set i (some o1) = δ3 ∧ P (.nx δ3)) : RS (sPar i j fs) δ P := by
  obtain ⟨os, δ1, h1, o1, o2, rfl, δ3, rfl, p⟩ := h
  exact ⟨_, by simp [sPar, h1], p⟩
theorem RS_sub (h : RX fe δ fun e δ1 => RK δ1 e fun o δ2 => ((δ2[j]?).join).isSome = true ∧ RX fi δ2 fun ei δ3 => RV δ3 ei fun k => ∃ oj, (δ3[j]?).join = some oj ∧ R1 (putD oj k o.fz) fun o' => ∃ δ4, δ3.set j (some o') = δ4 ∧ P (.nx δ4)) : RS (sSub j fe fi) δ P := by
  obtain ⟨e, δ1, h1, o, δ2, h2, h3, ei, δ3, h4, k, h5, oj, h6, o', h7, δ4, rfl, p⟩ := h
  exact ⟨_, by simp [sSub, h1, h2, h3, h4, h5, h6, h7], p⟩
theorem RS_attr {c f : Str} (h : RX fe δ fun e δ1 => RK δ1 e fun o δ2 => ∃ fs, δ2[i]? = some (some (.obj c fs)) ∧ fs.length < 1000 ∧ ∃ δ3, δ2.set i (some (.obj c (putO f o fs))) = δ3 ∧ P (.nx δ3)) : RS (sAttr i c f fe) δ P := by
  obtain ⟨e, δ1, h1, o, δ2, h2, fs, h3, h4, δ3, rfl, p⟩ := h
  exact ⟨_, by simp [sAttr, h1, h2, h3, h4], p⟩
def RL (gt : GF) (body : SF) (ds : List D) (δ : DS) (P : Fl → Prop) : Prop := ∃ r, forL gt body ds δ = some r ∧ P r
theorem RS_for {it : IF} {gt : GF} {body : SF} (h : RI it δ fun ds δ1 => RL gt body ds δ1 P) : RS (sFor it gt body) δ P := by
  obtain ⟨ds, δ1, h1, r, h2, p⟩ := h
  exact ⟨_, by simp [sFor, h1, h2], p⟩
def loopS (I : DS → Prop) (P : Fl → Prop) : Fl → Prop
  | .nx δ2 => I δ2
  | .ct δ2 => I δ2
  | .bk δ2 => P (.nx δ2)
  | .rt o δ2 => P (.rt o δ2)
theorem loopS_nx {I : DS → Prop} (h : I δ) : loopS I P (.nx δ) := h
theorem loopS_ct {I : DS → Prop} (h : I δ) : loopS I P (.ct δ) := h
theorem loopS_bk {I : DS → Prop} (h : P (.nx δ)) : loopS I P (.bk δ) := h
theorem loopS_rt {I : DS → Prop} (h : P (.rt o δ)) : loopS I P (.rt o δ) := h
/-- by a word about what is done -/
theorem RL_inv {α : Type} {enc : α → D} {gt : GF} {body : SF} {l : List α} {P : Fl → Prop} (Inv : List α → DS → Prop) {δ : DS} (h0 : Inv [] δ)
    (step : ∀ done x rest δ, l = done ++ x :: rest → Inv done δ → ∃ δ1, gt (enc x) δ = some δ1 ∧ RS body δ1 (loopS (Inv (done ++ [x])) P)) (fin : ∀ δ, Inv l δ → P (.nx δ)) : RL gt body (l.map enc) δ P := by
  suffices H : ∀ (rest done : List α) (δ : DS), l = done ++ rest → Inv done δ → RL gt body (rest.map enc) δ P from H l [] δ rfl h0
  intro rest
  induction rest with
  | nil =>
    intro done δ e h
    rw [List.append_nil] at e
    subst e
    exact ⟨_, rfl, fin δ h⟩
  | cons x rest ih =>
    intro done δ e h
    obtain ⟨δ1, h1, r, h2, p⟩ := step done x rest δ e h
    have go : ∀ δ2, Inv (done ++ [x]) δ2 → RL gt body (rest.map enc) δ2 P := fun δ2 q => ih (done ++ [x]) δ2 (by rw [e]; simp) q
    cases r with
    | nx δ2 =>
      obtain ⟨r, h3, q⟩ := go δ2 p
      exact ⟨r, by simp [forL, h1, h2, h3], q⟩
    | ct δ2 =>
      obtain ⟨r, h3, q⟩ := go δ2 p
      exact ⟨r, by simp [forL, h1, h2, h3], q⟩
    | bk δ2 => exact ⟨_, by simp [forL, h1, h2], p⟩
    | rt o δ2 => exact ⟨_, by simp [forL, h1, h2], p⟩
def RC (gt : GF) (tt : TF) (fe : XF) (own : List Nat) (ds : List D) (δ : DS) (acc : List D) (P : List D → DS → Prop) : Prop := ∃ r δ', lcL gt tt fe own ds δ acc = some (r, δ') ∧ P r δ'
theorem RX_lc {it : IF} {gt : GF} {tt : TF} {own : List Nat} {P : Ev → DS → Prop} (h : RI it δ fun ds δ1 => ds.length ≤ sizeLine ∧ RC gt tt fe own ds (wipeD δ1 own) [] fun acc δ2 => P (.val (.lst acc)) (unwD δ2 own (savD δ1 own))) : RX (xLc it gt tt fe own) δ P := by
  obtain ⟨ds, δ1, h1, h2, r, δ2, h3, p⟩ := h
  exact ⟨_, _, by simp [xLc, h1, h2, h3], p⟩
theorem RC_inv {α : Type} {enc : α → D} {gt : GF} {tt : TF} {own : List Nat} {l : List α} {P : List D → DS → Prop} (Inv : List α → List D → DS → Prop) {δ : DS} {acc : List D} (h0 : Inv [] acc δ)
    (step : ∀ done x rest acc δ, l = done ++ x :: rest → Inv done acc δ → ∃ δ1, gt (enc x) δ = some δ1 ∧ RT tt δ1 fun b δ2 => CB b (RX fe δ2 fun e δ3 => RK δ3 e fun o δ4 => Inv (done ++ [x]) (acc ++ [o.fz]) (wipeD δ4 own)) (Inv (done ++ [x]) acc (wipeD δ2 own)))
    (fin : ∀ acc δ, Inv l acc δ → P acc δ) : RC gt tt fe own (l.map enc) δ acc P := by
  suffices H : ∀ (rest done : List α) (acc : List D) (δ : DS), l = done ++ rest → Inv done acc δ → RC gt tt fe own (rest.map enc) δ acc P from H l [] acc δ rfl h0
  intro rest
  induction rest with
  | nil =>
    intro done acc δ e h
    rw [List.append_nil] at e
    subst e
    exact ⟨_, _, rfl, fin acc δ h⟩
  | cons x rest ih =>
    intro done acc δ e h
    obtain ⟨δ1, h1, b, δ2, h2, p⟩ := step done x rest acc δ e h
    cases b with
    | true =>
      obtain ⟨ev, δ3, h3, o, δ4, h4, q⟩ := p.1 rfl
      obtain ⟨r, δ', h5, q2⟩ := ih (done ++ [x]) _ _ (by rw [e]; simp) q
      exact ⟨r, δ', by simp [lcL, h1, h2, h3, h4, h5], q2⟩
    | false =>
      obtain ⟨r, δ', h5, q2⟩ := ih (done ++ [x]) _ _ (by rw [e]; simp) (p.2 rfl)
      exact ⟨r, δ', by simp [lcL, h1, h2, h5], q2⟩
/-- each item by itself: the places stay -/
theorem RC_map {α : Type} {enc : α → D} {g : α → D} {gt : GF} {tt : TF} {own : List Nat} {l : List α} {P : List D → DS → Prop} {δ : DS}
    (step : ∀ x ∈ l, ∃ δ1, gt (enc x) δ = some δ1 ∧ RT tt δ1 fun b δ2 => b = true ∧ RX fe δ2 fun e δ3 => RK δ3 e fun o δ4 => o.fz = g x ∧ wipeD δ4 own = δ)
    (fin : P (l.map g) δ) : RC gt tt fe own (l.map enc) δ [] P := by
  refine RC_inv (fun done acc δ' => acc = done.map g ∧ δ' = δ) ⟨rfl, rfl⟩ (fun done x rest acc δ' e ⟨h1, h2⟩ => ?_) fun acc δ' ⟨h1, h2⟩ => by rw [h1, h2]; exact fin
  subst h1 h2
  obtain ⟨δ1, h3, b, δ2, h4, hb, ev, δ3, h5, o, δ4, h6, h7, h8⟩ := step x (by rw [e]; simp)
  subst hb
  exact ⟨δ1, h3, true, δ2, h4, fun _ => ⟨ev, δ3, h5, o, δ4, h6, by rw [h7]; simp, h8⟩, fun z => by cases z⟩
theorem opMul_int {i j : Int} (h : mulOk i j = true) : opMul (.int i) (.int j) = some (.sh (.int (i * j))) := by simp [opMul, h]
theorem opMul_l {i j : Int} (h : -18446744073709551616 < i ∧ i < 18446744073709551616) : opMul (.int i) (.int j) = some (.sh (.int (i * j))) := opMul_int (by
  unfold mulOk
  have e : (2 : Int) ^ 64 = 18446744073709551616 := by decide
  rw [e]
  simp [h.1, h.2])
theorem opMul_r {i j : Int} (h : -18446744073709551616 < j ∧ j < 18446744073709551616) : opMul (.int i) (.int j) = some (.sh (.int (i * j))) := opMul_int (by
  unfold mulOk
  have e : (2 : Int) ^ 64 = 18446744073709551616 := by decide
  rw [e]
  simp [h.1, h.2])
theorem opDiv_int {i j : Int} (h : divOk j = true) : opDiv (.int i) (.int j) = some (.sh (.int (i / j))) := by simp [opDiv, h]
theorem opMod_int {i j : Int} (h : 0 < j) : opMod (.int i) (.int j) = some (.sh (.int (i % j))) := by simp [opMod, h]
theorem opPow_int {i j : Int} (h1 : 0 ≤ j) (h2 : j ≤ 1000000) (h3 : i.natAbs < 2 ^ 64) : opPow (.int i) (.int j) = some (.sh (.int (i ^ j.toNat))) := by simp [opPow, h1, h2, h3]
theorem opPow_ok {i j : Int} (h : (0 ≤ j ∧ j ≤ 1000000) ∧ (-18446744073709551616 < i ∧ i < 18446744073709551616)) : opPow (.int i) (.int j) = some (.sh (.int (i ^ j.toNat))) := opPow_int h.1.1 h.1.2 (by
  have e : (2 : Nat) ^ 64 = 18446744073709551616 := by decide
  rw [e]
  omega)
theorem RI_seq {P : List D → DS → Prop} (h : RX fe δ fun e δ1 => RK δ1 e fun o δ2 => ∃ ds, itemsOf o.fz = some ds ∧ P ds δ2) : RI (iSeq fe) δ P := by
  obtain ⟨e, δ1, h1, o, δ2, h2, ds, h3, p⟩ := h
  exact ⟨_, _, by simp [iSeq, h1, h2, h3], p⟩
theorem RI_rg1 {fs : BF} {P : List D → DS → Prop} (h : RB fs δ fun os δ1 => ∃ j, os = [.sh (.int j)] ∧ inR j = true ∧ P (rngD 0 j.toNat) δ1) : RI (iRg1 fs) δ P := by
  obtain ⟨os, δ1, h1, j, rfl, h2, p⟩ := h
  exact ⟨_, _, by simp [iRg1, h1, h2], p⟩
def endF (np : Nat) (M : List Nat) (P : O → DS → Prop) : Fl → Prop
  | .rt o δ1 => P o (selM M δ1 0 np)
  | .nx δ1 => P (.sh .non) (selM M δ1 0 np)
  | _ => False
theorem endF_rt {np : Nat} {M : List Nat} {P : O → DS → Prop} {fin : DS} (e : selM M δ 0 np = fin) (h : P o fin) : endF np M P (.rt o δ) := by subst e; exact h
theorem endF_nx {np : Nat} {M : List Nat} {P : O → DS → Prop} {fin : DS} (e : selM M δ 0 np = fin) (h : P (.sh .non) fin) : endF np M P (.nx δ) := by subst e; exact h
theorem RF_def {np N : Nat} {M : List Nat} {fb : SF} {os : List O} {P : O → DS → Prop} {δ0 : DS} (hl : os.length = np) (e : os.map some ++ List.replicate (N - np) none = δ0) (h : RS fb δ0 (endF np M P)) : RF (defF np N M fb) os P := by
  subst e
  obtain ⟨r, h1, p⟩ := h
  cases r with
  | rt o δ1 => exact ⟨_, _, by simp only [defF, hl, if_true, h1]; rfl, p⟩
  | nx δ1 => exact ⟨_, _, by simp only [defF, hl, if_true, h1]; rfl, p⟩
  | bk δ1 => exact p.elim
  | ct δ1 => exact p.elim
theorem RF.mono {os : List O} {P P' : O → DS → Prop} (h : RF F os P') (k : ∀ r fin, P' r fin → P r fin) : RF F os P := let ⟨r, fin, e, p⟩ := h; ⟨r, fin, e, k r fin p⟩
end
end VS
namespace VS
open PySem PySem.Spec L2
def pairsOf : List D → Option (List (Key × D))
  | [] => some []
  | .tup [k, d] :: r => (keyOf k).bind fun x => (pairsOf r).map fun y => (x, d) :: y
  | _ :: _ => none
def mergeD (acc : List (Key × D)) (ps : List (Key × D)) : List (Key × D) := ps.foldl (fun a p => dput a p.1 p.2) acc
def mDict : List D → Option O
  | [.lst ds] => (pairsOf ds).map fun ps => .dK (mergeD [] ps)
  | [.dK ks] => some (.dK ks)
  | _ => none
section
variable {K : PySem.W.Frag} {Z : Addr → Prop} {H : Hp}
theorem pairs_rep : ∀ {ds : List D} {ps : List (Key × D)} {vs : List V}, pairsOf ds = some ps → RepL K Z H ds vs →
    ∃ as kvs, vs = as.map V.ref ∧ Paired (fun p (kv : Key × V) => SqT K H p [kV kv.1, kv.2]) as kvs ∧ RepK K Z H ps kvs
  | [], ps, vs, h, r => by
    simp only [pairsOf] at h
    cases h
    simp only [RepL] at r
    subst r
    exact ⟨[], [], rfl, .nil, by simp only [RepK]⟩
  | d0 :: ds, ps, vs, h, r => by
    unfold pairsOf at h
    split at h
    · rename_i e; cases e
    · rename_i k d r' e
      cases e
      simp only [Option.bind_eq_some_iff, Option.map_eq_some_iff] at h
      obtain ⟨x, hx, y, hy, rfl⟩ := h
      simp only [RepL] at r
      obtain ⟨v, r1, rfl, hv, hr⟩ := r
      obtain ⟨as, kvs, rfl, hp, hk⟩ := pairs_rep hy hr
      simp only [RepD, RepL] at hv
      obtain ⟨a, ws, rfl, ha, v1, r2, rfl, h1, v2, r3, rfl, h2, rfl⟩ := hv
      have e1 := key_rep hx h1
      subst e1
      exact ⟨a :: as, (x, v2) :: kvs, rfl, .cons (SqT.of ha) hp, by simp only [RepK]; exact ⟨v2, kvs, rfl, h2, hk⟩⟩
    · cases h
theorem RepK.merge : ∀ {ps : List (Key × D)} {kvs : List (Key × V)}, RepK K Z H ps kvs → ∀ {acc : List (Key × D)} {av : List (Key × V)}, RepK K Z H acc av → RepK K Z H (mergeD acc ps) (mergeK av kvs)
  | [], kvs, h, acc, av, ha => by
    simp only [RepK] at h
    subst h
    exact ha
  | (k, d) :: ps, kvs, h, acc, av, ha => by
    simp only [RepK] at h
    obtain ⟨v, r, rfl, h1, h2⟩ := h
    exact RepK.merge h2 (RepK.put h1 ha)
theorem RepK.zip : ∀ {ps : List (Key × D)} {kvs : List (Key × V)}, kvs.map (·.1) = ps.map (·.1) → RepL K Z H (ps.map (·.2)) (kvs.map (·.2)) → RepK K Z H ps kvs
  | [], [], _, _ => by simp only [RepK]
  | [], _ :: _, e, _ => by simp at e
  | _ :: _, [], e, _ => by simp at e
  | (k, d) :: ps, (x, w) :: kvs, e, h => by
    simp only [List.map_cons, List.cons.injEq] at e
    simp only [List.map_cons, RepL] at h
    obtain ⟨v, r, e2, h1, h2⟩ := h
    simp only [List.cons.injEq] at e2
    obtain ⟨rfl, rfl⟩ := e2
    have ex : x = k := e.1
    subst ex
    simp only [RepK]
    exact ⟨w, kvs, rfl, h1, RepK.zip e.2 h2⟩
end
section
variable {X : Cx}
theorem cv_dict (hc : X.calm = true) : CV X (.type "dict") mDict := by
  intro pins s σ H xs us Q I r ⟨Z, ds, o, l, h, q⟩
  unfold mDict at h
  split at h
  · obtain ⟨a, vs, rfl, ha, ra⟩ := one_lst l
    obtain ⟨ps, hp, rfl⟩ := Option.map_eq_some_iff.mp h
    obtain ⟨as, kvs, rfl, hpp, hk⟩ := pairs_rep hp ra
    exact call_dictP hc pins s σ H _ us Q I r ⟨a, as, kvs, rfl, SqL.of ha, hpp, fun p hp => q _ _ (Res.dK hp (RepK.merge hk (by simp only [RepK])))⟩
  · obtain ⟨v, r', rfl, l1, l2⟩ := l
    have e2 : r' = [] := l2
    subst e2
    cases h
    obtain ⟨a, vs, rfl, ha, ra⟩ := l1
    exact call_dictD pins s σ H _ us Q I r ⟨a, vs, rfl, ha, fun p hp => q _ _ (Res.dK hp ra)⟩
  · cases h
def dpL : List (XF × XF) → DS → Option (List (Key × D) × DS)
  | [], δ => some ([], δ)
  | (fk, fv) :: r, δ => (fk δ).bind fun r1 => (tk r1.2 r1.1).bind fun r2 => (keyOf r2.1.fz).bind fun k => (fv r2.2).bind fun r3 => (tk r3.2 r3.1).bind fun r4 => (dpL r r4.2).map fun r5 => ((k, r4.1.fz) :: r5.1, r5.2)
def xDisp (fs : List (XF × XF)) : XF := fun δ => (dpL fs δ).map fun r => (.val (.dK (mergeD [] r.1)), r.2)
end
end VS
namespace VS
open PySem PySem.Spec L2
def flatD : D → Bool
  | .non => true
  | .bl _ => true
  | .int _ => true
  | .str _ => true
  | _ => false
def vOf : D → V
  | .bl b => .bl b
  | .int i => .int i
  | .str x => .str x
  | _ => .non
def opNinT (x : D) : D → Option O
  | .tup ds => if flatD x && ds.all flatD then some (.sh (.bl !(ds.any fun z => z.eqD x))) else none
  | _ => none
section
variable {K : PySem.W.Frag} {Z : Addr → Prop} {H : Hp} {v : V}
theorem RepD.flat {d : D} (h : flatD d = true) (r : RepD K Z H d v) : v = vOf d := by
  cases d <;> simp only [flatD, reduceCtorEq] at h <;> simpa only [RepD, vOf] using r
theorem Lk.flat {d : D} (h : flatD d = true) (r : Lk K Z H d v) : v = vOf d := by
  cases d <;> simp only [flatD, reduceCtorEq] at h <;> simpa only [Lk, RepD, vOf] using r
theorem flat_vOf {d : D} (h : flatD d = true) : flatV (vOf d) = true := by
  cases d <;> simp only [flatD, reduceCtorEq] at h <;> rfl
theorem eqV_vOf {d e : D} (h : flatD d = true) (k : flatD e = true) : eqV (vOf d) (vOf e) = d.eqD e := by
  cases d <;> simp only [flatD, reduceCtorEq] at h <;> cases e <;> simp only [flatD, reduceCtorEq] at k <;> simp only [vOf, eqV, D.eqD]
theorem RepL.flat : ∀ {ds : List D} {vs : List V}, ds.all flatD = true → RepL K Z H ds vs → vs = ds.map vOf
  | [], vs, _, r => by
    simp only [RepL] at r
    rw [r]
    rfl
  | d :: ds, vs, h, r => by
    simp only [List.all_cons, Bool.and_eq_true] at h
    simp only [RepL] at r
    obtain ⟨v, r', rfl, h1, h2⟩ := r
    rw [RepD.flat h.1 h1, RepL.flat h.2 h2]
    rfl
theorem any_flat {x : D} (hx : flatD x = true) : ∀ {ds : List D}, ds.all flatD = true → ((ds.map vOf).any fun y => eqV y (vOf x)) = ds.any fun z => z.eqD x
  | [], _ => rfl
  | d :: ds, h => by
    simp only [List.all_cons, Bool.and_eq_true] at h
    simp only [List.map_cons, List.any_cons, eqV_vOf h.1 hx, any_flat hx h.2]
theorem all_flat : ∀ {ds : List D}, ds.all flatD = true → (ds.map vOf).all flatV = true
  | [], _ => rfl
  | d :: ds, h => by
    simp only [List.all_cons, Bool.and_eq_true] at h
    simp only [List.map_cons, List.all_cons, flat_vOf h.1, all_flat h.2, Bool.and_self]
end
section
variable {X : Cx}
theorem ov_ninT : OpV X (compareOp .NotIn) opNinT := by
  intro pins s σ H x y v u Q I rx ry ⟨Z, d1, d2, o, l1, l2, h, q⟩
  unfold opNinT at h
  split at h
  · rename_i ds
    split at h
    · rename_i hk
      simp only [Bool.and_eq_true] at hk
      cases h
      obtain ⟨a, vs, rfl, ha, rl⟩ := l2.tup
      have e1 := Lk.flat hk.1 l1
      have e2 := RepL.flat hk.2 rl
      subst e1 e2
      refine op_notIn_seq pins s σ H _ _ v u Q I rx ry ⟨a, _, rfl, .inr (SqT.of ha), flat_vOf hk.1, all_flat hk.2, ?_⟩
      show Q (.bl (!inV _ _)) H
      unfold inV
      rw [any_flat hk.1 hk.2]
      exact q _ _ Res.bl
    · cases h
  · cases h
end
end VS
namespace VS
open PySem PySem.Spec L2 PyProof.Rows
open PySem.AutoSeq1 (wpAny_loadPart')
theorem enumT_new (tp : Addr) (vs : Array Value) (n : Nat) (dc : Option Addr) (so : Array (Option Value)) : Meets (Builtin.«enumerate.__new__» ⟨[.type "enumerate", .ref tp], []⟩) (fun _ R s => s.heap.get? tp = some { cls := .type "tuple", dict := dc, data := .seq vs n, slots := so } ∧
      R (.ok (.ret (.ref (s.heap.push { cls := .type "tuple_iterator", data := .fields #[.ref tp, .int 0 0] }).objs.size)))
        { s with heap := (s.heap.push { cls := .type "tuple_iterator", data := .fields #[.ref tp, .int 0 0] }).push { cls := .type "enumerate", data := .fields #[.none, .bool false, .ref s.heap.objs.size, rawInt 0, .none, .none] } }) := .of_wp fun prog w A R s h => by
  obtain ⟨hp0, g0, d0, tk0, os0⟩ := s
  obtain ⟨ht, h⟩ := h
  have hsub := sub_enumerate
  have hT : Heap.IsTuple (Shared.heap ⟨hp0, g0, d0, tk0, os0⟩) tp vs := ⟨_, ht, rfl, n, rfl⟩
  wp_walk using wpAny_loadPart' ht
  refine wpAny_stack_any fun st0 => wpAny_pure ?_
  split
  · rename_i c0 _ _ _ _ _
    cases (c0 == Value.type "enumerate")
    · (wp_walk using wpAny_loadPart' ht, wpAny_pyIter_tuple hT); exact ⟨_, rfl, h⟩
    · (wp_walk using wpAny_loadPart' ht, wpAny_pyIter_tuple hT); exact ⟨_, rfl, h⟩
  · (wp_walk using wpAny_loadPart' ht, wpAny_pyIter_tuple hT); exact ⟨_, rfl, h⟩
section
variable {prog : Program} {w : World} {A : Around} {E : Value → Shared → Prop} {s : Shared}
theorem call_enumT {tp : Addr} {vs : Array Value} {Q : Value → Shared → Prop} (hT : IsTup s.heap tp vs)
    (h : ∀ h', IsEnum h' (s.heap.objs.size + 1) s.heap.objs.size 0 .none → IsTupIter h' s.heap.objs.size tp 0 → h'.objs.size = s.heap.objs.size + 2 → (∀ b o, s.heap.get? b = some o → h'.get? b = some o) → Q (.ref (s.heap.objs.size + 1)) { s with heap := h' }) :
    wpAny (model prog w) A (call (.type "enumerate") [.ref tp]) Q E s := by
  obtain ⟨⟨c0, dc, dt, so⟩, ht, hc, n, hd⟩ := hT
  replace hc : c0 = .type "tuple" := hc
  replace hd : dt = .seq vs n := hd
  subst hc hd
  refine callType_new F.called_enumerate (by decide) (F.typeCall_enumerate_1 _) (F.newCall_enumerate_1 _) (fun ob => F.args_object_init_2 ob _) F.entry_enumerate_new (enumT_new tp vs n dc so) ⟨ht, ?_⟩
  have hz : (s.heap.push { cls := .type "tuple_iterator", data := .fields #[.ref tp, .int 0 0] }).objs.size = s.heap.objs.size + 1 := Heap.size_push ..
  show _ ∧ _
  rw [hz]
  have he : IsEnum ((s.heap.push { cls := .type "tuple_iterator", data := .fields #[.ref tp, .int 0 0] }).push { cls := .type "enumerate", data := .fields #[.none, .bool false, .ref s.heap.objs.size, rawInt 0, .none, .none] }) (s.heap.objs.size + 1) s.heap.objs.size 0 .none := by
    have q := Heap.get?_push_size (s.heap.push { cls := .type "tuple_iterator", data := .fields #[.ref tp, .int 0 0] }) (o := { cls := .type "enumerate", data := .fields #[.none, .bool false, .ref s.heap.objs.size, rawInt 0, .none, .none] }) rfl
    rwa [hz] at q
  exact ⟨⟨_, he, rfl⟩, h _ he ⟨_, Heap.get?_push_of_some _ (Heap.get?_push_size _ rfl), rfl, rfl⟩ (by rw [Heap.size_push, hz]) fun b ob y => Heap.get?_push_of_some _ (Heap.get?_push_of_some _ y)⟩
theorem drawsT (hh : A.handled = none) {jt tp : Addr} {vs : Array Value} (hne : tp ≠ jt) : Draws prog w A jt [jt, tp] vs.size (fun i x => vs[i]? = some x) (fun i h => IsTupIter h jt tp i ∧ IsTup h tp vs) where
  live := fun i h st => let ⟨⟨o, ho, _⟩, _⟩ := st; ⟨o, ho⟩
  frame := fun i h h' st k => let ⟨⟨o, ho, r⟩, o2, ho2, r2⟩ := st; ⟨⟨o, k jt (by simp) o ho, r⟩, o2, k tp (by simp) o2 ho2, r2⟩
  item := fun i s Q E hi st hQ => by
    unfold Builtin.SmallTypes.nextOf
    have hx : vs[i]? = some vs[i] := by simp [hi]
    exact wpAny_bind (special_tup_item st.1 st.2 hx fun h' q1 sb => wpAny_pure (hQ _ h' s.toks hx ⟨q1, st.2.extBut sb.extBut hne⟩ sb))
  done := fun s Q E st hE => by
    unfold Builtin.SmallTypes.nextOf
    refine wpAny_bind (special_tup_end hh st.1 st.2 (by simp) fun e h' sx eb => ?_)
    obtain ⟨a, o, vs', rfl, ho, hc, _⟩ := sx
    exact hE h' a eb ⟨o, ho, hc⟩
end
/-- the tuple at a, each item in a new pair -/
def IteT (K : PySem.W.Frag) (a : Addr) : It :=
  ⟨fun i H => ∃ (xs : List V) (x : V), SqT K H a xs ∧ xs[i]? = some x, fun i H v H' => ∃ T x, v = .ref T ∧ H T = none ∧ H' = upd H T (.tup [.int (i : Nat), x]) ∧ ∀ xs, SqT K H a xs → xs[i]? = some x, fun i H => ∃ xs : List V, SqT K H a xs ∧ xs.length ≤ i⟩
theorem turn_enumT {P : Program} {w : World} {K : PySem.W.Frag} {elts : List Expr} {kk : Nat} {tpos : Pos} (a e jt : Addr) :
    Turn P w K (.Tuple elts kk tpos) (IteT K a) [e, jt] e (fun i h => (∃ old, IsEnum h e jt ((i : Nat) : Int) old) ∧ IsTupIter h jt a i ∧ e ≠ jt ∧ a ≠ jt) where
  mem := by simp
  obj := fun i h st b hb => by
    obtain ⟨⟨old, he⟩, ⟨o, ho, hc, hd⟩, _⟩ := st
    rcases (show b = e ∨ b = jt by simpa using hb) with rfl | rfl
    · exact ⟨_, he, fun v q => nomatch q⟩
    · exact ⟨o, ho, fun v q => by rw [hd] at q; cases q⟩
  keep := fun i h h' st k => let ⟨⟨old, he⟩, ⟨o, ho, r⟩, hn⟩ := st; ⟨⟨old, k e (by simp) _ he⟩, ⟨o, k jt (by simp) o ho, r⟩, hn⟩
  item := by
    intro X hP hw hK hc i pins s σ H E I hf st hg
    subst hP hw hK
    obtain ⟨⟨old, he⟩, hjt, hne, hna⟩ := st
    obtain ⟨xs, x, hq, hx⟩ := hg
    obtain ⟨its, rv, pl, hz⟩ := I.tuple hq
    obtain ⟨u, hu, ru⟩ := rv.get hx
    have hel : e < s.heap.objs.size := Heap.lt_size he
    have hil : jt < s.heap.objs.size := by obtain ⟨_, q, _⟩ := hjt; exact Heap.lt_size q
    have hea : e ∉ [jt, a] := by
      intro hm
      rcases (show e = jt ∨ e = a by simpa using hm) with z | z
      · exact hne z
      · obtain ⟨o, ho, hcl, _⟩ := pl
        rw [← z, he] at ho
        cases ho
        exact absurd (show Value.type "enumerate" = Value.type "tuple" from hcl) (by intro z; injection z with z; exact absurd z (by decide))
    have hlt : i < its.toArray.size := by
      have := (List.getElem?_eq_some_iff.mp hu).1
      simpa using this
    have hiu : its.toArray[i]? = some u := by simpa using hu
    refine wpAny_pyNext_enum_itemD (drawsT (A := X.A.in1) (I.ok.hd hc) hna) he ⟨hjt, pl⟩ hlt hne hea fun x' h' tk hP ho st' hT hsz hk => ?_
    have ex : x' = u := by
      have q : some x' = some u := hP.symm.trans hiu
      exact Option.some.inj q
    subst ex
    refine ⟨_, rfl, wpAny_letOwnedTupleGo_enum (s := { s with heap := h', toks := tk + 1 }) ho fun h2 he2 sb => ?_⟩
    have hT2 := (sb.2 _ (Nat.ne_of_gt hel)).trans hT
    have new : ObjOk X.prog X.w (upd H s.heap.objs.size (.tup [.int (i : Nat), x])) h2 s.heap.objs.size (.tup [.int (i : Nat), x]) := ⟨by show 2 ≤ sizeLine; decide, [.int i tk, x'], .cons ⟨_, rfl⟩ (.cons ru .nil), ⟨_, hT2, rfl, _, rfl⟩⟩
    have I1 : Inv X pins σ (upd H s.heap.objs.size (.tup [.int (i : Nat), x])) { s with heap := h2, toks := tk + 1 } := I.turnedNew (ch := [e, jt]) (fun b ob hb q => (sb.2 b (fun z => hb (by simp [z]))).trans (hk b ob (fun z => hb (by simp [z])) (fun z => hb (by simp [z])) q)) hf (Nat.le_refl _) new
    refine ⟨.ref s.heap.objs.size, _, I1, rfl, ⟨_, x, rfl, I.hok.fresh (Nat.le_refl _), rfl, fun ys hy => by rw [I.tuple_inj hy hq]; exact hx⟩, ⟨⟨x', by rw [show ((i + 1 : Nat) : Int) = (i : Int) + 1 by omega]; exact he2⟩, ?_, hne, hna⟩, fun b hb => ?_⟩
    · obtain ⟨⟨o, ho2, r⟩, _⟩ := st'
      exact ⟨o, (sb.2 jt (Ne.symm hne)).trans ho2, r⟩
    · have hb2 : b < s.heap.objs.size := by rcases (show b = e ∨ b = jt by simpa using hb) with rfl | rfl <;> assumption
      rw [upd_ne (Nat.ne_of_lt hb2)]
      exact (hf b hb).1
  done := by
    intro X hP hw hK hc i pins s σ H E I hf st hg
    subst hP hw hK
    obtain ⟨⟨old, he⟩, hjt, hne, hna⟩ := st
    obtain ⟨xs, hq, hx⟩ := hg
    obtain ⟨its, rv, pl, hz⟩ := I.tuple hq
    obtain ⟨f0, f1, f2, f3, f4, f5⟩ := hf jt (by simp)
    have hl := rv.length
    have hT : s.TypeIs (.ref e) "enumerate" := ⟨_, he, rfl⟩
    unfold pyNext
    refine wpAny_bind (wpAny_attempt (wpAny_callSpecial?_slot (name := Str.ofString "__next__") hT F.slot_enumerate_next (wpAny_call_entry F.slot_enumerate_next hT F.entry_enumerate_next ?_ (F.args_enumerate_next_1 _))))
    show wpAny _ _ ((field (.ref e) 2) >>= _) _ _ _
    refine wpAny_bind (wpAny_field he rfl (x := .ref jt) rfl ?_)
    unfold Builtin.SmallTypes.nextOf
    refine wpAny_bind (wpAny_bind (special_tup_end (A := X.A.in1) (I.ok.hd hc) hjt pl (by simp; omega) fun ev h' sx eb => ?_))
    obtain ⟨b0, ob0, vs', rfl, ho, hcl, _⟩ := sx
    refine wpAny_bind (wpAny_isInstance (T := "StopIteration") (b := true) ⟨ob0, ho, hcl⟩ isSubtype_stop (wpAny_pure ?_))
    exact ⟨rfl, I.turned (t' := s.toks) (fun b o hb q => eb b o hb q) f0 f1 f3 f4 f5⟩
  self := fun A i s Q E st h => let ⟨⟨_, he⟩, _⟩ := st; wpAny_pyIter_enum he h
/-- of a list or a tuple -/
def iEnumU (K : PySem.W.Frag) (ta : TA) : TI := fun σ H R => ta σ H fun vs H1 => ∃ a xs, vs = [.ref a] ∧ ((SqL K H1 a xs ∧ R (Ite K a) H1) ∨ (SqT K H1 a xs ∧ R (IteT K a) H1))
theorem pi_enumU {X : Cx} {e : Expr} {ta : TA} {p pos tpos : Pos} {elts : List Expr} {kk : Nat} (hg : Gl X "enumerate") (hm : X.mg "enumerate" = none) (ha : PA X [e] ta) (hs : starEach [e] X.env = [(false, eval e X.env)] := by rfl) : PI X (.Tuple elts kk tpos) (.Call (.Name "enumerate" p) [e] [] pos) (iEnumU X.K ta) := by
  refine ⟨fun pins s σ H R I h => ?_⟩
  refine Call_ (ld_blt I hg hm boot_enumerate (callWith_type1 (thn (ha.run pos pins s σ H _ I h) fun us s1 ⟨vs, H1, I1, r1, q1⟩ => ?_) hs rfl))
  obtain ⟨a, xs, rfl, q⟩ := q1
  cases r1 with
  | cons r rr =>
    cases rr
    cases r
    have fresh : ∀ b ∈ [s1.heap.objs.size + 1, s1.heap.objs.size], FpOk X pins H1 b := fun b hb => by
      have hle : s1.heap.objs.size ≤ b := by rcases (show b = s1.heap.objs.size + 1 ∨ b = s1.heap.objs.size by simpa using hb) with rfl | rfl <;> omega
      exact I1.fpOk hle (I1.hok.fresh hle)
    rcases q with ⟨hq, q⟩ | ⟨hq, q⟩
    · obtain ⟨its, rv, pl, hz⟩ := I1.list hq
      exact call_enumerate_list pl.isList fun h' he hit hsz hk => wpAny_pyIter_enum he ⟨_, _, _, _, H1, rfl, I1.kept (t' := s1.toks) hk, turn_enum a _ _, ⟨⟨.none, he⟩, hit, Nat.succ_ne_self _⟩, fresh, q⟩
    · obtain ⟨its, rv, pl, hz⟩ := I1.tuple hq
      exact call_enumT pl fun h' he hit hsz hk => wpAny_pyIter_enum he ⟨_, _, _, _, H1, rfl, I1.kept (t' := s1.toks) hk, turn_enumT a _ _, ⟨⟨.none, he⟩, hit, Nat.succ_ne_self _, Nat.ne_of_lt pl.lt⟩, fresh, q⟩
def seqOf : D → Option (List D)
  | .lst ds => some ds
  | .tup ds => some ds
  | _ => none
def iEnmU (fs : BF) : IF := fun δ => (fs δ).bind fun r => match r.1 with
  | [o] => (seqOf o.fz).map fun ds => (enumD 0 ds, r.2)
  | _ => none
section
variable {X : Cx} {e : Expr}
theorem vi_enumU {p pos tpos : Pos} {elts : List Expr} {kk : Nat} {fs : BF} (hg : Gl X "enumerate") (hm : X.mg "enumerate" = none) (ha : VB X [e] fs) (hs : starEach [e] X.env = [(false, eval e X.env)] := by rfl) :
    VI X (.Tuple elts kk tpos) (.Call (.Name "enumerate" p) [e] [] pos) (iEnmU fs) := PIi (pi_enumU hg hm ha hs) fun σ H R ⟨g, Z, δ, S, T, r, st, hf, post⟩ => by
  simp only [iEnmU, Option.bind_eq_some_iff] at hf
  obtain ⟨⟨os, δ1⟩, h1, h2⟩ := hf
  refine ⟨g, Z, δ, S, T, _, st, h1, fun vs Z1 H1 st1 hl => ?_⟩
  split at h2
  · rename_i o q
    have q' : os = [o] := q
    subst q'
    obtain ⟨v, rfl⟩ := one_of (n := 0) hl
    obtain ⟨ds, q2, h3⟩ := Option.map_eq_some_iff.mp h2
    cases h3
    obtain ⟨Z2, st2, rd⟩ := StV.frzT st1
    generalize o.fz = dd at q2 st2 rd
    cases dd <;> simp only [seqOf, reduceCtorEq, Option.some.injEq] at q2 <;> subst q2
    · simp only [RepD] at rd
      obtain ⟨a, ws, rfl, ha, ra⟩ := rd
      refine ⟨a, ws, rfl, .inr ⟨SqT.of ha, post _ [some (.sh (.tup _))] [some (.ref a)] Z2 H1 rfl st2 ⟨fun Z H δ σ S T s i d e => ?_, fun Z H δ σ S T s => ?_⟩⟩⟩
      · have q := topD s
        simp only [RepD] at q
        obtain ⟨b, ws, eb, hb, rb⟩ := q
        cases eb
        rw [enumD_get] at e
        obtain ⟨x, e1, e2⟩ := Option.map_eq_some_iff.mp e
        obtain ⟨y, e3, r1⟩ := rb.get e1
        refine ⟨⟨ws, y, SqT.of hb, e3⟩, fun z H2 ⟨P, x', q1, q2, q3, q4⟩ => ?_⟩
        have q5 := q4 ws (SqT.of hb)
        rw [e3] at q5
        cases q5
        subst q1 q3 e2
        refine Res.tup q2 ?_
        simp only [RepL, RepD]
        exact ⟨_, _, rfl, by rw [Nat.zero_add], _, _, rfl, r1, rfl⟩
      · have q := topD s
        simp only [RepD] at q
        obtain ⟨b, ws, eb, hb, rb⟩ := q
        cases eb
        exact ⟨ws, SqT.of hb, by rw [enumD_length, rb.length]; exact Nat.le_refl _⟩
    · simp only [RepD] at rd
      obtain ⟨a, ws, rfl, _, ha, ra⟩ := rd
      refine ⟨a, ws, rfl, .inl ⟨SqL.of ha, post _ [some (.sh (.lst _))] [some (.ref a)] Z2 H1 rfl st2 ⟨fun Z H δ σ S T s i d e => ?_, fun Z H δ σ S T s => ?_⟩⟩⟩
      · have q := topD s
        simp only [RepD] at q
        obtain ⟨b, ws, eb, _, hb, rb⟩ := q
        cases eb
        rw [enumD_get] at e
        obtain ⟨x, e1, e2⟩ := Option.map_eq_some_iff.mp e
        obtain ⟨y, e3, r1⟩ := rb.get e1
        refine ⟨⟨ws, y, SqL.of hb, e3⟩, fun z H2 ⟨P, x', q1, q2, q3, q4⟩ => ?_⟩
        have q5 := q4 ws (SqL.of hb)
        rw [e3] at q5
        cases q5
        subst q1 q3 e2
        refine Res.tup q2 ?_
        simp only [RepL, RepD]
        exact ⟨_, _, rfl, by rw [Nat.zero_add], _, _, rfl, r1, rfl⟩
      · have q := topD s
        simp only [RepD] at q
        obtain ⟨b, ws, eb, _, hb, rb⟩ := q
        cases eb
        exact ⟨ws, SqL.of hb, by rw [enumD_length, rb.length]; exact Nat.le_refl _⟩
  · cases h2
theorem RI_enmU {fs : BF} {δ : DS} {P : List D → DS → Prop} (h : RB fs δ fun os δ1 => ∃ o ds, os = [o] ∧ seqOf o.fz = some ds ∧ P (enumD 0 ds) δ1) : RI (iEnmU fs) δ P := by
  obtain ⟨os, δ1, h1, o, ds, rfl, h2, p⟩ := h
  exact ⟨_, _, by simp [iEnmU, h1, h2], p⟩
end
end VS
namespace VS
open PySem PySem.Spec L2
end VS
namespace VS
open PySem PySem.Spec L2
end VS
namespace VS
open PySem PySem.Spec L2 PyProof.Rows PySem.W
end VS
namespace VS
open PySem PySem.Spec L2
theorem bo_repr : bootBuiltins "repr" = some (.builtin "repr") := by decide +kernel
def mRepr : List D → Option O
  | [.int i] => if i.natAbs.log2 < 1920 then some (.sh (.str (toString i))) else none
  | [.bl b] => some (.sh (.str (if b then "True" else "False")))
  | _ => none
section
variable {X : Cx}
theorem cv_repr : CV X (.builtin "repr") mRepr := by
  intro pins s σ H xs us Q I r ⟨Z, ds, o, l, h, q⟩
  unfold mRepr at h
  split at h
  · obtain ⟨v, r', rfl, l1, l2⟩ := l
    have e2 : r' = [] := l2
    subst e2
    split at h
    · rename_i hz
      cases h
      cases l1.int
      obtain ⟨u, rfl, t, rfl⟩ := vals1 r
      exact PySem.P.repr_of_int hz ⟨.str _, H, I.tok _, ⟨_, rfl⟩, q _ _ Res.str⟩
    · cases h
  · obtain ⟨v, r', rfl, l1, l2⟩ := l
    have e2 : r' = [] := l2
    subst e2
    cases h
    cases l1.bl
    obtain ⟨u, rfl, t⟩ := vals1 r
    obtain rfl := t
    exact PySem.P.repr_of_bool ⟨.str _, H, I.tok _, ⟨_, rfl⟩, q _ _ Res.str⟩
  · cases h
end
end VS
namespace VS
open PySem PySem.Spec L2
end VS
namespace VS
open PySem PySem.Spec L2
inductive Stp where
  | fld (c f : Str) | key (k : Key)
def getA {κ β : Type} [DecidableEq κ] : List (κ × β) → κ → Option β
  | [], _ => none
  | (x, o) :: r, f => if x = f then some o else getA r f
def setA {κ β : Type} [DecidableEq κ] (g : β → β) : List (κ × β) → κ → List (κ × β)
  | [], _ => []
  | (x, o) :: r, f => if x = f then (x, g o) :: r else (x, o) :: setA g r f
def subO : O → List Stp → Option O
  | o, [] => some o
  | .obj c fs, .fld c' f :: p => if c' = c then (getA fs f).bind fun o => subO o p else none
  | .dO ks, .key k :: p => (getA ks k).bind fun o => subO o p
  | _, _ => none
def setO : O → List Stp → O → O
  | _, [], o' => o'
  | .obj c fs, .fld _ f :: p, o' => .obj c (setA (fun o => setO o p o') fs f)
  | .dO ks, .key k :: p, o' => .dO (setA (fun o => setO o p o') ks k)
  | o, _ :: _, _ => o
/-- where the place stands -/
def At (K : PySem.W.Frag) (H : Hp) : V → List Stp → V → Prop
  | v, [], w => w = v
  | v, .fld c f :: p, w => ∃ a dx vs u, v = .ref a ∧ H a = some (.ins (He.ga K c) dx vs) ∧ vs.lookup f = some u ∧ At K H u p w
  | v, .key k :: p, w => ∃ a vs u, v = .ref a ∧ H a = some (.dK vs) ∧ getA vs k = some u ∧ At K H u p w
section
variable {K : PySem.W.Frag} {Z Z' : Addr → Prop} {H H' : Hp}
theorem At.keep (h : ∀ a o, H a = some o → (∃ C dx vs, o = .ins C dx vs) ∨ (∃ vs, o = .dK vs) → H' a = some o) : ∀ {p : List Stp} {v w : V}, At K H v p w → At K H' v p w
  | [], v, w, x => x
  | .fld c f :: p, v, w, ⟨a, dx, vs, u, e, ha, hl, x⟩ => ⟨a, dx, vs, u, e, h a _ ha (.inl ⟨_, _, _, rfl⟩), hl, At.keep h x⟩
  | .key k :: p, v, w, ⟨a, vs, u, e, ha, hl, x⟩ => ⟨a, vs, u, e, h a _ ha (.inr ⟨_, rfl⟩), hl, At.keep h x⟩
theorem RepOF.sub {f : Str} {o : O} : ∀ {fs : List (Str × O)} {vs : List (Str × V)} {G : List Addr}, RepOF K Z H fs vs G → getA fs f = some o →
    ∃ u Gf Gr, vs.lookup f = some u ∧ G.Perm (Gf ++ Gr) ∧ RepO K Z H o u Gf ∧
      ∀ (Z' : Addr → Prop) (H' : Hp) (g : O → O) (Gf' : List Addr), Keep Z Z' H H' → (∀ a ∈ Gr, ∀ u, H a = some u → H' a = some u) → RepO K Z' H' (g o) u Gf' → ∃ G', RepOF K Z' H' (setA g fs f) vs G' ∧ G'.Perm (Gf' ++ Gr)
  | [], vs, G, h, e => by cases e
  | (x, o0) :: r, vs, G, h, e => by
    simp only [RepOF] at h
    obtain ⟨v, r', F1, F2, rfl, rfl, h1, h2⟩ := h
    unfold getA at e
    by_cases hx : x = f
    · rw [if_pos hx] at e
      cases e
      refine ⟨v, F1, F2, by simp [List.lookup, hx], List.Perm.refl _, h1, fun Z' H' g Gf' k q h' => ⟨Gf' ++ F2, ?_, List.Perm.refl _⟩⟩
      unfold setA
      rw [if_pos hx]
      simp only [RepOF]
      exact ⟨v, r', Gf', F2, rfl, rfl, h', RepOF.keep k r r' F2 q h2⟩
    · rw [if_neg hx] at e
      obtain ⟨u, Gf, Gr, e1, p1, q1, put⟩ := RepOF.sub h2 e
      have hb : (f == x) = false := by simpa using fun z : f = x => hx z.symm
      refine ⟨u, Gf, F1 ++ Gr, by simp [List.lookup, hb, e1], ?_, q1, fun Z' H' g Gf' k q h' => ?_⟩
      · refine (List.Perm.append_left F1 p1).trans ?_
        rw [← List.append_assoc, ← List.append_assoc]
        exact List.Perm.append_right _ List.perm_append_comm
      · obtain ⟨G', s1, s2⟩ := put Z' H' g Gf' k (fun a ha => q a (List.mem_append_right _ ha)) h'
        refine ⟨F1 ++ G', ?_, ?_⟩
        · unfold setA
          rw [if_neg hx]
          simp only [RepOF]
          exact ⟨v, r', F1, G', rfl, rfl, RepO.keep k o0 v F1 (fun a ha => q a (List.mem_append_left _ ha)) h1, s1⟩
        · refine (List.Perm.append_left F1 s2).trans ?_
          rw [← List.append_assoc, ← List.append_assoc]
          exact List.Perm.append_right _ List.perm_append_comm
theorem RepOK.sub {f : Key} {o : O} : ∀ {fs : List (Key × O)} {vs : List (Key × V)} {G : List Addr}, RepOK K Z H fs vs G → getA fs f = some o →
    ∃ u Gf Gr, getA vs f = some u ∧ G.Perm (Gf ++ Gr) ∧ RepO K Z H o u Gf ∧
      ∀ (Z' : Addr → Prop) (H' : Hp) (g : O → O) (Gf' : List Addr), Keep Z Z' H H' → (∀ a ∈ Gr, ∀ u, H a = some u → H' a = some u) → RepO K Z' H' (g o) u Gf' → ∃ G', RepOK K Z' H' (setA g fs f) vs G' ∧ G'.Perm (Gf' ++ Gr)
  | [], vs, G, h, e => by cases e
  | (x, o0) :: r, vs, G, h, e => by
    simp only [RepOK] at h
    obtain ⟨v, r', F1, F2, rfl, rfl, h1, h2⟩ := h
    unfold getA at e
    by_cases hx : x = f
    · rw [if_pos hx] at e
      cases e
      refine ⟨v, F1, F2, by unfold getA; rw [if_pos hx], List.Perm.refl _, h1, fun Z' H' g Gf' k q h' => ⟨Gf' ++ F2, ?_, List.Perm.refl _⟩⟩
      unfold setA
      rw [if_pos hx]
      simp only [RepOK]
      exact ⟨v, r', Gf', F2, rfl, rfl, h', RepOK.keep k r r' F2 q h2⟩
    · rw [if_neg hx] at e
      obtain ⟨u, Gf, Gr, e1, p1, q1, put⟩ := RepOK.sub h2 e
      refine ⟨u, Gf, F1 ++ Gr, by unfold getA; rw [if_neg hx]; exact e1, ?_, q1, fun Z' H' g Gf' k q h' => ?_⟩
      · refine (List.Perm.append_left F1 p1).trans ?_
        rw [← List.append_assoc, ← List.append_assoc]
        exact List.Perm.append_right _ List.perm_append_comm
      · obtain ⟨G', s1, s2⟩ := put Z' H' g Gf' k (fun a ha => q a (List.mem_append_right _ ha)) h'
        refine ⟨F1 ++ G', ?_, ?_⟩
        · unfold setA
          rw [if_neg hx]
          simp only [RepOK]
          exact ⟨v, r', F1, G', rfl, rfl, RepO.keep k o0 v F1 (fun a ha => q a (List.mem_append_left _ ha)) h1, s1⟩
        · refine (List.Perm.append_left F1 s2).trans ?_
          rw [← List.append_assoc, ← List.append_assoc]
          exact List.Perm.append_right _ List.perm_append_comm
/-- a place taken out, and another thing put in there -/
theorem RepO.sub {o1 : O} : ∀ {p : List Stp} {o : O} {v : V} {F : List Addr}, RepO K Z H o v F → subO o p = some o1 →
    ∃ u Fi Fr, At K H v p u ∧ F.Perm (Fi ++ Fr) ∧ RepO K Z H o1 u Fi ∧
      ∀ (Z' : Addr → Prop) (H' : Hp) (o' : O) (Fi' : List Addr), Keep Z Z' H H' → (∀ a ∈ Fr, ∀ u, H a = some u → H' a = some u) → RepO K Z' H' o' u Fi' → ∃ F', RepO K Z' H' (setO o p o') v F' ∧ F'.Perm (Fi' ++ Fr)
  | [], o, v, F, h, e => by
    have e' : o = o1 := by cases o <;> exact Option.some.inj e
    subst e'
    refine ⟨v, F, [], rfl, by simp, h, fun Z' H' o' Fi' k q h' => ⟨Fi', ?_, by simp⟩⟩
    have : setO o [] o' = o' := by cases o <;> rfl
    rw [this]
    exact h'
  | .fld c f :: p, .obj c' fs, v, F, h, e => by
    simp only [subO] at e
    split at e
    · rename_i ec
      subst ec
      obtain ⟨o2, e1, e2⟩ := Option.bind_eq_some_iff.mp e
      simp only [RepO] at h
      obtain ⟨a, dx, vs, G, rfl, rfl, ha, hG⟩ := h
      obtain ⟨u, Gf, Gr, l1, p1, r1, put1⟩ := hG.sub e1
      obtain ⟨w, Fi, Fr, a1, p2, r2, put2⟩ := RepO.sub r1 e2
      refine ⟨w, Fi, a :: (Fr ++ Gr), ⟨a, dx, vs, u, rfl, ha, l1, a1⟩, ?_, r2, fun Z' H' o' Fi' k q h' => ?_⟩
      · have : (a :: G).Perm (a :: (Fi ++ (Fr ++ Gr))) := List.Perm.cons a (p1.trans (by rw [← List.append_assoc]; exact List.Perm.append_right _ p2))
        exact this.trans List.perm_middle.symm
      · obtain ⟨F2, s1, s2⟩ := put2 Z' H' o' Fi' k (fun b hb => q b (by simp [hb])) h'
        obtain ⟨G', t1, t2⟩ := put1 Z' H' (fun o => setO o p o') F2 k (fun b hb => q b (by simp [hb])) s1
        refine ⟨a :: G', ?_, ?_⟩
        · simp only [setO, RepO]
          exact ⟨a, dx, vs, G', rfl, rfl, q a (by simp) _ ha, t1⟩
        · have : (a :: G').Perm (a :: (Fi' ++ (Fr ++ Gr))) := List.Perm.cons a (t2.trans (by rw [← List.append_assoc]; exact List.Perm.append_right _ s2))
          exact this.trans List.perm_middle.symm
    · cases e
  | .key k :: p, .dO ks, v, F, h, e => by
    simp only [subO] at e
    obtain ⟨o2, e1, e2⟩ := Option.bind_eq_some_iff.mp e
    simp only [RepO] at h
    obtain ⟨a, vs, G, rfl, rfl, ha, hG⟩ := h
    obtain ⟨u, Gf, Gr, l1, p1, r1, put1⟩ := hG.sub e1
    obtain ⟨w, Fi, Fr, a1, p2, r2, put2⟩ := RepO.sub r1 e2
    refine ⟨w, Fi, a :: (Fr ++ Gr), ⟨a, vs, u, rfl, ha, l1, a1⟩, ?_, r2, fun Z' H' o' Fi' kp q h' => ?_⟩
    · have : (a :: G).Perm (a :: (Fi ++ (Fr ++ Gr))) := List.Perm.cons a (p1.trans (by rw [← List.append_assoc]; exact List.Perm.append_right _ p2))
      exact this.trans List.perm_middle.symm
    · obtain ⟨F2, s1, s2⟩ := put2 Z' H' o' Fi' kp (fun b hb => q b (by simp [hb])) h'
      obtain ⟨G', t1, t2⟩ := put1 Z' H' (fun o => setO o p o') F2 kp (fun b hb => q b (by simp [hb])) s1
      refine ⟨a :: G', ?_, ?_⟩
      · simp only [setO, RepO]
        exact ⟨a, vs, G', rfl, rfl, q a (by simp) _ ha, t1⟩
      · have : (a :: G').Perm (a :: (Fi' ++ (Fr ++ Gr))) := List.Perm.cons a (t2.trans (by rw [← List.append_assoc]; exact List.Perm.append_right _ s2))
        exact this.trans List.perm_middle.symm
  | .fld c f :: p, .sh _, v, F, h, e => by simp [subO] at e
  | .fld c f :: p, .lst _, v, F, h, e => by simp [subO] at e
  | .fld c f :: p, .dK _, v, F, h, e => by simp [subO] at e
  | .fld c f :: p, .dT _, v, F, h, e => by simp [subO] at e
  | .fld c f :: p, .dN _, v, F, h, e => by simp [subO] at e
  | .fld c f :: p, .dO _, v, F, h, e => by simp [subO] at e
  | .key k :: p, .sh _, v, F, h, e => by simp [subO] at e
  | .key k :: p, .lst _, v, F, h, e => by simp [subO] at e
  | .key k :: p, .dK _, v, F, h, e => by simp [subO] at e
  | .key k :: p, .dT _, v, F, h, e => by simp [subO] at e
  | .key k :: p, .dN _, v, F, h, e => by simp [subO] at e
  | .key k :: p, .obj _ _, v, F, h, e => by simp [subO] at e
end
def atP (i : Nat) (p : List Stp) (δ : DS) : Option O := ((δ[i]?).join).bind fun o => subO o p
def setP (i : Nat) (p : List Stp) (o' : O) (δ : DS) : DS := match (δ[i]?).join with
  | some o => δ.set i (some (setO o p o'))
  | none => δ
section
variable {K : PySem.W.Frag} {g : Gx} {Z Z' : Addr → Prop} {H H' : Hp} {δ S : DS} {σ T : L2.St} {o : O} {v : V}
theorem join_some {δ : DS} {i : Nat} {o : O} (h : (δ[i]?).join = some o) : δ[i]? = some (some o) := by
  cases q : δ[i]? with
  | none => rw [q] at h; cases h
  | some x =>
    rw [q] at h
    have : x = some o := h
    rw [this]
end
end VS
namespace VS
open PySem PySem.Spec L2
abbrev LF := DS → Option D
abbrev QF := DS → Option O
/-- what is shared at its root whoever holds it -/
def rootD : D → Bool
  | .non => true
  | .bl _ => true
  | .int _ => true
  | .str _ => true
  | .tup _ => true
  | .scr _ => true
  | _ => false
theorem Res.lk {K : PySem.W.Frag} {Z : Addr → Prop} {H H' : Hp} {o : O} {v : V} (r : Res K Z H o v H') : Lk K Z H' o.fz v := let ⟨_, _, h, _⟩ := r; h.lk
/-- after more growth -/
theorem Res.after {K : PySem.W.Frag} {Z : Addr → Prop} {H H1 H' : Hp} {o : O} {v : V} (s : Same H H1) (r : Res K Z H1 o v H') : Res K Z H o v H' := by
  obtain ⟨F, s1, h, nd, fr⟩ := r
  refine ⟨F, s.trans s1, h, nd, fun a ha => ?_⟩
  cases q : H a with
  | none => rfl
  | some u =>
    have := fr a ha
    rw [s a u q] at this
    cases this
def xQ (f : QF) : XF := fun δ => (f δ).map fun o => (.val o, δ)
def lQ (f : QF) : LF := fun δ => (f δ).map O.fz
def lAt (i : Nat) (p : List Stp) : LF := fun δ => (atP i p δ).map O.fz
def lC (d : D) : LF := fun _ => some d
def lNil : DS → Option (List D) := fun _ => some []
def lCons (fa : LF) (fr : DS → Option (List D)) : DS → Option (List D) := fun δ => (fa δ).bind fun d => (fr δ).map fun ds => d :: ds
def qAt (i : Nat) (p : List Stp) : QF := fun δ => match atP i p δ with
  | some (.sh d) => some (.sh d)
  | _ => none
def q2 (f2 : D → D → Option O) (fa fb : LF) : QF := fun δ => (fa δ).bind fun d1 => (fb δ).bind fun d2 => f2 d1 d2
def q1 (f1 : D → Option O) (fa : LF) : QF := fun δ => (fa δ).bind fun d1 => f1 d1
def qBi (m : List D → Option O) (fs : DS → Option (List D)) : QF := fun δ => (fs δ).bind m
def qTup (fs : DS → Option (List D)) : QF := fun δ => (fs δ).bind fun ds => if ds.all rootD && decide (ds.length ≤ sizeLine) then some (.sh (.tup ds)) else none
def qLst (fs : DS → Option (List D)) : QF := fun δ => (fs δ).bind fun ds => if ds.all rootD && decide (ds.length ≤ sizeLine) then some (.lst ds) else none
section
variable {X : Cx} {e a b : Expr} {es : List Expr} {pos : Pos} {i : Nat} {p : List Stp} {fq : QF} {fa fb fl : LF} {fs : DS → Option (List D)}
variable {x : Str} {p' : Pos} {m : List D → Option O} {id T : String}
def lON : DS → Option (Option Int) := fun _ => some none
def lOE (fe : LF) : DS → Option (Option Int) := fun δ => match fe δ with
  | some (.int n) => some (some n)
  | _ => none
def qSl (fe : LF) (fl fh : DS → Option (Option Int)) : QF := fun δ => (fe δ).bind fun d => (fl δ).bind fun lo => (fh δ).bind fun hi => opSl d lo hi
end
end VS
namespace VS
open PySem PySem.Spec L2
/-- o.m(..), o at a place: it is lent -/
def xMethP (c m : Str) (F : FF) (i : Nat) (p : List Stp) (fs : DS → Option (List D)) : XF := fun δ => (atP i p δ).bind fun o => if noFld c m o then (fs δ).bind fun ds => if ds.all rootD then (F (o :: ds.map O.sh)).bind fun r => match r.2 with
  | some o' :: _ => some (.val r.1, setP i p o' δ)
  | _ => none
  else none else none
mutual
/-- data that leans on nothing of one's own -/
def dryD : D → Bool
  | .non => true
  | .bl _ => true
  | .int _ => true
  | .str _ => true
  | .tup ds => dryL ds
  | _ => false
def dryL : List D → Bool
  | [] => true
  | d :: ds => dryD d && dryL ds
end
def dryO : O → Bool
  | .sh d => dryD d
  | .lst ds => dryL ds
  | _ => false
def qMethR (c m : Str) (F : FF) (i : Nat) (p : List Stp) (fs : DS → Option (List D)) : QF := fun δ => (atP i p δ).bind fun o => if noFld c m o then (fs δ).bind fun ds => if ds.all rootD then (F (.sh o.fz :: ds.map O.sh)).bind fun r => if dryO r.1 then some r.1 else none
  else none else none
def xMutP (mt : O → List D → Option (O × O)) (i : Nat) (p : List Stp) (fs : DS → Option (List D)) : XF := fun δ => (atP i p δ).bind fun o0 => if isLst o0 then (fs δ).bind fun ds => (mt o0 ds).map fun q => (.val q.2, setP i p q.1 δ) else none
end VS
namespace VS
open PySem PySem.Spec L2 PyProof.Rows
def sSubP (put : O → D → D → Option O) (i : Nat) (p : List Stp) (fe : XF) (fk : LF) : SF := fun δ => (fe δ).bind fun r => (tk r.2 r.1).bind fun r => (atP i p r.2).bind fun o => (fk r.2).bind fun k => (put o k r.1.fz).map fun o' => .nx (setP i p o' r.2)
def getOr (d k x : D) : Option O := (opDG d k).bind fun r => match r with
  | some v => some (.sh v)
  | none => if rootD x then some (.sh x) else none
def qGet2 (fd fk fx : LF) : QF := fun δ => (fd δ).bind fun d => (fk δ).bind fun k => (fx δ).bind fun x => getOr d k x
theorem KV.vals : ∀ {kvs : List (Key × V)} {vs : List (Key × Value)}, KV kvs vs → Vals (kvs.map (·.2)) (vs.map (·.2))
  | _, _, .nil => .nil
  | _, _, .cons r t => .cons r.2 (KV.vals t)
section
variable {X : Cx} {e : Expr} {te : TE} {p apos cpos pos : Pos}
theorem RepK.vals {K : PySem.W.Frag} {Z : Addr → Prop} {H : Hp} : ∀ {ds : List (Key × D)} {vs : List (Key × V)}, RepK K Z H ds vs → RepL K Z H (ds.map (·.2)) (vs.map (·.2))
  | [], vs, h => by
    simp only [RepK] at h
    subst h
    simp only [List.map_nil, RepL]
  | (k, d) :: ds, vs, h => by
    simp only [RepK] at h
    obtain ⟨v, r, rfl, h1, h2⟩ := h
    simp only [List.map_cons, RepL]
    exact ⟨v, _, rfl, h1, RepK.vals h2⟩
def valsD : D → Option O
  | .dK ks => some (.lst (ks.map (·.2)))
  | _ => none
end
end VS
namespace VS
open PySem PySem.Spec L2 He
open PySem.W (Frag)
open PyProof.Rows (envOfC)
def sPar3 (i j l : Nat) (fs : BF) : SF := fun δ => (fs δ).bind fun r => match r.1 with
  | [o1, o2, o3] => some (.nx (((r.2.set l (some o3)).set j (some o2)).set i (some o1)))
  | _ => none
section
variable {X : Cx} {M : List Nat} {pos : Pos}
theorem vs_par3 {i j l : Nat} {x y z : Str} {a b c : Expr} {fs : BF} {px py pz pt : Pos} {kt k2 pt2} (hM : (M.all fun k => ![i, j, l].contains k) = true) (hc : X.calm = true) (hN : X.N.Nodup) (hi : X.N[i]? = some x) (hj : X.N[j]? = some y) (hl : X.N[l]? = some z) (hij : i ≠ j) (hil : i ≠ l) (hjl : j ≠ l)
    (hx : X.env.scope.names.lookup x = some .local) (hy : X.env.scope.names.lookup y = some .local) (hz : X.env.scope.names.lookup z = some .local) (ha : VB X [a, b, c] fs)
    (hw : swappedStores [.Tuple [.Name x px, .Name y py, .Name z pz] kt pt] (.Tuple [a, b, c] k2 pt2) X.env = pure (some [x, y, z]))
    (hs : swapsWithSole [.Tuple [.Name x px, .Name y py, .Name z pz] kt pt] (.Tuple [a, b, c] k2 pt2) pos.line X.env = pure false := by rfl) :
    VX X M (.Assign [.Tuple [.Name x px, .Name y py, .Name z pz] kt pt] (.Tuple [a, b, c] k2 pt2) pos) (sPar3 i j l fs) := PSi (ps_par3 hc hN hi hj hl hij hil hjl hx hy hz ha hw hs) fun D σ H ⟨g, Z, δ, S, T, r, st, hf, post⟩ => by
  simp only [sPar3, Option.bind_eq_some_iff] at hf
  obtain ⟨⟨os, δ1⟩, h1, h2⟩ := hf
  refine ⟨g, Z, δ, S, T, _, st, h1, fun vs Z1 H1 st1 hvl => ?_⟩
  split at h2
  · rename_i o1 o2 o3 q
    have q' : os = [o1, o2, o3] := q
    subst q'
    cases h2
    obtain ⟨u, v, w, rfl⟩ := three_of hvl
    have st2 : StV X.K g Z1 H1 δ1 σ (some o3 :: some o2 :: some o1 :: S) (some w :: some v :: some u :: T) := st1
    have st3 := ((st2.asgY (i := l)).asgY (i := j)).asgY (i := i)
    refine ⟨u, v, w, rfl, post _ Z1 H1 ?_ ?_⟩
    · have e : ((σ.set l (some w)).set j (some v)).set i (some u) = ((σ.set i (some u)).set j (some v)).set l (some w) := by
        rw [List.set_comm _ _ (Ne.symm hjl), List.set_comm _ _ (Ne.symm hil), List.set_comm _ _ (Ne.symm hij)]
      rw [← e]
      exact st3
    · have o3 := ((Out.set σ i (some u)).trans (Out.set (σ.set i (some u)) j (some v))).trans (Out.set ((σ.set i (some u)).set j (some v)) l (some w))
      exact o3.agree hM
  · cases h2
end
theorem FnP.mono {P : Program} {w : World} {K : Frag} {mg : Str → Option Value} {base : Heap} {j k : Nat} {f : Addr} {n : Nat} {F : FF} (G : FnP P w K mg base j f n F) (h : j ≤ k) : FnP P w K mg base k f n F := let ⟨fd, ps, G, B, kp⟩ := G; ⟨fd, ps, G.mono h, B, kp⟩
def permL {α : Type} (pm : List Nat) (l : List α) : List α := pm.filterMap fun i => l[i]?
def xCallK (F : FF) (pm : List Nat) (fs fk : AF) : XF := fun δ => (fs δ).bind fun r1 => (fk r1.2).bind fun r2 => (outs (permL pm (r1.1 ++ r2.1)) r2.2).bind fun r3 => (F r3.1).bind fun r4 => if r4.2.length = (permL pm (r1.1 ++ r2.1)).length then some (.val r4.1, ins (permL pm (r1.1 ++ r2.1)) r4.2 r3.2) else none
end VS
namespace VS
end VS
namespace VS
open PySem PySem.Spec L2
def RLk (f : LF) (δ : DS) (P : D → Prop) : Prop := ∃ d, f δ = some d ∧ P d
def RLs (f : DS → Option (List D)) (δ : DS) (P : List D → Prop) : Prop := ∃ d, f δ = some d ∧ P d
def RQ (f : QF) (δ : DS) (P : O → Prop) : Prop := ∃ o, f δ = some o ∧ P o
def RLo (f : DS → Option (Option Int)) (δ : DS) (P : Option Int → Prop) : Prop := ∃ n, f δ = some n ∧ P n
section
variable {δ δ' : DS} {i j l : Nat} {p : List Stp} {d : D} {o : O} {fq : QF} {fa fb fl : LF} {fs : DS → Option (List D)} {P : Ev → DS → Prop} {PL : D → Prop} {PQ : O → Prop} {PS : List D → Prop}
theorem RX_q (h : RQ fq δ fun o => P (.val o) δ) : RX (xQ fq) δ P := by
  obtain ⟨o, h1, h2⟩ := h
  exact ⟨_, _, by simp [xQ, h1], h2⟩
theorem RLk_q (h : RQ fq δ fun o => PL o.fz) : RLk (lQ fq) δ PL := by
  obtain ⟨o, h1, h2⟩ := h
  exact ⟨_, by simp [lQ, h1], h2⟩
theorem RLk_at (e : atP i p δ = some o) (h : PL o.fz) : RLk (lAt i p) δ PL := ⟨_, by simp [lAt, e], h⟩
theorem RLk_c (h : PL d) : RLk (lC d) δ PL := ⟨_, rfl, h⟩
theorem RLs_nil (h : PS []) : RLs lNil δ PS := ⟨_, rfl, h⟩
theorem RLs_cons (h : RLk fa δ fun d => RLs fs δ fun ds => PS (d :: ds)) : RLs (lCons fa fs) δ PS := by
  obtain ⟨d, h1, ds, h2, h3⟩ := h
  exact ⟨_, by simp [lCons, h1, h2], h3⟩
theorem RQ_at (e : atP i p δ = some (.sh d)) (h : PQ (.sh d)) : RQ (qAt i p) δ PQ := ⟨_, by simp [qAt, e], h⟩
theorem RQ_2 {f2 : D → D → Option O} (h : RLk fa δ fun d1 => RLk fb δ fun d2 => R1 (f2 d1 d2) PQ) : RQ (q2 f2 fa fb) δ PQ := by
  obtain ⟨d1, h1, d2, h2, o, h3, h4⟩ := h
  exact ⟨_, by simp [q2, h1, h2, h3], h4⟩
theorem RQ_1 {f1 : D → Option O} (h : RLk fa δ fun d1 => R1 (f1 d1) PQ) : RQ (q1 f1 fa) δ PQ := by
  obtain ⟨d1, h1, o, h3, h4⟩ := h
  exact ⟨_, by simp [q1, h1, h3], h4⟩
theorem RQ_bi {m : List D → Option O} (h : RLs fs δ fun ds => R1 (m ds) PQ) : RQ (qBi m fs) δ PQ := by
  obtain ⟨d1, h1, o, h3, h4⟩ := h
  exact ⟨_, by simp [qBi, h1, h3], h4⟩
theorem RQ_tup (h : RLs fs δ fun ds => (ds.all rootD && decide (ds.length ≤ sizeLine)) = true ∧ PQ (.sh (.tup ds))) : RQ (qTup fs) δ PQ := by
  obtain ⟨d1, h1, h3, h4⟩ := h
  exact ⟨_, by unfold qTup; rw [h1, Option.bind_some, if_pos h3], h4⟩
theorem RQ_lst (h : RLs fs δ fun ds => (ds.all rootD && decide (ds.length ≤ sizeLine)) = true ∧ PQ (.lst ds)) : RQ (qLst fs) δ PQ := by
  obtain ⟨d1, h1, h3, h4⟩ := h
  exact ⟨_, by unfold qLst; rw [h1, Option.bind_some, if_pos h3], h4⟩
theorem RQ_f (h : PQ o) : RQ (fun _ => some o) δ PQ := ⟨_, rfl, h⟩
theorem RQ_get2 {fd fk fx : LF} (h : RLk fd δ fun d => RLk fk δ fun k => RLk fx δ fun x => R1 (getOr d k x) PQ) : RQ (qGet2 fd fk fx) δ PQ := by
  obtain ⟨d, h1, k, h2, x, h3, o, h4, h5⟩ := h
  exact ⟨_, by simp [qGet2, h1, h2, h3, h4], h5⟩
theorem RLo_N {PN : Option Int → Prop} (h : PN none) : RLo lON δ PN := ⟨_, rfl, h⟩
theorem RLo_E {PN : Option Int → Prop} (h : RLk fl δ fun d => ∃ n, d = .int n ∧ PN (some n)) : RLo (lOE fl) δ PN := by
  obtain ⟨d, h1, n, rfl, h3⟩ := h
  exact ⟨_, by simp [lOE, h1], h3⟩
theorem RQ_sl {gl gh : DS → Option (Option Int)} (h : RLk fl δ fun d => RLo gl δ fun lo => RLo gh δ fun hi => R1 (opSl d lo hi) PQ) : RQ (qSl fl gl gh) δ PQ := by
  obtain ⟨d, h1, lo, h2, hi, h3, o, h4, h5⟩ := h
  exact ⟨_, by simp [qSl, h1, h2, h3, h4], h5⟩
theorem RQ_methR {c m : Str} {F : FF} (h : ∃ o, atP i p δ = some o ∧ noFld c m o = true ∧ RLs fs δ fun ds => ds.all rootD = true ∧ RF F (.sh o.fz :: ds.map O.sh) fun r _ => dryO r = true ∧ PQ r) : RQ (qMethR c m F i p fs) δ PQ := by
  obtain ⟨o, h1, h2, ds, h3, h4, r, fin, h5, h6, h7⟩ := h
  refine ⟨r, ?_, h7⟩
  unfold qMethR
  rw [h1, Option.bind_some, if_pos h2, h3, Option.bind_some, if_pos h4, h5, Option.bind_some, if_pos h6]
theorem RX_methP {c m : Str} {F : FF} (h : ∃ o, atP i p δ = some o ∧ noFld c m o = true ∧ RLs fs δ fun ds => ds.all rootD = true ∧ RF F (o :: ds.map O.sh) fun r fin => ∃ o' rest, fin = some o' :: rest ∧ ∃ δ1, setP i p o' δ = δ1 ∧ P (.val r) δ1) : RX (xMethP c m F i p fs) δ P := by
  obtain ⟨o, h1, h2, ds, h3, h4, r, fin, h5, o', rest, rfl, δ1, rfl, h7⟩ := h
  refine ⟨_, _, ?_, h7⟩
  unfold xMethP
  rw [h1, Option.bind_some, if_pos h2, h3, Option.bind_some, if_pos h4, h5, Option.bind_some]
theorem RX_mutP {mt : O → List D → Option (O × O)} (h : ∃ o, atP i p δ = some o ∧ isLst o = true ∧ RLs fs δ fun ds => ∃ q, mt o ds = some q ∧ ∃ δ1, setP i p q.1 δ = δ1 ∧ P (.val q.2) δ1) : RX (xMutP mt i p fs) δ P := by
  obtain ⟨o, h1, h2, ds, h3, q, h4, δ1, rfl, h5⟩ := h
  refine ⟨_, _, ?_, h5⟩
  unfold xMutP
  rw [h1, Option.bind_some, if_pos h2, h3, Option.bind_some, h4]
  rfl
theorem RS_subP {put : O → D → D → Option O} {fe : XF} {PS : Fl → Prop} (h : RX fe δ fun e δ1 => RK δ1 e fun o δ2 => ∃ oj, atP i p δ2 = some oj ∧ RLk fl δ2 fun k => R1 (put oj k o.fz) fun o' => ∃ δ3, setP i p o' δ2 = δ3 ∧ PS (.nx δ3)) : RS (sSubP put i p fe fl) δ PS := by
  obtain ⟨e, δ1, h1, o, δ2, h2, oj, h3, k, h4, o', h5, δ3, rfl, h6⟩ := h
  refine ⟨_, ?_, h6⟩
  unfold sSubP
  rw [h1, Option.bind_some, h2, Option.bind_some, h3, Option.bind_some, h4, Option.bind_some, h5]
  rfl
theorem RS_par3 {fs : BF} {PS : Fl → Prop} (h : RB fs δ fun os δ1 => ∃ o1 o2 o3, os = [o1, o2, o3] ∧ ∃ δ3, ((δ1.set l (some o3)).set j (some o2)).set i (some o1) = δ3 ∧ PS (.nx δ3)) : RS (sPar3 i j l fs) δ PS := by
  obtain ⟨os, δ1, h1, o1, o2, o3, rfl, δ3, rfl, p⟩ := h
  exact ⟨_, by simp [sPar3, h1], p⟩
theorem RX_callK {F : FF} {pm : List Nat} {fs fk : AF} (h : RA fs δ fun es δ1 => RA fk δ1 fun es2 δ2 => ∃ ez, permL pm (es ++ es2) = ez ∧ Rout ez δ2 fun os δ3 => RF F os fun r fin => fin.length = ez.length ∧ P (.val r) (ins ez fin δ3)) : RX (xCallK F pm fs fk) δ P := by
  obtain ⟨es, δ1, h1, es2, δ2, h2, ez, rfl, os, δ3, h3, r, fin, h4, h5, h6⟩ := h
  refine ⟨_, _, ?_, h6⟩
  unfold xCallK
  rw [h1, Option.bind_some, h2, Option.bind_some, h3, Option.bind_some, h4, Option.bind_some, if_pos h5]
end
end VS
namespace VS
open PySem PySem.Spec L2 PyProof.Rows
def signs (z : Str) : List D := z.cps.toList.map fun c => .str ⟨#[c]⟩
def iEnmS (fs : BF) : IF := fun δ => (fs δ).bind fun r => match r.1 with
  | [.sh (.str z)] => some (enumD 0 (signs z), r.2)
  | _ => none
theorem RI_enmS {fs : BF} {δ : DS} {P : List D → DS → Prop} (h : RB fs δ fun os δ1 => ∃ z, os = [.sh (.str z)] ∧ P (enumD 0 (signs z)) δ1) : RI (iEnmS fs) δ P := by
  obtain ⟨os, δ1, h1, z, rfl, p⟩ := h
  exact ⟨_, _, by simp [iEnmS, h1], p⟩
end VS
namespace VS
open PySem PySem.Spec L2 PyProof.Rows
end VS
namespace VS
open PySem PySem.Spec L2 PyProof.Rows
open PySem.W (AlikeAll max_list_default min_list_default maxD_ints minD_ints)
end VS
namespace VS
open PySem PySem.Spec L2 He
end VS
namespace VS
open PySem PySem.Spec L2
mutual
def nkOf : D → Option NestedKey
  | .int i => some (.num i)
  | .tup xs => (nksOf xs).map .tup
  | _ => none
def nksOf : List D → Option (List NestedKey)
  | [] => some []
  | d :: ds => (nkOf d).bind fun k => (nksOf ds).map fun ks => k :: ks
end
/-- a key: a tuple that is not too deep -/
def nkT : D → Option NestedKey
  | .tup xs => (nksOf xs).bind fun ks => if (NestedKey.tup ks).depth ≤ 8 then some (.tup ks) else none
  | _ => none
mutual
theorem hash0_eq (w : World) : ∀ k : NestedKey, pureK k = true → hash0 k = k.hash w
  | .none, h => by simp [pureK] at h
  | .num i, _ => by rw [hash0, NestedKey.hash]
  | .text _, h => by simp [pureK] at h
  | .tup ks, h => by
    simp only [pureK] at h
    rw [hash0, NestedKey.hash, List.attach_map_val (f := hash0), hashes0_eq w ks h]
theorem hashes0_eq (w : World) : ∀ ks : List NestedKey, pureKs ks = true → ks.map hash0 = NestedKey.hashes w ks
  | [], _ => by rw [NestedKey.hashes]; rfl
  | k :: ks, h => by
    simp only [pureKs, Bool.and_eq_true] at h
    rw [List.map_cons, NestedKey.hashes, hash0_eq w k h.1, hashes0_eq w ks h.2]
end
mutual
theorem nkOf_pure : ∀ (d : D) (k : NestedKey), nkOf d = some k → pureK k = true
  | .int i, k, h => by
    simp only [nkOf, Option.some.injEq] at h
    subst h
    simp only [pureK]
  | .tup xs, k, h => by
    simp only [nkOf, Option.map_eq_some_iff] at h
    obtain ⟨ks, h1, rfl⟩ := h
    simp only [pureK]
    exact nksOf_pure xs ks h1
  | .non, k, h => by simp [nkOf] at h
  | .bl _, k, h => by simp [nkOf] at h
  | .str _, k, h => by simp [nkOf] at h
  | .lst _, k, h => by simp [nkOf] at h
  | .dK _, k, h => by simp [nkOf] at h
  | .dT _, k, h => by simp [nkOf] at h
  | .dN _, k, h => by simp [nkOf] at h
  | .obj _ _, k, h => by simp [nkOf] at h
  | .dO _, k, h => by simp [nkOf] at h
  | .scr _, k, h => by simp [nkOf] at h
theorem nksOf_pure : ∀ (ds : List D) (ks : List NestedKey), nksOf ds = some ks → pureKs ks = true
  | [], ks, h => by
    simp only [nksOf, Option.some.injEq] at h
    subst h
    simp only [pureKs]
  | d :: ds, ks, h => by
    simp only [nksOf, Option.bind_eq_some_iff, Option.map_eq_some_iff] at h
    obtain ⟨k, h1, r, h2, rfl⟩ := h
    simp only [pureKs, Bool.and_eq_true]
    exact ⟨nkOf_pure d k h1, nksOf_pure ds r h2⟩
end
section
variable {K : PySem.W.Frag} {Z Z' : Addr → Prop} {H H' : Hp}
mutual
theorem rep_nk : ∀ (d : D) (k : NestedKey) (v : V), nkOf d = some k → RepD K Z H d v → RepNK H k v
  | .int i, k, v, h, r => by
    simp only [nkOf, Option.some.injEq] at h
    subst h
    simp only [RepD] at r
    simp only [RepNK]
    exact r
  | .tup xs, k, v, h, r => by
    simp only [nkOf, Option.map_eq_some_iff] at h
    obtain ⟨ks, h1, rfl⟩ := h
    simp only [RepD] at r
    obtain ⟨a, vs, e, ha, rl⟩ := r
    simp only [RepNK]
    exact ⟨a, vs, e, ha, rep_nks xs ks vs h1 rl⟩
  | .non, k, v, h, r => by simp [nkOf] at h
  | .bl _, k, v, h, r => by simp [nkOf] at h
  | .str _, k, v, h, r => by simp [nkOf] at h
  | .lst _, k, v, h, r => by simp [nkOf] at h
  | .dK _, k, v, h, r => by simp [nkOf] at h
  | .dT _, k, v, h, r => by simp [nkOf] at h
  | .dN _, k, v, h, r => by simp [nkOf] at h
  | .obj _ _, k, v, h, r => by simp [nkOf] at h
  | .dO _, k, v, h, r => by simp [nkOf] at h
  | .scr _, k, v, h, r => by simp [nkOf] at h
theorem rep_nks : ∀ (ds : List D) (ks : List NestedKey) (vs : List V), nksOf ds = some ks → RepL K Z H ds vs → RepNKs H ks vs
  | [], ks, vs, h, r => by
    simp only [nksOf, Option.some.injEq] at h
    subst h
    simp only [RepL] at r
    simp only [RepNKs]
    exact r
  | d :: ds, ks, vs, h, r => by
    simp only [nksOf, Option.bind_eq_some_iff, Option.map_eq_some_iff] at h
    obtain ⟨k, h1, r', h2, rfl⟩ := h
    simp only [RepL] at r
    obtain ⟨v, t, e, r1, r2⟩ := r
    simp only [RepNKs]
    exact ⟨v, t, e, rep_nk d k v h1 r1, rep_nks ds r' t h2 r2⟩
end
theorem nkT_rep {d : D} {k : NestedKey} {y : V} (h : nkT d = some k) (l : Lk K Z H d y) : ∃ b, y = .ref b ∧ RepNK H k (.ref b) ∧ pureK k = true ∧ k.depth ≤ 8 := by
  cases d <;> simp only [nkT, reduceCtorEq] at h
  rename_i xs
  obtain ⟨ks, h1, h2⟩ := Option.bind_eq_some_iff.mp h
  split at h2
  · rename_i hd
    cases h2
    obtain ⟨a, vs, rfl, ha, rl⟩ := l.tup
    refine ⟨a, rfl, ?_, ?_, hd⟩
    · simp only [RepNK]
      exact ⟨a, vs, rfl, ha, rep_nks xs ks vs h1 rl⟩
    · simp only [pureK]
      exact nksOf_pure xs ks h1
  · cases h2
section
variable {P : Program} {w : World} {h : Heap}
mutual
theorem RepNK.is (ok : HOk P w H h) : ∀ (k : NestedKey) (v : V) (u : Value), RepNK H k v → RelV v u → NestedIs h k u
  | .none, v, u, r, rv => by simp only [RepNK] at r
  | .text _, v, u, r, rv => by simp only [RepNK] at r
  | .num i, v, u, r, rv => by
    simp only [RepNK] at r
    subst r
    obtain ⟨t, e⟩ := (show ∃ t, u = Value.int i t from rv)
    subst e
    exact .int i t
  | .tup ks, v, u, r, rv => by
    simp only [RepNK] at r
    obtain ⟨a, vs, e, ha, rs⟩ := r
    subst e
    cases (show u = Value.ref a from rv)
    obtain ⟨_, its, rl, o, h1, h2, n, h3⟩ := (show ObjOk P w H h a (.tup vs) from ok a _ ha)
    exact .tup h1 h2 h3 (by simpa using RepNKs.is ok ks vs its rs rl)
theorem RepNKs.is (ok : HOk P w H h) : ∀ (ks : List NestedKey) (vs : List V) (us : List Value), RepNKs H ks vs → Vals vs us → NestedAll h ks us
  | [], vs, us, r, rv => by
    simp only [RepNKs] at r
    subst r
    cases rv
    exact .nil
  | k :: ks, vs, us, r, rv => by
    simp only [RepNKs] at r
    obtain ⟨v, t, e, r1, r2⟩ := r
    subst e
    cases rv with
    | cons h1 h2 => exact .cons (RepNK.is ok k v _ r1 h1) (RepNKs.is ok ks t _ r2 h2)
end
end
def valN (xs : List (NestedKey × Addr × V)) (k : NestedKey) : Option V := (xs.find? fun x => decide (x.1 = k)).map (·.2.2)
def putNv (xs : List (NestedKey × Addr × V)) (k : NestedKey) (b : Addr) (v : V) : List (NestedKey × Addr × V) :=
  if (xs.any fun x => decide (x.1 = k)) = true then xs.map (fun x => if x.1 = k then (x.1, x.2.1, v) else x) else xs ++ [(k, b, v)]
abbrev NRel (p : NestedKey × Addr × V) (q : NestedKey × Addr × Value) : Prop := p.1 = q.1 ∧ p.2.1 = q.2.1 ∧ RelV p.2.2 q.2.2
abbrev NP : List (NestedKey × Addr × V) → List (NestedKey × Addr × Value) → Prop := Paired NRel
theorem valN_any (k : NestedKey) : ∀ xs : List (NestedKey × Addr × V), (xs.any fun x => decide (x.1 = k)) = (valN xs k).isSome
  | [] => rfl
  | p :: r => by
    have ih := valN_any k r
    rw [List.any_cons, ih]
    by_cases e : p.1 = k <;> simp [valN, e]
theorem NP.val {xs : List (NestedKey × Addr × V)} {ys : List (NestedKey × Addr × Value)} (r : NP xs ys) (k : NestedKey) : RelO (valN xs k) ((atKey ys k).map (·.2)) := by
  induction r with
  | nil => exact True.intro
  | @cons p q ps qs h t ih =>
    obtain ⟨h1, _, h2⟩ := h
    by_cases e : p.1 = k
    · have e' : q.1 = k := h1.symm.trans e
      have b : atKey (q :: qs) k = some q.2 := by simp [atKey, List.find?_cons, e']
      have c : valN (p :: ps) k = some p.2.2 := by simp [valN, List.find?_cons, e]
      rw [c, b]; exact h2
    · have e' : ¬ q.1 = k := fun z => e (h1.trans z)
      have b : atKey (q :: qs) k = atKey qs k := by simp [atKey, List.find?_cons, e']
      have c : valN (p :: ps) k = valN ps k := by simp [valN, List.find?_cons, e]
      rw [c, b]; exact ih
theorem NP.repl {xs : List (NestedKey × Addr × V)} {ys : List (NestedKey × Addr × Value)} (r : NP xs ys) (k : NestedKey) {y : V} {u : Value} (ry : RelV y u) :
    NP (xs.map fun x => if x.1 = k then (x.1, x.2.1, y) else x) (ys.map (putAt k u)) := by
  induction r with
  | nil => exact .nil
  | @cons p q ps qs h t ih =>
    rw [List.map_cons, List.map_cons]
    refine .cons ?_ ih
    obtain ⟨h1, h2, h3⟩ := h
    unfold putAt
    by_cases e : p.1 = k
    · rw [if_pos e, if_pos (h1.symm.trans e)]; exact ⟨h1, h2, ry⟩
    · rw [if_neg e, if_neg (fun z => e (h1.trans z))]; exact ⟨h1, h2, h3⟩
theorem NP.put {xs : List (NestedKey × Addr × V)} {ys : List (NestedKey × Addr × Value)} (r : NP xs ys) (k : NestedKey) {b : Addr} {y : V} {u : Value} (ry : RelV y u) :
    NP (putNv xs k b y) (storedH ys k b u) := by
  have e : (xs.any fun x => decide (x.1 = k)) = (atKey ys k).isSome := by
    rw [valN_any, (r.val k).isSome_eq, Option.isSome_map]
  unfold putNv storedH
  rw [e]
  by_cases q : (atKey ys k).isSome = true
  · rw [if_pos q, if_pos q]; exact r.repl k ry
  · rw [if_neg q, if_neg q]; exact Paired.snoc r ⟨rfl, rfl, ry⟩
theorem length_putNv (xs : List (NestedKey × Addr × V)) (k : NestedKey) (b : Addr) (v : V) : (putNv xs k b v).length ≤ xs.length + 1 := by
  unfold putNv
  split
  · rw [List.length_map]; omega
  · rw [List.length_append, List.length_cons, List.length_nil]; omega
theorem all_putNv {C : NestedKey → Prop} {xs : List (NestedKey × Addr × V)} {k : NestedKey} {b : Addr} {v : V} (h : ∀ x ∈ xs, C x.1) (hk : C k) : ∀ x ∈ putNv xs k b v, C x.1 := by
  intro x hx
  unfold putNv at hx
  split at hx
  · obtain ⟨y, hy, e⟩ := List.mem_map.mp hx
    have := h y hy
    by_cases q : y.1 = k
    · rw [if_pos q] at e; rw [← e]; exact this
    · rw [if_neg q] at e; rw [← e]; exact this
  · rcases List.mem_append.mp hx with hx | hx
    · exact h x hx
    · have : x = (k, b, v) := by simpa using hx
      rw [this]; exact hk
theorem RepN.get {k : NestedKey} : ∀ {ds : List (NestedKey × D)} {vs : List (NestedKey × Addr × V)}, RepN K Z H ds vs → (∀ d, dget ds k = some d → ∃ v, valN vs k = some v ∧ RepD K Z H d v) ∧ (dget ds k = none → valN vs k = none)
  | [], vs, h => by
    simp only [RepN] at h
    subst h
    exact ⟨fun d e => (nomatch (show (none : Option D) = some d from e)), fun _ => rfl⟩
  | (x, d0) :: ds, vs, h => by
    simp only [RepN] at h
    obtain ⟨b, v, r, rfl, h0, h1, h2⟩ := h
    have ih := RepN.get (k := k) h2
    by_cases e : x = k
    · have q1 : dget ((x, d0) :: ds) k = some d0 := by simp [dget, List.find?_cons, e]
      have q2 : valN ((x, b, v) :: r) k = some v := by simp [valN, List.find?_cons, e]
      rw [q1, q2]
      exact ⟨fun d e => by cases e; exact ⟨v, rfl, h1⟩, fun z => by cases z⟩
    · have q1 : dget ((x, d0) :: ds) k = dget ds k := by simp [dget, List.find?_cons, e]
      have q2 : valN ((x, b, v) :: r) k = valN r k := by simp [valN, List.find?_cons, e]
      rw [q1, q2]
      exact ih
theorem RepN.any {k : NestedKey} : ∀ {ds : List (NestedKey × D)} {vs : List (NestedKey × Addr × V)}, RepN K Z H ds vs → (ds.any fun kv => decide (kv.1 = k)) = (vs.any fun kv => decide (kv.1 = k))
  | [], vs, h => by
    simp only [RepN] at h
    subst h
    rfl
  | (x, d0) :: ds, vs, h => by
    simp only [RepN] at h
    obtain ⟨b, v, r, rfl, h0, h1, h2⟩ := h
    simp only [List.any_cons, RepN.any (k := k) h2]
theorem RepN.mapPut {k : NestedKey} {d : D} {w : V} (rd : RepD K Z H d w) : ∀ {ds : List (NestedKey × D)} {vs : List (NestedKey × Addr × V)}, RepN K Z H ds vs → RepN K Z H (ds.map fun kv => if kv.1 = k then (kv.1, d) else kv) (vs.map fun x => if x.1 = k then (x.1, x.2.1, w) else x)
  | [], vs, h => by
    simp only [RepN] at h
    subst h
    simp only [List.map_nil, RepN]
  | (x, d0) :: ds, vs, h => by
    simp only [RepN] at h
    obtain ⟨b, v, r, rfl, h0, h1, h2⟩ := h
    have ih := RepN.mapPut (k := k) rd h2
    by_cases e : x = k
    · simp only [List.map_cons, e, if_true, RepN]
      exact ⟨b, w, _, rfl, by rw [← e]; exact h0, rd, ih⟩
    · simp only [List.map_cons, e, if_false, RepN]
      exact ⟨b, v, _, rfl, h0, h1, ih⟩
theorem RepN.snoc {k : NestedKey} {b : Addr} {d : D} {w : V} (rk : RepNK H k (.ref b)) (rd : RepD K Z H d w) : ∀ {ds : List (NestedKey × D)} {vs : List (NestedKey × Addr × V)}, RepN K Z H ds vs → RepN K Z H (ds ++ [(k, d)]) (vs ++ [(k, b, w)])
  | [], vs, h => by
    simp only [RepN] at h
    subst h
    simp only [List.nil_append, RepN]
    exact ⟨b, w, [], rfl, rk, rd, rfl⟩
  | (x, d0) :: ds, vs, h => by
    simp only [RepN] at h
    obtain ⟨b0, v, r, rfl, h0, h1, h2⟩ := h
    simp only [List.cons_append, RepN]
    exact ⟨b0, v, _, rfl, h0, h1, RepN.snoc rk rd h2⟩
theorem RepN.put {k : NestedKey} {b : Addr} {d : D} {w : V} (rk : RepNK H k (.ref b)) (rd : RepD K Z H d w) {ds : List (NestedKey × D)} {vs : List (NestedKey × Addr × V)} (h : RepN K Z H ds vs) : RepN K Z H (dput ds k d) (putNv vs k b w) := by
  unfold dput putNv
  rw [RepN.any h]
  split
  · exact h.mapPut rd
  · exact h.snoc rk rd
theorem RepN.length : ∀ {ds : List (NestedKey × D)} {vs : List (NestedKey × Addr × V)}, RepN K Z H ds vs → ds.length = vs.length
  | [], vs, h => by
    simp only [RepN] at h
    rw [h]
    rfl
  | (x, d) :: ds, vs, h => by
    simp only [RepN] at h
    obtain ⟨b, v, r, e, _, _, h2⟩ := h
    rw [e, List.length_cons, List.length_cons, RepN.length h2]
theorem RepN.keys : ∀ {ds : List (NestedKey × D)} {vs : List (NestedKey × Addr × V)}, RepN K Z H ds vs → ∀ x ∈ vs, RepNK H x.1 (.ref x.2.1)
  | [], vs, h => by
    simp only [RepN] at h
    subst h
    exact fun x hx => absurd hx (by simp)
  | (x, d) :: ds, vs, h => by
    simp only [RepN] at h
    obtain ⟨b, v, r, e, h0, _, h2⟩ := h
    subst e
    intro y hy
    rcases List.mem_cons.mp hy with rfl | hy
    · exact h0
    · exact RepN.keys h2 y hy
/-- the dict that stands there -/
theorem nd_dict {P : Program} {w : World} {h : Heap} {a : Addr} {xs : List (NestedKey × Addr × V)} (ok : HOk P w H h) (e : H a = some (nd a xs)) (rk : ∀ x ∈ xs, RepNK H x.1 (.ref x.2.1)) :
    (a == sysModules) = false ∧ xs.length ≤ sizeLine ∧ (∀ x ∈ xs, pureK x.1 = true ∧ x.1.depth ≤ 8) ∧ ∃ ys, NP xs ys ∧ h.DictOfH (nestedKind P w) a ys := by
  obtain ⟨hd, hz, hp, ys, pr, o, es, ep, h1, h2, h3, h4, h5⟩ := (show ObjOk P w H h a (nd a xs) from ok a _ e).1
  have all : ∀ {l : List (NestedKey × Addr × V)} {m : List (NestedKey × Addr × Value)}, NP l m → (∀ x ∈ l, RepNK H x.1 (.ref x.2.1) ∧ pureK x.1 = true ∧ x.1.depth ≤ 8) → ∀ y ∈ m, (nestedKind P w).is h y.1 y.2.1 ∧ pureK y.1 = true := by
    intro l m q
    induction q with
    | nil => intro _ x hx; exact nomatch hx
    | @cons p q ps qs hq t ih =>
      intro hl x hx
      rcases List.mem_cons.mp hx with e | hx
      · subst e
        obtain ⟨c1, c2, c3⟩ := hl p (by simp)
        obtain ⟨g1, g2, _⟩ := hq
        rw [← g1, ← g2]
        exact ⟨⟨RepNK.is ok _ _ _ c1 rfl, c3⟩, c2⟩
      · exact ih (fun y hy => hl y (List.mem_cons_of_mem _ hy)) x hx
  have hA := all pr fun x hx => ⟨rk x hx, hp x hx⟩
  refine ⟨hd, hz, hp, ys, pr, o, es, ep, h1, h2, h3, ?_, fun x hx => (hA x hx).1, h5⟩
  rw [h4]
  refine List.map_congr_left fun y hy => ?_
  show (⟨hash0 y.1, .ref y.2.1, y.2.2⟩ : DictEntry) = ⟨y.1.hash w, .ref y.2.1, y.2.2⟩
  rw [hash0_eq w y.1 (hA y hy).2]
/-- .. and one is made of it -/
theorem nd_make {P : Program} {w : World} {h : Heap} {a : Addr} {xs : List (NestedKey × Addr × V)} {ys : List (NestedKey × Addr × Value)} (hd : (a == sysModules) = false) (hz : xs.length ≤ sizeLine) (hp : ∀ x ∈ xs, pureK x.1 = true ∧ x.1.depth ≤ 8)
    (pr : NP xs ys) (dd : h.DictOfH (nestedKind P w) a ys) : ObjOk P w H h a (nd a xs) := by
  obtain ⟨o, es, ep, h1, h2, h3, h4, _, h5⟩ := dd
  have all : ∀ {l : List (NestedKey × Addr × V)} {m : List (NestedKey × Addr × Value)}, NP l m → (∀ x ∈ l, pureK x.1 = true) → ∀ y ∈ m, pureK y.1 = true := by
    intro l m q
    induction q with
    | nil => intro _ x hx; exact nomatch hx
    | @cons p q ps qs hq t ih =>
      intro hl x hx
      rcases List.mem_cons.mp hx with e | hx
      · subst e
        rw [← hq.1]
        exact hl p (by simp)
      · exact ih (fun y hy => hl y (List.mem_cons_of_mem _ hy)) x hx
  have hA := all pr fun x hx => (hp x hx).1
  refine ⟨⟨hd, hz, hp, ys, pr, o, es, ep, h1, h2, h3, ?_, h5⟩, ⟨o, h1⟩, ?_⟩
  · rw [h4]
    refine List.map_congr_left fun y hy => ?_
    show (⟨y.1.hash w, .ref y.2.1, y.2.2⟩ : DictEntry) = ⟨hash0 y.1, .ref y.2.1, y.2.2⟩
    rw [hash0_eq w y.1 (hA y hy)]
  · rintro g1 g2 ⟨q1, q2, q3, zs, q4, o', es', ep', q5, q6⟩ k
    exact ⟨q1, q2, q3, zs, q4, o', es', ep', k _ q5, q6⟩
end
def opIxN : D → D → Option O
  | .dN ks, k => (nkT k).bind fun k => (dget ks k).map .sh
  | _, _ => none
section
variable {X : Cx}
theorem nroom (hu : X.A.units + 64 < cLine) : (nestedKind X.prog X.w).room X.A.in1 := by
  show X.A.units + 1 + 8 < cLine
  omega
theorem iv_ixN (hu : X.A.units + 64 < cLine) : IxR X (O1 X.K opIxN) := by
  intro value slice pins s σ H x y v u Q I rx ry ⟨Z, d1, d2, o, l1, l2, h, q⟩ hs
  cases d1 <;> simp only [opIxN, reduceCtorEq] at h
  rename_i ks
  obtain ⟨k, h1, h2⟩ := Option.bind_eq_some_iff.mp h
  obtain ⟨d, h3, h4⟩ := Option.map_eq_some_iff.mp h2
  subst h4
  obtain ⟨a, xs, rfl, ha, ra⟩ := (show ∃ a vs, x = .ref a ∧ H a = some (nd a vs) ∧ RepN X.K Z H ks vs from l1)
  obtain ⟨b, rfl, kb, hp, hdp⟩ := nkT_rep h1 l2
  cases rx
  cases (show u = Value.ref b from ry)
  obtain ⟨hd, hz, hpp, ys, pr, dd⟩ := nd_dict I.hok ha ra.keys
  obtain ⟨w, e1, r1⟩ := (RepN.get ra).1 d h3
  obtain ⟨w', hw, rw'⟩ := RelO.some_of (v := w) (o := (atKey ys k).map (·.2)) (by rw [← e1]; exact NP.val pr k)
  obtain ⟨p, hp1, hp2⟩ := Option.map_eq_some_iff.mp hw
  refine PyProof.Rows.tail_any dd.typeIs PySem.F.slot_dict_getitem.lookup (wpAny_getItem_heap (nroom hu) ⟨RepNK.is I.hok _ _ _ kb rfl, hdp⟩ dd hp1 ?_) hs
  rw [hp2]
  exact ⟨w, H, I.tok _, rw', q _ _ (Res.sc r1)⟩
section
variable {a b : Expr} {fa fb : XF} {pos : Pos}
theorem ve_ixN (hu : X.A.units + 64 < cLine) (ha : VE X a fa) (hb : VE X b fb) (hs : PlainIx b) : VE X (.Subscript a b pos) (x2 opIxN fa fb) := PEi (pe_ix (iv_ixN hu) ha hb hs) fun σ H Q h => op_core h
end
end
def tDNewN : TE := fun _ H Q => ∀ p, H p = none → Q (.ref p) (L2.upd H p (nd p []))
section
variable {X : Cx} {pos : Pos}
theorem dn_empty {P : Program} {w : World} {H : Hp} (h : Heap) (hb : sysModules < h.objs.size) : ObjOk P w H (h.push { cls := .type "dict", data := .dict #[] }) h.objs.size (nd h.objs.size []) :=
  nd_make (beq_eq_false_iff_ne.mpr (Ne.symm (Nat.ne_of_lt hb))) (Nat.zero_le _) (fun x hx => absurd hx (by simp)) .nil (Heap.DictOfH.new h)
theorem pe_dnewN : PE X (.Dict [] [] pos) tDNewN := ⟨fun pins s σ H Q I h =>
  wpAny_Dict_empty ⟨.ref s.heap.objs.size, _, I.laid (a := s.heap.objs.size) (o := nd s.heap.objs.size []) (t' := s.toks) (fun _ _ q => Heap.get?_push_of_some _ q) (Nat.le_refl _) (dn_empty s.heap I.big), rfl, h _ (I.hok.fresh (Nat.le_refl _))⟩⟩
theorem Res.dN {K : PySem.W.Frag} {Z : Addr → Prop} {H : Hp} {p : Addr} {ds : List (NestedKey × D)} {vs : List (NestedKey × Addr × V)} (h : H p = none) (r : RepN K Z H ds vs) : Res K Z H (.dN ds) (.ref p) (L2.upd H p (nd p vs)) := by
  have s := Same.upd (o := nd p vs) h
  refine ⟨[p], s, ?_, by simp, fun a ha => ?_⟩
  · simp only [RepO]
    exact ⟨p, vs, rfl, rfl, upd_same, RepN.keep (Same.keep s) ds vs r⟩
  · have e : a = p := by simpa using ha
    rw [e]; exact h
theorem ve_dN : VE X (.Dict [] [] pos) (fun δ => some (.val (.dN []), δ)) := PEi pe_dnewN fun σ H Q ⟨g, Z, δ, S, T, r, st, hf, post⟩ => by
  cases hf
  exact fun p hp => post _ Z _ (st.push (Res.dN hp (by simp only [RepN]))) trivial
end
def putN : O → D → D → Option O
  | .dN ks, k, d => if ks.length < sizeLine then (nkT k).map fun k => .dN (dput ks k d) else none
  | _, _, _ => none
def rSetN (K : PySem.W.Frag) : TSet := fun o i v H Q => ∃ a b xs k, o = .ref a ∧ i = .ref b ∧ H a = some (nd a xs) ∧ (∀ x ∈ xs, RepNK H x.1 (.ref x.2.1)) ∧ RepNK H k (.ref b) ∧ pureK k = true ∧ k.depth ≤ 8 ∧ xs.length < sizeLine ∧ Q (L2.upd H a (nd a (putNv xs k b v)))
theorem set_dN {X : Cx} (hu : X.A.units + 64 < cLine) : PSet X (rSetN X.K) := by
  intro pins s σ H o i v ov iv u Q I ro ri rv h
  obtain ⟨a, b, xs, k, rfl, rfl, ha, rk, kb, hp, hdp, hl, q⟩ := h
  cases (show ov = Value.ref a from ro)
  cases (show iv = Value.ref b from ri)
  obtain ⟨hd, hz, hpp, ys, pr, dd⟩ := nd_dict I.hok ha rk
  refine wpAny_setItem_heap (hsz := by rw [← Paired.length pr]; exact hz) (nroom hu) ⟨RepNK.is I.hok _ _ _ kb rfl, hdp⟩ dd fun h' dd' hs => ⟨_, ?_, q⟩
  have he : ∃ q, h'.get? a = some q := let ⟨q, _, _, hq, _⟩ := dd'; ⟨q, hq⟩
  exact d_write I (by rw [ha]; exact True.intro) hs he (nd_make hd (by have := length_putNv xs k b v; omega) (fun x hx => all_putNv (C := fun k => pureK k = true ∧ k.depth ≤ 8) hpp ⟨hp, hdp⟩ x hx) (pr.put k rv) dd')
section
variable {K : PySem.W.Frag} {g : Gx} {Z : Addr → Prop} {H : Hp} {δ S : DS} {σ T : L2.St} {o : O} {v : V}
theorem StV.putN {i : Nat} {k d : D} {o' : O} {kv w : V} (s : StV K g Z H δ σ S T) (h : δ[i]? = some (some o)) (hv : σ[i]? = some (some v)) (lk : Lk K Z H k kv) (rd : RepD K Z H d w) (hp : VS.putN o k d = some o') :
    ∃ a b xs kk, v = .ref a ∧ kv = .ref b ∧ H a = some (nd a xs) ∧ (∀ x ∈ xs, RepNK H x.1 (.ref x.2.1)) ∧ RepNK H kk (.ref b) ∧ pureK kk = true ∧ kk.depth ≤ 8 ∧ xs.length < sizeLine ∧ StV K g Z (L2.upd H a (nd a (putNv xs kk b w))) (δ.set i (some o')) σ S T := by
  obtain ⟨v', F, e1, ro⟩ := s.slot h
  rw [hv] at e1
  cases e1
  cases o <;> simp only [VS.putN, reduceCtorEq] at hp
  rename_i ks
  split at hp
  · rename_i hz
    obtain ⟨kk, h1, h2⟩ := Option.map_eq_some_iff.mp hp
    subst h2
    have ro2 := ro
    simp only [RepO] at ro2
    obtain ⟨a, vs, rfl, _, ha, ra⟩ := ro2
    obtain ⟨b, rfl, kb, hpu, hdp⟩ := nkT_rep h1 lk
    refine ⟨a, b, vs, kk, rfl, rfl, ha, ra.keys, kb, hpu, hdp, by rw [← ra.length]; exact hz, ?_⟩
    exact (s.mut (o' := .dN (dput ks kk d)) (H' := L2.upd H a (nd a (putNv vs kk b w))) h hv fun F q nd' nz => by
      simp only [RepO] at q
      obtain ⟨b', ws', eb, ef, _, _⟩ := q
      cases eb
      subst ef
      obtain ⟨m1, m2, m3⟩ := mut_at (u' := nd a (putNv vs kk b w)) ha (fun _ => by simp [nd])
      refine ⟨m1, m2, m3, fun kp => ?_⟩
      simp only [RepO]
      exact ⟨a, _, rfl, rfl, upd_same, RepN.put (RepNK.keep kp _ _ kb) (RepD.keep kp _ _ rd) (RepN.keep kp _ _ ra)⟩).1
  · cases hp
end
def sSubN (j : Nat) (fe fi : XF) : SF := fun δ => (fe δ).bind fun r => (tk r.2 r.1).bind fun r => if ((r.2[j]?).join).isSome then (fi r.2).bind fun r2 => (rdv r2.2 r2.1).bind fun k => ((r2.2[j]?).join).bind fun o =>
  (putN o k r.1.fz).map fun o' => .nx (r2.2.set j (some o')) else none
section
variable {X : Cx} {M : List Nat} {e i o : Expr} {fe fi : XF} {pos pos' : Pos}
theorem vs_subN {j : Nat} (hu : X.A.units + 64 < cLine) (ho : PE X o (tVar j)) (hi : VE X i fi) (he : VE X e fe)
    (ha : ∀ v, assign (.Subscript o i pos') X.env v = (do
      let ov ← holding [v] (eval o X.env)
      let iv ← holding [v, ov] (eval i X.env)
      standAt pos'
      holding [v, ov, iv] (setItem ov iv v)
      release [v, ov, iv] []) := by intro _; rfl)
    (hs : swapsWithSole [.Subscript o i pos'] e pos.line X.env = pure false := by rfl) (hw : swappedStores [.Subscript o i pos'] e X.env = pure none := by rfl)
    (h1 : (assignEach [.Subscript o i pos'] X.env).map (·.2) = [assign (.Subscript o i pos') X.env] := by rfl) :
    VX X M (.Assign [.Subscript o i pos'] e pos) (sSubN j fe fi) := PSi (ps_asg he (pg_sub ho hi (set_dN hu) ha) hs hw h1) fun D σ H ⟨g, Z, δ, S, T, r, st, hf, post⟩ => by
  simp only [sSubN, Option.bind_eq_some_iff] at hf
  obtain ⟨⟨ev, δ1⟩, h1, ⟨ov, δ2⟩, h2, h3⟩ := hf
  split at h3
  · rename_i hj
    simp only [Option.bind_eq_some_iff, Option.map_eq_some_iff] at h3
    obtain ⟨⟨ei, δ3⟩, h4, k, h5, o1, h6, o', h7, rfl⟩ := h3
    refine ⟨g, Z, δ, S, T, _, st, h1, fun w Z1 H1 st1 al1 => ?_⟩
    obtain ⟨Z2, st2, rd⟩ := st1.tkD al1 h2
    have hj' : ∃ o0, δ2[j]? = some (some o0) := by
      have hj2 : ((δ2[j]?).join).isSome = true := hj
      cases q : δ2[j]? with
      | none => rw [q] at hj2; cases hj2
      | some x => cases x with
        | none => rw [q] at hj2; cases hj2
        | some o0 => exact ⟨o0, rfl⟩
    obtain ⟨o0, hj0⟩ := hj'
    obtain ⟨v, F, e1, _⟩ := st2.slot hj0
    refine ⟨v, e1, g, Z2, δ2, _, _, _, st2, h4, fun kv Z3 H3 st3 al3 => ?_⟩
    have h6' : δ3[j]? = some (some o1) := by
      have h62 : (δ3[j]?).join = some o1 := h6
      cases q : δ3[j]? with
      | none => rw [q] at h62; cases h62
      | some x =>
        rw [q] at h62
        have : x = some o1 := h62
        rw [this]
    have lk := st3.lk al3 h5
    have rd3 := topD st3.pop
    obtain ⟨a, b, xs, kk, e3, e4, h8, h9, h10, h11, h12, h13, st4⟩ := st3.putN h6' e1 lk rd3 h7
    exact ⟨a, b, xs, kk, e3, e4, h8, h9, h10, h11, h12, h13, post σ Z3 _ st4.drop2 (Agree.refl _ _)⟩
  · cases h3
end
section
variable {δ : DS} {j : Nat} {fe fi : XF} {P : Fl → Prop}
theorem RS_subN (h : RX fe δ fun e δ1 => RK δ1 e fun o δ2 => ((δ2[j]?).join).isSome = true ∧ RX fi δ2 fun ei δ3 => RV δ3 ei fun k => ∃ oj, (δ3[j]?).join = some oj ∧ R1 (putN oj k o.fz) fun o' => ∃ δ4, δ3.set j (some o') = δ4 ∧ P (.nx δ4)) : RS (sSubN j fe fi) δ P := by
  obtain ⟨e, δ1, h1, o, δ2, h2, h3, ei, δ3, h4, k, h5, oj, h6, o', h7, δ4, rfl, p⟩ := h
  exact ⟨_, by simp [sSubN, h1, h2, h3, h4, h5, h6, h7], p⟩
end
end VS
namespace PM
section
variable {α : Type} [DecidableEq α]
abbrev Es (α : Type) := List (α × Int)
abbrev Ks (α : Type) := List (α × List (α × Int))
def sumE (f : α → Int) : Es α → Int
  | [] => 0
  | e :: r => e.2 * f e.1 + sumE f r
def desc : Ks α → α → Nat → Int
  | [], _, _ => 0
  | k :: r, s, d => if k.1 = s then (match d with
    | 0 => 1
    | d + 1 => sumE (fun c => desc r c d) k.2) else desc r s d
def ents : Ks α → α → Es α
  | [], _ => []
  | k :: r, s => if k.1 = s then k.2 else ents r s
def maxL : List Nat → Nat
  | [] => 0
  | a :: r => max a (maxL r)
/-- how many levels the tree of a kind has -/
def lev : Ks α → α → Nat
  | [], _ => 0
  | k :: r, s => if k.1 = s then 1 + maxL (k.2.map fun e => lev r e.1) else lev r s
def size : Ks α → α → Int
  | [], _ => 0
  | k :: r, s => if k.1 = s then 1 + sumE (size r) k.2 else size r s
def Ok : Ks α → Prop
  | [] => True
  | k :: r => k.1 ∉ r.map (·.1) ∧ (∀ e ∈ k.2, e.1 ∈ r.map (·.1) ∧ 1 ≤ e.2) ∧ Ok r
/-- entries of a forest -/
def OkE (K : Ks α) (es : Es α) : Prop := ∀ e ∈ es, e.1 ∈ K.map (·.1) ∧ 1 ≤ e.2
theorem sumE_congr {f g : α → Int} : ∀ {es : Es α}, (∀ e ∈ es, f e.1 = g e.1) → sumE f es = sumE g es
  | [], _ => rfl
  | e :: r, h => by
    simp only [sumE]
    rw [h e (by simp), sumE_congr fun x hx => h x (by simp [hx])]
theorem sumE_nonneg {f : α → Int} : ∀ {es : Es α}, (∀ e ∈ es, 0 ≤ f e.1 ∧ 0 ≤ e.2) → 0 ≤ sumE f es
  | [], _ => Int.le_refl 0
  | e :: r, h => by
    simp only [sumE]
    have := sumE_nonneg fun x hx => h x (List.mem_cons_of_mem e hx)
    have := Int.mul_nonneg (h e (by simp)).2 (h e (by simp)).1
    omega
theorem sumE_append {f : α → Int} : ∀ {a b : Es α}, sumE f (a ++ b) = sumE f a + sumE f b
  | [], b => by simp [sumE]
  | e :: a, b => by
    simp only [List.cons_append, sumE, sumE_append (a := a)]
    omega
theorem sumE_add {f g : α → Int} : ∀ {es : Es α}, sumE (fun c => f c + g c) es = sumE f es + sumE g es
  | [] => rfl
  | e :: r => by
    simp only [sumE, sumE_add (es := r), Int.mul_add]
    omega
theorem sumE_zero : ∀ {es : Es α}, sumE (fun _ => (0 : Int)) es = 0
  | [] => rfl
  | e :: r => by simp [sumE, sumE_zero (es := r)]
theorem le_maxL {a : Nat} : ∀ {l : List Nat}, a ∈ l → a ≤ maxL l
  | b :: l, h => by
    simp only [maxL]
    rcases List.mem_cons.mp h with rfl | h
    · omega
    · have := le_maxL h; omega
theorem maxL_congr {β : Type} {f g : β → Nat} : ∀ {l : List β}, (∀ x ∈ l, f x = g x) → maxL (l.map f) = maxL (l.map g)
  | [], _ => rfl
  | a :: l, h => by
    simp only [List.map_cons, maxL]
    rw [h a (by simp), maxL_congr fun x hx => h x (by simp [hx])]
theorem OkE.tl {K : Ks α} {e : α × Int} {es : Es α} (h : OkE K (e :: es)) : OkE K es := fun x hx => h x (by simp [hx])
theorem ne_of_mem {k : α × Es α} {K : Ks α} {s : α} (h : Ok (k :: K)) (hs : s ∈ K.map (·.1)) : ¬ k.1 = s := fun e => h.1 (by rw [e]; exact hs)
section
variable {k : α × Es α} {K : Ks α} {s : α}
theorem desc_skip (h : Ok (k :: K)) (hs : s ∈ K.map (·.1)) (d : Nat) : desc (k :: K) s d = desc K s d := by simp only [desc]; rw [if_neg (ne_of_mem h hs)]
theorem ents_skip (h : Ok (k :: K)) (hs : s ∈ K.map (·.1)) : ents (k :: K) s = ents K s := by simp only [ents]; rw [if_neg (ne_of_mem h hs)]
theorem lev_skip (h : Ok (k :: K)) (hs : s ∈ K.map (·.1)) : lev (k :: K) s = lev K s := by simp only [lev]; rw [if_neg (ne_of_mem h hs)]
theorem size_skip (h : Ok (k :: K)) (hs : s ∈ K.map (·.1)) : size (k :: K) s = size K s := by simp only [size]; rw [if_neg (ne_of_mem h hs)]
end
theorem ents_ok : ∀ {K : Ks α}, Ok K → ∀ s, OkE K (ents K s)
  | [], _, s => by simp [ents, OkE]
  | k :: K, h, s => by
    simp only [ents]
    by_cases e : k.1 = s
    · rw [if_pos e]
      exact fun x hx => ⟨List.mem_cons_of_mem _ (h.2.1 x hx).1, (h.2.1 x hx).2⟩
    · rw [if_neg e]
      exact fun x hx => ⟨List.mem_cons_of_mem _ (ents_ok h.2.2 s x hx).1, (ents_ok h.2.2 s x hx).2⟩
theorem desc_zero : ∀ {K : Ks α} {s : α}, s ∈ K.map (·.1) → desc K s 0 = 1
  | k :: K, s, h => by
    simp only [desc]
    by_cases e : k.1 = s
    · rw [if_pos e]
    · rw [if_neg e]
      exact desc_zero (by rcases List.mem_cons.mp h with h | h; exact absurd h.symm e; exact h)
theorem mem_tl {k : α × Es α} {K : Ks α} {s : α} (h : s ∈ (k :: K).map (·.1)) (e : ¬ k.1 = s) : s ∈ K.map (·.1) := by
  rcases List.mem_cons.mp h with h | h
  · exact absurd h.symm e
  · exact h
theorem desc_succ : ∀ {K : Ks α}, Ok K → ∀ (s : α) (d : Nat), desc K s (d + 1) = sumE (fun c => desc K c d) (ents K s)
  | [], _, s, d => rfl
  | k :: K, h, s, d => by
    simp only [desc, ents]
    by_cases e : k.1 = s
    · rw [if_pos e, if_pos e]
      exact sumE_congr fun x hx => by rw [if_neg (ne_of_mem h (h.2.1 x hx).1)]
    · rw [if_neg e, if_neg e, desc_succ h.2.2]
      exact sumE_congr fun x hx => by rw [if_neg (ne_of_mem h (ents_ok h.2.2 s x hx).1)]
theorem size_eq : ∀ {K : Ks α}, Ok K → ∀ {s : α}, s ∈ K.map (·.1) → size K s = 1 + sumE (size K) (ents K s)
  | k :: K, h, s, hs => by
    simp only [ents]
    by_cases e : k.1 = s
    · rw [if_pos e]
      simp only [size]
      rw [if_pos e]
      congr 1
      exact sumE_congr fun x hx => by rw [if_neg (ne_of_mem h (h.2.1 x hx).1)]
    · rw [if_neg e]
      have := size_eq h.2.2 (mem_tl hs e)
      simp only [size]
      rw [if_neg e, this]
      congr 1
      exact sumE_congr fun x hx => by rw [if_neg (ne_of_mem h (ents_ok h.2.2 s x hx).1)]
theorem lev_eq : ∀ {K : Ks α}, Ok K → ∀ {s : α}, s ∈ K.map (·.1) → lev K s = 1 + maxL ((ents K s).map fun e => lev K e.1)
  | k :: K, h, s, hs => by
    simp only [ents]
    by_cases e : k.1 = s
    · rw [if_pos e]
      simp only [lev]
      rw [if_pos e]
      congr 1
      exact maxL_congr fun x hx => by rw [if_neg (ne_of_mem h (h.2.1 x hx).1)]
    · rw [if_neg e]
      have := lev_eq h.2.2 (mem_tl hs e)
      simp only [lev]
      rw [if_neg e, this]
      congr 1
      exact maxL_congr fun x hx => by rw [if_neg (ne_of_mem h (ents_ok h.2.2 s x hx).1)]
theorem lev_pos {K : Ks α} (h : Ok K) {s : α} (hs : s ∈ K.map (·.1)) : 1 ≤ lev K s := by rw [lev_eq h hs]; omega
theorem lev_le : ∀ {K : Ks α}, Ok K → ∀ {s : α}, s ∈ K.map (·.1) → lev K s ≤ K.length
  | k :: K, h, s, hs => by
    have key : ∀ {l : List Nat} {n : Nat}, (∀ x ∈ l, x ≤ n) → maxL l ≤ n := by
      intro l
      induction l with
      | nil => intro n _; exact Nat.zero_le n
      | cons a l ih =>
        intro n q
        simp only [maxL]
        have := q a (by simp)
        have := ih fun x hx => q x (by simp [hx])
        omega
    simp only [lev]
    by_cases e : k.1 = s
    · rw [if_pos e]
      have : maxL (k.2.map fun e => lev K e.1) ≤ K.length := key fun x hx => by
        obtain ⟨y, hy, rfl⟩ := List.mem_map.mp hx
        exact lev_le h.2.2 (h.2.1 y hy).1
      simp only [List.length_cons]
      omega
    · rw [if_neg e]
      have := lev_le h.2.2 (mem_tl hs e)
      simp only [List.length_cons]
      omega
theorem desc_nonneg : ∀ {K : Ks α}, Ok K → ∀ (s : α) (d : Nat), 0 ≤ desc K s d
  | [], _, s, d => Int.le_refl 0
  | k :: K, h, s, d => by
    simp only [desc]
    split
    · cases d with
      | zero => exact Int.zero_le_ofNat 1
      | succ d => exact sumE_nonneg fun e he => ⟨desc_nonneg h.2.2 e.1 d, by have := (h.2.1 e he).2; omega⟩
    · exact desc_nonneg h.2.2 s d
theorem size_nonneg : ∀ {K : Ks α}, Ok K → ∀ (s : α), 0 ≤ size K s
  | [], _, s => Int.le_refl 0
  | k :: K, h, s => by
    simp only [size]
    split
    · have : 0 ≤ sumE (size K) k.2 := sumE_nonneg fun e he => ⟨size_nonneg h.2.2 e.1, by have := (h.2.1 e he).2; omega⟩
      omega
    · exact size_nonneg h.2.2 s
theorem OkE.nn {K : Ks α} {es : Es α} (h : OkE K es) {e : α × Int} (he : e ∈ es) : 0 ≤ e.2 := by have := (h e he).2; omega
theorem size_pos {K : Ks α} (h : Ok K) {s : α} (hs : s ∈ K.map (·.1)) : 1 ≤ size K s := by
  rw [size_eq h hs]
  have : 0 ≤ sumE (size K) (ents K s) := sumE_nonneg fun e he => ⟨size_nonneg h _, (ents_ok h s).nn he⟩
  omega
theorem desc_big : ∀ {K : Ks α}, Ok K → ∀ (s : α) (d : Nat), s ∈ K.map (·.1) → lev K s ≤ d → desc K s d = 0
  | [], _, s, d, hs, _ => by simp at hs
  | k :: K, h, s, d, hs, hd => by
    simp only [lev] at hd
    simp only [desc]
    by_cases e : k.1 = s
    · rw [if_pos e] at hd ⊢
      cases d with
      | zero => omega
      | succ d =>
        show sumE (fun c => desc K c d) k.2 = 0
        rw [← sumE_zero (es := k.2)]
        refine sumE_congr fun x hx => ?_
        refine desc_big h.2.2 x.1 d (h.2.1 x hx).1 ?_
        have := le_maxL (List.mem_map_of_mem (f := fun e : α × Int => lev K e.1) hx)
        omega
    · rw [if_neg e] at hd ⊢
      exact desc_big h.2.2 s d (mem_tl hs e) hd
theorem mem_maxL : ∀ {l : List Nat}, 0 < maxL l → maxL l ∈ l
  | a :: l, h => by
    simp only [maxL] at h ⊢
    rcases Nat.le_total a (maxL l) with q | q
    · rw [Nat.max_eq_right q] at h ⊢
      exact List.mem_cons_of_mem _ (mem_maxL h)
    · rw [Nat.max_eq_left q]
      exact List.mem_cons_self
def sumN (f : Nat → Int) : Nat → Int
  | 0 => 0
  | n + 1 => sumN f n + f n
theorem sumN_congr {f g : Nat → Int} : ∀ {n : Nat}, (∀ i, i < n → f i = g i) → sumN f n = sumN g n
  | 0, _ => rfl
  | n + 1, h => by simp only [sumN]; rw [sumN_congr fun i hi => h i (by omega), h n (by omega)]
theorem sumN_shift {f : Nat → Int} : ∀ {n : Nat}, sumN f (n + 1) = f 0 + sumN (fun i => f (i + 1)) n
  | 0 => by simp [sumN]
  | n + 1 => by
    rw [sumN, sumN_shift (n := n)]
    simp only [sumN]
    omega
theorem sumN_sumE {f : α → Nat → Int} {es : Es α} : ∀ {n : Nat}, sumN (fun d => sumE (fun c => f c d) es) n = sumE (fun c => sumN (f c) n) es
  | 0 => by simp only [sumN]; exact sumE_zero.symm
  | n + 1 => by
    simp only [sumN]
    rw [sumN_sumE (n := n), ← sumE_add]
/-- the size is the sum over the levels -/
theorem size_sum : ∀ {K : Ks α}, Ok K → ∀ (s : α) (n : Nat), s ∈ K.map (·.1) → lev K s ≤ n → sumN (desc K s) n = size K s
  | [], _, s, n, hs, _ => by simp at hs
  | k :: K, h, s, n, hs, hn => by
    by_cases e : k.1 = s
    · have hn' : 1 + maxL (k.2.map fun e => lev K e.1) ≤ n := by simpa only [lev, if_pos e] using hn
      obtain ⟨m, rfl⟩ : ∃ m, n = m + 1 := ⟨n - 1, by omega⟩
      rw [sumN_shift, desc_zero hs]
      have : (fun i => desc (k :: K) s (i + 1)) = fun i => sumE (fun c => desc K c i) k.2 := by
        funext i
        simp only [desc]
        rw [if_pos e]
      rw [this, sumN_sumE]
      simp only [size]
      rw [if_pos e]
      congr 1
      refine sumE_congr fun x hx => size_sum h.2.2 x.1 m (h.2.1 x hx).1 ?_
      have := le_maxL (List.mem_map_of_mem (f := fun e : α × Int => lev K e.1) hx)
      omega
    · have hs' := mem_tl hs e
      rw [size_skip h hs', ← size_sum h.2.2 s n hs' (by rwa [lev_skip h hs'] at hn)]
      exact sumN_congr fun i _ => desc_skip h hs' i
end
end PM
namespace PM
section
variable {α : Type} [DecidableEq α]
abbrev Pa := List (Nat × Int)
def Val (K : Ks α) : Es α → Pa → Prop
  | _, [] => True
  | rows, (p, i) :: q => ∃ e, rows[p]? = some e ∧ 0 ≤ i ∧ i < e.2 ∧ Val K (ents K e.1) q
/-- the kind of a task; its entries -/
def kindP (K : Ks α) : Es α → Pa → Option α
  | _, [] => none
  | rows, (p, _) :: q => match rows[p]? with
    | none => none
    | some e => match q with
      | [] => some e.1
      | _ :: _ => kindP K (ents K e.1) q
def rowsP (K : Ks α) : Es α → Pa → Es α
  | rows, [] => rows
  | rows, (p, _) :: q => match rows[p]? with
    | none => []
    | some e => rowsP K (ents K e.1) q
/-- how many tasks of its level are before a task -/
def rkL (K : Ks α) : Es α → Pa → Int
  | _, [] => 0
  | rows, (p, i) :: q => match rows[p]? with
    | none => 0
    | some e => sumE (fun c => desc K c q.length) (rows.take p) + i * desc K e.1 q.length + rkL K (ents K e.1) q
/-- how many tasks start before it if the last one put is taken first -/
def rkD (K : Ks α) : Es α → Pa → Int
  | _, [] => -1
  | rows, (p, i) :: q => match rows[p]? with
    | none => 0
    | some e => sumE (size K) (rows.drop (p + 1)) + (e.2 - 1 - i) * size K e.1 + (rkD K (ents K e.1) q + 1)
section
variable {K : Ks α}
theorem mem_at {rows : Es α} {p : Nat} {e : α × Int} (h : rows[p]? = some e) : e ∈ rows := List.mem_of_getElem? h
theorem split_at {rows : Es α} {p : Nat} {e : α × Int} (h : rows[p]? = some e) : rows = rows.take p ++ e :: rows.drop (p + 1) := by
  have hp := (List.getElem?_eq_some_iff.mp h).1
  have he := (List.getElem?_eq_some_iff.mp h).2
  have q := List.drop_eq_getElem_cons hp
  rw [he] at q
  rw [← q, List.take_append_drop]
theorem sum_split {f : α → Int} {rows : Es α} {p : Nat} {e : α × Int} (h : rows[p]? = some e) : sumE f rows = sumE f (rows.take p) + e.2 * f e.1 + sumE f (rows.drop (p + 1)) := by
  have e1 := congrArg (sumE f) (split_at h)
  rw [sumE_append] at e1
  simp only [sumE] at e1
  omega
theorem OkE.take {es : Es α} (h : OkE K es) (n : Nat) : OkE K (es.take n) := fun x hx => h x (List.mem_of_mem_take hx)
theorem OkE.drop {es : Es α} (h : OkE K es) (n : Nat) : OkE K (es.drop n) := fun x hx => h x (List.mem_of_mem_drop hx)
theorem OkE.sumL (hK : Ok K) {es : Es α} (h : OkE K es) (d : Nat) : 0 ≤ sumE (fun c => desc K c d) es := sumE_nonneg fun e he => ⟨desc_nonneg hK _ _, h.nn he⟩
theorem OkE.sumS (hK : Ok K) {es : Es α} (h : OkE K es) : 0 ≤ sumE (size K) es := sumE_nonneg fun e he => ⟨size_nonneg hK _, h.nn he⟩
theorem mul_step {i k D : Int} (hi : i < k) (hD : 0 ≤ D) : i * D + D ≤ k * D := by
  have : (i + 1) * D ≤ k * D := Int.mul_le_mul_of_nonneg_right (by omega) hD
  rw [Int.add_mul, Int.one_mul] at this
  exact this
/-- the rank in the level lies in its range -/
theorem rkL_range (hK : Ok K) : ∀ (q : Pa) {rows : Es α} {p : Nat} {i : Int}, OkE K rows → Val K rows ((p, i) :: q) → 0 ≤ rkL K rows ((p, i) :: q) ∧ rkL K rows ((p, i) :: q) < sumE (fun c => desc K c q.length) rows := by
  intro q
  induction q with
  | nil =>
    intro rows p i hr ⟨e, he, h0, h1, _⟩
    have h1' := desc_zero (K := K) (hr e (mem_at he)).1
    have s := sum_split (f := fun c => desc K c 0) he
    have a1 := (hr.take p).sumL hK 0
    have a2 := (hr.drop (p + 1)).sumL hK 0
    simp only [rkL, he, List.length_nil]
    simp only [h1'] at s ⊢
    omega
  | cons x q ih =>
    intro rows p i hr ⟨e, he, h0, h1, hv⟩
    obtain ⟨p', i'⟩ := x
    have g := ih (ents_ok hK e.1) hv
    have hD := desc_succ hK e.1 q.length
    have s := sum_split (f := fun c => desc K c (q.length + 1)) he
    have a1 := (hr.take p).sumL hK (q.length + 1)
    have a2 := (hr.drop (p + 1)).sumL hK (q.length + 1)
    have a3 := desc_nonneg hK e.1 (q.length + 1)
    have a4 := mul_step h1 a3
    have a5 := Int.mul_nonneg h0 a3
    rw [rkL]
    simp only [he, List.length_cons]
    simp only [← hD] at g
    omega
theorem rkD_range (hK : Ok K) : ∀ (q : Pa) {rows : Es α} {p : Nat} {i : Int}, OkE K rows → Val K rows ((p, i) :: q) → 0 ≤ rkD K rows ((p, i) :: q) ∧ rkD K rows ((p, i) :: q) < sumE (size K) rows := by
  intro q
  induction q with
  | nil =>
    intro rows p i hr ⟨e, he, h0, h1, _⟩
    have hs := size_pos hK (hr e (mem_at he)).1
    have s := sum_split (f := size K) he
    have a1 := (hr.take p).sumS hK
    have a2 := (hr.drop (p + 1)).sumS hK
    have a3 := mul_step (show e.2 - 1 - i < e.2 by omega) (show 0 ≤ size K e.1 by omega)
    have a4 := Int.mul_nonneg (show 0 ≤ e.2 - 1 - i by omega) (show 0 ≤ size K e.1 by omega)
    simp only [rkD, he]
    omega
  | cons x q ih =>
    intro rows p i hr ⟨e, he, h0, h1, hv⟩
    obtain ⟨p', i'⟩ := x
    have g := ih (ents_ok hK e.1) hv
    have hs := size_eq hK (hr e (mem_at he)).1
    have s := sum_split (f := size K) he
    have a1 := (hr.take p).sumS hK
    have a2 := (hr.drop (p + 1)).sumS hK
    have a3 := mul_step (show e.2 - 1 - i < e.2 by omega) (size_nonneg hK e.1)
    have a4 := Int.mul_nonneg (show 0 ≤ e.2 - 1 - i by omega) (size_nonneg hK e.1)
    rw [rkD]
    simp only [he]
    omega
/-- the lesser path, of equal lengths -/
def ltL : Pa → Pa → Prop
  | (p, i) :: q, (p', i') :: q' => p < p' ∨ p = p' ∧ (i < i' ∨ i = i' ∧ ltL q q')
  | _, _ => False
/-- a beginning, or the greater pair where the paths part -/
def ltD : Pa → Pa → Prop
  | [], _ :: _ => True
  | (p, i) :: q, (p', i') :: q' => p' < p ∨ p = p' ∧ (i' < i ∨ i = i' ∧ ltD q q')
  | _, _ => False
theorem ltL_tri : ∀ (x y : Pa), x.length = y.length → ltL x y ∨ x = y ∨ ltL y x
  | [], [], _ => .inr (.inl rfl)
  | [], _ :: _, h => by simp at h
  | _ :: _, [], h => by simp at h
  | (p, i) :: q, (p', i') :: q', h => by
    simp only [ltL]
    have ih := ltL_tri q q' (by simpa using h)
    by_cases a : p < p'
    · exact .inl (.inl a)
    · by_cases b : p' < p
      · exact .inr (.inr (.inl b))
      · have e : p = p' := by omega
        subst e
        by_cases a : i < i'
        · exact .inl (.inr ⟨rfl, .inl a⟩)
        · by_cases b : i' < i
          · exact .inr (.inr (.inr ⟨rfl, .inl b⟩))
          · have e : i = i' := by omega
            subst e
            rcases ih with c | c | c
            · exact .inl (.inr ⟨rfl, .inr ⟨rfl, c⟩⟩)
            · subst c; exact .inr (.inl rfl)
            · exact .inr (.inr (.inr ⟨rfl, .inr ⟨rfl, c⟩⟩))
theorem ltD_tri : ∀ (x y : Pa), ltD x y ∨ x = y ∨ ltD y x
  | [], [] => .inr (.inl rfl)
  | [], _ :: _ => .inl trivial
  | _ :: _, [] => .inr (.inr trivial)
  | (p, i) :: q, (p', i') :: q' => by
    simp only [ltD]
    have ih := ltD_tri q q'
    by_cases a : p < p'
    · exact .inr (.inr (.inl a))
    · by_cases b : p' < p
      · exact .inl (.inl b)
      · have e : p = p' := by omega
        subst e
        by_cases a : i < i'
        · exact .inr (.inr (.inr ⟨rfl, .inl a⟩))
        · by_cases b : i' < i
          · exact .inl (.inr ⟨rfl, .inl b⟩)
          · have e : i = i' := by omega
            subst e
            rcases ih with c | c | c
            · exact .inl (.inr ⟨rfl, .inr ⟨rfl, c⟩⟩)
            · subst c; exact .inr (.inl rfl)
            · exact .inr (.inr (.inr ⟨rfl, .inr ⟨rfl, c⟩⟩))
/-- the rest of a task's rank, below its place -/
theorem rkL_rest (hK : Ok K) {s : α} (hs : s ∈ K.map (·.1)) {q : Pa} (hv : Val K (ents K s) q) : 0 ≤ rkL K (ents K s) q ∧ rkL K (ents K s) q < desc K s q.length := by
  cases q with
  | nil => simp only [rkL, List.length_nil, desc_zero hs]; omega
  | cons x q =>
    obtain ⟨p, i⟩ := x
    rw [List.length_cons, desc_succ hK]
    exact rkL_range hK q (ents_ok hK s) hv
theorem rkD_rest (hK : Ok K) {s : α} (hs : s ∈ K.map (·.1)) {q : Pa} (hv : Val K (ents K s) q) : -1 ≤ rkD K (ents K s) q ∧ rkD K (ents K s) q + 1 < size K s := by
  cases q with
  | nil => have := size_pos hK hs; simp only [rkD]; omega
  | cons x q =>
    obtain ⟨p, i⟩ := x
    have := rkD_range hK q (ents_ok hK s) hv
    rw [size_eq hK hs]
    omega
theorem take_le {f : α → Int} {rows : Es α} (h : ∀ e ∈ rows, 0 ≤ f e.1 ∧ 0 ≤ e.2) {p p' : Nat} {e : α × Int} (he : rows[p]? = some e) (hp : p < p') : sumE f (rows.take p) + e.2 * f e.1 ≤ sumE f (rows.take p') := by
  have hp' := (List.getElem?_eq_some_iff.mp he).1
  have e1 : (rows.take p')[p]? = some e := by rw [List.getElem?_take, if_pos hp, he]
  have s := sum_split (f := f) e1
  have e2 : (rows.take p').take p = rows.take p := by rw [List.take_take, Nat.min_eq_left (by omega)]
  rw [e2] at s
  have : 0 ≤ sumE f ((rows.take p').drop (p + 1)) := sumE_nonneg fun x hx => h x (List.mem_of_mem_take (List.mem_of_mem_drop hx))
  omega
theorem drop_le {f : α → Int} {rows : Es α} (h : ∀ e ∈ rows, 0 ≤ f e.1 ∧ 0 ≤ e.2) {p p' : Nat} {e : α × Int} (he : rows[p]? = some e) (hp : p' < p) : sumE f (rows.drop (p + 1)) + e.2 * f e.1 ≤ sumE f (rows.drop (p' + 1)) := by
  have e1 : (rows.drop (p' + 1))[p - (p' + 1)]? = some e := by rw [List.getElem?_drop, show p' + 1 + (p - (p' + 1)) = p by omega, he]
  have s := sum_split (f := f) e1
  have e2 : (rows.drop (p' + 1)).drop (p - (p' + 1) + 1) = rows.drop (p + 1) := by rw [List.drop_drop]; congr 1; omega
  rw [e2] at s
  have : 0 ≤ sumE f ((rows.drop (p' + 1)).take (p - (p' + 1))) := sumE_nonneg fun x hx => h x (List.mem_of_mem_drop (List.mem_of_mem_take hx))
  omega
theorem rkL_lt (hK : Ok K) : ∀ {x y : Pa} {rows : Es α}, OkE K rows → Val K rows x → Val K rows y → x.length = y.length → ltL x y → rkL K rows x < rkL K rows y
  | [], _, _, _, _, _, _, h => by simp [ltL] at h
  | _ :: _, [], _, _, _, _, _, h => by simp [ltL] at h
  | (p, i) :: q, (p', i') :: q', rows, hr, ⟨e, he, h0, h1, hv⟩, ⟨e', he', h0', h1', hv'⟩, hl, h => by
    have hq : q.length = q'.length := by simpa using hl
    have g := rkL_rest hK (hr e (mem_at he)).1 hv
    have g' := rkL_rest hK (hr e' (mem_at he')).1 hv'
    have a3 := desc_nonneg hK e.1 q.length
    have a3' := desc_nonneg hK e'.1 q.length
    rw [rkL, rkL]
    simp only [he, he']
    rw [← hq] at g' ⊢
    simp only [ltL] at h
    rcases h with h | ⟨rfl, h⟩
    · have t : sumE (fun c => desc K c q.length) (rows.take p) + e.2 * desc K e.1 q.length ≤ sumE (fun c => desc K c q.length) (rows.take p') := take_le (f := fun c => desc K c q.length) (rows := rows) (fun x hx => ⟨desc_nonneg hK _ _, hr.nn hx⟩) he h
      have m := mul_step h1 a3
      have a5 := Int.mul_nonneg h0' a3'
      omega
    · rw [he] at he'
      cases he'
      rcases h with h | ⟨rfl, h⟩
      · have m := mul_step h a3
        omega
      · have := rkL_lt hK (ents_ok hK e.1) hv hv' hq h
        omega
theorem rkD_lt (hK : Ok K) : ∀ {x y : Pa} {rows : Es α}, OkE K rows → Val K rows x → Val K rows y → ltD x y → rkD K rows x < rkD K rows y
  | [], [], _, _, _, _, h => by simp [ltD] at h
  | _ :: _, [], _, _, _, _, h => by simp [ltD] at h
  | [], (p', i') :: q', rows, hr, _, hv', _ => by
    have := rkD_range hK q' hr hv'
    simp only [rkD] at this ⊢
    omega
  | (p, i) :: q, (p', i') :: q', rows, hr, ⟨e, he, h0, h1, hv⟩, ⟨e', he', h0', h1', hv'⟩, h => by
    have g := rkD_rest hK (hr e (mem_at he)).1 hv
    have g' := rkD_rest hK (hr e' (mem_at he')).1 hv'
    have a3 := size_nonneg hK e.1
    have a3' := size_nonneg hK e'.1
    rw [rkD, rkD]
    simp only [he, he']
    simp only [ltD] at h
    rcases h with h | ⟨rfl, h⟩
    · have t := drop_le (f := size K) (rows := rows) (fun x hx => ⟨size_nonneg hK _, hr.nn hx⟩) he h
      have m := mul_step (show e.2 - 1 - i < e.2 by omega) a3
      have a5 := Int.mul_nonneg (show 0 ≤ e'.2 - 1 - i' by omega) a3'
      omega
    · rw [he] at he'
      cases he'
      rcases h with h | ⟨rfl, h⟩
      · have m := mul_step (show e.2 - 1 - i < e.2 - 1 - i' by omega) a3
        omega
      · have := rkD_lt hK (ents_ok hK e.1) hv hv' h
        omega
theorem rkL_inj (hK : Ok K) {x y : Pa} {rows : Es α} (hr : OkE K rows) (hx : Val K rows x) (hy : Val K rows y) (hl : x.length = y.length) (h : rkL K rows x = rkL K rows y) : x = y := by
  rcases ltL_tri x y hl with c | c | c
  · have := rkL_lt hK hr hx hy hl c; omega
  · exact c
  · have := rkL_lt hK hr hy hx hl.symm c; omega
theorem rkD_inj (hK : Ok K) {x y : Pa} {rows : Es α} (hr : OkE K rows) (hx : Val K rows x) (hy : Val K rows y) (h : rkD K rows x = rkD K rows y) : x = y := by
  rcases ltD_tri x y with c | c | c
  · have := rkD_lt hK hr hx hy c; omega
  · exact c
  · have := rkD_lt hK hr hy hx c; omega
def pick (f : α → Int) : Es α → Nat → Int → Option (Nat × (α × Int) × Int)
  | [], _, _ => none
  | e :: r, at_, n => if e.2 * f e.1 ≤ n then pick f r (at_ + 1) (n - e.2 * f e.1) else some (at_, e, n)
theorem pick_ok {f : α → Int} : ∀ {rows : Es α} {n : Int} {at0 : Nat}, 0 ≤ n → n < sumE f rows → ∃ j e m, pick f rows at0 n = some (at0 + j, e, m) ∧ rows[j]? = some e ∧ 0 ≤ m ∧ m < e.2 * f e.1 ∧ n = sumE f (rows.take j) + m
  | [], n, at0, h0, h1 => by simp [sumE] at h1; omega
  | e :: r, n, at0, h0, h1 => by
    simp only [sumE] at h1
    simp only [pick]
    by_cases c : e.2 * f e.1 ≤ n
    · rw [if_pos c]
      obtain ⟨j, e', m, a1, a2, a3, a4, a5⟩ := pick_ok (f := f) (rows := r) (n := n - e.2 * f e.1) (at0 := at0 + 1) (by omega) (by omega)
      refine ⟨j + 1, e', m, by rw [a1]; congr 2; omega, by simpa using a2, a3, a4, ?_⟩
      simp only [List.take_succ_cons, sumE]
      omega
    · rw [if_neg c]
      exact ⟨0, e, n, by simp, by simp, h0, by omega, by simp [sumE]⟩
theorem div_split {m D : Int} (hD : 0 < D) : m = m / D * D + m % D ∧ 0 ≤ m % D ∧ m % D < D := by
  refine ⟨?_, Int.emod_nonneg _ (by omega), Int.emod_lt_of_pos _ hD⟩
  have := Int.mul_ediv_add_emod m D
  rw [Int.mul_comm] at this
  omega
theorem pos_of_mul {m k D : Int} (h0 : 0 ≤ m) (h : m < k * D) (hD : 0 ≤ D) : 0 < D := by
  rcases Int.lt_or_eq_of_le hD with h1 | h1
  · exact h1
  · rw [← h1, Int.mul_zero] at h
    omega
end
end
end PM
namespace PM
section
variable {α : Type} [DecidableEq α]
def inn (es : Es α) : Int := if (!es.isEmpty) = true then 1 else 0
def idesc : Ks α → α → Nat → Int
  | [], _, _ => 0
  | k :: r, s, d => if k.1 = s then (match d with
    | 0 => inn k.2
    | d + 1 => sumE (fun c => idesc r c d) k.2) else idesc r s d
theorem idesc_zero : ∀ {K : Ks α} {s : α}, s ∈ K.map (·.1) → idesc K s 0 = inn (ents K s)
  | k :: K, s, h => by
    simp only [idesc, ents]
    by_cases e : k.1 = s
    · rw [if_pos e, if_pos e]
    · rw [if_neg e, if_neg e]
      exact idesc_zero (mem_tl h e)
theorem idesc_succ : ∀ {K : Ks α}, Ok K → ∀ (s : α) (d : Nat), idesc K s (d + 1) = sumE (fun c => idesc K c d) (ents K s)
  | [], _, s, d => rfl
  | k :: K, h, s, d => by
    simp only [idesc, ents]
    by_cases e : k.1 = s
    · rw [if_pos e, if_pos e]
      exact sumE_congr fun x hx => by rw [if_neg (ne_of_mem h (h.2.1 x hx).1)]
    · rw [if_neg e, if_neg e, idesc_succ h.2.2]
      exact sumE_congr fun x hx => by rw [if_neg (ne_of_mem h (ents_ok h.2.2 s x hx).1)]
theorem idesc_big : ∀ {K : Ks α}, Ok K → ∀ (s : α) (d : Nat), s ∈ K.map (·.1) → lev K s ≤ d → idesc K s d = 0
  | [], _, s, d, hs, _ => by simp at hs
  | k :: K, h, s, d, hs, hd => by
    simp only [lev] at hd
    simp only [idesc]
    by_cases e : k.1 = s
    · rw [if_pos e] at hd ⊢
      cases d with
      | zero => omega
      | succ d =>
        show sumE (fun c => idesc K c d) k.2 = 0
        rw [← sumE_zero (es := k.2)]
        refine sumE_congr fun x hx => ?_
        refine idesc_big h.2.2 x.1 d (h.2.1 x hx).1 ?_
        have := le_maxL (List.mem_map_of_mem (f := fun e : α × Int => lev K e.1) hx)
        omega
    · rw [if_neg e] at hd ⊢
      exact idesc_big h.2.2 s d (mem_tl hs e) hd
/-- a table's numbers -/
def pr (K : Ks α) (s : α) (d : Nat) : Int × Int := (desc K s d, idesc K s d)
def tabF {β : Type} (f : Nat → β) (n : Nat) : List β := (List.range n).map f
theorem tabF_len {β : Type} (f : Nat → β) (n : Nat) : (tabF f n).length = n := by simp [tabF]
theorem tabF_get {β : Type} {f : Nat → β} {n i : Nat} (h : i < n) : (tabF f n)[i]? = some (f i) := by simp [tabF, h]
theorem tabF_congr {β : Type} {f g : Nat → β} {n : Nat} (h : ∀ i, i < n → f i = g i) : tabF f n = tabF g n := by
  unfold tabF
  exact List.map_congr_left fun i hi => h i (List.mem_range.mp hi)
theorem tabF_succ {β : Type} (f : Nat → β) (n : Nat) : tabF f (n + 1) = tabF f n ++ [f n] := by simp [tabF, List.range_succ]
theorem tabF_set {β : Type} {f : Nat → β} {n i : Nat} {v : β} : (tabF f n).set i v = tabF (fun j => if j = i then v else f j) n := by
  refine List.ext_getElem? fun j => ?_
  by_cases hj : j < n
  · rw [tabF_get hj, List.getElem?_set]
    by_cases e : i = j
    · subst e
      simp [tabF_len, hj]
    · rw [if_neg e, tabF_get hj, if_neg fun z => e z.symm]
  · rw [List.getElem?_eq_none (by rw [List.length_set, tabF_len]; omega), List.getElem?_eq_none (by rw [tabF_len]; omega)]
/-- what a table is while entries are added -/
def fT (K : Ks α) (a0 : Int × Int) (es : Es α) : Nat → Int × Int
  | 0 => a0
  | d + 1 => (sumE (fun c => desc K c d) es, sumE (fun c => idesc K c d) es)
def mxl (K : Ks α) (es : Es α) : Nat := maxL (es.map fun e => lev K e.1)
theorem maxL_snoc : ∀ (l : List Nat) (a : Nat), maxL (l ++ [a]) = max (maxL l) a
  | [], a => by simp [maxL]
  | b :: l, a => by
    simp only [List.cons_append, maxL, maxL_snoc l a]
    omega
theorem mxl_snoc (K : Ks α) (es : Es α) (x : α × Int) : mxl K (es ++ [x]) = max (mxl K es) (lev K x.1) := by
  unfold mxl
  rw [List.map_append]
  exact maxL_snoc _ _
theorem sumE_snoc {f : α → Int} {es : Es α} {x : α × Int} : sumE f (es ++ [x]) = sumE f es + x.2 * f x.1 := by
  rw [sumE_append]
  simp [sumE]
theorem fT_big {K : Ks α} (hK : Ok K) {es : Es α} (he : OkE K es) {a0 : Int × Int} {d : Nat} (h : mxl K es ≤ d) : fT K a0 es (d + 1) = (0, 0) := by
  have q : ∀ e ∈ es, lev K e.1 ≤ d := fun e h' => by
    have := le_maxL (List.mem_map_of_mem (f := fun e : α × Int => lev K e.1) h')
    unfold mxl at h
    omega
  simp only [fT]
  rw [← sumE_zero (es := es)]
  congr 1
  · exact sumE_congr fun e h' => desc_big hK _ _ (he e h').1 (q e h')
  · exact sumE_congr fun e h' => idesc_big hK _ _ (he e h').1 (q e h')
theorem fT_ents {K : Ks α} (hK : Ok K) {s : α} (hs : s ∈ K.map (·.1)) : fT K (1, inn (ents K s)) (ents K s) = pr K s := by
  funext d
  cases d with
  | zero => simp only [fT, pr, desc_zero hs, idesc_zero hs]
  | succ d => simp only [fT, pr, desc_succ hK, idesc_succ hK]
theorem pr_big {K : Ks α} (hK : Ok K) {s : α} (hs : s ∈ K.map (·.1)) {d : Nat} (h : lev K s ≤ d) : pr K s d = (0, 0) := by
  simp only [pr, desc_big hK s d hs h, idesc_big hK s d hs h]
def OkB (B : Int) : Ks α → Prop
  | [] => True
  | k :: r => sumE (fun _ => 1) k.2 ≤ B ∧ OkB B r
theorem sumE_le {f : α → Int} {M : Int} : ∀ {es : Es α}, (∀ e ∈ es, f e.1 ≤ M ∧ 0 ≤ e.2) → sumE f es ≤ sumE (fun _ => 1) es * M
  | [], _ => by simp [sumE]
  | e :: r, h => by
    simp only [sumE]
    have h1 := Int.mul_le_mul_of_nonneg_left (h e (by simp)).1 (h e (by simp)).2
    have h2 := sumE_le (M := M) fun x hx => h x (List.mem_cons_of_mem e hx)
    rw [Int.mul_one, Int.add_mul]
    omega
theorem one_le_pow {b : Int} (h : 1 ≤ b) : ∀ n : Nat, 1 ≤ b ^ n
  | 0 => by rw [Int.pow_zero]; decide
  | n + 1 => by
    have a := one_le_pow h n
    have := Int.mul_le_mul_of_nonneg_left h (show 0 ≤ b ^ n by omega)
    rw [Int.pow_succ]
    omega
theorem desc_le {B : Int} (hB : 1 ≤ B) : ∀ {K : Ks α}, Ok K → OkB B K → ∀ (s : α) (d : Nat), desc K s d ≤ B ^ K.length
  | [], _, _, s, d => by simp only [desc, List.length_nil]; rw [Int.pow_zero]; decide
  | k :: K, h, hb, s, d => by
    have p1 : 1 ≤ B ^ K.length := one_le_pow hB _
    have p2 : B ^ K.length ≤ B ^ (k :: K).length := by
      rw [List.length_cons, Int.pow_succ]
      have := Int.mul_le_mul_of_nonneg_left hB (show 0 ≤ B ^ K.length by omega)
      omega
    simp only [desc]
    split
    · cases d with
      | zero => show (1 : Int) ≤ _; omega
      | succ d =>
        show sumE (fun c => desc K c d) k.2 ≤ _
        have h1 := sumE_le (f := fun c => desc K c d) (M := B ^ K.length) (es := k.2) fun e he => ⟨desc_le hB h.2.2 hb.2 e.1 d, by have := (h.2.1 e he).2; omega⟩
        have h2 := Int.mul_le_mul_of_nonneg_right hb.1 (show 0 ≤ B ^ K.length by omega)
        rw [List.length_cons, Int.pow_succ, Int.mul_comm (B ^ K.length)]
        omega
    · have := desc_le hB h.2.2 hb.2 s d
      omega
theorem size_le {B : Int} (hB : 1 ≤ B) : ∀ {K : Ks α}, Ok K → OkB B K → ∀ (s : α), size K s ≤ (B + 1) ^ K.length
  | [], _, _, s => by simp only [size, List.length_nil]; rw [Int.pow_zero]; decide
  | k :: K, h, hb, s => by
    have p1 : 1 ≤ (B + 1) ^ K.length := one_le_pow (by omega) _
    have p3 : (B + 1) ^ (k :: K).length = B * (B + 1) ^ K.length + (B + 1) ^ K.length := by
      rw [List.length_cons, Int.pow_succ, Int.mul_comm, Int.add_mul, Int.one_mul]
    have p4 : 0 ≤ B * (B + 1) ^ K.length := Int.mul_nonneg (by omega) (by omega)
    simp only [size]
    split
    · have h1 := sumE_le (f := size K) (M := (B + 1) ^ K.length) (es := k.2) fun e he => ⟨size_le hB h.2.2 hb.2 e.1, by have := (h.2.1 e he).2; omega⟩
      have h2 := Int.mul_le_mul_of_nonneg_right hb.1 (show 0 ≤ (B + 1) ^ K.length by omega)
      omega
    · have := size_le hB h.2.2 hb.2 s
      omega
end
end PM
namespace PM
section
variable {α : Type} [DecidableEq α] {K : Ks α}
theorem val_app : ∀ {a b : Pa} {rows : Es α}, Val K rows (a ++ b) → Val K rows a ∧ Val K (rowsP K rows a) b
  | [], b, rows, h => ⟨trivial, h⟩
  | (p, i) :: a, b, rows, ⟨e, he, h0, h1, hv⟩ => by
    have := val_app hv
    refine ⟨⟨e, he, h0, h1, this.1⟩, ?_⟩
    simp only [rowsP, he]
    exact this.2
theorem app_val : ∀ {a b : Pa} {rows : Es α}, Val K rows a → Val K (rowsP K rows a) b → Val K rows (a ++ b)
  | [], b, rows, _, h => h
  | (p, i) :: a, b, rows, ⟨e, he, h0, h1, hv⟩, h => by
    simp only [rowsP, he] at h
    exact ⟨e, he, h0, h1, app_val hv h⟩
theorem rowsP_app : ∀ {a b : Pa} {rows : Es α}, Val K rows a → rowsP K rows (a ++ b) = rowsP K (rowsP K rows a) b
  | [], b, rows, _ => rfl
  | (p, i) :: a, b, rows, ⟨e, he, h0, h1, hv⟩ => by
    simp only [List.cons_append, rowsP, he]
    exact rowsP_app hv
theorem rowsP_one {p : Nat} {i : Int} {rows : Es α} {e : α × Int} (he : rows[p]? = some e) : rowsP K rows [(p, i)] = ents K e.1 := by simp only [rowsP, he]
theorem rowsP_snoc {a : Pa} {p : Nat} {i : Int} {rows : Es α} {e : α × Int} (ha : Val K rows a) (he : (rowsP K rows a)[p]? = some e) : rowsP K rows (a ++ [(p, i)]) = ents K e.1 := by
  rw [rowsP_app ha, rowsP_one he]
theorem kindP_snoc : ∀ {a : Pa} {p : Nat} {i : Int} {rows : Es α} {e : α × Int}, Val K rows a → (rowsP K rows a)[p]? = some e → kindP K rows (a ++ [(p, i)]) = some e.1
  | [], p, i, rows, e, _, he => by
    have he' : rows[p]? = some e := he
    simp only [List.nil_append, kindP, he']
  | (p', i') :: a, p, i, rows, e, ⟨e', he', h0, h1, hv⟩, he => by
    simp only [rowsP, he'] at he
    have ih := kindP_snoc (i := i) hv he
    cases a with
    | nil =>
      simp only [List.cons_append, List.nil_append, kindP, he'] at ih ⊢
      exact ih
    | cons y a =>
      simp only [List.cons_append, kindP, he'] at ih ⊢
      exact ih
theorem rowsP_ok (hK : Ok K) : ∀ {a : Pa} {rows : Es α}, OkE K rows → OkE K (rowsP K rows a)
  | [], rows, h => h
  | (p, i) :: a, rows, h => by
    simp only [rowsP]
    cases rows[p]? with
    | none => intro x hx; cases hx
    | some e => exact rowsP_ok hK (ents_ok hK e.1)
theorem val_snoc {a : Pa} {p : Nat} {i : Int} {rows : Es α} {e : α × Int} (ha : Val K rows a) (he : (rowsP K rows a)[p]? = some e) (h0 : 0 ≤ i) (h1 : i < e.2) : Val K rows (a ++ [(p, i)]) := app_val ha ⟨e, he, h0, h1, trivial⟩
/-- the rank of a beginning with r further steps -/
def rkLn (K : Ks α) (r : Nat) : Es α → Pa → Int
  | _, [] => 0
  | rows, (p, i) :: q => match rows[p]? with
    | none => 0
    | some e => sumE (fun c => desc K c (q.length + r)) (rows.take p) + i * desc K e.1 (q.length + r) + rkLn K r (ents K e.1) q
def rkDn (K : Ks α) : Es α → Pa → Int
  | _, [] => 0
  | rows, (p, i) :: q => match rows[p]? with
    | none => 0
    | some e => sumE (size K) (rows.drop (p + 1)) + (e.2 - 1 - i) * size K e.1 + (rkDn K (ents K e.1) q + 1)
theorem rkLn_zero : ∀ {a : Pa} {rows : Es α}, rkLn K 0 rows a = rkL K rows a
  | [], rows => rfl
  | (p, i) :: q, rows => by
    simp only [rkLn, rkL]
    cases rows[p]? with
    | none => rfl
    | some e => simp only [Nat.add_zero, rkLn_zero (a := q)]
theorem rkLn_app {r : Nat} : ∀ {a b : Pa} {rows : Es α}, Val K rows a → rkLn K r rows (a ++ b) = rkLn K (b.length + r) rows a + rkLn K r (rowsP K rows a) b
  | [], b, rows, _ => by simp [rkLn, rowsP]
  | (p, i) :: a, b, rows, ⟨e, he, h0, h1, hv⟩ => by
    simp only [List.cons_append, rkLn, he, rowsP, List.length_append, rkLn_app (b := b) hv]
    rw [Nat.add_assoc]
    omega
theorem rkLn_snoc {r : Nat} {a : Pa} {p : Nat} {i : Int} {rows : Es α} {e : α × Int} (ha : Val K rows a) (he : (rowsP K rows a)[p]? = some e) :
    rkLn K r rows (a ++ [(p, i)]) = rkLn K (r + 1) rows a + (sumE (fun c => desc K c r) ((rowsP K rows a).take p) + i * desc K e.1 r) := by
  rw [rkLn_app ha]
  simp only [rkLn, he, List.length_cons, List.length_nil, Nat.zero_add, Nat.add_comm 1 r]
  omega
theorem rkD_app : ∀ {a b : Pa} {rows : Es α}, Val K rows a → rkD K rows (a ++ b) = rkDn K rows a + rkD K (rowsP K rows a) b
  | [], b, rows, _ => by simp [rkDn, rowsP]
  | (p, i) :: a, b, rows, ⟨e, he, h0, h1, hv⟩ => by
    simp only [List.cons_append, rkD, rkDn, he, rowsP, rkD_app (b := b) hv]
    omega
theorem rkDn_app : ∀ {a b : Pa} {rows : Es α}, Val K rows a → rkDn K rows (a ++ b) = rkDn K rows a + rkDn K (rowsP K rows a) b
  | [], b, rows, _ => by simp [rkDn, rowsP]
  | (p, i) :: a, b, rows, ⟨e, he, h0, h1, hv⟩ => by
    simp only [List.cons_append, rkDn, he, rowsP, rkDn_app (b := b) hv]
    omega
theorem rkDn_snoc {a : Pa} {p : Nat} {i : Int} {rows : Es α} {e : α × Int} (ha : Val K rows a) (he : (rowsP K rows a)[p]? = some e) :
    rkDn K rows (a ++ [(p, i)]) = rkDn K rows a + (sumE (size K) ((rowsP K rows a).drop (p + 1)) + (e.2 - 1 - i) * size K e.1 + 1) := by
  rw [rkDn_app ha]
  simp only [rkDn, he]
  omega
theorem rkD_all {a : Pa} {rows : Es α} (ha : Val K rows a) : rkD K rows a = rkDn K rows a - 1 := by
  have := rkD_app (b := []) ha
  rw [List.append_nil] at this
  rw [this]
  simp only [rkD]
  omega
def ltot (K : Ks α) (rows : Es α) (d : Nat) : Int := sumE (fun c => desc K c d) rows
def numL (K : Ks α) (rows : Es α) (q : Pa) : Int := sumN (ltot K rows) (q.length - 1) + rkL K rows q
theorem ltot_nonneg (hK : Ok K) {rows : Es α} (h : OkE K rows) (d : Nat) : 0 ≤ ltot K rows d := h.sumL hK d
theorem ltot_big (hK : Ok K) {rows : Es α} (h : OkE K rows) {d : Nat} (hd : mxl K rows ≤ d) : ltot K rows d = 0 := by
  unfold ltot
  rw [← sumE_zero (es := rows)]
  refine sumE_congr fun e he => desc_big hK _ _ (h e he).1 ?_
  have := le_maxL (List.mem_map_of_mem (f := fun e : α × Int => lev K e.1) he)
  unfold mxl at hd
  omega
/-- all tasks, level by level -/
theorem total_levels (hK : Ok K) {rows : Es α} (h : OkE K rows) {n : Nat} (hn : mxl K rows ≤ n) : sumN (ltot K rows) n = sumE (size K) rows := by
  unfold ltot
  rw [sumN_sumE]
  refine sumE_congr fun e he => size_sum hK _ _ (h e he).1 ?_
  have := le_maxL (List.mem_map_of_mem (f := fun e : α × Int => lev K e.1) he)
  unfold mxl at hn
  omega
theorem sumN_mono {f : Nat → Int} (h : ∀ i, 0 ≤ f i) {n m : Nat} (hnm : n ≤ m) : sumN f n ≤ sumN f m := by
  induction m with
  | zero =>
    have : n = 0 := by omega
    rw [this]
    exact Int.le_refl _
  | succ m ih =>
    by_cases e : n = m + 1
    · rw [e]; exact Int.le_refl _
    · have := ih (by omega)
      have := h m
      simp only [sumN]
      omega
theorem sumN_nonneg {f : Nat → Int} (h : ∀ i, 0 ≤ f i) (n : Nat) : 0 ≤ sumN f n := by
  have := sumN_mono h (Nat.zero_le n)
  simpa [sumN] using this
/-- a level has tasks where a path of its length lies -/
theorem val_lev (hK : Ok K) {rows : Es α} (h : OkE K rows) {q : Pa} (hq : q ≠ []) (hv : Val K rows q) : q.length ≤ mxl K rows := by
  rcases Nat.lt_or_ge (mxl K rows) q.length with c | c
  · exfalso
    obtain ⟨x, q', rfl⟩ := List.exists_cons_of_ne_nil hq
    obtain ⟨p, i⟩ := x
    have r := rkL_range hK q' h hv
    have z := ltot_big hK h (d := q'.length) (by simp at c; omega)
    unfold ltot at z
    omega
  · exact c
theorem numL_range (hK : Ok K) {rows : Es α} (h : OkE K rows) {q : Pa} (hq : q ≠ []) (hv : Val K rows q) :
    sumN (ltot K rows) (q.length - 1) ≤ numL K rows q ∧ numL K rows q < sumN (ltot K rows) q.length ∧ 0 ≤ numL K rows q ∧ numL K rows q < sumE (size K) rows := by
  have hl := val_lev hK h hq hv
  obtain ⟨x, q', rfl⟩ := List.exists_cons_of_ne_nil hq
  obtain ⟨p, i⟩ := x
  have r := rkL_range hK q' h hv
  have t := total_levels hK h (Nat.le_refl (mxl K rows))
  have m := sumN_mono (ltot_nonneg hK h) (show q'.length + 1 ≤ mxl K rows by simpa using hl)
  have m0 := sumN_nonneg (ltot_nonneg hK h) q'.length
  have e : sumN (ltot K rows) (q'.length + 1) = sumN (ltot K rows) q'.length + sumE (fun c => desc K c q'.length) rows := rfl
  unfold numL
  simp only [List.length_cons, Nat.add_sub_cancel]
  omega
theorem numL_inj (hK : Ok K) {rows : Es α} (h : OkE K rows) {x y : Pa} (hx : x ≠ []) (hy : y ≠ []) (vx : Val K rows x) (vy : Val K rows y) (e : numL K rows x = numL K rows y) : x = y := by
  have rx := numL_range hK h hx vx
  have ry := numL_range hK h hy vy
  have nn := ltot_nonneg hK h
  have lx := List.length_pos_iff.mpr hx
  have ly := List.length_pos_iff.mpr hy
  rcases Nat.lt_trichotomy x.length y.length with c | c | c
  · have := sumN_mono nn (show x.length ≤ y.length - 1 by omega)
    omega
  · refine rkL_inj hK h vx vy c ?_
    unfold numL at e
    rw [c] at e
    omega
  · have := sumN_mono nn (show y.length ≤ x.length - 1 by omega)
    omega
end
end PM
namespace PM
section
variable {α : Type} [DecidableEq α] {K : Ks α}
/-- the tasks below a task, listed -/
def kids (a : Pa) : Nat → Es α → List Pa
  | _, [] => []
  | n, e :: r => ((List.range e.2.toNat).map fun (i : Nat) => a ++ [(n, (i : Int))]) ++ kids a (n + 1) r
theorem kids_snoc {a : Pa} : ∀ {rows : Es α} {n : Nat} {e : α × Int}, kids a n (rows ++ [e]) = kids a n rows ++ (List.range e.2.toNat).map fun (i : Nat) => a ++ [(n + rows.length, (i : Int))]
  | [], n, e => by simp [kids]
  | x :: rows, n, e => by
    simp only [List.cons_append, kids, kids_snoc (rows := rows), List.append_assoc, List.length_cons]
    rw [show n + 1 + rows.length = n + (rows.length + 1) by omega]
theorem mem_kids {a q : Pa} : ∀ {rows : Es α} {n : Nat}, q ∈ kids a n rows ↔ ∃ p i e, rows[p]? = some e ∧ 0 ≤ i ∧ i < e.2 ∧ q = a ++ [(n + p, i)]
  | [], n => by simp [kids]
  | x :: rows, n => by
    simp only [kids, List.mem_append, List.mem_map, List.mem_range, mem_kids (rows := rows)]
    constructor
    · rintro (⟨i, hi, rfl⟩ | ⟨p, i, e, he, h0, h1, rfl⟩)
      · exact ⟨0, i, x, rfl, by omega, by omega, rfl⟩
      · exact ⟨p + 1, i, e, he, h0, h1, by rw [show n + 1 + p = n + (p + 1) by omega]⟩
    · rintro ⟨p, i, e, he, h0, h1, rfl⟩
      cases p with
      | zero =>
        have : x = e := by simpa using he
        subst this
        exact .inl ⟨i.toNat, by omega, by rw [Int.toNat_of_nonneg h0]; rfl⟩
      | succ p => exact .inr ⟨p, i, e, by simpa using he, h0, h1, by rw [show n + 1 + p = n + (p + 1) by omega]⟩
/-- steps in order -/
def sib (a x y : Pa) : Prop := ∃ p i p' i', x = a ++ [(p, i)] ∧ y = a ++ [(p', i')] ∧ (p < p' ∨ p = p' ∧ i < i')
theorem kids_sib {a : Pa} : ∀ {rows : Es α} {n : Nat}, (kids a n rows).Pairwise (sib a)
  | [], n => by simp [kids]
  | x :: rows, n => by
    simp only [kids]
    refine List.pairwise_append.mpr ⟨?_, kids_sib, ?_⟩
    · rw [List.pairwise_map]
      exact List.pairwise_lt_range.imp fun {i j} h => ⟨_, _, _, _, rfl, rfl, .inr ⟨rfl, by omega⟩⟩
    · intro y hy z hz
      obtain ⟨i, _, rfl⟩ := List.mem_map.mp hy
      obtain ⟨p, j, e, _, _, _, rfl⟩ := mem_kids.mp hz
      exact ⟨_, _, _, _, rfl, rfl, .inl (by omega)⟩
theorem sib_ltL {a x y : Pa} (h : sib a x y) : ltL x y := by
  obtain ⟨p, i, p', i', rfl, rfl, h⟩ := h
  induction a with
  | nil => rcases h with h | ⟨h, h2⟩; exact .inl h; exact .inr ⟨h, .inl h2⟩
  | cons s a ih => exact .inr ⟨rfl, .inr ⟨rfl, ih⟩⟩
theorem ltL_ext : ∀ {x y : Pa} (u v : Pa), ltL x y → ltL (x ++ u) (y ++ v)
  | [], _, u, v, h => absurd h (by simp [ltL])
  | _ :: _, [], u, v, h => absurd h (by simp [ltL])
  | (p, i) :: q, (p', i') :: q', u, v, h => by
    rcases h with h | ⟨rfl, h | ⟨rfl, h⟩⟩
    · exact .inl h
    · exact .inr ⟨rfl, .inl h⟩
    · exact .inr ⟨rfl, .inr ⟨rfl, ltL_ext u v h⟩⟩
/-- the branch of one is before that of the other -/
def brD : Pa → Pa → Prop
  | (p, i) :: q, (p', i') :: q' => p' < p ∨ p = p' ∧ (i' < i ∨ i = i' ∧ brD q q')
  | _, _ => False
theorem brD_ext : ∀ {x y : Pa} (u : Pa), brD x y → brD (x ++ u) y
  | [], _, u, h => absurd h (by simp [brD])
  | _ :: _, [], u, h => absurd h (by simp [brD])
  | (p, i) :: q, (p', i') :: q', u, h => by
    rcases h with h | ⟨rfl, h | ⟨rfl, h⟩⟩
    · exact .inl h
    · exact .inr ⟨rfl, .inl h⟩
    · exact .inr ⟨rfl, .inr ⟨rfl, brD_ext u h⟩⟩
theorem brD_lt : ∀ {x y : Pa}, brD x y → ltD x y
  | [], _, h => absurd h (by simp [brD])
  | _ :: _, [], h => absurd h (by simp [brD])
  | (p, i) :: q, (p', i') :: q', h => by
    rcases h with h | ⟨rfl, h | ⟨rfl, h⟩⟩
    · exact .inl h
    · exact .inr ⟨rfl, .inl h⟩
    · exact .inr ⟨rfl, .inr ⟨rfl, brD_lt h⟩⟩
theorem sib_brD {a x y : Pa} (h : sib a x y) : brD y x := by
  obtain ⟨p, i, p', i', rfl, rfl, h⟩ := h
  induction a with
  | nil => rcases h with h | ⟨h, h2⟩; exact .inl h; exact .inr ⟨h.symm, .inl h2⟩
  | cons s a ih => exact .inr ⟨rfl, .inr ⟨rfl, ih⟩⟩
theorem ltD_snoc : ∀ (a : Pa) (x : Nat × Int), ltD a (a ++ [x])
  | [], x => trivial
  | y :: a, x => .inr ⟨rfl, .inr ⟨rfl, ltD_snoc a x⟩⟩
/-- a list of growing whole numbers with every number of a range -/
theorem grow_at : ∀ {l : List Int} {a b : Int}, l.Pairwise (· < ·) → (∀ x ∈ l, a ≤ x ∧ x < b) → (∀ n, a ≤ n → n < b → n ∈ l) → a ≤ b → (l.length : Int) = b - a ∧ ∀ (j : Nat) x, l[j]? = some x → x = a + j
  | [], a, b, _, _, hall, hab => by
    refine ⟨?_, fun j x e => by simp at e⟩
    by_cases c : a < b
    · exact absurd (hall a (Int.le_refl a) c) (by simp)
    · simp; omega
  | h :: l, a, b, hp, hr, hall, hab => by
    have hh := hr h (by simp)
    rw [List.pairwise_cons] at hp
    have e : h = a := by
      rcases List.mem_cons.mp (hall a (Int.le_refl a) (by omega)) with c | c
      · exact c.symm
      · have := hp.1 a c
        omega
    subst e
    have ih := grow_at (l := l) (a := h + 1) (b := b) hp.2 (fun x hx => ⟨by have := hp.1 x hx; omega, (hr x (by simp [hx])).2⟩) (fun n h0 h1 => by
      rcases List.mem_cons.mp (hall n (by omega) h1) with c | c
      · omega
      · exact c) (by omega)
    refine ⟨by rw [List.length_cons]; omega, fun j x hx => ?_⟩
    cases j with
    | zero => simp at hx; omega
    | succ j =>
      have := ih.2 j x (by simpa using hx)
      omega
/-- growing numbers of a range are no more than it has -/
theorem grow_len : ∀ {l : List Int} {a b : Int}, l.Pairwise (· < ·) → (∀ x ∈ l, a ≤ x ∧ x < b) → a ≤ b → (l.length : Int) ≤ b - a
  | [], a, b, _, _, hab => by simp; omega
  | h :: l, a, b, hp, hr, hab => by
    have hh := hr h (by simp)
    rw [List.pairwise_cons] at hp
    have ih := grow_len (l := l) (a := h + 1) (b := b) hp.2 (fun x hx => ⟨by have := hp.1 x hx; omega, (hr x (by simp [hx])).2⟩) (by omega)
    rw [List.length_cons]
    omega
end
section
variable {α : Type} [DecidableEq α] {K : Ks α} {rows : Es α}
/-- what a queue keeps: R have started, S wait, in the order of their leaving -/
structure Que (K : Ks α) (rows : Es α) (lt wt : Pa → Pa → Prop) (R S : List Pa) : Prop where
  rr : R.Pairwise lt
  rs : ∀ x ∈ R, ∀ y ∈ S, lt x y
  ss : S.Pairwise wt
  ok : ∀ x ∈ R ++ S, x ≠ [] ∧ Val K rows x
  top : ∀ x ∈ kids [] 0 rows, x ∈ R ++ S
  low : ∀ x ∈ R, ∀ y ∈ kids x 0 (rowsP K rows x), y ∈ R ++ S
theorem kids_ok {a : Pa} (ha : Val K rows a) {x : Pa} (h : x ∈ kids a 0 (rowsP K rows a)) : x ≠ [] ∧ Val K rows x := by
  obtain ⟨p, i, e, he, h0, h1, rfl⟩ := mem_kids.mp h
  exact ⟨by simp, val_snoc ha (by simpa using he) h0 h1⟩
theorem Que.all {lt wt : Pa → Pa → Prop} {R : List Pa} (q : Que K rows lt wt R []) : ∀ (n : Nat) (x : Pa), x.length = n → x ≠ [] → Val K rows x → x ∈ R
  | 0, x, hl, hx, _ => absurd (List.length_eq_zero_iff.mp hl) hx
  | n + 1, x, hl, hx, hv => by
    have e := List.dropLast_concat_getLast hx
    generalize hy : x.dropLast = y at e
    generalize x.getLast hx = s at e
    obtain ⟨p, i⟩ := s
    rw [← e] at hv hl ⊢
    have hv2 := val_app hv
    obtain ⟨e2, he, h0, h1, _⟩ := hv2.2
    have hk : y ++ [(p, i)] ∈ kids y 0 (rowsP K rows y) := mem_kids.mpr ⟨p, i, e2, he, h0, h1, by simp⟩
    by_cases hn : y = []
    · subst hn
      have := q.top _ hk
      simpa using this
    · have hyR := q.all n y (by simpa using hl) hn hv2.1
      have := q.low y hyR _ hk
      simpa using this
def dueL (K : Ks α) (rows : Es α) (x y : Pa) : Prop := numL K rows x < numL K rows y
def dueD (K : Ks α) (rows : Es α) (x y : Pa) : Prop := rkD K rows x < rkD K rows y
theorem dueL_len (hK : Ok K) (h : OkE K rows) {x y : Pa} (hx : x ≠ []) (hy : y ≠ []) (vx : Val K rows x) (vy : Val K rows y) (hl : x.length < y.length) : dueL K rows x y := by
  have rx := numL_range hK h hx vx
  have ry := numL_range hK h hy vy
  have := sumN_mono (ltot_nonneg hK h) (show x.length ≤ y.length - 1 by omega)
  unfold dueL
  omega
theorem dueL_lt (hK : Ok K) (h : OkE K rows) {x y : Pa} (vx : Val K rows x) (vy : Val K rows y) (hl : x.length = y.length) (q : ltL x y) : dueL K rows x y := by
  have := rkL_lt hK h vx vy hl q
  unfold dueL numL
  rw [hl]
  omega
/-- children in the order of their parents -/
theorem dueL_kids (hK : Ok K) (h : OkE K rows) {x y : Pa} (hx : x ≠ []) (hy : y ≠ []) (vx : Val K rows x) (vy : Val K rows y) (q : dueL K rows x y) {u v : Pa}
    (hu : u ∈ kids x 0 (rowsP K rows x)) (hv : v ∈ kids y 0 (rowsP K rows y)) : dueL K rows u v := by
  have ou := kids_ok vx hu
  have ov := kids_ok vy hv
  obtain ⟨p, i, e, _, _, _, rfl⟩ := mem_kids.mp hu
  obtain ⟨p', i', e', _, _, _, rfl⟩ := mem_kids.mp hv
  rcases Nat.lt_trichotomy x.length y.length with c | c | c
  · exact dueL_len hK h ou.1 ov.1 ou.2 ov.2 (by simpa using c)
  · rcases ltL_tri x y c with d | d | d
    · exact dueL_lt hK h ou.2 ov.2 (by simpa using c) (ltL_ext _ _ d)
    · subst d
      exact absurd q (by unfold dueL; omega)
    · have := dueL_lt hK h vy vx c.symm d
      unfold dueL at q this
      omega
  · have := dueL_len hK h hy hx vy vx c
    unfold dueL at q this
    omega
/-- what waits first came first: every waiting one is a root or the child of a started one -/
def From (K : Ks α) (rows : Es α) (R S : List Pa) : Prop := ∀ x ∈ R ++ S, x.length = 1 ∨ ∃ r ∈ R, x ∈ kids r 0 (rowsP K rows r)
theorem kids_dueL (hK : Ok K) (h : OkE K rows) {a : Pa} (ha : Val K rows a) : (kids a 0 (rowsP K rows a)).Pairwise (dueL K rows) :=
  List.Pairwise.imp_of_mem (fun {x y} hx hy s => by
    have ox := kids_ok ha hx
    have oy := kids_ok ha hy
    refine dueL_lt hK h ox.2 oy.2 ?_ (sib_ltL s)
    obtain ⟨p, i, p', i', rfl, rfl, _⟩ := s
    simp) kids_sib
theorem Que.fifo0 (hK : Ok K) (h : OkE K rows) : Que K rows (dueL K rows) (dueL K rows) [] (kids [] 0 rows) ∧ From K rows [] (kids [] 0 rows) :=
  ⟨⟨.nil, fun x hx => by simp at hx, kids_dueL hK h (a := []) trivial, fun x hx => kids_ok (a := []) trivial (by simpa [rowsP] using hx), fun x hx => by simpa using hx, fun x hx => by simp at hx⟩,
   fun x hx => by
    obtain ⟨p, i, e, _, _, _, rfl⟩ := mem_kids.mp (by simpa using hx : x ∈ kids [] 0 rows)
    exact .inl (by simp)⟩
theorem Que.fifo (hK : Ok K) (h : OkE K rows) {R S : List Pa} {q : Pa} (Q : Que K rows (dueL K rows) (dueL K rows) R (q :: S)) (F : From K rows R (q :: S)) :
    Que K rows (dueL K rows) (dueL K rows) (R ++ [q]) (S ++ kids q 0 (rowsP K rows q)) ∧ From K rows (R ++ [q]) (S ++ kids q 0 (rowsP K rows q)) := by
  have oq := Q.ok q (by simp)
  have ss := List.pairwise_cons.mp Q.ss
  -- what is there is before the new ones
  have bef : ∀ x ∈ R ++ q :: S, ∀ y ∈ kids q 0 (rowsP K rows q), dueL K rows x y := fun x hx y hy => by
    have ox := Q.ok x hx
    have oy := kids_ok oq.2 hy
    rcases F x hx with l1 | ⟨r, hr, hk⟩
    · refine dueL_len hK h ox.1 oy.1 ox.2 oy.2 ?_
      obtain ⟨p, i, e, _, _, _, rfl⟩ := mem_kids.mp hy
      have := List.length_pos_iff.mpr oq.1
      simp; omega
    · have or := Q.ok r (by simp [hr])
      exact dueL_kids hK h or.1 oq.1 or.2 oq.2 (Q.rs r hr q (by simp)) hk hy
  have mem : ∀ x, x ∈ R ++ q :: S → x ∈ R ++ [q] ++ (S ++ kids q 0 (rowsP K rows q)) := fun x hx => by
    simp only [List.mem_append, List.mem_cons, List.not_mem_nil, or_false] at hx ⊢
    rcases hx with a | a | a
    · exact .inl (.inl a)
    · exact .inl (.inr a)
    · exact .inr (.inl a)
  refine ⟨⟨?_, ?_, ?_, ?_, fun x hx => mem x (Q.top x hx), ?_⟩, ?_⟩
  · exact List.pairwise_append.mpr ⟨Q.rr, by simp, fun x hx y hy => by simp at hy; subst hy; exact Q.rs x hx y (by simp)⟩
  · intro x hx y hy
    rcases List.mem_append.mp hy with b | b
    · rcases List.mem_append.mp hx with a | a
      · exact Q.rs x a y (by simp [b])
      · simp at a; subst a; exact ss.1 y b
    · exact bef x (by simp only [List.mem_append, List.mem_cons, List.not_mem_nil, or_false] at hx ⊢; rcases hx with a | a; exact .inl a; exact .inr (.inl a)) y b
  · exact List.pairwise_append.mpr ⟨ss.2, kids_dueL hK h oq.2, fun x hx y hy => bef x (by simp [hx]) y hy⟩
  · intro x hx
    simp only [List.mem_append, List.mem_cons, List.not_mem_nil, or_false] at hx
    rcases hx with (a | a) | a | a
    · exact Q.ok x (by simp [a])
    · exact Q.ok x (by simp [a])
    · exact Q.ok x (by simp [a])
    · exact kids_ok oq.2 a
  · intro x hx y hy
    rcases List.mem_append.mp hx with a | a
    · exact mem y (Q.low x a y hy)
    · simp at a
      subst a
      simp [hy]
  · intro x hx
    simp only [List.mem_append, List.mem_cons, List.not_mem_nil, or_false] at hx
    have old : x ∈ R ++ q :: S → x.length = 1 ∨ ∃ r ∈ R ++ [q], x ∈ kids r 0 (rowsP K rows r) := fun z => by
      rcases F x z with c | ⟨r, hr, hk⟩
      · exact .inl c
      · exact .inr ⟨r, by simp [hr], hk⟩
    rcases hx with (a | a) | a | a
    · exact old (by simp [a])
    · exact old (by simp [a])
    · exact old (by simp [a])
    · exact .inr ⟨q, by simp, a⟩
theorem kids_brD {a : Pa} : (kids a 0 (rowsP K rows a)).reverse.Pairwise brD := by
  rw [List.pairwise_reverse]
  exact kids_sib.imp fun {x y} s => sib_brD s
theorem Que.lifo0 (hK : Ok K) (h : OkE K rows) : Que K rows (dueD K rows) brD [] (kids [] 0 rows).reverse :=
  ⟨.nil, fun x hx => by simp at hx, kids_brD (K := K) (rows := rows) (a := []), fun x hx => kids_ok (a := []) trivial (by simpa [rowsP] using hx), fun x hx => by simpa using hx, fun x hx => by simp at hx⟩
theorem Que.lifo (hK : Ok K) (h : OkE K rows) {R S : List Pa} {q : Pa} (Q : Que K rows (dueD K rows) brD R (q :: S)) :
    Que K rows (dueD K rows) brD (R ++ [q]) ((kids q 0 (rowsP K rows q)).reverse ++ S) := by
  have oq := Q.ok q (by simp)
  have ss := List.pairwise_cons.mp Q.ss
  have low : ∀ y ∈ kids q 0 (rowsP K rows q), dueD K rows q y := fun y hy => by
    have oy := kids_ok oq.2 hy
    refine rkD_lt hK h oq.2 oy.2 ?_
    obtain ⟨p, i, e, _, _, _, rfl⟩ := mem_kids.mp hy
    exact ltD_snoc _ _
  have mem : ∀ x, x ∈ R ++ q :: S → x ∈ R ++ [q] ++ ((kids q 0 (rowsP K rows q)).reverse ++ S) := fun x hx => by
    simp only [List.mem_append, List.mem_cons, List.not_mem_nil, or_false] at hx ⊢
    rcases hx with a | a | a
    · exact .inl (.inl a)
    · exact .inl (.inr a)
    · exact .inr (.inr a)
  refine ⟨?_, ?_, ?_, ?_, fun x hx => mem x (Q.top x hx), ?_⟩
  · exact List.pairwise_append.mpr ⟨Q.rr, by simp, fun x hx y hy => by simp at hy; subst hy; exact Q.rs x hx y (by simp)⟩
  · intro x hx y hy
    rcases List.mem_append.mp hy with b | b
    · have l := low y (List.mem_reverse.mp b)
      rcases List.mem_append.mp hx with a | a
      · have := Q.rs x a q (by simp)
        unfold dueD at l this ⊢
        omega
      · simp at a; subst a; exact l
    · rcases List.mem_append.mp hx with a | a
      · exact Q.rs x a y (by simp [b])
      · simp at a
        subst a
        exact rkD_lt hK h oq.2 (Q.ok y (by simp [b])).2 (brD_lt (ss.1 y b))
  · refine List.pairwise_append.mpr ⟨kids_brD, ss.2, fun x hx y hy => ?_⟩
    obtain ⟨p, i, e, _, _, _, rfl⟩ := mem_kids.mp (List.mem_reverse.mp hx)
    exact brD_ext _ (ss.1 y hy)
  · intro x hx
    simp only [List.mem_append, List.mem_cons, List.not_mem_nil, or_false] at hx
    rcases hx with (a | a) | a | a
    · exact Q.ok x (by simp [a])
    · exact Q.ok x (by simp [a])
    · exact kids_ok oq.2 (List.mem_reverse.mp a)
    · exact Q.ok x (by simp [a])
  · intro x hx y hy
    rcases List.mem_append.mp hx with a | a
    · exact mem y (Q.low x a y hy)
    · simp at a
      subst a
      simp [hy]
end
end PM
namespace PM
section
variable {α : Type} [DecidableEq α]
/-- of the tree of s: the tasks above a distance that have a descendant at it -/
def abv : Ks α → α → Nat → Int
  | [], _, _ => 0
  | k :: r, s, d => if k.1 = s then (match d with
    | 0 => 0
    | d + 1 => if d + 1 ≤ maxL (k.2.map fun e => lev r e.1) then 1 + sumE (fun c => abv r c d) k.2 else 0) else abv r s d
/-- .. those of the kind x -/
def abvT (x : α) : Ks α → α → Nat → Int
  | [], _, _ => 0
  | k :: r, s, d => if k.1 = s then (match d with
    | 0 => 0
    | d + 1 => if d + 1 ≤ maxL (k.2.map fun e => lev r e.1) then (if s = x then 1 else 0) + sumE (fun c => abvT x r c d) k.2 else 0) else abvT x r s d
/-- how many tasks are open before the start of a task, level by level -/
def opL (K : Ks α) : Es α → Pa → Int
  | _, [] => 0
  | rows, (p, i) :: q => match rows[p]? with
    | none => 0
    | some e => sumE (fun c => abv K c (q.length + 1)) (rows.take p) + i * abv K e.1 (q.length + 1) + (e.2 - 1 - i) * abv K e.1 q.length + sumE (fun c => abv K c q.length) (rows.drop (p + 1)) + ((if q = [] then 0 else 1) + opL K (ents K e.1) q)
section
variable {K : Ks α} {s x : α}
theorem abv_skip {k : α × Es α} (h : Ok (k :: K)) (hs : s ∈ K.map (·.1)) (d : Nat) : abv (k :: K) s d = abv K s d := by simp only [abv]; rw [if_neg (ne_of_mem h hs)]
theorem abv_zero : ∀ {K : Ks α} {s : α}, abv K s 0 = 0
  | [], _ => rfl
  | k :: r, s => by simp only [abv]; split <;> first | rfl | exact abv_zero
theorem abv_succ : ∀ {K : Ks α}, Ok K → ∀ {s : α}, s ∈ K.map (·.1) → ∀ d : Nat, abv K s (d + 1) = if d + 1 < lev K s then 1 + sumE (fun c => abv K c d) (ents K s) else 0
  | k :: r, h, s, hs, d => by
    by_cases e : k.1 = s
    · have h1 : lev (k :: r) s = 1 + maxL (k.2.map fun e => lev r e.1) := by simp only [lev]; rw [if_pos e]
      have h2 : ents (k :: r) s = k.2 := by simp only [ents]; rw [if_pos e]
      rw [h1, h2]
      have h3 : sumE (fun c => abv (k :: r) c d) k.2 = sumE (fun c => abv r c d) k.2 := sumE_congr fun z hz => abv_skip h (h.2.1 z hz).1 d
      rw [h3]
      simp only [abv]
      rw [if_pos e]
      by_cases q : d + 1 ≤ maxL (k.2.map fun e => lev r e.1)
      · rw [if_pos q, if_pos (show d + 1 < 1 + maxL (k.2.map fun e => lev r e.1) by omega)]
      · rw [if_neg q, if_neg (show ¬ d + 1 < 1 + maxL (k.2.map fun e => lev r e.1) by omega)]
    · have hs' := mem_tl hs e
      rw [abv_skip h hs', lev_skip h hs', ents_skip h hs', abv_succ h.2.2 hs' d]
      congr 2
      exact sumE_congr fun z hz => (abv_skip h (ents_ok h.2.2 s z hz).1 d).symm
theorem abv_big (hK : Ok K) (hs : s ∈ K.map (·.1)) {d : Nat} (h : lev K s ≤ d) : abv K s d = 0 := by
  cases d with
  | zero => exact abv_zero
  | succ d => rw [abv_succ hK hs, if_neg (by omega)]
theorem abv_nonneg : ∀ {K : Ks α}, Ok K → ∀ (s : α) (d : Nat), 0 ≤ abv K s d
  | [], _, _, _ => by simp [abv]
  | k :: r, h, s, d => by
    simp only [abv]
    split
    · cases d with
      | zero => simp
      | succ d =>
        simp only
        split
        · have := sumE_nonneg (f := fun c => abv r c d) (es := k.2) fun e he => ⟨abv_nonneg h.2.2 _ _, by have := (h.2.1 e he).2; omega⟩
          omega
        · omega
    · exact abv_nonneg h.2.2 s d
end
def sumX (f : α → Int) : List α → Int
  | [] => 0
  | x :: r => f x + sumX f r
theorem sumX_congr {f g : α → Int} : ∀ {l : List α}, (∀ x ∈ l, f x = g x) → sumX f l = sumX g l
  | [], _ => rfl
  | x :: r, h => by simp only [sumX]; rw [h x (by simp), sumX_congr fun y hy => h y (by simp [hy])]
theorem sumX_zero : ∀ {l : List α}, sumX (fun _ => (0 : Int)) l = 0
  | [] => rfl
  | x :: r => by simp only [sumX]; rw [sumX_zero]; rfl
end
end PM
namespace PM
section
variable {α : Type} [DecidableEq α] {K : Ks α}
abbrev Wv := Int × Int × Int × Int
/-- w tells of the starts of the forest rows at distance d -/
structure WvR (K : Ks α) (rows : Es α) (d : Nat) (w : Wv) : Prop where
  n : w.1 = sumE (fun c => desc K c d) rows
  t : w.2.1 = sumE (fun c => abv K c (d + 1)) rows - sumE (fun c => abv K c d) rows
  le : ∀ q, Val K rows q → q.length = d + 1 → opL K rows q - sumE (fun c => abv K c d) rows ≤ w.2.2.1
  lt : ∀ q, Val K rows q → q.length = d + 1 → rkL K rows q < w.2.2.2 → opL K rows q - sumE (fun c => abv K c d) rows < w.2.2.1
  ex : ∃ q, Val K rows q ∧ q.length = d + 1 ∧ rkL K rows q = w.2.2.2 ∧ opL K rows q - sumE (fun c => abv K c d) rows = w.2.2.1
def valT (K : Ks α) (s : α) (q : Pa) : Int := (if q = [] then 0 else 1) + opL K (ents K s) q
/-- w tells of the starts of the tree of s at distance d -/
structure WvT (K : Ks α) (s : α) (d : Nat) (w : Wv) : Prop where
  n : w.1 = desc K s d
  t : w.2.1 = abv K s (d + 1) - abv K s d
  le : ∀ q, Val K (ents K s) q → q.length = d → valT K s q - abv K s d ≤ w.2.2.1
  lt : ∀ q, Val K (ents K s) q → q.length = d → rkL K (ents K s) q < w.2.2.2 → valT K s q - abv K s d < w.2.2.1
  ex : ∃ q, Val K (ents K s) q ∧ q.length = d ∧ rkL K (ents K s) q = w.2.2.2 ∧ valT K s q - abv K s d = w.2.2.1
def repW (w : Wv) (m : Int) : Wv := if 0 < w.2.1 then (m * w.1, m * w.2.1, w.2.2.1 + (m - 1) * w.2.1, w.2.2.2 + (m - 1) * w.1) else (m * w.1, m * w.2.1, w.2.2.1, w.2.2.2)
theorem val_one {e : α × Int} {q : Pa} {n : Nat} (hv : Val K [e] q) (hl : q.length = n + 1) : ∃ i q', q = (0, i) :: q' ∧ 0 ≤ i ∧ i < e.2 ∧ Val K (ents K e.1) q' ∧ q'.length = n := by
  match q, hv, hl with
  | (p, i) :: q', ⟨e', he, h0, h1, hv⟩, hl =>
    match p, he with
    | 0, he =>
      have e1 : e = e' := by simpa using he
      subst e1
      exact ⟨i, q', rfl, h0, h1, hv, by simpa using hl⟩
    | p + 1, he => simp at he
theorem opL_one {e : α × Int} {i : Int} {q : Pa} : opL K [e] ((0, i) :: q) = i * abv K e.1 (q.length + 1) + (e.2 - 1 - i) * abv K e.1 q.length + valT K e.1 q := by
  simp [opL, valT, sumE]
theorem rkL_one {e : α × Int} {i : Int} {q : Pa} : rkL K [e] ((0, i) :: q) = i * desc K e.1 q.length + rkL K (ents K e.1) q := by
  simp [rkL, sumE]
theorem sumE_one {f : α → Int} {e : α × Int} : sumE f [e] = e.2 * f e.1 := by simp [sumE]
theorem rkL_tree (hK : Ok K) {s : α} (hs : s ∈ K.map (·.1)) {q : Pa} (hv : Val K (ents K s) q) : 0 ≤ rkL K (ents K s) q ∧ rkL K (ents K s) q < desc K s q.length := rkL_rest hK hs hv
/-- copies of a tree -/
theorem WvT.rep (hK : Ok K) {e : α × Int} (he : e.1 ∈ K.map (·.1)) (hm : 1 ≤ e.2) {d : Nat} {w : Wv} (W : WvT K e.1 d w) : WvR K [e] d (repW w e.2) := by
  obtain ⟨n, t, best, at'⟩ := w
  obtain ⟨hn, ht, hle, hlt, hex⟩ := W
  simp only at hn ht hle hlt hex
  obtain ⟨q0, v0, l0, r0, b0⟩ := hex
  have rr := rkL_tree hK he v0
  rw [l0, ← hn, r0] at rr
  -- the value of a path
  have val : ∀ (i : Int) (q : Pa), q.length = d → opL K [e] ((0, i) :: q) - sumE (fun c => abv K c d) [e] = i * t + (valT K e.1 q - abv K e.1 d) := fun i q hl => by
    rw [opL_one, sumE_one, hl, ht]
    have : (e.2 - 1 - i) * abv K e.1 d = e.2 * abv K e.1 d - abv K e.1 d - i * abv K e.1 d := by
      rw [Int.sub_mul, Int.sub_mul, Int.one_mul]
    rw [this, Int.mul_sub]
    omega
  have rank : ∀ (i : Int) (q : Pa), q.length = d → rkL K [e] ((0, i) :: q) = i * n + rkL K (ents K e.1) q := fun i q hl => by rw [rkL_one, hl, hn]
  have ev0 : ∀ i : Int, 0 ≤ i → i < e.2 → ∀ q, Val K (ents K e.1) q → Val K [e] ((0, i) :: q) := fun i h0 h1 q hv => ⟨e, rfl, h0, h1, hv⟩
  unfold repW
  simp only
  by_cases hp : 0 < t
  · rw [if_pos hp]
    refine ⟨?_, ?_, fun q hv hl => ?_, fun q hv hl hr => ?_, (0, e.2 - 1) :: q0, ev0 _ (by omega) (by omega) _ v0, by simp [l0], ?_, ?_⟩
    · rw [sumE_one, hn]
    · rw [sumE_one, sumE_one, ← Int.mul_sub, ht]
    · obtain ⟨i, q', rfl, h0, h1, hv', hl'⟩ := val_one hv hl
      rw [val i q' hl']
      have a := hle q' hv' hl'
      have b : i * t ≤ (e.2 - 1) * t := Int.mul_le_mul_of_nonneg_right (by omega) (by omega)
      show _ ≤ best + (e.2 - 1) * t
      omega
    · obtain ⟨i, q', rfl, h0, h1, hv', hl'⟩ := val_one hv hl
      rw [rank i q' hl'] at hr
      rw [val i q' hl']
      have hr' : i * n + rkL K (ents K e.1) q' < at' + (e.2 - 1) * n := hr
      show _ < best + (e.2 - 1) * t
      by_cases hi : i = e.2 - 1
      · rw [hi] at hr' ⊢
        have := hlt q' hv' hl' (by omega)
        omega
      · have a := hle q' hv' hl'
        have b : (i + 1) * t ≤ (e.2 - 1) * t := Int.mul_le_mul_of_nonneg_right (by omega) (by omega)
        rw [Int.add_mul, Int.one_mul] at b
        omega
    · rw [rank _ _ l0, r0]
      show _ = at' + (e.2 - 1) * n
      omega
    · rw [val _ _ l0, b0]
      show _ = best + (e.2 - 1) * t
      omega
  · rw [if_neg hp]
    refine ⟨?_, ?_, fun q hv hl => ?_, fun q hv hl hr => ?_, (0, 0) :: q0, ev0 _ (by omega) (by omega) _ v0, by simp [l0], ?_, ?_⟩
    · rw [sumE_one, hn]
    · rw [sumE_one, sumE_one, ← Int.mul_sub, ht]
    · obtain ⟨i, q', rfl, h0, h1, hv', hl'⟩ := val_one hv hl
      rw [val i q' hl']
      have a := hle q' hv' hl'
      have b : i * t ≤ 0 := by
        have := Int.mul_nonneg h0 (show 0 ≤ -t by omega)
        rw [Int.mul_neg] at this
        omega
      show _ ≤ best
      omega
    · obtain ⟨i, q', rfl, h0, h1, hv', hl'⟩ := val_one hv hl
      rw [rank i q' hl'] at hr
      rw [val i q' hl']
      have hr' : i * n + rkL K (ents K e.1) q' < at' := hr
      show _ < best
      have rq := (rkL_tree hK he hv').1
      have hi : i = 0 := by
        by_cases z : i = 0
        · exact z
        · have b : 1 * n ≤ i * n := Int.mul_le_mul_of_nonneg_right (by omega) (by omega)
          omega
      subst hi
      have := hlt q' hv' hl' (by omega)
      omega
    · rw [rank _ _ l0, r0]
      show _ = at'
      omega
    · rw [val _ _ l0, b0]
      show _ = best
      omega
theorem opL_left {A B : Es α} {p : Nat} {i : Int} {q : Pa} (h : p < A.length) : opL K (A ++ B) ((p, i) :: q) = opL K A ((p, i) :: q) + sumE (fun c => abv K c q.length) B := by
  simp only [opL]
  rw [List.getElem?_append_left h]
  have : ∃ e, A[p]? = some e := ⟨A[p], by simp [h]⟩
  obtain ⟨e, he⟩ := this
  rw [he]
  simp only
  rw [List.take_append_of_le_length (by omega), List.drop_append_of_le_length (by omega), sumE_append]
  omega
theorem opL_right {A B : Es α} {p : Nat} {i : Int} {q : Pa} (h : p < B.length) : opL K (A ++ B) ((A.length + p, i) :: q) = sumE (fun c => abv K c (q.length + 1)) A + opL K B ((p, i) :: q) := by
  simp only [opL]
  rw [List.getElem?_append_right (by omega)]
  have e0 : A.length + p - A.length = p := by omega
  rw [e0]
  obtain ⟨e, he⟩ : ∃ e, B[p]? = some e := ⟨B[p], by simp [h]⟩
  rw [he]
  simp only
  rw [List.take_append, List.take_of_length_le (by omega : A.length ≤ A.length + p), e0, sumE_append, List.drop_append, List.drop_of_length_le (by omega : A.length ≤ A.length + p + 1)]
  have e1 : A.length + p + 1 - A.length = p + 1 := by omega
  rw [e1, List.nil_append]
  omega
theorem rkL_left {A B : Es α} {p : Nat} {i : Int} {q : Pa} (h : p < A.length) : rkL K (A ++ B) ((p, i) :: q) = rkL K A ((p, i) :: q) := by
  simp only [rkL]
  rw [List.getElem?_append_left h]
  obtain ⟨e, he⟩ : ∃ e, A[p]? = some e := ⟨A[p], by simp [h]⟩
  rw [he]
  simp only
  rw [List.take_append_of_le_length (by omega)]
theorem rkL_right {A B : Es α} {p : Nat} {i : Int} {q : Pa} (h : p < B.length) : rkL K (A ++ B) ((A.length + p, i) :: q) = sumE (fun c => desc K c q.length) A + rkL K B ((p, i) :: q) := by
  simp only [rkL]
  rw [List.getElem?_append_right (by omega)]
  have e0 : A.length + p - A.length = p := by omega
  rw [e0]
  obtain ⟨e, he⟩ : ∃ e, B[p]? = some e := ⟨B[p], by simp [h]⟩
  rw [he]
  simp only
  rw [List.take_append, List.take_of_length_le (by omega : A.length ≤ A.length + p), e0, sumE_append]
  omega
theorem val_left {A B : Es α} {p : Nat} {i : Int} {q : Pa} (h : Val K A ((p, i) :: q)) : Val K (A ++ B) ((p, i) :: q) ∧ p < A.length := by
  obtain ⟨e, he, r⟩ := h
  have hp : p < A.length := (List.getElem?_eq_some_iff.mp he).1
  exact ⟨⟨e, by rw [List.getElem?_append_left hp]; exact he, r⟩, hp⟩
theorem val_right {A B : Es α} {p : Nat} {i : Int} {q : Pa} (h : Val K B ((p, i) :: q)) : Val K (A ++ B) ((A.length + p, i) :: q) ∧ p < B.length := by
  obtain ⟨e, he, r⟩ := h
  have hp : p < B.length := (List.getElem?_eq_some_iff.mp he).1
  refine ⟨⟨e, ?_, r⟩, hp⟩
  rw [List.getElem?_append_right (by omega)]
  have e0 : A.length + p - A.length = p := by omega
  rw [e0]
  exact he
theorem val_cases {A B : Es α} {x : Pa} {n : Nat} (h : Val K (A ++ B) x) (hl : x.length = n + 1) : (∃ p i q, x = (p, i) :: q ∧ Val K A ((p, i) :: q) ∧ q.length = n) ∨ ∃ p i q, x = (A.length + p, i) :: q ∧ Val K B ((p, i) :: q) ∧ q.length = n := by
  match x, h, hl with
  | (p, i) :: q, ⟨e, he, r⟩, hl =>
    by_cases hp : p < A.length
    · rw [List.getElem?_append_left hp] at he
      exact .inl ⟨p, i, q, rfl, ⟨e, he, r⟩, by simpa using hl⟩
    · rw [List.getElem?_append_right (by omega)] at he
      refine .inr ⟨p - A.length, i, q, ?_, ⟨e, he, r⟩, by simpa using hl⟩
      congr 2
      omega
/-- a forest without starts there -/
def Emp (K : Ks α) (rows : Es α) (d : Nat) : Prop := ∀ e ∈ rows, lev K e.1 ≤ d
theorem Emp.sum (hK : Ok K) {B : Es α} (hB : OkE K B) {d : Nat} (h : Emp K B d) : sumE (fun c => desc K c d) B = 0 ∧ sumE (fun c => abv K c d) B = 0 ∧ sumE (fun c => abv K c (d + 1)) B = 0 := by
  refine ⟨?_, ?_, ?_⟩
  · exact (sumE_congr fun e he => desc_big hK _ _ (hB e he).1 (h e he)).trans sumE_zero
  · exact (sumE_congr fun e he => abv_big hK (hB e he).1 (h e he)).trans sumE_zero
  · exact (sumE_congr fun e he => abv_big hK (hB e he).1 (Nat.le_succ_of_le (h e he))).trans sumE_zero
end
end PM
namespace PM
section
variable {α : Type} [DecidableEq α] {K : Ks α}
/-- a task has at least its ancestors open before its start -/
theorem opL_len (hK : Ok K) : ∀ (q : Pa) {rows : Es α}, OkE K rows → Val K rows q → (q.length : Int) - 1 ≤ opL K rows q
  | [], rows, hr, hv => by simp [opL]
  | (p, i) :: q, rows, hr, ⟨e, he, h0, h1, hv⟩ => by
    simp only [opL, he]
    have a1 : ∀ (es : Es α) (d : Nat), OkE K es → 0 ≤ sumE (fun c => abv K c d) es := fun es d ho => sumE_nonneg fun z hz => ⟨abv_nonneg hK _ _, by have := (ho z hz).2; omega⟩
    have b1 := a1 _ (q.length + 1) (hr.take p)
    have b2 := a1 _ q.length (hr.drop (p + 1))
    have b3 := Int.mul_nonneg h0 (abv_nonneg hK e.1 (q.length + 1))
    have b4 := Int.mul_nonneg (show 0 ≤ e.2 - 1 - i by omega) (abv_nonneg hK e.1 q.length)
    have ih := opL_len hK q (ents_ok hK e.1) hv
    rw [List.length_cons]
    by_cases z : q = []
    · subst z
      rw [if_pos rfl]
      simp only [List.length_nil, opL] at ih b1 b2 b3 b4 ⊢
      omega
    · rw [if_neg z]
      omega
/-- the kind s starts a line of d further levels, each of m children -/
def Ln (K : Ks α) (m : Int) : Nat → α → Prop
  | 0, s => s ∈ K.map (·.1) ∧ ents K s = []
  | d + 1, s => s ∈ K.map (·.1) ∧ ∃ t, ents K s = [(t, m)] ∧ Ln K m d t
theorem Ln.mem {m : Int} {d : Nat} {s : α} (h : Ln K m d s) : s ∈ K.map (·.1) := by
  cases d with
  | zero => exact h.1
  | succ d => exact h.1
theorem Ln.lev (hK : Ok K) {m : Int} : ∀ {d : Nat} {s : α}, Ln K m d s → lev K s = d + 1
  | 0, s, ⟨h1, h2⟩ => by rw [lev_eq hK h1, h2]; rfl
  | d + 1, s, ⟨h1, t, h2, h3⟩ => by
    rw [lev_eq hK h1, h2]
    simp only [List.map_cons, List.map_nil, maxL]
    rw [h3.lev hK]
    omega
/-- one and m and m times m .. -/
def geo (m : Int) : Nat → Int
  | 0 => 0
  | d + 1 => 1 + m * geo m d
theorem geo_nonneg {m : Int} (h : 0 ≤ m) : ∀ d, 0 ≤ geo m d
  | 0 => Int.le_refl 0
  | d + 1 => by
    have := Int.mul_nonneg h (geo_nonneg h d)
    simp only [geo]
    omega
theorem geo_up {m : Int} (h : 0 ≤ m) : ∀ d, geo m d ≤ geo m (d + 1)
  | 0 => by simp [geo]
  | d + 1 => by
    have := Int.mul_le_mul_of_nonneg_left (geo_up h d) h
    simp only [geo] at this ⊢
    omega
theorem geo_mono {m : Int} (h : 0 ≤ m) {a b : Nat} (hab : a ≤ b) : geo m a ≤ geo m b := by
  induction b with
  | zero =>
    have : a = 0 := by omega
    rw [this]
    exact Int.le_refl _
  | succ b ih =>
    by_cases e : a = b + 1
    · rw [e]; exact Int.le_refl _
    · exact Int.le_trans (ih (by omega)) (geo_up h b)
theorem Ln.abv (hK : Ok K) {m : Int} : ∀ (d n : Nat) {s : α}, Ln K m n s → abv K s d = if d ≤ n then geo m d else 0
  | 0, n, s, h => by rw [abv_zero, if_pos (by omega)]; rfl
  | d + 1, n, s, h => by
    rw [abv_succ hK h.mem, h.lev hK]
    by_cases c : d + 1 < n + 1
    · rw [if_pos c, if_pos (by omega)]
      match n, h, c with
      | n + 1, ⟨h1, t, h2, h3⟩, c =>
        rw [h2]
        simp only [sumE]
        rw [Ln.abv hK d n h3, if_pos (by omega)]
        simp only [geo]
        omega
    · rw [if_neg c, if_neg (by omega)]
theorem Ln.abv_le (hK : Ok K) {m : Int} (hm : 0 ≤ m) {d n : Nat} {s : α} (h : Ln K m n s) : PM.abv K s d ≤ geo m n := by
  rw [h.abv hK]
  split
  · exact geo_mono hm (by assumption)
  · exact geo_nonneg hm _
theorem Ln.le (hK : Ok K) {m : Int} (hm : 0 ≤ m) : ∀ (q : Pa) {n : Nat} {s : α} {c : Int}, Ln K m n s → 0 ≤ c → Val K [(s, c)] q → opL K [(s, c)] q ≤ c * geo m n
  | [], n, s, c, h, hc, hv => by
    have := Int.mul_nonneg hc (geo_nonneg hm n)
    simp only [opL]
    omega
  | (p, i) :: q, n, s, c, h, hc, hv => by
    obtain ⟨i', q', e0, h0, h1, hv', _⟩ := val_one (n := q.length) hv (by simp)
    injection e0 with e1 e2
    injection e1 with e3 e4
    subst e2
    subst e3
    subst e4
    have hA : ∀ d, PM.abv K s d ≤ geo m n := fun d => h.abv_le hK hm
    have b3 : i * PM.abv K s (q.length + 1) ≤ i * geo m n := Int.mul_le_mul_of_nonneg_left (hA _) h0
    have b4 : (c - 1 - i) * PM.abv K s q.length ≤ (c - 1 - i) * geo m n := Int.mul_le_mul_of_nonneg_left (hA _) (by simp at h1; omega)
    have sp : c * geo m n = i * geo m n + (c - 1 - i) * geo m n + geo m n := by
      rw [← Int.add_mul]
      have : c * geo m n = (i + (c - 1 - i) + 1) * geo m n := by congr 1; omega
      rw [this, Int.add_mul (i + (c - 1 - i)) 1, Int.one_mul]
    rw [opL_one, sp]
    have last : valT K s q ≤ geo m n := by
      unfold valT
      by_cases z : q = []
      · subst z
        have := geo_nonneg hm n
        simp only [if_pos, opL]
        omega
      · rw [if_neg z]
        match n, h with
        | 0, ⟨g1, g2⟩ =>
          simp only at hv'
          rw [g2] at hv'
          obtain ⟨⟨a, b⟩, q3, rfl⟩ := List.exists_cons_of_ne_nil z
          obtain ⟨e, he, _⟩ := hv'
          simp at he
        | n + 1, ⟨g1, t, g2, g3⟩ =>
          simp only at hv'
          rw [g2] at hv' ⊢
          have := Ln.le hK hm q g3 hm hv'
          simp only [geo]
          omega
    show i * PM.abv K s (q.length + 1) + (c - 1 - i) * PM.abv K s q.length + valT K s q ≤ _
    omega
theorem Ln.ex (hK : Ok K) {m : Int} (hm : 1 ≤ m) : ∀ (n : Nat) {s : α} {c : Int}, Ln K m n s → 1 ≤ c → ∃ q, Val K [(s, c)] q ∧ q.length = n + 1 ∧ opL K [(s, c)] q = c * geo m n
  | 0, s, c, h, hc => by
    refine ⟨[(0, 0)], ⟨(s, c), rfl, Int.le_refl _, by simp; omega, trivial⟩, rfl, ?_⟩
    rw [opL_one]
    simp only [List.length_nil, abv_zero, valT, opL, geo, if_pos]
    omega
  | n + 1, s, c, ⟨g1, t, g2, g3⟩, hc => by
    obtain ⟨q, hv, hl, ho⟩ := Ln.ex hK hm n g3 hm
    have hq : q ≠ [] := fun z => by rw [z] at hl; simp at hl
    have hLn : Ln K m (n + 1) s := ⟨g1, t, g2, g3⟩
    refine ⟨(0, 0) :: q, ⟨(s, c), rfl, Int.le_refl _, by simp; omega, by simp only; rw [g2]; exact hv⟩, by simp [hl], ?_⟩
    rw [opL_one]
    simp only
    unfold valT
    rw [if_neg hq, g2, ho, hl, hLn.abv hK (n + 1), if_pos (Nat.le_refl _)]
    have : (c - 1 - 0) * geo m (n + 1) = c * geo m (n + 1) - geo m (n + 1) := by
      rw [Int.sub_zero, Int.sub_mul, Int.one_mul]
    rw [this, Int.zero_mul]
    simp only [geo]
    omega
end
end PM
namespace PM
section
variable {α : Type} [DecidableEq α] {K : Ks α}
theorem rkD_left {A B : Es α} {p : Nat} {i : Int} {q : Pa} (h : p < A.length) : rkD K (A ++ B) ((p, i) :: q) = sumE (size K) B + rkD K A ((p, i) :: q) := by
  have e1 : (A ++ B)[p]? = A[p]? := List.getElem?_append_left h
  obtain ⟨e, he⟩ : ∃ e, A[p]? = some e := ⟨_, List.getElem?_eq_getElem h⟩
  simp only [rkD, e1, he]
  rw [List.drop_append_of_le_length (by omega), sumE_append]
  omega
theorem rkD_right {A B : Es α} {p : Nat} {i : Int} {q : Pa} : rkD K (A ++ B) ((A.length + p, i) :: q) = rkD K B ((p, i) :: q) := by
  have e1 : (A ++ B)[A.length + p]? = B[p]? := by rw [List.getElem?_append_right (by omega)]; congr 1; omega
  have e2 : (A ++ B).drop (A.length + p + 1) = B.drop (p + 1) := by
    rw [show A.length + p + 1 = A.length + (p + 1) by omega, List.drop_append]
    simp
  simp only [rkD, e1, e2]
end
end PM
namespace PM
variable {α : Type} [DecidableEq α] {K : Ks α}
theorem kindP_mem (hK : Ok K) : ∀ (q : Pa) {rows : Es α} {s : α}, OkE K rows → Val K rows q → kindP K rows q = some s → s ∈ K.map (·.1)
  | [], rows, s, _, _, h => by cases h
  | (p, i) :: q, rows, s, ho, ⟨e, he, _, _, hv⟩, h => by
    cases q with
    | nil =>
      simp only [kindP, he] at h
      cases h
      exact (ho e (mem_at he)).1
    | cons x q' =>
      have e2 : kindP K rows ((p, i) :: x :: q') = kindP K (ents K e.1) (x :: q') := by
        rw [kindP]
        simp only [he]
      rw [e2] at h
      exact kindP_mem hK (x :: q') (ents_ok hK _) hv h
end PM
namespace PM
end PM
namespace PM
variable {α : Type} [DecidableEq α] {K : Ks α}
theorem rkD_nil {rows : Es α} : rkD K rows [] = -1 := rfl
theorem rkD_cons {rows : Es α} {p : Nat} {i : Int} {q : Pa} {e : α × Int} (he : rows[p]? = some e) : rkD K rows ((p, i) :: q) = sumE (size K) (rows.drop (p + 1)) + (e.2 - 1 - i) * size K e.1 + 1 + rkD K (ents K e.1) q := by
  simp only [rkD, he]
  omega
end PM
namespace PM
variable {α : Type} [DecidableEq α] {K : Ks α}
/-- the last task of the deepest level of a tree -/
def LastT (K : Ks α) : α → Pa → Prop
  | s, [] => ents K s = []
  | s, (p, i) :: q => ∃ e, (ents K s)[p]? = some e ∧ i = e.2 - 1 ∧ lev K e.1 + 1 = lev K s ∧ (∀ p' e', p < p' → (ents K s)[p']? = some e' → lev K e'.1 + 1 < lev K s) ∧ LastT K e.1 q
theorem LastT.ok (hK : Ok K) : ∀ (q : Pa) {s : α}, s ∈ K.map (·.1) → LastT K s q → Val K (ents K s) q ∧ q.length + 1 = lev K s ∧ rkL K (ents K s) q + 1 = desc K s q.length
  | [], s, hs, h => by
    have h : ents K s = [] := h
    have hl := lev_eq hK hs
    rw [h] at hl
    simp only [List.map_nil, maxL] at hl
    exact ⟨trivial, by simp; omega, by simp [rkL, desc_zero hs]⟩
  | (p, i) :: q, s, hs, ⟨e, he, hi, hl, hb, ht⟩ => by
    have hes := ents_ok hK s e (mem_at he)
    obtain ⟨a, b, c⟩ := LastT.ok hK q hes.1 ht
    refine ⟨⟨e, he, by omega, by omega, a⟩, by simp; omega, ?_⟩
    have hsp := sum_split (f := fun c => desc K c q.length) he
    have hz : sumE (fun c => desc K c q.length) ((ents K s).drop (p + 1)) = 0 := by
      refine (sumE_congr fun e' he' => ?_).trans sumE_zero
      obtain ⟨j, hj⟩ := List.getElem?_of_mem he'
      rw [List.getElem?_drop] at hj
      have := hb (p + 1 + j) e' (by omega) hj
      exact desc_big hK _ _ (ents_ok hK s e' (mem_at hj)).1 (by omega)
    rw [List.length_cons, desc_succ hK]
    simp only [rkL, he]
    subst hi
    have : (e.2 - 1) * desc K e.1 q.length = e.2 * desc K e.1 q.length - desc K e.1 q.length := by rw [Int.sub_mul, Int.one_mul]
    omega
def endsL (K : Ks α) (s : α) (r : Pa) : Prop := lev K s = r.length + 1 ∧ rkL K (ents K s) r + 1 = desc K s r.length
def endsD (K : Ks α) (s : α) (r : Pa) : Prop := rkD K (ents K s) r + 2 = size K s
theorem LastT.iff (hK : Ok K) {s : α} (hs : s ∈ K.map (·.1)) {t r : Pa} (ht : LastT K s t) (hr : Val K (ents K s) r) : endsL K s r ↔ r = t := by
  obtain ⟨a, b, c⟩ := LastT.ok hK t hs ht
  constructor
  · rintro ⟨h1, h2⟩
    have hl : r.length = t.length := by omega
    refine rkL_inj hK (ents_ok hK s) hr a hl ?_
    rw [hl] at h2
    omega
  · rintro rfl
    exact ⟨by omega, c⟩
theorem rkL_app {a b : Pa} {rows : Es α} (ha : Val K rows a) : rkL K rows (a ++ b) = rkLn K b.length rows a + rkL K (rowsP K rows a) b := by
  have := rkLn_app (K := K) (r := 0) (a := a) (b := b) (rows := rows) ha
  rw [rkLn_zero, rkLn_zero] at this
  simpa using this
theorem rowsP_kind : ∀ (h : Pa) {rows : Es α} {s : α}, kindP K rows h = some s → rowsP K rows h = ents K s
  | [], rows, s, hk => by cases hk
  | (p, i) :: q, rows, s, hk => by
    simp only [kindP] at hk
    simp only [rowsP]
    cases he : rows[p]? with
    | none => rw [he] at hk; cases hk
    | some e =>
      rw [he] at hk
      cases q with
      | nil => cases hk; rfl
      | cons x r => exact rowsP_kind (x :: r) hk
/-- a task below starts at the latest with the last one -/
theorem LastT.le (hK : Ok K) {rows : Es α} (ho : OkE K rows) {h t r : Pa} {s : α} (hh : h ≠ []) (hv : Val K rows h) (hk : kindP K rows h = some s) (ht : LastT K s t) (hr : Val K (ents K s) r) :
    numL K rows (h ++ r) ≤ numL K rows (h ++ t) := by
  have hs := kindP_mem hK h ho hv hk
  have hrow := rowsP_kind h hk
  obtain ⟨a, b, c⟩ := LastT.ok hK t hs ht
  have hl : r.length ≤ t.length := by
    cases r with
    | nil => simp
    | cons x r' =>
      have h1 := val_lev hK (ents_ok hK s) (by simp) hr
      have h2 := lev_eq hK hs
      have h3 : mxl K (ents K s) = maxL ((ents K s).map fun e => lev K e.1) := rfl
      omega
  have vr : Val K rows (h ++ r) := app_val hv (by rw [hrow]; exact hr)
  have vt : Val K rows (h ++ t) := app_val hv (by rw [hrow]; exact a)
  rcases Nat.lt_or_ge r.length t.length with hlt | hge
  · have := dueL_len hK ho (x := h ++ r) (y := h ++ t) (by simp [hh]) (by simp [hh]) vr vt (by simp; omega)
    exact Int.le_of_lt this
  · have he : r.length = t.length := by omega
    unfold numL
    rw [rkL_app hv, rkL_app hv, hrow, List.length_append, List.length_append, he]
    have := (rkL_rest hK hs hr).2
    rw [he] at this
    omega
theorem LastT.eq_iff (hK : Ok K) {rows : Es α} (ho : OkE K rows) {h t r : Pa} {s : α} (hh : h ≠ []) (hv : Val K rows h) (hk : kindP K rows h = some s) (ht : LastT K s t) (hr : Val K (ents K s) r) :
    numL K rows (h ++ t) = numL K rows (h ++ r) ↔ endsL K s r := by
  have hs := kindP_mem hK h ho hv hk
  have hrow := rowsP_kind h hk
  obtain ⟨a, b, c⟩ := LastT.ok hK t hs ht
  rw [LastT.iff hK hs ht hr]
  have vr : Val K rows (h ++ r) := app_val hv (by rw [hrow]; exact hr)
  have vt : Val K rows (h ++ t) := app_val hv (by rw [hrow]; exact a)
  constructor
  · intro e
    have := numL_inj hK ho (by simp [hh]) (by simp [hh]) vt vr e
    exact (List.append_cancel_left this).symm
  · rintro rfl
    rfl
theorem lastD_le (hK : Ok K) {rows : Es α} (ho : OkE K rows) {h r : Pa} {s : α} (hv : Val K rows h) (hk : kindP K rows h = some s) (hr : Val K (ents K s) r) :
    rkD K rows (h ++ r) ≤ rkD K rows h + size K s - 1 ∧ (rkD K rows h + size K s - 1 = rkD K rows (h ++ r) ↔ endsD K s r) := by
  have hs := kindP_mem hK h ho hv hk
  have hrow := rowsP_kind h hk
  have h1 := rkD_app (K := K) (b := r) hv
  have h2 := rkD_all hv
  rw [hrow] at h1
  have h3 := (rkD_rest hK hs hr).2
  unfold endsD
  constructor
  · omega
  · omega
instance (s : α) (r : Pa) : Decidable (endsL K s r) := by unfold endsL; exact inferInstance
instance (s : α) (r : Pa) : Decidable (endsD K s r) := by unfold endsD; exact inferInstance
end PM
namespace PM
variable {α : Type} [DecidableEq α]
def EsLe : Es α → Es α → Prop
  | [], [] => True
  | a :: x, b :: y => a.1 = b.1 ∧ a.2 ≤ b.2 ∧ EsLe x y
  | _, _ => False
def KsLe : Ks α → Ks α → Prop
  | [], [] => True
  | a :: x, b :: y => a.1 = b.1 ∧ EsLe a.2 b.2 ∧ KsLe x y
  | _, _ => False
theorem EsLe.refl : ∀ a : Es α, EsLe a a
  | [] => trivial
  | a :: x => ⟨rfl, Int.le_refl _, EsLe.refl x⟩
theorem KsLe.refl : ∀ a : Ks α, KsLe a a
  | [] => trivial
  | a :: x => ⟨rfl, EsLe.refl _, KsLe.refl x⟩
theorem EsLe.map {β : Type} {f g : α → β} (hfg : ∀ s, f s = g s) : ∀ {a b : Es α}, EsLe a b → (a.map fun e => f e.1) = b.map fun e => g e.1
  | [], [], _ => rfl
  | a :: x, b :: y, ⟨h1, _, h3⟩ => by rw [List.map_cons, List.map_cons, h1, hfg, EsLe.map hfg h3]
  | [], _ :: _, h => h.elim
  | _ :: _, [], h => h.elim
theorem EsLe.sum {f g : α → Int} (h0 : ∀ s, 0 ≤ f s) (hfg : ∀ s, f s ≤ g s) : ∀ {a b : Es α}, EsLe a b → (∀ e ∈ a, 0 ≤ e.2) → sumE f a ≤ sumE g b
  | [], [], _, _ => Int.le_refl _
  | a :: x, b :: y, ⟨h1, h2, h3⟩, hn => by
    have ih := EsLe.sum h0 hfg h3 fun e he => hn e (by simp [he])
    have ha := hn a (by simp)
    simp only [sumE]
    rw [h1]
    have e1 := Int.mul_le_mul h2 (hfg b.1) (h0 b.1) (Int.le_trans ha h2)
    omega
  | [], _ :: _, h, _ => h.elim
  | _ :: _, [], h, _ => h.elim
theorem EsLe.get : ∀ {a b : Es α}, EsLe a b → ∀ {p : Nat} {e : α × Int}, a[p]? = some e → ∃ e', b[p]? = some e' ∧ e.1 = e'.1 ∧ e.2 ≤ e'.2
  | [], [], _, p, e, h => by simp at h
  | a :: x, b :: y, ⟨h1, h2, h3⟩, 0, e, h => by
    cases h
    exact ⟨b, rfl, h1, h2⟩
  | a :: x, b :: y, ⟨h1, h2, h3⟩, p + 1, e, h => by
    simpa using EsLe.get h3 (by simpa using h)
  | [], _ :: _, h, _, _, _ => h.elim
  | _ :: _, [], h, _, _, _ => h.elim
theorem EsLe.take : ∀ {a b : Es α}, EsLe a b → ∀ n, EsLe (a.take n) (b.take n)
  | [], [], _, n => by simp [EsLe]
  | a :: x, b :: y, h, 0 => trivial
  | a :: x, b :: y, ⟨h1, h2, h3⟩, n + 1 => ⟨h1, h2, h3.take n⟩
  | [], _ :: _, h, _ => h.elim
  | _ :: _, [], h, _ => h.elim
theorem EsLe.drop : ∀ {a b : Es α}, EsLe a b → ∀ n, EsLe (a.drop n) (b.drop n)
  | [], [], _, n => by simp [EsLe]
  | a :: x, b :: y, h, 0 => h
  | a :: x, b :: y, ⟨h1, h2, h3⟩, n + 1 => h3.drop n
  | [], _ :: _, h, _ => h.elim
  | _ :: _, [], h, _ => h.elim
theorem KsLe.names : ∀ {a b : Ks α}, KsLe a b → a.map (·.1) = b.map (·.1)
  | [], [], _ => rfl
  | a :: x, b :: y, ⟨h1, _, h3⟩ => by rw [List.map_cons, List.map_cons, h1, h3.names]
  | [], _ :: _, h => h.elim
  | _ :: _, [], h => h.elim
theorem KsLe.ents : ∀ {a b : Ks α}, KsLe a b → ∀ s, EsLe (ents a s) (PM.ents b s)
  | [], [], _, s => trivial
  | a :: x, b :: y, ⟨h1, h2, h3⟩, s => by
    simp only [PM.ents]
    rw [← h1]
    split
    · exact h2
    · exact h3.ents s
  | [], _ :: _, h, _ => h.elim
  | _ :: _, [], h, _ => h.elim
theorem KsLe.lev : ∀ {a b : Ks α}, KsLe a b → ∀ s, lev a s = PM.lev b s
  | [], [], _, s => rfl
  | a :: x, b :: y, ⟨h1, h2, h3⟩, s => by
    simp only [PM.lev]
    rw [← h1]
    split
    · rw [EsLe.map (f := PM.lev x) (g := PM.lev y) h3.lev h2]
    · exact h3.lev s
  | [], _ :: _, h, _ => h.elim
  | _ :: _, [], h, _ => h.elim
theorem KsLe.abv : ∀ {a b : Ks α}, Ok a → KsLe a b → ∀ s d, abv a s d ≤ PM.abv b s d
  | [], [], _, _, s, d => Int.le_refl _
  | a :: x, b :: y, hok, ⟨h1, h2, h3⟩, s, d => by
    simp only [PM.abv]
    rw [← h1]
    split
    · cases d with
      | zero => exact Int.le_refl _
      | succ d =>
        simp only
        rw [EsLe.map (f := PM.lev x) (g := PM.lev y) h3.lev h2]
        split
        · have := EsLe.sum (f := fun c => PM.abv x c d) (g := fun c => PM.abv y c d) (fun c => abv_nonneg hok.2.2 c d) (fun c => KsLe.abv hok.2.2 h3 c d) h2 fun e he => by have := (hok.2.1 e he).2; omega
          omega
        · exact Int.le_refl _
    · exact KsLe.abv hok.2.2 h3 s d
  | [], _ :: _, _, h, _, _ => h.elim
  | _ :: _, [], _, h, _, _ => h.elim
theorem KsLe.open_le {a b : Ks α} (ha : Ok a) (hb : Ok b) (h : KsLe a b) : ∀ (q : Pa) {x y : Es α}, OkE a x → EsLe x y → Val a x q → Val b y q ∧ opL a x q ≤ opL b y q
  | [], x, y, _, _, _ => ⟨trivial, Int.le_refl _⟩
  | (p, i) :: q, x, y, ho, hxy, ⟨e, he, h0, h1, hv⟩ => by
    obtain ⟨e', he', h2, h3⟩ := hxy.get he
    have hs := ho e (mem_at he)
    obtain ⟨v, hq⟩ := KsLe.open_le ha hb h q (ents_ok ha e.1) (h.ents e.1) hv
    refine ⟨⟨e', he', h0, by omega, by rw [← h2]; exact v⟩, ?_⟩
    simp only [opL, he, he']
    rw [← h2]
    have n1 := fun s => abv_nonneg ha s (q.length + 1)
    have n0 := fun s => abv_nonneg ha s q.length
    have l1 := fun s => KsLe.abv ha h s (q.length + 1)
    have l0 := fun s => KsLe.abv ha h s q.length
    have s1 := (hxy.take p).sum n1 l1 fun z hz => by have := (ho z (List.mem_of_mem_take hz)).2; omega
    have s2 := (hxy.drop (p + 1)).sum n0 l0 fun z hz => by have := (ho z (List.mem_of_mem_drop hz)).2; omega
    have m1 := Int.mul_le_mul_of_nonneg_left (l1 e.1) h0
    have m2 := Int.mul_le_mul (show e.2 - 1 - i ≤ e'.2 - 1 - i by omega) (l0 e.1) (n0 e.1) (by omega)
    omega
end PM
namespace PM
end PM
namespace PM
end PM
namespace PM
end PM
namespace PM
variable {α : Type} [DecidableEq α] {K : Ks α}
def vR (K : Ks α) (rows : Es α) (d : Nat) (q : Pa) : Int := opL K rows q - sumE (fun c => abv K c d) rows
def NoR (K : Ks α) (rows : Es α) (d : Nat) (need : Int) : Prop := ∀ q, Val K rows q → q.length = d + 1 → vR K rows d q < need
def AtR (K : Ks α) (rows : Es α) (d : Nat) (need n : Int) : Prop := (∃ q, Val K rows q ∧ q.length = d + 1 ∧ rkL K rows q = n ∧ need ≤ vR K rows d q) ∧ ∀ q, Val K rows q → q.length = d + 1 → rkL K rows q < n → vR K rows d q < need
def gainR (K : Ks α) (rows : Es α) (d : Nat) : Int := sumE (fun c => abv K c (d + 1)) rows - sumE (fun c => abv K c d) rows
theorem vR_left {A B : Es α} {d p : Nat} {i : Int} {q : Pa} (hv : Val K A ((p, i) :: q)) (hl : q.length = d) : vR K (A ++ B) d ((p, i) :: q) = vR K A d ((p, i) :: q) ∧ rkL K (A ++ B) ((p, i) :: q) = rkL K A ((p, i) :: q) := by
  have hp := (val_left (B := B) hv).2
  unfold vR
  rw [opL_left hp, sumE_append, hl, rkL_left hp]
  exact ⟨by omega, rfl⟩
theorem vR_right {A B : Es α} {d p : Nat} {i : Int} {q : Pa} (hv : Val K B ((p, i) :: q)) (hl : q.length = d) : vR K (A ++ B) d ((A.length + p, i) :: q) = gainR K A d + vR K B d ((p, i) :: q) ∧ rkL K (A ++ B) ((A.length + p, i) :: q) = sumE (fun c => desc K c d) A + rkL K B ((p, i) :: q) := by
  have hp := (val_right (A := A) hv).2
  unfold vR gainR
  rw [opL_right hp, sumE_append, hl, rkL_right hp, hl]
  exact ⟨by omega, rfl⟩
theorem headq {q : Pa} {n : Nat} (h : q.length = n + 1) : ∃ p i q', q = (p, i) :: q' ∧ q'.length = n := by
  match q, h with
  | (p, i) :: q', h => exact ⟨p, i, q', rfl, by simpa using h⟩
theorem AtR.right (hK : Ok K) {A B : Es α} (hA : OkE K A) (hB : OkE K B) {d : Nat} {need n : Int} (a : NoR K A d need) (b : AtR K B d (need - gainR K A d) n) : AtR K (A ++ B) d need (sumE (fun c => desc K c d) A + n) := by
  obtain ⟨⟨q0, v0, l0, r0, g0⟩, h⟩ := b
  obtain ⟨p0, i0, q0', rfl, l0'⟩ := headq l0
  have w := vR_right (A := A) v0 l0'
  refine ⟨⟨_, (val_right v0).1, by simp [l0'], by rw [w.2, r0], by rw [w.1]; omega⟩, fun q hv hl hr => ?_⟩
  rcases val_cases hv hl with ⟨p, i, q', rfl, hv', hl'⟩ | ⟨p, i, q', rfl, hv', hl'⟩
  · rw [(vR_left hv' hl').1]
    exact a _ hv' (by simp [hl'])
  · rw [(vR_right hv' hl').2] at hr
    rw [(vR_right hv' hl').1]
    have := h _ hv' (by simp [hl']) (by omega)
    omega
end PM
namespace PM
end PM
namespace PM
end PM
namespace Pg
open PySem PySem.Spec L2 VS
def m_is_integer : FF := defF 1 1 [0] (sRet 1 (xAnd (x1 (isiB "int") (xV 0)) (xNot (x1 (isiB "bool") (xV 0)))))
def m_is_between : FF := defF 3 3 [0, 1, 2] (sRet 3 (xAnd (xCall m_is_integer (aCons true (xV 0) aNil)) (xCh opLe opLe (xV 1) (xV 0) (xV 2))))
def m_check_least : FF := defF 3 3 [0, 1, 2] (sIf (tOr' (tNot' (tB (xCall m_is_integer (aCons true (xV 1) aNil)))) (tB (x2 opLt (xV 1) (xV 2)))) sNev sNil)
def m_is_name : FF := defF 1 2 [0] (sSeq (sIf (tOr' (tNot' (tB (x1 (isiB "str") (xV 0)))) (tNot' (tB (xCh opLe opLe (xC (.int 1)) (xBi mLen (aCons true (xV 0) aNil)) (xC (.int 12)))))) (sRet 1 (xC (.bl false))) sNil) (sRet 1 (xBi mAll (aCons true (xLc (iSeq (xV 0)) (gN 1) tY (xCh opLe opLe (xC (.str "a")) (xV 1) (xC (.str "z"))) [1]) aNil))))
def m_is_entry : FF := defF 1 1 [0] (sSeq (sIf (tOr' (tNot' (tB (x1 (isiB "tuple") (xV 0)))) (tB (x2 opNe (xBi mLen (aCons true (xV 0) aNil)) (xC (.int 2))))) (sRet 1 (xC (.bl false))) sNil) (sRet 1 (xAnd (xCall m_is_name (aCons false (x2 opIx (xV 0) (xC (.int 0))) aNil)) (xCall m_is_between (aCons false (x2 opIx (xV 0) (xC (.int 1))) (aCons false (xC (.int 1)) (aCons false (xC (.int 1000000000000)) aNil)))))))
def m_is_type : FF := defF 1 2 [0] (sSeq (sIf (tOr' (tNot' (tB (x1 (isiB "tuple") (xV 0)))) (tOr' (tB (x2 opNe (xBi mLen (aCons true (xV 0) aNil)) (xC (.int 2)))) (tNot' (tB (xCall m_is_name (aCons false (x2 opIx (xV 0) (xC (.int 0))) aNil)))))) (sRet 1 (xC (.bl false))) sNil) (sSeq (sIf (tOr' (tNot' (tB (x1 (isiB "list") (x2 opIx (xV 0) (xC (.int 1)))))) (tB (x2 opGt (xBi mLen (aCons true (x2 opIx (xV 0) (xC (.int 1))) aNil)) (xC (.int 20))))) (sRet 1 (xC (.bl false))) sNil) (sRet 1 (xBi mAll (aCons true (xLc (iSeq (x2 opIx (xV 0) (xC (.int 1)))) (gN 1) tY (xCall m_is_entry (aCons true (xV 1) aNil)) [1]) aNil)))))
def m_check_types : FF := defF 1 6 [0] (sSeq (sIf (tOr' (tNot' (tB (x1 (isiB "list") (xV 0)))) (tNot' (tB (xCh opLe opLe (xC (.int 1)) (xBi mLen (aCons true (xV 0) aNil)) (xC (.int 40)))))) sNev sNil) (sSeq (sSet 1 (xLst bNil)) (sSeq (sFor (iEnmU (bCons (xV 0) bNil)) (gT 2 (gsCons (gN 2) (gsCons (gN 3) gsNil))) (sSeq (sIf (tOr' (tNot' (tB (xCall m_is_type (aCons true (xV 3) aNil)))) (tB (x2 opInV (x2 opIx (xV 3) (xC (.int 0))) (xV 1)))) sNev sNil) (sExpr (xMut mApp 1 (bCons (x2 opIx (xV 3) (xC (.int 0))) bNil))))) (sFor (iEnmU (bCons (xV 0) bNil)) (gT 2 (gsCons (gN 2) (gsCons (gN 3) gsNil))) (sIf (tNot' (tB (xBi mAll (aCons true (xLc (iSeq (x2 opIx (xV 3) (xC (.int 1)))) (gT 2 (gsCons (gN 4) (gsCons (gN 5) gsNil))) tY (x2 opInV (xV 4) (xSl (xV 1) (oE (x2 opAdd (xV 2) (xC (.int 1)))) oN)) [4, 5]) aNil)))) sNev sNil)))))
def m_check_roots : FF := defF 2 4 [0, 1] (sSeq (sIf (tOr' (tNot' (tB (x1 (isiB "list") (xV 0)))) (tB (x2 opGt (xBi mLen (aCons true (xV 0) aNil)) (xC (.int 20))))) sNev sNil) (sFor (iEnmU (bCons (xV 0) bNil)) (gT 2 (gsCons (gN 2) (gsCons (gN 3) gsNil))) (sIf (tOr' (tNot' (tB (xCall m_is_entry (aCons true (xV 3) aNil)))) (tB (x2 opNinV (x2 opIx (xV 3) (xC (.int 0))) (xV 1)))) sNev sNil)))
def m_table_of : FF := defF 2 8 [0, 1] (sSeq (sSet 2 (xLst (bCons (xTup (bCons (xC (.int 1)) (bCons (xBi mInt (aCons true (x2 opNe (xV 0) (xLst bNil)) aNil)) bNil))) bNil))) (sSeq (sFor (iSeq (xV 0)) (gT 2 (gsCons (gN 3) (gsCons (gN 4) gsNil))) (sFor (iEnmU (bCons (x2 opIx (xV 1) (xV 3)) bNil)) (gT 2 (gsCons (gN 5) (gsCons (gT 2 (gsCons (gN 6) (gsCons (gN 7) gsNil))) gsNil))) (sSeq (sIf (tB (x2 opEq (x2 opAdd (xV 5) (xC (.int 1))) (xBi mLen (aCons true (xV 2) aNil)))) (sExpr (xMut mApp 2 (bCons (xTup (bCons (xC (.int 0)) (bCons (xC (.int 0)) bNil))) bNil))) sNil) (sSub 2 (xTup (bCons (x2 opAdd (x2 opIx (x2 opIx (xV 2) (x2 opAdd (xV 5) (xC (.int 1)))) (xC (.int 0))) (x2 opMul (xV 4) (xV 6))) (bCons (x2 opAdd (x2 opIx (x2 opIx (xV 2) (x2 opAdd (xV 5) (xC (.int 1)))) (xC (.int 1))) (x2 opMul (xV 4) (xV 7))) bNil))) (x2 opAdd (xV 5) (xC (.int 1))))))) (sRet 2 (xV 2))))
def m_all_tables : FF := defF 1 4 [0] (sSeq (sSet 1 (fun δ => some (.val (.dK []), δ))) (sSeq (sFor (iSeq (x1 revD (xV 0))) (gT 2 (gsCons (gN 2) (gsCons (gN 3) gsNil))) (sSub 1 (xCall m_table_of (aCons true (xV 3) (aCons true (xV 1) aNil))) (xV 2))) (sRet 1 (xV 1))))
def m_Plan___init__ : FF := defF 3 5 [0, 1, 2] (sSeq (sExpr (xCall m_check_types (aCons true (xV 1) aNil))) (sSeq (sExpr (xCall m_check_roots (aCons true (xV 2) (aCons false (xLc (iSeq (xV 1)) (gT 2 (gsCons (gN 3) (gsCons (gN 4) gsNil))) tY (xV 3) [3, 4]) aNil)))) (sSeq (sAttr 0 "Plan" "kinds" (xDc (iSeq (xV 1)) (gT 2 (gsCons (gN 3) (gsCons (gN 4) gsNil))) tY (xV 3) (xBi mList (aCons true (xV 4) aNil)) [3, 4])) (sSeq (sAttr 0 "Plan" "first_ones" (xBi mList (aCons true (xV 2) aNil))) (sAttr 0 "Plan" "tables" (xCall m_all_tables (aCons true (xV 1) aNil)))))))
def m_Plan___contains__ : FF := defF 2 2 [0, 1] (sRet 2 (xAnd (x1 (isiB "str") (xV 1)) (x2 opInV (xV 1) (xFld "Plan" "kinds" (xV 0)))))
def m_Plan_check_name : FF := defF 2 2 [0, 1] (sIf (tB (xO2 yes (isO "Plan") m_Plan___contains__ poN true (xV 1) (xV 0))) sNev sNil)
def m_Plan_entries_of : FF := defF 2 2 [0, 1] (sSeq (sExpr (xMeth "Plan" "check_name" m_Plan_check_name (xV 0) (aCons true (xV 1) aNil))) (sRet 2 (xBi mList (aCons true (x2 opIx (xFld "Plan" "kinds" (xV 0)) (xV 1)) aNil))))
def m_Plan_root_entries : FF := defF 1 1 [0] (sRet 1 (xBi mList (aCons true (xFld "Plan" "first_ones" (xV 0)) aNil)))
def m_Plan_is_inner : FF := defF 2 2 [0, 1] (sRet 2 (x2 opNe (xMeth "Plan" "entries_of" m_Plan_entries_of (xV 0) (aCons true (xV 1) aNil)) (xLst bNil)))
def m_Plan_height_of : FF := defF 2 2 [0, 1] (sSeq (sExpr (xMeth "Plan" "check_name" m_Plan_check_name (xV 0) (aCons true (xV 1) aNil))) (sRet 2 (x2 opSub (xBi mLen (aCons true (x2 opIx (xFld "Plan" "tables" (xV 0)) (xV 1)) aNil)) (xC (.int 1)))))
def m_Plan_level_count : FF := defF 1 3 [0] (sRet 1 (xBi mMax (aCons true (x2 opAdd (xLst (bCons (xC (.int 0)) bNil)) (xLc (iSeq (xFld "Plan" "first_ones" (xV 0))) (gT 2 (gsCons (gN 1) (gsCons (gN 2) gsNil))) tY (xBi mLen (aCons true (x2 opIx (xFld "Plan" "tables" (xV 0)) (xV 1)) aNil)) [1, 2])) aNil)))
def m_Plan_pair_at : FF := defF 3 4 [0, 1, 2] (sSeq (sSet 3 (x2 opIx (xFld "Plan" "tables" (xV 0)) (xV 1))) (sRet 3 (xIf (tB (x2 opLt (xV 2) (xBi mLen (aCons true (xV 3) aNil)))) (x2 opIx (xV 3) (xV 2)) (xTup (bCons (xC (.int 0)) (bCons (xC (.int 0)) bNil))))))
def m_Plan_level_total : FF := defF 2 4 [0, 1] (sSeq (sExpr (xCall m_check_least (aCons false (xC (.str "level")) (aCons true (xV 1) (aCons false (xC (.int 0)) aNil))))) (sRet 2 (xBi mSum (aCons true (xLc (iSeq (xFld "Plan" "first_ones" (xV 0))) (gT 2 (gsCons (gN 2) (gsCons (gN 3) gsNil))) tY (x2 opMul (xV 3) (x2 opIx (xMeth "Plan" "pair_at" m_Plan_pair_at (xV 0) (aCons true (xV 2) (aCons true (xV 1) aNil))) (xC (.int 0)))) [2, 3]) aNil))))
def m_Plan_descendants : FF := defF 3 3 [0, 1, 2] (sSeq (sExpr (xMeth "Plan" "check_name" m_Plan_check_name (xV 0) (aCons true (xV 1) aNil))) (sSeq (sExpr (xCall m_check_least (aCons false (xC (.str "distance")) (aCons true (xV 2) (aCons false (xC (.int 0)) aNil))))) (sRet 3 (x2 opIx (xMeth "Plan" "pair_at" m_Plan_pair_at (xV 0) (aCons true (xV 1) (aCons true (xV 2) aNil))) (xC (.int 0))))))
def m_Plan_tree_size : FF := defF 2 4 [0, 1] (sSeq (sExpr (xMeth "Plan" "check_name" m_Plan_check_name (xV 0) (aCons true (xV 1) aNil))) (sRet 2 (xBi mSum (aCons true (xLc (iSeq (x2 opIx (xFld "Plan" "tables" (xV 0)) (xV 1))) (gT 2 (gsCons (gN 2) (gsCons (gN 3) gsNil))) tY (xV 2) [2, 3]) aNil))))
def m_Plan_task_total : FF := defF 1 3 [0] (sRet 1 (xBi mSum (aCons true (xLc (iSeq (xFld "Plan" "first_ones" (xV 0))) (gT 2 (gsCons (gN 1) (gsCons (gN 2) gsNil))) tY (x2 opMul (xV 2) (xMeth "Plan" "tree_size" m_Plan_tree_size (xV 0) (aCons true (xV 1) aNil))) [1, 2]) aNil)))
def m_is_step : FF := defF 2 2 [0, 1] (sSeq (sIf (tOr' (tNot' (tB (x1 (isiB "tuple") (xV 0)))) (tOr' (tB (x2 opNe (xBi mLen (aCons true (xV 0) aNil)) (xC (.int 2)))) (tOr' (tNot' (tB (xCall m_is_integer (aCons false (x2 opIx (xV 0) (xC (.int 0))) aNil)))) (tNot' (tB (xCall m_is_integer (aCons false (x2 opIx (xV 0) (xC (.int 1))) aNil))))))) (sRet 2 (xC (.bl false))) sNil) (sRet 2 (xAnd (xCh opLe opLt (xC (.int 0)) (x2 opIx (xV 0) (xC (.int 0))) (xBi mLen (aCons true (xV 1) aNil))) (xCh opLe opLt (xC (.int 0)) (x2 opIx (xV 0) (xC (.int 1))) (x2 opIx (x2 opIx (xV 1) (x2 opIx (xV 0) (xC (.int 0)))) (xC (.int 1)))))))
def m_kind_at : FF := defF 2 5 [0, 1] (sSeq (sIf (tNot' (tB (x1 (isiB "tuple") (xV 1)))) (sRet 2 (xC .non)) sNil) (sSeq (sPar 2 3 (bCons (xC .non) (bCons (xMeth "Plan" "root_entries" m_Plan_root_entries (xV 0) aNil) bNil))) (sSeq (sFor (iSeq (xV 1)) (gN 4) (sSeq (sIf (tNot' (tB (xCall m_is_step (aCons true (xV 4) (aCons true (xV 3) aNil))))) (sRet 2 (xC .non)) sNil) (sSeq (sSet 2 (x2 opIx (x2 opIx (xV 3) (x2 opIx (xV 4) (xC (.int 0)))) (xC (.int 0)))) (sSet 3 (xMeth "Plan" "entries_of" m_Plan_entries_of (xV 0) (aCons true (xV 2) aNil)))))) (sRet 2 (xV 2)))))
def m_type_of : FF := defF 2 3 [0, 1] (sSeq (sSet 2 (xCall m_kind_at (aCons true (xV 0) (aCons true (xV 1) aNil)))) (sSeq (sIf (tB (x2 opIsN (xV 2) (xC .non))) sNev sNil) (sRet 2 (xV 2))))
def m_check_discipline : FF := defF 1 1 [0] (sIf (tOr' (tNot' (tB (x1 (isiB "str") (xV 0)))) (tB (x2 opNinT (xV 0) (xTup (bCons (xC (.str "fifo")) (bCons (xC (.str "lifo")) bNil)))))) sNev sNil)
def m_rank_in_level : FF := defF 2 10 [0, 1] (sSeq (sPar 2 3 (bCons (xC (.int 0)) (bCons (xMeth "Plan" "root_entries" m_Plan_root_entries (xV 0) aNil) bNil))) (sSeq (sFor (iEnmU (bCons (xV 1) bNil)) (gT 2 (gsCons (gN 4) (gsCons (gT 2 (gsCons (gN 5) (gsCons (gN 6) gsNil))) gsNil))) (sSeq (sSet 7 (x2 opSub (x2 opSub (xBi mLen (aCons true (xV 1) aNil)) (xC (.int 1))) (xV 4))) (sSeq (sSet 2 (x2 opAdd (xV 2) (xBi mSum (aCons true (xLc (iSeq (xSl (xV 3) oN (oE (xV 5)))) (gT 2 (gsCons (gN 8) (gsCons (gN 9) gsNil))) tY (x2 opMul (xV 9) (xMeth "Plan" "descendants" m_Plan_descendants (xV 0) (aCons true (xV 8) (aCons true (xV 7) aNil)))) [8, 9]) aNil)))) (sSeq (sSet 2 (x2 opAdd (xV 2) (x2 opMul (xV 6) (xMeth "Plan" "descendants" m_Plan_descendants (xV 0) (aCons false (x2 opIx (x2 opIx (xV 3) (xV 5)) (xC (.int 0))) (aCons true (xV 7) aNil)))))) (sSet 3 (xMeth "Plan" "entries_of" m_Plan_entries_of (xV 0) (aCons false (x2 opIx (x2 opIx (xV 3) (xV 5)) (xC (.int 0))) aNil))))))) (sRet 2 (xV 2))))
def m_rank_in_depth : FF := defF 2 10 [0, 1] (sSeq (sPar 2 3 (bCons (x2 opSub (xBi mLen (aCons true (xV 1) aNil)) (xC (.int 1))) (bCons (xMeth "Plan" "root_entries" m_Plan_root_entries (xV 0) aNil) bNil))) (sSeq (sFor (iSeq (xV 1)) (gT 2 (gsCons (gN 4) (gsCons (gN 5) gsNil))) (sSeq (sAsg (gT 2 (gsCons (gN 6) (gsCons (gN 7) gsNil))) (x2 opIx (xV 3) (xV 4))) (sSeq (sSet 2 (x2 opAdd (xV 2) (xBi mSum (aCons true (xLc (iSeq (xSl (xV 3) (oE (x2 opAdd (xV 4) (xC (.int 1)))) oN)) (gT 2 (gsCons (gN 8) (gsCons (gN 9) gsNil))) tY (x2 opMul (xV 9) (xMeth "Plan" "tree_size" m_Plan_tree_size (xV 0) (aCons true (xV 8) aNil))) [8, 9]) aNil)))) (sSeq (sSet 2 (x2 opAdd (xV 2) (x2 opMul (x2 opSub (x2 opSub (xV 7) (xC (.int 1))) (xV 5)) (xMeth "Plan" "tree_size" m_Plan_tree_size (xV 0) (aCons true (xV 6) aNil))))) (sSet 3 (xMeth "Plan" "entries_of" m_Plan_entries_of (xV 0) (aCons true (xV 6) aNil))))))) (sRet 2 (xV 2))))
def m_first_of_level : FF := defF 2 3 [0, 1] (sRet 2 (xBi mSum (aCons true (xLc (iRg1 (bCons (xV 1) bNil)) (gN 2) tY (xMeth "Plan" "level_total" m_Plan_level_total (xV 0) (aCons true (xV 2) aNil)) [2]) aNil)))
def m_number_of : FF := defF 3 3 [0, 1, 2] (sSeq (sIf (tB (x2 opEq (xV 1) (xC (.str "fifo")))) (sRet 3 (x2 opAdd (xCall m_first_of_level (aCons true (xV 0) (aCons false (x2 opSub (xBi mLen (aCons true (xV 2) aNil)) (xC (.int 1))) aNil))) (xCall m_rank_in_level (aCons true (xV 0) (aCons true (xV 2) aNil))))) sNil) (sRet 3 (xCall m_rank_in_depth (aCons true (xV 0) (aCons true (xV 2) aNil)))))
noncomputable def m_task_in_levels : FF := defF 2 8 [0] (sSeq (sSet 2 (xC (.int 0))) (sSeq (sWh (tB (x2 opGe (xV 1) (xMeth "Plan" "level_total" m_Plan_level_total (xV 0) (aCons true (xV 2) aNil)))) (sSeq (sSet 1 (x2 opSub (xV 1) (xMeth "Plan" "level_total" m_Plan_level_total (xV 0) (aCons true (xV 2) aNil)))) (sSet 2 (x2 opAdd (xV 2) (xC (.int 1)))))) (sSeq (sPar 3 4 (bCons (xTup bNil) (bCons (xMeth "Plan" "root_entries" m_Plan_root_entries (xV 0) aNil) bNil))) (sSeq (sFor (iRg3 (bCons (xV 2) (bCons (x1 negD (xC (.int 1))) (bCons (x1 negD (xC (.int 1))) bNil)))) (gN 5) (sSeq (sSet 6 (xC (.int 0))) (sSeq (sWh (tB (x2 opGe (xV 1) (x2 opMul (x2 opIx (x2 opIx (xV 4) (xV 6)) (xC (.int 1))) (xMeth "Plan" "descendants" m_Plan_descendants (xV 0) (aCons false (x2 opIx (x2 opIx (xV 4) (xV 6)) (xC (.int 0))) (aCons true (xV 5) aNil)))))) (sSeq (sSet 1 (x2 opSub (xV 1) (x2 opMul (x2 opIx (x2 opIx (xV 4) (xV 6)) (xC (.int 1))) (xMeth "Plan" "descendants" m_Plan_descendants (xV 0) (aCons false (x2 opIx (x2 opIx (xV 4) (xV 6)) (xC (.int 0))) (aCons true (xV 5) aNil)))))) (sSet 6 (x2 opAdd (xV 6) (xC (.int 1)))))) (sSeq (sSet 7 (xMeth "Plan" "descendants" m_Plan_descendants (xV 0) (aCons false (x2 opIx (x2 opIx (xV 4) (xV 6)) (xC (.int 0))) (aCons true (xV 5) aNil)))) (sSeq (sSet 3 (x2 opAdd (xV 3) (xTup (bCons (xTup (bCons (xV 6) (bCons (x2 opDiv (xV 1) (xV 7)) bNil))) bNil)))) (sSeq (sSet 1 (x2 opMod (xV 1) (xV 7))) (sSet 4 (xMeth "Plan" "entries_of" m_Plan_entries_of (xV 0) (aCons false (x2 opIx (x2 opIx (xV 4) (xV 6)) (xC (.int 0))) aNil))))))))) (sRet 2 (xV 3))))))
noncomputable def m_task_in_depth : FF := defF 2 7 [0] (sSeq (sPar 2 3 (bCons (xTup bNil) (bCons (xMeth "Plan" "root_entries" m_Plan_root_entries (xV 0) aNil) bNil))) (sSeq (sWh (tB (x2 opGe (xV 1) (xC (.int 0)))) (sSeq (sSet 4 (x2 opSub (xBi mLen (aCons true (xV 3) aNil)) (xC (.int 1)))) (sSeq (sWh (tB (x2 opGe (xV 1) (x2 opMul (x2 opIx (x2 opIx (xV 3) (xV 4)) (xC (.int 1))) (xMeth "Plan" "tree_size" m_Plan_tree_size (xV 0) (aCons false (x2 opIx (x2 opIx (xV 3) (xV 4)) (xC (.int 0))) aNil))))) (sSeq (sSet 1 (x2 opSub (xV 1) (x2 opMul (x2 opIx (x2 opIx (xV 3) (xV 4)) (xC (.int 1))) (xMeth "Plan" "tree_size" m_Plan_tree_size (xV 0) (aCons false (x2 opIx (x2 opIx (xV 3) (xV 4)) (xC (.int 0))) aNil))))) (sSet 4 (x2 opSub (xV 4) (xC (.int 1)))))) (sSeq (sAsg (gT 2 (gsCons (gN 5) (gsCons (gN 6) gsNil))) (x2 opIx (xV 3) (xV 4))) (sSeq (sSet 2 (x2 opAdd (xV 2) (xTup (bCons (xTup (bCons (xV 4) (bCons (x2 opSub (x2 opSub (xV 6) (xC (.int 1))) (x2 opDiv (xV 1) (xMeth "Plan" "tree_size" m_Plan_tree_size (xV 0) (aCons true (xV 5) aNil)))) bNil))) bNil)))) (sSeq (sSet 1 (x2 opSub (x2 opMod (xV 1) (xMeth "Plan" "tree_size" m_Plan_tree_size (xV 0) (aCons true (xV 5) aNil))) (xC (.int 1)))) (sSet 3 (xMeth "Plan" "entries_of" m_Plan_entries_of (xV 0) (aCons true (xV 5) aNil))))))))) (sRet 2 (xV 2))))
noncomputable def m_task_at : FF := defF 3 3 [0, 1, 2] (sSeq (sExpr (xCall m_check_discipline (aCons true (xV 1) aNil))) (sSeq (sIf (tNot' (tB (xCall m_is_between (aCons true (xV 2) (aCons false (xC (.int 0)) (aCons false (x2 opSub (xMeth "Plan" "task_total" m_Plan_task_total (xV 0) aNil) (xC (.int 1))) aNil)))))) sNev sNil) (sRet 3 (xIf (tB (x2 opEq (xV 1) (xC (.str "fifo")))) (xCall m_task_in_levels (aCons true (xV 0) (aCons false (xV 2) aNil))) (xCall m_task_in_depth (aCons true (xV 0) (aCons false (xV 2) aNil)))))))
noncomputable def m_last_start : FF := defF 3 10 [0, 1] (sSeq (sExpr (xCall m_check_discipline (aCons true (xV 1) aNil))) (sSeq (sSet 3 (xCall m_type_of (aCons true (xV 0) (aCons true (xV 2) aNil)))) (sSeq (sIf (tB (x2 opNe (xV 1) (xC (.str "fifo")))) (sRet 3 (x2 opSub (x2 opAdd (xCall m_number_of (aCons true (xV 0) (aCons true (xV 1) (aCons true (xV 2) aNil)))) (xMeth "Plan" "tree_size" m_Plan_tree_size (xV 0) (aCons true (xV 3) aNil))) (xC (.int 1)))) sNil) (sSeq (sWh (tB (xMeth "Plan" "is_inner" m_Plan_is_inner (xV 0) (aCons true (xV 3) aNil))) (sSeq (sSet 4 (x2 opSub (xMeth "Plan" "height_of" m_Plan_height_of (xV 0) (aCons true (xV 3) aNil)) (xC (.int 1)))) (sSeq (sSet 5 (xMeth "Plan" "entries_of" m_Plan_entries_of (xV 0) (aCons true (xV 3) aNil))) (sSeq (sSet 6 (xBi mMax (aCons true (xLc (iEnmU (bCons (xV 5) bNil)) (gT 2 (gsCons (gN 7) (gsCons (gT 2 (gsCons (gN 8) (gsCons (gN 9) gsNil))) gsNil))) (tB (x2 opEq (xMeth "Plan" "height_of" m_Plan_height_of (xV 0) (aCons true (xV 8) aNil)) (xV 4))) (xV 7) [7, 8, 9]) aNil))) (sSeq (sSet 2 (x2 opAdd (xV 2) (xTup (bCons (xTup (bCons (xV 6) (bCons (x2 opSub (x2 opIx (x2 opIx (xV 5) (xV 6)) (xC (.int 1))) (xC (.int 1))) bNil))) bNil)))) (sSet 3 (x2 opIx (x2 opIx (xV 5) (xV 6)) (xC (.int 0))))))))) (sRet 3 (xCall m_number_of (aCons true (xV 0) (aCons true (xV 1) (aCons true (xV 2) aNil)))))))))
def m_check_start : FF := defF 2 2 [0, 1] (sIf (tOr' (tNot' (tB (xCall m_is_integer (aCons true (xV 1) aNil)))) (tNot' (tB (xCh opLe opLt (xC (.int 0)) (xV 1) (xMeth "Plan" "task_total" m_Plan_task_total (xV 0) aNil))))) sNev sNil)
noncomputable def m_is_open : FF := defF 4 5 [0, 1, 2, 3] (sSeq (sSet 4 (xCall m_last_start (aCons true (xV 0) (aCons true (xV 1) (aCons false (xV 2) aNil))))) (sSeq (sExpr (xCall m_check_start (aCons true (xV 0) (aCons true (xV 3) aNil)))) (sRet 4 (xCh opLt opLe (xCall m_number_of (aCons true (xV 0) (aCons true (xV 1) (aCons true (xV 2) aNil)))) (xV 3) (xV 4)))))
def m_add : FF := defF 3 5 [0, 1, 2] (sForI .items (pV 1) (gT 2 (gsCons (gN 3) (gsCons (gN 4) gsNil))) (sSub 0 (xQ (q2 opAdd (lQ (qGet2 (lAt 0 []) (lAt 3 []) (lC (.int 0)))) (lQ (q2 opMul (lAt 2 []) (lAt 4 []))))) (xV 3)))
def m_Reach___init__ : FF := defF 2 2 [0, 1] (sSeq (sAttr 0 "Reach" "plan" (xV 1)) (sAttr 0 "Reach" "known" (fun δ => some (.val (.dT []), δ))))
def b_Reach_above (r_Reach_above : FF) : FF := defF 3 6 [0, 1, 2] (sSeq (sIf (tOr' (tB (x2 opGt (xV 2) (xMeth "Plan" "height_of" m_Plan_height_of (xFld "Reach" "plan" (xV 0)) (aCons true (xV 1) aNil)))) (tB (x2 opEq (xV 2) (xC (.int 0))))) (sRet 3 (fun δ => some (.val (.dK []), δ))) sNil) (sSeq (sIf (tB (xQ (q2 opNinV (lQ (qTup (lCons (lAt 1 []) (lCons (lAt 2 []) lNil)))) (lAt 0 [.fld "Reach" "known"])))) (sSeq (sSet 3 (xDisp (((xV 1), (xC (.int 1))) :: []))) (sSeq (sFor (iSeq (xMeth "Plan" "entries_of" m_Plan_entries_of (xFld "Reach" "plan" (xV 0)) (aCons true (xV 1) aNil))) (gT 2 (gsCons (gN 4) (gsCons (gN 5) gsNil))) (sExpr (xCall m_add (aCons true (xV 3) (aCons false (xMeth "Reach" "above" r_Reach_above (xV 0) (aCons true (xV 4) (aCons false (x2 opSub (xV 2) (xC (.int 1))) aNil))) (aCons true (xV 5) aNil)))))) (sSubP putD 0 [.fld "Reach" "known"] (xV 3) (lQ (qTup (lCons (lAt 1 []) (lCons (lAt 2 []) lNil))))))) sNil) (sRet 3 (xQ (q2 opIx (lAt 0 [.fld "Reach" "known"]) (lQ (qTup (lCons (lAt 1 []) (lCons (lAt 2 []) lNil)))))))))
def m_Reach_above : Nat → FF
  | 0 => defF 3 6 [0, 1, 2] (fun _ => none)
  | k + 1 => b_Reach_above (m_Reach_above k)
def m_repeated : FF := defF 2 6 [0, 1] (sSeq (sIf (tB (x2 opIsN (xV 0) (xC .non))) (sRet 2 (xC .non)) sNil) (sSeq (sAsg (gT 4 (gsCons (gN 2) (gsCons (gN 3) (gsCons (gN 4) (gsCons (gN 5) gsNil))))) (xV 0)) (sSeq (sIf (tB (x2 opGt (xV 3) (xC (.int 0)))) (sPar 4 5 (bCons (x2 opAdd (xV 4) (x2 opMul (x2 opSub (xV 1) (xC (.int 1))) (xV 3))) (bCons (x2 opAdd (xV 5) (x2 opMul (x2 opSub (xV 1) (xC (.int 1))) (xV 2))) bNil))) sNil) (sRet 2 (xTup (bCons (x2 opMul (xV 1) (xV 2)) (bCons (x2 opMul (xV 1) (xV 3)) (bCons (xV 4) (bCons (xV 5) bNil)))))))))
def m_behind : FF := defF 2 4 [0, 1] (sSeq (sPar 2 3 (bCons (x2 opIx (xV 0) (xC (.int 2))) (bCons (x2 opIx (xV 0) (xC (.int 3))) bNil))) (sSeq (sIf (tB (x2 opGt (x2 opAdd (x2 opIx (xV 0) (xC (.int 1))) (x2 opIx (xV 1) (xC (.int 2)))) (xV 2))) (sPar 2 3 (bCons (x2 opAdd (x2 opIx (xV 0) (xC (.int 1))) (x2 opIx (xV 1) (xC (.int 2)))) (bCons (x2 opAdd (x2 opIx (xV 0) (xC (.int 0))) (x2 opIx (xV 1) (xC (.int 3)))) bNil))) sNil) (sRet 2 (xTup (bCons (x2 opAdd (x2 opIx (xV 0) (xC (.int 0))) (x2 opIx (xV 1) (xC (.int 0)))) (bCons (x2 opAdd (x2 opIx (xV 0) (xC (.int 1))) (x2 opIx (xV 1) (xC (.int 1)))) (bCons (xV 2) (bCons (xV 3) bNil))))))))
def m_open_above : FF := defF 3 6 [0, 1, 2] (sSeq (sSet 3 (fun δ => some (.val (.dK []), δ))) (sSeq (sFor (iSeq (xMeth "Plan" "root_entries" m_Plan_root_entries (xV 0) aNil)) (gT 2 (gsCons (gN 4) (gsCons (gN 5) gsNil))) (sExpr (xCall m_add (aCons true (xV 3) (aCons false (xMeth "Reach" "above" (m_Reach_above 45) (xV 1) (aCons true (xV 4) (aCons true (xV 2) aNil))) (aCons true (xV 5) aNil)))))) (sRet 3 (xBi mSum (aCons true (x1 valsD (xV 3)) aNil)))))
def m_Waves___init__ : FF := defF 2 2 [0, 1] (sSeq (sAttr 0 "Waves" "plan" (xV 1)) (sAttr 0 "Waves" "known" (fun δ => some (.val (.dT []), δ))))
def b_Waves_joined (r_Waves_joined : FF) (r_Waves_of : FF) : FF := defF 3 7 [0, 1, 2] (sSeq (sSet 3 (xC .non)) (sSeq (sFor (iSeq (xV 1)) (gT 2 (gsCons (gN 4) (gsCons (gN 5) gsNil))) (sSeq (sSet 6 (xCall m_repeated (aCons false (xMeth "Waves" "of" r_Waves_of (xV 0) (aCons true (xV 4) (aCons true (xV 2) aNil))) (aCons true (xV 5) aNil)))) (sSet 3 (xIf (tB (x2 opIsN (xV 3) (xC .non))) (xV 6) (xIf (tB (x2 opIsN (xV 6) (xC .non))) (xV 3) (xCall m_behind (aCons true (xV 3) (aCons true (xV 6) aNil)))))))) (sRet 3 (xV 3))))
def b_Waves_of (r_Waves_joined : FF) (r_Waves_of : FF) : FF := defF 3 8 [0, 1, 2] (sSeq (sSet 3 (xMeth "Plan" "height_of" m_Plan_height_of (xFld "Waves" "plan" (xV 0)) (aCons true (xV 1) aNil))) (sSeq (sIf (tB (x2 opGt (xV 2) (xV 3))) (sRet 3 (xC .non)) sNil) (sSeq (sIf (tB (x2 opEq (xV 2) (xC (.int 0)))) (sRet 3 (xTup (bCons (xC (.int 1)) (bCons (xBi mInt (aCons true (x2 opGt (xV 3) (xC (.int 0))) aNil)) (bCons (xC (.int 0)) (bCons (xC (.int 0)) bNil)))))) sNil) (sSeq (sIf (tB (xQ (q2 opNinV (lQ (qTup (lCons (lAt 1 []) (lCons (lAt 2 []) lNil)))) (lAt 0 [.fld "Waves" "known"])))) (sSeq (sAsg (gT 4 (gsCons (gN 4) (gsCons (gN 5) (gsCons (gN 6) (gsCons (gN 7) gsNil))))) (xMeth "Waves" "joined" r_Waves_joined (xV 0) (aCons false (xMeth "Plan" "entries_of" m_Plan_entries_of (xFld "Waves" "plan" (xV 0)) (aCons true (xV 1) aNil)) (aCons false (x2 opSub (xV 2) (xC (.int 1))) aNil)))) (sSubP putD 0 [.fld "Waves" "known"] (xTup (bCons (xV 4) (bCons (x2 opSub (xV 5) (xBi mInt (aCons true (x2 opEq (xV 2) (xV 3)) aNil))) (bCons (xV 6) (bCons (xV 7) bNil))))) (lQ (qTup (lCons (lAt 1 []) (lCons (lAt 2 []) lNil)))))) sNil) (sRet 3 (xQ (q2 opIx (lAt 0 [.fld "Waves" "known"]) (lQ (qTup (lCons (lAt 1 []) (lCons (lAt 2 []) lNil)))))))))))
mutual
def m_Waves_joined : Nat → FF
  | 0 => defF 3 7 [0, 1, 2] (fun _ => none)
  | k + 1 => b_Waves_joined (m_Waves_joined k) (m_Waves_of k)
def m_Waves_of : Nat → FF
  | 0 => defF 3 8 [0, 1, 2] (fun _ => none)
  | k + 1 => b_Waves_of (m_Waves_joined k) (m_Waves_of k)
end
def m_level_peaks : FF := defF 1 9 [0] (sSeq (sPar3 1 2 3 (bCons (xMake "Reach" m_Reach___init__ false (bCons (xV 0) bNil)) (bCons (xMake "Waves" m_Waves___init__ false (bCons (xV 0) bNil)) (bCons (xLst bNil) bNil)))) (sSeq (sFor (iRg1 (bCons (xMeth "Plan" "level_count" m_Plan_level_count (xV 0) aNil) bNil)) (gN 4) (sSeq (sAsg (gT 4 (gsCons (gN 5) (gsCons (gN 6) (gsCons (gN 7) (gsCons (gN 8) gsNil))))) (xMeth "Waves" "joined" (m_Waves_joined 90) (xV 2) (aCons false (xMeth "Plan" "root_entries" m_Plan_root_entries (xV 0) aNil) (aCons true (xV 4) aNil)))) (sExpr (xMut mApp 3 (bCons (xTup (bCons (x2 opAdd (xCall m_open_above (aCons true (xV 0) (aCons true (xV 1) (aCons true (xV 4) aNil)))) (xV 7)) (bCons (x2 opAdd (xCall m_first_of_level (aCons true (xV 0) (aCons true (xV 4) aNil))) (xV 8)) bNil))) bNil))))) (sRet 1 (xV 3))))
def b_first_at_depth (r_first_at_depth : FF) : FF := defF 3 7 [0, 1, 2] (sSeq (sSet 3 (xC (.int 0))) (sSeq (sFor (iSeq (x1 revD (xV 1))) (gT 2 (gsCons (gN 4) (gsCons (gN 5) gsNil))) (sSeq (sIf (tB (x2 opGe (xMeth "Plan" "height_of" m_Plan_height_of (xV 0) (aCons true (xV 4) aNil)) (xV 2))) (sSeq (sSet 6 (xIf (tB (x2 opEq (xV 2) (xC (.int 0)))) (xC (.int 0)) (x2 opAdd (xC (.int 1)) (xCall r_first_at_depth (aCons true (xV 0) (aCons false (xMeth "Plan" "entries_of" m_Plan_entries_of (xV 0) (aCons true (xV 4) aNil)) (aCons false (x2 opSub (xV 2) (xC (.int 1))) aNil))))))) (sRet 3 (x2 opAdd (xV 3) (xV 6)))) sNil) (sSet 3 (x2 opAdd (xV 3) (x2 opMul (xV 5) (xMeth "Plan" "tree_size" m_Plan_tree_size (xV 0) (aCons true (xV 4) aNil))))))) (sRet 3 (xC .non))))
def m_first_at_depth : Nat → FF
  | 0 => defF 3 7 [0, 1, 2] (fun _ => none)
  | k + 1 => b_first_at_depth (m_first_at_depth k)
def m_greatest_open : FF := defF 2 8 [0, 1] (sSeq (sExpr (xCall m_check_discipline (aCons true (xV 1) aNil))) (sSeq (sIf (tB (x2 opEq (xMeth "Plan" "level_count" m_Plan_level_count (xV 0) aNil) (xC (.int 0)))) (sRet 2 (xTup (bCons (xC (.int 0)) (bCons (xC .non) bNil)))) sNil) (sSeq (sIf (tB (x2 opEq (xV 1) (xC (.str "fifo")))) (sSeq (sSet 2 (xCall m_level_peaks (aCons true (xV 0) aNil))) (sSeq (sSet 3 (xBi mMax (aCons true (xLc (iSeq (xV 2)) (gT 2 (gsCons (gN 4) (gsCons (gN 5) gsNil))) tY (xV 4) [4, 5]) aNil))) (sRet 2 (x2 opIx (xLc (iSeq (xV 2)) (gN 6) (tB (x2 opEq (x2 opIx (xV 6) (xC (.int 0))) (xV 3))) (xV 6) [6]) (xC (.int 0)))))) sNil) (sSeq (sSet 7 (x2 opSub (xMeth "Plan" "level_count" m_Plan_level_count (xV 0) aNil) (xC (.int 1)))) (sRet 2 (xTup (bCons (xV 7) (bCons (xCall (m_first_at_depth 45) (aCons true (xV 0) (aCons false (xMeth "Plan" "root_entries" m_Plan_root_entries (xV 0) aNil) (aCons true (xV 7) aNil)))) bNil))))))))
end Pg
namespace Lk17
open PySem PySem.Spec PyProof.Rows L2 VS Pg
def top (i : Nat) : Stmt := PySem.Challenge.pw_stuckpools_k17_last_starts_and_open_task.main.body.getD i (.Pass ⟨0, 0, 0, 0⟩)
abbrev s__law_mixed : Stmt := top 43
def d__law_mixed : He.DefD := ⟨("_law_mixed", none), "_law_mixed", "_law_mixed", defArgs s__law_mixed, defBody s__law_mixed, defScope s__law_mixed, [], []⟩
abbrev s__law_draw : Stmt := top 45
def d__law_draw : He.DefD := ⟨("_law_draw", none), "_law_draw", "_law_draw", defArgs s__law_draw, defBody s__law_draw, defScope s__law_draw, [], []⟩
abbrev s__law_one : Stmt := top 46
def d__law_one : He.DefD := ⟨("_law_one", none), "_law_one", "_law_one", defArgs s__law_one, defBody s__law_one, defScope s__law_one, [], []⟩
abbrev s__law_drawn : Stmt := top 49
def d__law_drawn : He.DefD := ⟨("_law_drawn", none), "_law_drawn", "_law_drawn", defArgs s__law_drawn, defBody s__law_drawn, defScope s__law_drawn, [], []⟩
abbrev s__law_sizes : Stmt := top 47
def d__law_sizes : He.DefD := ⟨("_law_sizes", none), "_law_sizes", "_law_sizes", defArgs s__law_sizes, defBody s__law_sizes, defScope s__law_sizes, [], []⟩
abbrev s__law_total : Stmt := top 48
def d__law_total : He.DefD := ⟨("_law_total", none), "_law_total", "_law_total", defArgs s__law_total, defBody s__law_total, defScope s__law_total, [], []⟩
abbrev s__law_near : Stmt := top 50
def d__law_near : He.DefD := ⟨("_law_near", none), "_law_near", "_law_near", defArgs s__law_near, defBody s__law_near, defScope s__law_near, [], []⟩
abbrev s_is_name : Stmt := top 33
def d_is_name : He.DefD := ⟨("is_name", none), "is_name", "is_name", defArgs s_is_name, defBody s_is_name, defScope s_is_name, [], []⟩
abbrev s_is_integer : Stmt := top 10
def d_is_integer : He.DefD := ⟨("is_integer", none), "is_integer", "is_integer", defArgs s_is_integer, defBody s_is_integer, defScope s_is_integer, [], []⟩
abbrev s_is_between : Stmt := top 11
def d_is_between : He.DefD := ⟨("is_between", none), "is_between", "is_between", defArgs s_is_between, defBody s_is_between, defScope s_is_between, [], []⟩
abbrev s_is_entry : Stmt := top 34
def d_is_entry : He.DefD := ⟨("is_entry", none), "is_entry", "is_entry", defArgs s_is_entry, defBody s_is_entry, defScope s_is_entry, [], []⟩
abbrev s_is_type : Stmt := top 35
def d_is_type : He.DefD := ⟨("is_type", none), "is_type", "is_type", defArgs s_is_type, defBody s_is_type, defScope s_is_type, [], []⟩
abbrev s_check_types : Stmt := top 36
def d_check_types : He.DefD := ⟨("check_types", none), "check_types", "check_types", defArgs s_check_types, defBody s_check_types, defScope s_check_types, [], []⟩
abbrev s_check_roots : Stmt := top 37
def d_check_roots : He.DefD := ⟨("check_roots", none), "check_roots", "check_roots", defArgs s_check_roots, defBody s_check_roots, defScope s_check_roots, [], []⟩
abbrev s_table_of : Stmt := top 38
def d_table_of : He.DefD := ⟨("table_of", none), "table_of", "table_of", defArgs s_table_of, defBody s_table_of, defScope s_table_of, [], []⟩
abbrev s_all_tables : Stmt := top 39
def d_all_tables : He.DefD := ⟨("all_tables", none), "all_tables", "all_tables", defArgs s_all_tables, defBody s_all_tables, defScope s_all_tables, [], []⟩
abbrev s_Plan___init__ : Stmt := inClass (top 41) 0
def d_Plan___init__ : He.DefD := ⟨("Plan", some "__init__"), "__init__", "Plan.__init__", defArgs s_Plan___init__, defBody s_Plan___init__, defScope s_Plan___init__, [], []⟩
abbrev s__law_order : Stmt := top 51
def d__law_order : He.DefD := ⟨("_law_order", none), "_law_order", "_law_order", defArgs s__law_order, defBody s__law_order, defScope s__law_order, [], []⟩
abbrev s__law_mode : Stmt := top 53
def d__law_mode : He.DefD := ⟨("_law_mode", none), "_law_mode", "_law_mode", defArgs s__law_mode, defBody s__law_mode, defScope s__law_mode, [], []⟩
abbrev s__law_lasts : Stmt := top 52
def d__law_lasts : He.DefD := ⟨("_law_lasts", none), "_law_lasts", "_law_lasts", defArgs s__law_lasts, defBody s__law_lasts, defScope s__law_lasts, [], []⟩
abbrev s_check_discipline : Stmt := top 16
def d_check_discipline : He.DefD := ⟨("check_discipline", none), "check_discipline", "check_discipline", defArgs s_check_discipline, defBody s_check_discipline, defScope s_check_discipline, [], []⟩
abbrev s_Plan_root_entries : Stmt := inClass (top 41) 10
def d_Plan_root_entries : He.DefD := ⟨("Plan", some "root_entries"), "root_entries", "Plan.root_entries", defArgs s_Plan_root_entries, defBody s_Plan_root_entries, defScope s_Plan_root_entries, [], []⟩
abbrev s_is_step : Stmt := top 17
def d_is_step : He.DefD := ⟨("is_step", none), "is_step", "is_step", defArgs s_is_step, defBody s_is_step, defScope s_is_step, [], []⟩
abbrev s_Plan___contains__ : Stmt := inClass (top 41) 4
def d_Plan___contains__ : He.DefD := ⟨("Plan", some "__contains__"), "__contains__", "Plan.__contains__", defArgs s_Plan___contains__, defBody s_Plan___contains__, defScope s_Plan___contains__, [], []⟩
abbrev s_Plan_check_name : Stmt := inClass (top 41) 11
def d_Plan_check_name : He.DefD := ⟨("Plan", some "check_name"), "check_name", "Plan.check_name", defArgs s_Plan_check_name, defBody s_Plan_check_name, defScope s_Plan_check_name, [], []⟩
abbrev s_Plan_entries_of : Stmt := inClass (top 41) 12
def d_Plan_entries_of : He.DefD := ⟨("Plan", some "entries_of"), "entries_of", "Plan.entries_of", defArgs s_Plan_entries_of, defBody s_Plan_entries_of, defScope s_Plan_entries_of, [], []⟩
abbrev s_kind_at : Stmt := top 18
def d_kind_at : He.DefD := ⟨("kind_at", none), "kind_at", "kind_at", defArgs s_kind_at, defBody s_kind_at, defScope s_kind_at, [], []⟩
abbrev s_type_of : Stmt := top 19
def d_type_of : He.DefD := ⟨("type_of", none), "type_of", "type_of", defArgs s_type_of, defBody s_type_of, defScope s_type_of, [], []⟩
abbrev s_check_least : Stmt := top 12
def d_check_least : He.DefD := ⟨("check_least", none), "check_least", "check_least", defArgs s_check_least, defBody s_check_least, defScope s_check_least, [], []⟩
abbrev s_Plan_pair_at : Stmt := inClass (top 41) 17
def d_Plan_pair_at : He.DefD := ⟨("Plan", some "pair_at"), "pair_at", "Plan.pair_at", defArgs s_Plan_pair_at, defBody s_Plan_pair_at, defScope s_Plan_pair_at, [], []⟩
abbrev s_Plan_level_total : Stmt := inClass (top 41) 16
def d_Plan_level_total : He.DefD := ⟨("Plan", some "level_total"), "level_total", "Plan.level_total", defArgs s_Plan_level_total, defBody s_Plan_level_total, defScope s_Plan_level_total, [], []⟩
abbrev s_first_of_level : Stmt := top 22
def d_first_of_level : He.DefD := ⟨("first_of_level", none), "first_of_level", "first_of_level", defArgs s_first_of_level, defBody s_first_of_level, defScope s_first_of_level, [], []⟩
abbrev s_Plan_descendants : Stmt := inClass (top 41) 18
def d_Plan_descendants : He.DefD := ⟨("Plan", some "descendants"), "descendants", "Plan.descendants", defArgs s_Plan_descendants, defBody s_Plan_descendants, defScope s_Plan_descendants, [], []⟩
abbrev s_rank_in_level : Stmt := top 20
def d_rank_in_level : He.DefD := ⟨("rank_in_level", none), "rank_in_level", "rank_in_level", defArgs s_rank_in_level, defBody s_rank_in_level, defScope s_rank_in_level, [], []⟩
abbrev s_Plan_tree_size : Stmt := inClass (top 41) 20
def d_Plan_tree_size : He.DefD := ⟨("Plan", some "tree_size"), "tree_size", "Plan.tree_size", defArgs s_Plan_tree_size, defBody s_Plan_tree_size, defScope s_Plan_tree_size, [], []⟩
abbrev s_rank_in_depth : Stmt := top 21
def d_rank_in_depth : He.DefD := ⟨("rank_in_depth", none), "rank_in_depth", "rank_in_depth", defArgs s_rank_in_depth, defBody s_rank_in_depth, defScope s_rank_in_depth, [], []⟩
abbrev s_number_of : Stmt := top 23
def d_number_of : He.DefD := ⟨("number_of", none), "number_of", "number_of", defArgs s_number_of, defBody s_number_of, defScope s_number_of, [], []⟩
abbrev s_Plan_is_inner : Stmt := inClass (top 41) 13
def d_Plan_is_inner : He.DefD := ⟨("Plan", some "is_inner"), "is_inner", "Plan.is_inner", defArgs s_Plan_is_inner, defBody s_Plan_is_inner, defScope s_Plan_is_inner, [], []⟩
abbrev s_Plan_height_of : Stmt := inClass (top 41) 14
def d_Plan_height_of : He.DefD := ⟨("Plan", some "height_of"), "height_of", "Plan.height_of", defArgs s_Plan_height_of, defBody s_Plan_height_of, defScope s_Plan_height_of, [], []⟩
abbrev s_last_start : Stmt := top 25
def d_last_start : He.DefD := ⟨("last_start", none), "last_start", "last_start", defArgs s_last_start, defBody s_last_start, defScope s_last_start, [], []⟩
abbrev s_Plan_task_total : Stmt := inClass (top 41) 21
def d_Plan_task_total : He.DefD := ⟨("Plan", some "task_total"), "task_total", "Plan.task_total", defArgs s_Plan_task_total, defBody s_Plan_task_total, defScope s_Plan_task_total, [], []⟩
abbrev s_check_start : Stmt := top 26
def d_check_start : He.DefD := ⟨("check_start", none), "check_start", "check_start", defArgs s_check_start, defBody s_check_start, defScope s_check_start, [], []⟩
abbrev s_is_open : Stmt := top 27
def d_is_open : He.DefD := ⟨("is_open", none), "is_open", "is_open", defArgs s_is_open, defBody s_is_open, defScope s_is_open, [], []⟩
abbrev s__law_mode_right : Stmt := top 54
def d__law_mode_right : He.DefD := ⟨("_law_mode_right", none), "_law_mode_right", "_law_mode_right", defArgs s__law_mode_right, defBody s__law_mode_right, defScope s__law_mode_right, [], []⟩
abbrev s__law_right : Stmt := top 55
def d__law_right : He.DefD := ⟨("_law_right", none), "_law_right", "_law_right", defArgs s__law_right, defBody s__law_right, defScope s__law_right, [], []⟩
abbrev s__law_well : Stmt := top 44
def d__law_well : He.DefD := ⟨("_law_well", none), "_law_well", "_law_well", defArgs s__law_well, defBody s__law_well, defScope s__law_well, [], []⟩
abbrev s_law : Stmt := top 56
def d_law : He.DefD := ⟨("law", none), "law", "law", defArgs s_law, defBody s_law, defScope s_law, [], []⟩
def fn : List He.DefD := [d__law_mixed, d__law_draw, d__law_one, d__law_drawn, d__law_sizes, d__law_total, d__law_near, d_is_name, d_is_integer, d_is_between, d_is_entry, d_is_type, d_check_types, d_check_roots, d_table_of, d_all_tables, d_Plan___init__, d__law_order, d__law_mode, d__law_lasts, d_check_discipline, d_Plan_root_entries, d_is_step, d_Plan___contains__, d_Plan_check_name, d_Plan_entries_of, d_kind_at, d_type_of, d_check_least, d_Plan_pair_at, d_Plan_level_total, d_first_of_level, d_Plan_descendants, d_rank_in_level, d_Plan_tree_size, d_rank_in_depth, d_number_of, d_Plan_is_inner, d_Plan_height_of, d_last_start, d_Plan_task_total, d_check_start, d_is_open, d__law_mode_right, d__law_right, d__law_well, d_law]
def fa : List He.Fa := [.glo "_law_mixed", .glo "_law_draw", .free "enumerate", .free "int", .free "range", .free "len", .free "min", .glo "_law_one", .glo "_law_drawn", .free "sum", .glo "_law_sizes", .glo "_law_total", .glo "_law_near", .free "isinstance", .free "list", .int "MOST_TYPES" 40, .free "tuple", .free "str", .int "MOST_LETTERS" 12, .free "all", .glo "is_name", .int "MOST_ENTRIES" 20, .free "bool", .glo "is_integer", .int "MOST_COUNT" 1000000000000, .glo "is_between", .glo "is_entry", .glo "is_type", .glo "check_types", .glo "check_roots", .cls "Plan", .noat "Plan" "kinds", .noat "Plan" "first_ones", .glo "table_of", .glo "all_tables", .noat "Plan" "tables", .mkr "Plan", .glo "Plan", .free "dict", .glo "_law_order", .glo "_law_mode", .glo "_law_lasts", .str "LIFO" "lifo", .str "FIFO" "fifo", .glo "check_discipline", .meth "Plan" "root_entries", .glo "is_step", .meth "Plan" "__contains__", .meth "Plan" "check_name", .meth "Plan" "entries_of", .glo "kind_at", .glo "type_of", .glo "check_least", .meth "Plan" "pair_at", .meth "Plan" "level_total", .glo "first_of_level", .meth "Plan" "descendants", .glo "rank_in_level", .meth "Plan" "tree_size", .glo "rank_in_depth", .glo "number_of", .meth "Plan" "is_inner", .meth "Plan" "height_of", .free "max", .glo "last_start", .meth "Plan" "task_total", .glo "check_start", .glo "is_open", .free "repr", .glo "_law_mode_right", .glo "_law_well", .glo "_law_right", .glo "law"]
def ex : List (PySem.W.Frag → Bool) := []
def m__law_mixed : FF := defF 2 3 [0, 1] (sSeq (sSet 2 (x2 opMod (x2 opPow (x2 opAdd (x2 opAdd (x2 opMod (xV 0) (xC (.int 2147483629))) (x2 opMul (xC (.int 30011)) (xV 1))) (xC (.int 7))) (xC (.int 3))) (xC (.int 2147483647)))) (sSeq (sSet 2 (x2 opMod (x2 opAdd (xV 2) (x2 opMul (x2 opMod (x2 opDiv (xV 0) (xC (.int 2147483629))) (xC (.int 65537))) (x2 opAdd (xV 1) (xC (.int 5))))) (xC (.int 2147483587)))) (sSeq (sSet 2 (x2 opMod (x2 opMul (xV 2) (x2 opAdd (x2 opAdd (x2 opDiv (xV 2) (xC (.int 1009))) (xC (.int 69621))) (xV 1))) (xC (.int 2147483563)))) (sRet 2 (x2 opMod (x2 opMul (xV 2) (x2 opAdd (x2 opDiv (xV 2) (xC (.int 2003))) (xC (.int 40692)))) (xC (.int 2147483399)))))))
def m__law_draw : FF := defF 2 3 [0, 1] (sSeq (sIf (tB (x2 opGt (x2 opIx (xV 0) (xC (.int 0))) (xC (.int 0)))) (sSeq (sSet 2 (x2 opMod (x2 opIx (xV 0) (xC (.int 0))) (xV 1))) (sSeq (sSub 0 (x2 opDiv (x2 opIx (xV 0) (xC (.int 0))) (xV 1)) (xC (.int 0))) (sRet 2 (xV 2)))) sNil) (sSeq (sSub 0 (x2 opAdd (x2 opIx (xV 0) (xC (.int 2))) (xC (.int 1))) (xC (.int 2))) (sRet 2 (x2 opMod (xCall m__law_mixed (aCons false (x2 opIx (xV 0) (xC (.int 1))) (aCons false (x2 opIx (xV 0) (xC (.int 2))) aNil))) (xV 1)))))
def m__law_one : FF := defF 2 2 [0, 1] (sRet 2 (x2 opIx (xV 1) (xCall m__law_draw (aCons true (xV 0) (aCons false (xBi mLen (aCons true (xV 1) aNil)) aNil)))))
def m__law_drawn : FF := defF 4 13 [0, 1, 2, 3] (sSeq (sSet 4 (xSl (xLst (bCons (xC (.str "job")) (bCons (xC (.str "a")) (bCons (xC (.str "part")) (bCons (xC (.str "zz")) (bCons (xC (.str "step")) (bCons (xC (.str "b")) (bCons (xC (.str "leaf")) (bCons (xC (.str "task")) (bCons (xC (.str "m")) (bCons (xC (.str "end")) (bCons (xC (.str "x")) (bCons (xC (.str "yy")) bNil))))))))))))) oN (oE (x2 opAdd (xC (.int 1)) (xCall m__law_draw (aCons true (xV 0) (aCons true (xV 1) aNil))))))) (sSeq (sSet 5 (xLst bNil)) (sSeq (sFor (iEnmU (bCons (xV 4) bNil)) (gT 2 (gsCons (gN 6) (gsCons (gN 7) gsNil))) (sSeq (sPar 8 9 (bCons (xSl (xV 4) (oE (x2 opAdd (xV 6) (xC (.int 1)))) oN) (bCons (xLst bNil) bNil))) (sSeq (sFor (iRg1 (bCons (x2 opMul (xCall m__law_draw (aCons true (xV 0) (aCons false (x2 opAdd (xV 2) (xC (.int 1))) aNil))) (xBi mInt (aCons true (x2 opNe (xV 8) (xLst bNil)) aNil))) bNil)) (gN 10) (sSeq (sSet 11 (x2 opIx (xV 8) (xBi mMin (aCons true (xCall m__law_draw (aCons true (xV 0) (aCons false (xBi mLen (aCons true (xV 8) aNil)) aNil))) (aCons true (xCall m__law_draw (aCons true (xV 0) (aCons false (xBi mLen (aCons true (xV 8) aNil)) aNil))) aNil))))) (sExpr (xMut mApp 9 (bCons (xTup (bCons (xV 11) (bCons (xCall m__law_one (aCons true (xV 0) (aCons true (xV 3) aNil))) bNil))) bNil))))) (sExpr (xMut mApp 5 (bCons (xTup (bCons (xV 7) (bCons (xV 9) bNil))) bNil)))))) (sSeq (sSet 12 (xLc (iRg1 (bCons (xCall m__law_draw (aCons true (xV 0) (aCons false (x2 opAdd (xV 2) (xC (.int 1))) aNil))) bNil)) (gN 10) tY (xTup (bCons (xCall m__law_one (aCons true (xV 0) (aCons false (xSl (xV 4) oN (oE (xC (.int 3)))) aNil))) (bCons (xCall m__law_one (aCons true (xV 0) (aCons true (xV 3) aNil))) bNil))) [10])) (sRet 4 (xTup (bCons (xV 5) (bCons (xV 12) bNil))))))))
def m__law_sizes : FF := defF 1 6 [0] (sSeq (sSet 1 (fun δ => some (.val (.dK []), δ))) (sSeq (sFor (iSeq (x1 revD (xV 0))) (gT 2 (gsCons (gN 2) (gsCons (gN 3) gsNil))) (sSub 1 (x2 opAdd (xC (.int 1)) (xBi mSum (aCons true (xLc (iSeq (xV 3)) (gT 2 (gsCons (gN 4) (gsCons (gN 5) gsNil))) tY (x2 opMul (xV 5) (x2 opIx (xV 1) (xV 4))) [4, 5]) aNil))) (xV 2))) (sRet 1 (xV 1))))
def m__law_total : FF := defF 2 5 [0, 1] (sSeq (sSet 2 (xCall m__law_sizes (aCons true (xV 0) aNil))) (sRet 2 (xBi mSum (aCons true (xLc (iSeq (xV 1)) (gT 2 (gsCons (gN 3) (gsCons (gN 4) gsNil))) tY (x2 opMul (xV 4) (x2 opIx (xV 2) (xV 3))) [3, 4]) aNil))))
noncomputable def m__law_near : FF := defF 2 7 [0, 1] (sSeq (sAsg (gT 2 (gsCons (gN 2) (gsCons (gN 3) gsNil))) (xCall m__law_drawn (aCons true (xV 0) (aCons false (xC (.int 6)) (aCons false (xC (.int 3)) (aCons false (xLst (bCons (xC (.int 1)) (bCons (xC (.int 1)) (bCons (xC (.int 2)) (bCons (xC (.int 3)) bNil))))) aNil)))))) (sSeq (sSet 4 (xC (.int 0))) (sSeq (sWh (tB (x2 opGt (xCall m__law_total (aCons true (xV 2) (aCons true (xV 3) aNil))) (xV 1))) (sSeq (sAsg (gT 2 (gsCons (gN 5) (gsCons (gN 6) gsNil))) (x2 opIx (xV 2) (xV 4))) (sSeq (sSet 2 (x2 opAdd (x2 opAdd (xSl (xV 2) oN (oE (xV 4))) (xLst (bCons (xTup (bCons (xV 5) (bCons (xSl (xV 6) oN (oE (x1 negD (xC (.int 1))))) bNil))) bNil))) (xSl (xV 2) (oE (x2 opAdd (xV 4) (xC (.int 1)))) oN))) (sSeq (sSet 4 (x2 opMod (x2 opAdd (xV 4) (xC (.int 1))) (xBi mLen (aCons true (xV 2) aNil)))) (sSet 3 (xIf (tB (x2 opEq (xV 4) (xC (.int 0)))) (x2 opAdd (xSl (xV 3) oN (oE (xC (.int 1)))) (xSl (xV 3) (oE (xC (.int 2))) oN)) (xV 3))))))) (sRet 2 (xTup (bCons (xV 2) (bCons (xV 3) bNil)))))))
noncomputable def m__law_order : FF := defF 3 12 [0, 1, 2] (sSeq (sPar3 3 4 5 (bCons (xBi mDict (aCons true (xV 0) aNil)) (bCons (xLst bNil) (bCons (xLst bNil) bNil)))) (sSeq (sFor (iEnmU (bCons (xV 1) bNil)) (gT 2 (gsCons (gN 6) (gsCons (gT 2 (gsCons (gN 7) (gsCons (gN 8) gsNil))) gsNil))) (sExpr (xMut mExt 5 (bCons (xLc (iRg1 (bCons (xV 8) bNil)) (gN 9) tY (xTup (bCons (xTup (bCons (xTup (bCons (xV 6) (bCons (xV 9) bNil))) bNil)) (bCons (xV 7) bNil))) [9]) bNil)))) (sSeq (sWh (tB (x2 opNe (xV 5) (xLst bNil))) (sSeq (sAsg (gT 2 (gsCons (gN 10) (gsCons (gN 7) gsNil))) (xIf (tB (xV 2)) (xMut mPop1 5 (bCons (xC (.int 0)) bNil)) (xMut mPop0 5 bNil))) (sSeq (sExpr (xMut mApp 4 (bCons (xTup (bCons (xV 10) (bCons (xV 7) bNil))) bNil))) (sFor (iEnmU (bCons (x2 opIx (xV 3) (xV 7)) bNil)) (gT 2 (gsCons (gN 6) (gsCons (gT 2 (gsCons (gN 11) (gsCons (gN 8) gsNil))) gsNil))) (sExpr (xMut mExt 5 (bCons (xLc (iRg1 (bCons (xV 8) bNil)) (gN 9) tY (xTup (bCons (x2 opAdd (xV 10) (xTup (bCons (xTup (bCons (xV 6) (bCons (xV 9) bNil))) bNil))) (bCons (xV 11) bNil))) [9]) bNil))))))) (sRet 3 (xV 4)))))
def m__law_mode : FF := defF 1 1 [0] (sRet 1 (xIf (tB (xV 0)) (xC (.str "fifo")) (xC (.str "lifo"))))
def m__law_lasts : FF := defF 1 6 [0] (sSeq (sSet 1 (fun δ => some (.val (.dN []), δ))) (sSeq (sFor (iEnmU (bCons (xV 0) bNil)) (gT 2 (gsCons (gN 2) (gsCons (gT 2 (gsCons (gN 3) (gsCons (gN 4) gsNil))) gsNil))) (sFor (iRg2 (bCons (xC (.int 1)) (bCons (x2 opAdd (xBi mLen (aCons true (xV 3) aNil)) (xC (.int 1))) bNil))) (gN 5) (sSubN 1 (xV 2) (xSl (xV 3) oN (oE (xV 5)))))) (sRet 1 (xLc (iSeq (xV 0)) (gT 2 (gsCons (gN 3) (gsCons (gN 4) gsNil))) tY (x2 opIxN (xV 1) (xV 3)) [3, 4]))))
noncomputable def m__law_mode_right : FF := defF 5 13 [0, 1, 2, 3, 4] (sSeq (sSet 5 (xCall m__law_order (aCons true (xV 2) (aCons true (xV 3) (aCons true (xV 4) aNil))))) (sSeq (sPar 6 7 (bCons (xCall m__law_lasts (aCons true (xV 5) aNil)) (bCons (xCall m__law_mode (aCons true (xV 4) aNil)) bNil))) (sSeq (sFor (iEnmU (bCons (xV 5) bNil)) (gT 2 (gsCons (gN 8) (gsCons (gT 2 (gsCons (gN 9) (gsCons (gN 10) gsNil))) gsNil))) (sSeq (sIf (tB (x2 opNe (xCall m_last_start (aCons true (xV 1) (aCons true (xV 7) (aCons false (xV 9) aNil)))) (x2 opIx (xV 6) (xV 8)))) (sRet 5 (xC (.bl false))) sNil) (sFor (iRg1 (bCons (xC (.int 3)) bNil)) (gN 11) (sSeq (sSet 12 (xCall m__law_one (aCons true (xV 0) (aCons false (xLst (bCons (xV 8) (bCons (xBi mMin (aCons true (x2 opSub (xBi mLen (aCons true (xV 5) aNil)) (xC (.int 1))) (aCons true (x2 opAdd (xV 8) (xC (.int 1))) aNil))) (bCons (x2 opIx (xV 6) (xV 8)) (bCons (xCall m__law_draw (aCons true (xV 0) (aCons false (xBi mLen (aCons true (xV 5) aNil)) aNil))) bNil))))) aNil)))) (sIf (tB (x2 opNe (xBi mRepr (aCons true (xCall m_is_open (aCons true (xV 1) (aCons true (xV 7) (aCons true (xV 9) (aCons true (xV 12) aNil))))) aNil)) (xBi mRepr (aCons true (xCh opLt opLe (xV 8) (xV 12) (x2 opIx (xV 6) (xV 8))) aNil)))) (sRet 5 (xC (.bl false))) sNil))))) (sRet 5 (xC (.bl true))))))
noncomputable def m__law_right : FF := defF 1 5 [0] (sSeq (sAsg (gT 2 (gsCons (gN 1) (gsCons (gN 2) gsNil))) (xCall m__law_near (aCons true (xV 0) (aCons false (xC (.int 40)) aNil)))) (sSeq (sSet 3 (xMake "Plan" m_Plan___init__ true (bCons (xV 1) (bCons (xV 2) bNil)))) (sSeq (sFor (iSeq (xTup (bCons (xC (.bl true)) (bCons (xC (.bl false)) bNil)))) (gN 4) (sIf (tNot' (tB (xCall m__law_mode_right (aCons true (xV 0) (aCons true (xV 3) (aCons true (xV 1) (aCons true (xV 2) (aCons true (xV 4) aNil)))))))) (sRet 1 (xC (.bl false))) sNil)) (sRet 1 (xC (.bl true))))))
def m__law_well : FF := defF 1 1 [0] (sRet 1 (xLst (bCons (x2 opMul (xV 0) (xBi mInt (aCons true (x2 opGe (xV 0) (x2 opPow (xC (.int 10)) (xC (.int 18)))) aNil))) (bCons (xV 0) (bCons (xC (.int 0)) bNil)))))
noncomputable def m_law : FF := defF 1 2 [0] (sSeq (sFor (iSeq (x2 opAdd (xSl (xV 0) oN (oE (xC (.int 3)))) (xLst (bCons (xC (.int 0)) bNil)))) (gN 1) (sIf (tNot' (tB (xCall m__law_right (aCons false (xCall m__law_well (aCons true (xV 1) aNil)) aNil)))) (sRet 1 (xC (.bl false))) sNil)) (sRet 1 (xC (.bl true))))
section
variable {P : Program} {w : World} {K : PySem.W.Frag} {mg : Str → Option Value} {base : Heap}
theorem sc__law_mixed : FnScope ["_law_cell", "_law_k", "_law_figure"] ["_law_cell", "_law_k"] (defScope s__law_mixed) := ⟨rfl, rfl, rfl, by decide +kernel, rfl, by decide +kernel, by decide +kernel⟩
theorem ok__law_mixed (c : Fx ex fa fn K mg) : FnP P w K mg base 1 (He.ga K "_law_mixed") 2 m__law_mixed :=
  fnW' (k := 0) (c.s.d.def_ 0 (d := d__law_mixed) rfl) sc__law_mixed (fun _ _ _ _ _ _ us hl => match us, hl with | [_, _], _ => rfl) fun cdv A outer s H E hr =>
    have hu1 := hu1_of hr
    have hu64 := hu64_of hr
    have hu65 := hu65_of hr
    (vs_cons (vs_set (i := 2) rfl sc__law_mixed.nd rfl (.inl rfl) (ve_op ov_mod (ve_op ov_pow (ve_op ov_add (ve_op ov_add (ve_op ov_mod (ve_name (pe_var (i := 0) rfl (.inl rfl))) ve_int) (ve_op ov_mul ve_int (ve_name (pe_var (i := 1) rfl (.inl rfl))))) ve_int) ve_int) ve_int)) (vs_cons (vs_set (i := 2) rfl sc__law_mixed.nd rfl (.inl rfl) (ve_op ov_mod (ve_op ov_add (ve_name (pe_var (i := 2) rfl (.inl rfl))) (ve_op ov_mul (ve_op ov_mod (ve_op ov_div (ve_name (pe_var (i := 0) rfl (.inl rfl))) ve_int) ve_int) (ve_op ov_add (ve_name (pe_var (i := 1) rfl (.inl rfl))) ve_int))) ve_int)) (vs_cons (vs_set (i := 2) rfl sc__law_mixed.nd rfl (.inl rfl) (ve_op ov_mod (ve_op ov_mul (ve_name (pe_var (i := 2) rfl (.inl rfl))) (ve_op ov_add (ve_op ov_add (ve_op ov_div (ve_name (pe_var (i := 2) rfl (.inl rfl))) ve_int) ve_int) (ve_name (pe_var (i := 1) rfl (.inl rfl))))) ve_int)) (vs_one (vs_ret 2 (ve_op ov_mod (ve_op ov_mul (ve_name (pe_var (i := 2) rfl (.inl rfl))) (ve_op ov_add (ve_op ov_div (ve_name (pe_var (i := 2) rfl (.inl rfl))) ve_int) ve_int)) ve_int))))))
theorem sc__law_draw : FnScope ["_law_well_here", "_law_many", "_law_found"] ["_law_well_here", "_law_many"] (defScope s__law_draw) := ⟨rfl, rfl, rfl, by decide +kernel, rfl, by decide +kernel, by decide +kernel⟩
theorem ok__law_draw (c : Fx ex fa fn K mg) : FnP P w K mg base 2 (He.ga K "_law_draw") 2 m__law_draw :=
  fnW' (k := 1) (c.s.d.def_ 1 (d := d__law_draw) rfl) sc__law_draw (fun _ _ _ _ _ _ us hl => match us, hl with | [_, _], _ => rfl) fun cdv A outer s H E hr =>
    have hu1 := hu1_of hr
    have hu64 := hu64_of hr
    have hu65 := hu65_of hr
    (vs_cons (vs_if (vt_cmp ov_gt (ve_ix hu1 (ve_name (pe_var (i := 0) rfl (.inl rfl))) ve_int (fun _ _ => rfl)) ve_int (nomark _)) (vs_cons (vs_set (i := 2) rfl sc__law_draw.nd rfl (.inl rfl) (ve_op ov_mod (ve_ix hu1 (ve_name (pe_var (i := 0) rfl (.inl rfl))) ve_int (fun _ _ => rfl)) (ve_name (pe_var (i := 1) rfl (.inl rfl))))) (vs_cons (vs_sub hu1 (pe_var (i := 0) rfl (.inl rfl)) ve_int (ve_op ov_div (ve_ix hu1 (ve_name (pe_var (i := 0) rfl (.inl rfl))) ve_int (fun _ _ => rfl)) (ve_name (pe_var (i := 1) rfl (.inl rfl))))) (vs_one (vs_ret 2 (ve_name (pe_var (i := 2) rfl (.inl rfl))))))) vs_nil) (vs_cons (vs_sub hu1 (pe_var (i := 0) rfl (.inl rfl)) ve_int (ve_op ov_add (ve_ix hu1 (ve_name (pe_var (i := 0) rfl (.inl rfl))) ve_int (fun _ _ => rfl)) ve_int)) (vs_one (vs_ret 2 (ve_op ov_mod (ve_callF (ok__law_mixed (P := P) (w := w) (base := base) c) (aCons_len (aCons_len aNil_len)) (hr.mono (by decide)) rfl (c.glo 0) (va_cons false (ve_ix hu1 (ve_name (pe_var (i := 0) rfl (.inl rfl))) ve_int (fun _ _ => rfl)) (va_cons false (ve_ix hu1 (ve_name (pe_var (i := 0) rfl (.inl rfl))) ve_int (fun _ _ => rfl)) va_nil))) (ve_name (pe_var (i := 1) rfl (.inl rfl))))))))
theorem sc__law_one : FnScope ["_law_well_here", "_law_some"] ["_law_well_here", "_law_some"] (defScope s__law_one) := ⟨rfl, rfl, rfl, by decide +kernel, rfl, by decide +kernel, by decide +kernel⟩
theorem ok__law_one (c : Fx ex fa fn K mg) : FnP P w K mg base 3 (He.ga K "_law_one") 2 m__law_one :=
  fnW' (k := 2) (c.s.d.def_ 2 (d := d__law_one) rfl) sc__law_one (fun _ _ _ _ _ _ us hl => match us, hl with | [_, _], _ => rfl) fun cdv A outer s H E hr =>
    have hu1 := hu1_of hr
    have hu64 := hu64_of hr
    have hu65 := hu65_of hr
    (vs_one (vs_ret 2 (ve_ix hu1 (ve_name (pe_var (i := 1) rfl (.inl rfl))) (ve_callF (ok__law_draw (P := P) (w := w) (base := base) c) (aCons_len (aCons_len aNil_len)) (hr.mono (by decide)) rfl (c.glo 1) (va_cons true (ve_name (pe_var (i := 0) rfl (.inl rfl))) (va_cons false (ve_bi cv_len rfl (c.free 5) bo_len (va_cons true (ve_name (pe_var (i := 1) rfl (.inl rfl))) va_nil)) va_nil))) (fun _ _ => rfl))))
theorem sc__law_drawn : FnScope ["_law_well_here", "_law_length", "_law_wide", "_law_counts", "_law_names", "_law_kinds", "_law_at", "_law_name", "_law_later", "_law_rows", "_law_k", "_law_near_here", "_law_tops"] ["_law_well_here", "_law_length", "_law_wide", "_law_counts"] (defScope s__law_drawn) := ⟨rfl, rfl, rfl, by decide +kernel, rfl, by decide +kernel, by decide +kernel⟩
theorem ok__law_drawn (c : Fx ex fa fn K mg) : FnP P w K mg base 4 (He.ga K "_law_drawn") 4 m__law_drawn :=
  fnW' (k := 3) (c.s.d.def_ 3 (d := d__law_drawn) rfl) sc__law_drawn (fun _ _ _ _ _ _ us hl => match us, hl with | [_, _, _, _], _ => rfl) fun cdv A outer s H E hr =>
    have hu1 := hu1_of hr
    have hu64 := hu64_of hr
    have hu65 := hu65_of hr
    (vs_cons (vs_set (i := 4) rfl sc__law_drawn.nd rfl (.inr rfl) (ve_sl (ve_lst (vb_cons ve_str (vb_cons ve_str (vb_cons ve_str (vb_cons ve_str (vb_cons ve_str (vb_cons ve_str (vb_cons ve_str (vb_cons ve_str (vb_cons ve_str (vb_cons ve_str (vb_cons ve_str (vb_cons ve_str vb_nil))))))))))))) vo_none (vo_some (ve_op ov_add ve_int (ve_callF (ok__law_draw (P := P) (w := w) (base := base) c) (aCons_len (aCons_len aNil_len)) (hr.mono (by decide)) rfl (c.glo 1) (va_cons true (ve_name (pe_var (i := 0) rfl (.inr (.inl rfl)))) (va_cons true (ve_name (pe_var (i := 1) rfl (.inl rfl))) va_nil))))))) (vs_cons (vs_set (i := 5) rfl sc__law_drawn.nd rfl (.inl rfl) (ve_lst vb_nil)) (vs_cons (vs_for rfl PassesOwn.never rfl (vi_enumU rfl (c.free 2) (vb_cons (ve_name (pe_var (i := 4) rfl (.inr (.inl rfl)))) vb_nil)) (vg_tup rfl (vgs_cons (vg_name (pg_name sc__law_drawn.nd rfl (.inl rfl))) (vgs_cons (vg_name (pg_name sc__law_drawn.nd rfl (.inl rfl))) vgs_nil))) (vs_cons (vs_par (i := 8) (j := 9) rfl rfl sc__law_drawn.nd rfl rfl (by decide) rfl rfl (vb_cons (ve_sl (ve_name (pe_var (i := 4) rfl (.inr (.inl rfl)))) (vo_some (ve_op ov_add (ve_name (pe_var (i := 6) rfl (.inl rfl))) ve_int)) vo_none) (vb_cons (ve_lst vb_nil) vb_nil)) rfl) (vs_cons (vs_for rfl PassesOwn.never rfl (vi_range1 rfl (c.free 4) (vb_cons (ve_op ov_mul (ve_callF (ok__law_draw (P := P) (w := w) (base := base) c) (aCons_len (aCons_len aNil_len)) (hr.mono (by decide)) rfl (c.glo 1) (va_cons true (ve_name (pe_var (i := 0) rfl (.inr (.inl rfl)))) (va_cons false (ve_op ov_add (ve_name (pe_var (i := 2) rfl (.inl rfl))) ve_int) va_nil))) (ve_ty cv_int rfl (c.free 3) bo_int (va_cons true (ve_cmp (ov_ne hu64) (ve_name (pe_var (i := 8) rfl (.inl rfl))) (ve_lst vb_nil) (nomark _)) va_nil))) vb_nil)) (vg_name (pg_name sc__law_drawn.nd rfl (.inl rfl))) (vs_cons (vs_set (i := 11) rfl sc__law_drawn.nd rfl (.inl rfl) (ve_ix hu1 (ve_name (pe_var (i := 8) rfl (.inl rfl))) (ve_bi (cv_min rfl) rfl (c.free 6) bo_min (va_cons true (ve_callF (ok__law_draw (P := P) (w := w) (base := base) c) (aCons_len (aCons_len aNil_len)) (hr.mono (by decide)) rfl (c.glo 1) (va_cons true (ve_name (pe_var (i := 0) rfl (.inr (.inl rfl)))) (va_cons false (ve_bi cv_len rfl (c.free 5) bo_len (va_cons true (ve_name (pe_var (i := 8) rfl (.inl rfl))) va_nil)) va_nil))) (va_cons true (ve_callF (ok__law_draw (P := P) (w := w) (base := base) c) (aCons_len (aCons_len aNil_len)) (hr.mono (by decide)) rfl (c.glo 1) (va_cons true (ve_name (pe_var (i := 0) rfl (.inr (.inl rfl)))) (va_cons false (ve_bi cv_len rfl (c.free 5) bo_len (va_cons true (ve_name (pe_var (i := 8) rfl (.inl rfl))) va_nil)) va_nil))) va_nil))) (fun _ _ => rfl))) (vs_one (vs_expr (ve_app (pe_var (i := 9) rfl (.inl rfl)) (vb_cons (ve_tup (vb_cons (ve_name (pe_var (i := 11) rfl (.inl rfl))) (vb_cons (ve_callF (ok__law_one (P := P) (w := w) (base := base) c) (aCons_len (aCons_len aNil_len)) (hr.mono (by decide)) rfl (c.glo 7) (va_cons true (ve_name (pe_var (i := 0) rfl (.inr (.inl rfl)))) (va_cons true (ve_name (pe_var (i := 3) rfl (.inr (.inl rfl)))) va_nil))) vb_nil))) vb_nil)))))) (vs_one (vs_expr (ve_app (pe_var (i := 5) rfl (.inl rfl)) (vb_cons (ve_tup (vb_cons (ve_name (pe_var (i := 7) rfl (.inl rfl))) (vb_cons (ve_name (pe_var (i := 9) rfl (.inl rfl))) vb_nil))) vb_nil))))))) (vs_cons (vs_setLc (i := 12) (own := [("_law_k", 10)]) rfl rfl rfl sc__law_drawn.nd rfl rfl (sw_true rfl rfl rfl rfl) (vi_range1 rfl (c.free 4) (vb_cons (ve_callF (ok__law_draw (P := P) (w := w) (base := base) c) (aCons_len (aCons_len aNil_len)) (hr.mono (by decide)) rfl (c.glo 1) (va_cons true (ve_name (pe_var (i := 0) rfl (.inr (.inl rfl)))) (va_cons false (ve_op ov_add (ve_name (pe_var (i := 2) rfl (.inl rfl))) ve_int) va_nil))) vb_nil)) (blkOk_by (own := [("_law_k", 10)]) (by kernel_rfl)) (fun _ _ _ _ _ => (vg_name (pg_name sc__law_drawn.nd rfl (.inl rfl)))) (fun _ _ _ _ _ => vts_nil) (fun _ _ _ _ _ => (ve_tup (vb_cons (ve_callF (ok__law_one (P := P) (w := w) (base := base) c) (aCons_len (aCons_len aNil_len)) (hr.mono (by decide)) rfl (c.glo 7) (va_cons true (ve_name (pe_var (i := 0) rfl (.inr (.inl rfl)))) (va_cons false (ve_sl (ve_name (pe_var (i := 4) rfl (.inr (.inl rfl)))) vo_none (vo_some ve_int)) va_nil))) (vb_cons (ve_callF (ok__law_one (P := P) (w := w) (base := base) c) (aCons_len (aCons_len aNil_len)) (hr.mono (by decide)) rfl (c.glo 7) (va_cons true (ve_name (pe_var (i := 0) rfl (.inr (.inl rfl)))) (va_cons true (ve_name (pe_var (i := 3) rfl (.inr (.inl rfl)))) va_nil))) vb_nil))))) (vs_one (vs_ret 4 (ve_tup (vb_cons (ve_name (pe_var (i := 5) rfl (.inl rfl))) (vb_cons (ve_name (pe_var (i := 12) rfl (.inl rfl))) vb_nil)))))))))
theorem sc__law_sizes : FnScope ["_law_kinds", "_law_found", "_law_name", "_law_rows", "_law_child", "_law_many"] ["_law_kinds"] (defScope s__law_sizes) := ⟨rfl, rfl, rfl, by decide +kernel, rfl, by decide +kernel, by decide +kernel⟩
theorem ok__law_sizes (c : Fx ex fa fn K mg) : FnP P w K mg base 1 (He.ga K "_law_sizes") 1 m__law_sizes :=
  fnW' (k := 0) (c.s.d.def_ 4 (d := d__law_sizes) rfl) sc__law_sizes (fun _ _ _ _ _ _ us hl => match us, hl with | [_], _ => rfl) fun cdv A outer s H E hr =>
    have hu1 := hu1_of hr
    have hu64 := hu64_of hr
    have hu65 := hu65_of hr
    (vs_cons (vs_set (i := 1) rfl sc__law_sizes.nd rfl (.inr rfl) ve_dK) (vs_cons (vs_for rfl PassesOwn.never rfl (vi_seq (ve_rev (ve_name (pe_var (i := 0) rfl (.inl rfl))))) (vg_tup rfl (vgs_cons (vg_name (pg_name sc__law_sizes.nd rfl (.inl rfl))) (vgs_cons (vg_name (pg_name sc__law_sizes.nd rfl (.inl rfl))) vgs_nil))) (vs_one (vs_sub hu1 (pe_var (i := 1) rfl (.inr (.inl rfl))) (ve_name (pe_var (i := 2) rfl (.inl rfl))) (ve_op ov_add ve_int (ve_bi (cv_sum rfl) rfl (c.free 9) bo_sum (va_cons true (ve_lc (own := [("_law_child", 4), ("_law_many", 5)]) rfl rfl sc__law_sizes.nd (vi_seq (ve_name (pe_var (i := 3) rfl (.inl rfl)))) (blkOk_by (own := [("_law_child", 4), ("_law_many", 5)]) (by kernel_rfl)) (fun _ _ _ _ _ => (vg_tup rfl (vgs_cons (vg_name (pg_name sc__law_sizes.nd rfl (.inl rfl))) (vgs_cons (vg_name (pg_name sc__law_sizes.nd rfl (.inl rfl))) vgs_nil)))) (fun _ _ _ _ _ => vts_nil) (fun _ _ _ _ _ => (ve_op ov_mul (ve_name (pe_var (i := 5) rfl (.inl rfl))) (ve_ix hu1 (ve_name (pe_var (i := 1) rfl (.inr (.inl rfl)))) (ve_name (pe_var (i := 4) rfl (.inl rfl))) (fun _ _ => rfl))))) va_nil)))))) (vs_one (vs_ret 1 (ve_name (pe_var (i := 1) rfl (.inr (.inl rfl))))))))
theorem sc__law_total : FnScope ["_law_kinds", "_law_tops", "_law_trees", "_law_name", "_law_many"] ["_law_kinds", "_law_tops"] (defScope s__law_total) := ⟨rfl, rfl, rfl, by decide +kernel, rfl, by decide +kernel, by decide +kernel⟩
theorem ok__law_total (c : Fx ex fa fn K mg) : FnP P w K mg base 2 (He.ga K "_law_total") 2 m__law_total :=
  fnW' (k := 1) (c.s.d.def_ 5 (d := d__law_total) rfl) sc__law_total (fun _ _ _ _ _ _ us hl => match us, hl with | [_, _], _ => rfl) fun cdv A outer s H E hr =>
    have hu1 := hu1_of hr
    have hu64 := hu64_of hr
    have hu65 := hu65_of hr
    (vs_cons (vs_set (i := 2) rfl sc__law_total.nd rfl (.inr rfl) (ve_callF (ok__law_sizes (P := P) (w := w) (base := base) c) (aCons_len aNil_len) (hr.mono (by decide)) rfl (c.glo 10) (va_cons true (ve_name (pe_var (i := 0) rfl (.inl rfl))) va_nil))) (vs_one (vs_ret 2 (ve_bi (cv_sum rfl) rfl (c.free 9) bo_sum (va_cons true (ve_lc (own := [("_law_name", 3), ("_law_many", 4)]) rfl rfl sc__law_total.nd (vi_seq (ve_name (pe_var (i := 1) rfl (.inl rfl)))) (blkOk_by (own := [("_law_name", 3), ("_law_many", 4)]) (by kernel_rfl)) (fun _ _ _ _ _ => (vg_tup rfl (vgs_cons (vg_name (pg_name sc__law_total.nd rfl (.inl rfl))) (vgs_cons (vg_name (pg_name sc__law_total.nd rfl (.inl rfl))) vgs_nil)))) (fun _ _ _ _ _ => vts_nil) (fun _ _ _ _ _ => (ve_op ov_mul (ve_name (pe_var (i := 4) rfl (.inl rfl))) (ve_ix hu1 (ve_name (pe_var (i := 2) rfl (.inr (.inl rfl)))) (ve_name (pe_var (i := 3) rfl (.inl rfl))) (fun _ _ => rfl))))) va_nil)))))
theorem sc__law_near : FnScope ["_law_well_here", "_law_most", "_law_kinds", "_law_tops", "_law_at", "_law_name", "_law_rows"] ["_law_well_here", "_law_most"] (defScope s__law_near) := ⟨rfl, rfl, rfl, by decide +kernel, rfl, by decide +kernel, by decide +kernel⟩
theorem ok__law_near (c : Fx ex fa fn K mg) : FnP P w K mg base 5 (He.ga K "_law_near") 2 m__law_near :=
  fnW' (k := 4) (c.s.d.def_ 6 (d := d__law_near) rfl) sc__law_near (fun _ _ _ _ _ _ us hl => match us, hl with | [_, _], _ => rfl) fun cdv A outer s H E hr =>
    have hu1 := hu1_of hr
    have hu64 := hu64_of hr
    have hu65 := hu65_of hr
    (vs_cons (vs_asg rfl (ve_callF (ok__law_drawn (P := P) (w := w) (base := base) c) (aCons_len (aCons_len (aCons_len (aCons_len aNil_len)))) (hr.mono (by decide)) rfl (c.glo 8) (va_cons true (ve_name (pe_var (i := 0) rfl (.inl rfl))) (va_cons false ve_int (va_cons false ve_int (va_cons false (ve_lst (vb_cons ve_int (vb_cons ve_int (vb_cons ve_int (vb_cons ve_int vb_nil))))) va_nil))))) (vg_tup rfl (vgs_cons (vg_name (pg_name sc__law_near.nd rfl (.inl rfl))) (vgs_cons (vg_name (pg_name sc__law_near.nd rfl (.inl rfl))) vgs_nil)))) (vs_cons (vs_set (i := 4) rfl sc__law_near.nd rfl (.inl rfl) ve_int) (vs_cons (vs_while PassesOwn.never (vt_cmp ov_gt (ve_callF (ok__law_total (P := P) (w := w) (base := base) c) (aCons_len (aCons_len aNil_len)) (hr.mono (by decide)) rfl (c.glo 11) (va_cons true (ve_name (pe_var (i := 2) rfl (.inl rfl))) (va_cons true (ve_name (pe_var (i := 3) rfl (.inl rfl))) va_nil))) (ve_name (pe_var (i := 1) rfl (.inl rfl))) (nomark _)) (vs_cons (vs_asg rfl (ve_ix hu1 (ve_name (pe_var (i := 2) rfl (.inl rfl))) (ve_name (pe_var (i := 4) rfl (.inl rfl))) (fun _ _ => rfl)) (vg_tup rfl (vgs_cons (vg_name (pg_name sc__law_near.nd rfl (.inl rfl))) (vgs_cons (vg_name (pg_name sc__law_near.nd rfl (.inl rfl))) vgs_nil)))) (vs_cons (vs_set (i := 2) rfl sc__law_near.nd rfl (.inl rfl) (ve_op ov_add (ve_op ov_add (ve_sl (ve_name (pe_var (i := 2) rfl (.inl rfl))) vo_none (vo_some (ve_name (pe_var (i := 4) rfl (.inl rfl))))) (ve_lst (vb_cons (ve_tup (vb_cons (ve_name (pe_var (i := 5) rfl (.inl rfl))) (vb_cons (ve_sl (ve_name (pe_var (i := 6) rfl (.inl rfl))) vo_none (vo_some (ve_neg ve_int))) vb_nil))) vb_nil))) (ve_sl (ve_name (pe_var (i := 2) rfl (.inl rfl))) (vo_some (ve_op ov_add (ve_name (pe_var (i := 4) rfl (.inl rfl))) ve_int)) vo_none))) (vs_cons (vs_set (i := 4) rfl sc__law_near.nd rfl (.inl rfl) (ve_op ov_mod (ve_op ov_add (ve_name (pe_var (i := 4) rfl (.inl rfl))) ve_int) (ve_bi cv_len rfl (c.free 5) bo_len (va_cons true (ve_name (pe_var (i := 2) rfl (.inl rfl))) va_nil)))) (vs_one (vs_set (i := 3) rfl sc__law_near.nd rfl (.inl rfl) (ve_if (vt_cmp (ov_eq hu64) (ve_name (pe_var (i := 4) rfl (.inl rfl))) ve_int (nomark _)) (ve_op ov_add (ve_sl (ve_name (pe_var (i := 3) rfl (.inl rfl))) vo_none (vo_some ve_int)) (ve_sl (ve_name (pe_var (i := 3) rfl (.inl rfl))) (vo_some ve_int) vo_none)) (ve_name (pe_var (i := 3) rfl (.inl rfl)))))))))) (vs_one (vs_ret 2 (ve_tup (vb_cons (ve_name (pe_var (i := 2) rfl (.inl rfl))) (vb_cons (ve_name (pe_var (i := 3) rfl (.inl rfl))) vb_nil))))))))
theorem sc_is_name : FnScope ["value", "letter"] ["value"] (defScope s_is_name) := ⟨rfl, rfl, rfl, by decide +kernel, rfl, by decide +kernel, by decide +kernel⟩
theorem ok_is_name (c : Fx ex fa fn K mg) : FnP P w K mg base 1 (He.ga K "is_name") 1 m_is_name :=
  fnW' (k := 0) (c.s.d.def_ 7 (d := d_is_name) rfl) sc_is_name (fun _ _ _ _ _ _ us hl => match us, hl with | [_], _ => rfl) fun cdv A outer s H E hr =>
    have hu1 := hu1_of hr
    have hu64 := hu64_of hr
    have hu65 := hu65_of hr
    (vs_cons (vs_if (PW.pt (vw_or (vt_not (vt_val (ve_isi rfl (c.free 13) rfl (c.free 17) bo_str (ve_name (pe_var (i := 0) rfl (.inl rfl)))))) (vw_or1 (vt_not (vt_chain ov_le ov_le ve_int (ve_bi cv_len rfl (c.free 5) bo_len (va_cons true (ve_name (pe_var (i := 0) rfl (.inl rfl))) va_nil)) (ve_gint rfl (c.int 18))))))) (vs_one (vs_ret 1 ve_bl)) vs_nil) (vs_one (vs_ret 1 (ve_bi (cv_all rfl) rfl (c.free 19) bo_all (va_cons true (ve_lc (own := [("letter", 1)]) rfl rfl sc_is_name.nd (vi_seq (ve_name (pe_var (i := 0) rfl (.inl rfl)))) (blkOk_by (own := [("letter", 1)]) (by kernel_rfl)) (fun _ _ _ _ _ => (vg_name (pg_name sc_is_name.nd rfl (.inl rfl)))) (fun _ _ _ _ _ => vts_nil) (fun _ _ _ _ _ => (ve_chain ov_le ov_le ve_str (ve_name (pe_var (i := 1) rfl (.inl rfl))) ve_str))) va_nil)))))
theorem sc_is_integer : FnScope ["value"] ["value"] (defScope s_is_integer) := ⟨rfl, rfl, rfl, by decide +kernel, rfl, by decide +kernel, by decide +kernel⟩
theorem ok_is_integer (c : Fx ex fa fn K mg) : FnP P w K mg base 1 (He.ga K "is_integer") 1 m_is_integer :=
  fnW' (k := 0) (c.s.d.def_ 8 (d := d_is_integer) rfl) sc_is_integer (fun _ _ _ _ _ _ us hl => match us, hl with | [_], _ => rfl) fun cdv A outer s H E hr =>
    have hu1 := hu1_of hr
    have hu64 := hu64_of hr
    have hu65 := hu65_of hr
    (vs_one (vs_ret 1 (ve_and (ve_isi rfl (c.free 13) rfl (c.free 3) bo_int (ve_name (pe_var (i := 0) rfl (.inl rfl)))) (ve_one (ve_not (ve_isi rfl (c.free 13) rfl (c.free 22) bo_bool (ve_name (pe_var (i := 0) rfl (.inl rfl)))))))))
theorem sc_is_between : FnScope ["value", "low", "high"] ["value", "low", "high"] (defScope s_is_between) := ⟨rfl, rfl, rfl, by decide +kernel, rfl, by decide +kernel, by decide +kernel⟩
theorem ok_is_between (c : Fx ex fa fn K mg) : FnP P w K mg base 2 (He.ga K "is_between") 3 m_is_between :=
  fnW' (k := 1) (c.s.d.def_ 9 (d := d_is_between) rfl) sc_is_between (fun _ _ _ _ _ _ us hl => match us, hl with | [_, _, _], _ => rfl) fun cdv A outer s H E hr =>
    have hu1 := hu1_of hr
    have hu64 := hu64_of hr
    have hu65 := hu65_of hr
    (vs_one (vs_ret 3 (ve_and (ve_callF (ok_is_integer (P := P) (w := w) (base := base) c) (aCons_len aNil_len) (hr.mono (by decide)) rfl (c.glo 23) (va_cons true (ve_name (pe_var (i := 0) rfl (.inl rfl))) va_nil)) (ve_one (ve_chain ov_le ov_le (ve_name (pe_var (i := 1) rfl (.inl rfl))) (ve_name (pe_var (i := 0) rfl (.inl rfl))) (ve_name (pe_var (i := 2) rfl (.inl rfl))))))))
theorem sc_is_entry : FnScope ["value"] ["value"] (defScope s_is_entry) := ⟨rfl, rfl, rfl, by decide +kernel, rfl, by decide +kernel, by decide +kernel⟩
theorem ok_is_entry (c : Fx ex fa fn K mg) : FnP P w K mg base 3 (He.ga K "is_entry") 1 m_is_entry :=
  fnW' (k := 2) (c.s.d.def_ 10 (d := d_is_entry) rfl) sc_is_entry (fun _ _ _ _ _ _ us hl => match us, hl with | [_], _ => rfl) fun cdv A outer s H E hr =>
    have hu1 := hu1_of hr
    have hu64 := hu64_of hr
    have hu65 := hu65_of hr
    (vs_cons (vs_if (PW.pt (vw_or (vt_not (vt_val (ve_isi rfl (c.free 13) rfl (c.free 16) bo_tuple (ve_name (pe_var (i := 0) rfl (.inl rfl)))))) (vw_or1 (vt_cmp (ov_ne hu64) (ve_bi cv_len rfl (c.free 5) bo_len (va_cons true (ve_name (pe_var (i := 0) rfl (.inl rfl))) va_nil)) ve_int (nomark _))))) (vs_one (vs_ret 1 ve_bl)) vs_nil) (vs_one (vs_ret 1 (ve_and (ve_callF (ok_is_name (P := P) (w := w) (base := base) c) (aCons_len aNil_len) (hr.mono (by decide)) rfl (c.glo 20) (va_cons false (ve_ix hu1 (ve_name (pe_var (i := 0) rfl (.inl rfl))) ve_int (fun _ _ => rfl)) va_nil)) (ve_one (ve_callF (ok_is_between (P := P) (w := w) (base := base) c) (aCons_len (aCons_len (aCons_len aNil_len))) (hr.mono (by decide)) rfl (c.glo 25) (va_cons false (ve_ix hu1 (ve_name (pe_var (i := 0) rfl (.inl rfl))) ve_int (fun _ _ => rfl)) (va_cons false ve_int (va_cons false (ve_gint rfl (c.int 24)) va_nil)))))))))
theorem sc_is_type : FnScope ["value", "entry"] ["value"] (defScope s_is_type) := ⟨rfl, rfl, rfl, by decide +kernel, rfl, by decide +kernel, by decide +kernel⟩
theorem ok_is_type (c : Fx ex fa fn K mg) : FnP P w K mg base 4 (He.ga K "is_type") 1 m_is_type :=
  fnW' (k := 3) (c.s.d.def_ 11 (d := d_is_type) rfl) sc_is_type (fun _ _ _ _ _ _ us hl => match us, hl with | [_], _ => rfl) fun cdv A outer s H E hr =>
    have hu1 := hu1_of hr
    have hu64 := hu64_of hr
    have hu65 := hu65_of hr
    (vs_cons (vs_if (PW.pt (vw_or (vt_not (vt_val (ve_isi rfl (c.free 13) rfl (c.free 16) bo_tuple (ve_name (pe_var (i := 0) rfl (.inl rfl)))))) (vw_or (vt_cmp (ov_ne hu64) (ve_bi cv_len rfl (c.free 5) bo_len (va_cons true (ve_name (pe_var (i := 0) rfl (.inl rfl))) va_nil)) ve_int (nomark _)) (vw_or1 (vt_not (vt_val (ve_callF (ok_is_name (P := P) (w := w) (base := base) c) (aCons_len aNil_len) (hr.mono (by decide)) rfl (c.glo 20) (va_cons false (ve_ix hu1 (ve_name (pe_var (i := 0) rfl (.inl rfl))) ve_int (fun _ _ => rfl)) va_nil)))))))) (vs_one (vs_ret 1 ve_bl)) vs_nil) (vs_cons (vs_if (PW.pt (vw_or (vt_not (vt_val (ve_isi rfl (c.free 13) rfl (c.free 14) bo_list (ve_ix hu1 (ve_name (pe_var (i := 0) rfl (.inl rfl))) ve_int (fun _ _ => rfl))))) (vw_or1 (vt_cmp ov_gt (ve_bi cv_len rfl (c.free 5) bo_len (va_cons true (ve_ix hu1 (ve_name (pe_var (i := 0) rfl (.inl rfl))) ve_int (fun _ _ => rfl)) va_nil)) (ve_gint rfl (c.int 21)) (nomark _))))) (vs_one (vs_ret 1 ve_bl)) vs_nil) (vs_one (vs_ret 1 (ve_bi (cv_all rfl) rfl (c.free 19) bo_all (va_cons true (ve_lc (own := [("entry", 1)]) rfl rfl sc_is_type.nd (vi_seq (ve_ix hu1 (ve_name (pe_var (i := 0) rfl (.inl rfl))) ve_int (fun _ _ => rfl))) (blkOk_by (own := [("entry", 1)]) (by kernel_rfl)) (fun _ _ _ _ _ => (vg_name (pg_name sc_is_type.nd rfl (.inl rfl)))) (fun _ _ _ _ _ => vts_nil) (fun _ _ _ _ _ => (ve_callF (ok_is_entry (P := P) (w := w) (base := base) c) (aCons_len aNil_len) (hr.mono (by decide)) rfl (c.glo 26) (va_cons true (ve_name (pe_var (i := 1) rfl (.inl rfl))) va_nil)))) va_nil))))))
theorem sc_check_types : FnScope ["types", "known", "at", "some", "name", "many"] ["types"] (defScope s_check_types) := ⟨rfl, rfl, rfl, by decide +kernel, rfl, by decide +kernel, by decide +kernel⟩
theorem ok_check_types (c : Fx ex fa fn K mg) : FnP P w K mg base 5 (He.ga K "check_types") 1 m_check_types :=
  fnW' (k := 4) (c.s.d.def_ 12 (d := d_check_types) rfl) sc_check_types (fun _ _ _ _ _ _ us hl => match us, hl with | [_], _ => rfl) fun cdv A outer s H E hr =>
    have hu1 := hu1_of hr
    have hu64 := hu64_of hr
    have hu65 := hu65_of hr
    (vs_cons (vs_if (PW.pt (vw_or (vt_not (vt_val (ve_isi rfl (c.free 13) rfl (c.free 14) bo_list (ve_name (pe_var (i := 0) rfl (.inl rfl)))))) (vw_or1 (vt_not (vt_chain ov_le ov_le ve_int (ve_bi cv_len rfl (c.free 5) bo_len (va_cons true (ve_name (pe_var (i := 0) rfl (.inl rfl))) va_nil)) (ve_gint rfl (c.int 15))))))) (vs_one vs_never) vs_nil) (vs_cons (vs_set (i := 1) rfl sc_check_types.nd rfl (.inr rfl) (ve_lst vb_nil)) (vs_cons (vs_for rfl PassesOwn.never rfl (vi_enumU rfl (c.free 2) (vb_cons (ve_name (pe_var (i := 0) rfl (.inl rfl))) vb_nil)) (vg_tup rfl (vgs_cons (vg_name (pg_name sc_check_types.nd rfl (.inr rfl))) (vgs_cons (vg_name (pg_name sc_check_types.nd rfl (.inl rfl))) vgs_nil))) (vs_cons (vs_if (PW.pt (vw_or (vt_not (vt_val (ve_callF (ok_is_type (P := P) (w := w) (base := base) c) (aCons_len aNil_len) (hr.mono (by decide)) rfl (c.glo 27) (va_cons true (ve_name (pe_var (i := 3) rfl (.inl rfl))) va_nil)))) (vw_or1 (vt_cmp (ov_in hu65) (ve_ix hu1 (ve_name (pe_var (i := 3) rfl (.inl rfl))) ve_int (fun _ _ => rfl)) (ve_name (pe_var (i := 1) rfl (.inr (.inl rfl)))) (by with_unfolding_all rfl))))) (vs_one vs_never) vs_nil) (vs_one (vs_expr (ve_app (pe_var (i := 1) rfl (.inr (.inl rfl))) (vb_cons (ve_ix hu1 (ve_name (pe_var (i := 3) rfl (.inl rfl))) ve_int (fun _ _ => rfl)) vb_nil)))))) (vs_one (vs_for rfl PassesOwn.never rfl (vi_enumU rfl (c.free 2) (vb_cons (ve_name (pe_var (i := 0) rfl (.inl rfl))) vb_nil)) (vg_tup rfl (vgs_cons (vg_name (pg_name sc_check_types.nd rfl (.inr rfl))) (vgs_cons (vg_name (pg_name sc_check_types.nd rfl (.inl rfl))) vgs_nil))) (vs_one (vs_if (vt_not (vt_val (ve_bi (cv_all rfl) rfl (c.free 19) bo_all (va_cons true (ve_lc (own := [("name", 4), ("many", 5)]) rfl rfl sc_check_types.nd (vi_seq (ve_ix hu1 (ve_name (pe_var (i := 3) rfl (.inl rfl))) ve_int (fun _ _ => rfl))) (blkOk_by (own := [("name", 4), ("many", 5)]) (by kernel_rfl)) (fun _ _ _ _ _ => (vg_tup rfl (vgs_cons (vg_name (pg_name sc_check_types.nd rfl (.inl rfl))) (vgs_cons (vg_name (pg_name sc_check_types.nd rfl (.inl rfl))) vgs_nil)))) (fun _ _ _ _ _ => vts_nil) (fun _ _ _ _ _ => (ve_cmp (ov_in hu65) (ve_name (pe_var (i := 4) rfl (.inl rfl))) (ve_sl (ve_name (pe_var (i := 1) rfl (.inr (.inl rfl)))) (vo_some (ve_op ov_add (ve_name (pe_var (i := 2) rfl (.inr (.inl rfl)))) ve_int)) vo_none) (by with_unfolding_all rfl)))) va_nil)))) (vs_one vs_never) vs_nil)))))))
theorem sc_check_roots : FnScope ["roots", "names", "at", "root"] ["roots", "names"] (defScope s_check_roots) := ⟨rfl, rfl, rfl, by decide +kernel, rfl, by decide +kernel, by decide +kernel⟩
theorem ok_check_roots (c : Fx ex fa fn K mg) : FnP P w K mg base 4 (He.ga K "check_roots") 2 m_check_roots :=
  fnW' (k := 3) (c.s.d.def_ 13 (d := d_check_roots) rfl) sc_check_roots (fun _ _ _ _ _ _ us hl => match us, hl with | [_, _], _ => rfl) fun cdv A outer s H E hr =>
    have hu1 := hu1_of hr
    have hu64 := hu64_of hr
    have hu65 := hu65_of hr
    (vs_cons (vs_if (PW.pt (vw_or (vt_not (vt_val (ve_isi rfl (c.free 13) rfl (c.free 14) bo_list (ve_name (pe_var (i := 0) rfl (.inl rfl)))))) (vw_or1 (vt_cmp ov_gt (ve_bi cv_len rfl (c.free 5) bo_len (va_cons true (ve_name (pe_var (i := 0) rfl (.inl rfl))) va_nil)) (ve_gint rfl (c.int 21)) (nomark _))))) (vs_one vs_never) vs_nil) (vs_one (vs_for rfl PassesOwn.never rfl (vi_enumU rfl (c.free 2) (vb_cons (ve_name (pe_var (i := 0) rfl (.inl rfl))) vb_nil)) (vg_tup rfl (vgs_cons (vg_name (pg_name sc_check_roots.nd rfl (.inl rfl))) (vgs_cons (vg_name (pg_name sc_check_roots.nd rfl (.inl rfl))) vgs_nil))) (vs_one (vs_if (PW.pt (vw_or (vt_not (vt_val (ve_callF (ok_is_entry (P := P) (w := w) (base := base) c) (aCons_len aNil_len) (hr.mono (by decide)) rfl (c.glo 26) (va_cons true (ve_name (pe_var (i := 3) rfl (.inl rfl))) va_nil)))) (vw_or1 (vt_cmp (ov_nin hu65) (ve_ix hu1 (ve_name (pe_var (i := 3) rfl (.inl rfl))) ve_int (fun _ _ => rfl)) (ve_name (pe_var (i := 1) rfl (.inl rfl))) (by with_unfolding_all rfl))))) (vs_one vs_never) vs_nil)))))
theorem sc_table_of : FnScope ["entries", "tables", "found", "child", "count", "at", "every", "inner"] ["entries", "tables"] (defScope s_table_of) := ⟨rfl, rfl, rfl, by decide +kernel, rfl, by decide +kernel, by decide +kernel⟩
theorem ok_table_of (c : Fx ex fa fn K mg) : FnP P w K mg base 1 (He.ga K "table_of") 2 m_table_of :=
  fnW' (k := 0) (c.s.d.def_ 14 (d := d_table_of) rfl) sc_table_of (fun _ _ _ _ _ _ us hl => match us, hl with | [_, _], _ => rfl) fun cdv A outer s H E hr =>
    have hu1 := hu1_of hr
    have hu64 := hu64_of hr
    have hu65 := hu65_of hr
    (vs_cons (vs_set (i := 2) rfl sc_table_of.nd rfl (.inl rfl) (ve_lst (vb_cons (ve_tup (vb_cons ve_int (vb_cons (ve_ty cv_int rfl (c.free 3) bo_int (va_cons true (ve_cmp (ov_ne hu64) (ve_name (pe_var (i := 0) rfl (.inl rfl))) (ve_lst vb_nil) (nomark _)) va_nil)) vb_nil))) vb_nil))) (vs_cons (vs_for rfl PassesOwn.never rfl (vi_seq (ve_name (pe_var (i := 0) rfl (.inl rfl)))) (vg_tup rfl (vgs_cons (vg_name (pg_name sc_table_of.nd rfl (.inl rfl))) (vgs_cons (vg_name (pg_name sc_table_of.nd rfl (.inl rfl))) vgs_nil))) (vs_one (vs_for rfl PassesOwn.never rfl (vi_enumU rfl (c.free 2) (vb_cons (ve_ix hu1 (ve_name (pe_var (i := 1) rfl (.inl rfl))) (ve_name (pe_var (i := 3) rfl (.inl rfl))) (fun _ _ => rfl)) vb_nil)) (vg_tup rfl (vgs_cons (vg_name (pg_name sc_table_of.nd rfl (.inl rfl))) (vgs_cons (vg_tup rfl (vgs_cons (vg_name (pg_name sc_table_of.nd rfl (.inl rfl))) (vgs_cons (vg_name (pg_name sc_table_of.nd rfl (.inl rfl))) vgs_nil))) vgs_nil))) (vs_cons (vs_if (vt_cmp (ov_eq hu64) (ve_op ov_add (ve_name (pe_var (i := 5) rfl (.inl rfl))) ve_int) (ve_bi cv_len rfl (c.free 5) bo_len (va_cons true (ve_name (pe_var (i := 2) rfl (.inl rfl))) va_nil)) (nomark _)) (vs_one (vs_expr (ve_app (pe_var (i := 2) rfl (.inl rfl)) (vb_cons (ve_tup (vb_cons ve_int (vb_cons ve_int vb_nil))) vb_nil)))) vs_nil) (vs_one (vs_sub hu1 (pe_var (i := 2) rfl (.inl rfl)) (ve_op ov_add (ve_name (pe_var (i := 5) rfl (.inl rfl))) ve_int) (ve_tup (vb_cons (ve_op ov_add (ve_ix hu1 (ve_ix hu1 (ve_name (pe_var (i := 2) rfl (.inl rfl))) (ve_op ov_add (ve_name (pe_var (i := 5) rfl (.inl rfl))) ve_int) (fun _ _ => rfl)) ve_int (fun _ _ => rfl)) (ve_op ov_mul (ve_name (pe_var (i := 4) rfl (.inl rfl))) (ve_name (pe_var (i := 6) rfl (.inl rfl))))) (vb_cons (ve_op ov_add (ve_ix hu1 (ve_ix hu1 (ve_name (pe_var (i := 2) rfl (.inl rfl))) (ve_op ov_add (ve_name (pe_var (i := 5) rfl (.inl rfl))) ve_int) (fun _ _ => rfl)) ve_int (fun _ _ => rfl)) (ve_op ov_mul (ve_name (pe_var (i := 4) rfl (.inl rfl))) (ve_name (pe_var (i := 7) rfl (.inl rfl))))) vb_nil))))))))) (vs_one (vs_ret 2 (ve_name (pe_var (i := 2) rfl (.inl rfl)))))))
theorem sc_all_tables : FnScope ["types", "found", "name", "entries"] ["types"] (defScope s_all_tables) := ⟨rfl, rfl, rfl, by decide +kernel, rfl, by decide +kernel, by decide +kernel⟩
theorem ok_all_tables (c : Fx ex fa fn K mg) : FnP P w K mg base 2 (He.ga K "all_tables") 1 m_all_tables :=
  fnW' (k := 1) (c.s.d.def_ 15 (d := d_all_tables) rfl) sc_all_tables (fun _ _ _ _ _ _ us hl => match us, hl with | [_], _ => rfl) fun cdv A outer s H E hr =>
    have hu1 := hu1_of hr
    have hu64 := hu64_of hr
    have hu65 := hu65_of hr
    (vs_cons (vs_set (i := 1) rfl sc_all_tables.nd rfl (.inl rfl) ve_dK) (vs_cons (vs_for rfl PassesOwn.never rfl (vi_seq (ve_rev (ve_name (pe_var (i := 0) rfl (.inl rfl))))) (vg_tup rfl (vgs_cons (vg_name (pg_name sc_all_tables.nd rfl (.inl rfl))) (vgs_cons (vg_name (pg_name sc_all_tables.nd rfl (.inl rfl))) vgs_nil))) (vs_one (vs_sub hu1 (pe_var (i := 1) rfl (.inl rfl)) (ve_name (pe_var (i := 2) rfl (.inl rfl))) (ve_callF (ok_table_of (P := P) (w := w) (base := base) c) (aCons_len (aCons_len aNil_len)) (hr.mono (by decide)) rfl (c.glo 33) (va_cons true (ve_name (pe_var (i := 3) rfl (.inl rfl))) (va_cons true (ve_name (pe_var (i := 1) rfl (.inl rfl))) va_nil)))))) (vs_one (vs_ret 1 (ve_name (pe_var (i := 1) rfl (.inl rfl)))))))
theorem sc_Plan___init__ : FnScope ["self", "types", "roots", "name", "entries"] ["self", "types", "roots"] (defScope s_Plan___init__) := ⟨rfl, rfl, rfl, by decide +kernel, rfl, by decide +kernel, by decide +kernel⟩
theorem ok_Plan___init__ (c : Fx ex fa fn K mg) : FnP P w K mg base 6 (He.ma K (He.ga K "Plan") "__init__") 3 m_Plan___init__ :=
  fnW' (k := 5) (c.s.d.def_ 16 (d := d_Plan___init__) rfl) sc_Plan___init__ (fun _ _ _ _ _ _ us hl => match us, hl with | [_, _, _], _ => rfl) fun cdv A outer s H E hr =>
    have hu1 := hu1_of hr
    have hu64 := hu64_of hr
    have hu65 := hu65_of hr
    (vs_cons (vs_expr (ve_callF (ok_check_types (P := P) (w := w) (base := base) c) (aCons_len aNil_len) (hr.mono (by decide)) rfl (c.glo 28) (va_cons true (ve_name (pe_var (i := 1) rfl (.inl rfl))) va_nil))) (vs_cons (vs_expr (ve_callF (ok_check_roots (P := P) (w := w) (base := base) c) (aCons_len (aCons_len aNil_len)) (hr.mono (by decide)) rfl (c.glo 29) (va_cons true (ve_name (pe_var (i := 2) rfl (.inl rfl))) (va_cons false (ve_lc (own := [("name", 3), ("entries", 4)]) rfl rfl sc_Plan___init__.nd (vi_seq (ve_name (pe_var (i := 1) rfl (.inl rfl)))) (blkOk_by (own := [("name", 3), ("entries", 4)]) (by kernel_rfl)) (fun _ _ _ _ _ => (vg_tup rfl (vgs_cons (vg_name (pg_name sc_Plan___init__.nd rfl (.inl rfl))) (vgs_cons (vg_name (pg_name sc_Plan___init__.nd rfl (.inl rfl))) vgs_nil)))) (fun _ _ _ _ _ => vts_nil) (fun _ _ _ _ _ => (ve_name (pe_var (i := 3) rfl (.inl rfl))))) va_nil)))) (vs_cons (vs_attr (c.cls 30) (c.noat 31) (pe_var (i := 0) rfl (.inl rfl)) (ve_dc (own := [("name", 3), ("entries", 4)]) rfl rfl sc_Plan___init__.nd (vi_seq (ve_name (pe_var (i := 1) rfl (.inl rfl)))) (blkOk_by (own := [("name", 3), ("entries", 4)]) (by kernel_rfl)) (fun _ _ _ _ _ => (vg_tup rfl (vgs_cons (vg_name (pg_name sc_Plan___init__.nd rfl (.inl rfl))) (vgs_cons (vg_name (pg_name sc_Plan___init__.nd rfl (.inl rfl))) vgs_nil)))) (fun _ _ _ _ _ => vts_nil) (fun _ _ _ _ _ => (ve_name (pe_var (i := 3) rfl (.inl rfl)))) (fun _ _ _ _ _ => (ve_ty cv_list rfl (c.free 14) bo_list (va_cons true (ve_name (pe_var (i := 4) rfl (.inl rfl))) va_nil))))) (vs_cons (vs_attr (c.cls 30) (c.noat 32) (pe_var (i := 0) rfl (.inl rfl)) (ve_ty cv_list rfl (c.free 14) bo_list (va_cons true (ve_name (pe_var (i := 2) rfl (.inl rfl))) va_nil))) (vs_one (vs_attr (c.cls 30) (c.noat 35) (pe_var (i := 0) rfl (.inl rfl)) (ve_callF (ok_all_tables (P := P) (w := w) (base := base) c) (aCons_len aNil_len) (hr.mono (by decide)) rfl (c.glo 34) (va_cons true (ve_name (pe_var (i := 1) rfl (.inl rfl))) va_nil))))))))
theorem sc__law_order : FnScope ["_law_kinds", "_law_tops", "_law_is_fifo", "_law_table", "_law_found", "_law_queue", "_law_place", "_law_name", "_law_many", "_law_k", "_law_path", "_law_child"] ["_law_kinds", "_law_tops", "_law_is_fifo"] (defScope s__law_order) := ⟨rfl, rfl, rfl, by decide +kernel, rfl, by decide +kernel, by decide +kernel⟩
theorem ok__law_order (c : Fx ex fa fn K mg) : FnP P w K mg base 1 (He.ga K "_law_order") 3 m__law_order :=
  fnW' (k := 0) (c.s.d.def_ 17 (d := d__law_order) rfl) sc__law_order (fun _ _ _ _ _ _ us hl => match us, hl with | [_, _, _], _ => rfl) fun cdv A outer s H E hr =>
    have hu1 := hu1_of hr
    have hu64 := hu64_of hr
    have hu65 := hu65_of hr
    (vs_cons (vs_par3 (i := 3) (j := 4) (l := 5) rfl rfl sc__law_order.nd rfl rfl rfl (by decide) (by decide) (by decide) rfl rfl rfl (vb_cons (ve_ty (cv_dict rfl) rfl (c.free 38) bo_dict (va_cons true (ve_name (pe_var (i := 0) rfl (.inl rfl))) va_nil)) (vb_cons (ve_lst vb_nil) (vb_cons (ve_lst vb_nil) vb_nil))) rfl) (vs_cons (vs_for rfl PassesOwn.never rfl (vi_enumU rfl (c.free 2) (vb_cons (ve_name (pe_var (i := 1) rfl (.inl rfl))) vb_nil)) (vg_tup rfl (vgs_cons (vg_name (pg_name sc__law_order.nd rfl (.inr rfl))) (vgs_cons (vg_tup rfl (vgs_cons (vg_name (pg_name sc__law_order.nd rfl (.inr rfl))) (vgs_cons (vg_name (pg_name sc__law_order.nd rfl (.inl rfl))) vgs_nil))) vgs_nil))) (vs_one (vs_expr (ve_ext (pe_var (i := 5) rfl (.inl rfl)) (vb_cons (ve_lc (own := [("_law_k", 9)]) rfl rfl sc__law_order.nd (vi_range1 rfl (c.free 4) (vb_cons (ve_name (pe_var (i := 8) rfl (.inl rfl))) vb_nil)) (blkOk_by (own := [("_law_k", 9)]) (by kernel_rfl)) (fun _ _ _ _ _ => (vg_name (pg_name sc__law_order.nd rfl (.inl rfl)))) (fun _ _ _ _ _ => vts_nil) (fun _ _ _ _ _ => (ve_tup (vb_cons (ve_tup (vb_cons (ve_tup (vb_cons (ve_name (pe_var (i := 6) rfl (.inr (.inl rfl)))) (vb_cons (ve_name (pe_var (i := 9) rfl (.inl rfl))) vb_nil))) vb_nil)) (vb_cons (ve_name (pe_var (i := 7) rfl (.inr (.inl rfl)))) vb_nil))))) vb_nil))))) (vs_cons (vs_while PassesOwn.never (vt_cmp (ov_ne hu64) (ve_name (pe_var (i := 5) rfl (.inl rfl))) (ve_lst vb_nil) (nomark _)) (vs_cons (vs_asg rfl (ve_if (vt_val (ve_name (pe_var (i := 2) rfl (.inl rfl)))) (ve_pop1 (pe_var (i := 5) rfl (.inl rfl)) (vb_cons ve_int vb_nil)) (ve_pop0 (pe_var (i := 5) rfl (.inl rfl)))) (vg_tup rfl (vgs_cons (vg_name (pg_name sc__law_order.nd rfl (.inr rfl))) (vgs_cons (vg_name (pg_name sc__law_order.nd rfl (.inr rfl))) vgs_nil)))) (vs_cons (vs_expr (ve_app (pe_var (i := 4) rfl (.inl rfl)) (vb_cons (ve_tup (vb_cons (ve_name (pe_var (i := 10) rfl (.inr (.inl rfl)))) (vb_cons (ve_name (pe_var (i := 7) rfl (.inr (.inl rfl)))) vb_nil))) vb_nil))) (vs_one (vs_for rfl PassesOwn.never rfl (vi_enumU rfl (c.free 2) (vb_cons (ve_ix hu1 (ve_name (pe_var (i := 3) rfl (.inl rfl))) (ve_name (pe_var (i := 7) rfl (.inr (.inl rfl)))) (fun _ _ => rfl)) vb_nil)) (vg_tup rfl (vgs_cons (vg_name (pg_name sc__law_order.nd rfl (.inr rfl))) (vgs_cons (vg_tup rfl (vgs_cons (vg_name (pg_name sc__law_order.nd rfl (.inr rfl))) (vgs_cons (vg_name (pg_name sc__law_order.nd rfl (.inl rfl))) vgs_nil))) vgs_nil))) (vs_one (vs_expr (ve_ext (pe_var (i := 5) rfl (.inl rfl)) (vb_cons (ve_lc (own := [("_law_k", 9)]) rfl rfl sc__law_order.nd (vi_range1 rfl (c.free 4) (vb_cons (ve_name (pe_var (i := 8) rfl (.inl rfl))) vb_nil)) (blkOk_by (own := [("_law_k", 9)]) (by kernel_rfl)) (fun _ _ _ _ _ => (vg_name (pg_name sc__law_order.nd rfl (.inl rfl)))) (fun _ _ _ _ _ => vts_nil) (fun _ _ _ _ _ => (ve_tup (vb_cons (ve_op ov_add (ve_name (pe_var (i := 10) rfl (.inr (.inl rfl)))) (ve_tup (vb_cons (ve_tup (vb_cons (ve_name (pe_var (i := 6) rfl (.inr (.inl rfl)))) (vb_cons (ve_name (pe_var (i := 9) rfl (.inl rfl))) vb_nil))) vb_nil))) (vb_cons (ve_name (pe_var (i := 11) rfl (.inr (.inl rfl)))) vb_nil))))) vb_nil))))))))) (vs_one (vs_ret 3 (ve_name (pe_var (i := 4) rfl (.inl rfl))))))))
theorem sc__law_mode : FnScope ["_law_is_fifo"] ["_law_is_fifo"] (defScope s__law_mode) := ⟨rfl, rfl, rfl, by decide +kernel, rfl, by decide +kernel, by decide +kernel⟩
theorem ok__law_mode (c : Fx ex fa fn K mg) : FnP P w K mg base 1 (He.ga K "_law_mode") 1 m__law_mode :=
  fnW' (k := 0) (c.s.d.def_ 18 (d := d__law_mode) rfl) sc__law_mode (fun _ _ _ _ _ _ us hl => match us, hl with | [_], _ => rfl) fun cdv A outer s H E hr =>
    have hu1 := hu1_of hr
    have hu64 := hu64_of hr
    have hu65 := hu65_of hr
    (vs_one (vs_ret 1 (ve_if (vt_val (ve_name (pe_var (i := 0) rfl (.inl rfl)))) ve_str ve_str)))
theorem sc__law_lasts : FnScope ["_law_starts", "_law_found", "_law_at", "_law_path", "_law_name", "_law_length"] ["_law_starts"] (defScope s__law_lasts) := ⟨rfl, rfl, rfl, by decide +kernel, rfl, by decide +kernel, by decide +kernel⟩
theorem ok__law_lasts (c : Fx ex fa fn K mg) : FnP P w K mg base 1 (He.ga K "_law_lasts") 1 m__law_lasts :=
  fnW' (k := 0) (c.s.d.def_ 19 (d := d__law_lasts) rfl) sc__law_lasts (fun _ _ _ _ _ _ us hl => match us, hl with | [_], _ => rfl) fun cdv A outer s H E hr =>
    have hu1 := hu1_of hr
    have hu64 := hu64_of hr
    have hu65 := hu65_of hr
    (vs_cons (vs_set (i := 1) rfl sc__law_lasts.nd rfl (.inr rfl) ve_dN) (vs_cons (vs_for rfl PassesOwn.never rfl (vi_enumU rfl (c.free 2) (vb_cons (ve_name (pe_var (i := 0) rfl (.inl rfl))) vb_nil)) (vg_tup rfl (vgs_cons (vg_name (pg_name sc__law_lasts.nd rfl (.inl rfl))) (vgs_cons (vg_tup rfl (vgs_cons (vg_name (pg_name sc__law_lasts.nd rfl (.inl rfl))) (vgs_cons (vg_name (pg_name sc__law_lasts.nd rfl (.inl rfl))) vgs_nil))) vgs_nil))) (vs_one (vs_for rfl PassesOwn.never rfl (vi_range2 rfl (c.free 4) (vb_cons ve_int (vb_cons (ve_op ov_add (ve_bi cv_len rfl (c.free 5) bo_len (va_cons true (ve_name (pe_var (i := 3) rfl (.inl rfl))) va_nil)) ve_int) vb_nil))) (vg_name (pg_name sc__law_lasts.nd rfl (.inl rfl))) (vs_one (vs_subN hu64 (pe_var (i := 1) rfl (.inr (.inl rfl))) (ve_sl (ve_name (pe_var (i := 3) rfl (.inl rfl))) vo_none (vo_some (ve_name (pe_var (i := 5) rfl (.inl rfl))))) (ve_name (pe_var (i := 2) rfl (.inl rfl)))))))) (vs_one (vs_ret 1 (ve_lc (own := [("_law_path", 3), ("_law_name", 4)]) rfl rfl sc__law_lasts.nd (vi_seq (ve_name (pe_var (i := 0) rfl (.inl rfl)))) (blkOk_by (own := [("_law_path", 3), ("_law_name", 4)]) (by kernel_rfl)) (fun _ _ _ _ _ => (vg_tup rfl (vgs_cons (vg_name (pg_name sc__law_lasts.nd rfl (.inl rfl))) (vgs_cons (vg_name (pg_name sc__law_lasts.nd rfl (.inl rfl))) vgs_nil)))) (fun _ _ _ _ _ => vts_nil) (fun _ _ _ _ _ => (ve_ixN hu64 (ve_name (pe_var (i := 1) rfl (.inr (.inl rfl)))) (ve_name (pe_var (i := 3) rfl (.inl rfl))) (fun _ _ => rfl))))))))
theorem sc_check_discipline : FnScope ["value"] ["value"] (defScope s_check_discipline) := ⟨rfl, rfl, rfl, by decide +kernel, rfl, by decide +kernel, by decide +kernel⟩
theorem ok_check_discipline (c : Fx ex fa fn K mg) : FnP P w K mg base 1 (He.ga K "check_discipline") 1 m_check_discipline :=
  fnW' (k := 0) (c.s.d.def_ 20 (d := d_check_discipline) rfl) sc_check_discipline (fun _ _ _ _ _ _ us hl => match us, hl with | [_], _ => rfl) fun cdv A outer s H E hr =>
    have hu1 := hu1_of hr
    have hu64 := hu64_of hr
    have hu65 := hu65_of hr
    (vs_one (vs_if (PW.pt (vw_or (vt_not (vt_val (ve_isi rfl (c.free 13) rfl (c.free 17) bo_str (ve_name (pe_var (i := 0) rfl (.inl rfl)))))) (vw_or1 (vt_cmp ov_ninT (ve_name (pe_var (i := 0) rfl (.inl rfl))) (ve_tup (vb_cons (ve_gstr rfl (c.str 43)) (vb_cons (ve_gstr rfl (c.str 42)) vb_nil))) (by with_unfolding_all rfl))))) (vs_one vs_never) vs_nil))
theorem sc_Plan_root_entries : FnScope ["self"] ["self"] (defScope s_Plan_root_entries) := ⟨rfl, rfl, rfl, by decide +kernel, rfl, by decide +kernel, by decide +kernel⟩
theorem ok_Plan_root_entries (c : Fx ex fa fn K mg) : FnP P w K mg base 1 (He.ma K (He.ga K "Plan") "root_entries") 1 m_Plan_root_entries :=
  fnW' (k := 0) (c.s.d.def_ 21 (d := d_Plan_root_entries) rfl) sc_Plan_root_entries (fun _ _ _ _ _ _ us hl => match us, hl with | [_], _ => rfl) fun cdv A outer s H E hr =>
    have hu1 := hu1_of hr
    have hu64 := hu64_of hr
    have hu65 := hu65_of hr
    (vs_one (vs_ret 1 (ve_ty cv_list rfl (c.free 14) bo_list (va_cons true (ve_fld (c.cls 30) (c.noat 32) (ve_name (pe_var (i := 0) rfl (.inl rfl))) rfl) va_nil))))
theorem sc_is_step : FnScope ["value", "rows"] ["value", "rows"] (defScope s_is_step) := ⟨rfl, rfl, rfl, by decide +kernel, rfl, by decide +kernel, by decide +kernel⟩
theorem ok_is_step (c : Fx ex fa fn K mg) : FnP P w K mg base 2 (He.ga K "is_step") 2 m_is_step :=
  fnW' (k := 1) (c.s.d.def_ 22 (d := d_is_step) rfl) sc_is_step (fun _ _ _ _ _ _ us hl => match us, hl with | [_, _], _ => rfl) fun cdv A outer s H E hr =>
    have hu1 := hu1_of hr
    have hu64 := hu64_of hr
    have hu65 := hu65_of hr
    (vs_cons (vs_if (PW.pt (vw_or (vt_not (vt_val (ve_isi rfl (c.free 13) rfl (c.free 16) bo_tuple (ve_name (pe_var (i := 0) rfl (.inl rfl)))))) (vw_or (vt_cmp (ov_ne hu64) (ve_bi cv_len rfl (c.free 5) bo_len (va_cons true (ve_name (pe_var (i := 0) rfl (.inl rfl))) va_nil)) ve_int (nomark _)) (vw_or (vt_not (vt_val (ve_callF (ok_is_integer (P := P) (w := w) (base := base) c) (aCons_len aNil_len) (hr.mono (by decide)) rfl (c.glo 23) (va_cons false (ve_ix hu1 (ve_name (pe_var (i := 0) rfl (.inl rfl))) ve_int (fun _ _ => rfl)) va_nil)))) (vw_or1 (vt_not (vt_val (ve_callF (ok_is_integer (P := P) (w := w) (base := base) c) (aCons_len aNil_len) (hr.mono (by decide)) rfl (c.glo 23) (va_cons false (ve_ix hu1 (ve_name (pe_var (i := 0) rfl (.inl rfl))) ve_int (fun _ _ => rfl)) va_nil))))))))) (vs_one (vs_ret 2 ve_bl)) vs_nil) (vs_one (vs_ret 2 (ve_and (ve_chain ov_le ov_lt ve_int (ve_ix hu1 (ve_name (pe_var (i := 0) rfl (.inl rfl))) ve_int (fun _ _ => rfl)) (ve_bi cv_len rfl (c.free 5) bo_len (va_cons true (ve_name (pe_var (i := 1) rfl (.inl rfl))) va_nil))) (ve_one (ve_chain ov_le ov_lt ve_int (ve_ix hu1 (ve_name (pe_var (i := 0) rfl (.inl rfl))) ve_int (fun _ _ => rfl)) (ve_ix hu1 (ve_ix hu1 (ve_name (pe_var (i := 1) rfl (.inl rfl))) (ve_ix hu1 (ve_name (pe_var (i := 0) rfl (.inl rfl))) ve_int (fun _ _ => rfl)) (fun _ _ => rfl)) ve_int (fun _ _ => rfl))))))))
theorem sc_Plan___contains__ : FnScope ["self", "name"] ["self", "name"] (defScope s_Plan___contains__) := ⟨rfl, rfl, rfl, by decide +kernel, rfl, by decide +kernel, by decide +kernel⟩
theorem ok_Plan___contains__ (c : Fx ex fa fn K mg) : FnP P w K mg base 1 (He.ma K (He.ga K "Plan") "__contains__") 2 m_Plan___contains__ :=
  fnW' (k := 0) (c.s.d.def_ 23 (d := d_Plan___contains__) rfl) sc_Plan___contains__ (fun _ _ _ _ _ _ us hl => match us, hl with | [_, _], _ => rfl) fun cdv A outer s H E hr =>
    have hu1 := hu1_of hr
    have hu64 := hu64_of hr
    have hu65 := hu65_of hr
    (vs_one (vs_ret 2 (ve_and (ve_isi rfl (c.free 13) rfl (c.free 17) bo_str (ve_name (pe_var (i := 1) rfl (.inl rfl)))) (ve_one (ve_cmp (ov_in hu65) (ve_name (pe_var (i := 1) rfl (.inl rfl))) (ve_fld (c.cls 30) (c.noat 31) (ve_name (pe_var (i := 0) rfl (.inl rfl))) rfl) (by with_unfolding_all rfl))))))
theorem sc_Plan_check_name : FnScope ["self", "name"] ["self", "name"] (defScope s_Plan_check_name) := ⟨rfl, rfl, rfl, by decide +kernel, rfl, by decide +kernel, by decide +kernel⟩
theorem ok_Plan_check_name (c : Fx ex fa fn K mg) : FnP P w K mg base 2 (He.ma K (He.ga K "Plan") "check_name") 2 m_Plan_check_name :=
  fnW' (k := 1) (c.s.d.def_ 24 (d := d_Plan_check_name) rfl) sc_Plan_check_name (fun _ _ _ _ _ _ us hl => match us, hl with | [_, _], _ => rfl) fun cdv A outer s H E hr =>
    have hu1 := hu1_of hr
    have hu64 := hu64_of hr
    have hu65 := hu65_of hr
    (vs_one (vs_if (vt_ninOF (ok_Plan___contains__ (P := P) (w := w) (base := base) c) (hr.mono (by decide)) (c.opf 47) (ve_name (pe_var (i := 1) rfl (.inl rfl))) (ve_name (pe_var (i := 0) rfl (.inl rfl))) (by with_unfolding_all rfl)) (vs_one vs_never) vs_nil))
theorem sc_Plan_entries_of : FnScope ["self", "name"] ["self", "name"] (defScope s_Plan_entries_of) := ⟨rfl, rfl, rfl, by decide +kernel, rfl, by decide +kernel, by decide +kernel⟩
theorem ok_Plan_entries_of (c : Fx ex fa fn K mg) : FnP P w K mg base 3 (He.ma K (He.ga K "Plan") "entries_of") 2 m_Plan_entries_of :=
  fnW' (k := 2) (c.s.d.def_ 25 (d := d_Plan_entries_of) rfl) sc_Plan_entries_of (fun _ _ _ _ _ _ us hl => match us, hl with | [_, _], _ => rfl) fun cdv A outer s H E hr =>
    have hu1 := hu1_of hr
    have hu64 := hu64_of hr
    have hu65 := hu65_of hr
    (vs_cons (vs_expr (ve_methF (ok_Plan_check_name (P := P) (w := w) (base := base) c) (c.cls 30) (c.meth 48) (len_up (aCons_len aNil_len)) (hr.mono (by decide)) (ve_name (pe_var (i := 0) rfl (.inl rfl))) (va_cons true (ve_name (pe_var (i := 1) rfl (.inl rfl))) va_nil))) (vs_one (vs_ret 2 (ve_ty cv_list rfl (c.free 14) bo_list (va_cons true (ve_ix hu1 (ve_fld (c.cls 30) (c.noat 31) (ve_name (pe_var (i := 0) rfl (.inl rfl))) rfl) (ve_name (pe_var (i := 1) rfl (.inl rfl))) (fun _ _ => rfl)) va_nil)))))
theorem sc_kind_at : FnScope ["plan", "path", "kind", "rows", "step"] ["plan", "path"] (defScope s_kind_at) := ⟨rfl, rfl, rfl, by decide +kernel, rfl, by decide +kernel, by decide +kernel⟩
theorem ok_kind_at (c : Fx ex fa fn K mg) : FnP P w K mg base 4 (He.ga K "kind_at") 2 m_kind_at :=
  fnW' (k := 3) (c.s.d.def_ 26 (d := d_kind_at) rfl) sc_kind_at (fun _ _ _ _ _ _ us hl => match us, hl with | [_, _], _ => rfl) fun cdv A outer s H E hr =>
    have hu1 := hu1_of hr
    have hu64 := hu64_of hr
    have hu65 := hu65_of hr
    (vs_cons (vs_if (vt_not (vt_val (ve_isi rfl (c.free 13) rfl (c.free 16) bo_tuple (ve_name (pe_var (i := 1) rfl (.inl rfl)))))) (vs_one (vs_ret 2 ve_non)) vs_nil) (vs_cons (vs_par (i := 2) (j := 3) rfl rfl sc_kind_at.nd rfl rfl (by decide) rfl rfl (vb_cons ve_non (vb_cons (ve_methF0 (ok_Plan_root_entries (P := P) (w := w) (base := base) c) (c.cls 30) (c.meth 45) (hr.mono (by decide)) (ve_name (pe_var (i := 0) rfl (.inl rfl)))) vb_nil)) rfl) (vs_cons (vs_for rfl PassesOwn.never rfl (vi_seq (ve_name (pe_var (i := 1) rfl (.inl rfl)))) (vg_name (pg_name sc_kind_at.nd rfl (.inl rfl))) (vs_cons (vs_if (vt_not (vt_val (ve_callF (ok_is_step (P := P) (w := w) (base := base) c) (aCons_len (aCons_len aNil_len)) (hr.mono (by decide)) rfl (c.glo 46) (va_cons true (ve_name (pe_var (i := 4) rfl (.inl rfl))) (va_cons true (ve_name (pe_var (i := 3) rfl (.inl rfl))) va_nil))))) (vs_one (vs_ret 2 ve_non)) vs_nil) (vs_cons (vs_set (i := 2) rfl sc_kind_at.nd rfl (.inl rfl) (ve_ix hu1 (ve_ix hu1 (ve_name (pe_var (i := 3) rfl (.inl rfl))) (ve_ix hu1 (ve_name (pe_var (i := 4) rfl (.inl rfl))) ve_int (fun _ _ => rfl)) (fun _ _ => rfl)) ve_int (fun _ _ => rfl))) (vs_one (vs_set (i := 3) rfl sc_kind_at.nd rfl (.inl rfl) (ve_methF (ok_Plan_entries_of (P := P) (w := w) (base := base) c) (c.cls 30) (c.meth 49) (len_up (aCons_len aNil_len)) (hr.mono (by decide)) (ve_name (pe_var (i := 0) rfl (.inl rfl))) (va_cons true (ve_name (pe_var (i := 2) rfl (.inl rfl))) va_nil))))))) (vs_one (vs_ret 2 (ve_name (pe_var (i := 2) rfl (.inl rfl))))))))
theorem sc_type_of : FnScope ["plan", "path", "kind"] ["plan", "path"] (defScope s_type_of) := ⟨rfl, rfl, rfl, by decide +kernel, rfl, by decide +kernel, by decide +kernel⟩
theorem ok_type_of (c : Fx ex fa fn K mg) : FnP P w K mg base 5 (He.ga K "type_of") 2 m_type_of :=
  fnW' (k := 4) (c.s.d.def_ 27 (d := d_type_of) rfl) sc_type_of (fun _ _ _ _ _ _ us hl => match us, hl with | [_, _], _ => rfl) fun cdv A outer s H E hr =>
    have hu1 := hu1_of hr
    have hu64 := hu64_of hr
    have hu65 := hu65_of hr
    (vs_cons (vs_set (i := 2) rfl sc_type_of.nd rfl (.inl rfl) (ve_callF (ok_kind_at (P := P) (w := w) (base := base) c) (aCons_len (aCons_len aNil_len)) (hr.mono (by decide)) rfl (c.glo 50) (va_cons true (ve_name (pe_var (i := 0) rfl (.inl rfl))) (va_cons true (ve_name (pe_var (i := 1) rfl (.inl rfl))) va_nil)))) (vs_cons (vs_if (vt_cmp ov_isN (ve_name (pe_var (i := 2) rfl (.inl rfl))) ve_non (nomark _)) (vs_one vs_never) vs_nil) (vs_one (vs_ret 2 (ve_name (pe_var (i := 2) rfl (.inl rfl)))))))
theorem sc_check_least : FnScope ["part", "value", "low"] ["part", "value", "low"] (defScope s_check_least) := ⟨rfl, rfl, rfl, by decide +kernel, rfl, by decide +kernel, by decide +kernel⟩
theorem ok_check_least (c : Fx ex fa fn K mg) : FnP P w K mg base 2 (He.ga K "check_least") 3 m_check_least :=
  fnW' (k := 1) (c.s.d.def_ 28 (d := d_check_least) rfl) sc_check_least (fun _ _ _ _ _ _ us hl => match us, hl with | [_, _, _], _ => rfl) fun cdv A outer s H E hr =>
    have hu1 := hu1_of hr
    have hu64 := hu64_of hr
    have hu65 := hu65_of hr
    (vs_one (vs_if (PW.pt (vw_or (vt_not (vt_val (ve_callF (ok_is_integer (P := P) (w := w) (base := base) c) (aCons_len aNil_len) (hr.mono (by decide)) rfl (c.glo 23) (va_cons true (ve_name (pe_var (i := 1) rfl (.inl rfl))) va_nil)))) (vw_or1 (vt_cmp ov_lt (ve_name (pe_var (i := 1) rfl (.inl rfl))) (ve_name (pe_var (i := 2) rfl (.inl rfl))) (nomark _))))) (vs_one vs_never) vs_nil))
theorem sc_Plan_pair_at : FnScope ["self", "name", "distance", "table"] ["self", "name", "distance"] (defScope s_Plan_pair_at) := ⟨rfl, rfl, rfl, by decide +kernel, rfl, by decide +kernel, by decide +kernel⟩
theorem ok_Plan_pair_at (c : Fx ex fa fn K mg) : FnP P w K mg base 1 (He.ma K (He.ga K "Plan") "pair_at") 3 m_Plan_pair_at :=
  fnW' (k := 0) (c.s.d.def_ 29 (d := d_Plan_pair_at) rfl) sc_Plan_pair_at (fun _ _ _ _ _ _ us hl => match us, hl with | [_, _, _], _ => rfl) fun cdv A outer s H E hr =>
    have hu1 := hu1_of hr
    have hu64 := hu64_of hr
    have hu65 := hu65_of hr
    (vs_cons (vs_set (i := 3) rfl sc_Plan_pair_at.nd rfl (.inl rfl) (ve_ix hu1 (ve_fld (c.cls 30) (c.noat 35) (ve_name (pe_var (i := 0) rfl (.inl rfl))) rfl) (ve_name (pe_var (i := 1) rfl (.inl rfl))) (fun _ _ => rfl))) (vs_one (vs_ret 3 (ve_if (vt_cmp ov_lt (ve_name (pe_var (i := 2) rfl (.inl rfl))) (ve_bi cv_len rfl (c.free 5) bo_len (va_cons true (ve_name (pe_var (i := 3) rfl (.inl rfl))) va_nil)) (nomark _)) (ve_ix hu1 (ve_name (pe_var (i := 3) rfl (.inl rfl))) (ve_name (pe_var (i := 2) rfl (.inl rfl))) (fun _ _ => rfl)) (ve_tup (vb_cons ve_int (vb_cons ve_int vb_nil)))))))
theorem sc_Plan_level_total : FnScope ["self", "level", "name", "count"] ["self", "level"] (defScope s_Plan_level_total) := ⟨rfl, rfl, rfl, by decide +kernel, rfl, by decide +kernel, by decide +kernel⟩
theorem ok_Plan_level_total (c : Fx ex fa fn K mg) : FnP P w K mg base 3 (He.ma K (He.ga K "Plan") "level_total") 2 m_Plan_level_total :=
  fnW' (k := 2) (c.s.d.def_ 30 (d := d_Plan_level_total) rfl) sc_Plan_level_total (fun _ _ _ _ _ _ us hl => match us, hl with | [_, _], _ => rfl) fun cdv A outer s H E hr =>
    have hu1 := hu1_of hr
    have hu64 := hu64_of hr
    have hu65 := hu65_of hr
    (vs_cons (vs_expr (ve_callF (ok_check_least (P := P) (w := w) (base := base) c) (aCons_len (aCons_len (aCons_len aNil_len))) (hr.mono (by decide)) rfl (c.glo 52) (va_cons false ve_str (va_cons true (ve_name (pe_var (i := 1) rfl (.inr (.inl rfl)))) (va_cons false ve_int va_nil))))) (vs_one (vs_ret 2 (ve_bi (cv_sum rfl) rfl (c.free 9) bo_sum (va_cons true (ve_lc (own := [("name", 2), ("count", 3)]) rfl rfl sc_Plan_level_total.nd (vi_seq (ve_fld (c.cls 30) (c.noat 32) (ve_name (pe_var (i := 0) rfl (.inr (.inl rfl)))) rfl)) (blkOk_by (own := [("name", 2), ("count", 3)]) (by kernel_rfl)) (fun _ _ _ _ _ => (vg_tup rfl (vgs_cons (vg_name (pg_name sc_Plan_level_total.nd rfl (.inl rfl))) (vgs_cons (vg_name (pg_name sc_Plan_level_total.nd rfl (.inl rfl))) vgs_nil)))) (fun _ _ _ _ _ => vts_nil) (fun _ _ _ _ _ => (ve_op ov_mul (ve_name (pe_var (i := 3) rfl (.inl rfl))) (ve_ix hu1 (ve_methF (ok_Plan_pair_at (P := P) (w := w) (base := base) c) (c.cls 30) (c.meth 53) (len_up (aCons_len (aCons_len aNil_len))) (hr.mono (by decide)) (ve_name (pe_var (i := 0) rfl (.inr (.inl rfl)))) (va_cons true (ve_name (pe_var (i := 2) rfl (.inl rfl))) (va_cons true (ve_name (pe_var (i := 1) rfl (.inr (.inl rfl)))) va_nil))) ve_int (fun _ _ => rfl))))) va_nil)))))
theorem sc_first_of_level : FnScope ["plan", "level", "one"] ["plan", "level"] (defScope s_first_of_level) := ⟨rfl, rfl, rfl, by decide +kernel, rfl, by decide +kernel, by decide +kernel⟩
theorem ok_first_of_level (c : Fx ex fa fn K mg) : FnP P w K mg base 4 (He.ga K "first_of_level") 2 m_first_of_level :=
  fnW' (k := 3) (c.s.d.def_ 31 (d := d_first_of_level) rfl) sc_first_of_level (fun _ _ _ _ _ _ us hl => match us, hl with | [_, _], _ => rfl) fun cdv A outer s H E hr =>
    have hu1 := hu1_of hr
    have hu64 := hu64_of hr
    have hu65 := hu65_of hr
    (vs_one (vs_ret 2 (ve_bi (cv_sum rfl) rfl (c.free 9) bo_sum (va_cons true (ve_lc (own := [("one", 2)]) rfl rfl sc_first_of_level.nd (vi_range1 rfl (c.free 4) (vb_cons (ve_name (pe_var (i := 1) rfl (.inl rfl))) vb_nil)) (blkOk_by (own := [("one", 2)]) (by kernel_rfl)) (fun _ _ _ _ _ => (vg_name (pg_name sc_first_of_level.nd rfl (.inl rfl)))) (fun _ _ _ _ _ => vts_nil) (fun _ _ _ _ _ => (ve_methF (ok_Plan_level_total (P := P) (w := w) (base := base) c) (c.cls 30) (c.meth 54) (len_up (aCons_len aNil_len)) (hr.mono (by decide)) (ve_name (pe_var (i := 0) rfl (.inr (.inl rfl)))) (va_cons true (ve_name (pe_var (i := 2) rfl (.inl rfl))) va_nil)))) va_nil))))
theorem sc_Plan_descendants : FnScope ["self", "name", "distance"] ["self", "name", "distance"] (defScope s_Plan_descendants) := ⟨rfl, rfl, rfl, by decide +kernel, rfl, by decide +kernel, by decide +kernel⟩
theorem ok_Plan_descendants (c : Fx ex fa fn K mg) : FnP P w K mg base 3 (He.ma K (He.ga K "Plan") "descendants") 3 m_Plan_descendants :=
  fnW' (k := 2) (c.s.d.def_ 32 (d := d_Plan_descendants) rfl) sc_Plan_descendants (fun _ _ _ _ _ _ us hl => match us, hl with | [_, _, _], _ => rfl) fun cdv A outer s H E hr =>
    have hu1 := hu1_of hr
    have hu64 := hu64_of hr
    have hu65 := hu65_of hr
    (vs_cons (vs_expr (ve_methF (ok_Plan_check_name (P := P) (w := w) (base := base) c) (c.cls 30) (c.meth 48) (len_up (aCons_len aNil_len)) (hr.mono (by decide)) (ve_name (pe_var (i := 0) rfl (.inl rfl))) (va_cons true (ve_name (pe_var (i := 1) rfl (.inl rfl))) va_nil))) (vs_cons (vs_expr (ve_callF (ok_check_least (P := P) (w := w) (base := base) c) (aCons_len (aCons_len (aCons_len aNil_len))) (hr.mono (by decide)) rfl (c.glo 52) (va_cons false ve_str (va_cons true (ve_name (pe_var (i := 2) rfl (.inl rfl))) (va_cons false ve_int va_nil))))) (vs_one (vs_ret 3 (ve_ix hu1 (ve_methF (ok_Plan_pair_at (P := P) (w := w) (base := base) c) (c.cls 30) (c.meth 53) (len_up (aCons_len (aCons_len aNil_len))) (hr.mono (by decide)) (ve_name (pe_var (i := 0) rfl (.inl rfl))) (va_cons true (ve_name (pe_var (i := 1) rfl (.inl rfl))) (va_cons true (ve_name (pe_var (i := 2) rfl (.inl rfl))) va_nil))) ve_int (fun _ _ => rfl))))))
theorem sc_rank_in_level : FnScope ["plan", "path", "found", "rows", "at", "place", "index", "below", "kind", "many"] ["plan", "path"] (defScope s_rank_in_level) := ⟨rfl, rfl, rfl, by decide +kernel, rfl, by decide +kernel, by decide +kernel⟩
theorem ok_rank_in_level (c : Fx ex fa fn K mg) : FnP P w K mg base 4 (He.ga K "rank_in_level") 2 m_rank_in_level :=
  fnW' (k := 3) (c.s.d.def_ 33 (d := d_rank_in_level) rfl) sc_rank_in_level (fun _ _ _ _ _ _ us hl => match us, hl with | [_, _], _ => rfl) fun cdv A outer s H E hr =>
    have hu1 := hu1_of hr
    have hu64 := hu64_of hr
    have hu65 := hu65_of hr
    (vs_cons (vs_par (i := 2) (j := 3) rfl rfl sc_rank_in_level.nd rfl rfl (by decide) rfl rfl (vb_cons ve_int (vb_cons (ve_methF0 (ok_Plan_root_entries (P := P) (w := w) (base := base) c) (c.cls 30) (c.meth 45) (hr.mono (by decide)) (ve_name (pe_var (i := 0) rfl (.inr (.inl rfl))))) vb_nil)) rfl) (vs_cons (vs_for rfl PassesOwn.never rfl (vi_enumU rfl (c.free 2) (vb_cons (ve_name (pe_var (i := 1) rfl (.inl rfl))) vb_nil)) (vg_tup rfl (vgs_cons (vg_name (pg_name sc_rank_in_level.nd rfl (.inl rfl))) (vgs_cons (vg_tup rfl (vgs_cons (vg_name (pg_name sc_rank_in_level.nd rfl (.inl rfl))) (vgs_cons (vg_name (pg_name sc_rank_in_level.nd rfl (.inl rfl))) vgs_nil))) vgs_nil))) (vs_cons (vs_set (i := 7) rfl sc_rank_in_level.nd rfl (.inr rfl) (ve_op ov_sub (ve_op ov_sub (ve_bi cv_len rfl (c.free 5) bo_len (va_cons true (ve_name (pe_var (i := 1) rfl (.inl rfl))) va_nil)) ve_int) (ve_name (pe_var (i := 4) rfl (.inl rfl))))) (vs_cons (vs_set (i := 2) rfl sc_rank_in_level.nd rfl (.inl rfl) (ve_op ov_add (ve_name (pe_var (i := 2) rfl (.inl rfl))) (ve_bi (cv_sum rfl) rfl (c.free 9) bo_sum (va_cons true (ve_lc (own := [("kind", 8), ("many", 9)]) rfl rfl sc_rank_in_level.nd (vi_seq (ve_sl (ve_name (pe_var (i := 3) rfl (.inl rfl))) vo_none (vo_some (ve_name (pe_var (i := 5) rfl (.inl rfl)))))) (blkOk_by (own := [("kind", 8), ("many", 9)]) (by kernel_rfl)) (fun _ _ _ _ _ => (vg_tup rfl (vgs_cons (vg_name (pg_name sc_rank_in_level.nd rfl (.inl rfl))) (vgs_cons (vg_name (pg_name sc_rank_in_level.nd rfl (.inl rfl))) vgs_nil)))) (fun _ _ _ _ _ => vts_nil) (fun _ _ _ _ _ => (ve_op ov_mul (ve_name (pe_var (i := 9) rfl (.inl rfl))) (ve_methF (ok_Plan_descendants (P := P) (w := w) (base := base) c) (c.cls 30) (c.meth 56) (len_up (aCons_len (aCons_len aNil_len))) (hr.mono (by decide)) (ve_name (pe_var (i := 0) rfl (.inr (.inl rfl)))) (va_cons true (ve_name (pe_var (i := 8) rfl (.inl rfl))) (va_cons true (ve_name (pe_var (i := 7) rfl (.inr (.inl rfl)))) va_nil)))))) va_nil)))) (vs_cons (vs_set (i := 2) rfl sc_rank_in_level.nd rfl (.inl rfl) (ve_op ov_add (ve_name (pe_var (i := 2) rfl (.inl rfl))) (ve_op ov_mul (ve_name (pe_var (i := 6) rfl (.inl rfl))) (ve_methF (ok_Plan_descendants (P := P) (w := w) (base := base) c) (c.cls 30) (c.meth 56) (len_up (aCons_len (aCons_len aNil_len))) (hr.mono (by decide)) (ve_name (pe_var (i := 0) rfl (.inr (.inl rfl)))) (va_cons false (ve_ix hu1 (ve_ix hu1 (ve_name (pe_var (i := 3) rfl (.inl rfl))) (ve_name (pe_var (i := 5) rfl (.inl rfl))) (fun _ _ => rfl)) ve_int (fun _ _ => rfl)) (va_cons true (ve_name (pe_var (i := 7) rfl (.inr (.inl rfl)))) va_nil)))))) (vs_one (vs_set (i := 3) rfl sc_rank_in_level.nd rfl (.inl rfl) (ve_methF (ok_Plan_entries_of (P := P) (w := w) (base := base) c) (c.cls 30) (c.meth 49) (len_up (aCons_len aNil_len)) (hr.mono (by decide)) (ve_name (pe_var (i := 0) rfl (.inr (.inl rfl)))) (va_cons false (ve_ix hu1 (ve_ix hu1 (ve_name (pe_var (i := 3) rfl (.inl rfl))) (ve_name (pe_var (i := 5) rfl (.inl rfl))) (fun _ _ => rfl)) ve_int (fun _ _ => rfl)) va_nil)))))))) (vs_one (vs_ret 2 (ve_name (pe_var (i := 2) rfl (.inl rfl)))))))
theorem sc_Plan_tree_size : FnScope ["self", "name", "every", "inner"] ["self", "name"] (defScope s_Plan_tree_size) := ⟨rfl, rfl, rfl, by decide +kernel, rfl, by decide +kernel, by decide +kernel⟩
theorem ok_Plan_tree_size (c : Fx ex fa fn K mg) : FnP P w K mg base 3 (He.ma K (He.ga K "Plan") "tree_size") 2 m_Plan_tree_size :=
  fnW' (k := 2) (c.s.d.def_ 34 (d := d_Plan_tree_size) rfl) sc_Plan_tree_size (fun _ _ _ _ _ _ us hl => match us, hl with | [_, _], _ => rfl) fun cdv A outer s H E hr =>
    have hu1 := hu1_of hr
    have hu64 := hu64_of hr
    have hu65 := hu65_of hr
    (vs_cons (vs_expr (ve_methF (ok_Plan_check_name (P := P) (w := w) (base := base) c) (c.cls 30) (c.meth 48) (len_up (aCons_len aNil_len)) (hr.mono (by decide)) (ve_name (pe_var (i := 0) rfl (.inl rfl))) (va_cons true (ve_name (pe_var (i := 1) rfl (.inl rfl))) va_nil))) (vs_one (vs_ret 2 (ve_bi (cv_sum rfl) rfl (c.free 9) bo_sum (va_cons true (ve_lc (own := [("every", 2), ("inner", 3)]) rfl rfl sc_Plan_tree_size.nd (vi_seq (ve_ix hu1 (ve_fld (c.cls 30) (c.noat 35) (ve_name (pe_var (i := 0) rfl (.inl rfl))) rfl) (ve_name (pe_var (i := 1) rfl (.inl rfl))) (fun _ _ => rfl))) (blkOk_by (own := [("every", 2), ("inner", 3)]) (by kernel_rfl)) (fun _ _ _ _ _ => (vg_tup rfl (vgs_cons (vg_name (pg_name sc_Plan_tree_size.nd rfl (.inl rfl))) (vgs_cons (vg_name (pg_name sc_Plan_tree_size.nd rfl (.inl rfl))) vgs_nil)))) (fun _ _ _ _ _ => vts_nil) (fun _ _ _ _ _ => (ve_name (pe_var (i := 2) rfl (.inl rfl))))) va_nil)))))
theorem sc_rank_in_depth : FnScope ["plan", "path", "found", "rows", "place", "index", "kind", "many", "other", "more"] ["plan", "path"] (defScope s_rank_in_depth) := ⟨rfl, rfl, rfl, by decide +kernel, rfl, by decide +kernel, by decide +kernel⟩
theorem ok_rank_in_depth (c : Fx ex fa fn K mg) : FnP P w K mg base 4 (He.ga K "rank_in_depth") 2 m_rank_in_depth :=
  fnW' (k := 3) (c.s.d.def_ 35 (d := d_rank_in_depth) rfl) sc_rank_in_depth (fun _ _ _ _ _ _ us hl => match us, hl with | [_, _], _ => rfl) fun cdv A outer s H E hr =>
    have hu1 := hu1_of hr
    have hu64 := hu64_of hr
    have hu65 := hu65_of hr
    (vs_cons (vs_par (i := 2) (j := 3) rfl rfl sc_rank_in_depth.nd rfl rfl (by decide) rfl rfl (vb_cons (ve_op ov_sub (ve_bi cv_len rfl (c.free 5) bo_len (va_cons true (ve_name (pe_var (i := 1) rfl (.inl rfl))) va_nil)) ve_int) (vb_cons (ve_methF0 (ok_Plan_root_entries (P := P) (w := w) (base := base) c) (c.cls 30) (c.meth 45) (hr.mono (by decide)) (ve_name (pe_var (i := 0) rfl (.inr (.inl rfl))))) vb_nil)) rfl) (vs_cons (vs_for rfl PassesOwn.never rfl (vi_seq (ve_name (pe_var (i := 1) rfl (.inl rfl)))) (vg_tup rfl (vgs_cons (vg_name (pg_name sc_rank_in_depth.nd rfl (.inl rfl))) (vgs_cons (vg_name (pg_name sc_rank_in_depth.nd rfl (.inl rfl))) vgs_nil))) (vs_cons (vs_asg rfl (ve_ix hu1 (ve_name (pe_var (i := 3) rfl (.inl rfl))) (ve_name (pe_var (i := 4) rfl (.inl rfl))) (fun _ _ => rfl)) (vg_tup rfl (vgs_cons (vg_name (pg_name sc_rank_in_depth.nd rfl (.inl rfl))) (vgs_cons (vg_name (pg_name sc_rank_in_depth.nd rfl (.inl rfl))) vgs_nil)))) (vs_cons (vs_set (i := 2) rfl sc_rank_in_depth.nd rfl (.inl rfl) (ve_op ov_add (ve_name (pe_var (i := 2) rfl (.inl rfl))) (ve_bi (cv_sum rfl) rfl (c.free 9) bo_sum (va_cons true (ve_lc (own := [("other", 8), ("more", 9)]) rfl rfl sc_rank_in_depth.nd (vi_seq (ve_sl (ve_name (pe_var (i := 3) rfl (.inl rfl))) (vo_some (ve_op ov_add (ve_name (pe_var (i := 4) rfl (.inl rfl))) ve_int)) vo_none)) (blkOk_by (own := [("other", 8), ("more", 9)]) (by kernel_rfl)) (fun _ _ _ _ _ => (vg_tup rfl (vgs_cons (vg_name (pg_name sc_rank_in_depth.nd rfl (.inl rfl))) (vgs_cons (vg_name (pg_name sc_rank_in_depth.nd rfl (.inl rfl))) vgs_nil)))) (fun _ _ _ _ _ => vts_nil) (fun _ _ _ _ _ => (ve_op ov_mul (ve_name (pe_var (i := 9) rfl (.inl rfl))) (ve_methF (ok_Plan_tree_size (P := P) (w := w) (base := base) c) (c.cls 30) (c.meth 58) (len_up (aCons_len aNil_len)) (hr.mono (by decide)) (ve_name (pe_var (i := 0) rfl (.inr (.inl rfl)))) (va_cons true (ve_name (pe_var (i := 8) rfl (.inl rfl))) va_nil))))) va_nil)))) (vs_cons (vs_set (i := 2) rfl sc_rank_in_depth.nd rfl (.inl rfl) (ve_op ov_add (ve_name (pe_var (i := 2) rfl (.inl rfl))) (ve_op ov_mul (ve_op ov_sub (ve_op ov_sub (ve_name (pe_var (i := 7) rfl (.inl rfl))) ve_int) (ve_name (pe_var (i := 5) rfl (.inl rfl)))) (ve_methF (ok_Plan_tree_size (P := P) (w := w) (base := base) c) (c.cls 30) (c.meth 58) (len_up (aCons_len aNil_len)) (hr.mono (by decide)) (ve_name (pe_var (i := 0) rfl (.inr (.inl rfl)))) (va_cons true (ve_name (pe_var (i := 6) rfl (.inl rfl))) va_nil))))) (vs_one (vs_set (i := 3) rfl sc_rank_in_depth.nd rfl (.inl rfl) (ve_methF (ok_Plan_entries_of (P := P) (w := w) (base := base) c) (c.cls 30) (c.meth 49) (len_up (aCons_len aNil_len)) (hr.mono (by decide)) (ve_name (pe_var (i := 0) rfl (.inr (.inl rfl)))) (va_cons true (ve_name (pe_var (i := 6) rfl (.inl rfl))) va_nil)))))))) (vs_one (vs_ret 2 (ve_name (pe_var (i := 2) rfl (.inl rfl)))))))
theorem sc_number_of : FnScope ["plan", "discipline", "path"] ["plan", "discipline", "path"] (defScope s_number_of) := ⟨rfl, rfl, rfl, by decide +kernel, rfl, by decide +kernel, by decide +kernel⟩
theorem ok_number_of (c : Fx ex fa fn K mg) : FnP P w K mg base 5 (He.ga K "number_of") 3 m_number_of :=
  fnW' (k := 4) (c.s.d.def_ 36 (d := d_number_of) rfl) sc_number_of (fun _ _ _ _ _ _ us hl => match us, hl with | [_, _, _], _ => rfl) fun cdv A outer s H E hr =>
    have hu1 := hu1_of hr
    have hu64 := hu64_of hr
    have hu65 := hu65_of hr
    (vs_cons (vs_if (vt_cmp (ov_eq hu64) (ve_name (pe_var (i := 1) rfl (.inl rfl))) (ve_gstr rfl (c.str 43)) (nomark _)) (vs_one (vs_ret 3 (ve_op ov_add (ve_callF (ok_first_of_level (P := P) (w := w) (base := base) c) (aCons_len (aCons_len aNil_len)) (hr.mono (by decide)) rfl (c.glo 55) (va_cons true (ve_name (pe_var (i := 0) rfl (.inl rfl))) (va_cons false (ve_op ov_sub (ve_bi cv_len rfl (c.free 5) bo_len (va_cons true (ve_name (pe_var (i := 2) rfl (.inl rfl))) va_nil)) ve_int) va_nil))) (ve_callF (ok_rank_in_level (P := P) (w := w) (base := base) c) (aCons_len (aCons_len aNil_len)) (hr.mono (by decide)) rfl (c.glo 57) (va_cons true (ve_name (pe_var (i := 0) rfl (.inl rfl))) (va_cons true (ve_name (pe_var (i := 2) rfl (.inl rfl))) va_nil)))))) vs_nil) (vs_one (vs_ret 3 (ve_callF (ok_rank_in_depth (P := P) (w := w) (base := base) c) (aCons_len (aCons_len aNil_len)) (hr.mono (by decide)) rfl (c.glo 59) (va_cons true (ve_name (pe_var (i := 0) rfl (.inl rfl))) (va_cons true (ve_name (pe_var (i := 2) rfl (.inl rfl))) va_nil))))))
theorem sc_Plan_is_inner : FnScope ["self", "name"] ["self", "name"] (defScope s_Plan_is_inner) := ⟨rfl, rfl, rfl, by decide +kernel, rfl, by decide +kernel, by decide +kernel⟩
theorem ok_Plan_is_inner (c : Fx ex fa fn K mg) : FnP P w K mg base 4 (He.ma K (He.ga K "Plan") "is_inner") 2 m_Plan_is_inner :=
  fnW' (k := 3) (c.s.d.def_ 37 (d := d_Plan_is_inner) rfl) sc_Plan_is_inner (fun _ _ _ _ _ _ us hl => match us, hl with | [_, _], _ => rfl) fun cdv A outer s H E hr =>
    have hu1 := hu1_of hr
    have hu64 := hu64_of hr
    have hu65 := hu65_of hr
    (vs_one (vs_ret 2 (ve_cmp (ov_ne hu64) (ve_methF (ok_Plan_entries_of (P := P) (w := w) (base := base) c) (c.cls 30) (c.meth 49) (len_up (aCons_len aNil_len)) (hr.mono (by decide)) (ve_name (pe_var (i := 0) rfl (.inl rfl))) (va_cons true (ve_name (pe_var (i := 1) rfl (.inl rfl))) va_nil)) (ve_lst vb_nil) (nomark _))))
theorem sc_Plan_height_of : FnScope ["self", "name"] ["self", "name"] (defScope s_Plan_height_of) := ⟨rfl, rfl, rfl, by decide +kernel, rfl, by decide +kernel, by decide +kernel⟩
theorem ok_Plan_height_of (c : Fx ex fa fn K mg) : FnP P w K mg base 3 (He.ma K (He.ga K "Plan") "height_of") 2 m_Plan_height_of :=
  fnW' (k := 2) (c.s.d.def_ 38 (d := d_Plan_height_of) rfl) sc_Plan_height_of (fun _ _ _ _ _ _ us hl => match us, hl with | [_, _], _ => rfl) fun cdv A outer s H E hr =>
    have hu1 := hu1_of hr
    have hu64 := hu64_of hr
    have hu65 := hu65_of hr
    (vs_cons (vs_expr (ve_methF (ok_Plan_check_name (P := P) (w := w) (base := base) c) (c.cls 30) (c.meth 48) (len_up (aCons_len aNil_len)) (hr.mono (by decide)) (ve_name (pe_var (i := 0) rfl (.inl rfl))) (va_cons true (ve_name (pe_var (i := 1) rfl (.inl rfl))) va_nil))) (vs_one (vs_ret 2 (ve_op ov_sub (ve_bi cv_len rfl (c.free 5) bo_len (va_cons true (ve_ix hu1 (ve_fld (c.cls 30) (c.noat 35) (ve_name (pe_var (i := 0) rfl (.inl rfl))) rfl) (ve_name (pe_var (i := 1) rfl (.inl rfl))) (fun _ _ => rfl)) va_nil)) ve_int))))
theorem sc_last_start : FnScope ["plan", "discipline", "path", "kind", "below", "entries", "place", "at", "name", "many"] ["plan", "discipline", "path"] (defScope s_last_start) := ⟨rfl, rfl, rfl, by decide +kernel, rfl, by decide +kernel, by decide +kernel⟩
theorem ok_last_start (c : Fx ex fa fn K mg) : FnP P w K mg base 6 (He.ga K "last_start") 3 m_last_start :=
  fnW' (k := 5) (c.s.d.def_ 39 (d := d_last_start) rfl) sc_last_start (fun _ _ _ _ _ _ us hl => match us, hl with | [_, _, _], _ => rfl) fun cdv A outer s H E hr =>
    have hu1 := hu1_of hr
    have hu64 := hu64_of hr
    have hu65 := hu65_of hr
    (vs_cons (vs_expr (ve_callF (ok_check_discipline (P := P) (w := w) (base := base) c) (aCons_len aNil_len) (hr.mono (by decide)) rfl (c.glo 44) (va_cons true (ve_name (pe_var (i := 1) rfl (.inl rfl))) va_nil))) (vs_cons (vs_set (i := 3) rfl sc_last_start.nd rfl (.inl rfl) (ve_callF (ok_type_of (P := P) (w := w) (base := base) c) (aCons_len (aCons_len aNil_len)) (hr.mono (by decide)) rfl (c.glo 51) (va_cons true (ve_name (pe_var (i := 0) rfl (.inr (.inl rfl)))) (va_cons true (ve_name (pe_var (i := 2) rfl (.inl rfl))) va_nil)))) (vs_cons (vs_if (vt_cmp (ov_ne hu64) (ve_name (pe_var (i := 1) rfl (.inl rfl))) (ve_gstr rfl (c.str 43)) (nomark _)) (vs_one (vs_ret 3 (ve_op ov_sub (ve_op ov_add (ve_callF (ok_number_of (P := P) (w := w) (base := base) c) (aCons_len (aCons_len (aCons_len aNil_len))) (hr.mono (by decide)) rfl (c.glo 60) (va_cons true (ve_name (pe_var (i := 0) rfl (.inr (.inl rfl)))) (va_cons true (ve_name (pe_var (i := 1) rfl (.inl rfl))) (va_cons true (ve_name (pe_var (i := 2) rfl (.inl rfl))) va_nil)))) (ve_methF (ok_Plan_tree_size (P := P) (w := w) (base := base) c) (c.cls 30) (c.meth 58) (len_up (aCons_len aNil_len)) (hr.mono (by decide)) (ve_name (pe_var (i := 0) rfl (.inr (.inl rfl)))) (va_cons true (ve_name (pe_var (i := 3) rfl (.inl rfl))) va_nil))) ve_int))) vs_nil) (vs_cons (vs_while PassesOwn.never (vt_val (ve_methF (ok_Plan_is_inner (P := P) (w := w) (base := base) c) (c.cls 30) (c.meth 61) (len_up (aCons_len aNil_len)) (hr.mono (by decide)) (ve_name (pe_var (i := 0) rfl (.inr (.inl rfl)))) (va_cons true (ve_name (pe_var (i := 3) rfl (.inl rfl))) va_nil))) (vs_cons (vs_set (i := 4) rfl sc_last_start.nd rfl (.inr rfl) (ve_op ov_sub (ve_methF (ok_Plan_height_of (P := P) (w := w) (base := base) c) (c.cls 30) (c.meth 62) (len_up (aCons_len aNil_len)) (hr.mono (by decide)) (ve_name (pe_var (i := 0) rfl (.inr (.inl rfl)))) (va_cons true (ve_name (pe_var (i := 3) rfl (.inl rfl))) va_nil)) ve_int)) (vs_cons (vs_set (i := 5) rfl sc_last_start.nd rfl (.inl rfl) (ve_methF (ok_Plan_entries_of (P := P) (w := w) (base := base) c) (c.cls 30) (c.meth 49) (len_up (aCons_len aNil_len)) (hr.mono (by decide)) (ve_name (pe_var (i := 0) rfl (.inr (.inl rfl)))) (va_cons true (ve_name (pe_var (i := 3) rfl (.inl rfl))) va_nil))) (vs_cons (vs_set (i := 6) rfl sc_last_start.nd rfl (.inl rfl) (ve_bi (cv_max rfl) rfl (c.free 63) bo_max (va_cons true (ve_lc (own := [("at", 7), ("name", 8), ("many", 9)]) rfl rfl sc_last_start.nd (vi_enumU rfl (c.free 2) (vb_cons (ve_name (pe_var (i := 5) rfl (.inl rfl))) vb_nil)) (blkOk_by (own := [("at", 7), ("name", 8), ("many", 9)]) (by kernel_rfl)) (fun _ _ _ _ _ => (vg_tup rfl (vgs_cons (vg_name (pg_name sc_last_start.nd rfl (.inl rfl))) (vgs_cons (vg_tup rfl (vgs_cons (vg_name (pg_name sc_last_start.nd rfl (.inl rfl))) (vgs_cons (vg_name (pg_name sc_last_start.nd rfl (.inl rfl))) vgs_nil))) vgs_nil)))) (fun _ _ _ _ _ => (vts_one (vt_cmp (ov_eq hu64) (ve_methF (ok_Plan_height_of (P := P) (w := w) (base := base) c) (c.cls 30) (c.meth 62) (len_up (aCons_len aNil_len)) (hr.mono (by decide)) (ve_name (pe_var (i := 0) rfl (.inr (.inl rfl)))) (va_cons true (ve_name (pe_var (i := 8) rfl (.inl rfl))) va_nil)) (ve_name (pe_var (i := 4) rfl (.inr (.inl rfl)))) (nomark _)))) (fun _ _ _ _ _ => (ve_name (pe_var (i := 7) rfl (.inl rfl))))) va_nil))) (vs_cons (vs_set (i := 2) rfl sc_last_start.nd rfl (.inl rfl) (ve_op ov_add (ve_name (pe_var (i := 2) rfl (.inl rfl))) (ve_tup (vb_cons (ve_tup (vb_cons (ve_name (pe_var (i := 6) rfl (.inl rfl))) (vb_cons (ve_op ov_sub (ve_ix hu1 (ve_ix hu1 (ve_name (pe_var (i := 5) rfl (.inl rfl))) (ve_name (pe_var (i := 6) rfl (.inl rfl))) (fun _ _ => rfl)) ve_int (fun _ _ => rfl)) ve_int) vb_nil))) vb_nil)))) (vs_one (vs_set (i := 3) rfl sc_last_start.nd rfl (.inl rfl) (ve_ix hu1 (ve_ix hu1 (ve_name (pe_var (i := 5) rfl (.inl rfl))) (ve_name (pe_var (i := 6) rfl (.inl rfl))) (fun _ _ => rfl)) ve_int (fun _ _ => rfl))))))))) (vs_one (vs_ret 3 (ve_callF (ok_number_of (P := P) (w := w) (base := base) c) (aCons_len (aCons_len (aCons_len aNil_len))) (hr.mono (by decide)) rfl (c.glo 60) (va_cons true (ve_name (pe_var (i := 0) rfl (.inr (.inl rfl)))) (va_cons true (ve_name (pe_var (i := 1) rfl (.inl rfl))) (va_cons true (ve_name (pe_var (i := 2) rfl (.inl rfl))) va_nil))))))))))
theorem sc_Plan_task_total : FnScope ["self", "name", "count"] ["self"] (defScope s_Plan_task_total) := ⟨rfl, rfl, rfl, by decide +kernel, rfl, by decide +kernel, by decide +kernel⟩
theorem ok_Plan_task_total (c : Fx ex fa fn K mg) : FnP P w K mg base 4 (He.ma K (He.ga K "Plan") "task_total") 1 m_Plan_task_total :=
  fnW' (k := 3) (c.s.d.def_ 40 (d := d_Plan_task_total) rfl) sc_Plan_task_total (fun _ _ _ _ _ _ us hl => match us, hl with | [_], _ => rfl) fun cdv A outer s H E hr =>
    have hu1 := hu1_of hr
    have hu64 := hu64_of hr
    have hu65 := hu65_of hr
    (vs_one (vs_ret 1 (ve_bi (cv_sum rfl) rfl (c.free 9) bo_sum (va_cons true (ve_lc (own := [("name", 1), ("count", 2)]) rfl rfl sc_Plan_task_total.nd (vi_seq (ve_fld (c.cls 30) (c.noat 32) (ve_name (pe_var (i := 0) rfl (.inr (.inl rfl)))) rfl)) (blkOk_by (own := [("name", 1), ("count", 2)]) (by kernel_rfl)) (fun _ _ _ _ _ => (vg_tup rfl (vgs_cons (vg_name (pg_name sc_Plan_task_total.nd rfl (.inl rfl))) (vgs_cons (vg_name (pg_name sc_Plan_task_total.nd rfl (.inl rfl))) vgs_nil)))) (fun _ _ _ _ _ => vts_nil) (fun _ _ _ _ _ => (ve_op ov_mul (ve_name (pe_var (i := 2) rfl (.inl rfl))) (ve_methF (ok_Plan_tree_size (P := P) (w := w) (base := base) c) (c.cls 30) (c.meth 58) (len_up (aCons_len aNil_len)) (hr.mono (by decide)) (ve_name (pe_var (i := 0) rfl (.inr (.inl rfl)))) (va_cons true (ve_name (pe_var (i := 1) rfl (.inl rfl))) va_nil))))) va_nil))))
theorem sc_check_start : FnScope ["plan", "value"] ["plan", "value"] (defScope s_check_start) := ⟨rfl, rfl, rfl, by decide +kernel, rfl, by decide +kernel, by decide +kernel⟩
theorem ok_check_start (c : Fx ex fa fn K mg) : FnP P w K mg base 5 (He.ga K "check_start") 2 m_check_start :=
  fnW' (k := 4) (c.s.d.def_ 41 (d := d_check_start) rfl) sc_check_start (fun _ _ _ _ _ _ us hl => match us, hl with | [_, _], _ => rfl) fun cdv A outer s H E hr =>
    have hu1 := hu1_of hr
    have hu64 := hu64_of hr
    have hu65 := hu65_of hr
    (vs_one (vs_if (PW.pt (vw_or (vt_not (vt_val (ve_callF (ok_is_integer (P := P) (w := w) (base := base) c) (aCons_len aNil_len) (hr.mono (by decide)) rfl (c.glo 23) (va_cons true (ve_name (pe_var (i := 1) rfl (.inl rfl))) va_nil)))) (vw_or1 (vt_not (vt_chain ov_le ov_lt ve_int (ve_name (pe_var (i := 1) rfl (.inl rfl))) (ve_methF0 (ok_Plan_task_total (P := P) (w := w) (base := base) c) (c.cls 30) (c.meth 65) (hr.mono (by decide)) (ve_name (pe_var (i := 0) rfl (.inl rfl))))))))) (vs_one vs_never) vs_nil))
theorem sc_is_open : FnScope ["plan", "discipline", "path", "number", "last"] ["plan", "discipline", "path", "number"] (defScope s_is_open) := ⟨rfl, rfl, rfl, by decide +kernel, rfl, by decide +kernel, by decide +kernel⟩
theorem ok_is_open (c : Fx ex fa fn K mg) : FnP P w K mg base 7 (He.ga K "is_open") 4 m_is_open :=
  fnW' (k := 6) (c.s.d.def_ 42 (d := d_is_open) rfl) sc_is_open (fun _ _ _ _ _ _ us hl => match us, hl with | [_, _, _, _], _ => rfl) fun cdv A outer s H E hr =>
    have hu1 := hu1_of hr
    have hu64 := hu64_of hr
    have hu65 := hu65_of hr
    (vs_cons (vs_set (i := 4) rfl sc_is_open.nd rfl (.inl rfl) (ve_callF (ok_last_start (P := P) (w := w) (base := base) c) (aCons_len (aCons_len (aCons_len aNil_len))) (hr.mono (by decide)) rfl (c.glo 64) (va_cons true (ve_name (pe_var (i := 0) rfl (.inl rfl))) (va_cons true (ve_name (pe_var (i := 1) rfl (.inl rfl))) (va_cons false (ve_name (pe_var (i := 2) rfl (.inl rfl))) va_nil))))) (vs_cons (vs_expr (ve_callF (ok_check_start (P := P) (w := w) (base := base) c) (aCons_len (aCons_len aNil_len)) (hr.mono (by decide)) rfl (c.glo 66) (va_cons true (ve_name (pe_var (i := 0) rfl (.inl rfl))) (va_cons true (ve_name (pe_var (i := 3) rfl (.inl rfl))) va_nil)))) (vs_one (vs_ret 4 (ve_chain ov_lt ov_le (ve_callF (ok_number_of (P := P) (w := w) (base := base) c) (aCons_len (aCons_len (aCons_len aNil_len))) (hr.mono (by decide)) rfl (c.glo 60) (va_cons true (ve_name (pe_var (i := 0) rfl (.inl rfl))) (va_cons true (ve_name (pe_var (i := 1) rfl (.inl rfl))) (va_cons true (ve_name (pe_var (i := 2) rfl (.inl rfl))) va_nil)))) (ve_name (pe_var (i := 3) rfl (.inl rfl))) (ve_name (pe_var (i := 4) rfl (.inl rfl))))))))
theorem sc__law_mode_right : FnScope ["_law_well_here", "_law_forest", "_law_kinds", "_law_tops", "_law_is_fifo", "_law_starts", "_law_lasts_here", "_law_mode_here", "_law_at", "_law_path", "_law_name", "_law_turn", "_law_due"] ["_law_well_here", "_law_forest", "_law_kinds", "_law_tops", "_law_is_fifo"] (defScope s__law_mode_right) := ⟨rfl, rfl, rfl, by decide +kernel, rfl, by decide +kernel, by decide +kernel⟩
theorem ok__law_mode_right (c : Fx ex fa fn K mg) : FnP P w K mg base 8 (He.ga K "_law_mode_right") 5 m__law_mode_right :=
  fnW' (k := 7) (c.s.d.def_ 43 (d := d__law_mode_right) rfl) sc__law_mode_right (fun _ _ _ _ _ _ us hl => match us, hl with | [_, _, _, _, _], _ => rfl) fun cdv A outer s H E hr =>
    have hu1 := hu1_of hr
    have hu64 := hu64_of hr
    have hu65 := hu65_of hr
    (vs_cons (vs_set (i := 5) rfl sc__law_mode_right.nd rfl (.inl rfl) (ve_callF (ok__law_order (P := P) (w := w) (base := base) c) (aCons_len (aCons_len (aCons_len aNil_len))) (hr.mono (by decide)) rfl (c.glo 39) (va_cons true (ve_name (pe_var (i := 2) rfl (.inl rfl))) (va_cons true (ve_name (pe_var (i := 3) rfl (.inl rfl))) (va_cons true (ve_name (pe_var (i := 4) rfl (.inl rfl))) va_nil))))) (vs_cons (vs_par (i := 6) (j := 7) rfl rfl sc__law_mode_right.nd rfl rfl (by decide) rfl rfl (vb_cons (ve_callF (ok__law_lasts (P := P) (w := w) (base := base) c) (aCons_len aNil_len) (hr.mono (by decide)) rfl (c.glo 41) (va_cons true (ve_name (pe_var (i := 5) rfl (.inl rfl))) va_nil)) (vb_cons (ve_callF (ok__law_mode (P := P) (w := w) (base := base) c) (aCons_len aNil_len) (hr.mono (by decide)) rfl (c.glo 40) (va_cons true (ve_name (pe_var (i := 4) rfl (.inl rfl))) va_nil)) vb_nil)) rfl) (vs_cons (vs_for rfl PassesOwn.never rfl (vi_enumU rfl (c.free 2) (vb_cons (ve_name (pe_var (i := 5) rfl (.inl rfl))) vb_nil)) (vg_tup rfl (vgs_cons (vg_name (pg_name sc__law_mode_right.nd rfl (.inl rfl))) (vgs_cons (vg_tup rfl (vgs_cons (vg_name (pg_name sc__law_mode_right.nd rfl (.inl rfl))) (vgs_cons (vg_name (pg_name sc__law_mode_right.nd rfl (.inl rfl))) vgs_nil))) vgs_nil))) (vs_cons (vs_if (vt_cmp (ov_ne hu64) (ve_callF (ok_last_start (P := P) (w := w) (base := base) c) (aCons_len (aCons_len (aCons_len aNil_len))) (hr.mono (by decide)) rfl (c.glo 64) (va_cons true (ve_name (pe_var (i := 1) rfl (.inl rfl))) (va_cons true (ve_name (pe_var (i := 7) rfl (.inl rfl))) (va_cons false (ve_name (pe_var (i := 9) rfl (.inl rfl))) va_nil)))) (ve_ix hu1 (ve_name (pe_var (i := 6) rfl (.inl rfl))) (ve_name (pe_var (i := 8) rfl (.inl rfl))) (fun _ _ => rfl)) (nomark _)) (vs_one (vs_ret 5 ve_bl)) vs_nil) (vs_one (vs_for rfl PassesOwn.never rfl (vi_range1 rfl (c.free 4) (vb_cons ve_int vb_nil)) (vg_name (pg_name sc__law_mode_right.nd rfl (.inl rfl))) (vs_cons (vs_set (i := 12) rfl sc__law_mode_right.nd rfl (.inl rfl) (ve_callF (ok__law_one (P := P) (w := w) (base := base) c) (aCons_len (aCons_len aNil_len)) (hr.mono (by decide)) rfl (c.glo 7) (va_cons true (ve_name (pe_var (i := 0) rfl (.inl rfl))) (va_cons false (ve_lst (vb_cons (ve_name (pe_var (i := 8) rfl (.inl rfl))) (vb_cons (ve_bi (cv_min rfl) rfl (c.free 6) bo_min (va_cons true (ve_op ov_sub (ve_bi cv_len rfl (c.free 5) bo_len (va_cons true (ve_name (pe_var (i := 5) rfl (.inl rfl))) va_nil)) ve_int) (va_cons true (ve_op ov_add (ve_name (pe_var (i := 8) rfl (.inl rfl))) ve_int) va_nil))) (vb_cons (ve_ix hu1 (ve_name (pe_var (i := 6) rfl (.inl rfl))) (ve_name (pe_var (i := 8) rfl (.inl rfl))) (fun _ _ => rfl)) (vb_cons (ve_callF (ok__law_draw (P := P) (w := w) (base := base) c) (aCons_len (aCons_len aNil_len)) (hr.mono (by decide)) rfl (c.glo 1) (va_cons true (ve_name (pe_var (i := 0) rfl (.inl rfl))) (va_cons false (ve_bi cv_len rfl (c.free 5) bo_len (va_cons true (ve_name (pe_var (i := 5) rfl (.inl rfl))) va_nil)) va_nil))) vb_nil))))) va_nil)))) (vs_one (vs_if (vt_cmp (ov_ne hu64) (ve_bi cv_repr rfl (c.free 68) bo_repr (va_cons true (ve_callF (ok_is_open (P := P) (w := w) (base := base) c) (aCons_len (aCons_len (aCons_len (aCons_len aNil_len)))) (hr.mono (by decide)) rfl (c.glo 67) (va_cons true (ve_name (pe_var (i := 1) rfl (.inl rfl))) (va_cons true (ve_name (pe_var (i := 7) rfl (.inl rfl))) (va_cons true (ve_name (pe_var (i := 9) rfl (.inl rfl))) (va_cons true (ve_name (pe_var (i := 12) rfl (.inl rfl))) va_nil))))) va_nil)) (ve_bi cv_repr rfl (c.free 68) bo_repr (va_cons true (ve_chain ov_lt ov_le (ve_name (pe_var (i := 8) rfl (.inl rfl))) (ve_name (pe_var (i := 12) rfl (.inl rfl))) (ve_ix hu1 (ve_name (pe_var (i := 6) rfl (.inl rfl))) (ve_name (pe_var (i := 8) rfl (.inl rfl))) (fun _ _ => rfl))) va_nil)) (nomark _)) (vs_one (vs_ret 5 ve_bl)) vs_nil))))))) (vs_one (vs_ret 5 ve_bl)))))
theorem sc__law_right : FnScope ["_law_well_here", "_law_kinds", "_law_tops", "_law_forest", "_law_is_fifo"] ["_law_well_here"] (defScope s__law_right) := ⟨rfl, rfl, rfl, by decide +kernel, rfl, by decide +kernel, by decide +kernel⟩
theorem ok__law_right (c : Fx ex fa fn K mg) : FnP P w K mg base 9 (He.ga K "_law_right") 1 m__law_right :=
  fnW' (k := 8) (c.s.d.def_ 44 (d := d__law_right) rfl) sc__law_right (fun _ _ _ _ _ _ us hl => match us, hl with | [_], _ => rfl) fun cdv A outer s H E hr =>
    have hu1 := hu1_of hr
    have hu64 := hu64_of hr
    have hu65 := hu65_of hr
    (vs_cons (vs_asg rfl (ve_callF (ok__law_near (P := P) (w := w) (base := base) c) (aCons_len (aCons_len aNil_len)) (hr.mono (by decide)) rfl (c.glo 12) (va_cons true (ve_name (pe_var (i := 0) rfl (.inl rfl))) (va_cons false ve_int va_nil))) (vg_tup rfl (vgs_cons (vg_name (pg_name sc__law_right.nd rfl (.inl rfl))) (vgs_cons (vg_name (pg_name sc__law_right.nd rfl (.inl rfl))) vgs_nil)))) (vs_cons (vs_set (i := 3) rfl sc__law_right.nd rfl (.inl rfl) (ve_makeF true (c.mkr 36) (ok_Plan___init__ (P := P) (w := w) (base := base) c) (len_up (bCons_len (bCons_len bNil_len))) (hr.mono (by decide)) rfl (c.glo 37) (vb_cons (ve_name (pe_var (i := 1) rfl (.inl rfl))) (vb_cons (ve_name (pe_var (i := 2) rfl (.inl rfl))) vb_nil)))) (vs_cons (vs_for rfl PassesOwn.never rfl (vi_seq (ve_tup (vb_cons ve_bl (vb_cons ve_bl vb_nil)))) (vg_name (pg_name sc__law_right.nd rfl (.inl rfl))) (vs_one (vs_if (vt_not (vt_val (ve_callF (ok__law_mode_right (P := P) (w := w) (base := base) c) (aCons_len (aCons_len (aCons_len (aCons_len (aCons_len aNil_len))))) (hr.mono (by decide)) rfl (c.glo 69) (va_cons true (ve_name (pe_var (i := 0) rfl (.inl rfl))) (va_cons true (ve_name (pe_var (i := 3) rfl (.inl rfl))) (va_cons true (ve_name (pe_var (i := 1) rfl (.inl rfl))) (va_cons true (ve_name (pe_var (i := 2) rfl (.inl rfl))) (va_cons true (ve_name (pe_var (i := 4) rfl (.inl rfl))) va_nil)))))))) (vs_one (vs_ret 1 ve_bl)) vs_nil))) (vs_one (vs_ret 1 ve_bl)))))
theorem sc__law_well : FnScope ["_law_cell"] ["_law_cell"] (defScope s__law_well) := ⟨rfl, rfl, rfl, by decide +kernel, rfl, by decide +kernel, by decide +kernel⟩
theorem ok__law_well (c : Fx ex fa fn K mg) : FnP P w K mg base 1 (He.ga K "_law_well") 1 m__law_well :=
  fnW' (k := 0) (c.s.d.def_ 45 (d := d__law_well) rfl) sc__law_well (fun _ _ _ _ _ _ us hl => match us, hl with | [_], _ => rfl) fun cdv A outer s H E hr =>
    have hu1 := hu1_of hr
    have hu64 := hu64_of hr
    have hu65 := hu65_of hr
    (vs_one (vs_ret 1 (ve_lst (vb_cons (ve_op ov_mul (ve_name (pe_var (i := 0) rfl (.inl rfl))) (ve_ty cv_int rfl (c.free 3) bo_int (va_cons true (ve_cmp ov_ge (ve_name (pe_var (i := 0) rfl (.inl rfl))) (ve_op ov_pow ve_int ve_int) (nomark _)) va_nil))) (vb_cons (ve_name (pe_var (i := 0) rfl (.inl rfl))) (vb_cons ve_int vb_nil))))))
theorem sc_law : FnScope ["_law_script", "_law_cell"] ["_law_script"] (defScope s_law) := ⟨rfl, rfl, rfl, by decide +kernel, rfl, by decide +kernel, by decide +kernel⟩
theorem okl (c : Fx ex fa fn K mg) {fd : FuncData} {f : Addr} (F : FunD K "law" "law" (defArgs s_law) (defBody s_law) (defScope s_law) [] [] f fd) : FnOk P w K mg base CX0 10 f fd ["_law_script"] (spV K 1 m_law) :=
  fnV (k := 9) F sc_law fun cdv A outer s H E hr =>
    have hu1 := hu1_of hr
    have hu64 := hu64_of hr
    have hu65 := hu65_of hr
    (vs_cons (vs_for rfl PassesOwn.never rfl (vi_seq (ve_op ov_add (ve_sl (ve_name (pe_var (i := 0) rfl (.inl rfl))) vo_none (vo_some ve_int)) (ve_lst (vb_cons ve_int vb_nil)))) (vg_name (pg_name sc_law.nd rfl (.inl rfl))) (vs_one (vs_if (vt_not (vt_val (ve_callF (ok__law_right (P := P) (w := w) (base := base) c) (aCons_len aNil_len) (hr.mono (by decide)) rfl (c.glo 71) (va_cons false (ve_callF (ok__law_well (P := P) (w := w) (base := base) c) (aCons_len aNil_len) (hr.mono (by decide)) rfl (c.glo 70) (va_cons true (ve_name (pe_var (i := 1) rfl (.inl rfl))) va_nil)) va_nil)))) (vs_one (vs_ret 1 ve_bl)) vs_nil))) (vs_one (vs_ret 1 ve_bl)))
end
def loose0 : List Str := ["_wall", "PoolError", "InvalidPlan", "InvalidName", "InvalidTask", "InvalidNumber", "InvalidDiscipline", "InvalidBound", "is_integer", "is_between", "check_least", "FIFO", "LIFO", "check_discipline", "is_step", "kind_at", "type_of", "rank_in_level", "rank_in_depth", "first_of_level", "number_of", "last_start", "check_start", "is_open", "MOST_TYPES", "MOST_ENTRIES", "MOST_COUNT", "MOST_LETTERS", "is_name", "is_entry"]
def loose1 : List Str := ["is_type", "check_types", "check_roots", "table_of", "all_tables", "listed", "Plan", "_law_mixed", "_law_well", "_law_draw", "_law_one", "_law_sizes", "_law_total", "_law_drawn", "_law_near", "_law_order", "_law_lasts", "_law_mode", "_law_mode_right", "_law_right"]
def loose : List Str := loose0 ++ loose1
abbrev R : PySem.W.OpenRow := PySem.W.OpenLaw.row PySem.Challenge.rw_stuckpools_k17_last_starts_and_open_task
abbrev hk : PySem.W.Hook := hookX 4 ex fa fn
def ob (s : PySem.W.SharedT) : AlX := obsXG 4 ex fa fn (HandSHeadRun.getT s)
theorem ob_eq (s : PySem.W.SharedT) : ob s = hk.obs s.abs := obsXG_eq (HandSHeadRun.getT_eq s)
theorem run (w : World) : HandSHeadRun.RunEq R (PySem.W.view R.prog [56]) hk ob 4000 loose w := by
  intro os
  kernel_rfl
open PySem.W PySem.Calls in
theorem holds_of (hlaw : ∀ ns : List Int, ns.length ≤ 63 → ∃ fin, m_law [.sh (.scr ns)] = some (.sh (.bl true), fin)) : PySem.Challenge.rw_stuckpools_k17_last_starts_and_open_task.Holds := by
  w_on; o_law
  refine HandSHeadRun.head_any (r := OpenLaw.row PySem.Challenge.rw_stuckpools_k17_last_starts_and_open_task) (q := view (OpenLaw.row PySem.Challenge.rw_stuckpools_k17_last_starts_and_open_task).prog [56]) (H := hk) (ob := ob) (M := 4000) (loose := loose) (d := HandSHeadRun.topDef (OpenLaw.row PySem.Challenge.rw_stuckpools_k17_last_starts_and_open_task).prog 56) (kwd := []) ob_eq
    (by kernel_rfl) (fun s => by kernel_rfl) run (by kernel_rfl) (by kernel_rfl) (by kernel_rfl) (by rfl) (by first | assumption | decide +kernel) (by decide +kernel) ⟨rfl, rfl, rfl, rfl, rfl, by decide +kernel⟩ ?hw ?hc
  case hw => w_witness2
  case hc =>
    refine L2.walk_ofE (l := PySem.Challenge.rw_stuckpools_k17_last_starts_and_open_task) (n := 63) (k := 10) (x := "_law_script") (CX := L2.CX0) rfl (by decide) (by kernel_rfl) ⟨rfl, by decide, by decide⟩ ?F (fun _ _ _ _ z => z)
    intro w mg fa' h Y G hmg0
    obtain ⟨K, KX, c⟩ := Y
    have hmg : mg ("law" : PySem.Str) = some (.ref fa') := by
      have e : (HandSHeadRun.topDef (OpenLaw.row PySem.Challenge.rw_stuckpools_k17_last_starts_and_open_task).prog 56).name = ("law" : PySem.Str) := by kernel_rfl
      rw [← e]
      exact hmg0
    have cx : Fx ex fa fn K mg := ⟨c, h, KX, G⟩
    obtain ⟨fd, F⟩ := cx.s.d.def_ 46 (d := d_law) rfl
    have e := hmg.symm.trans (cx.glo 72)
    cases e
    have b := FunD.bindsA (ps := ["_law_script"]) F fun _ _ _ _ _ _ us hl => match us, hl with | [_], _ => rfl
    exact ⟨K, fd, spV K 1 m_law, KX, fun s v => b s [v] rfl, fun H a ns hl hO hS => law_sp hlaw H a ns hl hO hS, fun base _ _ => okl cx F⟩
end Lk17
namespace Pg
open PySem PySem.Spec L2 VS
theorem RT_Y {δ : DS} {P : Bool → DS → Prop} (h : P true δ) : RT tY δ P := ⟨_, _, rfl, h⟩
theorem RX_dc {it : IF} {gt : GF} {tt : TF} {fk fv : XF} {own : List Nat} {δ : DS} {P : Ev → DS → Prop} (h : RI it δ fun ds δ1 => ds.length ≤ sizeLine ∧ ∃ r δ2, dcL gt tt fk fv own ds (wipeD δ1 own) [] = some (r, δ2) ∧ P (.val (.dK r)) (unwD δ2 own (savD δ1 own))) : RX (xDc it gt tt fk fv own) δ P := by
  obtain ⟨ds, δ1, h1, h2, r, δ2, h3, p⟩ := h
  exact ⟨_, _, by simp [xDc, h1, h2, h3], p⟩
theorem divOk_of {m : Int} (h : 0 < m ∧ m < 18446744073709551616) : divOk m = true := by
  unfold divOk
  have : m.natAbs.log2 < 9000 := by
    by_cases h0 : m.natAbs = 0
    · rw [h0]; decide
    · have h1 : m.natAbs < 2 ^ 64 := by omega
      have h2 := (Nat.log2_lt h0).mpr h1
      omega
  simp [h.1, this]
/-- a loop by a measure -/
theorem RS_wh {tc : TF} {body : SF} {P : Fl → Prop} (Inv : Nat → DS → Prop) {m : Nat} {δ : DS} (h0 : Inv m δ)
    (step : ∀ m δ, Inv m δ → RT tc δ fun b δ1 => CB b (RS body δ1 (loopS (fun δ' => ∃ m', m' < m ∧ Inv m' δ') P)) (P (.nx δ1))) : RS (sWh tc body) δ P := by
  suffices H : ∀ (n m : Nat), m ≤ n → ∀ δ, Inv m δ → ∃ k r, whN tc body k δ = some r ∧ P r by
    obtain ⟨k, r, h, p⟩ := H m m (Nat.le_refl m) δ h0
    exact ⟨r, sWh_of h, p⟩
  intro n
  induction n with
  | zero =>
    intro m hm δ hi
    obtain ⟨b, δ1, h1, p⟩ := step m δ hi
    cases b with
    | false => exact ⟨1, _, by simp [whN, h1], p.2 rfl⟩
    | true =>
      obtain ⟨r, h2, q⟩ := p.1 rfl
      cases r with
      | nx δ2 => obtain ⟨m', hm', _⟩ := q; omega
      | ct δ2 => obtain ⟨m', hm', _⟩ := q; omega
      | bk δ2 => exact ⟨1, _, by simp [whN, h1, h2], q⟩
      | rt o δ2 => exact ⟨1, _, by simp [whN, h1, h2], q⟩
  | succ n ih =>
    intro m hm δ hi
    obtain ⟨b, δ1, h1, p⟩ := step m δ hi
    cases b with
    | false => exact ⟨1, _, by simp [whN, h1], p.2 rfl⟩
    | true =>
      obtain ⟨r, h2, q⟩ := p.1 rfl
      cases r with
      | nx δ2 =>
        obtain ⟨m', hm', q⟩ := q
        obtain ⟨k, r, h3, q⟩ := ih m' (by omega) δ2 q
        exact ⟨k + 1, r, by simp [whN, h1, h2, h3], q⟩
      | ct δ2 =>
        obtain ⟨m', hm', q⟩ := q
        obtain ⟨k, r, h3, q⟩ := ih m' (by omega) δ2 q
        exact ⟨k + 1, r, by simp [whN, h1, h2, h3], q⟩
      | bk δ2 => exact ⟨1, _, by simp [whN, h1, h2], q⟩
      | rt o δ2 => exact ⟨1, _, by simp [whN, h1, h2], q⟩
local macro_rules | `(tactic| walk_at "gt") => `(tactic| (simp only [gT, gsCons, gN, gsNil, Option.bind_some, List.length_cons, List.length_nil, List.set_cons_zero, List.set_cons_succ, Nat.reduceAdd, if_true] <;> exact rfl))
local macro_rules | `(tactic| walk_at "nrm") => `(tactic| (simp only [List.set_cons_zero, List.set_cons_succ, List.map_cons, List.map_nil, List.length_cons, List.length_nil, List.replicate, List.cons_append, List.nil_append, Nat.reduceSub, selM, ins, O.fz, wipeD, savD, unwD, List.getElem?_cons_zero, List.getElem?_cons_succ, Option.join_some, Option.join_none] <;> exact rfl))
local macro_rules | `(tactic| walk_at "vs") => `(tactic| first
  | with_reducible refine RX_x2 ?_ | with_reducible refine RX_C ?_ | with_reducible refine RX_Vs rfl ?_ | with_reducible refine RX_Va rfl rfl ?_
  | with_reducible refine RV_sh _ ?_ | with_reducible refine RV_val _ ?_ | with_reducible refine RV_at _ rfl ?_
  | with_reducible refine RK_val _ ?_ | with_reducible refine RK_at _ rfl (by walk_at "nrm") ?_
  | with_reducible refine RS_seq ?_ | with_reducible refine thenS_nx ?_ | with_reducible refine thenS_rt ?_ | with_reducible refine loopS_nx ?_ | with_reducible refine loopS_rt ?_ | with_reducible refine loopS_ct ?_ | with_reducible refine loopS_bk ?_ | with_reducible refine thenS_bk ?_ | with_reducible refine thenS_ct ?_ | with_reducible refine endF_rt (by walk_at "nrm") ?_ | with_reducible refine endF_nx (by walk_at "nrm") ?_
  | with_reducible refine RS_set ?_ | with_reducible refine RS_ret ?_ | with_reducible refine RS_if ?_ | with_reducible refine RS_expr ?_ | with_reducible refine RS_sub ?_ | with_reducible refine RS_attr ?_ | with_reducible refine RS_nil ?_ | with_reducible refine RS_par ?_ | with_reducible refine RS_asg ?_
  | with_reducible refine RX_call ?_ | with_reducible refine RX_bi ?_ | with_reducible refine RX_x1 ?_ | with_reducible refine RX_tup ?_ | with_reducible refine RX_lst ?_
  | with_reducible refine RA_f ?_ | with_reducible refine RA_t ?_ | with_reducible refine RA_nil ?_ | with_reducible refine RB_cons ?_ | with_reducible refine RB_nil ?_
  | with_reducible refine RT_Y ?_ | with_reducible refine RT_tB ?_ | with_reducible refine RT_not ?_ | with_reducible refine RT_and ?_ | with_reducible refine RT_or ?_ | with_reducible refine RX_and ?_ | with_reducible refine RX_or ?_ | with_reducible refine RX_not ?_ | with_reducible refine RX_if ?_ | with_reducible refine RX_ch ?_
  | with_reducible refine CB_t ?_ | with_reducible refine CB_f ?_ | with_reducible refine CB_n ?_
  | with_reducible refine RX_mut rfl rfl ?_ | with_reducible refine RS_for ?_ | with_reducible refine RI_enmU ?_ | with_reducible refine RI_seq ?_ | with_reducible refine RI_rg1 ?_ | with_reducible refine RX_lc ?_ | with_reducible refine RX_dc ?_ | with_reducible refine RX_dK ?_ | with_reducible refine RX_sl ?_ | with_reducible refine RO_N ?_ | with_reducible refine RO_E ?_ | with_reducible refine RX_fld ?_ | with_reducible refine RX_meth ?_ | with_reducible refine RX_make ?_ | with_reducible refine RX_o2 ?_
  | with_reducible refine R1_of _ (opMod_int (by decide)) ?_ | with_reducible refine R1_of _ (opDiv_int (by decide)) ?_ | with_reducible refine R1_of _ (opMul_l (by first | decide | omega)) ?_ | with_reducible refine R1_of _ (opMul_r (by first | decide | omega)) ?_ | with_reducible refine R1_of _ (opPow_ok (by first | decide | omega)) ?_
  | refine R1_of _ rfl ?_
  | (fail_if_success (with_reducible refine RF_id ?_)); (fail_if_success (with_reducible refine RL_id ?_)); (fail_if_success (with_reducible refine inR_id ?_)); first | refine ⟨_, by walk_at "nrm", ?_⟩ | refine ⟨_, _, rfl, ?_⟩ | refine ⟨_, rfl, ?_⟩ | refine ⟨rfl, ?_⟩ | refine ⟨Nat.le_of_ble_eq_true rfl, ?_⟩ | refine ⟨_, _, rfl, rfl, ?_⟩)
theorem RL_enum {α : Type} {enc : α → D} {gt : GF} {body : SF} {l : List α} {P : Fl → Prop} (Inv : List α → DS → Prop) {δ : DS} (h0 : Inv [] δ)
    (step : ∀ done x rest δ, l = done ++ x :: rest → Inv done δ → ∃ δ1, gt (.tup [.int (done.length : Nat), enc x]) δ = some δ1 ∧ RS body δ1 (loopS (Inv (done ++ [x])) P)) (fin : ∀ δ, Inv l δ → P (.nx δ)) : RL gt body (enumD 0 (l.map enc)) δ P := by
  suffices H : ∀ (rest done : List α) (δ : DS), l = done ++ rest → Inv done δ → RL gt body (enumD done.length (rest.map enc)) δ P from H l [] δ rfl h0
  intro rest
  induction rest with
  | nil =>
    intro done δ e h
    rw [List.append_nil] at e
    subst e
    exact ⟨_, rfl, fin δ h⟩
  | cons x rest ih =>
    intro done δ e h
    obtain ⟨δ1, h1, r, h2, p⟩ := step done x rest δ e h
    have go : ∀ δ2, Inv (done ++ [x]) δ2 → RL gt body (enumD (done.length + 1) (rest.map enc)) δ2 P := fun δ2 q => by
      have := ih (done ++ [x]) δ2 (by rw [e]; simp) q
      rwa [List.length_append] at this
    cases r with
    | nx δ2 =>
      obtain ⟨r, h3, q⟩ := go δ2 p
      exact ⟨r, by simp [enumD, forL, h1, h2, h3], q⟩
    | ct δ2 =>
      obtain ⟨r, h3, q⟩ := go δ2 p
      exact ⟨r, by simp [enumD, forL, h1, h2, h3], q⟩
    | bk δ2 => exact ⟨_, by simp [enumD, forL, h1, h2], p⟩
    | rt o δ2 => exact ⟨_, by simp [enumD, forL, h1, h2], p⟩
theorem okL_map {α : Type} {f : α → D} {n : Nat} : ∀ {l : List α}, (∀ x ∈ l, (f x).okE n = true) → D.okL n (l.map f) = true
  | [], _ => by simp [D.okL]
  | x :: l, h => by
    simp only [List.map_cons, D.okL, Bool.and_eq_true]
    exact ⟨h x (by simp), okL_map fun y hy => h y (by simp [hy])⟩
theorem sIx_pos (n d : Nat) {m : Int} (h : 0 ≤ m) : HT.sIx n d (some m) = min m.toNat n := by
  show (if m < 0 then (m + (n : Int)).toNat else min m.toNat n) = _
  rw [if_neg (by omega)]
theorem cutL_take {α : Type} (l : List α) {m : Int} (h : 0 ≤ m) : cutL l none (some m) = l.take m.toNat := by
  unfold cutL
  rw [sIx_pos _ _ h, HT.sIx_none, List.drop_zero, Nat.sub_zero]
  rcases Nat.le_total m.toNat l.length with e | e
  · rw [Nat.min_eq_left e]
  · rw [Nat.min_eq_right e, List.take_length, List.take_of_length_le e]
theorem cutL_drop {α : Type} (l : List α) {m : Int} (h : 0 ≤ m) : cutL l (some m) none = l.drop m.toNat := by
  unfold cutL
  rw [sIx_pos _ _ h, HT.sIx_none]
  rcases Nat.le_total m.toNat l.length with e | e
  · rw [Nat.min_eq_left e, List.take_of_length_le (by simp)]
  · rw [Nat.min_eq_right e, List.drop_length, List.drop_of_length_le e]
    simp
theorem sl_le {n : Nat} (h : n ≤ 16777216) : n ≤ sizeLine := h
theorem mApp_ok {xs : List D} {d : D} (h : xs.length < 16777216) : mApp (.lst xs) [d] = some (.lst (xs ++ [d]), .sh .non) := if_pos (show xs.length < sizeLine from h)
theorem rng_map (n : Nat) : rngD 0 n = (List.range n).map fun (i : Nat) => D.int (0 + (i : Int)) := rfl
theorem atI_some {α : Type} {l : List α} {v : Int} (h0 : 0 ≤ v) (h1 : v < l.length) : ∃ x, atI l v = some x ∧ x ∈ l := by
  have hl : v.toNat < l.length := by omega
  refine ⟨l[v.toNat], ?_, List.getElem_mem hl⟩
  unfold atI ixN
  rw [if_pos h0, if_pos h1]
  simp [hl]
theorem atI_map {α : Type} {f : α → D} {l : List α} {v : Int} (h0 : 0 ≤ v) (h1 : v < l.length) : ∃ x, atI (l.map f) v = some (f x) ∧ x ∈ l := by
  obtain ⟨d, e, hd⟩ := atI_some (l := l.map f) h0 (by rw [List.length_map]; exact h1)
  obtain ⟨x, hx, rfl⟩ := List.mem_map.mp hd
  exact ⟨x, e, hx⟩
theorem opIx_lst {xs : List D} {v : Int} {d : D} (h : atI xs v = some d) : opIx (.lst xs) (.int v) = some (.sh d) := by
  show (atI xs v).map O.sh = _
  rw [h]
  rfl
theorem all_true {α : Type} (l : List α) : mAll [.lst (l.map fun _ => D.bl true)] = some (.sh (.bl true)) := by
  have : blsOf (l.map fun _ => D.bl true) = some (l.map fun _ => true) := by
    induction l with
    | nil => rfl
    | cons a l ih =>
      simp only [List.map_cons, blsOf, ih, Option.map_some]
  unfold mAll
  simp only [this, Option.map_some]
  simp
theorem opIx_dk {tb : List (Key × D)} {s : Str} {d : D} (h : dget tb (.inr s) = some d) : opIx (.dK tb) (.str s) = some (.sh d) := by
  simp [opIx, opDG, keyOf, h]
theorem putD_lst {xs : List D} {m : Int} {d : D} (h0 : 0 ≤ m) (h1 : m < xs.length) : putD (.lst xs) (.int m) d = some (.lst (xs.set m.toNat d)) := by
  simp only [putD, ixN]
  rw [if_pos h0, if_pos h1]
  rfl
theorem dput_new {ks : List (Key × D)} {k : Key} {d : D} (h : k ∉ ks.map (·.1)) : dput ks k d = ks ++ [(k, d)] := by
  unfold dput
  rw [if_neg]
  simp only [List.any_eq_true, decide_eq_true_eq, not_exists, not_and]
  intro x hx e
  exact h (List.mem_map.mpr ⟨x, hx, e⟩)
/-- new keys, each item by itself -/
theorem dc_new {α : Type} {enc : α → D} {key : α → Key} {g : α → D} {gt : GF} {tt : TF} {fk fv : XF} {own : List Nat} {l : List α} {δ : DS} (hnd : (l.map key).Nodup)
    (step : ∀ x ∈ l, ∃ δ1, gt (enc x) δ = some δ1 ∧ RT tt δ1 fun b δ2 => b = true ∧ RX fk δ2 fun e δ3 => RK δ3 e fun ok δ4 => RX fv δ4 fun e δ5 => RK δ5 e fun o δ6 => keyOf ok.fz = some (key x) ∧ o.fz = g x ∧ wipeD δ6 own = δ) :
    dcL gt tt fk fv own (l.map enc) δ [] = some (l.map fun x => (key x, g x), δ) := by
  suffices H : ∀ (rest done : List α), l = done ++ rest → dcL gt tt fk fv own (rest.map enc) δ (done.map fun x => (key x, g x)) = some (l.map fun x => (key x, g x), δ) from H l [] rfl
  intro rest
  induction rest with
  | nil =>
    intro done e
    rw [List.append_nil] at e
    subst e
    rfl
  | cons x rest ih =>
    intro done e
    obtain ⟨δ1, h1, b, δ2, h2, hb, ek, δ3, h3, ok, δ4, h4, ev, δ5, h5, o, δ6, h6, h7, h8, h9⟩ := step x (by rw [e]; simp)
    subst hb
    have nk : key x ∉ (done.map fun x => (key x, g x)).map (·.1) := by
      rw [e, List.map_append] at hnd
      have q := (List.nodup_append.mp hnd).2.2
      rw [List.map_map]
      intro hm
      exact q (key x) (by simpa using hm) (key x) (by simp) rfl
    have := ih (done ++ [x]) (by rw [e]; simp)
    simp only [List.map_cons, dcL, h1, h2, h3, h4, h5, h6, h7, h8, Option.bind_some, if_true]
    rw [dput_new nk, h9]
    rw [List.map_append] at this
    exact this
theorem dget_cons {κ : Type} [DecidableEq κ] (x k : κ) (v : D) (ks : List (κ × D)) : dget ((x, v) :: ks) k = if x = k then some v else dget ks k := by
  unfold dget
  by_cases e : x = k
  · simp [List.find?_cons, e]
  · simp [List.find?_cons, e]
theorem dget_put {κ : Type} [DecidableEq κ] (k k' : κ) (d : D) : ∀ ks : List (κ × D), (dget (ks.map fun kv => if kv.1 = k then (kv.1, d) else kv) k' = if k = k' then (dget ks k').map (fun _ => d) else dget ks k') ∧
    (dget (ks ++ [(k, d)]) k' = match dget ks k' with | some v => some v | none => if k = k' then some d else none) ∧ ((ks.any fun kv => decide (kv.1 = k)) = (dget ks k).isSome)
  | [] => by simp [dget]
  | (x, v) :: ks => by
    obtain ⟨h1, h2, h3⟩ := dget_put k k' d ks
    refine ⟨?_, ?_, ?_⟩
    · rw [List.map_cons]
      by_cases e : x = k
      · subst e
        simp only [if_true]
        rw [dget_cons, dget_cons, h1]
        by_cases e2 : x = k'
        · simp [e2]
        · simp [e2]
      · simp only [e, if_false]
        rw [dget_cons, dget_cons, h1]
        by_cases e2 : x = k'
        · subst e2
          have : ¬ k = x := fun z => e z.symm
          simp [this]
        · simp [e2]
    · rw [List.cons_append, dget_cons, dget_cons, h2]
      by_cases e2 : x = k'
      · simp [e2]
      · simp [e2]
    · rw [List.any_cons, h3, dget_cons]
      by_cases e : x = k
      · simp [e]
      · simp [e]
theorem dget_dput {κ : Type} [DecidableEq κ] (ks : List (κ × D)) (k k' : κ) (d : D) : dget (dput ks k d) k' = if k = k' then some d else dget ks k' := by
  obtain ⟨h1, h2, h3⟩ := dget_put k k' d ks
  unfold dput
  split
  · rename_i ha
    rw [h1]
    rw [h3] at ha
    by_cases e : k = k'
    · subst e
      obtain ⟨v, hv⟩ := Option.isSome_iff_exists.mp ha
      simp [hv]
    · simp [e]
  · rename_i ha
    rw [h2]
    rw [h3] at ha
    by_cases e : k = k'
    · subst e
      have : dget ks k = none := by cases q : dget ks k with | none => rfl | some v => rw [q] at ha; simp at ha
      simp [this]
    · simp only [e, if_false]
      cases dget ks k' <;> rfl
theorem enumD_zip {α : Type} (enc : α → D) : ∀ (l : List α) (n : Nat), enumD n (l.map enc) = (l.zipIdx n).map fun p => .tup [.int (p.2 : Nat), enc p.1]
  | [], n => rfl
  | x :: l, n => by
    rw [List.map_cons, List.zipIdx_cons, List.map_cons, ← enumD_zip enc l (n + 1)]
    rfl
abbrev En := Str × Int
abbrev Ty := Str × List En
def encE (e : En) : D := .tup [.str e.1, .int e.2]
def encT (t : Ty) : D := .tup [.str t.1, .lst (t.2.map encE)]
def GoodN (s : Str) : Prop := RF m_is_name [.sh (.str s)] fun r fin => r = .sh (.bl true) ∧ fin = [some (.sh (.str s))]
/-- a name -/
def NOk (s : Str) : Prop := GoodN s ∧ PyData.strOk s = true
def cntOk (k : Int) : Prop := 1 ≤ k ∧ k ≤ 1000000000000
def eOk (e : En) : Prop := NOk e.1 ∧ cntOk e.2
def tOk (t : Ty) : Prop := NOk t.1 ∧ t.2.length ≤ 20 ∧ ∀ e ∈ t.2, eOk e
theorem int_ok {v : Int} : RF m_is_integer [.sh (.int v)] fun r fin => r = .sh (.bl true) ∧ fin = [some (.sh (.int v))] := ⟨_, _, rfl, rfl, rfl⟩
theorem between_ok {v lo hi : Int} (h : lo ≤ v ∧ v ≤ hi) : RF m_is_between [.sh (.int v), .sh (.int lo), .sh (.int hi)] fun r fin => r = .sh (.bl true) ∧ fin = [some (.sh (.int v)), some (.sh (.int lo)), some (.sh (.int hi))] := by
  refine RF_def rfl (by walk_at "nrm") ?_
  refine RS_ret (RX_and (RT_tB (RX_call (RA_t (RX_Vs rfl (RA_nil ?_))))))
  refine ⟨_, _, rfl, ?_⟩
  refine RF.mono int_ok ?_
  rintro r fin ⟨rfl, rfl⟩
  repeat walk_at "vs"
  refine CB_yes (decide_eq_true h.1) ?_
  repeat walk_at "vs"
  rw [decide_eq_true h.2]
  exact ⟨rfl, rfl⟩
theorem entry_ok {e : En} (h : eOk e) : RF m_is_entry [.sh (encE e)] fun r fin => r = .sh (.bl true) ∧ fin = [some (.sh (encE e))] := by
  unfold encE
  refine RF_def rfl (by walk_at "nrm") ?_
  repeat walk_at "vs"
  refine CB_yes (by simp [D.eqD]) ?_
  repeat walk_at "vs"
  refine RF.mono (h.1.1) ?_
  rintro r fin ⟨rfl, rfl⟩
  repeat walk_at "vs"
  refine RF.mono (between_ok ⟨h.2.1, h.2.2⟩) ?_
  rintro r fin ⟨rfl, rfl⟩
  repeat walk_at "vs"
  rfl
theorem type_ok {t : Ty} (h : tOk t) : RF m_is_type [.sh (encT t)] fun r fin => r = .sh (.bl true) ∧ fin = [some (.sh (encT t))] := by
  unfold encT
  refine RF_def rfl (by walk_at "nrm") ?_
  repeat walk_at "vs"
  refine CB_yes (by simp [D.eqD]) ?_
  repeat walk_at "vs"
  refine RF.mono (h.1.1) ?_
  rintro r fin ⟨rfl, rfl⟩
  repeat walk_at "vs"
  refine CB_no (by have := h.2.1; simp; omega) ?_
  repeat walk_at "vs"
  refine ⟨by rw [List.length_map]; exact sl_le (by have := h.2.1; omega), ?_⟩
  refine RC_map (g := fun _ => D.bl true) (fun e he => ?_) ?_
  · refine ⟨_, by walk_at "gt", ?_⟩
    repeat walk_at "vs"
    refine RF.mono (entry_ok (h.2.2 e he)) ?_
    rintro r fin ⟨rfl, rfl⟩
    repeat walk_at "vs"
    walk_at "nrm"
  · repeat walk_at "vs"
    refine R1_of _ (all_true _) ?_
    repeat walk_at "vs"
    rfl
theorem in_strs {s : Str} {l : List Str} (hs : NOk s) (hl : ∀ x ∈ l, NOk x) : opIn (.str s) (.lst (l.map D.str)) = some (decide (s ∈ l)) := by
  have h1 : (D.str s).okE 29 = true := by simp only [D.okE]; exact hs.2
  have h2 : D.okL 29 (l.map D.str) = true := okL_map fun x hx => by simp only [D.okE]; exact (hl x hx).2
  show (if (D.str s).okE 29 && D.okL 29 (l.map D.str) then some ((l.map D.str).any fun z => z.eqD (.str s)) else none) = _
  rw [h1, h2]
  simp only [Bool.and_self, if_true, Option.some.injEq]
  induction l with
  | nil => rfl
  | cons a l ih =>
    have ih := ih (fun x hx => hl x (by simp [hx])) (okL_map fun x hx => by simp only [D.okE]; exact (hl x (by simp [hx])).2)
    simp only [List.map_cons, List.any_cons, ih, D.eqD, List.mem_cons]
    by_cases e : a = s
    · subst e
      simp
    · have : ¬ s = a := fun z => e z.symm
      simp [e, this]
theorem opInV_strs {s : Str} {l : List Str} (hs : NOk s) (hl : ∀ x ∈ l, NOk x) : opInV (.str s) (.lst (l.map D.str)) = some (.sh (.bl (decide (s ∈ l)))) := by
  unfold opInV
  rw [in_strs hs hl]
  rfl
theorem opNinV_strs {s : Str} {l : List Str} (hs : NOk s) (hl : ∀ x ∈ l, NOk x) : opNinV (.str s) (.lst (l.map D.str)) = some (.sh (.bl (!decide (s ∈ l)))) := by
  unfold opNinV
  rw [in_strs hs hl]
  rfl
/-- what a Plan asks of its types and roots -/
structure PP (kinds : List Ty) (tops : List En) : Prop where
  l1 : 1 ≤ kinds.length
  l2 : kinds.length ≤ 40
  tk : ∀ t ∈ kinds, tOk t
  nd : (kinds.map (·.1)).Nodup
  ent : ∀ i t, kinds[i]? = some t → ∀ e ∈ t.2, e.1 ∈ (kinds.map (·.1)).drop (i + 1)
  tl : tops.length ≤ 20
  te : ∀ e ∈ tops, e.1 ∈ kinds.map (·.1) ∧ eOk e
theorem check_types_ok {kinds : List Ty} {tops : List En} (h : PP kinds tops) : RF m_check_types [.sh (.lst (kinds.map encT))] fun r fin => r = .sh .non ∧ fin = [some (.sh (.lst (kinds.map encT)))] := by
  have hn : ∀ s ∈ kinds.map (·.1), NOk s := fun s hs => by obtain ⟨t, ht, rfl⟩ := List.mem_map.mp hs; exact (h.tk t ht).1
  refine RF_def rfl (by walk_at "nrm") ?_
  repeat walk_at "vs"
  refine CB_yes (by have := h.l1; simp; omega) ?_
  repeat walk_at "vs"
  refine CB_yes (by have := h.l2; simp; omega) ?_
  repeat walk_at "vs"
  refine RL_enum (fun done δ => ∃ j2 j3, δ = [some (.sh (.lst (kinds.map encT))), some (.lst ((done.map (·.1)).map D.str)), j2, j3, none, none]) ⟨_, _, rfl⟩ ?_ ?_
  · rintro done x rest δ hl ⟨j2, j3, rfl⟩
    have hx : x ∈ kinds := by rw [hl]; simp
    refine ⟨_, by walk_at "gt", ?_⟩
    repeat walk_at "vs"
    refine RF.mono (type_ok (h.tk x hx)) ?_
    rintro r fin ⟨rfl, rfl⟩
    repeat walk_at "vs"
    refine R1_of _ (opInV_strs (h.tk x hx).1 fun s hs => hn s (by rw [hl]; simp at hs ⊢; exact .inl hs)) ?_
    repeat walk_at "vs"
    refine CB_no ?_ ?_
    · have q := h.nd
      rw [hl, List.map_append] at q
      have := (List.nodup_append.mp q).2.2
      simp only [decide_eq_false_iff_not]
      intro hm
      exact this x.1 hm x.1 (by simp) rfl
    repeat walk_at "vs"
    have hdl : done.length < 40 := by have a1 := congrArg List.length hl; have a2 := h.l2; simp at a1; omega
    refine ⟨_, mApp_ok (by simp; omega), ?_⟩
    repeat walk_at "vs"
    exact ⟨_, _, by rw [List.map_append, List.map_append]; rfl⟩
  · rintro δ ⟨j2, j3, rfl⟩
    repeat walk_at "vs"
    refine RL_enum (fun done δ => ∃ j2 j3, δ = [some (.sh (.lst (kinds.map encT))), some (.lst ((kinds.map (·.1)).map D.str)), j2, j3, none, none]) ⟨_, _, rfl⟩ ?_ ?_
    · rintro done x rest δ hl ⟨j2, j3, rfl⟩
      have hx : x ∈ kinds := by rw [hl]; simp
      refine ⟨_, by walk_at "gt", ?_⟩
      repeat walk_at "vs"
      refine ⟨by rw [List.length_map]; exact sl_le (by have := (h.tk x hx).2.1; omega), ?_⟩
      have hL : cutL ((kinds.map (·.1)).map D.str) (some ((done.length : Int) + 1)) none = ((kinds.map (·.1)).drop (done.length + 1)).map D.str := by
        rw [cutL_drop _ (by omega), ← List.map_drop]
        congr 2
      refine RC_map (g := fun _ => D.bl true) (fun e he => ?_) ?_
      · refine ⟨_, by walk_at "gt", ?_⟩
        repeat walk_at "vs"
        rw [hL]
        refine R1_of _ (opInV_strs ((h.tk x hx).2.2 e he).1 fun s hs => hn s (List.mem_of_mem_drop hs)) ?_
        have hxi : kinds[done.length]? = some x := by rw [hl]; simp
        rw [decide_eq_true (h.ent _ x hxi e he)]
        repeat walk_at "vs"
        walk_at "nrm"
      · repeat walk_at "vs"
        refine R1_of _ (all_true _) ?_
        repeat walk_at "vs"
        exact ⟨_, _, rfl⟩
    · rintro δ ⟨j2, j3, rfl⟩
      repeat walk_at "vs"
      rfl
theorem check_roots_ok {kinds : List Ty} {tops : List En} (h : PP kinds tops) {o : O} (ho : o = .lst (tops.map encE) ∨ o = .sh (.lst (tops.map encE))) : RF m_check_roots [o, .lst ((kinds.map (·.1)).map D.str)] fun r fin => r = .sh .non ∧ ∃ j, fin = [some (.sh (.lst (tops.map encE))), j] := by
  have hn : ∀ s ∈ kinds.map (·.1), NOk s := fun s hs => by obtain ⟨t, ht, rfl⟩ := List.mem_map.mp hs; exact (h.tk t ht).1
  rcases ho with rfl | rfl <;>
  · refine RF_def rfl (by walk_at "nrm") ?_
    repeat walk_at "vs"
    refine CB_no (by have := h.tl; simp; omega) ?_
    repeat walk_at "vs"
    refine RL_enum (fun done δ => ∃ j2 j3, δ = [some (.sh (.lst (tops.map encE))), some (.lst ((kinds.map (·.1)).map D.str)), j2, j3]) ⟨_, _, rfl⟩ ?_ ?_
    · rintro done x rest δ hl ⟨j2, j3, rfl⟩
      have hx : x ∈ tops := by rw [hl]; simp
      refine ⟨_, by walk_at "gt", ?_⟩
      repeat walk_at "vs"
      refine RF.mono (entry_ok (h.te x hx).2) ?_
      rintro r fin ⟨rfl, rfl⟩
      repeat walk_at "vs"
      refine R1_of _ (opNinV_strs (h.te x hx).2.1 hn) ?_
      rw [decide_eq_true (h.te x hx).1]
      repeat walk_at "vs"
      exact ⟨_, _, rfl⟩
    · rintro δ ⟨j2, j3, rfl⟩
      repeat walk_at "vs"
      exact ⟨_, rfl⟩
abbrev Pr := Int × Int
def encP (p : Pr) : D := .tup [.int p.1, .int p.2]
theorem opNe_ents {es : List En} (h : ∀ e ∈ es, eOk e) : opNe (.lst (es.map encE)) (.lst []) = some (.sh (.bl (!es.isEmpty))) := by
  have h1 : (D.lst (es.map encE)).okE 30 = true := by
    simp only [D.okE]
    exact okL_map fun x hx => by simp only [encE, D.okE, D.okL, (h x hx).1.2, Bool.and_self]
  have h2 : (D.lst []).okE 30 = true := by simp [D.okE, D.okL]
  unfold opNe deq
  rw [h1, h2]
  cases es <;> simp [D.eqD, D.eqL]
end Pg
namespace Pg
open PySem PySem.Spec L2 VS
local macro_rules | `(tactic| walk_at "gt") => `(tactic| (simp only [gT, gsCons, gN, gsNil, Option.bind_some, List.length_cons, List.length_nil, List.set_cons_zero, List.set_cons_succ, Nat.reduceAdd, if_true] <;> exact rfl))
local macro_rules | `(tactic| walk_at "nrm") => `(tactic| (simp only [List.set_cons_zero, List.set_cons_succ, List.map_cons, List.map_nil, List.length_cons, List.length_nil, List.replicate, List.cons_append, List.nil_append, Nat.reduceSub, selM, ins, O.fz, wipeD, savD, unwD, List.getElem?_cons_zero, List.getElem?_cons_succ, Option.join_some, Option.join_none] <;> exact rfl))
local macro_rules | `(tactic| walk_at "vs") => `(tactic| first
  | with_reducible refine RX_x2 ?_ | with_reducible refine RX_C ?_ | with_reducible refine RX_Vs rfl ?_ | with_reducible refine RX_Va rfl rfl ?_
  | with_reducible refine RV_sh _ ?_ | with_reducible refine RV_val _ ?_ | with_reducible refine RV_at _ rfl ?_
  | with_reducible refine RK_val _ ?_ | with_reducible refine RK_at _ rfl (by walk_at "nrm") ?_
  | with_reducible refine RS_seq ?_ | with_reducible refine thenS_nx ?_ | with_reducible refine thenS_rt ?_ | with_reducible refine loopS_nx ?_ | with_reducible refine loopS_rt ?_ | with_reducible refine loopS_ct ?_ | with_reducible refine loopS_bk ?_ | with_reducible refine thenS_bk ?_ | with_reducible refine thenS_ct ?_ | with_reducible refine endF_rt (by walk_at "nrm") ?_ | with_reducible refine endF_nx (by walk_at "nrm") ?_
  | with_reducible refine RS_set ?_ | with_reducible refine RS_ret ?_ | with_reducible refine RS_if ?_ | with_reducible refine RS_expr ?_ | with_reducible refine RS_sub ?_ | with_reducible refine RS_attr ?_ | with_reducible refine RS_nil ?_ | with_reducible refine RS_par ?_ | with_reducible refine RS_asg ?_
  | with_reducible refine RX_call ?_ | with_reducible refine RX_bi ?_ | with_reducible refine RX_x1 ?_ | with_reducible refine RX_tup ?_ | with_reducible refine RX_lst ?_
  | with_reducible refine RA_f ?_ | with_reducible refine RA_t ?_ | with_reducible refine RA_nil ?_ | with_reducible refine RB_cons ?_ | with_reducible refine RB_nil ?_
  | with_reducible refine RT_Y ?_ | with_reducible refine RT_tB ?_ | with_reducible refine RT_not ?_ | with_reducible refine RT_and ?_ | with_reducible refine RT_or ?_ | with_reducible refine RX_and ?_ | with_reducible refine RX_or ?_ | with_reducible refine RX_not ?_ | with_reducible refine RX_if ?_ | with_reducible refine RX_ch ?_
  | with_reducible refine CB_t ?_ | with_reducible refine CB_f ?_ | with_reducible refine CB_n ?_
  | with_reducible refine RX_mut rfl rfl ?_ | with_reducible refine RS_for ?_ | with_reducible refine RI_enmU ?_ | with_reducible refine RI_seq ?_ | with_reducible refine RI_rg1 ?_ | with_reducible refine RX_lc ?_ | with_reducible refine RX_dc ?_ | with_reducible refine RX_dK ?_ | with_reducible refine RX_sl ?_ | with_reducible refine RO_N ?_ | with_reducible refine RO_E ?_ | with_reducible refine RX_fld ?_ | with_reducible refine RX_meth ?_ | with_reducible refine RX_make ?_ | with_reducible refine RX_o2 ?_
  | with_reducible refine R1_of _ (opMod_int (by decide)) ?_ | with_reducible refine R1_of _ (opDiv_int (by decide)) ?_ | with_reducible refine R1_of _ (opMul_l (by first | decide | omega)) ?_ | with_reducible refine R1_of _ (opMul_r (by first | decide | omega)) ?_ | with_reducible refine R1_of _ (opPow_ok (by first | decide | omega)) ?_
  | refine R1_of _ rfl ?_
  | (fail_if_success (with_reducible refine RF_id ?_)); (fail_if_success (with_reducible refine RL_id ?_)); (fail_if_success (with_reducible refine inR_id ?_)); first | refine ⟨_, by walk_at "nrm", ?_⟩ | refine ⟨_, _, rfl, ?_⟩ | refine ⟨_, rfl, ?_⟩ | refine ⟨rfl, ?_⟩ | refine ⟨Nat.le_of_ble_eq_true rfl, ?_⟩ | refine ⟨_, _, rfl, rfl, ?_⟩)
open PM in
def tabD (K : List Ty) (s : Str) : D := .lst ((tabF (pr K s) (lev K s)).map encP)
theorem atI_nat {α : Type} {l : List α} {i : Nat} {x : α} (h : l[i]? = some x) : atI l (i : Int) = some x := by
  have hi := (List.getElem?_eq_some_iff.mp h).1
  unfold atI ixN
  rw [if_pos (by omega), if_pos (by omega)]
  simpa using h
theorem ok_of : ∀ {kinds : List Ty}, (kinds.map (·.1)).Nodup → (∀ t ∈ kinds, ∀ e ∈ t.2, 1 ≤ e.2) → (∀ i t, kinds[i]? = some t → ∀ e ∈ t.2, e.1 ∈ (kinds.map (·.1)).drop (i + 1)) → PM.Ok kinds
  | [], _, _, _ => trivial
  | k :: r, h1, h2, h3 => by
    rw [List.map_cons, List.nodup_cons] at h1
    refine ⟨h1.1, fun e he => ⟨by have := h3 0 k rfl e he; simpa using this, h2 k (by simp) e he⟩, ok_of h1.2 (fun t ht => h2 t (by simp [ht])) fun i t e => ?_⟩
    have := h3 (i + 1) t (by simpa using e)
    simpa using this
theorem PP.ok {kinds : List Ty} {tops : List En} (h : PP kinds tops) : PM.Ok kinds := ok_of h.nd (fun t ht e he => ((h.tk t ht).2.2 e he).2.1) h.ent
theorem PP.okE {kinds : List Ty} {tops : List En} (h : PP kinds tops) : PM.OkE kinds tops := fun e he => ⟨(h.te e he).1, (h.te e he).2.2.1⟩
theorem tab_sub {o0 o1 o3 : Option O} {f : Nat → Pr} {n L : Nat} {cnt ev inn : Int} {P : Fl → Prop} (hc : 1 ≤ cnt ∧ cnt ≤ 1000000000000) (hi : n + 1 < L)
    (k : P (.nx [o0, o1, some (.lst ((PM.tabF (fun j => if j = n + 1 then ((f (n + 1)).1 + cnt * ev, (f (n + 1)).2 + cnt * inn) else f j) L).map encP)), o3, some (.sh (.int cnt)), some (.sh (.int (n : Nat))), some (.sh (.int ev)), some (.sh (.int inn))])) :
    RS (sSub 2 (xTup (bCons (x2 opAdd (x2 opIx (x2 opIx (xV 2) (x2 opAdd (xV 5) (xC (.int 1)))) (xC (.int 0))) (x2 opMul (xV 4) (xV 6))) (bCons (x2 opAdd (x2 opIx (x2 opIx (xV 2) (x2 opAdd (xV 5) (xC (.int 1)))) (xC (.int 1))) (x2 opMul (xV 4) (xV 7))) bNil))) (x2 opAdd (xV 5) (xC (.int 1))))
      [o0, o1, some (.lst ((PM.tabF f L).map encP)), o3, some (.sh (.int cnt)), some (.sh (.int (n : Nat))), some (.sh (.int ev)), some (.sh (.int inn))] P := by
  have hp : atI ((PM.tabF f L).map encP) ((n : Int) + 1) = some (encP (f (n + 1))) := by
    have := atI_nat (l := (PM.tabF f L).map encP) (i := n + 1) (x := encP (f (n + 1))) (by rw [List.getElem?_map, PM.tabF_get hi]; rfl)
    simpa using this
  repeat walk_at "vs"
  refine R1_of _ (opIx_lst hp) ?_
  repeat walk_at "vs"
  refine R1_of _ (opIx_lst hp) ?_
  repeat walk_at "vs"
  refine R1_of _ (putD_lst (by omega) (by rw [List.length_map, PM.tabF_len]; omega)) ?_
  repeat walk_at "vs"
  rw [show (D.tup [D.int ((f (n + 1)).1 + cnt * ev), D.int ((f (n + 1)).2 + cnt * inn)]) = encP ((f (n + 1)).1 + cnt * ev, (f (n + 1)).2 + cnt * inn) from rfl, ← List.map_set, show ((n : Int) + 1).toNat = n + 1 by omega, PM.tabF_set]
  exact k
open PM in
theorem table_ok {K : List Ty} {tb : List (Key × D)} {es : List En} (hK : PM.Ok K) (hl40 : K.length ≤ 40) (he : ∀ e ∈ es, e.1 ∈ K.map (·.1) ∧ eOk e ∧ dget tb (.inr e.1) = some (tabD K e.1)) :
    RF m_table_of [.sh (.lst (es.map encE)), .dK tb] fun r fin => r = .lst ((tabF (fT K (1, PM.inn es) es) (1 + mxl K es)).map encP) ∧ fin = [some (.sh (.lst (es.map encE))), some (.dK tb)] := by
  refine RF_def rfl (by walk_at "nrm") ?_
  repeat walk_at "vs"
  refine R1_of _ (opNe_ents fun e h => (he e h).2.1) ?_
  repeat walk_at "vs"
  refine RL_inv (fun done δ => ∃ (t : List Pr) (j3 j4 j5 j6 j7 : Option O), δ = [some (.sh (.lst (es.map encE))), some (.dK tb), some (.lst (t.map encP)), j3, j4, j5, j6, j7] ∧ t = tabF (fT K (1, PM.inn es) done) (1 + mxl K done))
    ⟨[(1, PM.inn es)], _, _, _, _, _, rfl, rfl⟩ ?_ ?_
  · rintro done x rest δ hl ⟨t, j3, j4, j5, j6, j7, rfl, ht⟩
    have hx : x ∈ es := by rw [hl]; simp
    have hd : OkE K done := fun e h => by
      have q := he e (by rw [hl]; simp [h])
      exact ⟨q.1, q.2.1.2.1⟩
    have hxl := lev_le hK (he x hx).1
    have hml : mxl K done ≤ 40 := by
      unfold mxl
      have key : ∀ {l : List Nat}, (∀ y ∈ l, y ≤ 40) → maxL l ≤ 40 := by
        intro l
        induction l with
        | nil => intro _; exact Nat.zero_le _
        | cons a l ih =>
          intro q
          simp only [maxL]
          have := q a (by simp)
          have := ih fun x hx => q x (by simp [hx])
          omega
      refine key fun y hy => ?_
      obtain ⟨e, he', rfl⟩ := List.mem_map.mp hy
      have := lev_le hK (hd e he').1
      omega
    refine ⟨_, by unfold encE; walk_at "gt", ?_⟩
    repeat walk_at "vs"
    refine R1_of _ (opIx_dk (he x hx).2.2) ?_
    repeat walk_at "vs"
    refine RL_enum (l := tabF (pr K x.1) (lev K x.1)) (enc := encP) (fun done2 δ => ∃ (t : List Pr) (j5 j6 j7 : Option O), δ = [some (.sh (.lst (es.map encE))), some (.dK tb), some (.lst (t.map encP)), some (.sh (.str x.1)), some (.sh (.int x.2)), j5, j6, j7] ∧ t = tabF (fun d => if d ≤ done2.length then fT K (1, PM.inn es) (done ++ [x]) d else fT K (1, PM.inn es) done d) (max (1 + mxl K done) (done2.length + 1)))
      ⟨t, _, _, _, rfl, ?_⟩ ?_ ?_
    · have e1 : tabF (fun d => if d ≤ ([] : List Pr).length then fT K (1, PM.inn es) (done ++ [x]) d else fT K (1, PM.inn es) done d) (max (1 + mxl K done) (([] : List Pr).length + 1)) = tabF (fT K (1, PM.inn es) done) (1 + mxl K done) := by
        rw [show max (1 + mxl K done) (([] : List Pr).length + 1) = 1 + mxl K done by simp]
        refine tabF_congr fun i _ => ?_
        cases i with
        | zero => simp [fT]
        | succ i => simp
      rw [e1, ht]
    · rintro d2 y r2 δ hl2 ⟨t, j5, j6, j7, rfl, rfl⟩
      have hd2 : d2.length < lev K x.1 := by have := congrArg List.length hl2; rw [tabF_len] at this; simp at this; omega
      have hy : y = pr K x.1 d2.length := by
        have q := tabF_get (f := pr K x.1) hd2
        rw [hl2] at q
        simpa using q
      subst hy
      refine ⟨_, by rw [show encP (pr K x.1 d2.length) = .tup [.int (pr K x.1 d2.length).1, .int (pr K x.1 d2.length).2] from rfl]; walk_at "gt", ?_⟩
      have hc := (he x hx).2.1.2
      unfold cntOk at hc
      have upd : ∀ L, tabF (fun j => if j = d2.length + 1 then ((if d2.length + 1 ≤ d2.length then fT K (1, PM.inn es) (done ++ [x]) (d2.length + 1) else fT K (1, PM.inn es) done (d2.length + 1)).1 + x.2 * (pr K x.1 d2.length).1, (if d2.length + 1 ≤ d2.length then fT K (1, PM.inn es) (done ++ [x]) (d2.length + 1) else fT K (1, PM.inn es) done (d2.length + 1)).2 + x.2 * (pr K x.1 d2.length).2)
          else if j ≤ d2.length then fT K (1, PM.inn es) (done ++ [x]) j else fT K (1, PM.inn es) done j) L = tabF (fun d => if d ≤ (d2 ++ [pr K x.1 d2.length]).length then fT K (1, PM.inn es) (done ++ [x]) d else fT K (1, PM.inn es) done d) L := fun L => by
        refine tabF_congr fun i _ => ?_
        rw [if_neg (show ¬ d2.length + 1 ≤ d2.length by omega)]
        by_cases e : i = d2.length + 1
        · rw [if_pos e, if_pos (by simp; omega), e]
          simp only [fT, pr, sumE_snoc]
        · rw [if_neg e]
          by_cases e2 : i ≤ d2.length
          · rw [if_pos e2, if_pos (by simp; omega)]
          · rw [if_neg e2, if_neg (by simp; omega)]
      repeat walk_at "vs"
      by_cases hlen : mxl K done ≤ d2.length
      · have hmx : max (1 + mxl K done) (d2.length + 1) = d2.length + 1 := by omega
        refine CB_yes (by rw [List.length_map, tabF_len, hmx]; simp [D.eqD]) ?_
        repeat walk_at "vs"
        refine ⟨_, mApp_ok (by rw [List.length_map, tabF_len]; omega), ?_⟩
        refine ⟨_, by walk_at "nrm", ?_⟩
        refine thenS_nx ?_
        have e : ((tabF (fun d => if d ≤ d2.length then fT K (1, PM.inn es) (done ++ [x]) d else fT K (1, PM.inn es) done d) (max (1 + mxl K done) (d2.length + 1))).map encP) ++ [D.tup [D.int 0, D.int 0]] = (tabF (fun d => if d ≤ d2.length then fT K (1, PM.inn es) (done ++ [x]) d else fT K (1, PM.inn es) done d) (d2.length + 1 + 1)).map encP := by
          rw [hmx, tabF_succ _ (d2.length + 1), List.map_append, if_neg (show ¬ d2.length + 1 ≤ d2.length by omega), fT_big hK hd hlen]
          rfl
        rw [e]
        refine tab_sub (n := d2.length) hc (by omega) ?_
        rw [upd]
        refine loopS_nx ⟨_, _, _, _, rfl, ?_⟩
        rw [show max (1 + mxl K done) ((d2 ++ [pr K x.1 d2.length]).length + 1) = d2.length + 1 + 1 by simp; omega]
      · have hmx : max (1 + mxl K done) (d2.length + 1) = 1 + mxl K done := by omega
        refine CB_no (by rw [List.length_map, tabF_len, hmx]; simp [D.eqD]; omega) ?_
        refine RS_nil (thenS_nx ?_)
        refine tab_sub (n := d2.length) hc (by omega) ?_
        rw [upd]
        refine loopS_nx ⟨_, _, _, _, rfl, ?_⟩
        rw [show max (1 + mxl K done) ((d2 ++ [pr K x.1 d2.length]).length + 1) = max (1 + mxl K done) (d2.length + 1) by simp; omega]
    · rintro δ ⟨t, j5, j6, j7, rfl, rfl⟩
      refine loopS_nx ⟨_, _, _, _, _, _, rfl, ?_⟩
      have e : tabF (fun d => if d ≤ (tabF (pr K x.1) (lev K x.1)).length then fT K (1, PM.inn es) (done ++ [x]) d else fT K (1, PM.inn es) done d) (max (1 + mxl K done) ((tabF (pr K x.1) (lev K x.1)).length + 1)) = tabF (fT K (1, PM.inn es) (done ++ [x])) (1 + mxl K (done ++ [x])) := by
        rw [tabF_len, mxl_snoc, show max (1 + mxl K done) (lev K x.1 + 1) = 1 + max (mxl K done) (lev K x.1) by omega]
        refine tabF_congr fun i _ => ?_
        by_cases e : i ≤ lev K x.1
        · rw [if_pos e]
        · rw [if_neg e]
          obtain ⟨j, rfl⟩ : ∃ j, i = j + 1 := ⟨i - 1, by omega⟩
          have z := pr_big hK (he x hx).1 (d := j) (by omega)
          simp only [pr, Prod.mk.injEq] at z
          simp only [fT, sumE_snoc, z.1, z.2, Int.mul_zero, Int.add_zero]
      exact e
  · rintro δ ⟨t, j3, j4, j5, j6, j7, rfl, rfl⟩
    repeat walk_at "vs"
    rfl
end Pg
namespace Pg
open PySem PySem.Spec L2 VS
local macro_rules | `(tactic| walk_at "gt") => `(tactic| (simp only [gT, gsCons, gN, gsNil, Option.bind_some, List.length_cons, List.length_nil, List.set_cons_zero, List.set_cons_succ, Nat.reduceAdd, if_true] <;> exact rfl))
local macro_rules | `(tactic| walk_at "nrm") => `(tactic| (simp only [List.set_cons_zero, List.set_cons_succ, List.map_cons, List.map_nil, List.length_cons, List.length_nil, List.replicate, List.cons_append, List.nil_append, Nat.reduceSub, selM, ins, O.fz, wipeD, savD, unwD, List.getElem?_cons_zero, List.getElem?_cons_succ, Option.join_some, Option.join_none] <;> exact rfl))
local macro_rules | `(tactic| walk_at "vs") => `(tactic| first
  | with_reducible refine RX_x2 ?_ | with_reducible refine RX_C ?_ | with_reducible refine RX_Vs rfl ?_ | with_reducible refine RX_Va rfl rfl ?_
  | with_reducible refine RV_sh _ ?_ | with_reducible refine RV_val _ ?_ | with_reducible refine RV_at _ rfl ?_
  | with_reducible refine RK_val _ ?_ | with_reducible refine RK_at _ rfl (by walk_at "nrm") ?_
  | with_reducible refine RS_seq ?_ | with_reducible refine thenS_nx ?_ | with_reducible refine thenS_rt ?_ | with_reducible refine loopS_nx ?_ | with_reducible refine loopS_rt ?_ | with_reducible refine loopS_ct ?_ | with_reducible refine loopS_bk ?_ | with_reducible refine thenS_bk ?_ | with_reducible refine thenS_ct ?_ | with_reducible refine endF_rt (by walk_at "nrm") ?_ | with_reducible refine endF_nx (by walk_at "nrm") ?_
  | with_reducible refine RS_set ?_ | with_reducible refine RS_ret ?_ | with_reducible refine RS_if ?_ | with_reducible refine RS_expr ?_ | with_reducible refine RS_sub ?_ | with_reducible refine RS_attr ?_ | with_reducible refine RS_nil ?_ | with_reducible refine RS_par ?_ | with_reducible refine RS_asg ?_
  | with_reducible refine RX_call ?_ | with_reducible refine RX_bi ?_ | with_reducible refine RX_x1 ?_ | with_reducible refine RX_tup ?_ | with_reducible refine RX_lst ?_
  | with_reducible refine RA_f ?_ | with_reducible refine RA_t ?_ | with_reducible refine RA_nil ?_ | with_reducible refine RB_cons ?_ | with_reducible refine RB_nil ?_
  | with_reducible refine RT_Y ?_ | with_reducible refine RT_tB ?_ | with_reducible refine RT_not ?_ | with_reducible refine RT_and ?_ | with_reducible refine RT_or ?_ | with_reducible refine RX_and ?_ | with_reducible refine RX_or ?_ | with_reducible refine RX_not ?_ | with_reducible refine RX_if ?_ | with_reducible refine RX_ch ?_
  | with_reducible refine CB_t ?_ | with_reducible refine CB_f ?_ | with_reducible refine CB_n ?_
  | with_reducible refine RX_mut rfl rfl ?_ | with_reducible refine RS_for ?_ | with_reducible refine RI_enmU ?_ | with_reducible refine RI_seq ?_ | with_reducible refine RI_rg1 ?_ | with_reducible refine RX_lc ?_ | with_reducible refine RX_dc ?_ | with_reducible refine RX_dK ?_ | with_reducible refine RX_sl ?_ | with_reducible refine RO_N ?_ | with_reducible refine RO_E ?_ | with_reducible refine RX_fld ?_ | with_reducible refine RX_meth ?_ | with_reducible refine RX_make ?_ | with_reducible refine RX_o2 ?_
  | with_reducible refine R1_of _ (opMod_int (by decide)) ?_ | with_reducible refine R1_of _ (opDiv_int (by decide)) ?_ | with_reducible refine R1_of _ (opMul_l (by first | decide | omega)) ?_ | with_reducible refine R1_of _ (opMul_r (by first | decide | omega)) ?_ | with_reducible refine R1_of _ (opPow_ok (by first | decide | omega)) ?_
  | refine R1_of _ rfl ?_
  | (fail_if_success (with_reducible refine RF_id ?_)); (fail_if_success (with_reducible refine RL_id ?_)); (fail_if_success (with_reducible refine inR_id ?_)); first | refine ⟨_, by walk_at "nrm", ?_⟩ | refine ⟨_, _, rfl, ?_⟩ | refine ⟨_, rfl, ?_⟩ | refine ⟨rfl, ?_⟩ | refine ⟨Nat.le_of_ble_eq_true rfl, ?_⟩ | refine ⟨_, _, rfl, rfl, ?_⟩)
def encK (t : Ty) : Key × D := (.inr t.1, .lst (t.2.map encE))
def planD (kinds : List Ty) (tops : List En) (tb : List (Key × D)) : D := .obj "Plan" [("kinds", .dK (kinds.map encK)), ("first_ones", .lst (tops.map encE)), ("tables", .dK tb)]
/-- the tables -/
def tbOf (kinds : List Ty) : List (Key × D) := kinds.reverse.map fun t => (.inr t.1, tabD kinds t.1)
def planV (kinds : List Ty) (tops : List En) : D := planD kinds tops (tbOf kinds)
theorem dget_tb {K done : List Ty} {s : Str} (h : s ∈ done.map (·.1)) : dget (done.map fun t : Ty => ((.inr t.1, tabD K t.1) : Key × D)) (.inr s) = some (tabD K s) := by
  induction done with
  | nil => simp at h
  | cons a l ih =>
    rw [List.map_cons, dget_cons]
    by_cases e : a.1 = s
    · rw [if_pos (by rw [e]), e]
    · rw [if_neg (fun z => e (Sum.inr.inj z))]
      refine ih ?_
      rcases List.mem_cons.mp h with h | h
      · exact absurd h.symm e
      · exact h
theorem tb_get {kinds : List Ty} {s : Str} (h : s ∈ kinds.map (·.1)) : dget (tbOf kinds) (.inr s) = some (tabD kinds s) := dget_tb (by simpa using h)
theorem ents_mem : ∀ {kinds : List Ty}, (kinds.map (·.1)).Nodup → ∀ {t : Ty}, t ∈ kinds → PM.ents kinds t.1 = t.2
  | k :: K, hn, t, h => by
    rw [List.map_cons, List.nodup_cons] at hn
    simp only [PM.ents]
    rcases List.mem_cons.mp h with rfl | h
    · rw [if_pos rfl]
    · rw [if_neg fun e => hn.1 (by rw [e]; exact List.mem_map_of_mem h)]
      exact ents_mem hn.2 h
theorem tables_ok {kinds : List Ty} {tops : List En} (h : PP kinds tops) : RF m_all_tables [.sh (.lst (kinds.map encT))] fun r fin => r = .dK (tbOf kinds) ∧ fin = [some (.sh (.lst (kinds.map encT)))] := by
  have hK := h.ok
  refine RF_def rfl (by walk_at "nrm") ?_
  repeat walk_at "vs"
  rw [← List.map_reverse]
  refine RL_inv (fun done δ => ∃ (j2 j3 : Option O), δ = [some (.sh (.lst (kinds.map encT))), some (.dK (done.map fun t : Ty => (.inr t.1, tabD kinds t.1))), j2, j3]) ⟨none, none, rfl⟩ ?_ ?_
  · rintro done x rest δ hl ⟨j2, j3, rfl⟩
    have hx : x ∈ kinds := by have : x ∈ kinds.reverse := by rw [hl]; simp
                              simpa using this
    have hdl : done.length < 40 := by have a1 := congrArg List.length hl; have a2 := h.l2; simp at a1; omega
    refine ⟨_, by rw [show encT x = .tup [.str x.1, .lst (x.2.map encE)] from rfl]; walk_at "gt", ?_⟩
    have hks : kinds = rest.reverse ++ x :: done.reverse := by
      have := congrArg List.reverse hl
      simpa using this
    have hxi : kinds[rest.length]? = some x := by
      rw [hks, List.getElem?_append_right (by simp)]
      simp
    have hent : ∀ e ∈ x.2, e.1 ∈ done.map (·.1) := fun e he => by
      have q := h.ent _ x hxi e he
      have e2 : kinds = (rest.reverse ++ [x]) ++ done.reverse := by rw [hks]; simp
      rw [e2, List.map_append, List.drop_left' (by simp)] at q
      simpa using q
    have hsub : ∀ s, s ∈ done.map (·.1) → s ∈ kinds.map (·.1) := fun s hs => by rw [hks]; simp at hs ⊢; exact .inr (.inr hs)
    have hnew : (Sum.inr x.1 : Key) ∉ (done.map fun t : Ty => ((.inr t.1, tabD kinds t.1) : Key × D)).map (·.1) := by
      have q := h.nd
      rw [hks, List.map_append, List.map_cons] at q
      have q2 := (List.nodup_cons.mp (List.nodup_append.mp q).2.1).1
      intro hm
      simp only [List.map_map, List.mem_map, Function.comp] at hm
      obtain ⟨t, ht, e⟩ := hm
      exact q2 (by rw [← Sum.inr.inj e]; simp; exact ⟨t.2, ht⟩)
    repeat walk_at "vs"
    refine RF.mono (table_ok hK h.l2 fun e he => ⟨hsub _ (hent e he), (h.tk x hx).2.2 e he, dget_tb (hent e he)⟩) ?_
    rintro r fin ⟨rfl, rfl⟩
    repeat walk_at "vs"
    have hz : (done.map fun t : Ty => ((.inr t.1, tabD kinds t.1) : Key × D)).length < sizeLine := by
      rw [List.length_map]
      exact Nat.lt_of_lt_of_le (show done.length < 41 by omega) (sl_le (by decide))
    refine ⟨_, by simp only [putD, keyOf, hz, if_true, Option.map_some]; exact rfl, ?_⟩
    repeat walk_at "vs"
    rw [dput_new hnew]
    have hxm : x.1 ∈ kinds.map (·.1) := List.mem_map_of_mem hx
    have e1 := ents_mem h.nd hx
    have e2 := PM.fT_ents hK hxm
    have e3 := PM.lev_eq hK hxm
    rw [e1] at e2 e3
    have e4 : (O.lst (List.map encP (PM.tabF (PM.fT kinds (1, PM.inn x.2) x.2) (1 + PM.mxl kinds x.2)))).fz = tabD kinds x.1 := by
      unfold tabD
      rw [← e2, e3]
      rfl
    refine ⟨some (.sh (.str x.1)), some (.sh (.lst (x.2.map encE))), ?_⟩
    show [_, some (O.dK (List.map (fun t : Ty => ((.inr t.1, tabD kinds t.1) : Key × D)) done ++ [((.inr x.1, (O.lst (List.map encP (PM.tabF (PM.fT kinds (1, PM.inn x.2) x.2) (1 + PM.mxl kinds x.2)))).fz) : Key × D)])), _, _] = _
    rw [e4, List.map_append]
    rfl
  · rintro δ ⟨j2, j3, rfl⟩
    repeat walk_at "vs"
    rfl
theorem init_ok {kinds : List Ty} {tops : List En} (h : PP kinds tops) {o : O} (ho : o = .lst (tops.map encE) ∨ o = .sh (.lst (tops.map encE))) :
    RF m_Plan___init__ [.obj "Plan" [], .sh (.lst (kinds.map encT)), o] fun r fin => r = .sh .non ∧ ∃ self rest, fin = some self :: rest ∧ rest.length = 2 ∧ self.fz = planV kinds tops := by
  have hkk : (kinds.map fun t : Ty => (Sum.inr t.1 : Key)).Nodup := by
    have := h.nd
    rw [List.Nodup, List.pairwise_map] at this ⊢
    exact this.imp fun {a b} q e => q (Sum.inr.inj e)
  rcases ho with rfl | rfl <;>
  · refine RF_def rfl (by walk_at "nrm") ?_
    repeat walk_at "vs"
    refine RF.mono (check_types_ok h) ?_
    rintro r fin ⟨rfl, rfl⟩
    repeat walk_at "vs"
    refine ⟨by rw [List.length_map]; exact sl_le (by have := h.l2; omega), ?_⟩
    refine RC_map (g := fun t : Ty => D.str t.1) (fun t ht => ?_) ?_
    · refine ⟨_, by rw [show encT t = .tup [.str t.1, .lst (t.2.map encE)] from rfl]; walk_at "gt", ?_⟩
      repeat walk_at "vs"
      walk_at "nrm"
    rw [show (kinds.map fun t : Ty => D.str t.1) = (kinds.map (·.1)).map D.str by rw [List.map_map]; rfl]
    repeat walk_at "vs"
    refine RF.mono (check_roots_ok h (by first | exact .inl rfl | exact .inr rfl)) ?_
    rintro r fin ⟨rfl, j, rfl⟩
    repeat walk_at "vs"
    refine ⟨by rw [List.length_map]; exact sl_le (by have := h.l2; omega), _, _, dc_new (key := fun t : Ty => .inr t.1) (g := fun t : Ty => .lst (t.2.map encE)) hkk (fun t ht => ?_), ?_⟩
    · refine ⟨_, by rw [show encT t = .tup [.str t.1, .lst (t.2.map encE)] from rfl]; walk_at "gt", ?_⟩
      repeat walk_at "vs"
      first | exact ⟨rfl, rfl, by walk_at "nrm"⟩ | exact ⟨rfl, by walk_at "nrm"⟩ | walk_at "nrm"
    repeat walk_at "vs"
    refine RF.mono (tables_ok h) ?_
    rintro r fin ⟨rfl, rfl⟩
    repeat walk_at "vs"
    first | exact ⟨_, _, rfl, rfl, rfl⟩ | rfl
theorem root_ok {kinds : List Ty} {tops : List En} {tb : List (Key × D)} : RF m_Plan_root_entries [.sh (planD kinds tops tb)] fun r fin => r = .lst (tops.map encE) ∧ fin = [some (.sh (planD kinds tops tb))] := by
  refine RF_def rfl (by walk_at "nrm") ?_
  repeat walk_at "vs"
  rfl
theorem dget_enc {kinds : List Ty} (hnd : (kinds.map (·.1)).Nodup) {t : Ty} (ht : t ∈ kinds) : dget (kinds.map encK) (.inr t.1) = some (.lst (t.2.map encE)) := by
  induction kinds with
  | nil => cases ht
  | cons a l ih =>
    rw [List.map_cons, show encK a = (.inr a.1, .lst (a.2.map encE)) from rfl, dget_cons]
    rw [List.map_cons, List.nodup_cons] at hnd
    rcases List.mem_cons.mp ht with e | ht
    · subst e
      simp
    · have : ¬ a.1 = t.1 := fun e => hnd.1 (by rw [e]; exact List.mem_map_of_mem ht)
      rw [if_neg (by simpa using this)]
      exact ih hnd.2 ht
theorem opDG_enc {kinds : List Ty} {s : Str} : opDG (.dK (kinds.map encK)) (.str s) = some (dget (kinds.map encK) (.inr s)) := rfl
theorem contains_ok {kinds : List Ty} {tops : List En} {tb : List (Key × D)} (hn : (kinds.map (·.1)).Nodup) {s : Str} (hs : s ∈ kinds.map (·.1)) :
    RF m_Plan___contains__ [.sh (planD kinds tops tb), .sh (.str s)] fun r fin => r = .sh (.bl true) ∧ fin.length = 2 := by
  obtain ⟨t, ht, rfl⟩ := List.mem_map.mp hs
  refine RF_def rfl (by walk_at "nrm") ?_
  refine RS_ret (RX_and (RT_tB (RX_x1 (RX_Vs rfl (RV_sh _ (R1_of (o := .sh (.bl true)) _ rfl ⟨_, rfl, CB_t ?_⟩))))))
  refine RX_x2 (RX_Vs rfl (RX_fld (RX_Vs rfl ⟨_, rfl, _, rfl, RV_sh _ (RV_sh _ (R1_of (o := .sh (.bl true)) _ ?_ ?_))⟩)))
  · show ((opDG (.dK (kinds.map encK)) (.str t.1)).map Option.isSome).map _ = _
    rw [opDG_enc, dget_enc hn ht]
    rfl
  repeat walk_at "vs"
  rfl
theorem check_name_ok {kinds : List Ty} {tops : List En} {tb : List (Key × D)} (hn : (kinds.map (·.1)).Nodup) {s : Str} (hs : s ∈ kinds.map (·.1)) :
    RF m_Plan_check_name [.sh (planD kinds tops tb), .sh (.str s)] fun r fin => r = .sh .non ∧ fin = [some (.sh (planD kinds tops tb)), some (.sh (.str s))] := by
  refine RF_def rfl (by walk_at "nrm") ?_
  refine RS_if (RT_tB (RX_o2 (RX_Vs rfl (RK_val _ (RX_Vs rfl (RK_val _ ⟨rfl, rfl, ?_⟩))))))
  refine RF.mono (contains_ok hn hs) ?_
  rintro r fin ⟨rfl, hl⟩
  refine ⟨hl, R1_of (o := .sh (.bl false)) _ rfl ⟨_, rfl, CB_f ?_⟩⟩
  repeat walk_at "vs"
  rfl
theorem entries_ok {kinds : List Ty} {tops : List En} {tb : List (Key × D)} (hn : (kinds.map (·.1)).Nodup) {s : Str} (hs : s ∈ kinds.map (·.1)) :
    RF m_Plan_entries_of [.sh (planD kinds tops tb), .sh (.str s)] fun r fin => r = .lst ((PM.ents kinds s).map encE) ∧ fin = [some (.sh (planD kinds tops tb)), some (.sh (.str s))] := by
  obtain ⟨t, ht, rfl⟩ := List.mem_map.mp hs
  rw [ents_mem hn ht]
  refine RF_def rfl (by walk_at "nrm") ?_
  refine RS_seq (RS_expr (RX_meth (RX_Vs rfl ⟨_, rfl, rfl, RA_t (RX_Vs rfl (RA_nil ⟨_, _, rfl, ?_⟩))⟩)))
  refine RF.mono (check_name_ok hn hs) ?_
  rintro r fin ⟨rfl, rfl⟩
  refine ⟨rfl, thenS_nx (RS_ret (RX_bi (RA_t (RX_x2 (RX_fld (RX_Vs rfl ⟨_, rfl, _, rfl, RX_Vs rfl (RV_sh _ (RV_sh _ (R1_of _ (opIx_dk (dget_enc hn ht)) ?_)))⟩))))))⟩
  repeat walk_at "vs"
  rfl
end Pg
namespace Pg
open PySem PySem.Spec L2 VS
local macro_rules | `(tactic| walk_at "gt") => `(tactic| (simp only [gT, gsCons, gN, gsNil, Option.bind_some, List.length_cons, List.length_nil, List.set_cons_zero, List.set_cons_succ, Nat.reduceAdd, if_true] <;> exact rfl))
local macro_rules | `(tactic| walk_at "nrm") => `(tactic| (simp only [List.set_cons_zero, List.set_cons_succ, List.map_cons, List.map_nil, List.length_cons, List.length_nil, List.replicate, List.cons_append, List.nil_append, Nat.reduceSub, selM, ins, O.fz, wipeD, savD, unwD, List.getElem?_cons_zero, List.getElem?_cons_succ, Option.join_some, Option.join_none] <;> exact rfl))
local macro_rules | `(tactic| walk_at "vs") => `(tactic| first
  | with_reducible refine RX_x2 ?_ | with_reducible refine RX_C ?_ | with_reducible refine RX_Vs rfl ?_ | with_reducible refine RX_Va rfl rfl ?_
  | with_reducible refine RV_sh _ ?_ | with_reducible refine RV_val _ ?_ | with_reducible refine RV_at _ rfl ?_
  | with_reducible refine RK_val _ ?_ | with_reducible refine RK_at _ rfl (by walk_at "nrm") ?_
  | with_reducible refine RS_seq ?_ | with_reducible refine thenS_nx ?_ | with_reducible refine thenS_rt ?_ | with_reducible refine loopS_nx ?_ | with_reducible refine loopS_rt ?_ | with_reducible refine loopS_ct ?_ | with_reducible refine loopS_bk ?_ | with_reducible refine thenS_bk ?_ | with_reducible refine thenS_ct ?_ | with_reducible refine endF_rt (by walk_at "nrm") ?_ | with_reducible refine endF_nx (by walk_at "nrm") ?_
  | with_reducible refine RS_set ?_ | with_reducible refine RS_ret ?_ | with_reducible refine RS_if ?_ | with_reducible refine RS_expr ?_ | with_reducible refine RS_sub ?_ | with_reducible refine RS_attr ?_ | with_reducible refine RS_nil ?_ | with_reducible refine RS_par ?_ | with_reducible refine RS_asg ?_
  | with_reducible refine RX_call ?_ | with_reducible refine RX_bi ?_ | with_reducible refine RX_x1 ?_ | with_reducible refine RX_tup ?_ | with_reducible refine RX_lst ?_
  | with_reducible refine RA_f ?_ | with_reducible refine RA_t ?_ | with_reducible refine RA_nil ?_ | with_reducible refine RB_cons ?_ | with_reducible refine RB_nil ?_
  | with_reducible refine RT_Y ?_ | with_reducible refine RT_tB ?_ | with_reducible refine RT_not ?_ | with_reducible refine RT_and ?_ | with_reducible refine RT_or ?_ | with_reducible refine RX_and ?_ | with_reducible refine RX_or ?_ | with_reducible refine RX_not ?_ | with_reducible refine RX_if ?_ | with_reducible refine RX_ch ?_
  | with_reducible refine CB_t ?_ | with_reducible refine CB_f ?_ | with_reducible refine CB_n ?_
  | with_reducible refine RX_mut rfl rfl ?_ | with_reducible refine RS_for ?_ | with_reducible refine RI_enmU ?_ | with_reducible refine RI_seq ?_ | with_reducible refine RI_rg1 ?_ | with_reducible refine RX_lc ?_ | with_reducible refine RX_dc ?_ | with_reducible refine RX_dK ?_ | with_reducible refine RX_sl ?_ | with_reducible refine RO_N ?_ | with_reducible refine RO_E ?_ | with_reducible refine RX_fld ?_ | with_reducible refine RX_meth ?_ | with_reducible refine RX_make ?_ | with_reducible refine RX_o2 ?_
  | with_reducible refine R1_of _ (opMod_int (by decide)) ?_ | with_reducible refine R1_of _ (opDiv_int (by decide)) ?_ | with_reducible refine R1_of _ (opMul_l (by first | decide | omega)) ?_ | with_reducible refine R1_of _ (opMul_r (by first | decide | omega)) ?_ | with_reducible refine R1_of _ (opPow_ok (by first | decide | omega)) ?_
  | refine R1_of _ rfl ?_
  | (fail_if_success (with_reducible refine RF_id ?_)); (fail_if_success (with_reducible refine RL_id ?_)); (fail_if_success (with_reducible refine inR_id ?_)); first | refine ⟨_, by walk_at "nrm", ?_⟩ | refine ⟨_, _, rfl, ?_⟩ | refine ⟨_, rfl, ?_⟩ | refine ⟨rfl, ?_⟩ | refine ⟨Nat.le_of_ble_eq_true rfl, ?_⟩ | refine ⟨_, _, rfl, rfl, ?_⟩)
theorem intsOf_map {α : Type} (f : α → Int) : ∀ l : List α, intsOf (l.map fun x => D.int (f x)) = some (l.map f)
  | [] => rfl
  | a :: l => by simp only [List.map_cons, intsOf, intsOf_map f l, Option.map_some]
theorem sum_map_E (f : Str → Int) : ∀ es : List En, (es.map fun e => e.2 * f e.1).sum = PM.sumE f es
  | [] => rfl
  | e :: r => by simp only [List.map_cons, List.sum_cons, PM.sumE, sum_map_E f r]
theorem mSum_E (f : Str → Int) (es : List En) : mSum [.lst (es.map fun e => D.int (e.2 * f e.1))] = some (.sh (.int (PM.sumE f es))) := by
  show (intsOf (es.map fun e => D.int (e.2 * f e.1))).map _ = _
  rw [intsOf_map (fun e : En => e.2 * f e.1) es]
  simp only [Option.map_some, sum_map_E]
theorem sum_tab (f : Nat → Int) : ∀ n : Nat, ((List.range n).map f).sum = PM.sumN f n
  | 0 => rfl
  | n + 1 => by
    rw [List.range_succ, List.map_append, List.sum_append, sum_tab f n]
    simp [PM.sumN]
theorem opMul_cnt {i j : Int} (h : cntOk i) : opMul (.int i) (.int j) = some (.sh (.int (i * j))) := opMul_l (by have := h.1; have := h.2; omega)
theorem height_ok {kinds : List Ty} {tops : List En} (hK : PM.Ok kinds) (hn : (kinds.map (·.1)).Nodup) {s : Str} (hs : s ∈ kinds.map (·.1)) :
    RF m_Plan_height_of [.sh (planV kinds tops), .sh (.str s)] fun r fin => r = .sh (.int ((PM.lev kinds s : Int) - 1)) ∧ fin = [some (.sh (planV kinds tops)), some (.sh (.str s))] := by
  refine RF_def rfl (by walk_at "nrm") ?_
  refine RS_seq (RS_expr (RX_meth (RX_Vs rfl ⟨_, rfl, rfl, RA_t (RX_Vs rfl (RA_nil ⟨_, _, rfl, ?_⟩))⟩)))
  refine RF.mono (check_name_ok hn hs) ?_
  rintro r fin ⟨rfl, rfl⟩
  refine ⟨rfl, thenS_nx (RS_ret (RX_x2 (RX_bi (RA_t (RX_x2 (RX_fld (RX_Vs rfl ⟨_, rfl, _, rfl, RX_Vs rfl (RV_sh _ (RV_sh _ (R1_of _ (opIx_dk (tb_get hs)) ?_)))⟩)))))))⟩
  unfold tabD
  repeat walk_at "vs"
  rw [List.length_map, PM.tabF_len]
  exact ⟨rfl, rfl⟩
/-- a number of levels -/
def levs (kinds : List Ty) (rows : List En) : Nat := PM.mxl kinds rows
theorem foldl_maxI : ∀ (ns : List Nat) (a : Nat), (ns.map (Nat.cast : Nat → Int)).foldl (fun a b => if a < b then b else a) (a : Int) = ((max a (PM.maxL ns) : Nat) : Int)
  | [], a => by simp [PM.maxL]
  | n :: ns, a => by
    simp only [List.map_cons, List.foldl_cons, PM.maxL]
    have : (if (a : Int) < (n : Int) then (n : Int) else (a : Int)) = ((max a n : Nat) : Int) := by split <;> omega
    rw [this, foldl_maxI ns]
    congr 1
    omega
theorem mMax_levs {kinds : List Ty} {rows : List En} : mMax [.lst ([D.int 0] ++ rows.map fun e => D.int (PM.lev kinds e.1 : Nat))] = some (.sh (.int (levs kinds rows : Nat))) := by
  show (intsOf (D.int 0 :: rows.map fun e => D.int (PM.lev kinds e.1 : Nat))).bind _ = _
  rw [intsOf, intsOf_map (fun e : En => (PM.lev kinds e.1 : Int)) rows]
  simp only [Option.map_some, Option.bind_some, maxI]
  have := foldl_maxI (rows.map fun e => PM.lev kinds e.1) 0
  rw [List.map_map] at this
  have e : ((fun e : En => ((PM.lev kinds e.1 : Nat) : Int))) = (Nat.cast : Nat → Int) ∘ fun e : En => PM.lev kinds e.1 := rfl
  rw [e]
  rw [show (0 : Int) = ((0 : Nat) : Int) from rfl, this]
  simp only [levs, PM.mxl, Nat.zero_max]
theorem level_count_ok {kinds : List Ty} {tops : List En} (ht : ∀ e ∈ tops, e.1 ∈ kinds.map (·.1)) (hl : tops.length ≤ 1000) :
    RF m_Plan_level_count [.sh (planV kinds tops)] fun r fin => r = .sh (.int (levs kinds tops : Nat)) ∧ fin = [some (.sh (planV kinds tops))] := by
  refine RF_def rfl (by walk_at "nrm") ?_
  refine RS_ret (RX_bi (RA_t ?_))
  refine RX_x2 (RX_lst (RB_cons (RX_C (RK_val _ (RB_nil ⟨Nat.le_of_ble_eq_true rfl, ?_⟩)))))
  refine RX_lc (RI_seq (RX_fld (RX_Vs rfl ⟨_, rfl, _, rfl, RK_val _ ⟨_, rfl, ?_⟩⟩)))
  refine ⟨by rw [List.length_map]; exact sl_le (by omega), ?_⟩
  refine RC_map (enc := encE) (g := fun e : En => D.int (PM.lev kinds e.1 : Nat)) (fun e he => ?_) ?_
  · refine ⟨_, by rw [show encE e = .tup [.str e.1, .int e.2] from rfl]; walk_at "gt", ?_⟩
    refine RT_Y ⟨rfl, ?_⟩
    refine RX_bi (RA_t (RX_x2 (RX_fld (RX_Vs rfl ⟨_, rfl, _, rfl, RX_Vs rfl (RV_sh _ (RV_sh _ (R1_of _ (opIx_dk (tb_get (ht e he))) ?_)))⟩))))
    unfold tabD
    repeat walk_at "vs"
    exact ⟨by rw [List.length_map, PM.tabF_len]; rfl, by walk_at "nrm"⟩
  refine RV_val _ (RV_val _ (R1_of (o := .lst ([D.int 0] ++ tops.map fun e => D.int (PM.lev kinds e.1 : Nat))) _ ?_ ?_))
  · simp only [O.fz, opAdd, List.length_append, List.length_map, List.map_cons, List.map_nil]
    rw [if_pos (sl_le (by simp; omega))]
  refine RA_nil ⟨_, rfl, R1_of _ mMax_levs ?_⟩
  repeat walk_at "vs"
  rfl
end Pg
namespace Pg
open PySem PySem.Spec L2 VS
local macro_rules | `(tactic| walk_at "gt") => `(tactic| (simp only [gT, gsCons, gN, gsNil, Option.bind_some, List.length_cons, List.length_nil, List.set_cons_zero, List.set_cons_succ, Nat.reduceAdd, if_true] <;> exact rfl))
local macro_rules | `(tactic| walk_at "nrm") => `(tactic| (simp only [List.set_cons_zero, List.set_cons_succ, List.map_cons, List.map_nil, List.length_cons, List.length_nil, List.replicate, List.cons_append, List.nil_append, Nat.reduceSub, selM, ins, O.fz, wipeD, savD, unwD, List.getElem?_cons_zero, List.getElem?_cons_succ, Option.join_some, Option.join_none] <;> exact rfl))
local macro_rules | `(tactic| walk_at "vs") => `(tactic| first
  | with_reducible refine RX_x2 ?_ | with_reducible refine RX_C ?_ | with_reducible refine RX_Vs rfl ?_ | with_reducible refine RX_Va rfl rfl ?_
  | with_reducible refine RV_sh _ ?_ | with_reducible refine RV_val _ ?_ | with_reducible refine RV_at _ rfl ?_
  | with_reducible refine RK_val _ ?_ | with_reducible refine RK_at _ rfl (by walk_at "nrm") ?_
  | with_reducible refine RS_seq ?_ | with_reducible refine thenS_nx ?_ | with_reducible refine thenS_rt ?_ | with_reducible refine loopS_nx ?_ | with_reducible refine loopS_rt ?_ | with_reducible refine loopS_ct ?_ | with_reducible refine loopS_bk ?_ | with_reducible refine thenS_bk ?_ | with_reducible refine thenS_ct ?_ | with_reducible refine endF_rt (by walk_at "nrm") ?_ | with_reducible refine endF_nx (by walk_at "nrm") ?_
  | with_reducible refine RS_set ?_ | with_reducible refine RS_ret ?_ | with_reducible refine RS_if ?_ | with_reducible refine RS_expr ?_ | with_reducible refine RS_sub ?_ | with_reducible refine RS_attr ?_ | with_reducible refine RS_nil ?_ | with_reducible refine RS_par ?_ | with_reducible refine RS_asg ?_
  | with_reducible refine RX_call ?_ | with_reducible refine RX_bi ?_ | with_reducible refine RX_x1 ?_ | with_reducible refine RX_tup ?_ | with_reducible refine RX_lst ?_
  | with_reducible refine RA_f ?_ | with_reducible refine RA_t ?_ | with_reducible refine RA_nil ?_ | with_reducible refine RB_cons ?_ | with_reducible refine RB_nil ?_
  | with_reducible refine RT_Y ?_ | with_reducible refine RT_tB ?_ | with_reducible refine RT_not ?_ | with_reducible refine RT_and ?_ | with_reducible refine RT_or ?_ | with_reducible refine RX_and ?_ | with_reducible refine RX_or ?_ | with_reducible refine RX_not ?_ | with_reducible refine RX_if ?_ | with_reducible refine RX_ch ?_
  | with_reducible refine CB_t ?_ | with_reducible refine CB_f ?_ | with_reducible refine CB_n ?_
  | with_reducible refine RX_mut rfl rfl ?_ | with_reducible refine RS_for ?_ | with_reducible refine RI_enmU ?_ | with_reducible refine RI_seq ?_ | with_reducible refine RI_rg1 ?_ | with_reducible refine RX_lc ?_ | with_reducible refine RX_dc ?_ | with_reducible refine RX_dK ?_ | with_reducible refine RX_sl ?_ | with_reducible refine RO_N ?_ | with_reducible refine RO_E ?_ | with_reducible refine RX_fld ?_ | with_reducible refine RX_meth ?_ | with_reducible refine RX_make ?_ | with_reducible refine RX_o2 ?_
  | with_reducible refine R1_of _ (opMod_int (by decide)) ?_ | with_reducible refine R1_of _ (opDiv_int (by decide)) ?_ | with_reducible refine R1_of _ (opMul_l (by first | decide | omega)) ?_ | with_reducible refine R1_of _ (opMul_r (by first | decide | omega)) ?_ | with_reducible refine R1_of _ (opPow_ok (by first | decide | omega)) ?_
  | refine R1_of _ rfl ?_
  | (fail_if_success (with_reducible refine RF_id ?_)); (fail_if_success (with_reducible refine RL_id ?_)); (fail_if_success (with_reducible refine inR_id ?_)); first | refine ⟨_, by walk_at "nrm", ?_⟩ | refine ⟨_, _, rfl, ?_⟩ | refine ⟨_, rfl, ?_⟩ | refine ⟨rfl, ?_⟩ | refine ⟨Nat.le_of_ble_eq_true rfl, ?_⟩ | refine ⟨_, _, rfl, rfl, ?_⟩)
theorem pair_at_ok {kinds : List Ty} {tops : List En} (hK : PM.Ok kinds) {s : Str} (hs : s ∈ kinds.map (·.1)) (d : Nat) :
    RF m_Plan_pair_at [.sh (planV kinds tops), .sh (.str s), .sh (.int d)] fun r fin => r = .sh (encP (PM.pr kinds s d)) ∧ fin = [some (.sh (planV kinds tops)), some (.sh (.str s)), some (.sh (.int d))] := by
  refine RF_def rfl (by walk_at "nrm") ?_
  refine RS_seq (RS_set (RX_x2 (RX_fld (RX_Vs rfl ⟨_, rfl, _, rfl, RX_Vs rfl (RV_sh _ (RV_sh _ (R1_of _ (opIx_dk (tb_get hs)) ?_)))⟩))))
  unfold tabD
  repeat walk_at "vs"
  by_cases h : d < PM.lev kinds s
  · refine CB_yes (by rw [List.length_map, PM.tabF_len]; simp; omega) ?_
    repeat walk_at "vs"
    refine R1_of _ (opIx_lst (atI_nat (x := encP (PM.pr kinds s d)) (by rw [List.getElem?_map, PM.tabF_get h]; rfl))) ?_
    repeat walk_at "vs"
    rfl
  · refine CB_no (by rw [List.length_map, PM.tabF_len]; simp; omega) ?_
    repeat walk_at "vs"
    exact ⟨by rw [PM.pr_big hK hs (by omega)]; rfl, rfl⟩
theorem least_ok {p : Str} {v lo : Int} (h : lo ≤ v) : RF m_check_least [.sh (.str p), .sh (.int v), .sh (.int lo)] fun r fin => r = .sh .non ∧ fin = [some (.sh (.str p)), some (.sh (.int v)), some (.sh (.int lo))] := by
  refine RF_def rfl (by walk_at "nrm") ?_
  refine RS_if (RT_or (RT_not (RT_tB (RX_call (RA_t (RX_Vs rfl (RA_nil ⟨_, _, rfl, ?_⟩)))))))
  refine RF.mono int_ok ?_
  rintro r fin ⟨rfl, rfl⟩
  repeat walk_at "vs"
  rw [decide_eq_false (show ¬ v < lo by omega)]
  repeat walk_at "vs"
  rfl
theorem encP0 (p : Pr) : opIx (encP p) (.int 0) = some (.sh (.int p.1)) := rfl
theorem descendants_ok {kinds : List Ty} {tops : List En} (hK : PM.Ok kinds) (hn : (kinds.map (·.1)).Nodup) {s : Str} (hs : s ∈ kinds.map (·.1)) (d : Nat) :
    RF m_Plan_descendants [.sh (planV kinds tops), .sh (.str s), .sh (.int d)] fun r fin => r = .sh (.int (PM.desc kinds s d)) ∧ fin = [some (.sh (planV kinds tops)), some (.sh (.str s)), some (.sh (.int d))] := by
  refine RF_def rfl (by walk_at "nrm") ?_
  refine RS_seq (RS_expr (RX_meth (RX_Vs rfl ⟨_, rfl, rfl, RA_t (RX_Vs rfl (RA_nil ⟨_, _, rfl, ?_⟩))⟩)))
  refine RF.mono (check_name_ok hn hs) ?_
  rintro r fin ⟨rfl, rfl⟩
  refine ⟨rfl, thenS_nx ?_⟩
  refine RS_seq (RS_expr (RX_call (RA_f (RX_C (RK_val _ (RA_t (RX_Vs rfl (RA_f (RX_C (RK_val _ (RA_nil ⟨_, _, rfl, ?_⟩))))))))))) 
  refine RF.mono (least_ok (by omega)) ?_
  rintro r fin ⟨rfl, rfl⟩
  refine ⟨rfl, thenS_nx ?_⟩
  refine RS_ret (RX_x2 (RX_meth (RX_Vs rfl ⟨_, rfl, rfl, RA_t (RX_Vs rfl (RA_t (RX_Vs rfl (RA_nil ⟨_, _, rfl, ?_⟩))))⟩)))
  refine RF.mono (pair_at_ok hK hs d) ?_
  rintro r fin ⟨rfl, rfl⟩
  refine ⟨rfl, RX_C (RV_sh _ (RV_sh _ (R1_of _ (encP0 _) ?_)))⟩
  repeat walk_at "vs"
  rfl
theorem level_total_ok {kinds : List Ty} {tops : List En} (h : PP kinds tops) (d : Nat) :
    RF m_Plan_level_total [.sh (planV kinds tops), .sh (.int d)] fun r fin => r = .sh (.int (PM.sumE (fun c => PM.desc kinds c d) tops)) ∧ fin = [some (.sh (planV kinds tops)), some (.sh (.int d))] := by
  refine RF_def rfl (by walk_at "nrm") ?_
  refine RS_seq (RS_expr (RX_call (RA_f (RX_C (RK_val _ (RA_t (RX_Vs rfl (RA_f (RX_C (RK_val _ (RA_nil ⟨_, _, rfl, ?_⟩))))))))))) 
  refine RF.mono (least_ok (by omega)) ?_
  rintro r fin ⟨rfl, rfl⟩
  refine ⟨rfl, thenS_nx ?_⟩
  refine RS_ret (RX_bi (RA_t ?_))
  refine RX_lc (RI_seq (RX_fld (RX_Vs rfl ⟨_, rfl, _, rfl, RK_val _ ⟨_, rfl, ?_⟩⟩)))
  refine ⟨by rw [List.length_map]; exact sl_le (by have := h.tl; omega), ?_⟩
  refine RC_map (enc := encE) (g := fun e : En => D.int (e.2 * PM.desc kinds e.1 d)) (fun e he => ?_) ?_
  · refine ⟨_, by rw [show encE e = .tup [.str e.1, .int e.2] from rfl]; walk_at "gt", ?_⟩
    refine RT_Y ⟨rfl, ?_⟩
    refine RX_x2 (RX_Vs rfl (RX_x2 (RX_meth (RX_Vs rfl ⟨_, rfl, rfl, RA_t (RX_Vs rfl (RA_t (RX_Vs rfl (RA_nil ⟨_, _, rfl, ?_⟩))))⟩))))
    refine RF.mono (pair_at_ok h.ok (h.te e he).1 d) ?_
    rintro r fin ⟨rfl, rfl⟩
    refine ⟨rfl, RX_C (RV_sh _ (RV_sh _ (R1_of _ (encP0 _) (RV_sh _ (RV_sh _ (R1_of _ (opMul_cnt (h.te e he).2.2) (RK_val _ ⟨rfl, ?_⟩))))))) ⟩
    walk_at "nrm"
  refine RA_nil ⟨_, rfl, R1_of _ (mSum_E (fun c => PM.desc kinds c d) tops) ?_⟩
  repeat walk_at "vs"
  rfl
theorem tree_size_ok {kinds : List Ty} {tops : List En} (h : PP kinds tops) {s : Str} (hs : s ∈ kinds.map (·.1)) :
    RF m_Plan_tree_size [.sh (planV kinds tops), .sh (.str s)] fun r fin => r = .sh (.int (PM.size kinds s)) ∧ fin = [some (.sh (planV kinds tops)), some (.sh (.str s))] := by
  have hlv := PM.lev_le h.ok hs
  refine RF_def rfl (by walk_at "nrm") ?_
  refine RS_seq (RS_expr (RX_meth (RX_Vs rfl ⟨_, rfl, rfl, RA_t (RX_Vs rfl (RA_nil ⟨_, _, rfl, ?_⟩))⟩)))
  refine RF.mono (check_name_ok h.nd hs) ?_
  rintro r fin ⟨rfl, rfl⟩
  refine ⟨rfl, thenS_nx ?_⟩
  refine RS_ret (RX_bi (RA_t ?_))
  refine RX_lc (RI_seq (RX_x2 (RX_fld (RX_Vs rfl ⟨_, rfl, _, rfl, RX_Vs rfl (RV_sh _ (RV_sh _ (R1_of _ (opIx_dk (tb_get hs)) (RK_val _ ⟨_, rfl, ?_⟩))))⟩))))
  refine ⟨by rw [List.length_map, PM.tabF_len]; exact sl_le (by have := h.l2; omega), ?_⟩
  refine RC_map (enc := encP) (g := fun p : Pr => D.int p.1) (fun p hp => ?_) ?_
  · refine ⟨_, by rw [show encP p = .tup [.int p.1, .int p.2] from rfl]; walk_at "gt", ?_⟩
    repeat walk_at "vs"
    walk_at "nrm"
  have e1 : mSum [.lst ((PM.tabF (PM.pr kinds s) (PM.lev kinds s)).map fun p : Pr => D.int p.1)] = some (.sh (.int (PM.size kinds s))) := by
    show (intsOf ((PM.tabF (PM.pr kinds s) (PM.lev kinds s)).map fun p : Pr => D.int p.1)).map _ = _
    rw [intsOf_map (fun p : Pr => p.1), Option.map_some]
    unfold PM.tabF
    rw [List.map_map]
    have := sum_tab (PM.desc kinds s) (PM.lev kinds s)
    rw [PM.size_sum h.ok s _ hs (Nat.le_refl _)] at this
    rw [← this]
    rfl
  refine RA_nil ⟨_, rfl, R1_of _ e1 ?_⟩
  repeat walk_at "vs"
  rfl
theorem task_total_ok {kinds : List Ty} {tops : List En} (h : PP kinds tops) :
    RF m_Plan_task_total [.sh (planV kinds tops)] fun r fin => r = .sh (.int (PM.sumE (PM.size kinds) tops)) ∧ fin = [some (.sh (planV kinds tops))] := by
  refine RF_def rfl (by walk_at "nrm") ?_
  refine RS_ret (RX_bi (RA_t ?_))
  refine RX_lc (RI_seq (RX_fld (RX_Vs rfl ⟨_, rfl, _, rfl, RK_val _ ⟨_, rfl, ?_⟩⟩)))
  refine ⟨by rw [List.length_map]; exact sl_le (by have := h.tl; omega), ?_⟩
  refine RC_map (enc := encE) (g := fun e : En => D.int (e.2 * PM.size kinds e.1)) (fun e he => ?_) ?_
  · refine ⟨_, by rw [show encE e = .tup [.str e.1, .int e.2] from rfl]; walk_at "gt", ?_⟩
    refine RT_Y ⟨rfl, ?_⟩
    refine RX_x2 (RX_Vs rfl (RX_meth (RX_Vs rfl ⟨_, rfl, rfl, RA_t (RX_Vs rfl (RA_nil ⟨_, _, rfl, ?_⟩))⟩)))
    refine RF.mono (tree_size_ok h (h.te e he).1) ?_
    rintro r fin ⟨rfl, rfl⟩
    refine ⟨rfl, RV_sh _ (RV_sh _ (R1_of _ (opMul_cnt (h.te e he).2.2) (RK_val _ ⟨rfl, ?_⟩)))⟩
    walk_at "nrm"
  refine RA_nil ⟨_, rfl, R1_of _ (mSum_E (PM.size kinds) tops) ?_⟩
  repeat walk_at "vs"
  rfl
end Pg
namespace Pg
open PySem PySem.Spec L2 VS
theorem RF_id {F : FF} {os : List O} {P : O → DS → Prop} (h : RF F os P) : RF F os P := h
theorem RL_id {gt : GF} {body : SF} {ds : List D} {δ : DS} {P : Fl → Prop} (h : RL gt body ds δ P) : RL gt body ds δ P := h
theorem inR_id {j : Int} {A : Prop} (h : inR j = true ∧ A) : inR j = true ∧ A := h
theorem RS_whid {tc : TF} {body : SF} {δ : DS} {P : Fl → Prop} (h : RS (sWh tc body) δ P) : RS (sWh tc body) δ P := h
theorem RI_rg3 {fs : BF} {δ : DS} {P : List D → DS → Prop} (h : RB fs δ fun os δ1 => ∃ i j, os = [.sh (.int i), .sh (.int j), .sh (.int (-1))] ∧ inR i = true ∧ inR j = true ∧ P ((List.range (i - j).toNat).map fun (k : Nat) => D.int (i - (k : Int))) δ1) : RI (iRg3 fs) δ P := by
  obtain ⟨os, δ1, h1, i, j, rfl, h2, h3, p⟩ := h
  exact ⟨_, _, by simp [iRg3, h1, h2, h3], p⟩
local macro_rules | `(tactic| walk_at "gt") => `(tactic| (simp only [gT, gsCons, gN, gsNil, Option.bind_some, List.length_cons, List.length_nil, List.set_cons_zero, List.set_cons_succ, Nat.reduceAdd, if_true] <;> exact rfl))
local macro_rules | `(tactic| walk_at "nrm") => `(tactic| (simp only [List.set_cons_zero, List.set_cons_succ, List.map_cons, List.map_nil, List.length_cons, List.length_nil, List.replicate, List.cons_append, List.nil_append, Nat.reduceSub, selM, ins, O.fz, wipeD, savD, unwD, List.getElem?_cons_zero, List.getElem?_cons_succ, Option.join_some, Option.join_none] <;> exact rfl))
local macro_rules | `(tactic| walk_at "vw") => `(tactic| first
  | with_reducible refine RX_x2 ?_ | with_reducible refine RX_C ?_ | with_reducible refine RX_Vs rfl ?_ | with_reducible refine RX_Va rfl rfl ?_
  | with_reducible refine RV_sh _ ?_ | with_reducible refine RV_val _ ?_ | with_reducible refine RV_at _ rfl ?_
  | with_reducible refine RK_val _ ?_ | with_reducible refine RK_at _ rfl (by walk_at "nrm") ?_
  | with_reducible refine RS_seq ?_ | with_reducible refine thenS_nx ?_ | with_reducible refine thenS_rt ?_ | with_reducible refine loopS_nx ?_ | with_reducible refine loopS_rt ?_ | with_reducible refine loopS_ct ?_ | with_reducible refine loopS_bk ?_ | with_reducible refine thenS_bk ?_ | with_reducible refine thenS_ct ?_ | with_reducible refine endF_rt (by walk_at "nrm") ?_ | with_reducible refine endF_nx (by walk_at "nrm") ?_
  | with_reducible refine RS_set ?_ | with_reducible refine RS_ret ?_ | with_reducible refine RS_if ?_ | with_reducible refine RS_expr ?_ | with_reducible refine RS_sub ?_ | with_reducible refine RS_attr ?_ | with_reducible refine RS_nil ?_ | with_reducible refine RS_par ?_ | with_reducible refine RS_asg ?_
  | with_reducible refine RX_call ?_ | with_reducible refine RX_bi ?_ | with_reducible refine RX_x1 ?_ | with_reducible refine RX_tup ?_ | with_reducible refine RX_lst ?_
  | with_reducible refine RA_f ?_ | with_reducible refine RA_t ?_ | with_reducible refine RA_nil ?_ | with_reducible refine RB_cons ?_ | with_reducible refine RB_nil ?_
  | with_reducible refine RT_Y ?_ | with_reducible refine RT_tB ?_ | with_reducible refine RT_not ?_ | with_reducible refine RT_and ?_ | with_reducible refine RT_or ?_ | with_reducible refine RX_and ?_ | with_reducible refine RX_or ?_ | with_reducible refine RX_not ?_ | with_reducible refine RX_if ?_ | with_reducible refine RX_ch ?_
  | with_reducible refine CB_t ?_ | with_reducible refine CB_f ?_ | with_reducible refine CB_n ?_
  | with_reducible refine RX_mut rfl rfl ?_ | with_reducible refine RS_for ?_ | with_reducible refine RI_enmU ?_ | with_reducible refine RI_seq ?_ | with_reducible refine RI_rg1 ?_ | with_reducible refine RI_rg3 ?_ | with_reducible refine RX_lc ?_ | with_reducible refine RX_dc ?_ | with_reducible refine RX_dK ?_ | with_reducible refine RX_sl ?_ | with_reducible refine RO_N ?_ | with_reducible refine RO_E ?_ | with_reducible refine RX_fld ?_ | with_reducible refine RX_meth ?_ | with_reducible refine RX_make ?_ | with_reducible refine RX_o2 ?_
  | with_reducible refine R1_of _ (opMod_int (by decide)) ?_ | with_reducible refine R1_of _ (opDiv_int (by decide)) ?_ | with_reducible refine R1_of _ (opMul_l (by first | decide | omega)) ?_ | with_reducible refine R1_of _ (opMul_r (by first | decide | omega)) ?_ | with_reducible refine R1_of _ (opPow_ok (by first | decide | omega)) ?_
  | refine R1_of _ rfl ?_
  | (fail_if_success (with_reducible refine RF_id ?_)); (fail_if_success (with_reducible refine RL_id ?_)); (fail_if_success (with_reducible refine RS_whid ?_)); (fail_if_success (with_reducible refine inR_id ?_)); first | refine ⟨_, by walk_at "nrm", ?_⟩ | refine ⟨_, _, rfl, ?_⟩ | refine ⟨_, rfl, ?_⟩ | refine ⟨rfl, ?_⟩ | refine ⟨Nat.le_of_ble_eq_true rfl, ?_⟩ | refine ⟨_, _, rfl, rfl, ?_⟩)
def encS (p : Nat × Int) : D := .tup [.int (p.1 : Nat), .int p.2]
def encA (q : PM.Pa) : D := .tup (q.map encS)
def kdD : Option Str → D
  | none => .non
  | some s => .str s
theorem step_ok {rows : List En} {p : Nat} {i : Int} {e : En} (he : rows[p]? = some e) (h0 : 0 ≤ i) (h1 : i < e.2) :
    RF m_is_step [.sh (encS (p, i)), .lst (rows.map encE)] fun r fin => r = .sh (.bl true) ∧ fin = [some (.sh (encS (p, i))), some (.lst (rows.map encE))] := by
  have hp := (List.getElem?_eq_some_iff.mp he).1
  have ha : atI (rows.map encE) (p : Int) = some (encE e) := atI_nat (by rw [List.getElem?_map, he]; rfl)
  unfold encS
  refine RF_def rfl (by walk_at "nrm") ?_
  repeat walk_at "vw"
  refine CB_yes (by simp [D.eqD]) ?_
  repeat walk_at "vw"
  refine RF.mono int_ok ?_
  rintro r fin ⟨rfl, rfl⟩
  repeat walk_at "vw"
  refine RF.mono int_ok ?_
  rintro r fin ⟨rfl, rfl⟩
  repeat walk_at "vw"
  refine CB_yes (by simp) ?_
  repeat walk_at "vw"
  rw [List.length_map, decide_eq_true (show (p : Int) < (rows.length : Int) by omega)]
  repeat walk_at "vw"
  refine CB_yes (by simp [h0]) ?_
  repeat walk_at "vw"
  refine R1_of _ (opIx_lst ha) ?_
  repeat walk_at "vw"
  exact ⟨congrArg (fun b => O.sh (D.bl b)) (decide_eq_true h1), rfl⟩
theorem kind_at_ok {kinds : List Ty} {tops : List En} (h : PP kinds tops) {q : PM.Pa} (hv : PM.Val kinds tops q) :
    RF m_kind_at [.sh (planV kinds tops), .sh (encA q)] fun r fin => r = .sh (kdD (PM.kindP kinds tops q)) ∧ fin = [some (.sh (planV kinds tops)), some (.sh (encA q))] := by
  refine RF_def rfl (by walk_at "nrm") ?_
  unfold encA
  repeat walk_at "vw"
  refine RF.mono root_ok ?_
  rintro r fin ⟨rfl, rfl⟩
  repeat walk_at "vw"
  refine RL_inv (enc := encS) (fun done δ => ∃ (kd : Option Str) (rows : List En) (j4 : Option O), δ = [some (.sh (planV kinds tops)), some (.sh (.tup (q.map encS))), some (.sh (kdD kd)), some (.lst (rows.map encE)), j4] ∧ kd = PM.kindP kinds tops done ∧ rows = PM.rowsP kinds tops done)
    ⟨none, tops, _, rfl, rfl, rfl⟩ ?_ ?_
  · rintro done x rest δ hl ⟨kd, rows, j4, rfl, hkd, hrw⟩
    obtain ⟨p, i⟩ := x
    rw [hl] at hv
    have hv1 := PM.val_app hv
    rw [← hrw] at hv1
    obtain ⟨hvd, e, he, h0, h1, _⟩ := hv1
    have ha : atI (rows.map encE) (p : Int) = some (encE e) := atI_nat (by rw [List.getElem?_map, he]; rfl)
    have hes : e.1 ∈ kinds.map (·.1) := by
      have := PM.rowsP_ok h.ok (a := done) h.okE
      rw [← hrw] at this
      exact (this e (PM.mem_at he)).1
    refine ⟨_, by walk_at "gt", ?_⟩
    repeat walk_at "vw"
    refine RF.mono (step_ok he h0 h1) ?_
    rintro r fin ⟨rfl, rfl⟩
    repeat walk_at "vw"
    refine R1_of _ (opIx_lst ha) ?_
    repeat walk_at "vw"
    refine RF.mono (entries_ok h.nd hes) ?_
    rintro r fin ⟨rfl, rfl⟩
    repeat walk_at "vw"
    refine ⟨some e.1, PM.ents kinds e.1, _, rfl, ?_, ?_⟩
    · rw [PM.kindP_snoc hvd (by rw [← hrw]; exact he)]
    · rw [PM.rowsP_snoc hvd (by rw [← hrw]; exact he)]
  · rintro δ ⟨kd, rows, j4, rfl, rfl, rfl⟩
    repeat walk_at "vw"
    rfl
theorem kind_some : ∀ {kinds : List Ty} {tops : List En} {q : PM.Pa}, q ≠ [] → PM.Val kinds tops q → ∃ s, PM.kindP kinds tops q = some s := by
  intro kinds tops q hq hv
  have e := List.dropLast_concat_getLast hq
  generalize q.dropLast = a at e
  generalize q.getLast hq = x at e
  subst e
  obtain ⟨p, i⟩ := x
  obtain ⟨h1, e, he, _⟩ := PM.val_app hv
  exact ⟨e.1, PM.kindP_snoc h1 he⟩
theorem type_of_ok {kinds : List Ty} {tops : List En} (h : PP kinds tops) {q : PM.Pa} (hq : q ≠ []) (hv : PM.Val kinds tops q) :
    RF m_type_of [.sh (planV kinds tops), .sh (encA q)] fun r fin => r = .sh (kdD (PM.kindP kinds tops q)) ∧ fin = [some (.sh (planV kinds tops)), some (.sh (encA q))] := by
  obtain ⟨s, hs⟩ := kind_some hq hv
  refine RF_def rfl (by walk_at "nrm") ?_
  repeat walk_at "vw"
  refine RF.mono (kind_at_ok h hv) ?_
  rintro r fin ⟨rfl, rfl⟩
  simp only [hs, kdD]
  repeat walk_at "vw"
  refine CB_no rfl ?_
  repeat walk_at "vw"
  rfl
def modeD (m : Bool) : D := .str (if m then "fifo" else "lifo")
theorem disc_ok (m : Bool) : RF m_check_discipline [.sh (modeD m)] fun r fin => r = .sh .non ∧ fin = [some (.sh (modeD m))] := by
  cases m <;> exact ⟨_, _, by kernel_rfl, rfl, rfl⟩
end Pg
namespace Pg
open PySem PySem.Spec L2 VS
local macro_rules | `(tactic| walk_at "gt") => `(tactic| (simp only [gT, gsCons, gN, gsNil, Option.bind_some, List.length_cons, List.length_nil, List.set_cons_zero, List.set_cons_succ, Nat.reduceAdd, if_true] <;> exact rfl))
local macro_rules | `(tactic| walk_at "nrm") => `(tactic| (simp only [List.set_cons_zero, List.set_cons_succ, List.map_cons, List.map_nil, List.length_cons, List.length_nil, List.replicate, List.cons_append, List.nil_append, Nat.reduceSub, selM, ins, O.fz, wipeD, savD, unwD, List.getElem?_cons_zero, List.getElem?_cons_succ, Option.join_some, Option.join_none] <;> exact rfl))
local macro_rules | `(tactic| walk_at "vw") => `(tactic| first
  | with_reducible refine RX_x2 ?_ | with_reducible refine RX_C ?_ | with_reducible refine RX_Vs rfl ?_ | with_reducible refine RX_Va rfl rfl ?_
  | with_reducible refine RV_sh _ ?_ | with_reducible refine RV_val _ ?_ | with_reducible refine RV_at _ rfl ?_
  | with_reducible refine RK_val _ ?_ | with_reducible refine RK_at _ rfl (by walk_at "nrm") ?_
  | with_reducible refine RS_seq ?_ | with_reducible refine thenS_nx ?_ | with_reducible refine thenS_rt ?_ | with_reducible refine loopS_nx ?_ | with_reducible refine loopS_rt ?_ | with_reducible refine loopS_ct ?_ | with_reducible refine loopS_bk ?_ | with_reducible refine thenS_bk ?_ | with_reducible refine thenS_ct ?_ | with_reducible refine endF_rt (by walk_at "nrm") ?_ | with_reducible refine endF_nx (by walk_at "nrm") ?_
  | with_reducible refine RS_set ?_ | with_reducible refine RS_ret ?_ | with_reducible refine RS_if ?_ | with_reducible refine RS_expr ?_ | with_reducible refine RS_sub ?_ | with_reducible refine RS_attr ?_ | with_reducible refine RS_nil ?_ | with_reducible refine RS_par ?_ | with_reducible refine RS_asg ?_
  | with_reducible refine RX_call ?_ | with_reducible refine RX_bi ?_ | with_reducible refine RX_x1 ?_ | with_reducible refine RX_tup ?_ | with_reducible refine RX_lst ?_
  | with_reducible refine RA_f ?_ | with_reducible refine RA_t ?_ | with_reducible refine RA_nil ?_ | with_reducible refine RB_cons ?_ | with_reducible refine RB_nil ?_
  | with_reducible refine RT_Y ?_ | with_reducible refine RT_tB ?_ | with_reducible refine RT_not ?_ | with_reducible refine RT_and ?_ | with_reducible refine RT_or ?_ | with_reducible refine RX_and ?_ | with_reducible refine RX_or ?_ | with_reducible refine RX_not ?_ | with_reducible refine RX_if ?_ | with_reducible refine RX_ch ?_
  | with_reducible refine CB_t ?_ | with_reducible refine CB_f ?_ | with_reducible refine CB_n ?_
  | with_reducible refine RX_mut rfl rfl ?_ | with_reducible refine RS_for ?_ | with_reducible refine RI_enmU ?_ | with_reducible refine RI_seq ?_ | with_reducible refine RI_rg1 ?_ | with_reducible refine RI_rg3 ?_ | with_reducible refine RX_lc ?_ | with_reducible refine RX_dc ?_ | with_reducible refine RX_dK ?_ | with_reducible refine RX_sl ?_ | with_reducible refine RO_N ?_ | with_reducible refine RO_E ?_ | with_reducible refine RX_fld ?_ | with_reducible refine RX_meth ?_ | with_reducible refine RX_make ?_ | with_reducible refine RX_o2 ?_
  | with_reducible refine R1_of _ (opMod_int (by decide)) ?_ | with_reducible refine R1_of _ (opDiv_int (by decide)) ?_ | with_reducible refine R1_of _ (opMul_l (by first | decide | omega)) ?_ | with_reducible refine R1_of _ (opMul_r (by first | decide | omega)) ?_ | with_reducible refine R1_of _ (opPow_ok (by first | decide | omega)) ?_
  | refine R1_of _ rfl ?_
  | (fail_if_success (with_reducible refine RF_id ?_)); (fail_if_success (with_reducible refine RL_id ?_)); (fail_if_success (with_reducible refine RS_whid ?_)); (fail_if_success (with_reducible refine inR_id ?_)); first | refine ⟨_, by walk_at "nrm", ?_⟩ | refine ⟨_, _, rfl, ?_⟩ | refine ⟨_, rfl, ?_⟩ | refine ⟨rfl, ?_⟩ | refine ⟨Nat.le_of_ble_eq_true rfl, ?_⟩ | refine ⟨_, _, rfl, rfl, ?_⟩)
theorem cutL_takeN {α : Type} (l : List α) (n : Nat) : cutL l none (some (n : Int)) = l.take n := by rw [cutL_take _ (by omega)]; rfl
theorem cutL_dropN {α : Type} (l : List α) (n : Nat) : cutL l (some ((n : Int) + 1)) none = l.drop (n + 1) := by rw [cutL_drop _ (by omega)]; congr 1
theorem opMul_b {i j : Int} (h0 : 0 ≤ i) (h1 : i < 18446744073709551616) : opMul (.int i) (.int j) = some (.sh (.int (i * j))) := opMul_l (by omega)
theorem PP.row {kinds : List Ty} {tops : List En} (h : PP kinds tops) (q : PM.Pa) : ∀ e ∈ PM.rowsP kinds tops q, e.1 ∈ kinds.map (·.1) ∧ eOk e := by
  have key : ∀ (q : PM.Pa) (rows : List En), (∀ e ∈ rows, e.1 ∈ kinds.map (·.1) ∧ eOk e) → ∀ e ∈ PM.rowsP kinds rows q, e.1 ∈ kinds.map (·.1) ∧ eOk e := by
    intro q
    induction q with
    | nil => intro rows hr; exact hr
    | cons x q ih =>
      intro rows hr
      obtain ⟨p, i⟩ := x
      simp only [PM.rowsP]
      cases hp : rows[p]? with
      | none => intro e he; cases he
      | some e0 =>
        refine ih _ fun e he => ?_
        have hs := (hr e0 (List.mem_of_getElem? hp)).1
        obtain ⟨t, ht, et⟩ := List.mem_map.mp hs
        rw [← et, ents_mem h.nd ht] at he
        have q1 := (h.tk t ht).2.2 e he
        have q2 := PM.ents_ok h.ok t.1 e (by rw [ents_mem h.nd ht]; exact he)
        exact ⟨q2.1, q1⟩
  exact key q tops h.te
theorem PP.rowl {kinds : List Ty} {tops : List En} (h : PP kinds tops) (q : PM.Pa) : (PM.rowsP kinds tops q).length ≤ 20 := by
  have key : ∀ (q : PM.Pa) (rows : List En), (∀ e ∈ rows, e.1 ∈ kinds.map (·.1)) → rows.length ≤ 20 → (PM.rowsP kinds rows q).length ≤ 20 := by
    intro q
    induction q with
    | nil => intro rows _ hr; exact hr
    | cons x q ih =>
      intro rows hr hl
      obtain ⟨p, i⟩ := x
      simp only [PM.rowsP]
      cases hp : rows[p]? with
      | none => simp
      | some e0 =>
        obtain ⟨t, ht, et⟩ := List.mem_map.mp (hr e0 (List.mem_of_getElem? hp))
        refine ih _ (fun e he => (PM.ents_ok h.ok e0.1 e he).1) ?_
        rw [← et, ents_mem h.nd ht]
        exact (h.tk t ht).2.1
  exact key q tops (fun e he => (h.te e he).1) h.tl
theorem val_cnt {kinds : List Ty} {tops : List En} (h : PP kinds tops) {done : PM.Pa} {p : Nat} {e : En} (he : (PM.rowsP kinds tops done)[p]? = some e) : e.1 ∈ kinds.map (·.1) ∧ cntOk e.2 := by
  have := h.row done e (List.mem_of_getElem? he)
  exact ⟨this.1, this.2.2⟩
theorem rank_level_ok {kinds : List Ty} {tops : List En} (h : PP kinds tops) {q : PM.Pa} (hql : q.length ≤ 1000) (hv : PM.Val kinds tops q) :
    RF m_rank_in_level [.sh (planV kinds tops), .sh (encA q)] fun r fin => r = .sh (.int (PM.rkL kinds tops q)) ∧ fin = [some (.sh (planV kinds tops)), some (.sh (encA q))] := by
  refine RF_def rfl (by walk_at "nrm") ?_
  unfold encA
  repeat walk_at "vw"
  refine RF.mono root_ok ?_
  rintro r fin ⟨rfl, rfl⟩
  repeat walk_at "vw"
  refine RL_enum (enc := encS) (fun done δ => ∃ (rest : PM.Pa) (found : Int) (rows : List En) (j4 j5 j6 j7 j8 j9 : Option O), δ = [some (.sh (planV kinds tops)), some (.sh (.tup (q.map encS))), some (.sh (.int found)), some (.lst (rows.map encE)), j4, j5, j6, j7, j8, j9] ∧ q = done ++ rest ∧ rows = PM.rowsP kinds tops done ∧ found + PM.rkL kinds rows rest = PM.rkL kinds tops q)
    ⟨q, 0, tops, _, _, _, _, _, _, rfl, rfl, rfl, by omega⟩ ?_ ?_
  · rintro done x rest δ hl ⟨rest', found, rows, j4, j5, j6, j7, j8, j9, rfl, hl2, hrw, hf⟩
    obtain ⟨p, i⟩ := x
    have er : rest' = (p, i) :: rest := List.append_cancel_left (hl2.symm.trans hl)
    subst er
    rw [hl] at hv
    obtain ⟨hvd, hv1⟩ := PM.val_app hv
    obtain ⟨e, he, h0, h1, _⟩ := hv1
    obtain ⟨hes, hec⟩ := val_cnt h he
    have hrr := h.row done
    have hrl := h.rowl done
    rw [← hrw] at he hrr hrl
    have ha : atI (rows.map encE) (p : Int) = some (encE e) := atI_nat (by rw [List.getElem?_map, he]; rfl)
    have hlen : q.length = done.length + rest.length + 1 := by rw [hl]; simp; omega
    refine ⟨_, by rw [show encS (p, i) = .tup [.int (p : Nat), .int i] from rfl]; walk_at "gt", ?_⟩
    repeat walk_at "vw"
    have hb : ((q.map encS).length : Int) - 1 - (done.length : Nat) = ((rest.length : Nat) : Int) := by rw [List.length_map, hlen]; omega
    rw [hb]
    rw [cutL_takeN, ← List.map_take]
    refine ⟨by rw [List.length_map, List.length_take]; exact sl_le (by omega), ?_⟩
    refine RC_map (enc := encE) (g := fun e : En => D.int (e.2 * PM.desc kinds e.1 rest.length)) (fun e' he' => ?_) ?_
    · have he2 := hrr e' (List.mem_of_mem_take he')
      refine ⟨_, by rw [show encE e' = .tup [.str e'.1, .int e'.2] from rfl]; walk_at "gt", ?_⟩
      repeat walk_at "vw"
      refine RF.mono (descendants_ok h.ok h.nd he2.1 rest.length) ?_
      rintro r fin ⟨rfl, rfl⟩
      repeat walk_at "vw"
      refine R1_of _ (opMul_cnt he2.2.2) ?_
      repeat walk_at "vw"
      walk_at "nrm"
    refine RA_nil ⟨_, rfl, R1_of _ (mSum_E (fun c => PM.desc kinds c rest.length) (rows.take p)) ?_⟩
    repeat walk_at "vw"
    refine R1_of _ (opIx_lst ha) ?_
    repeat walk_at "vw"
    refine RF.mono (descendants_ok h.ok h.nd hes rest.length) ?_
    rintro r fin ⟨rfl, rfl⟩
    repeat walk_at "vw"
    refine R1_of _ (opMul_b h0 (by have := hec.2; omega)) ?_
    repeat walk_at "vw"
    refine R1_of _ (opIx_lst ha) ?_
    repeat walk_at "vw"
    refine RF.mono (entries_ok h.nd hes) ?_
    rintro r fin ⟨rfl, rfl⟩
    repeat walk_at "vw"
    refine ⟨rest, _, _, _, _, _, _, _, _, rfl, by rw [hl]; simp, ?_, ?_⟩
    · rw [PM.rowsP_snoc hvd (by rw [← hrw]; exact he)]
    · rw [PM.rkL] at hf
      simp only [he] at hf
      omega
  · rintro δ ⟨rest', found, rows, j4, j5, j6, j7, j8, j9, rfl, hl2, hrw, hf⟩
    have er : rest' = [] := by
      have : q ++ [] = q ++ rest' := by rw [List.append_nil]; exact hl2
      exact (List.append_cancel_left this).symm
    subst er
    simp only [PM.rkL, Int.add_zero] at hf
    rw [hf]
    repeat walk_at "vw"
    rfl
theorem rank_depth_ok {kinds : List Ty} {tops : List En} (h : PP kinds tops) {q : PM.Pa} (hql : q.length ≤ 1000) (hv : PM.Val kinds tops q) :
    RF m_rank_in_depth [.sh (planV kinds tops), .sh (encA q)] fun r fin => r = .sh (.int (PM.rkD kinds tops q)) ∧ fin = [some (.sh (planV kinds tops)), some (.sh (encA q))] := by
  refine RF_def rfl (by walk_at "nrm") ?_
  unfold encA
  repeat walk_at "vw"
  refine RF.mono root_ok ?_
  rintro r fin ⟨rfl, rfl⟩
  repeat walk_at "vw"
  refine RL_inv (enc := encS) (fun done δ => ∃ (rest : PM.Pa) (found : Int) (rows : List En) (j4 j5 j6 j7 j8 j9 : Option O), δ = [some (.sh (planV kinds tops)), some (.sh (.tup (q.map encS))), some (.sh (.int found)), some (.lst (rows.map encE)), j4, j5, j6, j7, j8, j9] ∧ q = done ++ rest ∧ rows = PM.rowsP kinds tops done ∧ found + (PM.rkD kinds rows rest - rest.length + 1) = PM.rkD kinds tops q)
    ⟨q, _, tops, _, _, _, _, _, _, rfl, rfl, rfl, by rw [List.length_map]; omega⟩ ?_ ?_
  · rintro done x rest δ hl ⟨rest', found, rows, j4, j5, j6, j7, j8, j9, rfl, hl2, hrw, hf⟩
    obtain ⟨p, i⟩ := x
    have er : rest' = (p, i) :: rest := List.append_cancel_left (hl2.symm.trans hl)
    subst er
    rw [hl] at hv
    obtain ⟨hvd, hv1⟩ := PM.val_app hv
    obtain ⟨e, he, h0, h1, _⟩ := hv1
    obtain ⟨hes, hec⟩ := val_cnt h he
    have hrr := h.row done
    have hrl := h.rowl done
    rw [← hrw] at he hrr hrl
    have ha : atI (rows.map encE) (p : Int) = some (.tup [.str e.1, .int e.2]) := atI_nat (by rw [List.getElem?_map, he]; rfl)
    refine ⟨_, by rw [show encS (p, i) = .tup [.int (p : Nat), .int i] from rfl]; walk_at "gt", ?_⟩
    repeat walk_at "vw"
    refine R1_of _ (opIx_lst ha) ?_
    repeat walk_at "vw"
    rw [cutL_dropN, ← List.map_drop]
    refine ⟨by rw [List.length_map, List.length_drop]; exact sl_le (by omega), ?_⟩
    refine RC_map (enc := encE) (g := fun e : En => D.int (e.2 * PM.size kinds e.1)) (fun e' he' => ?_) ?_
    · have he2 := hrr e' (List.mem_of_mem_drop he')
      refine ⟨_, by rw [show encE e' = .tup [.str e'.1, .int e'.2] from rfl]; walk_at "gt", ?_⟩
      repeat walk_at "vw"
      refine RF.mono (tree_size_ok h he2.1) ?_
      rintro r fin ⟨rfl, rfl⟩
      repeat walk_at "vw"
      refine R1_of _ (opMul_cnt he2.2.2) ?_
      repeat walk_at "vw"
      walk_at "nrm"
    refine RA_nil ⟨_, rfl, R1_of _ (mSum_E (PM.size kinds) (rows.drop (p + 1))) ?_⟩
    repeat walk_at "vw"
    refine RF.mono (tree_size_ok h hes) ?_
    rintro r fin ⟨rfl, rfl⟩
    repeat walk_at "vw"
    refine R1_of _ (opMul_b (by omega) (by have := hec.2; omega)) ?_
    repeat walk_at "vw"
    refine RF.mono (entries_ok h.nd hes) ?_
    rintro r fin ⟨rfl, rfl⟩
    repeat walk_at "vw"
    refine ⟨rest, _, _, _, _, _, _, _, _, rfl, by rw [hl]; simp, ?_, ?_⟩
    · rw [PM.rowsP_snoc hvd (by rw [← hrw]; exact he)]
    · rw [PM.rkD] at hf
      simp only [he, List.length_cons] at hf
      omega
  · rintro δ ⟨rest', found, rows, j4, j5, j6, j7, j8, j9, rfl, hl2, hrw, hf⟩
    have er : rest' = [] := by
      have : q ++ [] = q ++ rest' := by rw [List.append_nil]; exact hl2
      exact (List.append_cancel_left this).symm
    subst er
    have hf' : found = PM.rkD kinds tops q := by
      simp only [PM.rkD, List.length_nil] at hf
      omega
    rw [hf']
    repeat walk_at "vw"
    rfl
theorem first_of_ok {kinds : List Ty} {tops : List En} (h : PP kinds tops) {l : Nat} (hl : l ≤ 1000) :
    RF m_first_of_level [.sh (planV kinds tops), .sh (.int l)] fun r fin => r = .sh (.int (PM.sumN (PM.ltot kinds tops) l)) ∧ fin = [some (.sh (planV kinds tops)), some (.sh (.int l))] := by
  refine RF_def rfl (by walk_at "nrm") ?_
  repeat walk_at "vw"
  refine ⟨by simp [inR]; omega, ?_⟩
  rw [rng_map, Int.toNat_natCast]
  refine ⟨by rw [List.length_map, List.length_range]; exact sl_le (by omega), ?_⟩
  refine RC_map (g := fun i : Nat => D.int (PM.ltot kinds tops i)) (fun i hi => ?_) ?_
  · refine ⟨_, by walk_at "gt", ?_⟩
    rw [Int.zero_add]
    repeat walk_at "vw"
    refine RF.mono (level_total_ok h i) ?_
    rintro r fin ⟨rfl, rfl⟩
    repeat walk_at "vw"
    walk_at "nrm"
  have e1 : mSum [.lst ((List.range l).map fun i : Nat => D.int (PM.ltot kinds tops i))] = some (.sh (.int (PM.sumN (PM.ltot kinds tops) l))) := by
    show (intsOf ((List.range l).map fun i : Nat => D.int (PM.ltot kinds tops i))).map _ = _
    rw [intsOf_map (PM.ltot kinds tops), Option.map_some, sum_tab]
  refine RA_nil ⟨_, rfl, R1_of _ e1 ?_⟩
  repeat walk_at "vw"
  rfl
end Pg
namespace Pg
open PySem PySem.Spec L2 VS
local macro_rules | `(tactic| walk_at "gt") => `(tactic| (simp only [gT, gsCons, gN, gsNil, Option.bind_some, List.length_cons, List.length_nil, List.set_cons_zero, List.set_cons_succ, Nat.reduceAdd, if_true] <;> exact rfl))
local macro_rules | `(tactic| walk_at "nrm") => `(tactic| (simp only [List.set_cons_zero, List.set_cons_succ, List.map_cons, List.map_nil, List.length_cons, List.length_nil, List.replicate, List.cons_append, List.nil_append, Nat.reduceSub, selM, ins, O.fz, wipeD, savD, unwD, List.getElem?_cons_zero, List.getElem?_cons_succ, Option.join_some, Option.join_none] <;> exact rfl))
local macro_rules | `(tactic| walk_at "vw") => `(tactic| first
  | with_reducible refine RX_x2 ?_ | with_reducible refine RX_C ?_ | with_reducible refine RX_Vs rfl ?_ | with_reducible refine RX_Va rfl rfl ?_
  | with_reducible refine RV_sh _ ?_ | with_reducible refine RV_val _ ?_ | with_reducible refine RV_at _ rfl ?_
  | with_reducible refine RK_val _ ?_ | with_reducible refine RK_at _ rfl (by walk_at "nrm") ?_
  | with_reducible refine RS_seq ?_ | with_reducible refine thenS_nx ?_ | with_reducible refine thenS_rt ?_ | with_reducible refine loopS_nx ?_ | with_reducible refine loopS_rt ?_ | with_reducible refine loopS_ct ?_ | with_reducible refine loopS_bk ?_ | with_reducible refine thenS_bk ?_ | with_reducible refine thenS_ct ?_ | with_reducible refine endF_rt (by walk_at "nrm") ?_ | with_reducible refine endF_nx (by walk_at "nrm") ?_
  | with_reducible refine RS_set ?_ | with_reducible refine RS_ret ?_ | with_reducible refine RS_if ?_ | with_reducible refine RS_expr ?_ | with_reducible refine RS_sub ?_ | with_reducible refine RS_attr ?_ | with_reducible refine RS_nil ?_ | with_reducible refine RS_par ?_ | with_reducible refine RS_asg ?_
  | with_reducible refine RX_call ?_ | with_reducible refine RX_bi ?_ | with_reducible refine RX_x1 ?_ | with_reducible refine RX_tup ?_ | with_reducible refine RX_lst ?_
  | with_reducible refine RA_f ?_ | with_reducible refine RA_t ?_ | with_reducible refine RA_nil ?_ | with_reducible refine RB_cons ?_ | with_reducible refine RB_nil ?_
  | with_reducible refine RT_Y ?_ | with_reducible refine RT_tB ?_ | with_reducible refine RT_not ?_ | with_reducible refine RT_and ?_ | with_reducible refine RT_or ?_ | with_reducible refine RX_and ?_ | with_reducible refine RX_or ?_ | with_reducible refine RX_not ?_ | with_reducible refine RX_if ?_ | with_reducible refine RX_ch ?_
  | with_reducible refine CB_t ?_ | with_reducible refine CB_f ?_ | with_reducible refine CB_n ?_
  | with_reducible refine RX_mut rfl rfl ?_ | with_reducible refine RS_for ?_ | with_reducible refine RI_enmU ?_ | with_reducible refine RI_seq ?_ | with_reducible refine RI_rg1 ?_ | with_reducible refine RI_rg3 ?_ | with_reducible refine RX_lc ?_ | with_reducible refine RX_dc ?_ | with_reducible refine RX_dK ?_ | with_reducible refine RX_sl ?_ | with_reducible refine RO_N ?_ | with_reducible refine RO_E ?_ | with_reducible refine RX_fld ?_ | with_reducible refine RX_meth ?_ | with_reducible refine RX_make ?_ | with_reducible refine RX_o2 ?_
  | with_reducible refine R1_of _ (opMod_int (by decide)) ?_ | with_reducible refine R1_of _ (opDiv_int (by decide)) ?_ | with_reducible refine R1_of _ (opMul_l (by first | decide | omega)) ?_ | with_reducible refine R1_of _ (opMul_r (by first | decide | omega)) ?_ | with_reducible refine R1_of _ (opPow_ok (by first | decide | omega)) ?_
  | refine R1_of _ rfl ?_
  | (fail_if_success (with_reducible refine RF_id ?_)); (fail_if_success (with_reducible refine RL_id ?_)); (fail_if_success (with_reducible refine RS_whid ?_)); (fail_if_success (with_reducible refine inR_id ?_)); first | refine ⟨_, by walk_at "nrm", ?_⟩ | refine ⟨_, _, rfl, ?_⟩ | refine ⟨_, rfl, ?_⟩ | refine ⟨rfl, ?_⟩ | refine ⟨Nat.le_of_ble_eq_true rfl, ?_⟩ | refine ⟨_, _, rfl, rfl, ?_⟩)
theorem pow_up {b : Int} (hb : 1 ≤ b) {n m : Nat} (h : n ≤ m) : b ^ n ≤ b ^ m := by
  obtain ⟨k, rfl⟩ := Nat.exists_eq_add_of_le h
  rw [Int.pow_add]
  have h1 := PM.one_le_pow hb k
  have h2 := PM.one_le_pow hb n
  have := Int.mul_le_mul_of_nonneg_left h1 (show 0 ≤ b ^ n by omega)
  omega
theorem pow_lim : (20000000000001 : Nat) ^ 40 < 2 ^ 9000 := by decide +kernel
theorem divOk_big {m : Int} (h0 : 0 < m) (h1 : m ≤ (20000000000001 : Int) ^ 40) : divOk m = true := by
  have h2 : m.natAbs < 2 ^ 9000 := by
    refine Nat.lt_of_le_of_lt ?_ pow_lim
    have : ((20000000000001 ^ 40 : Nat) : Int) = (20000000000001 : Int) ^ 40 := by simp
    omega
  unfold divOk
  have : m.natAbs.log2 < 9000 := (Nat.log2_lt (by omega)).mpr h2
  simp [h0, this]
theorem cnt_sum : ∀ {es : List En}, (∀ e ∈ es, cntOk e.2) → PM.sumE (fun _ => 1) es ≤ es.length * 1000000000000
  | [], _ => by simp [PM.sumE]
  | e :: r, h => by
    have h1 := cnt_sum (es := r) fun x hx => h x (by simp [hx])
    have h2 := (h e (by simp)).2
    simp only [PM.sumE, List.length_cons, Int.mul_one]
    omega
theorem okB_of : ∀ {kinds : List Ty}, (∀ t ∈ kinds, tOk t) → PM.OkB 20000000000000 kinds
  | [], _ => trivial
  | k :: r, h => by
    refine ⟨?_, okB_of fun t ht => h t (by simp [ht])⟩
    have h1 := cnt_sum (es := k.2) fun e he => ((h k (by simp)).2.2 e he).2
    have h2 := (h k (by simp)).2.1
    omega
theorem PP.div {kinds : List Ty} {tops : List En} (h : PP kinds tops) {s : Str} {d : Nat} (hp : 0 < PM.desc kinds s d) : divOk (PM.desc kinds s d) = true := by
  have h1 := PM.desc_le (B := 20000000000000) (by decide) h.ok (okB_of h.tk) s d
  have h2 := pow_up (b := 20000000000000) (by decide) h.l2
  have h3 : (20000000000000 : Int) ^ 40 ≤ (20000000000001 : Int) ^ 40 := by decide +kernel
  exact divOk_big hp (by omega)
theorem PP.divS {kinds : List Ty} {tops : List En} (h : PP kinds tops) {s : Str} (hp : 0 < PM.size kinds s) : divOk (PM.size kinds s) = true := by
  have h1 := PM.size_le (B := 20000000000000) (by decide) h.ok (okB_of h.tk) s
  have h2 := pow_up (b := (20000000000000 : Int) + 1) (by decide) h.l2
  have h3 : ((20000000000000 : Int) + 1) ^ 40 = (20000000000001 : Int) ^ 40 := by decide +kernel
  exact divOk_big hp (by omega)
theorem PP.levs {kinds : List Ty} {tops : List En} (h : PP kinds tops) : PM.mxl kinds tops ≤ 40 := by
  unfold PM.mxl
  have key : ∀ {l : List Nat}, (∀ y ∈ l, y ≤ 40) → PM.maxL l ≤ 40 := by
    intro l
    induction l with
    | nil => intro _; exact Nat.zero_le _
    | cons a l ih =>
      intro q
      simp only [PM.maxL]
      have := q a (by simp)
      have := ih fun x hx => q x (by simp [hx])
      omega
  refine key fun y hy => ?_
  obtain ⟨e, he, rfl⟩ := List.mem_map.mp hy
  have := PM.lev_le h.ok (h.te e he).1
  have := h.l2
  omega
theorem take_at {rows : List En} {j : Nat} {e : En} (f : Str → Int) (he : rows[j]? = some e) : PM.sumE f (rows.take (j + 1)) = PM.sumE f (rows.take j) + e.2 * f e.1 := by
  have := PM.sum_split (f := f) (rows := rows.take (j + 1)) (p := j) (e := e) (by rw [List.getElem?_take, if_pos (by omega), he])
  rw [List.take_take, Nat.min_eq_left (by omega), List.drop_take, Nat.sub_self, List.take_zero] at this
  simp only [PM.sumE] at this
  omega
open PM in
theorem task_levels_ok {kinds : List Ty} {tops : List En} (h : PP kinds tops) {n : Int} (h0 : 0 ≤ n) (h1 : n < sumE (size kinds) tops) :
    RF m_task_in_levels [.sh (planV kinds tops), .sh (.int n)] fun r fin => ∃ q : Pa, r = .sh (encA q) ∧ q ≠ [] ∧ q.length ≤ 40 ∧ Val kinds tops q ∧ numL kinds tops q = n ∧ fin = [some (.sh (planV kinds tops)), none] := by
  have hK := h.ok
  have hlv := h.levs
  have htot := total_levels hK h.okE (Nat.le_refl (mxl kinds tops))
  refine RF_def rfl (by walk_at "nrm") ?_
  repeat walk_at "vw"
  refine RS_wh (m := mxl kinds tops) (fun m δ => ∃ L : Nat, δ = [some (.sh (planV kinds tops)), some (.sh (.int (n - sumN (ltot kinds tops) L))), some (.sh (.int (L : Nat))), none, none, none, none, none] ∧ m + L = mxl kinds tops ∧ 0 ≤ n - sumN (ltot kinds tops) L) ⟨0, by simp [sumN], by omega, by simp [sumN]; omega⟩ ?_
  rintro m δ ⟨L, rfl, hm, hL⟩
  repeat walk_at "vw"
  refine RF.mono (level_total_ok h L) ?_
  rintro r fin ⟨rfl, rfl⟩
  repeat walk_at "vw"
  refine CB_d (fun hge => ?_) (fun hlt => ?_)
  · have hLl : L < mxl kinds tops := by
      rcases Nat.lt_or_ge L (mxl kinds tops) with c | c
      · exact c
      · have : L = mxl kinds tops := by omega
        rw [this, htot] at hL
        omega
    repeat walk_at "vw"
    refine RF.mono (level_total_ok h L) ?_
    rintro r fin ⟨rfl, rfl⟩
    repeat walk_at "vw"
    refine ⟨m - 1, by omega, L + 1, ?_, by omega, ?_⟩
    · have : n - sumN (ltot kinds tops) L - sumE (fun c => desc kinds c L) tops = n - sumN (ltot kinds tops) (L + 1) := by simp only [sumN, ltot]; omega
      rw [this]
      rfl
    · have : n - sumN (ltot kinds tops) (L + 1) = n - sumN (ltot kinds tops) L - sumE (fun c => desc kinds c L) tops := by simp only [sumN, ltot]; omega
      rw [this]
      omega
  have hLl : L < mxl kinds tops := by
    rcases Nat.lt_or_ge L (mxl kinds tops) with c | c
    · exact c
    · have e : L = mxl kinds tops := by omega
      have := ltot_nonneg hK h.okE L
      unfold ltot at this
      rw [e, htot] at hL
      omega
  generalize hn' : n - sumN (ltot kinds tops) L = n' at hL hlt
  repeat walk_at "vw"
  refine RF.mono root_ok ?_
  rintro r fin ⟨rfl, rfl⟩
  repeat walk_at "vw"
  refine ⟨by simp [inR]; omega, by decide, ?_⟩
  rw [show ((L : Int) - -1).toNat = L + 1 by omega]
  refine RL_inv (fun done δ => ∃ (m : Int) (q : Pa) (rows : List En) (j5 j6 j7 : Option O), δ = [some (.sh (planV kinds tops)), some (.sh (.int m)), some (.sh (.int (L : Nat))), some (.sh (.tup (q.map encS))), some (.lst (rows.map encE)), j5, j6, j7] ∧
      q.length = done.length ∧ Val kinds tops q ∧ rows = rowsP kinds tops q ∧ m + rkLn kinds (L + 1 - done.length) tops q = n' ∧ 0 ≤ m ∧ (done.length ≤ L → m < sumE (fun c => desc kinds c (L - done.length)) rows) ∧ (done.length = L + 1 → m = 0))
    ⟨n', [], tops, _, _, _, rfl, rfl, trivial, rfl, by simp [rkLn], hL, fun _ => by simp only [List.length_nil, Nat.sub_zero]; omega, fun z => by simp at z⟩ ?_ ?_
  · rintro done k rest δ hl ⟨m, q, rows, j5, j6, j7, rfl, hql, hqv, hrw, hmr, hm0, hm1, _⟩
    have hdl : done.length ≤ L := by have := congrArg List.length hl; simp at this; omega
    have hk : k = done.length := by
      have e1 := congrArg (fun l => l[done.length]?) hl
      simp only [List.getElem?_append_right (Nat.le_refl _), Nat.sub_self, List.getElem?_cons_zero] at e1
      rw [List.getElem?_range (by omega)] at e1
      exact (Option.some.inj e1).symm
    subst hk
    have hm1 := hm1 hdl
    have hbel : ((L : Nat) : Int) - (done.length : Nat) = ((L - done.length : Nat) : Int) := by omega
    have hrr := h.row q
    have hrl := h.rowl q
    rw [← hrw] at hrr hrl
    obtain ⟨j, e, m', _, he, hm0', hm1', hms⟩ := pick_ok (at0 := 0) hm0 hm1
    have hes := (hrr e (mem_at he)).1
    have hec := (hrr e (mem_at he)).2.2
    have hD0 := desc_nonneg hK e.1 (L - done.length)
    have hD := pos_of_mul hm0' hm1' hD0
    refine ⟨_, by walk_at "gt", ?_⟩
    rw [hbel]
    repeat walk_at "vw"
    have hjl := (List.getElem?_eq_some_iff.mp he).1
    refine RS_wh (m := j) (fun w δ => ∃ a : Nat, δ = [some (.sh (planV kinds tops)), some (.sh (.int (m - sumE (fun c => desc kinds c (L - done.length)) (rows.take a)))), some (.sh (.int (L : Nat))), some (.sh (.tup (q.map encS))), some (.lst (rows.map encE)), some (.sh (.int ((L - done.length : Nat) : Int))), some (.sh (.int (a : Nat))), j7] ∧ w + a = j)
      ⟨0, by simp [sumE], by omega⟩ ?_
    rintro w δ ⟨a, rfl, hwa⟩
    obtain ⟨ea, hea⟩ : ∃ ea, rows[a]? = some ea := ⟨rows[a]'(by omega), by simp⟩
    have hax : atI (rows.map encE) (a : Int) = some (encE ea) := atI_nat (by rw [List.getElem?_map, hea]; rfl)
    have heas := hrr ea (mem_at hea)
    have hta := take_at (fun c => desc kinds c (L - done.length)) hea
    repeat walk_at "vw"
    refine R1_of _ (opIx_lst hax) ?_
    repeat walk_at "vw"
    refine R1_of _ (opIx_lst hax) ?_
    repeat walk_at "vw"
    refine RF.mono (descendants_ok hK h.nd heas.1 (L - done.length)) ?_
    rintro r fin ⟨rfl, rfl⟩
    repeat walk_at "vw"
    refine R1_of _ (opMul_cnt heas.2.2) ?_
    repeat walk_at "vw"
    by_cases haj : a < j
    · have hle := take_le (f := fun c => desc kinds c (L - done.length)) (rows := rows) (p := a) (p' := j) (fun x hx => ⟨desc_nonneg hK _ _, by have := (hrr x hx).2.2.1; omega⟩) hea haj
      refine CB_yes (decide_eq_true (by omega)) ?_
      repeat walk_at "vw"
      refine R1_of _ (opIx_lst hax) ?_
      repeat walk_at "vw"
      refine R1_of _ (opIx_lst hax) ?_
      repeat walk_at "vw"
      refine RF.mono (descendants_ok hK h.nd heas.1 (L - done.length)) ?_
      rintro r fin ⟨rfl, rfl⟩
      repeat walk_at "vw"
      refine R1_of _ (opMul_cnt heas.2.2) ?_
      repeat walk_at "vw"
      refine ⟨w - 1, by omega, a + 1, ?_, by omega⟩
      have e1 : m - sumE (fun c => desc kinds c (L - done.length)) (rows.take a) - ea.2 * desc kinds ea.1 (L - done.length) = m - sumE (fun c => desc kinds c (L - done.length)) (rows.take (a + 1)) := by omega
      rw [e1]
      rfl
    · have haj' : a = j := by omega
      subst haj'
      rw [he] at hea
      cases hea
      have e1 : m - sumE (fun c => desc kinds c (L - done.length)) (rows.take a) = m' := by omega
      rw [e1]
      refine CB_no (decide_eq_false (by omega)) ?_
      repeat walk_at "vw"
      refine R1_of _ (opIx_lst hax) ?_
      repeat walk_at "vw"
      refine RF.mono (descendants_ok hK h.nd hes (L - done.length)) ?_
      rintro r fin ⟨rfl, rfl⟩
      repeat walk_at "vw"
      refine R1_of _ (opDiv_int (h.div hD)) ?_
      repeat walk_at "vw"
      refine R1_of (o := .sh (.tup ((q ++ [(a, m' / desc kinds e.1 (L - done.length))]).map encS))) _ ?_ ?_
      · show (if _ then _ else _) = _
        rw [if_pos (by rw [List.length_map]; exact sl_le (by simp; omega)), List.map_append]
        rfl
      repeat walk_at "vw"
      refine R1_of _ (opMod_int hD) ?_
      repeat walk_at "vw"
      refine R1_of _ (opIx_lst hax) ?_
      repeat walk_at "vw"
      refine RF.mono (entries_ok h.nd hes) ?_
      rintro r fin ⟨rfl, rfl⟩
      repeat walk_at "vw"
      have ds := div_split (m := m') hD
      have hi1 : m' / desc kinds e.1 (L - done.length) < e.2 := Int.ediv_lt_of_lt_mul hD hm1'
      have hi0 : 0 ≤ m' / desc kinds e.1 (L - done.length) := Int.ediv_nonneg hm0' (by omega)
      have hq' : (rowsP kinds tops q)[a]? = some e := by rw [← hrw]; exact he
      refine ⟨_, q ++ [(a, m' / desc kinds e.1 (L - done.length))], _, _, _, _, rfl, by simp [hql], val_snoc hqv hq' hi0 hi1, (rowsP_snoc hqv hq').symm, ?_, ds.2.1, fun hd => ?_, fun hd => ?_⟩
      · have r1 : L + 1 - (done ++ [done.length]).length = L - done.length := by simp <;> omega
        rw [r1, rkLn_snoc hqv hq', ← hrw, show L - done.length + 1 = L + 1 - done.length by omega]
        omega
      · have r1 : L - done.length = (L - (done ++ [done.length]).length) + 1 := by simp at hd ⊢; omega
        rw [← desc_succ hK, ← r1]
        exact ds.2.2
      · have r1 : L - done.length = 0 := by simp at hd; omega
        have := ds.2
        rw [r1, desc_zero hes] at this ⊢
        omega
  · rintro δ ⟨m, q, rows, j5, j6, j7, rfl, hql, hqv, hrw, hmr, hm0, _, hmz⟩
    simp only [List.length_range] at hql hmr hmz
    have hmz := hmz (by first | exact rfl | exact trivial)
    subst hmz
    repeat walk_at "vw"
    refine ⟨fun z => by rw [z] at hql; simp at hql, by omega, hqv, ?_, rfl⟩
    unfold numL
    rw [hql, Nat.add_sub_cancel, ← rkLn_zero]
    rw [Nat.sub_self] at hmr
    omega
end Pg
namespace Pg
open PySem PySem.Spec L2 VS
local macro_rules | `(tactic| walk_at "gt") => `(tactic| (simp only [gT, gsCons, gN, gsNil, Option.bind_some, List.length_cons, List.length_nil, List.set_cons_zero, List.set_cons_succ, Nat.reduceAdd, if_true] <;> exact rfl))
local macro_rules | `(tactic| walk_at "nrm") => `(tactic| (simp only [List.set_cons_zero, List.set_cons_succ, List.map_cons, List.map_nil, List.length_cons, List.length_nil, List.replicate, List.cons_append, List.nil_append, Nat.reduceSub, selM, ins, O.fz, wipeD, savD, unwD, List.getElem?_cons_zero, List.getElem?_cons_succ, Option.join_some, Option.join_none] <;> exact rfl))
local macro_rules | `(tactic| walk_at "vw") => `(tactic| first
  | with_reducible refine RX_x2 ?_ | with_reducible refine RX_C ?_ | with_reducible refine RX_Vs rfl ?_ | with_reducible refine RX_Va rfl rfl ?_
  | with_reducible refine RV_sh _ ?_ | with_reducible refine RV_val _ ?_ | with_reducible refine RV_at _ rfl ?_
  | with_reducible refine RK_val _ ?_ | with_reducible refine RK_at _ rfl (by walk_at "nrm") ?_
  | with_reducible refine RS_seq ?_ | with_reducible refine thenS_nx ?_ | with_reducible refine thenS_rt ?_ | with_reducible refine loopS_nx ?_ | with_reducible refine loopS_rt ?_ | with_reducible refine loopS_ct ?_ | with_reducible refine loopS_bk ?_ | with_reducible refine thenS_bk ?_ | with_reducible refine thenS_ct ?_ | with_reducible refine endF_rt (by walk_at "nrm") ?_ | with_reducible refine endF_nx (by walk_at "nrm") ?_
  | with_reducible refine RS_set ?_ | with_reducible refine RS_ret ?_ | with_reducible refine RS_if ?_ | with_reducible refine RS_expr ?_ | with_reducible refine RS_sub ?_ | with_reducible refine RS_attr ?_ | with_reducible refine RS_nil ?_ | with_reducible refine RS_par ?_ | with_reducible refine RS_asg ?_
  | with_reducible refine RX_call ?_ | with_reducible refine RX_bi ?_ | with_reducible refine RX_x1 ?_ | with_reducible refine RX_tup ?_ | with_reducible refine RX_lst ?_
  | with_reducible refine RA_f ?_ | with_reducible refine RA_t ?_ | with_reducible refine RA_nil ?_ | with_reducible refine RB_cons ?_ | with_reducible refine RB_nil ?_
  | with_reducible refine RT_Y ?_ | with_reducible refine RT_tB ?_ | with_reducible refine RT_not ?_ | with_reducible refine RT_and ?_ | with_reducible refine RT_or ?_ | with_reducible refine RX_and ?_ | with_reducible refine RX_or ?_ | with_reducible refine RX_not ?_ | with_reducible refine RX_if ?_ | with_reducible refine RX_ch ?_
  | with_reducible refine CB_t ?_ | with_reducible refine CB_f ?_ | with_reducible refine CB_n ?_
  | with_reducible refine RX_mut rfl rfl ?_ | with_reducible refine RS_for ?_ | with_reducible refine RI_enmU ?_ | with_reducible refine RI_seq ?_ | with_reducible refine RI_rg1 ?_ | with_reducible refine RI_rg3 ?_ | with_reducible refine RX_lc ?_ | with_reducible refine RX_dc ?_ | with_reducible refine RX_dK ?_ | with_reducible refine RX_sl ?_ | with_reducible refine RO_N ?_ | with_reducible refine RO_E ?_ | with_reducible refine RX_fld ?_ | with_reducible refine RX_meth ?_ | with_reducible refine RX_make ?_ | with_reducible refine RX_o2 ?_
  | with_reducible refine R1_of _ (opMod_int (by decide)) ?_ | with_reducible refine R1_of _ (opDiv_int (by decide)) ?_ | with_reducible refine R1_of _ (opMul_l (by first | decide | omega)) ?_ | with_reducible refine R1_of _ (opMul_r (by first | decide | omega)) ?_ | with_reducible refine R1_of _ (opPow_ok (by first | decide | omega)) ?_
  | refine R1_of _ rfl ?_
  | (fail_if_success (with_reducible refine RF_id ?_)); (fail_if_success (with_reducible refine RL_id ?_)); (fail_if_success (with_reducible refine RS_whid ?_)); (fail_if_success (with_reducible refine inR_id ?_)); first | refine ⟨_, by walk_at "nrm", ?_⟩ | refine ⟨_, _, rfl, ?_⟩ | refine ⟨_, rfl, ?_⟩ | refine ⟨rfl, ?_⟩ | refine ⟨Nat.le_of_ble_eq_true rfl, ?_⟩ | refine ⟨_, _, rfl, rfl, ?_⟩)
theorem drop_at {rows : List En} {j : Nat} {e : En} (f : Str → Int) (he : rows[j]? = some e) : PM.sumE f (rows.drop j) = e.2 * f e.1 + PM.sumE f (rows.drop (j + 1)) := by
  have hj := (List.getElem?_eq_some_iff.mp he)
  rw [List.drop_eq_getElem_cons hj.1, hj.2]
  rfl
theorem drop_ge {rows : List En} {f : Str → Int} (h : ∀ e ∈ rows, 0 ≤ f e.1 ∧ 0 ≤ e.2) (j : Nat) : 0 ≤ PM.sumE f (rows.drop j) := PM.sumE_nonneg fun e he => h e (List.mem_of_mem_drop he)
open PM in
theorem task_depth_ok {kinds : List Ty} {tops : List En} (h : PP kinds tops) {n : Int} (h0 : 0 ≤ n) (h1 : n < sumE (size kinds) tops) :
    RF m_task_in_depth [.sh (planV kinds tops), .sh (.int n)] fun r fin => ∃ q : Pa, r = .sh (encA q) ∧ q ≠ [] ∧ q.length ≤ 40 ∧ Val kinds tops q ∧ rkD kinds tops q = n ∧ fin = [some (.sh (planV kinds tops)), none] := by
  have hK := h.ok
  have hlv := h.levs
  refine RF_def rfl (by walk_at "nrm") ?_
  repeat walk_at "vw"
  refine RF.mono root_ok ?_
  rintro r fin ⟨rfl, rfl⟩
  repeat walk_at "vw"
  refine RS_wh (m := (n + 1).toNat) (fun w δ => ∃ (m : Int) (q : Pa) (rows : List En) (j4 j5 j6 : Option O), δ = [some (.sh (planV kinds tops)), some (.sh (.int m)), some (.sh (.tup (q.map encS))), some (.lst (rows.map encE)), j4, j5, j6] ∧
      Val kinds tops q ∧ rows = rowsP kinds tops q ∧ m + rkDn kinds tops q = n ∧ -1 ≤ m ∧ m < sumE (size kinds) rows ∧ w = (m + 1).toNat)
    ⟨n, [], tops, _, _, _, rfl, trivial, rfl, by simp [rkDn], by omega, h1, rfl⟩ ?_
  rintro w δ ⟨m, q, rows, j4, j5, j6, rfl, hqv, hrw, hmr, hm0, hm1, hw⟩
  repeat walk_at "vw"
  refine CB_d (fun hge => ?_) (fun hlt => ?_)
  · have hge : 0 ≤ m := hge
    have hrr := h.row q
    have hrl := h.rowl q
    rw [← hrw] at hrr hrl
    have hnn : ∀ e ∈ rows, 0 ≤ size kinds e.1 ∧ 0 ≤ e.2 := fun e he => ⟨size_nonneg hK _, by have := (hrr e he).2.2.1; omega⟩
    have hql : q.length < 40 := by
      rcases Nat.lt_or_ge q.length 40 with c | c
      · exact c
      · exfalso
        have hq0 : q ≠ [] := fun z => by rw [z] at c; simp at c
        have hl := val_lev hK h.okE hq0 hqv
        -- a row left would lie deeper than the levels reach
        have hne : rows ≠ [] := fun z => by rw [z] at hm1; simp [sumE] at hm1; omega
        obtain ⟨e0, r0, e1⟩ := List.exists_cons_of_ne_nil hne
        have he0 : rows[0]? = some e0 := by rw [e1]; rfl
        have hc0 := (hrr e0 (by rw [e1]; simp)).2.2.1
        have hv2 := val_snoc (i := 0) hqv (by rw [← hrw]; exact he0) (by omega) (by omega)
        have := val_lev hK h.okE (by simp) hv2
        simp at this
        omega
    repeat walk_at "vw"
    have hrn : rows.length ≠ 0 := fun z => by
      have : rows = [] := List.eq_nil_of_length_eq_zero z
      rw [this] at hm1
      simp [sumE] at hm1
      omega
    have hlen : ((rows.map encE).length : Int) - 1 = ((rows.length - 1 : Nat) : Int) := by rw [List.length_map]; omega
    rw [hlen]
    refine RS_wh (m := rows.length) (fun w δ => ∃ a : Nat, δ = [some (.sh (planV kinds tops)), some (.sh (.int (m - sumE (size kinds) (rows.drop (a + 1))))), some (.sh (.tup (q.map encS))), some (.lst (rows.map encE)), some (.sh (.int (a : Nat))), j5, j6] ∧ w = a + 1 ∧ a < rows.length ∧ 0 ≤ m - sumE (size kinds) (rows.drop (a + 1)))
      ⟨rows.length - 1, by rw [show rows.length - 1 + 1 = rows.length by omega, List.drop_length]; simp [sumE], by omega, by omega, by rw [show rows.length - 1 + 1 = rows.length by omega, List.drop_length]; simp [sumE]; omega⟩ ?_
    rintro w2 δ ⟨a, rfl, hwa, hal, ham⟩
    obtain ⟨ea, hea⟩ : ∃ ea, rows[a]? = some ea := ⟨rows[a]'(by omega), by simp⟩
    have hax : atI (rows.map encE) (a : Int) = some (.tup [.str ea.1, .int ea.2]) := atI_nat (by rw [List.getElem?_map, hea]; rfl)
    have heas := hrr ea (mem_at hea)
    have hda := drop_at (size kinds) hea
    have hsz := size_pos hK heas.1
    repeat walk_at "vw"
    refine R1_of _ (opIx_lst hax) ?_
    repeat walk_at "vw"
    refine R1_of _ (opIx_lst hax) ?_
    repeat walk_at "vw"
    refine RF.mono (tree_size_ok h heas.1) ?_
    rintro r fin ⟨rfl, rfl⟩
    repeat walk_at "vw"
    refine R1_of _ (opMul_cnt heas.2.2) ?_
    repeat walk_at "vw"
    refine CB_d (fun hge2 => ?_) (fun hlt2 => ?_)
    · have hge2 : ea.2 * size kinds ea.1 ≤ m - sumE (size kinds) (rows.drop (a + 1)) := hge2
      have ha0 : 0 < a := by
        rcases Nat.eq_zero_or_pos a with c | c
        · subst c
          rw [List.drop_zero] at hda
          omega
        · exact c
      repeat walk_at "vw"
      refine R1_of _ (opIx_lst hax) ?_
      repeat walk_at "vw"
      refine R1_of _ (opIx_lst hax) ?_
      repeat walk_at "vw"
      refine RF.mono (tree_size_ok h heas.1) ?_
      rintro r fin ⟨rfl, rfl⟩
      repeat walk_at "vw"
      refine R1_of _ (opMul_cnt heas.2.2) ?_
      repeat walk_at "vw"
      refine ⟨w2 - 1, by omega, a - 1, ?_, by omega, by omega, ?_⟩
      · rw [show a - 1 + 1 = a by omega, hda, show m - sumE (size kinds) (rows.drop (a + 1)) - ea.2 * size kinds ea.1 = m - (ea.2 * size kinds ea.1 + sumE (size kinds) (rows.drop (a + 1))) by omega, show ((a : Nat) : Int) - 1 = ((a - 1 : Nat) : Int) by omega]
      · rw [show a - 1 + 1 = a by omega, hda]
        omega
    · have hlt2 : m - sumE (size kinds) (rows.drop (a + 1)) < ea.2 * size kinds ea.1 := by omega
      generalize hm' : m - sumE (size kinds) (rows.drop (a + 1)) = m' at ham hlt2
      repeat walk_at "vw"
      refine R1_of _ (opIx_lst hax) ?_
      repeat walk_at "vw"
      refine RF.mono (tree_size_ok h heas.1) ?_
      rintro r fin ⟨rfl, rfl⟩
      repeat walk_at "vw"
      refine R1_of _ (opDiv_int (h.divS hsz)) ?_
      repeat walk_at "vw"
      refine R1_of (o := .sh (.tup ((q ++ [(a, ea.2 - 1 - m' / size kinds ea.1)]).map encS))) _ ?_ ?_
      · show (if _ then _ else _) = _
        rw [if_pos (by rw [List.length_map]; exact sl_le (by simp; omega)), List.map_append]
        rfl
      repeat walk_at "vw"
      refine RF.mono (tree_size_ok h heas.1) ?_
      rintro r fin ⟨rfl, rfl⟩
      repeat walk_at "vw"
      refine R1_of _ (opMod_int hsz) ?_
      repeat walk_at "vw"
      refine RF.mono (entries_ok h.nd heas.1) ?_
      rintro r fin ⟨rfl, rfl⟩
      repeat walk_at "vw"
      have ds := div_split (m := m') (D := size kinds ea.1) (by omega)
      have hi1 : m' / size kinds ea.1 < ea.2 := Int.ediv_lt_of_lt_mul (by omega) hlt2
      have hi0 : 0 ≤ m' / size kinds ea.1 := Int.ediv_nonneg ham (by omega)
      have hq' : (rowsP kinds tops q)[a]? = some ea := by rw [← hrw]; exact hea
      have hmm : m' % size kinds ea.1 ≤ m' := by
        have := Int.mul_nonneg hi0 (show 0 ≤ size kinds ea.1 by omega)
        have := ds.1
        omega
      have hdn := drop_ge hnn (a + 1)
      refine ⟨_, by rw [hw]; omega, _, q ++ [(a, ea.2 - 1 - m' / size kinds ea.1)], _, _, _, _, rfl, val_snoc hqv hq' (by omega) (by omega), (rowsP_snoc hqv hq').symm, ?_, by omega, ?_, rfl⟩
      · rw [rkDn_snoc hqv hq', ← hrw, show ea.2 - 1 - (ea.2 - 1 - m' / size kinds ea.1) = m' / size kinds ea.1 by omega]
        omega
      · have := size_eq hK heas.1
        omega
  · have hm : m = -1 := by
      have : ¬ (0 ≤ m) := hlt
      omega
    subst hm
    repeat walk_at "vw"
    have hq0 : q ≠ [] := fun z => by
      rw [z] at hmr
      simp only [rkDn] at hmr
      omega
    have := val_lev hK h.okE hq0 hqv
    refine ⟨hq0, by omega, hqv, ?_, rfl⟩
    rw [rkD_all hqv]
    omega
end Pg
namespace Pg
open PySem PySem.Spec L2 VS
local macro_rules | `(tactic| walk_at "gt") => `(tactic| (simp only [gT, gsCons, gN, gsNil, Option.bind_some, List.length_cons, List.length_nil, List.set_cons_zero, List.set_cons_succ, Nat.reduceAdd, if_true] <;> exact rfl))
local macro_rules | `(tactic| walk_at "nrm") => `(tactic| (simp only [List.set_cons_zero, List.set_cons_succ, List.map_cons, List.map_nil, List.length_cons, List.length_nil, List.replicate, List.cons_append, List.nil_append, Nat.reduceSub, selM, ins, O.fz, wipeD, savD, unwD, List.getElem?_cons_zero, List.getElem?_cons_succ, Option.join_some, Option.join_none] <;> exact rfl))
local macro_rules | `(tactic| walk_at "vw") => `(tactic| first
  | with_reducible refine RX_x2 ?_ | with_reducible refine RX_C ?_ | with_reducible refine RX_Vs rfl ?_ | with_reducible refine RX_Va rfl rfl ?_
  | with_reducible refine RV_sh _ ?_ | with_reducible refine RV_val _ ?_ | with_reducible refine RV_at _ rfl ?_
  | with_reducible refine RK_val _ ?_ | with_reducible refine RK_at _ rfl (by walk_at "nrm") ?_
  | with_reducible refine RS_seq ?_ | with_reducible refine thenS_nx ?_ | with_reducible refine thenS_rt ?_ | with_reducible refine loopS_nx ?_ | with_reducible refine loopS_rt ?_ | with_reducible refine loopS_ct ?_ | with_reducible refine loopS_bk ?_ | with_reducible refine thenS_bk ?_ | with_reducible refine thenS_ct ?_ | with_reducible refine endF_rt (by walk_at "nrm") ?_ | with_reducible refine endF_nx (by walk_at "nrm") ?_
  | with_reducible refine RS_set ?_ | with_reducible refine RS_ret ?_ | with_reducible refine RS_if ?_ | with_reducible refine RS_expr ?_ | with_reducible refine RS_sub ?_ | with_reducible refine RS_attr ?_ | with_reducible refine RS_nil ?_ | with_reducible refine RS_par ?_ | with_reducible refine RS_asg ?_
  | with_reducible refine RX_call ?_ | with_reducible refine RX_bi ?_ | with_reducible refine RX_x1 ?_ | with_reducible refine RX_tup ?_ | with_reducible refine RX_lst ?_
  | with_reducible refine RA_f ?_ | with_reducible refine RA_t ?_ | with_reducible refine RA_nil ?_ | with_reducible refine RB_cons ?_ | with_reducible refine RB_nil ?_
  | with_reducible refine RT_Y ?_ | with_reducible refine RT_tB ?_ | with_reducible refine RT_not ?_ | with_reducible refine RT_and ?_ | with_reducible refine RT_or ?_ | with_reducible refine RX_and ?_ | with_reducible refine RX_or ?_ | with_reducible refine RX_not ?_ | with_reducible refine RX_if ?_ | with_reducible refine RX_ch ?_
  | with_reducible refine CB_t ?_ | with_reducible refine CB_f ?_ | with_reducible refine CB_n ?_
  | with_reducible refine RX_mut rfl rfl ?_ | with_reducible refine RS_for ?_ | with_reducible refine RI_enmU ?_ | with_reducible refine RI_seq ?_ | with_reducible refine RI_rg1 ?_ | with_reducible refine RI_rg3 ?_ | with_reducible refine RX_lc ?_ | with_reducible refine RX_dc ?_ | with_reducible refine RX_dK ?_ | with_reducible refine RX_sl ?_ | with_reducible refine RO_N ?_ | with_reducible refine RO_E ?_ | with_reducible refine RX_fld ?_ | with_reducible refine RX_meth ?_ | with_reducible refine RX_make ?_ | with_reducible refine RX_o2 ?_
  | with_reducible refine R1_of _ (opMod_int (by decide)) ?_ | with_reducible refine R1_of _ (opDiv_int (by decide)) ?_ | with_reducible refine R1_of _ (opMul_l (by first | decide | omega)) ?_ | with_reducible refine R1_of _ (opMul_r (by first | decide | omega)) ?_ | with_reducible refine R1_of _ (opPow_ok (by first | decide | omega)) ?_
  | refine R1_of _ rfl ?_
  | (fail_if_success (with_reducible refine RF_id ?_)); (fail_if_success (with_reducible refine RL_id ?_)); (fail_if_success (with_reducible refine RS_whid ?_)); (fail_if_success (with_reducible refine inR_id ?_)); first | refine ⟨_, by walk_at "nrm", ?_⟩ | refine ⟨_, _, rfl, ?_⟩ | refine ⟨_, rfl, ?_⟩ | refine ⟨rfl, ?_⟩ | refine ⟨Nat.le_of_ble_eq_true rfl, ?_⟩ | refine ⟨_, _, rfl, rfl, ?_⟩)
/-- the number of a start -/
def numM (kinds : List Ty) (tops : List En) (m : Bool) (q : PM.Pa) : Int := if m then PM.numL kinds tops q else PM.rkD kinds tops q
theorem numM_range {kinds : List Ty} {tops : List En} (h : PP kinds tops) (m : Bool) {q : PM.Pa} (hq : q ≠ []) (hv : PM.Val kinds tops q) : 0 ≤ numM kinds tops m q ∧ numM kinds tops m q < PM.sumE (PM.size kinds) tops := by
  cases m with
  | true =>
    have := PM.numL_range h.ok h.okE hq hv
    exact ⟨this.2.2.1, this.2.2.2⟩
  | false =>
    obtain ⟨x, q', rfl⟩ := List.exists_cons_of_ne_nil hq
    obtain ⟨p, i⟩ := x
    exact PM.rkD_range h.ok q' h.okE hv
theorem numM_inj {kinds : List Ty} {tops : List En} (h : PP kinds tops) (m : Bool) {x y : PM.Pa} (hx : x ≠ []) (hy : y ≠ []) (vx : PM.Val kinds tops x) (vy : PM.Val kinds tops y) (e : numM kinds tops m x = numM kinds tops m y) : x = y := by
  cases m with
  | true => exact PM.numL_inj h.ok h.okE hx hy vx vy e
  | false => exact PM.rkD_inj h.ok h.okE vx vy e
theorem path_len {kinds : List Ty} {tops : List En} (h : PP kinds tops) {q : PM.Pa} (hv : PM.Val kinds tops q) : q.length ≤ 40 := by
  by_cases hq : q = []
  · rw [hq]; simp
  · have := PM.val_lev h.ok h.okE hq hv
    have := h.levs
    omega
theorem number_of_ok {kinds : List Ty} {tops : List En} (h : PP kinds tops) (m : Bool) {q : PM.Pa} (hq : q ≠ []) (hv : PM.Val kinds tops q) :
    RF m_number_of [.sh (planV kinds tops), .sh (modeD m), .sh (encA q)] fun r fin => r = .sh (.int (numM kinds tops m q)) ∧ fin = [some (.sh (planV kinds tops)), some (.sh (modeD m)), some (.sh (encA q))] := by
  have hl := path_len h hv
  have hp := List.length_pos_iff.mpr hq
  cases m with
  | true =>
    have he : opEq (modeD true) (.str "fifo") = some (.sh (.bl true)) := by kernel_rfl
    refine RF_def rfl (by walk_at "nrm") ?_
    repeat walk_at "vw"
    refine R1_of _ he ?_
    repeat walk_at "vw"
    unfold encA
    repeat walk_at "vw"
    rw [List.length_map, show (q.length : Int) - 1 = ((q.length - 1 : Nat) : Int) by omega]
    refine RF.mono (first_of_ok h (by omega)) ?_
    rintro r fin ⟨rfl, rfl⟩
    repeat walk_at "vw"
    refine RF.mono (rank_level_ok h (by omega) hv) ?_
    rintro r fin ⟨rfl, rfl⟩
    repeat walk_at "vw"
    rfl
  | false =>
    have he : opEq (modeD false) (.str "fifo") = some (.sh (.bl false)) := by kernel_rfl
    refine RF_def rfl (by walk_at "nrm") ?_
    repeat walk_at "vw"
    refine R1_of _ he ?_
    repeat walk_at "vw"
    refine RF.mono (rank_depth_ok h (by omega) hv) ?_
    rintro r fin ⟨rfl, rfl⟩
    repeat walk_at "vw"
    rfl
theorem task_at_ok {kinds : List Ty} {tops : List En} (h : PP kinds tops) (m : Bool) {n : Int} (h0 : 0 ≤ n) (h1 : n < PM.sumE (PM.size kinds) tops) :
    RF m_task_at [.sh (planV kinds tops), .sh (modeD m), .sh (.int n)] fun r fin => ∃ q : PM.Pa, r = .sh (encA q) ∧ q ≠ [] ∧ q.length ≤ 40 ∧ PM.Val kinds tops q ∧ numM kinds tops m q = n ∧ fin = [some (.sh (planV kinds tops)), some (.sh (modeD m)), some (.sh (.int n))] := by
  have ho : opEq (modeD m) (.str "fifo") = some (.sh (.bl m)) := by cases m <;> kernel_rfl
  refine RF_def rfl (by walk_at "nrm") ?_
  repeat walk_at "vw"
  refine RF.mono (disc_ok m) ?_
  rintro r fin ⟨rfl, rfl⟩
  repeat walk_at "vw"
  refine RF.mono (task_total_ok h) ?_
  rintro r fin ⟨rfl, rfl⟩
  repeat walk_at "vw"
  refine RF.mono (between_ok ⟨h0, by omega⟩) ?_
  rintro r fin ⟨rfl, rfl⟩
  repeat walk_at "vw"
  refine R1_of _ ho ?_
  repeat walk_at "vw"
  cases m with
  | true =>
    refine CB_t ?_
    repeat walk_at "vw"
    refine RF.mono (task_levels_ok h h0 h1) ?_
    rintro r fin ⟨q, rfl, hq, hl, hv, hn, rfl⟩
    repeat walk_at "vw"
    exact ⟨hq, hl, hv, hn, rfl⟩
  | false =>
    refine CB_f ?_
    repeat walk_at "vw"
    refine RF.mono (task_depth_ok h h0 h1) ?_
    rintro r fin ⟨q, rfl, hq, hl, hv, hn, rfl⟩
    repeat walk_at "vw"
    exact ⟨hq, hl, hv, hn, rfl⟩
end Pg
namespace Pg
open PySem PySem.Spec L2 VS
local macro_rules | `(tactic| walk_at "gt") => `(tactic| (simp only [gT, gsCons, gN, gsNil, Option.bind_some, List.length_cons, List.length_nil, List.set_cons_zero, List.set_cons_succ, Nat.reduceAdd, if_true] <;> exact rfl))
local macro_rules | `(tactic| walk_at "nrm") => `(tactic| (simp only [List.set_cons_zero, List.set_cons_succ, List.map_cons, List.map_nil, List.length_cons, List.length_nil, List.replicate, List.cons_append, List.nil_append, Nat.reduceSub, selM, ins, O.fz, wipeD, savD, unwD, List.getElem?_cons_zero, List.getElem?_cons_succ, Option.join_some, Option.join_none] <;> exact rfl))
local macro_rules | `(tactic| walk_at "vw") => `(tactic| first
  | with_reducible refine RX_x2 ?_ | with_reducible refine RX_C ?_ | with_reducible refine RX_Vs rfl ?_ | with_reducible refine RX_Va rfl rfl ?_
  | with_reducible refine RV_sh _ ?_ | with_reducible refine RV_val _ ?_ | with_reducible refine RV_at _ rfl ?_
  | with_reducible refine RK_val _ ?_ | with_reducible refine RK_at _ rfl (by walk_at "nrm") ?_
  | with_reducible refine RS_seq ?_ | with_reducible refine thenS_nx ?_ | with_reducible refine thenS_rt ?_ | with_reducible refine loopS_nx ?_ | with_reducible refine loopS_rt ?_ | with_reducible refine loopS_ct ?_ | with_reducible refine loopS_bk ?_ | with_reducible refine thenS_bk ?_ | with_reducible refine thenS_ct ?_ | with_reducible refine endF_rt (by walk_at "nrm") ?_ | with_reducible refine endF_nx (by walk_at "nrm") ?_
  | with_reducible refine RS_set ?_ | with_reducible refine RS_ret ?_ | with_reducible refine RS_if ?_ | with_reducible refine RS_expr ?_ | with_reducible refine RS_sub ?_ | with_reducible refine RS_attr ?_ | with_reducible refine RS_nil ?_ | with_reducible refine RS_par ?_ | with_reducible refine RS_asg ?_
  | with_reducible refine RX_call ?_ | with_reducible refine RX_bi ?_ | with_reducible refine RX_x1 ?_ | with_reducible refine RX_tup ?_ | with_reducible refine RX_lst ?_
  | with_reducible refine RA_f ?_ | with_reducible refine RA_t ?_ | with_reducible refine RA_nil ?_ | with_reducible refine RB_cons ?_ | with_reducible refine RB_nil ?_
  | with_reducible refine RT_Y ?_ | with_reducible refine RT_tB ?_ | with_reducible refine RT_not ?_ | with_reducible refine RT_and ?_ | with_reducible refine RT_or ?_ | with_reducible refine RX_and ?_ | with_reducible refine RX_or ?_ | with_reducible refine RX_not ?_ | with_reducible refine RX_if ?_ | with_reducible refine RX_ch ?_
  | with_reducible refine CB_t ?_ | with_reducible refine CB_f ?_ | with_reducible refine CB_n ?_
  | with_reducible refine RX_mut rfl rfl ?_ | with_reducible refine RS_for ?_ | with_reducible refine RI_enmU ?_ | with_reducible refine RI_seq ?_ | with_reducible refine RI_rg1 ?_ | with_reducible refine RI_rg3 ?_ | with_reducible refine RX_lc ?_ | with_reducible refine RX_dc ?_ | with_reducible refine RX_dK ?_ | with_reducible refine RX_sl ?_ | with_reducible refine RO_N ?_ | with_reducible refine RO_E ?_ | with_reducible refine RX_fld ?_ | with_reducible refine RX_meth ?_ | with_reducible refine RX_make ?_ | with_reducible refine RX_o2 ?_
  | with_reducible refine R1_of _ (opMod_int (by decide)) ?_ | with_reducible refine R1_of _ (opDiv_int (by decide)) ?_ | with_reducible refine R1_of _ (opMul_l (by first | decide | omega)) ?_ | with_reducible refine R1_of _ (opMul_r (by first | decide | omega)) ?_ | with_reducible refine R1_of _ (opPow_ok (by first | decide | omega)) ?_
  | refine R1_of _ rfl ?_
  | (fail_if_success (with_reducible refine RF_id ?_)); (fail_if_success (with_reducible refine RL_id ?_)); (fail_if_success (with_reducible refine RS_whid ?_)); (fail_if_success (with_reducible refine inR_id ?_)); first | refine ⟨_, by walk_at "nrm", ?_⟩ | refine ⟨_, _, rfl, ?_⟩ | refine ⟨_, rfl, ?_⟩ | refine ⟨rfl, ?_⟩ | refine ⟨Nat.le_of_ble_eq_true rfl, ?_⟩ | refine ⟨_, _, rfl, rfl, ?_⟩)
end Pg
namespace Pg
open PySem PySem.Spec L2 VS
local macro_rules | `(tactic| walk_at "gt") => `(tactic| (simp only [gT, gsCons, gN, gsNil, Option.bind_some, List.length_cons, List.length_nil, List.set_cons_zero, List.set_cons_succ, Nat.reduceAdd, if_true] <;> exact rfl))
local macro_rules | `(tactic| walk_at "nrm") => `(tactic| (simp only [List.set_cons_zero, List.set_cons_succ, List.map_cons, List.map_nil, List.length_cons, List.length_nil, List.replicate, List.cons_append, List.nil_append, Nat.reduceSub, selM, ins, O.fz, wipeD, savD, unwD, List.getElem?_cons_zero, List.getElem?_cons_succ, Option.join_some, Option.join_none] <;> exact rfl))
local macro_rules | `(tactic| walk_at "vw") => `(tactic| first
  | with_reducible refine RX_x2 ?_ | with_reducible refine RX_C ?_ | with_reducible refine RX_Vs rfl ?_ | with_reducible refine RX_Va rfl rfl ?_
  | with_reducible refine RV_sh _ ?_ | with_reducible refine RV_val _ ?_ | with_reducible refine RV_at _ rfl ?_
  | with_reducible refine RK_val _ ?_ | with_reducible refine RK_at _ rfl (by walk_at "nrm") ?_
  | with_reducible refine RS_seq ?_ | with_reducible refine thenS_nx ?_ | with_reducible refine thenS_rt ?_ | with_reducible refine loopS_nx ?_ | with_reducible refine loopS_rt ?_ | with_reducible refine loopS_ct ?_ | with_reducible refine loopS_bk ?_ | with_reducible refine thenS_bk ?_ | with_reducible refine thenS_ct ?_ | with_reducible refine endF_rt (by walk_at "nrm") ?_ | with_reducible refine endF_nx (by walk_at "nrm") ?_
  | with_reducible refine RS_set ?_ | with_reducible refine RS_ret ?_ | with_reducible refine RS_if ?_ | with_reducible refine RS_expr ?_ | with_reducible refine RS_sub ?_ | with_reducible refine RS_attr ?_ | with_reducible refine RS_nil ?_ | with_reducible refine RS_par ?_ | with_reducible refine RS_asg ?_
  | with_reducible refine RX_call ?_ | with_reducible refine RX_bi ?_ | with_reducible refine RX_x1 ?_ | with_reducible refine RX_tup ?_ | with_reducible refine RX_lst ?_
  | with_reducible refine RA_f ?_ | with_reducible refine RA_t ?_ | with_reducible refine RA_nil ?_ | with_reducible refine RB_cons ?_ | with_reducible refine RB_nil ?_
  | with_reducible refine RT_Y ?_ | with_reducible refine RT_tB ?_ | with_reducible refine RT_not ?_ | with_reducible refine RT_and ?_ | with_reducible refine RT_or ?_ | with_reducible refine RX_and ?_ | with_reducible refine RX_or ?_ | with_reducible refine RX_not ?_ | with_reducible refine RX_if ?_ | with_reducible refine RX_ch ?_
  | with_reducible refine CB_t ?_ | with_reducible refine CB_f ?_ | with_reducible refine CB_n ?_
  | with_reducible refine RX_mut rfl rfl ?_ | with_reducible refine RS_for ?_ | with_reducible refine RI_enmU ?_ | with_reducible refine RI_seq ?_ | with_reducible refine RI_rg1 ?_ | with_reducible refine RI_rg3 ?_ | with_reducible refine RX_lc ?_ | with_reducible refine RX_dc ?_ | with_reducible refine RX_dK ?_ | with_reducible refine RX_sl ?_ | with_reducible refine RO_N ?_ | with_reducible refine RO_E ?_ | with_reducible refine RX_fld ?_ | with_reducible refine RX_meth ?_ | with_reducible refine RX_make ?_ | with_reducible refine RX_o2 ?_
  | with_reducible refine R1_of _ (opMod_int (by decide)) ?_ | with_reducible refine R1_of _ (opDiv_int (by decide)) ?_ | with_reducible refine R1_of _ (opMul_l (by first | decide | omega)) ?_ | with_reducible refine R1_of _ (opMul_r (by first | decide | omega)) ?_ | with_reducible refine R1_of _ (opPow_ok (by first | decide | omega)) ?_
  | refine R1_of _ rfl ?_
  | (fail_if_success (with_reducible refine RF_id ?_)); (fail_if_success (with_reducible refine RL_id ?_)); (fail_if_success (with_reducible refine RS_whid ?_)); (fail_if_success (with_reducible refine inR_id ?_)); first | refine ⟨_, by walk_at "nrm", ?_⟩ | refine ⟨_, _, rfl, ?_⟩ | refine ⟨_, rfl, ?_⟩ | refine ⟨rfl, ?_⟩ | refine ⟨Nat.le_of_ble_eq_true rfl, ?_⟩ | refine ⟨_, _, rfl, rfl, ?_⟩)
end Pg
namespace Pg
open PySem PySem.Spec L2 VS
/-- every number is that of a task -/
theorem num_onto {kinds : List Ty} {tops : List En} (h : PP kinds tops) (m : Bool) {n : Int} (h0 : 0 ≤ n) (h1 : n < PM.sumE (PM.size kinds) tops) : ∃ q : PM.Pa, q ≠ [] ∧ PM.Val kinds tops q ∧ numM kinds tops m q = n := by
  obtain ⟨r, fin, _, q, _, hq, _, hv, hn, _⟩ := task_at_ok h m h0 h1
  exact ⟨q, hq, hv, hn⟩
/-- R have started, W wait -/
def QI (kinds : List Ty) (tops : List En) : Bool → List PM.Pa → List PM.Pa → Prop
  | true, R, W => PM.Que kinds tops (PM.dueL kinds tops) (PM.dueL kinds tops) R W ∧ PM.From kinds tops R W
  | false, R, W => PM.Que kinds tops (PM.dueD kinds tops) PM.brD R W.reverse
theorem QI_0 {kinds : List Ty} {tops : List En} (h : PP kinds tops) (m : Bool) : QI kinds tops m [] (PM.kids [] 0 tops) := by
  cases m with
  | true => exact PM.Que.fifo0 h.ok h.okE
  | false => exact PM.Que.lifo0 h.ok h.okE
/-- the next one to leave, and the rest -/
def popQ (m : Bool) (q : PM.Pa) (S : List PM.Pa) : List PM.Pa := if m then q :: S else S ++ [q]
theorem QI_step {kinds : List Ty} {tops : List En} (h : PP kinds tops) {m : Bool} {R S : List PM.Pa} {q : PM.Pa} (Q : QI kinds tops m R (popQ m q S)) : QI kinds tops m (R ++ [q]) (S ++ PM.kids q 0 (PM.rowsP kinds tops q)) := by
  cases m with
  | true => exact PM.Que.fifo h.ok h.okE Q.1 Q.2
  | false =>
    have Q2 : PM.Que kinds tops (PM.dueD kinds tops) PM.brD R (q :: S.reverse) := by
      have : PM.Que kinds tops (PM.dueD kinds tops) PM.brD R (S ++ [q]).reverse := Q
      simpa using this
    have := PM.Que.lifo h.ok h.okE Q2
    show PM.Que kinds tops (PM.dueD kinds tops) PM.brD (R ++ [q]) (S ++ PM.kids q 0 (PM.rowsP kinds tops q)).reverse
    rw [List.reverse_append]
    exact this
theorem QI_val {kinds : List Ty} {tops : List En} {m : Bool} {R W : List PM.Pa} (Q : QI kinds tops m R W) {q : PM.Pa} (hq : q ∈ R ∨ q ∈ W) : q ≠ [] ∧ PM.Val kinds tops q := by
  cases m with
  | true => exact Q.1.ok q (by simpa using hq)
  | false => exact PM.Que.ok Q q (by simpa using hq)
theorem Que_num {kinds : List Ty} {tops : List En} (h : PP kinds tops) {m : Bool} {lt wt : PM.Pa → PM.Pa → Prop} {R S : List PM.Pa} (Q : PM.Que kinds tops lt wt R S) (h1 : ∀ x y, lt x y → numM kinds tops m x < numM kinds tops m y) (h2 : ∀ x y, PM.Val kinds tops x → PM.Val kinds tops y → wt x y → numM kinds tops m x < numM kinds tops m y) :
    ((R ++ S).map (numM kinds tops m)).Pairwise (· < ·) := by
  rw [List.pairwise_map]
  refine List.pairwise_append.mpr ⟨Q.rr.imp fun {a b} => h1 a b, ?_, fun x hx y hy => h1 x y (Q.rs x hx y hy)⟩
  exact List.Pairwise.imp_of_mem (fun {a b} ha hb => h2 a b (Q.ok a (by simp [ha])).2 (Q.ok b (by simp [hb])).2) Q.ss
theorem total_nn {kinds : List Ty} {tops : List En} (h : PP kinds tops) : 0 ≤ PM.sumE (PM.size kinds) tops := h.okE.sumS h.ok
theorem QI_num {kinds : List Ty} {tops : List En} (h : PP kinds tops) {m : Bool} {R W : List PM.Pa} (Q : QI kinds tops m R W) : ((R ++ if m then W else W.reverse).map (numM kinds tops m)).Pairwise (· < ·) := by
  cases m with
  | true => exact Que_num h Q.1 (fun x y q => q) fun x y _ _ q => q
  | false => exact Que_num h (S := W.reverse) Q (fun x y q => q) fun x y vx vy q => PM.rkD_lt h.ok h.okE vx vy (PM.brD_lt q)
theorem QI_len {kinds : List Ty} {tops : List En} (h : PP kinds tops) {m : Bool} {R W : List PM.Pa} (Q : QI kinds tops m R W) : (R.length : Int) + W.length ≤ PM.sumE (PM.size kinds) tops := by
  have g := PM.grow_len (a := 0) (b := PM.sumE (PM.size kinds) tops) (QI_num h Q) (fun x hx => by
    obtain ⟨q, hq, rfl⟩ := List.mem_map.mp hx
    have o := QI_val Q (q := q) (by cases m <;> simpa using hq)
    exact numM_range h m o.1 o.2) (total_nn h)
  cases m <;> simp at g <;> omega
theorem QI_end {kinds : List Ty} {tops : List En} (h : PP kinds tops) {m : Bool} {R : List PM.Pa} (Q : QI kinds tops m R []) : (R.length : Int) = PM.sumE (PM.size kinds) tops ∧ ∀ (j : Nat) q, R[j]? = some q → q ≠ [] ∧ PM.Val kinds tops q ∧ numM kinds tops m q = j := by
  have hp := QI_num h Q
  have e : (R ++ if m then ([] : List PM.Pa) else [].reverse) = R := by cases m <;> simp
  rw [e] at hp
  have hall : ∀ q : PM.Pa, q ≠ [] → PM.Val kinds tops q → q ∈ R := fun q hq hv => by
    cases m with
    | true => exact Q.1.all q.length q rfl hq hv
    | false => exact PM.Que.all Q q.length q rfl hq hv
  have g := PM.grow_at (a := 0) (b := PM.sumE (PM.size kinds) tops) hp (fun x hx => by
    obtain ⟨q, hq, rfl⟩ := List.mem_map.mp hx
    have o := QI_val Q (.inl hq)
    exact numM_range h m o.1 o.2) (fun n h0 h1 => by
    obtain ⟨q, hq, hv, rfl⟩ := num_onto h m h0 h1
    exact List.mem_map_of_mem (hall q hq hv)) (total_nn h)
  refine ⟨by have := g.1; rw [List.length_map] at this; omega, fun j q hq => ?_⟩
  have o := QI_val Q (.inl (List.mem_of_getElem? hq))
  have := g.2 j (numM kinds tops m q) (by rw [List.getElem?_map, hq]; rfl)
  exact ⟨o.1, o.2, by omega⟩
end Pg
namespace Pg
open PySem PySem.Spec L2 VS
/-- a list of all tasks in the order of their starts -/
structure Ord (kinds : List Ty) (tops : List En) (m : Bool) (R : List PM.Pa) : Prop where
  len : (R.length : Int) = PM.sumE (PM.size kinds) tops
  at_ : ∀ (j : Nat) q, R[j]? = some q → q ≠ [] ∧ PM.Val kinds tops q ∧ numM kinds tops m q = j
theorem Ord.ok {kinds : List Ty} {tops : List En} {m : Bool} {R : List PM.Pa} (o : Ord kinds tops m R) {q : PM.Pa} (hq : q ∈ R) : q ≠ [] ∧ PM.Val kinds tops q := by
  obtain ⟨j, hj⟩ := List.getElem?_of_mem hq
  exact ⟨(o.at_ j q hj).1, (o.at_ j q hj).2.1⟩
theorem Ord.get {kinds : List Ty} {tops : List En} (h : PP kinds tops) {m : Bool} {R : List PM.Pa} (o : Ord kinds tops m R) {q : PM.Pa} (hq : q ≠ []) (hv : PM.Val kinds tops q) {j : Nat} (hn : numM kinds tops m q = j) : R[j]? = some q := by
  have r := numM_range h m hq hv
  have l := o.len
  have hj : j < R.length := by omega
  have e : R[j]? = some R[j] := List.getElem?_eq_getElem hj
  have a := o.at_ j _ e
  rw [e, numM_inj h m a.1 hq a.2.1 hv (by rw [a.2.2, hn])]
theorem Ord.all {kinds : List Ty} {tops : List En} (h : PP kinds tops) {m : Bool} {R : List PM.Pa} (o : Ord kinds tops m R) {q : PM.Pa} (hq : q ≠ []) (hv : PM.Val kinds tops q) : q ∈ R := by
  have r := numM_range h m hq hv
  exact List.mem_of_getElem? (o.get h hq hv (j := (numM kinds tops m q).toNat) (by omega))
theorem Ord.nodup {kinds : List Ty} {tops : List En} {m : Bool} {R : List PM.Pa} (o : Ord kinds tops m R) : R.Nodup := by
  rw [List.Nodup, List.pairwise_iff_getElem]
  intro i j hi hj hij e
  have a := (o.at_ i _ (List.getElem?_eq_getElem hi)).2.2
  have b := (o.at_ j _ (List.getElem?_eq_getElem hj)).2.2
  rw [e] at a
  omega
end Pg
namespace Pg
open PySem PySem.Spec L2 VS Pg
local macro_rules | `(tactic| walk_at "gt") => `(tactic| (simp only [gT, gsCons, gN, gsNil, Option.bind_some, List.length_cons, List.length_nil, List.set_cons_zero, List.set_cons_succ, Nat.reduceAdd, if_true] <;> exact rfl))
local macro_rules | `(tactic| walk_at "nrm") => `(tactic| (simp only [List.set_cons_zero, List.set_cons_succ, List.map_cons, List.map_nil, List.length_cons, List.length_nil, List.replicate, List.cons_append, List.nil_append, Nat.reduceSub, selM, ins, O.fz, wipeD, savD, unwD, List.getElem?_cons_zero, List.getElem?_cons_succ, Option.join_some, Option.join_none] <;> exact rfl))
local macro_rules | `(tactic| walk_at "vw") => `(tactic| first
  | with_reducible refine RX_x2 ?_ | with_reducible refine RX_C ?_ | with_reducible refine RX_Vs rfl ?_ | with_reducible refine RX_Va rfl rfl ?_
  | with_reducible refine RV_sh _ ?_ | with_reducible refine RV_val _ ?_ | with_reducible refine RV_at _ rfl ?_
  | with_reducible refine RK_val _ ?_ | with_reducible refine RK_at _ rfl (by walk_at "nrm") ?_
  | with_reducible refine RS_seq ?_ | with_reducible refine thenS_nx ?_ | with_reducible refine thenS_rt ?_ | with_reducible refine loopS_nx ?_ | with_reducible refine loopS_rt ?_ | with_reducible refine loopS_ct ?_ | with_reducible refine loopS_bk ?_ | with_reducible refine thenS_bk ?_ | with_reducible refine thenS_ct ?_ | with_reducible refine endF_rt (by walk_at "nrm") ?_ | with_reducible refine endF_nx (by walk_at "nrm") ?_
  | with_reducible refine RS_set ?_ | with_reducible refine RS_ret ?_ | with_reducible refine RS_if ?_ | with_reducible refine RS_expr ?_ | with_reducible refine RS_sub ?_ | with_reducible refine RS_attr ?_ | with_reducible refine RS_nil ?_ | with_reducible refine RS_par ?_ | with_reducible refine RS_asg ?_
  | with_reducible refine RX_call ?_ | with_reducible refine RX_bi ?_ | with_reducible refine RX_x1 ?_ | with_reducible refine RX_tup ?_ | with_reducible refine RX_lst ?_
  | with_reducible refine RA_f ?_ | with_reducible refine RA_t ?_ | with_reducible refine RA_nil ?_ | with_reducible refine RB_cons ?_ | with_reducible refine RB_nil ?_
  | with_reducible refine RT_Y ?_ | with_reducible refine RT_tB ?_ | with_reducible refine RT_not ?_ | with_reducible refine RT_and ?_ | with_reducible refine RT_or ?_ | with_reducible refine RX_and ?_ | with_reducible refine RX_or ?_ | with_reducible refine RX_not ?_ | with_reducible refine RX_if ?_ | with_reducible refine RX_ch ?_
  | with_reducible refine CB_t ?_ | with_reducible refine CB_f ?_ | with_reducible refine CB_n ?_
  | with_reducible refine RX_mut rfl rfl ?_ | with_reducible refine RS_for ?_ | with_reducible refine RI_enmU ?_ | with_reducible refine RI_seq ?_ | with_reducible refine RI_rg1 ?_ | with_reducible refine RI_rg3 ?_ | with_reducible refine RX_lc ?_ | with_reducible refine RX_dc ?_ | with_reducible refine RX_dK ?_ | with_reducible refine RX_sl ?_ | with_reducible refine RO_N ?_ | with_reducible refine RO_E ?_ | with_reducible refine RX_fld ?_ | with_reducible refine RX_meth ?_ | with_reducible refine RX_make ?_ | with_reducible refine RX_o2 ?_
  | with_reducible refine RX_q ?_ | with_reducible refine RLk_q ?_ | with_reducible refine RLk_at (by with_unfolding_all rfl) ?_ | with_reducible refine RLk_c ?_ | with_reducible refine RLs_nil ?_ | with_reducible refine RLs_cons ?_ | with_reducible refine RQ_2 ?_ | with_reducible refine RQ_bi ?_ | with_reducible refine RQ_tup ?_ | with_reducible refine RQ_lst ?_ | with_reducible refine RQ_get2 ?_ | with_reducible refine RQ_sl ?_ | with_reducible refine RLo_N ?_ | with_reducible refine RLo_E ?_ | with_reducible refine RQ_f ?_ | with_reducible refine RQ_1 ?_ | with_reducible refine RQ_at (by with_unfolding_all rfl) ?_
  | with_reducible refine RS_subP ?_ | with_reducible refine RS_par3 ?_ | with_reducible refine RX_callK ?_ | with_reducible refine RX_methP ?_ | with_reducible refine RX_mutP ?_ | with_reducible refine RQ_methR ?_
  | with_reducible refine R1_of _ (opMod_int (by decide)) ?_ | with_reducible refine R1_of _ (opDiv_int (by decide)) ?_ | with_reducible refine R1_of _ (opMul_l (by first | decide | omega)) ?_ | with_reducible refine R1_of _ (opMul_r (by first | decide | omega)) ?_ | with_reducible refine R1_of _ (opPow_ok (by first | decide | omega)) ?_
  | refine R1_of _ rfl ?_
  | (fail_if_success (with_reducible refine RF_id ?_)); (fail_if_success (with_reducible refine RL_id ?_)); (fail_if_success (with_reducible refine RS_whid ?_)); (fail_if_success (with_reducible refine inR_id ?_)); first | refine ⟨_, by walk_at "nrm", ?_⟩ | refine ⟨_, _, rfl, ?_⟩ | refine ⟨_, rfl, ?_⟩ | refine ⟨rfl, ?_⟩ | refine ⟨Nat.le_of_ble_eq_true rfl, ?_⟩ | refine ⟨_, _, rfl, rfl, ?_⟩)
def mkD (l : List Str) (f : Str → Int) : List (Key × D) := l.map fun s => (.inr s, .int (f s))
def DI (names : List Str) (ks : List (Key × D)) (f : Str → Int) : Prop := ∃ l : List Str, l.Nodup ∧ (∀ s ∈ l, s ∈ names) ∧ (∀ s ∈ names, s ∉ l → f s = 0) ∧ ks = mkD l f
theorem mkD_get {l : List Str} {f : Str → Int} {s : Str} : dget (mkD l f) (.inr s) = if s ∈ l then some (.int (f s)) else none := by
  induction l with
  | nil => rfl
  | cons a l ih =>
    have e : mkD (a :: l) f = (.inr a, .int (f a)) :: mkD l f := rfl
    rw [e, dget_cons, ih]
    by_cases h : a = s
    · subst h
      rw [if_pos rfl, if_pos List.mem_cons_self]
    · rw [if_neg fun q => h (Sum.inr.inj q)]
      by_cases h2 : s ∈ l
      · rw [if_pos h2, if_pos (List.mem_cons_of_mem _ h2)]
      · rw [if_neg h2, if_neg fun q => (List.mem_cons.mp q).elim (fun z => h z.symm) h2]
theorem DI.or {names : List Str} {ks : List (Key × D)} {f : Str → Int} (h : DI names ks f) {s : Str} (hs : s ∈ names) : getOr (.dK ks) (.str s) (.int 0) = some (.sh (.int (f s))) := by
  obtain ⟨l, h1, h2, h3, rfl⟩ := h
  have e : getOr (.dK (mkD l f)) (.str s) (.int 0) = (match dget (mkD l f) (.inr s) with
    | some v => some (.sh v)
    | none => some (.sh (.int 0))) := rfl
  rw [e, mkD_get]
  by_cases q : s ∈ l
  · rw [if_pos q]
  · rw [if_neg q, h3 s hs q]
theorem mkD_keys {l : List Str} {f : Str → Int} {s : Str} : ((mkD l f).any fun kv => decide (kv.1 = (.inr s : Key))) = decide (s ∈ l) := by
  induction l with
  | nil => rfl
  | cons a l ih =>
    have e : mkD (a :: l) f = (.inr a, .int (f a)) :: mkD l f := rfl
    rw [e, List.any_cons, ih]
    by_cases h : a = s
    · subst h; simp
    · have h' : ¬ s = a := fun q => h q.symm
      simp [h, h']
theorem DI.put {names : List Str} {ks : List (Key × D)} {f : Str → Int} (h : DI names ks f) {s : Str} (hs : s ∈ names) (v : Int) : DI names (dput ks (.inr s) (.int v)) (fun x => if x = s then v else f x) := by
  obtain ⟨l, h1, h2, h3, rfl⟩ := h
  unfold dput
  rw [mkD_keys]
  by_cases q : s ∈ l
  · rw [if_pos (by simpa using q)]
    refine ⟨l, h1, h2, fun x hx hn => ?_, ?_⟩
    · show (if x = s then v else f x) = 0
      rw [if_neg fun e => hn (by rw [e]; exact q)]
      exact h3 x hx hn
    · unfold mkD
      rw [List.map_map]
      refine List.map_congr_left fun x hx => ?_
      show (if (Sum.inr x : Key) = Sum.inr s then ((Sum.inr x : Key), D.int v) else (Sum.inr x, D.int (f x))) = (Sum.inr x, D.int (if x = s then v else f x))
      by_cases e : x = s
      · rw [if_pos (by rw [e]), if_pos e]
      · rw [if_neg fun z => e (Sum.inr.inj z), if_neg e]
  · rw [if_neg (by simpa using q)]
    refine ⟨l ++ [s], ?_, fun x hx => ?_, fun x hx hn => ?_, ?_⟩
    · exact List.nodup_append.mpr ⟨h1, by simp, fun a ha b hb e => q (by have : b = s := by simpa using hb
                                                                         rw [← this, ← e]; exact ha)⟩
    · rcases List.mem_append.mp hx with hx | hx
      · exact h2 x hx
      · rw [show x = s by simpa using hx]; exact hs
    · show (if x = s then v else f x) = 0
      rw [if_neg fun e => hn (by rw [e]; simp)]
      exact h3 x hx fun z => hn (List.mem_append_left _ z)
    · unfold mkD
      rw [List.map_append]
      congr 1
      · refine List.map_congr_left fun x hx => ?_
        show (Sum.inr x, D.int (f x)) = (Sum.inr x, D.int (if x = s then v else f x))
        rw [if_neg fun e => q (by rw [← e]; exact hx)]
      · simp
theorem DI.nil {names : List Str} : DI names [] (fun _ => 0) := ⟨[], List.nodup_nil, fun _ h => absurd h (by simp), fun _ _ _ => rfl, rfl⟩
theorem nodup_len {α : Type} [DecidableEq α] : ∀ {l m : List α}, l.Nodup → (∀ x ∈ l, x ∈ m) → l.length ≤ m.length
  | [], m, _, _ => Nat.zero_le _
  | a :: l, m, hn, h => by
    have hn' := List.nodup_cons.mp hn
    have ha : a ∈ m := h a List.mem_cons_self
    have hp := List.perm_cons_erase ha
    have := nodup_len (l := l) (m := m.erase a) hn'.2 fun x hx => by
      have : x ∈ a :: m.erase a := hp.mem_iff.mp (h x (List.mem_cons_of_mem _ hx))
      rcases List.mem_cons.mp this with e | e
      · exact absurd (by rw [← e]; exact hx) hn'.1
      · exact e
    have hl := hp.length_eq
    rw [List.length_cons] at hl ⊢
    omega
theorem DI.len {names : List Str} {ks : List (Key × D)} {f : Str → Int} (h : DI names ks f) : ks.length ≤ names.length := by
  obtain ⟨l, h1, h2, h3, rfl⟩ := h
  unfold mkD
  rw [List.length_map]
  exact nodup_len h1 h2
end Pg
namespace Pg
open PySem PySem.Spec L2 VS Pg
local macro_rules | `(tactic| walk_at "gt") => `(tactic| (simp only [gT, gsCons, gN, gsNil, Option.bind_some, List.length_cons, List.length_nil, List.set_cons_zero, List.set_cons_succ, Nat.reduceAdd, if_true] <;> exact rfl))
local macro_rules | `(tactic| walk_at "nrm") => `(tactic| (simp only [List.set_cons_zero, List.set_cons_succ, List.map_cons, List.map_nil, List.length_cons, List.length_nil, List.replicate, List.cons_append, List.nil_append, Nat.reduceSub, selM, ins, O.fz, wipeD, savD, unwD, List.getElem?_cons_zero, List.getElem?_cons_succ, Option.join_some, Option.join_none] <;> exact rfl))
local macro_rules | `(tactic| walk_at "vw") => `(tactic| first
  | with_reducible refine RX_x2 ?_ | with_reducible refine RX_C ?_ | with_reducible refine RX_Vs rfl ?_ | with_reducible refine RX_Va rfl rfl ?_
  | with_reducible refine RV_sh _ ?_ | with_reducible refine RV_val _ ?_ | with_reducible refine RV_at _ rfl ?_
  | with_reducible refine RK_val _ ?_ | with_reducible refine RK_at _ rfl (by walk_at "nrm") ?_
  | with_reducible refine RS_seq ?_ | with_reducible refine thenS_nx ?_ | with_reducible refine thenS_rt ?_ | with_reducible refine loopS_nx ?_ | with_reducible refine loopS_rt ?_ | with_reducible refine loopS_ct ?_ | with_reducible refine loopS_bk ?_ | with_reducible refine thenS_bk ?_ | with_reducible refine thenS_ct ?_ | with_reducible refine endF_rt (by walk_at "nrm") ?_ | with_reducible refine endF_nx (by walk_at "nrm") ?_
  | with_reducible refine RS_set ?_ | with_reducible refine RS_ret ?_ | with_reducible refine RS_if ?_ | with_reducible refine RS_expr ?_ | with_reducible refine RS_sub ?_ | with_reducible refine RS_attr ?_ | with_reducible refine RS_nil ?_ | with_reducible refine RS_par ?_ | with_reducible refine RS_asg ?_
  | with_reducible refine RX_call ?_ | with_reducible refine RX_bi ?_ | with_reducible refine RX_x1 ?_ | with_reducible refine RX_tup ?_ | with_reducible refine RX_lst ?_
  | with_reducible refine RA_f ?_ | with_reducible refine RA_t ?_ | with_reducible refine RA_nil ?_ | with_reducible refine RB_cons ?_ | with_reducible refine RB_nil ?_
  | with_reducible refine RT_Y ?_ | with_reducible refine RT_tB ?_ | with_reducible refine RT_not ?_ | with_reducible refine RT_and ?_ | with_reducible refine RT_or ?_ | with_reducible refine RX_and ?_ | with_reducible refine RX_or ?_ | with_reducible refine RX_not ?_ | with_reducible refine RX_if ?_ | with_reducible refine RX_ch ?_
  | with_reducible refine CB_t ?_ | with_reducible refine CB_f ?_ | with_reducible refine CB_n ?_
  | with_reducible refine RX_mut rfl rfl ?_ | with_reducible refine RS_for ?_ | with_reducible refine RI_enmU ?_ | with_reducible refine RI_seq ?_ | with_reducible refine RI_rg1 ?_ | with_reducible refine RI_rg3 ?_ | with_reducible refine RX_lc ?_ | with_reducible refine RX_dc ?_ | with_reducible refine RX_dK ?_ | with_reducible refine RX_sl ?_ | with_reducible refine RO_N ?_ | with_reducible refine RO_E ?_ | with_reducible refine RX_fld ?_ | with_reducible refine RX_meth ?_ | with_reducible refine RX_make ?_ | with_reducible refine RX_o2 ?_
  | with_reducible refine RX_q ?_ | with_reducible refine RLk_q ?_ | with_reducible refine RLk_at (by with_unfolding_all rfl) ?_ | with_reducible refine RLk_c ?_ | with_reducible refine RLs_nil ?_ | with_reducible refine RLs_cons ?_ | with_reducible refine RQ_2 ?_ | with_reducible refine RQ_bi ?_ | with_reducible refine RQ_tup ?_ | with_reducible refine RQ_lst ?_ | with_reducible refine RQ_get2 ?_ | with_reducible refine RQ_sl ?_ | with_reducible refine RLo_N ?_ | with_reducible refine RLo_E ?_ | with_reducible refine RQ_f ?_ | with_reducible refine RQ_1 ?_ | with_reducible refine RQ_at (by with_unfolding_all rfl) ?_
  | with_reducible refine RS_subP ?_ | with_reducible refine RS_par3 ?_ | with_reducible refine RX_callK ?_ | with_reducible refine RX_methP ?_ | with_reducible refine RX_mutP ?_ | with_reducible refine RQ_methR ?_
  | with_reducible refine R1_of _ (opMod_int (by decide)) ?_ | with_reducible refine R1_of _ (opDiv_int (by decide)) ?_ | with_reducible refine R1_of _ (opMul_l (by first | decide | omega)) ?_ | with_reducible refine R1_of _ (opMul_r (by first | decide | omega)) ?_ | with_reducible refine R1_of _ (opPow_ok (by first | decide | omega)) ?_
  | refine R1_of _ rfl ?_
  | (fail_if_success (with_reducible refine RF_id ?_)); (fail_if_success (with_reducible refine RL_id ?_)); (fail_if_success (with_reducible refine RS_whid ?_)); (fail_if_success (with_reducible refine inR_id ?_)); first | refine ⟨_, by walk_at "nrm", ?_⟩ | refine ⟨_, _, rfl, ?_⟩ | refine ⟨_, rfl, ?_⟩ | refine ⟨rfl, ?_⟩ | refine ⟨Nat.le_of_ble_eq_true rfl, ?_⟩ | refine ⟨_, _, rfl, rfl, ?_⟩)
abbrev nms (kinds : List Ty) : List Str := kinds.map (·.1)
def rkey (s : Str) (d : Nat) : List Key := [.inr s, .inl (d : Int)]
structure InvR (kinds : List Ty) (ks : List (List Key × D)) : Prop where
  nd : (ks.map (·.1)).Nodup
  at_ : ∀ kv ∈ ks, ∃ s ∈ nms kinds, ∃ d : Nat, d ≤ 40 ∧ ∃ ds, kv = (rkey s d, .dK ds) ∧ DI (nms kinds) ds fun x => PM.abvT x kinds s d
theorem keys_len {names : List Str} (ks : List (List Key)) (h : ks.Nodup) (ha : ∀ k ∈ ks, ∃ s ∈ names, ∃ d : Nat, d ≤ 40 ∧ k = rkey s d) : ks.length ≤ names.length * 41 := by
  have q := nodup_len (m := names.flatMap fun s => (List.range 41).map fun d => rkey s d) h fun k hk => by
    obtain ⟨s, hs, d, hd, rfl⟩ := ha k hk
    exact List.mem_flatMap.mpr ⟨s, hs, List.mem_map.mpr ⟨d, List.mem_range.mpr (by omega), rfl⟩⟩
  have e : (names.flatMap fun s => (List.range 41).map fun d => rkey s d).length = names.length * 41 := by
    clear q ha
    induction names with
    | nil => rfl
    | cons a l ih => rw [List.flatMap_cons, List.length_append, ih, List.length_map, List.length_range, List.length_cons]; omega
  omega
theorem InvR.len {kinds : List Ty} {ks : List (List Key × D)} (h : InvR kinds ks) (hl : kinds.length ≤ 40) : ks.length ≤ 1640 := by
  have q := keys_len (names := nms kinds) _ h.nd fun k hk => by
    obtain ⟨kv, hkv, rfl⟩ := List.mem_map.mp hk
    obtain ⟨s, hs, d, hd, ds, e, _⟩ := h.at_ kv hkv
    exact ⟨s, hs, d, hd, by rw [e]⟩
  rw [List.length_map] at q
  have : (nms kinds).length ≤ 40 := by rw [List.length_map]; exact hl
  have : (nms kinds).length * 41 ≤ 40 * 41 := Nat.mul_le_mul_right _ this
  omega
theorem dget_memT {ks : List (List Key × D)} {k : List Key} {v : D} (h : dget ks k = some v) : (k, v) ∈ ks := by
  induction ks with
  | nil => cases h
  | cons a l ih =>
    obtain ⟨x, d⟩ := a
    rw [dget_cons] at h
    by_cases e : x = k
    · rw [if_pos e] at h
      cases h
      rw [e]
      exact List.mem_cons_self
    · rw [if_neg e] at h
      exact List.mem_cons_of_mem _ (ih h)
theorem dputT_new {ks : List (List Key × D)} {k : List Key} {d : D} (h : k ∉ ks.map (·.1)) : dput ks k d = ks ++ [(k, d)] := by
  unfold dput
  rw [if_neg]
  simp only [List.any_eq_true, decide_eq_true_eq, not_exists, not_and]
  exact fun kv hkv e => h (List.mem_map.mpr ⟨kv, hkv, e⟩)
theorem InvR.get {kinds : List Ty} {ks : List (List Key × D)} (h : InvR kinds ks) {s : Str} {d : Nat} {v : D} (e : dget ks (rkey s d) = some v) : ∃ ds, v = .dK ds ∧ DI (nms kinds) ds fun x => PM.abvT x kinds s d := by
  obtain ⟨s', hs, d', hd, ds, e1, e2⟩ := h.at_ _ (dget_memT e)
  have e3 : rkey s d = rkey s' d' ∧ v = .dK ds := by injection e1 with a b; exact ⟨a, b⟩
  have e4 : s = s' ∧ d = d' := by
    have := e3.1
    unfold rkey at this
    injection this with a b
    injection b with b _
    exact ⟨Sum.inr.inj a, by have := Sum.inl.inj b; omega⟩
  rw [e4.1, e4.2]
  exact ⟨ds, e3.2, e2⟩
theorem InvR.put {kinds : List Ty} {ks : List (List Key × D)} (h : InvR kinds ks) {s : Str} (hs : s ∈ nms kinds) {d : Nat} (hd : d ≤ 40) {ds : List (Key × D)} (hds : DI (nms kinds) ds fun x => PM.abvT x kinds s d) : InvR kinds (dput ks (rkey s d) (.dK ds)) := by
  by_cases q : rkey s d ∈ ks.map (·.1)
  · have e : dput ks (rkey s d) (.dK ds) = ks.map fun kv => if kv.1 = rkey s d then (kv.1, D.dK ds) else kv := by
      unfold dput
      rw [if_pos]
      obtain ⟨kv, h1, h2⟩ := List.mem_map.mp q
      exact List.any_eq_true.mpr ⟨kv, h1, by simpa using h2⟩
    rw [e]
    refine ⟨?_, fun kv hkv => ?_⟩
    · rw [List.map_map]
      have : ((fun x : List Key × D => x.1) ∘ fun kv : List Key × D => if kv.1 = rkey s d then (kv.1, D.dK ds) else kv) = fun x => x.1 := by
        funext kv
        show (if kv.1 = rkey s d then (kv.1, D.dK ds) else kv).1 = kv.1
        split <;> rfl
      rw [this]
      exact h.nd
    · obtain ⟨kv', h1, h2⟩ := List.mem_map.mp hkv
      by_cases z : kv'.1 = rkey s d
      · rw [if_pos z] at h2
        subst h2
        exact ⟨s, hs, d, hd, ds, by rw [z], hds⟩
      · rw [if_neg z] at h2
        subst h2
        exact h.at_ _ h1
  · rw [dputT_new q]
    refine ⟨?_, fun kv hkv => ?_⟩
    · rw [List.map_append]
      exact List.nodup_append.mpr ⟨h.nd, by simp, fun a ha b hb e => q (by have : b = rkey s d := by simpa using hb
                                                                           rw [← this, ← e]; exact ha)⟩
    · rcases List.mem_append.mp hkv with hkv | hkv
      · exact h.at_ _ hkv
      · have : kv = (rkey s d, .dK ds) := by simpa using hkv
        exact ⟨s, hs, d, hd, ds, this, hds⟩
theorem PP.row_ents {kinds : List Ty} {tops : List En} (h : PP kinds tops) {s : Str} (hs : s ∈ nms kinds) : ∀ e ∈ PM.ents kinds s, eOk e := by
  obtain ⟨t, ht, rfl⟩ := List.mem_map.mp hs
  rw [ents_mem h.nd ht]
  exact fun e he => (h.tk t ht).2.2 e he
end Pg
namespace Pg
open PySem PySem.Spec L2 VS Pg
local macro_rules | `(tactic| walk_at "gt") => `(tactic| (simp only [gT, gsCons, gN, gsNil, Option.bind_some, List.length_cons, List.length_nil, List.set_cons_zero, List.set_cons_succ, Nat.reduceAdd, if_true] <;> exact rfl))
local macro_rules | `(tactic| walk_at "nrm") => `(tactic| (simp only [List.set_cons_zero, List.set_cons_succ, List.map_cons, List.map_nil, List.length_cons, List.length_nil, List.replicate, List.cons_append, List.nil_append, Nat.reduceSub, selM, ins, O.fz, wipeD, savD, unwD, List.getElem?_cons_zero, List.getElem?_cons_succ, Option.join_some, Option.join_none] <;> exact rfl))
local macro_rules | `(tactic| walk_at "vw") => `(tactic| first
  | with_reducible refine RX_x2 ?_ | with_reducible refine RX_C ?_ | with_reducible refine RX_Vs rfl ?_ | with_reducible refine RX_Va rfl rfl ?_
  | with_reducible refine RV_sh _ ?_ | with_reducible refine RV_val _ ?_ | with_reducible refine RV_at _ rfl ?_
  | with_reducible refine RK_val _ ?_ | with_reducible refine RK_at _ rfl (by walk_at "nrm") ?_
  | with_reducible refine RS_seq ?_ | with_reducible refine thenS_nx ?_ | with_reducible refine thenS_rt ?_ | with_reducible refine loopS_nx ?_ | with_reducible refine loopS_rt ?_ | with_reducible refine loopS_ct ?_ | with_reducible refine loopS_bk ?_ | with_reducible refine thenS_bk ?_ | with_reducible refine thenS_ct ?_ | with_reducible refine endF_rt (by walk_at "nrm") ?_ | with_reducible refine endF_nx (by walk_at "nrm") ?_
  | with_reducible refine RS_set ?_ | with_reducible refine RS_ret ?_ | with_reducible refine RS_if ?_ | with_reducible refine RS_expr ?_ | with_reducible refine RS_sub ?_ | with_reducible refine RS_attr ?_ | with_reducible refine RS_nil ?_ | with_reducible refine RS_par ?_ | with_reducible refine RS_asg ?_
  | with_reducible refine RX_call ?_ | with_reducible refine RX_bi ?_ | with_reducible refine RX_x1 ?_ | with_reducible refine RX_tup ?_ | with_reducible refine RX_lst ?_
  | with_reducible refine RA_f ?_ | with_reducible refine RA_t ?_ | with_reducible refine RA_nil ?_ | with_reducible refine RB_cons ?_ | with_reducible refine RB_nil ?_
  | with_reducible refine RT_Y ?_ | with_reducible refine RT_tB ?_ | with_reducible refine RT_not ?_ | with_reducible refine RT_and ?_ | with_reducible refine RT_or ?_ | with_reducible refine RX_and ?_ | with_reducible refine RX_or ?_ | with_reducible refine RX_not ?_ | with_reducible refine RX_if ?_ | with_reducible refine RX_ch ?_
  | with_reducible refine CB_t ?_ | with_reducible refine CB_f ?_ | with_reducible refine CB_n ?_
  | with_reducible refine RX_mut rfl rfl ?_ | with_reducible refine RS_for ?_ | with_reducible refine RI_enmU ?_ | with_reducible refine RI_seq ?_ | with_reducible refine RI_rg1 ?_ | with_reducible refine RI_rg3 ?_ | with_reducible refine RX_lc ?_ | with_reducible refine RX_dc ?_ | with_reducible refine RX_dK ?_ | with_reducible refine RX_sl ?_ | with_reducible refine RO_N ?_ | with_reducible refine RO_E ?_ | with_reducible refine RX_fld ?_ | with_reducible refine RX_meth ?_ | with_reducible refine RX_make ?_ | with_reducible refine RX_o2 ?_
  | with_reducible refine RX_q ?_ | with_reducible refine RLk_q ?_ | with_reducible refine RLk_at (by with_unfolding_all rfl) ?_ | with_reducible refine RLk_c ?_ | with_reducible refine RLs_nil ?_ | with_reducible refine RLs_cons ?_ | with_reducible refine RQ_2 ?_ | with_reducible refine RQ_bi ?_ | with_reducible refine RQ_tup ?_ | with_reducible refine RQ_lst ?_ | with_reducible refine RQ_get2 ?_ | with_reducible refine RQ_sl ?_ | with_reducible refine RLo_N ?_ | with_reducible refine RLo_E ?_ | with_reducible refine RQ_f ?_ | with_reducible refine RQ_1 ?_ | with_reducible refine RQ_at (by with_unfolding_all rfl) ?_
  | with_reducible refine RS_subP ?_ | with_reducible refine RS_par3 ?_ | with_reducible refine RX_callK ?_ | with_reducible refine RX_methP ?_ | with_reducible refine RX_mutP ?_ | with_reducible refine RQ_methR ?_
  | with_reducible refine R1_of _ (opMod_int (by decide)) ?_ | with_reducible refine R1_of _ (opDiv_int (by decide)) ?_ | with_reducible refine R1_of _ (opMul_l (by first | decide | omega)) ?_ | with_reducible refine R1_of _ (opMul_r (by first | decide | omega)) ?_ | with_reducible refine R1_of _ (opPow_ok (by first | decide | omega)) ?_
  | refine R1_of _ rfl ?_
  | (fail_if_success (with_reducible refine RF_id ?_)); (fail_if_success (with_reducible refine RL_id ?_)); (fail_if_success (with_reducible refine RS_whid ?_)); (fail_if_success (with_reducible refine inR_id ?_)); first | refine ⟨_, by walk_at "nrm", ?_⟩ | refine ⟨_, _, rfl, ?_⟩ | refine ⟨_, rfl, ?_⟩ | refine ⟨rfl, ?_⟩ | refine ⟨Nat.le_of_ble_eq_true rfl, ?_⟩ | refine ⟨_, _, rfl, rfl, ?_⟩)
def encW (w : PM.Wv) : D := .tup [.int w.1, .int w.2.1, .int w.2.2.1, .int w.2.2.2]
structure InvW (kinds : List Ty) (ks : List (List Key × D)) : Prop where
  nd : (ks.map (·.1)).Nodup
  at_ : ∀ kv ∈ ks, ∃ s ∈ nms kinds, ∃ d : Nat, d ≤ 40 ∧ ∃ w, kv = (rkey s d, encW w) ∧ PM.WvT kinds s d w
theorem InvW.len {kinds : List Ty} {ks : List (List Key × D)} (h : InvW kinds ks) (hl : kinds.length ≤ 40) : ks.length ≤ 1640 := by
  have q := keys_len (names := nms kinds) _ h.nd fun k hk => by
    obtain ⟨kv, hkv, rfl⟩ := List.mem_map.mp hk
    obtain ⟨s, hs, d, hd, ds, e, _⟩ := h.at_ kv hkv
    exact ⟨s, hs, d, hd, by rw [e]⟩
  rw [List.length_map] at q
  have : (nms kinds).length ≤ 40 := by rw [List.length_map]; exact hl
  have : (nms kinds).length * 41 ≤ 40 * 41 := Nat.mul_le_mul_right _ this
  omega
theorem InvW.get {kinds : List Ty} {ks : List (List Key × D)} (h : InvW kinds ks) {s : Str} {d : Nat} {v : D} (e : dget ks (rkey s d) = some v) : ∃ w, v = encW w ∧ PM.WvT kinds s d w := by
  obtain ⟨s', hs, d', hd, ds, e1, e2⟩ := h.at_ _ (dget_memT e)
  have e3 : rkey s d = rkey s' d' ∧ v = encW ds := by injection e1 with a b; exact ⟨a, b⟩
  have e4 : s = s' ∧ d = d' := by
    have := e3.1
    unfold rkey at this
    injection this with a b
    injection b with b _
    exact ⟨Sum.inr.inj a, by have := Sum.inl.inj b; omega⟩
  rw [e4.1, e4.2]
  exact ⟨ds, e3.2, e2⟩
theorem InvW.put {kinds : List Ty} {ks : List (List Key × D)} (h : InvW kinds ks) {s : Str} (hs : s ∈ nms kinds) {d : Nat} (hd : d ≤ 40) {w : PM.Wv} (hw : PM.WvT kinds s d w) : InvW kinds (dput ks (rkey s d) (encW w)) := by
  by_cases q : rkey s d ∈ ks.map (·.1)
  · have e : dput ks (rkey s d) (encW w) = ks.map fun kv => if kv.1 = rkey s d then (kv.1, encW w) else kv := by
      unfold dput
      rw [if_pos]
      obtain ⟨kv, h1, h2⟩ := List.mem_map.mp q
      exact List.any_eq_true.mpr ⟨kv, h1, by simpa using h2⟩
    rw [e]
    refine ⟨?_, fun kv hkv => ?_⟩
    · rw [List.map_map]
      have : ((fun x : List Key × D => x.1) ∘ fun kv : List Key × D => if kv.1 = rkey s d then (kv.1, encW w) else kv) = fun x => x.1 := by
        funext kv
        show (if kv.1 = rkey s d then (kv.1, encW w) else kv).1 = kv.1
        split <;> rfl
      rw [this]
      exact h.nd
    · obtain ⟨kv', h1, h2⟩ := List.mem_map.mp hkv
      by_cases z : kv'.1 = rkey s d
      · rw [if_pos z] at h2
        subst h2
        exact ⟨s, hs, d, hd, w, by rw [z], hw⟩
      · rw [if_neg z] at h2
        subst h2
        exact h.at_ _ h1
  · rw [dputT_new q]
    refine ⟨?_, fun kv hkv => ?_⟩
    · rw [List.map_append]
      exact List.nodup_append.mpr ⟨h.nd, by simp, fun a ha b hb e => q (by have : b = rkey s d := by simpa using hb
                                                                           rw [← this, ← e]; exact ha)⟩
    · rcases List.mem_append.mp hkv with hkv | hkv
      · exact h.at_ _ hkv
      · have : kv = (rkey s d, encW w) := by simpa using hkv
        exact ⟨s, hs, d, hd, w, this, hw⟩
end Pg
namespace Pg
open PySem PySem.Spec L2 VS Pg
local macro_rules | `(tactic| walk_at "gt") => `(tactic| (simp only [gT, gsCons, gN, gsNil, Option.bind_some, List.length_cons, List.length_nil, List.set_cons_zero, List.set_cons_succ, Nat.reduceAdd, if_true] <;> exact rfl))
local macro_rules | `(tactic| walk_at "nrm") => `(tactic| (simp only [List.set_cons_zero, List.set_cons_succ, List.map_cons, List.map_nil, List.length_cons, List.length_nil, List.replicate, List.cons_append, List.nil_append, Nat.reduceSub, selM, ins, O.fz, wipeD, savD, unwD, List.getElem?_cons_zero, List.getElem?_cons_succ, Option.join_some, Option.join_none] <;> exact rfl))
local macro_rules | `(tactic| walk_at "vw") => `(tactic| first
  | with_reducible refine RX_x2 ?_ | with_reducible refine RX_C ?_ | with_reducible refine RX_Vs rfl ?_ | with_reducible refine RX_Va rfl rfl ?_
  | with_reducible refine RV_sh _ ?_ | with_reducible refine RV_val _ ?_ | with_reducible refine RV_at _ rfl ?_
  | with_reducible refine RK_val _ ?_ | with_reducible refine RK_at _ rfl (by walk_at "nrm") ?_
  | with_reducible refine RS_seq ?_ | with_reducible refine thenS_nx ?_ | with_reducible refine thenS_rt ?_ | with_reducible refine loopS_nx ?_ | with_reducible refine loopS_rt ?_ | with_reducible refine loopS_ct ?_ | with_reducible refine loopS_bk ?_ | with_reducible refine thenS_bk ?_ | with_reducible refine thenS_ct ?_ | with_reducible refine endF_rt (by walk_at "nrm") ?_ | with_reducible refine endF_nx (by walk_at "nrm") ?_
  | with_reducible refine RS_set ?_ | with_reducible refine RS_ret ?_ | with_reducible refine RS_if ?_ | with_reducible refine RS_expr ?_ | with_reducible refine RS_sub ?_ | with_reducible refine RS_attr ?_ | with_reducible refine RS_nil ?_ | with_reducible refine RS_par ?_ | with_reducible refine RS_asg ?_
  | with_reducible refine RX_call ?_ | with_reducible refine RX_bi ?_ | with_reducible refine RX_x1 ?_ | with_reducible refine RX_tup ?_ | with_reducible refine RX_lst ?_
  | with_reducible refine RA_f ?_ | with_reducible refine RA_t ?_ | with_reducible refine RA_nil ?_ | with_reducible refine RB_cons ?_ | with_reducible refine RB_nil ?_
  | with_reducible refine RT_Y ?_ | with_reducible refine RT_tB ?_ | with_reducible refine RT_not ?_ | with_reducible refine RT_and ?_ | with_reducible refine RT_or ?_ | with_reducible refine RX_and ?_ | with_reducible refine RX_or ?_ | with_reducible refine RX_not ?_ | with_reducible refine RX_if ?_ | with_reducible refine RX_ch ?_
  | with_reducible refine CB_t ?_ | with_reducible refine CB_f ?_ | with_reducible refine CB_n ?_
  | with_reducible refine RX_mut rfl rfl ?_ | with_reducible refine RS_for ?_ | with_reducible refine RI_enmU ?_ | with_reducible refine RI_seq ?_ | with_reducible refine RI_rg1 ?_ | with_reducible refine RI_rg3 ?_ | with_reducible refine RX_lc ?_ | with_reducible refine RX_dc ?_ | with_reducible refine RX_dK ?_ | with_reducible refine RX_sl ?_ | with_reducible refine RO_N ?_ | with_reducible refine RO_E ?_ | with_reducible refine RX_fld ?_ | with_reducible refine RX_meth ?_ | with_reducible refine RX_make ?_ | with_reducible refine RX_o2 ?_
  | with_reducible refine RX_q ?_ | with_reducible refine RLk_q ?_ | with_reducible refine RLk_at (by with_unfolding_all rfl) ?_ | with_reducible refine RLk_c ?_ | with_reducible refine RLs_nil ?_ | with_reducible refine RLs_cons ?_ | with_reducible refine RQ_2 ?_ | with_reducible refine RQ_bi ?_ | with_reducible refine RQ_tup ?_ | with_reducible refine RQ_lst ?_ | with_reducible refine RQ_get2 ?_ | with_reducible refine RQ_sl ?_ | with_reducible refine RLo_N ?_ | with_reducible refine RLo_E ?_ | with_reducible refine RQ_f ?_ | with_reducible refine RQ_1 ?_ | with_reducible refine RQ_at (by with_unfolding_all rfl) ?_
  | with_reducible refine RS_subP ?_ | with_reducible refine RS_par3 ?_ | with_reducible refine RX_callK ?_ | with_reducible refine RX_methP ?_ | with_reducible refine RX_mutP ?_ | with_reducible refine RQ_methR ?_
  | with_reducible refine R1_of _ (opMod_int (by decide)) ?_ | with_reducible refine R1_of _ (opDiv_int (by decide)) ?_ | with_reducible refine R1_of _ (opMul_l (by first | decide | omega)) ?_ | with_reducible refine R1_of _ (opMul_r (by first | decide | omega)) ?_ | with_reducible refine R1_of _ (opPow_ok (by first | decide | omega)) ?_
  | refine R1_of _ rfl ?_
  | (fail_if_success (with_reducible refine RF_id ?_)); (fail_if_success (with_reducible refine RL_id ?_)); (fail_if_success (with_reducible refine RS_whid ?_)); (fail_if_success (with_reducible refine inR_id ?_)); first | refine ⟨_, by walk_at "nrm", ?_⟩ | refine ⟨_, _, rfl, ?_⟩ | refine ⟨_, rfl, ?_⟩ | refine ⟨rfl, ?_⟩ | refine ⟨Nat.le_of_ble_eq_true rfl, ?_⟩ | refine ⟨_, _, rfl, rfl, ?_⟩)
theorem sumX_map {f : Str → Int} : ∀ {l : List Str}, (l.map f).sum = PM.sumX f l
  | [] => rfl
  | a :: l => by simp only [List.map_cons, List.sum_cons, PM.sumX]; rw [sumX_map]
theorem sumX_erase {f : Str → Int} {a : Str} : ∀ {l : List Str}, a ∈ l → PM.sumX f l = f a + PM.sumX f (l.erase a)
  | b :: l, h => by
    by_cases e : b = a
    · subst e
      simp [PM.sumX]
    · rw [List.erase_cons_tail (by simpa using e)]
      simp only [PM.sumX]
      rw [sumX_erase ((List.mem_cons.mp h).resolve_left fun z => e z.symm)]
      omega
theorem sumX_sub {f : Str → Int} : ∀ {l names : List Str}, l.Nodup → (∀ s ∈ l, s ∈ names) → (∀ s ∈ names, s ∉ l → f s = 0) → names.Nodup → PM.sumX f l = PM.sumX f names
  | [], names, _, _, h0, _ => ((PM.sumX_congr fun s hs => h0 s hs (by simp)).trans PM.sumX_zero).symm
  | a :: l, names, hn, hs, h0, hnn => by
    have hn' := List.nodup_cons.mp hn
    have ha := hs a List.mem_cons_self
    rw [sumX_erase ha]
    simp only [PM.sumX]
    rw [sumX_sub (names := names.erase a) hn'.2 (fun s h => (List.Nodup.mem_erase_iff hnn).mpr ⟨fun e => hn'.1 (by rw [← e]; exact h), hs s (List.mem_cons_of_mem _ h)⟩) (fun s h hl => h0 s (List.mem_of_mem_erase h) fun z => (List.mem_cons.mp z).elim ((List.Nodup.mem_erase_iff hnn).mp h).1 hl) (hnn.erase a)]
theorem DI.sum {names : List Str} {ks : List (Key × D)} {f : Str → Int} (h : DI names ks f) (hn : names.Nodup) : mSum [.lst (ks.map (·.2))] = some (.sh (.int (PM.sumX f names))) := by
  obtain ⟨l, h1, h2, h3, rfl⟩ := h
  have e : (mkD l f).map (·.2) = l.map fun s => D.int (f s) := by unfold mkD; rw [List.map_map]; rfl
  rw [e]
  show (intsOf (l.map fun s => D.int (f s))).map (fun ns => O.sh (.int ns.sum)) = _
  rw [intsOf_map]
  show some (O.sh (.int (l.map f).sum)) = _
  rw [sumX_map, sumX_sub h1 h2 h3 hn]
theorem InvR.nil {kinds : List Ty} : InvR kinds [] := ⟨List.nodup_nil, fun _ h => absurd h (by simp)⟩
theorem InvW.nil {kinds : List Ty} : InvW kinds [] := ⟨List.nodup_nil, fun _ h => absurd h (by simp)⟩
end Pg
namespace Pg
open PySem PySem.Spec L2 VS Pg
local macro_rules | `(tactic| walk_at "gt") => `(tactic| (simp only [gT, gsCons, gN, gsNil, Option.bind_some, List.length_cons, List.length_nil, List.set_cons_zero, List.set_cons_succ, Nat.reduceAdd, if_true] <;> exact rfl))
local macro_rules | `(tactic| walk_at "nrm") => `(tactic| (simp only [List.set_cons_zero, List.set_cons_succ, List.map_cons, List.map_nil, List.length_cons, List.length_nil, List.replicate, List.cons_append, List.nil_append, Nat.reduceSub, selM, ins, O.fz, wipeD, savD, unwD, List.getElem?_cons_zero, List.getElem?_cons_succ, Option.join_some, Option.join_none] <;> exact rfl))
local macro_rules | `(tactic| walk_at "vw") => `(tactic| first
  | with_reducible refine RX_x2 ?_ | with_reducible refine RX_C ?_ | with_reducible refine RX_Vs rfl ?_ | with_reducible refine RX_Va rfl rfl ?_
  | with_reducible refine RV_sh _ ?_ | with_reducible refine RV_val _ ?_ | with_reducible refine RV_at _ rfl ?_
  | with_reducible refine RK_val _ ?_ | with_reducible refine RK_at _ rfl (by walk_at "nrm") ?_
  | with_reducible refine RS_seq ?_ | with_reducible refine thenS_nx ?_ | with_reducible refine thenS_rt ?_ | with_reducible refine loopS_nx ?_ | with_reducible refine loopS_rt ?_ | with_reducible refine loopS_ct ?_ | with_reducible refine loopS_bk ?_ | with_reducible refine thenS_bk ?_ | with_reducible refine thenS_ct ?_ | with_reducible refine endF_rt (by walk_at "nrm") ?_ | with_reducible refine endF_nx (by walk_at "nrm") ?_
  | with_reducible refine RS_set ?_ | with_reducible refine RS_ret ?_ | with_reducible refine RS_if ?_ | with_reducible refine RS_expr ?_ | with_reducible refine RS_sub ?_ | with_reducible refine RS_attr ?_ | with_reducible refine RS_nil ?_ | with_reducible refine RS_par ?_ | with_reducible refine RS_asg ?_
  | with_reducible refine RX_call ?_ | with_reducible refine RX_bi ?_ | with_reducible refine RX_x1 ?_ | with_reducible refine RX_tup ?_ | with_reducible refine RX_lst ?_
  | with_reducible refine RA_f ?_ | with_reducible refine RA_t ?_ | with_reducible refine RA_nil ?_ | with_reducible refine RB_cons ?_ | with_reducible refine RB_nil ?_
  | with_reducible refine RT_Y ?_ | with_reducible refine RT_tB ?_ | with_reducible refine RT_not ?_ | with_reducible refine RT_and ?_ | with_reducible refine RT_or ?_ | with_reducible refine RX_and ?_ | with_reducible refine RX_or ?_ | with_reducible refine RX_not ?_ | with_reducible refine RX_if ?_ | with_reducible refine RX_ch ?_
  | with_reducible refine CB_t ?_ | with_reducible refine CB_f ?_ | with_reducible refine CB_n ?_
  | with_reducible refine RX_mut rfl rfl ?_ | with_reducible refine RS_for ?_ | with_reducible refine RI_enmU ?_ | with_reducible refine RI_seq ?_ | with_reducible refine RI_rg1 ?_ | with_reducible refine RI_rg3 ?_ | with_reducible refine RX_lc ?_ | with_reducible refine RX_dc ?_ | with_reducible refine RX_dK ?_ | with_reducible refine RX_sl ?_ | with_reducible refine RO_N ?_ | with_reducible refine RO_E ?_ | with_reducible refine RX_fld ?_ | with_reducible refine RX_meth ?_ | with_reducible refine RX_make ?_ | with_reducible refine RX_o2 ?_
  | with_reducible refine RX_q ?_ | with_reducible refine RLk_q ?_ | with_reducible refine RLk_at (by with_unfolding_all rfl) ?_ | with_reducible refine RLk_c ?_ | with_reducible refine RLs_nil ?_ | with_reducible refine RLs_cons ?_ | with_reducible refine RQ_2 ?_ | with_reducible refine RQ_bi ?_ | with_reducible refine RQ_tup ?_ | with_reducible refine RQ_lst ?_ | with_reducible refine RQ_get2 ?_ | with_reducible refine RQ_sl ?_ | with_reducible refine RLo_N ?_ | with_reducible refine RLo_E ?_ | with_reducible refine RQ_f ?_ | with_reducible refine RQ_1 ?_ | with_reducible refine RQ_at (by with_unfolding_all rfl) ?_
  | with_reducible refine RS_subP ?_ | with_reducible refine RS_par3 ?_ | with_reducible refine RX_callK ?_ | with_reducible refine RX_methP ?_ | with_reducible refine RX_mutP ?_ | with_reducible refine RQ_methR ?_
  | with_reducible refine R1_of _ (opMod_int (by decide)) ?_ | with_reducible refine R1_of _ (opDiv_int (by decide)) ?_ | with_reducible refine R1_of _ (opMul_l (by first | decide | omega)) ?_ | with_reducible refine R1_of _ (opMul_r (by first | decide | omega)) ?_ | with_reducible refine R1_of _ (opPow_ok (by first | decide | omega)) ?_
  | refine R1_of _ rfl ?_
  | (fail_if_success (with_reducible refine RF_id ?_)); (fail_if_success (with_reducible refine RL_id ?_)); (fail_if_success (with_reducible refine RS_whid ?_)); (fail_if_success (with_reducible refine inR_id ?_)); first | refine ⟨_, by walk_at "nrm", ?_⟩ | refine ⟨_, _, rfl, ?_⟩ | refine ⟨_, rfl, ?_⟩ | refine ⟨rfl, ?_⟩ | refine ⟨Nat.le_of_ble_eq_true rfl, ?_⟩ | refine ⟨_, _, rfl, rfl, ?_⟩)
def FstD (kinds : List Ty) (rows : List En) (d : Nat) (n : Int) : Prop := ∃ q, PM.Val kinds rows q ∧ q.length = d + 1 ∧ PM.rkD kinds rows q = n ∧ ∀ q', PM.Val kinds rows q' → q'.length = d + 1 → n ≤ PM.rkD kinds rows q'
theorem fstD_of {kinds : List Ty} (hK : PM.Ok kinds) {A B : List En} {e : En} (ho : PM.OkE kinds (A ++ e :: B)) {d : Nat} (hB : PM.Emp kinds B d) {n : Int}
    (hn : (d = 0 ∧ n = 0) ∨ ∃ d' n', d = d' + 1 ∧ n = 1 + n' ∧ FstD kinds (PM.ents kinds e.1) d' n') : FstD kinds (A ++ e :: B) d (PM.sumE (PM.size kinds) B + n) := by
  have hem := ho e (by simp)
  have at_ : (A ++ e :: B)[A.length]? = some e := by simp
  have dr : (A ++ e :: B).drop (A.length + 1) = B := by simp
  obtain ⟨q2, v2, l2, r2⟩ : ∃ q2, PM.Val kinds (PM.ents kinds e.1) q2 ∧ q2.length = d ∧ PM.rkD kinds (PM.ents kinds e.1) q2 + 1 = n := by
    rcases hn with ⟨rfl, rfl⟩ | ⟨d', n', rfl, rfl, q, v, l, r, _⟩
    · exact ⟨[], trivial, rfl, rfl⟩
    · exact ⟨q, v, l, by rw [r]; omega⟩
  refine ⟨(A.length, e.2 - 1) :: q2, ⟨e, at_, by have := hem.2; omega, by omega, v2⟩, by simp [l2], ?_, fun q' hv hl => ?_⟩
  · simp only [PM.rkD, at_, dr]
    have : e.2 - 1 - (e.2 - 1) = 0 := by omega
    rw [this, Int.zero_mul]
    omega
  · match q', hv, hl with
    | (p, i) :: t, ⟨e', he', h0, h1, hvt⟩, hl =>
      have hl' : t.length = d := by simpa using hl
      have hm' := ho e' (PM.mem_at he')
      have rr := PM.rkD_rest hK hm'.1 hvt
      simp only [PM.rkD, he']
      by_cases c1 : p = A.length
      · subst c1
        have ee : e' = e := by rw [at_] at he'; exact (Option.some.inj he').symm
        subst ee
        rw [dr]
        have nn := Int.mul_nonneg (show 0 ≤ e'.2 - 1 - i by omega) (PM.size_nonneg hK e'.1)
        have : n ≤ PM.rkD kinds (PM.ents kinds e'.1) t + 1 := by
          rcases hn with ⟨rfl, rfl⟩ | ⟨d', n', rfl, rfl, q, v, l, r, hmin⟩
          · omega
          · have := hmin t hvt hl'
            omega
        omega
      · by_cases c2 : p < A.length
        · have le := PM.drop_le (f := PM.size kinds) (rows := A ++ e :: B) (fun x hx => ⟨PM.size_nonneg hK _, ho.nn hx⟩) at_ c2
          rw [dr] at le
          have nn := Int.mul_nonneg (show 0 ≤ e'.2 - 1 - i by omega) (PM.size_nonneg hK e'.1)
          have r3 := PM.rkD_rest hK hem.1 v2
          have s1 : 1 * PM.size kinds e.1 ≤ e.2 * PM.size kinds e.1 := Int.mul_le_mul_of_nonneg_right hem.2 (PM.size_nonneg hK _)
          omega
        · exfalso
          have hb : e' ∈ B := by
            rw [List.getElem?_append_right (by omega)] at he'
            obtain ⟨j, hj⟩ : ∃ j, p - A.length = j + 1 := ⟨p - A.length - 1, by omega⟩
            rw [hj, List.getElem?_cons_succ] at he'
            exact List.mem_of_getElem? he'
          have r := PM.rkL_rest hK hm'.1 hvt
          rw [hl', PM.desc_big hK _ _ hm'.1 (hB e' hb)] at r
          omega
theorem sumE_reverse {f : Str → Int} : ∀ {es : List En}, PM.sumE f es.reverse = PM.sumE f es
  | [] => rfl
  | e :: r => by
    rw [List.reverse_cons, PM.sumE_snoc, sumE_reverse]
    simp only [PM.sumE]
    omega
theorem first_depth_ok {kinds : List Ty} {tops : List En} (h : PP kinds tops) : ∀ (n d : Nat) {rows : List En}, PM.OkE kinds rows → (∀ e ∈ rows, eOk e) → (d < n ∨ (1 ≤ n ∧ PM.Emp kinds rows d)) → ∀ {o : O}, (o = .lst (rows.map encE) ∨ o = .sh (.lst (rows.map encE))) →
    RF (m_first_at_depth n) [.sh (planV kinds tops), o, .sh (.int (d : Nat))] fun r fin => ((PM.Emp kinds rows d ∧ r = .sh .non) ∨ ∃ k, r = .sh (.int k) ∧ FstD kinds rows d k) ∧ ∃ x, fin = [some (.sh (planV kinds tops)), x, some (.sh (.int (d : Nat)))] := by
  intro n
  induction n with
  | zero => exact fun d rows ho he hd => absurd hd (by omega)
  | succ n ih =>
    intro d rows ho he hd o hof
    have go : ∀ o1 : Option O, RL (gT 2 (gsCons (gN 4) (gsCons (gN 5) gsNil))) (sSeq (sIf (tB (x2 opGe (xMeth "Plan" "height_of" m_Plan_height_of (xV 0) (aCons true (xV 4) aNil)) (xV 2))) (sSeq (sSet 6 (xIf (tB (x2 opEq (xV 2) (xC (.int 0)))) (xC (.int 0)) (x2 opAdd (xC (.int 1)) (xCall (m_first_at_depth n) (aCons true (xV 0) (aCons false (xMeth "Plan" "entries_of" m_Plan_entries_of (xV 0) (aCons true (xV 4) aNil)) (aCons false (x2 opSub (xV 2) (xC (.int 1))) aNil))))))) (sRet 3 (x2 opAdd (xV 3) (xV 6)))) sNil) (sSet 3 (x2 opAdd (xV 3) (x2 opMul (xV 5) (xMeth "Plan" "tree_size" m_Plan_tree_size (xV 0) (aCons true (xV 4) aNil))))))
        (rows.reverse.map encE) [some (.sh (planV kinds tops)), o1, some (.sh (.int (d : Nat))), some (.sh (.int 0)), none, none, none]
        (thenS (sRet 3 (xC .non)) (endF 3 [0, 1, 2] fun r fin => ((PM.Emp kinds rows d ∧ r = .sh .non) ∨ ∃ k, r = .sh (.int k) ∧ FstD kinds rows d k) ∧ ∃ x, fin = [some (.sh (planV kinds tops)), x, some (.sh (.int (d : Nat)))])) := by
      intro o1
      refine RL_inv (fun (done : List En) δ => ∃ a b c, δ = [some (.sh (planV kinds tops)), o1, some (.sh (.int (d : Nat))), some (.sh (.int (PM.sumE (PM.size kinds) done))), a, b, c] ∧ PM.Emp kinds done d) ⟨none, none, none, rfl, fun x hx => absurd hx (by simp)⟩ ?_ ?_
      · rintro done e rest δ hr ⟨a, b, c, rfl, hem⟩
        have hrows : rows = rest.reverse ++ e :: done.reverse := by
          have := congrArg List.reverse hr
          rw [List.reverse_reverse] at this
          rw [this]
          simp
        have hm : e ∈ rows := by rw [hrows]; simp
        have hs := (ho e hm).1
        have hl1 := PM.lev_pos h.ok hs
        refine ⟨_, by walk_at "gt", ?_⟩
        repeat walk_at "vw"
        refine RF.mono (height_ok h.ok h.nd hs) ?_
        rintro r fin ⟨rfl, rfl⟩
        repeat walk_at "vw"
        by_cases q1 : d < PM.lev kinds e.1
        · refine CB_yes (decide_eq_true (by omega)) ?_
          have hemB : PM.Emp kinds done.reverse d := fun x hx => hem x (by simpa using hx)
          have dn : d < n + 1 := by
            rcases hd with hd | hd
            · exact hd
            · have := hd.2 e hm
              omega
          repeat walk_at "vw"
          by_cases q2 : d = 0
          · refine CB_yes (by rw [q2]; rfl) ?_
            repeat walk_at "vw"
            refine ⟨.inr ⟨_, rfl, ?_⟩, _, rfl⟩
            have := fstD_of h.ok (A := rest.reverse) (B := done.reverse) (e := e) (by rw [← hrows]; exact ho) hemB (.inl ⟨q2, rfl⟩)
            rw [sumE_reverse, ← hrows] at this
            exact this
          · refine CB_no (decide_eq_false (by omega)) ?_
            repeat walk_at "vw"
            refine RF.mono (entries_ok h.nd hs) ?_
            rintro r fin ⟨rfl, rfl⟩
            refine ⟨rfl, ?_⟩
            repeat walk_at "vw"
            have e1 : (d : Int) - 1 = ((d - 1 : Nat) : Int) := by omega
            rw [e1]
            refine RF.mono (ih (d - 1) (PM.ents_ok h.ok e.1) (h.row_ents hs) (.inl (by omega)) (.inl rfl)) ?_
            rintro r fin ⟨hr1, x, rfl⟩
            refine ⟨rfl, ?_⟩
            rcases hr1 with ⟨hr1, rfl⟩ | ⟨k, rfl, hk⟩
            · exfalso
              have q := PM.lev_eq h.ok hs
              have hp : 0 < PM.maxL ((PM.ents kinds e.1).map fun e => PM.lev kinds e.1) := by omega
              obtain ⟨e', he1, e2⟩ := List.mem_map.mp (PM.mem_maxL hp)
              have := hr1 e' he1
              omega
            repeat walk_at "vw"
            refine ⟨.inr ⟨_, rfl, ?_⟩, _, rfl⟩
            have := fstD_of h.ok (A := rest.reverse) (B := done.reverse) (e := e) (by rw [← hrows]; exact ho) hemB (.inr ⟨d - 1, k, by omega, rfl, hk⟩)
            rw [sumE_reverse, ← hrows] at this
            exact this
        · refine CB_no (decide_eq_false (by omega)) ?_
          repeat walk_at "vw"
          refine RF.mono (tree_size_ok h hs) ?_
          rintro r fin ⟨rfl, rfl⟩
          repeat walk_at "vw"
          refine R1_of _ (opMul_cnt (he e hm).2) ?_
          repeat walk_at "vw"
          refine ⟨_, _, _, by rw [PM.sumE_snoc], fun x hx => ?_⟩
          rcases List.mem_append.mp hx with hx | hx
          · exact hem x hx
          · rw [show x = e by simpa using hx]; omega
      · rintro δ ⟨a, b, c, rfl, hem⟩
        repeat walk_at "vw"
        exact ⟨.inl ⟨fun x hx => hem x (by simpa using hx), rfl⟩, _, rfl⟩
    refine RF_def rfl (by walk_at "nrm") ?_
    rcases hof with rfl | rfl
    · refine RS_seq (RS_set (RX_C (RK_val _ ⟨_, rfl, thenS_nx ?_⟩)))
      refine RS_seq (RS_for (RI_seq (RX_x1 (RX_Va rfl rfl (RV_at _ rfl (R1_of (o := .lst (rows.map encE).reverse) _ rfl (RK_val _ ⟨_, rfl, ?_⟩)))))))
      rw [← List.map_reverse]
      exact go _
    · refine RS_seq (RS_set (RX_C (RK_val _ ⟨_, rfl, thenS_nx ?_⟩)))
      refine RS_seq (RS_for (RI_seq (RX_x1 (RX_Vs rfl (RV_sh _ (R1_of (o := .lst (rows.map encE).reverse) _ rfl (RK_val _ ⟨_, rfl, ?_⟩)))))))
      rw [← List.map_reverse]
      exact go _
/-- over all starts, level by level -/
structure Top (kinds : List Ty) (tops : List En) (c n : Int) : Prop where
  le : ∀ q, PM.Val kinds tops q → q ≠ [] → PM.opL kinds tops q ≤ c
  lt : ∀ q, PM.Val kinds tops q → q ≠ [] → PM.numL kinds tops q < n → PM.opL kinds tops q < c
  ex : ∃ q, PM.Val kinds tops q ∧ q ≠ [] ∧ PM.numL kinds tops q = n ∧ PM.opL kinds tops q = c
theorem maxI_ok : ∀ {l : List Int}, l ≠ [] → ∃ m, maxI l = some m ∧ m ∈ l ∧ ∀ y ∈ l, y ≤ m
  | [], h => absurd rfl h
  | i :: ns, _ => by
    obtain ⟨h1, h2, h3⟩ := maxI_fold ns i
    refine ⟨_, rfl, ?_, fun y hy => ?_⟩
    · rcases h1 with h1 | h1
      · rw [h1]; exact List.mem_cons_self
      · exact List.mem_cons_of_mem _ h1
    · rcases List.mem_cons.mp hy with e | hy
      · rw [e]; exact h2
      · exact h3 y hy
theorem greatest_lifo {kinds : List Ty} {tops : List En} (h : PP kinds tops) (hp : 0 < levs kinds tops) :
    ∃ n, FstD kinds tops (levs kinds tops - 1) n ∧ RF m_greatest_open [.sh (planV kinds tops), .sh (modeD false)] fun r fin => r = .sh (.tup [.int ((levs kinds tops : Int) - 1), .int n]) ∧ ∃ x, fin = [some (.sh (planV kinds tops)), x] := by
  have hlv : levs kinds tops ≤ 40 := h.levs
  obtain ⟨r, fin, e, hr, hx⟩ := first_depth_ok h 45 (levs kinds tops - 1) h.okE (fun e he => (h.te e he).2) (.inl (by omega)) (o := .lst (tops.map encE)) (.inl rfl)
  have hne : ∃ n, r = .sh (.int n) ∧ FstD kinds tops (levs kinds tops - 1) n := by
    rcases hr with ⟨hr, _⟩ | hr
    · exfalso
      have hp2 : 0 < PM.maxL (tops.map fun e => PM.lev kinds e.1) := hp
      obtain ⟨e', he1, e2⟩ := List.mem_map.mp (PM.mem_maxL hp2)
      have a := hr e' he1
      have b : levs kinds tops = PM.maxL (tops.map fun e => PM.lev kinds e.1) := rfl
      omega
    · exact hr
  obtain ⟨n, rfl, hn⟩ := hne
  obtain ⟨x, rfl⟩ := hx
  refine ⟨n, hn, ?_⟩
  refine RF_def rfl (by walk_at "nrm") ?_
  repeat walk_at "vw"
  refine RF.mono (disc_ok false) ?_
  rintro r fin ⟨rfl, rfl⟩
  repeat walk_at "vw"
  refine RF.mono (level_count_ok (fun e he => (h.te e he).1) (by have := h.tl; omega)) ?_
  rintro r fin ⟨rfl, rfl⟩
  repeat walk_at "vw"
  refine CB_no (decide_eq_false (by omega)) ?_
  repeat walk_at "vw"
  have he : opEq (modeD false) (.str "fifo") = some (.sh (.bl false)) := by kernel_rfl
  refine R1_of _ he ?_
  repeat walk_at "vw"
  refine RF.mono (level_count_ok (fun e he => (h.te e he).1) (by have := h.tl; omega)) ?_
  rintro r fin ⟨rfl, rfl⟩
  repeat walk_at "vw"
  refine RF.mono root_ok ?_
  rintro r fin ⟨rfl, rfl⟩
  repeat walk_at "vw"
  have e1 : ((levs kinds tops : Nat) : Int) - 1 = ((levs kinds tops - 1 : Nat) : Int) := by omega
  rw [e1]
  refine ⟨_, _, e, rfl, ?_⟩
  repeat walk_at "vw"
  exact ⟨_, rfl⟩
/-- how many threads are enough -/
def Need (kinds : List Ty) (tops : List En) : Bool → Int → Prop
  | true, k => (levs kinds tops = 0 ∧ k = 1) ∨ ∃ c n, Top kinds tops c n ∧ k = c + 1
  | false, k => (levs kinds tops = 0 ∧ k = 1) ∨ (0 < levs kinds tops ∧ k = levs kinds tops)
end Pg
namespace Pg
open PySem PySem.Spec L2 VS Pg
local macro_rules | `(tactic| walk_at "gt") => `(tactic| (simp only [gT, gsCons, gN, gsNil, Option.bind_some, List.length_cons, List.length_nil, List.set_cons_zero, List.set_cons_succ, Nat.reduceAdd, if_true] <;> exact rfl))
local macro_rules | `(tactic| walk_at "nrm") => `(tactic| (simp only [List.set_cons_zero, List.set_cons_succ, List.map_cons, List.map_nil, List.length_cons, List.length_nil, List.replicate, List.cons_append, List.nil_append, Nat.reduceSub, selM, ins, O.fz, wipeD, savD, unwD, List.getElem?_cons_zero, List.getElem?_cons_succ, Option.join_some, Option.join_none] <;> exact rfl))
local macro_rules | `(tactic| walk_at "vw") => `(tactic| first
  | with_reducible refine RX_x2 ?_ | with_reducible refine RX_C ?_ | with_reducible refine RX_Vs rfl ?_ | with_reducible refine RX_Va rfl rfl ?_
  | with_reducible refine RV_sh _ ?_ | with_reducible refine RV_val _ ?_ | with_reducible refine RV_at _ rfl ?_
  | with_reducible refine RK_val _ ?_ | with_reducible refine RK_at _ rfl (by walk_at "nrm") ?_
  | with_reducible refine RS_seq ?_ | with_reducible refine thenS_nx ?_ | with_reducible refine thenS_rt ?_ | with_reducible refine loopS_nx ?_ | with_reducible refine loopS_rt ?_ | with_reducible refine loopS_ct ?_ | with_reducible refine loopS_bk ?_ | with_reducible refine thenS_bk ?_ | with_reducible refine thenS_ct ?_ | with_reducible refine endF_rt (by walk_at "nrm") ?_ | with_reducible refine endF_nx (by walk_at "nrm") ?_
  | with_reducible refine RS_set ?_ | with_reducible refine RS_ret ?_ | with_reducible refine RS_if ?_ | with_reducible refine RS_expr ?_ | with_reducible refine RS_sub ?_ | with_reducible refine RS_attr ?_ | with_reducible refine RS_nil ?_ | with_reducible refine RS_par ?_ | with_reducible refine RS_asg ?_
  | with_reducible refine RX_call ?_ | with_reducible refine RX_bi ?_ | with_reducible refine RX_x1 ?_ | with_reducible refine RX_tup ?_ | with_reducible refine RX_lst ?_
  | with_reducible refine RA_f ?_ | with_reducible refine RA_t ?_ | with_reducible refine RA_nil ?_ | with_reducible refine RB_cons ?_ | with_reducible refine RB_nil ?_
  | with_reducible refine RT_Y ?_ | with_reducible refine RT_tB ?_ | with_reducible refine RT_not ?_ | with_reducible refine RT_and ?_ | with_reducible refine RT_or ?_ | with_reducible refine RX_and ?_ | with_reducible refine RX_or ?_ | with_reducible refine RX_not ?_ | with_reducible refine RX_if ?_ | with_reducible refine RX_ch ?_
  | with_reducible refine CB_t ?_ | with_reducible refine CB_f ?_ | with_reducible refine CB_n ?_
  | with_reducible refine RX_mut rfl rfl ?_ | with_reducible refine RS_for ?_ | with_reducible refine RI_enmU ?_ | with_reducible refine RI_seq ?_ | with_reducible refine RI_rg1 ?_ | with_reducible refine RI_rg3 ?_ | with_reducible refine RX_lc ?_ | with_reducible refine RX_dc ?_ | with_reducible refine RX_dK ?_ | with_reducible refine RX_sl ?_ | with_reducible refine RO_N ?_ | with_reducible refine RO_E ?_ | with_reducible refine RX_fld ?_ | with_reducible refine RX_meth ?_ | with_reducible refine RX_make ?_ | with_reducible refine RX_o2 ?_
  | with_reducible refine RX_q ?_ | with_reducible refine RLk_q ?_ | with_reducible refine RLk_at (by with_unfolding_all rfl) ?_ | with_reducible refine RLk_c ?_ | with_reducible refine RLs_nil ?_ | with_reducible refine RLs_cons ?_ | with_reducible refine RQ_2 ?_ | with_reducible refine RQ_bi ?_ | with_reducible refine RQ_tup ?_ | with_reducible refine RQ_lst ?_ | with_reducible refine RQ_get2 ?_ | with_reducible refine RQ_sl ?_ | with_reducible refine RLo_N ?_ | with_reducible refine RLo_E ?_ | with_reducible refine RQ_f ?_ | with_reducible refine RQ_1 ?_ | with_reducible refine RQ_at (by with_unfolding_all rfl) ?_
  | with_reducible refine RS_subP ?_ | with_reducible refine RS_par3 ?_ | with_reducible refine RX_callK ?_ | with_reducible refine RX_methP ?_ | with_reducible refine RX_mutP ?_ | with_reducible refine RQ_methR ?_
  | with_reducible refine R1_of _ (opMod_int (by decide)) ?_ | with_reducible refine R1_of _ (opDiv_int (by decide)) ?_ | with_reducible refine R1_of _ (opMul_l (by first | decide | omega)) ?_ | with_reducible refine R1_of _ (opMul_r (by first | decide | omega)) ?_ | with_reducible refine R1_of _ (opPow_ok (by first | decide | omega)) ?_
  | refine R1_of _ rfl ?_
  | (fail_if_success (with_reducible refine RF_id ?_)); (fail_if_success (with_reducible refine RL_id ?_)); (fail_if_success (with_reducible refine RS_whid ?_)); (fail_if_success (with_reducible refine inR_id ?_)); first | refine ⟨_, by walk_at "nrm", ?_⟩ | refine ⟨_, _, rfl, ?_⟩ | refine ⟨_, rfl, ?_⟩ | refine ⟨rfl, ?_⟩ | refine ⟨Nat.le_of_ble_eq_true rfl, ?_⟩ | refine ⟨_, _, rfl, rfl, ?_⟩)
theorem RI_id {it : IF} {δ : DS} {P : List D → DS → Prop} (h : RI it δ P) : RI it δ P := h
theorem levs_ne {kinds : List Ty} {tops : List En} (h : PP kinds tops) {q : PM.Pa} (hv : PM.Val kinds tops q) (hq : q ≠ []) : q.length ≤ levs kinds tops := PM.val_lev h.ok h.okE hq hv
/-- the first in first out never needs fewer -/
theorem Need.le {kinds : List Ty} {tops : List En} (h : PP kinds tops) {a b : Int} (ha : Need kinds tops true a) (hb : Need kinds tops false b) : b ≤ a := by
  rcases ha with ⟨h0, rfl⟩ | ⟨c, n, ht, rfl⟩
  · rcases hb with ⟨_, rfl⟩ | ⟨h1, _⟩
    · exact Int.le_refl _
    · omega
  · obtain ⟨q0, v0, hq0, _, e0⟩ := ht.ex
    have hc : 0 ≤ c := by
      have l1 := PM.opL_len h.ok q0 h.okE v0
      have : q0.length ≠ 0 := fun e => hq0 (List.eq_nil_of_length_eq_zero e)
      omega
    rcases hb with ⟨_, rfl⟩ | ⟨h1, rfl⟩
    · omega
    · obtain ⟨n, q, hv, hl, _⟩ : ∃ n, FstD kinds tops (levs kinds tops - 1) n := (greatest_lifo h h1).imp fun n h => h.1
      have hq : q ≠ [] := fun e => by rw [e] at hl; simp at hl
      have l1 := PM.opL_len h.ok q h.okE hv
      have l2 := ht.le q hv hq
      omega
theorem RI_zp {fs : BF} {δ : DS} {P : List D → DS → Prop} (h : RB fs δ fun os δ1 => ∃ o1 o2 ds es, os = [o1, o2] ∧ o1.fz = .lst ds ∧ o2.fz = .lst es ∧ P (zipD ds es) δ1) : RI (iZp fs) δ P := by
  obtain ⟨os, δ1, h1, o1, o2, ds, es, rfl, h2, h3, p⟩ := h
  exact ⟨_, _, by simp [iZp, h1, h2, h3], p⟩
theorem opAdd_lst {a b : List D} (h : a.length + b.length ≤ 16777216) : opAdd (.lst a) (.lst b) = some (.lst (a ++ b)) := if_pos (show a.length + b.length ≤ sizeLine from h)
end Pg
namespace Pg
open PySem PySem.Spec L2 VS Pg
local macro_rules | `(tactic| walk_at "gt") => `(tactic| (simp only [gT, gsCons, gN, gsNil, Option.bind_some, List.length_cons, List.length_nil, List.set_cons_zero, List.set_cons_succ, Nat.reduceAdd, if_true] <;> exact rfl))
local macro_rules | `(tactic| walk_at "nrm") => `(tactic| (simp only [List.set_cons_zero, List.set_cons_succ, List.map_cons, List.map_nil, List.length_cons, List.length_nil, List.replicate, List.cons_append, List.nil_append, Nat.reduceSub, selM, ins, O.fz, wipeD, savD, unwD, List.getElem?_cons_zero, List.getElem?_cons_succ, Option.join_some, Option.join_none] <;> exact rfl))
local macro_rules | `(tactic| walk_at "vw") => `(tactic| first
  | with_reducible refine RX_x2 ?_ | with_reducible refine RX_C ?_ | with_reducible refine RX_Vs rfl ?_ | with_reducible refine RX_Va rfl rfl ?_
  | with_reducible refine RV_sh _ ?_ | with_reducible refine RV_val _ ?_ | with_reducible refine RV_at _ rfl ?_
  | with_reducible refine RK_val _ ?_ | with_reducible refine RK_at _ rfl (by walk_at "nrm") ?_
  | with_reducible refine RS_seq ?_ | with_reducible refine thenS_nx ?_ | with_reducible refine thenS_rt ?_ | with_reducible refine loopS_nx ?_ | with_reducible refine loopS_rt ?_ | with_reducible refine loopS_ct ?_ | with_reducible refine loopS_bk ?_ | with_reducible refine thenS_bk ?_ | with_reducible refine thenS_ct ?_ | with_reducible refine endF_rt (by walk_at "nrm") ?_ | with_reducible refine endF_nx (by walk_at "nrm") ?_
  | with_reducible refine RS_set ?_ | with_reducible refine RS_ret ?_ | with_reducible refine RS_if ?_ | with_reducible refine RS_expr ?_ | with_reducible refine RS_sub ?_ | with_reducible refine RS_attr ?_ | with_reducible refine RS_nil ?_ | with_reducible refine RS_par ?_ | with_reducible refine RS_asg ?_
  | with_reducible refine RX_call ?_ | with_reducible refine RX_bi ?_ | with_reducible refine RX_x1 ?_ | with_reducible refine RX_tup ?_ | with_reducible refine RX_lst ?_
  | with_reducible refine RA_f ?_ | with_reducible refine RA_t ?_ | with_reducible refine RA_nil ?_ | with_reducible refine RB_cons ?_ | with_reducible refine RB_nil ?_
  | with_reducible refine RT_Y ?_ | with_reducible refine RT_tB ?_ | with_reducible refine RT_not ?_ | with_reducible refine RT_and ?_ | with_reducible refine RT_or ?_ | with_reducible refine RX_and ?_ | with_reducible refine RX_or ?_ | with_reducible refine RX_not ?_ | with_reducible refine RX_if ?_ | with_reducible refine RX_ch ?_
  | with_reducible refine CB_t ?_ | with_reducible refine CB_f ?_ | with_reducible refine CB_n ?_
  | with_reducible refine RX_mut rfl rfl ?_ | with_reducible refine RS_for ?_ | with_reducible refine RI_enmU ?_ | with_reducible refine RI_seq ?_ | with_reducible refine RI_rg1 ?_ | with_reducible refine RI_rg3 ?_ | with_reducible refine RX_lc ?_ | with_reducible refine RX_dc ?_ | with_reducible refine RX_dK ?_ | with_reducible refine RX_sl ?_ | with_reducible refine RO_N ?_ | with_reducible refine RO_E ?_ | with_reducible refine RX_fld ?_ | with_reducible refine RX_meth ?_ | with_reducible refine RX_make ?_ | with_reducible refine RX_o2 ?_
  | with_reducible refine RX_q ?_ | with_reducible refine RLk_q ?_ | with_reducible refine RLk_at (by with_unfolding_all rfl) ?_ | with_reducible refine RLk_c ?_ | with_reducible refine RLs_nil ?_ | with_reducible refine RLs_cons ?_ | with_reducible refine RQ_2 ?_ | with_reducible refine RQ_bi ?_ | with_reducible refine RQ_tup ?_ | with_reducible refine RQ_lst ?_ | with_reducible refine RQ_get2 ?_ | with_reducible refine RQ_sl ?_ | with_reducible refine RLo_N ?_ | with_reducible refine RLo_E ?_ | with_reducible refine RQ_f ?_ | with_reducible refine RQ_1 ?_ | with_reducible refine RQ_at (by with_unfolding_all rfl) ?_
  | with_reducible refine RI_zp ?_ | with_reducible refine RI_enmS ?_ | with_reducible refine RS_subP ?_ | with_reducible refine RS_par3 ?_ | with_reducible refine RX_callK ?_ | with_reducible refine RX_methP ?_ | with_reducible refine RX_mutP ?_ | with_reducible refine RQ_methR ?_
  | with_reducible refine R1_of _ (opMod_int (by decide)) ?_ | with_reducible refine R1_of _ (opDiv_int (by decide)) ?_ | with_reducible refine R1_of _ (opMul_l (by first | decide | omega)) ?_ | with_reducible refine R1_of _ (opMul_r (by first | decide | omega)) ?_ | with_reducible refine R1_of _ (opPow_ok (by first | decide | omega)) ?_
  | refine R1_of _ rfl ?_
  | (fail_if_success (with_reducible refine RF_id ?_)); (fail_if_success (with_reducible refine RL_id ?_)); (fail_if_success (with_reducible refine RI_id ?_)); (fail_if_success (with_reducible refine RS_whid ?_)); (fail_if_success (with_reducible refine inR_id ?_)); first | refine ⟨_, by walk_at "nrm", ?_⟩ | refine ⟨_, _, rfl, ?_⟩ | refine ⟨_, rfl, ?_⟩ | refine ⟨rfl, ?_⟩ | refine ⟨Nat.le_of_ble_eq_true rfl, ?_⟩ | refine ⟨_, _, rfl, rfl, ?_⟩)
end Pg
namespace Pg
open PySem PySem.Spec L2 VS Pg
local macro_rules | `(tactic| walk_at "gt") => `(tactic| (simp only [gT, gsCons, gN, gsNil, Option.bind_some, List.length_cons, List.length_nil, List.set_cons_zero, List.set_cons_succ, Nat.reduceAdd, if_true] <;> exact rfl))
local macro_rules | `(tactic| walk_at "nrm") => `(tactic| (simp only [List.set_cons_zero, List.set_cons_succ, List.map_cons, List.map_nil, List.length_cons, List.length_nil, List.replicate, List.cons_append, List.nil_append, Nat.reduceSub, selM, ins, O.fz, wipeD, savD, unwD, List.getElem?_cons_zero, List.getElem?_cons_succ, Option.join_some, Option.join_none] <;> exact rfl))
local macro_rules | `(tactic| walk_at "vw") => `(tactic| first
  | with_reducible refine RX_x2 ?_ | with_reducible refine RX_C ?_ | with_reducible refine RX_Vs rfl ?_ | with_reducible refine RX_Va rfl rfl ?_
  | with_reducible refine RV_sh _ ?_ | with_reducible refine RV_val _ ?_ | with_reducible refine RV_at _ rfl ?_
  | with_reducible refine RK_val _ ?_ | with_reducible refine RK_at _ rfl (by walk_at "nrm") ?_
  | with_reducible refine RS_seq ?_ | with_reducible refine thenS_nx ?_ | with_reducible refine thenS_rt ?_ | with_reducible refine loopS_nx ?_ | with_reducible refine loopS_rt ?_ | with_reducible refine loopS_ct ?_ | with_reducible refine loopS_bk ?_ | with_reducible refine thenS_bk ?_ | with_reducible refine thenS_ct ?_ | with_reducible refine endF_rt (by walk_at "nrm") ?_ | with_reducible refine endF_nx (by walk_at "nrm") ?_
  | with_reducible refine RS_set ?_ | with_reducible refine RS_ret ?_ | with_reducible refine RS_if ?_ | with_reducible refine RS_expr ?_ | with_reducible refine RS_sub ?_ | with_reducible refine RS_attr ?_ | with_reducible refine RS_nil ?_ | with_reducible refine RS_par ?_ | with_reducible refine RS_asg ?_
  | with_reducible refine RX_call ?_ | with_reducible refine RX_bi ?_ | with_reducible refine RX_x1 ?_ | with_reducible refine RX_tup ?_ | with_reducible refine RX_lst ?_
  | with_reducible refine RA_f ?_ | with_reducible refine RA_t ?_ | with_reducible refine RA_nil ?_ | with_reducible refine RB_cons ?_ | with_reducible refine RB_nil ?_
  | with_reducible refine RT_Y ?_ | with_reducible refine RT_tB ?_ | with_reducible refine RT_not ?_ | with_reducible refine RT_and ?_ | with_reducible refine RT_or ?_ | with_reducible refine RX_and ?_ | with_reducible refine RX_or ?_ | with_reducible refine RX_not ?_ | with_reducible refine RX_if ?_ | with_reducible refine RX_ch ?_
  | with_reducible refine CB_t ?_ | with_reducible refine CB_f ?_ | with_reducible refine CB_n ?_
  | with_reducible refine RX_mut rfl rfl ?_ | with_reducible refine RS_for ?_ | with_reducible refine RI_enmU ?_ | with_reducible refine RI_seq ?_ | with_reducible refine RI_rg1 ?_ | with_reducible refine RI_rg3 ?_ | with_reducible refine RX_lc ?_ | with_reducible refine RX_dc ?_ | with_reducible refine RX_dK ?_ | with_reducible refine RX_sl ?_ | with_reducible refine RO_N ?_ | with_reducible refine RO_E ?_ | with_reducible refine RX_fld ?_ | with_reducible refine RX_meth ?_ | with_reducible refine RX_make ?_ | with_reducible refine RX_o2 ?_
  | with_reducible refine RX_q ?_ | with_reducible refine RLk_q ?_ | with_reducible refine RLk_at (by with_unfolding_all rfl) ?_ | with_reducible refine RLk_c ?_ | with_reducible refine RLs_nil ?_ | with_reducible refine RLs_cons ?_ | with_reducible refine RQ_2 ?_ | with_reducible refine RQ_bi ?_ | with_reducible refine RQ_tup ?_ | with_reducible refine RQ_lst ?_ | with_reducible refine RQ_get2 ?_ | with_reducible refine RQ_sl ?_ | with_reducible refine RLo_N ?_ | with_reducible refine RLo_E ?_ | with_reducible refine RQ_f ?_ | with_reducible refine RQ_1 ?_ | with_reducible refine RQ_at (by with_unfolding_all rfl) ?_
  | with_reducible refine RI_zp ?_ | with_reducible refine RI_enmS ?_ | with_reducible refine RS_subP ?_ | with_reducible refine RS_par3 ?_ | with_reducible refine RX_callK ?_ | with_reducible refine RX_methP ?_ | with_reducible refine RX_mutP ?_ | with_reducible refine RQ_methR ?_
  | with_reducible refine R1_of _ (opMod_int (by decide)) ?_ | with_reducible refine R1_of _ (opDiv_int (by decide)) ?_ | with_reducible refine R1_of _ (opMul_l (by first | decide | omega)) ?_ | with_reducible refine R1_of _ (opMul_r (by first | decide | omega)) ?_ | with_reducible refine R1_of _ (opPow_ok (by first | decide | omega)) ?_
  | refine R1_of _ rfl ?_
  | (fail_if_success (with_reducible refine RF_id ?_)); (fail_if_success (with_reducible refine RL_id ?_)); (fail_if_success (with_reducible refine RI_id ?_)); (fail_if_success (with_reducible refine RS_whid ?_)); (fail_if_success (with_reducible refine inR_id ?_)); first | refine ⟨_, by walk_at "nrm", ?_⟩ | refine ⟨_, _, rfl, ?_⟩ | refine ⟨_, rfl, ?_⟩ | refine ⟨rfl, ?_⟩ | refine ⟨Nat.le_of_ble_eq_true rfl, ?_⟩ | refine ⟨_, _, rfl, rfl, ?_⟩)
end Pg
namespace Pg
open PySem PySem.Spec L2 VS Pg
local macro_rules | `(tactic| walk_at "gt") => `(tactic| (simp only [gT, gsCons, gN, gsNil, Option.bind_some, List.length_cons, List.length_nil, List.set_cons_zero, List.set_cons_succ, Nat.reduceAdd, if_true] <;> exact rfl))
local macro_rules | `(tactic| walk_at "nrm") => `(tactic| (simp only [List.set_cons_zero, List.set_cons_succ, List.map_cons, List.map_nil, List.length_cons, List.length_nil, List.replicate, List.cons_append, List.nil_append, Nat.reduceSub, selM, ins, O.fz, wipeD, savD, unwD, List.getElem?_cons_zero, List.getElem?_cons_succ, Option.join_some, Option.join_none] <;> exact rfl))
local macro_rules | `(tactic| walk_at "vw") => `(tactic| first
  | with_reducible refine RX_x2 ?_ | with_reducible refine RX_C ?_ | with_reducible refine RX_Vs rfl ?_ | with_reducible refine RX_Va rfl rfl ?_
  | with_reducible refine RV_sh _ ?_ | with_reducible refine RV_val _ ?_ | with_reducible refine RV_at _ rfl ?_
  | with_reducible refine RK_val _ ?_ | with_reducible refine RK_at _ rfl (by walk_at "nrm") ?_
  | with_reducible refine RS_seq ?_ | with_reducible refine thenS_nx ?_ | with_reducible refine thenS_rt ?_ | with_reducible refine loopS_nx ?_ | with_reducible refine loopS_rt ?_ | with_reducible refine loopS_ct ?_ | with_reducible refine loopS_bk ?_ | with_reducible refine thenS_bk ?_ | with_reducible refine thenS_ct ?_ | with_reducible refine endF_rt (by walk_at "nrm") ?_ | with_reducible refine endF_nx (by walk_at "nrm") ?_
  | with_reducible refine RS_set ?_ | with_reducible refine RS_ret ?_ | with_reducible refine RS_if ?_ | with_reducible refine RS_expr ?_ | with_reducible refine RS_sub ?_ | with_reducible refine RS_attr ?_ | with_reducible refine RS_nil ?_ | with_reducible refine RS_par ?_ | with_reducible refine RS_asg ?_
  | with_reducible refine RX_call ?_ | with_reducible refine RX_bi ?_ | with_reducible refine RX_x1 ?_ | with_reducible refine RX_tup ?_ | with_reducible refine RX_lst ?_
  | with_reducible refine RA_f ?_ | with_reducible refine RA_t ?_ | with_reducible refine RA_nil ?_ | with_reducible refine RB_cons ?_ | with_reducible refine RB_nil ?_
  | with_reducible refine RT_Y ?_ | with_reducible refine RT_tB ?_ | with_reducible refine RT_not ?_ | with_reducible refine RT_and ?_ | with_reducible refine RT_or ?_ | with_reducible refine RX_and ?_ | with_reducible refine RX_or ?_ | with_reducible refine RX_not ?_ | with_reducible refine RX_if ?_ | with_reducible refine RX_ch ?_
  | with_reducible refine CB_t ?_ | with_reducible refine CB_f ?_ | with_reducible refine CB_n ?_
  | with_reducible refine RX_mut rfl rfl ?_ | with_reducible refine RS_for ?_ | with_reducible refine RI_enmU ?_ | with_reducible refine RI_seq ?_ | with_reducible refine RI_rg1 ?_ | with_reducible refine RI_rg3 ?_ | with_reducible refine RX_lc ?_ | with_reducible refine RX_dc ?_ | with_reducible refine RX_dK ?_ | with_reducible refine RX_sl ?_ | with_reducible refine RO_N ?_ | with_reducible refine RO_E ?_ | with_reducible refine RX_fld ?_ | with_reducible refine RX_meth ?_ | with_reducible refine RX_make ?_ | with_reducible refine RX_o2 ?_
  | with_reducible refine RX_q ?_ | with_reducible refine RLk_q ?_ | with_reducible refine RLk_at (by with_unfolding_all rfl) ?_ | with_reducible refine RLk_c ?_ | with_reducible refine RLs_nil ?_ | with_reducible refine RLs_cons ?_ | with_reducible refine RQ_2 ?_ | with_reducible refine RQ_bi ?_ | with_reducible refine RQ_tup ?_ | with_reducible refine RQ_lst ?_ | with_reducible refine RQ_get2 ?_ | with_reducible refine RQ_sl ?_ | with_reducible refine RLo_N ?_ | with_reducible refine RLo_E ?_ | with_reducible refine RQ_f ?_ | with_reducible refine RQ_1 ?_ | with_reducible refine RQ_at (by with_unfolding_all rfl) ?_
  | with_reducible refine RI_zp ?_ | with_reducible refine RI_enmS ?_ | with_reducible refine RS_subP ?_ | with_reducible refine RS_par3 ?_ | with_reducible refine RX_callK ?_ | with_reducible refine RX_methP ?_ | with_reducible refine RX_mutP ?_ | with_reducible refine RQ_methR ?_
  | with_reducible refine R1_of _ (opMod_int (by decide)) ?_ | with_reducible refine R1_of _ (opDiv_int (by decide)) ?_ | with_reducible refine R1_of _ (opMul_l (by first | decide | omega)) ?_ | with_reducible refine R1_of _ (opMul_r (by first | decide | omega)) ?_ | with_reducible refine R1_of _ (opPow_ok (by first | decide | omega)) ?_
  | refine R1_of _ rfl ?_
  | (fail_if_success (with_reducible refine RF_id ?_)); (fail_if_success (with_reducible refine RL_id ?_)); (fail_if_success (with_reducible refine RI_id ?_)); (fail_if_success (with_reducible refine RS_whid ?_)); (fail_if_success (with_reducible refine inR_id ?_)); first | refine ⟨_, by walk_at "nrm", ?_⟩ | refine ⟨_, _, rfl, ?_⟩ | refine ⟨_, rfl, ?_⟩ | refine ⟨rfl, ?_⟩ | refine ⟨Nat.le_of_ble_eq_true rfl, ?_⟩ | refine ⟨_, _, rfl, rfl, ?_⟩)
theorem check_start_ok {kinds : List Ty} {tops : List En} (h : PP kinds tops) {n : Int} (h0 : 0 ≤ n) (h1 : n < PM.sumE (PM.size kinds) tops) :
    RF m_check_start [.sh (planV kinds tops), .sh (.int n)] fun r fin => r = .sh .non ∧ fin = [some (.sh (planV kinds tops)), some (.sh (.int n))] := by
  refine RF_def rfl (by walk_at "nrm") ?_
  repeat walk_at "vw"
  refine RF.mono int_ok ?_
  rintro r fin ⟨rfl, rfl⟩
  repeat walk_at "vw"
  refine CB_yes (by simp [h0]) ?_
  repeat walk_at "vw"
  refine RF.mono (task_total_ok h) ?_
  rintro r fin ⟨rfl, rfl⟩
  repeat walk_at "vw"
  refine CB_yes (by simp [h1]) ?_
  repeat walk_at "vw"
  rfl
theorem FstD.lev {kinds : List Ty} {rows : List En} (hK : PM.Ok kinds) (ho : PM.OkE kinds rows) {d : Nat} {a : Int} (h : FstD kinds rows d a) : d < levs kinds rows := by
  obtain ⟨q, v, l, _⟩ := h
  have := PM.val_lev hK ho (fun e => by rw [e] at l; simp at l) v
  unfold levs
  omega
/-- the trees put behind come first -/
theorem FstD.right {kinds : List Ty} (hK : PM.Ok kinds) {A B : List En} (hA : PM.OkE kinds A) (hB : PM.OkE kinds B) {d : Nat} {n : Int} (h : FstD kinds B d n) : FstD kinds (A ++ B) d n := by
  obtain ⟨q, v, l, e, m⟩ := h
  match q, v, l, e with
  | (p, i) :: q, v, l, e =>
    refine ⟨(A.length + p, i) :: q, (PM.val_right v).1, by simpa using l, by rw [PM.rkD_right]; exact e, fun q' v' l' => ?_⟩
    have rB := PM.rkD_range hK q hB v
    rcases PM.val_cases v' l' with ⟨p', i', q1, rfl, v1, l1⟩ | ⟨p', i', q1, rfl, v1, l1⟩
    · rw [PM.rkD_left (PM.val_left (B := B) v1).2]
      have := PM.rkD_range hK q1 hA v1
      omega
    · rw [PM.rkD_right]
      exact m _ v1 (by simpa using l')
end Pg
namespace Pg
open PySem PySem.Spec L2 VS Pg
local macro_rules | `(tactic| walk_at "gt") => `(tactic| (simp only [gT, gsCons, gN, gsNil, Option.bind_some, List.length_cons, List.length_nil, List.set_cons_zero, List.set_cons_succ, Nat.reduceAdd, if_true] <;> exact rfl))
local macro_rules | `(tactic| walk_at "nrm") => `(tactic| (simp only [List.set_cons_zero, List.set_cons_succ, List.map_cons, List.map_nil, List.length_cons, List.length_nil, List.replicate, List.cons_append, List.nil_append, Nat.reduceSub, selM, ins, O.fz, wipeD, savD, unwD, List.getElem?_cons_zero, List.getElem?_cons_succ, Option.join_some, Option.join_none] <;> exact rfl))
local macro_rules | `(tactic| walk_at "vw") => `(tactic| first
  | with_reducible refine RX_x2 ?_ | with_reducible refine RX_C ?_ | with_reducible refine RX_Vs rfl ?_ | with_reducible refine RX_Va rfl rfl ?_
  | with_reducible refine RV_sh _ ?_ | with_reducible refine RV_val _ ?_ | with_reducible refine RV_at _ rfl ?_
  | with_reducible refine RK_val _ ?_ | with_reducible refine RK_at _ rfl (by walk_at "nrm") ?_
  | with_reducible refine RS_seq ?_ | with_reducible refine thenS_nx ?_ | with_reducible refine thenS_rt ?_ | with_reducible refine loopS_nx ?_ | with_reducible refine loopS_rt ?_ | with_reducible refine loopS_ct ?_ | with_reducible refine loopS_bk ?_ | with_reducible refine thenS_bk ?_ | with_reducible refine thenS_ct ?_ | with_reducible refine endF_rt (by walk_at "nrm") ?_ | with_reducible refine endF_nx (by walk_at "nrm") ?_
  | with_reducible refine RS_set ?_ | with_reducible refine RS_ret ?_ | with_reducible refine RS_if ?_ | with_reducible refine RS_expr ?_ | with_reducible refine RS_sub ?_ | with_reducible refine RS_attr ?_ | with_reducible refine RS_nil ?_ | with_reducible refine RS_par ?_ | with_reducible refine RS_asg ?_
  | with_reducible refine RX_call ?_ | with_reducible refine RX_bi ?_ | with_reducible refine RX_x1 ?_ | with_reducible refine RX_tup ?_ | with_reducible refine RX_lst ?_
  | with_reducible refine RA_f ?_ | with_reducible refine RA_t ?_ | with_reducible refine RA_nil ?_ | with_reducible refine RB_cons ?_ | with_reducible refine RB_nil ?_
  | with_reducible refine RT_Y ?_ | with_reducible refine RT_tB ?_ | with_reducible refine RT_not ?_ | with_reducible refine RT_and ?_ | with_reducible refine RT_or ?_ | with_reducible refine RX_and ?_ | with_reducible refine RX_or ?_ | with_reducible refine RX_not ?_ | with_reducible refine RX_if ?_ | with_reducible refine RX_ch ?_
  | with_reducible refine CB_t ?_ | with_reducible refine CB_f ?_ | with_reducible refine CB_n ?_
  | with_reducible refine RX_mut rfl rfl ?_ | with_reducible refine RS_for ?_ | with_reducible refine RI_enmU ?_ | with_reducible refine RI_seq ?_ | with_reducible refine RI_rg1 ?_ | with_reducible refine RI_rg3 ?_ | with_reducible refine RX_lc ?_ | with_reducible refine RX_dc ?_ | with_reducible refine RX_dK ?_ | with_reducible refine RX_sl ?_ | with_reducible refine RO_N ?_ | with_reducible refine RO_E ?_ | with_reducible refine RX_fld ?_ | with_reducible refine RX_meth ?_ | with_reducible refine RX_make ?_ | with_reducible refine RX_o2 ?_
  | with_reducible refine RX_q ?_ | with_reducible refine RLk_q ?_ | with_reducible refine RLk_at (by with_unfolding_all rfl) ?_ | with_reducible refine RLk_c ?_ | with_reducible refine RLs_nil ?_ | with_reducible refine RLs_cons ?_ | with_reducible refine RQ_2 ?_ | with_reducible refine RQ_bi ?_ | with_reducible refine RQ_tup ?_ | with_reducible refine RQ_lst ?_ | with_reducible refine RQ_get2 ?_ | with_reducible refine RQ_sl ?_ | with_reducible refine RLo_N ?_ | with_reducible refine RLo_E ?_ | with_reducible refine RQ_f ?_ | with_reducible refine RQ_1 ?_ | with_reducible refine RQ_at (by with_unfolding_all rfl) ?_
  | with_reducible refine RI_zp ?_ | with_reducible refine RI_enmS ?_ | with_reducible refine RS_subP ?_ | with_reducible refine RS_par3 ?_ | with_reducible refine RX_callK ?_ | with_reducible refine RX_methP ?_ | with_reducible refine RX_mutP ?_ | with_reducible refine RQ_methR ?_
  | with_reducible refine R1_of _ (opMod_int (by decide)) ?_ | with_reducible refine R1_of _ (opDiv_int (by decide)) ?_ | with_reducible refine R1_of _ (opMul_l (by first | decide | omega)) ?_ | with_reducible refine R1_of _ (opMul_r (by first | decide | omega)) ?_ | with_reducible refine R1_of _ (opPow_ok (by first | decide | omega)) ?_
  | refine R1_of _ rfl ?_
  | (fail_if_success (with_reducible refine RF_id ?_)); (fail_if_success (with_reducible refine RL_id ?_)); (fail_if_success (with_reducible refine RI_id ?_)); (fail_if_success (with_reducible refine RS_whid ?_)); (fail_if_success (with_reducible refine inR_id ?_)); first | refine ⟨_, by walk_at "nrm", ?_⟩ | refine ⟨_, _, rfl, ?_⟩ | refine ⟨_, rfl, ?_⟩ | refine ⟨rfl, ?_⟩ | refine ⟨Nat.le_of_ble_eq_true rfl, ?_⟩ | refine ⟨_, _, rfl, rfl, ?_⟩)
theorem RC_fltM {α : Type} {enc : α → D} {f : α → Bool} {g : α → D} {gt : GF} {tt : TF} {fe : XF} {own : List Nat} {l : List α} {P : List D → DS → Prop} {δ : DS}
    (step : ∀ x ∈ l, ∃ δ1, gt (enc x) δ = some δ1 ∧ RT tt δ1 fun b δ2 => b = f x ∧ wipeD δ2 own = δ ∧ (b = true → RX fe δ2 fun e δ3 => RK δ3 e fun o δ4 => o.fz = g x ∧ wipeD δ4 own = δ))
    (fin : P ((l.filter f).map g) δ) : RC gt tt fe own (l.map enc) δ [] P := by
  refine RC_inv (fun done acc δ' => acc = (done.filter f).map g ∧ δ' = δ) ⟨rfl, rfl⟩ (fun done x rest acc δ' e ⟨h1, h2⟩ => ?_) fun acc δ' ⟨h1, h2⟩ => by rw [h1, h2]; exact fin
  subst h1 h2
  obtain ⟨δ1, h3, b, δ2, h4, hb, hw, hc⟩ := step x (by rw [e]; simp)
  refine ⟨δ1, h3, b, δ2, h4, ?_⟩
  cases hf : f x with
  | true =>
    have hbt : b = true := by rw [hb, hf]
    obtain ⟨ev, δ3, h5, o, δ4, h6, h7, h8⟩ := hc hbt
    exact CB_yes hbt ⟨ev, δ3, h5, o, δ4, h6, by rw [h7, List.filter_append, List.map_append]; simp [hf], h8⟩
  | false => exact CB_no (by rw [hb, hf]) ⟨by rw [List.filter_append]; simp [hf], hw⟩
end Pg
namespace Pg
open PySem PySem.Spec L2 VS Pg
local macro_rules | `(tactic| walk_at "gt") => `(tactic| (simp only [gT, gsCons, gN, gsNil, Option.bind_some, List.length_cons, List.length_nil, List.set_cons_zero, List.set_cons_succ, Nat.reduceAdd, if_true] <;> exact rfl))
local macro_rules | `(tactic| walk_at "nrm") => `(tactic| (simp only [List.set_cons_zero, List.set_cons_succ, List.map_cons, List.map_nil, List.length_cons, List.length_nil, List.replicate, List.cons_append, List.nil_append, Nat.reduceSub, selM, ins, O.fz, wipeD, savD, unwD, List.getElem?_cons_zero, List.getElem?_cons_succ, Option.join_some, Option.join_none] <;> exact rfl))
local macro_rules | `(tactic| walk_at "vw") => `(tactic| first
  | with_reducible refine RX_x2 ?_ | with_reducible refine RX_C ?_ | with_reducible refine RX_Vs rfl ?_ | with_reducible refine RX_Va rfl rfl ?_
  | with_reducible refine RV_sh _ ?_ | with_reducible refine RV_val _ ?_ | with_reducible refine RV_at _ rfl ?_
  | with_reducible refine RK_val _ ?_ | with_reducible refine RK_at _ rfl (by walk_at "nrm") ?_
  | with_reducible refine RS_seq ?_ | with_reducible refine thenS_nx ?_ | with_reducible refine thenS_rt ?_ | with_reducible refine loopS_nx ?_ | with_reducible refine loopS_rt ?_ | with_reducible refine loopS_ct ?_ | with_reducible refine loopS_bk ?_ | with_reducible refine thenS_bk ?_ | with_reducible refine thenS_ct ?_ | with_reducible refine endF_rt (by walk_at "nrm") ?_ | with_reducible refine endF_nx (by walk_at "nrm") ?_
  | with_reducible refine RS_set ?_ | with_reducible refine RS_ret ?_ | with_reducible refine RS_if ?_ | with_reducible refine RS_expr ?_ | with_reducible refine RS_sub ?_ | with_reducible refine RS_attr ?_ | with_reducible refine RS_nil ?_ | with_reducible refine RS_par ?_ | with_reducible refine RS_asg ?_
  | with_reducible refine RX_call ?_ | with_reducible refine RX_bi ?_ | with_reducible refine RX_x1 ?_ | with_reducible refine RX_tup ?_ | with_reducible refine RX_lst ?_
  | with_reducible refine RA_f ?_ | with_reducible refine RA_t ?_ | with_reducible refine RA_nil ?_ | with_reducible refine RB_cons ?_ | with_reducible refine RB_nil ?_
  | with_reducible refine RT_Y ?_ | with_reducible refine RT_tB ?_ | with_reducible refine RT_not ?_ | with_reducible refine RT_and ?_ | with_reducible refine RT_or ?_ | with_reducible refine RX_and ?_ | with_reducible refine RX_or ?_ | with_reducible refine RX_not ?_ | with_reducible refine RX_if ?_ | with_reducible refine RX_ch ?_
  | with_reducible refine CB_t ?_ | with_reducible refine CB_f ?_ | with_reducible refine CB_n ?_
  | with_reducible refine RX_mut rfl rfl ?_ | with_reducible refine RS_for ?_ | with_reducible refine RI_enmU ?_ | with_reducible refine RI_seq ?_ | with_reducible refine RI_rg1 ?_ | with_reducible refine RI_rg3 ?_ | with_reducible refine RX_lc ?_ | with_reducible refine RX_dc ?_ | with_reducible refine RX_dK ?_ | with_reducible refine RX_sl ?_ | with_reducible refine RO_N ?_ | with_reducible refine RO_E ?_ | with_reducible refine RX_fld ?_ | with_reducible refine RX_meth ?_ | with_reducible refine RX_make ?_ | with_reducible refine RX_o2 ?_
  | with_reducible refine RX_q ?_ | with_reducible refine RLk_q ?_ | with_reducible refine RLk_at (by with_unfolding_all rfl) ?_ | with_reducible refine RLk_c ?_ | with_reducible refine RLs_nil ?_ | with_reducible refine RLs_cons ?_ | with_reducible refine RQ_2 ?_ | with_reducible refine RQ_bi ?_ | with_reducible refine RQ_tup ?_ | with_reducible refine RQ_lst ?_ | with_reducible refine RQ_get2 ?_ | with_reducible refine RQ_sl ?_ | with_reducible refine RLo_N ?_ | with_reducible refine RLo_E ?_ | with_reducible refine RQ_f ?_ | with_reducible refine RQ_1 ?_ | with_reducible refine RQ_at (by with_unfolding_all rfl) ?_
  | with_reducible refine RI_zp ?_ | with_reducible refine RI_enmS ?_ | with_reducible refine RS_subP ?_ | with_reducible refine RS_par3 ?_ | with_reducible refine RX_callK ?_ | with_reducible refine RX_methP ?_ | with_reducible refine RX_mutP ?_ | with_reducible refine RQ_methR ?_
  | with_reducible refine R1_of _ (opMod_int (by decide)) ?_ | with_reducible refine R1_of _ (opDiv_int (by decide)) ?_ | with_reducible refine R1_of _ (opMul_l (by first | decide | omega)) ?_ | with_reducible refine R1_of _ (opMul_r (by first | decide | omega)) ?_ | with_reducible refine R1_of _ (opPow_ok (by first | decide | omega)) ?_
  | refine R1_of _ rfl ?_
  | (fail_if_success (with_reducible refine RF_id ?_)); (fail_if_success (with_reducible refine RL_id ?_)); (fail_if_success (with_reducible refine RI_id ?_)); (fail_if_success (with_reducible refine RS_whid ?_)); (fail_if_success (with_reducible refine inR_id ?_)); first | refine ⟨_, by walk_at "nrm", ?_⟩ | refine ⟨_, _, rfl, ?_⟩ | refine ⟨_, rfl, ?_⟩ | refine ⟨rfl, ?_⟩ | refine ⟨Nat.le_of_ble_eq_true rfl, ?_⟩ | refine ⟨_, _, rfl, rfl, ?_⟩)
theorem kind_mem {kinds : List Ty} {tops : List En} (h : PP kinds tops) {q : PM.Pa} (hv : PM.Val kinds tops q) {s : Str} (hs : PM.kindP kinds tops q = some s) : s ∈ nms kinds := PM.kindP_mem h.ok q h.okE hv hs
theorem is_inner_ok {kinds : List Ty} {tops : List En} (h : PP kinds tops) {s : Str} (hs : s ∈ nms kinds) : RF m_Plan_is_inner [.sh (planV kinds tops), .sh (.str s)] fun r fin => r = .sh (.bl (!(PM.ents kinds s).isEmpty)) ∧ fin = [some (.sh (planV kinds tops)), some (.sh (.str s))] := by
  refine RF_def rfl (by walk_at "nrm") ?_
  repeat walk_at "vw"
  refine RF.mono (entries_ok h.nd hs) ?_
  rintro r fin ⟨rfl, rfl⟩
  repeat walk_at "vw"
  refine R1_of _ (opNe_ents (h.row_ents hs)) ?_
  repeat walk_at "vw"
  first | rfl | exact ⟨rfl, rfl⟩
theorem max_place {rows : List En} {f : En × Nat → Bool} (hne : (rows.zipIdx 0).filter f ≠ []) : ∃ p e, rows[p]? = some e ∧ f (e, p) = true ∧ (∀ p' e', p < p' → rows[p']? = some e' → f (e', p') = false) ∧
    mMax [.lst (((rows.zipIdx 0).filter f).map fun x => D.int (x.2 : Nat))] = some (.sh (.int (p : Nat))) := by
  have hne2 : ((rows.zipIdx 0).filter f).map (fun x => ((x.2 : Nat) : Int)) ≠ [] := fun z => hne (List.map_eq_nil_iff.mp z)
  obtain ⟨m, h1, h2, h3⟩ := Pg.maxI_ok hne2
  obtain ⟨⟨e, p⟩, h4, rfl⟩ := List.mem_map.mp h2
  obtain ⟨h5, h6⟩ := List.mem_filter.mp h4
  have h7 : rows[p]? = some e := by
    have := List.mem_zipIdx_iff_getElem?.mp h5
    simpa using this
  refine ⟨p, e, h7, h6, fun p' e' hp he' => ?_, ?_⟩
  · cases hf : f (e', p') with
    | false => rfl
    | true =>
      exfalso
      have hm : (e', p') ∈ rows.zipIdx 0 := List.mem_zipIdx_iff_getElem?.mpr (by simpa using he')
      have := h3 ((p' : Nat) : Int) (List.mem_map.mpr ⟨(e', p'), List.mem_filter.mpr ⟨hm, hf⟩, rfl⟩)
      simp only at this
      omega
  · have e1 := intsOf_map (fun x : En × Nat => ((x.2 : Nat) : Int)) ((rows.zipIdx 0).filter f)
    show (intsOf _).bind _ = _
    rw [e1, Option.bind_some, h1]
    rfl
theorem last_lifo_ok {kinds : List Ty} {tops : List En} (h : PP kinds tops) {q : PM.Pa} (hq : q ≠ []) (hv : PM.Val kinds tops q) {s : Str} (hs : PM.kindP kinds tops q = some s) :
    RF m_last_start [.sh (planV kinds tops), .sh (modeD false), .sh (encA q)] fun r fin => r = .sh (.int (numM kinds tops false q + PM.size kinds s - 1)) ∧ ∃ x, fin = [some (.sh (planV kinds tops)), some (.sh (modeD false)), x] := by
  have hsm : s ∈ nms kinds := kind_mem h hv hs
  refine RF_def rfl (by walk_at "nrm") ?_
  repeat walk_at "vw"
  refine RF.mono (disc_ok false) ?_
  rintro r fin ⟨rfl, rfl⟩
  repeat walk_at "vw"
  refine RF.mono (type_of_ok h hq hv) ?_
  rintro r fin ⟨rfl, rfl⟩
  rw [hs]
  unfold kdD
  repeat walk_at "vw"
  refine R1_of (o := .sh (.bl true)) _ (by kernel_rfl) ?_
  repeat walk_at "vw"
  refine RF.mono (number_of_ok h false hq hv) ?_
  rintro r fin ⟨rfl, rfl⟩
  repeat walk_at "vw"
  refine RF.mono (tree_size_ok h hsm) ?_
  rintro r fin ⟨rfl, rfl⟩
  repeat walk_at "vw"
  first | rfl | exact ⟨rfl, _, rfl⟩ | exact ⟨_, rfl⟩
theorem last_fifo_ok {kinds : List Ty} {tops : List En} (h : PP kinds tops) {q : PM.Pa} (hq : q ≠ []) (hv : PM.Val kinds tops q) {s : Str} (hs : PM.kindP kinds tops q = some s) :
    RF m_last_start [.sh (planV kinds tops), .sh (modeD true), .sh (encA q)] fun r fin => (∃ t, PM.LastT kinds s t ∧ r = .sh (.int (numM kinds tops true (q ++ t)))) ∧ ∃ x, fin = [some (.sh (planV kinds tops)), some (.sh (modeD true)), x] := by
  have hsm : s ∈ nms kinds := kind_mem h hv hs
  refine RF_def rfl (by walk_at "nrm") ?_
  repeat walk_at "vw"
  refine RF.mono (disc_ok true) ?_
  rintro r fin ⟨rfl, rfl⟩
  repeat walk_at "vw"
  refine RF.mono (type_of_ok h hq hv) ?_
  rintro r fin ⟨rfl, rfl⟩
  rw [hs]
  unfold kdD
  repeat walk_at "vw"
  refine R1_of (o := .sh (.bl false)) _ (by kernel_rfl) ?_
  repeat walk_at "vw"
  refine RS_wh (m := PM.lev kinds s) (fun m δ => ∃ (t : PM.Pa) (k : Str) (j4 j5 j6 j7 j8 j9 : Option O), δ = [some (.sh (planV kinds tops)), some (.sh (modeD true)), some (.sh (encA (q ++ t))), some (.sh (.str k)), j4, j5, j6, j7, j8, j9] ∧ PM.Val kinds tops (q ++ t) ∧ PM.kindP kinds tops (q ++ t) = some k ∧ (∀ t2, PM.LastT kinds k t2 → PM.LastT kinds s (t ++ t2)) ∧ m = PM.lev kinds k)
    ⟨[], s, _, _, _, _, _, _, by rw [List.append_nil], by rw [List.append_nil]; exact hv, by rw [List.append_nil]; exact hs, fun t2 z => z, rfl⟩ ?_
  rintro m δ ⟨t, k, j4, j5, j6, j7, j8, j9, rfl, hvt, hkt, hlt, rfl⟩
  have hkm : k ∈ nms kinds := kind_mem h hvt hkt
  have hrow := PM.rowsP_kind (q ++ t) hkt
  have hrl := h.rowl (q ++ t)
  rw [hrow] at hrl
  repeat walk_at "vw"
  refine RF.mono (is_inner_ok h hkm) ?_
  rintro r fin ⟨rfl, rfl⟩
  repeat walk_at "vw"
  cases hem : (PM.ents kinds k).isEmpty with
  | true =>
    refine CB_yes rfl ?_
    repeat walk_at "vw"
    refine RF.mono (number_of_ok h true (q := q ++ t) (by simp [hq]) hvt) ?_
    rintro r fin ⟨rfl, rfl⟩
    have hemp : PM.ents kinds k = [] := List.isEmpty_iff.mp hem
    have hL := hlt [] (show PM.ents kinds k = [] from hemp)
    rw [List.append_nil] at hL
    repeat walk_at "vw"
    first | exact ⟨⟨t, hL, rfl⟩, _, rfl⟩ | exact ⟨t, hL, rfl⟩ | (refine ⟨⟨t, hL, ?_⟩, _, rfl⟩; rfl)
  | false =>
    refine CB_no rfl ?_
    repeat walk_at "vw"
    refine RF.mono (height_ok h.ok h.nd hkm) ?_
    rintro r fin ⟨rfl, rfl⟩
    repeat walk_at "vw"
    refine RF.mono (entries_ok h.nd hkm) ?_
    rintro r fin ⟨rfl, rfl⟩
    repeat walk_at "vw"
    rw [enumD_zip]
    have hok := PM.ents_ok h.ok k
    have hle : PM.lev kinds k = 1 + PM.maxL ((PM.ents kinds k).map fun e : En => PM.lev kinds e.1) := PM.lev_eq h.ok hkm
    refine ⟨by simp; exact sl_le (by omega), ?_⟩
    refine RC_fltM (enc := fun p : En × Nat => .tup [.int (p.2 : Nat), encE p.1]) (f := fun p : En × Nat => decide ((PM.lev kinds p.1.1 : Int) - 1 = (PM.lev kinds k : Int) - 1 - 1)) (g := fun p : En × Nat => D.int (p.2 : Nat)) (fun p hp => ?_) ?_
    · obtain ⟨e, j⟩ := p
      have he : e ∈ PM.ents kinds k := by
        have := List.mem_zipIdx_iff_getElem?.mp hp
        exact List.mem_of_getElem? this
      refine ⟨_, by walk_at "gt", ?_⟩
      repeat walk_at "vw"
      refine RF.mono (height_ok h.ok h.nd (hok e he).1) ?_
      rintro r fin ⟨rfl, rfl⟩
      repeat walk_at "vw"
      intro hb
      repeat walk_at "vw"
      first | exact ⟨rfl, by walk_at "nrm"⟩ | walk_at "nrm"
    have hne : ((PM.ents kinds k).zipIdx 0).filter (fun p : En × Nat => decide ((PM.lev kinds p.1.1 : Int) - 1 = (PM.lev kinds k : Int) - 1 - 1)) ≠ [] := by
      have hp : 0 < PM.maxL ((PM.ents kinds k).map fun e : En => PM.lev kinds e.1) := by
        cases hc : PM.ents kinds k with
        | nil => rw [hc] at hem; cases hem
        | cons x r =>
          have hx := PM.lev_pos h.ok (hok x (by rw [hc]; simp)).1
          have := PM.le_maxL (List.mem_map_of_mem (f := fun e : En => PM.lev kinds e.1) (show x ∈ PM.ents kinds k by rw [hc]; simp))
          first | omega | (rw [hc] at this; omega)
      obtain ⟨e, he, e2⟩ := List.mem_map.mp (PM.mem_maxL hp)
      obtain ⟨j, hj⟩ := List.getElem?_of_mem he
      intro z
      have : (e, j) ∈ ((PM.ents kinds k).zipIdx 0).filter (fun p : En × Nat => decide ((PM.lev kinds p.1.1 : Int) - 1 = (PM.lev kinds k : Int) - 1 - 1)) :=
        List.mem_filter.mpr ⟨List.mem_zipIdx_iff_getElem?.mpr (by simpa using hj), decide_eq_true (by simp only; omega)⟩
      rw [z] at this
      cases this
    obtain ⟨p, e, hp1, hp2, hp3, hp4⟩ := max_place hne
    have hp2 := of_decide_eq_true hp2
    have hem1 := PM.mem_at hp1
    repeat walk_at "vw"
    refine R1_of _ hp4 ?_
    have hix : opIx (.lst ((PM.ents kinds k).map encE)) (.int (p : Nat)) = some (.sh (encE e)) := opIx_lst (Pg.atI_nat (by rw [List.getElem?_map, hp1]; rfl))
    repeat walk_at "vw"
    refine R1_of _ hix ?_
    unfold encE
    repeat walk_at "vw"
    refine R1_of (o := .sh (encA (q ++ (t ++ [(p, e.2 - 1)])))) _ ?_ ?_
    · have hlq := path_len h hvt
      show (if ((q ++ t).map encS).length + 1 ≤ sizeLine then some (O.sh (.tup (((q ++ t).map encS) ++ [encS (p, e.2 - 1)]))) else none) = _
      rw [if_pos (by rw [List.length_map]; exact sl_le (by omega))]
      unfold encA
      simp
    repeat walk_at "vw"
    refine R1_of _ hix ?_
    unfold encE
    repeat walk_at "vw"
    have hval : PM.Val kinds tops (q ++ (t ++ [(p, e.2 - 1)])) := by
      rw [← List.append_assoc]
      exact PM.val_snoc hvt (by rw [hrow]; exact hp1) (by have := (hok e hem1).2; omega) (by omega)
    have hkd : PM.kindP kinds tops (q ++ (t ++ [(p, e.2 - 1)])) = some e.1 := by
      rw [← List.append_assoc]
      exact PM.kindP_snoc hvt (by rw [hrow]; exact hp1)
    simp only at hp2
    refine ⟨PM.lev kinds e.1, by omega, t ++ [(p, e.2 - 1)], e.1, _, _, _, _, _, _, rfl, hval, hkd, fun t2 h2 => ?_, rfl⟩
    rw [List.append_assoc]
    refine hlt _ ⟨e, hp1, rfl, by omega, fun p' e' hpp he' => ?_, h2⟩
    have a := of_decide_eq_false (hp3 p' e' hpp he')
    have b := PM.le_maxL (List.mem_map_of_mem (f := fun e : En => PM.lev kinds e.1) (PM.mem_at he'))
    have c := PM.lev_pos h.ok (hok e' (PM.mem_at he')).1
    simp only at a b
    omega
/-- L is the last start in the tree of q -/
def LastV (kinds : List Ty) (tops : List En) (m : Bool) (q : PM.Pa) (L : Int) : Prop := ∃ s, PM.kindP kinds tops q = some s ∧ (if m = true then ∃ t, PM.LastT kinds s t ∧ L = numM kinds tops true (q ++ t) else L = numM kinds tops false q + PM.size kinds s - 1)
theorem last_start_ok {kinds : List Ty} {tops : List En} (h : PP kinds tops) (m : Bool) {q : PM.Pa} (hq : q ≠ []) (hv : PM.Val kinds tops q) :
    ∃ L, LastV kinds tops m q L ∧ RF m_last_start [.sh (planV kinds tops), .sh (modeD m), .sh (encA q)] fun r fin => r = .sh (.int L) ∧ ∃ x, fin = [some (.sh (planV kinds tops)), some (.sh (modeD m)), x] := by
  obtain ⟨s, hs⟩ := kind_some hq hv
  cases m with
  | true =>
    obtain ⟨r, fin, e, ⟨t, ht, rfl⟩, hx⟩ := last_fifo_ok h hq hv hs
    exact ⟨_, ⟨s, hs, by rw [if_pos rfl]; exact ⟨t, ht, rfl⟩⟩, _, _, e, rfl, hx⟩
  | false =>
    exact ⟨_, ⟨s, hs, by rw [if_neg (by decide)]⟩, last_lifo_ok h hq hv hs⟩
theorem size_room {kinds : List Ty} (hK : PM.Ok kinds) : ∀ (q : PM.Pa) {rows : List En} {s : Str}, PM.OkE kinds rows → PM.Val kinds rows q → PM.kindP kinds rows q = some s → PM.rkD kinds rows q + PM.size kinds s ≤ PM.sumE (PM.size kinds) rows
  | [], rows, s, _, _, hk => by cases hk
  | (p, i) :: q, rows, s, ho, ⟨e, he, h0, h1, hv⟩, hk => by
    have hes := (ho e (PM.mem_at he)).1
    have hsp := PM.sum_split (f := PM.size kinds) he
    have ht : 0 ≤ PM.sumE (PM.size kinds) (rows.take p) := (ho.take p).sumS hK
    have hmul : e.2 * PM.size kinds e.1 = (e.2 - 1 - i) * PM.size kinds e.1 + i * PM.size kinds e.1 + PM.size kinds e.1 := by
      rw [← Int.add_mul, show e.2 - 1 - i + i = e.2 - 1 by omega, Int.sub_mul, Int.one_mul]; omega
    have hi : 0 ≤ i * PM.size kinds e.1 := Int.mul_nonneg h0 (PM.size_nonneg hK _)
    rw [PM.rkD_cons he]
    cases q with
    | nil =>
      have e2 : s = e.1 := by
        simp only [PM.kindP, he] at hk
        exact (Option.some.inj hk).symm
      subst e2
      rw [PM.rkD_nil]
      omega
    | cons x r =>
      have hk2 : PM.kindP kinds (PM.ents kinds e.1) (x :: r) = some s := by
        rw [PM.kindP] at hk
        simpa only [he] using hk
      have := size_room hK (x :: r) (PM.ents_ok hK e.1) hv hk2
      have hse := PM.size_eq hK hes
      omega
theorem LastV.range {kinds : List Ty} {tops : List En} (h : PP kinds tops) {m : Bool} {q : PM.Pa} {L : Int} (hq : q ≠ []) (hv : PM.Val kinds tops q) (l : LastV kinds tops m q L) : 0 ≤ L ∧ L < PM.sumE (PM.size kinds) tops := by
  obtain ⟨s, hs, l⟩ := l
  have hsm := kind_mem h hv hs
  cases m with
  | true =>
    rw [if_pos rfl] at l
    obtain ⟨t, ht, rfl⟩ := l
    have := (PM.LastT.ok h.ok t hsm ht).1
    refine numM_range h true (by simp [hq]) (PM.app_val hv ?_)
    rw [PM.rowsP_kind q hs]
    exact this
  | false =>
    rw [if_neg (by decide)] at l
    have a := size_room h.ok q h.okE hv hs
    have b := numM_range h false hq hv
    have c := PM.size_pos h.ok hsm
    have d : numM kinds tops false q = PM.rkD kinds tops q := rfl
    omega
def endsM (kinds : List Ty) (m : Bool) (s : Str) (r : PM.Pa) : Bool := if m then decide (PM.endsL kinds s r) else decide (PM.endsD kinds s r)
/-- a task below starts at the latest then; when it does -/
theorem LastV.below {kinds : List Ty} {tops : List En} (h : PP kinds tops) {m : Bool} {q r : PM.Pa} {L : Int} {s : Str} (hq : q ≠ []) (hv : PM.Val kinds tops q) (hs : PM.kindP kinds tops q = some s) (hr : PM.Val kinds (PM.ents kinds s) r) (l : LastV kinds tops m q L) :
    numM kinds tops m (q ++ r) ≤ L ∧ decide (L = numM kinds tops m (q ++ r)) = endsM kinds m s r := by
  obtain ⟨s', hs', l⟩ := l
  rw [hs] at hs'
  cases hs'
  cases m with
  | true =>
    rw [if_pos rfl] at l
    obtain ⟨t, ht, rfl⟩ := l
    refine ⟨PM.LastT.le h.ok h.okE hq hv hs ht hr, ?_⟩
    have := PM.LastT.eq_iff h.ok h.okE hq hv hs ht hr
    show decide (PM.numL kinds tops (q ++ t) = PM.numL kinds tops (q ++ r)) = decide (PM.endsL kinds s r)
    by_cases z : PM.endsL kinds s r
    · rw [decide_eq_true z, decide_eq_true (this.mpr z)]
    · rw [decide_eq_false z, decide_eq_false fun y => z (this.mp y)]
  | false =>
    rw [if_neg (by decide)] at l
    obtain ⟨a, b⟩ := PM.lastD_le h.ok h.okE hv hs hr
    subst l
    refine ⟨a, ?_⟩
    show decide (PM.rkD kinds tops q + PM.size kinds s - 1 = PM.rkD kinds tops (q ++ r)) = decide (PM.endsD kinds s r)
    by_cases z : PM.endsD kinds s r
    · rw [decide_eq_true z, decide_eq_true (b.mpr z)]
    · rw [decide_eq_false z, decide_eq_false fun y => z (b.mp y)]
theorem is_open_ok {kinds : List Ty} {tops : List En} (h : PP kinds tops) (m : Bool) {q : PM.Pa} (hq : q ≠ []) (hv : PM.Val kinds tops q) {n : Int} (h0 : 0 ≤ n) (h1 : n < PM.sumE (PM.size kinds) tops) :
    ∃ L, LastV kinds tops m q L ∧ RF m_is_open [.sh (planV kinds tops), .sh (modeD m), .sh (encA q), .sh (.int n)] fun r fin => r = .sh (.bl (decide (numM kinds tops m q < n ∧ n ≤ L))) ∧ fin = [some (.sh (planV kinds tops)), some (.sh (modeD m)), some (.sh (encA q)), some (.sh (.int n))] := by
  obtain ⟨L, l, hL⟩ := last_start_ok h m hq hv
  refine ⟨L, l, ?_⟩
  refine RF_def rfl (by walk_at "nrm") ?_
  repeat walk_at "vw"
  refine RF.mono hL ?_
  rintro r fin ⟨rfl, x, rfl⟩
  repeat walk_at "vw"
  refine RF.mono (check_start_ok h h0 h1) ?_
  rintro r fin ⟨rfl, rfl⟩
  repeat walk_at "vw"
  refine RF.mono (number_of_ok h m hq hv) ?_
  rintro r fin ⟨rfl, rfl⟩
  repeat walk_at "vw"
  refine CB_d (fun hlt => ?_) (fun hge => ?_)
  · repeat walk_at "vw"
    first | (simp [hlt]; done) | (refine ⟨?_, rfl⟩; simp [hlt]) | trace_state
  · repeat walk_at "vw"
    first | (simp [hge]; done) | (refine ⟨?_, rfl⟩; simp [hge]) | trace_state
end Pg
namespace Pg
open PySem PySem.Spec L2 VS Pg
local macro_rules | `(tactic| walk_at "gt") => `(tactic| (simp only [gT, gsCons, gN, gsNil, Option.bind_some, List.length_cons, List.length_nil, List.set_cons_zero, List.set_cons_succ, Nat.reduceAdd, if_true] <;> exact rfl))
local macro_rules | `(tactic| walk_at "nrm") => `(tactic| (simp only [List.set_cons_zero, List.set_cons_succ, List.map_cons, List.map_nil, List.length_cons, List.length_nil, List.replicate, List.cons_append, List.nil_append, Nat.reduceSub, selM, ins, O.fz, wipeD, savD, unwD, List.getElem?_cons_zero, List.getElem?_cons_succ, Option.join_some, Option.join_none] <;> exact rfl))
local macro_rules | `(tactic| walk_at "vw") => `(tactic| first
  | with_reducible refine RX_x2 ?_ | with_reducible refine RX_C ?_ | with_reducible refine RX_Vs rfl ?_ | with_reducible refine RX_Va rfl rfl ?_
  | with_reducible refine RV_sh _ ?_ | with_reducible refine RV_val _ ?_ | with_reducible refine RV_at _ rfl ?_
  | with_reducible refine RK_val _ ?_ | with_reducible refine RK_at _ rfl (by walk_at "nrm") ?_
  | with_reducible refine RS_seq ?_ | with_reducible refine thenS_nx ?_ | with_reducible refine thenS_rt ?_ | with_reducible refine loopS_nx ?_ | with_reducible refine loopS_rt ?_ | with_reducible refine loopS_ct ?_ | with_reducible refine loopS_bk ?_ | with_reducible refine thenS_bk ?_ | with_reducible refine thenS_ct ?_ | with_reducible refine endF_rt (by walk_at "nrm") ?_ | with_reducible refine endF_nx (by walk_at "nrm") ?_
  | with_reducible refine RS_set ?_ | with_reducible refine RS_ret ?_ | with_reducible refine RS_if ?_ | with_reducible refine RS_expr ?_ | with_reducible refine RS_sub ?_ | with_reducible refine RS_attr ?_ | with_reducible refine RS_nil ?_ | with_reducible refine RS_par ?_ | with_reducible refine RS_asg ?_
  | with_reducible refine RX_call ?_ | with_reducible refine RX_bi ?_ | with_reducible refine RX_x1 ?_ | with_reducible refine RX_tup ?_ | with_reducible refine RX_lst ?_
  | with_reducible refine RA_f ?_ | with_reducible refine RA_t ?_ | with_reducible refine RA_nil ?_ | with_reducible refine RB_cons ?_ | with_reducible refine RB_nil ?_
  | with_reducible refine RT_Y ?_ | with_reducible refine RT_tB ?_ | with_reducible refine RT_not ?_ | with_reducible refine RT_and ?_ | with_reducible refine RT_or ?_ | with_reducible refine RX_and ?_ | with_reducible refine RX_or ?_ | with_reducible refine RX_not ?_ | with_reducible refine RX_if ?_ | with_reducible refine RX_ch ?_
  | with_reducible refine CB_t ?_ | with_reducible refine CB_f ?_ | with_reducible refine CB_n ?_
  | with_reducible refine RX_mut rfl rfl ?_ | with_reducible refine RS_for ?_ | with_reducible refine RI_enmU ?_ | with_reducible refine RI_seq ?_ | with_reducible refine RI_rg1 ?_ | with_reducible refine RI_rg3 ?_ | with_reducible refine RX_lc ?_ | with_reducible refine RX_dc ?_ | with_reducible refine RX_dK ?_ | with_reducible refine RX_sl ?_ | with_reducible refine RO_N ?_ | with_reducible refine RO_E ?_ | with_reducible refine RX_fld ?_ | with_reducible refine RX_meth ?_ | with_reducible refine RX_make ?_ | with_reducible refine RX_o2 ?_
  | with_reducible refine RX_q ?_ | with_reducible refine RLk_q ?_ | with_reducible refine RLk_at (by with_unfolding_all rfl) ?_ | with_reducible refine RLk_c ?_ | with_reducible refine RLs_nil ?_ | with_reducible refine RLs_cons ?_ | with_reducible refine RQ_2 ?_ | with_reducible refine RQ_bi ?_ | with_reducible refine RQ_tup ?_ | with_reducible refine RQ_lst ?_ | with_reducible refine RQ_get2 ?_ | with_reducible refine RQ_sl ?_ | with_reducible refine RLo_N ?_ | with_reducible refine RLo_E ?_ | with_reducible refine RQ_f ?_ | with_reducible refine RQ_1 ?_ | with_reducible refine RQ_at (by with_unfolding_all rfl) ?_
  | with_reducible refine RI_zp ?_ | with_reducible refine RI_enmS ?_ | with_reducible refine RS_subP ?_ | with_reducible refine RS_par3 ?_ | with_reducible refine RX_callK ?_ | with_reducible refine RX_methP ?_ | with_reducible refine RX_mutP ?_ | with_reducible refine RQ_methR ?_
  | with_reducible refine R1_of _ (opMod_int (by decide)) ?_ | with_reducible refine R1_of _ (opDiv_int (by decide)) ?_ | with_reducible refine R1_of _ (opMul_l (by first | decide | omega)) ?_ | with_reducible refine R1_of _ (opMul_r (by first | decide | omega)) ?_ | with_reducible refine R1_of _ (opPow_ok (by first | decide | omega)) ?_
  | refine R1_of _ rfl ?_
  | (fail_if_success (with_reducible refine RF_id ?_)); (fail_if_success (with_reducible refine RL_id ?_)); (fail_if_success (with_reducible refine RI_id ?_)); (fail_if_success (with_reducible refine RS_whid ?_)); (fail_if_success (with_reducible refine inR_id ?_)); first | refine ⟨_, by walk_at "nrm", ?_⟩ | refine ⟨_, _, rfl, ?_⟩ | refine ⟨_, rfl, ?_⟩ | refine ⟨rfl, ?_⟩ | refine ⟨Nat.le_of_ble_eq_true rfl, ?_⟩ | refine ⟨_, _, rfl, rfl, ?_⟩)
theorem RI_rg2 {fs : BF} {δ : DS} {P : List D → DS → Prop} (h : RB fs δ fun os δ1 => ∃ i j, os = [.sh (.int i), .sh (.int j)] ∧ inR i = true ∧ inR j = true ∧ P (rngD i (j - i).toNat) δ1) : RI (iRg2 fs) δ P := by
  obtain ⟨os, δ1, h1, i, j, rfl, h2, h3, p⟩ := h
  exact ⟨_, _, by simp [iRg2, h1, h2, h3], p⟩
theorem rng_one (n : Nat) : rngD 1 n = (List.range n).map fun (k : Nat) => D.int ((k + 1 : Nat) : Int) := by
  unfold rngD
  refine List.map_congr_left fun k _ => ?_
  congr 1
  omega
end Pg
namespace Pg
open PySem PySem.Spec L2 VS Pg
local macro_rules | `(tactic| walk_at "gt") => `(tactic| (simp only [gT, gsCons, gN, gsNil, Option.bind_some, List.length_cons, List.length_nil, List.set_cons_zero, List.set_cons_succ, Nat.reduceAdd, if_true] <;> exact rfl))
local macro_rules | `(tactic| walk_at "nrm") => `(tactic| (simp only [List.set_cons_zero, List.set_cons_succ, List.map_cons, List.map_nil, List.length_cons, List.length_nil, List.replicate, List.cons_append, List.nil_append, Nat.reduceSub, selM, ins, O.fz, wipeD, savD, unwD, List.getElem?_cons_zero, List.getElem?_cons_succ, Option.join_some, Option.join_none] <;> exact rfl))
local macro_rules | `(tactic| walk_at "vw") => `(tactic| first
  | with_reducible refine RX_x2 ?_ | with_reducible refine RX_C ?_ | with_reducible refine RX_Vs rfl ?_ | with_reducible refine RX_Va rfl rfl ?_
  | with_reducible refine RV_sh _ ?_ | with_reducible refine RV_val _ ?_ | with_reducible refine RV_at _ rfl ?_
  | with_reducible refine RK_val _ ?_ | with_reducible refine RK_at _ rfl (by walk_at "nrm") ?_
  | with_reducible refine RS_seq ?_ | with_reducible refine thenS_nx ?_ | with_reducible refine thenS_rt ?_ | with_reducible refine loopS_nx ?_ | with_reducible refine loopS_rt ?_ | with_reducible refine loopS_ct ?_ | with_reducible refine loopS_bk ?_ | with_reducible refine thenS_bk ?_ | with_reducible refine thenS_ct ?_ | with_reducible refine endF_rt (by walk_at "nrm") ?_ | with_reducible refine endF_nx (by walk_at "nrm") ?_
  | with_reducible refine RS_set ?_ | with_reducible refine RS_ret ?_ | with_reducible refine RS_if ?_ | with_reducible refine RS_expr ?_ | with_reducible refine RS_sub ?_ | with_reducible refine RS_attr ?_ | with_reducible refine RS_nil ?_ | with_reducible refine RS_par ?_ | with_reducible refine RS_asg ?_
  | with_reducible refine RX_call ?_ | with_reducible refine RX_bi ?_ | with_reducible refine RX_x1 ?_ | with_reducible refine RX_tup ?_ | with_reducible refine RX_lst ?_
  | with_reducible refine RA_f ?_ | with_reducible refine RA_t ?_ | with_reducible refine RA_nil ?_ | with_reducible refine RB_cons ?_ | with_reducible refine RB_nil ?_
  | with_reducible refine RT_Y ?_ | with_reducible refine RT_tB ?_ | with_reducible refine RT_not ?_ | with_reducible refine RT_and ?_ | with_reducible refine RT_or ?_ | with_reducible refine RX_and ?_ | with_reducible refine RX_or ?_ | with_reducible refine RX_not ?_ | with_reducible refine RX_if ?_ | with_reducible refine RX_ch ?_
  | with_reducible refine CB_t ?_ | with_reducible refine CB_f ?_ | with_reducible refine CB_n ?_
  | with_reducible refine RX_mut rfl rfl ?_ | with_reducible refine RS_for ?_ | with_reducible refine RI_enmU ?_ | with_reducible refine RI_seq ?_ | with_reducible refine RI_rg1 ?_ | with_reducible refine RI_rg3 ?_ | with_reducible refine RX_lc ?_ | with_reducible refine RX_dc ?_ | with_reducible refine RX_dK ?_ | with_reducible refine RX_sl ?_ | with_reducible refine RO_N ?_ | with_reducible refine RO_E ?_ | with_reducible refine RX_fld ?_ | with_reducible refine RX_meth ?_ | with_reducible refine RX_make ?_ | with_reducible refine RX_o2 ?_
  | with_reducible refine RX_q ?_ | with_reducible refine RLk_q ?_ | with_reducible refine RLk_at (by with_unfolding_all rfl) ?_ | with_reducible refine RLk_c ?_ | with_reducible refine RLs_nil ?_ | with_reducible refine RLs_cons ?_ | with_reducible refine RQ_2 ?_ | with_reducible refine RQ_bi ?_ | with_reducible refine RQ_tup ?_ | with_reducible refine RQ_lst ?_ | with_reducible refine RQ_get2 ?_ | with_reducible refine RQ_sl ?_ | with_reducible refine RLo_N ?_ | with_reducible refine RLo_E ?_ | with_reducible refine RQ_f ?_ | with_reducible refine RQ_1 ?_ | with_reducible refine RQ_at (by with_unfolding_all rfl) ?_
  | with_reducible refine RI_zp ?_ | with_reducible refine RI_enmS ?_ | with_reducible refine RS_subP ?_ | with_reducible refine RS_par3 ?_ | with_reducible refine RX_callK ?_ | with_reducible refine RX_methP ?_ | with_reducible refine RX_mutP ?_ | with_reducible refine RQ_methR ?_
  | with_reducible refine R1_of _ (opMod_int (by decide)) ?_ | with_reducible refine R1_of _ (opDiv_int (by decide)) ?_ | with_reducible refine R1_of _ (opMul_l (by first | decide | omega)) ?_ | with_reducible refine R1_of _ (opMul_r (by first | decide | omega)) ?_ | with_reducible refine R1_of _ (opPow_ok (by first | decide | omega)) ?_
  | refine R1_of _ rfl ?_
  | (fail_if_success (with_reducible refine RF_id ?_)); (fail_if_success (with_reducible refine RL_id ?_)); (fail_if_success (with_reducible refine RI_id ?_)); (fail_if_success (with_reducible refine RS_whid ?_)); (fail_if_success (with_reducible refine inR_id ?_)); first | refine ⟨_, by walk_at "nrm", ?_⟩ | refine ⟨_, _, rfl, ?_⟩ | refine ⟨_, rfl, ?_⟩ | refine ⟨rfl, ?_⟩ | refine ⟨Nat.le_of_ble_eq_true rfl, ?_⟩ | refine ⟨_, _, rfl, rfl, ?_⟩)
end Pg
namespace Pg
open PySem PySem.Spec L2 VS Pg
local macro_rules | `(tactic| walk_at "gt") => `(tactic| (simp only [gT, gsCons, gN, gsNil, Option.bind_some, List.length_cons, List.length_nil, List.set_cons_zero, List.set_cons_succ, Nat.reduceAdd, if_true] <;> exact rfl))
local macro_rules | `(tactic| walk_at "nrm") => `(tactic| (simp only [List.set_cons_zero, List.set_cons_succ, List.map_cons, List.map_nil, List.length_cons, List.length_nil, List.replicate, List.cons_append, List.nil_append, Nat.reduceSub, selM, ins, O.fz, wipeD, savD, unwD, List.getElem?_cons_zero, List.getElem?_cons_succ, Option.join_some, Option.join_none] <;> exact rfl))
local macro_rules | `(tactic| walk_at "vw") => `(tactic| first
  | with_reducible refine RX_x2 ?_ | with_reducible refine RX_C ?_ | with_reducible refine RX_Vs rfl ?_ | with_reducible refine RX_Va rfl rfl ?_
  | with_reducible refine RV_sh _ ?_ | with_reducible refine RV_val _ ?_ | with_reducible refine RV_at _ rfl ?_
  | with_reducible refine RK_val _ ?_ | with_reducible refine RK_at _ rfl (by walk_at "nrm") ?_
  | with_reducible refine RS_seq ?_ | with_reducible refine thenS_nx ?_ | with_reducible refine thenS_rt ?_ | with_reducible refine loopS_nx ?_ | with_reducible refine loopS_rt ?_ | with_reducible refine loopS_ct ?_ | with_reducible refine loopS_bk ?_ | with_reducible refine thenS_bk ?_ | with_reducible refine thenS_ct ?_ | with_reducible refine endF_rt (by walk_at "nrm") ?_ | with_reducible refine endF_nx (by walk_at "nrm") ?_
  | with_reducible refine RS_set ?_ | with_reducible refine RS_ret ?_ | with_reducible refine RS_if ?_ | with_reducible refine RS_expr ?_ | with_reducible refine RS_sub ?_ | with_reducible refine RS_attr ?_ | with_reducible refine RS_nil ?_ | with_reducible refine RS_par ?_ | with_reducible refine RS_asg ?_
  | with_reducible refine RX_call ?_ | with_reducible refine RX_bi ?_ | with_reducible refine RX_x1 ?_ | with_reducible refine RX_tup ?_ | with_reducible refine RX_lst ?_
  | with_reducible refine RA_f ?_ | with_reducible refine RA_t ?_ | with_reducible refine RA_nil ?_ | with_reducible refine RB_cons ?_ | with_reducible refine RB_nil ?_
  | with_reducible refine RT_Y ?_ | with_reducible refine RT_tB ?_ | with_reducible refine RT_not ?_ | with_reducible refine RT_and ?_ | with_reducible refine RT_or ?_ | with_reducible refine RX_and ?_ | with_reducible refine RX_or ?_ | with_reducible refine RX_not ?_ | with_reducible refine RX_if ?_ | with_reducible refine RX_ch ?_
  | with_reducible refine CB_t ?_ | with_reducible refine CB_f ?_ | with_reducible refine CB_n ?_
  | with_reducible refine RX_mut rfl rfl ?_ | with_reducible refine RS_for ?_ | with_reducible refine RI_enmU ?_ | with_reducible refine RI_seq ?_ | with_reducible refine RI_rg1 ?_ | with_reducible refine RI_rg3 ?_ | with_reducible refine RX_lc ?_ | with_reducible refine RX_dc ?_ | with_reducible refine RX_dK ?_ | with_reducible refine RX_sl ?_ | with_reducible refine RO_N ?_ | with_reducible refine RO_E ?_ | with_reducible refine RX_fld ?_ | with_reducible refine RX_meth ?_ | with_reducible refine RX_make ?_ | with_reducible refine RX_o2 ?_
  | with_reducible refine RX_q ?_ | with_reducible refine RLk_q ?_ | with_reducible refine RLk_at (by with_unfolding_all rfl) ?_ | with_reducible refine RLk_c ?_ | with_reducible refine RLs_nil ?_ | with_reducible refine RLs_cons ?_ | with_reducible refine RQ_2 ?_ | with_reducible refine RQ_bi ?_ | with_reducible refine RQ_tup ?_ | with_reducible refine RQ_lst ?_ | with_reducible refine RQ_get2 ?_ | with_reducible refine RQ_sl ?_ | with_reducible refine RLo_N ?_ | with_reducible refine RLo_E ?_ | with_reducible refine RQ_f ?_ | with_reducible refine RQ_1 ?_ | with_reducible refine RQ_at (by with_unfolding_all rfl) ?_
  | with_reducible refine RI_zp ?_ | with_reducible refine RI_enmS ?_ | with_reducible refine RS_subP ?_ | with_reducible refine RS_par3 ?_ | with_reducible refine RX_callK ?_ | with_reducible refine RX_methP ?_ | with_reducible refine RX_mutP ?_ | with_reducible refine RQ_methR ?_
  | with_reducible refine R1_of _ (opMod_int (by decide)) ?_ | with_reducible refine R1_of _ (opDiv_int (by decide)) ?_ | with_reducible refine R1_of _ (opMul_l (by first | decide | omega)) ?_ | with_reducible refine R1_of _ (opMul_r (by first | decide | omega)) ?_ | with_reducible refine R1_of _ (opPow_ok (by first | decide | omega)) ?_
  | refine R1_of _ rfl ?_
  | (fail_if_success (with_reducible refine RF_id ?_)); (fail_if_success (with_reducible refine RL_id ?_)); (fail_if_success (with_reducible refine RI_id ?_)); (fail_if_success (with_reducible refine RS_whid ?_)); (fail_if_success (with_reducible refine inR_id ?_)); first | refine ⟨_, by walk_at "nrm", ?_⟩ | refine ⟨_, _, rfl, ?_⟩ | refine ⟨_, rfl, ?_⟩ | refine ⟨rfl, ?_⟩ | refine ⟨Nat.le_of_ble_eq_true rfl, ?_⟩ | refine ⟨_, _, rfl, rfl, ?_⟩)
theorem Need.mono {kinds kinds' : List Ty} {tops tops' : List En} (h : PP kinds tops) (h' : PP kinds' tops') (hk : PM.KsLe kinds kinds') (ht : PM.EsLe tops tops') {a b : Int} (ha : Need kinds tops true a) (hb : Need kinds' tops' true b) : a ≤ b := by
  have hb1 : 1 ≤ b := by
    rcases hb with ⟨_, rfl⟩ | ⟨c, n, hT, rfl⟩
    · exact Int.le_refl _
    · obtain ⟨q, hv, hq, _, e⟩ := hT.ex
      have := PM.opL_len h'.ok q h'.okE hv
      have := List.length_pos_iff.mpr hq
      omega
  rcases ha with ⟨_, rfl⟩ | ⟨c, n, hT, rfl⟩
  · exact hb1
  · obtain ⟨q, hv, hq, _, e⟩ := hT.ex
    obtain ⟨v2, l2⟩ := PM.KsLe.open_le h.ok h'.ok hk q h.okE ht hv
    rcases hb with ⟨z, rfl⟩ | ⟨c', n', hT', rfl⟩
    · exfalso
      have := levs_ne h' v2 hq
      have := List.length_pos_iff.mpr hq
      omega
    · have := hT'.le q v2 hq
      omega
end Pg
namespace Pg
open PySem PySem.Spec L2 VS Pg
local macro_rules | `(tactic| walk_at "gt") => `(tactic| (simp only [gT, gsCons, gN, gsNil, Option.bind_some, List.length_cons, List.length_nil, List.set_cons_zero, List.set_cons_succ, Nat.reduceAdd, if_true] <;> exact rfl))
local macro_rules | `(tactic| walk_at "nrm") => `(tactic| (simp only [List.set_cons_zero, List.set_cons_succ, List.map_cons, List.map_nil, List.length_cons, List.length_nil, List.replicate, List.cons_append, List.nil_append, Nat.reduceSub, selM, ins, O.fz, wipeD, savD, unwD, List.getElem?_cons_zero, List.getElem?_cons_succ, Option.join_some, Option.join_none] <;> exact rfl))
local macro_rules | `(tactic| walk_at "vw") => `(tactic| first
  | with_reducible refine RX_x2 ?_ | with_reducible refine RX_C ?_ | with_reducible refine RX_Vs rfl ?_ | with_reducible refine RX_Va rfl rfl ?_
  | with_reducible refine RV_sh _ ?_ | with_reducible refine RV_val _ ?_ | with_reducible refine RV_at _ rfl ?_
  | with_reducible refine RK_val _ ?_ | with_reducible refine RK_at _ rfl (by walk_at "nrm") ?_
  | with_reducible refine RS_seq ?_ | with_reducible refine thenS_nx ?_ | with_reducible refine thenS_rt ?_ | with_reducible refine loopS_nx ?_ | with_reducible refine loopS_rt ?_ | with_reducible refine loopS_ct ?_ | with_reducible refine loopS_bk ?_ | with_reducible refine thenS_bk ?_ | with_reducible refine thenS_ct ?_ | with_reducible refine endF_rt (by walk_at "nrm") ?_ | with_reducible refine endF_nx (by walk_at "nrm") ?_
  | with_reducible refine RS_set ?_ | with_reducible refine RS_ret ?_ | with_reducible refine RS_if ?_ | with_reducible refine RS_expr ?_ | with_reducible refine RS_sub ?_ | with_reducible refine RS_attr ?_ | with_reducible refine RS_nil ?_ | with_reducible refine RS_par ?_ | with_reducible refine RS_asg ?_
  | with_reducible refine RX_call ?_ | with_reducible refine RX_bi ?_ | with_reducible refine RX_x1 ?_ | with_reducible refine RX_tup ?_ | with_reducible refine RX_lst ?_
  | with_reducible refine RA_f ?_ | with_reducible refine RA_t ?_ | with_reducible refine RA_nil ?_ | with_reducible refine RB_cons ?_ | with_reducible refine RB_nil ?_
  | with_reducible refine RT_Y ?_ | with_reducible refine RT_tB ?_ | with_reducible refine RT_not ?_ | with_reducible refine RT_and ?_ | with_reducible refine RT_or ?_ | with_reducible refine RX_and ?_ | with_reducible refine RX_or ?_ | with_reducible refine RX_not ?_ | with_reducible refine RX_if ?_ | with_reducible refine RX_ch ?_
  | with_reducible refine CB_t ?_ | with_reducible refine CB_f ?_ | with_reducible refine CB_n ?_
  | with_reducible refine RX_mut rfl rfl ?_ | with_reducible refine RS_for ?_ | with_reducible refine RI_enmU ?_ | with_reducible refine RI_seq ?_ | with_reducible refine RI_rg1 ?_ | with_reducible refine RI_rg3 ?_ | with_reducible refine RX_lc ?_ | with_reducible refine RX_dc ?_ | with_reducible refine RX_dK ?_ | with_reducible refine RX_sl ?_ | with_reducible refine RO_N ?_ | with_reducible refine RO_E ?_ | with_reducible refine RX_fld ?_ | with_reducible refine RX_meth ?_ | with_reducible refine RX_make ?_ | with_reducible refine RX_o2 ?_
  | with_reducible refine RX_q ?_ | with_reducible refine RLk_q ?_ | with_reducible refine RLk_at (by with_unfolding_all rfl) ?_ | with_reducible refine RLk_c ?_ | with_reducible refine RLs_nil ?_ | with_reducible refine RLs_cons ?_ | with_reducible refine RQ_2 ?_ | with_reducible refine RQ_bi ?_ | with_reducible refine RQ_tup ?_ | with_reducible refine RQ_lst ?_ | with_reducible refine RQ_get2 ?_ | with_reducible refine RQ_sl ?_ | with_reducible refine RLo_N ?_ | with_reducible refine RLo_E ?_ | with_reducible refine RQ_f ?_ | with_reducible refine RQ_1 ?_ | with_reducible refine RQ_at (by with_unfolding_all rfl) ?_
  | with_reducible refine RI_zp ?_ | with_reducible refine RI_enmS ?_ | with_reducible refine RS_subP ?_ | with_reducible refine RS_par3 ?_ | with_reducible refine RX_callK ?_ | with_reducible refine RX_methP ?_ | with_reducible refine RX_mutP ?_ | with_reducible refine RQ_methR ?_
  | with_reducible refine R1_of _ (opMod_int (by decide)) ?_ | with_reducible refine R1_of _ (opDiv_int (by decide)) ?_ | with_reducible refine R1_of _ (opMul_l (by first | decide | omega)) ?_ | with_reducible refine R1_of _ (opMul_r (by first | decide | omega)) ?_ | with_reducible refine R1_of _ (opPow_ok (by first | decide | omega)) ?_
  | refine R1_of _ rfl ?_
  | (fail_if_success (with_reducible refine RF_id ?_)); (fail_if_success (with_reducible refine RL_id ?_)); (fail_if_success (with_reducible refine RI_id ?_)); (fail_if_success (with_reducible refine RS_whid ?_)); (fail_if_success (with_reducible refine inR_id ?_)); first | refine ⟨_, by walk_at "nrm", ?_⟩ | refine ⟨_, _, rfl, ?_⟩ | refine ⟨_, rfl, ?_⟩ | refine ⟨rfl, ?_⟩ | refine ⟨Nat.le_of_ble_eq_true rfl, ?_⟩ | refine ⟨_, _, rfl, rfl, ?_⟩)
end Pg
namespace Pg
open PySem PySem.Spec L2 VS Pg
local macro_rules | `(tactic| walk_at "gt") => `(tactic| (simp only [gT, gsCons, gN, gsNil, Option.bind_some, List.length_cons, List.length_nil, List.set_cons_zero, List.set_cons_succ, Nat.reduceAdd, if_true] <;> exact rfl))
local macro_rules | `(tactic| walk_at "nrm") => `(tactic| (simp only [List.set_cons_zero, List.set_cons_succ, List.map_cons, List.map_nil, List.length_cons, List.length_nil, List.replicate, List.cons_append, List.nil_append, Nat.reduceSub, selM, ins, O.fz, wipeD, savD, unwD, List.getElem?_cons_zero, List.getElem?_cons_succ, Option.join_some, Option.join_none] <;> exact rfl))
local macro_rules | `(tactic| walk_at "vw") => `(tactic| first
  | with_reducible refine RX_x2 ?_ | with_reducible refine RX_C ?_ | with_reducible refine RX_Vs rfl ?_ | with_reducible refine RX_Va rfl rfl ?_
  | with_reducible refine RV_sh _ ?_ | with_reducible refine RV_val _ ?_ | with_reducible refine RV_at _ rfl ?_
  | with_reducible refine RK_val _ ?_ | with_reducible refine RK_at _ rfl (by walk_at "nrm") ?_
  | with_reducible refine RS_seq ?_ | with_reducible refine thenS_nx ?_ | with_reducible refine thenS_rt ?_ | with_reducible refine loopS_nx ?_ | with_reducible refine loopS_rt ?_ | with_reducible refine loopS_ct ?_ | with_reducible refine loopS_bk ?_ | with_reducible refine thenS_bk ?_ | with_reducible refine thenS_ct ?_ | with_reducible refine endF_rt (by walk_at "nrm") ?_ | with_reducible refine endF_nx (by walk_at "nrm") ?_
  | with_reducible refine RS_set ?_ | with_reducible refine RS_ret ?_ | with_reducible refine RS_if ?_ | with_reducible refine RS_expr ?_ | with_reducible refine RS_sub ?_ | with_reducible refine RS_attr ?_ | with_reducible refine RS_nil ?_ | with_reducible refine RS_par ?_ | with_reducible refine RS_asg ?_
  | with_reducible refine RX_call ?_ | with_reducible refine RX_bi ?_ | with_reducible refine RX_x1 ?_ | with_reducible refine RX_tup ?_ | with_reducible refine RX_lst ?_
  | with_reducible refine RA_f ?_ | with_reducible refine RA_t ?_ | with_reducible refine RA_nil ?_ | with_reducible refine RB_cons ?_ | with_reducible refine RB_nil ?_
  | with_reducible refine RT_Y ?_ | with_reducible refine RT_tB ?_ | with_reducible refine RT_not ?_ | with_reducible refine RT_and ?_ | with_reducible refine RT_or ?_ | with_reducible refine RX_and ?_ | with_reducible refine RX_or ?_ | with_reducible refine RX_not ?_ | with_reducible refine RX_if ?_ | with_reducible refine RX_ch ?_
  | with_reducible refine CB_t ?_ | with_reducible refine CB_f ?_ | with_reducible refine CB_n ?_
  | with_reducible refine RX_mut rfl rfl ?_ | with_reducible refine RS_for ?_ | with_reducible refine RI_enmU ?_ | with_reducible refine RI_seq ?_ | with_reducible refine RI_rg1 ?_ | with_reducible refine RI_rg3 ?_ | with_reducible refine RX_lc ?_ | with_reducible refine RX_dc ?_ | with_reducible refine RX_dK ?_ | with_reducible refine RX_sl ?_ | with_reducible refine RO_N ?_ | with_reducible refine RO_E ?_ | with_reducible refine RX_fld ?_ | with_reducible refine RX_meth ?_ | with_reducible refine RX_make ?_ | with_reducible refine RX_o2 ?_
  | with_reducible refine RX_q ?_ | with_reducible refine RLk_q ?_ | with_reducible refine RLk_at (by with_unfolding_all rfl) ?_ | with_reducible refine RLk_c ?_ | with_reducible refine RLs_nil ?_ | with_reducible refine RLs_cons ?_ | with_reducible refine RQ_2 ?_ | with_reducible refine RQ_bi ?_ | with_reducible refine RQ_tup ?_ | with_reducible refine RQ_lst ?_ | with_reducible refine RQ_get2 ?_ | with_reducible refine RQ_sl ?_ | with_reducible refine RLo_N ?_ | with_reducible refine RLo_E ?_ | with_reducible refine RQ_f ?_ | with_reducible refine RQ_1 ?_ | with_reducible refine RQ_at (by with_unfolding_all rfl) ?_
  | with_reducible refine RI_zp ?_ | with_reducible refine RI_enmS ?_ | with_reducible refine RS_subP ?_ | with_reducible refine RS_par3 ?_ | with_reducible refine RX_callK ?_ | with_reducible refine RX_methP ?_ | with_reducible refine RX_mutP ?_ | with_reducible refine RQ_methR ?_
  | with_reducible refine R1_of _ (opMod_int (by decide)) ?_ | with_reducible refine R1_of _ (opDiv_int (by decide)) ?_ | with_reducible refine R1_of _ (opMul_l (by first | decide | omega)) ?_ | with_reducible refine R1_of _ (opMul_r (by first | decide | omega)) ?_ | with_reducible refine R1_of _ (opPow_ok (by first | decide | omega)) ?_
  | refine R1_of _ rfl ?_
  | (fail_if_success (with_reducible refine RF_id ?_)); (fail_if_success (with_reducible refine RL_id ?_)); (fail_if_success (with_reducible refine RI_id ?_)); (fail_if_success (with_reducible refine RS_whid ?_)); (fail_if_success (with_reducible refine inR_id ?_)); first | refine ⟨_, by walk_at "nrm", ?_⟩ | refine ⟨_, _, rfl, ?_⟩ | refine ⟨_, rfl, ?_⟩ | refine ⟨rfl, ?_⟩ | refine ⟨Nat.le_of_ble_eq_true rfl, ?_⟩ | refine ⟨_, _, rfl, rfl, ?_⟩)
end Pg
namespace Pg
open PySem PySem.Spec L2 VS Pg
local macro_rules | `(tactic| walk_at "gt") => `(tactic| (simp only [gT, gsCons, gN, gsNil, Option.bind_some, List.length_cons, List.length_nil, List.set_cons_zero, List.set_cons_succ, Nat.reduceAdd, if_true] <;> exact rfl))
local macro_rules | `(tactic| walk_at "nrm") => `(tactic| (simp only [List.set_cons_zero, List.set_cons_succ, List.map_cons, List.map_nil, List.length_cons, List.length_nil, List.replicate, List.cons_append, List.nil_append, Nat.reduceSub, selM, ins, O.fz, wipeD, savD, unwD, List.getElem?_cons_zero, List.getElem?_cons_succ, Option.join_some, Option.join_none] <;> exact rfl))
local macro_rules | `(tactic| walk_at "vw") => `(tactic| first
  | with_reducible refine RX_x2 ?_ | with_reducible refine RX_C ?_ | with_reducible refine RX_Vs rfl ?_ | with_reducible refine RX_Va rfl rfl ?_
  | with_reducible refine RV_sh _ ?_ | with_reducible refine RV_val _ ?_ | with_reducible refine RV_at _ rfl ?_
  | with_reducible refine RK_val _ ?_ | with_reducible refine RK_at _ rfl (by walk_at "nrm") ?_
  | with_reducible refine RS_seq ?_ | with_reducible refine thenS_nx ?_ | with_reducible refine thenS_rt ?_ | with_reducible refine loopS_nx ?_ | with_reducible refine loopS_rt ?_ | with_reducible refine loopS_ct ?_ | with_reducible refine loopS_bk ?_ | with_reducible refine thenS_bk ?_ | with_reducible refine thenS_ct ?_ | with_reducible refine endF_rt (by walk_at "nrm") ?_ | with_reducible refine endF_nx (by walk_at "nrm") ?_
  | with_reducible refine RS_set ?_ | with_reducible refine RS_ret ?_ | with_reducible refine RS_if ?_ | with_reducible refine RS_expr ?_ | with_reducible refine RS_sub ?_ | with_reducible refine RS_attr ?_ | with_reducible refine RS_nil ?_ | with_reducible refine RS_par ?_ | with_reducible refine RS_asg ?_
  | with_reducible refine RX_call ?_ | with_reducible refine RX_bi ?_ | with_reducible refine RX_x1 ?_ | with_reducible refine RX_tup ?_ | with_reducible refine RX_lst ?_
  | with_reducible refine RA_f ?_ | with_reducible refine RA_t ?_ | with_reducible refine RA_nil ?_ | with_reducible refine RB_cons ?_ | with_reducible refine RB_nil ?_
  | with_reducible refine RT_Y ?_ | with_reducible refine RT_tB ?_ | with_reducible refine RT_not ?_ | with_reducible refine RT_and ?_ | with_reducible refine RT_or ?_ | with_reducible refine RX_and ?_ | with_reducible refine RX_or ?_ | with_reducible refine RX_not ?_ | with_reducible refine RX_if ?_ | with_reducible refine RX_ch ?_
  | with_reducible refine CB_t ?_ | with_reducible refine CB_f ?_ | with_reducible refine CB_n ?_
  | with_reducible refine RX_mut rfl rfl ?_ | with_reducible refine RS_for ?_ | with_reducible refine RI_enmU ?_ | with_reducible refine RI_seq ?_ | with_reducible refine RI_rg1 ?_ | with_reducible refine RI_rg3 ?_ | with_reducible refine RX_lc ?_ | with_reducible refine RX_dc ?_ | with_reducible refine RX_dK ?_ | with_reducible refine RX_sl ?_ | with_reducible refine RO_N ?_ | with_reducible refine RO_E ?_ | with_reducible refine RX_fld ?_ | with_reducible refine RX_meth ?_ | with_reducible refine RX_make ?_ | with_reducible refine RX_o2 ?_
  | with_reducible refine RX_q ?_ | with_reducible refine RLk_q ?_ | with_reducible refine RLk_at (by with_unfolding_all rfl) ?_ | with_reducible refine RLk_c ?_ | with_reducible refine RLs_nil ?_ | with_reducible refine RLs_cons ?_ | with_reducible refine RQ_2 ?_ | with_reducible refine RQ_bi ?_ | with_reducible refine RQ_tup ?_ | with_reducible refine RQ_lst ?_ | with_reducible refine RQ_get2 ?_ | with_reducible refine RQ_sl ?_ | with_reducible refine RLo_N ?_ | with_reducible refine RLo_E ?_ | with_reducible refine RQ_f ?_ | with_reducible refine RQ_1 ?_ | with_reducible refine RQ_at (by with_unfolding_all rfl) ?_
  | with_reducible refine RI_zp ?_ | with_reducible refine RI_enmS ?_ | with_reducible refine RS_subP ?_ | with_reducible refine RS_par3 ?_ | with_reducible refine RX_callK ?_ | with_reducible refine RX_methP ?_ | with_reducible refine RX_mutP ?_ | with_reducible refine RQ_methR ?_
  | with_reducible refine R1_of _ (opMod_int (by decide)) ?_ | with_reducible refine R1_of _ (opDiv_int (by decide)) ?_ | with_reducible refine R1_of _ (opMul_l (by first | decide | omega)) ?_ | with_reducible refine R1_of _ (opMul_r (by first | decide | omega)) ?_ | with_reducible refine R1_of _ (opPow_ok (by first | decide | omega)) ?_
  | refine R1_of _ rfl ?_
  | (fail_if_success (with_reducible refine RF_id ?_)); (fail_if_success (with_reducible refine RL_id ?_)); (fail_if_success (with_reducible refine RI_id ?_)); (fail_if_success (with_reducible refine RS_whid ?_)); (fail_if_success (with_reducible refine inR_id ?_)); first | refine ⟨_, by walk_at "nrm", ?_⟩ | refine ⟨_, _, rfl, ?_⟩ | refine ⟨_, rfl, ?_⟩ | refine ⟨rfl, ?_⟩ | refine ⟨Nat.le_of_ble_eq_true rfl, ?_⟩ | refine ⟨_, _, rfl, rfl, ?_⟩)
theorem pairs_enc : ∀ kinds : List Ty, pairsOf (kinds.map encT) = some (kinds.map encK)
  | [] => rfl
  | t :: r => by
    have ih := pairs_enc r
    simp only [List.map_cons, encT, pairsOf, keyOf, Option.bind_some] at ih ⊢
    rw [ih]
    rfl
theorem merge_new : ∀ {ps acc : List (Key × D)}, ((acc ++ ps).map (·.1)).Nodup → mergeD acc ps = acc ++ ps
  | [], acc, _ => by simp [mergeD]
  | p :: ps, acc, h => by
    have hn : p.1 ∉ acc.map (·.1) := by
      rw [List.map_append, List.map_cons] at h
      intro hm
      exact (List.nodup_append.mp h).2.2 p.1 hm p.1 (by simp) rfl
    show mergeD (dput acc p.1 p.2) ps = _
    rw [dput_new hn]
    rw [merge_new (acc := acc ++ [(p.1, p.2)]) (by simpa using h)]
    simp
theorem merge_enc {kinds : List Ty} (h : (kinds.map (·.1)).Nodup) : mergeD [] (kinds.map encK) = kinds.map encK := by
  have := merge_new (acc := []) (ps := kinds.map encK) (by
    rw [List.nil_append, List.map_map, List.Nodup, List.pairwise_map]
    rw [List.Nodup, List.pairwise_map] at h
    exact h.imp fun {a b} q e => q (Sum.inr.inj e))
  simpa using this
theorem mDict_ok {kinds : List Ty} (h : (kinds.map (·.1)).Nodup) : mDict [.lst (kinds.map encT)] = some (.dK (kinds.map encK)) := by
  show (pairsOf (kinds.map encT)).map _ = _
  rw [pairs_enc, Option.map_some, merge_enc h]
theorem opNe_nilL {ds : List D} (h : D.okL 29 ds = true) : opNe (.lst ds) (.lst []) = some (.sh (.bl (!ds.isEmpty))) := by
  have h1 : (D.lst ds).okE 30 = true := by simpa only [D.okE] using h
  have h2 : (D.lst []).okE 30 = true := by simp [D.okE, D.okL]
  unfold opNe deq
  rw [h1, h2]
  cases ds <;> simp [D.eqD, D.eqL]
theorem mPop_at {xs : List D} {v : Int} {x : D} (h0 : 0 ≤ v) (hs : v < 1000000000) (hx : xs[v.toNat]? = some x) : mPop1 (.lst xs) [.int v] = some (.lst (xs.eraseIdx v.toNat), .sh x) := by
  have hl := (List.getElem?_eq_some_iff.mp hx).1
  have hr : inR v = true := by
    have z : (2 : Int) ^ 62 = 4611686018427387904 := by decide
    unfold inR
    rw [z]
    simp only [Bool.and_eq_true, decide_eq_true_eq]
    omega
  have hq : seqIndex? v xs.length = some v.toNat := by
    unfold seqIndex?
    simp only [if_neg (show ¬ v < 0 by omega)]
    rw [if_pos (by simp; omega)]
  simp [mPop1, mPop, hr, hq, hx]
theorem mExt_ok {xs es : List D} (h : xs.length + es.length ≤ 16777216) : mExt (.lst xs) [.lst es] = some (.lst (xs ++ es), .sh .non) := if_pos (show xs.length + es.length ≤ sizeLine from h)
theorem addS {q : PM.Pa} (p : Nat) (i : Int) (hl : q.length ≤ 1000) : opAdd (.tup (q.map encS)) (.tup [.tup [.int (p : Nat), .int i]]) = some (.sh (.tup ((q ++ [(p, i)]).map encS))) := by
  show (if _ then _ else _) = _
  rw [if_pos (by rw [List.length_map]; exact sl_le (by simp; omega)), List.map_append]
  rfl
theorem kids_app {a : PM.Pa} : ∀ {r1 r2 : List En} {n : Nat}, PM.kids a n (r1 ++ r2) = PM.kids a n r1 ++ PM.kids a (n + r1.length) r2
  | [], r2, n => by simp [PM.kids]
  | x :: r1, r2, n => by
    simp only [List.cons_append, PM.kids, kids_app (r1 := r1), List.append_assoc, List.length_cons]
    rw [show n + 1 + r1.length = n + (r1.length + 1) by omega]
/-- the kind of a task -/
def kn (kinds : List Ty) (tops : List En) (q : PM.Pa) : Str := (PM.kindP kinds tops q).getD ""
def encQ (kinds : List Ty) (tops : List En) (q : PM.Pa) : D := .tup [encA q, .str (kn kinds tops q)]
theorem kn_ok {kinds : List Ty} {tops : List En} {q : PM.Pa} {s : Str} (hs : PM.kindP kinds tops q = some s) : kn kinds tops q = s := by
  unfold kn
  rw [hs]
  rfl
theorem kn_nok {kinds : List Ty} {tops : List En} (h : PP kinds tops) {q : PM.Pa} (hq : q ≠ []) (hv : PM.Val kinds tops q) : NOk (kn kinds tops q) ∧ kn kinds tops q ∈ nms kinds := by
  obtain ⟨s, hs⟩ := kind_some hq hv
  rw [kn_ok hs]
  have hm := kind_mem h hv hs
  obtain ⟨t, ht, e⟩ := List.mem_map.mp hm
  exact ⟨e ▸ (h.tk t ht).1, hm⟩
theorem okE_paA (q : PM.Pa) : ∀ n, (encA q).okE (n + 3) = true := fun n => by
  unfold encA
  simp only [D.okE]
  exact okL_map fun x _ => by simp [encS, D.okE, D.okL]
theorem opNe_encQ {kinds : List Ty} {tops : List En} (h : PP kinds tops) (l : List PM.Pa) (hl : ∀ q ∈ l, q ≠ [] ∧ PM.Val kinds tops q) : opNe (.lst (l.map (encQ kinds tops))) (.lst []) = some (.sh (.bl (!l.isEmpty))) := by
  rw [opNe_nilL (okL_map fun q hq => by
    have hn := (kn_nok h (hl q hq).1 (hl q hq).2).1.2
    unfold encQ
    simp only [D.okE, D.okL, hn, Bool.and_true]
    exact okE_paA q 25)]
  cases l <;> rfl
theorem inR_cnt {c : Int} (h : cntOk c) : inR c = true := by
  have z : (2 : Int) ^ 62 = 4611686018427387904 := by decide
  have := h.1
  have := h.2
  unfold inR
  rw [z]
  simp only [Bool.and_eq_true, decide_eq_true_eq]
  omega
end Pg
namespace Pg
open PySem PySem.Spec L2 VS Pg
local macro_rules | `(tactic| walk_at "gt") => `(tactic| (simp only [gT, gsCons, gN, gsNil, Option.bind_some, List.length_cons, List.length_nil, List.set_cons_zero, List.set_cons_succ, Nat.reduceAdd, if_true] <;> exact rfl))
local macro_rules | `(tactic| walk_at "nrm") => `(tactic| (simp only [List.set_cons_zero, List.set_cons_succ, List.map_cons, List.map_nil, List.length_cons, List.length_nil, List.replicate, List.cons_append, List.nil_append, Nat.reduceSub, selM, ins, O.fz, wipeD, savD, unwD, List.getElem?_cons_zero, List.getElem?_cons_succ, Option.join_some, Option.join_none] <;> exact rfl))
local macro_rules | `(tactic| walk_at "vw") => `(tactic| first
  | with_reducible refine RX_x2 ?_ | with_reducible refine RX_C ?_ | with_reducible refine RX_Vs rfl ?_ | with_reducible refine RX_Va rfl rfl ?_
  | with_reducible refine RV_sh _ ?_ | with_reducible refine RV_val _ ?_ | with_reducible refine RV_at _ rfl ?_
  | with_reducible refine RK_val _ ?_ | with_reducible refine RK_at _ rfl (by walk_at "nrm") ?_
  | with_reducible refine RS_seq ?_ | with_reducible refine thenS_nx ?_ | with_reducible refine thenS_rt ?_ | with_reducible refine loopS_nx ?_ | with_reducible refine loopS_rt ?_ | with_reducible refine loopS_ct ?_ | with_reducible refine loopS_bk ?_ | with_reducible refine thenS_bk ?_ | with_reducible refine thenS_ct ?_ | with_reducible refine endF_rt (by walk_at "nrm") ?_ | with_reducible refine endF_nx (by walk_at "nrm") ?_
  | with_reducible refine RS_set ?_ | with_reducible refine RS_ret ?_ | with_reducible refine RS_if ?_ | with_reducible refine RS_expr ?_ | with_reducible refine RS_sub ?_ | with_reducible refine RS_attr ?_ | with_reducible refine RS_nil ?_ | with_reducible refine RS_par ?_ | with_reducible refine RS_asg ?_
  | with_reducible refine RX_call ?_ | with_reducible refine RX_bi ?_ | with_reducible refine RX_x1 ?_ | with_reducible refine RX_tup ?_ | with_reducible refine RX_lst ?_
  | with_reducible refine RA_f ?_ | with_reducible refine RA_t ?_ | with_reducible refine RA_nil ?_ | with_reducible refine RB_cons ?_ | with_reducible refine RB_nil ?_
  | with_reducible refine RT_Y ?_ | with_reducible refine RT_tB ?_ | with_reducible refine RT_not ?_ | with_reducible refine RT_and ?_ | with_reducible refine RT_or ?_ | with_reducible refine RX_and ?_ | with_reducible refine RX_or ?_ | with_reducible refine RX_not ?_ | with_reducible refine RX_if ?_ | with_reducible refine RX_ch ?_
  | with_reducible refine CB_t ?_ | with_reducible refine CB_f ?_ | with_reducible refine CB_n ?_
  | with_reducible refine RX_mut rfl rfl ?_ | with_reducible refine RS_for ?_ | with_reducible refine RI_enmU ?_ | with_reducible refine RI_seq ?_ | with_reducible refine RI_rg1 ?_ | with_reducible refine RI_rg3 ?_ | with_reducible refine RX_lc ?_ | with_reducible refine RX_dc ?_ | with_reducible refine RX_dK ?_ | with_reducible refine RX_sl ?_ | with_reducible refine RO_N ?_ | with_reducible refine RO_E ?_ | with_reducible refine RX_fld ?_ | with_reducible refine RX_meth ?_ | with_reducible refine RX_make ?_ | with_reducible refine RX_o2 ?_
  | with_reducible refine RX_q ?_ | with_reducible refine RLk_q ?_ | with_reducible refine RLk_at (by with_unfolding_all rfl) ?_ | with_reducible refine RLk_c ?_ | with_reducible refine RLs_nil ?_ | with_reducible refine RLs_cons ?_ | with_reducible refine RQ_2 ?_ | with_reducible refine RQ_bi ?_ | with_reducible refine RQ_tup ?_ | with_reducible refine RQ_lst ?_ | with_reducible refine RQ_get2 ?_ | with_reducible refine RQ_sl ?_ | with_reducible refine RLo_N ?_ | with_reducible refine RLo_E ?_ | with_reducible refine RQ_f ?_ | with_reducible refine RQ_1 ?_ | with_reducible refine RQ_at (by with_unfolding_all rfl) ?_
  | with_reducible refine RI_zp ?_ | with_reducible refine RI_enmS ?_ | with_reducible refine RS_subP ?_ | with_reducible refine RS_par3 ?_ | with_reducible refine RX_callK ?_ | with_reducible refine RX_methP ?_ | with_reducible refine RX_mutP ?_ | with_reducible refine RQ_methR ?_
  | with_reducible refine R1_of _ (opMod_int (by decide)) ?_ | with_reducible refine R1_of _ (opDiv_int (by decide)) ?_ | with_reducible refine R1_of _ (opMul_l (by first | decide | omega)) ?_ | with_reducible refine R1_of _ (opMul_r (by first | decide | omega)) ?_ | with_reducible refine R1_of _ (opPow_ok (by first | decide | omega)) ?_
  | refine R1_of _ rfl ?_
  | (fail_if_success (with_reducible refine RF_id ?_)); (fail_if_success (with_reducible refine RL_id ?_)); (fail_if_success (with_reducible refine RI_id ?_)); (fail_if_success (with_reducible refine RS_whid ?_)); (fail_if_success (with_reducible refine inR_id ?_)); first | refine ⟨_, by walk_at "nrm", ?_⟩ | refine ⟨_, _, rfl, ?_⟩ | refine ⟨_, rfl, ?_⟩ | refine ⟨rfl, ?_⟩ | refine ⟨Nat.le_of_ble_eq_true rfl, ?_⟩ | refine ⟨_, _, rfl, rfl, ?_⟩)
end Pg
namespace Pg
open PySem PySem.Spec L2 VS Pg
local macro_rules | `(tactic| walk_at "gt") => `(tactic| (simp only [gT, gsCons, gN, gsNil, Option.bind_some, List.length_cons, List.length_nil, List.set_cons_zero, List.set_cons_succ, Nat.reduceAdd, if_true] <;> exact rfl))
local macro_rules | `(tactic| walk_at "nrm") => `(tactic| (simp only [List.set_cons_zero, List.set_cons_succ, List.map_cons, List.map_nil, List.length_cons, List.length_nil, List.replicate, List.cons_append, List.nil_append, Nat.reduceSub, selM, ins, O.fz, wipeD, savD, unwD, List.getElem?_cons_zero, List.getElem?_cons_succ, Option.join_some, Option.join_none] <;> exact rfl))
local macro_rules | `(tactic| walk_at "vw") => `(tactic| first
  | with_reducible refine RX_x2 ?_ | with_reducible refine RX_C ?_ | with_reducible refine RX_Vs rfl ?_ | with_reducible refine RX_Va rfl rfl ?_
  | with_reducible refine RV_sh _ ?_ | with_reducible refine RV_val _ ?_ | with_reducible refine RV_at _ rfl ?_
  | with_reducible refine RK_val _ ?_ | with_reducible refine RK_at _ rfl (by walk_at "nrm") ?_
  | with_reducible refine RS_seq ?_ | with_reducible refine thenS_nx ?_ | with_reducible refine thenS_rt ?_ | with_reducible refine loopS_nx ?_ | with_reducible refine loopS_rt ?_ | with_reducible refine loopS_ct ?_ | with_reducible refine loopS_bk ?_ | with_reducible refine thenS_bk ?_ | with_reducible refine thenS_ct ?_ | with_reducible refine endF_rt (by walk_at "nrm") ?_ | with_reducible refine endF_nx (by walk_at "nrm") ?_
  | with_reducible refine RS_set ?_ | with_reducible refine RS_ret ?_ | with_reducible refine RS_if ?_ | with_reducible refine RS_expr ?_ | with_reducible refine RS_sub ?_ | with_reducible refine RS_attr ?_ | with_reducible refine RS_nil ?_ | with_reducible refine RS_par ?_ | with_reducible refine RS_asg ?_
  | with_reducible refine RX_call ?_ | with_reducible refine RX_bi ?_ | with_reducible refine RX_x1 ?_ | with_reducible refine RX_tup ?_ | with_reducible refine RX_lst ?_
  | with_reducible refine RA_f ?_ | with_reducible refine RA_t ?_ | with_reducible refine RA_nil ?_ | with_reducible refine RB_cons ?_ | with_reducible refine RB_nil ?_
  | with_reducible refine RT_Y ?_ | with_reducible refine RT_tB ?_ | with_reducible refine RT_not ?_ | with_reducible refine RT_and ?_ | with_reducible refine RT_or ?_ | with_reducible refine RX_and ?_ | with_reducible refine RX_or ?_ | with_reducible refine RX_not ?_ | with_reducible refine RX_if ?_ | with_reducible refine RX_ch ?_
  | with_reducible refine CB_t ?_ | with_reducible refine CB_f ?_ | with_reducible refine CB_n ?_
  | with_reducible refine RX_mut rfl rfl ?_ | with_reducible refine RS_for ?_ | with_reducible refine RI_enmU ?_ | with_reducible refine RI_seq ?_ | with_reducible refine RI_rg1 ?_ | with_reducible refine RI_rg3 ?_ | with_reducible refine RX_lc ?_ | with_reducible refine RX_dc ?_ | with_reducible refine RX_dK ?_ | with_reducible refine RX_sl ?_ | with_reducible refine RO_N ?_ | with_reducible refine RO_E ?_ | with_reducible refine RX_fld ?_ | with_reducible refine RX_meth ?_ | with_reducible refine RX_make ?_ | with_reducible refine RX_o2 ?_
  | with_reducible refine RX_q ?_ | with_reducible refine RLk_q ?_ | with_reducible refine RLk_at (by with_unfolding_all rfl) ?_ | with_reducible refine RLk_c ?_ | with_reducible refine RLs_nil ?_ | with_reducible refine RLs_cons ?_ | with_reducible refine RQ_2 ?_ | with_reducible refine RQ_bi ?_ | with_reducible refine RQ_tup ?_ | with_reducible refine RQ_lst ?_ | with_reducible refine RQ_get2 ?_ | with_reducible refine RQ_sl ?_ | with_reducible refine RLo_N ?_ | with_reducible refine RLo_E ?_ | with_reducible refine RQ_f ?_ | with_reducible refine RQ_1 ?_ | with_reducible refine RQ_at (by with_unfolding_all rfl) ?_
  | with_reducible refine RI_zp ?_ | with_reducible refine RI_enmS ?_ | with_reducible refine RS_subP ?_ | with_reducible refine RS_par3 ?_ | with_reducible refine RX_callK ?_ | with_reducible refine RX_methP ?_ | with_reducible refine RX_mutP ?_ | with_reducible refine RQ_methR ?_
  | with_reducible refine R1_of _ (opMod_int (by decide)) ?_ | with_reducible refine R1_of _ (opDiv_int (by decide)) ?_ | with_reducible refine R1_of _ (opMul_l (by first | decide | omega)) ?_ | with_reducible refine R1_of _ (opMul_r (by first | decide | omega)) ?_ | with_reducible refine R1_of _ (opPow_ok (by first | decide | omega)) ?_
  | refine R1_of _ rfl ?_
  | (fail_if_success (with_reducible refine RF_id ?_)); (fail_if_success (with_reducible refine RL_id ?_)); (fail_if_success (with_reducible refine RI_id ?_)); (fail_if_success (with_reducible refine RS_whid ?_)); (fail_if_success (with_reducible refine inR_id ?_)); first | refine ⟨_, by walk_at "nrm", ?_⟩ | refine ⟨_, _, rfl, ?_⟩ | refine ⟨_, rfl, ?_⟩ | refine ⟨rfl, ?_⟩ | refine ⟨Nat.le_of_ble_eq_true rfl, ?_⟩ | refine ⟨_, _, rfl, rfl, ?_⟩)
end Pg
namespace Pg
open PySem PySem.Spec L2 VS Pg
local macro_rules | `(tactic| walk_at "gt") => `(tactic| (simp only [gT, gsCons, gN, gsNil, Option.bind_some, List.length_cons, List.length_nil, List.set_cons_zero, List.set_cons_succ, Nat.reduceAdd, if_true] <;> exact rfl))
local macro_rules | `(tactic| walk_at "nrm") => `(tactic| (simp only [List.set_cons_zero, List.set_cons_succ, List.map_cons, List.map_nil, List.length_cons, List.length_nil, List.replicate, List.cons_append, List.nil_append, Nat.reduceSub, selM, ins, O.fz, wipeD, savD, unwD, List.getElem?_cons_zero, List.getElem?_cons_succ, Option.join_some, Option.join_none] <;> exact rfl))
local macro_rules | `(tactic| walk_at "vw") => `(tactic| first
  | with_reducible refine RX_x2 ?_ | with_reducible refine RX_C ?_ | with_reducible refine RX_Vs rfl ?_ | with_reducible refine RX_Va rfl rfl ?_
  | with_reducible refine RV_sh _ ?_ | with_reducible refine RV_val _ ?_ | with_reducible refine RV_at _ rfl ?_
  | with_reducible refine RK_val _ ?_ | with_reducible refine RK_at _ rfl (by walk_at "nrm") ?_
  | with_reducible refine RS_seq ?_ | with_reducible refine thenS_nx ?_ | with_reducible refine thenS_rt ?_ | with_reducible refine loopS_nx ?_ | with_reducible refine loopS_rt ?_ | with_reducible refine loopS_ct ?_ | with_reducible refine loopS_bk ?_ | with_reducible refine thenS_bk ?_ | with_reducible refine thenS_ct ?_ | with_reducible refine endF_rt (by walk_at "nrm") ?_ | with_reducible refine endF_nx (by walk_at "nrm") ?_
  | with_reducible refine RS_set ?_ | with_reducible refine RS_ret ?_ | with_reducible refine RS_if ?_ | with_reducible refine RS_expr ?_ | with_reducible refine RS_sub ?_ | with_reducible refine RS_attr ?_ | with_reducible refine RS_nil ?_ | with_reducible refine RS_par ?_ | with_reducible refine RS_asg ?_
  | with_reducible refine RX_call ?_ | with_reducible refine RX_bi ?_ | with_reducible refine RX_x1 ?_ | with_reducible refine RX_tup ?_ | with_reducible refine RX_lst ?_
  | with_reducible refine RA_f ?_ | with_reducible refine RA_t ?_ | with_reducible refine RA_nil ?_ | with_reducible refine RB_cons ?_ | with_reducible refine RB_nil ?_
  | with_reducible refine RT_Y ?_ | with_reducible refine RT_tB ?_ | with_reducible refine RT_not ?_ | with_reducible refine RT_and ?_ | with_reducible refine RT_or ?_ | with_reducible refine RX_and ?_ | with_reducible refine RX_or ?_ | with_reducible refine RX_not ?_ | with_reducible refine RX_if ?_ | with_reducible refine RX_ch ?_
  | with_reducible refine CB_t ?_ | with_reducible refine CB_f ?_ | with_reducible refine CB_n ?_
  | with_reducible refine RX_mut rfl rfl ?_ | with_reducible refine RS_for ?_ | with_reducible refine RI_enmU ?_ | with_reducible refine RI_seq ?_ | with_reducible refine RI_rg1 ?_ | with_reducible refine RI_rg3 ?_ | with_reducible refine RX_lc ?_ | with_reducible refine RX_dc ?_ | with_reducible refine RX_dK ?_ | with_reducible refine RX_sl ?_ | with_reducible refine RO_N ?_ | with_reducible refine RO_E ?_ | with_reducible refine RX_fld ?_ | with_reducible refine RX_meth ?_ | with_reducible refine RX_make ?_ | with_reducible refine RX_o2 ?_
  | with_reducible refine RX_q ?_ | with_reducible refine RLk_q ?_ | with_reducible refine RLk_at (by with_unfolding_all rfl) ?_ | with_reducible refine RLk_c ?_ | with_reducible refine RLs_nil ?_ | with_reducible refine RLs_cons ?_ | with_reducible refine RQ_2 ?_ | with_reducible refine RQ_bi ?_ | with_reducible refine RQ_tup ?_ | with_reducible refine RQ_lst ?_ | with_reducible refine RQ_get2 ?_ | with_reducible refine RQ_sl ?_ | with_reducible refine RLo_N ?_ | with_reducible refine RLo_E ?_ | with_reducible refine RQ_f ?_ | with_reducible refine RQ_1 ?_ | with_reducible refine RQ_at (by with_unfolding_all rfl) ?_
  | with_reducible refine RS_subP ?_ | with_reducible refine RS_par3 ?_ | with_reducible refine RX_callK ?_ | with_reducible refine RX_methP ?_ | with_reducible refine RX_mutP ?_ | with_reducible refine RQ_methR ?_
  | with_reducible refine R1_of _ (opMod_int (by decide)) ?_ | with_reducible refine R1_of _ (opDiv_int (by decide)) ?_ | with_reducible refine R1_of _ (opMul_l (by first | decide | omega)) ?_ | with_reducible refine R1_of _ (opMul_r (by first | decide | omega)) ?_ | with_reducible refine R1_of _ (opPow_ok (by first | decide | omega)) ?_
  | refine R1_of _ rfl ?_
  | (fail_if_success (with_reducible refine RF_id ?_)); (fail_if_success (with_reducible refine RL_id ?_)); (fail_if_success (with_reducible refine RS_whid ?_)); (fail_if_success (with_reducible refine inR_id ?_)); first | refine ⟨_, by walk_at "nrm", ?_⟩ | refine ⟨_, _, rfl, ?_⟩ | refine ⟨_, rfl, ?_⟩ | refine ⟨rfl, ?_⟩ | refine ⟨Nat.le_of_ble_eq_true rfl, ?_⟩ | refine ⟨_, _, rfl, rfl, ?_⟩)
def lst : List PM.Pa → Nat → PM.Pa → Option Nat
  | [], _, _ => none
  | x :: r, k, q => match lst r (k + 1) q with
    | some i => some i
    | none => if q <+: x then some k else none
theorem lst_snoc {x q : PM.Pa} : ∀ (a : List PM.Pa) (k : Nat), lst (a ++ [x]) k q = if q <+: x then some (k + a.length) else lst a k q
  | [], k => by simp [lst]
  | y :: a, k => by
    rw [List.cons_append, lst, lst_snoc a (k + 1), lst]
    by_cases e : q <+: x
    · rw [if_pos e, if_pos e, List.length_cons]
      simp only
      congr 1
      omega
    · rw [if_neg e, if_neg e]
theorem lst_none {q : PM.Pa} : ∀ (a : List PM.Pa) (k : Nat), (∀ y ∈ a, ¬ q <+: y) → lst a k q = none
  | [], k, _ => rfl
  | y :: a, k, h => by
    rw [lst, lst_none a (k + 1) fun z hz => h z (List.mem_cons_of_mem _ hz)]
    simp only
    rw [if_neg (h y List.mem_cons_self)]
theorem lst_of {q x : PM.Pa} : ∀ (a : List PM.Pa) (k i : Nat), k ≤ i → a[i - k]? = some x → q <+: x → (∀ j y, i - k < j → a[j]? = some y → ¬ q <+: y) → lst a k q = some i
  | [], k, i, _, h, _, _ => by simp at h
  | y :: a, k, i, hk, h, hx, hn => by
    rw [lst]
    rcases Nat.lt_or_ge k i with z | z
    · have e1 : i - k = (i - (k + 1)) + 1 := by omega
      rw [e1, List.getElem?_cons_succ] at h
      rw [lst_of a (k + 1) i (by omega) h hx fun j y' hj hy => hn (j + 1) y' (by omega) (by rw [List.getElem?_cons_succ]; exact hy)]
    · have e1 : i = k := by omega
      subst e1
      rw [Nat.sub_self, List.getElem?_cons_zero] at h
      cases h
      rw [lst_none a (i + 1) fun z hz => by
        obtain ⟨j, hj⟩ := List.getElem?_of_mem hz
        exact hn (j + 1) z (by omega) (by rw [List.getElem?_cons_succ]; exact hj)]
      simp only
      rw [if_pos hx]
theorem PP.sub {kinds : List Ty} {tops : List En} (h : PP kinds tops) {s : Str} (hs : s ∈ nms kinds) : PP kinds (PM.ents kinds s) := by
  refine ⟨h.l1, h.l2, h.tk, h.nd, h.ent, ?_, fun e he => ⟨(PM.ents_ok h.ok s e he).1, h.row_ents hs e he⟩⟩
  obtain ⟨t, ht, rfl⟩ := List.mem_map.mp hs
  rw [ents_mem h.nd ht]
  exact (h.tk t ht).2.1
/-- the task that starts last in a tree -/
theorem LastV.task {kinds : List Ty} {tops : List En} (h : PP kinds tops) {m : Bool} {q : PM.Pa} {L : Int} (hq : q ≠ []) (hv : PM.Val kinds tops q) (l : LastV kinds tops m q L) : ∃ r, PM.Val kinds tops (q ++ r) ∧ numM kinds tops m (q ++ r) = L := by
  obtain ⟨s, hs, l⟩ := l
  have hsm := kind_mem h hv hs
  have hrow := PM.rowsP_kind q hs
  cases m with
  | true =>
    rw [if_pos rfl] at l
    obtain ⟨t, ht, rfl⟩ := l
    refine ⟨t, PM.app_val hv ?_, rfl⟩
    rw [hrow]
    exact (PM.LastT.ok h.ok t hsm ht).1
  | false =>
    rw [if_neg (by decide)] at l
    have hse := PM.size_eq h.ok hsm
    have hnn : 0 ≤ PM.sumE (PM.size kinds) (PM.ents kinds s) := (PM.ents_ok h.ok s).sumS h.ok
    by_cases hz : PM.sumE (PM.size kinds) (PM.ents kinds s) = 0
    · refine ⟨[], by rw [List.append_nil]; exact hv, ?_⟩
      rw [List.append_nil]
      omega
    · obtain ⟨_, _, _, r, _, _, _, hvr, hr, _⟩ := task_depth_ok (h.sub hsm) (n := PM.sumE (PM.size kinds) (PM.ents kinds s) - 1) (by omega) (by omega)
      refine ⟨r, PM.app_val hv (by rw [hrow]; exact hvr), ?_⟩
      show PM.rkD kinds tops (q ++ r) = L
      have h1 := PM.rkD_app (K := kinds) (b := r) hv
      have h2 := PM.rkD_all hv
      rw [hrow] at h1
      have h3 : numM kinds tops false q = PM.rkD kinds tops q := rfl
      omega
theorem lst_last {kinds : List Ty} {tops : List En} (h : PP kinds tops) {m : Bool} {R : List PM.Pa} (o : Ord kinds tops m R) {q : PM.Pa} {L : Int} (hq : q ≠ []) (hv : PM.Val kinds tops q) (l : LastV kinds tops m q L) : lst R 0 q = some L.toNat ∧ 0 ≤ L ∧ ∃ x, R[L.toNat]? = some x ∧ q <+: x := by
  have hrg := l.range h hq hv
  obtain ⟨s, hs, _⟩ := id l
  obtain ⟨r, hvr, hr⟩ := l.task h hq hv
  have hg := o.get h (q := q ++ r) (by simp [hq]) hvr (j := L.toNat) (by omega)
  refine ⟨lst_of R 0 L.toNat (Nat.zero_le _) (by rw [Nat.sub_zero]; exact hg) (List.prefix_append q r) fun j y hj hy hp => ?_, hrg.1, _, hg, List.prefix_append q r⟩
  obtain ⟨r2, rfl⟩ := hp
  obtain ⟨_, c, d⟩ := o.at_ j _ hy
  have h2 := (PM.val_app c).2
  rw [PM.rowsP_kind q hs] at h2
  have := (l.below h hq hv hs h2).1
  omega
theorem last_ex {kinds : List Ty} {tops : List En} (h : PP kinds tops) (m : Bool) {q : PM.Pa} (hq : q ≠ []) (hv : PM.Val kinds tops q) : ∃ L, LastV kinds tops m q L := by
  obtain ⟨L, l, _⟩ := last_start_ok h m hq hv
  exact ⟨L, l⟩
end Pg
namespace Pg
open PySem PySem.Spec L2 VS Pg
local macro_rules | `(tactic| walk_at "gt") => `(tactic| (simp only [gT, gsCons, gN, gsNil, Option.bind_some, List.length_cons, List.length_nil, List.set_cons_zero, List.set_cons_succ, Nat.reduceAdd, if_true] <;> exact rfl))
local macro_rules | `(tactic| walk_at "nrm") => `(tactic| (simp only [List.set_cons_zero, List.set_cons_succ, List.map_cons, List.map_nil, List.length_cons, List.length_nil, List.replicate, List.cons_append, List.nil_append, Nat.reduceSub, selM, ins, O.fz, wipeD, savD, unwD, List.getElem?_cons_zero, List.getElem?_cons_succ, Option.join_some, Option.join_none] <;> exact rfl))
local macro_rules | `(tactic| walk_at "vw") => `(tactic| first
  | with_reducible refine RX_x2 ?_ | with_reducible refine RX_C ?_ | with_reducible refine RX_Vs rfl ?_ | with_reducible refine RX_Va rfl rfl ?_
  | with_reducible refine RV_sh _ ?_ | with_reducible refine RV_val _ ?_ | with_reducible refine RV_at _ rfl ?_
  | with_reducible refine RK_val _ ?_ | with_reducible refine RK_at _ rfl (by walk_at "nrm") ?_
  | with_reducible refine RS_seq ?_ | with_reducible refine thenS_nx ?_ | with_reducible refine thenS_rt ?_ | with_reducible refine loopS_nx ?_ | with_reducible refine loopS_rt ?_ | with_reducible refine loopS_ct ?_ | with_reducible refine loopS_bk ?_ | with_reducible refine thenS_bk ?_ | with_reducible refine thenS_ct ?_ | with_reducible refine endF_rt (by walk_at "nrm") ?_ | with_reducible refine endF_nx (by walk_at "nrm") ?_
  | with_reducible refine RS_set ?_ | with_reducible refine RS_ret ?_ | with_reducible refine RS_if ?_ | with_reducible refine RS_expr ?_ | with_reducible refine RS_sub ?_ | with_reducible refine RS_attr ?_ | with_reducible refine RS_nil ?_ | with_reducible refine RS_par ?_ | with_reducible refine RS_asg ?_
  | with_reducible refine RX_call ?_ | with_reducible refine RX_bi ?_ | with_reducible refine RX_x1 ?_ | with_reducible refine RX_tup ?_ | with_reducible refine RX_lst ?_
  | with_reducible refine RA_f ?_ | with_reducible refine RA_t ?_ | with_reducible refine RA_nil ?_ | with_reducible refine RB_cons ?_ | with_reducible refine RB_nil ?_
  | with_reducible refine RT_Y ?_ | with_reducible refine RT_tB ?_ | with_reducible refine RT_not ?_ | with_reducible refine RT_and ?_ | with_reducible refine RT_or ?_ | with_reducible refine RX_and ?_ | with_reducible refine RX_or ?_ | with_reducible refine RX_not ?_ | with_reducible refine RX_if ?_ | with_reducible refine RX_ch ?_
  | with_reducible refine CB_t ?_ | with_reducible refine CB_f ?_ | with_reducible refine CB_n ?_
  | with_reducible refine RX_mut rfl rfl ?_ | with_reducible refine RS_for ?_ | with_reducible refine RI_enmU ?_ | with_reducible refine RI_seq ?_ | with_reducible refine RI_rg1 ?_ | with_reducible refine RI_rg3 ?_ | with_reducible refine RX_lc ?_ | with_reducible refine RX_dc ?_ | with_reducible refine RX_dK ?_ | with_reducible refine RX_sl ?_ | with_reducible refine RO_N ?_ | with_reducible refine RO_E ?_ | with_reducible refine RX_fld ?_ | with_reducible refine RX_meth ?_ | with_reducible refine RX_make ?_ | with_reducible refine RX_o2 ?_
  | with_reducible refine RX_q ?_ | with_reducible refine RLk_q ?_ | with_reducible refine RLk_at (by with_unfolding_all rfl) ?_ | with_reducible refine RLk_c ?_ | with_reducible refine RLs_nil ?_ | with_reducible refine RLs_cons ?_ | with_reducible refine RQ_2 ?_ | with_reducible refine RQ_bi ?_ | with_reducible refine RQ_tup ?_ | with_reducible refine RQ_lst ?_ | with_reducible refine RQ_get2 ?_ | with_reducible refine RQ_sl ?_ | with_reducible refine RLo_N ?_ | with_reducible refine RLo_E ?_ | with_reducible refine RQ_f ?_ | with_reducible refine RQ_1 ?_ | with_reducible refine RQ_at (by with_unfolding_all rfl) ?_
  | with_reducible refine RS_subP ?_ | with_reducible refine RS_par3 ?_ | with_reducible refine RX_callK ?_ | with_reducible refine RX_methP ?_ | with_reducible refine RX_mutP ?_ | with_reducible refine RQ_methR ?_
  | with_reducible refine R1_of _ (opMod_int (by decide)) ?_ | with_reducible refine R1_of _ (opDiv_int (by decide)) ?_ | with_reducible refine R1_of _ (opMul_l (by first | decide | omega)) ?_ | with_reducible refine R1_of _ (opMul_r (by first | decide | omega)) ?_ | with_reducible refine R1_of _ (opPow_ok (by first | decide | omega)) ?_
  | refine R1_of _ rfl ?_
  | (fail_if_success (with_reducible refine RF_id ?_)); (fail_if_success (with_reducible refine RL_id ?_)); (fail_if_success (with_reducible refine RS_whid ?_)); (fail_if_success (with_reducible refine inR_id ?_)); first | refine ⟨_, by walk_at "nrm", ?_⟩ | refine ⟨_, _, rfl, ?_⟩ | refine ⟨_, rfl, ?_⟩ | refine ⟨rfl, ?_⟩ | refine ⟨Nat.le_of_ble_eq_true rfl, ?_⟩ | refine ⟨_, _, rfl, rfl, ?_⟩)
end Pg
namespace Pg
open PySem PySem.Spec L2 VS Pg
local macro_rules | `(tactic| walk_at "gt") => `(tactic| (simp only [gT, gsCons, gN, gsNil, Option.bind_some, List.length_cons, List.length_nil, List.set_cons_zero, List.set_cons_succ, Nat.reduceAdd, if_true] <;> exact rfl))
local macro_rules | `(tactic| walk_at "nrm") => `(tactic| (simp only [List.set_cons_zero, List.set_cons_succ, List.map_cons, List.map_nil, List.length_cons, List.length_nil, List.replicate, List.cons_append, List.nil_append, Nat.reduceSub, selM, ins, O.fz, wipeD, savD, unwD, List.getElem?_cons_zero, List.getElem?_cons_succ, Option.join_some, Option.join_none] <;> exact rfl))
local macro_rules | `(tactic| walk_at "vw") => `(tactic| first
  | with_reducible refine RX_x2 ?_ | with_reducible refine RX_C ?_ | with_reducible refine RX_Vs rfl ?_ | with_reducible refine RX_Va rfl rfl ?_
  | with_reducible refine RV_sh _ ?_ | with_reducible refine RV_val _ ?_ | with_reducible refine RV_at _ rfl ?_
  | with_reducible refine RK_val _ ?_ | with_reducible refine RK_at _ rfl (by walk_at "nrm") ?_
  | with_reducible refine RS_seq ?_ | with_reducible refine thenS_nx ?_ | with_reducible refine thenS_rt ?_ | with_reducible refine loopS_nx ?_ | with_reducible refine loopS_rt ?_ | with_reducible refine loopS_ct ?_ | with_reducible refine loopS_bk ?_ | with_reducible refine thenS_bk ?_ | with_reducible refine thenS_ct ?_ | with_reducible refine endF_rt (by walk_at "nrm") ?_ | with_reducible refine endF_nx (by walk_at "nrm") ?_
  | with_reducible refine RS_set ?_ | with_reducible refine RS_ret ?_ | with_reducible refine RS_if ?_ | with_reducible refine RS_expr ?_ | with_reducible refine RS_sub ?_ | with_reducible refine RS_attr ?_ | with_reducible refine RS_nil ?_ | with_reducible refine RS_par ?_ | with_reducible refine RS_asg ?_
  | with_reducible refine RX_call ?_ | with_reducible refine RX_bi ?_ | with_reducible refine RX_x1 ?_ | with_reducible refine RX_tup ?_ | with_reducible refine RX_lst ?_
  | with_reducible refine RA_f ?_ | with_reducible refine RA_t ?_ | with_reducible refine RA_nil ?_ | with_reducible refine RB_cons ?_ | with_reducible refine RB_nil ?_
  | with_reducible refine RT_Y ?_ | with_reducible refine RT_tB ?_ | with_reducible refine RT_not ?_ | with_reducible refine RT_and ?_ | with_reducible refine RT_or ?_ | with_reducible refine RX_and ?_ | with_reducible refine RX_or ?_ | with_reducible refine RX_not ?_ | with_reducible refine RX_if ?_ | with_reducible refine RX_ch ?_
  | with_reducible refine CB_t ?_ | with_reducible refine CB_f ?_ | with_reducible refine CB_n ?_
  | with_reducible refine RX_mut rfl rfl ?_ | with_reducible refine RS_for ?_ | with_reducible refine RI_enmU ?_ | with_reducible refine RI_seq ?_ | with_reducible refine RI_rg1 ?_ | with_reducible refine RI_rg3 ?_ | with_reducible refine RX_lc ?_ | with_reducible refine RX_dc ?_ | with_reducible refine RX_dK ?_ | with_reducible refine RX_sl ?_ | with_reducible refine RO_N ?_ | with_reducible refine RO_E ?_ | with_reducible refine RX_fld ?_ | with_reducible refine RX_meth ?_ | with_reducible refine RX_make ?_ | with_reducible refine RX_o2 ?_
  | with_reducible refine RX_q ?_ | with_reducible refine RLk_q ?_ | with_reducible refine RLk_at (by with_unfolding_all rfl) ?_ | with_reducible refine RLk_c ?_ | with_reducible refine RLs_nil ?_ | with_reducible refine RLs_cons ?_ | with_reducible refine RQ_2 ?_ | with_reducible refine RQ_bi ?_ | with_reducible refine RQ_tup ?_ | with_reducible refine RQ_lst ?_ | with_reducible refine RQ_get2 ?_ | with_reducible refine RQ_sl ?_ | with_reducible refine RLo_N ?_ | with_reducible refine RLo_E ?_ | with_reducible refine RQ_f ?_ | with_reducible refine RQ_1 ?_ | with_reducible refine RQ_at (by with_unfolding_all rfl) ?_
  | with_reducible refine RS_subP ?_ | with_reducible refine RS_par3 ?_ | with_reducible refine RX_callK ?_ | with_reducible refine RX_methP ?_ | with_reducible refine RX_mutP ?_ | with_reducible refine RQ_methR ?_
  | with_reducible refine R1_of _ (opMod_int (by decide)) ?_ | with_reducible refine R1_of _ (opDiv_int (by decide)) ?_ | with_reducible refine R1_of _ (opMul_l (by first | decide | omega)) ?_ | with_reducible refine R1_of _ (opMul_r (by first | decide | omega)) ?_ | with_reducible refine R1_of _ (opPow_ok (by first | decide | omega)) ?_
  | refine R1_of _ rfl ?_
  | (fail_if_success (with_reducible refine RF_id ?_)); (fail_if_success (with_reducible refine RL_id ?_)); (fail_if_success (with_reducible refine RS_whid ?_)); (fail_if_success (with_reducible refine inR_id ?_)); first | refine ⟨_, by walk_at "nrm", ?_⟩ | refine ⟨_, _, rfl, ?_⟩ | refine ⟨_, rfl, ?_⟩ | refine ⟨rfl, ?_⟩ | refine ⟨Nat.le_of_ble_eq_true rfl, ?_⟩ | refine ⟨_, _, rfl, rfl, ?_⟩)
end Pg
namespace Pg
open PySem PySem.Spec L2 VS Pg
local macro_rules | `(tactic| walk_at "gt") => `(tactic| (simp only [gT, gsCons, gN, gsNil, Option.bind_some, List.length_cons, List.length_nil, List.set_cons_zero, List.set_cons_succ, Nat.reduceAdd, if_true] <;> exact rfl))
local macro_rules | `(tactic| walk_at "nrm") => `(tactic| (simp only [List.set_cons_zero, List.set_cons_succ, List.map_cons, List.map_nil, List.length_cons, List.length_nil, List.replicate, List.cons_append, List.nil_append, Nat.reduceSub, selM, ins, O.fz, wipeD, savD, unwD, List.getElem?_cons_zero, List.getElem?_cons_succ, Option.join_some, Option.join_none] <;> exact rfl))
local macro_rules | `(tactic| walk_at "vw") => `(tactic| first
  | with_reducible refine RX_x2 ?_ | with_reducible refine RX_C ?_ | with_reducible refine RX_Vs rfl ?_ | with_reducible refine RX_Va rfl rfl ?_
  | with_reducible refine RV_sh _ ?_ | with_reducible refine RV_val _ ?_ | with_reducible refine RV_at _ rfl ?_
  | with_reducible refine RK_val _ ?_ | with_reducible refine RK_at _ rfl (by walk_at "nrm") ?_
  | with_reducible refine RS_seq ?_ | with_reducible refine thenS_nx ?_ | with_reducible refine thenS_rt ?_ | with_reducible refine loopS_nx ?_ | with_reducible refine loopS_rt ?_ | with_reducible refine loopS_ct ?_ | with_reducible refine loopS_bk ?_ | with_reducible refine thenS_bk ?_ | with_reducible refine thenS_ct ?_ | with_reducible refine endF_rt (by walk_at "nrm") ?_ | with_reducible refine endF_nx (by walk_at "nrm") ?_
  | with_reducible refine RS_set ?_ | with_reducible refine RS_ret ?_ | with_reducible refine RS_if ?_ | with_reducible refine RS_expr ?_ | with_reducible refine RS_sub ?_ | with_reducible refine RS_attr ?_ | with_reducible refine RS_nil ?_ | with_reducible refine RS_par ?_ | with_reducible refine RS_asg ?_
  | with_reducible refine RX_call ?_ | with_reducible refine RX_bi ?_ | with_reducible refine RX_x1 ?_ | with_reducible refine RX_tup ?_ | with_reducible refine RX_lst ?_
  | with_reducible refine RA_f ?_ | with_reducible refine RA_t ?_ | with_reducible refine RA_nil ?_ | with_reducible refine RB_cons ?_ | with_reducible refine RB_nil ?_
  | with_reducible refine RT_Y ?_ | with_reducible refine RT_tB ?_ | with_reducible refine RT_not ?_ | with_reducible refine RT_and ?_ | with_reducible refine RT_or ?_ | with_reducible refine RX_and ?_ | with_reducible refine RX_or ?_ | with_reducible refine RX_not ?_ | with_reducible refine RX_if ?_ | with_reducible refine RX_ch ?_
  | with_reducible refine CB_t ?_ | with_reducible refine CB_f ?_ | with_reducible refine CB_n ?_
  | with_reducible refine RX_mut rfl rfl ?_ | with_reducible refine RS_for ?_ | with_reducible refine RI_enmU ?_ | with_reducible refine RI_seq ?_ | with_reducible refine RI_rg1 ?_ | with_reducible refine RI_rg3 ?_ | with_reducible refine RX_lc ?_ | with_reducible refine RX_dc ?_ | with_reducible refine RX_dK ?_ | with_reducible refine RX_sl ?_ | with_reducible refine RO_N ?_ | with_reducible refine RO_E ?_ | with_reducible refine RX_fld ?_ | with_reducible refine RX_meth ?_ | with_reducible refine RX_make ?_ | with_reducible refine RX_o2 ?_
  | with_reducible refine RX_q ?_ | with_reducible refine RLk_q ?_ | with_reducible refine RLk_at (by with_unfolding_all rfl) ?_ | with_reducible refine RLk_c ?_ | with_reducible refine RLs_nil ?_ | with_reducible refine RLs_cons ?_ | with_reducible refine RQ_2 ?_ | with_reducible refine RQ_bi ?_ | with_reducible refine RQ_tup ?_ | with_reducible refine RQ_lst ?_ | with_reducible refine RQ_get2 ?_ | with_reducible refine RQ_sl ?_ | with_reducible refine RLo_N ?_ | with_reducible refine RLo_E ?_ | with_reducible refine RQ_f ?_ | with_reducible refine RQ_1 ?_ | with_reducible refine RQ_at (by with_unfolding_all rfl) ?_
  | with_reducible refine RS_subP ?_ | with_reducible refine RS_par3 ?_ | with_reducible refine RX_callK ?_ | with_reducible refine RX_methP ?_ | with_reducible refine RX_mutP ?_ | with_reducible refine RQ_methR ?_
  | with_reducible refine R1_of _ (opMod_int (by decide)) ?_ | with_reducible refine R1_of _ (opDiv_int (by decide)) ?_ | with_reducible refine R1_of _ (opMul_l (by first | decide | omega)) ?_ | with_reducible refine R1_of _ (opMul_r (by first | decide | omega)) ?_ | with_reducible refine R1_of _ (opPow_ok (by first | decide | omega)) ?_
  | refine R1_of _ rfl ?_
  | (fail_if_success (with_reducible refine RF_id ?_)); (fail_if_success (with_reducible refine RL_id ?_)); (fail_if_success (with_reducible refine RS_whid ?_)); (fail_if_success (with_reducible refine inR_id ?_)); first | refine ⟨_, by walk_at "nrm", ?_⟩ | refine ⟨_, _, rfl, ?_⟩ | refine ⟨_, rfl, ?_⟩ | refine ⟨rfl, ?_⟩ | refine ⟨Nat.le_of_ble_eq_true rfl, ?_⟩ | refine ⟨_, _, rfl, rfl, ?_⟩)
end Pg
namespace Lk17
open PySem PySem.Spec L2 VS Pg
local macro_rules | `(tactic| walk_at "gt") => `(tactic| (simp only [gT, gsCons, gN, gsNil, Option.bind_some, List.length_cons, List.length_nil, List.set_cons_zero, List.set_cons_succ, Nat.reduceAdd, if_true] <;> exact rfl))
local macro_rules | `(tactic| walk_at "nrm") => `(tactic| (simp only [List.set_cons_zero, List.set_cons_succ, List.map_cons, List.map_nil, List.length_cons, List.length_nil, List.replicate, List.cons_append, List.nil_append, Nat.reduceSub, selM, ins, O.fz, wipeD, savD, unwD, List.getElem?_cons_zero, List.getElem?_cons_succ, Option.join_some, Option.join_none] <;> exact rfl))
local macro_rules | `(tactic| walk_at "vw") => `(tactic| first
  | with_reducible refine RX_x2 ?_ | with_reducible refine RX_C ?_ | with_reducible refine RX_Vs rfl ?_ | with_reducible refine RX_Va rfl rfl ?_
  | with_reducible refine RV_sh _ ?_ | with_reducible refine RV_val _ ?_ | with_reducible refine RV_at _ rfl ?_
  | with_reducible refine RK_val _ ?_ | with_reducible refine RK_at _ rfl (by walk_at "nrm") ?_
  | with_reducible refine RS_seq ?_ | with_reducible refine thenS_nx ?_ | with_reducible refine thenS_rt ?_ | with_reducible refine loopS_nx ?_ | with_reducible refine loopS_rt ?_ | with_reducible refine loopS_ct ?_ | with_reducible refine loopS_bk ?_ | with_reducible refine thenS_bk ?_ | with_reducible refine thenS_ct ?_ | with_reducible refine endF_rt (by walk_at "nrm") ?_ | with_reducible refine endF_nx (by walk_at "nrm") ?_
  | with_reducible refine RS_set ?_ | with_reducible refine RS_ret ?_ | with_reducible refine RS_if ?_ | with_reducible refine RS_expr ?_ | with_reducible refine RS_sub ?_ | with_reducible refine RS_attr ?_ | with_reducible refine RS_nil ?_ | with_reducible refine RS_par ?_ | with_reducible refine RS_asg ?_
  | with_reducible refine RX_call ?_ | with_reducible refine RX_bi ?_ | with_reducible refine RX_x1 ?_ | with_reducible refine RX_tup ?_ | with_reducible refine RX_lst ?_
  | with_reducible refine RA_f ?_ | with_reducible refine RA_t ?_ | with_reducible refine RA_nil ?_ | with_reducible refine RB_cons ?_ | with_reducible refine RB_nil ?_
  | with_reducible refine RT_Y ?_ | with_reducible refine RT_tB ?_ | with_reducible refine RT_not ?_ | with_reducible refine RT_and ?_ | with_reducible refine RT_or ?_ | with_reducible refine RX_and ?_ | with_reducible refine RX_or ?_ | with_reducible refine RX_not ?_ | with_reducible refine RX_if ?_ | with_reducible refine RX_ch ?_
  | with_reducible refine CB_t ?_ | with_reducible refine CB_f ?_ | with_reducible refine CB_n ?_
  | with_reducible refine RX_mut rfl rfl ?_ | with_reducible refine RS_for ?_ | with_reducible refine RI_enmU ?_ | with_reducible refine RI_seq ?_ | with_reducible refine RI_rg1 ?_ | with_reducible refine RI_rg3 ?_ | with_reducible refine RX_lc ?_ | with_reducible refine RX_dc ?_ | with_reducible refine RX_dK ?_ | with_reducible refine RX_sl ?_ | with_reducible refine RO_N ?_ | with_reducible refine RO_E ?_ | with_reducible refine RX_fld ?_ | with_reducible refine RX_meth ?_ | with_reducible refine RX_make ?_ | with_reducible refine RX_o2 ?_
  | with_reducible refine RX_q ?_ | with_reducible refine RLk_q ?_ | with_reducible refine RLk_at (by with_unfolding_all rfl) ?_ | with_reducible refine RLk_c ?_ | with_reducible refine RLs_nil ?_ | with_reducible refine RLs_cons ?_ | with_reducible refine RQ_2 ?_ | with_reducible refine RQ_bi ?_ | with_reducible refine RQ_tup ?_ | with_reducible refine RQ_lst ?_ | with_reducible refine RQ_get2 ?_ | with_reducible refine RQ_sl ?_ | with_reducible refine RLo_N ?_ | with_reducible refine RLo_E ?_ | with_reducible refine RQ_f ?_ | with_reducible refine RQ_1 ?_ | with_reducible refine RQ_at (by with_unfolding_all rfl) ?_
  | with_reducible refine RS_subP ?_ | with_reducible refine RS_par3 ?_ | with_reducible refine RX_callK ?_ | with_reducible refine RX_methP ?_ | with_reducible refine RX_mutP ?_ | with_reducible refine RQ_methR ?_
  | with_reducible refine R1_of _ (opMod_int (by decide)) ?_ | with_reducible refine R1_of _ (opDiv_int (by decide)) ?_ | with_reducible refine R1_of _ (opMul_l (by first | decide | omega)) ?_ | with_reducible refine R1_of _ (opMul_r (by first | decide | omega)) ?_ | with_reducible refine R1_of _ (opPow_ok (by first | decide | omega)) ?_
  | refine R1_of _ rfl ?_
  | (fail_if_success (with_reducible refine RF_id ?_)); (fail_if_success (with_reducible refine RL_id ?_)); (fail_if_success (with_reducible refine RS_whid ?_)); (fail_if_success (with_reducible refine inR_id ?_)); first | refine ⟨_, by walk_at "nrm", ?_⟩ | refine ⟨_, _, rfl, ?_⟩ | refine ⟨_, rfl, ?_⟩ | refine ⟨rfl, ?_⟩ | refine ⟨Nat.le_of_ble_eq_true rfl, ?_⟩ | refine ⟨_, _, rfl, rfl, ?_⟩)
theorem mixed_ok (a k : Int) (h0 : 0 ≤ k) (h1 : k < 1000000000000) : RF m__law_mixed [.sh (.int a), .sh (.int k)] fun r fin => ∃ v : Int, r = .sh (.int v) ∧ fin = [some (.sh (.int a)), some (.sh (.int k))] := by
  refine RF_def rfl (by walk_at "nrm") ?_
  repeat walk_at "vw"
  rfl
def wl (a b c : Int) : O := .lst [.int a, .int b, .int c]
/-- the well stands, not drawn too often -/
def Wl (n : Int) (o : O) : Prop := ∃ a b c, o = wl a b c ∧ 0 ≤ a ∧ 0 ≤ c ∧ c ≤ n
theorem Wl.mono {n m : Int} {o : O} (h : Wl n o) (e : n ≤ m) : Wl m o := let ⟨a, b, c, h1, h2, h3, h4⟩ := h; ⟨a, b, c, h1, h2, h3, Int.le_trans h4 e⟩
theorem draw_ok {n m : Int} {w : O} (hw : Wl n w) (hn : n < 100000000) (hm : 0 < m ∧ m < 18446744073709551616) : RF m__law_draw [w, .sh (.int m)] fun r fin => ∃ (v : Int) (w' : O), r = .sh (.int v) ∧ 0 ≤ v ∧ v < m ∧ Wl (n + 1) w' ∧ fin = [some w', some (.sh (.int m))] := by
  obtain ⟨a, b, c, rfl, ha, hc, hcn⟩ := hw
  unfold wl
  refine RF_def rfl (by walk_at "nrm") ?_
  repeat walk_at "vw"
  refine CB_d (fun hpos => ?_) (fun hneg => ?_)
  · repeat walk_at "vw"
    refine R1_of _ (opMod_int hm.1) ?_
    repeat walk_at "vw"
    refine R1_of _ (opDiv_int (divOk_of hm)) ?_
    repeat walk_at "vw"
    exact ⟨_, _, rfl, Int.emod_nonneg _ (by omega), Int.emod_lt_of_pos _ hm.1, ⟨a / m, b, c, rfl, Int.ediv_nonneg ha (by omega), hc, by omega⟩, rfl⟩
  · repeat walk_at "vw"
    refine RF.mono (mixed_ok b (c + 1) (by omega) (by omega)) ?_
    rintro r fin ⟨v, rfl, rfl⟩
    repeat walk_at "vw"
    refine R1_of _ (opMod_int hm.1) ?_
    repeat walk_at "vw"
    exact ⟨_, _, rfl, Int.emod_nonneg _ (by omega), Int.emod_lt_of_pos _ hm.1, ⟨a, b, c + 1, rfl, ha, by omega, by omega⟩, rfl⟩
theorem one_ok {n : Int} {w o : O} {xs : List D} (hw : Wl n w) (hn : n < 100000000) (ho : o = .lst xs ∨ o = .sh (.lst xs)) (hx : xs ≠ []) (hl : xs.length < 1000000) : RF m__law_one [w, o] fun r fin => ∃ (d : D) (w' : O), r = .sh d ∧ d ∈ xs ∧ Wl (n + 1) w' ∧ fin = [some w', some o] := by
  have hp : 0 < xs.length := List.length_pos_iff.mpr hx
  obtain ⟨a, b, c, e, h1, h2, h3⟩ := id hw
  unfold wl at e
  subst e
  rcases ho with rfl | rfl <;>
  · refine RF_def rfl (by walk_at "nrm") ?_
    repeat walk_at "vw"
    refine RF.mono (draw_ok hw hn (by omega)) ?_
    rintro r fin ⟨v, w', rfl, hv0, hv1, hw', rfl⟩
    obtain ⟨x, hx1, hx2⟩ := atI_some hv0 hv1
    obtain ⟨a', b', c', e', _⟩ := id hw'
    unfold wl at e'
    subst e'
    repeat walk_at "vw"
    refine R1_of (o := .sh x) _ (by show (atI xs v).map O.sh = _; rw [hx1]; rfl) ?_
    repeat walk_at "vw"
    exact ⟨x, _, rfl, hx2, hw', rfl⟩
def nm12 : List Str := ["job", "a", "part", "zz", "step", "b", "leaf", "task", "m", "end", "x", "yy"]
theorem nok12 : ∀ s ∈ nm12, NOk s := by
  intro s hs
  simp only [nm12, List.mem_cons, List.not_mem_nil, or_false] at hs
  rcases hs with rfl | rfl | rfl | rfl | rfl | rfl | rfl | rfl | rfl | rfl | rfl | rfl <;> exact ⟨⟨_, _, by with_unfolding_all rfl, rfl, rfl⟩, by decide +kernel⟩
theorem nm12_nodup : nm12.Nodup := by decide +kernel
theorem ne_nil {l : List Str} (h : ∀ s ∈ l, NOk s) : opNe (.lst (l.map .str)) (.lst []) = some (.sh (.bl (!l.isEmpty))) := by
  have h1 : (D.lst (l.map .str)).okE 30 = true := by
    simp only [D.okE]
    exact okL_map fun x hx => by simp only [D.okE]; exact (h x hx).2
  have h2 : (D.lst []).okE 30 = true := by simp [D.okE, D.okL]
  unfold opNe deq
  rw [h1, h2]
  cases l <;> simp [D.eqD, D.eqL]
/-- a plan as drawn -/
structure DP (kinds : List Ty) (tops : List En) : Prop where
  l1 : 1 ≤ kinds.length
  l2 : kinds.length ≤ 12
  nm : ∀ t ∈ kinds, NOk t.1
  nd : (kinds.map (·.1)).Nodup
  rw_ : ∀ t ∈ kinds, t.2.length ≤ 4
  ent : ∀ i t, kinds[i]? = some t → ∀ e ∈ t.2, e.1 ∈ (kinds.map (·.1)).drop (i + 1) ∧ cntOk e.2
  tl : tops.length ≤ 4
  te : ∀ e ∈ tops, e.1 ∈ kinds.map (·.1) ∧ cntOk e.2
def cnt3 (k : Int) : Prop := 1 ≤ k ∧ k ≤ 3
/-- a plan as drawn -/
structure DPn (kinds : List Ty) (tops : List En) : Prop where
  l1 : 1 ≤ kinds.length
  l2 : kinds.length ≤ 12
  nm : ∀ t ∈ kinds, NOk t.1
  nd : (kinds.map (·.1)).Nodup
  rw_ : ∀ t ∈ kinds, t.2.length ≤ 4
  ent : ∀ i t, kinds[i]? = some t → ∀ e ∈ t.2, e.1 ∈ (kinds.map (·.1)).drop (i + 1) ∧ cnt3 e.2
  tl : tops.length ≤ 4
  te : ∀ e ∈ tops, e.1 ∈ kinds.map (·.1) ∧ cnt3 e.2
/-- the outer loop's word -/
def DrIn (names : List Str) (n : Int) (o : O) (done : List Str) (δ : DS) : Prop := ∃ (w : O) (kinds : List Ty) (j6 j7 j8 j9 j10 j11 : Option O), δ = [some w, some (.sh (.int 6)), some (.sh (.int 3)), some o, some (.sh (.lst (names.map .str))), some (.lst (kinds.map encT)), j6, j7, j8, j9, j10, j11, none] ∧
  Wl (n + 1 + 100 * done.length) w ∧ kinds.map (·.1) = done ∧ ∀ i t, kinds[i]? = some t → t.2.length ≤ 4 ∧ ∀ e ∈ t.2, e.1 ∈ names.drop (i + 1) ∧ cnt3 e.2
/-- the inner one's -/
def DrJn (names : List Str) (kinds : List Ty) (at_ : Int) (x : Str) (rest : List Str) (n : Int) (o : O) (done : List Nat) (δ : DS) : Prop := ∃ (w : O) (rows : List En) (j10 j11 : Option O), δ = [some w, some (.sh (.int 6)), some (.sh (.int 3)), some o, some (.sh (.lst (names.map .str))), some (.lst (kinds.map encT)), some (.sh (.int at_)), some (.sh (.str x)), some (.lst (rest.map .str)), some (.lst (rows.map encE)), j10, j11, none] ∧
  Wl (n + 3 * done.length) w ∧ rows.length = done.length ∧ ∀ e ∈ rows, e.1 ∈ rest ∧ cnt3 e.2
theorem drawn6_ok {n : Int} {w : O} {cs : List Int} (hw : Wl n w) (hn : n < 1000000) (hc : ∀ k ∈ cs, cnt3 k) (hc0 : cs ≠ []) (hcl : cs.length < 1000) :
    RF m__law_drawn [w, .sh (.int 6), .sh (.int 3), .lst (cs.map .int)] fun r fin => ∃ kinds tops w', r = .sh (.tup [.lst (kinds.map encT), .lst (tops.map encE)]) ∧ DPn kinds tops ∧ Wl (n + 2000) w' ∧ fin = [some w', some (.sh (.int 6)), some (.sh (.int 3)), some (.lst (cs.map .int))] := by
  obtain ⟨a, b, c, e, h1, h2, h3⟩ := id hw
  unfold wl at e
  subst e
  refine RF_def rfl (by walk_at "nrm") ?_
  repeat walk_at "vw"
  refine RF.mono (draw_ok hw (by omega) (by omega)) ?_
  rintro r fin ⟨v, w1, rfl, hv0, hv1, hw1, rfl⟩
  obtain ⟨a1, b1, c1, e1, _⟩ := id hw1
  unfold wl at e1
  subst e1
  repeat walk_at "vw"
  have hN : cutL [D.str (Str.ofString "job"), D.str (Str.ofString "a"), D.str (Str.ofString "part"), D.str (Str.ofString "zz"), D.str (Str.ofString "step"), D.str (Str.ofString "b"), D.str (Str.ofString "leaf"), D.str (Str.ofString "task"), D.str (Str.ofString "m"), D.str (Str.ofString "end"), D.str (Str.ofString "x"), D.str (Str.ofString "yy")] none (some (1 + v)) = (nm12.take (1 + v).toNat).map D.str := by
    rw [cutL_take _ (by omega), List.map_take]
    rfl
  rw [hN]
  generalize hnames : nm12.take (1 + v).toNat = names
  have hlen : names.length ≤ 12 := by rw [← hnames]; simp [nm12]; omega
  have hlen1 : 1 ≤ names.length := by rw [← hnames]; simp [nm12]; omega
  have hsub : ∀ s ∈ names, NOk s := fun s hs => nok12 s (by rw [← hnames] at hs; exact List.mem_of_mem_take hs)
  have hnd : names.Nodup := by rw [← hnames]; exact (List.take_sublist _ _).nodup nm12_nodup
  refine RL_enum (DrIn names n _) ⟨_, [], none, none, none, none, none, none, rfl, by simpa using hw1, rfl, fun i t e => by simp at e⟩ ?_ ?_
  · rintro done x rest δ hl ⟨w, kinds, j6, j7, j8, j9, j10, j11, rfl, hw, hk, hq⟩
    refine ⟨_, by walk_at "gt", ?_⟩
    obtain ⟨a2, b2, c2, e2, _⟩ := id hw
    unfold wl at e2
    subst e2
    have hdl : done.length < 12 := by have := congrArg List.length hl; simp at this; omega
    repeat walk_at "vw"
    have hL : cutL (names.map D.str) (some ((done.length : Int) + 1)) none = rest.map D.str := by
      rw [cutL_drop _ (by omega), ← List.map_drop, hl]
      have : ((done.length : Int) + 1).toNat = (done ++ [x]).length := by simp
      rw [this]
      have e3 : done ++ x :: rest = (done ++ [x]) ++ rest := by simp
      rw [e3, List.drop_left]
    have hrs : ∀ s ∈ rest, NOk s := fun s hs => hsub s (by rw [hl]; simp [hs])
    have hrl : rest.length < 12 := by have := congrArg List.length hl; simp at this; omega
    rw [hL]
    refine RF.mono (draw_ok hw (by omega) (by omega)) ?_
    rintro r fin ⟨v2, w2, rfl, hv20, hv21, hw2, rfl⟩
    obtain ⟨a3, b3, c3, e3, _⟩ := id hw2
    unfold wl at e3
    subst e3
    repeat walk_at "vw"
    refine R1_of _ (ne_nil hrs) ?_
    repeat walk_at "vw"
    have hj : ∃ m : Nat, (v2 * (if (!rest.isEmpty) = true then (1 : Int) else 0)) = m ∧ m ≤ 4 ∧ (rest = [] → m = 0) := by
      cases rest with
      | nil => exact ⟨0, by simp, by omega, fun _ => rfl⟩
      | cons y ys => exact ⟨v2.toNat, by simp; omega, by omega, fun z => by cases z⟩
    obtain ⟨m, hm, hm4, hm0⟩ := hj
    rw [hm]
    refine ⟨by simp [inR]; omega, ?_⟩
    rw [Int.toNat_natCast, rng_map]
    refine RL_inv (DrJn names kinds done.length x rest (n + 1 + 100 * done.length + 1) _) ⟨_, [], _, _, rfl, by simpa using hw2, rfl, fun e he => by simp at he⟩ ?_ ?_
    · rintro di y ri δ hli ⟨w, rows, j10, j11, rfl, hw, hrw, hre⟩
      have hrne : 0 < rest.length := by
        refine List.length_pos_iff.mpr fun z => ?_
        have := hm0 z
        subst this
        simp at hli
      have hdi : di.length < 4 := by have := congrArg List.length hli; simp at this; omega
      refine ⟨_, by walk_at "gt", ?_⟩
      obtain ⟨a4, b4, c4, e4, _⟩ := id hw
      unfold wl at e4
      subst e4
      repeat walk_at "vw"
      refine RF.mono (draw_ok hw (by omega) (by rw [List.length_map]; omega)) ?_
      rintro r fin ⟨v3, w3, rfl, hv30, hv31, hw3, rfl⟩
      obtain ⟨a5, b5, c5, e5, _⟩ := id hw3
      unfold wl at e5
      subst e5
      repeat walk_at "vw"
      refine RF.mono (draw_ok hw3 (by omega) (by rw [List.length_map]; omega)) ?_
      rintro r fin ⟨v4, w4, rfl, hv40, hv41, hw4, rfl⟩
      obtain ⟨a6, b6, c6, e6, _⟩ := id hw4
      unfold wl at e6
      subst e6
      rw [List.length_map] at hv31 hv41
      repeat walk_at "vw"
      obtain ⟨s, hs1, hs2⟩ := atI_map (f := D.str) (l := rest) (v := if v4 < v3 then v4 else v3) (by split <;> omega) (by split <;> omega)
      refine R1_of _ (opIx_lst hs1) ?_
      repeat walk_at "vw"
      refine RF.mono (one_ok hw4 (by omega) (.inl rfl) (by simpa using hc0) (by simpa using (show cs.length < 1000000 by omega))) ?_
      rintro r fin ⟨d, w5, rfl, hd, hw5, rfl⟩
      obtain ⟨k, hk1, rfl⟩ := List.mem_map.mp hd
      obtain ⟨a7, b7, c7, e7, _⟩ := id hw5
      unfold wl at e7
      subst e7
      repeat walk_at "vw"
      refine ⟨_, mApp_ok (by simp; omega), ?_⟩
      repeat walk_at "vw"
      refine ⟨_, rows ++ [(s, k)], _, _, by rw [List.map_append]; rfl, hw5.mono (by simp; omega), by simp [hrw], fun e he => ?_⟩
      rcases List.mem_append.mp he with he | he
      · exact hre e he
      · have : e = (s, k) := by simpa using he
        subst this
        exact ⟨hs2, hc k hk1⟩
    · rintro δ ⟨w, rows, j10, j11, rfl, hw, hrw, hre⟩
      have hkl : kinds.length = done.length := by rw [← hk, List.length_map]
      repeat walk_at "vw"
      refine ⟨_, mApp_ok (by simp; omega), ?_⟩
      repeat walk_at "vw"
      rw [List.length_range] at hw hrw
      refine ⟨_, kinds ++ [(x, rows)], _, _, _, _, _, _, by rw [List.map_append]; rfl, hw.mono (by simp; omega), by simp [hk], fun i t e => ?_⟩
      by_cases hi : i < kinds.length
      · rw [List.getElem?_append_left hi] at e
        exact hq i t e
      · rw [List.getElem?_append_right (by omega)] at e
        have hi2 : i - kinds.length = 0 := by
          have := (List.getElem?_eq_some_iff.mp e).1
          simp at this
          omega
        rw [hi2] at e
        have et : (x, rows) = t := by simpa using e
        subst et
        refine ⟨by show rows.length ≤ 4; omega, fun e he => ?_⟩
        have hd : names.drop (i + 1) = rest := by
          have : i = done.length := by omega
          subst this
          have e3 : names = (done ++ [x]) ++ rest := by rw [hl]; simp
          rw [e3, show done.length + 1 = (done ++ [x]).length by simp, List.drop_left]
        rw [hd]
        exact hre e he
  · rintro δ ⟨w, kinds, j6, j7, j8, j9, j10, j11, rfl, hw, hk, hq⟩
    obtain ⟨a2, b2, c2, e2, _⟩ := id hw
    unfold wl at e2
    subst e2
    repeat walk_at "vw"
    refine RF.mono (draw_ok hw (by omega) (by omega)) ?_
    rintro r fin ⟨v2, w2, rfl, hv20, hv21, hw2, rfl⟩
    obtain ⟨a3, b3, c3, e3, _⟩ := id hw2
    unfold wl at e3
    subst e3
    repeat walk_at "vw"
    refine ⟨by simp [inR]; omega, by rw [rng_map, List.length_map, List.length_range]; exact sl_le (by omega), ?_⟩
    rw [rng_map]
    refine RC_inv (fun done acc δ => ∃ (w : O) (tops : List En), δ = [some w, some (.sh (.int 6)), some (.sh (.int 3)), some (.lst (cs.map .int)), some (.sh (.lst (names.map .str))), some (.lst (kinds.map encT)), j6, j7, j8, j9, none, j11, none] ∧ acc = tops.map encE ∧ Wl (n + 1 + 100 * names.length + 1 + 2 * done.length) w ∧ tops.length = done.length ∧ ∀ e ∈ tops, e.1 ∈ names.take 3 ∧ cnt3 e.2)
      ⟨_, [], by walk_at "nrm", rfl, by simpa using hw2, rfl, fun e he => by simp at he⟩ ?_ ?_
    · rintro done y rest acc δ hl ⟨w, tops, rfl, rfl, hw, htl, hte⟩
      have hdl : done.length < 5 := by have := congrArg List.length hl; simp at this; omega
      refine ⟨_, by walk_at "gt", ?_⟩
      obtain ⟨a4, b4, c4, e4, _⟩ := id hw
      unfold wl at e4
      subst e4
      repeat walk_at "vw"
      have hc3 : cutL (names.map D.str) none (some 3) = (names.take 3).map D.str := by
        rw [cutL_take _ (by decide), List.map_take]
        rfl
      rw [hc3]
      refine RF.mono (one_ok hw (by omega) (.inl rfl) (by
        intro z
        have h0 : ((names.take 3).map D.str).length = 0 := by rw [z]; rfl
        rw [List.length_map, List.length_take] at h0
        omega) (by simp; omega)) ?_
      rintro r fin ⟨d, w5, rfl, hd, hw5, rfl⟩
      obtain ⟨s, hs, rfl⟩ := List.mem_map.mp hd
      obtain ⟨a5, b5, c5, e5, _⟩ := id hw5
      unfold wl at e5
      subst e5
      repeat walk_at "vw"
      refine RF.mono (one_ok hw5 (by omega) (.inl rfl) (by simpa using hc0) (by simpa using (show cs.length < 1000000 by omega))) ?_
      rintro r fin ⟨d, w6, rfl, hd6, hw6, rfl⟩
      obtain ⟨k, hk1, rfl⟩ := List.mem_map.mp hd6
      obtain ⟨a6, b6, c6, e6, _⟩ := id hw6
      unfold wl at e6
      subst e6
      repeat walk_at "vw"
      refine ⟨_, tops ++ [(s, k)], by walk_at "nrm", by rw [List.map_append]; rfl, hw6.mono (by simp; omega), by simp [htl], fun e he => ?_⟩
      rcases List.mem_append.mp he with he | he
      · exact hte e he
      · have : e = (s, k) := by simpa using he
        subst this
        exact ⟨hs, hc k hk1⟩
    · rintro acc δ ⟨w, tops, rfl, rfl, hw, htl, hte⟩
      repeat walk_at "vw"
      rw [List.length_range] at hw htl
      have hkn : kinds.length = names.length := by rw [← hk, List.length_map]
      refine ⟨kinds, tops, _, rfl, ⟨by omega, by omega, fun t ht => hsub _ (by rw [← hk]; exact List.mem_map_of_mem ht), by rw [hk]; exact hnd, fun t ht => ?_, fun i t e => by rw [hk]; exact (hq i t e).2, by omega, fun e he => by
        rw [hk]
        exact ⟨List.mem_of_mem_take (hte e he).1, (hte e he).2⟩⟩, hw.mono (by omega), rfl⟩
      obtain ⟨i, hi, rfl⟩ := List.getElem_of_mem ht
      exact (hq i _ (List.getElem?_eq_getElem hi)).1
theorem DPn.dp {kinds : List Ty} {tops : List En} (h : DPn kinds tops) : DP kinds tops := ⟨h.l1, h.l2, h.nm, h.nd, h.rw_, fun i t e x hx => ⟨(h.ent i t e x hx).1, (h.ent i t e x hx).2.1, by have := (h.ent i t e x hx).2.2; omega⟩, h.tl, fun e he => ⟨(h.te e he).1, (h.te e he).2.1, by have := (h.te e he).2.2; omega⟩⟩
theorem DP.pp {kinds : List Ty} {tops : List En} (h : DP kinds tops) : PP kinds tops := by
  have hn : ∀ s ∈ kinds.map (·.1), NOk s := fun s hs => by obtain ⟨t, ht, rfl⟩ := List.mem_map.mp hs; exact h.nm t ht
  refine ⟨h.l1, by have := h.l2; omega, fun t ht => ⟨h.nm t ht, by have := h.rw_ t ht; omega, fun e he => ?_⟩, h.nd, fun i t e1 e he => (h.ent i t e1 e he).1, by have := h.tl; omega, fun e he => ⟨(h.te e he).1, hn _ (h.te e he).1, (h.te e he).2⟩⟩
  obtain ⟨i, hi, rfl⟩ := List.getElem_of_mem ht
  have q := h.ent i _ (List.getElem?_eq_getElem hi) e he
  exact ⟨hn _ (List.mem_of_mem_drop q.1), q.2⟩
theorem well_ok (cell : Int) : RF m__law_well [.sh (.int cell)] fun r fin => Wl 0 r ∧ fin.length = 1 := by
  refine RF_def rfl (by walk_at "nrm") ?_
  repeat walk_at "vw"
  refine ⟨⟨_, _, _, rfl, ?_, by decide, by decide⟩, rfl⟩
  have e : (10 : Int) ^ Int.toNat 18 = 1000000000000000000 := by decide
  split
  · rename_i h
    have := of_decide_eq_true h
    rw [e] at this
    omega
  · omega
end Lk17
namespace Lk17
open PySem PySem.Spec L2 VS Pg
local macro_rules | `(tactic| walk_at "gt") => `(tactic| (simp only [gT, gsCons, gN, gsNil, Option.bind_some, List.length_cons, List.length_nil, List.set_cons_zero, List.set_cons_succ, Nat.reduceAdd, if_true] <;> exact rfl))
local macro_rules | `(tactic| walk_at "nrm") => `(tactic| (simp only [List.set_cons_zero, List.set_cons_succ, List.map_cons, List.map_nil, List.length_cons, List.length_nil, List.replicate, List.cons_append, List.nil_append, Nat.reduceSub, selM, ins, O.fz, wipeD, savD, unwD, List.getElem?_cons_zero, List.getElem?_cons_succ, Option.join_some, Option.join_none] <;> exact rfl))
local macro_rules | `(tactic| walk_at "vw") => `(tactic| first
  | with_reducible refine RX_x2 ?_ | with_reducible refine RX_C ?_ | with_reducible refine RX_Vs rfl ?_ | with_reducible refine RX_Va rfl rfl ?_
  | with_reducible refine RV_sh _ ?_ | with_reducible refine RV_val _ ?_ | with_reducible refine RV_at _ rfl ?_
  | with_reducible refine RK_val _ ?_ | with_reducible refine RK_at _ rfl (by walk_at "nrm") ?_
  | with_reducible refine RS_seq ?_ | with_reducible refine thenS_nx ?_ | with_reducible refine thenS_rt ?_ | with_reducible refine loopS_nx ?_ | with_reducible refine loopS_rt ?_ | with_reducible refine loopS_ct ?_ | with_reducible refine loopS_bk ?_ | with_reducible refine thenS_bk ?_ | with_reducible refine thenS_ct ?_ | with_reducible refine endF_rt (by walk_at "nrm") ?_ | with_reducible refine endF_nx (by walk_at "nrm") ?_
  | with_reducible refine RS_set ?_ | with_reducible refine RS_ret ?_ | with_reducible refine RS_if ?_ | with_reducible refine RS_expr ?_ | with_reducible refine RS_sub ?_ | with_reducible refine RS_attr ?_ | with_reducible refine RS_nil ?_ | with_reducible refine RS_par ?_ | with_reducible refine RS_asg ?_
  | with_reducible refine RX_call ?_ | with_reducible refine RX_bi ?_ | with_reducible refine RX_x1 ?_ | with_reducible refine RX_tup ?_ | with_reducible refine RX_lst ?_
  | with_reducible refine RA_f ?_ | with_reducible refine RA_t ?_ | with_reducible refine RA_nil ?_ | with_reducible refine RB_cons ?_ | with_reducible refine RB_nil ?_
  | with_reducible refine RT_Y ?_ | with_reducible refine RT_tB ?_ | with_reducible refine RT_not ?_ | with_reducible refine RT_and ?_ | with_reducible refine RT_or ?_ | with_reducible refine RX_and ?_ | with_reducible refine RX_or ?_ | with_reducible refine RX_not ?_ | with_reducible refine RX_if ?_ | with_reducible refine RX_ch ?_
  | with_reducible refine CB_t ?_ | with_reducible refine CB_f ?_ | with_reducible refine CB_n ?_
  | with_reducible refine RX_mut rfl rfl ?_ | with_reducible refine RS_for ?_ | with_reducible refine RI_enmU ?_ | with_reducible refine RI_seq ?_ | with_reducible refine RI_rg1 ?_ | with_reducible refine RI_rg3 ?_ | with_reducible refine RX_lc ?_ | with_reducible refine RX_dc ?_ | with_reducible refine RX_dK ?_ | with_reducible refine RX_sl ?_ | with_reducible refine RO_N ?_ | with_reducible refine RO_E ?_ | with_reducible refine RX_fld ?_ | with_reducible refine RX_meth ?_ | with_reducible refine RX_make ?_ | with_reducible refine RX_o2 ?_
  | with_reducible refine RX_q ?_ | with_reducible refine RLk_q ?_ | with_reducible refine RLk_at (by with_unfolding_all rfl) ?_ | with_reducible refine RLk_c ?_ | with_reducible refine RLs_nil ?_ | with_reducible refine RLs_cons ?_ | with_reducible refine RQ_2 ?_ | with_reducible refine RQ_bi ?_ | with_reducible refine RQ_tup ?_ | with_reducible refine RQ_lst ?_ | with_reducible refine RQ_get2 ?_ | with_reducible refine RQ_sl ?_ | with_reducible refine RLo_N ?_ | with_reducible refine RLo_E ?_ | with_reducible refine RQ_f ?_ | with_reducible refine RQ_1 ?_ | with_reducible refine RQ_at (by with_unfolding_all rfl) ?_
  | with_reducible refine RS_subP ?_ | with_reducible refine RS_par3 ?_ | with_reducible refine RX_callK ?_ | with_reducible refine RX_methP ?_ | with_reducible refine RX_mutP ?_ | with_reducible refine RQ_methR ?_
  | with_reducible refine R1_of _ (opMod_int (by decide)) ?_ | with_reducible refine R1_of _ (opDiv_int (by decide)) ?_ | with_reducible refine R1_of _ (opMul_l (by first | decide | omega)) ?_ | with_reducible refine R1_of _ (opMul_r (by first | decide | omega)) ?_ | with_reducible refine R1_of _ (opPow_ok (by first | decide | omega)) ?_
  | refine R1_of _ rfl ?_
  | (fail_if_success (with_reducible refine RF_id ?_)); (fail_if_success (with_reducible refine RL_id ?_)); (fail_if_success (with_reducible refine RS_whid ?_)); (fail_if_success (with_reducible refine inR_id ?_)); first | refine ⟨_, by walk_at "nrm", ?_⟩ | refine ⟨_, _, rfl, ?_⟩ | refine ⟨_, rfl, ?_⟩ | refine ⟨rfl, ?_⟩ | refine ⟨Nat.le_of_ble_eq_true rfl, ?_⟩ | refine ⟨_, _, rfl, rfl, ?_⟩)
def OrI (kinds : List Ty) (tops : List En) (m : Bool) (w : Nat) (δ : DS) : Prop := ∃ (R W : List PM.Pa) (j6 j7 j8 j9 j10 j11 : Option O), δ = [some (.sh (.lst (kinds.map encT))), some (.sh (.lst (tops.map encE))), some (.sh (.bl m)), some (.dK (kinds.map encK)), some (.lst (R.map (encQ kinds tops))), some (.lst (W.map (encQ kinds tops))), j6, j7, j8, j9, j10, j11] ∧ QI kinds tops m R W ∧ (w : Int) + R.length = PM.sumE (PM.size kinds) tops
def OrP (kinds : List Ty) (tops : List En) (m : Bool) : O → DS → Prop := fun r fin => ∃ R : List PM.Pa, r = .lst (R.map (encQ kinds tops)) ∧ Ord kinds tops m R ∧ fin = [some (.sh (.lst (kinds.map encT))), some (.sh (.lst (tops.map encE))), some (.sh (.bl m))]
/-- the queue played, with the kinds -/
theorem order_ok {kinds : List Ty} {tops : List En} (h : PP kinds tops) (m : Bool) (hN : PM.sumE (PM.size kinds) tops ≤ 1000) :
    RF m__law_order [.sh (.lst (kinds.map encT)), .sh (.lst (tops.map encE)), .sh (.bl m)] (OrP kinds tops m) := by
  have h0 := QI_len h (QI_0 h m)
  have hnn := total_nn h
  refine RF_def rfl (by walk_at "nrm") ?_
  repeat walk_at "vw"
  refine R1_of _ (mDict_ok h.nd) ?_
  repeat walk_at "vw"
  refine ⟨_, _, _, rfl, _, rfl, ?_⟩
  repeat walk_at "vw"
  refine RL_enum (enc := encE) (fun done δ => ∃ (j6 j7 j8 j9 j10 j11 : Option O), δ = [some (.sh (.lst (kinds.map encT))), some (.sh (.lst (tops.map encE))), some (.sh (.bl m)), some (.dK (kinds.map encK)), some (.lst []), some (.lst ((PM.kids [] 0 done).map (encQ kinds tops))), j6, j7, j8, j9, j10, j11]) ⟨_, _, _, _, _, _, rfl⟩ ?_ ?_
  · rintro done x rest δ hl ⟨j6, j7, j8, j9, j10, j11, rfl⟩
    have hx := (h.te x (by rw [hl]; simp)).2.2
    have hget : tops[done.length]? = some x := by rw [hl]; simp
    have hkl : (PM.kids [] 0 done).length + x.2.toNat ≤ 1000 := by
      have h1 : (PM.kids [] 0 tops).length ≤ 1000 := by simp at h0; omega
      rw [hl, show done ++ x :: rest = (done ++ [x]) ++ rest by simp, kids_app, PM.kids_snoc] at h1
      simp at h1
      omega
    refine ⟨_, by rw [show encE x = .tup [.str x.1, .int x.2] from rfl]; walk_at "gt", ?_⟩
    repeat walk_at "vw"
    refine ⟨inR_cnt hx, by rw [rng_map, List.length_map, List.length_range]; exact sl_le (by omega), ?_⟩
    rw [rng_map]
    refine RC_map (g := fun i : Nat => encQ kinds tops [(done.length, (i : Int))]) (fun i hi => ?_) ?_
    · have hk : PM.kindP kinds tops [(done.length, (i : Int))] = some x.1 := by simp only [PM.kindP, hget]
      refine ⟨_, by walk_at "gt", ?_⟩
      rw [Int.zero_add]
      repeat walk_at "vw"
      unfold encQ
      rw [kn_ok hk]
      first | exact ⟨rfl, by walk_at "nrm"⟩ | walk_at "nrm" | trace_state
    repeat walk_at "vw"
    refine ⟨_, mExt_ok (by simp only [List.length_map, List.length_range]; omega), ?_⟩
    repeat walk_at "vw"
    refine ⟨some (.sh (.int done.length)), some (.sh (.str x.1)), some (.sh (.int x.2)), j9, j10, j11, ?_⟩
    rw [PM.kids_snoc, List.map_append, List.map_map, Nat.zero_add]
    rfl
  rintro δ ⟨j6, j7, j8, j9, j10, j11, rfl⟩
  repeat walk_at "vw"
  refine RS_wh (m := (PM.sumE (PM.size kinds) tops).toNat) (OrI kinds tops m)
    ⟨[], _, _, _, _, _, _, _, rfl, QI_0 h m, by simp; omega⟩ ?_
  rintro w δ ⟨R, W, j6, j7, j8, j9, j10, j11, rfl, hQ, hw⟩
  have hlen := QI_len h hQ
  repeat walk_at "vw"
  refine R1_of _ (opNe_encQ h W fun q hq => QI_val hQ (.inr hq)) ?_
  repeat walk_at "vw"
  by_cases hne : W = []
  · subst hne
    refine CB_yes rfl ?_
    repeat walk_at "vw"
    have e := QI_end h hQ
    first | exact ⟨R, rfl, ⟨e.1, e.2⟩, rfl⟩ | exact ⟨⟨e.1, e.2⟩, rfl⟩
  · refine CB_no (by cases W with | nil => exact absurd rfl hne | cons => rfl) ?_
    have hpos := List.length_pos_iff.mpr hne
    obtain ⟨q, S, hpop⟩ : ∃ q S, W = popQ m q S := by
      cases m with
      | true => obtain ⟨q, S, e⟩ := List.exists_cons_of_ne_nil hne; exact ⟨q, S, e⟩
      | false => exact ⟨W.getLast hne, W.dropLast, (List.dropLast_concat_getLast hne).symm⟩
    subst hpop
    have hqv := QI_val hQ (q := q) (.inr (by cases m <;> simp [popQ]))
    have hQ2 := QI_step h hQ
    have hlen2 := QI_len h hQ2
    rw [List.length_append, List.length_append, List.length_singleton] at hlen2
    obtain ⟨s, hs⟩ := kind_some hqv.1 hqv.2
    have hkn := kn_ok hs
    obtain ⟨t, htm, hte⟩ := List.mem_map.mp (kind_mem h hqv.2 hs)
    have hdg := dget_enc h.nd htm
    have hen := ents_mem h.nd htm
    rw [hte] at hdg hen
    have hrow : PM.rowsP kinds tops q = t.2 := by rw [PM.rowsP_kind q hs, hen]
    have hto := h.tk t htm
    have hpl := path_len h hqv.2
    rw [hrow] at hlen2 hQ2
    have hE : encQ kinds tops q = .tup [encA q, .str s] := by unfold encQ; rw [hkn]
    have hR : R.map (encQ kinds tops) ++ [D.tup [encA q, .str s]] = (R ++ [q]).map (encQ kinds tops) := by rw [List.map_append, List.map_cons, List.map_nil, hE]
    have hA : mApp (.lst (R.map (encQ kinds tops))) [D.tup [encA q, .str s]] = some (.lst ((R ++ [q]).map (encQ kinds tops)), .sh .non) := by rw [mApp_ok (by rw [List.length_map]; omega), hR]
    have body : ∀ (j6 j8 j9 j11 : Option O), RS (sFor (iEnmU (bCons (x2 opIx (xV 3) (xV 7)) bNil)) (gT 2 (gsCons (gN 6) (gsCons (gT 2 (gsCons (gN 11) (gsCons (gN 8) gsNil))) gsNil))) (sExpr (xMut mExt 5 (bCons (xLc (iRg1 (bCons (xV 8) bNil)) (gN 9) tY (xTup (bCons (x2 opAdd (xV 10) (xTup (bCons (xTup (bCons (xV 6) (bCons (xV 9) bNil))) bNil))) (bCons (xV 11) bNil))) [9]) bNil))))
        [some (.sh (.lst (kinds.map encT))), some (.sh (.lst (tops.map encE))), some (.sh (.bl m)), some (.dK (kinds.map encK)), some (.lst ((R ++ [q]).map (encQ kinds tops))), some (.lst (S.map (encQ kinds tops))), j6, some (.sh (.str s)), j8, j9, some (.sh (encA q)), j11]
        (loopS (fun δ' => ∃ m', m' < w ∧ OrI kinds tops m m' δ') (thenS (sRet 3 (xV 4)) (endF 3 [0, 1, 2] (OrP kinds tops m)))) := by
      intro j6 j8 j9 j11
      repeat walk_at "vw"
      refine R1_of _ (opIx_dk hdg) ?_
      repeat walk_at "vw"
      refine RL_enum (enc := encE) (fun done δ => ∃ (j6 j8 j9 j11 j7 : Option O), δ = [some (.sh (.lst (kinds.map encT))), some (.sh (.lst (tops.map encE))), some (.sh (.bl m)), some (.dK (kinds.map encK)), some (.lst ((R ++ [q]).map (encQ kinds tops))), some (.lst ((S ++ PM.kids q 0 done).map (encQ kinds tops))), j6, j7, j8, j9, some (.sh (encA q)), j11]) ⟨j6, j8, j9, j11, some (.sh (.str s)), by rw [show PM.kids q 0 [] = [] from rfl, List.append_nil]⟩ ?_ ?_
      · rintro done x rest δ hl ⟨j6, j8, j9, j11, j7, rfl⟩
        have hx := (hto.2.2 x (by rw [hl]; simp)).2
        have hget : (PM.rowsP kinds tops q)[done.length]? = some x := by rw [hrow, hl]; simp
        have hkl : S.length + (PM.kids q 0 done).length + x.2.toNat ≤ 1000 := by
          have h1 : S.length + (PM.kids q 0 t.2).length ≤ 1000 := by omega
          rw [hl, show done ++ x :: rest = (done ++ [x]) ++ rest by simp, kids_app, PM.kids_snoc] at h1
          simp at h1
          omega
        refine ⟨_, by rw [show encE x = .tup [.str x.1, .int x.2] from rfl]; walk_at "gt", ?_⟩
        repeat walk_at "vw"
        refine ⟨inR_cnt hx, by rw [rng_map, List.length_map, List.length_range]; exact sl_le (by omega), ?_⟩
        rw [rng_map]
        refine RC_map (g := fun i : Nat => encQ kinds tops (q ++ [(done.length, (i : Int))])) (fun i hi => ?_) ?_
        · have hk := PM.kindP_snoc (i := (i : Int)) hqv.2 hget
          refine ⟨_, by walk_at "gt", ?_⟩
          rw [Int.zero_add]
          unfold encA
          repeat walk_at "vw"
          refine R1_of _ (addS done.length (i : Int) (by omega)) ?_
          repeat walk_at "vw"
          unfold encQ encA
          rw [kn_ok hk]
          first | exact ⟨rfl, by walk_at "nrm"⟩ | walk_at "nrm" | trace_state
        repeat walk_at "vw"
        refine ⟨_, mExt_ok (by simp only [List.length_map, List.length_range, List.length_append]; omega), ?_⟩
        repeat walk_at "vw"
        refine ⟨some (.sh (.int done.length)), some (.sh (.int x.2)), j9, some (.sh (.str x.1)), j7, ?_⟩
        rw [PM.kids_snoc, ← List.append_assoc, List.map_append (l₁ := S ++ PM.kids q 0 done), List.map_map, Nat.zero_add]
        rfl
      · rintro δ ⟨j6, j8, j9, j11, j7, rfl⟩
        repeat walk_at "vw"
        exact ⟨w - 1, by omega, R ++ [q], _, _, _, _, _, _, _, rfl, hQ2, by simp; omega⟩
    cases m with
    | true =>
      repeat walk_at "vw"
      refine ⟨_, mPop_at (x := .tup [encA q, .str s]) (by decide) (by decide) (by rw [← hE]; rfl), ?_⟩
      repeat walk_at "vw"
      refine ⟨_, hA, ?_⟩
      refine ⟨_, by walk_at "nrm", ?_⟩
      exact thenS_nx (body _ _ _ _)
    | false =>
      repeat walk_at "vw"
      refine ⟨(.lst (S.map (encQ kinds tops)), .sh (.tup [encA q, .str s])), ?_, ?_⟩
      · show (((popQ false q S).map (encQ kinds tops))[((popQ false q S).map (encQ kinds tops)).length - 1]?).map (fun d => (O.lst ((popQ false q S).map (encQ kinds tops)).dropLast, O.sh d)) = _
        simp [popQ, hE]
      repeat walk_at "vw"
      refine ⟨_, hA, ?_⟩
      refine ⟨_, by walk_at "nrm", ?_⟩
      exact thenS_nx (body _ _ _ _)
end Lk17
namespace Lk17
open PySem PySem.Spec L2 VS Pg
local macro_rules | `(tactic| walk_at "gt") => `(tactic| (simp only [gT, gsCons, gN, gsNil, Option.bind_some, List.length_cons, List.length_nil, List.set_cons_zero, List.set_cons_succ, Nat.reduceAdd, if_true] <;> exact rfl))
local macro_rules | `(tactic| walk_at "nrm") => `(tactic| (simp only [List.set_cons_zero, List.set_cons_succ, List.map_cons, List.map_nil, List.length_cons, List.length_nil, List.replicate, List.cons_append, List.nil_append, Nat.reduceSub, selM, ins, O.fz, wipeD, savD, unwD, List.getElem?_cons_zero, List.getElem?_cons_succ, Option.join_some, Option.join_none] <;> exact rfl))
local macro_rules | `(tactic| walk_at "vw") => `(tactic| first
  | with_reducible refine RX_x2 ?_ | with_reducible refine RX_C ?_ | with_reducible refine RX_Vs rfl ?_ | with_reducible refine RX_Va rfl rfl ?_
  | with_reducible refine RV_sh _ ?_ | with_reducible refine RV_val _ ?_ | with_reducible refine RV_at _ rfl ?_
  | with_reducible refine RK_val _ ?_ | with_reducible refine RK_at _ rfl (by walk_at "nrm") ?_
  | with_reducible refine RS_seq ?_ | with_reducible refine thenS_nx ?_ | with_reducible refine thenS_rt ?_ | with_reducible refine loopS_nx ?_ | with_reducible refine loopS_rt ?_ | with_reducible refine loopS_ct ?_ | with_reducible refine loopS_bk ?_ | with_reducible refine thenS_bk ?_ | with_reducible refine thenS_ct ?_ | with_reducible refine endF_rt (by walk_at "nrm") ?_ | with_reducible refine endF_nx (by walk_at "nrm") ?_
  | with_reducible refine RS_set ?_ | with_reducible refine RS_ret ?_ | with_reducible refine RS_if ?_ | with_reducible refine RS_expr ?_ | with_reducible refine RS_sub ?_ | with_reducible refine RS_attr ?_ | with_reducible refine RS_nil ?_ | with_reducible refine RS_par ?_ | with_reducible refine RS_asg ?_
  | with_reducible refine RX_call ?_ | with_reducible refine RX_bi ?_ | with_reducible refine RX_x1 ?_ | with_reducible refine RX_tup ?_ | with_reducible refine RX_lst ?_
  | with_reducible refine RA_f ?_ | with_reducible refine RA_t ?_ | with_reducible refine RA_nil ?_ | with_reducible refine RB_cons ?_ | with_reducible refine RB_nil ?_
  | with_reducible refine RT_Y ?_ | with_reducible refine RT_tB ?_ | with_reducible refine RT_not ?_ | with_reducible refine RT_and ?_ | with_reducible refine RT_or ?_ | with_reducible refine RX_and ?_ | with_reducible refine RX_or ?_ | with_reducible refine RX_not ?_ | with_reducible refine RX_if ?_ | with_reducible refine RX_ch ?_
  | with_reducible refine CB_t ?_ | with_reducible refine CB_f ?_ | with_reducible refine CB_n ?_
  | with_reducible refine RX_mut rfl rfl ?_ | with_reducible refine RS_for ?_ | with_reducible refine RI_enmU ?_ | with_reducible refine RI_seq ?_ | with_reducible refine RI_rg1 ?_ | with_reducible refine RI_rg3 ?_ | with_reducible refine RX_lc ?_ | with_reducible refine RX_dc ?_ | with_reducible refine RX_dK ?_ | with_reducible refine RX_sl ?_ | with_reducible refine RO_N ?_ | with_reducible refine RO_E ?_ | with_reducible refine RX_fld ?_ | with_reducible refine RX_meth ?_ | with_reducible refine RX_make ?_ | with_reducible refine RX_o2 ?_
  | with_reducible refine RX_q ?_ | with_reducible refine RLk_q ?_ | with_reducible refine RLk_at (by with_unfolding_all rfl) ?_ | with_reducible refine RLk_c ?_ | with_reducible refine RLs_nil ?_ | with_reducible refine RLs_cons ?_ | with_reducible refine RQ_2 ?_ | with_reducible refine RQ_bi ?_ | with_reducible refine RQ_tup ?_ | with_reducible refine RQ_lst ?_ | with_reducible refine RQ_get2 ?_ | with_reducible refine RQ_sl ?_ | with_reducible refine RLo_N ?_ | with_reducible refine RLo_E ?_ | with_reducible refine RQ_f ?_ | with_reducible refine RQ_1 ?_ | with_reducible refine RQ_at (by with_unfolding_all rfl) ?_
  | with_reducible refine RS_subP ?_ | with_reducible refine RS_par3 ?_ | with_reducible refine RX_callK ?_ | with_reducible refine RX_methP ?_ | with_reducible refine RX_mutP ?_ | with_reducible refine RQ_methR ?_
  | with_reducible refine R1_of _ (opMod_int (by decide)) ?_ | with_reducible refine R1_of _ (opDiv_int (by decide)) ?_ | with_reducible refine R1_of _ (opMul_l (by first | decide | omega)) ?_ | with_reducible refine R1_of _ (opMul_r (by first | decide | omega)) ?_ | with_reducible refine R1_of _ (opPow_ok (by first | decide | omega)) ?_
  | refine R1_of _ rfl ?_
  | (fail_if_success (with_reducible refine RF_id ?_)); (fail_if_success (with_reducible refine RL_id ?_)); (fail_if_success (with_reducible refine RS_whid ?_)); (fail_if_success (with_reducible refine inR_id ?_)); first | refine ⟨_, by walk_at "nrm", ?_⟩ | refine ⟨_, _, rfl, ?_⟩ | refine ⟨_, rfl, ?_⟩ | refine ⟨rfl, ?_⟩ | refine ⟨Nat.le_of_ble_eq_true rfl, ?_⟩ | refine ⟨_, _, rfl, rfl, ?_⟩)
def szOf (kinds done : List Ty) : List (Key × D) := done.map fun t => (.inr t.1, .int (PM.size kinds t.1))
theorem sz_get {kinds done : List Ty} {s : Str} (h : s ∈ done.map (·.1)) : dget (szOf kinds done) (.inr s) = some (.int (PM.size kinds s)) := by
  unfold szOf
  induction done with
  | nil => simp at h
  | cons t r ih =>
    rw [List.map_cons, dget_cons]
    by_cases e : t.1 = s
    · rw [if_pos (by rw [e]), e]
    · rw [if_neg fun z => e (Sum.inr.inj z)]
      refine ih ?_
      rw [List.map_cons] at h
      exact (List.mem_cons.mp h).resolve_left fun z => e z.symm
theorem sizes_ok {kinds : List Ty} {tops : List En} (h : PP kinds tops) : ∀ o : O, (o = .lst (kinds.map encT) ∨ o = .sh (.lst (kinds.map encT))) → RF m__law_sizes [o] fun r fin => r = .dK (szOf kinds kinds.reverse) ∧ fin = [some o] := by
  rintro o (rfl | rfl)
  · refine RF_def rfl (by walk_at "nrm") ?_
    repeat walk_at "vw"
    rw [← List.map_reverse]
    refine RL_inv (fun done δ => ∃ (j2 j3 : Option O), δ = [some (.lst (kinds.map encT)), some (.dK (szOf kinds done)), j2, j3, none, none]) ⟨none, none, rfl⟩ ?_ ?_
    · rintro done x rest δ hl ⟨j2, j3, rfl⟩
      have hx : x ∈ kinds := by
        have : x ∈ kinds.reverse := by rw [hl]; simp
        simpa using this
      have hdl : done.length < 40 := by
        have a1 := congrArg List.length hl
        have a2 := h.l2
        simp at a1
        omega
      refine ⟨_, by rw [show encT x = .tup [.str x.1, .lst (x.2.map encE)] from rfl]; walk_at "gt", ?_⟩
      have hks : kinds = rest.reverse ++ x :: done.reverse := by
        have := congrArg List.reverse hl
        simpa using this
      have hxi : kinds[rest.length]? = some x := by
        rw [hks, List.getElem?_append_right (by simp)]
        simp
      have hent : ∀ e ∈ x.2, e.1 ∈ done.map (·.1) := fun e he => by
        have q := h.ent _ x hxi e he
        have e2 : kinds = (rest.reverse ++ [x]) ++ done.reverse := by rw [hks]; simp
        rw [e2, List.map_append, List.drop_left' (by simp)] at q
        simpa using q
      have hnew : (Sum.inr x.1 : Key) ∉ (szOf kinds done).map (·.1) := by
        have q := h.nd
        rw [hks, List.map_append, List.map_cons] at q
        have q2 := (List.nodup_cons.mp (List.nodup_append.mp q).2.1).1
        intro hm
        unfold szOf at hm
        simp only [List.map_map, List.mem_map, Function.comp] at hm
        obtain ⟨t, ht, e⟩ := hm
        exact q2 (by rw [← Sum.inr.inj e]; simp; exact ⟨t.2, ht⟩)
      have hto := h.tk x hx
      have hxm : x.1 ∈ kinds.map (·.1) := List.mem_map_of_mem hx
      have hse := PM.size_eq h.ok hxm
      rw [ents_mem h.nd hx] at hse
      repeat walk_at "vw"
      refine ⟨by rw [List.length_map]; exact sl_le (by have := hto.2.1; omega), ?_⟩
      refine RC_map (enc := encE) (g := fun e : En => D.int (e.2 * PM.size kinds e.1)) (fun e he => ?_) ?_
      · refine ⟨_, by walk_at "gt", ?_⟩
        repeat walk_at "vw"
        refine R1_of _ (opIx_dk (sz_get (hent e he))) ?_
        repeat walk_at "vw"
        refine R1_of _ (opMul_cnt (hto.2.2 e he).2) ?_
        repeat walk_at "vw"
        first | exact ⟨rfl, by walk_at "nrm"⟩ | walk_at "nrm" | trace_state
      repeat walk_at "vw"
      refine R1_of _ (mSum_E (PM.size kinds) x.2) ?_
      repeat walk_at "vw"
      rw [← hse]
      have hz : (szOf kinds done).length < sizeLine := by
        unfold szOf
        rw [List.length_map]
        exact Nat.lt_of_lt_of_le (show done.length < 41 by omega) (sl_le (by decide))
      have hput : putD (.dK (szOf kinds done)) (.str x.1) (.int (PM.size kinds x.1)) = some (.dK (szOf kinds (done ++ [x]))) := by
        simp only [putD, keyOf, hz, if_true, Option.map_some]
        rw [dput_new hnew]
        unfold szOf
        rw [List.map_append]
        rfl
      first | refine R1_of _ hput ?_ | refine ⟨_, hput, ?_⟩
      repeat walk_at "vw"
      first | exact ⟨_, _, rfl⟩ | trace_state
    · rintro δ ⟨j2, j3, rfl⟩
      repeat walk_at "vw"
      first | rfl | exact ⟨rfl, rfl⟩ | trace_state
  · refine RF_def rfl (by walk_at "nrm") ?_
    repeat walk_at "vw"
    rw [← List.map_reverse]
    refine RL_inv (fun done δ => ∃ (j2 j3 : Option O), δ = [some (.sh (.lst (kinds.map encT))), some (.dK (szOf kinds done)), j2, j3, none, none]) ⟨none, none, rfl⟩ ?_ ?_
    · rintro done x rest δ hl ⟨j2, j3, rfl⟩
      have hx : x ∈ kinds := by
        have : x ∈ kinds.reverse := by rw [hl]; simp
        simpa using this
      have hdl : done.length < 40 := by
        have a1 := congrArg List.length hl
        have a2 := h.l2
        simp at a1
        omega
      refine ⟨_, by rw [show encT x = .tup [.str x.1, .lst (x.2.map encE)] from rfl]; walk_at "gt", ?_⟩
      have hks : kinds = rest.reverse ++ x :: done.reverse := by
        have := congrArg List.reverse hl
        simpa using this
      have hxi : kinds[rest.length]? = some x := by
        rw [hks, List.getElem?_append_right (by simp)]
        simp
      have hent : ∀ e ∈ x.2, e.1 ∈ done.map (·.1) := fun e he => by
        have q := h.ent _ x hxi e he
        have e2 : kinds = (rest.reverse ++ [x]) ++ done.reverse := by rw [hks]; simp
        rw [e2, List.map_append, List.drop_left' (by simp)] at q
        simpa using q
      have hnew : (Sum.inr x.1 : Key) ∉ (szOf kinds done).map (·.1) := by
        have q := h.nd
        rw [hks, List.map_append, List.map_cons] at q
        have q2 := (List.nodup_cons.mp (List.nodup_append.mp q).2.1).1
        intro hm
        unfold szOf at hm
        simp only [List.map_map, List.mem_map, Function.comp] at hm
        obtain ⟨t, ht, e⟩ := hm
        exact q2 (by rw [← Sum.inr.inj e]; simp; exact ⟨t.2, ht⟩)
      have hto := h.tk x hx
      have hxm : x.1 ∈ kinds.map (·.1) := List.mem_map_of_mem hx
      have hse := PM.size_eq h.ok hxm
      rw [ents_mem h.nd hx] at hse
      repeat walk_at "vw"
      refine ⟨by rw [List.length_map]; exact sl_le (by have := hto.2.1; omega), ?_⟩
      refine RC_map (enc := encE) (g := fun e : En => D.int (e.2 * PM.size kinds e.1)) (fun e he => ?_) ?_
      · refine ⟨_, by walk_at "gt", ?_⟩
        repeat walk_at "vw"
        refine R1_of _ (opIx_dk (sz_get (hent e he))) ?_
        repeat walk_at "vw"
        refine R1_of _ (opMul_cnt (hto.2.2 e he).2) ?_
        repeat walk_at "vw"
        first | exact ⟨rfl, by walk_at "nrm"⟩ | walk_at "nrm" | trace_state
      repeat walk_at "vw"
      refine R1_of _ (mSum_E (PM.size kinds) x.2) ?_
      repeat walk_at "vw"
      rw [← hse]
      have hz : (szOf kinds done).length < sizeLine := by
        unfold szOf
        rw [List.length_map]
        exact Nat.lt_of_lt_of_le (show done.length < 41 by omega) (sl_le (by decide))
      have hput : putD (.dK (szOf kinds done)) (.str x.1) (.int (PM.size kinds x.1)) = some (.dK (szOf kinds (done ++ [x]))) := by
        simp only [putD, keyOf, hz, if_true, Option.map_some]
        rw [dput_new hnew]
        unfold szOf
        rw [List.map_append]
        rfl
      first | refine R1_of _ hput ?_ | refine ⟨_, hput, ?_⟩
      repeat walk_at "vw"
      first | exact ⟨_, _, rfl⟩ | trace_state
    · rintro δ ⟨j2, j3, rfl⟩
      repeat walk_at "vw"
      first | rfl | exact ⟨rfl, rfl⟩ | trace_state
theorem total_ok {kinds : List Ty} {tops : List En} (h : PP kinds tops) : ∀ o2 o3 : O, (o2 = .lst (kinds.map encT) ∨ o2 = .sh (.lst (kinds.map encT))) → (o3 = .lst (tops.map encE) ∨ o3 = .sh (.lst (tops.map encE))) → RF m__law_total [o2, o3] fun r fin => r = .sh (.int (PM.sumE (PM.size kinds) tops)) ∧ fin = [some o2, some (.sh (.lst (tops.map encE)))] := by
  rintro o2 o3 (rfl | rfl) (rfl | rfl) <;>
  · refine RF_def rfl (by walk_at "nrm") ?_
    repeat walk_at "vw"
    refine RF.mono (sizes_ok h _ (by first | exact .inl rfl | exact .inr rfl)) ?_
    rintro r fin ⟨rfl, rfl⟩
    repeat walk_at "vw"
    refine ⟨by rw [List.length_map]; exact sl_le (by have := h.tl; omega), ?_⟩
    refine RC_map (enc := encE) (g := fun e : En => D.int (e.2 * PM.size kinds e.1)) (fun e he => ?_) ?_
    · refine ⟨_, by walk_at "gt", ?_⟩
      repeat walk_at "vw"
      refine R1_of _ (opIx_dk (sz_get (by have := (h.te e he).1; simpa using this))) ?_
      repeat walk_at "vw"
      refine R1_of _ (opMul_cnt (h.te e he).2.2) ?_
      repeat walk_at "vw"
      first | exact ⟨rfl, by walk_at "nrm"⟩ | walk_at "nrm" | trace_state
    repeat walk_at "vw"
    refine R1_of _ (mSum_E (PM.size kinds) tops) ?_
    repeat walk_at "vw"
    first | rfl | exact ⟨rfl, rfl⟩ | trace_state
end Lk17
namespace Lk17
open PySem PySem.Spec L2 VS Pg
local macro_rules | `(tactic| walk_at "gt") => `(tactic| (simp only [gT, gsCons, gN, gsNil, Option.bind_some, List.length_cons, List.length_nil, List.set_cons_zero, List.set_cons_succ, Nat.reduceAdd, if_true] <;> exact rfl))
local macro_rules | `(tactic| walk_at "nrm") => `(tactic| (simp only [List.set_cons_zero, List.set_cons_succ, List.map_cons, List.map_nil, List.length_cons, List.length_nil, List.replicate, List.cons_append, List.nil_append, Nat.reduceSub, selM, ins, O.fz, wipeD, savD, unwD, List.getElem?_cons_zero, List.getElem?_cons_succ, Option.join_some, Option.join_none] <;> exact rfl))
local macro_rules | `(tactic| walk_at "vw") => `(tactic| first
  | with_reducible refine RX_x2 ?_ | with_reducible refine RX_C ?_ | with_reducible refine RX_Vs rfl ?_ | with_reducible refine RX_Va rfl rfl ?_
  | with_reducible refine RV_sh _ ?_ | with_reducible refine RV_val _ ?_ | with_reducible refine RV_at _ rfl ?_
  | with_reducible refine RK_val _ ?_ | with_reducible refine RK_at _ rfl (by walk_at "nrm") ?_
  | with_reducible refine RS_seq ?_ | with_reducible refine thenS_nx ?_ | with_reducible refine thenS_rt ?_ | with_reducible refine loopS_nx ?_ | with_reducible refine loopS_rt ?_ | with_reducible refine loopS_ct ?_ | with_reducible refine loopS_bk ?_ | with_reducible refine thenS_bk ?_ | with_reducible refine thenS_ct ?_ | with_reducible refine endF_rt (by walk_at "nrm") ?_ | with_reducible refine endF_nx (by walk_at "nrm") ?_
  | with_reducible refine RS_set ?_ | with_reducible refine RS_ret ?_ | with_reducible refine RS_if ?_ | with_reducible refine RS_expr ?_ | with_reducible refine RS_sub ?_ | with_reducible refine RS_attr ?_ | with_reducible refine RS_nil ?_ | with_reducible refine RS_par ?_ | with_reducible refine RS_asg ?_
  | with_reducible refine RX_call ?_ | with_reducible refine RX_bi ?_ | with_reducible refine RX_x1 ?_ | with_reducible refine RX_tup ?_ | with_reducible refine RX_lst ?_
  | with_reducible refine RA_f ?_ | with_reducible refine RA_t ?_ | with_reducible refine RA_nil ?_ | with_reducible refine RB_cons ?_ | with_reducible refine RB_nil ?_
  | with_reducible refine RT_Y ?_ | with_reducible refine RT_tB ?_ | with_reducible refine RT_not ?_ | with_reducible refine RT_and ?_ | with_reducible refine RT_or ?_ | with_reducible refine RX_and ?_ | with_reducible refine RX_or ?_ | with_reducible refine RX_not ?_ | with_reducible refine RX_if ?_ | with_reducible refine RX_ch ?_
  | with_reducible refine CB_t ?_ | with_reducible refine CB_f ?_ | with_reducible refine CB_n ?_
  | with_reducible refine RX_mut rfl rfl ?_ | with_reducible refine RS_for ?_ | with_reducible refine RI_enmU ?_ | with_reducible refine RI_seq ?_ | with_reducible refine RI_rg1 ?_ | with_reducible refine RI_rg3 ?_ | with_reducible refine RX_lc ?_ | with_reducible refine RX_dc ?_ | with_reducible refine RX_dK ?_ | with_reducible refine RX_sl ?_ | with_reducible refine RO_N ?_ | with_reducible refine RO_E ?_ | with_reducible refine RX_fld ?_ | with_reducible refine RX_meth ?_ | with_reducible refine RX_make ?_ | with_reducible refine RX_o2 ?_
  | with_reducible refine RX_q ?_ | with_reducible refine RLk_q ?_ | with_reducible refine RLk_at (by with_unfolding_all rfl) ?_ | with_reducible refine RLk_c ?_ | with_reducible refine RLs_nil ?_ | with_reducible refine RLs_cons ?_ | with_reducible refine RQ_2 ?_ | with_reducible refine RQ_bi ?_ | with_reducible refine RQ_tup ?_ | with_reducible refine RQ_lst ?_ | with_reducible refine RQ_get2 ?_ | with_reducible refine RQ_sl ?_ | with_reducible refine RLo_N ?_ | with_reducible refine RLo_E ?_ | with_reducible refine RQ_f ?_ | with_reducible refine RQ_1 ?_ | with_reducible refine RQ_at (by with_unfolding_all rfl) ?_
  | with_reducible refine RS_subP ?_ | with_reducible refine RS_par3 ?_ | with_reducible refine RX_callK ?_ | with_reducible refine RX_methP ?_ | with_reducible refine RX_mutP ?_ | with_reducible refine RQ_methR ?_
  | with_reducible refine R1_of _ (opMod_int (by decide)) ?_ | with_reducible refine R1_of _ (opDiv_int (by decide)) ?_ | with_reducible refine R1_of _ (opMul_l (by first | decide | omega)) ?_ | with_reducible refine R1_of _ (opMul_r (by first | decide | omega)) ?_ | with_reducible refine R1_of _ (opPow_ok (by first | decide | omega)) ?_
  | refine R1_of _ rfl ?_
  | (fail_if_success (with_reducible refine RF_id ?_)); (fail_if_success (with_reducible refine RL_id ?_)); (fail_if_success (with_reducible refine RS_whid ?_)); (fail_if_success (with_reducible refine inR_id ?_)); first | refine ⟨_, by walk_at "nrm", ?_⟩ | refine ⟨_, _, rfl, ?_⟩ | refine ⟨_, rfl, ?_⟩ | refine ⟨rfl, ?_⟩ | refine ⟨Nat.le_of_ble_eq_true rfl, ?_⟩ | refine ⟨_, _, rfl, rfl, ?_⟩)
def phiN (kinds : List Ty) (tops : List En) : Nat := (kinds.map fun t => t.2.length).sum + tops.length
def ahead (kinds : List Ty) (tops : List En) (at_ : Nat) : Bool := (kinds.drop at_).any (fun t => !t.2.isEmpty) || decide (2 ≤ tops.length)
def msN (kinds : List Ty) (tops : List En) (at_ : Nat) : Nat := phiN kinds tops * (2 * kinds.length + 1) + (if ahead kinds tops at_ = true then kinds.length - at_ else 2 * kinds.length - at_)
/-- one entry fewer -/
def cutK (kinds : List Ty) (at_ : Nat) (t : Ty) : List Ty := kinds.set at_ (t.1, t.2.dropLast)
def cutT (tops : List En) (c : Bool) : List En := if c then tops.take 1 ++ tops.drop 2 else tops
theorem cutT_len (tops : List En) : (tops.take 1 ++ tops.drop 2).length = if 2 ≤ tops.length then tops.length - 1 else tops.length := by
  rw [List.length_append, List.length_take, List.length_drop]
  split <;> omega
theorem cutT_same {tops : List En} (h : tops.length < 2) : tops.take 1 ++ tops.drop 2 = tops := by
  match tops, h with
  | [], _ => rfl
  | [e], _ => rfl
theorem sum_set : ∀ {l : List Ty} {i : Nat} {t u : Ty}, l[i]? = some t → ((l.set i u).map fun t => t.2.length).sum + t.2.length = (l.map fun t => t.2.length).sum + u.2.length
  | [], i, t, u, h => by simp at h
  | a :: l, 0, t, u, h => by
    have : a = t := by simpa using h
    subst this
    simp only [List.set_cons_zero, List.map_cons, List.sum_cons]
    omega
  | a :: l, i + 1, t, u, h => by
    have := sum_set (u := u) (show l[i]? = some t by simpa using h)
    simp only [List.set_cons_succ, List.map_cons, List.sum_cons]
    omega
theorem set_same : ∀ {l : List Ty} {i : Nat} {t : Ty}, l[i]? = some t → l.set i t = l
  | [], i, t, h => by simp at h
  | a :: l, 0, t, h => by
    have : a = t := by simpa using h
    subst this
    rfl
  | a :: l, i + 1, t, h => by rw [List.set_cons_succ, set_same (show l[i]? = some t by simpa using h)]
theorem any_drop {l : List Ty} {i : Nat} {t : Ty} (f : Ty → Bool) (h : l[i]? = some t) : (l.drop i).any f = (f t || (l.drop (i + 1)).any f) := by
  obtain ⟨hi, e⟩ := List.getElem?_eq_some_iff.mp h
  rw [List.drop_eq_getElem_cons hi, List.any_cons, e]
theorem small_total {kinds : List Ty} {tops : List En} (h : DPn kinds tops) (hA : ahead kinds tops 0 = false) : PM.sumE (PM.size kinds) tops ≤ 3 := by
  have hp := h.dp.pp
  unfold ahead at hA
  rw [Bool.or_eq_false_iff, List.drop_zero] at hA
  obtain ⟨h1, h2⟩ := hA
  have h2 : tops.length < 2 := by have := of_decide_eq_false h2; omega
  match tops, h2 with
  | [], _ => simp [PM.sumE]
  | [e], _ =>
    have he := h.te e (by simp)
    obtain ⟨t, ht, hte⟩ := List.mem_map.mp he.1
    have hz : t.2 = [] := by
      have := List.any_eq_false.mp h1 t ht
      simpa using this
    have hse := PM.size_eq hp.ok he.1
    have hen := ents_mem hp.nd ht
    rw [hte, hz] at hen
    rw [hen] at hse
    simp only [PM.sumE] at hse ⊢
    rw [hse]
    have := he.2.2
    omega
theorem cutN {kinds : List Ty} {tops : List En} (h : DPn kinds tops) {i : Nat} {t : Ty} (ht : kinds[i]? = some t) (c : Bool) : DPn (cutK kinds i t) (cutT tops c) := by
  have hi := (List.getElem?_eq_some_iff.mp ht).1
  have hnm : (cutK kinds i t).map (·.1) = kinds.map (·.1) := by
    unfold cutK
    rw [List.map_set]
    refine List.ext_getElem? fun j => ?_
    by_cases hij : i = j
    · subst hij
      rw [List.getElem?_set_self (by rw [List.length_map]; exact hi), List.getElem?_map, ht]
      rfl
    · rw [List.getElem?_set_ne hij]
  have hget : ∀ (j : Nat) (u : Ty), (cutK kinds i t)[j]? = some u → ∃ v : Ty, kinds[j]? = some v ∧ u.1 = v.1 ∧ u.2.length ≤ v.2.length ∧ ∀ e ∈ u.2, e ∈ v.2 := fun j u hu => by
    unfold cutK at hu
    by_cases hij : i = j
    · subst hij
      rw [List.getElem?_set_self hi] at hu
      cases hu
      exact ⟨t, ht, rfl, by simp, fun e he => (List.dropLast_sublist _).subset he⟩
    · rw [List.getElem?_set_ne hij] at hu
      exact ⟨u, hu, rfl, Nat.le_refl _, fun e he => he⟩
  have hmem : ∀ u ∈ cutK kinds i t, ∃ v ∈ kinds, u.1 = v.1 ∧ u.2.length ≤ v.2.length := fun u hu => by
    obtain ⟨j, hj⟩ := List.getElem?_of_mem hu
    obtain ⟨v, a, b, c, _⟩ := hget j u hj
    exact ⟨v, List.mem_of_getElem? a, b, c⟩
  have hl : (cutK kinds i t).length = kinds.length := by unfold cutK; rw [List.length_set]
  have htl : (cutT tops c).length ≤ tops.length := by
    unfold cutT
    split
    · rw [cutT_len]; split <;> omega
    · exact Nat.le_refl _
  have htm : ∀ e ∈ cutT tops c, e ∈ tops := fun e he => by
    unfold cutT at he
    split at he
    · rcases List.mem_append.mp he with z | z
      · exact List.mem_of_mem_take z
      · exact List.mem_of_mem_drop z
    · exact he
  exact ⟨by rw [hl]; exact h.l1, by rw [hl]; exact h.l2, fun u hu => by
    obtain ⟨v, a, b, _⟩ := hmem u hu
    rw [b]
    exact h.nm v a, by rw [hnm]; exact h.nd, fun u hu => by
    obtain ⟨v, a, _, c⟩ := hmem u hu
    have := h.rw_ v a
    omega, fun j u hu e he => by
    obtain ⟨v, a, b, _, c⟩ := hget j u hu
    rw [hnm]
    exact h.ent j v a e (c e he), by have := h.tl; omega, fun e he => by
    rw [hnm]
    exact h.te e (htm e he)⟩
theorem msN_lt {M : Int} (hM : 3 ≤ M) {kinds : List Ty} {tops : List En} (h : DPn kinds tops) {i : Nat} {t : Ty} (ht : kinds[i]? = some t) (hbig : M < PM.sumE (PM.size kinds) tops) :
    msN (cutK kinds i t) (cutT tops (decide ((i + 1) % kinds.length = 0))) ((i + 1) % kinds.length) < msN kinds tops i := by
  have hi := (List.getElem?_eq_some_iff.mp ht).1
  have hl : (cutK kinds i t).length = kinds.length := by unfold cutK; rw [List.length_set]
  have hs := sum_set (u := (t.1, t.2.dropLast)) ht
  have hd : (t.1, t.2.dropLast).2.length = t.2.length - 1 := by simp
  rw [hd] at hs
  have hA0 : ahead kinds tops 0 = true := by
    cases hc : ahead kinds tops 0 with
    | true => rfl
    | false => have := small_total h hc; omega
  have hmod : (i + 1) % kinds.length = if i + 1 = kinds.length then 0 else i + 1 := by
    split
    · rename_i e
      rw [e, Nat.mod_self]
    · exact Nat.mod_eq_of_lt (by omega)
  have bound : ∀ (k : List Ty) (o : List En) (j : Nat), k.length = kinds.length → msN k o j ≤ phiN k o * (2 * kinds.length + 1) + 2 * kinds.length := fun k o j e => by
    unfold msN
    rw [e]
    split <;> omega
  have low : phiN kinds tops * (2 * kinds.length + 1) ≤ msN kinds tops i := by unfold msN; omega
  have dec : ∀ (k : List Ty) (o : List En) (j : Nat), k.length = kinds.length → phiN k o < phiN kinds tops → msN k o j < msN kinds tops i := fun k o j e hp => by
    have a := bound k o j e
    have b : (phiN k o + 1) * (2 * kinds.length + 1) ≤ phiN kinds tops * (2 * kinds.length + 1) := Nat.mul_le_mul_right _ hp
    rw [Nat.add_mul, Nat.one_mul] at b
    omega
  by_cases hte : t.2 = []
  · have hck : cutK kinds i t = kinds := by
      unfold cutK
      rw [hte]
      have : (t.1, ([] : List En).dropLast) = t := by
        rw [show ([] : List En).dropLast = [] from rfl, ← hte]
      rw [this]
      exact set_same ht
    rw [hck, hmod]
    have han := any_drop (fun t : Ty => !t.2.isEmpty) ht
    rw [hte] at han
    by_cases hw : i + 1 = kinds.length
    · rw [if_pos hw]
      by_cases h2 : 2 ≤ tops.length
      · refine dec _ _ _ rfl ?_
        unfold phiN cutT
        rw [if_pos (by simp), cutT_len, if_pos h2]
        omega
      · have hct : cutT tops (decide ((0 : Nat) = 0)) = tops := by
          unfold cutT
          rw [if_pos (by simp), cutT_same (by omega)]
        rw [hct]
        have hai : ahead kinds tops i = false := by
          unfold ahead
          rw [han, List.drop_of_length_le (by omega)]
          simp [h2]
        unfold msN
        rw [hA0, hai, if_pos rfl, if_neg (by decide)]
        omega
    · rw [if_neg hw]
      have hct : cutT tops (decide (i + 1 = 0)) = tops := by
        unfold cutT
        rw [if_neg (by simp)]
      rw [hct]
      have hai : ahead kinds tops (i + 1) = ahead kinds tops i := by
        unfold ahead
        rw [han]
        simp
      unfold msN
      rw [hai]
      split <;> omega
  · have hp := List.length_pos_iff.mpr hte
    refine dec _ _ _ hl ?_
    have : (cutT tops (decide ((i + 1) % kinds.length = 0))).length ≤ tops.length := by
      unfold cutT
      split
      · rw [cutT_len]; split <;> omega
      · exact Nat.le_refl _
    unfold phiN
    unfold cutK
    omega
end Lk17
namespace Lk17
open PySem PySem.Spec L2 VS Pg
local macro_rules | `(tactic| walk_at "gt") => `(tactic| (simp only [gT, gsCons, gN, gsNil, Option.bind_some, List.length_cons, List.length_nil, List.set_cons_zero, List.set_cons_succ, Nat.reduceAdd, if_true] <;> exact rfl))
local macro_rules | `(tactic| walk_at "nrm") => `(tactic| (simp only [List.set_cons_zero, List.set_cons_succ, List.map_cons, List.map_nil, List.length_cons, List.length_nil, List.replicate, List.cons_append, List.nil_append, Nat.reduceSub, selM, ins, O.fz, wipeD, savD, unwD, List.getElem?_cons_zero, List.getElem?_cons_succ, Option.join_some, Option.join_none] <;> exact rfl))
local macro_rules | `(tactic| walk_at "vw") => `(tactic| first
  | with_reducible refine RX_x2 ?_ | with_reducible refine RX_C ?_ | with_reducible refine RX_Vs rfl ?_ | with_reducible refine RX_Va rfl rfl ?_
  | with_reducible refine RV_sh _ ?_ | with_reducible refine RV_val _ ?_ | with_reducible refine RV_at _ rfl ?_
  | with_reducible refine RK_val _ ?_ | with_reducible refine RK_at _ rfl (by walk_at "nrm") ?_
  | with_reducible refine RS_seq ?_ | with_reducible refine thenS_nx ?_ | with_reducible refine thenS_rt ?_ | with_reducible refine loopS_nx ?_ | with_reducible refine loopS_rt ?_ | with_reducible refine loopS_ct ?_ | with_reducible refine loopS_bk ?_ | with_reducible refine thenS_bk ?_ | with_reducible refine thenS_ct ?_ | with_reducible refine endF_rt (by walk_at "nrm") ?_ | with_reducible refine endF_nx (by walk_at "nrm") ?_
  | with_reducible refine RS_set ?_ | with_reducible refine RS_ret ?_ | with_reducible refine RS_if ?_ | with_reducible refine RS_expr ?_ | with_reducible refine RS_sub ?_ | with_reducible refine RS_attr ?_ | with_reducible refine RS_nil ?_ | with_reducible refine RS_par ?_ | with_reducible refine RS_asg ?_
  | with_reducible refine RX_call ?_ | with_reducible refine RX_bi ?_ | with_reducible refine RX_x1 ?_ | with_reducible refine RX_tup ?_ | with_reducible refine RX_lst ?_
  | with_reducible refine RA_f ?_ | with_reducible refine RA_t ?_ | with_reducible refine RA_nil ?_ | with_reducible refine RB_cons ?_ | with_reducible refine RB_nil ?_
  | with_reducible refine RT_Y ?_ | with_reducible refine RT_tB ?_ | with_reducible refine RT_not ?_ | with_reducible refine RT_and ?_ | with_reducible refine RT_or ?_ | with_reducible refine RX_and ?_ | with_reducible refine RX_or ?_ | with_reducible refine RX_not ?_ | with_reducible refine RX_if ?_ | with_reducible refine RX_ch ?_
  | with_reducible refine CB_t ?_ | with_reducible refine CB_f ?_ | with_reducible refine CB_n ?_
  | with_reducible refine RX_mut rfl rfl ?_ | with_reducible refine RS_for ?_ | with_reducible refine RI_enmU ?_ | with_reducible refine RI_seq ?_ | with_reducible refine RI_rg1 ?_ | with_reducible refine RI_rg3 ?_ | with_reducible refine RX_lc ?_ | with_reducible refine RX_dc ?_ | with_reducible refine RX_dK ?_ | with_reducible refine RX_sl ?_ | with_reducible refine RO_N ?_ | with_reducible refine RO_E ?_ | with_reducible refine RX_fld ?_ | with_reducible refine RX_meth ?_ | with_reducible refine RX_make ?_ | with_reducible refine RX_o2 ?_
  | with_reducible refine RX_q ?_ | with_reducible refine RLk_q ?_ | with_reducible refine RLk_at (by with_unfolding_all rfl) ?_ | with_reducible refine RLk_c ?_ | with_reducible refine RLs_nil ?_ | with_reducible refine RLs_cons ?_ | with_reducible refine RQ_2 ?_ | with_reducible refine RQ_bi ?_ | with_reducible refine RQ_tup ?_ | with_reducible refine RQ_lst ?_ | with_reducible refine RQ_get2 ?_ | with_reducible refine RQ_sl ?_ | with_reducible refine RLo_N ?_ | with_reducible refine RLo_E ?_ | with_reducible refine RQ_f ?_ | with_reducible refine RQ_1 ?_ | with_reducible refine RQ_at (by with_unfolding_all rfl) ?_
  | with_reducible refine RS_subP ?_ | with_reducible refine RS_par3 ?_ | with_reducible refine RX_callK ?_ | with_reducible refine RX_methP ?_ | with_reducible refine RX_mutP ?_ | with_reducible refine RQ_methR ?_
  | with_reducible refine R1_of _ (opMod_int (by decide)) ?_ | with_reducible refine R1_of _ (opDiv_int (by decide)) ?_ | with_reducible refine R1_of _ (opMul_l (by first | decide | omega)) ?_ | with_reducible refine R1_of _ (opMul_r (by first | decide | omega)) ?_ | with_reducible refine R1_of _ (opPow_ok (by first | decide | omega)) ?_
  | refine R1_of _ rfl ?_
  | (fail_if_success (with_reducible refine RF_id ?_)); (fail_if_success (with_reducible refine RL_id ?_)); (fail_if_success (with_reducible refine RS_whid ?_)); (fail_if_success (with_reducible refine inR_id ?_)); first | refine ⟨_, by walk_at "nrm", ?_⟩ | refine ⟨_, _, rfl, ?_⟩ | refine ⟨_, rfl, ?_⟩ | refine ⟨rfl, ?_⟩ | refine ⟨Nat.le_of_ble_eq_true rfl, ?_⟩ | refine ⟨_, _, rfl, rfl, ?_⟩)
theorem cut_last {α : Type} (l : List α) : cutL l none (some (-1)) = l.dropLast := by
  have hz : HT.sIx l.length l.length (some (-1)) = l.length - 1 := by
    show (if (-1 : Int) < 0 then ((-1 : Int) + (l.length : Int)).toNat else min (-1 : Int).toNat l.length) = _
    rw [if_pos (by decide)]
    omega
  unfold cutL
  rw [HT.sIx_none, hz, List.drop_zero, Nat.sub_zero, List.dropLast_eq_take]
theorem near_ok {M : Int} (hM : 3 ≤ M) {n : Int} {w : O} (hw : Wl n w) (hn : n < 100000) : RF m__law_near [w, .sh (.int M)] fun r fin => ∃ kinds tops w', r = .sh (.tup [.lst (kinds.map encT), .lst (tops.map encE)]) ∧ DPn kinds tops ∧ PM.sumE (PM.size kinds) tops ≤ M ∧ Wl (n + 2000) w' ∧ fin = [some w', some (.sh (.int M))] := by
  obtain ⟨a, b, c, e, _⟩ := id hw
  unfold wl at e
  subst e
  refine RF_def rfl (by walk_at "nrm") ?_
  repeat walk_at "vw"
  refine RF.mono (drawn6_ok (cs := [1, 1, 2, 3]) hw (by omega) ?_ (by simp) (by simp)) ?_
  · intro k hk
    simp only [List.mem_cons, List.not_mem_nil, or_false] at hk
    unfold cnt3
    rcases hk with rfl | rfl | rfl | rfl <;> omega
  rintro r fin ⟨kinds, tops, w1, rfl, vp, hw1, rfl⟩
  obtain ⟨a1, b1, c1, e1, _⟩ := id hw1
  unfold wl at e1
  subst e1
  repeat walk_at "vw"
  have h0l := vp.l1
  refine RS_wh (m := msN kinds tops 0) (fun m δ => ∃ (kinds : List Ty) (tops : List En) (i : Nat) (j5 j6 : Option O) (o2 o3 : O), δ = [some (.lst [.int a1, .int b1, .int c1]), some (.sh (.int M)), some o2, some o3, some (.sh (.int (i : Nat))), j5, j6] ∧ (o2 = .lst (kinds.map encT) ∨ o2 = .sh (.lst (kinds.map encT))) ∧ (o3 = .lst (tops.map encE) ∨ o3 = .sh (.lst (tops.map encE))) ∧ DPn kinds tops ∧ i < kinds.length ∧ m = msN kinds tops i)
    ⟨kinds, tops, 0, _, _, _, _, rfl, .inr rfl, .inr rfl, vp, by omega, rfl⟩ ?_
  rintro m δ ⟨kinds, tops, i, j5, j6, o2, o3, rfl, ho2, ho3, vp, hi, rfl⟩
  have h := vp.dp.pp
  have hl12 := vp.l2
  have htl := vp.tl
  obtain ⟨t, ht⟩ : ∃ t, kinds[i]? = some t := ⟨kinds[i], List.getElem?_eq_getElem hi⟩
  have hix : opIx (.lst (kinds.map encT)) (.int (i : Nat)) = some (.sh (encT t)) := opIx_lst (Pg.atI_nat (by rw [List.getElem?_map, ht]; rfl))
  have hrl := vp.rw_ t (List.mem_of_getElem? ht)
  have hset : (kinds.map encT).take i ++ [D.tup [.str t.1, .lst (t.2.dropLast.map encE)]] ++ (kinds.map encT).drop (i + 1) = (cutK kinds i t).map encT := by
    unfold cutK
    rw [List.set_eq_take_append_cons_drop, if_pos hi, List.map_append, List.map_cons, List.map_take, List.map_drop, List.append_assoc]
    rfl
  have hTe : (tops.map encE).take 1 ++ (tops.map encE).drop 2 = (tops.take 1 ++ tops.drop 2).map encE := by
    rw [List.map_append, List.map_take, List.map_drop]
  have htot := fun o2 o3 => total_ok h o2 o3
  rcases ho2 with rfl | rfl <;> rcases ho3 with rfl | rfl <;>
  · repeat walk_at "vw"
    refine RF.mono (htot _ _ (by first | exact .inl rfl | exact .inr rfl) (by first | exact .inl rfl | exact .inr rfl)) ?_
    rintro r fin ⟨rfl, rfl⟩
    repeat walk_at "vw"
    refine CB_d (fun hbig => ?_) (fun hsm => ?_)
    · repeat walk_at "vw"
      refine R1_of _ hix ?_
      rw [show encT t = .tup [.str t.1, .lst (t.2.map encE)] from rfl]
      repeat walk_at "vw"
      rw [cutL_takeN, cut_last, ← List.map_dropLast]
      refine R1_of _ (opAdd_lst (by simp only [List.length_take, List.length_map, List.length_cons, List.length_nil]; omega)) ?_
      repeat walk_at "vw"
      rw [cutL_dropN]
      refine R1_of (o := .lst ((cutK kinds i t).map encT)) _ (by
        rw [← hset]
        exact opAdd_lst (by simp only [List.length_append, List.length_take, List.length_drop, List.length_map, List.length_cons, List.length_nil]; omega)) ?_
      repeat walk_at "vw"
      rw [show ((cutK kinds i t).map encT).length = kinds.length by rw [List.length_map]; unfold cutK; rw [List.length_set]]
      refine R1_of _ (opMod_int (by omega)) ?_
      repeat walk_at "vw"
      rw [show ((i : Nat) : Int) + 1 = ((i + 1 : Nat) : Int) from rfl, ← Int.natCast_emod]
      have hlt := msN_lt hM vp ht hbig
      have hdp := cutN vp ht (decide ((i + 1) % kinds.length = 0))
      have hil : (i + 1) % kinds.length < (cutK kinds i t).length := by
        unfold cutK
        rw [List.length_set]
        exact Nat.mod_lt _ (by omega)
      by_cases hz : (i + 1) % kinds.length = 0
      · refine CB_yes (by rw [hz]; rfl) ?_
        repeat walk_at "vw"
        rw [cutL_take _ (by decide), cutL_drop _ (by decide)]
        have hcT : cutT tops (decide ((i + 1) % kinds.length = 0)) = tops.take 1 ++ tops.drop 2 := by
          unfold cutT
          rw [if_pos (by simpa using hz)]
        refine R1_of (o := .lst ((cutT tops (decide ((i + 1) % kinds.length = 0))).map encE)) _ (by
          rw [hcT, ← hTe]
          exact opAdd_lst (by simp only [List.length_take, List.length_drop, List.length_map]; omega)) ?_
        repeat walk_at "vw"
        exact ⟨_, hlt, _, _, _, _, _, _, _, rfl, .inl rfl, .inl rfl, hdp, hil, rfl⟩
      · refine CB_no (by
          have hz' : (((i + 1) % kinds.length : Nat) : Int) ≠ 0 := Int.ofNat_ne_zero.mpr hz
          generalize (((i + 1) % kinds.length : Nat) : Int) = z at *
          simp [D.eqD, hz']) ?_
        repeat walk_at "vw"
        have hcT : cutT tops (decide ((i + 1) % kinds.length = 0)) = tops := by
          unfold cutT
          rw [if_neg (by simpa using hz)]
        rw [hcT] at hlt hdp
        exact ⟨_, hlt, _, _, _, _, _, _, _, rfl, .inl rfl, .inr rfl, hdp, hil, rfl⟩
    · repeat walk_at "vw"
      first | exact ⟨kinds, tops, _, rfl, vp, by omega, hw1.mono (by omega), rfl⟩ | trace_state
end Lk17
namespace Lk17
open PySem PySem.Spec L2 VS Pg
local macro_rules | `(tactic| walk_at "gt") => `(tactic| (simp only [gT, gsCons, gN, gsNil, Option.bind_some, List.length_cons, List.length_nil, List.set_cons_zero, List.set_cons_succ, Nat.reduceAdd, if_true] <;> exact rfl))
local macro_rules | `(tactic| walk_at "nrm") => `(tactic| (simp only [List.set_cons_zero, List.set_cons_succ, List.map_cons, List.map_nil, List.length_cons, List.length_nil, List.replicate, List.cons_append, List.nil_append, Nat.reduceSub, selM, ins, O.fz, wipeD, savD, unwD, List.getElem?_cons_zero, List.getElem?_cons_succ, Option.join_some, Option.join_none] <;> exact rfl))
local macro_rules | `(tactic| walk_at "vw") => `(tactic| first
  | with_reducible refine RX_x2 ?_ | with_reducible refine RX_C ?_ | with_reducible refine RX_Vs rfl ?_ | with_reducible refine RX_Va rfl rfl ?_
  | with_reducible refine RV_sh _ ?_ | with_reducible refine RV_val _ ?_ | with_reducible refine RV_at _ rfl ?_
  | with_reducible refine RK_val _ ?_ | with_reducible refine RK_at _ rfl (by walk_at "nrm") ?_
  | with_reducible refine RS_seq ?_ | with_reducible refine thenS_nx ?_ | with_reducible refine thenS_rt ?_ | with_reducible refine loopS_nx ?_ | with_reducible refine loopS_rt ?_ | with_reducible refine loopS_ct ?_ | with_reducible refine loopS_bk ?_ | with_reducible refine thenS_bk ?_ | with_reducible refine thenS_ct ?_ | with_reducible refine endF_rt (by walk_at "nrm") ?_ | with_reducible refine endF_nx (by walk_at "nrm") ?_
  | with_reducible refine RS_set ?_ | with_reducible refine RS_ret ?_ | with_reducible refine RS_if ?_ | with_reducible refine RS_expr ?_ | with_reducible refine RS_sub ?_ | with_reducible refine RS_attr ?_ | with_reducible refine RS_nil ?_ | with_reducible refine RS_par ?_ | with_reducible refine RS_asg ?_
  | with_reducible refine RX_call ?_ | with_reducible refine RX_bi ?_ | with_reducible refine RX_x1 ?_ | with_reducible refine RX_tup ?_ | with_reducible refine RX_lst ?_
  | with_reducible refine RA_f ?_ | with_reducible refine RA_t ?_ | with_reducible refine RA_nil ?_ | with_reducible refine RB_cons ?_ | with_reducible refine RB_nil ?_
  | with_reducible refine RT_Y ?_ | with_reducible refine RT_tB ?_ | with_reducible refine RT_not ?_ | with_reducible refine RT_and ?_ | with_reducible refine RT_or ?_ | with_reducible refine RX_and ?_ | with_reducible refine RX_or ?_ | with_reducible refine RX_not ?_ | with_reducible refine RX_if ?_ | with_reducible refine RX_ch ?_
  | with_reducible refine CB_t ?_ | with_reducible refine CB_f ?_ | with_reducible refine CB_n ?_
  | with_reducible refine RX_mut rfl rfl ?_ | with_reducible refine RS_for ?_ | with_reducible refine RI_enmU ?_ | with_reducible refine RI_seq ?_ | with_reducible refine RI_rg1 ?_ | with_reducible refine RI_rg3 ?_ | with_reducible refine RX_lc ?_ | with_reducible refine RX_dc ?_ | with_reducible refine RX_dK ?_ | with_reducible refine RX_sl ?_ | with_reducible refine RO_N ?_ | with_reducible refine RO_E ?_ | with_reducible refine RX_fld ?_ | with_reducible refine RX_meth ?_ | with_reducible refine RX_make ?_ | with_reducible refine RX_o2 ?_
  | with_reducible refine RX_q ?_ | with_reducible refine RLk_q ?_ | with_reducible refine RLk_at (by with_unfolding_all rfl) ?_ | with_reducible refine RLk_c ?_ | with_reducible refine RLs_nil ?_ | with_reducible refine RLs_cons ?_ | with_reducible refine RQ_2 ?_ | with_reducible refine RQ_bi ?_ | with_reducible refine RQ_tup ?_ | with_reducible refine RQ_lst ?_ | with_reducible refine RQ_get2 ?_ | with_reducible refine RQ_sl ?_ | with_reducible refine RLo_N ?_ | with_reducible refine RLo_E ?_ | with_reducible refine RQ_f ?_ | with_reducible refine RQ_1 ?_ | with_reducible refine RQ_at (by with_unfolding_all rfl) ?_
  | with_reducible refine RS_subP ?_ | with_reducible refine RS_par3 ?_ | with_reducible refine RX_callK ?_ | with_reducible refine RX_methP ?_ | with_reducible refine RX_mutP ?_ | with_reducible refine RQ_methR ?_
  | with_reducible refine R1_of _ (opMod_int (by decide)) ?_ | with_reducible refine R1_of _ (opDiv_int (by decide)) ?_ | with_reducible refine R1_of _ (opMul_l (by first | decide | omega)) ?_ | with_reducible refine R1_of _ (opMul_r (by first | decide | omega)) ?_ | with_reducible refine R1_of _ (opPow_ok (by first | decide | omega)) ?_
  | refine R1_of _ rfl ?_
  | (fail_if_success (with_reducible refine RF_id ?_)); (fail_if_success (with_reducible refine RL_id ?_)); (fail_if_success (with_reducible refine RS_whid ?_)); (fail_if_success (with_reducible refine inR_id ?_)); first | refine ⟨_, by walk_at "nrm", ?_⟩ | refine ⟨_, _, rfl, ?_⟩ | refine ⟨_, rfl, ?_⟩ | refine ⟨rfl, ?_⟩ | refine ⟨Nat.le_of_ble_eq_true rfl, ?_⟩ | refine ⟨_, _, rfl, rfl, ?_⟩)
def pkN (q : PM.Pa) : NestedKey := .tup (q.map fun s => NestedKey.tup [.num (s.1 : Nat), .num s.2])
theorem nksOf_pa : ∀ q : PM.Pa, nksOf (q.map encS) = some (q.map fun s => NestedKey.tup [.num (s.1 : Nat), .num s.2])
  | [] => by simp only [List.map_nil, nksOf]
  | s :: q => by simp only [List.map_cons, nksOf, encS, nkOf, nksOf_pa q, Option.bind_some, Option.map_some]
theorem depth_pa : ∀ q : PM.Pa, NestedKey.depthAll (q.map fun s => NestedKey.tup [.num (s.1 : Nat), .num s.2]) ≤ 1
  | [] => by simp [NestedKey.depthAll]
  | s :: q => by
    have := depth_pa q
    simp only [List.map_cons, NestedKey.depthAll, NestedKey.depth]
    omega
theorem nkT_pa (q : PM.Pa) : nkT (encA q) = some (pkN q) := by
  show (nksOf (q.map encS)).bind _ = _
  rw [nksOf_pa, Option.bind_some, if_pos]
  · rfl
  · have := depth_pa q
    simp only [NestedKey.depth]
    omega
theorem pk_inj : ∀ x y : PM.Pa, (x.map fun s => NestedKey.tup [.num (s.1 : Nat), .num s.2]) = (y.map fun s => NestedKey.tup [.num (s.1 : Nat), .num s.2]) → x = y
  | [], [], _ => rfl
  | [], _ :: _, h => by simp at h
  | _ :: _, [], h => by simp at h
  | (p, i) :: x, (p', i') :: y, h => by
    simp only [List.map_cons, List.cons.injEq, NestedKey.tup.injEq, NestedKey.num.injEq, and_true] at h
    obtain ⟨⟨h1, h2⟩, h3⟩ := h
    rw [pk_inj x y h3, Int.ofNat_inj.mp h1, h2]
theorem pkN_inj {x y : PM.Pa} (h : pkN x = pkN y) : x = y := by
  unfold pkN at h
  injection h with h
  exact pk_inj x y h
theorem opIxN_pa {ks : List (NestedKey × D)} {q : PM.Pa} {d : D} (h : dget ks (pkN q) = some d) : opIxN (.dN ks) (encA q) = some (.sh d) := by
  show (nkT (encA q)).bind (fun k => (dget ks k).map O.sh) = _
  rw [nkT_pa, Option.bind_some, h, Option.map_some]
theorem putN_pa {ks : List (NestedKey × D)} {q : PM.Pa} {d : D} (h : ks.length < 16777216) : putN (.dN ks) (encA q) d = some (.dN (dput ks (pkN q) d)) := by
  show (if ks.length < sizeLine then (nkT (encA q)).map (fun k => O.dN (dput ks k d)) else none) = _
  rw [if_pos (show ks.length < sizeLine from h), nkT_pa, Option.map_some]
theorem dputN_len (ks : List (NestedKey × D)) (k : NestedKey) (d : D) : (dput ks k d).length ≤ ks.length + 1 := by
  unfold dput
  split
  · rw [List.length_map]; omega
  · rw [List.length_append, List.length_cons, List.length_nil]; omega
def LsK (f : PM.Pa → Option Nat) (ks : List (NestedKey × D)) : Prop := ∀ q : PM.Pa, q ≠ [] → dget ks (pkN q) = (f q).map fun i => D.int (i : Nat)
def stepF (done : List PM.Pa) (x : PM.Pa) (k : Nat) (q : PM.Pa) : Option Nat := if q <+: x ∧ q.length ≤ k then some done.length else lst done 0 q
theorem cutL_pre {q : PM.Pa} (k : Nat) : cutL (q.map encS) none (some ((k + 1 : Nat) : Int)) = (q.take (k + 1)).map encS := by
  rw [cutL_take _ (by omega), Int.toNat_natCast, List.map_take]
theorem encQ_eq {kinds : List Ty} {tops : List En} (q : PM.Pa) : encQ kinds tops q = .tup [encA q, .str (kn kinds tops q)] := rfl
theorem lasts_ok {kinds : List Ty} {tops : List En} (h : PP kinds tops) {m : Bool} {R : List PM.Pa} (o : Ord kinds tops m R) (hl : R.length ≤ 1000) : ∀ os : O, (os = .lst (R.map (encQ kinds tops)) ∨ os = .sh (.lst (R.map (encQ kinds tops)))) →
    RF m__law_lasts [os] fun r fin => r = .lst (R.map fun q => D.int (((lst R 0 q).getD 0 : Nat) : Int)) ∧ fin = [some (.sh (.lst (R.map (encQ kinds tops))))] := by
  intro os ho
  rcases ho with rfl | rfl <;>
  · refine RF_def rfl (by walk_at "nrm") ?_
    repeat walk_at "vw"
    refine RL_enum (enc := encQ kinds tops) (fun done δ => ∃ (ks : List (NestedKey × D)) (j2 j3 j4 j5 : Option O), δ = [some (.sh (.lst (R.map (encQ kinds tops)))), some (.dN ks), j2, j3, j4, j5] ∧ LsK (lst done 0) ks ∧ ks.length ≤ 40 * done.length)
      ⟨[], _, _, _, _, rfl, fun q _ => rfl, by simp⟩ ?_ ?_
    · rintro done x rest δ hR ⟨ks, j2, j3, j4, j5, rfl, hks, hlen⟩
      have hx : x ∈ R := by rw [hR]; simp
      have hd : done.length ≤ 1000 := by
        rw [hR, List.length_append] at hl
        omega
      obtain ⟨xa, xb⟩ := o.ok hx
      have hp := path_len h xb
      refine ⟨_, by rw [encQ_eq]; walk_at "gt", ?_⟩
      refine RS_for (RI_rg2 ?_)
      unfold encA
      repeat walk_at "vw"
      refine ⟨by decide, by simp [inR]; omega, ?_⟩
      rw [show ((((x.map encS).length : Nat) : Int) + 1 - 1).toNat = x.length by rw [List.length_map]; omega, rng_one]
      refine RL_inv (fun (ld : List Nat) δ => ∃ (ks : List (NestedKey × D)) (j5 : Option O), δ = [some (.sh (.lst (R.map (encQ kinds tops)))), some (.dN ks), some (.sh (.int done.length)), some (.sh (.tup (x.map encS))), some (.sh (.str (kn kinds tops x))), j5] ∧
        LsK (stepF done x ld.length) ks ∧ ks.length ≤ 40 * done.length + ld.length)
        ⟨ks, _, rfl, fun q hq => ?_, by simpa using hlen⟩ ?_ ?_
      · rw [hks q hq]
        unfold stepF
        rw [if_neg]
        rintro ⟨_, z⟩
        exact hq (List.eq_nil_of_length_eq_zero (by simpa using z))
      · rintro ld k rest2 δ hR2 ⟨ks, j5, rfl, hks, hlen⟩
        have hk : k = ld.length ∧ k < x.length := by
          have e : (List.range x.length)[ld.length]? = some k := by rw [hR2]; simp
          have := List.getElem?_eq_some_iff.mp e
          obtain ⟨a, b⟩ := this
          rw [List.getElem_range] at b
          rw [List.length_range] at a
          omega
        obtain ⟨rfl, hk⟩ := hk
        refine ⟨_, by walk_at "gt", ?_⟩
        refine RS_subN ?_
        repeat walk_at "vw"
        rw [cutL_pre]
        refine R1_of _ (putN_pa (q := x.take (ld.length + 1)) (by omega)) ?_
        repeat walk_at "vw"
        refine ⟨fun q hq => ?_, ?_⟩
        · rw [dget_dput]
          unfold stepF
          by_cases z : x.take (ld.length + 1) = q
          · rw [if_pos (by rw [z])]
            subst z
            rw [if_pos ⟨List.take_prefix _ _, by rw [List.length_take, List.length_append]; simp; omega⟩]
            rfl
          · rw [if_neg (fun w => z (pkN_inj w)), hks q hq]
            unfold stepF
            congr 1
            by_cases w : q <+: x
            · have hne : q.length ≠ ld.length + 1 := fun y => z (by
                rw [← y]
                exact (List.prefix_iff_eq_take.mp w).symm)
              by_cases v : q.length ≤ ld.length
              · rw [if_pos ⟨w, v⟩, if_pos ⟨w, by rw [List.length_append]; omega⟩]
              · rw [if_neg (fun y => v y.2), if_neg (fun y => by have := y.2; rw [List.length_append, List.length_singleton] at this; omega)]
            · rw [if_neg (fun y => w y.1), if_neg (fun y => w y.1)]
        · have := dputN_len ks (pkN (x.take (ld.length + 1))) (.int done.length)
          rw [List.length_append, List.length_singleton]
          omega
      · rintro δ ⟨ks, j5, rfl, hks, hlen⟩
        repeat walk_at "vw"
        refine ⟨ks, _, _, _, _, rfl, fun q hq => ?_, ?_⟩
        · rw [hks q hq, lst_snoc, List.length_range]
          unfold stepF
          congr 1
          by_cases w : q <+: x
          · rw [if_pos ⟨w, w.length_le⟩, if_pos w, Nat.zero_add]
          · rw [if_neg (fun y => w y.1), if_neg w]
        · rw [List.length_range] at hlen
          rw [List.length_append, List.length_singleton]
          omega
    · rintro δ ⟨ks, j2, j3, j4, j5, rfl, hks, hlen⟩
      repeat walk_at "vw"
      refine ⟨by rw [List.length_map]; exact sl_le (by omega), ?_⟩
      refine RC_map (enc := encQ kinds tops) (g := fun q => D.int (((lst R 0 q).getD 0 : Nat) : Int)) (fun q hq => ?_) ?_
      · obtain ⟨qa, qb⟩ := o.ok hq
        obtain ⟨L, l⟩ := last_ex h m qa qb
        have e := (lst_last h o qa qb l).1
        refine ⟨_, by rw [encQ_eq]; walk_at "gt", ?_⟩
        repeat walk_at "vw"
        refine R1_of _ (opIxN_pa (q := q) (d := .int (((lst R 0 q).getD 0 : Nat) : Int)) (by rw [hks q qa, e]; rfl)) ?_
        repeat walk_at "vw"
        first | exact ⟨rfl, by walk_at "nrm"⟩ | walk_at "nrm"
      repeat walk_at "vw"
      first | exact ⟨rfl, rfl⟩ | rfl
end Lk17
namespace Lk17
open PySem PySem.Spec L2 VS Pg
local macro_rules | `(tactic| walk_at "gt") => `(tactic| (simp only [gT, gsCons, gN, gsNil, Option.bind_some, List.length_cons, List.length_nil, List.set_cons_zero, List.set_cons_succ, Nat.reduceAdd, if_true] <;> exact rfl))
local macro_rules | `(tactic| walk_at "nrm") => `(tactic| (simp only [List.set_cons_zero, List.set_cons_succ, List.map_cons, List.map_nil, List.length_cons, List.length_nil, List.replicate, List.cons_append, List.nil_append, Nat.reduceSub, selM, ins, O.fz, wipeD, savD, unwD, List.getElem?_cons_zero, List.getElem?_cons_succ, Option.join_some, Option.join_none] <;> exact rfl))
local macro_rules | `(tactic| walk_at "vw") => `(tactic| first
  | with_reducible refine RX_x2 ?_ | with_reducible refine RX_C ?_ | with_reducible refine RX_Vs rfl ?_ | with_reducible refine RX_Va rfl rfl ?_
  | with_reducible refine RV_sh _ ?_ | with_reducible refine RV_val _ ?_ | with_reducible refine RV_at _ rfl ?_
  | with_reducible refine RK_val _ ?_ | with_reducible refine RK_at _ rfl (by walk_at "nrm") ?_
  | with_reducible refine RS_seq ?_ | with_reducible refine thenS_nx ?_ | with_reducible refine thenS_rt ?_ | with_reducible refine loopS_nx ?_ | with_reducible refine loopS_rt ?_ | with_reducible refine loopS_ct ?_ | with_reducible refine loopS_bk ?_ | with_reducible refine thenS_bk ?_ | with_reducible refine thenS_ct ?_ | with_reducible refine endF_rt (by walk_at "nrm") ?_ | with_reducible refine endF_nx (by walk_at "nrm") ?_
  | with_reducible refine RS_set ?_ | with_reducible refine RS_ret ?_ | with_reducible refine RS_if ?_ | with_reducible refine RS_expr ?_ | with_reducible refine RS_sub ?_ | with_reducible refine RS_attr ?_ | with_reducible refine RS_nil ?_ | with_reducible refine RS_par ?_ | with_reducible refine RS_asg ?_
  | with_reducible refine RX_call ?_ | with_reducible refine RX_bi ?_ | with_reducible refine RX_x1 ?_ | with_reducible refine RX_tup ?_ | with_reducible refine RX_lst ?_
  | with_reducible refine RA_f ?_ | with_reducible refine RA_t ?_ | with_reducible refine RA_nil ?_ | with_reducible refine RB_cons ?_ | with_reducible refine RB_nil ?_
  | with_reducible refine RT_Y ?_ | with_reducible refine RT_tB ?_ | with_reducible refine RT_not ?_ | with_reducible refine RT_and ?_ | with_reducible refine RT_or ?_ | with_reducible refine RX_and ?_ | with_reducible refine RX_or ?_ | with_reducible refine RX_not ?_ | with_reducible refine RX_if ?_ | with_reducible refine RX_ch ?_
  | with_reducible refine CB_t ?_ | with_reducible refine CB_f ?_ | with_reducible refine CB_n ?_
  | with_reducible refine RX_mut rfl rfl ?_ | with_reducible refine RS_for ?_ | with_reducible refine RI_enmU ?_ | with_reducible refine RI_seq ?_ | with_reducible refine RI_rg1 ?_ | with_reducible refine RI_rg3 ?_ | with_reducible refine RX_lc ?_ | with_reducible refine RX_dc ?_ | with_reducible refine RX_dK ?_ | with_reducible refine RX_sl ?_ | with_reducible refine RO_N ?_ | with_reducible refine RO_E ?_ | with_reducible refine RX_fld ?_ | with_reducible refine RX_meth ?_ | with_reducible refine RX_make ?_ | with_reducible refine RX_o2 ?_
  | with_reducible refine RX_q ?_ | with_reducible refine RLk_q ?_ | with_reducible refine RLk_at (by with_unfolding_all rfl) ?_ | with_reducible refine RLk_c ?_ | with_reducible refine RLs_nil ?_ | with_reducible refine RLs_cons ?_ | with_reducible refine RQ_2 ?_ | with_reducible refine RQ_bi ?_ | with_reducible refine RQ_tup ?_ | with_reducible refine RQ_lst ?_ | with_reducible refine RQ_get2 ?_ | with_reducible refine RQ_sl ?_ | with_reducible refine RLo_N ?_ | with_reducible refine RLo_E ?_ | with_reducible refine RQ_f ?_ | with_reducible refine RQ_1 ?_ | with_reducible refine RQ_at (by with_unfolding_all rfl) ?_
  | with_reducible refine RS_subP ?_ | with_reducible refine RS_par3 ?_ | with_reducible refine RX_callK ?_ | with_reducible refine RX_methP ?_ | with_reducible refine RX_mutP ?_ | with_reducible refine RQ_methR ?_
  | with_reducible refine R1_of _ (opMod_int (by decide)) ?_ | with_reducible refine R1_of _ (opDiv_int (by decide)) ?_ | with_reducible refine R1_of _ (opMul_l (by first | decide | omega)) ?_ | with_reducible refine R1_of _ (opMul_r (by first | decide | omega)) ?_ | with_reducible refine R1_of _ (opPow_ok (by first | decide | omega)) ?_
  | refine R1_of _ rfl ?_
  | (fail_if_success (with_reducible refine RF_id ?_)); (fail_if_success (with_reducible refine RL_id ?_)); (fail_if_success (with_reducible refine RS_whid ?_)); (fail_if_success (with_reducible refine inR_id ?_)); first | refine ⟨_, by walk_at "nrm", ?_⟩ | refine ⟨_, _, rfl, ?_⟩ | refine ⟨_, rfl, ?_⟩ | refine ⟨rfl, ?_⟩ | refine ⟨Nat.le_of_ble_eq_true rfl, ?_⟩ | refine ⟨_, _, rfl, rfl, ?_⟩)
theorem mode_ok (m : Bool) : RF m__law_mode [.sh (.bl m)] fun r fin => r = .sh (modeD m) ∧ fin = [some (.sh (.bl m))] := by
  refine RF_def rfl (by walk_at "nrm") ?_
  cases m <;>
  · repeat walk_at "vw"
    simp
theorem opNe_tf (b : Bool) : opNe (.str (if b = true then Str.ofString "True" else Str.ofString "False")) (.str (if b = true then Str.ofString "True" else Str.ofString "False")) = some (.sh (.bl false)) := by cases b <;> kernel_rfl
theorem mode_right_ok {n : Int} {w : O} (hw : Wl n w) (hn : n < 90000) {kinds : List Ty} {tops : List En} (h : PP kinds tops) (m : Bool) (hN : PM.sumE (PM.size kinds) tops ≤ 60) :
    RF m__law_mode_right [w, .sh (planV kinds tops), .sh (.lst (kinds.map encT)), .sh (.lst (tops.map encE)), .sh (.bl m)] fun r fin => r = .sh (.bl true) ∧ ∃ w', Wl (n + 600) w' ∧ fin = [some w', some (.sh (planV kinds tops)), some (.sh (.lst (kinds.map encT))), some (.sh (.lst (tops.map encE))), some (.sh (.bl m))] := by
  have wel : ∀ {n : Int} {w : O}, Wl n w → ∃ a b c, w = .lst [.int a, .int b, .int c] := fun hw => by
    obtain ⟨a, b, c, e, _⟩ := hw
    exact ⟨a, b, c, e⟩
  obtain ⟨a, b, c, rfl⟩ := wel hw
  refine RF_def rfl (by walk_at "nrm") ?_
  repeat walk_at "vw"
  refine RF.mono (order_ok h m (by omega)) ?_
  rintro r fin ⟨R, rfl, o, rfl⟩
  have hRl := o.len
  have hR6 : R.length ≤ 60 := by omega
  repeat walk_at "vw"
  refine RF.mono (lasts_ok h o (by omega) _ (.inl rfl)) ?_
  rintro r fin ⟨rfl, rfl⟩
  repeat walk_at "vw"
  refine RF.mono (mode_ok m) ?_
  rintro r fin ⟨rfl, rfl⟩
  repeat walk_at "vw"
  refine RL_enum (enc := encQ kinds tops) (fun done δ => ∃ (w : O) (j8 j9 j10 j11 j12 : Option O), δ = [some w, some (.sh (planV kinds tops)), some (.sh (.lst (kinds.map encT))), some (.sh (.lst (tops.map encE))), some (.sh (.bl m)), some (.sh (.lst (R.map (encQ kinds tops)))), some (.lst (R.map fun q => D.int (((lst R 0 q).getD 0 : Nat) : Int))), some (.sh (modeD m)), j8, j9, j10, j11, j12] ∧ Wl (n + 6 * done.length) w)
    ⟨_, _, _, _, _, _, rfl, by simpa using hw⟩ ?_ ?_
  · rintro done x rest δ hR ⟨w1, j8, j9, j10, j11, j12, rfl, hw1⟩
    have hj : R[done.length]? = some x := by rw [hR]; simp
    have hjl : done.length < R.length := (List.getElem?_eq_some_iff.mp hj).1
    obtain ⟨xa, xb, xc⟩ := o.at_ _ x hj
    obtain ⟨L, l, hL⟩ := last_start_ok h m xa xb
    obtain ⟨l1, l2, _⟩ := lst_last h o xa xb l
    have hLr := l.range h xa xb
    have hix : opIx (.lst (R.map fun q => D.int (((lst R 0 q).getD 0 : Nat) : Int))) (.int (done.length : Nat)) = some (.sh (.int L)) := by
      refine opIx_lst (Pg.atI_nat ?_)
      rw [List.getElem?_map, hj, Option.map_some, l1]
      simp
      omega
    refine ⟨_, by rw [encQ_eq]; walk_at "gt", ?_⟩
    obtain ⟨a1, b1, c1, rfl⟩ := wel hw1
    repeat walk_at "vw"
    refine RF.mono hL ?_
    rintro r fin ⟨rfl, x', rfl⟩
    repeat walk_at "vw"
    refine R1_of _ hix ?_
    repeat walk_at "vw"
    refine CB_yes (by simp [D.eqD]) ?_
    repeat walk_at "vw"
    rw [rng_map]
    refine ⟨by decide, ?_⟩
    refine RL_inv (fun (dn : List Nat) δ => ∃ (w : O) (j11 j12 : Option O), δ = [some w, some (.sh (planV kinds tops)), some (.sh (.lst (kinds.map encT))), some (.sh (.lst (tops.map encE))), some (.sh (.bl m)), some (.sh (.lst (R.map (encQ kinds tops)))), some (.lst (R.map fun q => D.int (((lst R 0 q).getD 0 : Nat) : Int))), some (.sh (modeD m)), some (.sh (.int (done.length : Nat))), some (.sh (encA x)), some (.sh (.str (kn kinds tops x))), j11, j12] ∧ Wl (n + 6 * done.length + 2 * dn.length) w)
      ⟨_, _, _, rfl, by simpa using hw1⟩ ?_ ?_
    · rintro dn k rest2 δ hR2 ⟨w2, j11, j12, rfl, hw2⟩
      have hdn : dn.length < 3 := by
        have := congrArg List.length hR2
        simp at this
        omega
      refine ⟨_, by walk_at "gt", ?_⟩
      obtain ⟨a2, b2, c2, rfl⟩ := wel hw2
      repeat walk_at "vw"
      refine R1_of _ hix ?_
      repeat walk_at "vw"
      rw [List.length_map]
      refine RF.mono (draw_ok hw2 (by omega) (by omega)) ?_
      rintro r fin ⟨v, w3, rfl, v0, v1, hw3, rfl⟩
      obtain ⟨a3, b3, c3, rfl⟩ := wel hw3
      repeat walk_at "vw"
      refine RF.mono (one_ok (xs := [.int (done.length : Nat), .int (if (done.length : Int) + 1 < (R.length : Int) - 1 then (done.length : Int) + 1 else (R.length : Int) - 1), .int L, .int v]) hw3 (by omega) (.inl rfl) (by simp) (by simp)) ?_
      rintro r fin ⟨d, w4, rfl, hd, hw4, rfl⟩
      obtain ⟨due, rfl, hdue0, hdue1⟩ : ∃ due : Int, d = .int due ∧ 0 ≤ due ∧ due < PM.sumE (PM.size kinds) tops := by
        simp only [List.mem_cons, List.not_mem_nil, or_false] at hd
        rcases hd with rfl | rfl | rfl | rfl
        · exact ⟨_, rfl, by omega, by omega⟩
        · refine ⟨_, rfl, ?_⟩
          split <;> omega
        · exact ⟨_, rfl, hLr.1, hLr.2⟩
        · exact ⟨_, rfl, by omega, by omega⟩
      obtain ⟨a4, b4, c4, rfl⟩ := wel hw4
      repeat walk_at "vw"
      obtain ⟨L2, l2', hop⟩ := is_open_ok h m xa xb hdue0 hdue1
      have hL2 : L2 = L := by
        obtain ⟨e1, e2, _⟩ := lst_last h o xa xb l2'
        rw [l1] at e1
        have := Option.some.inj e1
        omega
      subst hL2
      rw [xc] at hop
      refine RF.mono hop ?_
      rintro r fin ⟨rfl, rfl⟩
      repeat walk_at "vw"
      by_cases z1 : (done.length : Int) < due
      · refine CB_yes (decide_eq_true z1) ?_
        have e : decide ((done.length : Int) < due ∧ due ≤ L2) = decide (due ≤ L2) := decide_eq_decide.mpr ⟨And.right, fun y => ⟨z1, y⟩⟩
        rw [e]
        repeat walk_at "vw"
        refine R1_of _ hix ?_
        repeat walk_at "vw"
        refine R1_of _ (opNe_tf _) ?_
        repeat walk_at "vw"
        have hw5 : Wl (n + 6 * done.length + 2 * (dn ++ [k]).length) (.lst [.int a4, .int b4, .int c4]) := hw4.mono (by simp; omega)
        first | exact ⟨_, _, _, rfl, hw5⟩ | exact hw5
      · refine CB_no (decide_eq_false z1) ?_
        have e : decide ((done.length : Int) < due ∧ due ≤ L2) = false := decide_eq_false fun y => z1 y.1
        rw [e]
        repeat walk_at "vw"
        refine R1_of _ (opNe_tf _) ?_
        repeat walk_at "vw"
        have hw5 : Wl (n + 6 * done.length + 2 * (dn ++ [k]).length) (.lst [.int a4, .int b4, .int c4]) := hw4.mono (by simp; omega)
        first | exact ⟨_, _, _, rfl, hw5⟩ | exact hw5
    · rintro δ ⟨w2, j11, j12, rfl, hw2⟩
      repeat walk_at "vw"
      refine ⟨_, _, _, _, _, _, rfl, hw2.mono ?_⟩
      simp
      omega
  · rintro δ ⟨w1, j8, j9, j10, j11, j12, rfl, hw1⟩
    repeat walk_at "vw"
    first | exact ⟨rfl, _, hw1.mono (by omega), rfl⟩ | exact ⟨_, hw1.mono (by omega), rfl⟩
theorem right_ok {n : Int} {w : O} (hw : Wl n w) (hn : n < 50000) : RF m__law_right [w] fun r fin => r = .sh (.bl true) ∧ fin.length = 1 := by
  have wel : ∀ {n : Int} {w : O}, Wl n w → ∃ a b c, w = .lst [.int a, .int b, .int c] := fun hw => by
    obtain ⟨a, b, c, e, _⟩ := hw
    exact ⟨a, b, c, e⟩
  obtain ⟨a, b, c, rfl⟩ := wel hw
  refine RF_def rfl (by walk_at "nrm") ?_
  repeat walk_at "vw"
  refine RF.mono (near_ok (by decide) hw (by omega)) ?_
  rintro r fin ⟨kinds, tops, w1, rfl, vp, htot, hw1, rfl⟩
  have h := vp.dp.pp
  obtain ⟨a1, b1, c1, rfl⟩ := wel hw1
  repeat walk_at "vw"
  refine RF.mono (init_ok h (.inr rfl)) ?_
  rintro r fin ⟨rfl, self, rest, rfl, hr, hs⟩
  refine ⟨rfl, _, _, rfl, hr, ?_⟩
  rw [if_pos rfl, hs]
  clear hs hr
  repeat walk_at "vw"
  refine RL_inv (l := [true, false]) (enc := D.bl) (fun done δ => ∃ (w : O) (j4 : Option O), δ = [some w, some (.sh (.lst (kinds.map encT))), some (.sh (.lst (tops.map encE))), some (.sh (planV kinds tops)), j4] ∧ Wl (n + 2000 + 600 * done.length) w) ⟨_, _, rfl, by simpa using hw1⟩ ?_ ?_
  · rintro done m rest' δ hl ⟨w2, j4, rfl, hw2⟩
    have hdl : done.length < 2 := by
      have := congrArg List.length hl
      simp at this
      omega
    refine ⟨_, by walk_at "gt", ?_⟩
    obtain ⟨a2, b2, c2, rfl⟩ := wel hw2
    repeat walk_at "vw"
    refine RF.mono (mode_right_ok hw2 (by omega) h m (by omega)) ?_
    rintro r fin ⟨rfl, w3, hw3, rfl⟩
    obtain ⟨a3, b3, c3, rfl⟩ := wel hw3
    repeat walk_at "vw"
    have hw4 : Wl (n + 2000 + 600 * (done ++ [m]).length) (.lst [.int a3, .int b3, .int c3]) := hw3.mono (by simp; omega)
    first | exact ⟨_, _, rfl, hw4⟩ | exact hw4
  · rintro δ ⟨w2, j4, rfl, hw2⟩
    repeat walk_at "vw"
    first | exact ⟨rfl, rfl⟩ | rfl
theorem ins_val1 {a : O} {fin δ : DS} : ins [.val a] fin δ = δ := by
  rcases fin with _ | ⟨_, _⟩ <;> rfl
theorem law_ok (ns : List Int) (hn : ns.length ≤ 63) : RF m_law [.sh (.scr ns)] fun r fin => r = .sh (.bl true) := by
  refine RF_def rfl (by walk_at "nrm") ?_
  repeat walk_at "vw"
  have hcl : (cutL ns none (some 3)).length ≤ 63 := by rw [cutL_take _ (by decide), List.length_take]; omega
  refine R1_of _ (opAdd_lst (by simp; omega)) ?_
  repeat walk_at "vw"
  rw [show (cutL ns none (some 3)).map D.int ++ [D.int 0] = (cutL ns none (some 3) ++ [0]).map D.int by simp]
  refine RL_inv (fun _ δ => ∃ j1, δ = [some (.sh (.scr ns)), j1]) ⟨_, rfl⟩ ?_ ?_
  · rintro done cell rest δ hl ⟨j1, rfl⟩
    refine ⟨_, by walk_at "gt", ?_⟩
    repeat walk_at "vw"
    refine RF.mono (well_ok cell) ?_
    rintro r fin ⟨hw, hf⟩
    refine ⟨hf, ?_⟩
    rw [ins_val1]
    repeat walk_at "vw"
    refine RF.mono (right_ok hw (by decide)) ?_
    rintro r fin ⟨rfl, hl2⟩
    refine ⟨hl2, ?_⟩
    rw [ins_val1]
    repeat walk_at "vw"
    first | exact ⟨_, rfl⟩ | exact ⟨_, by walk_at "nrm"⟩
  · rintro δ ⟨j1, rfl⟩
    repeat walk_at "vw"
    first | rfl | done
theorem hlaw (ns : List Int) (hn : ns.length ≤ 63) : ∃ fin, m_law [.sh (.scr ns)] = some (.sh (.bl true), fin) := by
  obtain ⟨r, fin, e, rfl⟩ := law_ok ns hn
  exact ⟨fin, e⟩
end Lk17
open PySem
theorem PySem.Challenge.cw_stuckpools_k17_last_starts_and_open_task_holds : PySem.Challenge.rw_stuckpools_k17_last_starts_and_open_task.Holds := by
  exact Lk17.holds_of Lk17.hlaw
