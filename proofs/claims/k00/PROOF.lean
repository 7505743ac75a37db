import PyProof.Rows.All
import Wide.All
import OpenK.AllK
import Wide.FinOn
import HandS.ForMost
import HandS.ForExc
import HandS.Walk
import HandS.HeadHook1
import HandS.Wide
import HandS.Deep
import HandS.TupAny
import HandS.Style
import HandS.WordsExc
import HandS.Defaults
import HandS.Property
import HandS.NoneIn
import HandS.Zip
import HandS.Ends
import HandS.HeadEnd
import HandS.Conv
import HandS.Text
import HandS.TupLen
import HandS.RaiseMore
import PyProof.ReprRoads
import HandS.Small
import KE.KExcSuper
import KE.KExcPX
import KE.KExcIs
import HandS.ExcValue
import HandS.ExcField
import HandS.Head0
import HandS.Head1
import HandS.Head2
import HandS.HeadHook2
import PySem.Challenge.RW_laidbefore_k00_each_error_by_itself
import KE.KStateDown
set_option Elab.async false
set_option linter.all false
set_option maxRecDepth  100000
set_option maxHeartbeats  0
namespace Pl
open PySem PySem.Spec PyProof.Rows L2
open Classical

/-- a value as a tree -/
inductive D where
  | non | bl (b : Bool) | int (i : Int) | str (x : Str)
  | tup (xs : List D) | lst (xs : List D) | dic (t : Bool) (kvs : List (D × D)) | obj (c : Str) (fs : List (Str × D)) | exc (c : Str) (v : D) | scr (ns : List Int)

def keyOf : D → Option Key
  | .int i => some (.inl i)
  | .str x => some (.inr x)
  | _ => none
def keysL : List D → Option (List Key)
  | [] => some []
  | d :: r => match keyOf d, keysL r with
    | some k, some ks => some (k :: ks)
    | _, _ => none
def keysOf : D → Option (List Key)
  | .tup xs => keysL xs
  | _ => none

/-- an exception object that stands as a value: its class C, its own dict at dx -/
def ExV (C : Addr) (dx : Addr) (a : Addr) : HO := .ext fun h => ∃ (oe : Obj) (vs : Array Value), h.get? a = some oe ∧ oe.cls = .ref C ∧ oe.dict = some dx ∧ oe.data = .fields vs

abbrev Fr := PySem.W.Frag
mutual
/-- v stands for d, by what Z holds -/
def Fz (K : Fr) (Z : Hp) : D → V → Prop
  | .non, v => v = .non
  | .bl b, v => v = .bl b
  | .int i, v => v = .int i
  | .str x, v => v = .str x
  | .tup xs, v => ∃ a vs, v = .ref a ∧ Z a = some (.tup vs) ∧ FzL K Z xs vs
  | .lst xs, v => ∃ a vs, v = .ref a ∧ Z a = some (.lst vs) ∧ FzL K Z xs vs
  | .dic false kvs, v => ∃ a ks, v = .ref a ∧ Rd Z a (.dK ks) ∧ FzK K Z kvs ks
  | .dic true kvs, v => ∃ a ks, v = .ref a ∧ Rd Z a (.dT ks) ∧ FzT K Z kvs ks
  | .obj c fs, v => ∃ a dx vs, v = .ref a ∧ Z a = some (.ins (He.ga K c) dx vs) ∧ Z dx = some (.own a) ∧ FzO K Z fs vs
  | .exc c d, v => ∃ a dx y, v = .ref a ∧ Z a = some (ExV (He.ga K c) dx a) ∧ Z dx = some (.xd [("value", y)]) ∧ Fz K Z d y
  | .scr ns, v => ∃ a, v = .ref a ∧ SqL K Z a (ns.map V.int)
def FzL (K : Fr) (Z : Hp) : List D → List V → Prop
  | [], vs => vs = []
  | d :: r, vs => ∃ v t, vs = v :: t ∧ Fz K Z d v ∧ FzL K Z r t
def FzK (K : Fr) (Z : Hp) : List (D × D) → List (Key × V) → Prop
  | [], ks => ks = []
  | (k, d) :: r, ks => ∃ q v t, ks = (q, v) :: t ∧ keyOf k = some q ∧ Fz K Z d v ∧ FzK K Z r t
def FzT (K : Fr) (Z : Hp) : List (D × D) → List (List Key × V) → Prop
  | [], ks => ks = []
  | (k, d) :: r, ks => ∃ q v t, ks = (q, v) :: t ∧ keysOf k = some q ∧ Fz K Z d v ∧ FzT K Z r t
def FzO (K : Fr) (Z : Hp) : List (Str × D) → List (Str × V) → Prop
  | [], fs => fs = []
  | (x, d) :: r, fs => ∃ v t, fs = (x, v) :: t ∧ Fz K Z d v ∧ FzO K Z r t
end

def isDic : HO → Bool
  | .dK _ => true
  | .dT _ => true
  | _ => false
/-- all that Z holds stands in H as well, but for a dict's lock -/
def Sub (Z H : Hp) : Prop := ∀ a o, Z a = some o → H a = some o ∨ ∃ ob, isDic o = true ∧ H a = some (.frz ob o)
/-- all that Z holds Z' holds, but for a dict's lock -/
def Le (Z Z' : Hp) : Prop := ∀ a o, Z a = some o → Z' a = some o ∨ ∃ ob, isDic o = true ∧ Z' a = some (.frz ob o)
theorem Le.refl (Z : Hp) : Le Z Z := fun _ _ h => .inl h
theorem Le.of {Z Z' : Hp} (h : ∀ a o, Z a = some o → Z' a = some o) : Le Z Z' := fun a o e => .inl (h a o e)
theorem Le.trans {Z Z1 Z2 : Hp} (a : Le Z Z1) (b : Le Z1 Z2) : Le Z Z2 := fun c o h => by
  rcases a c o h with h | ⟨ob, i, h⟩
  · exact b c o h
  · rcases b c _ h with h | ⟨ob', j, h⟩
    · exact .inr ⟨ob, i, h⟩
    · cases j
theorem Le.ex {Z Z' : Hp} {a : Addr} {o : HO} (e : Le Z Z') (h : Z a = some o) (d : isDic o = false) : Z' a = some o := by
  rcases e _ _ h with h | ⟨ob, i, h⟩
  · exact h
  · rw [d] at i; cases i
theorem Le.rd {Z Z' : Hp} {a : Addr} {o : HO} (e : Le Z Z') (h : Rd Z a o) : Rd Z' a o := by
  rcases h with h | ⟨ob, h⟩
  · rcases e _ _ h with h | ⟨ob, i, h⟩
    · exact .inl h
    · exact .inr ⟨ob, h⟩
  · exact .inr ⟨ob, e.ex h rfl⟩
theorem Le.seqL {K : Fr} {Z Z' : Hp} {a : Addr} {xs : List V} (e : Le Z Z') (h : SqL K Z a xs) : SqL K Z' a xs := by
  rcases h with (h | ⟨o, h⟩) | h
  · exact .inl (.inl (e.ex h rfl))
  · exact .inl (.inr ⟨o, e.ex h rfl⟩)
  · exact .inr h
theorem Le.seqT {K : Fr} {Z Z' : Hp} {a : Addr} {xs : List V} (e : Le Z Z') (h : SqT K Z a xs) : SqT K Z' a xs := by
  rcases h with (h | ⟨o, h⟩) | h
  · exact .inl (.inl (e.ex h rfl))
  · exact .inl (.inr ⟨o, e.ex h rfl⟩)
  · exact .inr h
mutual
theorem Fz.mono {K : Fr} {Z Z' : Hp} (le : Le Z Z') : ∀ (d : D) (v : V), Fz K Z d v → Fz K Z' d v
  | .non, _, h => h
  | .bl _, _, h => h
  | .int _, _, h => h
  | .str _, _, h => h
  | .tup xs, v, h => by
    simp only [Fz] at h ⊢
    obtain ⟨a, vs, e, s, l⟩ := h
    exact ⟨a, vs, e, le.ex s rfl, FzL.mono le xs vs l⟩
  | .lst xs, v, h => by
    simp only [Fz] at h ⊢
    obtain ⟨a, vs, e, s, l⟩ := h
    exact ⟨a, vs, e, le.ex s rfl, FzL.mono le xs vs l⟩
  | .dic false kvs, v, h => by
    simp only [Fz] at h ⊢
    obtain ⟨a, ks, e, s, l⟩ := h
    exact ⟨a, ks, e, le.rd s, FzK.mono le kvs ks l⟩
  | .dic true kvs, v, h => by
    simp only [Fz] at h ⊢
    obtain ⟨a, ks, e, s, l⟩ := h
    exact ⟨a, ks, e, le.rd s, FzT.mono le kvs ks l⟩
  | .obj c fs, v, h => by
    simp only [Fz] at h ⊢
    obtain ⟨a, dx, vs, e, s, s2, l⟩ := h
    exact ⟨a, dx, vs, e, le.ex s rfl, le.ex s2 rfl, FzO.mono le fs vs l⟩
  | .exc c d, v, h => by
    simp only [Fz] at h ⊢
    obtain ⟨a, dx, y, e, s, s2, l⟩ := h
    exact ⟨a, dx, y, e, le.ex s rfl, le.ex s2 rfl, Fz.mono le d y l⟩
  | .scr ns, v, h => by
    simp only [Fz] at h ⊢
    obtain ⟨a, e, s⟩ := h
    exact ⟨a, e, le.seqL s⟩
theorem FzL.mono {K : Fr} {Z Z' : Hp} (le : Le Z Z') : ∀ (d : List D) (v : List V), FzL K Z d v → FzL K Z' d v
  | [], _, h => h
  | d :: r, v, h => by
    simp only [FzL] at h ⊢
    obtain ⟨x, t, e, h1, h2⟩ := h
    exact ⟨x, t, e, Fz.mono le d x h1, FzL.mono le r t h2⟩
theorem FzK.mono {K : Fr} {Z Z' : Hp} (le : Le Z Z') : ∀ (d : List (D × D)) (v : List (Key × V)), FzK K Z d v → FzK K Z' d v
  | [], _, h => h
  | (k, d) :: r, v, h => by
    simp only [FzK] at h ⊢
    obtain ⟨q, x, t, e, hk, h1, h2⟩ := h
    exact ⟨q, x, t, e, hk, Fz.mono le d x h1, FzK.mono le r t h2⟩
theorem FzT.mono {K : Fr} {Z Z' : Hp} (le : Le Z Z') : ∀ (d : List (D × D)) (v : List (List Key × V)), FzT K Z d v → FzT K Z' d v
  | [], _, h => h
  | (k, d) :: r, v, h => by
    simp only [FzT] at h ⊢
    obtain ⟨q, x, t, e, hk, h1, h2⟩ := h
    exact ⟨q, x, t, e, hk, Fz.mono le d x h1, FzT.mono le r t h2⟩
theorem FzO.mono {K : Fr} {Z Z' : Hp} (le : Le Z Z') : ∀ (d : List (Str × D)) (v : List (Str × V)), FzO K Z d v → FzO K Z' d v
  | [], _, h => h
  | (k, d) :: r, v, h => by
    simp only [FzO] at h ⊢
    obtain ⟨x, t, e, h1, h2⟩ := h
    exact ⟨x, t, e, Fz.mono le d x h1, FzO.mono le r t h2⟩
end

/-- an attribute's content -/
inductive Cn where
  | hole (a : Addr) | frz (d : D) | lst (a : Addr) (xs : List D) | dic (a : Addr) (t : Bool) (kvs : List (D × D))
/-- a slot's content: un: nothing is known; frz: a value that nobody changes; else an object of the slot's own -/
inductive M where
  | un | frz (d : D) | lst (a : Addr) (xs : List D) | dic (a : Addr) (t : Bool) (kvs : List (D × D)) | obj (a dx : Addr) (c : Str) (fs : List (Str × Cn))

def Cn.toD : Cn → D
  | .hole _ => .non
  | .frz d => d
  | .lst _ xs => .lst xs
  | .dic _ t kvs => .dic t kvs
def M.toD : M → D
  | .un => .non
  | .frz d => d
  | .lst _ xs => .lst xs
  | .dic _ t kvs => .dic t kvs
  | .obj _ _ c fs => .obj c (fs.map fun p => (p.1, p.2.toD))
/-- it is not lent -/
def Cn.ok : Cn → Prop
  | .hole _ => False
  | _ => True
/-- all of it is known -/
def M.full : M → Prop
  | .un => False
  | .obj _ _ _ fs => ∀ p ∈ fs, p.2.ok
  | _ => True
def Cn.fp : Cn → List Addr
  | .hole _ => []
  | .frz _ => []
  | .lst a _ => [a]
  | .dic a _ _ => [a]
def M.fp : M → List Addr
  | .un => []
  | .frz _ => []
  | .lst a _ => [a]
  | .dic a _ _ => [a]
  | .obj a dx _ fs => a :: dx :: fs.flatMap fun p => p.2.fp

def RepDic (K : Fr) (Z H : Hp) (a : Addr) : Bool → List (D × D) → Prop
  | false, kvs => ∃ ks, H a = some (.dK ks) ∧ FzK K Z kvs ks
  | true, kvs => ∃ ks, H a = some (.dT ks) ∧ FzT K Z kvs ks
def RepC (K : Fr) (Z H : Hp) : Cn → V → Prop
  | .hole a, v => v = .ref a
  | .frz d, v => Fz K Z d v
  | .lst a xs, v => v = .ref a ∧ ∃ vs, H a = some (.lst vs) ∧ FzL K Z xs vs
  | .dic a t kvs, v => v = .ref a ∧ RepDic K Z H a t kvs
def RepF (K : Fr) (Z H : Hp) : List (Str × Cn) → List (Str × V) → Prop
  | [], fs => fs = []
  | (x, c) :: r, fs => ∃ v t, fs = (x, v) :: t ∧ RepC K Z H c v ∧ RepF K Z H r t
def RepM (K : Fr) (Z H : Hp) : M → V → Prop
  | .un, _ => True
  | .frz d, v => Fz K Z d v
  | .lst a xs, v => v = .ref a ∧ ∃ vs, H a = some (.lst vs) ∧ FzL K Z xs vs
  | .dic a t kvs, v => v = .ref a ∧ RepDic K Z H a t kvs
  | .obj a dx c fs, v => v = .ref a ∧ ∃ vs, H a = some (.ins (He.ga K c) dx vs) ∧ H dx = some (.own a) ∧ RepF K Z H fs vs
abbrev Sl := Option V × M
def RepS (K : Fr) (Z H : Hp) (p : Sl) : Prop := p.2 = .un ∨ ∃ v, p.1 = some v ∧ RepM K Z H p.2 v
def fps (l : List Sl) : List Addr := l.flatMap fun p => p.2.fp

/-- the heap H bears: what is frozen (Z), what is others' (F), the slots, each with its own -/
structure Rep (K : Fr) (Z F H : Hp) (l : List Sl) : Prop where
  sub : Sub Z H
  fr : ∀ a o, F a = some o → H a = some o
  zf : ∀ a, F a ≠ none → Z a = none ∨ ∃ xs, F a = some (.tup xs)
  sl : ∀ p ∈ l, RepS K Z H p
  nd : (fps l).Nodup
  dz : ∀ a ∈ fps l, Z a = none ∧ F a = none ∧ H a ≠ none

section
variable {K : Fr} {Z Z' F H H' : Hp} {l l' : List Sl}
theorem RepDic.mono {a : Addr} {t : Bool} {kvs : List (D × D)} (le : Le Z Z') (e : H' a = H a) (h : RepDic K Z H a t kvs) : RepDic K Z' H' a t kvs := by
  cases t with
  | false =>
    obtain ⟨ks, s, l⟩ := h
    exact ⟨ks, e.trans s, FzK.mono le kvs ks l⟩
  | true =>
    obtain ⟨ks, s, l⟩ := h
    exact ⟨ks, e.trans s, FzT.mono le kvs ks l⟩
theorem RepC.mono (le : Le Z Z') : ∀ {c : Cn} {v : V}, (∀ a ∈ c.fp, H' a = H a) → RepC K Z H c v → RepC K Z' H' c v
  | .hole _, _, _, h => h
  | .frz d, v, _, h => Fz.mono le d v h
  | .lst a xs, v, e, h => by
    obtain ⟨h1, vs, h2, h3⟩ := h
    exact ⟨h1, vs, (e a (by simp [Cn.fp])).trans h2, FzL.mono le xs vs h3⟩
  | .dic a t kvs, v, e, h => ⟨h.1, h.2.mono le (e a (by simp [Cn.fp]))⟩
theorem RepF.mono (le : Le Z Z') : ∀ {fs : List (Str × Cn)} {vs : List (Str × V)}, (∀ a ∈ fs.flatMap (fun p => p.2.fp), H' a = H a) → RepF K Z H fs vs → RepF K Z' H' fs vs
  | [], _, _, h => h
  | (x, c) :: r, vs, e, h => by
    obtain ⟨v, t, e1, h1, h2⟩ := h
    exact ⟨v, t, e1, h1.mono le fun a ha => e a (by simp [ha]), h2.mono le fun a ha => e a (by simp at ha ⊢; exact .inr ha)⟩
theorem RepM.mono (le : Le Z Z') : ∀ {m : M} {v : V}, (∀ a ∈ m.fp, H' a = H a) → RepM K Z H m v → RepM K Z' H' m v
  | .un, _, _, _ => trivial
  | .frz d, v, _, h => Fz.mono le d v h
  | .lst a xs, v, e, h => by
    obtain ⟨h1, vs, h2, h3⟩ := h
    exact ⟨h1, vs, (e a (by simp [M.fp])).trans h2, FzL.mono le xs vs h3⟩
  | .dic a t kvs, v, e, h => ⟨h.1, h.2.mono le (e a (by simp [M.fp]))⟩
  | .obj a dx c fs, v, e, h => by
    obtain ⟨h1, vs, h2, h3, h4⟩ := h
    exact ⟨h1, vs, (e a (by simp [M.fp])).trans h2, (e dx (by simp [M.fp])).trans h3, h4.mono le fun b hb => e b (by simp only [M.fp, List.mem_cons]; exact .inr (.inr hb))⟩
theorem RepS.mono (le : Le Z Z') {p : Sl} (e : ∀ a ∈ p.2.fp, H' a = H a) (h : RepS K Z H p) : RepS K Z' H' p := by
  rcases h with h | ⟨v, h1, h2⟩
  · exact .inl h
  · exact .inr ⟨v, h1, h2.mono le e⟩
theorem mem_fps {p : Sl} {a : Addr} (hp : p ∈ l) (ha : a ∈ p.2.fp) : a ∈ fps l := List.mem_flatMap.mpr ⟨p, hp, ha⟩
theorem fps_cons (p : Sl) : fps (p :: l) = p.2.fp ++ fps l := by simp [fps]
theorem fps_append : fps (l ++ l') = fps l ++ fps l' := by simp [fps]
theorem Rep.perm (r : Rep K Z F H l) (h : l.Perm l') : Rep K Z F H l' := by
  have hp : (fps l).Perm (fps l') := h.flatMap_right _
  exact ⟨r.sub, r.fr, r.zf, fun p q => r.sl p (h.mem_iff.mpr q), hp.nodup_iff.mp r.nd, fun a ha => r.dz a (hp.mem_iff.mpr ha)⟩
/-- slots forgotten -/
theorem Rep.tail {p : Sl} (r : Rep K Z F H (p :: l)) : Rep K Z F H l := by
  refine ⟨r.sub, r.fr, r.zf, fun q h => r.sl q (List.mem_cons_of_mem _ h), ?_, fun a ha => r.dz a (by rw [fps_cons]; exact List.mem_append_right _ ha)⟩
  have := r.nd
  rw [fps_cons] at this
  exact (List.nodup_append.mp this).2.1
theorem Rep.right (r : Rep K Z F H (l ++ l')) : Rep K Z F H l' := by
  induction l with
  | nil => exact r
  | cons p l ih => exact ih r.tail
theorem Rep.left (r : Rep K Z F H (l ++ l')) : Rep K Z F H l := (r.perm List.perm_append_comm).right
/-- nothing of a slot's own -/
theorem Rep.cons0 {p : Sl} (r : Rep K Z F H l) (h : RepS K Z H p) (e : p.2.fp = []) : Rep K Z F H (p :: l) := by
  refine ⟨r.sub, r.fr, r.zf, fun q hq => ?_, ?_, fun a ha => r.dz a (by rw [fps_cons, e] at ha; exact ha)⟩
  · rcases List.mem_cons.mp hq with z | z
    · rw [z]; exact h
    · exact r.sl q z
  · rw [fps_cons, e]; exact r.nd
theorem Rep.un {o : Option V} (r : Rep K Z F H l) : Rep K Z F H ((o, .un) :: l) := r.cons0 (.inl rfl) rfl
theorem Rep.frz {v : V} {d : D} (r : Rep K Z F H l) (h : Fz K Z d v) : Rep K Z F H ((some v, .frz d) :: l) := r.cons0 (.inr ⟨v, rfl, h⟩) rfl
theorem Rep.fz {v : V} {d : D} (r : Rep K Z F H ((some v, .frz d) :: l)) : Fz K Z d v := by
  rcases r.sl _ List.mem_cons_self with h | ⟨u, h1, h2⟩
  · cases h
  · cases h1; exact h2
theorem Rep.at (r : Rep K Z F H l) {v : V} {m : M} (h : (some v, m) ∈ l) (hm : m ≠ .un) : RepM K Z H m v := by
  rcases r.sl _ h with h | ⟨u, h1, h2⟩
  · exact absurd h hm
  · cases h1; exact h2
/-- what a slot's own is, frozen -/
theorem RepC.toFz (le : Le Z Z') : ∀ {c : Cn} {v : V}, c.ok → (∀ a ∈ c.fp, Z' a = H a) → RepC K Z H c v → Fz K Z' c.toD v
  | .hole _, _, n, _, _ => n.elim
  | .frz d, v, _, _, h => Fz.mono le d v h
  | .lst a xs, v, _, e, h => by
    obtain ⟨h1, vs, h2, h3⟩ := h
    simp only [Cn.toD, Fz]
    exact ⟨a, vs, h1, (e a (by simp [Cn.fp])).trans h2, FzL.mono le xs vs h3⟩
  | .dic a t kvs, v, _, e, h => by
    have h2 := h.2.mono le (e a (by simp [Cn.fp]))
    cases t with
    | false =>
      obtain ⟨ks, s, l⟩ := h2
      simp only [Cn.toD, Fz]
      exact ⟨a, ks, h.1, .inl s, l⟩
    | true =>
      obtain ⟨ks, s, l⟩ := h2
      simp only [Cn.toD, Fz]
      exact ⟨a, ks, h.1, .inl s, l⟩
theorem RepF.toFz (le : Le Z Z') : ∀ {fs : List (Str × Cn)} {vs : List (Str × V)}, (∀ p ∈ fs, p.2.ok) → (∀ a ∈ fs.flatMap (fun p => p.2.fp), Z' a = H a) → RepF K Z H fs vs → FzO K Z' (fs.map fun p => (p.1, p.2.toD)) vs
  | [], _, _, _, h => by
    have h' : _ = [] := h
    simp only [List.map_nil, FzO]
    exact h'
  | (x, c) :: r, vs, n, e, h => by
    obtain ⟨v, t, e1, h1, h2⟩ := h
    simp only [List.map_cons, FzO]
    exact ⟨v, t, e1, h1.toFz le (n (x, c) List.mem_cons_self) fun a ha => e a (by simp [ha]), h2.toFz le (fun p hp => n p (List.mem_cons_of_mem _ hp)) fun a ha => e a (by simp at ha ⊢; exact .inr ha)⟩
theorem RepM.toFz (le : Le Z Z') : ∀ {m : M} {v : V}, m.full → (∀ a ∈ m.fp, Z' a = H a) → RepM K Z H m v → Fz K Z' m.toD v
  | .un, _, n, _, _ => n.elim
  | .frz d, v, _, _, h => Fz.mono le d v h
  | .lst a xs, v, _, e, h => RepC.toFz (c := .lst a xs) le trivial e h
  | .dic a t kvs, v, _, e, h => RepC.toFz (c := .dic a t kvs) le trivial e h
  | .obj a dx c fs, v, n, e, h => by
    obtain ⟨h1, vs, h2, h3, h4⟩ := h
    simp only [M.toD, Fz]
    exact ⟨a, dx, vs, h1, (e a (by simp [M.fp])).trans h2, (e dx (by simp [M.fp])).trans h3, h4.toFz le n fun b hb => e b (by simp only [M.fp, List.mem_cons]; exact .inr (.inr hb))⟩
/-- the first slot frozen -/
theorem M.full.ne {m : M} (h : m.full) : m ≠ .un := fun z => by rw [z] at h; exact h
theorem Rep.freeze {v : V} {m : M} (hm : m.full) (r : Rep K Z F H ((some v, m) :: l)) : ∃ Z', Le Z Z' ∧ Rep K Z' F H ((some v, .frz m.toD) :: l) := by
  have hin : ∀ a ∈ m.fp, a ∈ fps ((some v, m) :: l) := fun a ha => by rw [fps_cons]; exact List.mem_append_left _ ha
  have nd := r.nd
  rw [fps_cons] at nd
  obtain ⟨_, nd2, ndd⟩ := List.nodup_append.mp nd
  let Z' : Hp := fun a => if a ∈ m.fp then H a else Z a
  have hZ1 : ∀ a ∈ m.fp, Z' a = H a := fun a ha => if_pos ha
  have hZ2 : ∀ a, a ∉ m.fp → Z' a = Z a := fun a ha => if_neg ha
  have le : Le Z Z' := Le.of fun a o e => by
    by_cases ha : a ∈ m.fp
    · rw [(r.dz a (hin a ha)).1] at e; cases e
    · rw [hZ2 a ha]; exact e
  have hr := r.at List.mem_cons_self hm.ne
  refine ⟨Z', le, ⟨fun a o e => ?_, r.fr, fun a ha => ?_, fun p hp => ?_, ?_, fun a ha => ?_⟩⟩
  · by_cases ha : a ∈ m.fp
    · rw [hZ1 a ha] at e; exact .inl e
    · rw [hZ2 a ha] at e; exact r.sub a o e
  · by_cases h : a ∈ m.fp
    · exact absurd (r.dz a (hin a h)).2.1 ha
    · rw [hZ2 a h]; exact r.zf a ha
  · rcases List.mem_cons.mp hp with z | z
    · rw [z]; exact .inr ⟨v, rfl, hr.toFz le hm hZ1⟩
    · exact (r.sl p (List.mem_cons_of_mem _ z)).mono le fun _ _ => rfl
  · rw [fps_cons]; exact nd2
  · rw [fps_cons] at ha
    have ha' : a ∈ fps l := by simpa [M.fp] using ha
    have hn : a ∉ m.fp := fun z => ndd a z a ha' rfl
    rw [hZ2 a hn]
    exact r.dz a (by rw [fps_cons]; exact List.mem_append_right _ ha')
/-- something new is laid -/
theorem Rep.alloc {p : Addr} {o : HO} (r : Rep K Z F H l) (hp : H p = none) : Rep K Z F (upd H p o) l := by
  have ne : ∀ a, H a ≠ none → a ≠ p := fun a h z => h (by rw [z]; exact hp)
  refine ⟨fun a u e => ?_, fun a u e => ?_, r.zf, fun q hq => (r.sl q hq).mono (Le.refl Z) fun a ha => ?_, r.nd, fun a ha => ?_⟩
  · rcases r.sub a u e with h | ⟨ob, i, h⟩
    · exact .inl (by rw [upd_ne (ne a (by rw [h]; simp))]; exact h)
    · exact .inr ⟨ob, i, by rw [upd_ne (ne a (by rw [h]; simp))]; exact h⟩
  · have h := r.fr a u e
    rw [upd_ne (ne a (by rw [h]; simp))]; exact h
  · exact upd_ne (ne a (r.dz a (mem_fps hq ha)).2.2)
  · obtain ⟨h1, h2, h3⟩ := r.dz a ha
    exact ⟨h1, h2, by rw [upd_ne (ne a h3)]; exact h3⟩
/-- what is new is of a slot's own -/
theorem Rep.own {p : Addr} {q : Sl} (r : Rep K Z F H l) (hs : RepS K Z H q) (hq : q.2.fp = [p]) (hz : Z p = none) (hf : F p = none) (hH : H p ≠ none) (hn : p ∉ fps l) : Rep K Z F H (q :: l) := by
  refine ⟨r.sub, r.fr, r.zf, fun x hx => ?_, ?_, fun a ha => ?_⟩
  · rcases List.mem_cons.mp hx with z | z
    · rw [z]; exact hs
    · exact r.sl x z
  · rw [fps_cons, hq]
    exact List.nodup_cons.mpr ⟨hn, r.nd⟩
  · rw [fps_cons, hq] at ha
    rcases List.mem_cons.mp ha with z | z
    · rw [z]; exact ⟨hz, hf, hH⟩
    · exact r.dz a z
theorem Rep.freeAt {p : Addr} (r : Rep K Z F H l) (hp : H p = none) : Z p = none ∧ F p = none ∧ p ∉ fps l := by
  refine ⟨?_, ?_, fun h => (r.dz p h).2.2 hp⟩
  · cases e : Z p with
    | none => rfl
    | some o =>
      rcases r.sub p o e with h | ⟨_, _, h⟩ <;> (rw [hp] at h; cases h)
  · cases e : F p with
    | none => rfl
    | some o => have h := r.fr p o e; rw [hp] at h; cases h
theorem Rep.newLst {p : Addr} {xs : List D} {vs : List V} (r : Rep K Z F H l) (hp : H p = none) (h : FzL K Z xs vs) : Rep K Z F (upd H p (.lst vs)) ((some (.ref p), .lst p xs) :: l) := by
  obtain ⟨h1, h2, h3⟩ := r.freeAt hp
  exact (r.alloc hp).own (.inr ⟨_, rfl, rfl, vs, upd_same, h⟩) rfl h1 h2 (by rw [upd_same]; simp) h3
theorem Rep.newDicK {p : Addr} (r : Rep K Z F H l) (hp : H p = none) : Rep K Z F (upd H p (.dK [])) ((some (.ref p), .dic p false []) :: l) := by
  obtain ⟨h1, h2, h3⟩ := r.freeAt hp
  exact (r.alloc hp).own (.inr ⟨_, rfl, rfl, ⟨[], upd_same, by simp [FzK]⟩⟩) rfl h1 h2 (by rw [upd_same]; simp) h3
theorem Rep.newDicT {p : Addr} (r : Rep K Z F H l) (hp : H p = none) : Rep K Z F (upd H p (.dT [])) ((some (.ref p), .dic p true []) :: l) := by
  obtain ⟨h1, h2, h3⟩ := r.freeAt hp
  exact (r.alloc hp).own (.inr ⟨_, rfl, rfl, ⟨[], upd_same, by simp [FzT]⟩⟩) rfl h1 h2 (by rw [upd_same]; simp) h3
/-- a new tuple is frozen at once -/
theorem Rep.newTup {p : Addr} {xs : List D} {vs : List V} (r : Rep K Z F H l) (hp : H p = none) (h : FzL K Z xs vs) :
    ∃ Z', Le Z Z' ∧ Rep K Z' F (upd H p (.tup vs)) ((some (.ref p), .frz (.tup xs)) :: l) := by
  obtain ⟨h1, h2, h3⟩ := r.freeAt hp
  have r1 := r.alloc (o := .tup vs) hp
  have le : Le Z (upd Z p (.tup vs)) := Le.of fun a o e => by rw [upd_ne (fun z => by rw [z, h1] at e; cases e)]; exact e
  refine ⟨upd Z p (.tup vs), le, Rep.frz ⟨fun a o e => ?_, r1.fr, fun a ha => ?_, fun q hq => (r1.sl q hq).mono le fun _ _ => rfl, r1.nd, fun a ha => ?_⟩ ?_⟩
  · by_cases z : a = p
    · rw [z, upd_same] at e
      exact .inl (by rw [z, upd_same]; exact e)
    · rw [upd_ne z] at e
      exact r1.sub a o e
  · have : a ≠ p := fun z => ha (by rw [z]; exact h2)
    rw [upd_ne this]; exact r.zf a ha
  · obtain ⟨g1, g2, g3⟩ := r1.dz a ha
    exact ⟨by rw [upd_ne (fun z => h3 (by rw [← z]; exact ha))]; exact g1, g2, g3⟩
  · simp only [Fz]
    exact ⟨p, vs, rfl, upd_same, FzL.mono le xs vs h⟩
/-- the first slot's own is written -/
theorem Rep.write {o : Option V} {m m' : M} {a : Addr} {u : HO} {w : V} (r : Rep K Z F H ((o, m) :: l)) (ha : a ∈ m.fp) (hm : m'.fp = m.fp) (h : RepM K Z (upd H a u) m' w) :
    Rep K Z F (upd H a u) ((some w, m') :: l) := by
  have hin : a ∈ fps ((o, m) :: l) := by rw [fps_cons]; exact List.mem_append_left _ ha
  obtain ⟨hz, hf, hh⟩ := r.dz a hin
  have nd := r.nd
  rw [fps_cons] at nd
  obtain ⟨_, _, ndd⟩ := List.nodup_append.mp nd
  have e : fps ((some w, m') :: l) = fps ((o, m) :: l) := by rw [fps_cons, fps_cons]; show m'.fp ++ _ = m.fp ++ _; rw [hm]
  refine ⟨fun b x q => ?_, fun b x q => ?_, r.zf, fun p hp => ?_, by rw [e]; exact r.nd, fun b hb => ?_⟩
  · have nb : b ≠ a := fun z => by rw [z, hz] at q; cases q
    rcases r.sub b x q with h | ⟨ob, i, h⟩
    · exact .inl (by rw [upd_ne nb]; exact h)
    · exact .inr ⟨ob, i, by rw [upd_ne nb]; exact h⟩
  · have nb : b ≠ a := fun z => by rw [z, hf] at q; cases q
    rw [upd_ne nb]; exact r.fr b x q
  · rcases List.mem_cons.mp hp with z | z
    · rw [z]; exact .inr ⟨w, rfl, h⟩
    · refine (r.sl p (List.mem_cons_of_mem _ z)).mono (Le.refl Z) fun b hb => ?_
      exact upd_ne fun y => ndd a ha b (mem_fps z hb) y.symm
  · rw [e] at hb
    obtain ⟨g1, g2, g3⟩ := r.dz b hb
    refine ⟨g1, g2, ?_⟩
    by_cases nb : b = a
    · rw [nb, upd_same]; simp
    · rw [upd_ne nb]; exact g3
/-- slots hidden from a callee -/
def hideF (F H : Hp) (l : List Sl) : Hp := fun a => if a ∈ fps l then H a else F a
/-- what is a slot's own is no tuple -/
theorem RepC.notup : ∀ {c : Cn} {v : V}, RepC K Z H c v → ∀ a ∈ c.fp, ∀ xs, H a ≠ some (.tup xs)
  | .hole _, _, _, a, ha, _ => by simp [Cn.fp] at ha
  | .frz _, _, _, a, ha, _ => by simp [Cn.fp] at ha
  | .lst b ys, v, h, a, ha, xs => by
    obtain ⟨_, vs, h2, _⟩ := h
    obtain rfl : a = b := by simpa [Cn.fp] using ha
    rw [h2]; intro z; cases z
  | .dic b t kvs, v, h, a, ha, xs => by
    obtain ⟨_, h2⟩ := h
    obtain rfl : a = b := by simpa [Cn.fp] using ha
    cases t with
    | false => obtain ⟨ks, q, _⟩ := h2; rw [q]; intro z; cases z
    | true => obtain ⟨ks, q, _⟩ := h2; rw [q]; intro z; cases z
theorem RepF.notup : ∀ {fs : List (Str × Cn)} {vs : List (Str × V)}, RepF K Z H fs vs → ∀ a ∈ fs.flatMap (fun p => p.2.fp), ∀ xs, H a ≠ some (.tup xs)
  | [], _, _, a, ha, _ => by simp at ha
  | (x, c) :: r, vs, h, a, ha, xs => by
    obtain ⟨v, t, _, h1, h2⟩ := h
    simp only [List.flatMap_cons, List.mem_append] at ha
    rcases ha with z | z
    · exact h1.notup a z xs
    · exact h2.notup a z xs
theorem RepM.notup : ∀ {m : M} {v : V}, RepM K Z H m v → ∀ a ∈ m.fp, ∀ xs, H a ≠ some (.tup xs)
  | .un, _, _, a, ha, _ => by simp [M.fp] at ha
  | .frz _, _, _, a, ha, _ => by simp [M.fp] at ha
  | .lst b ys, v, h, a, ha, xs => RepC.notup (c := .lst b ys) h a ha xs
  | .dic b t kvs, v, h, a, ha, xs => RepC.notup (c := .dic b t kvs) h a ha xs
  | .obj b dx c fs, v, h, a, ha, xs => by
    obtain ⟨_, vs, h2, h3, h4⟩ := h
    simp only [M.fp, List.mem_cons] at ha
    rcases ha with z | z | z
    · rw [z, h2]; intro q; cases q
    · rw [z, h3]; intro q; cases q
    · exact h4.notup a z xs
theorem Rep.notup (r : Rep K Z F H l) : ∀ a ∈ fps l, ∀ xs, H a ≠ some (.tup xs) := fun a ha xs => by
  obtain ⟨p, hp, h⟩ := List.mem_flatMap.mp ha
  rcases r.sl p hp with z | ⟨v, _, q⟩
  · rw [z] at h; simp [M.fp] at h
  · exact q.notup a h xs
theorem Rep.hide (r : Rep K Z F H (l ++ l')) : Rep K Z (hideF F H l) H l' := by
  have nd := r.nd
  rw [fps_append] at nd
  obtain ⟨_, nd2, ndd⟩ := List.nodup_append.mp nd
  refine ⟨r.sub, fun a o e => ?_, fun a ha => ?_, fun p hp => r.sl p (List.mem_append_right _ hp), nd2, fun a ha => ?_⟩
  · unfold hideF at e
    split at e
    · exact e
    · exact r.fr a o e
  · unfold hideF at ha ⊢
    split at ha
    · rename_i h; exact .inl (r.dz a (by rw [fps_append]; exact List.mem_append_left _ h)).1
    · rename_i h; rw [if_neg h]; exact r.zf a ha
  · obtain ⟨g1, g2, g3⟩ := r.dz a (by rw [fps_append]; exact List.mem_append_right _ ha)
    refine ⟨g1, ?_, g3⟩
    unfold hideF
    rw [if_neg fun h => ndd a h a ha rfl]
    exact g2
theorem Rep.unhide {l2 : List Sl} (r : Rep K Z F H (l ++ l')) (le : Le Z Z') (r2 : Rep K Z' (hideF F H l) H' l2) : Rep K Z' F H' (l ++ l2) := by
  have hin : ∀ a ∈ fps l, a ∈ fps (l ++ l') := fun a ha => by rw [fps_append]; exact List.mem_append_left _ ha
  have eH : ∀ a ∈ fps l, H' a = H a := fun a ha => by
    obtain ⟨_, _, g3⟩ := r.dz a (hin a ha)
    cases e : H a with
    | none => exact absurd e g3
    | some o => exact r2.fr a o (by unfold hideF; rw [if_pos ha]; exact e)
  have hF : ∀ a, F a ≠ none → hideF F H l a = F a := fun a ha => by
    unfold hideF
    exact if_neg fun h => ha (r.dz a (hin a h)).2.1
  have nd := r.nd
  rw [fps_append] at nd
  obtain ⟨nd1, _, _⟩ := List.nodup_append.mp nd
  refine ⟨r2.sub, fun a o e => r2.fr a o (by rw [hF a (by rw [e]; simp)]; exact e), fun a ha => ?_, fun p hp => ?_, ?_, fun a ha => ?_⟩
  · have h := r2.zf a (by rw [hF a ha]; exact ha)
    rw [hF a ha] at h
    exact h
  · rcases List.mem_append.mp hp with h | h
    · exact (r.sl p (List.mem_append_left _ h)).mono le fun a ha => eH a (mem_fps h ha)
    · exact r2.sl p h
  · rw [fps_append]
    refine List.nodup_append.mpr ⟨nd1, r2.nd, fun a h1 b h2 e => ?_⟩
    subst e
    have g := (r2.dz a h2).2.1
    unfold hideF at g
    rw [if_pos h1] at g
    exact (r.dz a (hin a h1)).2.2 g
  · rw [fps_append] at ha
    rcases List.mem_append.mp ha with h | h
    · obtain ⟨g1, g2, g3⟩ := r.dz a (hin a h)
      refine ⟨?_, g2, by rw [eH a h]; exact g3⟩
      have e : hideF F H l a = H a := by unfold hideF; exact if_pos h
      rcases r2.zf a (by rw [e]; exact g3) with z | ⟨xs, z⟩
      · exact z
      · rw [e] at z; exact absurd z (r.notup a (hin a h) xs)
    · obtain ⟨g1, g2, g3⟩ := r2.dz a h
      refine ⟨g1, ?_, g3⟩
      cases e : F a with
      | none => rfl
      | some o => rw [hF a (by rw [e]; simp), e] at g2; cases g2
/-- a tuple that stands somewhere is frozen -/
theorem Rep.addTup {q : Addr} {vs : List V} {ds : List D} (r : Rep K Z F H l) (hq : H q = some (.tup vs)) (f : FzL K Z ds vs) : ∃ Z', Le Z Z' ∧ Rep K Z' F H ((some (.ref q), .frz (.tup ds)) :: l) := by
  have le : Le Z (upd Z q (.tup vs)) := Le.of fun a o e => by
    by_cases h : a = q
    · rw [h, upd_same]
      rw [h] at e
      rcases r.sub q o e with z | ⟨_, _, z⟩ <;> (rw [hq] at z; cases z)
      rfl
    · rw [upd_ne h]; exact e
  refine ⟨upd Z q (.tup vs), le, Rep.frz ⟨fun a o e => ?_, r.fr, fun a ha => ?_, fun p hp => (r.sl p hp).mono le fun _ _ => rfl, r.nd, fun a ha => ?_⟩ ?_⟩
  · by_cases z : a = q
    · rw [z, upd_same] at e; cases e
      rw [z]; exact .inl hq
    · rw [upd_ne z] at e; exact r.sub a o e
  · by_cases z : a = q
    · rw [z] at ha ⊢
      cases e : F q with
      | none => exact absurd e ha
      | some o => have h := r.fr q o e; rw [hq] at h; cases h; exact .inr ⟨vs, rfl⟩
    · rw [upd_ne z]; exact r.zf a ha
  · obtain ⟨g1, g2, g3⟩ := r.dz a ha
    exact ⟨by rw [upd_ne (fun z => r.notup a ha vs (by rw [z]; exact hq))]; exact g1, g2, g3⟩
  · simp only [Fz]
    exact ⟨q, vs, rfl, upd_same, FzL.mono le ds vs f⟩
/-- a frozen dict is locked for good -/
theorem Rep.lock {d : Addr} {od : Obj} {u : HO} (r : Rep K Z F H l) (hz : Rd Z d u) (hd : isDic u = true) (hh : H d = some u) : ∃ Z', Le Z Z' ∧ Z' d = some (.frz od u) ∧ Rep K Z' F (upd H d (.frz od u)) l := by
  have hzd : Z d = some u := by
    rcases hz with h | ⟨ob, h⟩
    · exact h
    · rcases r.sub d _ h with z | ⟨_, i, _⟩
      · rw [hh] at z; cases z
      · cases i
  have le : Le Z (upd Z d (.frz od u)) := fun a o e => by
    by_cases h : a = d
    · rw [h] at e; rw [hzd] at e; cases e
      exact .inr ⟨od, hd, by rw [h, upd_same]⟩
    · exact .inl (by rw [upd_ne h]; exact e)
  have hn : ∀ a ∈ fps l, a ≠ d := fun a ha z => by
    have := (r.dz a ha).1
    rw [z, hzd] at this; cases this
  have hF : F d = none := by
    cases e : F d with
    | none => rfl
    | some o =>
      rcases r.zf d (by rw [e]; simp) with z | ⟨xs, z⟩
      · rw [hzd] at z; cases z
      · have h := r.fr d _ z; rw [hh] at h; cases h; cases hd
  refine ⟨upd Z d (.frz od u), le, upd_same, fun a o e => ?_, fun a o e => ?_, fun a ha => ?_, fun p hp => (r.sl p hp).mono le fun a ha => upd_ne (hn a (mem_fps hp ha)), r.nd, fun a ha => ?_⟩
  · by_cases z : a = d
    · rw [z, upd_same] at e ⊢; exact .inl e
    · rw [upd_ne z] at e ⊢; exact r.sub a o e
  · rw [upd_ne (fun z => by rw [z, hF] at e; cases e)]; exact r.fr a o e
  · rw [upd_ne (fun z => ha (by rw [z]; exact hF))]; exact r.zf a ha
  · obtain ⟨g1, g2, g3⟩ := r.dz a ha
    exact ⟨by rw [upd_ne (hn a ha)]; exact g1, g2, by rw [upd_ne (hn a ha)]; exact g3⟩
end
end Pl

namespace Pl
open PySem PySem.Spec PyProof.Rows L2
open Classical

abbrev Env := List M
abbrev PO := M → Env → Prop
abbrev XO := Str → D → Env → Prop
/-- an expression's transformer -/
abbrev WE := Env → PO → XO → Prop
/-- an operand: a frozen value, or what slot i holds (an object of its own at a), or an attribute of that object -/
inductive Op where
  | val (d : D) | loc (i : Nat) (a : Addr) | fld (i : Nat) (x : Str) (a : Addr)
abbrev WO := Env → (Op → Env → Prop) → XO → Prop
/-- a test's transformer -/
abbrev WT := Env → (Bool → Env → Prop) → XO → Prop
abbrev WA := Env → (List Op → Env → Prop) → XO → Prop

def Cn.own (a : Addr) : Cn → Option D
  | .lst b xs => if a = b then some (.lst xs) else none
  | .dic b t kvs => if a = b then some (.dic t kvs) else none
  | _ => none
def M.own (a : Addr) : M → Option D
  | .lst b xs => if a = b then some (.lst xs) else none
  | .dic b t kvs => if a = b then some (.dic t kvs) else none
  | .obj b dx c fs => if a = b then some (.obj c (fs.map fun p => (p.1, p.2.toD))) else none
  | _ => none
def resolve (env : Env) : Op → Option D
  | .val d => some d
  | .loc i a => match env[i]? with
    | some m => m.own a
    | none => none
  | .fld i x a => match env[i]? with
    | some (.obj _ _ _ fs) => (match fs.lookup x with
      | some c => c.own a
      | none => none)
    | _ => none
def resolveAll (env : Env) : List Op → Option (List D)
  | [] => some []
  | o :: r => match resolve env o, resolveAll env r with
    | some d, some ds => some (d :: ds)
    | _, _ => none

theorem Sub.rd' {Z H : Hp} {a : Addr} {o : HO} (e : Sub Z H) (h : Rd Z a o) : Rd H a o := Le.rd e h
/-- shallow: what a rule may read of v -/
def Acc (K : Fr) (Z H : Hp) : D → V → Prop
  | .lst xs, v => ∃ a vs, v = .ref a ∧ H a = some (.lst vs) ∧ FzL K Z xs vs
  | .dic false kvs, v => ∃ a ks, v = .ref a ∧ Rd H a (.dK ks) ∧ FzK K Z kvs ks
  | .dic true kvs, v => ∃ a ks, v = .ref a ∧ Rd H a (.dT ks) ∧ FzT K Z kvs ks
  | .obj c fs, v => ∃ a dx vs, v = .ref a ∧ H a = some (.ins (He.ga K c) dx vs)
  | .scr ns, v => ∃ a, v = .ref a ∧ SqL K H a (ns.map V.int)
  | .exc c d, v => Fz K Z (.exc c d) v
  | d, v => Fz K Z d v

section
variable {K : Fr} {Z Z' F H H' : Hp} {l l' : List Sl}
theorem Sub.seqL {a : Addr} {xs : List V} (e : Sub Z H) (h : SqL K Z a xs) : SqL K H a xs := by
  rcases h with (h | ⟨o, h⟩) | h
  · rcases e _ _ h with h | ⟨ob, i, h⟩
    · exact .inl (.inl h)
    · cases i
  · rcases e _ _ h with h | ⟨ob, i, h⟩
    · exact .inl (.inr ⟨o, h⟩)
    · cases i
  · exact .inr h
theorem Sub.seqT {a : Addr} {xs : List V} (e : Sub Z H) (h : SqT K Z a xs) : SqT K H a xs := by
  rcases h with (h | ⟨o, h⟩) | h
  · rcases e _ _ h with h | ⟨ob, i, h⟩
    · exact .inl (.inl h)
    · cases i
  · rcases e _ _ h with h | ⟨ob, i, h⟩
    · exact .inl (.inr ⟨o, h⟩)
    · cases i
  · exact .inr h
theorem Sub.ex {a : Addr} {o : HO} (e : Sub Z H) (h : Z a = some o) (d : isDic o = false) : H a = some o := by
  rcases e _ _ h with h | ⟨ob, i, h⟩
  · exact h
  · rw [d] at i; cases i
theorem Sub.rd {a : Addr} {o : HO} (e : Sub Z H) (h : Z a = some o) : Rd H a o := by
  rcases e _ _ h with h | ⟨ob, i, h⟩
  · exact .inl h
  · exact .inr ⟨ob, h⟩
theorem Acc.of (s : Sub Z H) : ∀ {d : D} {v : V}, Fz K Z d v → Acc K Z H d v
  | .non, _, h => h
  | .bl _, _, h => h
  | .int _, _, h => h
  | .str _, _, h => h
  | .tup xs, v, h => h
  | .lst xs, v, h => by
    simp only [Fz] at h
    obtain ⟨a, vs, e, q, l⟩ := h
    exact ⟨a, vs, e, s.ex q rfl, l⟩
  | .dic false kvs, v, h => by
    simp only [Fz] at h
    obtain ⟨a, ks, e, q, l⟩ := h
    exact ⟨a, ks, e, s.rd' q, l⟩
  | .dic true kvs, v, h => by
    simp only [Fz] at h
    obtain ⟨a, ks, e, q, l⟩ := h
    exact ⟨a, ks, e, s.rd' q, l⟩
  | .obj c fs, v, h => by
    simp only [Fz] at h
    obtain ⟨a, dx, vs, e, q, _⟩ := h
    exact ⟨a, dx, vs, e, s.ex q rfl⟩
  | .scr ns, v, h => by
    simp only [Fz] at h
    obtain ⟨a, e, q⟩ := h
    exact ⟨a, e, s.seqL q⟩
  | .exc c d, v, h => h
/-- an operand's value -/
def RepO (K : Fr) (Z : Hp) : Op → V → Prop
  | .val d, v => Fz K Z d v
  | .loc _ a, v => v = .ref a
  | .fld _ _ a, v => v = .ref a
theorem RepO.mono (le : Le Z Z') : ∀ {o : Op} {v : V}, RepO K Z o v → RepO K Z' o v
  | .val d, v, h => Fz.mono le d v h
  | .loc _ _, _, h => h
  | .fld _ _ _, _, h => h
def RepOs (K : Fr) (Z : Hp) : List Op → List V → Prop
  | [], vs => vs = []
  | o :: r, vs => ∃ v t, vs = v :: t ∧ RepO K Z o v ∧ RepOs K Z r t
theorem RepOs.mono (le : Le Z Z') : ∀ {o : List Op} {v : List V}, RepOs K Z o v → RepOs K Z' o v
  | [], _, h => h
  | o :: r, _, h => by
    obtain ⟨v, t, e, h1, h2⟩ := h
    exact ⟨v, t, e, h1.mono le, h2.mono le⟩
def AccL (K : Fr) (Z H : Hp) : List D → List V → Prop
  | [], vs => vs = []
  | d :: r, vs => ∃ v t, vs = v :: t ∧ Acc K Z H d v ∧ AccL K Z H r t
/-- the slots of a frame -/
abbrev zp (σ : L2.St) (env : Env) : List Sl := σ.zip env
theorem mem_zp {σ : L2.St} {env : Env} {i : Nat} {m : M} (hl : σ.length = env.length) (h : env[i]? = some m) : ∃ o, σ[i]? = some o ∧ (o, m) ∈ zp σ env := by
  obtain ⟨hi, e⟩ := List.getElem?_eq_some_iff.mp h
  have hi' : i < σ.length := by omega
  refine ⟨σ[i], List.getElem?_eq_getElem hi', ?_⟩
  rw [← e]
  refine List.mem_iff_getElem.mpr ⟨i, by simp [zp]; omega, by simp [zp]⟩
theorem lookup_ne_fp {fs : List (Str × Cn)} {vs : List (Str × V)} {x : Str} {c : Cn} (r : RepF K Z H fs vs) (h : fs.lookup x = some c) : ∃ v, vs.lookup x = some v ∧ RepC K Z H c v := by
  induction fs generalizing vs with
  | nil => simp at h
  | cons p fs ih =>
    obtain ⟨y, d⟩ := p
    obtain ⟨v, t, e, h1, h2⟩ := r
    subst e
    rw [List.lookup_cons] at h ⊢
    cases q : (x == y) with
    | true => rw [q] at h; cases h; exact ⟨v, rfl, h1⟩
    | false => rw [q] at h; exact ih h2 h
theorem Cn.own_acc {a : Addr} {c : Cn} {d : D} {v : V} (h : c.own a = some d) (r : RepC K Z H c v) : v = .ref a ∧ Acc K Z H d (.ref a) := by
  cases c with
  | hole _ => cases h
  | frz _ => cases h
  | lst b xs =>
    simp only [Cn.own] at h
    split at h
    · rename_i e; subst e; cases h
      obtain ⟨h1, vs, h2, h3⟩ := r
      exact ⟨h1, a, vs, rfl, h2, h3⟩
    · cases h
  | dic b t kvs =>
    simp only [Cn.own] at h
    split at h
    · rename_i e; subst e; cases h
      cases t with
      | false =>
        obtain ⟨e, ks, q, l⟩ := r
        exact ⟨e, a, ks, rfl, .inl q, l⟩
      | true =>
        obtain ⟨e, ks, q, l⟩ := r
        exact ⟨e, a, ks, rfl, .inl q, l⟩
    · cases h
theorem M.own_acc {a : Addr} {m : M} {d : D} {v : V} (h : m.own a = some d) (r : RepM K Z H m v) : Acc K Z H d (.ref a) := by
  cases m with
  | un => cases h
  | frz _ => cases h
  | lst b xs => exact (Cn.own_acc (c := .lst b xs) h r).2
  | dic b t kvs => exact (Cn.own_acc (c := .dic b t kvs) h r).2
  | obj b dx c fs =>
    simp only [M.own] at h
    split at h
    · rename_i e; subst e; cases h
      obtain ⟨h1, vs, h2, h3, h4⟩ := r
      exact ⟨a, dx, vs, rfl, h2⟩
    · cases h
theorem resolve_acc {σ : L2.St} {env : Env} {o : Op} {d : D} {v : V} (hl : σ.length = env.length) (r : Rep K Z F H (zp σ env)) (h : resolve env o = some d) (ro : RepO K Z o v) : Acc K Z H d v := by
  cases o with
  | val e =>
    cases h
    exact Acc.of r.sub ro
  | loc i a =>
    obtain rfl : v = .ref a := ro
    simp only [resolve] at h
    split at h
    · rename_i m hm
      obtain ⟨ov, _, hin⟩ := mem_zp hl hm
      rcases r.sl _ hin with z | ⟨u, _, q⟩
      · dsimp only at z; subst z; cases h
      · exact M.own_acc h q
    · cases h
  | fld i x a =>
    obtain rfl : v = .ref a := ro
    simp only [resolve] at h
    split at h
    · rename_i b dx c fs hm
      obtain ⟨ov, _, hin⟩ := mem_zp hl hm
      rcases r.sl _ hin with z | ⟨u, _, q⟩
      · cases z
      · split at h
        · rename_i cn hc
          obtain ⟨_, vs, _, _, h4⟩ := q
          obtain ⟨w, _, rc⟩ := lookup_ne_fp h4 hc
          exact (Cn.own_acc h rc).2
        · cases h
    · cases h
theorem resolveAll_acc {σ : L2.St} {env : Env} : ∀ {os : List Op} {ds : List D} {vs : List V}, σ.length = env.length → Rep K Z F H (zp σ env) → resolveAll env os = some ds → RepOs K Z os vs → AccL K Z H ds vs
  | [], ds, vs, _, _, h, ro => by cases h; exact ro
  | o :: os, ds, vs, hl, r, h, ro => by
    obtain ⟨v, t, e, h1, h2⟩ := ro
    simp only [resolveAll] at h
    split at h
    · rename_i d ds' hd hds
      cases h
      exact ⟨v, t, e, resolve_acc hl r hd h1, resolveAll_acc hl r hds h2⟩
    · cases h
end

/-! ### readings -/
/-- the wish of an exception, by the frame's slots -/
def XW (K : Fr) (W : WX) (σ : L2.St) (F Z : Hp) (n : Nat) (E : XO) : Prop :=
  ∀ c d env' Z' H' dx y, E c d env' → Le Z Z' → env'.length = n → Rep K Z' F H' (zp σ env') → Z' dx = some (.xd [("value", y)]) → Fz K Z' d y → W (.ref (He.ga K c)) (some dx) σ H'
theorem XW.mono {K : Fr} {W : WX} {σ : L2.St} {F Z Z1 : Hp} {n : Nat} {E : XO} (h : XW K W σ F Z n E) (le : Le Z Z1) : XW K W σ F Z1 n E :=
  fun c d env' Z' H' dx y e l q r h1 h2 => h c d env' Z' H' dx y e (le.trans l) q r h1 h2
/-- an expression's reading -/
def Rd_ (K : Fr) (W : WX) (w : WE) : TE := fun σ H Q => ∃ Z F env P E, σ.length = env.length ∧ Rep K Z F H (zp σ env) ∧ w env P E ∧
  (∀ r env' Z' H' v, P r env' → Le Z Z' → env'.length = env.length → Rep K Z' F H' ((some v, r) :: zp σ env') → Q v H') ∧ XW K W σ F Z env.length E
def RdO (K : Fr) (W : WX) (w : WO) : TE := fun σ H Q => ∃ Z F env P E, σ.length = env.length ∧ Rep K Z F H (zp σ env) ∧ w env P E ∧
  (∀ o env' Z' H' v, P o env' → Le Z Z' → env'.length = env.length → Rep K Z' F H' (zp σ env') → RepO K Z' o v → Q v H') ∧ XW K W σ F Z env.length E
def RdA (K : Fr) (W : WX) (w : WA) : TA := fun σ H Q => ∃ Z F env P E, σ.length = env.length ∧ Rep K Z F H (zp σ env) ∧ w env P E ∧
  (∀ os env' Z' H' vs, P os env' → Le Z Z' → env'.length = env.length → Rep K Z' F H' (zp σ env') → RepOs K Z' os vs → Q vs H') ∧ XW K W σ F Z env.length E
def RdT (K : Fr) (W : WX) (w : WT) : TT := fun σ H Q => ∃ Z F env P E, σ.length = env.length ∧ Rep K Z F H (zp σ env) ∧ w env P E ∧
  (∀ b env' Z' H', P b env' → Le Z Z' → env'.length = env.length → Rep K Z' F H' (zp σ env') → Q b H') ∧ XW K W σ F Z env.length E

abbrev GE (X : Cx) (W : WX) (e : Expr) (w : WE) : Prop := PE X e (Rd_ X.K W w)
abbrev GO (X : Cx) (W : WX) (e : Expr) (w : WO) : Prop := PE X e (RdO X.K W w)
abbrev GT (X : Cx) (W : WX) (e : Expr) (w : WT) : Prop := PT X e (RdT X.K W w)
abbrev GA (X : Cx) (W : WX) (es : List Expr) (w : WA) : Prop := PA X es (RdA X.K W w)
theorem _root_.L2.PE.imp {X : Cx} {e : Expr} {t t' : TE} (h : PE X e t) (i : ∀ σ H Q, t' σ H Q → t σ H Q) : PE X e t' := ⟨fun pins s σ H Q I h' => h.run pins s σ H Q I (i σ H Q h')⟩
theorem _root_.L2.PT.imp {X : Cx} {e : Expr} {t t' : TT} (h : PT X e t) (i : ∀ σ H Q, t' σ H Q → t σ H Q) : PT X e t' := ⟨fun pins s σ H Q I h' => h.run pins s σ H Q I (i σ H Q h')⟩
theorem _root_.L2.PA.imp {X : Cx} {e : List Expr} {t t' : TA} (h : PA X e t) (i : ∀ σ H Q, t' σ H Q → t σ H Q) : PA X e t' := ⟨fun pos pins s σ H Q I h' => h.run pos pins s σ H Q I (i σ H Q h')⟩

/-! ### operands -/
/-- any expression as an operand: its value is frozen -/
def wVal (w : WE) : WO := fun env P E => w env (fun r env' => r.full ∧ P (.val r.toD) env') E
/-- a name as an operand: what it owns stays its own -/
def wSlot (i : Nat) : WO := fun env P _ => match env[i]? with
  | some (.frz d) => P (.val d) env
  | some (.lst a _) => P (.loc i a) env
  | some (.dic a _ _) => P (.loc i a) env
  | some (.obj a _ _ _) => P (.loc i a) env
  | _ => False
section
variable {X : Cx} {W : WX} {a b c e : Expr} {pos : Pos}
theorem go_val {w : WE} (h : GE X W a w) : GO X W a (wVal w) := by
  refine h.imp fun σ H Q ⟨Z, F, env, P, E, hl, r, hw, hP, hE⟩ => ⟨Z, F, env, _, E, hl, r, hw, ?_, hE⟩
  rintro m env' Z' H' v ⟨hm, hp⟩ le hl' r'
  obtain ⟨Z2, le2, r2⟩ := r'.freeze hm
  exact hP (.val m.toD) env' Z2 H' v hp (le.trans le2) hl' r2.tail r2.fz
theorem go_slot {i : Nat} {x : Str} (hN : X.N[i]? = some x) (hv : Vis X.env.scope x) (hd : (x == ("__debug__" : Str)) = false) (hcd : (x == ("__classdict__" : Str)) = false) : GO X W (.Name x pos) (wSlot i) := by
  refine (pe_var (i := i) hN hv hd hcd).imp fun σ H Q ⟨Z, F, env, P, E, hl, r, hw, hP, hE⟩ => ?_
  simp only [wSlot] at hw
  have key : ∀ m, env[i]? = some m → m ≠ .un → ∃ v, σ[i]? = some (some v) ∧ RepM X.K Z H m v := fun m hm hn => by
    obtain ⟨ov, h1, h2⟩ := mem_zp hl hm
    rcases r.sl _ h2 with z | ⟨v, z, q⟩
    · exact absurd z hn
    · dsimp only at z; subst z; exact ⟨v, h1, q⟩
  split at hw
  · rename_i d hm
    obtain ⟨v, h1, h2⟩ := key _ hm (fun z => by cases z)
    exact ⟨v, h1, hP _ _ Z H v hw (Le.refl Z) rfl r h2⟩
  · rename_i ad xs hm
    obtain ⟨v, h1, h2⟩ := key _ hm (fun z => by cases z)
    exact ⟨v, h1, hP _ _ Z H v hw (Le.refl Z) rfl r h2.1⟩
  · rename_i ad _ xs hm
    obtain ⟨v, h1, h2⟩ := key _ hm (fun z => by cases z)
    exact ⟨v, h1, hP _ _ Z H v hw (Le.refl Z) rfl r h2.1⟩
  · rename_i ad dx cc fs hm
    obtain ⟨v, h1, h2⟩ := key _ hm (fun z => by cases z)
    exact ⟨v, h1, hP _ _ Z H v hw (Le.refl Z) rfl r h2.1⟩
  · exact hw.elim
end
end Pl

namespace Pl
open PySem PySem.Spec PyProof.Rows L2
open Classical

/-! ### equality of data -/
mutual
def D.pd : D → PyData
  | .non => .none
  | .bl b => .bool b
  | .int i => .int i
  | .str x => .str x
  | .tup xs => .tuple (pdL xs)
  | .lst xs => .list (pdL xs)
  | .dic _ _ => .dict []
  | .obj _ _ => .dict []
  | .exc _ _ => .dict []
  | .scr _ => .dict []
def pdL : List D → List PyData
  | [] => []
  | d :: r => d.pd :: pdL r
end
theorem beq_dec {α : Type} [BEq α] [LawfulBEq α] (x y : α) : (x == y) = decide (x = y) := by
  by_cases h : x = y
  · subst h; simp
  · rw [decide_eq_false h]; exact beq_eq_false_iff_ne.mpr h
mutual
/-- plain data of depth n at most; b: without bools, else without ints -/
def okD (b : Bool) : D → Nat → Prop
  | .non, _ => True
  | .bl _, _ => b = false
  | .int _, _ => b = true
  | .str x, _ => PyData.strOk x = true
  | .tup xs, n => 0 < n ∧ okL b xs (n - 1)
  | .lst xs, n => 0 < n ∧ okL b xs (n - 1)
  | _, _ => False
def okL (b : Bool) : List D → Nat → Prop
  | [], _ => True
  | d :: r, n => okD b d n ∧ okL b r n
end
theorem okL_iff {b : Bool} {n : Nat} : ∀ {xs : List D}, okL b xs n ↔ ∀ d ∈ xs, okD b d n
  | [] => by simp [okL]
  | d :: r => by simp [okL, okL_iff (xs := r)]
mutual
theorem eqv_dec {b : Bool} : ∀ (d e : D) (n m : Nat), okD b d n → okD b e m → PyData.eqv d.pd e.pd = decide (d = e)
  | .non, e, _, _, _, h => by cases e <;> simp_all [okD, D.pd, PyData.eqv]
  | .bl x, e, _, _, h, h2 => by
    cases e <;> simp_all [okD, D.pd, PyData.eqv]
    cases x <;> rename_i y <;> cases y <;> simp
  | .int x, e, _, _, h, h2 => by cases e <;> simp_all [okD, D.pd, PyData.eqv, beq_dec]
  | .str x, e, _, _, h, h2 => by cases e <;> simp_all [okD, D.pd, PyData.eqv, beq_dec]
  | .tup xs, e, n, m, h, h2 => by
    cases e with
    | tup ys =>
      simp only [okD] at h h2
      simp only [D.pd, PyData.eqv]
      rw [eqvAll_dec xs ys _ _ h.2 h2.2]
      simp
    | _ => simp_all [okD, D.pd, PyData.eqv]
  | .lst xs, e, n, m, h, h2 => by
    cases e with
    | lst ys =>
      simp only [okD] at h h2
      simp only [D.pd, PyData.eqv]
      rw [eqvAll_dec xs ys _ _ h.2 h2.2]
      simp
    | _ => simp_all [okD, D.pd, PyData.eqv]
  | .dic _ _, _, _, _, h, _ => by simp [okD] at h
  | .obj _ _, _, _, _, h, _ => by simp [okD] at h
  | .exc _ _, _, _, _, h, _ => by simp [okD] at h
  | .scr _, _, _, _, h, _ => by simp [okD] at h
theorem eqvAll_dec {b : Bool} : ∀ (d e : List D) (n m : Nat), okL b d n → okL b e m → PyData.eqvAll (pdL d) (pdL e) = decide (d = e)
  | [], [], _, _, _, _ => by simp [pdL, PyData.eqvAll]
  | [], _ :: _, _, _, _, _ => by simp [pdL, PyData.eqvAll]
  | _ :: _, [], _, _, _, _ => by simp [pdL, PyData.eqvAll]
  | x :: xs, y :: ys, n, m, h, h2 => by
    simp only [okL] at h h2
    simp only [pdL, PyData.eqvAll]
    rw [eqv_dec x y n m h.1 h2.1, eqvAll_dec xs ys n m h.2 h2.2]
    simp
end
mutual
theorem okD_lay {b : Bool} : ∀ (d : D) (n : Nat), okD b d n → d.pd.canLay0 = true
  | .non, _, _ => rfl
  | .bl _, _, _ => rfl
  | .int _, _, _ => rfl
  | .str _, _, h => by simp only [okD] at h; simp only [D.pd, PyData.canLay0]; exact h
  | .tup xs, n, h => by simp only [okD] at h; simp only [D.pd, PyData.canLay0]; exact okL_lay xs _ h.2
  | .lst xs, n, h => by simp only [okD] at h; simp only [D.pd, PyData.canLay0]; exact okL_lay xs _ h.2
  | .dic _ _, _, h => by simp [okD] at h
  | .obj _ _, _, h => by simp [okD] at h
  | .exc _ _, _, h => by simp [okD] at h
  | .scr _, _, h => by simp [okD] at h
theorem okL_lay {b : Bool} : ∀ (d : List D) (n : Nat), okL b d n → PyData.canLayAll0 (pdL d) = true
  | [], _, _ => rfl
  | x :: xs, n, h => by simp only [okL] at h; simp only [pdL, PyData.canLayAll0, okD_lay x n h.1, okL_lay xs n h.2, Bool.and_self]
end
mutual
theorem okD_depth {b : Bool} : ∀ (d : D) (n : Nat), okD b d n → d.pd.depth ≤ n
  | .non, _, _ => Nat.zero_le _
  | .bl _, _, _ => Nat.zero_le _
  | .int _, _, _ => Nat.zero_le _
  | .str _, _, _ => Nat.zero_le _
  | .tup xs, n, h => by simp only [okD] at h; simp only [D.pd, PyData.depth]; have := okL_depth xs _ h.2; omega
  | .lst xs, n, h => by simp only [okD] at h; simp only [D.pd, PyData.depth]; have := okL_depth xs _ h.2; omega
  | .dic _ _, _, h => by simp [okD] at h
  | .obj _ _, _, h => by simp [okD] at h
  | .exc _ _, _, h => by simp [okD] at h
  | .scr _, _, h => by simp [okD] at h
theorem okL_depth {b : Bool} : ∀ (d : List D) (n : Nat), okL b d n → PyData.depthAll (pdL d) ≤ n
  | [], _, _ => Nat.zero_le _
  | x :: xs, n, h => by
    simp only [okL] at h
    have h1 := okD_depth x n h.1
    have h2 := okL_depth xs n h.2
    simp only [pdL, PyData.depthAll]
    omega
end
theorem okD_shaped {b : Bool} {d : D} {n : Nat} (h : okD b d n) (hn : n ≤ 64) : SeqAt.shaped d.pd = true := by
  unfold SeqAt.shaped
  rw [Bool.and_eq_true]
  exact ⟨okD_lay d n h, decide_eq_true (Nat.le_trans (okD_depth d n h) hn)⟩
mutual
theorem okD.dp {b : Bool} {K : Fr} {Z H : Hp} (s : Sub Z H) : ∀ (d : D) (n : Nat) (v : V), okD b d n → Fz K Z d v → Dp K H v d.pd
  | .non, _, v, _, h => by simp only [Fz] at h; subst h; exact .non
  | .bl _, _, v, _, h => by simp only [Fz] at h; subst h; exact .bl _
  | .int _, _, v, _, h => by simp only [Fz] at h; subst h; exact .int _
  | .str _, _, v, _, h => by simp only [Fz] at h; subst h; exact .str _
  | .tup xs, n, v, o, h => by
    simp only [okD] at o
    simp only [Fz] at h
    obtain ⟨a, vs, rfl, q, l⟩ := h
    exact .tup (.inl (.inl (s.ex q rfl))) (okL.dp s xs _ vs o.2 l)
  | .lst xs, n, v, o, h => by
    simp only [okD] at o
    simp only [Fz] at h
    obtain ⟨a, vs, rfl, q, l⟩ := h
    exact .lst (.inl (.inl (s.ex q rfl))) (okL.dp s xs _ vs o.2 l)
  | .dic _ _, _, _, o, _ => by simp [okD] at o
  | .obj _ _, _, _, o, _ => by simp [okD] at o
  | .exc _ _, _, _, o, _ => by simp [okD] at o
  | .scr _, _, _, o, _ => by simp [okD] at o
theorem okL.dp {b : Bool} {K : Fr} {Z H : Hp} (s : Sub Z H) : ∀ (d : List D) (n : Nat) (v : List V), okL b d n → FzL K Z d v → DpAll K H v (pdL d)
  | [], _, v, _, h => by simp only [FzL] at h; subst h; exact .nil
  | x :: xs, n, v, o, h => by
    simp only [okL] at o
    simp only [FzL] at h
    obtain ⟨y, t, rfl, h1, h2⟩ := h
    exact .cons (okD.dp s x n y o.1 h1) (okL.dp s xs n t o.2 h2)
end
/-- an operand's value, as data -/
theorem Acc.dp {b : Bool} {K : Fr} {Z H : Hp} (s : Sub Z H) {d : D} {n : Nat} {v : V} (o : okD b d n) (h : Acc K Z H d v) : Dp K H v d.pd := by
  cases d with
  | tup xs => exact okD.dp s _ n v o h
  | lst xs =>
    simp only [okD] at o
    obtain ⟨a, vs, rfl, q, l⟩ := h
    exact .lst (.inl (.inl q)) (okL.dp s xs _ vs o.2 l)
  | non => exact okD.dp s _ n v o h
  | bl _ => exact okD.dp s _ n v o h
  | int _ => exact okD.dp s _ n v o h
  | str _ => exact okD.dp s _ n v o h
  | dic _ _ => simp [okD] at o
  | obj _ _ => simp [okD] at o
  | exc _ _ => simp [okD] at o
  | scr _ => simp [okD] at o

/-! ### operations of two values -/
abbrev PM := M → Prop
abbrev G2 := D → D → PM → Prop
/-- the result: m stands for v behind, whatever the frame holds -/
def Rp (K : Fr) (Z H : Hp) (P : PM) (Q : VK) : Prop := ∀ m Z' H' v, P m → Le Z Z' → (∀ F l, Rep K Z F H l → Rep K Z' F H' ((some v, m) :: l)) → Q v H'
theorem Rp.val {K : Fr} {Z H : Hp} {P : PM} {Q : VK} (r : Rp K Z H P Q) {d : D} {v : V} (h : P (.frz d)) (f : Fz K Z d v) : Q v H := r (.frz d) Z H v h (Le.refl Z) fun F l q => q.frz f
theorem Rp.newLst {K : Fr} {Z H : Hp} {P : PM} {Q : VK} (r : Rp K Z H P Q) {xs : List D} {vs : List V} (h : ∀ p, P (.lst p xs)) (f : FzL K Z xs vs) (p : Addr) (hp : H p = none) : Q (.ref p) (upd H p (.lst vs)) :=
  r (.lst p xs) Z _ _ (h p) (Le.refl Z) fun F l q => q.newLst hp f
/-- of a new tuple -/
def tupZ (Z : Hp) (p : Addr) (vs : List V) : Hp := upd Z p (.tup vs)
theorem Rep.newTup' {K : Fr} {Z F H : Hp} {l : List Sl} {p : Addr} {xs : List D} {vs : List V} (r : Rep K Z F H l) (hp : H p = none) (h : FzL K Z xs vs) :
    Le Z (tupZ Z p vs) ∧ Rep K (tupZ Z p vs) F (upd H p (.tup vs)) ((some (.ref p), .frz (.tup xs)) :: l) := by
  obtain ⟨h1, h2, h3⟩ := r.freeAt hp
  have r1 := r.alloc (o := .tup vs) hp
  have le : Le Z (tupZ Z p vs) := Le.of fun a o e => by
    unfold tupZ
    rw [upd_ne (fun z => by rw [z, h1] at e; cases e)]; exact e
  refine ⟨le, Rep.frz ⟨fun a o e => ?_, r1.fr, fun a ha => ?_, fun q hq => (r1.sl q hq).mono le fun _ _ => rfl, r1.nd, fun a ha => ?_⟩ ?_⟩
  · unfold tupZ at e
    by_cases z : a = p
    · rw [z, upd_same] at e
      exact .inl (by rw [z, upd_same]; exact e)
    · rw [upd_ne z] at e
      exact r1.sub a o e
  · have : a ≠ p := fun z => ha (by rw [z]; exact h2)
    unfold tupZ
    rw [upd_ne this]; exact r.zf a ha
  · obtain ⟨g1, g2, g3⟩ := r1.dz a ha
    exact ⟨by unfold tupZ; rw [upd_ne (fun z => h3 (by rw [← z]; exact ha))]; exact g1, g2, g3⟩
  · simp only [Fz]
    exact ⟨p, vs, rfl, upd_same, FzL.mono le xs vs h⟩
theorem Sub.free {Z H : Hp} (s : Sub Z H) {p : Addr} (hp : H p = none) : Z p = none := by
  cases e : Z p with
  | none => rfl
  | some o => rcases s p o e with h | ⟨_, _, h⟩ <;> (rw [hp] at h; cases h)
theorem Rp.newTup {K : Fr} {Z H : Hp} {P : PM} {Q : VK} (r : Rp K Z H P Q) (s : Sub Z H) {xs : List D} {vs : List V} (h : P (.frz (.tup xs))) (f : FzL K Z xs vs) (p : Addr) (hp : H p = none) : Q (.ref p) (upd H p (.tup vs)) := by
  have h1 := s.free hp
  refine r (.frz (.tup xs)) (tupZ Z p vs) _ _ h (Le.of fun a o e => ?_) fun F l q => (q.newTup' hp f).2
  unfold tupZ
  rw [upd_ne (fun z => by rw [z, h1] at e; cases e)]; exact e
/-- the operation f of two values, as g says -/
def Op2 (X : Cx) (f : Value → Value → Sem Value) (g : G2) : Prop :=
  ∀ Z H x y dx dy P Q, Sub Z H → Acc X.K Z H dx x → Acc X.K Z H dy y → g dx dy P → Rp X.K Z H P Q → ∃ r, OpR X f r ∧ r x y H Q
def anyR (X : Cx) (f : Value → Value → Sem Value) : R2 := fun x y H Q => ∃ r, OpR X f r ∧ r x y H Q
theorem opAny {X : Cx} {f : Value → Value → Sem Value} : OpR X f (anyR X f) := fun pins s σ H x y v u Q I rx ry ⟨r, h, q⟩ => h pins s σ H x y v u Q I rx ry q

def w2 (g : G2) (wa wb : WO) : WE := fun env P E => wa env (fun o1 e1 => wb e1 (fun o2 e2 => ∃ d1 d2, resolve e2 o1 = some d1 ∧ resolve e2 o2 = some d2 ∧ g d1 d2 (fun m => P m e2)) E) E
section
variable {X : Cx} {W : WX} {a b c e : Expr} {pos : Pos}
theorem red2 {f : Value → Value → Sem Value} {g : G2} {wa wb : WO} (ho : Op2 X f g) (σ : L2.St) (H : Hp) (Q : VK) (h : Rd_ X.K W (w2 g wa wb) σ H Q) : tOp (anyR X f) (RdO X.K W wa) (RdO X.K W wb) σ H Q := by
  obtain ⟨Z, F, env, P, E, hl, r, hw, hP, hE⟩ := h
  refine ⟨Z, F, env, _, E, hl, r, hw, fun o1 e1 Z1 H1 v1 h1 le1 l1 r1 q1 => ?_, hE⟩
  refine ⟨Z1, F, e1, _, E, by omega, r1, h1, fun o2 e2 Z2 H2 v2 h2 le2 l2 r2 q2 => ?_, by rw [l1]; exact hE.mono le1⟩
  obtain ⟨d1, d2, g1, g2, hg⟩ := h2
  have hl2 : σ.length = e2.length := by omega
  refine ho Z2 H2 v1 v2 d1 d2 _ Q r2.sub (resolve_acc hl2 r2 g1 (q1.mono le2)) (resolve_acc hl2 r2 g2 q2) hg fun m Z3 H3 v hp le3 k => ?_
  exact hP m e2 Z3 H3 v hp ((le1.trans le2).trans le3) (by omega) (k F _ r2)
theorem g_bin {op : Operator} {g : G2} {wa wb : WO} (ho : Op2 X (binaryOp op) g) (ha : GO X W a wa) (hb : GO X W b wb) : GE X W (.BinOp a op b pos) (w2 g wa wb) :=
  (pe_op opAny ha hb).imp (red2 ho)
theorem g_cmp {op : CmpOp} {g : G2} {wa wb : WO} (ho : Op2 X (compareOp op) g) (ha : GO X W a wa) (hb : GO X W b wb) (hm : behindInMarks op b = false) : GE X W (.Compare a [op] [b] pos) (w2 g wa wb) :=
  (pe_cmpR opAny ha hb hm).imp (red2 ho)
end
end Pl

namespace Pl
open PySem PySem.Spec PyProof.Rows L2
open Classical

/-! ### dicts -/
noncomputable def dget : List (D × D) → D → Option D
  | [], _ => none
  | (k', d) :: r, k => if k' = k then some d else dget r k
def dhas (kvs : List (D × D)) (k : D) : Prop := ∃ p ∈ kvs, p.1 = k
noncomputable def dput (kvs : List (D × D)) (k d : D) : List (D × D) := if dhas kvs k then kvs.map (fun p => if p.1 = k then (p.1, d) else p) else kvs ++ [(k, d)]
def keyOk (t : Bool) (k : D) : Prop := match t with
  | false => (keyOf k).isSome = true
  | true => (keysOf k).isSome = true
theorem keyOf_inj {a b : D} {q : Key} (h : keyOf a = some q) (h2 : keyOf b = some q) : a = b := by
  cases a <;> cases b <;> simp [keyOf] at h h2 <;> (try (subst h; simp at h2; rw [h2]))
  all_goals (subst h; cases h2)
theorem keysL_inj : ∀ {a b : List D} {q : List Key}, keysL a = some q → keysL b = some q → a = b
  | [], [], _, _, _ => rfl
  | [], d :: r, q, h, h2 => by
    simp only [keysL, Option.some.injEq] at h
    subst h
    simp only [keysL] at h2
    split at h2 <;> simp at h2
  | d :: r, [], q, h, h2 => by
    simp only [keysL, Option.some.injEq] at h2
    subst h2
    simp only [keysL] at h
    split at h <;> simp at h
  | d :: r, e :: t, q, h, h2 => by
    simp only [keysL] at h h2
    split at h
    · rename_i k ks hk hks
      split at h2
      · rename_i k' ks' hk' hks'
        cases h
        simp only [Option.some.injEq, List.cons.injEq] at h2
        obtain ⟨rfl, rfl⟩ := h2
        rw [keyOf_inj hk hk', keysL_inj hks hks']
      · cases h2
    · cases h
theorem keysOf_inj {a b : D} {q : List Key} (h : keysOf a = some q) (h2 : keysOf b = some q) : a = b := by
  cases a <;> simp only [keysOf] at h <;> try cases h
  cases b <;> simp only [keysOf] at h2 <;> try cases h2
  rw [keysL_inj h h2]
/-- what a look-up tells -/
def RelOD (K : Fr) (Z : Hp) : Option D → Option V → Prop
  | some d, some v => Fz K Z d v
  | none, none => True
  | _, _ => False
def KvR {κ : Type} (kf : D → Option κ) (K : Fr) (Z : Hp) : List (D × D) → List (κ × V) → Prop
  | [], ks => ks = []
  | (k, d) :: r, ks => ∃ q v t, ks = (q, v) :: t ∧ kf k = some q ∧ Fz K Z d v ∧ KvR kf K Z r t
theorem FzK_iff {K : Fr} {Z : Hp} : ∀ {kvs : List (D × D)} {ks : List (Key × V)}, FzK K Z kvs ks ↔ KvR keyOf K Z kvs ks
  | [], ks => by simp [FzK, KvR]
  | (k, d) :: r, ks => by simp only [FzK, KvR, FzK_iff (kvs := r)]
theorem FzT_iff {K : Fr} {Z : Hp} : ∀ {kvs : List (D × D)} {ks : List (List Key × V)}, FzT K Z kvs ks ↔ KvR keysOf K Z kvs ks
  | [], ks => by simp [FzT, KvR]
  | (k, d) :: r, ks => by simp only [FzT, KvR, FzT_iff (kvs := r)]
section
variable {K : Fr} {Z H : Hp} {κ : Type} [DecidableEq κ] {kf : D → Option κ}
theorem KvR.get (inj : ∀ {a b : D} {q : κ}, kf a = some q → kf b = some q → a = b) : ∀ {kvs : List (D × D)} {ks : List (κ × V)} {k : D} {q : κ}, KvR kf K Z kvs ks → kf k = some q → RelOD K Z (dget kvs k) (valV ks q)
  | [], ks, k, q, h, _ => by
    obtain rfl : ks = [] := h
    trivial
  | (k', d) :: r, ks, k, q, h, hk => by
    obtain ⟨q', v, t, rfl, h1, h2, h3⟩ := h
    simp only [dget]
    by_cases e : k' = k
    · subst e
      rw [h1] at hk; cases hk
      rw [if_pos rfl, valV_pos (p := (q, v)) rfl]
      exact h2
    · have ne : ¬ (q', v).1 = q := fun z => e (inj h1 (by rw [show q' = q from z]; exact hk))
      rw [if_neg e, valV_neg ne]
      exact KvR.get inj h3 hk
theorem KvR.has (inj : ∀ {a b : D} {q : κ}, kf a = some q → kf b = some q → a = b) : ∀ {kvs : List (D × D)} {ks : List (κ × V)} {k : D} {q : κ}, KvR kf K Z kvs ks → kf k = some q → (dhas kvs k ↔ (ks.any fun kv => decide (kv.1 = q)) = true)
  | [], ks, k, q, h, _ => by
    obtain rfl : ks = [] := h
    simp [dhas]
  | (k', d) :: r, ks, k, q, h, hk => by
    obtain ⟨q', v, t, rfl, h1, h2, h3⟩ := h
    have ih := KvR.has inj h3 hk
    have e : k' = k ↔ q' = q := ⟨fun z => by subst z; rw [h1] at hk; exact Option.some.inj hk, fun z => by subst z; exact inj h1 hk⟩
    unfold dhas at ih ⊢
    simp only [List.mem_cons, exists_eq_or_imp, List.any_cons, Bool.or_eq_true, decide_eq_true_eq]
    rw [ih, e]
theorem KvR.map (inj : ∀ {a b : D} {q : κ}, kf a = some q → kf b = some q → a = b) : ∀ {kvs : List (D × D)} {ks : List (κ × V)} {k d : D} {q : κ} {v : V}, KvR kf K Z kvs ks → kf k = some q → Fz K Z d v →
    KvR kf K Z (kvs.map (fun p => if p.1 = k then (p.1, d) else p)) (ks.map fun kv => if kv.1 = q then (kv.1, v) else kv)
  | [], ks, k, d, q, v, h, _, _ => by
    obtain rfl : ks = [] := h
    rfl
  | (k', d') :: r, ks, k, d, q, v, h, hk, hd => by
    obtain ⟨q', v', t, rfl, h1, h2, h3⟩ := h
    have e : k' = k ↔ q' = q := ⟨fun z => by subst z; rw [h1] at hk; exact Option.some.inj hk, fun z => by subst z; exact inj h1 hk⟩
    have ih := KvR.map inj h3 hk hd
    simp only [List.map_cons]
    by_cases z : k' = k
    · rw [if_pos z, if_pos (e.mp z)]
      exact ⟨q', v, _, rfl, h1, hd, ih⟩
    · rw [if_neg z, if_neg (fun y => z (e.mpr y))]
      exact ⟨q', v', _, rfl, h1, h2, ih⟩
theorem KvR.snoc : ∀ {kvs : List (D × D)} {ks : List (κ × V)} {k d : D} {q : κ} {v : V}, KvR kf K Z kvs ks → kf k = some q → Fz K Z d v → KvR kf K Z (kvs ++ [(k, d)]) (ks ++ [(q, v)])
  | [], ks, k, d, q, v, h, hk, hd => by
    obtain rfl : ks = [] := h
    exact ⟨q, v, [], rfl, hk, hd, rfl⟩
  | (k', d') :: r, ks, k, d, q, v, h, hk, hd => by
    obtain ⟨q', v', t, rfl, h1, h2, h3⟩ := h
    exact ⟨q', v', _, rfl, h1, h2, KvR.snoc h3 hk hd⟩
theorem KvR.put (inj : ∀ {a b : D} {q : κ}, kf a = some q → kf b = some q → a = b) {kvs : List (D × D)} {ks : List (κ × V)} {k d : D} {q : κ} {v : V} (h : KvR kf K Z kvs ks) (hk : kf k = some q) (hd : Fz K Z d v) :
    KvR kf K Z (dput kvs k d) (putK ks q v) := by
  unfold dput putK
  by_cases z : dhas kvs k
  · rw [if_pos z, if_pos ((KvR.has inj h hk).mp z)]
    exact h.map inj hk hd
  · rw [if_neg z, if_neg (fun y => z ((KvR.has inj h hk).mpr y))]
    exact h.snoc hk hd
theorem KvR.length : ∀ {kvs : List (D × D)} {ks : List (κ × V)}, KvR kf K Z kvs ks → kvs.length = ks.length
  | [], ks, h => by
    obtain rfl : ks = [] := h
    rfl
  | (k', d') :: r, ks, h => by
    obtain ⟨q', v', t, rfl, h1, h2, h3⟩ := h
    simp [KvR.length h3]
end
theorem FzL.length {K : Fr} {Z : Hp} : ∀ {ds : List D} {vs : List V}, FzL K Z ds vs → ds.length = vs.length
  | [], vs, h => by simp only [FzL] at h; subst h; rfl
  | d :: r, vs, h => by
    simp only [FzL] at h
    obtain ⟨v, t, rfl, _, h2⟩ := h
    simp [FzL.length h2]
theorem FzL.get {K : Fr} {Z : Hp} : ∀ {ds : List D} {vs : List V} {i : Nat} {d : D}, FzL K Z ds vs → ds[i]? = some d → ∃ v, vs[i]? = some v ∧ Fz K Z d v
  | [], vs, i, d, h, e => by simp at e
  | x :: r, vs, i, d, h, e => by
    simp only [FzL] at h
    obtain ⟨v, t, rfl, h1, h2⟩ := h
    cases i with
    | zero => simp at e; subst e; exact ⟨v, rfl, h1⟩
    | succ i => simp at e; simpa using FzL.get h2 e
theorem FzL.get' {K : Fr} {Z : Hp} {ds : List D} {vs : List V} {i : Nat} {v : V} (h : FzL K Z ds vs) (e : vs[i]? = some v) : ∃ d, ds[i]? = some d ∧ Fz K Z d v := by
  have hl := h.length
  obtain ⟨hi, e'⟩ := List.getElem?_eq_some_iff.mp e
  have hi2 : i < ds.length := by omega
  obtain ⟨w, hw, f⟩ := h.get (List.getElem?_eq_getElem hi2)
  rw [e] at hw; cases hw
  exact ⟨_, List.getElem?_eq_getElem hi2, f⟩
theorem FzL.append {K : Fr} {Z : Hp} : ∀ {ds es : List D} {vs ws : List V}, FzL K Z ds vs → FzL K Z es ws → FzL K Z (ds ++ es) (vs ++ ws)
  | [], es, vs, ws, h, h2 => by simp only [FzL] at h; subst h; exact h2
  | d :: r, es, vs, ws, h, h2 => by
    simp only [FzL] at h
    obtain ⟨v, t, rfl, h1, h3⟩ := h
    simp only [List.cons_append, FzL]
    exact ⟨v, _, rfl, h1, FzL.append h3 h2⟩
theorem FzL.drop {K : Fr} {Z : Hp} : ∀ {ds : List D} {vs : List V} (n : Nat), FzL K Z ds vs → FzL K Z (ds.drop n) (vs.drop n)
  | ds, vs, 0, h => h
  | [], vs, n + 1, h => by simp only [FzL] at h; subst h; simp [FzL]
  | d :: r, vs, n + 1, h => by
    simp only [FzL] at h
    obtain ⟨v, t, rfl, h1, h3⟩ := h
    simpa using FzL.drop n h3
theorem FzL.take {K : Fr} {Z : Hp} : ∀ {ds : List D} {vs : List V} (n : Nat), FzL K Z ds vs → FzL K Z (ds.take n) (vs.take n)
  | ds, vs, 0, h => by simp [FzL]
  | [], vs, n + 1, h => by simp only [FzL] at h; subst h; simp [FzL]
  | d :: r, vs, n + 1, h => by
    simp only [FzL] at h
    obtain ⟨v, t, rfl, h1, h3⟩ := h
    simp only [List.take_succ_cons, FzL]
    exact ⟨v, _, rfl, h1, FzL.take n h3⟩
theorem FzL.set {K : Fr} {Z : Hp} {d : D} {v : V} (f : Fz K Z d v) : ∀ {ds : List D} {vs : List V} (n : Nat), FzL K Z ds vs → FzL K Z (ds.set n d) (vs.set n v)
  | [], vs, n, h => by simp only [FzL] at h; subst h; simp [FzL]
  | x :: r, vs, 0, h => by
    simp only [FzL] at h
    obtain ⟨w, t, rfl, h1, h3⟩ := h
    simp only [List.set_cons_zero, FzL]
    exact ⟨v, t, rfl, f, h3⟩
  | x :: r, vs, n + 1, h => by
    simp only [FzL] at h
    obtain ⟨w, t, rfl, h1, h3⟩ := h
    simp only [List.set_cons_succ, FzL]
    exact ⟨w, _, rfl, h1, FzL.set f n h3⟩
theorem FzL.atI {K : Fr} {Z : Hp} {ds : List D} {vs : List V} {i : Int} {d : D} (h : FzL K Z ds vs) (e : L2.atI ds i = some d) : ∃ v, L2.atI vs i = some v ∧ Fz K Z d v := by
  unfold L2.atI at e ⊢
  rw [← h.length]
  cases q : ixN ds.length i with
  | none => rw [q] at e; cases e
  | some j => rw [q] at e; exact h.get e
/-- the keys of a tuple -/
theorem keysL_vs {K : Fr} {Z : Hp} : ∀ {ds : List D} {vs : List V} {ks : List Key}, FzL K Z ds vs → keysL ds = some ks → vs = ks.map kV
  | [], vs, ks, h, e => by
    simp only [FzL] at h; subst h
    simp only [keysL, Option.some.injEq] at e; subst e; rfl
  | d :: r, vs, ks, h, e => by
    simp only [FzL] at h
    obtain ⟨v, t, rfl, h1, h2⟩ := h
    simp only [keysL] at e
    split at e
    · rename_i k ks' hk hks
      cases e
      rw [keysL_vs h2 hks]
      have : v = kV k := by
        cases d <;> simp [keyOf] at hk <;> subst hk <;> simp only [Fz] at h1 <;> exact h1
      rw [this]; rfl
    · cases e
theorem keyOf_v {K : Fr} {Z H : Hp} {d : D} {v : V} {k : Key} (h : Acc K Z H d v) (e : keyOf d = some k) : v = kV k := by
  cases d <;> simp [keyOf] at e <;> subst e
  · exact h
  · exact h
/-- what the dict says of a key -/
theorem dic_get {K : Fr} {Z H : Hp} {t : Bool} {kvs : List (D × D)} {k : D} {x y : V} (s : Sub Z H) (hk : keyOk t k) (hd : Acc K Z H (.dic t kvs) x) (hy : Acc K Z H k y) : ∃ a r, x = .ref a ∧ DGet H a y r ∧ RelOD K Z (dget kvs k) r := by
  cases t with
  | false =>
    obtain ⟨a, ks, rfl, q, l⟩ := hd
    obtain ⟨key, hkey⟩ := Option.isSome_iff_exists.mp hk
    exact ⟨a, _, rfl, .inl ⟨ks, key, q, keyOf_v hy hkey, rfl⟩, KvR.get (fun a b => keyOf_inj a b) (FzK_iff.mp l) hkey⟩
  | true =>
    obtain ⟨a, ks, rfl, q, l⟩ := hd
    obtain ⟨key, hkey⟩ := Option.isSome_iff_exists.mp hk
    cases k with
    | tup xs =>
      have hy' : Fz K Z (.tup xs) y := hy
      simp only [Fz] at hy'
      obtain ⟨b, vs, rfl, hb0, lv⟩ := hy'
      have hb := s.ex hb0 rfl
      have e : keysL xs = some key := hkey
      exact ⟨a, _, rfl, .inr ⟨ks, key, b, q, rfl, by rw [hb, keysL_vs lv e], rfl⟩, KvR.get (fun a b => keysOf_inj a b) (FzT_iff.mp l) hkey⟩
    | _ => simp [keysOf] at hkey
theorem RelOD.some {K : Fr} {Z : Hp} {d : D} {r : Option V} (h : RelOD K Z (some d) r) : ∃ v, r = some v ∧ Fz K Z d v := by
  cases r with
  | none => exact h.elim
  | some v => exact ⟨v, rfl, h⟩
theorem RelOD.isSome {K : Fr} {Z : Hp} {o : Option D} {r : Option V} (h : RelOD K Z o r) : r.isSome = o.isSome := by
  cases o <;> cases r <;> first | rfl | exact h.elim
end Pl

namespace Pl
open PySem PySem.Spec PyProof.Rows L2
open Classical

theorem dec_irrel {p : Prop} (i j : Decidable p) : @decide p i = @decide p j := by cases Subsingleton.elim i j; rfl
theorem sizeLine_gt : (1000 : Nat) < sizeLine := by rw [sizeLine_eq]; decide

/-! ### arithmetic -/
def gAdd : G2
  | .int a, .int b, P => P (.frz (.int (a + b)))
  | .str a, .str b, P => a.length + b.length ≤ sizeLine ∧ P (.frz (.str (a ++ b)))
  | .lst a, .lst b, P => a.length + b.length ≤ sizeLine ∧ ∀ p, P (.lst p (a ++ b))
  | .tup a, .tup b, P => a.length + b.length ≤ sizeLine ∧ P (.frz (.tup (a ++ b)))
  | _, _, _ => False
def gI (C : Int → Int → Prop) (f : Int → Int → D) : G2
  | .int a, .int b, P => C a b ∧ P (.frz (f a b))
  | _, _, _ => False
def CPowW (i j : Int) : Prop := 0 ≤ j ∧ (Builtin.Int.intBits i : Int) * j ≤ 2 ^ 27
abbrev gSub : G2 := gI (fun _ _ => True) fun a b => .int (a - b)
abbrev gMul : G2 := gI CMulW fun a b => .int (a * b)
abbrev gMod : G2 := gI (fun _ b => 0 < b) fun a b => .int (a % b)
abbrev gDiv : G2 := gI CDivW fun a b => .int (a / b)
abbrev gPow : G2 := gI CPowW fun a b => .int (a ^ b.toNat)
abbrev gLtI : G2 := gI (fun _ _ => True) fun a b => .bl (decide (a < b))
section
variable {X : Cx}
theorem op2_int {f : Value → Value → Sem Value} {C : Int → Int → Prop} {g : Int → Int → D} {v : Int → Int → V} (h : OpR X f (rI C v)) (hv : ∀ Z a b, Fz X.K Z (g a b) (v a b)) : Op2 X f (gI C g) := by
  intro Z H x y dx dy P Q s hx hy hg hr
  cases dx with
  | int a =>
    cases dy with
    | int b =>
      obtain rfl : x = .int a := hx
      obtain rfl : y = .int b := hy
      exact ⟨_, h, a, b, rfl, rfl, hg.1, hr.val hg.2 (hv Z a b)⟩
    | _ => exact hg.elim
  | _ => exact hg.elim
theorem rI_of {f : Value → Value → Sem Value} {v : Int → Int → V} (h : OpR X f (rI0 v)) : OpR X f (rI (fun _ _ => True) v) := fun pins s σ H x y a b Q I rx ry ⟨i, j, e1, e2, _, q⟩ => h pins s σ H x y a b Q I rx ry ⟨i, j, e1, e2, q⟩
theorem fzI (K : Fr) (Z : Hp) (i : Int) : Fz K Z (.int i) (.int i) := by simp only [Fz]
theorem fzB (K : Fr) (Z : Hp) (i : Bool) : Fz K Z (.bl i) (.bl i) := by simp only [Fz]
theorem fzS (K : Fr) (Z : Hp) (i : Str) : Fz K Z (.str i) (.str i) := by simp only [Fz]
theorem fzN (K : Fr) (Z : Hp) : Fz K Z .non .non := by simp only [Fz]
theorem o_sub : Op2 X (binaryOp .Sub) gSub := op2_int (rI_of op_sub) fun _ _ _ => fzI _ _ _
theorem o_mul : Op2 X (binaryOp .Mult) gMul := op2_int op_mulW fun _ _ _ => fzI _ _ _
theorem o_mod : Op2 X (binaryOp .Mod) gMod := op2_int op_mod fun _ _ _ => fzI _ _ _
theorem o_div : Op2 X (binaryOp .FloorDiv) gDiv := op2_int op_fdivW fun _ _ _ => fzI _ _ _
theorem op_powW : OpR X (binaryOp .Pow) (rI CPowW fun i j => .int (i ^ j.toNat)) := opI fun _ _ _ _ _ _ _ hc q => pow_int hc.1 hc.2 q
theorem o_pow : Op2 X (binaryOp .Pow) gPow := op2_int op_powW fun _ _ _ => fzI _ _ _
theorem o_add : Op2 X (binaryOp .Add) gAdd := by
  intro Z H x y dx dy P Q s hx hy hg hr
  cases dx with
  | int a =>
    cases dy with
    | int b =>
      obtain rfl : x = .int a := hx
      obtain rfl : y = .int b := hy
      exact ⟨_, op_add, a, b, rfl, rfl, hr.val hg (fzI _ _ _)⟩
    | _ => exact hg.elim
  | str a =>
    cases dy with
    | str b =>
      obtain rfl : x = .str a := hx
      obtain rfl : y = .str b := hy
      exact ⟨_, op_add_str, a, b, rfl, rfl, hg.1, hr.val hg.2 (fzS _ _ _)⟩
    | _ => exact hg.elim
  | lst a =>
    cases dy with
    | lst b =>
      obtain ⟨ax, vs, rfl, q1, l1⟩ := hx
      obtain ⟨bx, ws, rfl, q2, l2⟩ := hy
      refine ⟨_, op_cat, ax, bx, vs, ws, rfl, rfl, q1, q2, ?_, fun p hp => hr.newLst hg.2 (l1.append l2) p hp⟩
      rw [← l1.length, ← l2.length]; exact hg.1
    | _ => exact hg.elim
  | tup a =>
    cases dy with
    | tup b =>
      have hx' : Fz X.K Z (.tup a) x := hx
      have hy' : Fz X.K Z (.tup b) y := hy
      have ex := hx'
      have ey := hy'
      simp only [Fz] at ex ey
      obtain ⟨ax, vs, rfl, q1, l1⟩ := ex
      obtain ⟨bx, ws, rfl, q2, l2⟩ := ey
      refine ⟨_, op_catA, ax, bx, vs, ws, rfl, rfl, .inl (.inl (s.ex q1 rfl)), .inl (.inl (s.ex q2 rfl)), ?_, fun e => ?_, fun _ e => ?_, fun _ _ p hp => hr.newTup s hg.2 (l1.append l2) p hp⟩
      · rw [← l1.length, ← l2.length]; exact hg.1
      · have : a = [] := List.length_eq_zero_iff.mp (by rw [l1.length, e]; rfl)
        subst this
        exact hr.val hg.2 hy'
      · have : b = [] := List.length_eq_zero_iff.mp (by rw [l2.length, e]; rfl)
        subst this
        exact hr.val (d := .tup a) (by have h2 := hg.2; rw [List.append_nil] at h2; exact h2) hx'
    | _ => exact hg.elim
  | _ => exact hg.elim

/-! ### comparisons -/
def gEq : G2 := fun a b P => (∃ c, okD c a 60 ∧ okD c b 60) ∧ P (.frz (.bl (decide (a = b))))
def gNe : G2 := fun a b P => (∃ c, okD c a 60 ∧ okD c b 60) ∧ P (.frz (.bl (decide (a ≠ b))))
theorem o_eq (hu : X.A.units + 65 < cLine) : Op2 X (compareOp .Eq) gEq := by
  intro Z H x y dx dy P Q s hx hy hg hr
  obtain ⟨⟨c, o1, o2⟩, hp⟩ := hg
  refine ⟨_, op_eqD (by omega), dx.pd, dy.pd, Acc.dp s o1 hx, Acc.dp s o2 hy, okD_shaped o1 (by decide), okD_shaped o2 (by decide), ?_⟩
  rw [eqv_dec dx dy _ _ o1 o2]
  exact hr.val hp (fzB _ _ _)
theorem o_ne (hu : X.A.units + 65 < cLine) : Op2 X (compareOp .NotEq) gNe := by
  intro Z H x y dx dy P Q s hx hy hg hr
  obtain ⟨⟨c, o1, o2⟩, hp⟩ := hg
  refine ⟨_, op_neD (by omega), dx.pd, dy.pd, Acc.dp s o1 hx, Acc.dp s o2 hy, okD_shaped o1 (by decide), okD_shaped o2 (by decide), ?_⟩
  rw [eqv_dec dx dy _ _ o1 o2]
  rw [show (decide (dx ≠ dy)) = (!decide (dx = dy)) from decide_not] at hp
  exact hr.val hp (fzB _ _ _)
/-- texts by their code points -/
def strLt (a b : Str) : Prop := a.cps.toList < b.cps.toList
def gLt : G2
  | .int a, .int b, P => P (.frz (.bl (decide (a < b))))
  | .str a, .str b, P => P (.frz (.bl (decide (strLt a b))))
  | _, _, _ => False
theorem o_lt : Op2 X (compareOp .Lt) gLt := by
  intro Z H x y dx dy P Q s hx hy hg hr
  cases dx with
  | int a =>
    cases dy with
    | int b =>
      obtain rfl : x = .int a := hx
      obtain rfl : y = .int b := hy
      exact ⟨_, op_lt, a, b, rfl, rfl, hr.val (d := .bl _) hg (fzB _ _ _)⟩
    | _ => exact hg.elim
  | str a =>
    cases dy with
    | str b =>
      obtain rfl : x = .str a := hx
      obtain rfl : y = .str b := hy
      refine ⟨_, op_lt_str, a, b, rfl, rfl, ?_⟩
      have hg' : P (.frz (.bl (decide (strLt a b)))) := hg
      unfold strLt at hg'
      rw [dec_irrel _ (propDecidable _)]
      rw [dec_irrel _ (propDecidable _)] at hg'
      exact hr.val (d := .bl _) hg' (fzB _ _ _)
    | _ => exact hg.elim
  | _ => exact hg.elim
end
end Pl

namespace Pl
open PySem PySem.Spec PyProof.Rows L2
open Classical
abbrev gB (f : Int → Int → Bool) : G2 := gI (fun _ _ => True) fun a b => .bl (f a b)
abbrev gLe : G2 := gB fun a b => decide (a ≤ b)
abbrev gGt : G2 := gB fun a b => decide (b < a)
abbrev gGe : G2 := gB fun a b => decide (b ≤ a)
def gIs : G2
  | d, .non, P => P (.frz (.bl (decide (d = .non))))
  | .bl a, .bl b, P => P (.frz (.bl (decide (a = b))))
  | _, _, _ => False
def gIsNot : G2
  | d, .non, P => P (.frz (.bl (decide (d ≠ .non))))
  | .bl a, .bl b, P => P (.frz (.bl (decide (a ≠ b))))
  | _, _, _ => False
/-- x in y, as a proposition, and what must be so that it may be asked -/
def inOk : D → D → Prop
  | d, .lst ys => ∃ c, okD c d 60 ∧ okL c ys 59
  | d, .tup ys => ∃ c, okD c d 0 ∧ okL c ys 0
  | .str x, .str y => x.cps.size = 1
  | k, .dic t _ => keyOk t k
  | _, _ => False
def inP : D → D → Prop
  | d, .lst ys => d ∈ ys
  | d, .tup ys => d ∈ ys
  | .str x, .str y => ∀ c ∈ x.cps.toList, c ∈ y.cps.toList
  | k, .dic _ kvs => (dget kvs k).isSome = true
  | _, _ => False
def gIn : G2 := fun a b P => inOk a b ∧ P (.frz (.bl (decide (inP a b))))
def gNotIn : G2 := fun a b P => inOk a b ∧ P (.frz (.bl (decide (¬ inP a b))))
section
variable {X : Cx}
theorem o_le : Op2 X (compareOp .LtE) gLe := op2_int (rI_of op_le) fun _ _ _ => fzB _ _ _
theorem o_gt : Op2 X (compareOp .Gt) gGt := op2_int (rI_of op_gt) fun _ _ _ => fzB _ _ _
theorem o_ge : Op2 X (compareOp .GtE) gGe := op2_int (rI_of op_ge) fun _ _ _ => fzB _ _ _
theorem acc_non {K : Fr} {Z H : Hp} {d : D} {x : V} (h : Acc K Z H d x) : x = .non ↔ d = .non := by
  cases d with
  | non => exact ⟨fun _ => rfl, fun _ => h⟩
  | bl b => obtain rfl : x = .bl b := h; simp
  | int b => obtain rfl : x = .int b := h; simp
  | str b => obtain rfl : x = .str b := h; simp
  | tup xs => have h' : Fz K Z (.tup xs) x := h; simp only [Fz] at h'; obtain ⟨a, _, rfl, _⟩ := h'; simp
  | lst xs => obtain ⟨a, _, rfl, _⟩ := h; simp
  | dic t xs => cases t <;> (obtain ⟨a, _, rfl, _⟩ := h; simp)
  | obj c xs => obtain ⟨a, _, _, rfl, _⟩ := h; simp
  | exc c e => have h' : Fz K Z (.exc c e) x := h; simp only [Fz] at h'; obtain ⟨a, _, _, rfl, _⟩ := h'; simp
  | scr ns => obtain ⟨a, rfl, _⟩ := h; simp
theorem dec_iff {p q : Prop} [i : Decidable p] [j : Decidable q] (h : p ↔ q) : decide p = decide q := by
  by_cases hp : p
  · rw [decide_eq_true hp, decide_eq_true (h.mp hp)]
  · rw [decide_eq_false hp, decide_eq_false (fun z => hp (h.mpr z))]
theorem o_is : Op2 X (compareOp .Is) gIs := by
  intro Z H x y dx dy P Q s hx hy hg hr
  cases dy with
  | non =>
    obtain rfl : y = .non := hy
    refine ⟨_, op_isN, rfl, ?_⟩
    rw [dec_iff (acc_non hx)]
    exact hr.val (d := .bl _) (by cases dx <;> exact hg) (fzB _ _ _)
  | bl b =>
    cases dx with
    | bl a =>
      obtain rfl : x = .bl a := hx
      obtain rfl : y = .bl b := hy
      exact ⟨_, op_isBl, a, b, rfl, rfl, hr.val (d := .bl _) hg (fzB _ _ _)⟩
    | _ => exact hg.elim
  | _ => cases dx <;> exact hg.elim
theorem o_isnot : Op2 X (compareOp .IsNot) gIsNot := by
  intro Z H x y dx dy P Q s hx hy hg hr
  cases dy with
  | non =>
    obtain rfl : y = .non := hy
    refine ⟨_, op_notN, rfl, ?_⟩
    rw [dec_iff (acc_non hx), ← decide_not]
    exact hr.val (d := .bl _) (by cases dx <;> exact hg) (fzB _ _ _)
  | bl b =>
    cases dx with
    | bl a =>
      obtain rfl : x = .bl a := hx
      obtain rfl : y = .bl b := hy
      refine ⟨_, op_notBl, a, b, rfl, rfl, ?_⟩
      rw [← decide_not]
      exact hr.val (d := .bl _) hg (fzB _ _ _)
    | _ => exact hg.elim
  | _ => cases dx <;> exact hg.elim
theorem op_inDic (hu : X.A.units + 1 < cLine) : OpR X (compareOp .In) (fun x y H Q => ∃ a o, y = .ref a ∧ DGet H a x o ∧ Q (.bl o.isSome) H) := by
  intro pins s σ H x y v u Q I rx ry ⟨a, o, e, g, q⟩
  subst e
  obtain rfl : u = Value.ref a := ry
  exact d_in hu I g rx fun s3 I3 => ⟨.bl o.isSome, H, I3, rfl, q⟩
theorem op_notInDic (hu : X.A.units + 1 < cLine) : OpR X (compareOp .NotIn) (fun x y H Q => ∃ a o, y = .ref a ∧ DGet H a x o ∧ Q (.bl (!o.isSome)) H) := by
  intro pins s σ H x y v u Q I rx ry ⟨a, o, e, g, q⟩
  subst e
  obtain rfl : u = Value.ref a := ry
  exact d_notIn hu I g rx fun s3 I3 => ⟨.bl (!o.isSome), H, I3, rfl, q⟩
theorem okL_any {c : Bool} {d : D} {n : Nat} (o : okD c d n) : ∀ {ys : List D} {m : Nat}, okL c ys m → ((pdL ys).any fun z => PyData.eqv z d.pd) = decide (d ∈ ys)
  | [], _, _ => by simp [pdL]
  | y :: ys, m, h => by
    simp only [okL] at h
    simp only [pdL, List.any_cons]
    rw [okL_any o h.2, eqv_dec y d _ _ h.1 o]
    by_cases e : y = d
    · subst e; simp
    · have e' : ¬ d = y := fun z => e z.symm
      simp [e, e']
theorem flat_acc {c : Bool} {K : Fr} {Z H : Hp} {d : D} {v : V} (o : okD c d 0) (h : Acc K Z H d v) : flatV v = true ∧ Fz K Z d v := by
  cases d with
  | non => obtain rfl : v = .non := h; exact ⟨rfl, fzN _ _⟩
  | bl b => obtain rfl : v = .bl b := h; exact ⟨rfl, fzB _ _ _⟩
  | int b => obtain rfl : v = .int b := h; exact ⟨rfl, fzI _ _ _⟩
  | str b => obtain rfl : v = .str b := h; exact ⟨rfl, fzS _ _ _⟩
  | tup xs => simp [okD] at o
  | lst xs => simp [okD] at o
  | dic t xs => simp [okD] at o
  | obj c xs => simp [okD] at o
  | exc c e => simp [okD] at o
  | scr ns => simp [okD] at o
theorem eqV_dec {c : Bool} {K : Fr} {Z : Hp} {d e : D} {v u : V} (o : okD c d 0) (o2 : okD c e 0) (h : Fz K Z d v) (h2 : Fz K Z e u) : eqV v u = decide (d = e) := by
  have key := eqv_dec d e 0 0 o o2
  rw [← key]
  cases d <;> simp [okD] at o <;> simp only [Fz] at h <;> subst h <;> cases e <;> simp [okD] at o2 <;> simp only [Fz] at h2 <;> subst h2 <;> simp_all [eqV, D.pd, PyData.eqv]
theorem inV_dec {c : Bool} {K : Fr} {Z : Hp} {d : D} {v : V} (o : okD c d 0) (h : Fz K Z d v) : ∀ {ys : List D} {vs : List V}, okL c ys 0 → FzL K Z ys vs → inV v vs = decide (d ∈ ys) ∧ vs.all flatV = true
  | [], vs, _, l => by simp only [FzL] at l; subst l; simp [inV]
  | y :: ys, vs, oy, l => by
    simp only [okL] at oy
    simp only [FzL] at l
    obtain ⟨u, t, rfl, h1, h2⟩ := l
    obtain ⟨i1, i2⟩ := inV_dec o h oy.2 h2
    have e1 : inV v (u :: t) = (eqV u v || inV v t) := by simp [inV]
    rw [e1, i1, eqV_dec oy.1 o h1 h]
    refine ⟨?_, ?_⟩
    · by_cases e : y = d
      · subst e; simp
      · have e' : ¬ d = y := fun z => e z.symm
        simp [e, e']
    · rw [List.all_cons, i2, (flat_acc oy.1 (Acc.of (H := Z) (fun _ _ q => .inl q) h1)).1]; rfl
theorem in_core (hu : X.A.units + 65 < cLine) {Z H : Hp} {x y : V} {dx dy : D} {Q : VK} (s : Sub Z H) (hx : Acc X.K Z H dx x) (hy : Acc X.K Z H dy y) (ok : inOk dx dy) :
    (Q (.bl (decide (inP dx dy))) H → ∃ r, OpR X (compareOp .In) r ∧ r x y H Q) ∧ (Q (.bl (!decide (inP dx dy))) H → ∃ r, OpR X (compareOp .NotIn) r ∧ r x y H Q) := by
  cases dy with
  | lst ys =>
    have ok' : ∃ c, okD c dx 60 ∧ okL c ys 59 := by cases dx <;> exact ok
    obtain ⟨c, o1, o2⟩ := ok'
    have o2' : okD c (.lst ys) 60 := by simp only [okD]; exact ⟨by decide, o2⟩
    have e : decide (inP dx (.lst ys)) = decide (dx ∈ ys) := dec_iff (by cases dx <;> exact Iff.rfl)
    have h1 : Dp X.K H y (.list (pdL ys)) := Acc.dp s o2' hy
    have h2 := okD_shaped o2' (by decide)
    rw [e, ← okL_any o1 o2]
    exact ⟨fun q => ⟨_, op_inD hu, dx.pd, pdL ys, Acc.dp s o1 hx, h1, okD_shaped o1 (by decide), h2, q⟩, fun q => ⟨_, op_notInD hu, dx.pd, pdL ys, Acc.dp s o1 hx, h1, okD_shaped o1 (by decide), h2, q⟩⟩
  | tup ys =>
    have ok' : ∃ c, okD c dx 0 ∧ okL c ys 0 := by cases dx <;> exact ok
    obtain ⟨c, o1, o2⟩ := ok'
    have e : decide (inP dx (.tup ys)) = decide (dx ∈ ys) := dec_iff (by cases dx <;> exact Iff.rfl)
    have hy' : Fz X.K Z (.tup ys) y := hy
    simp only [Fz] at hy'
    obtain ⟨a, vs, rfl, q, l⟩ := hy'
    obtain ⟨f1, f2⟩ := flat_acc o1 hx
    obtain ⟨i1, i2⟩ := inV_dec o1 f2 o2 l
    rw [e, ← i1]
    exact ⟨fun z => ⟨_, op_in_seq, a, vs, rfl, .inr (.inl (.inl (s.ex q rfl))), f1, i2, z⟩, fun z => ⟨_, op_notIn_seq, a, vs, rfl, .inr (.inl (.inl (s.ex q rfl))), f1, i2, z⟩⟩
  | dic t kvs =>
    have ok' : keyOk t dx := by cases dx <;> exact ok
    have e : decide (inP dx (.dic t kvs)) = (dget kvs dx).isSome := by
      have : inP dx (.dic t kvs) = ((dget kvs dx).isSome = true) := by cases dx <;> rfl
      rw [this]; simp
    obtain ⟨a, r, rfl, g, rel⟩ := dic_get s ok' hy hx
    rw [e, ← rel.isSome]
    exact ⟨fun z => ⟨_, op_inDic (by omega), a, r, rfl, g, z⟩, fun z => ⟨_, op_notInDic (by omega), a, r, rfl, g, z⟩⟩
  | str w =>
    cases dx with
    | str z =>
      have ok' : z.cps.size = 1 := ok
      obtain rfl : x = .str z := hx
      obtain rfl : y = .str w := hy
      obtain ⟨⟨cl⟩⟩ := z
      have hc : ∃ c, cl = [c] := by
        match cl, ok' with
        | [c], _ => exact ⟨c, rfl⟩
      obtain ⟨c, rfl⟩ := hc
      have e : decide (inP (.str ⟨⟨[c]⟩⟩) (.str w)) = decide (c ∈ w.cps.toList) := dec_iff (by simp [inP])
      rw [e]
      exact ⟨fun q => ⟨_, op_in_sign, c, w, rfl, rfl, by rw [dec_irrel _ (propDecidable _)] at q ⊢; exact q⟩, fun q => ⟨_, op_notIn_sign, c, w, rfl, rfl, by rw [dec_irrel _ (propDecidable _)] at q ⊢; exact q⟩⟩
    | _ => exact ok.elim
  | _ => cases dx <;> exact ok.elim
theorem o_in (hu : X.A.units + 65 < cLine) : Op2 X (compareOp .In) gIn := by
  intro Z H x y dx dy P Q s hx hy hg hr
  exact (in_core hu s hx hy hg.1).1 (hr.val hg.2 (fzB _ _ _))
theorem o_notin (hu : X.A.units + 65 < cLine) : Op2 X (compareOp .NotIn) gNotIn := by
  intro Z H x y dx dy P Q s hx hy hg hr
  have h2 := hg.2
  rw [decide_not] at h2
  exact (in_core hu s hx hy hg.1).2 (hr.val h2 (fzB _ _ _))
end
end Pl

namespace Pl
open PySem PySem.Spec PyProof.Rows L2
open Classical

/-! ### constants, names -/
def wC (d : D) : WE := fun env P _ => P (.frz d) env
/-- a name as a value: what it owns is frozen -/
def wVar (i : Nat) : WE := fun env P _ => match env[i]? with
  | some m => m.full ∧ P (.frz m.toD) (env.set i (.frz m.toD))
  | none => False
/-- a name whose frame ends (return), or that is not asked again: what it owns goes along -/
def wMove (i : Nat) : WE := fun env P _ => match env[i]? with
  | some .un => False
  | some m => P m (env.set i .un)
  | none => False
section
variable {X : Cx} {W : WX} {a b c e : Expr} {pos : Pos}
theorem g_c {t : TE} {v : V} {d : D} (h : PE X e (tC v)) (f : ∀ Z, Fz X.K Z d v) : GE X W e (wC d) :=
  h.imp fun σ H Q ⟨Z, F, env, P, E, hl, r, hw, hP, hE⟩ => hP _ _ Z H v hw (Le.refl Z) rfl (r.frz (f Z))
theorem g_int {i j pos} : GE X W (.Constant (.int i) j pos) (wC (.int i)) := g_c (t := tC (.int i)) pe_int fun _ => fzI _ _ _
theorem g_bl {i j pos} : GE X W (.Constant (.bool i) j pos) (wC (.bl i)) := g_c (t := tC (.bl i)) pe_bl fun _ => fzB _ _ _
theorem g_str {i j pos} : GE X W (.Constant (.str i) j pos) (wC (.str i)) := g_c (t := tC (.str i)) pe_str fun _ => fzS _ _ _
theorem g_non {j pos} : GE X W (.Constant .none j pos) (wC .non) := g_c (t := tC .non) pe_non fun _ => fzN _ _
/-- a constant of the module -/
theorem g_glob {x : Str} {d : D} {v : V} (hg : Gl X x) (hm : ∃ u, X.mg x = some u ∧ RelV v u) (f : ∀ Z, Fz X.K Z d v) (hd : (x == ("__debug__" : Str)) = false := by decide) : GE X W (.Name x pos) (wC d) := by
  obtain ⟨u, h1, h2⟩ := hm
  exact g_c (t := tC v) (pe_glob hg h1 h2 hd) f

theorem zp_split {σ : L2.St} {env : Env} {i : Nat} {o : Option V} {m : M} (h1 : σ[i]? = some o) (h2 : env[i]? = some m) :
    (zp σ env).Perm ((o, m) :: zp (σ.eraseIdx i) (env.eraseIdx i)) ∧ ∀ o' m', (zp (σ.set i o') (env.set i m')).Perm ((o', m') :: zp (σ.eraseIdx i) (env.eraseIdx i)) := by
  induction σ generalizing env i with
  | nil => simp at h1
  | cons p σ ih =>
    cases env with
    | nil => simp at h2
    | cons n env =>
      cases i with
      | zero =>
        simp at h1 h2
        subst h1 h2
        exact ⟨List.Perm.refl _, fun _ _ => List.Perm.refl _⟩
      | succ i =>
        simp at h1 h2
        obtain ⟨k1, k2⟩ := ih h1 h2
        refine ⟨?_, fun o' m' => ?_⟩
        · simp only [zp, List.zip_cons_cons, List.eraseIdx_cons_succ]
          exact (List.Perm.cons _ k1).trans (List.Perm.swap ..)
        · simp only [zp, List.set_cons_succ, List.zip_cons_cons, List.eraseIdx_cons_succ]
          exact (List.Perm.cons _ (k2 o' m')).trans (List.Perm.swap ..)
theorem set_same {α : Type} {l : List α} {i : Nat} {a : α} (h : l[i]? = some a) : l.set i a = l := by
  obtain ⟨hi, e⟩ := List.getElem?_eq_some_iff.mp h
  exact List.ext_getElem (by simp) fun j h1 h2 => by
    rw [List.getElem_set]
    split
    · rename_i q; subst q; exact e.symm
    · rfl
theorem slot_at {K : Fr} {Z F H : Hp} {σ : L2.St} {env : Env} {i : Nat} {m : M} (hl : σ.length = env.length) (r : Rep K Z F H (zp σ env)) (hm : env[i]? = some m) (hn : m ≠ .un) :
    ∃ v, σ[i]? = some (some v) ∧ RepM K Z H m v ∧ Rep K Z F H ((some v, m) :: zp (σ.eraseIdx i) (env.eraseIdx i)) := by
  obtain ⟨o, h1, h2⟩ := mem_zp hl hm
  rcases r.sl _ h2 with z | ⟨v, z, q⟩
  · exact absurd z hn
  · dsimp only at z; subst z
    exact ⟨v, h1, q, r.perm (zp_split h1 hm).1⟩
/-- a slot gets another content, at the same value -/
theorem slot_put {K : Fr} {Z F H : Hp} {σ : L2.St} {env : Env} {i : Nat} {m m' : M} {v : V} (h1 : σ[i]? = some (some v)) (h2 : env[i]? = some m) (r : Rep K Z F H ((some v, m') :: zp (σ.eraseIdx i) (env.eraseIdx i))) : Rep K Z F H (zp σ (env.set i m')) := by
  have h := (zp_split h1 h2).2 (some v) m'
  rw [set_same h1] at h
  exact r.perm h.symm
theorem g_var {i : Nat} {x : Str} (hN : X.N[i]? = some x) (hv : Vis X.env.scope x) (hd : (x == ("__debug__" : Str)) = false) (hcd : (x == ("__classdict__" : Str)) = false) : GE X W (.Name x pos) (wVar i) := by
  refine (pe_var (i := i) hN hv hd hcd).imp fun σ H Q ⟨Z, F, env, P, E, hl, r, hw, hP, hE⟩ => ?_
  simp only [wVar] at hw
  split at hw
  · rename_i m hm
    have hn' : m.full := hw.1
    obtain ⟨v, h1, h2, r1⟩ := slot_at hl r hm hn'.ne
    obtain ⟨Z', le, r2⟩ := r1.freeze hn'
    exact ⟨v, h1, hP _ _ Z' H v hw.2 le (by simp) ((slot_put h1 hm r2).frz r2.fz)⟩
  · exact hw.elim
theorem g_move {i : Nat} {x : Str} (hN : X.N[i]? = some x) (hv : Vis X.env.scope x) (hd : (x == ("__debug__" : Str)) = false) (hcd : (x == ("__classdict__" : Str)) = false) : GE X W (.Name x pos) (wMove i) := by
  refine (pe_var (i := i) hN hv hd hcd).imp fun σ H Q ⟨Z, F, env, P, E, hl, r, hw, hP, hE⟩ => ?_
  simp only [wMove] at hw
  split at hw
  · exact hw.elim
  · rename_i m hn hm
    have hn' : m ≠ .un := fun z => hn z
    obtain ⟨v, h1, h2, r1⟩ := slot_at hl r hm hn'
    refine ⟨v, h1, hP _ _ Z H v hw (Le.refl Z) (by simp) ?_⟩
    have h := (zp_split h1 hm).2 (some v) .un
    rw [set_same h1] at h
    have r3 : Rep X.K Z F H ((some v, .un) :: (some v, m) :: zp (σ.eraseIdx i) (env.eraseIdx i)) := r1.un
    exact r3.perm ((List.Perm.swap ..).trans (List.Perm.cons _ h.symm))
  · exact hw.elim

/-! ### truth values -/
def wAndV (wa wb : WE) : WE := fun env P E => wa env (fun r e1 => ∃ c, r = .frz (.bl c) ∧ if c = true then wb e1 P E else P (.frz (.bl false)) e1) E
def wOrV (wa wb : WE) : WE := fun env P E => wa env (fun r e1 => ∃ c, r = .frz (.bl c) ∧ if c = true then P (.frz (.bl true)) e1 else wb e1 P E) E
def wNotV (wa : WE) : WE := fun env P E => wa env (fun r e1 => ∃ c, r = .frz (.bl c) ∧ P (.frz (.bl (!c))) e1) E
def wIf (wt : WT) (wa wb : WE) : WE := fun env P E => wt env (fun c e1 => if c = true then wa e1 P E else wb e1 P E) E
def wTst (wa : WE) : WT := fun env P E => wa env (fun r e1 => ∃ c, r = .frz (.bl c) ∧ P c e1) E
def wAndT (wa wb : WT) : WT := fun env P E => wa env (fun c e1 => if c = true then wb e1 P E else P false e1) E
def wOrT (wa wb : WT) : WT := fun env P E => wa env (fun c e1 => if c = true then P true e1 else wb e1 P E) E
def wNotT (wa : WT) : WT := fun env P E => wa env (fun c e1 => P (!c) e1) E
theorem Rep.bl {K : Fr} {Z F H : Hp} {v : V} {c : Bool} {l : List Sl} (r : Rep K Z F H ((some v, .frz (.bl c)) :: l)) : v = .bl c := by
  have h := r.fz
  simpa only [Fz] using h
theorem g_andV {wa wb : WE} {rest : List Expr} (ha : GE X W a wa) (hb : GE X W (.BoolOp .And (b :: rest) pos) wb) : GE X W (.BoolOp .And (a :: b :: rest) pos) (wAndV wa wb) := by
  refine (pe_and ha hb).imp fun σ H Q ⟨Z, F, env, P, E, hl, r, hw, hP, hE⟩ => ?_
  refine ⟨Z, F, env, _, E, hl, r, hw, fun m e1 Z1 H1 v h1 le1 l1 r1 => ?_, hE⟩
  obtain ⟨c, rfl, h1⟩ := h1
  refine ⟨c, r1.bl, ?_⟩
  cases c with
  | true =>
    rw [if_pos rfl] at h1 ⊢
    exact ⟨Z1, F, e1, P, E, by omega, r1.tail, h1, fun m e2 Z2 H2 v2 h2 le2 l2 r2 => hP m e2 Z2 H2 v2 h2 (le1.trans le2) (by omega) r2, by rw [l1]; exact hE.mono le1⟩
  | false =>
    rw [if_neg (by decide)] at h1 ⊢
    exact hP _ e1 Z1 H1 _ h1 le1 l1 (r1.tail.frz (fzB _ _ _))
theorem g_orV {wa wb : WE} {rest : List Expr} (ha : GE X W a wa) (hb : GE X W (.BoolOp .Or (b :: rest) pos) wb) : GE X W (.BoolOp .Or (a :: b :: rest) pos) (wOrV wa wb) := by
  refine (pe_or ha hb).imp fun σ H Q ⟨Z, F, env, P, E, hl, r, hw, hP, hE⟩ => ?_
  refine ⟨Z, F, env, _, E, hl, r, hw, fun m e1 Z1 H1 v h1 le1 l1 r1 => ?_, hE⟩
  obtain ⟨c, rfl, h1⟩ := h1
  refine ⟨c, r1.bl, ?_⟩
  cases c with
  | true =>
    rw [if_pos rfl] at h1 ⊢
    exact hP _ e1 Z1 H1 _ h1 le1 l1 (r1.tail.frz (fzB _ _ _))
  | false =>
    rw [if_neg (by decide)] at h1 ⊢
    exact ⟨Z1, F, e1, P, E, by omega, r1.tail, h1, fun m e2 Z2 H2 v2 h2 le2 l2 r2 => hP m e2 Z2 H2 v2 h2 (le1.trans le2) (by omega) r2, by rw [l1]; exact hE.mono le1⟩
theorem g_one {op} {wa : WE} (ha : GE X W a wa) : GE X W (.BoolOp op [a] pos) wa := pe_one ha
theorem g_notV {wa : WE} (ha : GE X W a wa) : GE X W (.UnaryOp .Not a pos) (wNotV wa) := by
  refine (pe_not ha).imp fun σ H Q ⟨Z, F, env, P, E, hl, r, hw, hP, hE⟩ => ?_
  refine ⟨Z, F, env, _, E, hl, r, hw, fun m e1 Z1 H1 v h1 le1 l1 r1 => ?_, hE⟩
  obtain ⟨c, rfl, h1⟩ := h1
  exact ⟨c, r1.bl, hP _ e1 Z1 H1 _ h1 le1 l1 (r1.tail.frz (fzB _ _ _))⟩
theorem gt_val {wa : WE} (ha : GE X W a wa) (he : ∀ whole, isTrue a X.env whole = (do let v ← whole; standAt a.pos; holding [v] (truthy v)) := by intro _; rfl) : GT X W a (wTst wa) := by
  refine (pt_val ha he).imp fun σ H Q ⟨Z, F, env, P, E, hl, r, hw, hP, hE⟩ => ?_
  refine ⟨Z, F, env, _, E, hl, r, hw, fun m e1 Z1 H1 v h1 le1 l1 r1 => ?_, hE⟩
  obtain ⟨c, rfl, h1⟩ := h1
  exact ⟨c, r1.bl, hP _ e1 Z1 H1 h1 le1 l1 r1.tail⟩
/-- a test of which and, or are made -/
abbrev GW (X : Cx) (W : WX) (e : Expr) (w : WT) : Prop := PW X e (RdT X.K W w)
theorem _root_.L2.PW.imp {X : Cx} {e : Expr} {t t' : TT} (h : PW X e t) (i : ∀ σ H Q, t' σ H Q → t σ H Q) : PW X e t' := ⟨fun wh pins s σ H Q I h' => h.run wh pins s σ H Q I (i σ H Q h')⟩
theorem gw_and1 {wa : WT} (ha : GT X W a wa) : GW X W (.BoolOp .And [a] pos) wa := pw_and1 ha
theorem gw_or1 {wa : WT} (ha : GT X W a wa) : GW X W (.BoolOp .Or [a] pos) wa := pw_or1 ha
theorem gw_and {wa wb : WT} {rest : List Expr} (ha : GT X W a wa) (hb : GW X W (.BoolOp .And (b :: rest) pos) wb) : GW X W (.BoolOp .And (a :: b :: rest) pos) (wAndT wa wb) := by
  refine (pw_and ha hb).imp fun σ H Q ⟨Z, F, env, P, E, hl, r, hw, hP, hE⟩ => ?_
  refine ⟨Z, F, env, _, E, hl, r, hw, fun c e1 Z1 H1 h1 le1 l1 r1 => ?_, hE⟩
  cases c with
  | true =>
    rw [if_pos rfl] at h1 ⊢
    exact ⟨Z1, F, e1, P, E, by omega, r1, h1, fun m e2 Z2 H2 h2 le2 l2 r2 => hP m e2 Z2 H2 h2 (le1.trans le2) (by omega) r2, by rw [l1]; exact hE.mono le1⟩
  | false =>
    rw [if_neg (by decide)] at h1 ⊢
    exact hP _ e1 Z1 H1 h1 le1 l1 r1
theorem gw_or {wa wb : WT} {rest : List Expr} (ha : GT X W a wa) (hb : GW X W (.BoolOp .Or (b :: rest) pos) wb) : GW X W (.BoolOp .Or (a :: b :: rest) pos) (wOrT wa wb) := by
  refine (pw_or ha hb).imp fun σ H Q ⟨Z, F, env, P, E, hl, r, hw, hP, hE⟩ => ?_
  refine ⟨Z, F, env, _, E, hl, r, hw, fun c e1 Z1 H1 h1 le1 l1 r1 => ?_, hE⟩
  cases c with
  | true =>
    rw [if_pos rfl] at h1 ⊢
    exact hP _ e1 Z1 H1 h1 le1 l1 r1
  | false =>
    rw [if_neg (by decide)] at h1 ⊢
    exact ⟨Z1, F, e1, P, E, by omega, r1, h1, fun m e2 Z2 H2 h2 le2 l2 r2 => hP m e2 Z2 H2 h2 (le1.trans le2) (by omega) r2, by rw [l1]; exact hE.mono le1⟩
theorem gt_w {wa : WT} (h : GW X W a wa) : GT X W a wa := h.pt
theorem gt_not {wa : WT} (ha : GT X W a wa) : GT X W (.UnaryOp .Not a pos) (wNotT wa) := by
  refine (pt_not ha).imp fun σ H Q ⟨Z, F, env, P, E, hl, r, hw, hP, hE⟩ => ?_
  exact ⟨Z, F, env, _, E, hl, r, hw, fun c e1 Z1 H1 h1 le1 l1 r1 => hP _ e1 Z1 H1 h1 le1 l1 r1, hE⟩
theorem g_if {wt : WT} {wa wb : WE} (hc : GT X W c wt) (ha : GE X W a wa) (hb : GE X W b wb) : GE X W (.IfExp c a b pos) (wIf wt wa wb) := by
  refine (pe_ifExp hc ha hb).imp fun σ H Q ⟨Z, F, env, P, E, hl, r, hw, hP, hE⟩ => ?_
  refine ⟨Z, F, env, _, E, hl, r, hw, fun c e1 Z1 H1 h1 le1 l1 r1 => ?_, hE⟩
  cases c with
  | true =>
    rw [if_pos rfl] at h1 ⊢
    exact ⟨Z1, F, e1, P, E, by omega, r1, h1, fun m e2 Z2 H2 v h2 le2 l2 r2 => hP m e2 Z2 H2 v h2 (le1.trans le2) (by omega) r2, by rw [l1]; exact hE.mono le1⟩
  | false =>
    rw [if_neg (by decide)] at h1 ⊢
    exact ⟨Z1, F, e1, P, E, by omega, r1, h1, fun m e2 Z2 H2 v h2 le2 l2 r2 => hP m e2 Z2 H2 v h2 (le1.trans le2) (by omega) r2, by rw [l1]; exact hE.mono le1⟩
/-- a op b op' c -/
def wChain (g g' : G2) (wa wb wc : WO) : WE := fun env P E => wa env (fun o1 e1 => wb e1 (fun o2 e2 => ∃ d1 d2, resolve e2 o1 = some d1 ∧ resolve e2 o2 = some d2 ∧ g d1 d2 (fun m => ∃ k, m = .frz (.bl k) ∧
  if k = true then wc e2 (fun o3 e3 => ∃ d2 d3, resolve e3 o2 = some d2 ∧ resolve e3 o3 = some d3 ∧ g' d2 d3 (fun m => P m e3)) E else P (.frz (.bl false)) e2)) E) E
theorem red_chain {op op' : CmpOp} {g g' : G2} {wa wb wc : WO} (ho : Op2 X (compareOp op) g) (ho' : Op2 X (compareOp op') g') (σ : L2.St) (H : Hp) (Q : VK) (h : Rd_ X.K W (wChain g g' wa wb wc) σ H Q) :
    tChain (anyR X (compareOp op)) (anyR X (compareOp op')) (RdO X.K W wa) (RdO X.K W wb) (RdO X.K W wc) σ H Q := by
  obtain ⟨Z, F, env, P, E, hl, r, hw, hP, hE⟩ := h
  refine ⟨Z, F, env, _, E, hl, r, hw, fun o1 e1 Z1 H1 v1 h1 le1 l1 r1 q1 => ?_, hE⟩
  refine ⟨Z1, F, e1, _, E, by omega, r1, h1, fun o2 e2 Z2 H2 v2 h2 le2 l2 r2 q2 => ?_, by rw [l1]; exact hE.mono le1⟩
  obtain ⟨d1, d2, g1, g2, hg⟩ := h2
  have hl2 : σ.length = e2.length := by omega
  refine ho Z2 H2 v1 v2 d1 d2 _ _ r2.sub (resolve_acc hl2 r2 g1 (q1.mono le2)) (resolve_acc hl2 r2 g2 q2) hg fun m Z3 H3 v hp le3 k => ?_
  obtain ⟨kk, rfl, hp⟩ := hp
  have r3 := k F _ r2
  refine ⟨kk, r3.bl, ?_⟩
  cases kk with
  | true =>
    rw [if_pos rfl] at hp ⊢
    refine ⟨Z3, F, e2, _, E, hl2, r3.tail, hp, fun o3 e3 Z4 H4 v3 h3 le4 l4 r4 q4 => ?_, by rw [l2, l1]; exact hE.mono (le1.trans (le2.trans le3))⟩
    obtain ⟨d2', d3, g2', g3, hg'⟩ := h3
    have hl4 : σ.length = e3.length := by omega
    refine ho' Z4 H4 v2 v3 d2' d3 _ Q r4.sub (resolve_acc hl4 r4 g2' (q2.mono (le3.trans le4))) (resolve_acc hl4 r4 g3 q4) hg' fun m Z5 H5 v hp le5 k => ?_
    exact hP m e3 Z5 H5 v hp (le1.trans (le2.trans (le3.trans (le4.trans le5)))) (by omega) (k F _ r4)
  | false =>
    rw [if_neg (by decide)] at hp ⊢
    exact hP _ e2 Z3 H3 _ hp (le1.trans (le2.trans le3)) (by omega) (r3.tail.frz (fzB _ _ _))
theorem g_chain {op op' : CmpOp} {g g' : G2} {wa wb wc : WO} (ho : Op2 X (compareOp op) g) (ho' : Op2 X (compareOp op') g') (ha : GO X W a wa) (hb : GO X W b wb) (hc : GO X W c wc)
    (hm : lastMarks [op, op'] [b, c] = false := by with_unfolding_all rfl) : GE X W (.Compare a [op, op'] [b, c] pos) (wChain g g' wa wb wc) :=
  (pe_chain opAny opAny ha hb hc hm).imp (red_chain ho ho')
theorem rdt_tst {wa : WE} {σ : L2.St} {H : Hp} {Q : Bool → Hp → Prop} (h : RdT X.K W (wTst wa) σ H Q) : Rd_ X.K W wa σ H fun x H1 => ∃ k, x = .bl k ∧ Q k H1 := by
  obtain ⟨Z, F, env, P, E, hl, r, hw, hP, hE⟩ := h
  refine ⟨Z, F, env, _, E, hl, r, hw, fun m e1 Z1 H1 v h1 le1 l1 r1 => ?_, hE⟩
  obtain ⟨c, rfl, h1⟩ := h1
  exact ⟨c, r1.bl, hP _ e1 Z1 H1 h1 le1 l1 r1.tail⟩
theorem gt_cmp {op : CmpOp} {g : G2} {wa wb : WO} (ho : Op2 X (compareOp op) g) (ha : GO X W a wa) (hb : GO X W b wb) (hm : behindInMarks op b = false) : GT X W (.Compare a [op] [b] pos) (wTst (w2 g wa wb)) :=
  (pt_cmpR opAny ha hb hm).imp fun σ H Q h => red2 ho σ H _ (rdt_tst h)
theorem gt_chain {op op' : CmpOp} {g g' : G2} {wa wb wc : WO} (ho : Op2 X (compareOp op) g) (ho' : Op2 X (compareOp op') g') (ha : GO X W a wa) (hb : GO X W b wb) (hc : GO X W c wc)
    (hm : lastMarks [op, op'] [b, c] = false := by with_unfolding_all rfl) : GT X W (.Compare a [op, op'] [b, c] pos) (wTst (wChain g g' wa wb wc)) :=
  (pt_chain opAny opAny ha hb hc hm).imp fun σ H Q h => red_chain ho ho' σ H _ (rdt_tst h)
end
end Pl

namespace Pl
open PySem PySem.Spec PyProof.Rows L2
open Classical

/-! ### arguments, calls of built-ins -/
abbrev GN := List D → PM → Prop
def OpN (X : Cx) (f : Value) (g : GN) : Prop := ∀ Z H xs ds P Q, Sub Z H → AccL X.K Z H ds xs → g ds P → Rp X.K Z H P Q → ∃ r, CallR X f r ∧ r xs H Q
def anyC (X : Cx) (f : Value) : List V → Hp → VK → Prop := fun xs H Q => ∃ r, CallR X f r ∧ r xs H Q
theorem callAny {X : Cx} {f : Value} : CallR X f (anyC X f) := fun pins s σ H xs us Q I rx ⟨r, h, q⟩ => h pins s σ H xs us Q I rx q
def wNil : WA := fun env P _ => P [] env
def wCons (w : WO) (wa : WA) : WA := fun env P E => w env (fun o e1 => wa e1 (fun os e2 => P (o :: os) e2) E) E
def wN (g : GN) (wa : WA) : WE := fun env P E => wa env (fun os e1 => ∃ ds, resolveAll e1 os = some ds ∧ g ds (fun m => P m e1)) E
section
variable {X : Cx} {W : WX} {a b c e : Expr} {es : List Expr} {pos : Pos}
theorem ga_nil : GA X W [] wNil := (pa_nil).imp fun σ H Q ⟨Z, F, env, P, E, hl, r, hw, hP, hE⟩ => hP _ _ Z H [] hw (Le.refl Z) rfl r rfl
theorem ga_cons {w : WO} {wa : WA} (he : GO X W e w) (ha : GA X W es wa) (hs : starEach (e :: es) X.env = (false, eval e X.env) :: starEach es X.env := by rfl) : GA X W (e :: es) (wCons w wa) := by
  refine (pa_cons he ha hs).imp fun σ H Q ⟨Z, F, env, P, E, hl, r, hw, hP, hE⟩ => ?_
  refine ⟨Z, F, env, _, E, hl, r, hw, fun o e1 Z1 H1 v h1 le1 l1 r1 q1 => ?_, hE⟩
  refine ⟨Z1, F, e1, _, E, by omega, r1, h1, fun os e2 Z2 H2 vs h2 le2 l2 r2 q2 => ?_, by rw [l1]; exact hE.mono le1⟩
  exact hP (o :: os) e2 Z2 H2 (v :: vs) h2 (le1.trans le2) (by omega) r2 ⟨v, vs, rfl, q1.mono le2, q2⟩
theorem redN {f : Value} {g : GN} {wa : WA} (ho : OpN X f g) (σ : L2.St) (H : Hp) (Q : VK) (h : Rd_ X.K W (wN g wa) σ H Q) : tCB (anyC X f) (RdA X.K W wa) σ H Q := by
  obtain ⟨Z, F, env, P, E, hl, r, hw, hP, hE⟩ := h
  refine ⟨Z, F, env, _, E, hl, r, hw, fun os e1 Z1 H1 vs h1 le1 l1 r1 q1 => ?_, hE⟩
  obtain ⟨ds, g1, hg⟩ := h1
  have hl1 : σ.length = e1.length := by omega
  refine ho Z1 H1 vs ds _ Q r1.sub (resolveAll_acc hl1 r1 g1 q1) hg fun m Z3 H3 v hp le3 k => ?_
  exact hP m e1 Z3 H3 v hp (le1.trans le3) (by omega) (k F _ r1)
theorem g_callB {x : Str} {id : String} {p : Pos} {g : GN} {wa : WA} (ho : OpN X (.builtin id) g) (hg : Gl X x) (hm : X.mg x = none) (hv : bootBuiltins x = some (.builtin id)) (ha : GA X W (e :: es) wa) (hn : x ≠ "__name__" := by decide) (hdb : (x == ("__debug__" : Str)) = false := by decide)
    (he : starEach (e :: es) X.env = (false, eval e X.env) :: starEach es X.env := by rfl) (hpl : (backTo pos (starEach es X.env)).any (·.1) = false := by rfl) : GE X W (.Call (.Name x p) (e :: es) [] pos) (wN g wa) :=
  (pe_callB callAny hg hm hv ha hn hdb he hpl).imp (redN ho)
theorem g_callTy {x : Str} {T : String} {p : Pos} {g : GN} {wa : WA} (ho : OpN X (.type T) g) (hg : Gl X x) (hm : X.mg x = none) (hv : bootBuiltins x = some (.type T)) (ha : GA X W (e :: es) wa) (hn : x ≠ "__name__" := by decide) (hdb : (x == ("__debug__" : Str)) = false := by decide)
    (he : starEach (e :: es) X.env = (false, eval e X.env) :: starEach es X.env := by rfl) (hpl : (backTo pos (starEach es X.env)).any (·.1) = false := by rfl) : GE X W (.Call (.Name x p) (e :: es) [] pos) (wN g wa) :=
  (pe_callTy callAny hg hm hv ha hn hdb he hpl).imp (redN ho)

/-! ### subscripts -/
def Ix2 (X : Cx) (g : G2) : Prop := ∀ Z H x y dx dy P Q, Sub Z H → Acc X.K Z H dx x → Acc X.K Z H dy y → g dx dy P → Rp X.K Z H P Q → ∃ r, IxR X r ∧ r x y H Q
def anyI (X : Cx) : R2 := fun x y H Q => ∃ r, IxR X r ∧ r x y H Q
theorem ixAny {X : Cx} : IxR X (anyI X) := fun value slice pins s σ H x y v u Q I rx ry ⟨r, h, q⟩ hs => h value slice pins s σ H x y v u Q I rx ry q hs
theorem g_ix {g : G2} {wa wb : WO} (ho : Ix2 X g) (ha : GO X W a wa) (hb : GO X W b wb) (hs : PlainIx b := by exact fun _ _ => rfl) : GE X W (.Subscript a b pos) (w2 g wa wb) := by
  refine (pe_ix ixAny ha hb hs).imp fun σ H Q ⟨Z, F, env, P, E, hl, r, hw, hP, hE⟩ => ?_
  refine ⟨Z, F, env, _, E, hl, r, hw, fun o1 e1 Z1 H1 v1 h1 le1 l1 r1 q1 => ?_, hE⟩
  refine ⟨Z1, F, e1, _, E, by omega, r1, h1, fun o2 e2 Z2 H2 v2 h2 le2 l2 r2 q2 => ?_, by rw [l1]; exact hE.mono le1⟩
  obtain ⟨d1, d2, g1, g2, hg⟩ := h2
  have hl2 : σ.length = e2.length := by omega
  refine ho Z2 H2 v1 v2 d1 d2 _ Q r2.sub (resolve_acc hl2 r2 g1 (q1.mono le2)) (resolve_acc hl2 r2 g2 q2) hg fun m Z3 H3 v hp le3 k => ?_
  exact hP m e2 Z3 H3 v hp ((le1.trans le2).trans le3) (by omega) (k F _ r2)
def gIx : G2
  | .lst xs, .int i, P => ∃ d, L2.atI xs i = some d ∧ P (.frz d)
  | .tup xs, .int i, P => ∃ d, L2.atI xs i = some d ∧ P (.frz d)
  | .str z, .int i, P => z.length ≤ sizeLine ∧ ∃ c, L2.atI z.cps.toList i = some c ∧ P (.frz (.str ⟨#[c]⟩))
  | .dic t kvs, k, P => keyOk t k ∧ ∃ d, dget kvs k = some d ∧ P (.frz d)
  | .scr ns, .int i, P => ∃ n, L2.atI ns i = some n ∧ P (.frz (.int n))
  | _, _, _ => False
theorem ix_dic (hu : X.A.units + 1 < cLine) : IxR X (fun x y H Q => ∃ a v, x = .ref a ∧ DGet H a y (some v) ∧ Q v H) := by
  intro value slice pins s σ H x y v u Q I rx ry ⟨a, w, e, g, q⟩ hs
  subst e
  obtain rfl : v = Value.ref a := rx
  exact tail_any (dict_typeIs I g) PySem.F.slot_dict_getitem.lookup (d_getItem hu I g ry fun w' s3 I3 rw' => ⟨w, H, I3, rw', q⟩) hs
theorem atI_map {α β : Type} (f : α → β) (xs : List α) (i : Int) : L2.atI (xs.map f) i = (L2.atI xs i).map f := by
  unfold L2.atI
  rw [List.length_map]
  cases ixN xs.length i with
  | none => rfl
  | some j => simp
theorem o_ix (hu : X.A.units + 65 < cLine) : Ix2 X gIx := by
  intro Z H x y dx dy P Q s hx hy hg hr
  cases dx with
  | lst xs =>
    cases dy with
    | int i =>
      obtain ⟨a, vs, rfl, q, l⟩ := hx
      obtain rfl : y = .int i := hy
      obtain ⟨d, h1, h2⟩ := hg
      obtain ⟨v, h3, h4⟩ := l.atI h1
      exact ⟨_, ix_list, a, vs, i, v, rfl, rfl, .inl (.inl q), h3, hr.val h2 h4⟩
    | _ => exact hg.elim
  | tup xs =>
    cases dy with
    | int i =>
      have hx' : Fz X.K Z (.tup xs) x := hx
      simp only [Fz] at hx'
      obtain ⟨a, vs, rfl, q, l⟩ := hx'
      obtain rfl : y = .int i := hy
      obtain ⟨d, h1, h2⟩ := hg
      obtain ⟨v, h3, h4⟩ := l.atI h1
      exact ⟨_, ix_tup, a, vs, i, v, rfl, rfl, .inl (.inl (s.ex q rfl)), h3, hr.val h2 h4⟩
    | _ => exact hg.elim
  | str z =>
    cases dy with
    | int i =>
      obtain rfl : x = .str z := hx
      obtain rfl : y = .int i := hy
      obtain ⟨h0, c, h1, h2⟩ := hg
      exact ⟨_, ix_str, z, i, c, rfl, rfl, h0, h1, hr.val h2 (fzS _ _ _)⟩
    | _ => exact hg.elim
  | dic t kvs =>
    have hg' : keyOk t dy ∧ ∃ d, dget kvs dy = some d ∧ P (.frz d) := by cases dy <;> exact hg
    obtain ⟨hk, d, h1, h2⟩ := hg'
    obtain ⟨a, r, rfl, g, rel⟩ := dic_get s hk hx hy
    rw [h1] at rel
    obtain ⟨v, rfl, f⟩ := rel.some
    exact ⟨_, ix_dic (by omega), a, v, rfl, g, hr.val h2 f⟩
  | scr ns =>
    cases dy with
    | int i =>
      obtain ⟨a, rfl, q⟩ := hx
      obtain rfl : y = .int i := hy
      obtain ⟨n, h1, h2⟩ := hg
      exact ⟨_, ix_list, a, _, i, .int n, rfl, rfl, q, by rw [atI_map, h1]; rfl, hr.val h2 (fzI _ _ _)⟩
    | _ => exact hg.elim
  | _ => exact hg.elim

/-! ### slices -/
abbrev WP := Env → (Option Int → Env → Prop) → XO → Prop
def RdP (K : Fr) (W : WX) (w : WP) : TO := fun σ H Q => ∃ Z F env P E, σ.length = env.length ∧ Rep K Z F H (zp σ env) ∧ w env P E ∧
  (∀ o env' Z' H', P o env' → Le Z Z' → env'.length = env.length → Rep K Z' F H' (zp σ env') → Q o H') ∧ XW K W σ F Z env.length E
abbrev GP (X : Cx) (W : WX) (e : Option Expr) (w : WP) : Prop := L2.PO X e (RdP X.K W w)
def wP0 : WP := fun env P _ => P none env
def wP1 (w : WE) : WP := fun env P E => w env (fun m e1 => ∃ i, m = .frz (.int i) ∧ P (some i) e1) E
theorem _root_.L2.PO.imp {X : Cx} {e : Option Expr} {t t' : TO} (h : L2.PO X e t) (i : ∀ σ H Q, t' σ H Q → t σ H Q) : L2.PO X e t' := ⟨fun pins s σ H Q I h' => h.run pins s σ H Q I (i σ H Q h')⟩
theorem gp_none : L2.PO X none (RdP X.K W wP0) := L2.PO.imp (po_none) fun σ H Q ⟨Z, F, env, P, E, hl, r, hw, hP, hE⟩ => hP _ _ Z H hw (Le.refl Z) rfl r
theorem gp_some {w : WE} (h : GE X W e w) : L2.PO X (some e) (RdP X.K W (wP1 w)) := by
  refine L2.PO.imp (po_some h) fun σ H Q ⟨Z, F, env, P, E, hl, r, hw, hP, hE⟩ => ?_
  refine ⟨Z, F, env, _, E, hl, r, hw, fun m e1 Z1 H1 v h1 le1 l1 r1 => ?_, hE⟩
  obtain ⟨i, rfl, h1⟩ := h1
  have : v = .int i := by have h := r1.fz; simpa only [Fz] using h
  exact ⟨i, this, hP _ e1 Z1 H1 h1 le1 l1 r1.tail⟩
def cutL {α : Type} (xs : List α) (lo hi : Option Int) : List α := (xs.drop (HT.sIx xs.length 0 lo)).take (HT.sIx xs.length xs.length hi - HT.sIx xs.length 0 lo)
def gSl : D → Option Int → Option Int → PM → Prop
  | .lst xs, lo, hi, P => ∀ p, P (.lst p (cutL xs lo hi))
  | .tup xs, lo, hi, P => P (.frz (.tup (cutL xs lo hi)))
  | .str z, lo, hi, P => z.length ≤ sizeLine ∧ P (.frz (.str (cutS z lo hi)))
  | .scr ns, lo, hi, P => ∀ p, P (.lst p ((cutL ns lo hi).map .int))
  | _, _, _, _ => False
def wSl (wa : WO) (wl wh : WP) : WE := fun env P E => wa env (fun o e1 => wl e1 (fun lo e2 => wh e2 (fun hi e3 => ∃ d, resolve e3 o = some d ∧ gSl d lo hi (fun m => P m e3)) E) E) E
def Sl1 (X : Cx) : V → Option Int → Option Int → Hp → VK → Prop := fun x lo hi H Q => ∃ r, SlR X r ∧ r x lo hi H Q
theorem slAny : SlR X (Sl1 X) := fun pins s σ H x v vl vu lo hi sl Q I rx hs pl pu ⟨r, h, q⟩ => h pins s σ H x v vl vu lo hi sl Q I rx hs pl pu q
theorem FzL.cut {K : Fr} {Z : Hp} {ds : List D} {vs : List V} (h : FzL K Z ds vs) (lo hi : Option Int) : FzL K Z (cutL ds lo hi) (cutV vs lo hi) := by
  unfold cutL cutV
  rw [h.length]
  exact (h.drop _).take _
theorem FzL_int (K : Fr) (Z : Hp) : ∀ ns : List Int, FzL K Z (ns.map .int) (ns.map .int)
  | [] => by simp [FzL]
  | n :: r => by
    simp only [List.map_cons, FzL]
    exact ⟨_, _, rfl, fzI _ _ _, FzL_int K Z r⟩
theorem g_slice {wa : WO} {wl wh : WP} {lo hi : Option Expr} {p2 : Pos} (ha : GO X W a wa) (hl : L2.PO X lo (RdP X.K W wl)) (hh : L2.PO X hi (RdP X.K W wh)) : GE X W (.Subscript a (.Slice lo hi none p2) pos) (wSl wa wl wh) := by
  refine (pe_slice slAny ha hl hh).imp fun σ H Q ⟨Z, F, env, P, E, hl, r, hw, hP, hE⟩ => ?_
  refine ⟨Z, F, env, _, E, hl, r, hw, fun o e1 Z1 H1 v h1 le1 l1 r1 q1 => ?_, hE⟩
  refine ⟨Z1, F, e1, _, E, by omega, r1, h1, fun lo e2 Z2 H2 h2 le2 l2 r2 => ?_, by rw [l1]; exact hE.mono le1⟩
  refine ⟨Z2, F, e2, _, E, by omega, r2, h2, fun hi e3 Z3 H3 h3 le3 l3 r3 => ?_, by rw [l2, l1]; exact hE.mono (le1.trans le2)⟩
  obtain ⟨d, g1, hg⟩ := h3
  have hl3 : σ.length = e3.length := by omega
  have hx := resolve_acc hl3 r3 g1 (q1.mono (le2.trans le3))
  have hr : Rp X.K Z3 H3 (fun m => P m e3) Q := fun m Z4 H4 w hp le4 k => hP m e3 Z4 H4 w hp (le1.trans (le2.trans (le3.trans le4))) (by omega) (k F _ r3)
  show Sl1 X v lo hi H3 Q
  cases d with
  | lst xs =>
    obtain ⟨ax, vs, rfl, q, l⟩ := hx
    exact ⟨_, sl_list, ax, vs, rfl, .inl (.inl q), fun p hp => hr.newLst hg (l.cut lo hi) p hp⟩
  | tup xs =>
    have hx' : Fz X.K Z3 (.tup xs) v := hx
    have ex := hx'
    simp only [Fz] at ex
    obtain ⟨ax, vs, rfl, q, l⟩ := ex
    have hg' : P (.frz (.tup (cutL xs lo hi))) e3 := hg
    refine ⟨_, sl_tupA, ax, vs, rfl, .inl (.inl (r3.sub.ex q rfl)), fun e => ?_, fun _ p hp => hr.newTup r3.sub hg' (l.cut lo hi) p hp⟩
    have e2 : cutL xs lo hi = xs := by
      unfold cutL
      rw [l.length, e.1, e.2]
      simp [← l.length]
    rw [e2] at hg'
    exact hr.val (d := .tup xs) hg' hx'
  | str z =>
    obtain rfl : v = .str z := hx
    exact ⟨_, sl_str, z, rfl, hg.1, hr.val (d := .str _) hg.2 (fzS _ _ _)⟩
  | scr ns =>
    obtain ⟨ax, rfl, q⟩ := hx
    refine ⟨_, sl_list, ax, _, rfl, q, fun p hp => ?_⟩
    have e2 : cutV (ns.map V.int) lo hi = (cutL ns lo hi).map V.int := by
      unfold cutV cutL
      rw [List.length_map, ← List.map_drop, ← List.map_take]
    rw [e2]
    exact hr.newLst hg (FzL_int _ _ _) p hp
  | _ => exact hg.elim

/-! ### displays -/
def allVal : List Op → Option (List D)
  | [] => some []
  | .val d :: r => (allVal r).map (d :: ·)
  | _ => none
def wTup (wa : WA) : WE := fun env P E => wa env (fun os e1 => ∃ ds, allVal os = some ds ∧ ds.length ≤ sizeLine ∧ P (.frz (.tup ds)) e1) E
def wLst (wa : WA) : WE := fun env P E => wa env (fun os e1 => ∃ ds, allVal os = some ds ∧ ds.length ≤ sizeLine ∧ ∀ p, P (.lst p ds) e1) E
theorem allVal_fz {K : Fr} {Z : Hp} : ∀ {os : List Op} {ds : List D} {vs : List V}, allVal os = some ds → RepOs K Z os vs → FzL K Z ds vs
  | [], ds, vs, h, r => by
    obtain rfl : vs = [] := r
    simp only [allVal, Option.some.injEq] at h; subst h
    simp [FzL]
  | .val d :: os, ds, vs, h, r => by
    obtain ⟨v, t, rfl, h1, h2⟩ := r
    simp only [allVal, Option.map_eq_some_iff] at h
    obtain ⟨ds', h3, rfl⟩ := h
    simp only [FzL]
    exact ⟨v, t, rfl, h1, allVal_fz h3 h2⟩
  | .loc _ _ :: _, _, _, h, _ => by cases h
  | .fld _ _ _ :: _, _, _, h, _ => by cases h
theorem g_tup {wa : WA} {k : Nat} (ha : GA X W es wa) : GE X W (.Tuple es k pos) (wTup wa) := by
  refine (pe_tup ha).imp fun σ H Q ⟨Z, F, env, P, E, hl, r, hw, hP, hE⟩ => ?_
  refine ⟨Z, F, env, _, E, hl, r, hw, fun os e1 Z1 H1 vs h1 le1 l1 r1 q1 => ?_, hE⟩
  obtain ⟨ds, h2, h3, h4⟩ := h1
  have f := allVal_fz h2 q1
  refine ⟨by rw [← f.length]; exact h3, fun p hp => ?_⟩
  obtain ⟨le2, r2⟩ := r1.newTup' hp f
  exact hP _ e1 _ _ _ h4 (le1.trans le2) l1 r2
theorem g_lst {wa : WA} (ha : GA X W es wa) : GE X W (.List es pos) (wLst wa) := by
  refine (pe_lst ha).imp fun σ H Q ⟨Z, F, env, P, E, hl, r, hw, hP, hE⟩ => ?_
  refine ⟨Z, F, env, _, E, hl, r, hw, fun os e1 Z1 H1 vs h1 le1 l1 r1 q1 => ?_, hE⟩
  obtain ⟨ds, h2, h3, h4⟩ := h1
  have f := allVal_fz h2 q1
  exact ⟨by rw [← f.length]; exact h3, fun p hp => hP _ e1 Z1 _ _ (h4 p) le1 l1 (r1.newLst hp f)⟩
/-- {} whose keys are ints and texts; tuples of these -/
def wDic (t : Bool) : WE := fun env P _ => ∀ p, P (.dic p t []) env
theorem g_dicK : GE X W (.Dict [] [] pos) (wDic false) := (pe_dnewK).imp fun σ H Q ⟨Z, F, env, P, E, hl, r, hw, hP, hE⟩ => fun p hp => hP _ _ Z _ _ (hw p) (Le.refl Z) rfl (r.newDicK hp)
theorem g_dicT : GE X W (.Dict [] [] pos) (wDic true) := (pe_dnewT).imp fun σ H Q ⟨Z, F, env, P, E, hl, r, hw, hP, hE⟩ => fun p hp => hP _ _ Z _ _ (hw p) (Le.refl Z) rfl (r.newDicT hp)
end
end Pl

namespace Pl
open PySem PySem.Spec PyProof.Rows L2
open Classical

/-! ### paths: a slot's own object, an attribute's -/
def Cn.toM : Cn → M
  | .hole _ => .un
  | .frz d => .frz d
  | .lst a xs => .lst a xs
  | .dic a t kvs => .dic a t kvs
def M.toC : M → Option Cn
  | .frz d => some (.frz d)
  | .lst a xs => some (.lst a xs)
  | .dic a t kvs => some (.dic a t kvs)
  | _ => none
def setF (f : Str) (c : Cn) : List (Str × Cn) → List (Str × Cn)
  | [] => []
  | (g, x) :: r => if g = f then (g, c) :: r else (g, x) :: setF f c r
def getC (env : Env) : Op → Option Cn
  | .loc i a => match env[i]? with
    | some (.lst b xs) => if a = b then some (.lst b xs) else none
    | some (.dic b t kvs) => if a = b then some (.dic b t kvs) else none
    | _ => none
  | .fld i x a => match env[i]? with
    | some (.obj _ _ _ fs) => (match fs.lookup x with
      | some (.lst b xs) => if a = b then some (.lst b xs) else none
      | some (.dic b t kvs) => if a = b then some (.dic b t kvs) else none
      | _ => none)
    | _ => none
  | _ => none
def putAt (env : Env) (o : Op) (c : Cn) : Env := match o with
  | .loc i _ => env.set i c.toM
  | .fld i x _ => (match env[i]? with
    | some (.obj b dx cl fs) => env.set i (.obj b dx cl (setF x c fs))
    | _ => env)
  | _ => env
theorem putAt_length {env : Env} {o : Op} {c : Cn} : (putAt env o c).length = env.length := by
  unfold putAt
  split
  · simp
  · split <;> simp
  · rfl
theorem setF_fp {f : Str} {c c' : Cn} : ∀ {fs : List (Str × Cn)}, fs.lookup f = some c → c'.fp = c.fp → (setF f c' fs).flatMap (fun p => p.2.fp) = fs.flatMap fun p => p.2.fp
  | [], h, _ => by simp at h
  | (g, x) :: r, h, e => by
    rw [List.lookup_cons] at h
    unfold setF
    by_cases hg : g = f
    · subst hg
      simp only [beq_self_eq_true] at h
      cases h
      rw [if_pos rfl]
      simp [e]
    · have hb : (f == g) = false := beq_eq_false_iff_ne.mpr fun z => hg z.symm
      rw [hb] at h
      rw [if_neg hg]
      simp only [List.flatMap_cons, setF_fp h e]
theorem mem_lookup_fp {f : Str} {c : Cn} {a : Addr} : ∀ {fs : List (Str × Cn)}, fs.lookup f = some c → a ∈ c.fp → a ∈ fs.flatMap fun p => p.2.fp
  | [], h, _ => by simp at h
  | (g, x) :: r, h, e => by
    rw [List.lookup_cons] at h
    by_cases hg : g = f
    · subst hg
      simp only [beq_self_eq_true] at h
      cases h
      simp [e]
    · have hb : (f == g) = false := beq_eq_false_iff_ne.mpr fun z => hg z.symm
      rw [hb] at h
      simp only [List.flatMap_cons, List.mem_append]
      exact .inr (mem_lookup_fp h e)
theorem RepF.setF {K : Fr} {Z H H' : Hp} {f : Str} {c c' : Cn} {v : V} : ∀ {fs : List (Str × Cn)} {vs : List (Str × V)}, RepF K Z H fs vs → fs.lookup f = some c → vs.lookup f = some v → RepC K Z H' c' v →
    (fs.flatMap fun p => p.2.fp).Nodup → (∀ a, a ∉ c.fp → H' a = H a) → RepF K Z H' (setF f c' fs) vs
  | [], _, _, h, _, _, _, _ => by simp at h
  | (g, x) :: r, vs, h, h1, h2, hc, nd, hk => by
    obtain ⟨u, t, rfl, k1, k2⟩ := h
    rw [List.lookup_cons] at h1 h2
    simp only [List.flatMap_cons] at nd
    obtain ⟨n1, n2, n3⟩ := List.nodup_append.mp nd
    unfold Pl.setF
    by_cases hg : g = f
    · subst hg
      simp only [beq_self_eq_true] at h1 h2
      cases h1; cases h2
      rw [if_pos rfl]
      exact ⟨v, t, rfl, hc, k2.mono (Le.refl Z) fun a ha => hk a fun z => n3 a z a ha rfl⟩
    · have hb : (f == g) = false := beq_eq_false_iff_ne.mpr fun z => hg z.symm
      rw [hb] at h1 h2
      rw [if_neg hg]
      refine ⟨u, t, rfl, k1.mono (Le.refl Z) fun a ha => hk a fun z => ?_, k2.setF h1 h2 hc n2 hk⟩
      exact n3 a ha a (mem_lookup_fp h1 z) rfl
section
variable {K : Fr} {Z F H : Hp}
theorem path_read {σ : L2.St} {env : Env} {o : Op} {c : Cn} (hl : σ.length = env.length) (r : Rep K Z F H (zp σ env)) (h : getC env o = some c) :
    ∃ a, c.fp = [a] ∧ RepC K Z H c (.ref a) ∧ ∀ Z' v, RepO K Z' o v → v = .ref a := by
  cases o with
  | val d => cases h
  | loc i a =>
    simp only [getC] at h
    split at h
    · rename_i b xs hm
      split at h
      · rename_i e; subst e; cases h
        obtain ⟨v, h1, h2, _⟩ := slot_at hl r hm (by intro z; cases z)
        obtain ⟨rfl, q⟩ := h2
        exact ⟨a, rfl, ⟨rfl, q⟩, fun _ _ z => z⟩
      · cases h
    · rename_i b t kvs hm
      split at h
      · rename_i e; subst e; cases h
        obtain ⟨v, h1, h2, _⟩ := slot_at hl r hm (by intro z; cases z)
        obtain ⟨rfl, q⟩ := h2
        exact ⟨a, rfl, ⟨rfl, q⟩, fun _ _ z => z⟩
      · cases h
    · cases h
  | fld i x a =>
    simp only [getC] at h
    split at h
    · rename_i b dx cl fs hm
      obtain ⟨v, h1, h2, _⟩ := slot_at hl r hm (by intro z; cases z)
      obtain ⟨rfl, vs, _, _, rf⟩ := h2
      split at h
      · rename_i b2 xs hx
        split at h
        · rename_i e; subst e; cases h
          obtain ⟨w, _, rc⟩ := lookup_ne_fp rf hx
          obtain ⟨rfl, q⟩ := rc
          exact ⟨a, rfl, ⟨rfl, q⟩, fun _ _ z => z⟩
        · cases h
      · rename_i b2 t kvs hx
        split at h
        · rename_i e; subst e; cases h
          obtain ⟨w, _, rc⟩ := lookup_ne_fp rf hx
          obtain ⟨rfl, q⟩ := rc
          exact ⟨a, rfl, ⟨rfl, q⟩, fun _ _ z => z⟩
        · cases h
      · cases h
    · cases h
/-- what a path leads to is written -/
theorem path_write {σ : L2.St} {env : Env} {o : Op} {c c' : Cn} {a : Addr} {u : HO} (hl : σ.length = env.length) (r : Rep K Z F H (zp σ env)) (h : getC env o = some c) (ha : c.fp = [a]) (ha' : c'.fp = [a]) (hu : u ≠ .own a) (hc : RepC K Z (upd H a u) c' (.ref a)) :
    Rep K Z F (upd H a u) (zp σ (putAt env o c')) := by
  cases o with
  | val d => cases h
  | loc i b =>
    have key : ∀ m, env[i]? = some m → m ≠ .un → m.fp = c.fp → (∀ Z H v, RepM K Z H m v → v = .ref a) → Rep K Z F (upd H a u) (zp σ (env.set i c'.toM)) := fun m hm hn hf hv => by
      obtain ⟨v, h1, h2, r1⟩ := slot_at hl r hm hn
      obtain rfl := hv _ _ _ h2
      refine slot_put h1 hm (r1.write (m' := c'.toM) (by rw [hf, ha]; exact List.mem_cons_self) ?_ ?_)
      · rw [hf, ha, ← ha']; cases c' <;> rfl
      · cases c' <;> first | exact hc | trivial
    simp only [getC] at h
    split at h
    · rename_i b2 xs hm
      split at h
      · rename_i e; subst e; cases h
        obtain rfl : b = a := List.cons.inj ha |>.1
        exact key _ hm (by intro z; cases z) rfl fun _ _ _ q => q.1
      · cases h
    · rename_i b2 t kvs hm
      split at h
      · rename_i e; subst e; cases h
        obtain rfl : b = a := List.cons.inj ha |>.1
        exact key _ hm (by intro z; cases z) rfl fun _ _ _ q => q.1
      · cases h
    · cases h
  | fld i x b =>
    simp only [getC] at h
    split at h
    · rename_i ob dx cl fs hm
      have hx : fs.lookup x = some c := by
        split at h
        · rename_i b2 xs hx
          split at h
          · cases h; exact hx
          · cases h
        · rename_i b2 t kvs hx
          split at h
          · cases h; exact hx
          · cases h
        · cases h
      obtain ⟨v, h1, h2, r1⟩ := slot_at hl r hm (by intro z; cases z)
      obtain ⟨rfl, vs, g1, g2, rf⟩ := h2
      obtain ⟨w, hw, rc⟩ := lookup_ne_fp rf hx
      have hwa : w = .ref a := by
        cases c with
        | hole _ => cases ha
        | frz d => cases ha
        | lst b2 xs =>
          obtain rfl : b2 = a := List.cons.inj ha |>.1
          exact rc.1
        | dic b2 t kvs =>
          obtain rfl : b2 = a := List.cons.inj ha |>.1
          exact rc.1
      subst hwa
      have nd := r1.nd
      rw [fps_cons] at nd
      obtain ⟨nd1, _, _⟩ := List.nodup_append.mp nd
      have nd2 : (ob :: dx :: fs.flatMap fun p => p.2.fp).Nodup := nd1
      have hin : a ∈ fs.flatMap fun p => p.2.fp := mem_lookup_fp hx (by rw [ha]; exact List.mem_cons_self)
      have n1 : ob ≠ a := fun z => (List.nodup_cons.mp nd2).1 (by rw [z]; exact List.mem_cons_of_mem _ hin)
      have n2 : dx ≠ a := fun z => (List.nodup_cons.mp (List.nodup_cons.mp nd2).2).1 (by rw [z]; exact hin)
      have e : putAt env (.fld i x b) c' = env.set i (.obj ob dx cl (setF x c' fs)) := by simp only [putAt, hm]
      rw [e]
      refine slot_put h1 hm (r1.write (m' := .obj ob dx cl (setF x c' fs)) ?_ ?_ ?_)
      · exact List.mem_cons_of_mem _ (List.mem_cons_of_mem _ hin)
      · show ob :: dx :: (setF x c' fs).flatMap (fun p => p.2.fp) = ob :: dx :: fs.flatMap fun p => p.2.fp
        rw [setF_fp hx (by rw [ha, ha'])]
      · refine ⟨rfl, vs, by rw [upd_ne n1]; exact g1, by rw [upd_ne n2]; exact g2, rf.setF hx hw hc (List.nodup_cons.mp (List.nodup_cons.mp nd2).2).2 fun b hb => upd_ne fun z => hb (by rw [ha, z]; exact List.mem_cons_self)⟩
    · cases h
/-- what a path leads to is frozen -/
theorem path_freeze {σ : L2.St} {env : Env} {o : Op} {c : Cn} (hl : σ.length = env.length) (r : Rep K Z F H (zp σ env)) (h : getC env o = some c) :
    ∃ Z', Le Z Z' ∧ Rep K Z' F H (zp σ (putAt env o (.frz c.toD))) ∧ ∀ Z0 v, RepO K Z0 o v → Fz K Z' c.toD v := by
  obtain ⟨a, ha, rc, hv⟩ := path_read hl r h
  -- the object alone is put into Z
  have hZ : Z a = none ∧ F a = none ∧ H a ≠ none := by
    cases o with
    | val d => cases h
    | loc i b =>
      simp only [getC] at h
      split at h
      · rename_i b2 xs hm
        split at h
        · rename_i e; subst e; cases h
          obtain ⟨o, _, hin⟩ := mem_zp hl hm
          exact r.dz a (mem_fps hin (by obtain rfl : b = a := List.cons.inj ha |>.1; exact List.mem_cons_self))
        · cases h
      · rename_i b2 t kvs hm
        split at h
        · rename_i e; subst e; cases h
          obtain ⟨o, _, hin⟩ := mem_zp hl hm
          exact r.dz a (mem_fps hin (by obtain rfl : b = a := List.cons.inj ha |>.1; exact List.mem_cons_self))
        · cases h
      · cases h
    | fld i x b =>
      simp only [getC] at h
      split at h
      · rename_i ob dx cl fs hm
        have hx : fs.lookup x = some c := by
          split at h
          · rename_i b2 xs hx
            split at h
            · cases h; exact hx
            · cases h
          · rename_i b2 t kvs hx
            split at h
            · cases h; exact hx
            · cases h
          · cases h
        obtain ⟨o, _, hin⟩ := mem_zp hl hm
        refine r.dz a (mem_fps hin ?_)
        exact List.mem_cons_of_mem _ (List.mem_cons_of_mem _ (mem_lookup_fp hx (by rw [ha]; exact List.mem_cons_self)))
      · cases h
  let Z' : Hp := fun b => if b = a then H a else Z b
  have z1 : Z' a = H a := if_pos rfl
  have z2 : ∀ b, b ≠ a → Z' b = Z b := fun b hb => if_neg hb
  have le : Le Z Z' := Le.of fun b o e => by
    rw [z2 b (fun z => by rw [z, hZ.1] at e; cases e)]; exact e
  have fz : Fz K Z' c.toD (.ref a) := rc.toFz le (by cases c <;> first | trivial | cases ha) fun b hb => by
    rw [ha] at hb
    obtain rfl : b = a := by simpa using hb
    exact z1
  have sub' : Sub Z' H := fun b o e => by
    by_cases hb : b = a
    · rw [hb, z1] at e; rw [hb]; exact .inl e
    · rw [z2 b hb] at e; exact r.sub b o e
  have zf' : ∀ b, F b ≠ none → Z' b = none ∨ ∃ xs, F b = some (.tup xs) := fun b hb => by
    rw [z2 b (fun z => hb (by rw [z]; exact hZ.2.1))]; exact r.zf b hb
  refine ⟨Z', le, ?_, fun Z0 v q => by rw [hv Z0 v q]; exact fz⟩
  have build : ∀ (i : Nat) (m m' : M) (v : V), σ[i]? = some (some v) → env[i]? = some m → Rep K Z F H ((some v, m) :: zp (σ.eraseIdx i) (env.eraseIdx i)) → (∃ l1 l2, m.fp = l1 ++ a :: l2 ∧ m'.fp = l1 ++ l2) → RepM K Z' H m' v → Rep K Z' F H (zp σ (env.set i m')) := by
    intro i m m' v h1 hm r1 ⟨l1, l2, e1, e2⟩ rm
    have nd := r1.nd
    rw [fps_cons, show (some v, m).2.fp = m.fp from rfl, e1] at nd
    have sub : (l1 ++ l2 ++ fps (zp (σ.eraseIdx i) (env.eraseIdx i))).Sublist (l1 ++ a :: l2 ++ fps (zp (σ.eraseIdx i) (env.eraseIdx i))) :=
      List.Sublist.append (List.Sublist.append (List.Sublist.refl _) (List.sublist_cons_self _ _)) (List.Sublist.refl _)
    have nin : a ∉ l1 ++ l2 ++ fps (zp (σ.eraseIdx i) (env.eraseIdx i)) := by
      intro z
      have p : (l1 ++ a :: l2 ++ fps (zp (σ.eraseIdx i) (env.eraseIdx i))).Perm (a :: (l1 ++ l2 ++ fps (zp (σ.eraseIdx i) (env.eraseIdx i)))) := by
        rw [List.append_assoc, List.append_assoc]
        exact List.perm_middle
      exact (List.nodup_cons.mp (p.nodup_iff.mp nd)).1 z
    refine slot_put h1 hm ⟨sub', r1.fr, zf', fun p hp => ?_, ?_, fun b hb => ?_⟩
    · rcases List.mem_cons.mp hp with z | z
      · rw [z]; exact .inr ⟨v, rfl, rm⟩
      · exact (r1.sl p (List.mem_cons_of_mem _ z)).mono le fun _ _ => rfl
    · rw [fps_cons, show (some v, m').2.fp = m'.fp from rfl, e2]
      exact sub.nodup nd
    · rw [fps_cons, show (some v, m').2.fp = m'.fp from rfl, e2] at hb
      have hb' : b ∈ fps ((some v, m) :: zp (σ.eraseIdx i) (env.eraseIdx i)) := by
        rw [fps_cons, show (some v, m).2.fp = m.fp from rfl, e1]; exact sub.subset hb
      obtain ⟨g1, g2, g3⟩ := r1.dz b hb'
      exact ⟨by rw [z2 b (fun z => nin (by rw [← z]; exact hb))]; exact g1, g2, g3⟩
  cases o with
  | val d => cases h
  | loc i b =>
    have key : ∀ m, env[i]? = some m → m ≠ .un → m.fp = [a] → (∀ Z H v, RepM K Z H m v → v = .ref a) → Rep K Z' F H (zp σ (env.set i (.frz c.toD))) := fun m hm hn hf hv' => by
      obtain ⟨v, h1, h2, r1⟩ := slot_at hl r hm hn
      obtain rfl := hv' _ _ _ h2
      exact build i m _ _ h1 hm r1 ⟨[], [], hf, rfl⟩ fz
    simp only [getC] at h
    split at h
    · rename_i b2 xs hm
      split at h
      · rename_i e; subst e; cases h
        obtain rfl : b = a := List.cons.inj ha |>.1
        exact key _ hm (by intro z; cases z) rfl fun _ _ _ q => q.1
      · cases h
    · rename_i b2 t kvs hm
      split at h
      · rename_i e; subst e; cases h
        obtain rfl : b = a := List.cons.inj ha |>.1
        exact key _ hm (by intro z; cases z) rfl fun _ _ _ q => q.1
      · cases h
    · cases h
  | fld i x b =>
    simp only [getC] at h
    split at h
    · rename_i ob dx cl fs hm
      have hx : fs.lookup x = some c := by
        split at h
        · rename_i b2 xs hx
          split at h
          · cases h; exact hx
          · cases h
        · rename_i b2 t kvs hx
          split at h
          · cases h; exact hx
          · cases h
        · cases h
      obtain ⟨v, h1, h2, r1⟩ := slot_at hl r hm (by intro z; cases z)
      obtain ⟨rfl, vs, g1, g2, rf⟩ := h2
      have e : putAt env (.fld i x b) (.frz c.toD) = env.set i (.obj ob dx cl (setF x (.frz c.toD) fs)) := by simp only [putAt, hm]
      rw [e]
      have split2 : ∀ (fs : List (Str × Cn)) (vs : List (Str × V)), fs.lookup x = some c → RepF K Z H fs vs → (∃ l1 l2, (fs.flatMap fun p => p.2.fp) = l1 ++ a :: l2 ∧ ((setF x (.frz c.toD) fs).flatMap fun p => p.2.fp) = l1 ++ l2) ∧ RepF K Z' H (setF x (.frz c.toD) fs) vs := by
        intro fs
        induction fs with
        | nil => intro vs h; simp at h
        | cons p r ih =>
          intro vs hl rf
          obtain ⟨g, y⟩ := p
          obtain ⟨u, t, rfl, k1, k2⟩ := rf
          rw [List.lookup_cons] at hl
          unfold setF
          by_cases hg : g = x
          · subst hg
            simp only [beq_self_eq_true] at hl
            cases hl
            rw [if_pos rfl]
            refine ⟨⟨[], r.flatMap fun p => p.2.fp, by simp [ha], by simp [Cn.fp]⟩, u, t, rfl, ?_, k2.mono le fun _ _ => rfl⟩
            have hu : u = .ref a := by
              cases c with
              | hole _ => cases ha
              | frz d => cases ha
              | lst b2 xs =>
                obtain rfl : b2 = a := List.cons.inj ha |>.1
                exact k1.1
              | dic b2 t kvs =>
                obtain rfl : b2 = a := List.cons.inj ha |>.1
                exact k1.1
            rw [hu]; exact fz
          · have hb : (x == g) = false := beq_eq_false_iff_ne.mpr fun z => hg z.symm
            rw [hb] at hl
            rw [if_neg hg]
            obtain ⟨⟨l1, l2, e1, e2⟩, q⟩ := ih t hl k2
            exact ⟨⟨y.fp ++ l1, l2, by simp [e1], by simp [e2]⟩, u, t, rfl, k1.mono le fun _ _ => rfl, q⟩
      obtain ⟨⟨l1, l2, e1, e2⟩, q⟩ := split2 fs vs hx rf
      refine build i _ _ _ h1 hm r1 ⟨ob :: dx :: l1, l2, ?_, ?_⟩ ⟨rfl, vs, g1, g2, q⟩
      · show ob :: dx :: fs.flatMap (fun p => p.2.fp) = _
        rw [e1]; rfl
      · show ob :: dx :: (setF x (.frz c.toD) fs).flatMap (fun p => p.2.fp) = _
        rw [e2]; rfl
    · cases h
end
end Pl

namespace Pl
open PySem PySem.Spec PyProof.Rows L2
open Classical

/-- an operand as a value: what a path leads to is frozen -/
def wOf (w : WO) : WE := fun env P E => w env (fun o e1 => match o with
  | .val d => P (.frz d) e1
  | o => ∃ c, getC e1 o = some c ∧ P (.frz c.toD) (putAt e1 o (.frz c.toD))) E
/-- an attribute of what slot i holds -/
def wFld (cf : Str → Str → Bool) (i : Nat) (f : Str) : WO := fun env P _ => match env[i]? with
  | some (.frz (.obj c fs)) => cf c f = true ∧ ∃ d, fs.lookup f = some d ∧ P (.val d) env
  | some (.obj _ _ c fs) => cf c f = true ∧ ∃ x, fs.lookup f = some x ∧ (match x with
    | .frz d => P (.val d) env
    | .lst b _ => P (.fld i f b) env
    | .dic b _ _ => P (.fld i f b) env
    | .hole _ => False)
  | _ => False
/-- an attribute of any object -/
def wAttr (cf : Str → Str → Bool) (w : WO) (f : Str) : WO := fun env P E => w env (fun o e1 => match o with
  | .val (.obj c fs) => cf c f = true ∧ ∃ d, fs.lookup f = some d ∧ P (.val d) e1
  | _ => False) E
/-- the classes' facts: c has instances with plain attributes f -/
def ClsF (K : Fr) (cf : Str → Str → Bool) : Prop := ∀ c f, cf c f = true → Cls K (He.ga K c) ∧ NoAttr K (He.ga K c) f
section
variable {X : Cx} {W : WX} {a b c e : Expr} {es : List Expr} {pos : Pos}
theorem g_of {w : WO} (h : GO X W e w) : GE X W e (wOf w) := by
  refine h.imp fun σ H Q ⟨Z, F, env, P, E, hl, r, hw, hP, hE⟩ => ?_
  refine ⟨Z, F, env, _, E, hl, r, hw, fun o e1 Z1 H1 v h1 le1 l1 r1 q1 => ?_, hE⟩
  cases o with
  | val d => exact hP _ e1 Z1 H1 v h1 le1 l1 (r1.frz q1)
  | loc i a =>
    obtain ⟨c, h2, h3⟩ := h1
    obtain ⟨Z2, le2, r2, f2⟩ := path_freeze (by omega) r1 h2
    exact hP _ _ Z2 H1 v h3 (le1.trans le2) (by rw [putAt_length]; exact l1) (r2.frz (f2 _ _ q1))
  | fld i x a =>
    obtain ⟨c, h2, h3⟩ := h1
    obtain ⟨Z2, le2, r2, f2⟩ := path_freeze (by omega) r1 h2
    exact hP _ _ Z2 H1 v h3 (le1.trans le2) (by rw [putAt_length]; exact l1) (r2.frz (f2 _ _ q1))
theorem fzO_lookup {K : Fr} {Z : Hp} {f : Str} {d : D} : ∀ {fs : List (Str × D)} {vs : List (Str × V)}, FzO K Z fs vs → fs.lookup f = some d → ∃ v, vs.lookup f = some v ∧ Fz K Z d v
  | [], _, _, h => by simp at h
  | (x, y) :: r, vs, h, e => by
    simp only [FzO] at h
    obtain ⟨v, t, rfl, h1, h2⟩ := h
    rw [List.lookup_cons] at e ⊢
    cases q : (f == x) with
    | true => rw [q] at e; cases e; exact ⟨v, rfl, h1⟩
    | false => rw [q] at e; exact fzO_lookup h2 e
theorem go_fld {cf : Str → Str → Bool} {i : Nat} {x f : Str} {p : Pos} (hcf : ClsF X.K cf) (hN : X.N[i]? = some x) (hv : Vis X.env.scope x) (hd : (x == ("__debug__" : Str)) = false) (hcd : (x == ("__classdict__" : Str)) = false)
    (hb : attributeBase (.Name x p) f X.env (eval (.Name x p) X.env) = eval (.Name x p) X.env := by rfl) : GO X W (.Attribute (.Name x p) f pos) (wFld cf i f) := by
  refine (pe_fld (pe_var (i := i) hN hv hd hcd) hb).imp fun σ H Q ⟨Z, F, env, P, E, hl, r, hw, hP, hE⟩ => ?_
  simp only [wFld] at hw
  split at hw
  · rename_i c fs hm
    obtain ⟨h0, d, h1, h2⟩ := hw
    obtain ⟨v, k1, k2, _⟩ := slot_at hl r hm (by intro z; cases z)
    have k3 : Fz X.K Z (.obj c fs) v := k2
    simp only [Fz] at k3
    obtain ⟨a, dx, vs, rfl, q1, q2, q3⟩ := k3
    obtain ⟨u, e1, e2⟩ := fzO_lookup q3 h1
    obtain ⟨c1, c2⟩ := hcf c f h0
    exact ⟨_, k1, a, _, dx, vs, u, rfl, r.sub.ex q1 rfl, c1, c2, e1, hP _ _ Z H u h2 (Le.refl Z) rfl r e2⟩
  · rename_i a dx c fs hm
    obtain ⟨h0, y, h1, h2⟩ := hw
    obtain ⟨v, k1, k2, _⟩ := slot_at hl r hm (by intro z; cases z)
    obtain ⟨rfl, vs, q1, q2, q3⟩ := k2
    obtain ⟨u, e1, e2⟩ := lookup_ne_fp q3 h1
    obtain ⟨c1, c2⟩ := hcf c f h0
    refine ⟨_, k1, a, _, dx, vs, u, rfl, q1, c1, c2, e1, ?_⟩
    cases y with
    | hole _ => exact h2.elim
    | frz d => exact hP _ _ Z H u h2 (Le.refl Z) rfl r e2
    | lst b xs => exact hP _ _ Z H u h2 (Le.refl Z) rfl r e2.1
    | dic b t kvs => exact hP _ _ Z H u h2 (Le.refl Z) rfl r e2.1
  · exact hw.elim
theorem go_attr {cf : Str → Str → Bool} {f : Str} {w : WO} (hcf : ClsF X.K cf) (h : GO X W e w) (hb : attributeBase e f X.env (eval e X.env) = eval e X.env := by rfl) : GO X W (.Attribute e f pos) (wAttr cf w f) := by
  refine (pe_fld h hb).imp fun σ H Q ⟨Z, F, env, P, E, hl, r, hw, hP, hE⟩ => ?_
  refine ⟨Z, F, env, _, E, hl, r, hw, fun o e1 Z1 H1 v h1 le1 l1 r1 q1 => ?_, hE⟩
  split at h1
  · rename_i c fs
    obtain ⟨h0, d, h2, h3⟩ := h1
    have k3 : Fz X.K Z1 (.obj c fs) v := q1
    simp only [Fz] at k3
    obtain ⟨a, dx, vs, rfl, g1, g2, g3⟩ := k3
    obtain ⟨u, e1', e2⟩ := fzO_lookup g3 h2
    obtain ⟨c1, c2⟩ := hcf c f h0
    exact ⟨a, _, dx, vs, u, rfl, r1.sub.ex g1 rfl, c1, c2, e1', hP _ _ Z1 H1 u h3 le1 l1 r1 e2⟩
  · exact h1.elim

/-! ### methods that change what a path leads to -/
abbrev GMu := Cn → List D → (D → Cn → Prop) → Prop
def OpMut (X : Cx) (id : String) (va : Bool) (g : GMu) : Prop := ∀ Z H a c ds vs P Q, Sub Z H → RepC X.K Z H c (.ref a) → c.fp = [a] → AccL X.K Z H ds vs → (va = true → FzL X.K Z ds vs) → g c ds P →
  (∀ d c' u v, P d c' → c'.fp = [a] → u ≠ .own a → RepC X.K Z (upd H a u) c' (.ref a) → Fz X.K Z d v → Q v (upd H a u)) → ∃ r, MtR X id r ∧ r (.ref a) vs H Q
def anyM (X : Cx) (id : String) : V → List V → Hp → VK → Prop := fun x xs H Q => ∃ r, MtR X id r ∧ r x xs H Q
theorem mtAny {X : Cx} {id : String} : MtR X id (anyM X id) := fun pins s σ H x xs v us Q I rx rs ⟨r, h, q⟩ => h pins s σ H x xs v us Q I rx rs q
def tyC (T : String) : Cn → Prop
  | .lst _ _ => T = "list"
  | .dic _ _ _ => T = "dict"
  | _ => False
/-- the arguments: values (va), or whatever may be read -/
def argD (va : Bool) (env : Env) (os : List Op) : Option (List D) := if va = true then allVal os else resolveAll env os
def wMut (T : String) (va : Bool) (g : GMu) (wo : WO) (wa : WA) : WE := fun env P E => wo env (fun o e1 => (∃ c, getC e1 o = some c ∧ tyC T c) ∧
  wa e1 (fun os e2 => ∃ c ds, getC e2 o = some c ∧ argD va e2 os = some ds ∧ g c ds (fun d c' => P (.frz d) (putAt e2 o c'))) E) E
theorem tyC_ty {K : Fr} {Z H : Hp} {T : String} {c : Cn} {a : Addr} (r : RepC K Z H c (.ref a)) (h : tyC T c) : tyV K T (.ref a) H := by
  cases c with
  | hole _ => exact h.elim
  | frz d => exact h.elim
  | lst b xs =>
    obtain ⟨e, vs, q, _⟩ := r
    cases e
    exact .inl ⟨h, vs, .inl (.inl q)⟩
  | dic b t kvs =>
    obtain ⟨e, q⟩ := r
    cases e
    cases t with
    | false => obtain ⟨ks, q, _⟩ := q; exact .inr (.inr (.inl ⟨h, .inl ⟨ks, q⟩⟩))
    | true => obtain ⟨ks, q, _⟩ := q; exact .inr (.inr (.inl ⟨h, .inr ⟨ks, q⟩⟩))
theorem allVal_resolve {env : Env} : ∀ {os : List Op} {ds : List D}, allVal os = some ds → resolveAll env os = some ds
  | [], ds, h => h
  | .val d :: r, ds, h => by
    simp only [allVal, Option.map_eq_some_iff] at h
    obtain ⟨ds', h1, rfl⟩ := h
    simp only [resolveAll, resolve, allVal_resolve h1]
  | .loc _ _ :: _, _, h => by cases h
  | .fld _ _ _ :: _, _, h => by cases h
theorem argD_resolve {va : Bool} {env : Env} {os : List Op} {ds : List D} (h : argD va env os = some ds) : resolveAll env os = some ds := by
  unfold argD at h
  split at h
  · exact allVal_resolve h
  · exact h
theorem redM {T : String} {id : String} {va : Bool} {g : GMu} {wo : WO} {wa : WA} (ho : OpMut X id va g) (σ : L2.St) (H : Hp) (Q : VK) (h : Rd_ X.K W (wMut T va g wo wa) σ H Q) :
    RdO X.K W wo σ H fun x H1 => tyV X.K T x H1 ∧ RdA X.K W wa σ H1 fun xs H2 => anyM X id x xs H2 Q := by
  obtain ⟨Z, F, env, P, E, hl, r, hw, hP, hE⟩ := h
  refine ⟨Z, F, env, _, E, hl, r, hw, fun o e1 Z1 H1 v h1 le1 l1 r1 q1 => ?_, hE⟩
  obtain ⟨⟨c1, k1, k2⟩, h1⟩ := h1
  obtain ⟨a, f1, rc1, hv⟩ := path_read (by omega) r1 k1
  obtain rfl := hv _ _ q1
  refine ⟨tyC_ty rc1 k2, Z1, F, e1, _, E, by omega, r1, h1, fun os e2 Z2 H2 vs h2 le2 l2 r2 q2 => ?_, by rw [l1]; exact hE.mono le1⟩
  obtain ⟨c, ds, g1, g2, hg⟩ := h2
  have hl2 : σ.length = e2.length := by omega
  obtain ⟨a', f2, rc2, hv'⟩ := path_read hl2 r2 g1
  have ea : V.ref a = V.ref a' := hv' Z1 _ q1
  cases ea
  refine ho Z2 H2 a c ds vs _ Q r2.sub rc2 f2 (resolveAll_acc hl2 r2 (argD_resolve g2) q2) (fun hva => allVal_fz (by unfold argD at g2; rw [if_pos hva] at g2; exact g2) q2) hg fun d c' u v hp f3 hu rc3 fz => ?_
  exact hP _ _ Z2 _ v hp (le1.trans le2) (by rw [putAt_length]; omega) ((path_write hl2 r2 g1 f2 f3 hu rc3).frz fz)
theorem g_mut {T : String} {name : Str} {apos : Pos} {id : String} {va : Bool} {g : GMu} {wo : WO} {wa : WA} (pa : PlainAttrs T) (slot : Slot T name id) (hty : typeOf (.builtin id) = pure (.type "method_descriptor")) (ho : OpMut X id va g) (ha : GO X W a wo) (hb : GA X W (e :: es) wa)
    (hbase : attributeBase a name X.env (eval a X.env) = eval a X.env := by rfl)
    (hfew : ((backTo pos (starEach (e :: es) X.env)).all (fun x => !x.1) && (backToKw pos (keywordEach [] X.env)).all (fun x => x.1.isSome)
      && decide ((e :: es).length + ([] : List Keyword).length + (if ([] : List Keyword).isEmpty then 0 else 1) < 30)) = true := by rfl)
    (hline : (apos.endLine == pos.line) = true := by rfl) (hs : starEach (e :: es) X.env = (false, eval e X.env) :: starEach es X.env := by rfl) (hplain : (backTo pos (starEach es X.env)).any (·.1) = false := by rfl) :
    GE X W (.Call (.Attribute a name apos) (e :: es) [] pos) (wMut T va g wo wa) :=
  (pe_bm pa slot hty mtAny ha hb hbase hfew hline hs hplain).imp (redM ho)
/-- xs.append(y) -/
def gAppend : GMu
  | .lst a xs, [d], P => xs.length < sizeLine ∧ P .non (.lst a (xs ++ [d]))
  | _, _, _ => False
/-- xs.extend(ys), ys a list -/
def gExtend : GMu
  | .lst a xs, [.lst ys], P => xs.length + ys.length ≤ sizeLine ∧ P .non (.lst a (xs ++ ys))
  | _, _, _ => False
/-- xs.pop(i) -/
def gPop : GMu
  | .lst a xs, [.int i], P => -(2 ^ 63) ≤ i ∧ i < 2 ^ 63 ∧ ∃ k d, seqIndex? i xs.length = some k ∧ xs[k]? = some d ∧ P d (.lst a (xs.eraseIdx k))
  | _, _, _ => False
theorem FzL.erase {K : Fr} {Z : Hp} : ∀ {ds : List D} {vs : List V} (n : Nat), FzL K Z ds vs → FzL K Z (ds.eraseIdx n) (vs.eraseIdx n)
  | [], vs, n, h => by simp only [FzL] at h; subst h; simp [FzL]
  | x :: r, vs, 0, h => by
    simp only [FzL] at h
    obtain ⟨w, t, rfl, h1, h3⟩ := h
    exact h3
  | x :: r, vs, n + 1, h => by
    simp only [FzL] at h
    obtain ⟨w, t, rfl, h1, h3⟩ := h
    simp only [List.eraseIdx_cons_succ, FzL]
    exact ⟨w, _, rfl, h1, FzL.erase n h3⟩
theorem o_append : OpMut X "list.append" true gAppend := by
  intro Z H a c ds vs P Q s rc f ac fz hg hq
  cases c with
  | lst b xs =>
    match ds, hg with
    | [d], hg =>
      have fz := fz rfl
      simp only [FzL] at fz
      obtain ⟨v, t, rfl, h1, rfl⟩ := fz
      obtain ⟨e, ws, q, l⟩ := rc
      cases e
      refine ⟨_, mt_append, a, ws, v, rfl, rfl, q, by rw [← l.length]; exact hg.1, ?_⟩
      refine hq .non _ _ .non hg.2 rfl (by intro z; cases z) ⟨rfl, _, upd_same, l.append ?_⟩ (fzN _ _)
      simp only [FzL]
      exact ⟨v, [], rfl, h1, rfl⟩
  | _ => exact hg.elim
theorem o_extend : OpMut X "list.extend" false gExtend := by
  intro Z H a c ds vs P Q s rc f ac fz hg hq
  cases c with
  | lst b xs =>
    match ds, hg with
    | [.lst ys], hg =>
      obtain ⟨v, t, rfl, ⟨b2, zs, rfl, q2, l2⟩, rfl⟩ := ac
      obtain ⟨e, ws, q, l⟩ := rc
      cases e
      refine ⟨_, mt_extend, a, b2, ws, zs, rfl, rfl, q, q2, by rw [← l.length, ← l2.length]; exact hg.1, ?_⟩
      exact hq .non _ _ .non hg.2 rfl (by intro z; cases z) ⟨rfl, _, upd_same, l.append l2⟩ (fzN _ _)
  | _ => exact hg.elim
theorem o_pop : OpMut X "list.pop" false gPop := by
  intro Z H a c ds vs P Q s rc f ac fz hg hq
  cases c with
  | lst b xs =>
    match ds, hg with
    | [.int i], hg =>
      obtain ⟨v, t, rfl, hi, rfl⟩ := ac
      obtain rfl : v = .int i := hi
      obtain ⟨h1, h2, k, d, h3, h4, h5⟩ := hg
      obtain ⟨e, ws, q, l⟩ := rc
      cases e
      obtain ⟨y, hy, fy⟩ := l.get h4
      exact ⟨_, mt_popAt, a, ws, i, k, y, rfl, rfl, q, h1, h2, by rw [← l.length]; exact h3, hy, hq d _ _ y h5 rfl (by intro z; cases z) ⟨rfl, _, upd_same, l.erase k⟩ fy⟩
  | _ => exact hg.elim
end
end Pl

namespace Pl
open PySem PySem.Spec PyProof.Rows L2
open Classical

/-! ### statements -/
structure Pst where
  nx : Env → Prop
  rt : M → Env → Prop
  bk : Env → Prop := fun _ => False
  ct : Env → Prop := fun _ => False
abbrev WS := Env → Pst → XO → Prop
/-- the parameters' slots are as they were handed in -/
def Pin (pv : List V) (σ : L2.St) : Prop := σ.take pv.length = pv.map some
def XS (K : Fr) (W : WX) (F Z : Hp) (pv : List V) (n : Nat) (E : XO) : Prop :=
  ∀ c d env' σ' Z' H' dx y, E c d env' → Le Z Z' → σ'.length = n → env'.length = n → Pin pv σ' → Rep K Z' F H' (zp σ' env') → Z' dx = some (.xd [("value", y)]) → Fz K Z' d y → W (.ref (He.ga K c)) (some dx) σ' H'
theorem XS.mono {K : Fr} {W : WX} {F Z Z1 : Hp} {pv : List V} {n : Nat} {E : XO} (h : XS K W F Z pv n E) (le : Le Z Z1) : XS K W F Z1 pv n E :=
  fun c d env' σ' Z' H' dx y e l q1 q2 p r h1 h2 => h c d env' σ' Z' H' dx y e (le.trans l) q1 q2 p r h1 h2
theorem XS.xw {K : Fr} {W : WX} {F Z : Hp} {pv : List V} {n : Nat} {E : XO} {σ : L2.St} (h : XS K W F Z pv n E) (hl : σ.length = n) (hp : Pin pv σ) : XW K W σ F Z n E :=
  fun c d env' Z' H' dx y e l q r h1 h2 => h c d env' σ Z' H' dx y e l hl q hp r h1 h2
/-- where a statement ends -/
structure Ends_ (K : Fr) (F Z : Hp) (pv : List V) (n : Nat) (P : Pst) (D : L2.Ends) : Prop where
  nx : ∀ env' σ' Z' H', P.nx env' → Le Z Z' → σ'.length = n → env'.length = n → Pin pv σ' → Rep K Z' F H' (zp σ' env') → D.nx σ' H'
  rt : ∀ m env' σ' Z' H' v, P.rt m env' → Le Z Z' → σ'.length = n → env'.length = n → Pin pv σ' → Rep K Z' F H' ((some v, m) :: zp σ' env') → D.rt v H'
  bk : ∀ env' σ' Z' H', P.bk env' → Le Z Z' → σ'.length = n → env'.length = n → Pin pv σ' → Rep K Z' F H' (zp σ' env') → D.bk σ' H'
  ct : ∀ env' σ' Z' H', P.ct env' → Le Z Z' → σ'.length = n → env'.length = n → Pin pv σ' → Rep K Z' F H' (zp σ' env') → D.ct σ' H'
theorem Ends_.mono {K : Fr} {F Z Z1 : Hp} {pv : List V} {n : Nat} {P : Pst} {D : L2.Ends} (h : Ends_ K F Z pv n P D) (le : Le Z Z1) : Ends_ K F Z1 pv n P D :=
  ⟨fun e s Z' H' a b c d f g => h.nx e s Z' H' a (le.trans b) c d f g, fun m e s Z' H' v a b c d f g => h.rt m e s Z' H' v a (le.trans b) c d f g,
    fun e s Z' H' a b c d f g => h.bk e s Z' H' a (le.trans b) c d f g, fun e s Z' H' a b c d f g => h.ct e s Z' H' a (le.trans b) c d f g⟩
def RdS (K : Fr) (W : WX) (np : Nat × Nat) (w : WS) : TS := fun D σ H => ∃ Z F env pv P E, (pv.length = np.1 ∧ env.length = np.2) ∧ σ.length = env.length ∧ Pin pv σ ∧ Rep K Z F H (zp σ env) ∧ w env P E ∧ Ends_ K F Z pv env.length P D ∧ XS K W F Z pv env.length E
abbrev GS (X : Cx) (W : WX) (np : Nat × Nat) (st : Stmt) (w : WS) : Prop := PS X st (RdS X.K W np w)
abbrev GSs (X : Cx) (W : WX) (np : Nat × Nat) (sts : List Stmt) (w : WS) : Prop := PSs X sts (RdS X.K W np w)
theorem _root_.L2.PS.imp {X : Cx} {st : Stmt} {t t' : TS} (h : PS X st t) (i : ∀ D σ H, t' D σ H → t D σ H) : PS X st t' := ⟨fun pins s σ H D I h' => h.run pins s σ H D I (i D σ H h')⟩
theorem _root_.L2.PSs.imp {X : Cx} {st : List Stmt} {t t' : TS} (h : PSs X st t) (i : ∀ D σ H, t' D σ H → t D σ H) : PSs X st t' := ⟨fun pins s σ H D I h' => h.run pins s σ H D I (i D σ H h')⟩

def wPass : WS := fun env P _ => P.nx env
def wSeq (w u : WS) : WS := fun env P E => w env { P with nx := fun e => u e P E } E
def wDrop (w : WE) : WS := fun env P E => w env (fun _ e => P.nx e) E
def wRet (w : WE) : WS := fun env P E => w env P.rt E
def wRetN : WS := fun env P _ => P.rt (.frz .non) env
def wBreak : WS := fun env P _ => P.bk env
def wIfS (c : WT) (w u : WS) : WS := fun env P E => c env (fun b e => if b = true then w e P E else u e P E) E
def wAsg (i : Nat) (w : WE) : WS := fun env P E => w env (fun m e => P.nx (e.set i m)) E
/-- what is never reached -/
def wNever : WS := fun _ _ _ => False
section
variable {X : Cx} {W : WX} {np : Nat × Nat} {a b c e : Expr} {es : List Expr} {pos : Pos} {st : Stmt} {rest : List Stmt}
theorem gs_never : GS X W np st wNever := (ps_never).imp fun D σ H ⟨Z, F, env, pv, P, E, _, _, _, _, hw, _⟩ => hw
theorem gss_never : GSs X W np rest wNever := (pss_never).imp fun D σ H ⟨Z, F, env, pv, P, E, _, _, _, _, hw, _⟩ => hw
theorem gs_pass : GS X W np (.Pass pos) wPass := (ps_pass).imp fun D σ H ⟨Z, F, env, pv, P, E, hn, hl, hp, r, hw, hd, hE⟩ => hd.nx env σ Z H hw (Le.refl Z) hl rfl hp r
theorem gs_doc {x j pos pos'} : GS X W np (.Expr (.Constant (.str x) j pos) pos') wPass := (ps_doc).imp fun D σ H ⟨Z, F, env, pv, P, E, hn, hl, hp, r, hw, hd, hE⟩ => hd.nx env σ Z H hw (Le.refl Z) hl rfl hp r
theorem gs_break : GS X W np (.Break pos) wBreak := (ps_break).imp fun D σ H ⟨Z, F, env, pv, P, E, hn, hl, hp, r, hw, hd, hE⟩ => hd.bk env σ Z H hw (Le.refl Z) hl rfl hp r
theorem gss_nil : GSs X W np [] wPass := (pss_nil).imp fun D σ H ⟨Z, F, env, pv, P, E, hn, hl, hp, r, hw, hd, hE⟩ => hd.nx env σ Z H hw (Le.refl Z) hl rfl hp r
theorem gss_one {w : WS} (h : GS X W np st w) : GSs X W np [st] w := pss_one h
theorem gss_cons {w u : WS} (h : GS X W np st w) (h2 : GSs X W np rest u) : GSs X W np (st :: rest) (wSeq w u) := by
  refine (pss_cons h h2).imp fun D σ H ⟨Z, F, env, pv, P, E, hn, hl, hp, r, hw, hd, hE⟩ => ?_
  refine ⟨Z, F, env, pv, _, E, hn, hl, hp, r, hw, ⟨fun e s Z' H' a b c d f g => ?_, hd.rt, hd.bk, hd.ct⟩, hE⟩
  exact ⟨Z', F, e, pv, P, E, ⟨hn.1, by omega⟩, by omega, f, g, a, by rw [d]; exact hd.mono b, by rw [d]; exact hE.mono b⟩
theorem gs_expr {w : WE} (h : GE X W e w) (hs : swapsWith e none pos.line X.env = pure false := by rfl) : GS X W np (.Expr e pos) (wDrop w) := by
  refine (ps_expr h hs).imp fun D σ H ⟨Z, F, env, pv, P, E, hn, hl, hp, r, hw, hd, hE⟩ => ?_
  exact ⟨Z, F, env, _, E, hl, r, hw, fun m e1 Z1 H1 v h1 le1 l1 r1 => hd.nx e1 σ Z1 H1 h1 le1 (by omega) l1 hp r1.tail, hE.xw hl hp⟩
theorem gs_ret {w : WE} (h : GE X W e w) : GS X W np (.Return (some e) pos) (wRet w) := by
  refine (ps_ret h).imp fun D σ H ⟨Z, F, env, pv, P, E, hn, hl, hp, r, hw, hd, hE⟩ => ?_
  exact ⟨Z, F, env, _, E, hl, r, hw, fun m e1 Z1 H1 v h1 le1 l1 r1 => hd.rt m e1 σ Z1 H1 v h1 le1 (by omega) l1 hp r1, hE.xw hl hp⟩
theorem gs_retN : GS X W np (.Return none pos) wRetN := (ps_retN).imp fun D σ H ⟨Z, F, env, pv, P, E, hn, hl, hp, r, hw, hd, hE⟩ => hd.rt _ env σ Z H .non hw (Le.refl Z) hl rfl hp (r.frz (fzN _ _))
theorem gs_if {wc : WT} {w u : WS} {sa sb : List Stmt} (hc : GT X W c wc) (ha : GSs X W np sa w) (hb : GSs X W np sb u) : GS X W np (.If c sa sb pos) (wIfS wc w u) := by
  refine (ps_if hc ha hb).imp fun D σ H ⟨Z, F, env, pv, P, E, hn, hl, hp, r, hw, hd, hE⟩ => ?_
  refine ⟨Z, F, env, _, E, hl, r, hw, fun k e1 Z1 H1 h1 le1 l1 r1 => ?_, hE.xw hl hp⟩
  cases k with
  | true =>
    rw [if_pos rfl] at h1 ⊢
    exact ⟨Z1, F, e1, pv, P, E, ⟨hn.1, by omega⟩, by omega, hp, r1, h1, by rw [l1]; exact hd.mono le1, by rw [l1]; exact hE.mono le1⟩
  | false =>
    rw [if_neg (by decide)] at h1 ⊢
    exact ⟨Z1, F, e1, pv, P, E, ⟨hn.1, by omega⟩, by omega, hp, r1, h1, by rw [l1]; exact hd.mono le1, by rw [l1]; exact hE.mono le1⟩
theorem zp_set {σ : L2.St} {env : Env} {i : Nat} {v : V} {m : M} {K : Fr} {Z F H : Hp} (hl : σ.length = env.length) (hi : i < env.length) (r : Rep K Z F H ((some v, m) :: zp σ env)) : Rep K Z F H (zp (σ.set i (some v)) (env.set i m)) := by
  have h1 : σ[i]? = some σ[i] := List.getElem?_eq_getElem (by omega)
  have h2 : env[i]? = some env[i] := List.getElem?_eq_getElem hi
  obtain ⟨k1, k2⟩ := zp_split h1 h2
  have r2 := r.perm (List.Perm.cons _ k1)
  have r3 : Rep K Z F H ((some v, m) :: zp (σ.eraseIdx i) (env.eraseIdx i)) := (r2.perm (List.Perm.swap ..)).tail
  exact r3.perm (k2 (some v) m).symm
theorem Pin.set {pv : List V} {σ : L2.St} {i : Nat} {o : Option V} (h : Pin pv σ) (hi : pv.length ≤ i) : Pin pv (σ.set i o) := by
  unfold Pin at h ⊢
  rw [List.take_set_of_le hi]; exact h
theorem gs_set {i : Nat} {x : Str} {pos' : Pos} {w : WE} (hN : X.N.Nodup) (hi : X.N[i]? = some x) (hx : Loc X.env.scope x) (h : GE X W e w) (hnp : np.1 ≤ i) (hlen : i < np.2) (hs : swapsWith e (some (.Name x pos')) pos.line X.env = pure false := by rfl)
    (hf : X.fn x = true ∨ X.env.scope.names.lookup x = some .local := by first | exact .inl rfl | exact .inr rfl | assumption) : GS X W np (.Assign [.Name x pos'] e pos) (wAsg i w) := by
  refine (ps_set (i := i) hN hi hx h hs hf).imp fun D σ H ⟨Z, F, env, pv, P, E, hn, hl, hp, r, hw, hd, hE⟩ => ?_
  refine ⟨Z, F, env, _, E, hl, r, hw, fun m e1 Z1 H1 v h1 le1 l1 r1 => ?_, hE.xw hl hp⟩
  have hi2 : i < e1.length := by rw [l1, hn.2]; exact hlen
  exact hd.nx _ _ Z1 H1 h1 le1 (by simp; omega) (by simpa using l1) (hp.set (by omega)) (zp_set (by omega) hi2 r1)
end
end Pl

namespace Pl
open PySem PySem.Spec PyProof.Rows L2
open Classical

/-! ### what is lent to a callee -/
def argM (env : Env) : Op → Option M
  | .val d => some (.frz d)
  | .loc i a => match env[i]? with
    | some m => if (m.own a).isSome = true then some m else none
    | none => none
  | .fld i x a => match getC env (.fld i x a) with
    | some c => some c.toM
    | none => none
def takeO (env : Env) : Op → Env
  | .val _ => env
  | .loc i _ => env.set i .un
  | .fld i x a => putAt env (.fld i x a) (.hole a)
def putO (env : Env) (o : Op) (m : M) : Env := match o with
  | .val _ => env
  | .loc i _ => env.set i m
  | .fld i x a => (match env[i]? with
    | some (.obj b dx cl fs) => (match fs.lookup x, m.toC with
      | some (.hole a'), some c => if a = a' then env.set i (.obj b dx cl (setF x c fs)) else env
      | _, _ => env)
    | _ => env)
def lendAll (env : Env) : List Op → Option (List M × Env)
  | [] => some ([], env)
  | o :: r => match argM env o with
    | some m => (match lendAll (takeO env o) r with
      | some (ms, e) => some (m :: ms, e)
      | none => none)
    | none => none
def backAll (env : Env) : List Op → List M → Env
  | [], _ => env
  | _, [] => env
  | o :: r, m :: ms => backAll (putO env o m) r ms
def zpA (vs : List V) (ms : List M) : List Sl := (vs.map some).zip ms
def OkO (σ : L2.St) : Op → Prop
  | .loc i a => σ[i]? = some (some (.ref a))
  | _ => True
theorem takeO_length {env : Env} {o : Op} : (takeO env o).length = env.length := by
  cases o with
  | val d => rfl
  | loc i a => simp [takeO]
  | fld i x a => exact (putAt_length (env := env) (o := .fld i x a) (c := .hole a))
theorem putO_length {env : Env} {o : Op} {m : M} : (putO env o m).length = env.length := by
  cases o with
  | val d => rfl
  | loc i a => simp [putO]
  | fld i x a =>
    simp only [putO]
    split
    · split
      · split <;> simp
      · rfl
    · rfl
theorem backAll_length : ∀ {os : List Op} {env : Env} {ms : List M}, (backAll env os ms).length = env.length
  | [], _, _ => by simp only [backAll]
  | _ :: _, _, [] => by simp only [backAll]
  | o :: r, env, m :: ms => by
    simp only [backAll]
    rw [backAll_length, putO_length]
section
variable {K : Fr} {Z F H : Hp}
theorem slotL {σ : L2.St} {env : Env} {i : Nat} {o : Option V} {m : M} (L : List Sl) (h1 : σ[i]? = some o) (h2 : env[i]? = some m) :
    (L ++ zp σ env).Perm ((o, m) :: (L ++ zp (σ.eraseIdx i) (env.eraseIdx i))) ∧ ∀ m', (L ++ zp σ (env.set i m')).Perm ((o, m') :: (L ++ zp (σ.eraseIdx i) (env.eraseIdx i))) := by
  obtain ⟨k1, k2⟩ := zp_split h1 h2
  refine ⟨(List.Perm.append_left L k1).trans List.perm_middle, fun m' => ?_⟩
  have := k2 o m'
  rw [set_same h1] at this
  exact (List.Perm.append_left L this).trans List.perm_middle
/-- an attribute's own is taken out of its object -/
theorem Rep.open_ {v : V} {ob dx : Addr} {c : Str} {fs : List (Str × Cn)} {x : Str} {cn : Cn} {a : Addr} {l : List Sl} (r : Rep K Z F H ((some v, .obj ob dx c fs) :: l)) (hx : fs.lookup x = some cn) (ha : cn.fp = [a]) :
    Rep K Z F H ((some (.ref a), cn.toM) :: (some v, .obj ob dx c (setF x (.hole a) fs)) :: l) := by
  have hm := r.at List.mem_cons_self (by intro z; cases z)
  obtain ⟨hv, vs, g1, g2, rf⟩ := hm
  have hfp : cn.toM.fp = [a] := by rw [← ha]; cases cn <;> rfl
  have split2 : ∀ (fs : List (Str × Cn)) (vs : List (Str × V)), fs.lookup x = some cn → RepF K Z H fs vs → RepC K Z H cn (.ref a) ∧ RepF K Z H (setF x (.hole a) fs) vs ∧ (fs.flatMap fun p => p.2.fp).Perm (a :: (setF x (.hole a) fs).flatMap fun p => p.2.fp) := by
    intro fs
    induction fs with
    | nil => intro vs h; simp at h
    | cons p r ih =>
      intro vs hl rf
      obtain ⟨g, y⟩ := p
      obtain ⟨u, t, rfl, k1, k2⟩ := rf
      rw [List.lookup_cons] at hl
      unfold setF
      by_cases hg : g = x
      · subst hg
        simp only [beq_self_eq_true] at hl
        cases hl
        rw [if_pos rfl]
        have hu : u = .ref a := by
          cases cn with
          | hole _ => cases ha
          | frz d => cases ha
          | lst b2 xs =>
            obtain rfl : b2 = a := List.cons.inj ha |>.1
            exact k1.1
          | dic b2 t kvs =>
            obtain rfl : b2 = a := List.cons.inj ha |>.1
            exact k1.1
        rw [← hu]
        refine ⟨k1, ⟨u, t, rfl, hu, k2⟩, ?_⟩
        simp only [List.flatMap_cons, ha]
        exact List.Perm.refl _
      · have hb : (x == g) = false := beq_eq_false_iff_ne.mpr fun z => hg z.symm
        rw [hb] at hl
        rw [if_neg hg]
        obtain ⟨q1, q2, q3⟩ := ih t hl k2
        refine ⟨q1, ⟨u, t, rfl, k1, q2⟩, ?_⟩
        simp only [List.flatMap_cons]
        exact (List.Perm.append_left y.fp q3).trans List.perm_middle
  obtain ⟨q1, q2, q3⟩ := split2 fs vs hx rf
  have pf : (fps ((some v, M.obj ob dx c fs) :: l)).Perm (fps ((some (.ref a), cn.toM) :: (some v, .obj ob dx c (setF x (.hole a) fs)) :: l)) := by
    simp only [fps_cons]
    show ((ob :: dx :: fs.flatMap fun p => p.2.fp) ++ fps l).Perm (cn.toM.fp ++ ((ob :: dx :: (setF x (.hole a) fs).flatMap fun p => p.2.fp) ++ fps l))
    rw [hfp]
    have p1 : (ob :: dx :: fs.flatMap fun p => p.2.fp).Perm (a :: ob :: dx :: (setF x (.hole a) fs).flatMap fun p => p.2.fp) :=
      ((q3.cons dx).cons ob).trans ((List.Perm.swap a dx _).cons ob |>.trans (List.Perm.swap a ob _))
    exact p1.append_right (fps l)
  refine ⟨r.sub, r.fr, r.zf, fun p hp => ?_, pf.nodup_iff.mp r.nd, fun b hb => r.dz b (pf.mem_iff.mpr hb)⟩
  rcases List.mem_cons.mp hp with z | z
  · rw [z]
    exact .inr ⟨_, rfl, by cases cn <;> first | exact q1 | trivial⟩
  · rcases List.mem_cons.mp z with z | z
    · rw [z]; exact .inr ⟨v, rfl, hv, vs, g1, g2, q2⟩
    · exact r.sl p (List.mem_cons_of_mem _ z)
/-- and put back -/
theorem Rep.close_ {v : V} {ob dx : Addr} {c : Str} {fs : List (Str × Cn)} {x : Str} {cn : Cn} {m : M} {a : Addr} {l : List Sl} (r : Rep K Z F H ((some (.ref a), m) :: (some v, .obj ob dx c fs) :: l)) (hx : fs.lookup x = some (.hole a)) (hm : m.toC = some cn) :
    Rep K Z F H ((some v, .obj ob dx c (setF x cn fs)) :: l) := by
  have hc : RepC K Z H cn (.ref a) := by
    cases m with
    | un => cases hm
    | frz d => cases hm; exact r.at List.mem_cons_self (by intro z; cases z)
    | lst b xs => cases hm; exact r.at List.mem_cons_self (by intro z; cases z)
    | dic b t kvs => cases hm; exact r.at List.mem_cons_self (by intro z; cases z)
    | obj _ _ _ _ => cases hm
  have hfp : m.fp = cn.fp := by cases m <;> cases hm <;> rfl
  have hob := r.at (List.mem_cons_of_mem _ List.mem_cons_self) (by intro z; cases z)
  obtain ⟨hv, vs, g1, g2, rf⟩ := hob
  have split2 : ∀ (fs : List (Str × Cn)) (vs : List (Str × V)), fs.lookup x = some (.hole a) → RepF K Z H fs vs → RepF K Z H (setF x cn fs) vs ∧ (cn.fp ++ fs.flatMap fun p => p.2.fp).Perm ((setF x cn fs).flatMap fun p => p.2.fp) := by
    intro fs
    induction fs with
    | nil => intro vs h; simp at h
    | cons p r ih =>
      intro vs hl rf
      obtain ⟨g, y⟩ := p
      obtain ⟨u, t, rfl, k1, k2⟩ := rf
      rw [List.lookup_cons] at hl
      unfold setF
      by_cases hg : g = x
      · subst hg
        simp only [beq_self_eq_true] at hl
        cases hl
        rw [if_pos rfl]
        have hu : u = .ref a := k1
        exact ⟨⟨u, t, rfl, by rw [hu]; exact hc, k2⟩, by simp [Cn.fp]⟩
      · have hb : (x == g) = false := beq_eq_false_iff_ne.mpr fun z => hg z.symm
        rw [hb] at hl
        rw [if_neg hg]
        obtain ⟨q2, q3⟩ := ih t hl k2
        refine ⟨⟨u, t, rfl, k1, q2⟩, ?_⟩
        simp only [List.flatMap_cons]
        rw [← List.append_assoc]
        refine (List.Perm.append_right _ List.perm_append_comm).trans ?_
        rw [List.append_assoc]
        exact List.Perm.append_left _ q3
  obtain ⟨q2, q3⟩ := split2 fs vs hx rf
  have pf : (fps ((some (.ref a), m) :: (some v, M.obj ob dx c fs) :: l)).Perm (fps ((some v, .obj ob dx c (setF x cn fs)) :: l)) := by
    simp only [fps_cons]
    show (m.fp ++ ((ob :: dx :: fs.flatMap fun p => p.2.fp) ++ fps l)).Perm ((ob :: dx :: (setF x cn fs).flatMap fun p => p.2.fp) ++ fps l)
    rw [hfp, ← List.append_assoc]
    refine List.Perm.append_right _ ?_
    have p0 : (cn.fp ++ (ob :: dx :: fs.flatMap fun p => p.2.fp)).Perm (ob :: dx :: (cn.fp ++ fs.flatMap fun p => p.2.fp)) :=
      List.perm_middle.trans (List.Perm.cons ob List.perm_middle)
    exact p0.trans ((q3.cons dx).cons ob)
  refine ⟨r.sub, r.fr, r.zf, fun p hp => ?_, pf.nodup_iff.mp r.nd, fun b hb => r.dz b (pf.mem_iff.mpr hb)⟩
  rcases List.mem_cons.mp hp with z | z
  · rw [z]; exact .inr ⟨v, rfl, hv, vs, g1, g2, q2⟩
  · exact r.sl p (List.mem_cons_of_mem _ (List.mem_cons_of_mem _ z))
theorem getC_fld {env : Env} {i : Nat} {x : Str} {a : Addr} {c : Cn} (h : getC env (.fld i x a) = some c) : ∃ b dx cl fs, env[i]? = some (.obj b dx cl fs) ∧ fs.lookup x = some c ∧ c.fp = [a] := by
  simp only [getC] at h
  split at h
  · rename_i b dx cl fs hm
    refine ⟨b, dx, cl, fs, hm, ?_⟩
    split at h
    · rename_i b2 xs hx
      split at h
      · rename_i e; cases h; exact ⟨hx, by rw [e]; rfl⟩
      · cases h
    · rename_i b2 t kvs hx
      split at h
      · rename_i e; cases h; exact ⟨hx, by rw [e]; rfl⟩
      · cases h
    · cases h
  · cases h
theorem lend1 {L : List Sl} {σ : L2.St} {env : Env} {o : Op} {v : V} {m : M} (hl : σ.length = env.length) (r : Rep K Z F H (L ++ zp σ env)) (ro : RepO K Z o v) (h : argM env o = some m) :
    Rep K Z F H ((some v, m) :: (L ++ zp σ (takeO env o))) ∧ OkO σ o := by
  cases o with
  | val d =>
    cases h
    exact ⟨r.frz ro, trivial⟩
  | loc i a =>
    obtain rfl : v = .ref a := ro
    simp only [argM] at h
    split at h
    · rename_i m' hm
      split at h
      · rename_i ho
        cases h
        have hn : m ≠ .un := fun z => by rw [z] at ho; simp [M.own] at ho
        obtain ⟨ov, h1, h2⟩ := mem_zp hl hm
        obtain ⟨p1, p2⟩ := slotL L h1 hm
        have r1 := r.perm p1
        have hov : ov = some (.ref a) := by
          rcases r1.sl _ List.mem_cons_self with z | ⟨u, z, q⟩
          · exact absurd z hn
          · dsimp only at z; subst z
            congr 1
            cases m with
            | un => exact absurd rfl hn
            | frz d => simp [M.own] at ho
            | lst b xs => simp only [M.own] at ho; split at ho <;> simp at ho; rename_i e; rw [e]; exact q.1
            | dic b t kvs => simp only [M.own] at ho; split at ho <;> simp at ho; rename_i e; rw [e]; exact q.1
            | obj b dx c fs => simp only [M.own] at ho; split at ho <;> simp at ho; rename_i e; rw [e]; exact q.1
        subst hov
        refine ⟨?_, h1⟩
        have r2 : Rep K Z F H ((some (.ref a), .un) :: (some (.ref a), m) :: (L ++ zp (σ.eraseIdx i) (env.eraseIdx i))) := r1.un
        exact r2.perm ((List.Perm.swap ..).trans (List.Perm.cons _ (p2 .un).symm))
      · cases h
    · cases h
  | fld i x a =>
    obtain rfl : v = .ref a := ro
    simp only [argM] at h
    split at h
    · rename_i c hc
      cases h
      obtain ⟨b, dx, cl, fs, hm, hx, hf⟩ := getC_fld hc
      obtain ⟨ov, h1, h2⟩ := mem_zp hl hm
      obtain ⟨p1, p2⟩ := slotL L h1 hm
      have r1 := r.perm p1
      rcases r1.sl _ List.mem_cons_self with z | ⟨u, z, q⟩
      · cases z
      · dsimp only at z; subst z
        have r2 := r1.open_ hx hf
        have e : takeO env (.fld i x a) = env.set i (.obj b dx cl (setF x (.hole a) fs)) := by simp only [takeO, putAt, hm]
        rw [e]
        exact ⟨r2.perm (List.Perm.cons _ (p2 _).symm), trivial⟩
    · cases h
theorem back1 {L : List Sl} {σ : L2.St} {env : Env} {o : Op} {v : V} {m : M} {Z0 : Hp} (hl : σ.length = env.length) (r : Rep K Z F H ((some v, m) :: (L ++ zp σ env))) (ro : RepO K Z0 o v) (ok : OkO σ o) : Rep K Z F H (L ++ zp σ (putO env o m)) := by
  cases o with
  | val d => exact r.tail
  | loc i a =>
    obtain rfl : v = .ref a := ro
    have h1 : σ[i]? = some (some (.ref a)) := ok
    have hi : i < env.length := by rw [← hl]; exact (List.getElem?_eq_some_iff.mp h1).1
    have h2 : env[i]? = some env[i] := List.getElem?_eq_getElem hi
    obtain ⟨p1, p2⟩ := slotL L h1 h2
    have r1 := r.perm (List.Perm.cons _ p1)
    exact ((r1.perm (List.Perm.swap ..)).tail).perm (p2 m).symm
  | fld i x a =>
    obtain rfl : v = .ref a := ro
    simp only [putO]
    split
    · rename_i b dx cl fs hm
      split
      · rename_i a' c hx hc
        split
        · rename_i e; subst e
          obtain ⟨ov, h1, h2⟩ := mem_zp hl hm
          obtain ⟨p1, p2⟩ := slotL L h1 hm
          have r1 := r.perm (List.Perm.cons _ p1)
          rcases r1.sl _ (List.mem_cons_of_mem _ List.mem_cons_self) with z | ⟨u, z, q⟩
          · cases z
          · dsimp only at z; subst z
            exact (r1.close_ hx hc).perm (p2 _).symm
        · exact r.tail
      · exact r.tail
    · exact r.tail
theorem lend_all {σ : L2.St} : ∀ {os : List Op} {vs : List V} {env e : Env} {ms : List M} {L : List Sl}, σ.length = env.length → Rep K Z F H (L ++ zp σ env) → RepOs K Z os vs → lendAll env os = some (ms, e) →
    Rep K Z F H (L ++ zpA vs ms ++ zp σ e) ∧ (∀ o ∈ os, OkO σ o) ∧ e.length = env.length ∧ ms.length = os.length ∧ vs.length = os.length
  | [], vs, env, e, ms, L, hl, r, ro, h => by
    obtain rfl : vs = [] := ro
    simp only [lendAll, Option.some.injEq, Prod.mk.injEq] at h
    obtain ⟨rfl, rfl⟩ := h
    exact ⟨by simpa [zpA] using r, (fun o ho => by cases ho), rfl, rfl, rfl⟩
  | o :: os, vs, env, e, ms, L, hl, r, ro, h => by
    obtain ⟨v, t, rfl, h1, h2⟩ := ro
    simp only [lendAll] at h
    split at h
    · rename_i m hm
      split at h
      · rename_i ms' e' hr
        simp only [Option.some.injEq, Prod.mk.injEq] at h
        obtain ⟨rfl, rfl⟩ := h
        obtain ⟨r1, ok⟩ := lend1 hl r h1 hm
        have r2 : Rep K Z F H ((L ++ [(some v, m)]) ++ zp σ (takeO env o)) := by
          rw [List.append_assoc]
          exact r1.perm List.perm_middle.symm
        obtain ⟨q1, q2, q3, q4, q5⟩ := lend_all (by rw [takeO_length]; exact hl) r2 h2 hr
        refine ⟨by simpa [zpA, List.append_assoc] using q1, fun x hx => ?_, by rw [q3, takeO_length], by simp [q4], by simp [q5]⟩
        rcases List.mem_cons.mp hx with z | z
        · rw [z]; exact ok
        · exact q2 x z
      · cases h
    · cases h
theorem back_all {σ : L2.St} {Z0 : Hp} : ∀ {os : List Op} {vs : List V} {env : Env} {ms : List M} {L : List Sl}, σ.length = env.length → Rep K Z F H (zpA vs ms ++ (L ++ zp σ env)) → RepOs K Z0 os vs → (∀ o ∈ os, OkO σ o) → ms.length = os.length →
    Rep K Z F H (L ++ zp σ (backAll env os ms))
  | [], vs, env, ms, L, hl, r, ro, ok, hm => by
    obtain rfl : vs = [] := ro
    simpa [zpA, backAll] using r
  | o :: os, vs, env, [], L, hl, r, ro, ok, hm => by simp at hm
  | o :: os, vs, env, m :: ms, L, hl, r, ro, ok, hm => by
    obtain ⟨v, t, rfl, h1, h2⟩ := ro
    have r0 : Rep K Z F H ((some v, m) :: ((zpA t ms ++ L) ++ zp σ env)) := by simpa [zpA] using r
    have r1 := back1 hl r0 h1 (ok o List.mem_cons_self)
    simp only [backAll]
    exact back_all (by rw [putO_length]; exact hl) (by simpa using r1) h2 (fun x hx => ok x (List.mem_cons_of_mem _ hx)) (by simpa using hm)
end
end Pl

namespace Pl
open PySem PySem.Spec PyProof.Rows L2
open Classical

/-! ### functions -/
/-- a function's contract: from its arguments, what it hands back with the arguments behind, or what it raises -/
abbrev Ct := List M → (M → List M → Prop) → (Str → D → Prop) → Prop
def spOf (K : Fr) (n : Nat) (φ : Ct) : Sp := fun vs H Q E => ∃ Z F ms P Ex, vs.length = n ∧ ms.length = n ∧ Rep K Z F H (zpA vs ms) ∧ φ ms P Ex ∧
  (∀ r ms' Z' H' v, P r ms' → Le Z Z' → ms'.length = n → Rep K Z' F H' ((some v, r) :: zpA vs ms') → Q v H') ∧
  ∀ c d Z' H' dx y, Ex c d → Le Z Z' → Rep K Z' F H' [] → Z' dx = some (.xd [("value", y)]) → Fz K Z' d y → E (.ref (He.ga K c)) (some dx) H'
/-- a def that keeps a contract -/
structure FnI (P : Program) (w : World) (K : Fr) (mg : Str → Option Value) (base : Heap) (k : Nat) (f : Addr) (n : Nat) (φ : Ct) : Prop where
  ex : ∃ fd ps, ps.length = n ∧ FnOk P w K mg base (L2.CX P w) k f fd ps (spOf K n φ) ∧ Binds K fd ps []
  kp : PySem.W.keepIn K (.ref f) = true
theorem FnI.mono {P : Program} {w : World} {K : Fr} {mg : Str → Option Value} {base : Heap} {j k : Nat} {f : Addr} {n : Nat} {φ : Ct} (F : FnI P w K mg base j f n φ) (h : j ≤ k) : FnI P w K mg base k f n φ := by
  obtain ⟨fd, ps, h1, h2, h3⟩ := F.ex
  exact ⟨⟨fd, ps, h1, h2.mono h, h3⟩, F.kp⟩
def wCall (n : Nat) (φ : Ct) (wa : WA) : WE := fun env P E => wa env (fun os e1 => os.length = n ∧ ∃ ms e2, lendAll e1 os = some (ms, e2) ∧ φ ms (fun r ms' => P r (backAll e2 os ms')) (fun c d => E c d e2)) E
section
variable {X : Cx} {W : WX} {np : Nat × Nat} {a b c e : Expr} {es : List Expr} {pos : Pos} {k n : Nat} {f : Addr} {φ : Ct}
/-- the callee runs; what it raises is wished for at the caller's slots -/
theorem run_fnW {fd : FuncData} {ps : List Str} {sp : Sp} {ds : List Value} {dvs : List V} {pins : List (Addr × Obj)} {σ : L2.St} {H : Hp} {s : Shared} {Q : VK} {us : List Value} {vs : List V} (F : FnOk X.prog X.w X.K X.mg X.base (L2.CX X.prog X.w) k f fd ps sp) (tk : Takes X W) (hr : Room k X.A) (hb : Binds X.K fd ps ds) (hd : Vals dvs ds)
    (I : Inv X pins σ H s) (r : Vals vs us) (h : sp (vs ++ dvs) H Q (fun c d H' => W c d σ H')) : wpAny (model X.prog X.w) X.A (call (.ref f) us) (EP X pins σ Q) X.xe s := by
  have r2 : Vals (vs ++ dvs) (us ++ ds) := r.append hd
  have hl : (us ++ ds).length = ps.length := by rw [← r2.length]; exact F.len _ _ _ _ h
  refine wpAny_call (codeAny_mono (F.run X.A X.stack s H ⟨us, []⟩ (us ++ ds) (vs ++ dvs) Q _ hr I.env0 (hb s us I.kIn hl) r2 h) fun r s' hq => ?_)
  cases r with
  | error e => exact tk _ _ (XE.of_call I (fun _ _ _ e => e) hq)
  | ok fl =>
    cases fl with
    | ret u => exact I.after hq
    | next => exact False.elim hq
    | brk => exact False.elim hq
    | cont => exact False.elim hq
theorem spOf_len {K : Fr} {n : Nat} {φ : Ct} {vs : List V} {H : Hp} {Q : VK} {E : XK} (h : spOf K n φ vs H Q E) : vs.length = n := by
  obtain ⟨_, _, _, _, _, h, _⟩ := h
  exact h
/-- the arguments go to the callee, what is lent comes back -/
theorem call_sp {e1 e2 : Env} {os : List Op} {vs : List V} {ms : List M} {σ : L2.St} {H1 : Hp} {Z1 F : Hp} {P : Pl.PO} {E : XO} {Q : VK} (hlen : σ.length = e1.length) (r1 : Rep X.K Z1 F H1 (zp σ e1)) (q1 : RepOs X.K Z1 os vs) (hl : lendAll e1 os = some (ms, e2))
    (hφ : φ ms (fun r ms' => P r (backAll e2 os ms')) (fun c d => E c d e2)) (hn : os.length = n)
    (hP : ∀ r env' Z' H' v, P r env' → Le Z1 Z' → env'.length = e1.length → Rep X.K Z' F H' ((some v, r) :: zp σ env') → Q v H') (hE : XW X.K W σ F Z1 e1.length E) :
    spOf X.K n φ vs H1 Q (fun c d H' => W c d σ H') := by
  obtain ⟨r2, ok, l2, lm, lv⟩ := lend_all (L := []) hlen (by simpa using r1) q1 hl
  have r3 : Rep X.K Z1 F H1 (zp σ e2 ++ zpA vs ms) := r2.perm (by simpa using List.perm_append_comm)
  refine ⟨Z1, hideF F H1 (zp σ e2), ms, _, _, by omega, by omega, r3.hide, hφ, fun r ms' Z' H' v hp le hm' r4 => ?_, fun c d Z' H' dx y he le r4 hdx hy => ?_⟩
  · have r5 := r3.unhide le r4
    have r6 : Rep X.K Z' F H' (zpA vs ms' ++ ([(some v, r)] ++ zp σ e2)) := r5.perm (by
      have p1 : (zp σ e2 ++ (some v, r) :: zpA vs ms').Perm ((some v, r) :: zpA vs ms' ++ zp σ e2) := List.perm_append_comm
      refine p1.trans ?_
      show ((some v, r) :: (zpA vs ms' ++ zp σ e2)).Perm (zpA vs ms' ++ ((some v, r) :: zp σ e2))
      exact List.perm_middle.symm)
    have r7 := back_all (by omega) r6 q1 ok (by omega)
    exact hP r _ Z' H' v hp le (by rw [backAll_length]; omega) r7
  · have r5 := r3.unhide le r4
    rw [List.append_nil] at r5
    exact hE c d e2 Z' H' dx y he le (by omega) r5 hdx hy
/-- f(e, ..) -/
theorem g_call {x : Str} {p : Pos} {wa : WA} (F : FnI X.prog X.w X.K X.mg X.base k f n φ) (tk : Takes X W) (hr : Room k X.A) (hg : Gl X x) (hm : X.mg x = some (.ref f)) (ha : GA X W (e :: es) wa) (hdb : (x == ("__debug__" : Str)) = false := by decide)
    (he : starEach (e :: es) X.env = (false, eval e X.env) :: starEach es X.env := by rfl) (hpl : (backTo pos (starEach es X.env)).any (·.1) = false := by rfl) : GE X W (.Call (.Name x p) (e :: es) [] pos) (wCall n φ wa) := by
  obtain ⟨fd, ps, hn, G, hb⟩ := F.ex
  refine ⟨fun pins s σ H Q I h => ?_⟩
  refine wpAny_Call_Name_kw (ld_glob I hg hm ?_ hdb)
  refine PySem.W.callWith_K (h₀ := X.base) I.ok.mod.kin F.kp (thn (ha.run pos pins s σ H (fun vs H1 => spOf X.K n φ vs H1 Q (fun c d H' => W c d σ H')) I ?_) fun us s1 ⟨vs, H1, I1, r, q⟩ => ⟨I1.kIn, ?_⟩) he hpl
  · obtain ⟨Z, F, env, P, E, hl, r, hw, hP, hE⟩ := h
    refine ⟨Z, F, env, _, E, hl, r, hw, fun os e1 Z1 H1 vs h1 le1 l1 r1 q1 => ?_, hE⟩
    obtain ⟨h0, ms, e2, h2, h3⟩ := h1
    exact call_sp (by omega) r1 q1 h2 h3 h0 (fun r env' Z' H' v hp le hl' r' => hP r env' Z' H' v hp (le1.trans le) (by omega) r') (by rw [l1]; exact hE.mono le1)
  · exact run_fnW (dvs := []) (ds := []) G tk hr hb .nil I1 r (by rw [List.append_nil]; exact q)
/-- f() -/
theorem g_call0 {x : Str} {p : Pos} (F : FnI X.prog X.w X.K X.mg X.base k f 0 φ) (tk : Takes X W) (hr : Room k X.A) (hg : Gl X x) (hm : X.mg x = some (.ref f)) (hdb : (x == ("__debug__" : Str)) = false := by decide) : GE X W (.Call (.Name x p) [] [] pos) (wCall 0 φ wNil) := by
  obtain ⟨fd, ps, hn, G, hb⟩ := F.ex
  refine ⟨fun pins s σ H Q I h => ?_⟩
  refine wpAny_Call_Name_kw (ld_glob I hg hm ?_ hdb)
  refine PySem.W.callWith_K0 I.kIn F.kp (run_fnW (us := []) (vs := []) (dvs := []) (ds := []) G tk hr hb .nil I .nil ?_)
  obtain ⟨Z, F, env, P, E, hl, r, hw, hP, hE⟩ := h
  obtain ⟨h0, ms, e2, h2, h3⟩ := hw
  exact call_sp (os := []) (by omega) r rfl h2 h3 h0 (fun r env' Z' H' v hp le hl' r' => hP r env' Z' H' v hp le (by omega) r') hE
theorem passX : Passes (L2.CX X.prog X.w) X E0 := passL
/-- what a contract without errors says, without errors -/
theorem spOf_ok {K : Fr} {vs : List V} {H : Hp} {Q : VK} {E : XK} (h : spOf K n φ vs H Q (fun _ _ _ => False)) : spOf K n φ vs H Q E := by
  obtain ⟨Z, F, ms, P, Ex, h1, h2, h3, h4, h5, h6⟩ := h
  exact ⟨Z, F, ms, P, Ex, h1, h2, h3, h4, h5, fun c d Z' H' dx y a b e f g => (h6 c d Z' H' dx y a b e f g).elim⟩
/-- the classes and their methods -/
structure MeI (X : Cx) (k : Nat) (c m : Str) (n : Nat) (φ : Ct) : Prop where
  cls : Cls X.K (He.ga X.K c)
  ex : ∃ f, Meth X.K (He.ga X.K c) m f ∧ FnI X.prog X.w X.K X.mg X.base k f n φ
/-- the class of an operand -/
def opCls (env : Env) : Op → Option (Str × List Str)
  | .val (.obj c fs) => some (c, fs.map (·.1))
  | .loc i a => match env[i]? with
    | some (.obj b _ c fs) => if a = b then some (c, fs.map (·.1)) else none
    | _ => none
  | _ => none
/-- o.m(e, ..), o of the class c -/
def wMeth (c m : Str) (n : Nat) (φ : Ct) (wo : WO) (wa : WA) : WE := fun env P E => wo env (fun o e1 => (∃ fs, opCls e1 o = some (c, fs) ∧ m ∉ fs) ∧
  wa e1 (fun os e2 => (o :: os).length = n ∧ ∃ ms e3, lendAll e2 (o :: os) = some (ms, e3) ∧ φ ms (fun r ms' => P r (backAll e3 (o :: os) ms')) (fun _ _ => False)) E) E
theorem lookup_none {α : Type} {m : Str} : ∀ {fs : List (Str × α)}, m ∉ fs.map (·.1) → fs.lookup m = none
  | [], _ => rfl
  | (x, y) :: r, h => by
    simp only [List.map_cons, List.mem_cons, not_or] at h
    rw [List.lookup_cons, beq_eq_false_iff_ne.mpr h.1]
    exact lookup_none h.2
theorem FzO.names {K : Fr} {Z : Hp} : ∀ {fs : List (Str × D)} {vs : List (Str × V)}, FzO K Z fs vs → vs.map (·.1) = fs.map (·.1)
  | [], vs, h => by simp only [FzO] at h; subst h; rfl
  | (x, d) :: r, vs, h => by
    simp only [FzO] at h
    obtain ⟨v, t, rfl, _, h2⟩ := h
    simp [FzO.names h2]
theorem RepF.names {K : Fr} {Z H : Hp} : ∀ {fs : List (Str × Cn)} {vs : List (Str × V)}, RepF K Z H fs vs → vs.map (·.1) = fs.map (·.1)
  | [], vs, h => by
    have h' : vs = [] := h
    subst h'; rfl
  | (x, d) :: r, vs, h => by
    obtain ⟨v, t, rfl, _, h2⟩ := h
    simp [RepF.names h2]
theorem opCls_at {K : Fr} {Z F H : Hp} {σ : L2.St} {env : Env} {o : Op} {c : Str} {fs : List Str} {v : V} (hl : σ.length = env.length) (r : Rep K Z F H (zp σ env)) (h : opCls env o = some (c, fs)) (ro : RepO K Z o v) :
    ∃ a dx vs, v = .ref a ∧ H a = some (.ins (He.ga K c) dx vs) ∧ vs.map (·.1) = fs := by
  cases o with
  | val d =>
    cases d with
    | obj c' gs =>
      simp only [opCls, Option.some.injEq, Prod.mk.injEq] at h
      obtain ⟨rfl, rfl⟩ := h
      have ro' : Fz K Z (.obj c' gs) v := ro
      simp only [Fz] at ro'
      obtain ⟨a, dx, vs, rfl, q1, _, q3⟩ := ro'
      exact ⟨a, dx, vs, rfl, r.sub.ex q1 rfl, q3.names⟩
    | _ => cases h
  | loc i a =>
    obtain rfl : v = .ref a := ro
    simp only [opCls] at h
    split at h
    · rename_i b dx c' gs hm
      split at h
      · rename_i e; subst e
        simp only [Option.some.injEq, Prod.mk.injEq] at h
        obtain ⟨rfl, rfl⟩ := h
        obtain ⟨v, k1, k2, _⟩ := slot_at hl r hm (by intro z; cases z)
        obtain ⟨rfl, vs, q1, _, q3⟩ := k2
        exact ⟨a, dx, vs, rfl, q1, q3.names⟩
      · cases h
    · cases h
  | fld i x a => cases h
theorem g_meth {c m : Str} {apos : Pos} {wo : WO} {wa : WA} {pl : Sem Bool} (M : MeI X k c m n φ) (hr : Room k X.A) (ho : GO X W a wo) (ha : GA X W (e :: es) wa)
    (hst : starEach (e :: es) X.env = (false, eval e X.env) :: starEach es X.env := by rfl) (hpl : (backTo pos (starEach es X.env)).any (·.1) = false := by rfl)
    (ht : eval (.Call (.Attribute a m apos) (e :: es) [] pos) X.env = (do
      let ov ← eval a X.env
      standAt apos.atName
      let (f, first) ← holding [ov] (getMethod ov m pl)
      callWith pos f first (backTo pos (starEach (e :: es) X.env)) (backToKw pos (keywordEach [] X.env))) := by rfl) : GE X W (.Call (.Attribute a m apos) (e :: es) [] pos) (wMeth c m n φ wo wa) := by
  obtain ⟨f, hM, F⟩ := M.ex
  obtain ⟨fd, ps, hn, G, hb⟩ := F.ex
  refine (pe_meth (pl := pl) ho M.cls hM G hr hb .nil passX ha hst hpl ht).imp fun σ H Q ⟨Z, F, env, P, E, hl, r, hw, hP, hE⟩ => ?_
  refine ⟨Z, F, env, _, E, hl, r, hw, fun o e1 Z1 H1 v h1 le1 l1 r1 q1 => ?_, hE⟩
  obtain ⟨⟨fs, h2, h3⟩, h1⟩ := h1
  obtain ⟨ad, dx, vs, rfl, g1, g2⟩ := opCls_at (by omega) r1 h2 q1
  refine ⟨ad, dx, vs, rfl, g1, lookup_none (by rw [g2]; exact h3), ?_⟩
  refine ⟨Z1, F, e1, _, E, by omega, r1, h1, fun os e2 Z2 H2 ws h4 le2 l2 r2 q2 => ?_, by rw [l1]; exact hE.mono le1⟩
  obtain ⟨h0, ms, e3, h5, h6⟩ := h4
  have z := call_sp (W := fun _ _ _ _ => False) (E := fun _ _ _ => False) (by omega) r2 (show RepOs X.K Z2 (o :: os) (.ref ad :: ws) from ⟨_, _, rfl, q1.mono le2, q2⟩) h5 h6 h0 (fun r env' Z' H' v hp le hl' r' => hP r env' Z' H' v hp (le1.trans (le2.trans le)) (by omega) r') (fun _ _ _ _ _ _ _ z => z.elim)
  rw [List.append_nil]
  exact z
theorem g_meth0 {c m : Str} {apos : Pos} {wo : WO} {pl : Sem Bool} (M : MeI X k c m n φ) (hr : Room k X.A) (ho : GO X W a wo)
    (ht : eval (.Call (.Attribute a m apos) [] [] pos) X.env = (do
      let ov ← eval a X.env
      standAt apos.atName
      let (f, first) ← holding [ov] (getMethod ov m pl)
      callWith pos f first (backTo pos (starEach [] X.env)) (backToKw pos (keywordEach [] X.env))) := by rfl) : GE X W (.Call (.Attribute a m apos) [] [] pos) (wMeth c m n φ wo wNil) := by
  obtain ⟨f, hM, F⟩ := M.ex
  obtain ⟨fd, ps, hn, G, hb⟩ := F.ex
  refine (pe_meth0 (pl := pl) ho M.cls hM G hr hb .nil passX ht).imp fun σ H Q ⟨Z, F, env, P, E, hl, r, hw, hP, hE⟩ => ?_
  refine ⟨Z, F, env, _, E, hl, r, hw, fun o e1 Z1 H1 v h1 le1 l1 r1 q1 => ?_, hE⟩
  obtain ⟨⟨fs, h2, h3⟩, h0, ms, e3, h5, h6⟩ := h1
  obtain ⟨ad, dx, vs, rfl, g1, g2⟩ := opCls_at (by omega) r1 h2 q1
  refine ⟨ad, dx, vs, rfl, g1, lookup_none (by rw [g2]; exact h3), ?_⟩
  exact call_sp (W := fun _ _ _ _ => False) (E := fun _ _ _ => False) (os := [o]) (by omega) r1 (show RepOs X.K Z1 [o] [.ref ad] from ⟨_, _, rfl, q1, rfl⟩) h5 h6 h0 (fun r env' Z' H' v hp le hl' r' => hP r env' Z' H' v hp (le1.trans le) (by omega) r') (fun _ _ _ _ _ _ _ z => z.elim)
/-- o.f, a property of the class c -/
structure PrI (X : Cx) (k : Nat) (c m : Str) (φ : Ct) : Prop where
  cls : Cls X.K (He.ga X.K c)
  ex : ∃ p f, PropOf X.K (He.ga X.K c) m p f ∧ FnI X.prog X.w X.K X.mg X.base k f 1 φ
def wProp (c : Str) (φ : Ct) (wo : WO) : WE := fun env P E => wo env (fun o e1 => (∃ fs, opCls e1 o = some (c, fs)) ∧ ∃ ms e3, lendAll e1 [o] = some (ms, e3) ∧ φ ms (fun r ms' => P r (backAll e3 [o] ms')) (fun _ _ => False)) E
theorem g_prop {c m : Str} {wo : WO} (M : PrI X k c m φ) (hr : Room (k + 1) X.A) (ho : GO X W a wo) (hab : attributeBase a m X.env (eval a X.env) = eval a X.env := by rfl) : GE X W (.Attribute a m pos) (wProp c φ wo) := by
  obtain ⟨p, f, hM, F⟩ := M.ex
  obtain ⟨fd, ps, hn, G, hb⟩ := F.ex
  refine (pe_prop ho M.cls hM G hr hb .nil (passL (X := X.nox)) hab).imp fun σ H Q ⟨Z, F, env, P, E, hl, r, hw, hP, hE⟩ => ?_
  refine ⟨Z, F, env, _, E, hl, r, hw, fun o e1 Z1 H1 v h1 le1 l1 r1 q1 => ?_, hE⟩
  obtain ⟨⟨fs, h2⟩, ms, e3, h5, h6⟩ := h1
  obtain ⟨ad, dx, vs, rfl, g1, g2⟩ := opCls_at (by omega) r1 h2 q1
  refine ⟨ad, dx, vs, rfl, g1, ?_⟩
  exact call_sp (W := fun _ _ _ _ => False) (E := fun _ _ _ => False) (os := [o]) (by omega) r1 (show RepOs X.K Z1 [o] [.ref ad] from ⟨_, _, rfl, q1, rfl⟩) h5 h6 rfl (fun r env' Z' H' v hp le hl' r' => hP r env' Z' H' v hp (le1.trans le) (by omega) r') (fun _ _ _ _ _ _ _ z => z.elim)
/-- C(e, ..) -/
structure MkI (X : Cx) (k : Nat) (c : Str) (n : Nat) (φ : Ct) : Prop where
  ex : ∃ f, Mk X.K (He.ga X.K c) f ∧ FnI X.prog X.w X.K X.mg X.base k f n φ
def wMake (c : Str) (n : Nat) (φ : Ct) (wa : WA) : WE := fun env P E => wa env (fun os e1 => os.length + 1 = n ∧ ∃ ms e2, lendAll e1 os = some (ms, e2) ∧
  ∀ x dx, φ (.obj x dx c [] :: ms) (fun r ms' => r = .frz .non ∧ ∃ m ms'', ms' = m :: ms'' ∧ (∃ fs, m = .obj x dx c fs) ∧ P m (backAll e2 os ms'')) (fun _ _ => False)) E
theorem make_sp {e1 e2 : Env} {os : List Op} {vs : List V} {ms : List M} {σ : L2.St} {H1 : Hp} {Z1 F : Hp} {P : Pl.PO} {Q : VK} {c : Str} (hlen : σ.length = e1.length) (r1 : Rep X.K Z1 F H1 (zp σ e1)) (q1 : RepOs X.K Z1 os vs) (hl : lendAll e1 os = some (ms, e2)) (hn : os.length + 1 = n)
    (hφ : ∀ x dx, φ (.obj x dx c [] :: ms) (fun r ms' => r = .frz .non ∧ ∃ m ms'', ms' = m :: ms'' ∧ (∃ fs, m = .obj x dx c fs) ∧ P m (backAll e2 os ms'')) (fun _ _ => False))
    (hP : ∀ r env' Z' H' v, P r env' → Le Z1 Z' → env'.length = e1.length → Rep X.K Z' F H' ((some v, r) :: zp σ env') → Q v H') :
    ∀ x dx, H1 x = none → H1 dx = none → dx ≠ x → spOf X.K n φ (.ref x :: (vs ++ [])) (upd (upd H1 dx (.own x)) x (.ins (He.ga X.K c) dx [])) (fun v H2 => v = .non ∧ Q (.ref x) H2) E0 := by
  intro x dx hx hdx hne
  obtain ⟨r2, ok, l2, lm, lv⟩ := lend_all (L := []) hlen (by simpa using r1) q1 hl
  have r3 : Rep X.K Z1 F H1 (zp σ e2 ++ zpA vs ms) := r2.perm (by simpa using List.perm_append_comm)
  obtain ⟨f1, f2, f3⟩ := r3.freeAt hx
  obtain ⟨g1, g2, g3⟩ := r3.freeAt hdx
  have hx' : upd H1 dx (.own x) x = none := by rw [upd_ne (Ne.symm hne)]; exact hx
  have r4 : Rep X.K Z1 F (upd (upd H1 dx (.own x)) x (.ins (He.ga X.K c) dx [])) (zp σ e2 ++ zpA vs ms) := (r3.alloc hdx).alloc hx'
  have r5 : Rep X.K Z1 F (upd (upd H1 dx (.own x)) x (.ins (He.ga X.K c) dx [])) ((some (.ref x), .obj x dx c []) :: (zp σ e2 ++ zpA vs ms)) := by
    refine ⟨r4.sub, r4.fr, r4.zf, fun q hq => ?_, ?_, fun b hb => ?_⟩
    · rcases List.mem_cons.mp hq with z | z
      · rw [z]
        exact .inr ⟨_, rfl, rfl, [], upd_same, by rw [upd_ne hne, upd_same], rfl⟩
      · exact r4.sl q z
    · rw [fps_cons]
      show (x :: dx :: (([] : List (Str × Cn)).flatMap fun p => p.2.fp) ++ fps _).Nodup
      simp only [List.flatMap_nil, List.nil_append, List.cons_append]
      exact List.nodup_cons.mpr ⟨fun z => (List.mem_cons.mp z).elim (fun q => hne q.symm) f3, List.nodup_cons.mpr ⟨g3, r4.nd⟩⟩
    · rw [fps_cons] at hb
      have hb' : b = x ∨ b = dx ∨ b ∈ fps (zp σ e2 ++ zpA vs ms) := by simpa [M.fp] using hb
      rcases hb' with z | z | z
      · rw [z]; exact ⟨f1, f2, by rw [upd_same]; simp⟩
      · rw [z]; exact ⟨g1, g2, by rw [upd_ne hne, upd_same]; simp⟩
      · exact r4.dz b z
  have r6 : Rep X.K Z1 F (upd (upd H1 dx (.own x)) x (.ins (He.ga X.K c) dx [])) (zp σ e2 ++ zpA (.ref x :: vs) (.obj x dx c [] :: ms)) := r5.perm (by
    show ((some (.ref x), M.obj x dx c []) :: (zp σ e2 ++ zpA vs ms)).Perm (zp σ e2 ++ ((some (.ref x), M.obj x dx c []) :: zpA vs ms))
    exact List.perm_middle.symm)
  rw [List.append_nil]
  refine ⟨Z1, hideF F _ (zp σ e2), .obj x dx c [] :: ms, _, _, by simp; omega, by simp; omega, r6.hide, hφ x dx, fun r ms' Z' H' v hp le hm' r7 => ?_, fun _ _ _ _ _ _ z => z.elim⟩
  obtain ⟨rfl, m, ms'', rfl, ⟨fs, rfl⟩, hp⟩ := hp
  have hv : v = .non := by have h := r7.fz; simpa only [Fz] using h
  refine ⟨hv, ?_⟩
  have r8 := r6.unhide le r7
  have r9 : Rep X.K Z' F H' (zpA vs ms'' ++ ([(some (.ref x), .obj x dx c fs)] ++ zp σ e2)) := (r8.perm (by
      show (zp σ e2 ++ ((some v, M.frz .non) :: (some (.ref x), M.obj x dx c fs) :: zpA vs ms'')).Perm ((some v, M.frz .non) :: (zpA vs ms'' ++ ([(some (.ref x), M.obj x dx c fs)] ++ zp σ e2)))
      refine List.perm_middle.trans (List.Perm.cons _ ?_)
      refine List.perm_middle.trans ?_
      refine List.Perm.trans ?_ List.perm_middle.symm
      exact List.Perm.cons _ List.perm_append_comm)).tail
  have r10 := back_all (by omega) r9 q1 ok (by simp at hm'; omega)
  exact hP _ _ Z' H' _ hp le (by rw [backAll_length]; omega) r10
theorem g_make {c : Str} {p : Pos} {wa : WA} (M : MkI X k c n φ) (hr : Room (k + 1) X.A) (hg : Gl X c) (hm : X.mg c = some (.ref (He.ga X.K c))) (ha : GA X W (e :: es) wa) (hdb : (c == ("__debug__" : Str)) = false := by decide)
    (he : starEach (e :: es) X.env = (false, eval e X.env) :: starEach es X.env := by rfl) (hpl : (backTo pos (starEach es X.env)).any (·.1) = false := by rfl) : GE X W (.Call (.Name c p) (e :: es) [] pos) (wMake c n φ wa) := by
  obtain ⟨f, hM, F⟩ := M.ex
  obtain ⟨fd, ps, hn, G, hb⟩ := F.ex
  refine (pe_make hM G hr hg hm hb .nil passX ha hdb he hpl).imp fun σ H Q ⟨Z, F, env, P, E, hl, r, hw, hP, hE⟩ => ?_
  refine ⟨Z, F, env, _, E, hl, r, hw, fun os e1 Z1 H1 vs h1 le1 l1 r1 q1 => ?_, hE⟩
  obtain ⟨h0, ms, e2, h2, h3⟩ := h1
  exact make_sp (by omega) r1 q1 h2 h0 h3 fun r env' Z' H' v hp le hl' r' => hP r env' Z' H' v hp (le1.trans le) (by omega) r'
theorem g_make0 {c : Str} {p : Pos} (M : MkI X k c n φ) (hr : Room (k + 1) X.A) (hg : Gl X c) (hm : X.mg c = some (.ref (He.ga X.K c))) (hdb : (c == ("__debug__" : Str)) = false := by decide) : GE X W (.Call (.Name c p) [] [] pos) (wMake c n φ wNil) := by
  obtain ⟨f, hM, F⟩ := M.ex
  obtain ⟨fd, ps, hn, G, hb⟩ := F.ex
  refine (pe_make0 hM G hr hg hm hb .nil passX hdb).imp fun σ H Q ⟨Z, F, env, P, E, hl, r, hw, hP, hE⟩ => ?_
  obtain ⟨h0, ms, e2, h2, h3⟩ := hw
  exact make_sp (os := []) (vs := []) (by omega) r rfl h2 h0 h3 fun r env' Z' H' v hp le hl' r' => hP r env' Z' H' v hp le (by omega) r'
end
end Pl

namespace Pl
open PySem PySem.Spec PyProof.Rows L2
open Classical

/-! ### a def's body, its context -/
def visB (sc : Scope) (x : Str) : Bool := match sc.names.lookup x with
  | some .local => true
  | some .cell => true
  | some .free => true
  | _ => false
def locB (sc : Scope) (x : Str) : Bool := match sc.names.lookup x with
  | some .local => true
  | some .cell => true
  | _ => false
def glB (sc : Scope) (x : Str) : Bool := match sc.names.lookup x with
  | some .globalImplicit => true
  | _ => false
/-- the names N by slots, the written scope sc; k: room for calls; a context of a def's body or of a comprehension in it -/
structure DC (X : Cx) (W : WX) (N : List Str) (sc : Scope) (k : Nat) : Prop where
  eN : X.N = N
  nd : N.Nodup
  calm : X.calm = true
  room : Room k X.A
  tk : Takes X W
  pass : PassesOwn (model X.prog X.w) X.A X.env X.xe
  loc : ∀ x, sc.names.lookup x = some .local → X.env.scope.names.lookup x = some .local
  cel : ∀ x, sc.names.lookup x = some .cell → X.env.scope.names.lookup x = some .cell
  fre : ∀ x, sc.names.lookup x = some .free → X.env.scope.names.lookup x = some .free ∨ X.env.scope.names.lookup x = some .cell
  glo : ∀ x, sc.names.lookup x = some .globalImplicit → X.env.scope.names.lookup x = some .globalImplicit
  fn : ∀ x, sc.names.lookup x = some .cell → X.fn x = true
  kd : X.env.scope.kind = .function
section
variable {X : Cx} {W : WX} {N : List Str} {sc : Scope} {k : Nat}
theorem DC.vis (c : DC X W N sc k) {x : Str} (h : visB sc x = true) : Vis X.env.scope x := by
  unfold visB at h
  split at h
  · rename_i e; exact .inl (c.loc x e)
  · rename_i e; exact .inr (.inl (c.cel x e))
  · rename_i e
    rcases c.fre x e with h | h
    · exact .inr (.inr h)
    · exact .inr (.inl h)
  · cases h
theorem DC.lc (c : DC X W N sc k) {x : Str} (h : locB sc x = true) : Loc X.env.scope x ∧ (X.fn x = true ∨ X.env.scope.names.lookup x = some .local) := by
  unfold locB at h
  split at h
  · rename_i e; exact ⟨.inl (c.loc x e), .inr (c.loc x e)⟩
  · rename_i e; exact ⟨.inr (c.cel x e), .inl (c.fn x e)⟩
  · cases h
theorem DC.gl (c : DC X W N sc k) {x : Str} (h : glB sc x = true) : Gl X x := by
  unfold glB at h
  split at h
  · rename_i e; exact c.glo x e
  · cases h
/-- the name x, in slot i -/
def nmB (N : List Str) (sc : Scope) (i : Nat) (x : Str) : Bool := decide (N[i]? = some x) && visB sc x && !(x == ("__debug__" : Str)) && !(x == ("__classdict__" : Str))
theorem DC.nm (c : DC X W N sc k) {i : Nat} {x : Str} (h : nmB N sc i x = true) : X.N[i]? = some x ∧ Vis X.env.scope x ∧ (x == ("__debug__" : Str)) = false ∧ (x == ("__classdict__" : Str)) = false := by
  unfold nmB at h
  simp only [Bool.and_eq_true, decide_eq_true_eq, Bool.not_eq_true'] at h
  obtain ⟨⟨⟨h1, h2⟩, h3⟩, h4⟩ := h
  exact ⟨by rw [c.eN]; exact h1, c.vis h2, h3, h4⟩
def stB (N : List Str) (sc : Scope) (i : Nat) (x : Str) : Bool := decide (N[i]? = some x) && locB sc x
theorem DC.st (c : DC X W N sc k) {i : Nat} {x : Str} (h : stB N sc i x = true) : X.N[i]? = some x ∧ Loc X.env.scope x ∧ (X.fn x = true ∨ X.env.scope.names.lookup x = some .local) := by
  unfold stB at h
  simp only [Bool.and_eq_true, decide_eq_true_eq] at h
  exact ⟨by rw [c.eN]; exact h.1, (c.lc h.2).1, (c.lc h.2).2⟩
theorem DC.ndX (c : DC X W N sc k) : X.N.Nodup := by rw [c.eN]; exact c.nd
/-- a name -/
theorem gv (c : DC X W N sc k) (i : Nat) {x : Str} {pos : Pos} (h : nmB N sc i x = true := by decide +kernel) : GO X W (.Name x pos) (wSlot i) :=
  let ⟨h1, h2, h3, h4⟩ := c.nm h
  go_slot h1 h2 h3 h4
theorem gm (c : DC X W N sc k) (i : Nat) {x : Str} {pos : Pos} (h : nmB N sc i x = true := by decide +kernel) : GE X W (.Name x pos) (wMove i) :=
  let ⟨h1, h2, h3, h4⟩ := c.nm h
  g_move h1 h2 h3 h4
theorem gn (c : DC X W N sc k) (i : Nat) {x : Str} {pos : Pos} (h : nmB N sc i x = true := by decide +kernel) : GE X W (.Name x pos) (wVar i) :=
  let ⟨h1, h2, h3, h4⟩ := c.nm h
  g_var h1 h2 h3 h4
theorem gf (c : DC X W N sc k) {cf : Str → Str → Bool} (hcf : ClsF X.K cf) (i : Nat) {x f : Str} {p pos : Pos} (h : nmB N sc i x = true := by decide +kernel) (hb : attributeBase (.Name x p) f X.env (eval (.Name x p) X.env) = eval (.Name x p) X.env := by rfl) : GO X W (.Attribute (.Name x p) f pos) (wFld cf i f) :=
  let ⟨h1, h2, h3, h4⟩ := c.nm h
  go_fld hcf h1 h2 h3 h4 hb
theorem gset (c : DC X W N sc k) {np : Nat × Nat} (i : Nat) {x : Str} {e : Expr} {pos pos' : Pos} {w : WE} (he : GE X W e w) (h : stB N sc i x = true := by decide +kernel) (hnp : (decide (np.1 ≤ i) && decide (i < np.2)) = true := by decide +kernel) (hs : swapsWith e (some (.Name x pos')) pos.line X.env = pure false := by rfl) : GS X W np (.Assign [.Name x pos'] e pos) (wAsg i w) := by
  obtain ⟨h1, h2, h3⟩ := c.st h
  simp only [Bool.and_eq_true, decide_eq_true_eq] at hnp
  exact gs_set c.ndX h1 h2 he hnp.1 hnp.2 hs h3

/-! ### a def keeps its contract -/
def padM (env : Env) (np n : Nat) : List M := env.take np ++ List.replicate (n - np) .un
theorem start_zp {K : Fr} {Z F H : Hp} {N : List Str} {vs : List V} {ms : List M} (r : Rep K Z F H (zpA vs ms)) (h : vs.length = ms.length) : Rep K Z F H (zp (L2.start N vs) (ms ++ List.replicate (N.length - vs.length) .un)) := by
  have e : zp (L2.start N vs) (ms ++ List.replicate (N.length - vs.length) .un) = zpA vs ms ++ List.replicate (N.length - vs.length) (none, M.un) := by
    unfold zp L2.start zpA
    rw [List.zip_append (by simpa using h)]
    congr 1
    exact List.zip_replicate' ..
  rw [e]
  generalize N.length - vs.length = j
  induction j with
  | zero => simpa using r
  | succ j ih =>
    have p : ((none, M.un) :: (zpA vs ms ++ List.replicate j (none, M.un))).Perm (zpA vs ms ++ List.replicate (j + 1) (none, M.un)) := by
      rw [List.replicate_succ]
      exact List.perm_middle.symm
    exact (ih.un).perm p
theorem end_zp {K : Fr} {Z F H : Hp} {vs : List V} {σ : L2.St} {env : Env} {np n : Nat} {L : List Sl} (r : Rep K Z F H (L ++ zp σ env)) (hl : σ.length = env.length) (hv : vs.length = n) (hnp : np ≤ n) (hne : np ≤ env.length) (pin : Pin (vs.take np) σ) : Rep K Z F H (L ++ zpA vs (padM env np n)) := by
  have ht : (vs.take np).length = np := by simp; omega
  have pin' : σ.take np = (vs.take np).map some := by
    have := pin; unfold Pin at this; rw [ht] at this; exact this
  have e1 : zp σ env = (zp σ env).take np ++ (zp σ env).drop np := (List.take_append_drop np _).symm
  have e2 : (zp σ env).take np = zpA (vs.take np) (env.take np) := by
    unfold zp zpA
    rw [List.zip_eq_zipWith, List.take_zipWith, pin', List.zip_eq_zipWith]
  have r1 : Rep K Z F H (L ++ zpA (vs.take np) (env.take np)) := by
    rw [e1, e2, ← List.append_assoc] at r
    exact r.left
  have e3 : zpA vs (padM env np n) = zpA (vs.take np) (env.take np) ++ ((vs.drop np).map some).zip (List.replicate (n - np) M.un) := by
    unfold zpA padM
    conv => lhs; rw [← List.take_append_drop np vs, List.map_append]
    rw [List.zip_append (by simp; omega)]
  rw [e3, ← List.append_assoc]
  have gen : ∀ (ws : List V) (j : Nat) (A : List Sl), Rep K Z F H A → Rep K Z F H (A ++ (ws.map some).zip (List.replicate j M.un)) := by
    intro ws
    induction ws with
    | nil => intro j A h; simpa using h
    | cons v ws ih =>
      intro j A h
      cases j with
      | zero => simpa using h
      | succ j =>
        simp only [List.map_cons, List.replicate_succ, List.zip_cons_cons]
        exact ((ih j A h).un (o := some v)).perm List.perm_middle.symm
  exact gen _ _ _ r1
theorem fn_i {P : Program} {w : World} {K : Fr} {mg : Str → Option Value} {base : Heap} {x qual : Str} {params : Arguments} {body : List Stmt} {scope : Scope} {f : Addr} {fd : FuncData} {N ps : List Str} {k n np : Nat} {φ : Ct} {wb : WS}
    (F : FunD K x qual params body scope [] [] f fd) (S : FnScope N ps scope) (hn : ps.length = n) (hnp : np ≤ n) (hb : Binds K fd ps [])
    (hbody : ∀ X W, X.prog = P → X.w = w → X.K = K → X.mg = mg → X.base = base → DC X W N scope k → GSs X W (np, N.length) body wb)
    (hφ : ∀ ms Q Ex, φ ms Q Ex → ms.length = n ∧ wb (ms ++ List.replicate (N.length - n) .un) { nx := fun e => Q (.frz .non) (padM e np n), rt := fun r e => Q r (padM e np n) } (fun c d _ => Ex c d)) : FnI P w K mg base (k + 1) f n φ := by
  refine ⟨⟨fd, ps, hn, F.ok S (fun vs H Q E h => (spOf_len h).trans hn.symm) (fun cdv A outer s H vs Q E hr h => ?_), hb⟩, F.kp⟩
  have hpl : ps.length ≤ N.length := by have := congrArg List.length S.pre; rw [List.length_take] at this; omega
  refine ⟨_, hbody _ (fun cls d _ H => E cls d H) rfl rfl rfl rfl rfl ⟨rfl, S.nd, rfl, hr, takes_of rfl rfl rfl rfl, passes_of rfl, fun _ h => h, fun _ h => h, fun _ h => .inl h, fun _ h => h, fun _ _ => rfl, S.kind⟩, ?_⟩
  obtain ⟨Z, F', ms, P', Ex, h1, h2, h3, h4, h5, h6⟩ := h
  obtain ⟨h7, h8⟩ := hφ ms P' Ex h4
  refine ⟨Z, F', _, vs.take np, _, _, ⟨by simp; omega, by simp; omega⟩, by simp [L2.start]; omega, ?_, start_zp h3 (by omega), by rw [h1]; exact h8, ⟨fun env' σ' Z' H' a b c d p r => ?_, fun m env' σ' Z' H' v a b c d p r => ?_, fun _ _ _ _ z => False.elim z, fun _ _ _ _ z => False.elim z⟩, fun c d env' σ' Z' H' dx y a b l1 l2 p r g1 g2 => ?_⟩
  · unfold Pin L2.start
    have : (vs.take np).length = np := by simp; omega
    rw [this, List.take_append_of_le_length (by simp; omega), ← List.map_take]
  · have hl : env'.length = N.length := by rw [d]; simp; omega
    have r2 : Rep K Z' F' H' ([] ++ zpA vs (padM env' np n)) := end_zp (L := []) r (by omega) h1 hnp (by omega) p
    exact h5 _ _ Z' H' .non a b (by unfold padM; simp; omega) (Rep.frz r2 (fzN _ _))
  · have hl : env'.length = N.length := by rw [d]; simp; omega
    have r2 : Rep K Z' F' H' ([(some v, m)] ++ zpA vs (padM env' np n)) := end_zp (L := [(some v, m)]) r (by omega) h1 hnp (by omega) p
    exact h5 _ _ Z' H' v a b (by unfold padM; simp; omega) r2
  · have r1 : Rep K Z' F' H' (zp σ' env' ++ []) := by rw [List.append_nil]; exact r
    exact h6 c d Z' H' dx y a b r1.right g1 g2
end
end Pl

namespace Pl
open PySem PySem.Spec PyProof.Rows L2
open Classical

/-! ### targets -/
abbrev WG := D → Env → (Env → Prop) → Prop
abbrev WGs := List D → Env → (Env → Prop) → Prop
def RdG (K : Fr) (B : List Nat) (w : WG) : TG := fun v σ H Q => ∃ Z F env P d, σ.length = env.length ∧ Rep K Z F H ((some v, .frz d) :: zp σ env) ∧ w d env P ∧
  ∀ env' σ' Z' H', P env' → Le Z Z' → σ'.length = σ.length → env'.length = env.length → (∀ j, j ∉ B → σ'[j]? = σ[j]?) → Rep K Z' F H' (zp σ' env') → Q σ' H'
def RdGs (K : Fr) (B : List Nat) (w : WGs) : TGs := fun vs σ H Q => ∃ Z F env P ds, σ.length = env.length ∧ FzL K Z ds vs ∧ Rep K Z F H (zp σ env) ∧ w ds env P ∧
  ∀ env' σ' Z' H', P env' → Le Z Z' → σ'.length = σ.length → env'.length = env.length → (∀ j, j ∉ B → σ'[j]? = σ[j]?) → Rep K Z' F H' (zp σ' env') → Q σ' H'
abbrev GG (X : Cx) (B : List Nat) (tg : Expr) (w : WG) : Prop := PG X tg (RdG X.K B w)
abbrev GGs (X : Cx) (B : List Nat) (tgs : List Expr) (w : WGs) : Prop := PGs X tgs (RdGs X.K B w)
theorem _root_.L2.PG.imp {X : Cx} {e : Expr} {t t' : TG} (h : PG X e t) (i : ∀ v σ H Q, t' v σ H Q → t v σ H Q) : PG X e t' := ⟨fun pins s σ H v u Q I r h' => h.run pins s σ H v u Q I r (i v σ H Q h')⟩
theorem _root_.L2.PGs.imp {X : Cx} {e : List Expr} {t t' : TGs} (h : PGs X e t) (i : ∀ v σ H Q, t' v σ H Q → t v σ H Q) : PGs X e t' := ⟨fun pins s σ H v u Q I r h' => h.run pins s σ H v u Q I r (i v σ H Q h')⟩
def wTn (i : Nat) : WG := fun d env P => P (env.set i (.frz d))
def wTt (n : Nat) (w : WGs) : WG := fun d env P => ∃ ds, d = .tup ds ∧ ds.length = n ∧ w ds env P
def wTl (n : Nat) (w : WGs) : WG := fun d env P => ∃ ds, (d = .lst ds ∨ ∃ ns, d = .scr ns ∧ ds = ns.map D.int) ∧ ds.length = n ∧ w ds env P
def wT0 : WGs := fun ds env P => ds = [] ∧ P env
def wT1 (w : WG) (u : WGs) : WGs := fun ds env P => ∃ d r, ds = d :: r ∧ w d env (fun e => u r e P)
section
variable {X : Cx} {B C : List Nat} {pos : Pos}
theorem zp_set' {σ : L2.St} {env : Env} {i : Nat} {v : V} {m : M} {K : Fr} {Z F H : Hp} (hl : σ.length = env.length) (r : Rep K Z F H ((some v, m) :: zp σ env)) : Rep K Z F H (zp (σ.set i (some v)) (env.set i m)) := by
  by_cases hi : i < env.length
  · exact zp_set hl hi r
  · rw [List.set_eq_of_length_le (by omega), List.set_eq_of_length_le (by omega)]
    exact r.tail
theorem gg_name {i : Nat} {x : Str} (hN : X.N.Nodup) (hi : X.N[i]? = some x) (hx : Loc X.env.scope x) (hf : X.fn x = true ∨ X.env.scope.names.lookup x = some .local) : GG X [i] (.Name x pos) (wTn i) := by
  refine (pg_name hN hi hx hf).imp fun v σ H Q ⟨Z, F, env, P, d, hl, r, hw, hP⟩ => ?_
  exact hP _ _ Z H hw (Le.refl Z) (by simp) (by simp) (fun j hj => by rw [List.getElem?_set_ne]; intro e; exact hj (by simp [e])) (zp_set' hl r)
theorem ggs_nil : GGs X [] [] wT0 := by
  refine pgs_nil.imp fun v σ H Q ⟨Z, F, env, P, ds, hl, f, r, ⟨hd, hw⟩, hP⟩ => ?_
  subst hd
  exact ⟨by simpa only [FzL] using f, hP _ _ Z H hw (Le.refl Z) rfl rfl (fun _ _ => rfl) r⟩
theorem ggs_cons {e : Expr} {es : List Expr} {w : WG} {u : WGs} (h : GG X B e w) (h2 : GGs X C es u)
    (hs : (assignEach (e :: es) X.env).map (·.2) = assign e X.env :: (assignEach es X.env).map (·.2) := by rfl) : GGs X (B ++ C) (e :: es) (wT1 w u) := by
  refine (pgs_cons h h2 hs).imp fun v σ H Q ⟨Z, F, env, P, ds, hl, f, r, ⟨d, rr, hd, hw⟩, hP⟩ => ?_
  subst hd
  simp only [FzL] at f
  obtain ⟨x, t, rfl, f1, f2⟩ := f
  refine ⟨x, t, rfl, Z, F, env, _, d, hl, r.frz f1, hw, fun e1 σ1 Z1 H1 h1 le1 l1 l2 k1 r1 => ?_⟩
  refine ⟨Z1, F, e1, P, rr, by omega, FzL.mono le1 _ _ f2, r1, h1, fun e2 σ2 Z2 H2 h2 le2 l3 l4 k2 r2 => ?_⟩
  refine hP e2 σ2 Z2 H2 h2 (le1.trans le2) (by omega) (by omega) (fun j hj => ?_) r2
  rw [k2 j (fun z => hj (List.mem_append_right _ z)), k1 j (fun z => hj (List.mem_append_left _ z))]
theorem gg_tup {es : List Expr} {k : Nat} {w : WGs} (hc : X.calm = true) (h : GGs X B es w) (n : Nat)
    (hn : (assignEach es X.env).length = n := by rfl) (hst : (assignEach es X.env).findIdx? (·.1) = none := by rfl) : GG X B (.Tuple es k pos) (wTt n w) := by
  refine (pg_tup hc h hn hst).imp fun v σ H Q ⟨Z, F, env, P, d, hl, r, ⟨ds, hd, hlen, hw⟩, hP⟩ => ?_
  subst hd
  have f := r.fz
  simp only [Fz] at f
  obtain ⟨a, vs, rfl, hz, f⟩ := f
  exact ⟨a, vs, rfl, .inl (.inl (r.sub.ex hz rfl)), by rw [← f.length, hlen], Z, F, env, P, ds, hl, f, r.tail, hw, hP⟩
theorem gg_unl {es : List Expr} {k : Nat} {w : WGs} (hc : X.calm = true) (h : GGs X B es w) (n : Nat)
    (hn : (assignEach es X.env).length = n := by rfl) (hst : (assignEach es X.env).findIdx? (·.1) = none := by rfl) : GG X B (.Tuple es k pos) (wTl n w) := by
  refine (pg_unl hc h hn hst).imp fun v σ H Q ⟨Z, F, env, P, d, hl, r, ⟨ds, hd, hlen, hw⟩, hP⟩ => ?_
  rcases hd with hd | ⟨ns, hd, he⟩
  · subst hd
    have f := r.fz
    simp only [Fz] at f
    obtain ⟨a, vs, rfl, hz, f⟩ := f
    exact ⟨a, vs, rfl, .inl (.inl (r.sub.ex hz rfl)), by rw [← f.length, hlen], Z, F, env, P, ds, hl, f, r.tail, hw, hP⟩
  · subst hd he
    have f := r.fz
    simp only [Fz] at f
    obtain ⟨a, rfl, hz⟩ := f
    have f : FzL X.K Z (ns.map D.int) (ns.map V.int) := by
      clear hw hP r hz hlen
      induction ns with
      | nil => simp [FzL]
      | cons n ns ih => simp only [List.map_cons, FzL]; exact ⟨_, _, rfl, fzI _ _ _, ih⟩
    exact ⟨a, _, rfl, r.sub.seqL hz, by rw [← f.length, hlen], Z, F, env, P, _, hl, f, r.tail, hw, hP⟩
end

/-! ### what is gone through -/
def ItRep (K : Fr) (Z : Hp) (J : It) (ds : List D) : Prop := ∃ (G : Hp → Prop) (Y : Nat → Hp → V → Hp → Prop), Walk J ds.length G Y ∧ (∀ Z' H, Le Z Z' → Sub Z' H → G H) ∧
  ∀ Z' F H l i v H', Le Z Z' → Rep K Z' F H l → Y i H v H' → i < ds.length → ∃ d, ds[i]? = some d ∧ ∃ Z'', Le Z' Z'' ∧ Rep K Z'' F H' ((some v, .frz d) :: l)
abbrev WI := Env → (List D → Env → Prop) → XO → Prop
def RdI (K : Fr) (W : WX) (w : WI) : TI := fun σ H R => ∃ Z F env P E, σ.length = env.length ∧ Rep K Z F H (zp σ env) ∧ w env P E ∧
  (∀ ds env' Z' H' J, P ds env' → Le Z Z' → env'.length = env.length → Rep K Z' F H' (zp σ env') → ItRep K Z' J ds → R J H') ∧ XW K W σ F Z env.length E
abbrev GI (X : Cx) (W : WX) (tg e : Expr) (w : WI) : Prop := PI X tg e (RdI X.K W w)
theorem _root_.L2.PI.imp {X : Cx} {tg e : Expr} {t t' : TI} (h : PI X tg e t) (i : ∀ σ H Q, t' σ H Q → t σ H Q) : PI X tg e t' := ⟨fun pins s σ H Q I h' => h.run pins s σ H Q I (i σ H Q h')⟩

/-- the loop over the values -/
def forL (g : WG) (b : WS) : List D → Env → Pst → XO → Prop
  | [], env, P, _ => P.nx env
  | d :: r, env, P, E => g d env fun e => b e { P with nx := fun e' => forL g b r e' P E, ct := fun e' => forL g b r e' P E, bk := P.nx } E
def wFor (wi : WI) (g : WG) (b : WS) : WS := fun env P E => wi env (fun ds e => forL g b ds e P E) E
theorem Pin.of {pv : List V} {σ σ' : L2.St} {B : List Nat} (h : Pin pv σ) (hB : ∀ j ∈ B, pv.length ≤ j) (hk : ∀ j, j ∉ B → σ'[j]? = σ[j]?) : Pin pv σ' := by
  unfold Pin at h ⊢
  rw [← h]
  refine List.ext_getElem? fun j => ?_
  by_cases hj : j < pv.length
  · rw [List.getElem?_take_of_lt hj, List.getElem?_take_of_lt hj, hk j fun z => by have := hB j z; omega]
  · rw [List.getElem?_eq_none (by simp; omega), List.getElem?_eq_none (by simp; omega)]
section
variable {X : Cx} {W : WX} {np : Nat × Nat} {B : List Nat} {tg iter : Expr} {body : List Stmt} {pos : Pos}
theorem gs_for {wi : WI} {g : WG} {b : WS} (hp : PassesOwn (model X.prog X.w) X.A X.env X.xe) (hc : X.calm = true) (hi : GI X W tg iter wi) (hg : GG X B tg g) (hb : GSs X W np body b) (hB : ∀ j ∈ B, np.1 ≤ j)
    (hs : ∀ x, foldedSetIterable iter X.env x = pure x := by intro _; rfl) : GS X W np (.For tg iter body [] pos) (wFor wi g b) := by
  refine (ps_for hp hc hi hg hb hs).imp fun D σ H ⟨Z, F, env, pv, P, E, hn, hl, hpin, r, hw, hd, hE⟩ => ?_
  refine ⟨Z, F, env, _, E, hl, r, hw, fun ds e1 Z1 H1 J h1 le1 l1 r1 it => ?_, hE.xw hl hpin⟩
  obtain ⟨G, Y, wk, hG, hY⟩ := it
  refine for_it wk (fun i σ' H' => ∃ Z' e', Le Z1 Z' ∧ σ'.length = env.length ∧ e'.length = env.length ∧ Pin pv σ' ∧ Rep X.K Z' F H' (zp σ' e') ∧ forL g b (ds.drop i) e' P E) ?_ ?_ ?_ ?_
  · exact ⟨Z1, e1, Le.refl _, hl, l1, hpin, r1, by simpa using h1⟩
  · rintro i σ' H' _ ⟨Z', e', le', _, _, _, r', _⟩
    exact hG Z' H' le' r'.sub
  · rintro i x σ2 H2 H3 hi2 ⟨Z2, e2, le2, l2, l2', p2, r2, h2⟩ y
    obtain ⟨d, hd2, Z3, le3, r3⟩ := hY Z2 F H2 _ i x H3 le2 r2 y hi2
    have hdrop : ds.drop i = d :: ds.drop (i + 1) := by
      obtain ⟨q, e⟩ := List.getElem?_eq_some_iff.mp hd2
      rw [List.drop_eq_getElem_cons q, e]
    rw [hdrop] at h2
    simp only [forL] at h2
    refine ⟨Z3, F, e2, _, d, by omega, r3, h2, fun e4 σ4 Z4 H4 h4 le4 l4 l5 k4 r4 => ?_⟩
    have le13 := le2.trans le3
    have le14 := le13.trans le4
    have p4 : Pin pv σ4 := p2.of (fun j hj => by rw [hn.1]; exact hB j hj) k4
    refine ⟨Z4, F, e4, pv, _, E, ⟨hn.1, by omega⟩, by omega, p4, r4, h4, ⟨?_, ?_, ?_, ?_⟩, by rw [show e4.length = env.length by omega]; exact hE.mono (le1.trans le14)⟩
    · intro e5 σ5 Z5 H5 h5 le5 q1 q2 q3 r5
      exact ⟨Z5, e5, le14.trans le5, by omega, by omega, q3, r5, h5⟩
    · intro m e5 σ5 Z5 H5 v h5 le5 q1 q2 q3 r5
      exact hd.rt m e5 σ5 Z5 H5 v h5 (le1.trans (le14.trans le5)) (by omega) (by omega) q3 r5
    · intro e5 σ5 Z5 H5 h5 le5 q1 q2 q3 r5
      exact hd.nx e5 σ5 Z5 H5 h5 (le1.trans (le14.trans le5)) (by omega) (by omega) q3 r5
    · intro e5 σ5 Z5 H5 h5 le5 q1 q2 q3 r5
      exact ⟨Z5, e5, le14.trans le5, by omega, by omega, q3, r5, h5⟩
  · rintro σ2 H2 ⟨Z2, e2, le2, l2, l2', p2, r2, h2⟩
    rw [List.drop_length] at h2
    exact hd.nx e2 σ2 Z2 H2 h2 (le1.trans le2) (by omega) (by omega) p2 r2
/-- while, n turns at most -/
def whL (c : WT) (b : WS) : Nat → Env → Pst → XO → Prop
  | 0, _, _, _ => False
  | n + 1, env, P, E => c env (fun k e => if k = true then b e { P with nx := fun e' => whL c b n e' P E, ct := fun e' => whL c b n e' P E, bk := P.nx } E else P.nx e) E
def wWhile (c : WT) (b : WS) : WS := fun env P E => ∃ n, whL c b n env P E
theorem gs_while {c : Expr} {wc : WT} {b : WS} (hp : PassesOwn (model X.prog X.w) X.A X.env X.xe) (hc : GT X W c wc) (hb : GSs X W np body b) : GS X W np (.While c body [] pos) (wWhile wc b) := by
  refine (ps_while hp hc hb).imp fun D σ H ⟨Z, F, env, pv, P, E, hn, hl, hpin, r, ⟨n, hw⟩, hd, hE⟩ => ?_
  refine ⟨fun m σ' H' => ∃ Z' e', Le Z Z' ∧ σ'.length = env.length ∧ e'.length = env.length ∧ Pin pv σ' ∧ Rep X.K Z' F H' (zp σ' e') ∧ whL wc b m e' P E, ⟨n, Z, env, Le.refl _, hl, rfl, hpin, r, hw⟩, ?_⟩
  rintro m σ' H' ⟨Z', e', le', l1, l2, p', r', h'⟩
  cases m with
  | zero => exact False.elim h'
  | succ m =>
    simp only [whL] at h'
    refine ⟨Z', F, e', _, E, by omega, r', h', fun k e2 Z2 H2 h2 le2 l3 r2 => ?_, by rw [l2]; exact (hE.mono le').xw l1 p'⟩
    cases k with
    | true =>
      rw [if_pos rfl] at h2 ⊢
      refine ⟨fun σ3 H3 => ∃ Z' e', Le Z Z' ∧ σ3.length = env.length ∧ e'.length = env.length ∧ Pin pv σ3 ∧ Rep X.K Z' F H3 (zp σ3 e') ∧ whL wc b m e' P E, fun σ3 H3 h => ⟨m, by omega, h⟩, ?_⟩
      have le12 := le'.trans le2
      refine ⟨Z2, F, e2, pv, _, E, ⟨hn.1, by omega⟩, by omega, p', r2, h2, ⟨?_, ?_, ?_, ?_⟩, by rw [show e2.length = env.length by omega]; exact hE.mono le12⟩
      · intro e5 σ5 Z5 H5 h5 le5 q1 q2 q3 r5
        exact ⟨Z5, e5, le12.trans le5, by omega, by omega, q3, r5, h5⟩
      · intro m e5 σ5 Z5 H5 v h5 le5 q1 q2 q3 r5
        exact hd.rt m e5 σ5 Z5 H5 v h5 (le12.trans le5) (by omega) (by omega) q3 r5
      · intro e5 σ5 Z5 H5 h5 le5 q1 q2 q3 r5
        exact hd.nx e5 σ5 Z5 H5 h5 (le12.trans le5) (by omega) (by omega) q3 r5
      · intro e5 σ5 Z5 H5 h5 le5 q1 q2 q3 r5
        exact ⟨Z5, e5, le12.trans le5, by omega, by omega, q3, r5, h5⟩
    | false =>
      rw [if_neg (by decide)] at h2 ⊢
      exact hd.nx e2 σ' Z2 H2 h2 (le'.trans le2) (by omega) (by omega) p' r2
/-- (a, b) = e -/
def wAsgT (w : WE) (g : WG) : WS := fun env P E => w env (fun m e => m.full ∧ g m.toD e P.nx) E
theorem gs_asgT {e : Expr} {w : WE} {g : WG} (he : GE X W e w) (hg : GG X B tg g) (hB : ∀ j ∈ B, np.1 ≤ j) (hs : swapsWithSole [tg] e pos.line X.env = pure false := by rfl) (hw : swappedStores [tg] e X.env = pure none := by rfl)
    (h1 : (assignEach [tg] X.env).map (·.2) = [assign tg X.env] := by rfl) : GS X W np (.Assign [tg] e pos) (wAsgT w g) := by
  refine (ps_asg he hg hs hw h1).imp fun D σ H ⟨Z, F, env, pv, P, E, hn, hl, hpin, r, hw, hd, hE⟩ => ?_
  refine ⟨Z, F, env, _, E, hl, r, hw, fun m e1 Z1 H1 v h1 le1 l1 r1 => ?_, hE.xw hl hpin⟩
  obtain ⟨Z2, le2, r2⟩ := r1.freeze h1.1
  exact ⟨Z2, F, e1, _, m.toD, by omega, r2, h1.2, fun e4 σ4 Z4 H4 h4 le4 l4 l5 k4 r4 => hd.nx e4 σ4 Z4 H4 h4 (le1.trans (le2.trans le4)) (by omega) (by omega) (hpin.of (fun j hj => by rw [hn.1]; exact hB j hj) k4) r4⟩
end
end Pl

namespace Pl
open PySem PySem.Spec PyProof.Rows L2
open Classical

def itemsOf : D → Option (List D)
  | .lst xs => some xs
  | .tup xs => some xs
  | .str x => some (x.cps.toList.map fun c => .str ⟨#[c]⟩)
  | .scr ns => some (ns.map .int)
  | .dic _ kvs => some (kvs.map (·.1))
  | _ => none
def wIter (w : WE) : WI := fun env P E => w env (fun m e => m.full ∧ ∃ ds, itemsOf m.toD = some ds ∧ P ds e) E
section
variable {K : Fr} {Z Z' F H H' : Hp} {l l' : List Sl}
theorem it_vals {J : It} {vs : List V} {ds : List D} (G : Hp → Prop) (f : FzL K Z ds vs) (wk : Walk J vs.length G (YAt vs)) (hG : ∀ Z' H, Le Z Z' → Sub Z' H → G H) : ItRep K Z J ds := by
  refine ⟨G, YAt vs, by rw [f.length]; exact wk, hG, fun Z' F H l i v H' le r y hi => ?_⟩
  obtain ⟨rfl, hy⟩ := y
  obtain ⟨d, h1, h2⟩ := f.get' hy
  exact ⟨d, h1, Z', Le.refl _, r.frz (Fz.mono le _ _ h2)⟩
theorem it_list {a : Addr} {vs : List V} {ds : List D} (h : SqL K Z a vs) (f : FzL K Z ds vs) : ItRep K Z (Itl K a) ds :=
  it_vals _ f walk_list fun Z' H le s => s.seqL (le.seqL h)
theorem it_tup {a : Addr} {vs : List V} {ds : List D} (h : Z a = some (.tup vs)) (f : FzL K Z ds vs) : ItRep K Z (Itt K a) ds :=
  it_vals _ f walk_tup fun Z' H le s => .inl (.inl (s.ex (le.ex h rfl) rfl))
theorem it_str {x : Str} : ItRep K Z (Its x) (x.cps.toList.map fun c => .str ⟨#[c]⟩) := by
  refine ⟨_, _, (by simpa using walk_str), fun _ _ _ _ => trivial, fun Z' F H l i v H' le r y hi => ?_⟩
  obtain ⟨rfl, c, h1, rfl⟩ := y
  exact ⟨.str ⟨#[c]⟩, by simpa using h1, Z', Le.refl _, r.frz (fzS _ _ _)⟩
theorem it_range {lo : Int} {n : Nat} : ItRep K Z (Itr lo n) ((List.range n).map fun i => .int (lo + (i : Nat))) := by
  refine ⟨_, _, (by simpa using walk_range), fun _ _ _ _ => trivial, fun Z' F H l i v H' le r y hi => ?_⟩
  obtain ⟨rfl, rfl⟩ := y
  exact ⟨.int (lo + i), by simp at hi; simp [hi], Z', Le.refl _, r.frz (fzI _ _ _)⟩
theorem fz_key {k : D} {q : Key} (h : keyOf k = some q) : Fz K Z k (kV q) := by
  cases k <;> simp [keyOf] at h <;> subst h
  · exact fzI _ _ _
  · exact fzS _ _ _
theorem fz_keys : ∀ {xs : List D} {ks : List Key}, keysL xs = some ks → FzL K Z xs (ks.map kV)
  | [], ks, h => by simp only [keysL, Option.some.injEq] at h; subst h; simp [FzL]
  | d :: r, ks, h => by
    simp only [keysL] at h
    split at h
    · rename_i k q hk hq
      cases h
      simp only [List.map_cons, FzL]
      exact ⟨_, _, rfl, fz_key hk, fz_keys hq⟩
    · cases h
theorem KvR.get_at {κ : Type} {kf : D → Option κ} : ∀ {kvs : List (D × D)} {ks : List (κ × V)} {i : Nat} {q : κ} {v : V}, KvR kf K Z kvs ks → ks[i]? = some (q, v) → ∃ k d, kvs[i]? = some (k, d) ∧ kf k = some q ∧ Fz K Z d v
  | [], ks, i, q, v, h, e => by
    obtain rfl : ks = [] := h
    simp at e
  | (k, d) :: r, ks, i, q, v, h, e => by
    obtain ⟨q', v', t, rfl, h1, h2, h3⟩ := h
    cases i with
    | zero => simp at e; obtain ⟨rfl, rfl⟩ := e; exact ⟨k, d, rfl, h1, h2⟩
    | succ i => simp at e ⊢; exact h3.get_at e
theorem KvR.len {κ : Type} {kf : D → Option κ} : ∀ {kvs : List (D × D)} {ks : List (κ × V)}, KvR kf K Z kvs ks → kvs.length = ks.length
  | [], ks, h => by
    obtain rfl : ks = [] := h
    rfl
  | (k, d) :: r, ks, h => by
    obtain ⟨q', v', t, rfl, h1, h2, h3⟩ := h
    simp [h3.len]
theorem it_keys {d : Addr} {o : Obj} {kvs : List (D × D)} {ks : List (Key × V)} (h : Z d = some (.frz o (.dK ks))) (f : FzK K Z kvs ks) : ItRep K Z (Itk d o ks) (kvs.map (·.1)) := by
  have f' := FzK_iff.mp f
  refine ⟨_, _, by rw [List.length_map, f'.len]; exact walk_keys, fun Z' H le s => s.ex (le.ex h rfl) rfl, fun Z' F H l i v H' le r y hi => ?_⟩
  obtain ⟨rfl, k, v, h1, rfl⟩ := y
  obtain ⟨kd, dd, h2, h3, h4⟩ := f'.get_at h1
  exact ⟨kd, by simp [h2], Z', Le.refl _, r.frz (fz_key h3)⟩
theorem it_keysT {d : Addr} {o : Obj} {kvs : List (D × D)} {ks : List (List Key × V)} (h : Z d = some (.frz o (.dT ks))) (f : FzT K Z kvs ks) : ItRep K Z (Itkt d o ks) (kvs.map (·.1)) := by
  have f' := FzT_iff.mp f
  refine ⟨_, _, by rw [List.length_map, f'.len]; exact walk_keysT, fun Z' H le s => s.ex (le.ex h rfl) rfl, fun Z' F H l i v H' le r y hi => ?_⟩
  obtain ⟨rfl, k, v, q, h1, rfl, h5⟩ := y
  obtain ⟨kd, dd, h2, h3, h4⟩ := f'.get_at h1
  cases kd <;> simp [keysOf] at h3
  rename_i xs
  obtain ⟨Z2, le2, r2⟩ := r.addTup h5 (fz_keys h3)
  exact ⟨.tup xs, by simp [h2], Z2, le2, r2⟩
theorem Rep.lockZ {d : Addr} {od : Obj} {u : HO} (r : Rep K Z F H l) (hz : Rd Z d u) (hd : isDic u = true) (hh : H d = some (.frz od u)) : ∃ Z', Le Z Z' ∧ Z' d = some (.frz od u) ∧ Rep K Z' F H l := by
  have le : Le Z (upd Z d (.frz od u)) := fun a o e => by
    by_cases h : a = d
    · rw [h] at e
      rw [h, upd_same]
      rcases hz with z | ⟨ob, z⟩
      · rw [z] at e; cases e
        exact .inr ⟨od, hd, rfl⟩
      · rw [z] at e; cases e
        rcases r.sub d _ z with y | ⟨_, i, _⟩
        · rw [hh] at y; exact .inl y
        · cases i
    · exact .inl (by rw [upd_ne h]; exact e)
  have hzn : Z d ≠ none := by
    rcases hz with z | ⟨ob, z⟩ <;> (rw [z]; simp)
  have hn : ∀ a ∈ fps l, a ≠ d := fun a ha z => hzn (by rw [← z]; exact (r.dz a ha).1)
  have hF : F d = none := by
    cases e : F d with
    | none => rfl
    | some o =>
      rcases r.zf d (by rw [e]; simp) with z | ⟨xs, z⟩
      · exact absurd z hzn
      · have h := r.fr d _ z; rw [hh] at h; cases h
  refine ⟨upd Z d (.frz od u), le, upd_same, fun a o e => ?_, r.fr, fun a ha => ?_, fun p hp => (r.sl p hp).mono le fun _ _ => rfl, r.nd, fun a ha => ?_⟩
  · by_cases z : a = d
    · rw [z, upd_same] at e; rw [z]; cases e; exact .inl hh
    · rw [upd_ne z] at e; exact r.sub a o e
  · rw [upd_ne (fun z => ha (by rw [z]; exact hF))]; exact r.zf a ha
  · obtain ⟨g1, g2, g3⟩ := r.dz a ha
    exact ⟨by rw [upd_ne (hn a ha)]; exact g1, g2, g3⟩
end
section
variable {X : Cx} {W : WX} {tg e : Expr}
/-- a value is gone through: what is handed on once it is frozen -/
theorem pie_any {pins : List (Addr × Obj)} {σ : L2.St} {H : Hp} {s : Shared} {R : It → Hp → Prop} {Z F : Hp} {l : List Sl} {d : D} {ds : List D} {x : V} {u : Value} (I : Inv X pins σ H s) (rx : RelV x u) (r : Rep X.K Z F H ((some x, .frz d) :: l)) (hd : itemsOf d = some ds)
    (h : ∀ Z' H' J, Le Z Z' → Rep X.K Z' F H' l → ItRep X.K Z' J ds → R J H') : wpAny (model X.prog X.w) X.A (pyIter u) (PIE X pins σ tg R) X.xe s := by
  have f := r.fz
  have r0 := r.tail
  cases d with
  | lst xs =>
    cases hd
    simp only [Fz] at f
    obtain ⟨a, vs, rfl, hz, f⟩ := f
    obtain rfl : u = .ref a := rx
    obtain ⟨its, rv, p, hzz⟩ := I.list (.inl (.inl (r.sub.ex hz rfl)))
    refine wpAny_pyIter_list p.isList ?_
    exact pi_one (tk := s.toks) I _ (turn_list a _) ⟨_, Heap.get?_push_size _ rfl, rfl, rfl⟩ (h Z H _ (Le.refl _) r0 (it_list (.inl (.inl hz)) f))
  | tup xs =>
    cases hd
    simp only [Fz] at f
    obtain ⟨a, vs, rfl, hz, f⟩ := f
    obtain rfl : u = .ref a := rx
    obtain ⟨its, rv, p, hzz⟩ := I.tuple (.inl (.inl (r.sub.ex hz rfl)))
    refine wpAny_pyIter_tuple (show s.heap.IsTuple a its.toArray from p) ?_
    exact pi_one (tk := s.toks) I _ (turn_tuple a _) ⟨_, Heap.get?_push_size _ rfl, rfl, rfl⟩ (h Z H _ (Le.refl _) r0 (it_tup hz f))
  | scr ns =>
    cases hd
    simp only [Fz] at f
    obtain ⟨a, rfl, hz⟩ := f
    obtain rfl : u = .ref a := rx
    obtain ⟨its, rv, p, hzz⟩ := I.list (r.sub.seqL hz)
    refine wpAny_pyIter_list p.isList ?_
    exact pi_one (tk := s.toks) I _ (turn_list a _) ⟨_, Heap.get?_push_size _ rfl, rfl, rfl⟩ (h Z H _ (Le.refl _) r0 (it_list hz (FzL_int _ _ ns)))
  | str x =>
    cases hd
    obtain rfl : _ = V.str x := by simpa only [Fz] using f
    obtain ⟨t, rfl⟩ := rx
    cases ha : x.cps.all (· < 128)
    · exact wpAny_pyIter_wide ha (pi_one (tk := s.toks) I _ (turn_str _ x t "str_iterator" (.inr rfl)) ⟨_, Heap.get?_push_size _ rfl, rfl, rfl⟩ (h Z H _ (Le.refl _) r0 it_str))
    · exact wpAny_pyIter_ascii ha (pi_one (tk := s.toks) I _ (turn_str _ x t "str_ascii_iterator" (.inl rfl)) ⟨_, Heap.get?_push_size _ rfl, rfl, rfl⟩ (h Z H _ (Le.refl _) r0 it_str))
  | dic t kvs =>
    cases hd
    cases t with
    | false =>
      simp only [Fz] at f
      obtain ⟨a, ks, rfl, hz, f⟩ := f
      obtain rfl : u = .ref a := rx
      have main : ∀ {od : Obj} {H' Z' : Hp}, Inv X pins σ H' s → H' a = some (.frz od (.dK ks)) → Le Z Z' → Z' a = some (.frz od (.dK ks)) → Rep X.K Z' F H' l → wpAny (model X.prog X.w) X.A (pyIter (.ref a)) (PIE X pins σ tg R) X.xe s := by
        intro od H' Z' I' hh le hz' r'
        obtain ⟨hs, hgd, hx, es, ep, vs, hdt, hsz, kv, hm⟩ := I'.frzK hh
        refine iter_keys hs hgd hx hdt (pi_one (tk := s.toks) I' _ (turn_keys _ hdt) ⟨_, Heap.get?_push_size _ rfl, rfl, ?_⟩ (h Z' H' _ le r' (it_keys hz' (FzK.mono le _ _ f))))
        rw [hsz] <;> rfl
      rcases r.sub.rd' hz with hh | ⟨od, hh⟩
      · obtain ⟨od, I'⟩ := I.lock hh trivial
        obtain ⟨Z', le, hz', r'⟩ := r0.lock (od := od) hz rfl hh
        exact main I' upd_same le hz' r'
      · obtain ⟨Z', le, hz', r'⟩ := r0.lockZ hz rfl hh
        exact main I hh le hz' r'
    | true =>
      simp only [Fz] at f
      obtain ⟨a, ks, rfl, hz, f⟩ := f
      obtain rfl : u = .ref a := rx
      have main : ∀ {od : Obj} {H' Z' : Hp}, Inv X pins σ H' s → H' a = some (.frz od (.dT ks)) → Le Z Z' → Z' a = some (.frz od (.dT ks)) → Rep X.K Z' F H' l → wpAny (model X.prog X.w) X.A (pyIter (.ref a)) (PIE X pins σ tg R) X.xe s := by
        intro od H' Z' I' hh le hz' r'
        obtain ⟨hs, hgd, hx, es, ep, hdt, hsz, ent⟩ := I'.frzT hh
        refine iter_keys hs hgd hx hdt (pi_one (tk := s.toks) I' _ (turn_keysT _ hdt) ⟨_, Heap.get?_push_size _ rfl, rfl, ?_⟩ (h Z' H' _ le r' (it_keysT hz' (FzT.mono le _ _ f))))
        rw [hsz] <;> rfl
      rcases r.sub.rd' hz with hh | ⟨od, hh⟩
      · obtain ⟨od, I'⟩ := I.lock hh trivial
        obtain ⟨Z', le, hz', r'⟩ := r0.lock (od := od) hz rfl hh
        exact main I' upd_same le hz' r'
      · obtain ⟨Z', le, hz', r'⟩ := r0.lockZ hz rfl hh
        exact main I hh le hz' r'
  | _ => cases hd
theorem gi_any {w : WE} (he : GE X W e w) : GI X W tg e (wIter w) := by
  refine ⟨fun pins s σ H R I h => ?_⟩
  obtain ⟨Z, F, env, P, E, hl, r, hw, hP, hE⟩ := h
  refine thn (he.run pins s σ H (fun v H1 => ∃ m e1 Z1, m.full ∧ (∃ ds, itemsOf m.toD = some ds ∧ P ds e1) ∧ Le Z Z1 ∧ e1.length = env.length ∧ Rep X.K Z1 F H1 ((some v, m) :: zp σ e1)) I
    ⟨Z, F, env, _, E, hl, r, hw, fun m e1 Z1 H1 v h1 le1 l1 r1 => ⟨m, e1, Z1, h1.1, h1.2, le1, l1, r1⟩, hE⟩) fun u s1 ⟨x, H1, I1, rx, m, e1, Z1, hm, ⟨ds, hd, hp⟩, le1, l1, r1⟩ => ?_
  obtain ⟨Z2, le2, r2⟩ := r1.freeze hm
  exact pie_any I1 rx r2 hd fun Z' H' J le r' it => hP ds e1 Z' H' J hp (le1.trans (le2.trans le)) l1 r' it

/-! ### range -/
def rngD (lo hi : Int) : List D := (List.range (hi - lo).toNat).map fun i => .int (lo + (i : Nat))
def wRng1 (wa : WA) : WI := fun env P E => wa env (fun os e => ∃ j : Int, allVal os = some [.int j] ∧ (-(2 ^ 62) ≤ j ∧ j < 2 ^ 62) ∧ P (rngD 0 j) e) E
def wRng2 (wa : WA) : WI := fun env P E => wa env (fun os e => ∃ i j : Int, allVal os = some [.int i, .int j] ∧ (-(2 ^ 62) ≤ i ∧ i < 2 ^ 62 ∧ -(2 ^ 62) ≤ j ∧ j < 2 ^ 62) ∧ P (rngD i j) e) E
theorem fz1 {K : Fr} {Z : Hp} {i : Int} {vs : List V} (h : FzL K Z [.int i] vs) : vs = [.int i] := by
  simp only [FzL, Fz] at h
  obtain ⟨v, t, rfl, rfl, rfl⟩ := h
  rfl
theorem fz2 {K : Fr} {Z : Hp} {i j : Int} {vs : List V} (h : FzL K Z [.int i, .int j] vs) : vs = [.int i, .int j] := by
  simp only [FzL, Fz] at h
  obtain ⟨v, t, rfl, rfl, v', t', rfl, rfl, rfl⟩ := h
  rfl
theorem gi_range1 {a : Expr} {wa : WA} {p pos : Pos} (hg : Gl X "range") (hm : X.mg "range" = none) (ha : GA X W [a] wa) (hs : starEach [a] X.env = [(false, eval a X.env)] := by rfl) : GI X W tg (.Call (.Name "range" p) [a] [] pos) (wRng1 wa) := by
  refine (pi_range1 hg hm ha hs).imp fun σ H R ⟨Z, F, env, P, E, hl, r, hw, hP, hE⟩ => ?_
  refine ⟨Z, F, env, _, E, hl, r, hw, fun os e1 Z1 H1 vs h1 le1 l1 r1 q1 => ?_, hE⟩
  obtain ⟨j, h2, h3, h4⟩ := h1
  have e := fz1 (allVal_fz h2 q1)
  subst e
  refine ⟨j, rfl, h3.1, h3.2, hP _ e1 Z1 H1 _ h4 le1 l1 r1 ?_⟩
  have := it_range (K := X.K) (Z := Z1) (lo := 0) (n := j.toNat)
  simpa [rngD] using this
theorem gi_range2 {a b : Expr} {wa : WA} {p pos : Pos} (hg : Gl X "range") (hm : X.mg "range" = none) (ha : GA X W [a, b] wa) (hs : starEach [a, b] X.env = [(false, eval a X.env), (false, eval b X.env)] := by rfl) (hs2 : starEach [b] X.env = [(false, eval b X.env)] := by rfl) :
    GI X W tg (.Call (.Name "range" p) [a, b] [] pos) (wRng2 wa) := by
  refine (pi_range2 hg hm ha hs hs2).imp fun σ H R ⟨Z, F, env, P, E, hl, r, hw, hP, hE⟩ => ?_
  refine ⟨Z, F, env, _, E, hl, r, hw, fun os e1 Z1 H1 vs h1 le1 l1 r1 q1 => ?_, hE⟩
  obtain ⟨i, j, h2, h3, h4⟩ := h1
  have e := fz2 (allVal_fz h2 q1)
  subst e
  exact ⟨i, j, rfl, h3, hP _ e1 Z1 H1 _ h4 le1 l1 r1 it_range⟩
end
end Pl

namespace Pl
open PySem PySem.Spec PyProof.Rows L2
open Classical

/-- pairs of the place and the value -/
def enumD : Nat → List D → List D
  | _, [] => []
  | i, d :: r => .tup [.int (i : Nat), d] :: enumD (i + 1) r
theorem enumD_length : ∀ (ds : List D) (i : Nat), (enumD i ds).length = ds.length
  | [], _ => rfl
  | d :: r, i => by simp [enumD, enumD_length r]
theorem enumD_get : ∀ {ds : List D} {i j : Nat} {d : D}, ds[j]? = some d → (enumD i ds)[j]? = some (.tup [.int ((i + j : Nat) : Int), d])
  | [], i, j, d, h => by simp at h
  | x :: r, i, j, d, h => by
    cases j with
    | zero => simp at h; subst h; rfl
    | succ j =>
      simp only [List.getElem?_cons_succ] at h
      simp only [enumD, List.getElem?_cons_succ]
      rw [enumD_get h, show i + 1 + j = i + (j + 1) by omega]
def zipD : List D → List D → List D
  | a :: r, b :: t => .tup [a, b] :: zipD r t
  | _, _ => []
theorem zipD_length : ∀ (as bs : List D), (zipD as bs).length = min as.length bs.length
  | [], bs => by simp [zipD]
  | _ :: _, [] => by simp [zipD]
  | a :: r, b :: t => by simp only [zipD, List.length_cons, zipD_length r t]; omega
theorem zipD_get : ∀ {as bs : List D} {j : Nat} {a b : D}, as[j]? = some a → bs[j]? = some b → (zipD as bs)[j]? = some (.tup [a, b])
  | [], _, _, _, _, h, _ => by simp at h
  | _ :: _, [], _, _, _, _, h => by simp at h
  | x :: r, y :: t, j, a, b, h, h2 => by
    cases j with
    | zero => simp at h h2; subst h h2; rfl
    | succ j =>
      simp only [List.getElem?_cons_succ] at h h2
      simp only [zipD, List.getElem?_cons_succ]
      exact zipD_get h h2
section
variable {K : Fr} {Z Z' F H H' : Hp} {l l' : List Sl}
theorem RepS.mono' (le : Le Z Z') {p : Sl} (e : p.2.fp = []) (h : RepS K Z H p) : RepS K Z' H' p := by
  obtain ⟨o, m⟩ := p
  rcases h with h | ⟨v, h1, h2⟩
  · exact .inl h
  · refine .inr ⟨v, h1, ?_⟩
    dsimp only at e h2 ⊢
    cases m with
    | un => trivial
    | frz d => exact Fz.mono le _ _ h2
    | lst _ _ => cases e
    | dic _ _ _ => cases e
    | obj _ _ _ _ => cases e
theorem it_pairs {J : It} {n : Nat} {ds : List D} (G : Hp → Prop) (xs ys : Nat → Option V) (hn : ds.length = n) (wk : Walk J n G (YPair xs ys)) (hG : ∀ Z' H, Le Z Z' → Sub Z' H → G H)
    (hp : ∀ i x y, i < n → xs i = some x → ys i = some y → ∃ a b, ds[i]? = some (.tup [a, b]) ∧ Fz K Z a x ∧ Fz K Z b y) : ItRep K Z J ds := by
  refine ⟨G, YPair xs ys, by rw [hn]; exact wk, hG, fun Z' F H l i v H' le r y hi => ?_⟩
  obtain ⟨T, x, z, rfl, h1, rfl, h2, h3⟩ := y
  obtain ⟨a, b, h4, h5, h6⟩ := hp i x z (by omega) h2 h3
  obtain ⟨Z2, le2, r2⟩ := r.newTup (xs := [a, b]) (vs := [x, z]) h1 (by
    simp only [FzL]
    exact ⟨_, _, rfl, Fz.mono le _ _ h5, _, _, rfl, Fz.mono le _ _ h6, rfl⟩)
  exact ⟨_, h4, Z2, le2, r2⟩
theorem it_enum {a : Addr} {vs : List V} {ds : List D} (h : SqL K Z a vs) (f : FzL K Z ds vs) : ItRep K Z (Ite K a) (enumD 0 ds) :=
  it_pairs _ _ _ (by rw [enumD_length, f.length]) walk_enum (fun Z' H le s => s.seqL (le.seqL h)) fun i x y hi hx hy => by
    cases hx
    obtain ⟨d, h1, h2⟩ := f.get' hy
    refine ⟨_, d, enumD_get (i := 0) h1, ?_, h2⟩
    rw [Nat.zero_add]
    exact fzI _ _ _
theorem it_zip {a b : Addr} {vs ws : List V} {ds es : List D} (h : SqL K Z a vs) (f : FzL K Z ds vs) (h2 : SqL K Z b ws) (f2 : FzL K Z es ws) : ItRep K Z (Itz K a b) (zipD ds es) :=
  it_pairs _ _ _ (by rw [zipD_length, f.length, f2.length]) (walk_zip rfl) (fun Z' H le s => ⟨s.seqL (le.seqL h), s.seqL (le.seqL h2)⟩) fun i x y hi hx hy => by
    obtain ⟨d, h3, h4⟩ := f.get' hx
    obtain ⟨e, h5, h6⟩ := f2.get' hy
    exact ⟨d, e, zipD_get h3 h5, h4, h6⟩
end
section
variable {X : Cx} {W : WX} {e e2 : Expr} {p pos tpos : Pos} {elts : List Expr} {kk : Nat}
/-- a value that is a list -/
def lstOf : D → Option (List D)
  | .lst xs => some xs
  | .scr ns => some (ns.map .int)
  | _ => none
theorem lstOf_sq {K : Fr} {Z : Hp} {d : D} {ds : List D} {v : V} (h : lstOf d = some ds) (f : Fz K Z d v) : ∃ a vs, v = .ref a ∧ SqL K Z a vs ∧ FzL K Z ds vs := by
  cases d <;> simp [lstOf] at h
  · subst h
    simp only [Fz] at f
    obtain ⟨a, vs, rfl, hz, f⟩ := f
    exact ⟨a, vs, rfl, .inl (.inl hz), f⟩
  · subst h
    simp only [Fz] at f
    obtain ⟨a, rfl, hz⟩ := f
    exact ⟨a, _, rfl, hz, FzL_int _ _ _⟩
def wEnum (wa : WA) : WI := fun env P E => wa env (fun os e => ∃ d ds, allVal os = some [d] ∧ lstOf d = some ds ∧ P (enumD 0 ds) e) E
theorem gi_enum {wa : WA} (hg : Gl X "enumerate") (hm : X.mg "enumerate" = none) (ha : GA X W [e] wa) (hs : starEach [e] X.env = [(false, eval e X.env)] := by rfl) : GI X W (.Tuple elts kk tpos) (.Call (.Name "enumerate" p) [e] [] pos) (wEnum wa) := by
  refine (pi_enum hg hm ha hs).imp fun σ H R ⟨Z, F, env, P, E, hl, r, hw, hP, hE⟩ => ?_
  refine ⟨Z, F, env, _, E, hl, r, hw, fun os e1 Z1 H1 vs h1 le1 l1 r1 q1 => ?_, hE⟩
  obtain ⟨d, ds, h2, h3, h4⟩ := h1
  have f := allVal_fz h2 q1
  simp only [FzL] at f
  obtain ⟨v, t, rfl, f, rfl⟩ := f
  obtain ⟨a, ws, rfl, hz, f⟩ := lstOf_sq h3 f
  exact ⟨a, ws, rfl, r1.sub.seqL hz, hP _ e1 Z1 H1 _ h4 le1 l1 r1 (it_enum hz f)⟩
def wZip (wa : WA) : WI := fun env P E => wa env (fun os e => ∃ d d2 ds es, allVal os = some [d, d2] ∧ lstOf d = some ds ∧ lstOf d2 = some es ∧ P (zipD ds es) e) E
theorem gi_zip {wa : WA} (hg : Gl X "zip") (hm : X.mg "zip" = none) (ha : GA X W [e, e2] wa) (hs : starEach [e, e2] X.env = (false, eval e X.env) :: starEach [e2] X.env := by rfl) (hpl : (backTo pos (starEach [e2] X.env)).any (·.1) = false := by rfl) :
    GI X W (.Tuple elts kk tpos) (.Call (.Name "zip" p) [e, e2] [] pos) (wZip wa) := by
  refine (RZ.pi_zipA hg hm ha hs hpl).imp fun σ H R ⟨Z, F, env, P, E, hl, r, hw, hP, hE⟩ => ?_
  refine ⟨Z, F, env, _, E, hl, r, hw, fun os e1 Z1 H1 vs h1 le1 l1 r1 q1 => ?_, hE⟩
  obtain ⟨d, d2, ds, es, h2, h3, h5, h4⟩ := h1
  have f := allVal_fz h2 q1
  simp only [FzL] at f
  obtain ⟨v, t, rfl, f, v2, t2, rfl, f2, rfl⟩ := f
  obtain ⟨a, ws, rfl, hz, f⟩ := lstOf_sq h3 f
  obtain ⟨b, us, rfl, hz2, f2⟩ := lstOf_sq h5 f2
  exact ⟨a, b, ws, us, rfl, .inl ⟨r1.sub.seqL hz, r1.sub.seqL hz2, hP _ e1 Z1 H1 _ h4 le1 l1 r1 (it_zip hz f hz2 f2)⟩⟩
end

/-! ### comprehensions -/
/-- the own slots' contents forgotten -/
def wipeE (env : Env) : List Nat → Env
  | [] => env
  | v :: vs => (wipeE env vs).set v .un
/-- the own slots' contents put back -/
def putB (env env' : Env) : List Nat → Env
  | [] => env'
  | v :: vs => (putB env env' vs).set v ((env[v]?).getD .un)
theorem wipeE_length (env : Env) : ∀ vs : List Nat, (wipeE env vs).length = env.length
  | [] => rfl
  | v :: vs => by simp [wipeE, wipeE_length env vs]
theorem putB_length (env env' : Env) : ∀ vs : List Nat, (putB env env' vs).length = env'.length
  | [] => rfl
  | v :: vs => by simp [putB, putB_length env env' vs]
/-- E of one item: what the tests and the item make of it -/
def lcL (g : WG) (wt : WT) (we : WE) (own : List Nat) : List D → List D → Env → (List D → Env → Prop) → Prop
  | [], acc, env, P => P acc env
  | d :: r, acc, env, P => g d env fun e1 => wt e1 (fun b e2 => if b = true then we e2 (fun m e3 => m.full ∧ acc.length < sizeLine ∧ lcL g wt we own r (acc ++ [m.toD]) (wipeE e3 own) P) (fun _ _ _ => False) else lcL g wt we own r acc (wipeE e2 own) P) (fun _ _ _ => False)
def wLc (wi : WI) (g : WG) (wt : WT) (we : WE) (own : List Nat) : WE := fun env P E => wi env (fun ds e1 => (∀ i ∈ own, ∀ m, e1[i]? = some m → m.fp = []) ∧ lcL g wt we own ds [] (wipeE e1 own) (fun acc e2 => ∀ p, P (.lst p acc) (putB e1 e2 own))) E
theorem wipe_get {σ : L2.St} {i : Nat} : ∀ {vs : List Nat}, (wipe σ vs)[i]? = if i ∈ vs then (σ[i]?).map (fun _ => none) else σ[i]?
  | [] => by simp [wipe]
  | v :: vs => by
    unfold wipe
    rw [List.getElem?_set, wipe_length, wipe_get]
    by_cases h : v = i
    · subst h
      by_cases hl : v < σ.length
      · simp [hl]
      · simp [hl, List.getElem?_eq_none (show σ.length ≤ v by omega)]
    · have h' : ¬ i = v := fun z => h z.symm
      simp [h, h']
theorem wipeE_get {env : Env} {i : Nat} : ∀ {vs : List Nat}, (wipeE env vs)[i]? = if i ∈ vs then (env[i]?).map (fun _ => M.un) else env[i]?
  | [] => by simp [wipeE]
  | v :: vs => by
    unfold wipeE
    rw [List.getElem?_set, wipeE_length, wipeE_get]
    by_cases h : v = i
    · subst h
      by_cases hl : v < env.length
      · simp [hl]
      · simp [hl, List.getElem?_eq_none (show env.length ≤ v by omega)]
    · have h' : ¬ i = v := fun z => h z.symm
      simp [h, h']
theorem putB_get {env env' : Env} {i : Nat} (hl : env'.length = env.length) : ∀ {vs : List Nat}, (putB env env' vs)[i]? = if i ∈ vs then env[i]? else env'[i]?
  | [] => by simp [putB]
  | v :: vs => by
    unfold putB
    rw [List.getElem?_set, putB_length, putB_get hl]
    by_cases h : v = i
    · subst h
      by_cases hv : v < env.length
      · simp [hl, hv]
      · simp [hl, hv, List.getElem?_eq_none (show env.length ≤ v by omega)]
    · have h' : ¬ i = v := fun z => h z.symm
      simp [h, h']
theorem Rep.swaps {K : Fr} {Z F H : Hp} : ∀ (l2 l2' L : List Sl), l2.length = l2'.length → (∀ (i : Nat) (p p' : Sl), l2[i]? = some p → l2'[i]? = some p' → p' = p ∨ (RepS K Z H p' ∧ p'.2.fp = [])) → Rep K Z F H (L ++ l2) → Rep K Z F H (L ++ l2')
  | [], [], L, _, _, r => r
  | [], _ :: _, _, h, _, _ => by simp at h
  | _ :: _, [], _, h, _, _ => by simp at h
  | p :: l2, p' :: l2', L, hl, hh, r => by
    have key : Rep K Z F H ((L ++ [p']) ++ l2) := by
      rw [List.append_assoc]
      rcases hh 0 p p' rfl rfl with e | ⟨h1, h2⟩
      · rw [e]; exact r
      · exact (((r.perm List.perm_middle).tail).cons0 h1 h2).perm List.perm_middle.symm
    have := Rep.swaps l2 l2' (L ++ [p']) (by simpa using hl) (fun i q q' a b => hh (i + 1) q q' (by simpa using a) (by simpa using b)) key
    rwa [List.append_assoc] at this
theorem zp_get {σ : L2.St} {env : Env} {i : Nat} {p : Sl} : (zp σ env)[i]? = some p → σ[i]? = some p.1 ∧ env[i]? = some p.2 := by
  intro h
  unfold zp at h
  rw [List.getElem?_zip_eq_some] at h
  exact h
theorem Rep.wipe_ {K : Fr} {Z F H : Hp} {L : List Sl} {σ : L2.St} {env : Env} {vs : List Nat} (hl : σ.length = env.length) (r : Rep K Z F H (L ++ zp σ env)) : Rep K Z F H (L ++ zp (wipe σ vs) (wipeE env vs)) := by
  refine Rep.swaps _ _ L (by simp [zp, wipe_length, wipeE_length]) (fun i p p' h h' => ?_) r
  obtain ⟨h1, h2⟩ := zp_get h
  obtain ⟨h3, h4⟩ := zp_get h'
  rw [wipe_get] at h3
  rw [wipeE_get] at h4
  by_cases hi : i ∈ vs
  · rw [if_pos hi, h1] at h3
    rw [if_pos hi, h2] at h4
    right
    obtain ⟨a, b⟩ := p'
    simp at h3 h4
    subst h4
    exact ⟨.inl rfl, rfl⟩
  · rw [if_neg hi, h1] at h3
    rw [if_neg hi, h2] at h4
    left
    obtain ⟨a, b⟩ := p
    obtain ⟨c, d⟩ := p'
    simp at h3 h4
    rw [h3, h4]
theorem Rep.unwipe_ {K : Fr} {Z Z1 F F1 H H1 : Hp} {L : List Sl} {σ : L2.St} {env e1 : Env} {vs : List Nat} (hl : σ.length = env.length) (hl1 : env.length = e1.length) (r1 : Rep K Z1 F1 H1 (zp σ e1)) (hf : ∀ i ∈ vs, ∀ m, e1[i]? = some m → m.fp = []) (le : Le Z1 Z)
    (r : Rep K Z F H (L ++ zp (wipe σ vs) env)) : Rep K Z F H (L ++ zp σ (putB e1 env vs)) := by
  refine Rep.swaps _ _ L (by simp [zp, wipe_length, putB_length]) (fun i p p' h h' => ?_) r
  obtain ⟨h1, h2⟩ := zp_get h
  obtain ⟨h3, h4⟩ := zp_get h'
  rw [wipe_get] at h1
  rw [putB_get hl1] at h4
  by_cases hi : i ∈ vs
  · rw [if_pos hi] at h4
    right
    have hf' := hf i hi _ h4
    refine ⟨?_, hf'⟩
    have hmem : p' ∈ zp σ e1 := by
      refine List.mem_of_getElem? (i := i) ?_
      unfold zp
      rw [List.getElem?_zip_eq_some]
      exact ⟨h3, h4⟩
    exact (r1.sl p' hmem).mono' le hf'
  · rw [if_neg hi, h3] at h1
    rw [if_neg hi, h2] at h4
    left
    obtain ⟨a, b⟩ := p
    obtain ⟨c, d⟩ := p'
    simp at h1 h4
    rw [h1, h4]
section
variable {X : Cx} {W : WX} {B : List Nat} {tg iter elt : Expr} {ifs : List Expr} {scope : Scope} {own : List (Str × Nat)} {pos : Pos} {wi : WI} {g : WG} {wt : WT} {we : WE}
theorem lc_sound {J : It} {σ : L2.St} {Z1 F H1 : Hp} {e1 : Env} {P : Pl.PO} {ds : List D} {Q : VK} {K : Fr} {B vs : List Nat} {D : Addr} (hB : ∀ j ∈ B, j ∈ vs) (hl : σ.length = e1.length) (r1 : Rep K Z1 F H1 (zp σ e1)) (it : ItRep K Z1 J ds) (hD : H1 D = none)
    (hf : ∀ i ∈ vs, ∀ m, e1[i]? = some m → m.fp = []) (h1 : lcL g wt we vs ds [] (wipeE e1 vs) (fun acc e2 => ∀ p, P (.lst p acc) (putB e1 e2 vs)))
    (hP : ∀ m e2 Z' H' v, P m e2 → Le Z1 Z' → e2.length = e1.length → Rep K Z' F H' ((some v, m) :: zp σ e2) → Q v H') :
    ∃ W : Nat → Nat → Hp → Prop, (∃ m, W 0 m (upd H1 D (.lst []))) ∧ ∀ i m H, W i m H →
      (J.stop i H ∧ Q (.ref D) H) ∨ (J.go i H ∧ ∃ Nx : Hp → Prop, (∀ H', Nx H' → ∃ m', m' < m ∧ W (i + 1) m' H') ∧ ∀ x H', J.yld i H x H' → RdG K B g x (wipe σ vs) H' fun σ2 H2 => wipe σ2 vs = wipe σ vs ∧ RdT K (fun _ _ _ _ => False) wt σ2 H2 fun b H3 =>
        if b = true then Rd_ K (fun _ _ _ _ => False) we σ2 H3 fun y H4 => ∃ acc, H4 D = some (.lst acc) ∧ acc.length < sizeLine ∧ Nx (upd H4 D (.lst (acc ++ [y]))) else Nx H3) := by
  obtain ⟨G, Y, wk, hG, hY⟩ := it
  have noX : ∀ (σ : L2.St) (F Z : Hp) (n : Nat), XW K (fun _ _ _ _ => False) σ F Z n (fun _ _ _ => False) := fun _ _ _ _ _ _ _ _ _ _ _ z => z.elim
  refine lc_it wk (fun i H' => ∃ Z' e' acc, Le Z1 Z' ∧ e'.length = e1.length ∧ Rep K Z' F H' ((some (.ref D), .lst D acc) :: zp (wipe σ vs) e') ∧ lcL g wt we vs (ds.drop i) acc e' (fun acc e2 => ∀ p, P (.lst p acc) (putB e1 e2 vs))) ?_ ?_ ?_ ?_
  · refine ⟨Z1, wipeE e1 vs, [], Le.refl _, wipeE_length _ _, ?_, by simpa using h1⟩
    have r2 : Rep K Z1 F H1 (zp (wipe σ vs) (wipeE e1 vs)) := Rep.wipe_ (L := []) hl r1
    exact r2.newLst hD (by simp [FzL])
  · rintro i H' _ ⟨Z', e', acc, le', _, r', _⟩
    exact hG Z' H' le' r'.sub
  · rintro i x H2 H3 hi2 ⟨Z2, e2, acc, le2, l2, r2, h2⟩ y
    obtain ⟨d, hd2, Z3, le3, r3⟩ := hY Z2 F H2 _ i x H3 le2 r2 y hi2
    have hdrop : ds.drop i = d :: ds.drop (i + 1) := by
      obtain ⟨q, e⟩ := List.getElem?_eq_some_iff.mp hd2
      rw [List.drop_eq_getElem_cons q, e]
    rw [hdrop] at h2
    simp only [lcL] at h2
    have r3' : Rep K Z3 F H3 ([(some (.ref D), .lst D acc)] ++ ((some x, .frz d) :: zp (wipe σ vs) e2)) := r3.perm (List.Perm.swap ..)
    refine ⟨Z3, hideF F H3 [(some (.ref D), .lst D acc)], e2, _, d, by rw [wipe_length]; omega, r3'.hide, h2, fun e4 σ4 Z4 H4 h4 le4 l4 l5 k4 r4 => ?_⟩
    rw [wipe_length] at l4
    have hwp : wipe σ4 vs = wipe σ vs := by
      refine List.ext_getElem? fun j => ?_
      rw [wipe_get, wipe_get]
      by_cases hj : j ∈ vs
      · rw [if_pos hj, if_pos hj]
        by_cases hlt : j < σ.length
        · rw [List.getElem?_eq_getElem (show j < σ4.length by omega), List.getElem?_eq_getElem hlt]; rfl
        · rw [List.getElem?_eq_none (show σ4.length ≤ j by omega), List.getElem?_eq_none (show σ.length ≤ j by omega)]
      · rw [if_neg hj, if_neg hj, k4 j (fun z => hj (hB j z)), wipe_get, if_neg hj]
    refine ⟨hwp, ?_⟩
    refine ⟨Z4, hideF F H3 [(some (.ref D), .lst D acc)], e4, _, _, by omega, r4, h4, fun b e5 Z5 H5 h5 le5 l5' r5 => ?_, noX _ _ _ _⟩
    cases b with
    | true =>
      rw [if_pos rfl] at h5 ⊢
      refine ⟨Z5, hideF F H3 [(some (.ref D), .lst D acc)], e5, _, _, by omega, r5, h5, fun m e6 Z6 H6 v h6 le6 l6 r6 => ?_, noX _ _ _ _⟩
      obtain ⟨hm, hlen, h6⟩ := h6
      have r7 := r3'.unhide (le4.trans (le5.trans le6)) r6
      obtain ⟨Z7, le7, r8⟩ := Rep.freeze hm (r7.perm (show ([(some (V.ref D), M.lst D acc)] ++ (some v, m) :: zp σ4 e6).Perm ((some v, m) :: (some (V.ref D), M.lst D acc) :: zp σ4 e6) from List.Perm.swap ..))
      have fy := r8.fz
      have r9 := r8.tail
      obtain ⟨_, ws, hD6, fw⟩ := r9.at List.mem_cons_self (by intro z; cases z)
      refine ⟨ws, hD6, by rw [← fw.length]; exact hlen, Z7, wipeE e6 vs, acc ++ [m.toD], ?_, ?_, ?_, h6⟩
      · exact le2.trans (le3.trans (le4.trans (le5.trans (le6.trans le7))))
      · rw [wipeE_length]; omega
      · have r10 := r9.write (a := D) (u := .lst (ws ++ [v])) (w := .ref D) (m' := .lst D (acc ++ [m.toD])) (by simp [M.fp]) (by simp [M.fp]) ⟨rfl, ws ++ [v], upd_same, fw.append (by simp only [FzL]; exact ⟨_, _, rfl, fy, rfl⟩)⟩
        have r11 := Rep.wipe_ (L := [(some (V.ref D), M.lst D (acc ++ [m.toD]))]) (vs := vs) (show σ4.length = e6.length by omega) r10
        rw [hwp] at r11
        exact r11
    | false =>
      rw [if_neg (by decide)] at h5 ⊢
      have r7 := r3'.unhide (le4.trans le5) r5
      refine ⟨Z5, wipeE e5 vs, acc, le2.trans (le3.trans (le4.trans le5)), by rw [wipeE_length]; omega, ?_, h5⟩
      have r11 := Rep.wipe_ (L := [(some (V.ref D), M.lst D acc)]) (vs := vs) (show σ4.length = e5.length by omega) r7
      rw [hwp] at r11
      exact r11
  · rintro H2 ⟨Z2, e2, acc, le2, l2, r2, h2⟩
    rw [List.drop_length] at h2
    have r3 := Rep.unwipe_ (L := [(some (V.ref D), M.lst D acc)]) (show σ.length = e2.length by omega) l2 r1 hf le2 r2
    exact hP _ _ Z2 H2 _ (h2 D) le2 (by rw [putB_length]; omega) r3
end
/-- tests that are none, tests -/
def wTs0 : WT := fun env P _ => P true env
abbrev GTs (X : Cx) (W : WX) (es : List Expr) (w : WT) : Prop := PTs X es (RdT X.K W w)
end Pl

namespace Pl
open PySem PySem.Spec PyProof.Rows L2
open Classical

/-- what all contexts share: the program, the world, the written part of the heap, the module's names, the heap at the start -/
structure Bd where
  P : Program
  w : World
  K : Fr
  mg : Str → Option Value
  base : Heap
/-- a context in which the names N stand in slots, of the written scope sc, with room for k calls; g: no repr is under way -/
structure DB (b : Bd) (g : Bool) (X : Cx) (W : WX) (N : List Str) (sc : Scope) (k : Nat) : Prop extends DC X W N sc k where
  pr : X.prog = b.P
  ww : X.w = b.w
  kk : X.K = b.K
  mm : X.mg = b.mg
  bb : X.base = b.base
  gu : g = true → X.A.guards = some []
abbrev FnB (b : Bd) (k : Nat) (f : Addr) (n : Nat) (φ : Ct) : Prop := FnI b.P b.w b.K b.mg b.base k f n φ
abbrev W0 : WX := fun _ _ _ _ => False

theorem lookup_relabel_keep {env : PySem.Env} : ∀ {names : List (Str × NameKind)} {x : Str} {k : NameKind}, k ≠ .free → names.lookup x = some k →
    (names.map fun (n, k) => if (k == NameKind.free && env.scope.kind == .function && env.kindOf n == some .cell) then (n, NameKind.cell) else (n, k)).lookup x = some k
  | [], _, _, _, h => by simp at h
  | (n, k0) :: r, x, k, hk, h => by
    have ih := @lookup_relabel_keep env r x k hk
    show List.lookup x ((if (k0 == NameKind.free && env.scope.kind == .function && env.kindOf n == some .cell) = true then (n, NameKind.cell) else (n, k0)) :: _) = _
    cases hx : x == n with
    | true =>
      simp only [List.lookup_cons, hx] at h
      cases h
      have : (k0 == NameKind.free) = false := by simpa using hk
      rw [this]
      simp [List.lookup_cons, hx]
    | false =>
      simp only [List.lookup_cons, hx] at h
      by_cases hc : (k0 == NameKind.free && env.scope.kind == .function && env.kindOf n == some .cell) = true
      · rw [if_pos hc]; simp only [List.lookup_cons, hx]; exact ih h
      · rw [if_neg hc]; simp only [List.lookup_cons, hx]; exact ih h
theorem lookup_relabel_free {env : PySem.Env} : ∀ {names : List (Str × NameKind)} {x : Str}, names.lookup x = some .free →
    (names.map fun (n, k) => if (k == NameKind.free && env.scope.kind == .function && env.kindOf n == some .cell) then (n, NameKind.cell) else (n, k)).lookup x = some .free ∨
    (names.map fun (n, k) => if (k == NameKind.free && env.scope.kind == .function && env.kindOf n == some .cell) then (n, NameKind.cell) else (n, k)).lookup x = some .cell
  | [], _, h => by simp at h
  | (n, k0) :: r, x, h => by
    have ih := @lookup_relabel_free env r x
    show List.lookup x ((if (k0 == NameKind.free && env.scope.kind == .function && env.kindOf n == some .cell) = true then (n, NameKind.cell) else (n, k0)) :: _) = _ ∨
      List.lookup x ((if (k0 == NameKind.free && env.scope.kind == .function && env.kindOf n == some .cell) = true then (n, NameKind.cell) else (n, k0)) :: _) = _
    cases hx : x == n with
    | true =>
      simp only [List.lookup_cons, hx] at h
      cases h
      by_cases hc : (NameKind.free == NameKind.free && env.scope.kind == .function && env.kindOf n == some .cell) = true
      · rw [if_pos hc]; simp [List.lookup_cons, hx]
      · rw [if_neg hc]; simp [List.lookup_cons, hx]
    | false =>
      simp only [List.lookup_cons, hx] at h
      by_cases hc : (k0 == NameKind.free && env.scope.kind == .function && env.kindOf n == some .cell) = true
      · rw [if_pos hc]; simp only [List.lookup_cons, hx]; exact ih h
      · rw [if_neg hc]; simp only [List.lookup_cons, hx]; exact ih h
/-- a comprehension's block fits: by what is written -/
def blkB (N : List Str) (sc scope : Scope) (own : List (Str × Nat)) : Bool :=
  decide (scope.kind = .function) && scope.names.all (fun y => decide (scope.names.lookup y.1 = some y.2)) && own.all (fun p => decide (N[p.2]? = some p.1)) &&
  scope.names.all (fun y => !decide (y.2 = .free) || (decide (sc.names.lookup y.1 = some .cell) || decide (sc.names.lookup y.1 = some .free))) &&
  scope.names.all (fun y => !(decide (y.2 = .local) || decide (y.2 = .cell)) || (decide (y.1 ∈ own.map (·.1)) || decide (y.1 ∉ N)))
section
variable {b : Bd} {gd : Bool} {X : Cx} {W : WX} {N : List Str} {sc scope : Scope} {k : Nat} {own : List (Str × Nat)} {B : List Nat} {tg iter elt : Expr} {ifs : List Expr} {pos : Pos} {wi : WI} {g : WG} {wt : WT} {we : WE}
theorem DB.blkOk (c : DB b gd X W N sc k) (h : blkB N sc scope own = true) : BlkOk X.N X.env.scope scope own := by
  unfold blkB at h
  simp only [Bool.and_eq_true, List.all_eq_true, decide_eq_true_eq, Bool.or_eq_true, Bool.not_eq_true', decide_eq_false_iff_not] at h
  obtain ⟨⟨⟨⟨h1, h2⟩, h3⟩, h4⟩, h5⟩ := h
  refine ⟨h1, h2, fun p hp => by rw [c.eN]; exact h3 p hp, fun y hy e => ?_, fun y hy e => ?_⟩
  · rcases h4 y hy with z | z | z
    · exact absurd e z
    · exact .inl (c.cel _ z)
    · exact (c.fre _ z).symm
  · rcases h5 y hy with z | z | z
    · rcases e with e | e <;> (rw [e] at z; cases z)
    · exact .inl z
    · exact .inr (by rw [c.eN]; exact z)
theorem DB.blk (c : DB b gd X W N sc k) (hk : scope.kind = .function) (s : Shared) (H : Hp) (C : Addr) (cl : List (Str × Addr)) (fp : List Addr) : DB b gd (X.blk s H scope (compEnvC scope cl C X.env) fp) W0 N scope k where
  eN := c.eN
  nd := c.nd
  calm := c.calm
  room := c.room
  tk := fun u s' ⟨_, _, _, _, _, _, _, _, _, _, _, _, _, _, _, _, w⟩ => w
  pass := PassesOwn.never
  loc := fun x h => lookup_relabel_keep (by intro z; cases z) h
  cel := fun x h => lookup_relabel_keep (by intro z; cases z) h
  fre := fun x h => lookup_relabel_free h
  glo := fun x h => lookup_relabel_keep (by intro z; cases z) h
  kd := hk
  fn := fun x h => by show (scope.names.lookup x == some .cell) = true; rw [h]; rfl
  pr := c.pr
  ww := c.ww
  kk := c.kk
  mm := c.mm
  bb := c.bb
  gu := c.gu
theorem gts_nil : GTs X W [] wTs0 := by
  refine ⟨fun pins s σ H Q I h => pts_nil.run pins s σ H Q I ?_⟩
  obtain ⟨Z, F, env, P, E, hl, r, hw, hP, hE⟩ := h
  exact hP _ _ Z H hw (Le.refl _) rfl r
theorem gts_one {c : Expr} {w : WT} (h : GT X W c w) : GTs X W [c] w := pts_one h
/-- [e for t in i if c] -/
theorem g_lc (c : DB b gd X W N sc k) (own : List (Str × Nat)) (B : List Nat) (hi : GI X W tg iter wi) (hc : ∀ X', DB b gd X' W0 N scope k → GG X' B tg g ∧ GTs X' W0 ifs wt ∧ GE X' W0 elt we)
    (ok : blkB N sc scope own = true := by decide +kernel) (hB : (B.all fun j => decide (j ∈ own.map (·.2))) = true := by decide) (hs : ∀ x, foldedSetIterable iter X.env x = pure x := by intro _; rfl) :
    GE X W (.ListComp elt [⟨tg, iter, ifs, 0⟩] scope pos) (wLc wi g wt we (own.map (·.2))) := by
  refine (pe_lc (g := RdG X.K B g) (tt := RdT X.K W0 wt) (te := Rd_ X.K W0 we) c.calm c.ndX hi (c.blkOk ok) (fun s H C cl fp => (hc _ (c.blk (c.blkOk ok).kind s H C cl fp)).1) (fun s H C cl fp => (hc _ (c.blk (c.blkOk ok).kind s H C cl fp)).2.1) (fun s H C cl fp => (hc _ (c.blk (c.blkOk ok).kind s H C cl fp)).2.2) hs).imp fun σ H Q ⟨Z, F, env, P, E, hl, r, hw, hP, hE⟩ => ?_
  refine ⟨Z, F, env, _, E, hl, r, hw, fun ds e1 Z1 H1 J h1 le1 l1 r1 it => fun D hD => ?_, hE⟩
  refine lc_sound (B := B) (fun j hj => ?_) (by omega) r1 it hD h1.1 h1.2 fun m e2 Z' H' v h le l r' => hP m e2 Z' H' v h (le1.trans le) (by omega) r'
  have := List.all_eq_true.mp hB j hj
  simpa using this
/-- x = [e for t in i if c] -/
theorem gs_setLc (c : DB b gd X W N sc k) {np : Nat × Nat} (i : Nat) {y : Str} {py spos : Pos} (own : List (Str × Nat)) (B : List Nat) (hi : GI X W tg iter wi) (hc : ∀ X', DB b gd X' W0 N scope k → GG X' B tg g ∧ GTs X' W0 ifs wt ∧ GE X' W0 elt we)
    (hy : (decide (N[i]? = some y) && decide (sc.names.lookup y = some .local) && decide (np.1 ≤ i) && decide (i < np.2)) = true := by decide +kernel)
    (hl : (py.line == pos.line) = true := by rfl) (hn : (scope.names.any fun (n, k) => n == y && (k == .local || k == .cell)) = false := by rfl) 
    (ok : blkB N sc scope own = true := by decide +kernel) (hB : (B.all fun j => decide (j ∈ own.map (·.2))) = true := by decide) (hs : ∀ x, foldedSetIterable iter X.env x = pure x := by intro _; rfl) :
    GS X W np (.Assign [.Name y py] (.ListComp elt [⟨tg, iter, ifs, 0⟩] scope pos) spos) (wAsg i (wLc wi g wt we (own.map (·.2)))) := by
  simp only [Bool.and_eq_true, decide_eq_true_eq] at hy
  obtain ⟨⟨⟨y1, y2⟩, y3⟩, y4⟩ := hy
  have yl := c.loc _ y2
  refine (ps_setLc (g := RdG X.K B g) (tt := RdT X.K W0 wt) (te := Rd_ X.K W0 we) (i := i) c.calm c.ndX (by rw [c.eN]; exact y1) yl (sw_true c.kd yl hl hn) hi (c.blkOk ok) (fun s H C cl fp => (hc _ (c.blk (c.blkOk ok).kind s H C cl fp)).1) (fun s H C cl fp => (hc _ (c.blk (c.blkOk ok).kind s H C cl fp)).2.1) (fun s H C cl fp => (hc _ (c.blk (c.blkOk ok).kind s H C cl fp)).2.2) hs).imp fun D σ H ⟨Z, F, env, pv, P, E, hn, hl, hp, r, hw, hd, hE⟩ => ?_
  refine ⟨Z, F, env, _, E, hl, r, hw, fun ds e1 Z1 H1 J h1 le1 l1 r1 it => fun D' hD => ?_, hE.xw hl hp⟩
  refine lc_sound (P := fun m e => P.nx (e.set i m)) (Q := fun x H1 => gName i x σ H1 D.nx) (B := B) (fun j hj => ?_) (by omega) r1 it hD h1.1 h1.2 fun m e2 Z' H' v h le l r' => ?_
  · have := List.all_eq_true.mp hB j hj
    simpa using this
  · have hi2 : i < e2.length := by rw [l, l1, hn.2]; exact y4
    exact hd.nx _ _ Z' H' h (le1.trans le) (by simp; omega) (by simp; omega) (hp.set (by omega)) (zp_set (by omega) hi2 r')
end
end Pl

namespace Pl
open PySem PySem.Spec PyProof.Rows L2
open Classical

/-! ### defs that run while no repr is under way -/
/-- a def's promise, where no repr is under way -/
structure FnQ (b : Bd) (k : Nat) (f : Addr) (fd : FuncData) (ps : List Str) (sp : Sp) : Prop where
  len : ∀ vs H Q E, sp vs H Q E → vs.length = ps.length
  run : ∀ (A : Around) (outer : List PySem.Env) (s : Shared) (H : Hp) (args : Args) (us : List Value) (vs : List V) (Q : VK) (E : XK), A.guards = some [] → Room k A → Env0 b.P b.w b.K b.mg b.base A outer s H → BindsTo s fd args (ps.zip us) → Vals vs us → sp vs H Q E →
    codeAny (model b.P b.w) A (.call (.ref f) args) (CR (L2.CX b.P b.w) outer b.P b.w H s Q E) s
structure FnG (b : Bd) (k : Nat) (f : Addr) (n : Nat) (φ : Ct) : Prop where
  ex : ∃ fd ps, ps.length = n ∧ FnQ b k f fd ps (spOf b.K n φ) ∧ Binds b.K fd ps []
  kp : PySem.W.keepIn b.K (.ref f) = true
theorem FnG.mono {b : Bd} {j k : Nat} {f : Addr} {n : Nat} {φ : Ct} (F : FnG b j f n φ) (h : j ≤ k) : FnG b k f n φ := by
  obtain ⟨fd, ps, h1, h2, h3⟩ := F.ex
  exact ⟨⟨fd, ps, h1, ⟨h2.len, fun A o s H ar us vs Q E g hr => h2.run A o s H ar us vs Q E g (hr.mono h)⟩, h3⟩, F.kp⟩
/-- from the body of a def to its promise -/
theorem fnQ_of {b : Bd} {x qual : Str} {params : Arguments} {body : List Stmt} {scope : Scope} {f : Addr} {fd : FuncData} {N ps : List Str} {k : Nat} {sp : Sp} (F : FunD b.K x qual params body scope [] [] f fd) (S : FnScope N ps scope) (len : ∀ vs H Q E, sp vs H Q E → vs.length = ps.length)
    (hbody : ∀ (cdv : Value) (A : Around) (outer : List PySem.Env) (s : Shared) (H : Hp) (vs : List V) (Q : VK) (E : XK), A.guards = some [] → Room k (A.deeper (envOfC qual scope s.heap.objs.size f cdv)) → sp vs H Q E →
      ∃ t, PSs (cxOf (L2.CX b.P b.w) b.P b.w b.K b.mg b.base N qual scope f cdv A outer s H E) body t ∧ t { nx := fun _ H' => Q .non H', rt := Q } (L2.start N vs) H) : FnQ b (k + 1) f fd ps sp := by
  obtain ⟨oc, od, dV, kV, doc, pm, an, cdv, ct, osl, rfl, lk, hcd, _, _⟩ := F.ex
  refine ⟨len, fun A outer s H args us vs Q E g hr e0 hb r hsp => ?_⟩
  have hl := len _ _ _ _ hsp
  have kin : b.K.In s.heap := e0.mod.kin.keeps fun a o e => (e0.bs a o e).1
  have kinds : ∀ y ∈ ps.zip us, scope.names.lookup y.1 = some .local ∨ (scope.names.lookup y.1 = some .cell ∧ ((cellsFrom (s.heap.objs.size + 1) scope.names []).lookup y.1).isSome = true) := fun y hy =>
    (S.par y.1 (List.of_mem_zip (show (y.1, y.2) ∈ ps.zip us from hy)).1).elim .inl fun q => .inr ⟨q, PySem.W.cellsFrom_some _ _ _ (.inl q)⟩
  refine codeAny_call_function hr.depth (kin _ _ lk) rfl S.co S.gen rfl (PySem.W.codeRec_of kin hcd) (hb _ _ _ _ (wpAny_newFunctionEnv_cells S.kind kinds fun env he s1 x => ?_))
  subst he
  refine ⟨(e0.mod.nolimit.keeps fun a o e => (e0.bs a o e).1).keeps x.toInCall.keep, codeAny_func ?_⟩
  obtain ⟨t, ht, hq⟩ := hbody cdv A outer s H vs Q E g (hr.deeper _) hsp
  refine wpAny_mono (ht.run [] s1 (L2.start N vs) H _ (inv_start S hr.hd e0 hl r x) hq) (fun fl s' hs => ?_) fun e s' hs => hs
  cases fl with
  | ret u => obtain ⟨v, σ', H', J, rv, q⟩ := hs; exact ⟨v, H', J.os, J.bare, J.base, J.hok, rv, q⟩
  | next => obtain ⟨σ', H', J, q⟩ := hs; exact ⟨V.non, H', J.os, J.bare, J.base, J.hok, rfl, q⟩
  | brk => exact hs.elim fun _ h => h.elim fun _ h => h.2.elim
  | cont => exact hs.elim fun _ h => h.elim fun _ h => h.2.elim
/-- what the contract of a def asks of its body -/
theorem body_end {b : Bd} {X : Cx} {W : WX} {gd : Bool} {N : List Str} {sc : Scope} {k n np : Nat} {body : List Stmt} {wb : WS} {φ : Ct} {vs : List V} {H : Hp} {Q : VK} {E : XK} (c : DB b gd X W N sc k) (hW : ∀ c d σ H, W c d σ H = E c d H)
    (hnp : np ≤ n) (hnN : n ≤ N.length) (hbody : GSs X W (np, N.length) body wb)
    (hφ : ∀ ms Q Ex, φ ms Q Ex → ms.length = n ∧ wb (ms ++ List.replicate (N.length - n) .un) { nx := fun e => Q (.frz .non) (padM e np n), rt := fun r e => Q r (padM e np n) } (fun c d _ => Ex c d)) (h : spOf b.K n φ vs H Q E) :
    RdS X.K W (np, N.length) wb { nx := fun _ H' => Q .non H', rt := Q } (L2.start N vs) H := by
  have ek := c.kk
  obtain ⟨Z, F', ms, P', Ex, h1, h2, h3, h4, h5, h6⟩ := h
  rw [← ek] at h3
  obtain ⟨h7, h8⟩ := hφ ms P' Ex h4
  refine ⟨Z, F', _, vs.take np, _, _, ⟨by simp; omega, by simp; omega⟩, by simp [L2.start]; omega, ?_, start_zp h3 (by omega), by rw [h1]; exact h8, ⟨fun env' σ' Z' H' a b' c' d p r => ?_, fun m env' σ' Z' H' v a b' c' d p r => ?_, fun _ _ _ _ z => False.elim z, fun _ _ _ _ z => False.elim z⟩, fun c' d env' σ' Z' H' dx y a b' l1 l2 p r g1 g2 => ?_⟩
  · unfold Pin L2.start
    have : (vs.take np).length = np := by simp; omega
    rw [this, List.take_append_of_le_length (by simp; omega), ← List.map_take]
  · have hl : env'.length = N.length := by rw [d]; simp; omega
    have r2 : Rep X.K Z' F' H' ([] ++ zpA vs (padM env' np n)) := end_zp (L := []) r (by omega) h1 hnp (by omega) p
    rw [ek] at r2
    exact h5 _ _ Z' H' .non a b' (by unfold padM; simp; omega) (Rep.frz r2 (fzN _ _))
  · have hl : env'.length = N.length := by rw [d]; simp; omega
    have r2 : Rep X.K Z' F' H' ([(some v, m)] ++ zpA vs (padM env' np n)) := end_zp (L := [(some v, m)]) r (by omega) h1 hnp (by omega) p
    rw [ek] at r2
    exact h5 _ _ Z' H' v a b' (by unfold padM; simp; omega) r2
  · have r1 : Rep X.K Z' F' H' (zp σ' env' ++ []) := by rw [List.append_nil]; exact r
    rw [hW, ek]
    have r3 := r1.right
    rw [ek] at r3 g2
    exact h6 c' d Z' H' dx y a b' r3 g1 g2
/-- a def keeps its contract -/
theorem fn_b {b : Bd} {x qual : Str} {params : Arguments} {body : List Stmt} {scope : Scope} {f : Addr} {fd : FuncData} {N ps : List Str} {k n np : Nat} {φ : Ct} {wb : WS}
    (F : FunD b.K x qual params body scope [] [] f fd) (S : FnScope N ps scope) (hn : ps.length = n) (hnp : np ≤ n) (hb : Binds b.K fd ps [])
    (hbody : ∀ X W, DB b false X W N scope k → GSs X W (np, N.length) body wb)
    (hφ : ∀ ms Q Ex, φ ms Q Ex → ms.length = n ∧ wb (ms ++ List.replicate (N.length - n) .un) { nx := fun e => Q (.frz .non) (padM e np n), rt := fun r e => Q r (padM e np n) } (fun c d _ => Ex c d)) : FnB b (k + 1) f n φ := by
  refine ⟨⟨fd, ps, hn, F.ok S (fun vs H Q E h => (spOf_len h).trans hn.symm) (fun cdv A outer s H vs Q E hr h => ?_), hb⟩, F.kp⟩
  have hpl : ps.length ≤ N.length := by have := congrArg List.length S.pre; rw [List.length_take] at this; omega
  have c : DB b false (cxOf (L2.CX b.P b.w) b.P b.w b.K b.mg b.base N qual scope f cdv A outer s H E) (fun cls d _ H => E cls d H) N scope k :=
    ⟨⟨rfl, S.nd, rfl, hr, takes_of rfl rfl rfl rfl, passes_of rfl, fun _ h => h, fun _ h => h, fun _ h => .inl h, fun _ h => h, fun _ _ => rfl, S.kind⟩, rfl, rfl, rfl, rfl, rfl, (fun z => by cases z)⟩
  exact ⟨_, hbody _ _ c, body_end c (fun _ _ _ _ => rfl) hnp (by omega) (hbody _ _ c) hφ h⟩
theorem fn_g {b : Bd} {x qual : Str} {params : Arguments} {body : List Stmt} {scope : Scope} {f : Addr} {fd : FuncData} {N ps : List Str} {k n np : Nat} {φ : Ct} {wb : WS}
    (F : FunD b.K x qual params body scope [] [] f fd) (S : FnScope N ps scope) (hn : ps.length = n) (hnp : np ≤ n) (hb : Binds b.K fd ps [])
    (hbody : ∀ X W, DB b true X W N scope k → GSs X W (np, N.length) body wb)
    (hφ : ∀ ms Q Ex, φ ms Q Ex → ms.length = n ∧ wb (ms ++ List.replicate (N.length - n) .un) { nx := fun e => Q (.frz .non) (padM e np n), rt := fun r e => Q r (padM e np n) } (fun c d _ => Ex c d)) : FnG b (k + 1) f n φ := by
  refine ⟨⟨fd, ps, hn, fnQ_of F S (fun vs H Q E h => (spOf_len h).trans hn.symm) (fun cdv A outer s H vs Q E g hr h => ?_), hb⟩, F.kp⟩
  have hpl : ps.length ≤ N.length := by have := congrArg List.length S.pre; rw [List.length_take] at this; omega
  have c : DB b true (cxOf (L2.CX b.P b.w) b.P b.w b.K b.mg b.base N qual scope f cdv A outer s H E) (fun cls d _ H => E cls d H) N scope k :=
    ⟨⟨rfl, S.nd, rfl, hr, takes_of rfl rfl rfl rfl, passes_of rfl, fun _ h => h, fun _ h => h, fun _ h => .inl h, fun _ h => h, fun _ _ => rfl, S.kind⟩, rfl, rfl, rfl, rfl, rfl, fun _ => g⟩
  exact ⟨_, hbody _ _ c, body_end c (fun _ _ _ _ => rfl) hnp (by omega) (hbody _ _ c) hφ h⟩

/-! ### calls -/
section
variable {b : Bd} {X : Cx} {W : WX} {N : List Str} {sc : Scope} {k j n : Nat} {gd : Bool} {f : Addr} {φ : Ct} {e : Expr} {es : List Expr} {pos : Pos}
theorem DB.fn_of (c : DB b gd X W N sc k) (F : FnB b j f n φ) (h : j ≤ k) : FnI X.prog X.w X.K X.mg X.base k f n φ := by
  have F' := FnI.mono F h
  unfold FnB at F'
  rw [← c.pr, ← c.ww, ← c.kk, ← c.mm, ← c.bb] at F'
  exact F'
/-- f(e, ..) -/
theorem e_call (c : DB b gd X W N sc k) {x : Str} {p : Pos} {wa : WA} (F : FnB b j f n φ) (hm : b.mg x = some (.ref f)) (ha : GA X W (e :: es) wa) (hj : j ≤ k := by decide) (hg : glB sc x = true := by decide +kernel) (hdb : (x == ("__debug__" : Str)) = false := by decide)
    (he : starEach (e :: es) X.env = (false, eval e X.env) :: starEach es X.env := by rfl) (hpl : (backTo pos (starEach es X.env)).any (·.1) = false := by rfl) : GE X W (.Call (.Name x p) (e :: es) [] pos) (wCall n φ wa) :=
  g_call (c.fn_of F hj) c.tk c.room (c.gl hg) (by rw [c.mm]; exact hm) ha hdb he hpl
theorem e_call0 (c : DB b gd X W N sc k) {x : Str} {p : Pos} (F : FnB b j f 0 φ) (hm : b.mg x = some (.ref f)) (hj : j ≤ k := by decide) (hg : glB sc x = true := by decide +kernel) (hdb : (x == ("__debug__" : Str)) = false := by decide) : GE X W (.Call (.Name x p) [] [] pos) (wCall 0 φ wNil) :=
  g_call0 (c.fn_of F hj) c.tk c.room (c.gl hg) (by rw [c.mm]; exact hm) hdb
theorem run_fnQ {fd : FuncData} {ps : List Str} {sp : Sp} {pins : List (Addr × Obj)} {σ : L2.St} {H : Hp} {s : Shared} {Q : VK} {us : List Value} {vs : List V} (c : DB b true X W N sc k) (F : FnQ b k f fd ps sp) (hb : Binds b.K fd ps [])
    (I : Inv X pins σ H s) (r : Vals vs us) (h : sp vs H Q (fun c d H' => W c d σ H')) : wpAny (model X.prog X.w) X.A (PySem.call (.ref f) us) (EP X pins σ Q) X.xe s := by
  have hl : us.length = ps.length := by rw [← r.length]; exact F.len _ _ _ _ h
  have kin : b.K.In s.heap := by rw [← c.kk]; exact I.kIn
  have hbs := hb s us kin (by rw [List.append_nil]; exact hl)
  rw [List.append_nil] at hbs
  have e0 : Env0 b.P b.w b.K b.mg b.base X.A X.stack s H := by rw [← c.pr, ← c.ww, ← c.kk, ← c.mm, ← c.bb]; exact I.env0
  have key := F.run X.A X.stack s H ⟨us, []⟩ us vs Q _ (c.gu rfl) c.room e0 hbs r h
  rw [← c.pr, ← c.ww] at key
  refine wpAny_call (codeAny_mono key fun r s' hq => ?_)
  cases r with
  | error e => exact c.tk _ _ (XE.of_call I (fun _ _ _ e => e) hq)
  | ok fl =>
    cases fl with
    | ret u => exact I.after hq
    | next => exact False.elim hq
    | brk => exact False.elim hq
    | cont => exact False.elim hq
theorem e_callG (c : DB b true X W N sc k) {x : Str} {p : Pos} {wa : WA} (F : FnG b j f n φ) (hm : b.mg x = some (.ref f)) (ha : GA X W (e :: es) wa) (hj : j ≤ k := by decide) (hg : glB sc x = true := by decide +kernel) (hdb : (x == ("__debug__" : Str)) = false := by decide)
    (he : starEach (e :: es) X.env = (false, eval e X.env) :: starEach es X.env := by rfl) (hpl : (backTo pos (starEach es X.env)).any (·.1) = false := by rfl) : GE X W (.Call (.Name x p) (e :: es) [] pos) (wCall n φ wa) := by
  obtain ⟨fd, ps, hn, G, hb⟩ := (F.mono hj).ex
  refine ⟨fun pins s σ H Q I h => ?_⟩
  refine wpAny_Call_Name_kw (ld_glob I (c.gl hg) (show X.mg x = some (.ref f) by rw [c.mm]; exact hm) ?_ hdb)
  refine PySem.W.callWith_K (h₀ := X.base) I.ok.mod.kin (by rw [c.kk]; exact F.kp) (thn (ha.run pos pins s σ H (fun vs H1 => spOf X.K n φ vs H1 Q (fun c d H' => W c d σ H')) I ?_) fun us s1 ⟨vs, H1, I1, r, q⟩ => ⟨I1.kIn, ?_⟩) he hpl
  · obtain ⟨Z, F, env, P, E, hl, r, hw, hP, hE⟩ := h
    refine ⟨Z, F, env, _, E, hl, r, hw, fun os e1 Z1 H1 vs h1 le1 l1 r1 q1 => ?_, hE⟩
    obtain ⟨h0, ms, e2, h2, h3⟩ := h1
    exact call_sp (by omega) r1 q1 h2 h3 h0 (fun r env' Z' H' v hp le hl' r' => hP r env' Z' H' v hp (le1.trans le) (by omega) r') (by rw [l1]; exact hE.mono le1)
  · rw [c.kk] at q
    exact run_fnQ c G hb I1 r q
end
end Pl

namespace Pl
open PySem PySem.Spec PyProof.Rows L2
open Classical

/-! ### built-in functions -/
def gLen : GN
  | [.lst xs], P => P (.frz (.int xs.length))
  | [.tup xs], P => P (.frz (.int xs.length))
  | [.scr xs], P => P (.frz (.int xs.length))
  | [.str z], P => z.length ≤ sizeLine ∧ P (.frz (.int z.length))
  | [.dic _ kvs], P => P (.frz (.int kvs.length))
  | _, _ => False
def gAbs : GN
  | [.int i], P => P (.frz (.int (if i < 0 then -i else i)))
  | _, _ => False
def gInt : GN
  | [.int i], P => P (.frz (.int i))
  | [.bl k], P => P (.frz (.int (if k then 1 else 0)))
  | _, _ => False
def gMax2 : GN
  | [.int i, .int j], P => P (.frz (.int (if j > i then j else i)))
  | _, _ => False
def gMin2 : GN
  | [.int i, .int j], P => P (.frz (.int (if j < i then j else i)))
  | _, _ => False
/-- a list of truth values -/
def blsOf : List D → Option (List Bool)
  | [] => some []
  | .bl b :: r => (blsOf r).map (b :: ·)
  | _ => none
def gAll : GN
  | [.lst xs], P => ∃ bs, blsOf xs = some bs ∧ P (.frz (.bl (bs.all id)))
  | _, _ => False
def gAny : GN
  | [.lst xs], P => ∃ bs, blsOf xs = some bs ∧ P (.frz (.bl (bs.any id)))
  | _, _ => False
def gList : GN
  | [.lst xs], P => ∀ p, P (.lst p xs)
  | [.tup xs], P => ∀ p, P (.lst p xs)
  | [.scr ns], P => ∀ p, P (.lst p (ns.map .int))
  | _, _ => False
def gTuple : GN
  | [.lst xs], P => P (.frz (.tup xs))
  | [.tup xs], P => P (.frz (.tup xs))
  | [.scr ns], P => P (.frz (.tup (ns.map .int)))
  | _, _ => False
def gStrF : GN
  | [.int i], P => i.natAbs.log2 < 1920 ∧ P (.frz (.str (toString i)))
  | [.str x], P => P (.frz (.str x))
  | _, _ => False
section
variable {X : Cx}
theorem acc1 {K : Fr} {Z H : Hp} {d : D} {xs : List V} (h : AccL K Z H [d] xs) : ∃ x, xs = [x] ∧ Acc K Z H d x := by
  obtain ⟨v, t, rfl, h1, rfl⟩ := h
  exact ⟨v, rfl, h1⟩
theorem acc2 {K : Fr} {Z H : Hp} {d e : D} {xs : List V} (h : AccL K Z H [d, e] xs) : ∃ x y, xs = [x, y] ∧ Acc K Z H d x ∧ Acc K Z H e y := by
  obtain ⟨v, t, rfl, h1, v2, t2, rfl, h2, rfl⟩ := h
  exact ⟨v, v2, rfl, h1, h2⟩
theorem acc_int {K : Fr} {Z H : Hp} {i : Int} {x : V} (h : Acc K Z H (.int i) x) : x = .int i := by simpa only [Acc, Fz] using h
theorem acc_bl {K : Fr} {Z H : Hp} {i : Bool} {x : V} (h : Acc K Z H (.bl i) x) : x = .bl i := by simpa only [Acc, Fz] using h
theorem acc_str {K : Fr} {Z H : Hp} {i : Str} {x : V} (h : Acc K Z H (.str i) x) : x = .str i := by simpa only [Acc, Fz] using h
/-- a sequence that may be read: a list or a tuple -/
theorem acc_seq {K : Fr} {Z H : Hp} {d : D} {ds : List D} {x : V} (s : Sub Z H) (h : Acc K Z H d x) (e : d = .lst ds ∨ d = .tup ds ∨ ∃ ns, d = .scr ns ∧ ds = ns.map .int) :
    ∃ a vs, x = .ref a ∧ FzL K Z ds vs ∧ ((d = .tup ds ∧ SqT K H a vs ∧ Z a = some (.tup vs)) ∨ (d ≠ .tup ds ∧ SqL K H a vs)) := by
  rcases e with rfl | rfl | ⟨ns, rfl, rfl⟩
  · obtain ⟨a, vs, rfl, h1, h2⟩ := h
    exact ⟨a, vs, rfl, h2, .inr ⟨by simp, .inl (.inl h1)⟩⟩
  · have h' : Fz K Z (.tup ds) x := h
    simp only [Fz] at h'
    obtain ⟨a, vs, rfl, h1, h2⟩ := h'
    exact ⟨a, vs, rfl, h2, .inl ⟨rfl, .inl (.inl (s.ex h1 rfl)), h1⟩⟩
  · obtain ⟨a, rfl, h1⟩ := h
    exact ⟨a, _, rfl, FzL_int _ _ _, .inr ⟨by simp, h1⟩⟩
theorem call_lenR : CallR X (.builtin "len") (fun xs H Q => ∃ a, xs = [V.ref a] ∧ ((∃ kvs : List (Key × V), Rd H a (.dK kvs) ∧ Q (.int kvs.length) H) ∨ ∃ kvs : List (List Key × V), Rd H a (.dT kvs) ∧ Q (.int kvs.length) H)) := by
  intro pins s σ H xs us Q I r h
  obtain ⟨a, rfl, h⟩ := h
  obtain ⟨u, rfl, ru⟩ := vals1 r
  obtain rfl : u = .ref a := ru
  rcases h with ⟨kvs, ha, q⟩ | ⟨kvs, ha, q⟩
  · exact d_len I ha fun t s' I' => ⟨.int kvs.length, H, I', ⟨t, rfl⟩, q⟩
  · obtain ⟨z, hd, ys, rel, dd⟩ := dt_rd I.hok ha
    have hl : kvs.length = ys.length := Paired.length rel
    refine call_len_dictH hd dd (by rw [← hl]; rw [sizeLine_eq] at z; omega) ?_
    rw [← hl]
    exact ⟨.int ((kvs.length : Nat) : Int), H, I.tok _, ⟨_, rfl⟩, q⟩
theorem o_len : OpN X (.builtin "len") gLen := by
  intro Z H xs ds P Q s ha hg hr
  unfold gLen at hg
  split at hg
  all_goals try exact hg.elim
  · obtain ⟨x, rfl, h⟩ := acc1 ha
    obtain ⟨a, vs, rfl, f, q⟩ := acc_seq s h (.inl rfl)
    rcases q with ⟨q, _⟩ | ⟨_, q⟩
    · cases q
    · exact ⟨_, call_len, _, _, rfl, .inl ⟨vs, q, rfl⟩, hr.val hg (by rw [f.length]; exact fzI _ _ _)⟩
  · obtain ⟨x, rfl, h⟩ := acc1 ha
    obtain ⟨a, vs, rfl, f, q⟩ := acc_seq s h (.inr (.inl rfl))
    rcases q with ⟨_, q, _⟩ | ⟨q, _⟩
    · exact ⟨_, call_len, _, _, rfl, .inr ⟨vs, q, rfl⟩, hr.val hg (by rw [f.length]; exact fzI _ _ _)⟩
    · exact absurd rfl q
  · rename_i ns P
    obtain ⟨x, rfl, h⟩ := acc1 ha
    obtain ⟨a, rfl, q⟩ := h
    exact ⟨_, call_len, _, _, rfl, .inl ⟨_, q, rfl⟩, hr.val hg (by rw [List.length_map]; exact fzI _ _ _)⟩
  · obtain ⟨x, rfl, h⟩ := acc1 ha
    rw [acc_str h]
    exact ⟨_, call_len, _, _, rfl, ⟨hg.1, rfl⟩, hr.val hg.2 (fzI _ _ _)⟩
  · rename_i P t kvs
    obtain ⟨x, rfl, h⟩ := acc1 ha
    cases t with
    | false =>
      obtain ⟨a, ks, rfl, q, f⟩ := h
      have hl := (FzK_iff.mp f).len
      exact ⟨_, call_lenR, a, rfl, .inl ⟨ks, q, hr.val hg (by rw [hl]; exact fzI _ _ _)⟩⟩
    | true =>
      obtain ⟨a, ks, rfl, q, f⟩ := h
      have hl := (FzT_iff.mp f).len
      exact ⟨_, call_lenR, a, rfl, .inr ⟨ks, q, hr.val hg (by rw [hl]; exact fzI _ _ _)⟩⟩
theorem o_abs : OpN X (.builtin "abs") gAbs := by
  intro Z H xs ds P Q s ha hg hr
  unfold gAbs at hg
  split at hg
  · obtain ⟨x, rfl, h⟩ := acc1 ha
    rw [acc_int h]
    exact ⟨_, call_abs, _, rfl, hr.val hg (fzI _ _ _)⟩
  · exact hg.elim
theorem o_int1 : OpN X (.type "int") gInt := by
  intro Z H xs ds P Q s ha hg hr
  unfold gInt at hg
  split at hg
  · obtain ⟨x, rfl, h⟩ := acc1 ha
    rw [acc_int h]
    exact ⟨_, call_int1, .inl ⟨_, rfl, hr.val hg (fzI _ _ _)⟩⟩
  · obtain ⟨x, rfl, h⟩ := acc1 ha
    rw [acc_bl h]
    exact ⟨_, call_int1, .inr ⟨_, rfl, hr.val hg (fzI _ _ _)⟩⟩
  · exact hg.elim
theorem o_max2 (hc : X.calm = true) : OpN X (.builtin "max") gMax2 := by
  intro Z H xs ds P Q s ha hg hr
  unfold gMax2 at hg
  split at hg
  · obtain ⟨x, y, rfl, h, h2⟩ := acc2 ha
    rw [acc_int h, acc_int h2]
    exact ⟨_, call_max2 hc, _, _, rfl, hr.val hg (fzI _ _ _)⟩
  · exact hg.elim
theorem o_min2 (hc : X.calm = true) : OpN X (.builtin "min") gMin2 := by
  intro Z H xs ds P Q s ha hg hr
  unfold gMin2 at hg
  split at hg
  · obtain ⟨x, y, rfl, h, h2⟩ := acc2 ha
    rw [acc_int h, acc_int h2]
    exact ⟨_, call_min2 hc, _, _, rfl, hr.val hg (fzI _ _ _)⟩
  · exact hg.elim
theorem bls_fz {K : Fr} {Z : Hp} : ∀ {xs : List D} {bs : List Bool} {vs : List V}, blsOf xs = some bs → FzL K Z xs vs → vs = bs.map V.bl
  | [], bs, vs, h, f => by
    simp only [blsOf, Option.some.injEq] at h
    subst h
    simp only [FzL] at f
    subst f
    rfl
  | d :: r, bs, vs, h, f => by
    simp only [FzL] at f
    obtain ⟨v, t, rfl, f1, f2⟩ := f
    cases d <;> simp only [blsOf, Option.map_eq_some_iff] at h <;> try (cases h; done)
    obtain ⟨cs, h1, rfl⟩ := h
    rename_i b0
    have e : v = .bl b0 := by simpa only [Fz] using f1
    rw [e, bls_fz h1 f2, List.map_cons]
theorem o_all (hc : X.calm = true) : OpN X (.builtin "all") gAll := by
  intro Z H xs ds P Q s ha hg hr
  unfold gAll at hg
  split at hg
  · obtain ⟨x, rfl, h⟩ := acc1 ha
    obtain ⟨bs, h1, h2⟩ := hg
    obtain ⟨a, vs, rfl, q, f⟩ := h
    rw [bls_fz h1 f] at q
    exact ⟨_, cr_all hc, a, bs, rfl, .inl (.inl q), hr.val h2 (fzB _ _ _)⟩
  · exact hg.elim
theorem o_any (hc : X.calm = true) : OpN X (.builtin "any") gAny := by
  intro Z H xs ds P Q s ha hg hr
  unfold gAny at hg
  split at hg
  · obtain ⟨x, rfl, h⟩ := acc1 ha
    obtain ⟨bs, h1, h2⟩ := hg
    obtain ⟨a, vs, rfl, q, f⟩ := h
    rw [bls_fz h1 f] at q
    exact ⟨_, cr_any hc, a, bs, rfl, .inl (.inl q), hr.val h2 (fzB _ _ _)⟩
  · exact hg.elim
theorem o_list : OpN X (.type "list") gList := by
  intro Z H xs ds P Q s ha hg hr
  unfold gList at hg
  split at hg
  all_goals try exact hg.elim
  · obtain ⟨x, rfl, h⟩ := acc1 ha
    obtain ⟨a, vs, rfl, q, f⟩ := h
    exact ⟨_, call_list_of, a, vs, rfl, .inl (.inl (.inl q)), fun l hl => hr.newLst hg f l hl⟩
  · obtain ⟨x, rfl, h⟩ := acc1 ha
    obtain ⟨a, vs, rfl, f, q⟩ := acc_seq s h (.inr (.inl rfl))
    rcases q with ⟨_, q, _⟩ | ⟨q, _⟩
    · exact ⟨_, call_list_of, a, vs, rfl, .inr q, fun l hl => hr.newLst hg f l hl⟩
    · exact absurd rfl q
  · obtain ⟨x, rfl, h⟩ := acc1 ha
    obtain ⟨a, rfl, q⟩ := h
    exact ⟨_, call_list_of, a, _, rfl, .inl q, fun l hl => hr.newLst hg (FzL_int _ _ _) l hl⟩
theorem o_tuple : OpN X (.type "tuple") gTuple := by
  intro Z H xs ds P Q s ha hg hr
  unfold gTuple at hg
  split at hg
  all_goals try exact hg.elim
  · obtain ⟨x, rfl, h⟩ := acc1 ha
    obtain ⟨a, vs, rfl, q, f⟩ := h
    exact ⟨_, call_tuple_of, a, vs, rfl, .inl ⟨.inl (.inl q), fun l hl => hr.newTup s hg f l hl⟩⟩
  · obtain ⟨x, rfl, h⟩ := acc1 ha
    obtain ⟨a, vs, rfl, f, q⟩ := acc_seq s h (.inr (.inl rfl))
    rcases q with ⟨_, q, hz⟩ | ⟨q, _⟩
    · exact ⟨_, call_tuple_of, a, vs, rfl, .inr ⟨q, hr.val hg (by simp only [Fz]; exact ⟨a, vs, rfl, hz, f⟩)⟩⟩
    · exact absurd rfl q
  · obtain ⟨x, rfl, h⟩ := acc1 ha
    obtain ⟨a, rfl, q⟩ := h
    exact ⟨_, call_tuple_of, a, _, rfl, .inl ⟨q, fun l hl => hr.newTup s hg (FzL_int _ _ _) l hl⟩⟩
theorem o_str : OpN X (.type "str") gStrF := by
  intro Z H xs ds P Q s ha hg hr
  unfold gStrF at hg
  split at hg
  · obtain ⟨x, rfl, h⟩ := acc1 ha
    rw [acc_int h]
    exact ⟨_, call_str_int, _, rfl, hg.1, hr.val hg.2 (fzS _ _ _)⟩
  · obtain ⟨x, rfl, h⟩ := acc1 ha
    rw [acc_str h]
    exact ⟨_, SkE.call_str_str, _, rfl, hr.val hg (fzS _ _ _)⟩
  · exact hg.elim
end

/-! ### list(range(..)) -/
def wLRng (w : WE) : WE := fun env P E => w env (fun m e => ∃ n : Int, m = .frz (.int n) ∧ (0 ≤ n ∧ n ≤ 16777216) ∧ ∀ p, P (.lst p (rngD 0 n)) e) E
theorem fz_rng {K : Fr} {Z : Hp} (a b : Int) : FzL K Z (rngD a b) (rgV a b) := by
  unfold rngD rgV
  generalize List.range (b - a).toNat = l
  induction l with
  | nil => simp [FzL]
  | cons x l ih => simp only [List.map_cons, FzL]; exact ⟨_, _, rfl, fzI _ _ _, ih⟩
theorem g_listRng {X : Cx} {W : WX} {a : Expr} {w : WE} {p p2 pos pos2 : Pos} (hc : X.calm = true) (hg : Gl X "list") (hm : X.mg "list" = none) (hg2 : Gl X "range") (hm2 : X.mg "range" = none) (ha : GE X W a w)
    (na : starEach [a] X.env = (false, eval a X.env) :: starEach [] X.env := by rfl) (nb : starEach [.Call (.Name "range" p2) [a] [] pos2] X.env = (false, eval (.Call (.Name "range" p2) [a] [] pos2) X.env) :: starEach [] X.env := by rfl) :
    GE X W (.Call (.Name "list" p) [.Call (.Name "range" p2) [a] [] pos2] [] pos) (wLRng w) := by
  refine (pe_listRg hc hg hm (prg_1 hg2 hm2 ha na) nb).imp fun σ H Q ⟨Z, F, env, P, E, hl, r, hw, hP, hE⟩ => ?_
  refine ⟨Z, F, env, _, E, hl, r, hw, fun m e1 Z1 H1 v h1 le1 l1 r1 => ?_, hE⟩
  obtain ⟨n, rfl, ⟨h2, h3⟩, h4⟩ := h1
  have f := r1.fz
  simp only [Fz] at f
  refine ⟨n, f, RgOk.of_le (by omega) h3 (by omega) h2, fun q hq => hP _ e1 Z1 _ _ (h4 q) le1 l1 (r1.tail.newLst hq (fz_rng 0 n))⟩
end Pl

namespace Pl
open PySem PySem.Spec PyProof.Rows L2
open Classical

/-! ### repr -/
mutual
def D.pdR : D → PyData
  | .non => .none
  | .bl b => .bool b
  | .int i => .int i
  | .str x => .str x
  | .tup xs => .tuple (pdRL xs)
  | .lst xs => .list (pdRL xs)
  | .dic _ kvs => .dict (pdRK kvs)
  | .obj _ _ => .none
  | .exc _ _ => .none
  | .scr ns => .list (ns.map .int)
def pdRL : List D → List PyData
  | [] => []
  | d :: r => d.pdR :: pdRL r
def pdRK : List (D × D) → List (PyData × PyData)
  | [] => []
  | (k, d) :: r => (k.pdR, d.pdR) :: pdRK r
end
mutual
/-- repr knows it -/
def rOk : D → Prop
  | .tup xs => rOkL xs
  | .lst xs => rOkL xs
  | .dic t kvs => t = false ∧ rOkK kvs
  | .obj _ _ => False
  | .exc _ _ => False
  | _ => True
def rOkL : List D → Prop
  | [] => True
  | d :: r => rOk d ∧ rOkL r
def rOkK : List (D × D) → Prop
  | [] => True
  | (_, d) :: r => rOk d ∧ rOkK r
end
def reprD (d : D) : Str := d.pdR.shown
section
variable {P : Program} {w : World} {K : Fr} {Z H : Hp} {h : Heap}
theorem reads_ints {h : Heap} : ∀ {ns : List Int} {us : List Value}, Vals (ns.map V.int) us → ReadsAll h us (ns.map .int) []
  | [], _, .nil => .nil
  | n :: r, _, .cons ⟨t, e⟩ t2 => by
    subst e
    exact ReadsAll.cons (.int n t) (reads_ints t2)
mutual
theorem reads_d (ok : HOk P w H h) (sub : Sub Z H) (sq : ∀ a xs, SqL K H a xs → ∃ o its n, h.get? a = some o ∧ o.cls = .type "list" ∧ o.data = .seq its n ∧ Vals xs its.toList) (hn : ∀ a xs, SqL K H a xs → (a == sysModules) = false) : ∀ (d : D) (v : V) (u : Value), rOk d → Acc K Z H d v → RelV v u → ∃ as, Reads h u d.pdR as ∧ ∀ a ∈ as, (a == sysModules) = false
  | .non, v, u, _, a, r => by
    have e : v = .non := by simpa only [Acc, Fz] using a
    subst e
    obtain rfl : u = .none := r
    exact ⟨[], .none, by simp⟩
  | .bl b, v, u, _, a, r => by
    rw [acc_bl a] at r
    obtain rfl : u = .bool b := r
    exact ⟨[], .bool b, by simp⟩
  | .int i, v, u, _, a, r => by
    rw [acc_int a] at r
    obtain ⟨t, rfl⟩ := r
    exact ⟨[], .int i t, by simp⟩
  | .str x, v, u, _, a, r => by
    rw [acc_str a] at r
    obtain ⟨t, rfl⟩ := r
    exact ⟨[], .str x t, by simp⟩
  | .tup xs, v, u, k, a, r => by
    have a' : Fz K Z (.tup xs) v := a
    simp only [Fz] at a'
    obtain ⟨p, vs, rfl, q, f⟩ := a'
    obtain rfl : u = .ref p := r
    obtain ⟨_, its, rv, o, e1, e2, n, e3⟩ := ok p _ (sub.ex q rfl)
    simp only [rOk] at k
    obtain ⟨as, h1, h2⟩ := reads_l ok sub sq hn xs vs its k f rv
    exact ⟨as, .tuple e1 e2 e3 h1, h2⟩
  | .lst xs, v, u, k, a, r => by
    obtain ⟨p, vs, rfl, q, f⟩ := a
    obtain rfl : u = .ref p := r
    obtain ⟨_, its, n, rv, e1⟩ := ok p _ q
    simp only [rOk] at k
    obtain ⟨as, h1, h2⟩ := reads_l ok sub sq hn xs vs its k f rv
    refine ⟨p :: as, .list e1 rfl rfl h1, fun b hb => ?_⟩
    rcases List.mem_cons.mp hb with z | z
    · rw [z]; exact hn p vs (.inl (.inl q))
    · exact h2 b z
  | .dic false kvs, v, u, k, a, r => by
    obtain ⟨p, ks, rfl, q, f⟩ := a
    obtain rfl : u = .ref p := r
    obtain ⟨_, hs, vs, kv, o, es, ep, e1, e2, e3, _, pr, _⟩ := dk_rd ok q
    simp only [rOk] at k
    obtain ⟨as, bs, h1, h2, h3⟩ := reads_k ok sub sq hn kvs ks vs es.toList k.2 f kv pr
    refine ⟨p :: as ++ bs, .dict e1 e2.1 e3 h1 h2, fun b hb => ?_⟩
    rcases List.mem_cons.mp (show b ∈ p :: (as ++ bs) from hb) with z | z
    · rw [z]; exact hs
    · exact h3 b z
  | .dic true _, _, _, k, _, _ => by simp [rOk] at k
  | .obj _ _, _, _, k, _, _ => by simp [rOk] at k
  | .exc _ _, _, _, k, _, _ => by simp [rOk] at k
  | .scr ns, v, u, _, a, r => by
    obtain ⟨p, rfl, q⟩ := a
    obtain rfl : u = .ref p := r
    obtain ⟨o, its, n, e1, e2, e3, rv⟩ := sq p _ q
    refine ⟨[p], .list e1 e2 e3 (reads_ints rv), fun b hb => ?_⟩
    rw [List.mem_singleton.mp hb]
    exact hn p _ q
theorem reads_l (ok : HOk P w H h) (sub : Sub Z H) (sq : ∀ a xs, SqL K H a xs → ∃ o its n, h.get? a = some o ∧ o.cls = .type "list" ∧ o.data = .seq its n ∧ Vals xs its.toList) (hn : ∀ a xs, SqL K H a xs → (a == sysModules) = false) : ∀ (ds : List D) (vs : List V) (us : List Value), rOkL ds → FzL K Z ds vs → Vals vs us → ∃ as, ReadsAll h us (pdRL ds) as ∧ ∀ a ∈ as, (a == sysModules) = false
  | [], vs, us, _, f, r => by
    simp only [FzL] at f
    subst f
    cases r
    exact ⟨[], .nil, by simp⟩
  | d :: ds, vs, us, k, f, r => by
    simp only [FzL] at f
    obtain ⟨v, t, rfl, f1, f2⟩ := f
    simp only [rOkL] at k
    cases r with
    | cons r1 r2 =>
      obtain ⟨as, h1, h2⟩ := reads_d ok sub sq hn d v _ k.1 (Acc.of sub f1) r1
      obtain ⟨bs, h3, h4⟩ := reads_l ok sub sq hn ds t _ k.2 f2 r2
      exact ⟨as ++ bs, .cons h1 h3, fun a ha => (List.mem_append.mp ha).elim (h2 a) (h4 a)⟩
theorem reads_k (ok : HOk P w H h) (sub : Sub Z H) (sq : ∀ a xs, SqL K H a xs → ∃ o its n, h.get? a = some o ∧ o.cls = .type "list" ∧ o.data = .seq its n ∧ Vals xs its.toList) (hn : ∀ a xs, SqL K H a xs → (a == sysModules) = false) : ∀ (kvs : List (D × D)) (ks : List (Key × V)) (vs : List (Key × Value)) (es : List DictEntry), rOkK kvs → FzK K Z kvs ks → KV ks vs → Pairs (mixKind P w) es vs →
    ∃ as bs, ReadsAll h (es.map (·.key)) ((pdRK kvs).map (·.1)) as ∧ ReadsAll h (es.map (·.val)) ((pdRK kvs).map (·.2)) bs ∧ ∀ a ∈ as ++ bs, (a == sysModules) = false
  | [], ks, vs, es, _, f, kv, pr => by
    simp only [FzK] at f
    subst f
    cases kv
    cases es with
    | nil => exact ⟨[], [], .nil, .nil, by simp⟩
    | cons _ _ => cases pr
  | (k, d) :: r, ks, vs, es, ko, f, kv, pr => by
    simp only [FzK] at f
    obtain ⟨q, v, t, rfl, hk, f1, f2⟩ := f
    simp only [rOkK] at ko
    cases kv with
    | cons kv1 kv2 =>
      rename_i b bs
      obtain ⟨b1, b2⟩ := b
      cases es with
      | nil => cases pr
      | cons e es =>
        obtain ⟨p1, p2, p3⟩ : (mixKind P w).is b1 e.key = true ∧ e.val = b2 ∧ Pairs (mixKind P w) es bs := by
          cases pr with
          | cons p1 p2 p3 => exact ⟨p1, p2, p3⟩
        obtain ⟨as, bs', h1, h2, h3⟩ := reads_k ok sub sq hn r t bs es ko.2 f2 kv2 p3
        have kr : RelV (kV q) e.key := by
          have : keyIs b1 e.key = true := p1
          have e1 : q = b1 := kv1.1
          rw [← e1] at this
          exact relV_key this
        obtain ⟨as1, g1, g2⟩ : ∃ as, Reads h e.key k.pdR as ∧ ∀ a ∈ as, (a == sysModules) = false := by
          cases k <;> simp [keyOf] at hk <;> subst hk
          · obtain ⟨t, e⟩ := kr
            rw [e]
            exact ⟨[], .int _ t, by simp⟩
          · obtain ⟨t, e⟩ := kr
            rw [e]
            exact ⟨[], .str _ t, by simp⟩
        have vr : RelV v e.val := by
          rw [p2]; exact kv1.2
        obtain ⟨as2, g3, g4⟩ := reads_d ok sub sq hn d v _ ko.1 (Acc.of sub f1) vr
        refine ⟨as1 ++ as, as2 ++ bs', .cons g1 h1, .cons g3 h2, fun a ha => ?_⟩
        simp only [List.mem_append] at ha h3
        rcases ha with (z | z) | (z | z)
        · exact g2 a z
        · exact h3 a (.inl z)
        · exact g4 a z
        · exact h3 a (.inr z)
end
end
/-- repr(x); what its text is, reprD tells -/
def gRepr : GN
  | [d], P => rOk d ∧ d.pdR.showable = true ∧ d.pdR.depth ≤ 60 ∧ (reprD d).length ≤ sizeLine ∧ P (.frz (.str (reprD d)))
  | _, _ => False
section
variable {b : Bd} {X : Cx} {W : WX} {N : List Str} {sc : Scope} {k : Nat}
theorem call_reprD (c : DB b true X W N sc k) (hb : ∃ o, b.base.get? sysModules = some o ∧ o.cls ≠ .type "list") : CallR X (.builtin "repr") (fun xs H Q => ∃ Z d x, xs = [x] ∧ Sub Z H ∧ Acc X.K Z H d x ∧ rOk d ∧ d.pdR.showable = true ∧ d.pdR.depth ≤ 60 ∧ (reprD d).length ≤ sizeLine ∧ Q (.str (reprD d)) H) := by
  intro pins s σ H xs us Q I r h
  obtain ⟨Z, d, x, rfl, sub, acc, h1, h2, h3, h4, q⟩ := h
  obtain ⟨u, rfl, ru⟩ := vals1 r
  have sq : ∀ a xs, SqL X.K H a xs → ∃ o its n, s.heap.get? a = some o ∧ o.cls = .type "list" ∧ o.data = .seq its n ∧ Vals xs its.toList := fun a xs hq => by
    obtain ⟨its, rv, pl, _⟩ := I.list hq
    obtain ⟨o, e1, e2, n, e3⟩ := pl.isList
    exact ⟨o, _, n, e1, e2, e3, by simpa using rv⟩
  have hn : ∀ a xs, SqL X.K H a xs → (a == sysModules) = false := fun a xs hq => by
    refine beq_eq_false_iff_ne.mpr fun z => ?_
    subst z
    obtain ⟨o, e, hl⟩ := hb
    rw [← c.bb] at e
    rcases hq with (hq | ⟨_, hq⟩) | ⟨o', its, n, hq, hc, _⟩
    · rw [(I.bs _ _ e).2] at hq; cases hq
    · rw [(I.bs _ _ e).2] at hq; cases hq
    · have e2 := I.ok.mod.kin _ _ hq
      rw [e] at e2; cases e2
      exact hl hc
  obtain ⟨as, rd, hs⟩ := reads_d I.hok sub sq hn d x u h1 acc ru
  have hu : X.A.units + 61 < cLine := by have := c.room.un; omega
  have ends : ∀ {h' : Heap} {t : Tok} {tk : Nat}, (∀ b o, s.heap.get? b = some o → h'.get? b = some o) → EP X pins σ Q (.str (reprD d) t) { s with heap := h', toks := tk } := fun hk => ⟨.str (reprD d), H, I.kept hk, ⟨_, rfl⟩, q⟩
  have key : ∀ a, u = .ref a → wpAny (model X.prog X.w) X.A (PySem.call (.builtin "repr") [u]) (EP X pins σ Q) X.xe s := by
    rintro a rfl
    exact repr_of_reads' rd h2 (fun _ hm => by have := hs _ hm; simp at this) (c.gu rfl) (by omega) (fun _ _ e => e) (fun h' t tk hk => ends hk) h4
  have same : ∀ {tk : Nat} {t : Tok}, EP X pins σ Q (.str (reprD d) t) { s with toks := tk } := fun {tk t} => ends (h' := s.heap) fun _ _ e => e
  cases d with
  | non =>
    have e : x = .non := by simpa only [Acc, Fz] using acc
    subst e
    obtain rfl : u = .none := ru
    exact P.repr_of_none same
  | bl bb =>
    rw [acc_bl acc] at ru
    obtain rfl : u = .bool bb := ru
    exact P.repr_of_bool same
  | int i =>
    rw [acc_int acc] at ru
    obtain ⟨t, rfl⟩ := ru
    exact P.repr_of_int (by simpa [D.pdR, PyData.showable] using h2) same
  | str z =>
    rw [acc_str acc] at ru
    obtain ⟨t, rfl⟩ := ru
    exact P.repr_of_str same h4
  | tup xs =>
    have a' : Fz X.K Z (.tup xs) x := acc
    simp only [Fz] at a'
    obtain ⟨p, vs, rfl, _⟩ := a'
    exact key p ru
  | lst xs =>
    obtain ⟨p, vs, rfl, _⟩ := acc
    exact key p ru
  | dic t kvs =>
    cases t with
    | false => obtain ⟨p, vs, rfl, _⟩ := acc; exact key p ru
    | true => simp [rOk] at h1
  | obj _ _ => simp [rOk] at h1
  | exc _ _ => simp [rOk] at h1
  | scr ns =>
    obtain ⟨p, rfl, _⟩ := acc
    exact key p ru
theorem o_repr (c : DB b true X W N sc k) (hb : ∃ o, b.base.get? sysModules = some o ∧ o.cls ≠ .type "list") : OpN X (.builtin "repr") gRepr := by
  intro Z H xs ds P Q s ha hg hr
  unfold gRepr at hg
  split at hg
  · obtain ⟨x, rfl, h⟩ := acc1 ha
    obtain ⟨h1, h2, h3, h4, h5⟩ := hg
    exact ⟨_, call_reprD c hb, Z, _, x, rfl, s, h, h1, h2, h3, h4, hr.val h5 (fzS _ _ _)⟩
  · exact hg.elim
end
end Pl

namespace Pl
open PySem PySem.Spec PyProof.Rows L2
open Classical

/-! ### o[i] = v -/
def gSetI : Cn → D → D → (Cn → Prop) → Prop
  | .lst a xs, .int k, d, P => ∃ j, ixN xs.length k = some j ∧ P (.lst a (xs.set j d))
  | .dic a t kvs, k, d, P => keyOk t k ∧ kvs.length < sizeLine ∧ P (.dic a t (dput kvs k d))
  | _, _, _, _ => False
def wSetI (wv : WE) (wo wi : WO) : WS := fun env P E => wv env (fun m e1 => m.full ∧ wo e1 (fun o e2 => wi e2 (fun oi e3 => ∃ c di, getC e3 o = some c ∧ resolve e3 oi = some di ∧ gSetI c di m.toD (fun c' => P.nx (putAt e3 o c'))) E) E) E
def anyS (X : Cx) : TSet := fun o i v H Q => ∃ t, PSet X t ∧ t o i v H Q
theorem setAny {X : Cx} : PSet X (anyS X) := fun pins s σ H o i v ov iv u Q I ro ri rv ⟨t, h, q⟩ => h pins s σ H o i v ov iv u Q I ro ri rv q
theorem FzL.setAt {K : Fr} {Z : Hp} : ∀ {ds : List D} {vs : List V} {d : D} {v : V} (n : Nat), FzL K Z ds vs → Fz K Z d v → FzL K Z (ds.set n d) (vs.set n v)
  | [], vs, d, v, n, h, _ => by simp only [FzL] at h; subst h; simp [FzL]
  | x :: r, vs, d, v, 0, h, f => by
    simp only [FzL] at h
    obtain ⟨w, t, rfl, h1, h3⟩ := h
    simp only [List.set_cons_zero, FzL]
    exact ⟨_, _, rfl, f, h3⟩
  | x :: r, vs, d, v, n + 1, h, f => by
    simp only [FzL] at h
    obtain ⟨w, t, rfl, h1, h3⟩ := h
    simp only [List.set_cons_succ, FzL]
    exact ⟨_, _, rfl, h1, h3.setAt n f⟩
theorem key_fz {K : Fr} {Z : Hp} {k : D} {q : Key} {v : V} (h : keyOf k = some q) (f : Fz K Z k v) : v = kV q := by
  cases k <;> simp [keyOf] at h <;> subst h <;> (simp only [Fz] at f; exact f)
theorem keys_fz {K : Fr} {Z : Hp} : ∀ {xs : List D} {ks : List Key} {vs : List V}, keysL xs = some ks → FzL K Z xs vs → vs = ks.map kV
  | [], ks, vs, h, f => by simp only [keysL, Option.some.injEq] at h; subst h; simp only [FzL] at f; subst f; rfl
  | d :: r, ks, vs, h, f => by
    simp only [keysL] at h
    split at h
    · rename_i k q hk hq
      cases h
      simp only [FzL] at f
      obtain ⟨v, t, rfl, f1, f2⟩ := f
      rw [key_fz hk f1, keys_fz hq f2]
      rfl
    · cases h
section
variable {X : Cx} {W : WX} {np : Nat × Nat} {o i e : Expr} {pos spos : Pos}
theorem set_sound (hu : X.A.units + 1 < cLine) {K : Fr} {Z H : Hp} {c : Cn} {a : Addr} {di d : D} {iv v : V} {P : Cn → Prop} {Q : Hp → Prop} (hK : X.K = K) (s : Sub Z H) (rc : RepC K Z H c (.ref a)) (f : c.fp = [a]) (fi : Acc K Z H di iv) (fd : Fz K Z d v) (h : gSetI c di d P)
    (hq : ∀ c' u, P c' → c'.fp = [a] → u ≠ .own a → RepC K Z (upd H a u) c' (.ref a) → Q (upd H a u)) : anyS X (.ref a) iv v H Q := by
  subst hK
  cases c with
  | lst b xs =>
    cases di <;> try exact h.elim
    rename_i k
    obtain ⟨j, h1, h2⟩ := h
    obtain ⟨e, ws, q, l⟩ := rc
    cases e
    rw [acc_int fi]
    refine ⟨_, set_list, a, ws, k, j, rfl, rfl, q, by rw [← l.length]; exact h1, ?_⟩
    exact hq _ _ h2 rfl (by intro z; cases z) ⟨rfl, _, upd_same, l.setAt j fd⟩
  | dic b t kvs =>
    have h' : keyOk t di ∧ kvs.length < sizeLine ∧ P (.dic b t (dput kvs di d)) := by cases di <;> exact h
    obtain ⟨h1, h2, h3⟩ := h'
    obtain ⟨e, q⟩ := rc
    cases e
    cases t with
    | false =>
      obtain ⟨ks, q, l⟩ := q
      have l' := FzK_iff.mp l
      obtain ⟨qk, hk⟩ := Option.isSome_iff_exists.mp (show (keyOf di).isSome = true from h1)
      have ei : iv = kV qk := by
        cases di <;> simp [keyOf] at hk <;> subst hk
        · exact acc_int fi
        · exact acc_str fi
      subst ei
      refine ⟨_, set_dict hu, a, _, rfl, DPut.k q (by rw [← l'.len]; exact h2), ?_⟩
      exact hq _ _ h3 rfl (by intro z; cases z) ⟨rfl, _, upd_same, FzK_iff.mpr (l'.put (fun h h2 => keyOf_inj h h2) hk fd)⟩
    | true =>
      obtain ⟨ks, q, l⟩ := q
      have l' := FzT_iff.mp l
      obtain ⟨qk, hk⟩ := Option.isSome_iff_exists.mp (show (keysOf di).isSome = true from h1)
      cases di <;> simp [keysOf] at hk
      rename_i xs
      have fi' : Fz X.K Z (.tup xs) iv := fi
      simp only [Fz] at fi'
      obtain ⟨p, vs, rfl, hz, fl⟩ := fi'
      have ev := keys_fz hk fl
      subst ev
      refine ⟨_, set_dict hu, a, _, rfl, DPut.t q (s.ex hz rfl) (by rw [← l'.len]; exact h2), ?_⟩
      exact hq _ _ h3 rfl (by intro z; cases z) ⟨rfl, _, upd_same, FzT_iff.mpr (l'.put (fun h h2 => keysOf_inj h h2) (by simpa [keysOf] using hk) fd)⟩
  | hole _ => cases f
  | frz _ => cases f
theorem gs_setI {wv : WE} {wo wi : WO} (hu : X.A.units + 1 < cLine) (hv : GE X W e wv) (ho : GO X W o wo) (hi : GO X W i wi)
    (ha : ∀ v, assign (.Subscript o i pos) X.env v = (do
      let ov ← holding [v] (eval o X.env)
      let iv ← holding [v, ov] (eval i X.env)
      standAt pos
      holding [v, ov, iv] (setItem ov iv v)
      release [v, ov, iv] []) := by intro _; rfl)
    (hs : swapsWithSole [.Subscript o i pos] e spos.line X.env = pure false := by rfl) (hw : swappedStores [.Subscript o i pos] e X.env = pure none := by rfl)
    (h1 : (assignEach [.Subscript o i pos] X.env).map (·.2) = [assign (.Subscript o i pos) X.env] := by rfl) : GS X W np (.Assign [.Subscript o i pos] e spos) (wSetI wv wo wi) := by
  refine (ps_asg hv (pg_sub ho hi setAny ha) hs hw h1).imp fun D σ H ⟨Z, F, env, pv, P, E, hn, hl, hpin, r, hw, hd, hE⟩ => ?_
  refine ⟨Z, F, env, _, E, hl, r, hw, fun m e1 Z1 H1 v h1 le1 l1 r1 => ?_, hE.xw hl hpin⟩
  obtain ⟨hm, h1⟩ := h1
  obtain ⟨Z2, le2, r2⟩ := r1.freeze hm
  have fv := r2.fz
  refine ⟨Z2, F, e1, _, E, by omega, r2.tail, h1, fun oo e2 Z3 H2 ov h2 le3 l2 r3 q3 => ?_, by rw [l1]; exact (hE.mono (le1.trans le2)).xw hl hpin⟩
  refine ⟨Z3, F, e2, _, E, by omega, r3, h2, fun oi e3 Z4 H3 iv h3 le4 l3 r4 q4 => ?_, by rw [l2, l1]; exact (hE.mono (le1.trans (le2.trans le3))).xw hl hpin⟩
  obtain ⟨c, di, g1, g2, hg⟩ := h3
  have hl3 : σ.length = e3.length := by omega
  obtain ⟨a, f2, rc, hv'⟩ := path_read hl3 r4 g1
  obtain rfl := hv' Z3 _ q3
  refine set_sound hu rfl r4.sub rc f2 (resolve_acc hl3 r4 g2 q4) (Fz.mono (le3.trans le4) _ _ fv) hg fun c' u hp f3 hu' rc3 => ?_
  exact hd.nx _ σ Z4 _ hp (le1.trans (le2.trans (le3.trans le4))) (by omega) (by rw [putAt_length]; omega) hpin (path_write hl3 r4 g1 f2 f3 hu' rc3)
end
/-! ### {k: v} -/
section
variable {X : Cx} {W : WX} {kx vx : Expr} {pos : Pos}
theorem XW.under {K : Fr} {σ : L2.St} {F Z H : Hp} {n : Nat} {E : XO} {L : List Sl} {l' : List Sl} (r : Rep K Z F H (L ++ l')) (h : XW K W σ F Z n E) : XW K W σ (hideF F H L) Z n E :=
  fun c d env' Z' H' dx y e le l q h1 h2 => h c d env' Z' H' dx y e le l (r.unhide le q).right h1 h2
def wDisp1 (wk wv : WE) : WE := fun env P E => wk env (fun mk e1 => mk.full ∧ wv e1 (fun mv e2 => mv.full ∧ keyOk false mk.toD ∧ ∀ p, P (.dic p false [(mk.toD, mv.toD)]) e2) E) E
theorem g_disp1 {wk wv : WE} (hk : GE X W kx wk) (hv : GE X W vx wv) : GE X W (.Dict [some kx] [vx] pos) (wDisp1 wk wv) := by
  refine (pe_disp (pps_cons hk hv pps_nil) rfl rfl (by simp) (by simp)).imp fun σ H Q ⟨Z, F, env, P, E, hl, r, hw, hP, hE⟩ => ?_
  intro p hp
  have r0 : Rep X.K Z F (upd H p (.dK [])) ([(some (V.ref p), M.dic p false [])] ++ zp σ env) := r.newDicK hp
  refine ⟨Z, hideF F _ [(some (V.ref p), M.dic p false [])], env, _, E, hl, r0.hide, hw, fun mk e1 Z1 H1 x h1 le1 l1 r1 => ?_, hE.under r0⟩
  obtain ⟨hmk, h1⟩ := h1
  obtain ⟨Z2, le2, r2⟩ := r1.freeze hmk
  have fk := r2.fz
  refine ⟨Z2, _, e1, _, E, by omega, r2.tail, h1, fun mv e2 Z3 H2 y h2 le3 l2 r3 => ?_, by rw [l1]; exact (hE.under r0).mono (le1.trans le2)⟩
  obtain ⟨hmv, hko, h2⟩ := h2
  obtain ⟨Z4, le4, r4⟩ := r3.freeze hmv
  have fy := r4.fz
  have r5 := r0.unhide (le1.trans (le2.trans (le3.trans le4))) r4
  have r6 : Rep X.K Z4 F H2 ((some (V.ref p), M.dic p false []) :: zp σ e2) := ((r5.perm (show ([(some (V.ref p), M.dic p false [])] ++ (some y, M.frz mv.toD) :: zp σ e2).Perm ((some y, M.frz mv.toD) :: (some (V.ref p), M.dic p false []) :: zp σ e2) from List.Perm.swap ..))).tail
  obtain ⟨_, ks, hp2, fks⟩ := r6.at List.mem_cons_self (by intro z; cases z)
  simp only [FzK] at fks
  subst fks
  obtain ⟨qk, hqk⟩ := Option.isSome_iff_exists.mp (show (keyOf mk.toD).isSome = true from hko)
  have ex : x = kV qk := key_fz hqk fk
  subst ex
  refine ⟨hp2, [(qk, y)], rfl, by simp, ?_⟩
  have hput : mergeK [] [(qk, y)] = [(qk, y)] := by simp [mergeK, putK]
  rw [hput]
  refine hP _ e2 Z4 _ _ (h2 p) (le1.trans (le2.trans (le3.trans le4))) (by omega) ?_
  refine r6.write (a := p) (m' := .dic p false [(mk.toD, mv.toD)]) (by simp [M.fp]) (by simp [M.fp]) ⟨rfl, [(qk, y)], upd_same, ?_⟩
  simp only [FzK]
  exact ⟨qk, y, [], rfl, hqk, fy, rfl⟩
end
end Pl

namespace Pl
open PySem PySem.Spec PyProof.Rows L2
open Classical

section
variable {X : Cx} {W : WX} {a e : Expr} {es : List Expr} {pos : Pos}
/-- -x -/
def wNeg (wa : WE) : WE := fun env P E => wa env (fun m e => ∃ i : Int, m = .frz (.int i) ∧ P (.frz (.int (-i))) e) E
theorem g_neg {wa : WE} (h : GE X W a wa) : GE X W (.UnaryOp .USub a pos) (wNeg wa) := by
  refine (pe_un un_neg h).imp fun σ H Q ⟨Z, F, env, P, E, hl, r, hw, hP, hE⟩ => ?_
  refine ⟨Z, F, env, _, E, hl, r, hw, fun m e1 Z1 H1 v h1 le1 l1 r1 => ?_, hE⟩
  obtain ⟨i, rfl, h2⟩ := h1
  have f := r1.fz
  simp only [Fz] at f
  exact ⟨i, f, hP _ e1 Z1 H1 _ h2 le1 l1 (r1.tail.frz (fzI _ _ _))⟩
end
section
variable {b : Bd} {gd : Bool} {X : Cx} {W : WX} {N : List Str} {sc : Scope} {k : Nat} {a e : Expr} {es : List Expr} {pos : Pos}
theorem DB.hu (c : DB b gd X W N sc k) : X.A.units + 65 < cLine := by have := c.room.un; omega
theorem DB.hu1 (c : DB b gd X W N sc k) : X.A.units + 1 < cLine := by have := c.room.un; omega
theorem e_B (c : DB b gd X W N sc k) {x : Str} {id : String} {p : Pos} {g : GN} {wa : WA} (o : OpN X (.builtin id) g) (hm : b.mg x = none) (hv : bootBuiltins x = some (.builtin id)) (ha : GA X W (e :: es) wa) (hg : glB sc x = true := by decide +kernel) (hn : x ≠ "__name__" := by decide) (hdb : (x == ("__debug__" : Str)) = false := by decide)
    (he : starEach (e :: es) X.env = (false, eval e X.env) :: starEach es X.env := by rfl) (hpl : (backTo pos (starEach es X.env)).any (·.1) = false := by rfl) : GE X W (.Call (.Name x p) (e :: es) [] pos) (wN g wa) :=
  g_callB o (c.gl hg) (by rw [c.mm]; exact hm) hv ha hn hdb he hpl
theorem e_T (c : DB b gd X W N sc k) {x : Str} {id : String} {p : Pos} {g : GN} {wa : WA} (o : OpN X (.type id) g) (hm : b.mg x = none) (hv : bootBuiltins x = some (.type id)) (ha : GA X W (e :: es) wa) (hg : glB sc x = true := by decide +kernel) (hn : x ≠ "__name__" := by decide) (hdb : (x == ("__debug__" : Str)) = false := by decide)
    (he : starEach (e :: es) X.env = (false, eval e X.env) :: starEach es X.env := by rfl) (hpl : (backTo pos (starEach es X.env)).any (·.1) = false := by rfl) : GE X W (.Call (.Name x p) (e :: es) [] pos) (wN g wa) :=
  g_callTy o (c.gl hg) (by rw [c.mm]; exact hm) hv ha hn hdb he hpl
theorem e_lrng (c : DB b gd X W N sc k) {w : WE} {p p2 pos2 : Pos} (hm : b.mg "list" = none) (hm2 : b.mg "range" = none) (ha : GE X W a w) (hg : glB sc "list" = true := by decide +kernel) (hg2 : glB sc "range" = true := by decide +kernel)
    (na : starEach [a] X.env = (false, eval a X.env) :: starEach [] X.env := by rfl) (nb : starEach [.Call (.Name "range" p2) [a] [] pos2] X.env = (false, eval (.Call (.Name "range" p2) [a] [] pos2) X.env) :: starEach [] X.env := by rfl) :
    GE X W (.Call (.Name "list" p) [.Call (.Name "range" p2) [a] [] pos2] [] pos) (wLRng w) :=
  g_listRng c.calm (c.gl hg) (by rw [c.mm]; exact hm) (c.gl hg2) (by rw [c.mm]; exact hm2) ha na nb
theorem i_rng1 (c : DB b gd X W N sc k) {tg : Expr} {wa : WA} {p : Pos} (hm : b.mg "range" = none) (ha : GA X W [a] wa) (hg : glB sc "range" = true := by decide +kernel) (hs : starEach [a] X.env = [(false, eval a X.env)] := by rfl) : GI X W tg (.Call (.Name "range" p) [a] [] pos) (wRng1 wa) :=
  gi_range1 (c.gl hg) (by rw [c.mm]; exact hm) ha hs
theorem i_rng2 (c : DB b gd X W N sc k) {tg a2 : Expr} {wa : WA} {p : Pos} (hm : b.mg "range" = none) (ha : GA X W [a, a2] wa) (hg : glB sc "range" = true := by decide +kernel) (hs : starEach [a, a2] X.env = [(false, eval a X.env), (false, eval a2 X.env)] := by rfl) (hs2 : starEach [a2] X.env = [(false, eval a2 X.env)] := by rfl) :
    GI X W tg (.Call (.Name "range" p) [a, a2] [] pos) (wRng2 wa) :=
  gi_range2 (c.gl hg) (by rw [c.mm]; exact hm) ha hs hs2
theorem i_enum (c : DB b gd X W N sc k) {elts : List Expr} {kk : Nat} {tpos : Pos} {wa : WA} {p : Pos} (hm : b.mg "enumerate" = none) (ha : GA X W [a] wa) (hg : glB sc "enumerate" = true := by decide +kernel) (hs : starEach [a] X.env = [(false, eval a X.env)] := by rfl) :
    GI X W (.Tuple elts kk tpos) (.Call (.Name "enumerate" p) [a] [] pos) (wEnum wa) :=
  gi_enum (c.gl hg) (by rw [c.mm]; exact hm) ha hs
theorem i_zip (c : DB b gd X W N sc k) {a2 : Expr} {elts : List Expr} {kk : Nat} {tpos : Pos} {wa : WA} {p : Pos} (hm : b.mg "zip" = none) (ha : GA X W [a, a2] wa) (hg : glB sc "zip" = true := by decide +kernel) (hs : starEach [a, a2] X.env = (false, eval a X.env) :: starEach [a2] X.env := by rfl) (hpl : (backTo pos (starEach [a2] X.env)).any (·.1) = false := by rfl) :
    GI X W (.Tuple elts kk tpos) (.Call (.Name "zip" p) [a, a2] [] pos) (wZip wa) :=
  gi_zip (c.gl hg) (by rw [c.mm]; exact hm) ha hs hpl
/-- a name as a target -/
theorem t_n (c : DB b gd X W N sc k) (i : Nat) {x : Str} (h : stB N sc i x = true := by decide +kernel) : GG X [i] (.Name x pos) (wTn i) := by
  obtain ⟨h1, h2, h3⟩ := c.st h
  exact gg_name c.ndX h1 h2 h3
theorem s_for (c : DB b gd X W N sc k) {np : Nat × Nat} {B : List Nat} {tg iter : Expr} {body : List Stmt} {wi : WI} {g : WG} {wb : WS} (hi : GI X W tg iter wi) (hg : GG X B tg g) (hb : GSs X W np body wb) (hB : (B.all fun j => decide (np.1 ≤ j)) = true := by decide +kernel)
    (hs : ∀ x, foldedSetIterable iter X.env x = pure x := by intro _; rfl) : GS X W np (.For tg iter body [] pos) (wFor wi g wb) :=
  gs_for c.pass c.calm hi hg hb (fun j hj => by have := List.all_eq_true.mp hB j hj; simpa using this) hs
theorem s_while (c : DB b gd X W N sc k) {np : Nat × Nat} {cd : Expr} {body : List Stmt} {wc : WT} {wb : WS} (hc : GT X W cd wc) (hb : GSs X W np body wb) : GS X W np (.While cd body [] pos) (wWhile wc wb) :=
  gs_while c.pass hc hb
theorem s_tup (c : DB b gd X W N sc k) {np : Nat × Nat} {B : List Nat} {tg e : Expr} {w : WE} {g : WG} (he : GE X W e w) (hg : GG X B tg g) (hB : (B.all fun j => decide (np.1 ≤ j)) = true := by decide +kernel) (hs : swapsWithSole [tg] e pos.line X.env = pure false := by rfl) (hw : swappedStores [tg] e X.env = pure none := by rfl)
    (h1 : (assignEach [tg] X.env).map (·.2) = [assign tg X.env] := by rfl) : GS X W np (.Assign [tg] e pos) (wAsgT w g) :=
  gs_asgT he hg (fun j hj => by have := List.all_eq_true.mp hB j hj; simpa using this) hs hw h1
end
end Pl

namespace Pl
open PySem PySem.Spec PyProof.Rows L2
open Classical

/-! ### the transformers, evaluated from outside in -/
/-- what a place holds, read behind what waits for it (so that simp leaves alone what waits) -/
@[reducible] def Opt {α : Type} (_ : α → Prop) : Type := Option α
@[reducible] def Idt {α : Type} (_ : α → Prop) : Type := α
@[reducible] def Lkt (_ : M → List M → Prop) (_ : Str → D → Prop) : Type := List M
@[reducible] def OptO {β : Type} (_ : β) : Type := Option M
@[reducible] def EnvO {β γ : Type} (_ : β) (_ : γ) : Type := Env
@[reducible] def LdO {β γ : Type} (_ : β) (_ : γ) : Type := List D
def wR {α : Type} (k : α → Prop) (r : Opt k) : Prop := match (show Option α from r) with
  | some a => k a
  | none => False
def atK {α : Type} (k : α → Prop) (x : Idt k) : Prop := k x
@[simp] theorem atK_go {α : Type} (x : α) (k : α → Prop) : atK k x = k x := (rfl)
@[simp] theorem wR_go {α : Type} (x : α) (k : α → Prop) : wR k (some x) = k x := (rfl)
@[simp] theorem wR_no {α : Type} (k : α → Prop) : wR k none = False := (rfl)
theorem ex_wR {α : Type} {r : Option α} {p : α → Prop} : (∃ a, r = some a ∧ p a) = wR p r := by
  cases r with
  | none => simp [wR]
  | some a => simp [wR]
theorem ex_wR2 {α β : Type} {r : Option α} {q : Option β} {p : α → β → Prop} : (∃ a b, r = some a ∧ q = some b ∧ p a b) = wR (fun a => wR (p a) q) r := by
  cases r with
  | none => simp [wR]
  | some a => cases q <;> simp [wR]
/-- a contract that waits -/
def ctK (φ : Ct) (k : M → List M → Prop) (e : Str → D → Prop) (ms : Lkt k e) : Prop := φ ms k e
/-- loops that wait -/
def forK (g : WG) (b : WS) (P : Pst) (E : XO) (ds : LdO P E) (e : EnvO P E) : Prop := forL g b ds e P E
def whK (c : WT) (b : WS) (P : Pst) (E : XO) (e : EnvO P E) : Prop := ∃ n, whL c b n e P E
def lcK (g : WG) (wt : WT) (we : WE) (own : List Nat) (P : List D → Env → Prop) (ds : LdO P P) (as : LdO P P) (e : EnvO P P) : Prop := lcL g wt we own ds as e P
/-- what a value comes to, frozen -/
def dK (k : D → Prop) (m : M) : Prop := m.full ∧ k m.toD
@[simp ↓] theorem dK_frz (d : D) (k : D → Prop) : dK k (.frz d) = k d := by simp [dK, M.full, M.toD]
@[simp ↓] theorem dK_lst (a : Addr) (xs : List D) (k : D → Prop) : dK k (.lst a xs) = k (.lst xs) := by simp [dK, M.full, M.toD]
@[simp ↓] theorem dK_dic (a : Addr) (t : Bool) (xs : List (D × D)) (k : D → Prop) : dK k (.dic a t xs) = k (.dic t xs) := by simp [dK, M.full, M.toD]
def blM : M → Option Bool
  | .frz (.bl b) => some b
  | _ => none
def inM : M → Option Int
  | .frz (.int b) => some b
  | _ => none
@[simp] theorem blM_go (b : Bool) : blM (.frz (.bl b)) = some b := (rfl)
@[simp] theorem inM_go (b : Int) : inM (.frz (.int b)) = some b := (rfl)
theorem ex_bl {m : M} {p : Bool → Prop} : (∃ c, m = .frz (.bl c) ∧ p c) = wR p (blM m) := by
  rw [← ex_wR]
  refine propext ⟨fun ⟨c, h1, h2⟩ => ⟨c, by rw [h1]; rfl, h2⟩, fun ⟨c, h1, h2⟩ => ⟨c, ?_, h2⟩⟩
  cases m with
  | frz d => cases d <;> simp [blM] at h1; rw [h1]
  | _ => simp [blM] at h1
theorem ex_in {m : M} {p : Int → Prop} : (∃ c, m = .frz (.int c) ∧ p c) = wR p (inM m) := by
  rw [← ex_wR]
  refine propext ⟨fun ⟨c, h1, h2⟩ => ⟨c, by rw [h1]; rfl, h2⟩, fun ⟨c, h1, h2⟩ => ⟨c, ?_, h2⟩⟩
  cases m with
  | frz d => cases d <;> simp [inM] at h1; rw [h1]
  | _ => simp [inM] at h1

section
variable {env : Env} {P : Pst} {E : XO}
@[simp ↓] theorem x_pass : wPass env P E = P.nx env := (rfl)
@[simp ↓] theorem x_seq {w u : WS} : wSeq w u env P E = w env { P with nx := fun e => u e P E } E := (rfl)
@[simp ↓] theorem x_drop {w : WE} : wDrop w env P E = w env (fun _ e => P.nx e) E := (rfl)
@[simp ↓] theorem x_ret {w : WE} : wRet w env P E = w env P.rt E := (rfl)
@[simp ↓] theorem x_retN : wRetN env P E = P.rt (.frz .non) env := (rfl)
@[simp ↓] theorem x_break : wBreak env P E = P.bk env := (rfl)
@[simp ↓] theorem x_ifS {c : WT} {w u : WS} : wIfS c w u env P E = c env (fun b e => if b = true then w e P E else u e P E) E := (rfl)
@[simp ↓] theorem x_asg {i : Nat} {w : WE} : wAsg i w env P E = w env (fun m e => atK P.nx (e.set i m)) E := (rfl)
@[simp ↓] theorem x_for {wi : WI} {g : WG} {b : WS} : wFor wi g b env P E = wi env (fun ds e => forK g b P E ds e) E := (rfl)
@[simp ↓] theorem x_while {c : WT} {b : WS} : wWhile c b env P E = whK c b P E env := (rfl)
@[simp ↓] theorem x_asgT {w : WE} {g : WG} : wAsgT w g env P E = w env (fun m e => dK (fun d => g d e P.nx) m) E := (rfl)
@[simp ↓] theorem x_setI {wv : WE} {wo wi : WO} : wSetI wv wo wi env P E = wv env (fun m e1 => dK (fun d => wo e1 (fun o e2 => wi e2 (fun oi e3 => wR (fun c => wR (fun di => gSetI c di d fun c' => atK P.nx (putAt e3 o c')) (resolve e3 oi)) (getC e3 o)) E) E) m) E := by
  unfold wSetI dK
  simp only [ex_wR2, atK_go]
  rfl
end
section
variable {env : Env} {E : XO}
@[simp ↓] theorem x_C {d : D} {P : Pl.PO} : wC d env P E = P (.frz d) env := (rfl)
def slK (i : Nat) (env : Env) (P : Op → Env → Prop) (m : OptO P) : Prop := match (show Option M from m) with
  | some (.frz d) => P (.val d) env
  | some (.lst a _) => P (.loc i a) env
  | some (.dic a _ _) => P (.loc i a) env
  | some (.obj a _ _ _) => P (.loc i a) env
  | _ => False
@[simp ↓] theorem x_slot {i : Nat} {P : Op → Env → Prop} : wSlot i env P E = slK i env P env[i]? := (rfl)
@[simp] theorem slK_frz {i : Nat} {P : Op → Env → Prop} {d : D} : slK i env P (some (.frz d)) = P (.val d) env := (rfl)
@[simp] theorem slK_lst {i : Nat} {P : Op → Env → Prop} {a : Addr} {xs : List D} : slK i env P (some (.lst a xs)) = P (.loc i a) env := (rfl)
@[simp] theorem slK_dic {i : Nat} {P : Op → Env → Prop} {a : Addr} {t : Bool} {xs : List (D × D)} : slK i env P (some (.dic a t xs)) = P (.loc i a) env := (rfl)
@[simp] theorem slK_obj {i : Nat} {P : Op → Env → Prop} {a dx : Addr} {c : Str} {fs : List (Str × Cn)} : slK i env P (some (.obj a dx c fs)) = P (.loc i a) env := (rfl)
def varK (i : Nat) (env : Env) (P : Pl.PO) (m : OptO P) : Prop := match (show Option M from m) with
  | some m => m.full ∧ P (.frz m.toD) (env.set i (.frz m.toD))
  | none => False
@[simp ↓] theorem x_var {i : Nat} {P : Pl.PO} : wVar i env P E = varK i env P env[i]? := by
  unfold wVar varK
  cases env[i]? <;> rfl
@[simp] theorem varK_frz {i : Nat} {P : Pl.PO} {d : D} : varK i env P (some (.frz d)) = atK (P (.frz d)) (env.set i (.frz d)) := by simp [varK, M.full, M.toD]
@[simp] theorem varK_lst {i : Nat} {P : Pl.PO} {a : Addr} {xs : List D} : varK i env P (some (.lst a xs)) = atK (P (.frz (.lst xs))) (env.set i (.frz (.lst xs))) := by simp [varK, M.full, M.toD]
@[simp] theorem varK_dic {i : Nat} {P : Pl.PO} {a : Addr} {t : Bool} {xs : List (D × D)} : varK i env P (some (.dic a t xs)) = atK (P (.frz (.dic t xs))) (env.set i (.frz (.dic t xs))) := by simp [varK, M.full, M.toD]
def movK (i : Nat) (env : Env) (P : Pl.PO) (m : OptO P) : Prop := match (show Option M from m) with
  | some .un => False
  | some m => P m (env.set i .un)
  | none => False
@[simp ↓] theorem x_move {i : Nat} {P : Pl.PO} : wMove i env P E = movK i env P env[i]? := by
  unfold wMove movK
  rfl
@[simp] theorem movK_frz {i : Nat} {P : Pl.PO} {d : D} : movK i env P (some (.frz d)) = atK (P (.frz d)) (env.set i .un) := (rfl)
@[simp] theorem movK_lst {i : Nat} {P : Pl.PO} {a : Addr} {xs : List D} : movK i env P (some (.lst a xs)) = atK (P (.lst a xs)) (env.set i .un) := (rfl)
@[simp] theorem movK_dic {i : Nat} {P : Pl.PO} {a : Addr} {t : Bool} {xs : List (D × D)} : movK i env P (some (.dic a t xs)) = atK (P (.dic a t xs)) (env.set i .un) := (rfl)
@[simp] theorem movK_obj {i : Nat} {P : Pl.PO} {a dx : Addr} {c : Str} {fs : List (Str × Cn)} : movK i env P (some (.obj a dx c fs)) = atK (P (.obj a dx c fs)) (env.set i .un) := (rfl)
@[simp ↓] theorem x_val {w : WE} {P : Op → Env → Prop} : wVal w env P E = w env (fun r e => dK (fun d => P (.val d) e) r) E := (rfl)
@[simp ↓] theorem x_tst {w : WE} {P : Bool → Env → Prop} : wTst w env P E = w env (fun r e => wR (fun c => P c e) (blM r)) E := by
  unfold wTst; simp only [ex_bl]
@[simp ↓] theorem x_notV {w : WE} {P : Pl.PO} : wNotV w env P E = w env (fun r e => wR (fun c => P (.frz (.bl (!c))) e) (blM r)) E := by
  unfold wNotV; simp only [ex_bl]
@[simp ↓] theorem x_andV {w u : WE} {P : Pl.PO} : wAndV w u env P E = w env (fun r e => wR (fun c => if c = true then u e P E else P (.frz (.bl false)) e) (blM r)) E := by
  unfold wAndV; simp only [ex_bl]
@[simp ↓] theorem x_orV {w u : WE} {P : Pl.PO} : wOrV w u env P E = w env (fun r e => wR (fun c => if c = true then P (.frz (.bl true)) e else u e P E) (blM r)) E := by
  unfold wOrV; simp only [ex_bl]
@[simp ↓] theorem x_if {t : WT} {w u : WE} {P : Pl.PO} : wIf t w u env P E = t env (fun c e => if c = true then w e P E else u e P E) E := (rfl)
@[simp ↓] theorem x_andT {w u : WT} {P : Bool → Env → Prop} : wAndT w u env P E = w env (fun c e => if c = true then u e P E else P false e) E := (rfl)
@[simp ↓] theorem x_orT {w u : WT} {P : Bool → Env → Prop} : wOrT w u env P E = w env (fun c e => if c = true then P true e else u e P E) E := (rfl)
@[simp ↓] theorem x_notT {w : WT} {P : Bool → Env → Prop} : wNotT w env P E = w env (fun c e => P (!c) e) E := (rfl)
@[simp ↓] theorem x_w2 {g : G2} {wa wb : WO} {P : Pl.PO} : w2 g wa wb env P E = wa env (fun o1 e1 => wb e1 (fun o2 e2 => wR (fun d1 => wR (fun d2 => g d1 d2 fun m => P m e2) (resolve e2 o2)) (resolve e2 o1)) E) E := by
  unfold w2; simp only [ex_wR2]
@[simp ↓] theorem x_chain {g g' : G2} {wa wb wc : WO} {P : Pl.PO} : wChain g g' wa wb wc env P E = wa env (fun o1 e1 => wb e1 (fun o2 e2 => wR (fun d1 => wR (fun d2 => g d1 d2 fun m => wR (fun k =>
    if k = true then wc e2 (fun o3 e3 => wR (fun d2 => wR (fun d3 => g' d2 d3 fun m => P m e3) (resolve e3 o3)) (resolve e3 o2)) E else P (.frz (.bl false)) e2) (blM m)) (resolve e2 o2)) (resolve e2 o1)) E) E := by
  unfold wChain; simp only [ex_wR2, ex_bl]
@[simp ↓] theorem x_nil {P : List Op → Env → Prop} : wNil env P E = P [] env := (rfl)
@[simp ↓] theorem x_cons {w : WO} {wa : WA} {P : List Op → Env → Prop} : wCons w wa env P E = w env (fun o e1 => wa e1 (fun os e2 => P (o :: os) e2) E) E := (rfl)
@[simp ↓] theorem x_N {g : GN} {wa : WA} {P : Pl.PO} : wN g wa env P E = wa env (fun os e1 => wR (fun ds => g ds fun m => P m e1) (resolveAll e1 os)) E := by
  unfold wN; simp only [ex_wR]
@[simp ↓] theorem x_neg {w : WE} {P : Pl.PO} : wNeg w env P E = w env (fun r e => wR (fun c => P (.frz (.int (-c))) e) (inM r)) E := by
  unfold wNeg; simp only [ex_in]
@[simp ↓] theorem x_tup {wa : WA} {P : Pl.PO} : wTup wa env P E = wa env (fun os e => wR (fun ds => ds.length ≤ sizeLine ∧ P (.frz (.tup ds)) e) (allVal os)) E := by
  unfold wTup; simp only [ex_wR]
@[simp ↓] theorem x_lst {wa : WA} {P : Pl.PO} : wLst wa env P E = wa env (fun os e => wR (fun ds => ds.length ≤ sizeLine ∧ ∀ p, P (.lst p ds) e) (allVal os)) E := by
  unfold wLst; simp only [ex_wR]
@[simp ↓] theorem x_dic {t : Bool} {P : Pl.PO} : wDic t env P E = ∀ p, P (.dic p t []) env := (rfl)
@[simp ↓] theorem x_disp1 {wk wv : WE} {P : Pl.PO} : wDisp1 wk wv env P E = wk env (fun mk e1 => dK (fun k => wv e1 (fun mv e2 => dK (fun d => keyOk false k ∧ ∀ p, P (.dic p false [(k, d)]) e2) mv) E) mk) E := (rfl)
@[simp ↓] theorem x_lrng {w : WE} {P : Pl.PO} : wLRng w env P E = w env (fun r e => wR (fun n => (0 ≤ n ∧ n ≤ 16777216) ∧ ∀ p, P (.lst p (rngD 0 n)) e) (inM r)) E := by
  unfold wLRng; simp only [ex_in]
@[simp ↓] theorem x_mut {T : String} {va : Bool} {g : GMu} {wo : WO} {wa : WA} {P : Pl.PO} : wMut T va g wo wa env P E = wo env (fun o e1 => wR (tyC T) (getC e1 o) ∧ wa e1 (fun os e2 => wR (fun c => wR (fun ds => g c ds fun d c' => atK (P (.frz d)) (putAt e2 o c')) (argD va e2 os)) (getC e2 o)) E) E := by
  unfold wMut; simp only [ex_wR, ex_wR2, atK_go]
  rfl
@[simp ↓] theorem x_call {n : Nat} {φ : Ct} {wa : WA} {P : Pl.PO} : wCall n φ wa env P E = wa env (fun os e1 => os.length = n ∧ wR (fun p => ctK φ (fun r ms' => P r (backAll p.2 os ms')) (fun c d => E c d p.2) p.1) (lendAll e1 os)) E := by
  unfold wCall
  congr 1
  funext os e1
  rw [← ex_wR]
  refine propext ⟨fun ⟨h, ms, e2, h1, h2⟩ => ⟨h, (ms, e2), h1, h2⟩, fun ⟨h, ⟨ms, e2⟩, h1, h2⟩ => ⟨h, ms, e2, h1, h2⟩⟩
@[simp ↓] theorem x_iter {w : WE} {P : List D → Env → Prop} : wIter w env P E = w env (fun m e => dK (fun d => wR (fun ds => P ds e) (itemsOf d)) m) E := by
  unfold wIter dK; simp only [ex_wR]
def rng1K (ds : List D) (k : Int → Prop) : Prop := match ds with
  | [.int j] => (-(2 ^ 62) ≤ j ∧ j < 2 ^ 62) ∧ k j
  | _ => False
def rng2K (ds : List D) (k : Int → Int → Prop) : Prop := match ds with
  | [.int i, .int j] => (-(2 ^ 62) ≤ i ∧ i < 2 ^ 62 ∧ -(2 ^ 62) ≤ j ∧ j < 2 ^ 62) ∧ k i j
  | _ => False
@[simp ↓] theorem rng1K_go (j : Int) (k : Int → Prop) : rng1K [.int j] k = ((-4611686018427387904 ≤ j ∧ j < 4611686018427387904) ∧ k j) := (rfl)
@[simp ↓] theorem rng2K_go (i j : Int) (k : Int → Int → Prop) : rng2K [.int i, .int j] k = ((-4611686018427387904 ≤ i ∧ i < 4611686018427387904 ∧ -4611686018427387904 ≤ j ∧ j < 4611686018427387904) ∧ k i j) := (rfl)
@[simp ↓] theorem x_rng1 {wa : WA} {P : List D → Env → Prop} : wRng1 wa env P E = wa env (fun os e => wR (fun ds => rng1K ds fun j => P (rngD 0 j) e) (allVal os)) E := by
  unfold wRng1
  congr 1
  funext os e
  rw [← ex_wR]
  refine propext ⟨fun ⟨j, h1, h2, h3⟩ => ⟨_, h1, h2, h3⟩, fun ⟨ds, h1, h2⟩ => ?_⟩
  unfold rng1K at h2
  split at h2
  · exact ⟨_, h1, h2⟩
  · exact h2.elim
@[simp ↓] theorem x_rng2 {wa : WA} {P : List D → Env → Prop} : wRng2 wa env P E = wa env (fun os e => wR (fun ds => rng2K ds fun i j => P (rngD i j) e) (allVal os)) E := by
  unfold wRng2
  congr 1
  funext os e
  rw [← ex_wR]
  refine propext ⟨fun ⟨i, j, h1, h2, h3⟩ => ⟨_, h1, h2, h3⟩, fun ⟨ds, h1, h2⟩ => ?_⟩
  unfold rng2K at h2
  split at h2
  · exact ⟨_, _, h1, h2⟩
  · exact h2.elim
def enK : List D → Option (List D)
  | [d] => lstOf d
  | _ => none
@[simp] theorem enK_go (d : D) : enK [d] = lstOf d := (rfl)
@[simp ↓] theorem x_enum {wa : WA} {P : List D → Env → Prop} : wEnum wa env P E = wa env (fun os e => wR (fun ds0 => wR (fun ds => P (enumD 0 ds) e) (enK ds0)) (allVal os)) E := by
  unfold wEnum
  congr 1
  funext os e
  rw [← ex_wR]
  refine propext ⟨fun ⟨d, ds, h1, h2, h3⟩ => ⟨_, h1, by rw [enK_go, h2]; exact h3⟩, fun ⟨ds, h1, h2⟩ => ?_⟩
  rw [← ex_wR] at h2
  obtain ⟨es, h2, h3⟩ := h2
  match ds, h2 with
  | [d], h2 => exact ⟨d, es, h1, h2, h3⟩
def zpK : List D → Option (List D × List D)
  | [d, d2] => match lstOf d, lstOf d2 with
    | some a, some b => some (a, b)
    | _, _ => none
  | _ => none
@[simp ↓] theorem x_zip {wa : WA} {P : List D → Env → Prop} : wZip wa env P E = wa env (fun os e => wR (fun ds0 => wR (fun p => P (zipD p.1 p.2) e) (zpK ds0)) (allVal os)) E := by
  unfold wZip
  congr 1
  funext os e
  rw [← ex_wR]
  refine propext ⟨fun ⟨d, d2, ds, es, h1, h2, h3, h4⟩ => ⟨_, h1, by simp only [zpK, h2, h3, wR_go]; exact h4⟩, fun ⟨ds, h1, h2⟩ => ?_⟩
  rw [← ex_wR] at h2
  obtain ⟨⟨a, b⟩, h2, h3⟩ := h2
  match ds, h2 with
  | [d, d2], h2 =>
    simp only [zpK] at h2
    split at h2
    · rename_i x y hx hy
      cases h2
      exact ⟨d, d2, _, _, h1, hx, hy, h3⟩
    · cases h2
@[simp] theorem zpK_lst (a b : List D) : zpK [.lst a, .lst b] = some (a, b) := (rfl)
@[simp ↓] theorem x_lc {wi : WI} {g : WG} {wt : WT} {we : WE} {own : List Nat} {P : Pl.PO} : wLc wi g wt we own env P E = wi env (fun ds e1 => (∀ i ∈ own, ∀ m, e1[i]? = some m → m.fp = []) ∧ lcK g wt we own (fun acc e3 => ∀ p, P (.lst p acc) (putB e1 e3 own)) ds [] (wipeE e1 own)) E := (rfl)
@[simp ↓] theorem x_ts0 {P : Bool → Env → Prop} : wTs0 env P E = P true env := (rfl)
def slcK (d : D) (lo hi : Option Int) (P : PM) : Prop := gSl d lo hi P
@[simp ↓] theorem x_p0 {P : Option Int → Env → Prop} : wP0 env P E = P none env := (rfl)
@[simp ↓] theorem x_p1 {w : WE} {P : Option Int → Env → Prop} : wP1 w env P E = w env (fun r e => wR (fun i => P (some i) e) (inM r)) E := by
  unfold wP1; simp only [ex_in]
@[simp ↓] theorem x_sl {wa : WO} {wl wh : WP} {P : Pl.PO} : wSl wa wl wh env P E = wa env (fun o e1 => wl e1 (fun lo e2 => wh e2 (fun hi e3 => wR (fun d => gSl d lo hi fun m => P m e3) (resolve e3 o)) E) E) E := by
  unfold wSl; simp only [ex_wR]
def ofK (o : Op) (e : Env) (P : Pl.PO) : Prop := match o with
  | .val d => P (.frz d) e
  | o => ∃ c, getC e o = some c ∧ P (.frz c.toD) (putAt e o (.frz c.toD))
@[simp ↓] theorem x_of {w : WO} {P : Pl.PO} : wOf w env P E = w env (fun o e => ofK o e P) E := (rfl)
@[simp ↓] theorem ofK_val {d : D} {e : Env} {P : Pl.PO} : ofK (.val d) e P = P (.frz d) e := (rfl)
end
/-! ### targets -/
section
variable {env : Env} {P : Env → Prop}
@[simp ↓] theorem x_tn {i : Nat} {d : D} : wTn i d env P = atK P (env.set i (.frz d)) := (rfl)
@[simp ↓] theorem x_tt {n : Nat} {w : WGs} {ds : List D} : wTt n w (.tup ds) env P = (ds.length = n ∧ w ds env P) := by
  unfold wTt
  refine propext ⟨fun ⟨es, h1, h2, h3⟩ => ?_, fun h => ⟨ds, rfl, h⟩⟩
  cases h1
  exact ⟨h2, h3⟩
@[simp ↓] theorem x_tl {n : Nat} {w : WGs} {ds : List D} : wTl n w (.lst ds) env P = (ds.length = n ∧ w ds env P) := by
  unfold wTl
  refine propext ⟨fun ⟨es, h1, h2, h3⟩ => ?_, fun h => ⟨ds, .inl rfl, h⟩⟩
  rcases h1 with h1 | ⟨ns, h1, _⟩
  · cases h1
    exact ⟨h2, h3⟩
  · cases h1
@[simp ↓] theorem x_t0 {ds : List D} : wT0 ds env P = (ds = [] ∧ P env) := (rfl)
@[simp ↓] theorem x_t1 {w : WG} {u : WGs} {d : D} {r : List D} : wT1 w u (d :: r) env P = w d env (fun e => u r e P) := by
  unfold wT1
  refine propext ⟨fun ⟨es, h1, h2, h3⟩ => ?_, fun h => ⟨d, r, rfl, h⟩⟩
  cases h2
  exact h3
end
/-! ### environments -/
def M.cn (a : Addr) : M → Option Cn
  | .lst b xs => if a = b then some (.lst b xs) else none
  | .dic b t kvs => if a = b then some (.dic b t kvs) else none
  | _ => none
@[simp] theorem cn_lst (a : Addr) (xs : List D) : M.cn a (.lst a xs) = some (.lst a xs) := by simp [M.cn]
@[simp] theorem cn_dic (a : Addr) (t : Bool) (xs : List (D × D)) : M.cn a (.dic a t xs) = some (.dic a t xs) := by simp [M.cn]
@[simp] theorem getC_loc (e : Env) (i : Nat) (a : Addr) : getC e (.loc i a) = (e[i]?).bind (M.cn a) := by
  simp only [getC]
  cases e[i]? with
  | none => rfl
  | some m => cases m <;> rfl
@[simp] theorem putAt_loc (e : Env) (i : Nat) (a : Addr) (c : Cn) : putAt e (.loc i a) c = e.set i c.toM := (rfl)
@[simp] theorem toM_frz (d : D) : (Cn.frz d).toM = .frz d := (rfl)
@[simp] theorem toM_lst (a : Addr) (xs : List D) : (Cn.lst a xs).toM = .lst a xs := (rfl)
@[simp] theorem toM_dic (a : Addr) (t : Bool) (xs : List (D × D)) : (Cn.dic a t xs).toM = .dic a t xs := (rfl)
@[simp] theorem resolve_val (e : Env) (d : D) : resolve e (.val d) = some d := (rfl)
@[simp] theorem resolve_loc (e : Env) (i : Nat) (a : Addr) : resolve e (.loc i a) = (e[i]?).bind (M.own a) := by
  simp only [resolve]
  cases e[i]? <;> rfl
@[simp] theorem resolveAll_nil (e : Env) : resolveAll e [] = some [] := (rfl)
@[simp] theorem resolveAll_cons (e : Env) (o : Op) (r : List Op) : resolveAll e (o :: r) = (resolve e o).bind fun d => (resolveAll e r).map (d :: ·) := by
  simp only [resolveAll]
  cases resolve e o with
  | none => rfl
  | some d => cases resolveAll e r <;> rfl
@[simp] theorem allVal_nil : allVal [] = some [] := (rfl)
@[simp] theorem allVal_cons (d : D) (r : List Op) : allVal (.val d :: r) = (allVal r).map (d :: ·) := (rfl)
@[simp] theorem argD_t (e : Env) (os : List Op) : argD true e os = allVal os := (rfl)
@[simp] theorem argD_f (e : Env) (os : List Op) : argD false e os = resolveAll e os := (rfl)
@[simp] theorem tyC_lst (T : String) (a : Addr) (xs : List D) : tyC T (.lst a xs) = (T = "list") := (rfl)
@[simp] theorem tyC_dic (T : String) (a : Addr) (t : Bool) (xs : List (D × D)) : tyC T (.dic a t xs) = (T = "dict") := (rfl)
@[simp] theorem lendAll_nil (e : Env) : lendAll e [] = some ([], e) := (rfl)
@[simp] theorem lendAll_cons (e : Env) (o : Op) (r : List Op) : lendAll e (o :: r) = (argM e o).bind fun m => (lendAll (takeO e o) r).map fun p => (m :: p.1, p.2) := by
  simp only [lendAll]
  cases argM e o with
  | none => rfl
  | some d => cases lendAll (takeO e o) r <;> rfl
@[simp] theorem argM_val (e : Env) (d : D) : argM e (.val d) = some (.frz d) := (rfl)
def M.lent (a : Addr) (m : M) : Option M := if (m.own a).isSome = true then some m else none
@[simp] theorem argM_loc (e : Env) (i : Nat) (a : Addr) : argM e (.loc i a) = (e[i]?).bind (M.lent a) := by
  simp only [argM]
  cases e[i]? <;> rfl
@[simp] theorem lent_lst (a : Addr) (xs : List D) : M.lent a (.lst a xs) = some (.lst a xs) := by simp [M.lent, M.own]
@[simp] theorem lent_dic (a : Addr) (t : Bool) (xs : List (D × D)) : M.lent a (.dic a t xs) = some (.dic a t xs) := by simp [M.lent, M.own]
@[simp] theorem lent_obj (a dx : Addr) (c : Str) (fs : List (Str × Cn)) : M.lent a (.obj a dx c fs) = some (.obj a dx c fs) := by simp [M.lent, M.own]
@[simp] theorem takeO_val (e : Env) (d : D) : takeO e (.val d) = e := (rfl)
@[simp] theorem takeO_loc (e : Env) (i : Nat) (a : Addr) : takeO e (.loc i a) = e.set i .un := (rfl)
@[simp] theorem putO_val (e : Env) (d : D) (m : M) : putO e (.val d) m = e := (rfl)
@[simp] theorem putO_loc (e : Env) (i : Nat) (a : Addr) (m : M) : putO e (.loc i a) m = e.set i m := (rfl)
@[simp] theorem backAll_nil (e : Env) (ms : List M) : backAll e [] ms = e := by simp only [backAll]
@[simp] theorem backAll_cons (e : Env) (o : Op) (r : List Op) (m : M) (ms : List M) : backAll e (o :: r) (m :: ms) = backAll (putO e o m) r ms := by simp only [backAll]
@[simp] theorem wipeE_nil (e : Env) : wipeE e [] = e := (rfl)
@[simp] theorem wipeE_cons (e : Env) (v : Nat) (vs : List Nat) : wipeE e (v :: vs) = (wipeE e vs).set v .un := (rfl)
@[simp] theorem putB_nil (e f : Env) : putB e f [] = f := (rfl)
@[simp] theorem putB_cons (e f : Env) (v : Nat) (vs : List Nat) : putB e f (v :: vs) = (putB e f vs).set v ((e[v]?).getD .un) := (rfl)
@[simp] theorem own_lst (a : Addr) (xs : List D) : (M.lst a xs).own a = some (.lst xs) := by simp [M.own]
@[simp] theorem own_dic (a : Addr) (t : Bool) (kvs : List (D × D)) : (M.dic a t kvs).own a = some (.dic t kvs) := by simp [M.own]
@[simp] theorem own_obj (a dx : Addr) (c : Str) (fs : List (Str × Cn)) : (M.obj a dx c fs).own a = some (.obj c (fs.map fun p => (p.1, p.2.toD))) := by simp [M.own]
@[simp] theorem fp_un : M.un.fp = [] := (rfl)
@[simp] theorem fp_frz (d : D) : (M.frz d).fp = [] := (rfl)
@[simp] theorem itemsOf_lst (xs : List D) : itemsOf (.lst xs) = some xs := (rfl)
@[simp] theorem itemsOf_tup (xs : List D) : itemsOf (.tup xs) = some xs := (rfl)
@[simp] theorem itemsOf_scr (ns : List Int) : itemsOf (.scr ns) = some (ns.map .int) := (rfl)
@[simp] theorem itemsOf_dic (t : Bool) (kvs : List (D × D)) : itemsOf (.dic t kvs) = some (kvs.map (·.1)) := (rfl)
@[simp] theorem lstOf_lst (xs : List D) : lstOf (.lst xs) = some xs := (rfl)
@[simp] theorem lstOf_scr (ns : List Int) : lstOf (.scr ns) = some (ns.map .int) := (rfl)
@[simp] theorem keyOk_str (x : Str) : keyOk false (.str x) = True := by simp [keyOk, keyOf]
@[simp] theorem keyOk_int (x : Int) : keyOk false (.int x) = True := by simp [keyOk, keyOf]
/-! ### operations -/
@[simp ↓] theorem gAdd_int (a b : Int) (P : PM) : gAdd (.int a) (.int b) P = P (.frz (.int (a + b))) := (rfl)
@[simp ↓] theorem gAdd_str (a b : Str) (P : PM) : gAdd (.str a) (.str b) P = (a.length + b.length ≤ sizeLine ∧ P (.frz (.str (a ++ b)))) := (rfl)
@[simp ↓] theorem gAdd_lst (a b : List D) (P : PM) : gAdd (.lst a) (.lst b) P = (a.length + b.length ≤ sizeLine ∧ ∀ p, P (.lst p (a ++ b))) := (rfl)
@[simp ↓] theorem gAdd_tup (a b : List D) (P : PM) : gAdd (.tup a) (.tup b) P = (a.length + b.length ≤ sizeLine ∧ P (.frz (.tup (a ++ b)))) := (rfl)
@[simp ↓] theorem gI_int (C : Int → Int → Prop) (f : Int → Int → D) (a b : Int) (P : PM) : gI C f (.int a) (.int b) P = (C a b ∧ P (.frz (f a b))) := (rfl)
@[simp ↓] theorem gLt_int (a b : Int) (P : PM) : gLt (.int a) (.int b) P = P (.frz (.bl (decide (a < b)))) := (rfl)
@[simp ↓] theorem gLt_str (a b : Str) (P : PM) : gLt (.str a) (.str b) P = P (.frz (.bl (decide (strLt a b)))) := (rfl)
@[simp ↓] theorem gEq_go (a b : D) (P : PM) : gEq a b P = ((∃ c, okD c a 60 ∧ okD c b 60) ∧ P (.frz (.bl (decide (a = b))))) := (rfl)
@[simp ↓] theorem gNe_go (a b : D) (P : PM) : gNe a b P = ((∃ c, okD c a 60 ∧ okD c b 60) ∧ P (.frz (.bl (decide (a ≠ b))))) := (rfl)
@[simp ↓] theorem gIs_non (d : D) (P : PM) : gIs d .non P = P (.frz (.bl (decide (d = .non)))) := by cases d <;> rfl
@[simp ↓] theorem gIs_bl (a b : Bool) (P : PM) : gIs (.bl a) (.bl b) P = P (.frz (.bl (decide (a = b)))) := (rfl)
@[simp ↓] theorem gIsNot_non (d : D) (P : PM) : gIsNot d .non P = P (.frz (.bl (decide (d ≠ .non)))) := by cases d <;> rfl
@[simp ↓] theorem gIsNot_bl (a b : Bool) (P : PM) : gIsNot (.bl a) (.bl b) P = P (.frz (.bl (decide (a ≠ b)))) := (rfl)
@[simp ↓] theorem gIn_go (a b : D) (P : PM) : gIn a b P = (inOk a b ∧ P (.frz (.bl (decide (inP a b))))) := (rfl)
@[simp ↓] theorem gNotIn_go (a b : D) (P : PM) : gNotIn a b P = (inOk a b ∧ P (.frz (.bl (decide (¬ inP a b))))) := (rfl)
@[simp ↓] theorem gLen_lst (xs : List D) (P : PM) : gLen [.lst xs] P = P (.frz (.int xs.length)) := (rfl)
@[simp ↓] theorem gLen_tup (xs : List D) (P : PM) : gLen [.tup xs] P = P (.frz (.int xs.length)) := (rfl)
@[simp ↓] theorem gLen_scr (xs : List Int) (P : PM) : gLen [.scr xs] P = P (.frz (.int xs.length)) := (rfl)
@[simp ↓] theorem gLen_str (z : Str) (P : PM) : gLen [.str z] P = (z.length ≤ sizeLine ∧ P (.frz (.int z.length))) := (rfl)
@[simp ↓] theorem gLen_dic (t : Bool) (kvs : List (D × D)) (P : PM) : gLen [.dic t kvs] P = P (.frz (.int kvs.length)) := (rfl)
@[simp ↓] theorem gAbs_int (i : Int) (P : PM) : gAbs [.int i] P = P (.frz (.int (if i < 0 then -i else i))) := (rfl)
@[simp ↓] theorem gInt_int (i : Int) (P : PM) : gInt [.int i] P = P (.frz (.int i)) := (rfl)
@[simp ↓] theorem gInt_bl (k : Bool) (P : PM) : gInt [.bl k] P = P (.frz (.int (if k then 1 else 0))) := (rfl)
@[simp ↓] theorem gMax2_int (i j : Int) (P : PM) : gMax2 [.int i, .int j] P = P (.frz (.int (if j > i then j else i))) := (rfl)
@[simp ↓] theorem gMin2_int (i j : Int) (P : PM) : gMin2 [.int i, .int j] P = P (.frz (.int (if j < i then j else i))) := (rfl)
@[simp ↓] theorem gAll_lst (xs : List D) (P : PM) : gAll [.lst xs] P = wR (fun bs => P (.frz (.bl (bs.all id)))) (blsOf xs) := by rw [← ex_wR]; rfl
@[simp ↓] theorem gAny_lst (xs : List D) (P : PM) : gAny [.lst xs] P = wR (fun bs => P (.frz (.bl (bs.any id)))) (blsOf xs) := by rw [← ex_wR]; rfl
@[simp ↓] theorem gList_lst (xs : List D) (P : PM) : gList [.lst xs] P = ∀ p, P (.lst p xs) := (rfl)
@[simp ↓] theorem gList_tup (xs : List D) (P : PM) : gList [.tup xs] P = ∀ p, P (.lst p xs) := (rfl)
@[simp ↓] theorem gList_scr (xs : List Int) (P : PM) : gList [.scr xs] P = ∀ p, P (.lst p (xs.map .int)) := (rfl)
@[simp ↓] theorem gTuple_lst (xs : List D) (P : PM) : gTuple [.lst xs] P = P (.frz (.tup xs)) := (rfl)
@[simp ↓] theorem gTuple_tup (xs : List D) (P : PM) : gTuple [.tup xs] P = P (.frz (.tup xs)) := (rfl)
@[simp ↓] theorem gStrF_int (i : Int) (P : PM) : gStrF [.int i] P = (i.natAbs.log2 < 1920 ∧ P (.frz (.str (toString i)))) := (rfl)
@[simp ↓] theorem gStrF_str (x : Str) (P : PM) : gStrF [.str x] P = P (.frz (.str x)) := (rfl)
@[simp ↓] theorem gRepr_go (d : D) (P : PM) : gRepr [d] P = ((rOk d ∧ d.pdR.showable = true ∧ d.pdR.depth ≤ 60 ∧ (reprD d).length ≤ sizeLine) ∧ P (.frz (.str (reprD d)))) := by
  refine propext ⟨fun ⟨a, b, c, d, e⟩ => ⟨⟨a, b, c, d⟩, e⟩, fun ⟨⟨a, b, c, d⟩, e⟩ => ⟨a, b, c, d, e⟩⟩
@[simp ↓] theorem gIx_lst (xs : List D) (i : Int) (P : PM) : gIx (.lst xs) (.int i) P = wR (fun d => P (.frz d)) (L2.atI xs i) := by rw [← ex_wR]; rfl
@[simp ↓] theorem gIx_tup (xs : List D) (i : Int) (P : PM) : gIx (.tup xs) (.int i) P = wR (fun d => P (.frz d)) (L2.atI xs i) := by rw [← ex_wR]; rfl
@[simp ↓] theorem gIx_scr (xs : List Int) (i : Int) (P : PM) : gIx (.scr xs) (.int i) P = wR (fun n => P (.frz (.int n))) (L2.atI xs i) := by rw [← ex_wR]; rfl
@[simp ↓] theorem gIx_dic (t : Bool) (kvs : List (D × D)) (k : D) (P : PM) : gIx (.dic t kvs) k P = (keyOk t k ∧ wR (fun d => P (.frz d)) (dget kvs k)) := by rw [← ex_wR]; cases k <;> rfl
@[simp ↓] theorem gAppend_lst (a : Addr) (xs : List D) (d : D) (P : D → Cn → Prop) : gAppend (.lst a xs) [d] P = (xs.length < sizeLine ∧ P .non (.lst a (xs ++ [d]))) := (rfl)
@[simp ↓] theorem gExtend_lst (a : Addr) (xs ys : List D) (P : D → Cn → Prop) : gExtend (.lst a xs) [.lst ys] P = (xs.length + ys.length ≤ sizeLine ∧ P .non (.lst a (xs ++ ys))) := (rfl)
@[simp ↓] theorem gSetI_lst (a : Addr) (xs : List D) (k : Int) (d : D) (P : Cn → Prop) : gSetI (.lst a xs) (.int k) d P = wR (fun j => P (.lst a (xs.set j d))) (ixN xs.length k) := by rw [← ex_wR]; rfl
@[simp ↓] theorem gSetI_dic (a : Addr) (t : Bool) (kvs : List (D × D)) (k d : D) (P : Cn → Prop) : gSetI (.dic a t kvs) k d P = (keyOk t k ∧ kvs.length < sizeLine ∧ P (.dic a t (dput kvs k d))) := by cases k <;> rfl
theorem atI_nat {α : Type} {xs : List α} {i : Int} {j : Nat} {d : α} (hi : i = (j : Nat)) (h : xs[j]? = some d) : L2.atI xs i = some d := by
  subst hi
  obtain ⟨h1, h2⟩ := List.getElem?_eq_some_iff.mp h
  have h3 : (j : Int) < (xs.length : Int) := by omega
  simp [L2.atI, ixN, h3, h]
@[simp] theorem atI_0 {α : Type} (x : α) (xs : List α) : L2.atI (x :: xs) 0 = some x := atI_nat (j := 0) rfl rfl
@[simp] theorem atI_1 {α : Type} (x y : α) (xs : List α) : L2.atI (x :: y :: xs) 1 = some y := atI_nat (j := 1) rfl rfl
@[simp] theorem atI_2 {α : Type} (x y z : α) (xs : List α) : L2.atI (x :: y :: z :: xs) 2 = some z := atI_nat (j := 2) rfl rfl
@[simp] theorem atI_3 {α : Type} (x y z u : α) (xs : List α) : L2.atI (x :: y :: z :: u :: xs) 3 = some u := atI_nat (j := 3) rfl rfl
theorem atI_mem {α : Type} {xs : List α} {i : Int} (h0 : 0 ≤ i) (h1 : i < xs.length) : ∃ d, d ∈ xs ∧ L2.atI xs i = some d := by
  have hj : i.toNat < xs.length := by omega
  exact ⟨xs[i.toNat], List.getElem_mem hj, atI_nat (j := i.toNat) (by omega) (List.getElem?_eq_getElem hj)⟩
theorem ixN_nat {n : Nat} {i : Int} {j : Nat} (hi : i = (j : Nat)) (h : j < n) : ixN n i = some j := by
  subst hi
  have h3 : (j : Int) < (n : Int) := by omega
  simp [ixN, h3]
@[simp] theorem ixN_30 : ixN 3 0 = some 0 := ixN_nat rfl (by decide)
@[simp] theorem ixN_32 : ixN 3 2 = some 2 := ixN_nat rfl (by decide)
theorem blsOf_map (bs : List Bool) : blsOf (bs.map D.bl) = some bs := by
  induction bs with
  | nil => rfl
  | cons b bs ih => simp [blsOf, ih]
@[simp] theorem okD_int (c : Bool) (i : Int) (n : Nat) : okD c (.int i) n = (c = true) := by simp only [okD]
@[simp] theorem okD_bl (c b : Bool) (n : Nat) : okD c (.bl b) n = (c = false) := by simp only [okD]
@[simp] theorem okD_non (c : Bool) (n : Nat) : okD c .non n = True := by simp only [okD]
@[simp] theorem okD_str (c : Bool) (x : Str) (n : Nat) : okD c (.str x) n = (PyData.strOk x = true) := by simp only [okD]
@[simp] theorem padM_go (e : Env) (a n : Nat) : padM e a n = e.take a ++ List.replicate (n - a) .un := (rfl)
/-! ### draws -/
/-- a pot of draws: its own digits, what is mixed in, how many were drawn -/
def PotM (n : Nat) (m : M) : Prop := ∃ a own mix cnt, m = .lst a [.int own, .int mix, .int cnt] ∧ 0 ≤ own ∧ own < 10 ^ 300 ∧ 0 ≤ mix ∧ mix < 2 ^ 61 ∧ 0 ≤ cnt ∧ cnt ≤ (n : Nat)
theorem PotM.mono {n k : Nat} {m : M} (h : PotM n m) (hk : n ≤ k) : PotM k m := by
  obtain ⟨a, o, x, c, rfl, h1, h2, h3, h4, h5, h6⟩ := h
  exact ⟨a, o, x, c, rfl, h1, h2, h3, h4, h5, by omega⟩
theorem PotM.full {n : Nat} {m : M} (h : PotM n m) : m.full := by
  obtain ⟨a, o, x, c, rfl, _⟩ := h
  trivial
/-- the contract of a draw below u -/
def φTake : Ct := fun ms P _ => ∃ (n : Nat) (m : M) (u : Int), ms = [m, .frz (.int u)] ∧ PotM n m ∧ n < 1000000 ∧ 1 ≤ u ∧ u ≤ 1000000000 ∧ ∀ r m', 0 ≤ r → r < u → PotM (n + 1) m' → P (.frz (.int r)) [m', .frz (.int u)]
theorem mul_ok {i j : Int} {a b : Nat} (ha : i.natAbs < 2 ^ a) (hb : j.natAbs < 2 ^ b) (h0 : 0 < a := by decide) (h1 : 0 < b := by decide) (h : a + b ≤ 1000000 := by decide) : CMulW i j := wide_mul ha hb h0 h1 h
end Pl

namespace Pl
open PySem PySem.Spec PyProof.Rows L2
open Classical

/-! ### own exceptions as values -/
/-- the def __init__ of the class D: super().__init__(value); self.value = value -/
structure ExF (P : Program) (K : Fr) (D fI : Addr) : Prop where
  fn : ∃ (oc : Value) (od : Option Addr) (nm qual : Str) (params : Arguments) (scope : Scope) (dV kV doc pm : Value) (an : Option Addr) (cda cc : Addr) (ct : Value) (osl : Array (Option Value)) (a1 a2 : Arg) (p0 p1 p2 p3 p4 p5 p6 p7 p8 p9 : Pos),
    K.lookup fI = some ⟨oc, od, .func (PySem.W.ksFn nm qual params [.Expr (.Call (.Attribute (.Call (.Name "super" p0) [] [] p1) "__init__" p2) [.Name "value" p3] [] p4) p5, .Assign [.Attribute (.Name "self" p6) "value" p7] (.Name "value" p8) p9] scope dV kV doc pm an (.ref cda) ct cc), osl⟩ ∧
    PySem.W.codeIn K (.ref cda) qual = true ∧ (params.posonlyargs ++ params.args).head? = some a1 ∧ a1.arg = "self" ∧
    (∀ s u v, BindsTo s (PySem.W.ksFn nm qual params [.Expr (.Call (.Attribute (.Call (.Name "super" p0) [] [] p1) "__init__" p2) [.Name "value" p3] [] p4) p5, .Assign [.Attribute (.Name "self" p6) "value" p7] (.Name "value" p8) p9] scope dV kV doc pm an (.ref cda) ct cc) ⟨[u, v], []⟩ [("self", u), ("value", v)]) ∧
    (∃ ccl cdd vs ccs file tf, K.lookup cda = some ⟨ccl, cdd, .fields vs, ccs⟩ ∧ vs[2]? = some (.str file tf) ∧ ((P.main.file : Str) == file) = true) ∧
    (∃ cl cld csl, K.lookup cc = some ⟨cl, cld, .cell (some (.ref D)), csl⟩) ∧
    (∀ env : PySem.Env, ∃ pl : Sem Bool, eval (.Call (.Attribute (.Call (.Name "super" p0) [] [] p1) "__init__" p2) [.Name "value" p3] [] p4) env = (do
      let ov ← attributeBase (.Call (.Name "super" p0) [] [] p1) "__init__" env (eval (.Call (.Name "super" p0) [] [] p1) env)
      standAt p2.atName
      let (f, first) ← holding [ov] (getMethod ov "__init__" pl)
      callWith p4 f first (backTo p4 (starEach [.Name "value" p3] env)) [])) ∧
    (∀ env : PySem.Env, env.scope = scope → interactive env = false ∧ swapsWith (.Call (.Attribute (.Call (.Name "super" p0) [] [] p1) "__init__" p2) [.Name "value" p3] [] p4) none p5.line env = pure false ∧
      swapsWith (.Name "value" p8) (some (.Attribute (.Name "self" p6) "value" p7)) p9.line env = pure false) ∧
    scope.kind = .function ∧ scope.isCoroutine = false ∧ scope.isGenerator = false ∧ (∀ x ∈ scope.names, x.2 ≠ .cell) ∧
    scope.names.lookup ("self" : Str) = some NameKind.local ∧ scope.names.lookup ("value" : Str) = some NameKind.local ∧ scope.names.lookup ("super" : Str) = some NameKind.globalImplicit ∧ scope.names.lookup ("__class__" : Str) = some NameKind.free
  cls : ∃ cdD, PySem.W.clsIn K D = some cdD
  sup : PySem.W.nsIn K mainGlobals "super" = some none
  tp : PySem.W.nsIn K cStatics "thirdparty.any" = some none
  top : (P.main.scope.names.lookup ("super" : Str)).isSome = false
abbrev veB : List Value := [.type "ValueError", .type "Exception", .type "BaseException", .type "object"]
/-- a class C of exceptions that takes its __init__ from D -/
structure ExC (K : Fr) (D fI C : Addr) : Prop where
  hi : PySem.W.findIn K (.ref C) "__init__" = some (some (.ref fI))
  q : PySem.W.excInitIn K C veB "ValueError.__new__" = true
  hf : PySem.W.isFn K (.ref fI) = true
  kp : PySem.W.keepIn K (.ref C) = true
  sup : PySem.W.ks_superIn K C D "__init__" = some (some (.builtin "ValueError.__init__"))
  ve : PySem.W.subIn K (.ref C) (.type "ValueError") = some true
  sub : PySem.W.mroIn K C (.ref D) = some true
  st : PySem.W.findIn K (.ref C) "__setattr__" = some (some (.builtin "object.__setattr__"))
  ov : PySem.W.excOver K C veB = true
  tk : PySem.W.takerIn K C "value" = some none
  hd : PySem.W.hasDictIn K C = true
  ga : PySem.W.findIn K (.ref C) "__getattribute__" = some (some (.builtin "BaseException.__getattribute__"))
  gt : PySem.W.findIn K (.ref C) "__getattr__" = some none
  be : PySem.W.subIn K (.ref C) (.type "BaseException") = some true
  nv : PySem.W.findIn K (.ref C) "value" = some none
theorem ne_all {d : Addr} {l : List (Addr × Obj)} (h : ∀ p ∈ l, p.1 ≠ d) : PySem.W.AllNe d l := by
  induction l with
  | nil => trivial
  | cons p r ih => exact ⟨h p List.mem_cons_self, ih fun q hq => h q (List.mem_cons_of_mem _ hq)⟩
theorem ns1_one {h : Heap} {dx : Addr} {hsh : Int} {tk : Tok} {u : Value} {n : Nat} (q : h.get? dx = some (PySem.W.dictOf [⟨hsh, .str "value" tk, u⟩] n)) : h.Ns1 dx (fun f => if f = ("value" : Str) then some u else none) := by
  refine ⟨_, _, _, q, rfl, fun z hz => ?_, ?_, fun f => ?_⟩
  · simp at hz
    exact ⟨"value", tk, by rw [hz]⟩
  · simp [UniqKeys]
  · have e : (Value.str "value" tk).isStr f = decide (f = ("value" : Str)) := by
      by_cases hf : f = ("value" : Str)
      · subst hf; simp [Value.isStr]
      · rw [decide_eq_false hf]
        simp only [Value.isStr]
        exact beq_eq_false_iff_ne.mpr fun z => hf z.symm
    unfold nsFind findBy
    dsimp only
    by_cases hf : f = ("value" : Str)
    · rw [if_pos hf]; simp [e, decide_eq_true hf]
    · rw [if_neg hf]; simp [e, decide_eq_false hf]
theorem relO_one {x : V} {u : Value} (r : RelV x u) (f : Str) : RelO ((([("value", x)] : List (Str × V))).lookup f) (if f = ("value" : Str) then some u else none) := by
  rw [List.lookup_cons]
  by_cases hf : f = ("value" : Str)
  · rw [if_pos hf]
    have : (f == ("value" : Str)) = true := beq_iff_eq.mpr hf
    rw [this]; exact r
  · rw [if_neg hf]
    have : (f == ("value" : Str)) = false := beq_eq_false_iff_ne.mpr hf
    rw [this]; trivial
section
variable {X : Cx} {pins : List (Addr × Obj)} {σ : L2.St} {H : Hp} {s : Shared} {D fI C : Addr}
theorem exc_run (EF : ExF X.prog X.K D fI) (EC : ExC X.K D fI C) (hr : Room 4 X.A) (I : Inv X pins σ H s) {x : V} {u : Value} (ru : RelV x u) {Q : VK}
    (h : ∀ e dx, H e = none → H dx = none → dx ≠ e → Q (.ref e) (upd (upd H dx (.xd [("value", x)])) e (ExV C dx e))) : wpAny (model X.prog X.w) X.A (PySem.call (.ref C) [u]) (EP X pins σ Q) X.xe s := by
  have KX : X.K.In s.heap := I.kIn
  obtain ⟨oc, od, nm, qual, params, scope, dV, kV, doc, pm, an, cda, cc, ct, osl, a1, a2, p0, p1, p2, p3, p4, p5, p6, p7, p8, p9, hfn, hcd, hhead, ha1, hbind, ⟨ccl, cdd, vs, ccs, file, tf, hcda, hvs, hfile⟩, ⟨cl, cld, csl, hcell⟩, hcall, hsw, sk, sco, sgen, scell, sself, svalue, ssuper, sclass⟩ := EF.fn
  obtain ⟨cdD, hD⟩ := EF.cls
  have FB := PySem.F.excBase_ValueError
  obtain ⟨nmC, N', qnC, bs, bm, hdct, sn, sub, ab, col, dd, k0, k1, k2, k3, k5, hC, hT⟩ := PySem.W.excInit_of KX EC.q
  obtain ⟨oI, hoI, hcI⟩ : ∃ oI, s.heap.get? fI = some oI ∧ oI.cls = .type "function" := by
    obtain ⟨o, ho, hc⟩ := Option.map_eq_some_iff.mp (show (X.K.lookup fI).map (·.cls) = some (.type "function") from beq_iff_eq.mp EC.hf)
    exact ⟨o, KX _ _ ho, hc⟩
  have hi' : PySem.W.Looks (model X.prog X.w) s.heap (typeLookup (.ref C) "__init__") (some (.ref fI)) := PySem.W.looks_findIn KX EC.hi
  have keep0 : X.base.NoLimit := I.mod.nolimit
  have lim : s.heap.NoLimit := I.nolimit
  have gl := I.mod.glob
  have hbs := I.bk
  obtain ⟨hh, g, d, tk, os⟩ := s
  dsimp only at KX hC hoI hi' lim hbs
  refine wpAny_call (PX.call_own FB hT hC hi' (fun self => PySem.W.exc_bind hoI hcI self) (rest := [u]) (by show 1 ≤ sizeLine; rw [sizeLine_eq]; decide) ?_)
  show codeAny (model X.prog X.w) (X.A.under (.builtin "type.__call__" ⟨.ref C :: [u], []⟩)) (.call (.ref fI) ⟨[.ref (hh.objs.size + 1), u], []⟩) _ ⟨(hh.push (PySem.W.excTup [u])).push (PySem.W.excObj C hh.objs.size none .none), g, d, tk, os⟩
  have k1 : ∀ b o, hh.get? b = some o → ((hh.push (PySem.W.excTup [u])).push (PySem.W.excObj C hh.objs.size none .none)).get? b = some o := fun b o q => Heap.get?_push_of_some _ (Heap.get?_push_of_some _ q)
  have ke : ((hh.push (PySem.W.excTup [u])).push (PySem.W.excObj C hh.objs.size none .none)).get? (hh.objs.size + 1) = some (PySem.W.excObj C hh.objs.size none .none) := by
    have := Heap.get?_push_size (hh.push (PySem.W.excTup [u])) (o := PySem.W.excObj C hh.objs.size none .none) rfl
    rwa [Heap.size_push] at this
  have kt : ((hh.push (PySem.W.excTup [u])).push (PySem.W.excObj C hh.objs.size none .none)).get? hh.objs.size = some (PySem.W.excTup [u]) := Heap.get?_push_of_some _ (Heap.get?_push_size _ rfl)
  have hsz : ((hh.push (PySem.W.excTup [u])).push (PySem.W.excObj C hh.objs.size none .none)).objs.size = hh.objs.size + 2 := by rw [Heap.size_push, Heap.size_push]
  generalize hh1 : (hh.push (PySem.W.excTup [u])).push (PySem.W.excObj C hh.objs.size none .none) = h1 at k1 ke kt hsz ⊢
  have hroom : (X.A.under (.builtin "type.__call__" ⟨.ref C :: [u], []⟩)).depth < recursionLimit := by rw [make_depth]; have := hr.dp; omega
  refine PySem.ks_codeAny_call_defAt (s := ⟨h1, g, d, tk, os⟩) hroom (k1 _ _ (KX _ _ hfn)) rfl (lim.keeps k1) (PySem.W.codeRec_of (KX.keeps k1) hcd) rfl (hbind _ _ _) scell (fun y hy => ?_) (fun h0 hns hk => ?_) sco sgen sk
  · rcases List.mem_cons.mp hy with rfl | hy
    · exact sself
    · rcases List.mem_cons.mp hy with rfl | hy
      · exact svalue
      · cases hy
  have F0 : PyProof.Rows.Fr hh h1.objs.size h0 (fun y => ([("self", Value.ref (hh.objs.size + 1)), ("value", u)] : List (Str × Value)).reverse.lookup y) := ⟨hns, fun b o q => hk _ _ (k1 _ _ q), by rw [hsz]; omega⟩
  have kall : ∀ b o, h1.get? b = some o → h0.get? b = some o := hk
  have news0 : PyProof.Rows.News hh h1.objs.size h0 [(hh.objs.size + 1, PySem.W.excObj C hh.objs.size none .none), (hh.objs.size, PySem.W.excTup [u])] := fun p hp => by
    have no : ∀ b, hh.objs.size ≤ b → hh.get? b = none := fun b hb => by
      cases z : hh.get? b with
      | none => rfl
      | some o => exact absurd (Heap.lt_size z) (Nat.not_lt.mpr hb)
    rcases List.mem_cons.mp hp with rfl | hp
    · exact ⟨kall _ _ ke, by rw [hsz]; exact Nat.ne_of_lt (by omega), no _ (Nat.le_succ _)⟩
    · rcases List.mem_cons.mp hp with rfl | hp
      · exact ⟨kall _ _ kt, by rw [hsz]; exact Nat.ne_of_lt (by omega), no _ (Nat.le_refl _)⟩
      · cases hp
  have hboot : bootBuiltins "super" = some (.type "super") := by decide +kernel
  obtain ⟨mb, hmb, hbb⟩ := I.mod.blt
  have KX0 : X.K.In h0 := KX.keeps F0.keep
  obtain ⟨oD, hD1, hD2⟩ : ∃ oD, h0.get? D = some oD ∧ oD.data = .cls cdD := by
    unfold PySem.W.clsIn at hD
    split at hD
    · rename_i c d cd' sl ho
      cases hD
      exact ⟨_, KX0 _ _ ho, rfl⟩
    · cases hD
  have IA : PySem.W.InstAt h0 (hh.objs.size + 1) (PySem.W.excObj C hh.objs.size none .none) C none := PySem.W.InstAt.of_exc0 news0 List.mem_cons_self
  obtain ⟨pl, hcall⟩ := hcall (callEnv (PySem.W.ksFn nm qual params _ scope dV kV doc pm an (.ref cda) ct cc) h1.objs.size fI)
  refine PySem.ks_wpAt_execs_cons (PySem.ks_wpAt_Expr_any (PySem.ks_wpAt_MethodCall (pl := pl) ?_ hcall) (hsw _ rfl).1 (hsw _ rfl).2.1)
  refine PySem.ks_wpAt_super_base ssuper sclass (by decide) rfl (kall _ _ (k1 _ _ (KX _ _ hfn))) rfl hhead rfl (KX0 _ _ hcda) rfl hvs hfile EF.top ?_
  refine PySem.W.ks_loadName_global sk ssuper (PySem.Calls.loadGlobal_builtin (gl.keeps fun b o q => F0.keep _ _ (hbs _ _ q)) (PySem.W.mg_none_of I.mod.kin gl EF.sup) (hmb.keeps fun b o q => F0.keep _ _ (hbs _ _ q)) ((hbb _ (by decide +kernel)).trans hboot) ⟨rfl, ?_⟩)
  refine wpAny_loadName_free sk sclass rfl ⟨_, KX0 _ _ hcell, rfl⟩ ?_
  rw [ha1]
  refine wpAny_loadName_local sk sself F0.ns rfl ?_
  refine PySem.ks_wpAny_isType_cls hD1 hD2 ⟨rfl, ?_⟩
  refine PySem.ks_wpAny_call_super hD1 hD2 IA.at_ rfl (fun c e => by cases e) (PySem.W.looks_mroIn KX0 EC.sub) (fun h2 e2 q2 => ?_)
  obtain ⟨F2, N2, l2⟩ := PySem.W.ks_newsPush (s := ⟨h0, g, d, tk + 2, os⟩) F0 news0 rfl e2 q2
  have IA2 : PySem.W.InstAt h2 (hh.objs.size + 1) (PySem.W.excObj C hh.objs.size none .none) C none := PySem.W.InstAt.of_exc0 N2 (List.mem_cons_of_mem _ List.mem_cons_self)
  refine PySem.W.kxs_method (s := ⟨h2, g, d, tk + 2, os⟩) PySem.W.kxs_ValueError F2 KX N2 List.mem_cons_self IA2 EF.tp EC.sup EC.ve (by decide) (fun q h3 F3 N3 l3 => ?_)
  refine PySem.W.kxs_callWith1 (i := "ValueError.__init__") N3 List.mem_cons_self ?_
  refine PySem.Calls.spliced_cons (wpAny_Name (wpAny_loadName_local sk svalue F3.ns rfl (PySem.Calls.spliced_nil ?_)) (by decide))
  refine ⟨PySem.W.kxs_at N3 List.mem_cons_self, ?_⟩
  have lts : ∀ p ∈ [(hh.objs.size + 1, PySem.W.excObj C hh.objs.size none .none), (hh.objs.size, PySem.W.excTup [u])], p.1 < h0.objs.size := l2
  have so_e : h0.objs.size ≠ hh.objs.size + 1 := Ne.symm (Nat.ne_of_lt (l2 _ List.mem_cons_self))
  have q_e : q ≠ hh.objs.size + 1 := Ne.symm (Nat.ne_of_lt (l3 _ (List.mem_cons_of_mem _ List.mem_cons_self)))
  refine PySem.W.kxs_call F3 KX N3 FB EC.q List.mem_cons_self (.tail q_e (.tail so_e (.head (fun p hp => by
    rcases List.mem_cons.mp hp with rfl | hp
    · exact Nat.ne_of_lt (Nat.lt_succ_self _)
    · cases hp)))) (by show 1 ≤ sizeLine; rw [sizeLine_eq]; decide) (fun t' h4 F4 N4 l4 => ?_)
  have t_e : t' ≠ hh.objs.size + 1 := Ne.symm (Nat.ne_of_lt (l4 _ (List.mem_cons_of_mem _ (List.mem_cons_of_mem _ List.mem_cons_self))))
  refine PySem.ks_wpAt_execs_cons (PySem.ks_wpAt_Assign_Attr (wpAt_of_wpAny (wpAny_Name (wpAny_loadName_local sk svalue F4.ns rfl ?_) (by decide))) (hsw _ rfl).2.2)
  refine wpAny_Name (wpAny_loadName_local sk sself F4.ns rfl ?_) (by decide)
  refine PySem.W.set_exc0 PySem.F.store_ValueError F4 KX N4 (List.mem_cons_of_mem _ (List.mem_cons_of_mem _ (List.mem_cons_of_mem _ List.mem_cons_self))) EC.st EC.ov EC.tk EC.hd rfl (.tail t_e (.tail q_e (.tail so_e (.head (fun p hp => by
    rcases List.mem_cons.mp hp with rfl | hp
    · exact Nat.ne_of_lt (Nat.lt_succ_self _)
    · cases hp))))) (by show 1 ≤ 1000; decide) (fun dx h5 F5 N5 l5 => ?_)
  refine wpAt_of_wpAny (wpAny_execs_nil ?_)
  refine ⟨rfl, ?_⟩
  -- the new objects, tracked
  have e5 := (N5 (hh.objs.size + 1, PySem.W.excObj C t' (some dx) .none) (List.mem_cons_of_mem _ (List.mem_cons_of_mem _ (List.mem_cons_of_mem _ (List.mem_cons_of_mem _ List.mem_cons_self))))).1
  have d5 := (N5 _ List.mem_cons_self).1
  have dlt : hh.objs.size + 1 < dx := l5 _ (List.mem_cons_of_mem _ (List.mem_cons_of_mem _ (List.mem_cons_of_mem _ List.mem_cons_self)))
  have hne : dx ≠ hh.objs.size + 1 := Ne.symm (Nat.ne_of_lt dlt)
  have nE : H (hh.objs.size + 1) = none := I.hok.fresh (Nat.le_succ _)
  have nD : H dx = none := I.hok.fresh (by show hh.objs.size ≤ dx; omega)
  obtain ⟨G, G1, G2⟩ := L2.restrict h5 fun b => decide (b ≠ hh.objs.size + 1)
  have hG : ∀ b o, hh.get? b = some o → G.get? b = some o := fun b o q' => by
    rw [G1 b (decide_eq_true fun z => by rw [z] at q'; exact absurd (Heap.lt_size q') (Nat.not_lt.mpr (Nat.le_succ _)))]
    exact F5.keep _ _ q'
  have dG : G.get? dx = some (PySem.W.dictOf [⟨PyData.keyHash X.w.params "value", .str "value" (tk + 2 + 1 + 1), u⟩] 1) := by
    rw [G1 dx (decide_eq_true hne)]
    exact d5
  have I6 : Inv X pins σ (upd H dx (.xd [("value", x)])) ⟨G, g, d, tk + 2 + 1 + 2, os⟩ :=
    I.laid (h' := G) (t' := tk + 2 + 1 + 2) hG (by show hh.objs.size ≤ dx; omega) ⟨_, ns1_one dG, relO_one ru⟩
  have nE6 : (upd H dx (.xd [("value", x)])) (hh.objs.size + 1) = none := by rw [upd_ne (Ne.symm hne)]; exact nE
  have I7 := I6.laidN (h' := h5) (a := hh.objs.size + 1) (o := ExV C dx (hh.objs.size + 1)) (t' := tk + 2 + 1 + 2) (fun b o q' => by
    by_cases hb : b = hh.objs.size + 1
    · rw [hb, G2 _ (decide_eq_false fun z => z rfl)] at q'; cases q'
    · rw [G1 b (decide_eq_true hb)] at q'; exact q') (G2 _ (decide_eq_false fun z => z rfl)) nE6
    ⟨⟨_, _, e5, rfl, rfl, rfl⟩, ⟨_, e5⟩, fun h1 h2 ⟨oe, vs, a, b⟩ k => ⟨oe, vs, k _ a, b⟩⟩
  exact ⟨.ref (hh.objs.size + 1), _, I7, rfl, h _ dx nE nD hne⟩
end
end Pl

namespace Pl
open PySem PySem.Spec PyProof.Rows L2
open Classical

section
variable {K : Fr} {Z Z' F H H' : Hp} {l l' : List Sl}
/-- what stands and is nobody's is frozen -/
theorem Rep.adopt {a : Addr} {o : HO} (r : Rep K Z F H l) (ha : H a = some o) (hz : Z a = none) (hf : F a = none) (hn : a ∉ fps l) : Le Z (upd Z a o) ∧ Rep K (upd Z a o) F H l := by
  have le : Le Z (upd Z a o) := Le.of fun b u e => by rw [upd_ne (fun z => by rw [z, hz] at e; cases e)]; exact e
  refine ⟨le, fun b u e => ?_, r.fr, fun b hb => ?_, fun p hp => (r.sl p hp).mono le fun _ _ => rfl, r.nd, fun b hb => ?_⟩
  · by_cases z : b = a
    · rw [z, upd_same] at e; cases e
      rw [z]; exact .inl ha
    · rw [upd_ne z] at e; exact r.sub b u e
  · rw [upd_ne (fun z => hb (by rw [z]; exact hf))]; exact r.zf b hb
  · obtain ⟨g1, g2, g3⟩ := r.dz b hb
    exact ⟨by rw [upd_ne (fun z => hn (by rw [← z]; exact hb))]; exact g1, g2, g3⟩
theorem Rep.newExc {e dx : Addr} {c : Str} {d : D} {v : V} (r : Rep K Z F H l) (he : H e = none) (hd : H dx = none) (hne : dx ≠ e) (f : Fz K Z d v) :
    ∃ Z', Le Z Z' ∧ Rep K Z' F (upd (upd H dx (.xd [("value", v)])) e (ExV (He.ga K c) dx e)) ((some (.ref e), .frz (.exc c d)) :: l) := by
  obtain ⟨d1, d2, d3⟩ := r.freeAt hd
  obtain ⟨e1, e2, e3⟩ := r.freeAt he
  have r1 := r.alloc (o := .xd [("value", v)]) hd
  have r2 := r1.alloc (p := e) (o := ExV (He.ga K c) dx e) (by rw [upd_ne (Ne.symm hne)]; exact he)
  have hdx : (upd (upd H dx (.xd [("value", v)])) e (ExV (He.ga K c) dx e)) dx = some (.xd [("value", v)]) := by rw [upd_ne hne, upd_same]
  obtain ⟨le3, r3⟩ := r2.adopt hdx d1 d2 d3
  obtain ⟨le4, r4⟩ := r3.adopt (a := e) upd_same (by rw [upd_ne (Ne.symm hne)]; exact e1) e2 e3
  refine ⟨_, le3.trans le4, r4.frz ?_⟩
  simp only [Fz]
  exact ⟨e, dx, v, rfl, upd_same, by rw [upd_ne hne, upd_same], Fz.mono (le3.trans le4) _ _ f⟩
end
/-- which classes a class is of -/
def subX (c t : Str) : Bool := decide (c = t) || decide (t = ("DigError" : Str))
/-- the program's classes of errors -/
structure ExAll (b : Bd) (cs : List Str) : Prop where
  ef : ExF b.P b.K (He.ga b.K "DigError") (He.ma b.K (He.ga b.K "DigError") "__init__")
  ec : ∀ c ∈ cs, ExC b.K (He.ga b.K "DigError") (He.ma b.K (He.ga b.K "DigError") "__init__") (He.ga b.K c)
  mg : ∀ c ∈ cs, b.mg c = some (.ref (He.ga b.K c))
  ha : ∀ c ∈ cs, PySem.W.findIn b.K (.ref (He.ga b.K c)) "__class__" = some (some (.builtin "object.__class__"))
  hn : PySem.W.specialIn b.K (.builtin "object.__class__") "__get__" = some (some (.builtin "getset_descriptor.__get__"))
  tk : PySem.W.takesIn b.K (.builtin "object.__class__") = some true
  ob : ∀ c ∈ cs, PySem.W.mroIn b.K (He.ga b.K c) (.type "object") = some true
  kit : ∀ c ∈ cs, ∀ t ∈ cs, PySem.W.kitOne b.K (.ref (He.ga b.K c)) (.ref (He.ga b.K t)) = some (subX c t)
  ve : ∀ c ∈ cs, PySem.W.kitOne b.K (.ref (He.ga b.K c)) (.type "ValueError") = some true
def wExc (c : Str) (w : WE) : WE := fun env P E => w env (fun m e => m.full ∧ P (.frz (.exc c m.toD)) e) E
/-- isinstance(e, t), e an error -/
def wIsE (cs : List Str) (t : Str) (wo : WO) : WE := fun env P E => wo env (fun o e => ∃ c d, resolve e o = some (.exc c d) ∧ c ∈ cs ∧ P (.frz (.bl (subX c t))) e) E
def wIsV (cs : List Str) (wo : WO) : WE := fun env P E => wo env (fun o e => ∃ c d, resolve e o = some (.exc c d) ∧ c ∈ cs ∧ P (.frz (.bl true)) e) E
/-- x.value, x an error -/
def wEv (cs : List Str) (i : Nat) : WO := fun env P _ => ∃ c d, env[i]? = some (.frz (.exc c d)) ∧ c ∈ cs ∧ P (.val d) env
section
variable {b : Bd} {gd : Bool} {X : Cx} {W : WX} {N : List Str} {sc : Scope} {k : Nat} {cs : List Str} {e : Expr} {pos : Pos}
theorem e_exc (c : DB b gd X W N sc k) (A : ExAll b cs) {x : Str} {p : Pos} {w : WE} (hx : x ∈ cs) (he : GE X W e w) (hk : 4 ≤ k := by decide) (hg : glB sc x = true := by decide +kernel) (hs : starEach [e] X.env = (false, eval e X.env) :: starEach [] X.env := by rfl) (hdb : (x == ("__debug__" : Str)) = false := by decide) :
    GE X W (.Call (.Name x p) [e] [] pos) (wExc x w) := by
  refine ⟨fun pins s σ H Q I h => ?_⟩
  have ec := A.ec x hx
  have ef := A.ef
  have gC := A.mg x hx
  rw [← c.kk] at ec
  rw [← c.pr, ← c.kk] at ef
  rw [← c.mm, ← c.kk] at gC
  refine wpAny_Call_Name_kw (ld_glob I (c.gl hg) gC ?_ hdb)
  refine PySem.W.callWith_K (h₀ := X.base) I.ok.mod.kin ec.kp ?_ hs (by rfl)
  rw [hs]
  show wpAny _ _ (spliced ((false, eval e X.env) :: backTo pos (starEach [] X.env))) _ _ s
  obtain ⟨Z, F, env, P, E, hl, r, hw, hP, hE⟩ := h
  refine Calls.spliced_cons (thn (he.run pins s σ H (fun v H1 => ∃ m e1 Z1, (m.full ∧ P (.frz (.exc x m.toD)) e1) ∧ Le Z Z1 ∧ e1.length = env.length ∧ Rep X.K Z1 F H1 ((some v, m) :: zp σ e1)) I
    ⟨Z, F, env, _, E, hl, r, hw, fun m e1 Z1 H1 v h1 le1 l1 r1 => ⟨m, e1, Z1, h1, le1, l1, r1⟩, hE⟩) fun u s1 ⟨v, H1, I1, rv, m, e1, Z1, ⟨hm, hp⟩, le1, l1, r1⟩ => ?_)
  refine Calls.spliced_nil ⟨I1.kIn, ?_⟩
  obtain ⟨Z2, le2, r2⟩ := r1.freeze hm
  refine exc_run ef ec (c.room.mono hk) I1 rv fun ea dx hea hdx hne => ?_
  obtain ⟨Z3, le3, r3⟩ := r2.tail.newExc (c := x) hea hdx hne r2.fz
  exact hP _ e1 Z3 _ _ hp (le1.trans (le2.trans le3)) l1 r3
/-- what isinstance asks of an error -/
theorem call_isExc (c : DB b gd X W N sc k) (A : ExAll b cs) {tv : V} {cv : Value} (hv : ∀ u, RelV tv u → u = cv) : CallR X (.builtin "isinstance") (fun xs H Q => ∃ a dx n fs r, xs = [.ref a, tv] ∧ n ∈ cs ∧ H a = some (ExV (He.ga X.K n) dx a) ∧ H dx = some (.xd fs) ∧
    PySem.W.kitOne X.K (.ref (He.ga X.K n)) cv = some r ∧ Q (.bl r) H) := by
  intro pins s σ H xs us Q I r h
  obtain ⟨a, dx, n, fs, bb, rfl, hn, ha, hd, hkit, q⟩ := h
  have ec := A.ec n hn
  have k1 := A.ha n hn
  have k2 := A.hn
  have k3 := A.tk
  have k4 := A.ob n hn
  rw [← c.kk] at ec k1 k2 k3 k4
  cases r with
  | cons rx rr =>
    cases rr with
    | cons rt rr =>
      cases rr
      cases rx
      obtain rfl := hv _ rt
      obtain ⟨⟨oe, vs, h1, h2, h3, h4⟩, _, _⟩ := I.hok a _ ha
      obtain ⟨mA, hns, _⟩ : ObjOk X.prog X.w H s.heap dx (.xd fs) := I.hok dx _ hd
      obtain ⟨od, es, ep, ho, _⟩ := hns
      have J : PySem.W.InstAt s.heap a oe (He.ga X.K n) (some od) := ⟨h1, h2, by unfold PySem.W.notCls; rw [h4], by rw [h3]; exact ho⟩
      obtain ⟨cd, hcd, _⟩ := PySem.W.any_some ec.hd
      exact PySem.W.kia_one (PySem.W.kitx_exc (by rw [hcd]; rfl) ec.ga ec.gt ec.be k1 k2 k3 k4) I.kIn J hkit (fun z => nomatch z) fun tk => ⟨.bl bb, H, I.kept (t' := tk) fun _ _ z => z, rfl, q⟩
theorem exc_acc {K : Fr} {Z H : Hp} (s : Sub Z H) {n : Str} {d : D} {v : V} (h : Acc K Z H (.exc n d) v) : ∃ a dx y, v = .ref a ∧ H a = some (ExV (He.ga K n) dx a) ∧ H dx = some (.xd [("value", y)]) ∧ Fz K Z d y := by
  have h' : Fz K Z (.exc n d) v := h
  simp only [Fz] at h'
  obtain ⟨a, dx, y, rfl, h1, h2, h3⟩ := h'
  exact ⟨a, dx, y, rfl, s.ex h1 rfl, s.ex h2 rfl, h3⟩
theorem is_sound (c : DB b gd X W N sc k) (A : ExAll b cs) {p : Pos} {tx : Expr} {tv : V} {cv : Value} {wo : WO} {f : Str → Bool} (hv : ∀ u, RelV tv u → u = cv) (ht : PE X tx (tC tv)) (hkit : ∀ n ∈ cs, PySem.W.kitOne X.K (.ref (He.ga X.K n)) cv = some (f n)) (hm : b.mg "isinstance" = none) (ho : GO X W e wo)
    (hg : glB sc "isinstance" = true) (hs : starEach [e, tx] X.env = (false, eval e X.env) :: starEach [tx] X.env) (hs2 : starEach [tx] X.env = (false, eval tx X.env) :: starEach [] X.env) (hpl : (backTo pos (starEach [tx] X.env)).any (·.1) = false) :
    GE X W (.Call (.Name "isinstance" p) [e, tx] [] pos) (fun env P E => wo env (fun o e => ∃ c d, resolve e o = some (.exc c d) ∧ c ∈ cs ∧ P (.frz (.bl (f c))) e) E) := by
  refine (pe_callB (call_isExc c A hv) (c.gl hg) (by rw [c.mm]; exact hm) boot_isinstance (pa_cons ho (pa_cons ht pa_nil hs2) hs) (he := hs) (hpl := hpl)).imp fun σ H Q ⟨Z, F, env, P, E, hl, r, hw, hP, hE⟩ => ?_
  refine ⟨Z, F, env, _, E, hl, r, hw, fun o e1 Z1 H1 v h1 le1 l1 r1 q1 => ?_, hE⟩
  obtain ⟨n, d, h2, h3, h4⟩ := h1
  obtain ⟨a, dx, y, rfl, g1, g2, g3⟩ := exc_acc r1.sub (resolve_acc (by omega) r1 h2 q1)
  exact ⟨a, dx, n, _, _, rfl, h3, g1, g2, hkit n h3, hP _ e1 Z1 H1 _ h4 le1 l1 (r1.frz (fzB _ _ _))⟩
theorem e_isE (c : DB b gd X W N sc k) (A : ExAll b cs) {t : Str} {p tp : Pos} {wo : WO} (ht : t ∈ cs) (hm : b.mg "isinstance" = none) (ho : GO X W e wo) (hg : glB sc "isinstance" = true := by decide +kernel) (hgt : glB sc t = true := by decide +kernel) (hdb : (t == ("__debug__" : Str)) = false := by decide)
    (hs : starEach [e, .Name t tp] X.env = (false, eval e X.env) :: starEach [.Name t tp] X.env := by rfl) (hs2 : starEach [.Name t tp] X.env = (false, eval (.Name t tp) X.env) :: starEach [] X.env := by rfl) (hpl : (backTo pos (starEach [.Name t tp] X.env)).any (·.1) = false := by rfl) :
    GE X W (.Call (.Name "isinstance" p) [e, .Name t tp] [] pos) (wIsE cs t wo) := by
  have gT := A.mg t ht
  rw [← c.mm, ← c.kk] at gT
  refine is_sound (f := fun n => subX n t) (tv := .ref (He.ga X.K t)) (cv := .ref (He.ga X.K t)) c A (fun u r => r) (pe_glob (c.gl hgt) gT rfl hdb) (fun n hn => ?_) hm ho hg hs hs2 hpl
  have := A.kit n hn t ht
  rwa [← c.kk] at this
theorem e_isV (c : DB b gd X W N sc k) (A : ExAll b cs) {p tp : Pos} {wo : WO} (hmv : b.mg "ValueError" = none) (hm : b.mg "isinstance" = none) (ho : GO X W e wo) (hg : glB sc "isinstance" = true := by decide +kernel) (hgt : glB sc "ValueError" = true := by decide +kernel)
    (hs : starEach [e, .Name "ValueError" tp] X.env = (false, eval e X.env) :: starEach [.Name "ValueError" tp] X.env := by rfl) (hs2 : starEach [.Name "ValueError" tp] X.env = (false, eval (.Name "ValueError" tp) X.env) :: starEach [] X.env := by rfl) (hpl : (backTo pos (starEach [.Name "ValueError" tp] X.env)).any (·.1) = false := by rfl) :
    GE X W (.Call (.Name "isinstance" p) [e, .Name "ValueError" tp] [] pos) (wIsV cs wo) := by
  refine is_sound (f := fun n => true) (tv := .ty "ValueError") (cv := .type "ValueError") c A (fun u r => r) (pe_bltn (c.gl hgt) (by rw [c.mm]; exact hmv) (by decide +kernel) rfl) (fun n hn => ?_) hm ho hg hs hs2 hpl
  have := A.ve n hn
  rwa [← c.kk] at this
theorem go_ev (c : DB b gd X W N sc k) (A : ExAll b cs) (i : Nat) {x : Str} {p : Pos} (h : nmB N sc i x = true := by decide +kernel) (hb : attributeBase (.Name x p) "value" X.env (eval (.Name x p) X.env) = eval (.Name x p) X.env := by rfl) : GO X W (.Attribute (.Name x p) "value" pos) (wEv cs i) := by
  obtain ⟨h1, h2, h3, h4⟩ := c.nm h
  refine ⟨fun pins s σ H Q I hh => ?_⟩
  obtain ⟨Z, F, env, P, E, hl, r, ⟨n, d, hw1, hw2, hw3⟩, hP, hE⟩ := hh
  obtain ⟨v, g1, g2, _⟩ := slot_at hl r hw1 (by intro z; cases z)
  obtain ⟨a, dx, y, rfl, q1, q2, q3⟩ := exc_acc r.sub (Acc.of r.sub (show Fz X.K Z (.exc n d) v from g2))
  refine attr_of hb (thn ((pe_var (i := i) h1 h2 h3 h4).run pins s σ H (fun v H1 => v = .ref a ∧ H1 = H) I ⟨_, g1, rfl, rfl⟩) fun u s1 ⟨v, H1, I1, rx, ev, eH⟩ => ?_)
  subst ev eH
  obtain rfl : u = Value.ref a := rx
  have ec := A.ec n hw2
  rw [← c.kk] at ec
  obtain ⟨⟨oe, vs, k1, k2, k3, k4⟩, _, _⟩ := I1.hok a _ q1
  obtain ⟨mA, hns, hr⟩ : ObjOk X.prog X.w _ s1.heap dx (.xd [("value", y)]) := I1.hok dx _ q2
  obtain ⟨od, ho, hlk⟩ := lookIn_ns hns
  obtain ⟨u, hu, ru⟩ := RelO.some_of (v := y) (o := mA "value") (hr "value")
  have J : PySem.W.InstAt s1.heap a oe (He.ga X.K n) (some od) := ⟨k1, k2, by unfold PySem.W.notCls; rw [k4], by rw [k3]; exact ho⟩
  exact HandSPX.exc_get I1.kIn J ec.ga ec.gt ec.be (PySem.W.findObj_own ec.hd ec.nv rfl (by rw [hlk, hu])) (handed_of ru) ⟨y, _, I1.tok _, ru, hP (.val d) env Z _ y hw3 (Le.refl Z) rfl r q3⟩
end
end Pl

namespace Pl
open PySem PySem.Spec PyProof.Rows L2
open Classical

section
variable {X : Cx} {W : WX} {a e : Expr} {es : List Expr} {pos apos : Pos}
theorem g_append {wo : WO} {wa : WA} (ha : GO X W a wo) (hb : GA X W [e] wa) (hbase : attributeBase a "append" X.env (eval a X.env) = eval a X.env := by rfl)
    (hfew : ((backTo pos (starEach [e] X.env)).all (fun x => !x.1) && (backToKw pos (keywordEach [] X.env)).all (fun x => x.1.isSome)
      && decide (([e] : List Expr).length + ([] : List Keyword).length + (if ([] : List Keyword).isEmpty then 0 else 1) < 30)) = true := by rfl)
    (hline : (apos.endLine == pos.line) = true := by rfl) (hs : starEach [e] X.env = (false, eval e X.env) :: starEach [] X.env := by rfl) (hplain : (backTo pos (starEach [] X.env)).any (·.1) = false := by rfl) :
    GE X W (.Call (.Attribute a "append" apos) [e] [] pos) (wMut "list" true gAppend wo wa) :=
  g_mut F.plainAttrs_list F.slot_list_append (by rfl) o_append ha hb hbase hfew hline hs hplain
theorem g_extend {wo : WO} {wa : WA} (ha : GO X W a wo) (hb : GA X W [e] wa) (hbase : attributeBase a "extend" X.env (eval a X.env) = eval a X.env := by rfl)
    (hfew : ((backTo pos (starEach [e] X.env)).all (fun x => !x.1) && (backToKw pos (keywordEach [] X.env)).all (fun x => x.1.isSome)
      && decide (([e] : List Expr).length + ([] : List Keyword).length + (if ([] : List Keyword).isEmpty then 0 else 1) < 30)) = true := by rfl)
    (hline : (apos.endLine == pos.line) = true := by rfl) (hs : starEach [e] X.env = (false, eval e X.env) :: starEach [] X.env := by rfl) (hplain : (backTo pos (starEach [] X.env)).any (·.1) = false := by rfl) :
    GE X W (.Call (.Attribute a "extend" apos) [e] [] pos) (wMut "list" false gExtend wo wa) :=
  g_mut F.plainAttrs_list F.slot_list_extend (by rfl) o_extend ha hb hbase hfew hline hs hplain
theorem g_pop {wo : WO} {wa : WA} (ha : GO X W a wo) (hb : GA X W [e] wa) (hbase : attributeBase a "pop" X.env (eval a X.env) = eval a X.env := by rfl)
    (hfew : ((backTo pos (starEach [e] X.env)).all (fun x => !x.1) && (backToKw pos (keywordEach [] X.env)).all (fun x => x.1.isSome)
      && decide (([e] : List Expr).length + ([] : List Keyword).length + (if ([] : List Keyword).isEmpty then 0 else 1) < 30)) = true := by rfl)
    (hline : (apos.endLine == pos.line) = true := by rfl) (hs : starEach [e] X.env = (false, eval e X.env) :: starEach [] X.env := by rfl) (hplain : (backTo pos (starEach [] X.env)).any (·.1) = false := by rfl) :
    GE X W (.Call (.Attribute a "pop" apos) [e] [] pos) (wMut "list" false gPop wo wa) :=
  g_mut F.plainAttrs_list F.slot_list_pop (by rfl) o_pop ha hb hbase hfew hline hs hplain
end
/-! ### errors, evaluated -/
@[reducible] def IsO (_ : Str → Prop) : Type := Option D
def isK (cs : List Str) (k : Str → Prop) (r : IsO k) : Prop := match (show Option D from r) with
  | some (.exc c _) => c ∈ cs ∧ k c
  | _ => False
@[simp] theorem isK_go (cs : List Str) (k : Str → Prop) (c : Str) (d : D) : isK cs k (some (.exc c d)) = (c ∈ cs ∧ k c) := (rfl)
theorem ex_isK {cs : List Str} {k : Str → Prop} {r : Option D} : (∃ c d, r = some (.exc c d) ∧ c ∈ cs ∧ k c) = isK cs k r := by
  refine propext ⟨fun ⟨c, d, h1, h2⟩ => by rw [h1]; exact h2, fun h => ?_⟩
  match r, h with
  | some (.exc c d), h => exact ⟨c, d, rfl, h⟩
def evK (cs : List Str) (i : Nat) (env : Env) (P : Op → Env → Prop) (m : OptO P) : Prop := match (show Option M from m) with
  | some (.frz (.exc c d)) => c ∈ cs ∧ P (.val d) env
  | _ => False
@[simp] theorem evK_go (cs : List Str) (i : Nat) (env : Env) (P : Op → Env → Prop) (c : Str) (d : D) : evK cs i env P (some (.frz (.exc c d))) = (c ∈ cs ∧ P (.val d) env) := (rfl)
section
variable {env : Env} {P : Pl.PO} {E : XO} {cs : List Str}
@[simp ↓] theorem x_exc {c : Str} {w : WE} : wExc c w env P E = w env (fun m e => dK (fun d => P (.frz (.exc c d)) e) m) E := (rfl)
@[simp ↓] theorem x_isE {t : Str} {wo : WO} : wIsE cs t wo env P E = wo env (fun o e => isK cs (fun c => P (.frz (.bl (subX c t))) e) (resolve e o)) E := by
  unfold wIsE; simp only [ex_isK]
@[simp ↓] theorem x_isV {wo : WO} : wIsV cs wo env P E = wo env (fun o e => isK cs (fun c => P (.frz (.bl true)) e) (resolve e o)) E := by
  unfold wIsV; simp only [ex_isK]
@[simp ↓] theorem x_ev {i : Nat} {P : Op → Env → Prop} : wEv cs i env P E = evK cs i env P env[i]? := by
  unfold wEv evK
  refine propext ⟨fun ⟨c, d, h1, h2⟩ => by rw [h1]; exact h2, fun h => ?_⟩
  split at h
  · exact ⟨_, _, by assumption, h⟩
  · exact h.elim
end
end Pl

namespace Pl
open PySem PySem.Spec PyProof.Rows L2
open Classical

/-! ### loops by what holds between their laps -/
theorem for_inv {g : WG} {b : WS} {P : Pst} {E : XO} (J : List D → Env → Prop) (hn : ∀ e, J [] e → P.nx e)
    (hs : ∀ d r e (K : Env → Prop), J (d :: r) e → (∀ e', J r e' → K e') → g d e fun e1 => b e1 { P with nx := K, ct := K, bk := P.nx } E) : ∀ ds e, J ds e → forK g b P E ds e
  | [], e, h => hn e h
  | d :: r, e, h => hs d r e (fun e' => forL g b r e' P E) h fun e' h' => for_inv J hn hs r e' h'
theorem lc_inv {g : WG} {wt : WT} {we : WE} {own : List Nat} {P : List D → Env → Prop} (J : List D → List D → Env → Prop) (hn : ∀ acc e, J [] acc e → P acc e)
    (hs : ∀ d r acc e (K : List D → Env → Prop), J (d :: r) acc e → (∀ acc' e', J r acc' e' → K acc' e') →
      g d e fun e1 => wt e1 (fun b e2 => if b = true then we e2 (fun m e3 => dK (fun d => acc.length < sizeLine ∧ K (acc ++ [d]) (wipeE e3 own)) m) (fun _ _ _ => False) else K acc (wipeE e2 own)) (fun _ _ _ => False)) : ∀ ds acc e, J ds acc e → lcK g wt we own P ds acc e
  | [], acc, e, h => hn acc e h
  | d :: r, acc, e, h => hs d r acc e (fun acc' e' => lcL g wt we own r acc' e' P) h fun acc' e' h' => lc_inv J hn hs r acc' e' h'
theorem wh_inv {c : WT} {b : WS} {P : Pst} {E : XO} (J : Nat → Env → Prop)
    (hs : ∀ n e (K : Env → Prop), J n e → (∀ m e', m < n → J m e' → K e') → c e (fun k e => if k = true then b e { P with nx := K, ct := K, bk := P.nx } E else P.nx e) E) : ∀ n e, J n e → whK c b P E e := by
  have key : ∀ n m e, m ≤ n → J m e → whL c b (n + 1) e P E := by
    intro n
    induction n with
    | zero => exact fun m e hm hj => hs m e (fun e' => whL c b 0 e' P E) hj fun m' e' h _ => absurd h (by omega)
    | succ n ih => exact fun m e hm hj => hs m e (fun e' => whL c b (n + 1) e' P E) hj fun m' e' h h' => ih m' e' (by omega) h'
  exact fun n e h => ⟨n + 1, key n n e (Nat.le_refl n) h⟩
end Pl

namespace Pl
open PySem PySem.Spec PyProof.Rows L2
open Classical

/-! ### what the head tells, errors among it -/
abbrev FnX : Type := Option (Str × Str × Arguments × FuncBody × Scope × Addr × Addr)
def fnXo (K : Fr) (f : Addr) : FnX := match K.lookup f with
  | some ⟨_, _, .func fd, _⟩ => some (fd.name, fd.qualname, fd.params, fd.body, fd.scope, fd.globals, fd.builtins)
  | _ => none
/-- the code and the cell of a def that says super() -/
def supB (K : Fr) (f D : Addr) (file qual : Str) : Bool := match K.lookup f with
  | some ⟨_, _, .func fd, _⟩ => (match fd.defaults with
    | .none => true
    | _ => false) && ((match fd.code with
    | .ref cda => PySem.W.codeIn K (.ref cda) qual && (match K.lookup cda with
      | some ⟨_, _, .fields vs, _⟩ => (match (vs[2]? : Option Value) with
        | some (.str f2 _) => file == f2
        | _ => false)
      | _ => false)
    | _ => false) && (match fd.closure with
    | [(nm, cc)] => (nm == ("__class__" : Str)) && (match K.lookup cc with
      | some ⟨_, _, .cell (some (.ref d)), _⟩ => d == D
      | _ => false)
    | _ => false))
  | _ => false
def exCB (K : Fr) (D fI C : Addr) : Bool :=
  He.eqO (PySem.W.findIn K (.ref C) "__init__") (some (some (.ref fI))) && (PySem.W.excInitIn K C veB "ValueError.__new__" && (PySem.W.isFn K (.ref fI) && (PySem.W.keepIn K (.ref C) &&
  (He.eqO (PySem.W.ks_superIn K C D "__init__") (some (some (.builtin "ValueError.__init__"))) && (decide (PySem.W.subIn K (.ref C) (.type "ValueError") = some true) && (decide (PySem.W.mroIn K C (.ref D) = some true) &&
  (He.eqO (PySem.W.findIn K (.ref C) "__setattr__") (some (some (.builtin "object.__setattr__"))) && (PySem.W.excOver K C veB && (He.eqO (PySem.W.takerIn K C "value") (some none) && (PySem.W.hasDictIn K C &&
  (He.eqO (PySem.W.findIn K (.ref C) "__getattribute__") (some (some (.builtin "BaseException.__getattribute__"))) && (He.eqO (PySem.W.findIn K (.ref C) "__getattr__") (some none) && (decide (PySem.W.subIn K (.ref C) (.type "BaseException") = some true) &&
  He.eqO (PySem.W.findIn K (.ref C) "value") (some none))))))))))))))
theorem exCB_ok {K : Fr} {D fI C : Addr} (h : exCB K D fI C = true) : ExC K D fI C := by
  simp only [exCB, Bool.and_eq_true, decide_eq_true_eq] at h
  obtain ⟨h1, h2, h3, h4, h5, h6, h7, h8, h9, h10, h11, h12, h13, h14, h15⟩ := h
  exact ⟨He.eqO_ok h1, h2, h3, h4, He.eqO_ok h5, h6, h7, He.eqO_ok h8, h9, He.eqO_ok h10, h11, He.eqO_ok h12, He.eqO_ok h13, h14, He.eqO_ok h15⟩
def exAB (K : Fr) (C : Addr) : Bool :=
  He.eqO (PySem.W.findIn K (.ref C) "__class__") (some (some (.builtin "object.__class__"))) && (decide (PySem.W.mroIn K C (.type "object") = some true) && decide (PySem.W.kitOne K (.ref C) (.type "ValueError") = some true))
def kitB (K : Fr) (cs : List Str) : Bool := cs.all fun c => cs.all fun t => decide (PySem.W.kitOne K (.ref (He.ga K c)) (.ref (He.ga K t)) = some (decide (c = t) || decide (t = ("DigError" : Str))))
def sysB (K : Fr) : Bool := match K.lookup sysModules with
  | some ⟨.type c, _, _, _⟩ => !(c == "list")
  | some _ => true
  | none => false
/-- all of it -/
def allB (cs : List Str) (file qual : Str) (K : Fr) : Bool :=
  sysB K && (supB K (He.ma K (He.ga K "DigError") "__init__") (He.ga K "DigError") file qual && (cs.all (fun c => exCB K (He.ga K "DigError") (He.ma K (He.ga K "DigError") "__init__") (He.ga K c) && exAB K (He.ga K c)) && (kitB K cs &&
  (He.eqO (PySem.W.specialIn K (.builtin "object.__class__") "__get__") (some (some (.builtin "getset_descriptor.__get__"))) && (decide (PySem.W.takesIn K (.builtin "object.__class__") = some true) && (He.eqO (PySem.W.nsIn K mainGlobals "super") (some none) &&
  He.eqO (PySem.W.nsIn K cStatics "thirdparty.any") (some none)))))))
def asX (g : Addr → Option Obj) : Nat → List Addr
  | 0 => [mainGlobals, cStatics, sysModules]
  | n + 1 => He.growD g (asX g n)
abbrev AlX : Type := He.AlD × Bool × FnX
def obsX (fa : List He.Fa) (fn : List He.DefD) (ex : Fr → Bool) (K : Fr) : AlX := (He.obsD fa fn K, ex K, fnXo K (He.ma K (He.ga K "DigError") "__init__"))
def valX (fn : List He.DefD) (fx : FnX) : AlX := (He.valD fn, true, fx)
def obsXG (n : Nat) (fa : List He.Fa) (fn : List He.DefD) (ex : Fr → Bool) (g : Addr → Option Obj) : AlX := obsX fa fn ex (He.frG g (asX g n))
def hookX (n : Nat) (fa : List He.Fa) (fn : List He.DefD) (ex : Fr → Bool) (fx : FnX) : PySem.W.Hook where
  α := AlX
  obs := fun s => obsXG n fa fn ex s.heap.get?
  val := fun _ => valX fn fx
  says := fun _ h => ∃ K : PySem.W.Frag, K.In h ∧ He.SaysD fa fn K ∧ ex K = true ∧ fnXo K (He.ma K (He.ga K "DigError") "__init__") = fx
  of := fun _ _ e => by
    have e1 := congrArg (fun z : AlX => z.1) e
    have e2 := congrArg (fun z : AlX => z.2.1) e
    have e3 := congrArg (fun z : AlX => z.2.2) e
    exact ⟨_, He.frG_in, e1, e2, e3⟩
  keeps := fun _ _ _ ⟨K, hK, c⟩ k => ⟨K, PySem.W.Frag.In.keeps hK k, c⟩
theorem obsXG_eq {n : Nat} {fa : List He.Fa} {fn : List He.DefD} {ex : Fr → Bool} {fx : FnX} {g : Addr → Option Obj} {s : Shared} (h : ∀ a, g a = s.heap.get? a) : obsXG n fa fn ex g = (hookX n fa fn ex fx).obs s := by
  have e : g = s.heap.get? := funext h
  rw [e] <;> rfl
end Pl

namespace Pl
open PySem PySem.Spec PyProof.Rows L2
open Classical

/-! ### a law's end, for a def that runs while no repr is under way -/
/-- the script and nothing else -/
theorem rep_scr {K : Fr} {H : Hp} {a : Addr} {ns : List Int} (hS : SqL K H a (ns.map V.int)) : Rep K H (fun _ => none) H [(some (.ref a), .frz (.scr ns))] := by
  refine ⟨fun b o h => .inl h, fun b o h => by simp at h, fun b h => absurd rfl h, fun p hp => ?_, by simp [fps, M.fp], fun b hb => by simp [fps, M.fp] at hb⟩
  rw [List.mem_singleton] at hp
  subst hp
  refine .inr ⟨_, rfl, ?_⟩
  show Fz K H (.scr ns) (.ref a)
  simp only [Fz]
  exact ⟨a, rfl, hS⟩
theorem sp_scr {K : Fr} {H : Hp} {a : Addr} {ns : List Int} {φ : Ct} (hS : SqL K H a (ns.map V.int)) (h : φ [.frz (.scr ns)] (fun r _ => r = .frz (.bl true)) fun _ _ => False) : spOf K 1 φ [.ref a] H (fun v _ => v = .bl true) fun _ _ _ => False := by
  refine ⟨H, fun _ => none, [.frz (.scr ns)], _, _, rfl, rfl, rep_scr hS, h, fun r ms' Z' H' v e _ _ r' => ?_, fun c d Z' H' dx y e => e.elim⟩
  subst e
  have f := r'.fz
  simpa only [Fz] using f
section
variable {P : Program} {w : World} {K : Fr} {mg mb : Str → Option Value} {k : Nat} {fn0 a : Addr} {fd : FuncData} {x : Str} {φ : Ct} {st : Shared} {vs : List Value} {ns : List Int}
theorem law_end (kin : K.In st.heap) (hns : st.heap.Ns mainGlobals mg) (hb : st.heap.Ns builtinsNs mb) (hbb : ∀ x : Str, x ≠ "__name__" → mb x = bootBuiltins x) (lim : st.heap.NoLimit) (gens : st.gens = #[])
    (ha : st.heap.get? a = some { cls := .type "list", data := .seq vs.toArray }) (hi : IntsAre vs ns) (hl : ns.length ≤ sizeLine) (hr : Room k callerA)
    (prm : ∀ bs : Heap, K.In bs → bs.Ns mainGlobals mg → FnQ ⟨P, w, K, mg, bs⟩ k fn0 fd [x] (spOf K 1 φ)) (bind : ∀ (s : Shared) (u : Value), BindsTo s fd ⟨[u], []⟩ [(x, u)])
    (hφ : φ [.frz (.scr ns)] (fun r _ => r = .frz (.bl true)) fun _ _ => False) :
    codeAny (model P w) callerA (.call (.ref fn0) ⟨[.ref a], []⟩) (fun res t => res = .ok (.ret (.bool true)) ∧ OldK st.heap t.heap ∧ t.os = st.os ∧ AllBare t.gens) st := by
  have vals := vals_ints hi
  have len := hi.length
  have main : ∀ H : Hp, Only H → SqL K H a (ns.map V.int) → HOk P w H st.heap → (∀ b, H b ≠ none → b = a) → (H a ≠ none → K.lookup a = none) →
      codeAny (model P w) callerA (.call (.ref fn0) ⟨[.ref a], []⟩) (fun res t => res = .ok (.ret (.bool true)) ∧ OldK st.heap t.heap ∧ t.os = st.os ∧ AllBare t.gens) st := by
    intro H only sq ok one notK
    have away : ∀ {b : Addr} {o : Obj}, st.heap.get? b = some o → (o.data = .seq vs.toArray → False) → H b = none := fun {b o} e d => by
      cases q : H b with
      | none => rfl
      | some u =>
        obtain rfl := one b (by rw [q]; simp)
        rw [ha] at e
        cases e
        exact (d rfl).elim
    have keepNs : ∀ {b : Addr} {m : Str → Option Value}, st.heap.Ns b m → (hidT st.heap H).Ns b m := fun {b m} ⟨o, es, ep, e, d, rest⟩ =>
      ⟨o, es, ep, hidT_get e (away e fun z => by rw [d] at z; cases z), d, rest⟩
    have inB : K.In (hidT st.heap H) := fun b o e => by
      refine hidT_get (kin b o e) ?_
      cases q : H b with
      | none => rfl
      | some u =>
        obtain rfl := one b (by rw [q]; simp)
        rw [notK (by rw [q]; simp)] at e
        cases e
    obtain ⟨mc, l1, l2⟩ := lim
    have env0 : Env0 P w K mg (hidT st.heap H) callerA [] st H :=
      ⟨rfl, ⟨inB, keepNs hns, ⟨mb, keepNs hb, hbb⟩, ⟨mc, keepNs l1, l2⟩⟩, fun b o e => of_hidT e, Nat.le_of_eq (hidT_size _ _), trivial, fun b z => by simp [frs] at z, ok, .of_eq gens⟩
    refine codeAny_mono ((prm _ inB (keepNs hns)).run callerA [] st H ⟨[.ref a], []⟩ [.ref a] [.ref a] _ _ rfl hr env0 (bind st (.ref a)) (.cons rfl .nil) (sp_scr sq hφ)) fun res t h => ?_
    cases res with
    | error e =>
      obtain ⟨_, _, _, _, _, _, _, _, _, _, _, _, z⟩ := h
      exact z.elim
    | ok fl =>
      cases fl with
      | ret u =>
        obtain ⟨v, H', os, bare, un, ok2, rv, qv⟩ := h
        obtain rfl : v = .bl true := qv
        obtain rfl : u = Value.bool true := rv
        refine ⟨rfl, OldK.of_keep fun b o e => ?_, os, bare⟩
        rcases only b with z | ⟨ob, xs, z⟩
        · exact un.keep b o e z (by simp [frs]) (by simp)
        · obtain ⟨e1, _⟩ := ok b _ z
          obtain ⟨e2, _⟩ := ok2 b _ (un.frzs b ob _ z)
          rw [e1] at e
          cases e
          exact e2
      | next => exact h.elim
      | brk => exact h.elim
      | cont => exact h.elim
  cases hk : K.lookup a with
  | some o =>
    have e := kin a o hk
    rw [ha] at e
    cases e
    exact main (fun _ => none) (fun _ => .inl rfl) (.inr ⟨_, vs.toArray, _, hk, rfl, rfl, rfl, by rw [List.size_toArray, len]; exact hl, by simpa using vals⟩) (fun b u z => by cases z) (fun b z => absurd rfl z) fun z => absurd rfl z
  | none =>
    have at_ : ∀ b, (if b = a then some (HO.frz { cls := .type "list", data := .seq vs.toArray } (.lst (ns.map V.int))) else none) ≠ none → b = a := fun b z => by
      refine Decidable.byContradiction fun hb => z (if_neg hb)
    refine main (fun b => if b = a then some (.frz { cls := .type "list", data := .seq vs.toArray } (.lst (ns.map V.int))) else none) (fun b => ?_) (.inl (.inr ⟨_, if_pos rfl⟩)) (fun b u z => ?_) at_ fun _ => hk
    · by_cases hb : b = a
      · exact .inr ⟨_, _, if_pos hb⟩
      · exact .inl (if_neg hb)
    · obtain rfl := at_ b (by have z2 := z; dsimp only at z2; rw [z2]; simp)
      have z' := (if_pos rfl).symm.trans z
      cases z'
      exact ⟨ha, by rw [List.length_map]; exact hl, vs, _, vals, ha⟩
theorem walk_q {l : PySem.W.OpenLaw} {n : Nat} {q : Program} {loose : List Str} {XP : (Str → Option Value) → Heap → Prop} {YP : World → Heap → Prop} {d : DefRec}
    (hn : l.most = some n) (hn2 : n ≤ sizeLine) (hdf : d.params.defaults = []) (hr : Room k callerA)
    (prm : ∀ (w : World) (mg : Str → Option Value) (fa : Addr) (h : Heap), YP w h → h.Ns mainGlobals mg → mg d.name = some (.ref fa) →
      ∃ (K : PySem.W.Frag) (fd : FuncData), K.In h ∧ (∀ (s : Shared) (u : Value), BindsTo s fd ⟨[u], []⟩ [(x, u)]) ∧ ∀ bs : Heap, K.In bs → bs.Ns mainGlobals mg → FnQ ⟨l.prog, w, K, mg, bs⟩ k fa fd [x] (spOf K 1 φ))
    (hφ : ∀ ns : List Int, ns.length ≤ n → φ [.frz (.scr ns)] (fun r _ => r = .frz (.bl true)) fun _ _ => False) :
    PySem.W.WalkO q loose XP YP l.row.toRowW d [] (fun f vs => PySem.call f vs) := by
  refine Att.attach_call hn hdf fun w _ st mg mb fa _ _ _ _ a vs ns G Y _ _ _ hmg hobj hints hlen hg => ?_
  obtain ⟨K, fd, KX, bind, hF⟩ := prm w mg fa _ Y G.T.g hmg
  exact law_end KX G.T.g G.T.b G.T.builtins G.T.nolimit hg hobj hints (Nat.le_trans hlen hn2) hr hF bind (hφ ns hlen)
end
end Pl

namespace Pl
open PySem PySem.Spec PyProof.Rows L2
open Classical

theorem exF_of {P : Program} {K : Fr} {D fI : Addr} {nm qual : Str} {params : Arguments} {body : List Stmt} {scope : Scope} (e : fnXo K fI = some (nm, qual, params, .stmts body, scope, mainGlobals, builtinsNs)) (c : supB K fI D P.main.file qual = true)
    (hb : ∃ p0 p1 p2 p3 p4 p5 p6 p7 p8 p9, body = [.Expr (.Call (.Attribute (.Call (.Name "super" p0) [] [] p1) "__init__" p2) [.Name "value" p3] [] p4) p5, .Assign [.Attribute (.Name "self" p6) "value" p7] (.Name "value" p8) p9] ∧ ∀ env : PySem.Env, ∃ pl : Sem Bool, eval (.Call (.Attribute (.Call (.Name "super" p0) [] [] p1) "__init__" p2) [.Name "value" p3] [] p4) env = (do
      let ov ← attributeBase (.Call (.Name "super" p0) [] [] p1) "__init__" env (eval (.Call (.Name "super" p0) [] [] p1) env)
      standAt p2.atName
      let (f, first) ← holding [ov] (getMethod ov "__init__" pl)
      callWith p4 f first (backTo p4 (starEach [.Name "value" p3] env)) []))
    (hh : ∃ a1, (params.posonlyargs ++ params.args).head? = some a1 ∧ a1.arg = "self")
    (hbd : ∀ (kV doc pm : Value) (an : Option Addr) (cdv ct : Value) (cc : Addr) (u v : Value), bindArgs (PySem.W.ksFn nm qual params body scope .none kV doc pm an cdv ct cc) ⟨[u, v], []⟩ = pure [(("self" : Str), u), (("value" : Str), v)])
    (hsc : scope.kind = .function ∧ scope.isCoroutine = false ∧ scope.isGenerator = false ∧ (∀ x ∈ scope.names, x.2 ≠ .cell) ∧
      scope.names.lookup ("self" : Str) = some NameKind.local ∧ scope.names.lookup ("value" : Str) = some NameKind.local ∧ scope.names.lookup ("super" : Str) = some NameKind.globalImplicit ∧ scope.names.lookup ("__class__" : Str) = some NameKind.free)
    (cls : ∃ cdD, PySem.W.clsIn K D = some cdD) (sup : PySem.W.nsIn K mainGlobals "super" = some none) (tp : PySem.W.nsIn K cStatics "thirdparty.any" = some none) (top : (P.main.scope.names.lookup ("super" : Str)).isSome = false) : ExF P K D fI := by
  refine ⟨?_, cls, sup, tp, top⟩
  obtain ⟨p0, p1, p2, p3, p4, p5, p6, p7, p8, p9, rfl, hev⟩ := hb
  obtain ⟨a1, g1, g2⟩ := hh
  unfold fnXo at e
  unfold supB at c
  cases q : K.lookup fI with
  | none => rw [q] at e; cases e
  | some o =>
    obtain ⟨oc, od, dt, osl⟩ := o
    rw [q] at e c
    cases dt with
    | func fd =>
      obtain ⟨n1, n2, n3, n4, n5, n6, n7, n8, n9, n10, n11, n12, n13, n14, n15⟩ := fd
      simp only [Option.some.injEq, Prod.mk.injEq] at e
      obtain ⟨h1, h2, h3, h4, h5, h6, h7⟩ := e
      subst h1 h2 h3 h4 h5 h6 h7
      simp only [Bool.and_eq_true] at c
      obtain ⟨c0, c1, c2⟩ := c
      cases n8 with
      | none =>
        cases n13 with
        | ref cda =>
          simp only [Bool.and_eq_true] at c1
          obtain ⟨c3, c4⟩ := c1
          match n7, c2 with
          | [(z, cc)], c2 =>
            simp only [Bool.and_eq_true] at c2
            obtain ⟨c5, c6⟩ := c2
            obtain rfl := eq_of_beq c5
            refine ⟨oc, od, n1, n2, n3, n5, .none, n9, n10, n11, n12, cda, cc, n14, osl, a1, a1, p0, p1, p2, p3, p4, p5, p6, p7, p8, p9, rfl, c3, g1, g2, fun s u v => .of_eq (hbd _ _ _ _ _ _ _ u v), ?_, ?_, hev, fun env he => ⟨?_, rfl, rfl⟩, hsc⟩
            · cases q2 : K.lookup cda with
              | none => rw [q2] at c4; cases c4
              | some o2 =>
                obtain ⟨oc2, od2, dt2, osl2⟩ := o2
                rw [q2] at c4
                cases dt2 with
                | fields vs =>
                  dsimp only at c4
                  cases q3 : (vs[2]? : Option Value) with
                  | none => rw [q3] at c4; cases c4
                  | some v3 =>
                    rw [q3] at c4
                    cases v3 with
                    | str f2 t2 => exact ⟨_, _, vs, _, f2, t2, rfl, q3, c4⟩
                    | _ => cases c4
                | _ => cases c4
            · cases q2 : K.lookup cc with
              | none => rw [q2] at c6; cases c6
              | some o2 =>
                obtain ⟨oc2, od2, dt2, osl2⟩ := o2
                rw [q2] at c6
                cases dt2 with
                | cell v =>
                  cases v with
                  | none => cases c6
                  | some v =>
                    cases v with
                    | ref d =>
                      obtain rfl := eq_of_beq c6
                      exact ⟨_, _, _, rfl⟩
                    | _ => cases c6
                | _ => cases c6
            · unfold interactive
              rw [he, hsc.1]
              rfl
        | _ => cases c1
      | _ => cases c0
    | _ => cases e
theorem exAll_of {b : Bd} {cs : List Str} {file qual : Str} (h : allB cs file qual b.K = true) (ef : ExF b.P b.K (He.ga b.K "DigError") (He.ma b.K (He.ga b.K "DigError") "__init__")) (mg : ∀ c ∈ cs, b.mg c = some (.ref (He.ga b.K c))) : ExAll b cs := by
  simp only [allB, Bool.and_eq_true, decide_eq_true_eq, List.all_eq_true] at h
  obtain ⟨_, _, h3, h4, h5, h6, _, _⟩ := h
  have g : ∀ c ∈ cs, PySem.W.findIn b.K (.ref (He.ga b.K c)) "__class__" = some (some (.builtin "object.__class__")) ∧ PySem.W.mroIn b.K (He.ga b.K c) (.type "object") = some true ∧ PySem.W.kitOne b.K (.ref (He.ga b.K c)) (.type "ValueError") = some true := fun c hc => by
    have := (h3 c hc).2
    simp only [exAB, Bool.and_eq_true, decide_eq_true_eq] at this
    exact ⟨He.eqO_ok this.1, this.2.1, this.2.2⟩
  refine ⟨ef, fun c hc => exCB_ok (h3 c hc).1, mg, fun c hc => (g c hc).1, He.eqO_ok h5, h6, fun c hc => (g c hc).2.1, fun c hc t ht => ?_, fun c hc => (g c hc).2.2⟩
  simp only [kitB, List.all_eq_true, decide_eq_true_eq] at h4
  exact h4 c hc t ht
theorem sys_of {bs : Heap} {K : Fr} (hk : K.In bs) (h : sysB K = true) : ∃ o, bs.get? sysModules = some o ∧ o.cls ≠ .type "list" := by
  unfold sysB at h
  cases q : K.lookup sysModules with
  | none => rw [q] at h; cases h
  | some o =>
    rw [q] at h
    refine ⟨o, hk _ _ q, fun z => ?_⟩
    obtain ⟨oc, od, dt, osl⟩ := o
    dsimp only at z
    subst z
    simp at h
/-- a def keeps its contract, for a given function object -/
theorem fn_q {b : Bd} {x qual : Str} {params : Arguments} {body : List Stmt} {scope : Scope} {f : Addr} {fd : FuncData} {N ps : List Str} {k n np : Nat} {φ : Ct} {wb : WS}
    (F : FunD b.K x qual params body scope [] [] f fd) (S : FnScope N ps scope) (hn : ps.length = n) (hnp : np ≤ n) (hbody : ∀ X W, DB b true X W N scope k → GSs X W (np, N.length) body wb)
    (hφ : ∀ ms Q Ex, φ ms Q Ex → ms.length = n ∧ wb (ms ++ List.replicate (N.length - n) .un) { nx := fun e => Q (.frz .non) (padM e np n), rt := fun r e => Q r (padM e np n) } (fun c d _ => Ex c d)) : FnQ b (k + 1) f fd ps (spOf b.K n φ) := by
  refine fnQ_of F S (fun _ _ _ _ h => (spOf_len h).trans hn.symm) fun cdv A outer s H vs Q E g hr h => ?_
  have hpl : ps.length ≤ N.length := by have z := congrArg List.length S.pre; rw [List.length_take] at z; omega
  have c : DB b true (cxOf (L2.CX b.P b.w) b.P b.w b.K b.mg b.base N qual scope f cdv A outer s H E) (fun u d _ H => E u d H) N scope k :=
    ⟨⟨rfl, S.nd, rfl, hr, takes_of rfl rfl rfl rfl, passes_of rfl, fun _ z => z, fun _ z => z, fun _ z => .inl z, fun _ z => z, fun _ _ => rfl, S.kind⟩, rfl, rfl, rfl, rfl, rfl, fun _ => g⟩
  exact ⟨_, hbody _ _ c, body_end c (fun _ _ _ _ => rfl) hnp (by omega) (hbody _ _ c) hφ h⟩
theorem all_fact {fa : List He.Fa} {fn : List He.DefD} {K : Fr} (c : He.SaysD fa fn K) {f : He.Fa} (h : f ∈ fa) : f.ok K = true := by
  obtain ⟨i, hi⟩ := List.getElem?_of_mem h
  exact c.fact i hi
theorem cls_of {K : Fr} {D : Addr} (h : PySem.W.mroIn K D (.ref D) = some true) : ∃ cdD, PySem.W.clsIn K D = some cdD := by
  obtain ⟨cd, a, _⟩ := Option.bind_eq_some_iff.mp h
  exact ⟨cd, a⟩
end Pl

namespace Lw
open PySem PySem.Spec PyProof.Rows L2 Pl
open Classical
def top (i : Nat) : Stmt := PySem.Challenge.pw_laidbefore_k00_each_error_by_itself.main.body.getD i (.Pass ⟨0, 0, 0, 0⟩)
def excs : List Str := ("DigError" : Str) :: ("BadBand" : Str) :: ("BadCores" : Str) :: ("BadDeed" : Str) :: ("BadDig" : Str) :: ("BadDigs" : Str) :: ("BadFace" : Str) :: ("BadJournal" : Str) :: ("BadLabs" : Str) :: ("BadLetters" : Str) :: ("BadLikes" : Str) :: ("BadLine" : Str) :: ("BadLot" : Str) :: ("BadLots" : Str) :: ("BadNotes" : Str) :: ("BadNumber" : Str) :: ("BadPair" : Str) :: ("BadQuestion" : Str) :: ("BadRow" : Str) :: ("BadRows" : Str) :: ("BadStructures" : Str) :: ("BadUnit" : Str) :: ("BadYears" : Str) :: ("Clash" : Str) :: ("Full" : Str) :: ("Growing" : Str) :: ("Known" : Str) :: ("Late" : Str) :: ("NoBook" : Str) :: ("NoDig" : Str) :: ("NoLike" : Str) :: ("NoNote" : Str) :: ("NoTrial" : Str) :: ("NotSure" : Str) :: ("NothingToRedo" : Str) :: ("NothingToUndo" : Str) :: ("TooMany" : Str) :: ("Turning" : Str) :: ("Unlike" : Str) :: ("Unsure" : Str) :: ("BadSequence" : Str) :: ("NoPair" : Str) :: ("BadDoubts" : Str) :: ("NeverSo" : Str) :: ("BadPulls" : Str) :: []
def errs : List Str := ("BadBand" : Str) :: ("BadCores" : Str) :: ("BadDeed" : Str) :: ("BadDig" : Str) :: ("BadDigs" : Str) :: ("BadDoubts" : Str) :: ("BadFace" : Str) :: ("BadJournal" : Str) :: ("BadLabs" : Str) :: ("BadLetters" : Str) :: ("BadLikes" : Str) :: ("BadLine" : Str) :: ("BadLot" : Str) :: ("BadLots" : Str) :: ("BadNotes" : Str) :: ("BadNumber" : Str) :: ("BadPair" : Str) :: ("BadPulls" : Str) :: ("BadQuestion" : Str) :: ("BadRow" : Str) :: ("BadRows" : Str) :: ("BadSequence" : Str) :: ("BadStructures" : Str) :: ("BadUnit" : Str) :: ("BadYears" : Str) :: ("Clash" : Str) :: ("Full" : Str) :: ("Growing" : Str) :: ("Known" : Str) :: ("Late" : Str) :: ("NeverSo" : Str) :: ("NoBook" : Str) :: ("NoDig" : Str) :: ("NoLike" : Str) :: ("NoNote" : Str) :: ("NoPair" : Str) :: ("NoTrial" : Str) :: ("NotSure" : Str) :: ("NothingToRedo" : Str) :: ("NothingToUndo" : Str) :: ("TooMany" : Str) :: ("Turning" : Str) :: ("Unlike" : Str) :: ("Unsure" : Str) :: []
theorem m_DigError : ("DigError" : Str) ∈ excs := by decide +kernel
theorem m_BadBand : ("BadBand" : Str) ∈ excs := by decide +kernel
theorem m_BadCores : ("BadCores" : Str) ∈ excs := by decide +kernel
theorem m_BadDeed : ("BadDeed" : Str) ∈ excs := by decide +kernel
theorem m_BadDig : ("BadDig" : Str) ∈ excs := by decide +kernel
theorem m_BadDigs : ("BadDigs" : Str) ∈ excs := by decide +kernel
theorem m_BadFace : ("BadFace" : Str) ∈ excs := by decide +kernel
theorem m_BadJournal : ("BadJournal" : Str) ∈ excs := by decide +kernel
theorem m_BadLabs : ("BadLabs" : Str) ∈ excs := by decide +kernel
theorem m_BadLetters : ("BadLetters" : Str) ∈ excs := by decide +kernel
theorem m_BadLikes : ("BadLikes" : Str) ∈ excs := by decide +kernel
theorem m_BadLine : ("BadLine" : Str) ∈ excs := by decide +kernel
theorem m_BadLot : ("BadLot" : Str) ∈ excs := by decide +kernel
theorem m_BadLots : ("BadLots" : Str) ∈ excs := by decide +kernel
theorem m_BadNotes : ("BadNotes" : Str) ∈ excs := by decide +kernel
theorem m_BadNumber : ("BadNumber" : Str) ∈ excs := by decide +kernel
theorem m_BadPair : ("BadPair" : Str) ∈ excs := by decide +kernel
theorem m_BadQuestion : ("BadQuestion" : Str) ∈ excs := by decide +kernel
theorem m_BadRow : ("BadRow" : Str) ∈ excs := by decide +kernel
theorem m_BadRows : ("BadRows" : Str) ∈ excs := by decide +kernel
theorem m_BadStructures : ("BadStructures" : Str) ∈ excs := by decide +kernel
theorem m_BadUnit : ("BadUnit" : Str) ∈ excs := by decide +kernel
theorem m_BadYears : ("BadYears" : Str) ∈ excs := by decide +kernel
theorem m_Clash : ("Clash" : Str) ∈ excs := by decide +kernel
theorem m_Full : ("Full" : Str) ∈ excs := by decide +kernel
theorem m_Growing : ("Growing" : Str) ∈ excs := by decide +kernel
theorem m_Known : ("Known" : Str) ∈ excs := by decide +kernel
theorem m_Late : ("Late" : Str) ∈ excs := by decide +kernel
theorem m_NoBook : ("NoBook" : Str) ∈ excs := by decide +kernel
theorem m_NoDig : ("NoDig" : Str) ∈ excs := by decide +kernel
theorem m_NoLike : ("NoLike" : Str) ∈ excs := by decide +kernel
theorem m_NoNote : ("NoNote" : Str) ∈ excs := by decide +kernel
theorem m_NoTrial : ("NoTrial" : Str) ∈ excs := by decide +kernel
theorem m_NotSure : ("NotSure" : Str) ∈ excs := by decide +kernel
theorem m_NothingToRedo : ("NothingToRedo" : Str) ∈ excs := by decide +kernel
theorem m_NothingToUndo : ("NothingToUndo" : Str) ∈ excs := by decide +kernel
theorem m_TooMany : ("TooMany" : Str) ∈ excs := by decide +kernel
theorem m_Turning : ("Turning" : Str) ∈ excs := by decide +kernel
theorem m_Unlike : ("Unlike" : Str) ∈ excs := by decide +kernel
theorem m_Unsure : ("Unsure" : Str) ∈ excs := by decide +kernel
theorem m_BadSequence : ("BadSequence" : Str) ∈ excs := by decide +kernel
theorem m_NoPair : ("NoPair" : Str) ∈ excs := by decide +kernel
theorem m_BadDoubts : ("BadDoubts" : Str) ∈ excs := by decide +kernel
theorem m_NeverSo : ("NeverSo" : Str) ∈ excs := by decide +kernel
theorem m_BadPulls : ("BadPulls" : Str) ∈ excs := by decide +kernel
end Lw

namespace Lw
open PySem PySem.Spec PyProof.Rows L2 Pl
open Classical
/-- the plain values that are drawn -/
def odds : List D := [.non, .bl true, .bl false, .int 0, .int 1, .int (-1), .int 2, .int 9999, .int 10000, .str "", .str "a", .str "A", .str "unit", .str "above", .tup [], .lst [], .dic false [], .tup [.int 0], .tup [.tup []], .lst [.int 0],
  .tup [.str "a"], .tup [.str "a", .str "b"], .tup [.int 1, .int 2], .tup [.non], .tup [.str "above", .str "a", .str "b"], .int (10 ^ 11)]
theorem ok_app (a b : Str) : PyData.strOk (a ++ b) = (PyData.strOk a && PyData.strOk b) := by
  show (a.cps ++ b.cps).all _ = _
  rw [Array.all_append]
  rfl
/-- a value of few parts, nested j deep -/
def GoodN (j : Nat) (d : D) : Prop := rOk d ∧ d.pdR.showable = true ∧ d.pdR.depth ≤ 2 + j ∧ (reprD d).length ≤ 100 + 20 * j ∧ PyData.strOk (reprD d) = true
theorem GoodN.mono {i j : Nat} {d : D} (g : GoodN i d) (h : i ≤ j) : GoodN j d := ⟨g.1, g.2.1, by have := g.2.2.1; omega, by have := g.2.2.2.1; omega, g.2.2.2.2⟩
def oddB (d : D) : Bool := d.pdR.showable && (decide (d.pdR.depth ≤ 2) && (decide ((reprD d).length ≤ 100) && PyData.strOk (reprD d)))
theorem odds_b : odds.all oddB = true := by decide +kernel
theorem odds_r : ∀ d ∈ odds, rOk d := by simp [odds, rOk, rOkL, rOkK]
theorem odds_good : ∀ d ∈ odds, GoodN 0 d := fun d h => by
  have h1 := List.all_eq_true.mp odds_b d h
  simp only [oddB, Bool.and_eq_true, decide_eq_true_eq] at h1
  exact ⟨odds_r d h, h1.1, h1.2.1, h1.2.2.1, h1.2.2.2⟩
theorem good_tup {j : Nat} {d : D} (g : GoodN j d) : GoodN (j + 1) (.tup [d]) := by
  obtain ⟨g1, g2, g3, g4, g5⟩ := g
  refine ⟨by simp [rOk, rOkL, g1], by simp [D.pdR, pdRL, PyData.showable, PyData.showableAll, g2], by simp [D.pdR, pdRL, PyData.depth, PyData.depthAll]; omega, ?_, ?_⟩
  · show (("(" : Str) ++ reprD d ++ ",)").length ≤ _
    rw [strLen_append, strLen_append]
    show 1 + _ + 2 ≤ _
    omega
  · show PyData.strOk (("(" : Str) ++ reprD d ++ ",)") = true
    rw [ok_app, ok_app, g5]
    decide +kernel
theorem good_lst {j : Nat} {d : D} (g : GoodN j d) : GoodN (j + 1) (.lst [d]) := by
  obtain ⟨g1, g2, g3, g4, g5⟩ := g
  refine ⟨by simp [rOk, rOkL, g1], by simp [D.pdR, pdRL, PyData.showable, PyData.showableAll, g2], by simp [D.pdR, pdRL, PyData.depth, PyData.depthAll]; omega, ?_, ?_⟩
  · show (("[" : Str) ++ "" ++ reprD d ++ "]").length ≤ _
    rw [strLen_append, strLen_append, strLen_append]
    show 1 + 0 + _ + 1 ≤ _
    omega
  · show PyData.strOk (("[" : Str) ++ "" ++ reprD d ++ "]") = true
    rw [ok_app, ok_app, g5]
    decide +kernel
theorem good_dic {j : Nat} {d : D} (g : GoodN j d) : GoodN (j + 1) (.dic false [(.str "a", d)]) := by
  obtain ⟨g1, g2, g3, g4, g5⟩ := g
  refine ⟨by simp [rOk, rOkK, g1], by simp [D.pdR, pdRK, PyData.showable, PyData.showableKv, g2], by simp [D.pdR, pdRK, PyData.depth, PyData.depthKv]; omega, ?_, ?_⟩
  · show (("{" : Str) ++ (reprText "a" ++ ": " ++ reprD d) ++ "}").length ≤ _
    rw [strLen_append, strLen_append, strLen_append, strLen_append]
    show 1 + ((reprText "a").length + 2 + _) + 1 ≤ _
    have : (reprText "a").length = 3 := by decide +kernel
    omega
  · show PyData.strOk (("{" : Str) ++ (reprText "a" ++ ": " ++ reprD d) ++ "}") = true
    rw [ok_app, ok_app, ok_app, g5]
    decide +kernel
theorem good_tup2 {j : Nat} {d : D} (g : GoodN j d) : GoodN (j + 1) (.tup [.str "a", d]) := by
  obtain ⟨g1, g2, g3, g4, g5⟩ := g
  refine ⟨by simp [rOk, rOkL, g1], by simp [D.pdR, pdRL, PyData.showable, PyData.showableAll, g2], by simp [D.pdR, pdRL, PyData.depth, PyData.depthAll]; omega, ?_, ?_⟩
  · show (("(" : Str) ++ (reprText "a" ++ ", " ++ reprD d) ++ ")").length ≤ _
    rw [strLen_append, strLen_append, strLen_append, strLen_append]
    show 1 + ((reprText "a").length + 2 + _) + 1 ≤ _
    have : (reprText "a").length = 3 := by decide +kernel
    omega
  · show PyData.strOk (("(" : Str) ++ (reprText "a" ++ ", " ++ reprD d) ++ ")") = true
    rw [ok_app, ok_app, ok_app, g5]
    decide +kernel
/-- a list, one's own or frozen -/
def SeqM (m : M) (xs : List D) : Prop := (∃ a, m = .lst a xs) ∨ m = .frz (.lst xs)
def φ__law_pot : Ct := fun ms P _ => ∃ (ns : List Int) (p : Int), ms = [.frz (.scr ns), .frz (.int p)] ∧ 0 ≤ p ∧ p < 1000 ∧ ns.length < 1000 ∧ ∀ m, PotM 0 m → P m [.frz (.scr ns), .frz (.int p)]
abbrev φ__law_take : Ct := φTake
def φ__law_of : Ct := fun ms P _ => ∃ (n : Nat) (m s : M) (xs : List D), ms = [m, s] ∧ PotM n m ∧ n < 1000000 ∧ SeqM s xs ∧ 1 ≤ xs.length ∧ xs.length ≤ 1000000 ∧ ∀ r m', r ∈ xs → PotM (n + 1) m' → P (.frz r) [m', s]
def φ__law_cells : Ct := fun ms P _ => ∃ (ns : List Int), ms = [.frz (.scr ns), .frz (.int 3)] ∧ ns.length < 1000 ∧ ∀ a n, 0 ≤ n → n ≤ 3 → P (.lst a (rngD 0 n)) [.frz (.scr ns), .frz (.int 3)]
def φ__law_odd : Ct := fun ms P _ => ∃ (n : Nat) (m : M), ms = [m] ∧ PotM n m ∧ n < 100000 ∧ ∀ r m', r ∈ odds → PotM (n + 1) m' → P (.frz r) [m']
def φ__law_nested : Ct := fun ms P _ => ∃ (n : Nat) (m : M), ms = [m] ∧ PotM n m ∧ n < 10000 ∧ ∀ r m', GoodN 9 r → PotM (n + 12) m' → P (.frz r) [m']
def φ__law_made : Ct := fun ms P _ => ∃ (d : D), ms = [.frz d] ∧ ∀ a, P (.lst a (errs.map fun c => .exc c d)) [.frz d]
def φ__law_marks : Ct := fun ms P _ => ∃ (c : Str) (d : D), ms = [.frz (.exc c d)] ∧ c ∈ excs ∧ ∀ a, P (.lst a (errs.map fun t => .bl (subX c t))) [.frz (.exc c d)]
def φ__law_right : Ct := fun ms P _ => ∃ (d : D), ms = [.frz d] ∧ GoodN 9 d ∧ P (.frz (.bl true)) [.frz d]
def φ_law : Ct := fun ms P _ => ∃ (ns : List Int), ms = [.frz (.scr ns)] ∧ ns.length < 1000 ∧ P (.frz (.bl true)) [.frz (.scr ns)]
end Lw

namespace Lw
open PySem PySem.Spec PyProof.Rows L2 Pl
open Classical
structure Glob (b : Bd) : Prop where
  n_ValueError : b.mg "ValueError" = none
  n_abs : b.mg "abs" = none
  n_all : b.mg "all" = none
  n_any : b.mg "any" = none
  n_enumerate : b.mg "enumerate" = none
  n_int : b.mg "int" = none
  n_isinstance : b.mg "isinstance" = none
  n_len : b.mg "len" = none
  n_list : b.mg "list" = none
  n_max : b.mg "max" = none
  n_min : b.mg "min" = none
  n_range : b.mg "range" = none
  n_repr : b.mg "repr" = none
  f__law_take : b.mg "_law_take" = some (.ref (He.ga b.K "_law_take"))
  f__law_of : b.mg "_law_of" = some (.ref (He.ga b.K "_law_of"))
  f__law_odd : b.mg "_law_odd" = some (.ref (He.ga b.K "_law_odd"))
  f__law_marks : b.mg "_law_marks" = some (.ref (He.ga b.K "_law_marks"))
  f__law_made : b.mg "_law_made" = some (.ref (He.ga b.K "_law_made"))
  f__law_cells : b.mg "_law_cells" = some (.ref (He.ga b.K "_law_cells"))
  f__law_right : b.mg "_law_right" = some (.ref (He.ga b.K "_law_right"))
  f__law_nested : b.mg "_law_nested" = some (.ref (He.ga b.K "_law_nested"))
  f__law_pot : b.mg "_law_pot" = some (.ref (He.ga b.K "_law_pot"))
  ex : ExAll b excs
  sys : ∃ o, b.base.get? sysModules = some o ∧ o.cls ≠ .type "list"
def N__law_pot : List Str := ["script", "place", "cell", "own", "small"]
def w__law_pot : WS := wSeq (wAsg 2 (wIf (wTst (w2 gLt (wSlot 1) (wVal (wN gLen (wCons (wSlot 0) (wNil)))))) (w2 gIx (wSlot 0) (wSlot 1)) (w2 gAdd (wVal (w2 gMul (wVal (wC (.int 397))) (wSlot 1))) (wVal (wC (.int 263)))))) (wSeq (wAsg 3 (w2 gMul (wVal (w2 gMod (wVal (wN gInt (wCons (wVal (wN gAbs (wCons (wSlot 2) (wNil)))) (wNil)))) (wVal (w2 gPow (wVal (w2 gPow (wVal (wC (.int 10))) (wVal (wC (.int 60))))) (wVal (wC (.int 5))))))) (wVal (wN gInt (wCons (wVal (w2 gGe (wVal (wN gAbs (wCons (wSlot 2) (wNil)))) (wVal (w2 gPow (wVal (wC (.int 10))) (wVal (wC (.int 18))))))) (wNil)))))) (wSeq (wAsg 4 (w2 gMod (wVal (wN gInt (wCons (wSlot 2) (wNil)))) (wVal (wC (.int 2305843009213693951))))) (wRet (wLst (wCons (wVal (wVar 3)) (wCons (wVal (w2 gMod (wVal (wN gInt (wCons (wVal (w2 gAdd (wVal (w2 gAdd (wVal (w2 gMul (wSlot 4) (wVal (wC (.int 69997))))) (wVal (w2 gMul (wVal (w2 gMul (wVal (wC (.int 9029))) (wSlot 1))) (wSlot 1))))) (wVal (wC (.int 733))))) (wNil)))) (wVal (wC (.int 2305843009213693921))))) (wCons (wVal (wC (.int 0))) (wNil))))))))
theorem b__law_pot {b : Bd} (G : Glob b) {gd : Bool} {X : Cx} {W : WX} (c : DB b gd X W N__law_pot (defScope (top 47)) 0) : GSs X W (2, 5) (defBody (top 47)) w__law_pot :=
  gss_cons (gset c.toDC 2 (g_if (gt_cmp o_lt (gv c.toDC 1) (go_val (e_B c o_len G.n_len boot_len (ga_cons (gv c.toDC 0) (ga_nil)))) rfl) (g_ix (o_ix c.hu) (gv c.toDC 0) (gv c.toDC 1)) (g_bin o_add (go_val (g_bin o_mul (go_val (g_int)) (gv c.toDC 1))) (go_val (g_int))))) (gss_cons (gset c.toDC 3 (g_bin o_mul (go_val (g_bin o_mod (go_val (e_T c o_int1 G.n_int boot_int (ga_cons (go_val (e_B c o_abs G.n_abs boot_abs (ga_cons (gv c.toDC 2) (ga_nil)))) (ga_nil)))) (go_val (g_bin o_pow (go_val (g_bin o_pow (go_val (g_int)) (go_val (g_int)))) (go_val (g_int)))))) (go_val (e_T c o_int1 G.n_int boot_int (ga_cons (go_val (g_cmp o_ge (go_val (e_B c o_abs G.n_abs boot_abs (ga_cons (gv c.toDC 2) (ga_nil)))) (go_val (g_bin o_pow (go_val (g_int)) (go_val (g_int)))) rfl)) (ga_nil)))))) (gss_cons (gset c.toDC 4 (g_bin o_mod (go_val (e_T c o_int1 G.n_int boot_int (ga_cons (gv c.toDC 2) (ga_nil)))) (go_val (g_int)))) (gss_one (gs_ret (g_lst (ga_cons (go_val (gn c.toDC 3)) (ga_cons (go_val (g_bin o_mod (go_val (e_T c o_int1 G.n_int boot_int (ga_cons (go_val (g_bin o_add (go_val (g_bin o_add (go_val (g_bin o_mul (gv c.toDC 4) (go_val (g_int)))) (go_val (g_bin o_mul (go_val (g_bin o_mul (go_val (g_int)) (gv c.toDC 1))) (gv c.toDC 1))))) (go_val (g_int)))) (ga_nil)))) (go_val (g_int)))) (ga_cons (go_val (g_int)) (ga_nil)))))))))
def N__law_take : List Str := ["pot", "upto", "digit", "prime", "mixed"]
def w__law_take : WS := wSeq (wIfS (wTst (w2 gGt (wVal (w2 gIx (wSlot 0) (wVal (wC (.int 0))))) (wVal (wC (.int 0))))) (wSeq (wAsg 2 (w2 gMod (wVal (wN gInt (wCons (wVal (w2 gIx (wSlot 0) (wVal (wC (.int 0))))) (wNil)))) (wSlot 1))) (wSeq (wSetI (w2 gDiv (wVal (w2 gIx (wSlot 0) (wVal (wC (.int 0))))) (wSlot 1)) (wSlot 0) (wVal (wC (.int 0)))) (wRet (wMove 2)))) (wPass)) (wSeq (wSetI (w2 gAdd (wVal (w2 gIx (wSlot 0) (wVal (wC (.int 2))))) (wVal (wC (.int 1)))) (wSlot 0) (wVal (wC (.int 2)))) (wSeq (wAsg 3 (w2 gIx (wVal (wLst (wCons (wVal (wC (.int 2147483647))) (wCons (wVal (wC (.int 2147483629))) (wCons (wVal (wC (.int 2147483587))) (wCons (wVal (wC (.int 2147483579))) (wCons (wVal (wC (.int 2147483563))) (wNil)))))))) (wVal (w2 gMod (wVal (wN gInt (wCons (wVal (w2 gIx (wSlot 0) (wVal (wC (.int 2))))) (wNil)))) (wVal (wC (.int 5))))))) (wSeq (wAsg 4 (w2 gMod (wVal (wN gInt (wCons (wVal (w2 gPow (wVal (wN gInt (wCons (wVal (w2 gAdd (wVal (w2 gAdd (wVal (w2 gIx (wSlot 0) (wVal (wC (.int 1))))) (wVal (w2 gMul (wVal (w2 gMul (wVal (wC (.int 90017))) (wVal (w2 gIx (wSlot 0) (wVal (wC (.int 2))))))) (wVal (w2 gIx (wSlot 0) (wVal (wC (.int 2))))))))) (wVal (wC (.int 107))))) (wNil)))) (wVal (wC (.int 3))))) (wNil)))) (wSlot 3))) (wSeq (wAsg 4 (w2 gMod (wVal (wN gInt (wCons (wVal (w2 gMul (wSlot 4) (wVal (w2 gAdd (wVal (w2 gMod (wVal (wN gInt (wCons (wSlot 4) (wNil)))) (wVal (wC (.int 10099))))) (wVal (w2 gMul (wVal (wC (.int 211))) (wVal (w2 gIx (wSlot 0) (wVal (wC (.int 2))))))))))) (wNil)))) (wVal (wC (.int 2305843009213693907))))) (wRet (w2 gMod (wVal (wN gInt (wCons (wVal (w2 gDiv (wSlot 4) (wVal (wC (.int 191))))) (wNil)))) (wSlot 1)))))))
theorem b__law_take {b : Bd} (G : Glob b) {gd : Bool} {X : Cx} {W : WX} (c : DB b gd X W N__law_take (defScope (top 48)) 0) : GSs X W (2, 5) (defBody (top 48)) w__law_take :=
  gss_cons (gs_if (gt_cmp o_gt (go_val (g_ix (o_ix c.hu) (gv c.toDC 0) (go_val (g_int)))) (go_val (g_int)) rfl) (gss_cons (gset c.toDC 2 (g_bin o_mod (go_val (e_T c o_int1 G.n_int boot_int (ga_cons (go_val (g_ix (o_ix c.hu) (gv c.toDC 0) (go_val (g_int)))) (ga_nil)))) (gv c.toDC 1))) (gss_cons (gs_setI c.hu1 (g_bin o_div (go_val (g_ix (o_ix c.hu) (gv c.toDC 0) (go_val (g_int)))) (gv c.toDC 1)) (gv c.toDC 0) (go_val (g_int))) (gss_one (gs_ret (gm c.toDC 2))))) (gss_nil)) (gss_cons (gs_setI c.hu1 (g_bin o_add (go_val (g_ix (o_ix c.hu) (gv c.toDC 0) (go_val (g_int)))) (go_val (g_int))) (gv c.toDC 0) (go_val (g_int))) (gss_cons (gset c.toDC 3 (g_ix (o_ix c.hu) (go_val (g_lst (ga_cons (go_val (g_int)) (ga_cons (go_val (g_int)) (ga_cons (go_val (g_int)) (ga_cons (go_val (g_int)) (ga_cons (go_val (g_int)) (ga_nil)))))))) (go_val (g_bin o_mod (go_val (e_T c o_int1 G.n_int boot_int (ga_cons (go_val (g_ix (o_ix c.hu) (gv c.toDC 0) (go_val (g_int)))) (ga_nil)))) (go_val (g_int)))))) (gss_cons (gset c.toDC 4 (g_bin o_mod (go_val (e_T c o_int1 G.n_int boot_int (ga_cons (go_val (g_bin o_pow (go_val (e_T c o_int1 G.n_int boot_int (ga_cons (go_val (g_bin o_add (go_val (g_bin o_add (go_val (g_ix (o_ix c.hu) (gv c.toDC 0) (go_val (g_int)))) (go_val (g_bin o_mul (go_val (g_bin o_mul (go_val (g_int)) (go_val (g_ix (o_ix c.hu) (gv c.toDC 0) (go_val (g_int)))))) (go_val (g_ix (o_ix c.hu) (gv c.toDC 0) (go_val (g_int)))))))) (go_val (g_int)))) (ga_nil)))) (go_val (g_int)))) (ga_nil)))) (gv c.toDC 3))) (gss_cons (gset c.toDC 4 (g_bin o_mod (go_val (e_T c o_int1 G.n_int boot_int (ga_cons (go_val (g_bin o_mul (gv c.toDC 4) (go_val (g_bin o_add (go_val (g_bin o_mod (go_val (e_T c o_int1 G.n_int boot_int (ga_cons (gv c.toDC 4) (ga_nil)))) (go_val (g_int)))) (go_val (g_bin o_mul (go_val (g_int)) (go_val (g_ix (o_ix c.hu) (gv c.toDC 0) (go_val (g_int)))))))))) (ga_nil)))) (go_val (g_int)))) (gss_one (gs_ret (g_bin o_mod (go_val (e_T c o_int1 G.n_int boot_int (ga_cons (go_val (g_bin o_div (gv c.toDC 4) (go_val (g_int)))) (ga_nil)))) (gv c.toDC 1))))))))
def N__law_of : List Str := ["pot", "some"]
def w__law_of : WS := wRet (w2 gIx (wSlot 1) (wVal (wCall 2 φ__law_take (wCons (wSlot 0) (wCons (wVal (wN gLen (wCons (wSlot 1) (wNil)))) (wNil))))))
theorem b__law_of {b : Bd} (G : Glob b) (F__law_take : FnB b 1 (He.ga b.K "_law_take") 2 φ__law_take) {gd : Bool} {X : Cx} {W : WX} (c : DB b gd X W N__law_of (defScope (top 49)) 1) : GSs X W (2, 2) (defBody (top 49)) w__law_of :=
  gss_one (gs_ret (g_ix (o_ix c.hu) (gv c.toDC 1) (go_val (e_call c F__law_take G.f__law_take (ga_cons (gv c.toDC 0) (ga_cons (go_val (e_B c o_len G.n_len boot_len (ga_cons (gv c.toDC 1) (ga_nil)))) (ga_nil)))))))
def N__law_cells : List Str := ["script", "limit"]
def w__law_cells : WS := wRet (wLRng (wN gMax2 (wCons (wVal (wC (.int 1))) (wCons (wVal (wN gMin2 (wCons (wSlot 1) (wCons (wVal (wN gLen (wCons (wSlot 0) (wNil)))) (wNil))))) (wNil)))))
theorem b__law_cells {b : Bd} (G : Glob b) {gd : Bool} {X : Cx} {W : WX} (c : DB b gd X W N__law_cells (defScope (top 50)) 0) : GSs X W (2, 2) (defBody (top 50)) w__law_cells :=
  gss_one (gs_ret (e_lrng c G.n_list G.n_range (e_B c (o_max2 c.calm) G.n_max boot_max (ga_cons (go_val (g_int)) (ga_cons (go_val (e_B c (o_min2 c.calm) G.n_min boot_min (ga_cons (gv c.toDC 1) (ga_cons (go_val (e_B c o_len G.n_len boot_len (ga_cons (gv c.toDC 0) (ga_nil)))) (ga_nil))))) (ga_nil))))))
def N__law_odd : List Str := ["pot", "some"]
def w__law_odd : WS := wSeq (wAsg 1 (wLst (wCons (wVal (wC .non)) (wCons (wVal (wC (.bl true))) (wCons (wVal (wC (.bl false))) (wCons (wVal (wC (.int 0))) (wCons (wVal (wC (.int 1))) (wCons (wVal (wNeg (wC (.int 1)))) (wCons (wVal (wC (.int 2))) (wCons (wVal (wC (.int 9999))) (wCons (wVal (wC (.int 10000))) (wCons (wVal (wC (.str ""))) (wCons (wVal (wC (.str "a"))) (wCons (wVal (wC (.str "A"))) (wCons (wVal (wC (.str "unit"))) (wCons (wVal (wC (.str "above"))) (wCons (wVal (wTup (wNil))) (wCons (wVal (wLst (wNil))) (wCons (wVal (wDic false)) (wCons (wVal (wTup (wCons (wVal (wC (.int 0))) (wNil)))) (wCons (wVal (wTup (wCons (wVal (wTup (wNil))) (wNil)))) (wCons (wVal (wLst (wCons (wVal (wC (.int 0))) (wNil)))) (wNil))))))))))))))))))))))) (wSeq (wDrop (wMut "list" false gExtend (wSlot 1) (wCons (wVal (wLst (wCons (wVal (wTup (wCons (wVal (wC (.str "a"))) (wNil)))) (wCons (wVal (wTup (wCons (wVal (wC (.str "a"))) (wCons (wVal (wC (.str "b"))) (wNil))))) (wCons (wVal (wTup (wCons (wVal (wC (.int 1))) (wCons (wVal (wC (.int 2))) (wNil))))) (wCons (wVal (wTup (wCons (wVal (wC .non)) (wNil)))) (wCons (wVal (wTup (wCons (wVal (wC (.str "above"))) (wCons (wVal (wC (.str "a"))) (wCons (wVal (wC (.str "b"))) (wNil)))))) (wCons (wVal (w2 gPow (wVal (wC (.int 10))) (wVal (wC (.int 11))))) (wNil))))))))) (wNil)))) (wRet (wCall 2 φ__law_of (wCons (wSlot 0) (wCons (wSlot 1) (wNil))))))
theorem b__law_odd {b : Bd} (G : Glob b) (F__law_of : FnB b 2 (He.ga b.K "_law_of") 2 φ__law_of) {gd : Bool} {X : Cx} {W : WX} (c : DB b gd X W N__law_odd (defScope (top 51)) 2) : GSs X W (1, 2) (defBody (top 51)) w__law_odd :=
  gss_cons (gset c.toDC 1 (g_lst (ga_cons (go_val (g_non)) (ga_cons (go_val (g_bl)) (ga_cons (go_val (g_bl)) (ga_cons (go_val (g_int)) (ga_cons (go_val (g_int)) (ga_cons (go_val (g_neg (g_int))) (ga_cons (go_val (g_int)) (ga_cons (go_val (g_int)) (ga_cons (go_val (g_int)) (ga_cons (go_val (g_str)) (ga_cons (go_val (g_str)) (ga_cons (go_val (g_str)) (ga_cons (go_val (g_str)) (ga_cons (go_val (g_str)) (ga_cons (go_val (g_tup (ga_nil))) (ga_cons (go_val (g_lst (ga_nil))) (ga_cons (go_val (g_dicK)) (ga_cons (go_val (g_tup (ga_cons (go_val (g_int)) (ga_nil)))) (ga_cons (go_val (g_tup (ga_cons (go_val (g_tup (ga_nil))) (ga_nil)))) (ga_cons (go_val (g_lst (ga_cons (go_val (g_int)) (ga_nil)))) (ga_nil))))))))))))))))))))))) (gss_cons (gs_expr (g_extend (gv c.toDC 1) (ga_cons (go_val (g_lst (ga_cons (go_val (g_tup (ga_cons (go_val (g_str)) (ga_nil)))) (ga_cons (go_val (g_tup (ga_cons (go_val (g_str)) (ga_cons (go_val (g_str)) (ga_nil))))) (ga_cons (go_val (g_tup (ga_cons (go_val (g_int)) (ga_cons (go_val (g_int)) (ga_nil))))) (ga_cons (go_val (g_tup (ga_cons (go_val (g_non)) (ga_nil)))) (ga_cons (go_val (g_tup (ga_cons (go_val (g_str)) (ga_cons (go_val (g_str)) (ga_cons (go_val (g_str)) (ga_nil)))))) (ga_cons (go_val (g_bin o_pow (go_val (g_int)) (go_val (g_int)))) (ga_nil))))))))) (ga_nil)))) (gss_one (gs_ret (e_call c F__law_of G.f__law_of (ga_cons (gv c.toDC 0) (ga_cons (gv c.toDC 1) (ga_nil)))))))
def N__law_nested : List Str := ["pot", "value", "lap"]
def w__law_nested : WS := wSeq (wAsg 1 (wCall 1 φ__law_odd (wCons (wSlot 0) (wNil)))) (wSeq (wFor (wRng1 (wCons (wVal (wCall 2 φ__law_of (wCons (wSlot 0) (wCons (wVal (wLst (wCons (wVal (wC (.int 0))) (wCons (wVal (wC (.int 0))) (wCons (wVal (wC (.int 1))) (wCons (wVal (wC (.int 2))) (wCons (wVal (wC (.int 9))) (wNil)))))))) (wNil))))) (wNil))) (wTn 2) (wAsg 1 (wCall 2 φ__law_of (wCons (wSlot 0) (wCons (wVal (wLst (wCons (wVal (wTup (wCons (wVal (wVar 1)) (wNil)))) (wCons (wVal (wLst (wCons (wVal (wVar 1)) (wNil)))) (wCons (wVal (wDisp1 (wC (.str "a")) (wVar 1))) (wCons (wVal (wTup (wCons (wVal (wC (.str "a"))) (wCons (wVal (wVar 1)) (wNil))))) (wNil))))))) (wNil)))))) (wRet (wMove 1)))
theorem b__law_nested {b : Bd} (G : Glob b) (F__law_of : FnB b 2 (He.ga b.K "_law_of") 2 φ__law_of) (F__law_odd : FnB b 3 (He.ga b.K "_law_odd") 1 φ__law_odd) {gd : Bool} {X : Cx} {W : WX} (c : DB b gd X W N__law_nested (defScope (top 52)) 3) : GSs X W (1, 3) (defBody (top 52)) w__law_nested :=
  gss_cons (gset c.toDC 1 (e_call c F__law_odd G.f__law_odd (ga_cons (gv c.toDC 0) (ga_nil)))) (gss_cons (s_for c (i_rng1 c G.n_range (ga_cons (go_val (e_call c F__law_of G.f__law_of (ga_cons (gv c.toDC 0) (ga_cons (go_val (g_lst (ga_cons (go_val (g_int)) (ga_cons (go_val (g_int)) (ga_cons (go_val (g_int)) (ga_cons (go_val (g_int)) (ga_cons (go_val (g_int)) (ga_nil)))))))) (ga_nil))))) (ga_nil))) (t_n c 2) (gss_one (gset c.toDC 1 (e_call c F__law_of G.f__law_of (ga_cons (gv c.toDC 0) (ga_cons (go_val (g_lst (ga_cons (go_val (g_tup (ga_cons (go_val (gn c.toDC 1)) (ga_nil)))) (ga_cons (go_val (g_lst (ga_cons (go_val (gn c.toDC 1)) (ga_nil)))) (ga_cons (go_val (g_disp1 (g_str) (gn c.toDC 1))) (ga_cons (go_val (g_tup (ga_cons (go_val (g_str)) (ga_cons (go_val (gn c.toDC 1)) (ga_nil))))) (ga_nil))))))) (ga_nil))))))) (gss_one (gs_ret (gm c.toDC 1))))
def N__law_made : List Str := ["value", "found"]
def w__law_made : WS := wSeq (wAsg 1 (wLst (wCons (wVal (wExc "BadBand" (wVar 0))) (wCons (wVal (wExc "BadCores" (wVar 0))) (wCons (wVal (wExc "BadDeed" (wVar 0))) (wCons (wVal (wExc "BadDig" (wVar 0))) (wNil))))))) (wSeq (wDrop (wMut "list" false gExtend (wSlot 1) (wCons (wVal (wLst (wCons (wVal (wExc "BadDigs" (wVar 0))) (wCons (wVal (wExc "BadDoubts" (wVar 0))) (wCons (wVal (wExc "BadFace" (wVar 0))) (wCons (wVal (wExc "BadJournal" (wVar 0))) (wNil))))))) (wNil)))) (wSeq (wDrop (wMut "list" false gExtend (wSlot 1) (wCons (wVal (wLst (wCons (wVal (wExc "BadLabs" (wVar 0))) (wCons (wVal (wExc "BadLetters" (wVar 0))) (wCons (wVal (wExc "BadLikes" (wVar 0))) (wCons (wVal (wExc "BadLine" (wVar 0))) (wNil))))))) (wNil)))) (wSeq (wDrop (wMut "list" false gExtend (wSlot 1) (wCons (wVal (wLst (wCons (wVal (wExc "BadLot" (wVar 0))) (wCons (wVal (wExc "BadLots" (wVar 0))) (wCons (wVal (wExc "BadNotes" (wVar 0))) (wCons (wVal (wExc "BadNumber" (wVar 0))) (wNil))))))) (wNil)))) (wSeq (wDrop (wMut "list" false gExtend (wSlot 1) (wCons (wVal (wLst (wCons (wVal (wExc "BadPair" (wVar 0))) (wCons (wVal (wExc "BadPulls" (wVar 0))) (wCons (wVal (wExc "BadQuestion" (wVar 0))) (wCons (wVal (wExc "BadRow" (wVar 0))) (wNil))))))) (wNil)))) (wSeq (wDrop (wMut "list" false gExtend (wSlot 1) (wCons (wVal (wLst (wCons (wVal (wExc "BadRows" (wVar 0))) (wCons (wVal (wExc "BadSequence" (wVar 0))) (wCons (wVal (wExc "BadStructures" (wVar 0))) (wCons (wVal (wExc "BadUnit" (wVar 0))) (wNil))))))) (wNil)))) (wSeq (wDrop (wMut "list" false gExtend (wSlot 1) (wCons (wVal (wLst (wCons (wVal (wExc "BadYears" (wVar 0))) (wCons (wVal (wExc "Clash" (wVar 0))) (wCons (wVal (wExc "Full" (wVar 0))) (wCons (wVal (wExc "Growing" (wVar 0))) (wNil))))))) (wNil)))) (wSeq (wDrop (wMut "list" false gExtend (wSlot 1) (wCons (wVal (wLst (wCons (wVal (wExc "Known" (wVar 0))) (wCons (wVal (wExc "Late" (wVar 0))) (wCons (wVal (wExc "NeverSo" (wVar 0))) (wCons (wVal (wExc "NoBook" (wVar 0))) (wNil))))))) (wNil)))) (wSeq (wDrop (wMut "list" false gExtend (wSlot 1) (wCons (wVal (wLst (wCons (wVal (wExc "NoDig" (wVar 0))) (wCons (wVal (wExc "NoLike" (wVar 0))) (wCons (wVal (wExc "NoNote" (wVar 0))) (wCons (wVal (wExc "NoPair" (wVar 0))) (wNil))))))) (wNil)))) (wSeq (wDrop (wMut "list" false gExtend (wSlot 1) (wCons (wVal (wLst (wCons (wVal (wExc "NoTrial" (wVar 0))) (wCons (wVal (wExc "NotSure" (wVar 0))) (wCons (wVal (wExc "NothingToRedo" (wVar 0))) (wCons (wVal (wExc "NothingToUndo" (wVar 0))) (wNil))))))) (wNil)))) (wSeq (wDrop (wMut "list" false gExtend (wSlot 1) (wCons (wVal (wLst (wCons (wVal (wExc "TooMany" (wVar 0))) (wCons (wVal (wExc "Turning" (wVar 0))) (wCons (wVal (wExc "Unlike" (wVar 0))) (wCons (wVal (wExc "Unsure" (wVar 0))) (wNil))))))) (wNil)))) (wRet (wMove 1))))))))))))
theorem b__law_made {b : Bd} (G : Glob b) {gd : Bool} {X : Cx} {W : WX} (c : DB b gd X W N__law_made (defScope (top 53)) 4) : GSs X W (1, 2) (defBody (top 53)) w__law_made :=
  gss_cons (gset c.toDC 1 (g_lst (ga_cons (go_val (e_exc c G.ex m_BadBand (gn c.toDC 0))) (ga_cons (go_val (e_exc c G.ex m_BadCores (gn c.toDC 0))) (ga_cons (go_val (e_exc c G.ex m_BadDeed (gn c.toDC 0))) (ga_cons (go_val (e_exc c G.ex m_BadDig (gn c.toDC 0))) (ga_nil))))))) (gss_cons (gs_expr (g_extend (gv c.toDC 1) (ga_cons (go_val (g_lst (ga_cons (go_val (e_exc c G.ex m_BadDigs (gn c.toDC 0))) (ga_cons (go_val (e_exc c G.ex m_BadDoubts (gn c.toDC 0))) (ga_cons (go_val (e_exc c G.ex m_BadFace (gn c.toDC 0))) (ga_cons (go_val (e_exc c G.ex m_BadJournal (gn c.toDC 0))) (ga_nil))))))) (ga_nil)))) (gss_cons (gs_expr (g_extend (gv c.toDC 1) (ga_cons (go_val (g_lst (ga_cons (go_val (e_exc c G.ex m_BadLabs (gn c.toDC 0))) (ga_cons (go_val (e_exc c G.ex m_BadLetters (gn c.toDC 0))) (ga_cons (go_val (e_exc c G.ex m_BadLikes (gn c.toDC 0))) (ga_cons (go_val (e_exc c G.ex m_BadLine (gn c.toDC 0))) (ga_nil))))))) (ga_nil)))) (gss_cons (gs_expr (g_extend (gv c.toDC 1) (ga_cons (go_val (g_lst (ga_cons (go_val (e_exc c G.ex m_BadLot (gn c.toDC 0))) (ga_cons (go_val (e_exc c G.ex m_BadLots (gn c.toDC 0))) (ga_cons (go_val (e_exc c G.ex m_BadNotes (gn c.toDC 0))) (ga_cons (go_val (e_exc c G.ex m_BadNumber (gn c.toDC 0))) (ga_nil))))))) (ga_nil)))) (gss_cons (gs_expr (g_extend (gv c.toDC 1) (ga_cons (go_val (g_lst (ga_cons (go_val (e_exc c G.ex m_BadPair (gn c.toDC 0))) (ga_cons (go_val (e_exc c G.ex m_BadPulls (gn c.toDC 0))) (ga_cons (go_val (e_exc c G.ex m_BadQuestion (gn c.toDC 0))) (ga_cons (go_val (e_exc c G.ex m_BadRow (gn c.toDC 0))) (ga_nil))))))) (ga_nil)))) (gss_cons (gs_expr (g_extend (gv c.toDC 1) (ga_cons (go_val (g_lst (ga_cons (go_val (e_exc c G.ex m_BadRows (gn c.toDC 0))) (ga_cons (go_val (e_exc c G.ex m_BadSequence (gn c.toDC 0))) (ga_cons (go_val (e_exc c G.ex m_BadStructures (gn c.toDC 0))) (ga_cons (go_val (e_exc c G.ex m_BadUnit (gn c.toDC 0))) (ga_nil))))))) (ga_nil)))) (gss_cons (gs_expr (g_extend (gv c.toDC 1) (ga_cons (go_val (g_lst (ga_cons (go_val (e_exc c G.ex m_BadYears (gn c.toDC 0))) (ga_cons (go_val (e_exc c G.ex m_Clash (gn c.toDC 0))) (ga_cons (go_val (e_exc c G.ex m_Full (gn c.toDC 0))) (ga_cons (go_val (e_exc c G.ex m_Growing (gn c.toDC 0))) (ga_nil))))))) (ga_nil)))) (gss_cons (gs_expr (g_extend (gv c.toDC 1) (ga_cons (go_val (g_lst (ga_cons (go_val (e_exc c G.ex m_Known (gn c.toDC 0))) (ga_cons (go_val (e_exc c G.ex m_Late (gn c.toDC 0))) (ga_cons (go_val (e_exc c G.ex m_NeverSo (gn c.toDC 0))) (ga_cons (go_val (e_exc c G.ex m_NoBook (gn c.toDC 0))) (ga_nil))))))) (ga_nil)))) (gss_cons (gs_expr (g_extend (gv c.toDC 1) (ga_cons (go_val (g_lst (ga_cons (go_val (e_exc c G.ex m_NoDig (gn c.toDC 0))) (ga_cons (go_val (e_exc c G.ex m_NoLike (gn c.toDC 0))) (ga_cons (go_val (e_exc c G.ex m_NoNote (gn c.toDC 0))) (ga_cons (go_val (e_exc c G.ex m_NoPair (gn c.toDC 0))) (ga_nil))))))) (ga_nil)))) (gss_cons (gs_expr (g_extend (gv c.toDC 1) (ga_cons (go_val (g_lst (ga_cons (go_val (e_exc c G.ex m_NoTrial (gn c.toDC 0))) (ga_cons (go_val (e_exc c G.ex m_NotSure (gn c.toDC 0))) (ga_cons (go_val (e_exc c G.ex m_NothingToRedo (gn c.toDC 0))) (ga_cons (go_val (e_exc c G.ex m_NothingToUndo (gn c.toDC 0))) (ga_nil))))))) (ga_nil)))) (gss_cons (gs_expr (g_extend (gv c.toDC 1) (ga_cons (go_val (g_lst (ga_cons (go_val (e_exc c G.ex m_TooMany (gn c.toDC 0))) (ga_cons (go_val (e_exc c G.ex m_Turning (gn c.toDC 0))) (ga_cons (go_val (e_exc c G.ex m_Unlike (gn c.toDC 0))) (ga_cons (go_val (e_exc c G.ex m_Unsure (gn c.toDC 0))) (ga_nil))))))) (ga_nil)))) (gss_one (gs_ret (gm c.toDC 1)))))))))))))
def N__law_marks : List Str := ["error", "found"]
def w__law_marks : WS := wSeq (wAsg 1 (wLst (wCons (wVal (wIsE excs "BadBand" (wSlot 0))) (wCons (wVal (wIsE excs "BadCores" (wSlot 0))) (wCons (wVal (wIsE excs "BadDeed" (wSlot 0))) (wNil)))))) (wSeq (wDrop (wMut "list" false gExtend (wSlot 1) (wCons (wVal (wLst (wCons (wVal (wIsE excs "BadDig" (wSlot 0))) (wCons (wVal (wIsE excs "BadDigs" (wSlot 0))) (wCons (wVal (wIsE excs "BadDoubts" (wSlot 0))) (wNil)))))) (wNil)))) (wSeq (wDrop (wMut "list" false gExtend (wSlot 1) (wCons (wVal (wLst (wCons (wVal (wIsE excs "BadFace" (wSlot 0))) (wCons (wVal (wIsE excs "BadJournal" (wSlot 0))) (wCons (wVal (wIsE excs "BadLabs" (wSlot 0))) (wNil)))))) (wNil)))) (wSeq (wDrop (wMut "list" false gExtend (wSlot 1) (wCons (wVal (wLst (wCons (wVal (wIsE excs "BadLetters" (wSlot 0))) (wCons (wVal (wIsE excs "BadLikes" (wSlot 0))) (wCons (wVal (wIsE excs "BadLine" (wSlot 0))) (wNil)))))) (wNil)))) (wSeq (wDrop (wMut "list" false gExtend (wSlot 1) (wCons (wVal (wLst (wCons (wVal (wIsE excs "BadLot" (wSlot 0))) (wCons (wVal (wIsE excs "BadLots" (wSlot 0))) (wCons (wVal (wIsE excs "BadNotes" (wSlot 0))) (wNil)))))) (wNil)))) (wSeq (wDrop (wMut "list" false gExtend (wSlot 1) (wCons (wVal (wLst (wCons (wVal (wIsE excs "BadNumber" (wSlot 0))) (wCons (wVal (wIsE excs "BadPair" (wSlot 0))) (wCons (wVal (wIsE excs "BadPulls" (wSlot 0))) (wNil)))))) (wNil)))) (wSeq (wDrop (wMut "list" false gExtend (wSlot 1) (wCons (wVal (wLst (wCons (wVal (wIsE excs "BadQuestion" (wSlot 0))) (wCons (wVal (wIsE excs "BadRow" (wSlot 0))) (wCons (wVal (wIsE excs "BadRows" (wSlot 0))) (wNil)))))) (wNil)))) (wSeq (wDrop (wMut "list" false gExtend (wSlot 1) (wCons (wVal (wLst (wCons (wVal (wIsE excs "BadSequence" (wSlot 0))) (wCons (wVal (wIsE excs "BadStructures" (wSlot 0))) (wCons (wVal (wIsE excs "BadUnit" (wSlot 0))) (wNil)))))) (wNil)))) (wSeq (wDrop (wMut "list" false gExtend (wSlot 1) (wCons (wVal (wLst (wCons (wVal (wIsE excs "BadYears" (wSlot 0))) (wCons (wVal (wIsE excs "Clash" (wSlot 0))) (wCons (wVal (wIsE excs "Full" (wSlot 0))) (wNil)))))) (wNil)))) (wSeq (wDrop (wMut "list" false gExtend (wSlot 1) (wCons (wVal (wLst (wCons (wVal (wIsE excs "Growing" (wSlot 0))) (wCons (wVal (wIsE excs "Known" (wSlot 0))) (wCons (wVal (wIsE excs "Late" (wSlot 0))) (wNil)))))) (wNil)))) (wSeq (wDrop (wMut "list" false gExtend (wSlot 1) (wCons (wVal (wLst (wCons (wVal (wIsE excs "NeverSo" (wSlot 0))) (wCons (wVal (wIsE excs "NoBook" (wSlot 0))) (wCons (wVal (wIsE excs "NoDig" (wSlot 0))) (wNil)))))) (wNil)))) (wSeq (wDrop (wMut "list" false gExtend (wSlot 1) (wCons (wVal (wLst (wCons (wVal (wIsE excs "NoLike" (wSlot 0))) (wCons (wVal (wIsE excs "NoNote" (wSlot 0))) (wCons (wVal (wIsE excs "NoPair" (wSlot 0))) (wNil)))))) (wNil)))) (wSeq (wDrop (wMut "list" false gExtend (wSlot 1) (wCons (wVal (wLst (wCons (wVal (wIsE excs "NoTrial" (wSlot 0))) (wCons (wVal (wIsE excs "NotSure" (wSlot 0))) (wCons (wVal (wIsE excs "NothingToRedo" (wSlot 0))) (wNil)))))) (wNil)))) (wSeq (wDrop (wMut "list" false gExtend (wSlot 1) (wCons (wVal (wLst (wCons (wVal (wIsE excs "NothingToUndo" (wSlot 0))) (wCons (wVal (wIsE excs "TooMany" (wSlot 0))) (wCons (wVal (wIsE excs "Turning" (wSlot 0))) (wNil)))))) (wNil)))) (wSeq (wDrop (wMut "list" false gExtend (wSlot 1) (wCons (wVal (wLst (wCons (wVal (wIsE excs "Unlike" (wSlot 0))) (wCons (wVal (wIsE excs "Unsure" (wSlot 0))) (wNil))))) (wNil)))) (wRet (wMove 1))))))))))))))))
theorem b__law_marks {b : Bd} (G : Glob b) {gd : Bool} {X : Cx} {W : WX} (c : DB b gd X W N__law_marks (defScope (top 54)) 0) : GSs X W (1, 2) (defBody (top 54)) w__law_marks :=
  gss_cons (gset c.toDC 1 (g_lst (ga_cons (go_val (e_isE c G.ex m_BadBand G.n_isinstance (gv c.toDC 0))) (ga_cons (go_val (e_isE c G.ex m_BadCores G.n_isinstance (gv c.toDC 0))) (ga_cons (go_val (e_isE c G.ex m_BadDeed G.n_isinstance (gv c.toDC 0))) (ga_nil)))))) (gss_cons (gs_expr (g_extend (gv c.toDC 1) (ga_cons (go_val (g_lst (ga_cons (go_val (e_isE c G.ex m_BadDig G.n_isinstance (gv c.toDC 0))) (ga_cons (go_val (e_isE c G.ex m_BadDigs G.n_isinstance (gv c.toDC 0))) (ga_cons (go_val (e_isE c G.ex m_BadDoubts G.n_isinstance (gv c.toDC 0))) (ga_nil)))))) (ga_nil)))) (gss_cons (gs_expr (g_extend (gv c.toDC 1) (ga_cons (go_val (g_lst (ga_cons (go_val (e_isE c G.ex m_BadFace G.n_isinstance (gv c.toDC 0))) (ga_cons (go_val (e_isE c G.ex m_BadJournal G.n_isinstance (gv c.toDC 0))) (ga_cons (go_val (e_isE c G.ex m_BadLabs G.n_isinstance (gv c.toDC 0))) (ga_nil)))))) (ga_nil)))) (gss_cons (gs_expr (g_extend (gv c.toDC 1) (ga_cons (go_val (g_lst (ga_cons (go_val (e_isE c G.ex m_BadLetters G.n_isinstance (gv c.toDC 0))) (ga_cons (go_val (e_isE c G.ex m_BadLikes G.n_isinstance (gv c.toDC 0))) (ga_cons (go_val (e_isE c G.ex m_BadLine G.n_isinstance (gv c.toDC 0))) (ga_nil)))))) (ga_nil)))) (gss_cons (gs_expr (g_extend (gv c.toDC 1) (ga_cons (go_val (g_lst (ga_cons (go_val (e_isE c G.ex m_BadLot G.n_isinstance (gv c.toDC 0))) (ga_cons (go_val (e_isE c G.ex m_BadLots G.n_isinstance (gv c.toDC 0))) (ga_cons (go_val (e_isE c G.ex m_BadNotes G.n_isinstance (gv c.toDC 0))) (ga_nil)))))) (ga_nil)))) (gss_cons (gs_expr (g_extend (gv c.toDC 1) (ga_cons (go_val (g_lst (ga_cons (go_val (e_isE c G.ex m_BadNumber G.n_isinstance (gv c.toDC 0))) (ga_cons (go_val (e_isE c G.ex m_BadPair G.n_isinstance (gv c.toDC 0))) (ga_cons (go_val (e_isE c G.ex m_BadPulls G.n_isinstance (gv c.toDC 0))) (ga_nil)))))) (ga_nil)))) (gss_cons (gs_expr (g_extend (gv c.toDC 1) (ga_cons (go_val (g_lst (ga_cons (go_val (e_isE c G.ex m_BadQuestion G.n_isinstance (gv c.toDC 0))) (ga_cons (go_val (e_isE c G.ex m_BadRow G.n_isinstance (gv c.toDC 0))) (ga_cons (go_val (e_isE c G.ex m_BadRows G.n_isinstance (gv c.toDC 0))) (ga_nil)))))) (ga_nil)))) (gss_cons (gs_expr (g_extend (gv c.toDC 1) (ga_cons (go_val (g_lst (ga_cons (go_val (e_isE c G.ex m_BadSequence G.n_isinstance (gv c.toDC 0))) (ga_cons (go_val (e_isE c G.ex m_BadStructures G.n_isinstance (gv c.toDC 0))) (ga_cons (go_val (e_isE c G.ex m_BadUnit G.n_isinstance (gv c.toDC 0))) (ga_nil)))))) (ga_nil)))) (gss_cons (gs_expr (g_extend (gv c.toDC 1) (ga_cons (go_val (g_lst (ga_cons (go_val (e_isE c G.ex m_BadYears G.n_isinstance (gv c.toDC 0))) (ga_cons (go_val (e_isE c G.ex m_Clash G.n_isinstance (gv c.toDC 0))) (ga_cons (go_val (e_isE c G.ex m_Full G.n_isinstance (gv c.toDC 0))) (ga_nil)))))) (ga_nil)))) (gss_cons (gs_expr (g_extend (gv c.toDC 1) (ga_cons (go_val (g_lst (ga_cons (go_val (e_isE c G.ex m_Growing G.n_isinstance (gv c.toDC 0))) (ga_cons (go_val (e_isE c G.ex m_Known G.n_isinstance (gv c.toDC 0))) (ga_cons (go_val (e_isE c G.ex m_Late G.n_isinstance (gv c.toDC 0))) (ga_nil)))))) (ga_nil)))) (gss_cons (gs_expr (g_extend (gv c.toDC 1) (ga_cons (go_val (g_lst (ga_cons (go_val (e_isE c G.ex m_NeverSo G.n_isinstance (gv c.toDC 0))) (ga_cons (go_val (e_isE c G.ex m_NoBook G.n_isinstance (gv c.toDC 0))) (ga_cons (go_val (e_isE c G.ex m_NoDig G.n_isinstance (gv c.toDC 0))) (ga_nil)))))) (ga_nil)))) (gss_cons (gs_expr (g_extend (gv c.toDC 1) (ga_cons (go_val (g_lst (ga_cons (go_val (e_isE c G.ex m_NoLike G.n_isinstance (gv c.toDC 0))) (ga_cons (go_val (e_isE c G.ex m_NoNote G.n_isinstance (gv c.toDC 0))) (ga_cons (go_val (e_isE c G.ex m_NoPair G.n_isinstance (gv c.toDC 0))) (ga_nil)))))) (ga_nil)))) (gss_cons (gs_expr (g_extend (gv c.toDC 1) (ga_cons (go_val (g_lst (ga_cons (go_val (e_isE c G.ex m_NoTrial G.n_isinstance (gv c.toDC 0))) (ga_cons (go_val (e_isE c G.ex m_NotSure G.n_isinstance (gv c.toDC 0))) (ga_cons (go_val (e_isE c G.ex m_NothingToRedo G.n_isinstance (gv c.toDC 0))) (ga_nil)))))) (ga_nil)))) (gss_cons (gs_expr (g_extend (gv c.toDC 1) (ga_cons (go_val (g_lst (ga_cons (go_val (e_isE c G.ex m_NothingToUndo G.n_isinstance (gv c.toDC 0))) (ga_cons (go_val (e_isE c G.ex m_TooMany G.n_isinstance (gv c.toDC 0))) (ga_cons (go_val (e_isE c G.ex m_Turning G.n_isinstance (gv c.toDC 0))) (ga_nil)))))) (ga_nil)))) (gss_cons (gs_expr (g_extend (gv c.toDC 1) (ga_cons (go_val (g_lst (ga_cons (go_val (e_isE c G.ex m_Unlike G.n_isinstance (gv c.toDC 0))) (ga_cons (go_val (e_isE c G.ex m_Unsure G.n_isinstance (gv c.toDC 0))) (ga_nil))))) (ga_nil)))) (gss_one (gs_ret (gm c.toDC 1)))))))))))))))))
def N__law_right : List Str := ["value", "kept", "at", "error", "base", "spot"]
def w__law_right : WS := wSeq (wAsg 1 (wN gRepr (wCons (wSlot 0) (wNil)))) (wSeq (wFor (wEnum (wCons (wVal (wCall 1 φ__law_made (wCons (wSlot 0) (wNil)))) (wNil))) (wTt 2 (wT1 (wTn 2) (wT1 (wTn 3) (wT0)))) (wSeq (wIfS (wOrT (wNotT (wTst (wIsE excs "DigError" (wSlot 3)))) (wOrT (wNotT (wTst (wIsV excs (wSlot 3)))) (wTst (w2 gNe (wVal (wN gRepr (wCons (wEv excs 3) (wNil)))) (wSlot 1))))) (wRet (wC (.bl false))) (wPass)) (wIfS (wTst (w2 gNe (wVal (wCall 1 φ__law_marks (wCons (wSlot 3) (wNil)))) (wVal (wLc (wRng1 (wCons (wVal (wC (.int 44))) (wNil))) (wTn 5) (wTs0) (w2 gEq (wSlot 5) (wSlot 2)) [5])))) (wRet (wC (.bl false))) (wPass)))) (wSeq (wAsg 4 (wExc "DigError" (wVar 0))) (wSeq (wIfS (wOrT (wNotT (wTst (wIsV excs (wSlot 4)))) (wTst (wN gAny (wCons (wVal (wCall 1 φ__law_marks (wCons (wSlot 4) (wNil)))) (wNil))))) (wRet (wC (.bl false))) (wPass)) (wRet (wAndV (w2 gEq (wVal (wN gRepr (wCons (wEv excs 4) (wNil)))) (wSlot 1)) (w2 gEq (wVal (wN gRepr (wCons (wSlot 0) (wNil)))) (wSlot 1)))))))
theorem b__law_right {b : Bd} (G : Glob b) (F__law_marks : FnB b 1 (He.ga b.K "_law_marks") 1 φ__law_marks) (F__law_made : FnB b 5 (He.ga b.K "_law_made") 1 φ__law_made) {gd : Bool} {X : Cx} {W : WX} (c : DB b true X W N__law_right (defScope (top 55)) 5) : GSs X W (1, 6) (defBody (top 55)) w__law_right :=
  gss_cons (gset c.toDC 1 (e_B c (o_repr c G.sys) G.n_repr boot_repr (ga_cons (gv c.toDC 0) (ga_nil)))) (gss_cons (s_for c (i_enum c G.n_enumerate (ga_cons (go_val (e_call c F__law_made G.f__law_made (ga_cons (gv c.toDC 0) (ga_nil)))) (ga_nil))) (gg_tup c.calm (ggs_cons (t_n c 2) (ggs_cons (t_n c 3) (ggs_nil))) 2) (gss_cons (gs_if (gt_w (gw_or (gt_not (gt_val (e_isE c G.ex m_DigError G.n_isinstance (gv c.toDC 3)))) (gw_or (gt_not (gt_val (e_isV c G.ex G.n_ValueError G.n_isinstance (gv c.toDC 3)))) (gw_or1 (gt_cmp (o_ne c.hu) (go_val (e_B c (o_repr c G.sys) G.n_repr boot_repr (ga_cons (go_ev c G.ex 3) (ga_nil)))) (gv c.toDC 1) rfl))))) (gss_one (gs_ret (g_bl))) (gss_nil)) (gss_one (gs_if (gt_cmp (o_ne c.hu) (go_val (e_call c F__law_marks G.f__law_marks (ga_cons (gv c.toDC 3) (ga_nil)))) (go_val (g_lc c ([("spot", 5)] : List (Str × Nat)) [5] (i_rng1 c G.n_range (ga_cons (go_val (g_int)) (ga_nil))) (fun X c => ⟨t_n c 5, gts_nil, g_cmp (o_eq c.hu) (gv c.toDC 5) (gv c.toDC 2) rfl⟩))) rfl) (gss_one (gs_ret (g_bl))) (gss_nil))))) (gss_cons (gset c.toDC 4 (e_exc c G.ex m_DigError (gn c.toDC 0))) (gss_cons (gs_if (gt_w (gw_or (gt_not (gt_val (e_isV c G.ex G.n_ValueError G.n_isinstance (gv c.toDC 4)))) (gw_or1 (gt_val (e_B c (o_any c.calm) G.n_any boot_any (ga_cons (go_val (e_call c F__law_marks G.f__law_marks (ga_cons (gv c.toDC 4) (ga_nil)))) (ga_nil))))))) (gss_one (gs_ret (g_bl))) (gss_nil)) (gss_one (gs_ret (g_andV (g_cmp (o_eq c.hu) (go_val (e_B c (o_repr c G.sys) G.n_repr boot_repr (ga_cons (go_ev c G.ex 4) (ga_nil)))) (gv c.toDC 1) rfl) (g_one (g_cmp (o_eq c.hu) (go_val (e_B c (o_repr c G.sys) G.n_repr boot_repr (ga_cons (gv c.toDC 0) (ga_nil)))) (gv c.toDC 1) rfl))))))))
def N_law : List Str := ["script", "place", "pot", "lap"]
def w_law : WS := wSeq (wFor (wIter (wCall 2 φ__law_cells (wCons (wSlot 0) (wCons (wVal (wC (.int 3))) (wNil))))) (wTn 1) (wSeq (wAsg 2 (wCall 2 φ__law_pot (wCons (wSlot 0) (wCons (wSlot 1) (wNil))))) (wIfS (wNotT (wTst (wN gAll (wCons (wVal (wLc (wRng1 (wCons (wVal (wC (.int 6))) (wNil))) (wTn 3) (wTs0) (wCall 1 φ__law_right (wCons (wVal (wCall 1 φ__law_nested (wCons (wSlot 2) (wNil)))) (wNil))) [3])) (wNil))))) (wRet (wC (.bl false))) (wPass)))) (wRet (wC (.bl true)))
theorem b_law {b : Bd} (G : Glob b) (F__law_cells : FnB b 1 (He.ga b.K "_law_cells") 2 φ__law_cells) (F__law_right : FnG b 6 (He.ga b.K "_law_right") 1 φ__law_right) (F__law_nested : FnB b 4 (He.ga b.K "_law_nested") 1 φ__law_nested) (F__law_pot : FnB b 1 (He.ga b.K "_law_pot") 2 φ__law_pot) {gd : Bool} {X : Cx} {W : WX} (c : DB b true X W N_law (defScope (top 56)) 6) : GSs X W (1, 4) (defBody (top 56)) w_law :=
  gss_cons (s_for c (gi_any (e_call c F__law_cells G.f__law_cells (ga_cons (gv c.toDC 0) (ga_cons (go_val (g_int)) (ga_nil))))) (t_n c 1) (gss_cons (gset c.toDC 2 (e_call c F__law_pot G.f__law_pot (ga_cons (gv c.toDC 0) (ga_cons (gv c.toDC 1) (ga_nil))))) (gss_one (gs_if (gt_not (gt_val (e_B c (o_all c.calm) G.n_all boot_all (ga_cons (go_val (g_lc c ([("lap", 3)] : List (Str × Nat)) [3] (i_rng1 c G.n_range (ga_cons (go_val (g_int)) (ga_nil))) (fun X c => ⟨t_n c 3, gts_nil, e_callG c F__law_right G.f__law_right (ga_cons (go_val (e_call c F__law_nested G.f__law_nested (ga_cons (gv c.toDC 2) (ga_nil)))) (ga_nil))⟩))) (ga_nil))))) (gss_one (gs_ret (g_bl))) (gss_nil))))) (gss_one (gs_ret (g_bl)))
end Lw

namespace Lw
open PySem PySem.Spec PyProof.Rows L2 Pl
open Classical
theorem bits_le {i : Int} {n : Nat} (h : i.natAbs < 2 ^ n) (h0 : 0 < n) : (Builtin.Int.intBits i : Int) ≤ n := by
  have h1 := PySem.Flt.log2_lt_of h0 h
  unfold Builtin.Int.intBits
  split <;> omega
theorem sq_le {A c : Int} (hA : 0 ≤ A) (hA2 : A < 131072) (hc : 0 ≤ c) (hc2 : c ≤ 1000000) : 0 ≤ A * c ∧ A * c ≤ 131072000000 ∧ 0 ≤ A * c * c ∧ A * c * c ≤ 131072000000000000 := by
  have h1 : A * c ≤ 131072 * c := Int.mul_le_mul_of_nonneg_right (by omega) hc
  have h0 : 0 ≤ A * c := Int.mul_nonneg hA hc
  have h2 : A * c ≤ 131072000000 := by omega
  have h3 : A * c * c ≤ 131072000000 * c := Int.mul_le_mul_of_nonneg_right h2 hc
  exact ⟨h0, h2, Int.mul_nonneg h0 hc, by omega⟩
/-- what a mixed draw asks -/
theorem mix_ok {A B C D E K mix c p u : Int} {R : Prop} (hA : 0 ≤ A ∧ A < 131072) (hB : 0 ≤ B ∧ B < 131072) (hC : 0 ≤ C ∧ C < 131072) (hD : 0 < D ∧ D < 131072) (hE : 0 < E ∧ E < 131072) (hK : 0 < K) (h3 : 0 ≤ mix) (h4 : mix < 2 ^ 61) (h5 : 0 ≤ c) (h6 : c ≤ 1000000) (hp : 1 < p ∧ p < 2 ^ 31) (hu : 0 < u)
    (h : R) : CMulW A c ∧ CMulW (A * c) c ∧ CPowW (mix + A * c * c + B) 3 ∧ 0 < p ∧ CMulW C c ∧ CMulW ((mix + A * c * c + B) ^ 3 % p) ((mix + A * c * c + B) ^ 3 % p % D + C * c) ∧
      CDivW ((mix + A * c * c + B) ^ 3 % p * ((mix + A * c * c + B) ^ 3 % p % D + C * c) % K) E ∧ 0 < u ∧ R := by
  obtain ⟨a1, a2, a3, a4⟩ := sq_le hA.1 hA.2 h5 h6
  obtain ⟨c1, c2, c3, c4⟩ := sq_le hC.1 hC.2 h5 h6
  have y1 := Int.emod_nonneg ((mix + A * c * c + B) ^ 3) (show p ≠ 0 by omega)
  have y2 := Int.emod_lt_of_pos ((mix + A * c * c + B) ^ 3) (show 0 < p by omega)
  have z1 := Int.emod_nonneg ((mix + A * c * c + B) ^ 3 % p) (show D ≠ 0 by omega)
  have z2 := Int.emod_lt_of_pos ((mix + A * c * c + B) ^ 3 % p) (show 0 < D by omega)
  refine ⟨mul_ok (a := 17) (b := 20) (by omega) (by omega), mul_ok (a := 37) (b := 20) (by omega) (by omega), ⟨by decide, ?_⟩, by omega, mul_ok (a := 17) (b := 20) (by omega) (by omega), mul_ok (a := 31) (b := 40) (by omega) (by omega), ⟨hE.1, ?_⟩, hu, h⟩
  · have hb := bits_le (i := mix + A * c * c + B) (n := 62) (by omega) (by decide)
    omega
  · have := PySem.Flt.log2_lt_of (n := E.natAbs) (k := 17) (by decide) (by omega)
    omega
theorem own_ok {own u : Int} (h1 : 0 ≤ own) (hu : 1 ≤ u) (hu2 : u ≤ 1000000000) : CDivW own u := by
  refine ⟨by omega, ?_⟩
  have := PySem.Flt.log2_lt_of (n := u.natAbs) (k := 30) (by decide) (by omega)
  omega
theorem p__law_take : ∀ ms Q Ex, φTake ms Q Ex → ms.length = 2 ∧ w__law_take (ms ++ List.replicate (5 - 2) .un) { nx := fun e => Q (.frz .non) (padM e 2 2), rt := fun r e => Q r (padM e 2 2) } (fun c d _ => Ex c d) := by
  rintro ms Q Ex ⟨n, m, u, rfl, ⟨a, own, mix, cnt, rfl, h1, h2, h3, h4, h5, h6⟩, hn, hu, hu2, h⟩
  refine ⟨rfl, ?_⟩
  simp [w__law_take, List.replicate]
  split
  · rename_i ho
    refine ⟨by omega, own_ok h1 hu hu2, h _ _ (Int.emod_nonneg _ (by omega)) (Int.emod_lt_of_pos _ (by omega)) ⟨a, _, _, _, rfl, Int.ediv_nonneg h1 (by omega), ?_, h3, h4, h5, by omega⟩⟩
    have := Int.ediv_le_self u h1
    omega
  · refine ⟨by rw [sizeLine_eq]; decide, ?_⟩
    obtain ⟨p, hp, he⟩ : ∃ p : Int, (1 < p ∧ p < 2 ^ 31) ∧ L2.atI [D.int 2147483647, D.int 2147483629, D.int 2147483587, D.int 2147483579, D.int 2147483563] ((cnt + 1) % 5) = some (.int p) := by
      obtain ⟨d, hd, he⟩ := atI_mem (xs := [D.int 2147483647, D.int 2147483629, D.int 2147483587, D.int 2147483579, D.int 2147483563]) (i := (cnt + 1) % 5) (by omega) (by simp; omega)
      simp at hd
      rcases hd with rfl | rfl | rfl | rfl | rfl <;> exact ⟨_, by decide, he⟩
    rw [he]
    simp
    refine mix_ok (by decide) (by decide) (by decide) (by decide) (by decide) (by decide) h3 h4 (by omega) (by omega) hp (by omega) (h _ _ (Int.emod_nonneg _ (by omega)) (Int.emod_lt_of_pos _ (by omega)) ⟨a, _, _, _, rfl, h1, h2, h3, h4, by omega, by omega⟩)

theorem p__law_of : ∀ ms Q Ex, φ__law_of ms Q Ex → ms.length = 2 ∧ w__law_of (ms ++ List.replicate (2 - 2) .un) { nx := fun e => Q (.frz .non) (padM e 2 2), rt := fun r e => Q r (padM e 2 2) } (fun c d _ => Ex c d) := by
  rintro ms Q Ex ⟨n, m, s, xs, rfl, hp, hn, hs, h1, h2, h⟩
  refine ⟨rfl, ?_⟩
  obtain ⟨a, own, mix, cnt, rfl, i1, i2, i3, i4, i5, i6⟩ := hp
  rcases hs with ⟨b, rfl⟩ | rfl
  · simp [w__law_of, List.replicate]
    refine ⟨n, _, _, rfl, ⟨a, _, _, _, rfl, i1, i2, i3, i4, i5, i6⟩, hn, by omega, by omega, fun r m' r1 r2 hm => ?_⟩
    obtain ⟨a', own', mix', cnt', rfl, j⟩ := hm
    obtain ⟨d, hd, he⟩ := atI_mem (xs := xs) r1 r2
    simp [he]
    exact h d _ hd ⟨_, _, _, _, rfl, j⟩
  · simp [w__law_of, List.replicate]
    refine ⟨n, _, _, rfl, ⟨a, _, _, _, rfl, i1, i2, i3, i4, i5, i6⟩, hn, by omega, by omega, fun r m' r1 r2 hm => ?_⟩
    obtain ⟨a', own', mix', cnt', rfl, j⟩ := hm
    obtain ⟨d, hd, he⟩ := atI_mem (xs := xs) r1 r2
    simp [he]
    exact h d _ hd ⟨_, _, _, _, rfl, j⟩
theorem p__law_cells : ∀ ms Q Ex, φ__law_cells ms Q Ex → ms.length = 2 ∧ w__law_cells (ms ++ List.replicate (2 - 2) .un) { nx := fun e => Q (.frz .non) (padM e 2 2), rt := fun r e => Q r (padM e 2 2) } (fun c d _ => Ex c d) := by
  rintro ms Q Ex ⟨ns, rfl, hl, h⟩
  refine ⟨rfl, ?_⟩
  simp [w__law_cells, List.replicate]
  exact ⟨by split <;> split <;> omega, fun p => h p _ (by split <;> split <;> omega) (by split <;> split <;> omega)⟩
theorem p__law_odd : ∀ ms Q Ex, φ__law_odd ms Q Ex → ms.length = 1 ∧ w__law_odd (ms ++ List.replicate (2 - 1) .un) { nx := fun e => Q (.frz .non) (padM e 1 1), rt := fun r e => Q r (padM e 1 1) } (fun c d _ => Ex c d) := by
  rintro ms Q Ex ⟨n, m, rfl, hp, hn, h⟩
  refine ⟨rfl, ?_⟩
  obtain ⟨a, own, mix, cnt, rfl, i⟩ := hp
  simp [w__law_odd, List.replicate, sizeLine_eq]
  refine fun p => ⟨⟨by decide, by decide +kernel⟩, ?_⟩
  refine ⟨n, _, .lst p odds, odds, rfl, ⟨a, _, _, _, rfl, i⟩, by omega, .inl ⟨p, rfl⟩, by decide, by decide, fun r m' hr hm => ?_⟩
  simp
  exact h r m' hr hm
theorem p__law_nested : ∀ ms Q Ex, φ__law_nested ms Q Ex → ms.length = 1 ∧ w__law_nested (ms ++ List.replicate (3 - 1) .un) { nx := fun e => Q (.frz .non) (padM e 1 1), rt := fun r e => Q r (padM e 1 1) } (fun c d _ => Ex c d) := by
  rintro ms Q Ex ⟨n, m, rfl, hp, hn, h⟩
  refine ⟨rfl, ?_⟩
  obtain ⟨a, own, mix, cnt, rfl, i⟩ := hp
  simp [w__law_nested, List.replicate, sizeLine_eq]
  refine ⟨n, _, rfl, ⟨a, _, _, _, rfl, i⟩, by omega, fun r m1 hr hm => ?_⟩
  obtain ⟨a1, own1, mix1, cnt1, rfl, i1⟩ := hm
  simp [sizeLine_eq]
  refine ⟨n + 1, _, _, _, rfl, ⟨a1, _, _, _, rfl, i1⟩, by omega, .inr rfl, by decide, by decide, fun r2 m2 hr2 hm2 => ?_⟩
  have hk : ∃ k : Nat, r2 = .int k ∧ k ≤ 9 := by
    simp at hr2
    rcases hr2 with rfl | rfl | rfl | rfl
    · exact ⟨0, rfl, by decide⟩
    · exact ⟨1, rfl, by decide⟩
    · exact ⟨2, rfl, by decide⟩
    · exact ⟨9, rfl, by decide⟩
  obtain ⟨k, rfl, hk⟩ := hk
  simp
  refine ⟨by omega, ?_⟩
  refine for_inv (fun ds e => ∃ (n' j : Nat) (m : M) (v : D) (x : M), e = [m, .frz v, x] ∧ PotM n' m ∧ GoodN j v ∧ ds.length + j ≤ 9 ∧ ds.length + n' ≤ n + 12) ?_ ?_ _ _ ⟨n + 2, 0, _, _, _, rfl, hm2, odds_good _ hr, by simp [rngD]; omega, by simp [rngD]; omega⟩
  · rintro e ⟨n', j, m, v, x, rfl, hp, hg, h1, h2⟩
    simp
    exact h v _ (hg.mono (by simp at h1; omega)) (hp.mono (by simp at h2; omega))
  · rintro d r e K ⟨n', j, m, v, x, rfl, hp, hg, h1, h2⟩ hK
    obtain ⟨a3, own3, mix3, cnt3, rfl, i3⟩ := hp
    simp at h1 h2
    simp [sizeLine_eq]
    refine ⟨n', _, _, _, rfl, ⟨a3, _, _, _, rfl, i3⟩, by omega, .inr rfl, by simp, by simp, fun r4 m4 hr4 hm4 => ?_⟩
    simp
    refine hK _ ⟨n' + 1, j + 1, _, _, _, rfl, hm4, ?_, by omega, by omega⟩
    simp at hr4
    rcases hr4 with rfl | rfl | rfl | rfl
    · exact good_tup hg
    · exact good_lst hg
    · exact good_dic hg
    · exact good_tup2 hg
end Lw

namespace Lw
open PySem PySem.Spec PyProof.Rows L2 Pl
open Classical
theorem p__law_made : ∀ ms Q Ex, φ__law_made ms Q Ex → ms.length = 1 ∧ w__law_made (ms ++ List.replicate (2 - 1) .un) { nx := fun e => Q (.frz .non) (padM e 1 1), rt := fun r e => Q r (padM e 1 1) } (fun c d _ => Ex c d) := by
  rintro ms Q Ex ⟨d, rfl, h⟩
  refine ⟨rfl, ?_⟩
  simp only [errs, List.map] at h
  simp [w__law_made, List.replicate, sizeLine_eq]
  exact h
theorem p__law_marks : ∀ ms Q Ex, φ__law_marks ms Q Ex → ms.length = 1 ∧ w__law_marks (ms ++ List.replicate (2 - 1) .un) { nx := fun e => Q (.frz .non) (padM e 1 1), rt := fun r e => Q r (padM e 1 1) } (fun c d _ => Ex c d) := by
  rintro ms Q Ex ⟨c, d, rfl, hc, h⟩
  refine ⟨rfl, ?_⟩
  simp only [errs, List.map] at h
  simp [w__law_marks, List.replicate, sizeLine_eq, hc]
  exact h
theorem marks_at : ∀ i, i < 44 → ∀ c, errs[i]? = some c → c ∈ excs ∧ errs.map (subX c) = (List.range 44).map (fun j => decide (j = i)) := by
  have key : (List.range 44).all (fun i => match errs[i]? with
    | some c => decide (c ∈ excs) && decide (errs.map (subX c) = (List.range 44).map (fun j => decide (j = i)))
    | none => true) = true := by decide +kernel
  intro i hi c hc
  have h := List.all_eq_true.mp key i (List.mem_range.mpr hi)
  rw [hc] at h
  simpa using h
theorem marks_none : errs.map (subX "DigError") = (List.range 44).map (fun _ => false) := by decide +kernel
theorem subX_dig (c : Str) : subX c "DigError" = true := by simp [subX]
end Lw

namespace Lw
open PySem PySem.Spec PyProof.Rows L2 Pl
open Classical
theorem p__law_right : ∀ ms Q Ex, φ__law_right ms Q Ex → ms.length = 1 ∧ w__law_right (ms ++ List.replicate (6 - 1) .un) { nx := fun e => Q (.frz .non) (padM e 1 1), rt := fun r e => Q r (padM e 1 1) } (fun c d _ => Ex c d) := by
  rintro ms Q Ex ⟨d, rfl, hg, h⟩
  refine ⟨rfl, ?_⟩
  obtain ⟨g1, g2, g3, g4, g5⟩ := hg
  have g6 : d.pdR.depth ≤ 60 := by omega
  have g7 : (reprD d).length ≤ sizeLine := by rw [sizeLine_eq]; omega
  simp [w__law_right, List.replicate, sizeLine_eq, g1, g2, g6, g7, g5]
  rw [sizeLine_eq] at g7
  refine ⟨g7, d, rfl, fun a => ?_⟩
  simp
  refine for_inv (fun ds e => ∃ (i : Nat) (x2 x3 : M), e = [.frz d, .frz (.str (reprD d)), x2, x3, .un, .un] ∧ i ≤ 44 ∧ ds = enumD i ((errs.drop i).map fun c => .exc c d)) ?_ ?_ _ _ ⟨0, .un, .un, rfl, by decide, rfl⟩
  · rintro e ⟨i, x2, x3, rfl, hi, _⟩
    simp [m_DigError]
    obtain ⟨bs, hb, ha⟩ : ∃ bs : List Bool, (errs.map fun t => D.bl (subX "DigError" t)) = bs.map D.bl ∧ bs.any id = false := ⟨errs.map (subX "DigError"), by rw [List.map_map]; rfl, by rw [marks_none]; decide⟩
    refine ⟨"DigError", d, rfl, m_DigError, fun p => ?_⟩
    rw [hb]
    simp [blsOf_map, ha, g1, g2, g6, g7, g5, sizeLine_eq, m_DigError]
    exact h
  · rintro x r e K ⟨i, x2, x3, rfl, hi, hds⟩ hK
    have hl : errs.length = 44 := by decide +kernel
    have hi2 : i < 44 := by
      refine Decidable.byContradiction fun hn => ?_
      rw [List.drop_eq_nil_of_le (by omega)] at hds
      simp [enumD] at hds
    have hd : errs.drop i = errs[i] :: errs.drop (i + 1) := List.drop_eq_getElem_cons (by omega)
    obtain ⟨hc, hm⟩ := marks_at i hi2 errs[i] (List.getElem?_eq_getElem (by omega))
    rw [hd] at hds
    generalize errs[i] = c at *
    simp only [List.map, enumD] at hds
    injection hds with h1 h2
    subst h1
    simp [hc, subX_dig, g1, g2, g6, g7, g5, sizeLine_eq]
    refine ⟨c, d, rfl, hc, fun p => ?_⟩
    have e1 : (errs.map fun t => D.bl (subX c t)) = (List.range 44).map fun j => D.bl (decide (j = i)) := by
      have := congrArg (List.map D.bl) hm
      rw [List.map_map, List.map_map] at this
      exact this
    rw [e1]
    simp
    refine lc_inv (fun ds acc e => ∃ j, j ≤ 44 ∧ ds = ((List.range 44).drop j).map (fun k => .int (0 + (k : Nat))) ∧ acc = (List.range j).map (fun k => D.bl (decide (k = i))) ∧ e = [M.frz d, M.frz (D.str (reprD d)), M.frz (D.int ↑i), M.frz (D.exc c d), M.un, M.un]) ?_ ?_ _ _ _ ⟨0, by decide, rfl, rfl, rfl⟩
    · rintro acc e ⟨j, hj, h3, rfl, rfl⟩
      have hj2 : j = 44 := by
        refine Decidable.byContradiction fun hn => ?_
        have hne : (List.range 44).drop j ≠ [] := by rw [Ne, List.drop_eq_nil_iff, List.length_range]; omega
        exact hne (List.map_eq_nil_iff.mp h3.symm)
      subst hj2
      simp
      refine ⟨.inl ?_, hK _ ⟨i + 1, _, _, rfl, by omega, h2⟩⟩
      simp [okD, okL_iff]
    · rintro x2 r2 acc e K2 ⟨j, hj, h3, rfl, rfl⟩ hK2
      have hj2 : j < 44 := by
        refine Decidable.byContradiction fun hn => ?_
        rw [List.drop_eq_nil_of_le (by rw [List.length_range]; omega)] at h3
        simp at h3
      have hd2 : (List.range 44).drop j = j :: (List.range 44).drop (j + 1) := by
        rw [List.drop_eq_getElem_cons (by rw [List.length_range]; omega), List.getElem_range]
      rw [hd2, List.map_cons] at h3
      injection h3 with h4 h5
      subst h4
      simp [sizeLine_eq]
      refine ⟨by omega, hK2 _ _ ⟨j + 1, by omega, h5, ?_, rfl⟩⟩
      rw [List.range_succ]
      simp
      omega
end Lw

namespace Lw
open PySem PySem.Spec PyProof.Rows L2 Pl
open Classical
theorem blsOf_rep (k : Nat) : blsOf (List.replicate k (D.bl true)) = some (List.replicate k true) := by
  rw [← blsOf_map, List.map_replicate]
theorem p_law : ∀ ms Q Ex, φ_law ms Q Ex → ms.length = 1 ∧ w_law (ms ++ List.replicate (4 - 1) .un) { nx := fun e => Q (.frz .non) (padM e 1 1), rt := fun r e => Q r (padM e 1 1) } (fun c d _ => Ex c d) := by
  rintro ms Q Ex ⟨ns, rfl, hl, h⟩
  refine ⟨rfl, ?_⟩
  simp [w_law, List.replicate, sizeLine_eq]
  refine ⟨ns, rfl, hl, fun a n h0 h1 => ?_⟩
  simp
  refine for_inv (fun ds e => ∃ (x1 x2 : M), e = [.frz (.scr ns), x1, x2, .un] ∧ ∀ d ∈ ds, ∃ i : Int, d = .int i ∧ 0 ≤ i ∧ i < 1000) ?_ ?_ _ _ ⟨.un, .un, rfl, fun d hd => ?_⟩
  · rintro e ⟨x1, x2, rfl, _⟩
    simp
    exact h
  · rintro d r e K ⟨x1, x2, rfl, hds⟩ hK
    obtain ⟨i, rfl, h3, h4⟩ := hds d List.mem_cons_self
    simp
    refine ⟨ns, i, rfl, h3, h4, hl, fun m hm => ?_⟩
    obtain ⟨a1, own1, mix1, cnt1, rfl, i1⟩ := hm
    simp
    refine lc_inv (fun ds acc e => ∃ (n k : Nat) (m : M), e = [.frz (.scr ns), .frz (.int i), m, .un] ∧ PotM n m ∧ 12 * ds.length + n ≤ 72 ∧ ds.length + k = 6 ∧ acc = List.replicate k (D.bl true)) ?_ ?_ _ _ _ ⟨0, 0, _, rfl, ⟨a1, _, _, _, rfl, i1⟩, by decide, by decide, rfl⟩
    · rintro acc e ⟨n, k, m, rfl, hm, _, _, rfl⟩
      simp [blsOf_rep]
      exact hK _ ⟨_, _, rfl, fun d hd => hds d (List.mem_cons_of_mem _ hd)⟩
    · rintro d2 r2 acc e K2 ⟨n, k, m, rfl, hm, h5, h6, rfl⟩ hK2
      obtain ⟨a3, own3, mix3, cnt3, rfl, i3⟩ := hm
      simp at h5 h6
      simp
      refine ⟨n, _, rfl, ⟨a3, _, _, _, rfl, i3⟩, by omega, fun v m4 hv hm4 => ?_⟩
      simp
      refine ⟨v, rfl, hv, ?_⟩
      simp [sizeLine_eq]
      refine ⟨by omega, hK2 _ _ ⟨n + 12, k + 1, m4, rfl, hm4, by omega, by omega, ?_⟩⟩
      rw [List.replicate_succ']
  · simp [rngD] at hd
    obtain ⟨j, h5, rfl⟩ := hd
    exact ⟨_, rfl, by omega, by omega⟩
theorem p__law_pot : ∀ ms Q Ex, φ__law_pot ms Q Ex → ms.length = 2 ∧ w__law_pot (ms ++ List.replicate (5 - 2) .un) { nx := fun e => Q (.frz .non) (padM e 2 2), rt := fun r e => Q r (padM e 2 2) } (fun c d _ => Ex c d) := by
  rintro ms Q Ex ⟨ns, p, rfl, h0, h1, hl, h⟩
  refine ⟨rfl, ?_⟩
  have sq : 0 ≤ 9029 * p * p ∧ 9029 * p * p ≤ 9029000000 := by
    have h2 : 9029 * p * p ≤ 9029 * p * 1000 := Int.mul_le_mul_of_nonneg_left (by omega) (by omega)
    exact ⟨Int.mul_nonneg (by omega) h0, by omega⟩
  have own : ∀ (A : Int) (B : Prop) [Decidable B], 0 ≤ A → A < 10 ^ 300 → CMulW A (if B then 1 else 0) ∧ 0 ≤ A * (if B then 1 else 0) ∧ A * (if B then 1 else 0) < 10 ^ 300 := by
    intro A B _ h3 h4
    refine ⟨mul_ok (a := 1000) (b := 2) (Nat.lt_of_lt_of_le (m := 10 ^ 300) (by omega) (by decide +kernel)) (by split <;> decide), ?_⟩
    split
    · rw [Int.mul_one]; exact ⟨h3, h4⟩
    · rw [Int.mul_zero]; exact ⟨by decide, by decide +kernel⟩
  have fin : ∀ (cell N : Int) (B : Prop) [Decidable B], N = 10 ^ 300 → CMulW ((if cell < 0 then -cell else cell) % N) (if B then 1 else 0) ∧ CMulW (cell % 2305843009213693951) 69997 ∧ CMulW 9029 p ∧ CMulW (9029 * p) p ∧
      ∀ q : Addr, Q (.lst q [.int ((if cell < 0 then -cell else cell) % N * if B then 1 else 0), .int ((cell % 2305843009213693951 * 69997 + 9029 * p * p + 733) % 2305843009213693921), .int 0]) [.frz (.scr ns), .frz (.int p)] := by
    intro cell N B _ hN
    subst hN
    have m1 := Int.emod_nonneg (if cell < 0 then -cell else cell) (show (10 : Int) ^ 300 ≠ 0 by decide +kernel)
    have m2 := Int.emod_lt_of_pos (if cell < 0 then -cell else cell) (show (0 : Int) < 10 ^ 300 by decide +kernel)
    obtain ⟨o1, o2, o3⟩ := own _ B m1 m2
    refine ⟨o1, mul_ok (a := 61) (b := 17) (by omega) (by decide), mul_ok (a := 14) (b := 10) (by decide) (by omega), mul_ok (a := 24) (b := 10) (by omega) (by omega), fun q => h _ ⟨q, _, _, _, rfl, o2, o3, Int.emod_nonneg _ (by decide), ?_, by decide, by decide⟩⟩
    have := Int.emod_lt_of_pos (cell % 2305843009213693951 * 69997 + 9029 * p * p + 733) (show (0 : Int) < 2305843009213693921 by decide)
    omega
  simp [w__law_pot, List.replicate, sizeLine_eq]
  split
  · rename_i hlt
    obtain ⟨c, hc, he⟩ := atI_mem (xs := ns) h0 hlt
    rw [he]
    simp [sizeLine_eq]
    exact ⟨⟨by decide, by decide +kernel⟩, ⟨by decide, by decide +kernel⟩, ⟨by decide, by decide +kernel⟩, fin c _ _ (by decide +kernel)⟩
  · exact ⟨mul_ok (a := 10) (b := 10) (by decide) (by omega), ⟨by decide, by decide +kernel⟩, ⟨by decide, by decide +kernel⟩, ⟨by decide, by decide +kernel⟩, fin _ _ _ (by decide +kernel)⟩
end Lw

namespace Lw
open PySem PySem.Spec PyProof.Rows L2 Pl

def d__law_pot : He.DefD := ⟨("_law_pot", none), "_law_pot", "_law_pot", defArgs (top 47), defBody (top 47), defScope (top 47), [], []⟩
def d__law_take : He.DefD := ⟨("_law_take", none), "_law_take", "_law_take", defArgs (top 48), defBody (top 48), defScope (top 48), [], []⟩
def d__law_of : He.DefD := ⟨("_law_of", none), "_law_of", "_law_of", defArgs (top 49), defBody (top 49), defScope (top 49), [], []⟩
def d__law_cells : He.DefD := ⟨("_law_cells", none), "_law_cells", "_law_cells", defArgs (top 50), defBody (top 50), defScope (top 50), [], []⟩
def d__law_odd : He.DefD := ⟨("_law_odd", none), "_law_odd", "_law_odd", defArgs (top 51), defBody (top 51), defScope (top 51), [], []⟩
def d__law_nested : He.DefD := ⟨("_law_nested", none), "_law_nested", "_law_nested", defArgs (top 52), defBody (top 52), defScope (top 52), [], []⟩
def d__law_made : He.DefD := ⟨("_law_made", none), "_law_made", "_law_made", defArgs (top 53), defBody (top 53), defScope (top 53), [], []⟩
def d__law_marks : He.DefD := ⟨("_law_marks", none), "_law_marks", "_law_marks", defArgs (top 54), defBody (top 54), defScope (top 54), [], []⟩
def d__law_right : He.DefD := ⟨("_law_right", none), "_law_right", "_law_right", defArgs (top 55), defBody (top 55), defScope (top 55), [], []⟩
def d_law : He.DefD := ⟨("law", none), "law", "law", defArgs (top 56), defBody (top 56), defScope (top 56), [], []⟩
def fn_0 : List He.DefD := [d__law_pot, d__law_take, d__law_of, d__law_cells, d__law_odd, d__law_nested, d__law_made, d__law_marks, d__law_right, d_law]
def fn : List He.DefD := fn_0
def fa_0 : List He.Fa := [.glo "DigError", .glo "BadBand", .glo "BadCores", .glo "BadDeed", .glo "BadDig", .glo "BadDigs", .glo "BadFace", .glo "BadJournal", .glo "BadLabs", .glo "BadLetters", .glo "BadLikes", .glo "BadLine", .glo "BadLot", .glo "BadLots", .glo "BadNotes", .glo "BadNumber", .glo "BadPair", .glo "BadQuestion", .glo "BadRow", .glo "BadRows", .glo "BadStructures", .glo "BadUnit", .glo "BadYears", .glo "Clash", .glo "Full", .glo "Growing", .glo "Known", .glo "Late", .glo "NoBook", .glo "NoDig"]
def fa_1 : List He.Fa := [.glo "NoLike", .glo "NoNote", .glo "NoTrial", .glo "NotSure", .glo "NothingToRedo", .glo "NothingToUndo", .glo "TooMany", .glo "Turning", .glo "Unlike", .glo "Unsure", .glo "BadSequence", .glo "NoPair", .glo "BadDoubts", .glo "NeverSo", .glo "BadPulls", .glo "_law_pot", .glo "_law_take", .glo "_law_of", .glo "_law_cells", .glo "_law_odd", .glo "_law_nested", .glo "_law_made", .glo "_law_marks", .glo "_law_right", .glo "law", .free "ValueError", .free "abs", .free "all", .free "any", .free "enumerate"]
def fa_2 : List He.Fa := [.free "int", .free "isinstance", .free "len", .free "list", .free "max", .free "min", .free "range", .free "repr"]
def fa : List He.Fa := fa_0 ++ fa_1 ++ fa_2
def names_0 : List PySem.Str := ["DigError", "BadBand", "BadCores", "BadDeed", "BadDig", "BadDigs", "BadFace", "BadJournal", "BadLabs", "BadLetters", "BadLikes", "BadLine", "BadLot", "BadLots", "BadNotes", "BadNumber", "BadPair", "BadQuestion", "BadRow", "BadRows", "BadStructures", "BadUnit", "BadYears", "Clash", "Full", "Growing", "Known", "Late", "NoBook", "NoDig"]
def names_1 : List PySem.Str := ["NoLike", "NoNote", "NoTrial", "NotSure", "NothingToRedo", "NothingToUndo", "TooMany", "Turning", "Unlike", "Unsure", "BadSequence", "NoPair", "BadDoubts", "NeverSo", "BadPulls", "_law_pot", "_law_take", "_law_of", "_law_cells", "_law_odd", "_law_nested", "_law_made", "_law_marks", "_law_right"]
def names : List PySem.Str := names_0 ++ names_1
def sInit : Stmt := match top 1 with
  | .ClassDef _ _ _ b _ _ _ _ _ _ _ => b.getD 0 (.Pass ⟨0, 0, 0, 0⟩)
  | _ => .Pass ⟨0, 0, 0, 0⟩
def qInit : Str := "DigError.__init__"
def fx : FnX := some ("__init__", qInit, defArgs sInit, .stmts (defBody sInit), defScope sInit, mainGlobals, builtinsNs)
abbrev R : PySem.W.OpenRow := PySem.W.OpenLaw.row PySem.Challenge.rw_laidbefore_k00_each_error_by_itself
def ex (K : Fr) : Bool := allB excs R.prog.main.file qInit K
abbrev hk : PySem.W.Hook := hookX 5 fa fn ex fx
def ob (s : PySem.W.SharedT) : AlX := obsXG 5 fa fn ex (HandSHeadRun.getT s)
theorem ob_eq (s : PySem.W.SharedT) : ob s = hk.obs s.abs := obsXG_eq (HandSHeadRun.getT_eq s)
theorem run (w : World) : HandSHeadRun.RunEq R (PySem.W.view R.prog [56]) hk ob 40000 names w := by
  intro os
  kernel_rfl
end Lw

namespace Lw
open PySem PySem.Spec PyProof.Rows L2 Pl
open Classical
theorem excs_fa : ∀ c ∈ excs, He.Fa.glo c ∈ fa := by
  have e : fa.take 45 = excs.map .glo := by rfl
  intro c hc
  exact List.mem_of_mem_take (i := 45) (by rw [e]; exact List.mem_map_of_mem hc)
theorem init_body : ∃ p0 p1 p2 p3 p4 p5 p6 p7 p8 p9, defBody sInit = [.Expr (.Call (.Attribute (.Call (.Name "super" p0) [] [] p1) "__init__" p2) [.Name "value" p3] [] p4) p5, .Assign [.Attribute (.Name "self" p6) "value" p7] (.Name "value" p8) p9] ∧ ∀ env : PySem.Env, ∃ pl : Sem Bool, eval (.Call (.Attribute (.Call (.Name "super" p0) [] [] p1) "__init__" p2) [.Name "value" p3] [] p4) env = (do
      let ov ← attributeBase (.Call (.Name "super" p0) [] [] p1) "__init__" env (eval (.Call (.Name "super" p0) [] [] p1) env)
      standAt p2.atName
      let (f, first) ← holding [ov] (getMethod ov "__init__" pl)
      callWith p4 f first (backTo p4 (starEach [.Name "value" p3] env)) []) :=
  ⟨_, _, _, _, _, _, _, _, _, _, rfl, fun env => ⟨_, rfl⟩⟩
section
variable {w : World} {K : Fr} {mg : Str → Option Value} {h bs : Heap}
theorem ef_of (c : He.SaysD fa fn K) (hx : ex K = true) (hf : fnXo K (He.ma K (He.ga K "DigError") "__init__") = fx) : ExF R.prog K (He.ga K "DigError") (He.ma K (He.ga K "DigError") "__init__") := by
  have hx2 := hx
  simp only [ex, Pl.allB, Bool.and_eq_true, decide_eq_true_eq, List.all_eq_true] at hx2
  obtain ⟨_, h2, h3, _, _, _, h7, h8⟩ := hx2
  exact exF_of hf h2 init_body ⟨_, rfl, rfl⟩ (fun _ _ _ _ _ _ _ _ _ => rfl) ⟨rfl, rfl, rfl, by decide +kernel, by decide +kernel, by decide +kernel, by decide +kernel, by decide +kernel⟩ (cls_of (exCB_ok (h3 _ m_DigError).1).sub) (He.eqO_ok h7) (He.eqO_ok h8) (by decide +kernel)
theorem glob (KX : K.In h) (G : h.Ns mainGlobals mg) (kb : K.In bs) (c : He.SaysD fa fn K) (hx : ex K = true) (hf : fnXo K (He.ma K (He.ga K "DigError") "__init__") = fx) : Glob ⟨R.prog, w, K, mg, bs⟩ where
  n_ValueError := He.free_ok KX G (c.fact 55 (f := .free "ValueError") rfl)
  n_abs := He.free_ok KX G (c.fact 56 (f := .free "abs") rfl)
  n_all := He.free_ok KX G (c.fact 57 (f := .free "all") rfl)
  n_any := He.free_ok KX G (c.fact 58 (f := .free "any") rfl)
  n_enumerate := He.free_ok KX G (c.fact 59 (f := .free "enumerate") rfl)
  n_int := He.free_ok KX G (c.fact 60 (f := .free "int") rfl)
  n_isinstance := He.free_ok KX G (c.fact 61 (f := .free "isinstance") rfl)
  n_len := He.free_ok KX G (c.fact 62 (f := .free "len") rfl)
  n_list := He.free_ok KX G (c.fact 63 (f := .free "list") rfl)
  n_max := He.free_ok KX G (c.fact 64 (f := .free "max") rfl)
  n_min := He.free_ok KX G (c.fact 65 (f := .free "min") rfl)
  n_range := He.free_ok KX G (c.fact 66 (f := .free "range") rfl)
  n_repr := He.free_ok KX G (c.fact 67 (f := .free "repr") rfl)
  f__law_take := He.glo_ok KX G (c.fact 46 (f := .glo "_law_take") rfl)
  f__law_of := He.glo_ok KX G (c.fact 47 (f := .glo "_law_of") rfl)
  f__law_odd := He.glo_ok KX G (c.fact 49 (f := .glo "_law_odd") rfl)
  f__law_marks := He.glo_ok KX G (c.fact 52 (f := .glo "_law_marks") rfl)
  f__law_made := He.glo_ok KX G (c.fact 51 (f := .glo "_law_made") rfl)
  f__law_cells := He.glo_ok KX G (c.fact 48 (f := .glo "_law_cells") rfl)
  f__law_right := He.glo_ok KX G (c.fact 53 (f := .glo "_law_right") rfl)
  f__law_nested := He.glo_ok KX G (c.fact 50 (f := .glo "_law_nested") rfl)
  f__law_pot := He.glo_ok KX G (c.fact 45 (f := .glo "_law_pot") rfl)
  ex := exAll_of hx (ef_of c hx hf) fun x hc => He.glo_ok KX G (all_fact c (excs_fa x hc))
  sys := sys_of kb (by
    simp only [ex, Pl.allB, Bool.and_eq_true] at hx
    exact hx.1)
end
theorem sc__law_pot : FnScope N__law_pot ["script", "place"] (defScope (top 47)) := ⟨rfl, rfl, rfl, by decide +kernel, rfl, by decide +kernel, by decide +kernel⟩
theorem sc__law_take : FnScope N__law_take ["pot", "upto"] (defScope (top 48)) := ⟨rfl, rfl, rfl, by decide +kernel, rfl, by decide +kernel, by decide +kernel⟩
theorem sc__law_of : FnScope N__law_of ["pot", "some"] (defScope (top 49)) := ⟨rfl, rfl, rfl, by decide +kernel, rfl, by decide +kernel, by decide +kernel⟩
theorem sc__law_cells : FnScope N__law_cells ["script", "limit"] (defScope (top 50)) := ⟨rfl, rfl, rfl, by decide +kernel, rfl, by decide +kernel, by decide +kernel⟩
theorem sc__law_odd : FnScope N__law_odd ["pot"] (defScope (top 51)) := ⟨rfl, rfl, rfl, by decide +kernel, rfl, by decide +kernel, by decide +kernel⟩
theorem sc__law_nested : FnScope N__law_nested ["pot"] (defScope (top 52)) := ⟨rfl, rfl, rfl, by decide +kernel, rfl, by decide +kernel, by decide +kernel⟩
theorem sc__law_made : FnScope N__law_made ["value"] (defScope (top 53)) := ⟨rfl, rfl, rfl, by decide +kernel, rfl, by decide +kernel, by decide +kernel⟩
theorem sc__law_marks : FnScope N__law_marks ["error"] (defScope (top 54)) := ⟨rfl, rfl, rfl, by decide +kernel, rfl, by decide +kernel, by decide +kernel⟩
theorem sc__law_right : FnScope N__law_right ["value"] (defScope (top 55)) := ⟨rfl, rfl, rfl, by decide +kernel, rfl, by decide +kernel, by decide +kernel⟩
theorem sc_law : FnScope N_law ["script"] (defScope (top 56)) := ⟨rfl, rfl, rfl, by decide +kernel, rfl, by decide +kernel, by decide +kernel⟩
theorem facts {w : World} {K : Fr} {mg : Str → Option Value} {h : Heap} {f : Addr} (KX : K.In h) (G : h.Ns mainGlobals mg) (hfa : mg ("law" : Str) = some (.ref f)) (c : He.SaysD fa fn K) (hx : ex K = true) (hf : fnXo K (He.ma K (He.ga K "DigError") "__init__") = fx) :
    ∃ fd : FuncData, (∀ (s : Shared) (u : Value), BindsTo s fd ⟨[u], []⟩ [("script", u)]) ∧ ∀ bs : Heap, K.In bs → bs.Ns mainGlobals mg → FnQ ⟨R.prog, w, K, mg, bs⟩ 7 f fd ["script"] (spOf K 1 φ_law) := by
  have e := hfa.symm.trans (He.glo_ok KX G (c.fact 54 (f := .glo "law") rfl))
  cases e
  obtain ⟨fd__law_pot, D__law_pot⟩ := c.def_ 0 (d := d__law_pot) rfl
  obtain ⟨fd__law_take, D__law_take⟩ := c.def_ 1 (d := d__law_take) rfl
  obtain ⟨fd__law_of, D__law_of⟩ := c.def_ 2 (d := d__law_of) rfl
  obtain ⟨fd__law_cells, D__law_cells⟩ := c.def_ 3 (d := d__law_cells) rfl
  obtain ⟨fd__law_odd, D__law_odd⟩ := c.def_ 4 (d := d__law_odd) rfl
  obtain ⟨fd__law_nested, D__law_nested⟩ := c.def_ 5 (d := d__law_nested) rfl
  obtain ⟨fd__law_made, D__law_made⟩ := c.def_ 6 (d := d__law_made) rfl
  obtain ⟨fd__law_marks, D__law_marks⟩ := c.def_ 7 (d := d__law_marks) rfl
  obtain ⟨fd__law_right, D__law_right⟩ := c.def_ 8 (d := d__law_right) rfl
  obtain ⟨fd_law, D_law⟩ := c.def_ 9 (d := d_law) rfl
  have bd := FunD.bindsA (ps := ["script"]) D_law fun _ _ _ _ _ _ us hl => match us, hl with | [_], _ => rfl
  refine ⟨fd_law, fun s v => bd s [v] rfl, fun bs kb nb => ?_⟩
  have Gl : Glob ⟨R.prog, w, K, mg, bs⟩ := glob KX G kb c hx hf
  have F__law_pot : FnB ⟨R.prog, w, K, mg, bs⟩ 1 (He.ga K "_law_pot") 2 φ__law_pot := fn_b D__law_pot sc__law_pot rfl (by decide) (D__law_pot.bindsN fun _ _ _ _ _ _ us hl => match us, hl with | [_, _], _ => rfl) (fun X W c => b__law_pot Gl  (gd := false) c) p__law_pot
  have F__law_take : FnB ⟨R.prog, w, K, mg, bs⟩ 1 (He.ga K "_law_take") 2 φ__law_take := fn_b D__law_take sc__law_take rfl (by decide) (D__law_take.bindsN fun _ _ _ _ _ _ us hl => match us, hl with | [_, _], _ => rfl) (fun X W c => b__law_take Gl  (gd := false) c) p__law_take
  have F__law_of : FnB ⟨R.prog, w, K, mg, bs⟩ 2 (He.ga K "_law_of") 2 φ__law_of := fn_b D__law_of sc__law_of rfl (by decide) (D__law_of.bindsN fun _ _ _ _ _ _ us hl => match us, hl with | [_, _], _ => rfl) (fun X W c => b__law_of Gl F__law_take (gd := false) c) p__law_of
  have F__law_cells : FnB ⟨R.prog, w, K, mg, bs⟩ 1 (He.ga K "_law_cells") 2 φ__law_cells := fn_b D__law_cells sc__law_cells rfl (by decide) (D__law_cells.bindsN fun _ _ _ _ _ _ us hl => match us, hl with | [_, _], _ => rfl) (fun X W c => b__law_cells Gl  (gd := false) c) p__law_cells
  have F__law_odd : FnB ⟨R.prog, w, K, mg, bs⟩ 3 (He.ga K "_law_odd") 1 φ__law_odd := fn_b D__law_odd sc__law_odd rfl (by decide) (D__law_odd.bindsN fun _ _ _ _ _ _ us hl => match us, hl with | [_], _ => rfl) (fun X W c => b__law_odd Gl F__law_of (gd := false) c) p__law_odd
  have F__law_nested : FnB ⟨R.prog, w, K, mg, bs⟩ 4 (He.ga K "_law_nested") 1 φ__law_nested := fn_b D__law_nested sc__law_nested rfl (by decide) (D__law_nested.bindsN fun _ _ _ _ _ _ us hl => match us, hl with | [_], _ => rfl) (fun X W c => b__law_nested Gl F__law_of F__law_odd (gd := false) c) p__law_nested
  have F__law_made : FnB ⟨R.prog, w, K, mg, bs⟩ 5 (He.ga K "_law_made") 1 φ__law_made := fn_b D__law_made sc__law_made rfl (by decide) (D__law_made.bindsN fun _ _ _ _ _ _ us hl => match us, hl with | [_], _ => rfl) (fun X W c => b__law_made Gl  (gd := false) c) p__law_made
  have F__law_marks : FnB ⟨R.prog, w, K, mg, bs⟩ 1 (He.ga K "_law_marks") 1 φ__law_marks := fn_b D__law_marks sc__law_marks rfl (by decide) (D__law_marks.bindsN fun _ _ _ _ _ _ us hl => match us, hl with | [_], _ => rfl) (fun X W c => b__law_marks Gl  (gd := false) c) p__law_marks
  have F__law_right : FnG ⟨R.prog, w, K, mg, bs⟩ 6 (He.ga K "_law_right") 1 φ__law_right := fn_g D__law_right sc__law_right rfl (by decide) (D__law_right.bindsN fun _ _ _ _ _ _ us hl => match us, hl with | [_], _ => rfl) (fun X W c => b__law_right Gl F__law_marks F__law_made (gd := true) c) p__law_right
  exact fn_q D_law sc_law rfl (by decide) (fun X W c => b_law Gl F__law_cells F__law_right F__law_nested F__law_pot (gd := true) c) p_law
end Lw
open PySem PySem.W PySem.Calls PyProof.Rows
theorem PySem.Challenge.cw_laidbefore_k00_each_error_by_itself_holds : PySem.Challenge.rw_laidbefore_k00_each_error_by_itself.Holds := by
  w_on; o_law
  refine HandSHeadRun.head_any (r := OpenLaw.row PySem.Challenge.rw_laidbefore_k00_each_error_by_itself) (q := view (OpenLaw.row PySem.Challenge.rw_laidbefore_k00_each_error_by_itself).prog [56]) (H := Lw.hk) (ob := Lw.ob) (M := 40000) (loose := Lw.names) (d := HandSHeadRun.topDef (OpenLaw.row PySem.Challenge.rw_laidbefore_k00_each_error_by_itself).prog 56) (kwd := []) Lw.ob_eq
    (by kernel_rfl) (fun s => by kernel_rfl) Lw.run (by kernel_rfl) (by kernel_rfl) (by kernel_rfl) (by rfl) (by first | assumption | decide +kernel) (by decide +kernel) ⟨rfl, rfl, rfl, rfl, rfl, by decide +kernel⟩ ?hw ?hc
  case hw => w_witness2
  case hc =>
    refine Pl.walk_q (l := PySem.Challenge.rw_laidbefore_k00_each_error_by_itself) (n := 63) (k := 7) (x := "script") (φ := Lw.φ_law) rfl (by decide) (by kernel_rfl) ⟨rfl, by decide, by decide⟩ ?F (fun ns hl => ⟨ns, rfl, by omega, rfl⟩)
    intro w mg fa h Y G hmg0
    obtain ⟨K, KX, c, hx, hf⟩ := Y
    have hmg : mg ("law" : PySem.Str) = some (.ref fa) := by
      have e : (HandSHeadRun.topDef (OpenLaw.row PySem.Challenge.rw_laidbefore_k00_each_error_by_itself).prog 56).name = ("law" : PySem.Str) := by kernel_rfl
      rw [← e]
      exact hmg0
    obtain ⟨fd, hb, hF⟩ := Lw.facts (w := w) KX G hmg c hx hf
    exact ⟨K, fd, KX, hb, hF⟩
